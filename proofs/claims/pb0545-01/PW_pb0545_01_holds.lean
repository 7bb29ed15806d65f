import PyProof.Rows.All
import Wide.All
import OpenK.AllK
import Wide.FinOn
import PySem.Challenge.RW_pb0545_01
open PySem PySem.W PyProof.Rows
set_option Elab.async false
set_option maxRecDepth 100000
set_option compiler.extract_closed false
namespace Mine
local macro_rules | `(tactic| o_head $H) => `(tactic| (refine (fun (_ : PySem.W.Hook) => ?_) $H; assumption))
theorem hd (h : PySem.Challenge.rw_pb0545_01.row.Holds) : PySem.Challenge.rw_pb0545_01.row.Holds := by k_head
end Mine
open PySem.Calls PySem.Spec
set_option compiler.extract_closed false
namespace Mine
section
set_option maxHeartbeats 8000000
noncomputable def asK : List Addr := [2, 3, 15, 22, 24, 25, 27, 28, 29, 30, 31, 32, 35, 42, 43, 44, 47, 54, 55, 56, 66, 68, 69, 71, 72, 73, 75, 76, 78, 79, 80, 81, 82, 83, 84, 94, 96, 97, 99, 100, 101, 102, 104, 105, 107, 108, 109, 111, 112, 114, 115, 116, 118, 119, 121, 122, 123, 126, 127, 128, 130, 131, 133, 134, 135, 138, 139, 140, 142, 143, 145, 146, 147, 149, 150, 152, 153, 154, 156, 157, 159, 160, 161, 163, 164, 166, 167, 168, 170, 171, 173, 174, 175, 177, 178, 180, 181, 182, 183, 184, 185, 186, 196, 198, 199, 201, 202, 203, 206, 207, 208, 210, 211, 213, 214, 215, 216, 217, 218, 219, 222, 224, 225, 227, 228, 229, 231, 232, 234, 235, 236, 238, 239, 241, 242, 243, 245, 246, 248, 249, 250, 252, 253, 255, 256, 257, 259, 260, 262, 263, 264, 267, 268, 269, 271, 272, 274, 275, 276, 278, 279, 281, 282, 283, 286, 287, 288, 291, 292, 293, 296, 297, 298, 301, 302, 303, 305, 306, 308, 309, 310, 313, 314]
theorem asE (P : Params) : asK = (hd.heap_1 P).map (·.1) := by kernel_rfl
noncomputable def qv : Program := view PySem.Challenge.pw_pb0545_01 [1, 2, 3, 5, 6, 7, 8, 9, 11, 12, 13, 14, 15, 16, 17, 18, 19, 20, 21, 22, 23]
noncomputable abbrev xt (s : Shared) : Bool := xlAt qv [] s && recOk (RowW.records PySem.Challenge.rw_pb0545_01.row.toRowW) s
noncomputable def fo (P : Params) (a : Nat) : Obj := ((hd.heap_1 P).lookup a).getD (boot_o_0 P)
noncomputable def fd (P : Params) (a : Nat) : FuncData := match (fo P a).data with | .func f => f | _ => default
noncomputable def ex (P : Params) (a : Nat) : Obj := (List.lookup a [(11, { cls := Value.type "tuple", data := Data.seq #[] }), (12, { cls := Value.none, data := Data.fields #[Value.int 2 0, Value.int 0 0, Value.ref 20, Value.int 7 0, Value.int 0 0, Value.ref 40, Value.int 9 0, Value.int 0 0, Value.ref 52, Value.int 12 0, Value.int 0 0, Value.ref 64, Value.int 22 0, Value.int 0 0, Value.ref 92, Value.int 103 0, Value.int 0 0, Value.ref 194, Value.int 115 0, Value.int 0 0, Value.ref 227, Value.int 117 0, Value.int 0 0, Value.ref 234, Value.int 127 0, Value.int 0 0, Value.ref 241, Value.int 134 0, Value.int 0 0, Value.ref 248, Value.int 141 0, Value.int 0 0, Value.ref 255, Value.int 143 0, Value.int 0 0, Value.ref 262, Value.int 149 0, Value.int 0 0, Value.ref 267, Value.int 162 0, Value.int 0 0, Value.ref 274, Value.int 167 0, Value.int 0 0, Value.ref 281, Value.int 173 0, Value.int 0 0, Value.ref 286, Value.int 177 0, Value.int 0 0, Value.ref 291, Value.int 185 0, Value.int 0 0, Value.ref 296, Value.int 197 0, Value.int 0 0, Value.ref 301, Value.int 206 0, Value.int 0 0, Value.ref 308, Value.int 214 0, Value.int 0 0, Value.ref 313] }), (13, { cls := Value.type "code", data := Data.fields #[Value.str (Str.ofString "<module>") 182, Value.str (Str.ofString "<module>") 183, Value.str (Str.ofString "/claim/cut.py") 184, Value.int 1 0, Value.int 0 0, Value.int 0 0, Value.int 0 0, Value.int 0 0, Value.ref 11, Value.bool false, Value.int 181 0, Value.ref 12, Value.none, Value.none, Value.none, Value.none, Value.int 185 0, Value.int 1 0, Value.str (Str.ofString "/claim/cut.py") 186] }), (14, { cls := Value.type "frame", slots := #[some (Value.ref 13), some (Value.ref 3), some (Value.ref 3), none, some (Value.str (Str.ofString "__main__") 164), none, some (Value.ref 0)] }), (16, { cls := Value.type "builtin_function_or_method", data := Data.fields #[Value.builtin "type.__prepare__", Value.type "type"] }), (17, { cls := Value.type "dict", data := Data.dict #[{ hash := PyData.keyHash P (Str.ofString "__module__"), key := Value.str (Str.ofString "__module__") 196, val := Value.str (Str.ofString "switchloom.errors") 187 }, { hash := PyData.keyHash P (Str.ofString "__qualname__"), key := Value.str (Str.ofString "__qualname__") 198, val := Value.str (Str.ofString "SwitchError") 197 }, { hash := PyData.keyHash P (Str.ofString "__firstlineno__"), key := Value.str (Str.ofString "__firstlineno__") 200, val := Value.int 2 199 }, { hash := PyData.keyHash P (Str.ofString "__init__"), key := Value.str (Str.ofString "__init__") 208, val := Value.ref 28 }, { hash := PyData.keyHash P (Str.ofString "__static_attributes__"), key := Value.str (Str.ofString "__static_attributes__") 210, val := Value.ref 29 }] 5 }), (18, { cls := Value.type "tuple", data := Data.seq #[] }), (19, { cls := Value.none, data := Data.fields #[Value.int 4 0, Value.int 4 0, Value.ref 27] }), (20, { cls := Value.type "code", data := Data.fields #[Value.str (Str.ofString "SwitchError") 191, Value.str (Str.ofString "SwitchError") 192, Value.str (Str.ofString "/claim/cut.py") 193, Value.int 2 0, Value.int 0 0, Value.int 0 0, Value.int 0 0, Value.int 0 0, Value.ref 18, Value.bool false, Value.int 181 0, Value.ref 19, Value.none, Value.none, Value.none, Value.none, Value.int 194 0, Value.int 2 0, Value.str (Str.ofString "/claim/cut.py") 195] }), (21, { cls := Value.type "frame", slots := #[some (Value.ref 20), some (Value.ref 3), some (Value.ref 17), none, some (Value.str (Str.ofString "switchloom.errors") 187), none, some (Value.ref 0)] }), (23, { cls := Value.none, data := Data.fields #[] }), (26, { cls := Value.none, data := Data.func { fd P 28 with globals := 0, closure := [], defaults := Value.none, kwdefaults := Value.none, doc := Value.none, pyModule := Value.none, annotations := none, code := Value.none, closureTuple := Value.none, builtins := 0 } }), (33, { cls := Value.type "super", data := Data.fields #[Value.ref 31, Value.ref 31, Value.ref 31] }), (34, { cls := Value.type "builtin_function_or_method", data := Data.fields #[Value.builtin "object.__init_subclass__", Value.ref 31] }), (36, { cls := Value.type "builtin_function_or_method", data := Data.fields #[Value.builtin "type.__prepare__", Value.type "type"] }), (37, { cls := Value.type "dict", data := Data.dict #[{ hash := PyData.keyHash P (Str.ofString "__module__"), key := Value.str (Str.ofString "__module__") 225, val := Value.str (Str.ofString "switchloom.errors") 187 }, { hash := PyData.keyHash P (Str.ofString "__qualname__"), key := Value.str (Str.ofString "__qualname__") 227, val := Value.str (Str.ofString "TableError") 226 }, { hash := PyData.keyHash P (Str.ofString "__firstlineno__"), key := Value.str (Str.ofString "__firstlineno__") 229, val := Value.int 7 228 }, { hash := PyData.keyHash P (Str.ofString "__static_attributes__"), key := Value.str (Str.ofString "__static_attributes__") 230, val := Value.ref 42 }] 4 }), (38, { cls := Value.type "tuple", data := Data.seq #[] }), (39, { cls := Value.none, data := Data.fields #[] }), (40, { cls := Value.type "code", data := Data.fields #[Value.str (Str.ofString "TableError") 220, Value.str (Str.ofString "TableError") 221, Value.str (Str.ofString "/claim/cut.py") 222, Value.int 7 0, Value.int 0 0, Value.int 0 0, Value.int 0 0, Value.int 0 0, Value.ref 38, Value.bool false, Value.int 181 0, Value.ref 39, Value.none, Value.none, Value.none, Value.none, Value.int 223 0, Value.int 7 0, Value.str (Str.ofString "/claim/cut.py") 224] }), (41, { cls := Value.type "frame", slots := #[some (Value.ref 40), some (Value.ref 3), some (Value.ref 37), none, some (Value.str (Str.ofString "switchloom.errors") 187), none, some (Value.ref 0)] }), (45, { cls := Value.type "super", data := Data.fields #[Value.ref 44, Value.ref 44, Value.ref 44] }), (46, { cls := Value.type "builtin_function_or_method", data := Data.fields #[Value.builtin "object.__init_subclass__", Value.ref 44] }), (48, { cls := Value.type "builtin_function_or_method", data := Data.fields #[Value.builtin "type.__prepare__", Value.type "type"] }), (49, { cls := Value.type "dict", data := Data.dict #[{ hash := PyData.keyHash P (Str.ofString "__module__"), key := Value.str (Str.ofString "__module__") 241, val := Value.str (Str.ofString "switchloom.errors") 187 }, { hash := PyData.keyHash P (Str.ofString "__qualname__"), key := Value.str (Str.ofString "__qualname__") 243, val := Value.str (Str.ofString "StateError") 242 }, { hash := PyData.keyHash P (Str.ofString "__firstlineno__"), key := Value.str (Str.ofString "__firstlineno__") 245, val := Value.int 9 244 }, { hash := PyData.keyHash P (Str.ofString "__static_attributes__"), key := Value.str (Str.ofString "__static_attributes__") 246, val := Value.ref 54 }] 4 }), (50, { cls := Value.type "tuple", data := Data.seq #[] }), (51, { cls := Value.none, data := Data.fields #[] }), (52, { cls := Value.type "code", data := Data.fields #[Value.str (Str.ofString "StateError") 236, Value.str (Str.ofString "StateError") 237, Value.str (Str.ofString "/claim/cut.py") 238, Value.int 9 0, Value.int 0 0, Value.int 0 0, Value.int 0 0, Value.int 0 0, Value.ref 50, Value.bool false, Value.int 181 0, Value.ref 51, Value.none, Value.none, Value.none, Value.none, Value.int 239 0, Value.int 9 0, Value.str (Str.ofString "/claim/cut.py") 240] }), (53, { cls := Value.type "frame", slots := #[some (Value.ref 52), some (Value.ref 3), some (Value.ref 49), none, some (Value.str (Str.ofString "switchloom.errors") 187), none, some (Value.ref 0)] }), (57, { cls := Value.type "super", data := Data.fields #[Value.ref 56, Value.ref 56, Value.ref 56] }), (58, { cls := Value.type "builtin_function_or_method", data := Data.fields #[Value.builtin "object.__init_subclass__", Value.ref 56] }), (59, { cls := Value.type "tuple", data := Data.seq #[] }), (60, { cls := Value.type "builtin_function_or_method", data := Data.fields #[Value.builtin "type.__prepare__", Value.type "type"] }), (61, { cls := Value.type "dict", data := Data.dict #[{ hash := PyData.keyHash P (Str.ofString "__module__"), key := Value.str (Str.ofString "__module__") 259, val := Value.str (Str.ofString "switchloom.wires") 250 }, { hash := PyData.keyHash P (Str.ofString "__qualname__"), key := Value.str (Str.ofString "__qualname__") 261, val := Value.str (Str.ofString "Wire") 260 }, { hash := PyData.keyHash P (Str.ofString "__firstlineno__"), key := Value.str (Str.ofString "__firstlineno__") 263, val := Value.int 12 262 }, { hash := PyData.keyHash P (Str.ofString "__init__"), key := Value.str (Str.ofString "__init__") 273, val := Value.ref 72 }, { hash := PyData.keyHash P (Str.ofString "across"), key := Value.str (Str.ofString "across") 281, val := Value.ref 79 }, { hash := PyData.keyHash P (Str.ofString "__static_attributes__"), key := Value.str (Str.ofString "__static_attributes__") 286, val := Value.ref 80 }] 6 }), (62, { cls := Value.type "tuple", data := Data.seq #[] }), (63, { cls := Value.none, data := Data.fields #[Value.int 14 0, Value.int 4 0, Value.ref 71, Value.int 20 0, Value.int 4 0, Value.ref 78] }), (64, { cls := Value.type "code", data := Data.fields #[Value.str (Str.ofString "Wire") 254, Value.str (Str.ofString "Wire") 255, Value.str (Str.ofString "/claim/cut.py") 256, Value.int 12 0, Value.int 0 0, Value.int 0 0, Value.int 0 0, Value.int 0 0, Value.ref 62, Value.bool false, Value.int 181 0, Value.ref 63, Value.none, Value.none, Value.none, Value.none, Value.int 257 0, Value.int 12 0, Value.str (Str.ofString "/claim/cut.py") 258] }), (65, { cls := Value.type "frame", slots := #[some (Value.ref 64), some (Value.ref 3), some (Value.ref 61), none, some (Value.str (Str.ofString "switchloom.wires") 250), none, some (Value.ref 0)] }), (67, { cls := Value.none, data := Data.fields #[] }), (70, { cls := Value.none, data := Data.func { fd P 72 with globals := 0, closure := [], defaults := Value.none, kwdefaults := Value.none, doc := Value.none, pyModule := Value.none, annotations := none, code := Value.none, closureTuple := Value.none, builtins := 0 } }), (74, { cls := Value.none, data := Data.fields #[] }), (77, { cls := Value.none, data := Data.func { fd P 79 with globals := 0, closure := [], defaults := Value.none, kwdefaults := Value.none, doc := Value.none, pyModule := Value.none, annotations := none, code := Value.none, closureTuple := Value.none, builtins := 0 } }), (85, { cls := Value.type "super", data := Data.fields #[Value.ref 82, Value.ref 82, Value.ref 82] }), (86, { cls := Value.type "builtin_function_or_method", data := Data.fields #[Value.builtin "object.__init_subclass__", Value.ref 82] }), (87, { cls := Value.type "tuple", data := Data.seq #[] }), (88, { cls := Value.type "builtin_function_or_method", data := Data.fields #[Value.builtin "type.__prepare__", Value.type "type"] }), (89, { cls := Value.type "dict", data := Data.dict #[{ hash := PyData.keyHash P (Str.ofString "__module__"), key := Value.str (Str.ofString "__module__") 301, val := Value.str (Str.ofString "switchloom.wires") 250 }, { hash := PyData.keyHash P (Str.ofString "__qualname__"), key := Value.str (Str.ofString "__qualname__") 303, val := Value.str (Str.ofString "Wires") 302 }, { hash := PyData.keyHash P (Str.ofString "__firstlineno__"), key := Value.str (Str.ofString "__firstlineno__") 305, val := Value.int 22 304 }, { hash := PyData.keyHash P (Str.ofString "__init__"), key := Value.str (Str.ofString "__init__") 312, val := Value.ref 100 }, { hash := PyData.keyHash P (Str.ofString "join"), key := Value.str (Str.ofString "join") 324, val := Value.ref 108 }, { hash := PyData.keyHash P (Str.ofString "wire"), key := Value.str (Str.ofString "wire") 332, val := Value.ref 115 }, { hash := PyData.keyHash P (Str.ofString "ends"), key := Value.str (Str.ofString "ends") 341, val := Value.ref 122 }, { hash := PyData.keyHash P (Str.ofString "ports_of"), key := Value.str (Str.ofString "ports_of") 347, val := Value.ref 127 }, { hash := PyData.keyHash P (Str.ofString "is_whole"), key := Value.str (Str.ofString "is_whole") 355, val := Value.ref 134 }, { hash := PyData.keyHash P (Str.ofString "cut"), key := Value.str (Str.ofString "cut") 361, val := Value.ref 139 }, { hash := PyData.keyHash P (Str.ofString "mend"), key := Value.str (Str.ofString "mend") 370, val := Value.ref 146 }, { hash := PyData.keyHash P (Str.ofString "end_across"), key := Value.str (Str.ofString "end_across") 379, val := Value.ref 153 }, { hash := PyData.keyHash P (Str.ofString "send"), key := Value.str (Str.ofString "send") 393, val := Value.ref 160 }, { hash := PyData.keyHash P (Str.ofString "next_time"), key := Value.str (Str.ofString "next_time") 400, val := Value.ref 167 }, { hash := PyData.keyHash P (Str.ofString "next_arrival"), key := Value.str (Str.ofString "next_arrival") 409, val := Value.ref 174 }, { hash := PyData.keyHash P (Str.ofString "arrivals"), key := Value.str (Str.ofString "arrivals") 419, val := Value.ref 181 }, { hash := PyData.keyHash P (Str.ofString "__static_attributes__"), key := Value.str (Str.ofString "__static_attributes__") 424, val := Value.ref 182 }] 17 }), (90, { cls := Value.type "tuple", data := Data.seq #[] }), (91, { cls := Value.none, data := Data.fields #[Value.int 24 0, Value.int 4 0, Value.ref 99, Value.int 30 0, Value.int 4 0, Value.ref 107, Value.int 41 0, Value.int 4 0, Value.ref 114, Value.int 46 0, Value.int 4 0, Value.ref 121, Value.int 50 0, Value.int 4 0, Value.ref 126, Value.int 53 0, Value.int 4 0, Value.ref 133, Value.int 56 0, Value.int 4 0, Value.ref 138, Value.int 63 0, Value.int 4 0, Value.ref 145, Value.int 69 0, Value.int 4 0, Value.ref 152, Value.int 75 0, Value.int 4 0, Value.ref 159, Value.int 88 0, Value.int 4 0, Value.ref 166, Value.int 91 0, Value.int 4 0, Value.ref 173, Value.int 97 0, Value.int 4 0, Value.ref 180] }), (92, { cls := Value.type "code", data := Data.fields #[Value.str (Str.ofString "Wires") 296, Value.str (Str.ofString "Wires") 297, Value.str (Str.ofString "/claim/cut.py") 298, Value.int 22 0, Value.int 0 0, Value.int 0 0, Value.int 0 0, Value.int 0 0, Value.ref 90, Value.bool false, Value.int 181 0, Value.ref 91, Value.none, Value.none, Value.none, Value.none, Value.int 299 0, Value.int 22 0, Value.str (Str.ofString "/claim/cut.py") 300] }), (93, { cls := Value.type "frame", slots := #[some (Value.ref 92), some (Value.ref 3), some (Value.ref 89), none, some (Value.str (Str.ofString "switchloom.wires") 250), none, some (Value.ref 0)] }), (95, { cls := Value.none, data := Data.fields #[] }), (98, { cls := Value.none, data := Data.func { fd P 100 with globals := 0, closure := [], defaults := Value.none, kwdefaults := Value.none, doc := Value.none, pyModule := Value.none, annotations := none, code := Value.none, closureTuple := Value.none, builtins := 0 } }), (103, { cls := Value.none, data := Data.fields #[] }), (106, { cls := Value.none, data := Data.func { fd P 108 with globals := 0, closure := [], defaults := Value.none, kwdefaults := Value.none, doc := Value.none, pyModule := Value.none, annotations := none, code := Value.none, closureTuple := Value.none, builtins := 0 } }), (110, { cls := Value.none, data := Data.fields #[] }), (113, { cls := Value.none, data := Data.func { fd P 115 with globals := 0, closure := [], defaults := Value.none, kwdefaults := Value.none, doc := Value.none, pyModule := Value.none, annotations := none, code := Value.none, closureTuple := Value.none, builtins := 0 } }), (117, { cls := Value.none, data := Data.fields #[] }), (120, { cls := Value.none, data := Data.func { fd P 122 with globals := 0, closure := [], defaults := Value.none, kwdefaults := Value.none, doc := Value.none, pyModule := Value.none, annotations := none, code := Value.none, closureTuple := Value.none, builtins := 0 } }), (124, { cls := Value.none, data := Data.fields #[] }), (125, { cls := Value.none, data := Data.func { fd P 127 with globals := 0, closure := [], defaults := Value.none, kwdefaults := Value.none, doc := Value.none, pyModule := Value.none, annotations := none, code := Value.none, closureTuple := Value.none, builtins := 0 } }), (129, { cls := Value.none, data := Data.fields #[] }), (132, { cls := Value.none, data := Data.func { fd P 134 with globals := 0, closure := [], defaults := Value.none, kwdefaults := Value.none, doc := Value.none, pyModule := Value.none, annotations := none, code := Value.none, closureTuple := Value.none, builtins := 0 } }), (136, { cls := Value.none, data := Data.fields #[] }), (137, { cls := Value.none, data := Data.func { fd P 139 with globals := 0, closure := [], defaults := Value.none, kwdefaults := Value.none, doc := Value.none, pyModule := Value.none, annotations := none, code := Value.none, closureTuple := Value.none, builtins := 0 } }), (141, { cls := Value.none, data := Data.fields #[] }), (144, { cls := Value.none, data := Data.func { fd P 146 with globals := 0, closure := [], defaults := Value.none, kwdefaults := Value.none, doc := Value.none, pyModule := Value.none, annotations := none, code := Value.none, closureTuple := Value.none, builtins := 0 } }), (148, { cls := Value.none, data := Data.fields #[] }), (151, { cls := Value.none, data := Data.func { fd P 153 with globals := 0, closure := [], defaults := Value.none, kwdefaults := Value.none, doc := Value.none, pyModule := Value.none, annotations := none, code := Value.none, closureTuple := Value.none, builtins := 0 } }), (155, { cls := Value.none, data := Data.fields #[] }), (158, { cls := Value.none, data := Data.func { fd P 160 with globals := 0, closure := [], defaults := Value.none, kwdefaults := Value.none, doc := Value.none, pyModule := Value.none, annotations := none, code := Value.none, closureTuple := Value.none, builtins := 0 } }), (162, { cls := Value.none, data := Data.fields #[] }), (165, { cls := Value.none, data := Data.func { fd P 167 with globals := 0, closure := [], defaults := Value.none, kwdefaults := Value.none, doc := Value.none, pyModule := Value.none, annotations := none, code := Value.none, closureTuple := Value.none, builtins := 0 } }), (169, { cls := Value.none, data := Data.fields #[] }), (172, { cls := Value.none, data := Data.func { fd P 174 with globals := 0, closure := [], defaults := Value.none, kwdefaults := Value.none, doc := Value.none, pyModule := Value.none, annotations := none, code := Value.none, closureTuple := Value.none, builtins := 0 } }), (176, { cls := Value.none, data := Data.fields #[] }), (179, { cls := Value.none, data := Data.func { fd P 181 with globals := 0, closure := [], defaults := Value.none, kwdefaults := Value.none, doc := Value.none, pyModule := Value.none, annotations := none, code := Value.none, closureTuple := Value.none, builtins := 0 } }), (187, { cls := Value.type "super", data := Data.fields #[Value.ref 184, Value.ref 184, Value.ref 184] }), (188, { cls := Value.type "builtin_function_or_method", data := Data.fields #[Value.builtin "object.__init_subclass__", Value.ref 184] }), (189, { cls := Value.type "tuple", data := Data.seq #[] }), (190, { cls := Value.type "builtin_function_or_method", data := Data.fields #[Value.builtin "type.__prepare__", Value.type "type"] }), (191, { cls := Value.type "dict", data := Data.dict #[{ hash := PyData.keyHash P (Str.ofString "__module__"), key := Value.str (Str.ofString "__module__") 439, val := Value.str (Str.ofString "switchloom.wires") 250 }, { hash := PyData.keyHash P (Str.ofString "__qualname__"), key := Value.str (Str.ofString "__qualname__") 441, val := Value.str (Str.ofString "WirePlan") 440 }, { hash := PyData.keyHash P (Str.ofString "__firstlineno__"), key := Value.str (Str.ofString "__firstlineno__") 443, val := Value.int 103 442 }, { hash := PyData.keyHash P (Str.ofString "__init__"), key := Value.str (Str.ofString "__init__") 451, val := Value.ref 202 }, { hash := PyData.keyHash P (Str.ofString "due"), key := Value.str (Str.ofString "due") 457, val := Value.ref 207 }, { hash := PyData.keyHash P (Str.ofString "next_time"), key := Value.str (Str.ofString "next_time") 464, val := Value.ref 214 }, { hash := PyData.keyHash P (Str.ofString "__static_attributes__"), key := Value.str (Str.ofString "__static_attributes__") 466, val := Value.ref 215 }] 7 }), (192, { cls := Value.type "tuple", data := Data.seq #[] }), (193, { cls := Value.none, data := Data.fields #[Value.int 105 0, Value.int 4 0, Value.ref 201, Value.int 108 0, Value.int 4 0, Value.ref 206, Value.int 113 0, Value.int 4 0, Value.ref 213] }), (194, { cls := Value.type "code", data := Data.fields #[Value.str (Str.ofString "WirePlan") 434, Value.str (Str.ofString "WirePlan") 435, Value.str (Str.ofString "/claim/cut.py") 436, Value.int 103 0, Value.int 0 0, Value.int 0 0, Value.int 0 0, Value.int 0 0, Value.ref 192, Value.bool false, Value.int 181 0, Value.ref 193, Value.none, Value.none, Value.none, Value.none, Value.int 437 0, Value.int 103 0, Value.str (Str.ofString "/claim/cut.py") 438] }), (195, { cls := Value.type "frame", slots := #[some (Value.ref 194), some (Value.ref 3), some (Value.ref 191), none, some (Value.str (Str.ofString "switchloom.wires") 250), none, some (Value.ref 0)] }), (197, { cls := Value.none, data := Data.fields #[] }), (200, { cls := Value.none, data := Data.func { fd P 202 with globals := 0, closure := [], defaults := Value.none, kwdefaults := Value.none, doc := Value.none, pyModule := Value.none, annotations := none, code := Value.none, closureTuple := Value.none, builtins := 0 } }), (204, { cls := Value.none, data := Data.fields #[] }), (205, { cls := Value.none, data := Data.func { fd P 207 with globals := 0, closure := [], defaults := Value.none, kwdefaults := Value.none, doc := Value.none, pyModule := Value.none, annotations := none, code := Value.none, closureTuple := Value.none, builtins := 0 } }), (209, { cls := Value.none, data := Data.fields #[] }), (212, { cls := Value.none, data := Data.func { fd P 214 with globals := 0, closure := [], defaults := Value.none, kwdefaults := Value.none, doc := Value.none, pyModule := Value.none, annotations := none, code := Value.none, closureTuple := Value.none, builtins := 0 } }), (220, { cls := Value.type "super", data := Data.fields #[Value.ref 217, Value.ref 217, Value.ref 217] }), (221, { cls := Value.type "builtin_function_or_method", data := Data.fields #[Value.builtin "object.__init_subclass__", Value.ref 217] }), (223, { cls := Value.none, data := Data.fields #[] }), (226, { cls := Value.none, data := Data.func { fd P 228 with globals := 0, closure := [], defaults := Value.none, kwdefaults := Value.none, doc := Value.none, pyModule := Value.none, annotations := none, code := Value.none, closureTuple := Value.none, builtins := 0 } }), (230, { cls := Value.none, data := Data.fields #[] }), (233, { cls := Value.none, data := Data.func { fd P 235 with globals := 0, closure := [], defaults := Value.none, kwdefaults := Value.none, doc := Value.none, pyModule := Value.none, annotations := none, code := Value.none, closureTuple := Value.none, builtins := 0 } }), (237, { cls := Value.none, data := Data.fields #[] }), (240, { cls := Value.none, data := Data.func { fd P 242 with globals := 0, closure := [], defaults := Value.none, kwdefaults := Value.none, doc := Value.none, pyModule := Value.none, annotations := none, code := Value.none, closureTuple := Value.none, builtins := 0 } }), (244, { cls := Value.none, data := Data.fields #[] }), (247, { cls := Value.none, data := Data.func { fd P 249 with globals := 0, closure := [], defaults := Value.none, kwdefaults := Value.none, doc := Value.none, pyModule := Value.none, annotations := none, code := Value.none, closureTuple := Value.none, builtins := 0 } }), (251, { cls := Value.none, data := Data.fields #[] }), (254, { cls := Value.none, data := Data.func { fd P 256 with globals := 0, closure := [], defaults := Value.none, kwdefaults := Value.none, doc := Value.none, pyModule := Value.none, annotations := none, code := Value.none, closureTuple := Value.none, builtins := 0 } }), (258, { cls := Value.none, data := Data.fields #[] }), (261, { cls := Value.none, data := Data.func { fd P 263 with globals := 0, closure := [], defaults := Value.none, kwdefaults := Value.none, doc := Value.none, pyModule := Value.none, annotations := none, code := Value.none, closureTuple := Value.none, builtins := 0 } }), (265, { cls := Value.none, data := Data.fields #[] }), (266, { cls := Value.none, data := Data.func { fd P 268 with globals := 0, closure := [], defaults := Value.none, kwdefaults := Value.none, doc := Value.none, pyModule := Value.none, annotations := none, code := Value.none, closureTuple := Value.none, builtins := 0 } }), (270, { cls := Value.none, data := Data.fields #[] }), (273, { cls := Value.none, data := Data.func { fd P 275 with globals := 0, closure := [], defaults := Value.none, kwdefaults := Value.none, doc := Value.none, pyModule := Value.none, annotations := none, code := Value.none, closureTuple := Value.none, builtins := 0 } }), (277, { cls := Value.none, data := Data.fields #[] }), (280, { cls := Value.none, data := Data.func { fd P 282 with globals := 0, closure := [], defaults := Value.none, kwdefaults := Value.none, doc := Value.none, pyModule := Value.none, annotations := none, code := Value.none, closureTuple := Value.none, builtins := 0 } }), (284, { cls := Value.none, data := Data.fields #[] }), (285, { cls := Value.none, data := Data.func { fd P 287 with globals := 0, closure := [], defaults := Value.none, kwdefaults := Value.none, doc := Value.none, pyModule := Value.none, annotations := none, code := Value.none, closureTuple := Value.none, builtins := 0 } }), (289, { cls := Value.none, data := Data.fields #[] }), (290, { cls := Value.none, data := Data.func { fd P 292 with globals := 0, closure := [], defaults := Value.none, kwdefaults := Value.none, doc := Value.none, pyModule := Value.none, annotations := none, code := Value.none, closureTuple := Value.none, builtins := 0 } }), (294, { cls := Value.none, data := Data.fields #[] }), (295, { cls := Value.none, data := Data.func { fd P 297 with globals := 0, closure := [], defaults := Value.none, kwdefaults := Value.none, doc := Value.none, pyModule := Value.none, annotations := none, code := Value.none, closureTuple := Value.none, builtins := 0 } }), (299, { cls := Value.none, data := Data.fields #[] }), (300, { cls := Value.none, data := Data.func { fd P 302 with globals := 0, closure := [], defaults := Value.none, kwdefaults := Value.none, doc := Value.none, pyModule := Value.none, annotations := none, code := Value.none, closureTuple := Value.none, builtins := 0 } }), (304, { cls := Value.none, data := Data.fields #[] }), (307, { cls := Value.none, data := Data.func { fd P 309 with globals := 0, closure := [], defaults := Value.none, kwdefaults := Value.none, doc := Value.none, pyModule := Value.none, annotations := none, code := Value.none, closureTuple := Value.none, builtins := 0 } }), (311, { cls := Value.none, data := Data.fields #[] }), (312, { cls := Value.none, data := Data.func { fd P 314 with globals := 0, closure := [], defaults := Value.none, kwdefaults := Value.none, doc := Value.none, pyModule := Value.none, annotations := none, code := Value.none, closureTuple := Value.none, builtins := 0 } })]).getD (boot_o_0 P)
noncomputable def hF (P : Params) : Heap := ⟨⟨[boot_o_0 P, boot_o_1 P, fo P 2, fo P 3, boot_o_4 P, boot_o_5 P, boot_o_6 P, boot_o_7 P, boot_o_8 P, boot_o_9 P, boot_o_10 P, ex P 11, ex P 12, ex P 13, ex P 14, fo P 15, ex P 16, ex P 17, ex P 18, ex P 19, ex P 20, ex P 21, fo P 22, ex P 23, fo P 24, fo P 25, ex P 26, fo P 27, fo P 28, fo P 29, fo P 30, fo P 31, fo P 32, ex P 33, ex P 34, fo P 35, ex P 36, ex P 37, ex P 38, ex P 39, ex P 40, ex P 41, fo P 42, fo P 43, fo P 44, ex P 45, ex P 46, fo P 47, ex P 48, ex P 49, ex P 50, ex P 51, ex P 52, ex P 53, fo P 54, fo P 55, fo P 56, ex P 57, ex P 58, ex P 59, ex P 60, ex P 61, ex P 62, ex P 63, ex P 64, ex P 65, fo P 66, ex P 67, fo P 68, fo P 69, ex P 70, fo P 71, fo P 72, fo P 73, ex P 74, fo P 75, fo P 76, ex P 77, fo P 78, fo P 79, fo P 80, fo P 81, fo P 82, fo P 83, fo P 84, ex P 85, ex P 86, ex P 87, ex P 88, ex P 89, ex P 90, ex P 91, ex P 92, ex P 93, fo P 94, ex P 95, fo P 96, fo P 97, ex P 98, fo P 99, fo P 100, fo P 101, fo P 102, ex P 103, fo P 104, fo P 105, ex P 106, fo P 107, fo P 108, fo P 109, ex P 110, fo P 111, fo P 112, ex P 113, fo P 114, fo P 115, fo P 116, ex P 117, fo P 118, fo P 119, ex P 120, fo P 121, fo P 122, fo P 123, ex P 124, ex P 125, fo P 126, fo P 127, fo P 128, ex P 129, fo P 130, fo P 131, ex P 132, fo P 133, fo P 134, fo P 135, ex P 136, ex P 137, fo P 138, fo P 139, fo P 140, ex P 141, fo P 142, fo P 143, ex P 144, fo P 145, fo P 146, fo P 147, ex P 148, fo P 149, fo P 150, ex P 151, fo P 152, fo P 153, fo P 154, ex P 155, fo P 156, fo P 157, ex P 158, fo P 159, fo P 160, fo P 161, ex P 162, fo P 163, fo P 164, ex P 165, fo P 166, fo P 167, fo P 168, ex P 169, fo P 170, fo P 171, ex P 172, fo P 173, fo P 174, fo P 175, ex P 176, fo P 177, fo P 178, ex P 179, fo P 180, fo P 181, fo P 182, fo P 183, fo P 184, fo P 185, fo P 186, ex P 187, ex P 188, ex P 189, ex P 190, ex P 191, ex P 192, ex P 193, ex P 194, ex P 195, fo P 196, ex P 197, fo P 198, fo P 199, ex P 200, fo P 201, fo P 202, fo P 203, ex P 204, ex P 205, fo P 206, fo P 207, fo P 208, ex P 209, fo P 210, fo P 211, ex P 212, fo P 213, fo P 214, fo P 215, fo P 216, fo P 217, fo P 218, fo P 219, ex P 220, ex P 221, fo P 222, ex P 223, fo P 224, fo P 225, ex P 226, fo P 227, fo P 228, fo P 229, ex P 230, fo P 231, fo P 232, ex P 233, fo P 234, fo P 235, fo P 236, ex P 237, fo P 238, fo P 239, ex P 240, fo P 241, fo P 242, fo P 243, ex P 244, fo P 245, fo P 246, ex P 247, fo P 248, fo P 249, fo P 250, ex P 251, fo P 252, fo P 253, ex P 254, fo P 255, fo P 256, fo P 257, ex P 258, fo P 259, fo P 260, ex P 261, fo P 262, fo P 263, fo P 264, ex P 265, ex P 266, fo P 267, fo P 268, fo P 269, ex P 270, fo P 271, fo P 272, ex P 273, fo P 274, fo P 275, fo P 276, ex P 277, fo P 278, fo P 279, ex P 280, fo P 281, fo P 282, fo P 283, ex P 284, ex P 285, fo P 286, fo P 287, fo P 288, ex P 289, ex P 290, fo P 291, fo P 292, fo P 293, ex P 294, ex P 295, fo P 296, fo P 297, fo P 298, ex P 299, ex P 300, fo P 301, fo P 302, fo P 303, ex P 304, fo P 305, fo P 306, ex P 307, fo P 308, fo P 309, fo P 310, ex P 311, ex P 312, fo P 313, fo P 314]⟩, (boot_heap P).life⟩
noncomputable def eC (P : Params) (a : Nat) : Obj := (List.lookup a [(3, { cls := Value.type "dict", data := Data.dict #[{ hash := PyData.keyHash P (Str.ofString "__name__"), key := Value.str (Str.ofString "__name__") 165, val := Value.str (Str.ofString "switchloom.wires") 250 }, { hash := PyData.keyHash P (Str.ofString "__doc__"), key := Value.str (Str.ofString "__doc__") 166, val := Value.none }, { hash := PyData.keyHash P (Str.ofString "__package__"), key := Value.str (Str.ofString "__package__") 167, val := Value.none }, { hash := PyData.keyHash P (Str.ofString "__loader__"), key := Value.str (Str.ofString "__loader__") 168, val := Value.builtin "__main__.__loader__#opaque" }, { hash := PyData.keyHash P (Str.ofString "__spec__"), key := Value.str (Str.ofString "__spec__") 169, val := Value.none }, { hash := PyData.keyHash P (Str.ofString "__annotations__"), key := Value.str (Str.ofString "__annotations__") 170, val := Value.ref 6 }, { hash := PyData.keyHash P (Str.ofString "__builtins__"), key := Value.str (Str.ofString "__builtins__") 171, val := Value.ref 4 }, { hash := PyData.keyHash P (Str.ofString "__file__"), key := Value.str (Str.ofString "__file__") 173, val := Value.str (Str.ofString "/claim/cut.py") 172 }, { hash := PyData.keyHash P (Str.ofString "__cached__"), key := Value.str (Str.ofString "__cached__") 174, val := Value.none }, { hash := PyData.keyHash P (Str.ofString "SwitchError"), key := Value.str (Str.ofString "SwitchError") 217, val := Value.ref 31 }, { hash := PyData.keyHash P (Str.ofString "TableError"), key := Value.str (Str.ofString "TableError") 233, val := Value.ref 44 }, { hash := PyData.keyHash P (Str.ofString "StateError"), key := Value.str (Str.ofString "StateError") 249, val := Value.ref 56 }, { hash := PyData.keyHash P (Str.ofString "Wire"), key := Value.str (Str.ofString "Wire") 293, val := Value.ref 82 }, { hash := PyData.keyHash P (Str.ofString "Wires"), key := Value.str (Str.ofString "Wires") 431, val := Value.ref 184 }, { hash := PyData.keyHash P (Str.ofString "WirePlan"), key := Value.str (Str.ofString "WirePlan") 473, val := Value.ref 217 }] 15 }), (12, { cls := Value.none, data := Data.fields #[Value.int 2 0, Value.int 0 0, Value.ref 20, Value.int 7 0, Value.int 0 0, Value.ref 40, Value.int 9 0, Value.int 0 0, Value.ref 52, Value.int 12 0, Value.int 0 0, Value.ref 64, Value.int 22 0, Value.int 0 0, Value.ref 92, Value.int 103 0, Value.int 0 0, Value.ref 194] })]).getD (boot_o_0 P)
noncomputable def hC (P : Params) : Heap := ⟨⟨[boot_o_0 P, boot_o_1 P, fo P 2, eC P 3, boot_o_4 P, boot_o_5 P, boot_o_6 P, boot_o_7 P, boot_o_8 P, boot_o_9 P, boot_o_10 P, ex P 11, eC P 12, ex P 13, ex P 14, fo P 15, ex P 16, ex P 17, ex P 18, ex P 19, ex P 20, ex P 21, fo P 22, ex P 23, fo P 24, fo P 25, ex P 26, fo P 27, fo P 28, fo P 29, fo P 30, fo P 31, fo P 32, ex P 33, ex P 34, fo P 35, ex P 36, ex P 37, ex P 38, ex P 39, ex P 40, ex P 41, fo P 42, fo P 43, fo P 44, ex P 45, ex P 46, fo P 47, ex P 48, ex P 49, ex P 50, ex P 51, ex P 52, ex P 53, fo P 54, fo P 55, fo P 56, ex P 57, ex P 58, ex P 59, ex P 60, ex P 61, ex P 62, ex P 63, ex P 64, ex P 65, fo P 66, ex P 67, fo P 68, fo P 69, ex P 70, fo P 71, fo P 72, fo P 73, ex P 74, fo P 75, fo P 76, ex P 77, fo P 78, fo P 79, fo P 80, fo P 81, fo P 82, fo P 83, fo P 84, ex P 85, ex P 86, ex P 87, ex P 88, ex P 89, ex P 90, ex P 91, ex P 92, ex P 93, fo P 94, ex P 95, fo P 96, fo P 97, ex P 98, fo P 99, fo P 100, fo P 101, fo P 102, ex P 103, fo P 104, fo P 105, ex P 106, fo P 107, fo P 108, fo P 109, ex P 110, fo P 111, fo P 112, ex P 113, fo P 114, fo P 115, fo P 116, ex P 117, fo P 118, fo P 119, ex P 120, fo P 121, fo P 122, fo P 123, ex P 124, ex P 125, fo P 126, fo P 127, fo P 128, ex P 129, fo P 130, fo P 131, ex P 132, fo P 133, fo P 134, fo P 135, ex P 136, ex P 137, fo P 138, fo P 139, fo P 140, ex P 141, fo P 142, fo P 143, ex P 144, fo P 145, fo P 146, fo P 147, ex P 148, fo P 149, fo P 150, ex P 151, fo P 152, fo P 153, fo P 154, ex P 155, fo P 156, fo P 157, ex P 158, fo P 159, fo P 160, fo P 161, ex P 162, fo P 163, fo P 164, ex P 165, fo P 166, fo P 167, fo P 168, ex P 169, fo P 170, fo P 171, ex P 172, fo P 173, fo P 174, fo P 175, ex P 176, fo P 177, fo P 178, ex P 179, fo P 180, fo P 181, fo P 182, fo P 183, fo P 184, fo P 185, fo P 186, ex P 187, ex P 188, ex P 189, ex P 190, ex P 191, ex P 192, ex P 193, ex P 194, ex P 195, fo P 196, ex P 197, fo P 198, fo P 199, ex P 200, fo P 201, fo P 202, fo P 203, ex P 204, ex P 205, fo P 206, fo P 207, fo P 208, ex P 209, fo P 210, fo P 211, ex P 212, fo P 213, fo P 214, fo P 215, fo P 216, fo P 217, fo P 218, fo P 219, ex P 220, ex P 221]⟩, (boot_heap P).life⟩
noncomputable def eB (P : Params) (a : Nat) : Obj := (List.lookup a [(3, { cls := Value.type "dict", data := Data.dict #[{ hash := PyData.keyHash P (Str.ofString "__name__"), key := Value.str (Str.ofString "__name__") 165, val := Value.str (Str.ofString "switchloom.wires") 250 }, { hash := PyData.keyHash P (Str.ofString "__doc__"), key := Value.str (Str.ofString "__doc__") 166, val := Value.none }, { hash := PyData.keyHash P (Str.ofString "__package__"), key := Value.str (Str.ofString "__package__") 167, val := Value.none }, { hash := PyData.keyHash P (Str.ofString "__loader__"), key := Value.str (Str.ofString "__loader__") 168, val := Value.builtin "__main__.__loader__#opaque" }, { hash := PyData.keyHash P (Str.ofString "__spec__"), key := Value.str (Str.ofString "__spec__") 169, val := Value.none }, { hash := PyData.keyHash P (Str.ofString "__annotations__"), key := Value.str (Str.ofString "__annotations__") 170, val := Value.ref 6 }, { hash := PyData.keyHash P (Str.ofString "__builtins__"), key := Value.str (Str.ofString "__builtins__") 171, val := Value.ref 4 }, { hash := PyData.keyHash P (Str.ofString "__file__"), key := Value.str (Str.ofString "__file__") 173, val := Value.str (Str.ofString "/claim/cut.py") 172 }, { hash := PyData.keyHash P (Str.ofString "__cached__"), key := Value.str (Str.ofString "__cached__") 174, val := Value.none }, { hash := PyData.keyHash P (Str.ofString "SwitchError"), key := Value.str (Str.ofString "SwitchError") 217, val := Value.ref 31 }, { hash := PyData.keyHash P (Str.ofString "TableError"), key := Value.str (Str.ofString "TableError") 233, val := Value.ref 44 }, { hash := PyData.keyHash P (Str.ofString "StateError"), key := Value.str (Str.ofString "StateError") 249, val := Value.ref 56 }, { hash := PyData.keyHash P (Str.ofString "Wire"), key := Value.str (Str.ofString "Wire") 293, val := Value.ref 82 }, { hash := PyData.keyHash P (Str.ofString "Wires"), key := Value.str (Str.ofString "Wires") 431, val := Value.ref 184 }] 14 }), (12, { cls := Value.none, data := Data.fields #[Value.int 2 0, Value.int 0 0, Value.ref 20, Value.int 7 0, Value.int 0 0, Value.ref 40, Value.int 9 0, Value.int 0 0, Value.ref 52, Value.int 12 0, Value.int 0 0, Value.ref 64, Value.int 22 0, Value.int 0 0, Value.ref 92] })]).getD (boot_o_0 P)
noncomputable def hB (P : Params) : Heap := ⟨⟨[boot_o_0 P, boot_o_1 P, fo P 2, eB P 3, boot_o_4 P, boot_o_5 P, boot_o_6 P, boot_o_7 P, boot_o_8 P, boot_o_9 P, boot_o_10 P, ex P 11, eB P 12, ex P 13, ex P 14, fo P 15, ex P 16, ex P 17, ex P 18, ex P 19, ex P 20, ex P 21, fo P 22, ex P 23, fo P 24, fo P 25, ex P 26, fo P 27, fo P 28, fo P 29, fo P 30, fo P 31, fo P 32, ex P 33, ex P 34, fo P 35, ex P 36, ex P 37, ex P 38, ex P 39, ex P 40, ex P 41, fo P 42, fo P 43, fo P 44, ex P 45, ex P 46, fo P 47, ex P 48, ex P 49, ex P 50, ex P 51, ex P 52, ex P 53, fo P 54, fo P 55, fo P 56, ex P 57, ex P 58, ex P 59, ex P 60, ex P 61, ex P 62, ex P 63, ex P 64, ex P 65, fo P 66, ex P 67, fo P 68, fo P 69, ex P 70, fo P 71, fo P 72, fo P 73, ex P 74, fo P 75, fo P 76, ex P 77, fo P 78, fo P 79, fo P 80, fo P 81, fo P 82, fo P 83, fo P 84, ex P 85, ex P 86, ex P 87, ex P 88, ex P 89, ex P 90, ex P 91, ex P 92, ex P 93, fo P 94, ex P 95, fo P 96, fo P 97, ex P 98, fo P 99, fo P 100, fo P 101, fo P 102, ex P 103, fo P 104, fo P 105, ex P 106, fo P 107, fo P 108, fo P 109, ex P 110, fo P 111, fo P 112, ex P 113, fo P 114, fo P 115, fo P 116, ex P 117, fo P 118, fo P 119, ex P 120, fo P 121, fo P 122, fo P 123, ex P 124, ex P 125, fo P 126, fo P 127, fo P 128, ex P 129, fo P 130, fo P 131, ex P 132, fo P 133, fo P 134, fo P 135, ex P 136, ex P 137, fo P 138, fo P 139, fo P 140, ex P 141, fo P 142, fo P 143, ex P 144, fo P 145, fo P 146, fo P 147, ex P 148, fo P 149, fo P 150, ex P 151, fo P 152, fo P 153, fo P 154, ex P 155, fo P 156, fo P 157, ex P 158, fo P 159, fo P 160, fo P 161, ex P 162, fo P 163, fo P 164, ex P 165, fo P 166, fo P 167, fo P 168, ex P 169, fo P 170, fo P 171, ex P 172, fo P 173, fo P 174, fo P 175, ex P 176, fo P 177, fo P 178, ex P 179, fo P 180, fo P 181, fo P 182, fo P 183, fo P 184, fo P 185, fo P 186, ex P 187, ex P 188]⟩, (boot_heap P).life⟩
noncomputable def eA (P : Params) (a : Nat) : Obj := (List.lookup a [(3, { cls := Value.type "dict", data := Data.dict #[{ hash := PyData.keyHash P (Str.ofString "__name__"), key := Value.str (Str.ofString "__name__") 165, val := Value.str (Str.ofString "switchloom.wires") 250 }, { hash := PyData.keyHash P (Str.ofString "__doc__"), key := Value.str (Str.ofString "__doc__") 166, val := Value.none }, { hash := PyData.keyHash P (Str.ofString "__package__"), key := Value.str (Str.ofString "__package__") 167, val := Value.none }, { hash := PyData.keyHash P (Str.ofString "__loader__"), key := Value.str (Str.ofString "__loader__") 168, val := Value.builtin "__main__.__loader__#opaque" }, { hash := PyData.keyHash P (Str.ofString "__spec__"), key := Value.str (Str.ofString "__spec__") 169, val := Value.none }, { hash := PyData.keyHash P (Str.ofString "__annotations__"), key := Value.str (Str.ofString "__annotations__") 170, val := Value.ref 6 }, { hash := PyData.keyHash P (Str.ofString "__builtins__"), key := Value.str (Str.ofString "__builtins__") 171, val := Value.ref 4 }, { hash := PyData.keyHash P (Str.ofString "__file__"), key := Value.str (Str.ofString "__file__") 173, val := Value.str (Str.ofString "/claim/cut.py") 172 }, { hash := PyData.keyHash P (Str.ofString "__cached__"), key := Value.str (Str.ofString "__cached__") 174, val := Value.none }, { hash := PyData.keyHash P (Str.ofString "SwitchError"), key := Value.str (Str.ofString "SwitchError") 217, val := Value.ref 31 }, { hash := PyData.keyHash P (Str.ofString "TableError"), key := Value.str (Str.ofString "TableError") 233, val := Value.ref 44 }, { hash := PyData.keyHash P (Str.ofString "StateError"), key := Value.str (Str.ofString "StateError") 249, val := Value.ref 56 }, { hash := PyData.keyHash P (Str.ofString "Wire"), key := Value.str (Str.ofString "Wire") 293, val := Value.ref 82 }] 13 }), (12, { cls := Value.none, data := Data.fields #[Value.int 2 0, Value.int 0 0, Value.ref 20, Value.int 7 0, Value.int 0 0, Value.ref 40, Value.int 9 0, Value.int 0 0, Value.ref 52, Value.int 12 0, Value.int 0 0, Value.ref 64] })]).getD (boot_o_0 P)
noncomputable def hA (P : Params) : Heap := ⟨⟨[boot_o_0 P, boot_o_1 P, fo P 2, eA P 3, boot_o_4 P, boot_o_5 P, boot_o_6 P, boot_o_7 P, boot_o_8 P, boot_o_9 P, boot_o_10 P, ex P 11, eA P 12, ex P 13, ex P 14, fo P 15, ex P 16, ex P 17, ex P 18, ex P 19, ex P 20, ex P 21, fo P 22, ex P 23, fo P 24, fo P 25, ex P 26, fo P 27, fo P 28, fo P 29, fo P 30, fo P 31, fo P 32, ex P 33, ex P 34, fo P 35, ex P 36, ex P 37, ex P 38, ex P 39, ex P 40, ex P 41, fo P 42, fo P 43, fo P 44, ex P 45, ex P 46, fo P 47, ex P 48, ex P 49, ex P 50, ex P 51, ex P 52, ex P 53, fo P 54, fo P 55, fo P 56, ex P 57, ex P 58, ex P 59, ex P 60, ex P 61, ex P 62, ex P 63, ex P 64, ex P 65, fo P 66, ex P 67, fo P 68, fo P 69, ex P 70, fo P 71, fo P 72, fo P 73, ex P 74, fo P 75, fo P 76, ex P 77, fo P 78, fo P 79, fo P 80, fo P 81, fo P 82, fo P 83, fo P 84, ex P 85, ex P 86]⟩, (boot_heap P).life⟩
noncomputable def eP (P : Params) (a : Nat) : Obj := (List.lookup a [(12, { cls := Value.none, data := Data.fields #[] })]).getD (boot_o_0 P)
noncomputable def hP (P : Params) : Heap := ⟨⟨[boot_o_0 P, boot_o_1 P, boot_o_2 P, boot_o_3 P, boot_o_4 P, boot_o_5 P, boot_o_6 P, boot_o_7 P, boot_o_8 P, boot_o_9 P, boot_o_10 P, ex P 11, eP P 12, ex P 13, ex P 14]⟩, (boot_heap P).life⟩
noncomputable abbrev pp : Program := PySem.Challenge.rw_pb0545_01.row.prog
noncomputable abbrev bE : List Stmt := behindTheImports pp
noncomputable abbrev envE : Env := { scope := pp.main.scope, locals := mainNs, globals := mainNs, cells := [], code := .ref 13, frame := some 14 }
noncomputable abbrev cE : Code := .body bE envE
noncomputable abbrev p0 : Pos := { line := 0, col := 0, endLine := 0, endCol := 0 }
noncomputable abbrev pA : Pos := { line := 12, col := 0, endLine := 21, endCol := 58 }
noncomputable abbrev pB : Pos := { line := 22, col := 0, endLine := 102, endCol := 20 }
noncomputable abbrev at' (w : World) (h : Params → Heap) (k : Nat) (os : OsState) : Shared := ⟨h w.params, #[], boot_drawn, k, os⟩
noncomputable abbrev Yf' := Hook.obs (kmHook hd.heap_1 asK asE [289, 265, 311])
noncomputable abbrev Ya' := Hook.val (kmHook hd.heap_1 asK asE [289, 265, 311])
theorem l_open (w : World) : (fencedOpening treeTable pp w 4678).map (fun s => (s.heap, s.gens, s.drawn, s.toks)) = some (boot_heap w.params, #[], boot_drawn, boot_toks) :=
  boot_open rfl (by decide) (fun _ => rfl) w
theorem l_pre (w : World) (os : OsState) : topGo treeTable pp w 11 (some (.ref 6)) 12 (at' w boot_heap boot_toks os) (topStub pp) = some (at' w hP 187 os, ⟨denote treeTable cE, cE, p0, [topFrame p0]⟩) := by kernel_rfl
theorem l_block (w : World) (os : OsState) : segRun treeTable pp w 11 (some (.ref 6)) 1 1 (at' w hP 187 os) (blockOf bE envE cE p0 [topFrame p0]) = some (.next, at' w hP 187 os, cE, p0) := by kernel_rfl
theorem l_A (w : World) (os : OsState) : segRun treeTable pp w 11 (some (.ref 6)) 1 932 (at' w hP 187 os) (piecesOf (bE.take 6) envE cE p0 [topFrame p0]) = some (.next, at' w hA 294 os, cE, pA) := by kernel_rfl
theorem l_B (w : World) (os : OsState) : segRun treeTable pp w 11 (some (.ref 6)) 1 617 (at' w hA 294 os) (piecesOf ((bE.drop 6).take 1) envE cE pA [topFrame p0]) = some (.next, at' w hB 432 os, cE, pB) := by kernel_rfl
noncomputable def okS (w : World) (s : Shared) : Bool := staticsOk (importedModules pp.main.body) (boot_heap w.params) s.heap && namesBound pp s.heap && gensDone s && laidKept (boot_heap w.params) s.heap
noncomputable abbrev pC : Pos := { line := 103, col := 0, endLine := 114, endCol := 59 }
theorem l_C (w : World) (os : OsState) : segRun treeTable pp w 11 (some (.ref 6)) 1 282 (at' w hB 432 os) (piecesOf (((bE.drop 6).drop 1).take 1) envE cE pB [topFrame p0]) = some (.next, at' w hC 474 os, cE, pC) := by kernel_rfl
theorem l_F (w : World) (os : OsState) : topRun treeTable pp w 11 (some (.ref 6)) 500 (at' w hC 474 os) (restOf (((bE.drop 6).drop 1).drop 1) envE cE pC [topFrame p0]) = some (at' w hF 597 os) := by kernel_rfl
theorem l_ok (w : World) (os : OsState) : okS w (at' w hF 597 os) = true := by kernel_rfl
theorem l_seen (w : World) (os : OsState) : openSeen qv [] (importedModules pp.main.body) xt true (at' w hF 597 os) = openGood qv [] := by kernel_rfl
theorem l_hook (w : World) (os : OsState) : Yf' (at' w hF 597 os) = Ya' w := by kernel_rfl
theorem l_size (w : World) : ((boot_heap w.params).isNs mainGlobals && (#[] : Array GenState).size == 0, (boot_heap w.params).objs.size, (boot_heap w.params).nsMap mainGlobals "__annotations__") = (true, 11, some (.ref 6)) := by kernel_rfl
theorem l_run (w : World) (os : OsState) : ∃ r, topRun treeTable pp w 11 (some (.ref 6)) 4678 (at' w boot_heap boot_toks os) (topStub pp) = some r ∧ okS w r = true ∧ openSeen qv [] (importedModules pp.main.body) xt true r = openGood qv [] ∧ Yf' r = Ya' w := by
  have k0 := piece_app (l_C w os) (l_F w os)
  rw [List.take_append_drop] at k0
  have k1 := piece_app (l_B w os) k0
  rw [List.take_append_drop] at k1
  have k2 := piece_app (l_A w os) k1
  rw [List.take_append_drop] at k2
  have k3 := go_top (l_pre w os) (piece_block (l_block w os) k2)
  exact ⟨_, topRun_mono 2334 _ _ _ _ k3, l_ok w os, l_seen w os, l_hook w os⟩
theorem leftOf {p q : Program} {loose : List Str} {Xt : Shared → Bool} {α : Type} {Yf : Shared → α} {Ya : World → α} {N : Nat} {H₀ : Params → Heap} {gs₀ : Array GenState} {d₀ : Drawn} {k₀ m₀ : Nat} {ann : Option Value} {ok : World → Shared → Bool}
    (open_ : ∀ w : World, (fencedOpening treeTable p w N).map (fun s => (s.heap, s.gens, s.drawn, s.toks)) = some (H₀ w.params, gs₀, d₀, k₀))
    (size : ∀ w : World, ((H₀ w.params).isNs mainGlobals && gs₀.size == 0, (H₀ w.params).objs.size, (H₀ w.params).nsMap mainGlobals "__annotations__") = (true, m₀, ann))
    (hok : ∀ w s, ok w s = (staticsOk (importedModules p.main.body) (H₀ w.params) s.heap && namesBound p s.heap && gensDone s && laidKept (H₀ w.params) s.heap))
    (run : ∀ (w : World) (os : OsState), ∃ r, topRun treeTable p w m₀ ann N ⟨H₀ w.params, gs₀, d₀, k₀, os⟩ (topStub p) = some r ∧ ok w r = true ∧ openSeen q loose (importedModules p.main.body) Xt true r = openGood q loose ∧ Yf r = Ya w) :
    LeftO p q loose Xt Yf Ya N := fun w => by
  obtain ⟨⟨h, gs, d, k, os⟩, e, e'⟩ := Option.map_eq_some_iff.mp (open_ w)
  have e' : (h, gs, d, k) = (H₀ w.params, gs₀, d₀, k₀) := e'
  injection e' with x1 x2
  injection x2 with x2 x3
  injection x3 with x3 x4
  rw [x1, x2, x3, x4] at e
  obtain ⟨z1, e'⟩ := Prod.mk.inj (size w)
  obtain ⟨z2, z3⟩ := Prod.mk.inj e'
  obtain ⟨r, h1, h2, h3, h4⟩ := run w os
  have t : topFrom treeTable p w N ⟨H₀ w.params, gs₀, d₀, k₀, os⟩ = some r := by
    unfold topFrom
    dsimp only
    rw [z1, z2, z3, h1]
    show (match staticsOk (importedModules p.main.body) (H₀ w.params) r.heap && namesBound p r.heap && gensDone r && laidKept (H₀ w.params) r.heap with | true => some r | false => none) = _
    rw [← hok, h2]
  unfold openEnds
  rw [e]
  show (topFrom treeTable p w N ⟨H₀ w.params, gs₀, d₀, k₀, os⟩).map _ = _
  rw [t]
  show some (openSeen q loose (importedModules p.main.body) Xt true r, Yf r) = _
  rw [h3, h4]
theorem left : LeftO PySem.Challenge.rw_pb0545_01.row.prog qv [] xt (Hook.obs (kmHook hd.heap_1 asK asE [289, 265, 311])) (Hook.val (kmHook hd.heap_1 asK asE [289, 265, 311])) 4678 := leftOf l_open l_size (fun _ _ => rfl) l_run
end
section
set_option tactic.hygienic false
noncomputable abbrev KK (w : World) : Frag := hd.heap_1 w.params
noncomputable abbrev Led := List (Addr × Obj)
noncomputable abbrev tupObj (vs : List Value) (n : Nat) : Obj := { cls := .type "tuple", data := .seq vs.toArray n }
inductive PV where
  | val (v : Value)
  | int (i : Int)
  | str (s : Str)
  | tup (l : List PV)
  | lst (l : List PV)
  | obj (o : Obj)
noncomputable abbrev PV.none : PV := .val .none
noncomputable abbrev PV.bool (b : Bool) : PV := .val (.bool b)
noncomputable abbrev PV.ref (a : Addr) : PV := .val (.ref a)
mutual
inductive VRep (I : Led) : Value → PV → Prop
  | val (v : Value) : VRep I v (.val v)
  | int (i : Int) (t : Tok) : VRep I (.int i t) (.int i)
  | str (x : Str) (t : Tok) : VRep I (.str x t) (.str x)
  | tup {a : Addr} {vs : List Value} {n : Nat} {l : List PV} : (a, tupObj vs n) ∈ I → VAll I vs l → VRep I (.ref a) (.tup l)
  | lst {a : Addr} {vs : List Value} {n : Nat} {l : List PV} : (a, listOf vs.toArray n) ∈ I → VAll I vs l → VRep I (.ref a) (.lst l)
  | obj {a : Addr} {o : Obj} : (a, o) ∈ I → VRep I (.ref a) (.obj o)
inductive VAll (I : Led) : List Value → List PV → Prop
  | nil : VAll I [] []
  | cons {v : Value} {vs : List Value} {p : PV} {ps : List PV} : VRep I v p → VAll I vs ps → VAll I (v :: vs) (p :: ps)
end
section
variable {I : Led} {v : Value} {p : PV} {vs ws : List Value} {ps qs : List PV}
theorem VAll.ind {motive : List Value → List PV → Prop} (nil : motive [] []) (cons : ∀ {v : Value} {vs : List Value} {p : PV} {ps : List PV}, VRep I v p → VAll I vs ps → motive vs ps → motive (v :: vs) (p :: ps)) (h : VAll I vs ps) : motive vs ps :=
  VAll.rec (motive_1 := fun _ _ _ => True) (motive_2 := fun a b _ => motive a b) (fun _ => trivial) (fun _ _ => trivial) (fun _ _ => trivial) (fun _ _ _ => trivial) (fun _ _ _ => trivial) (fun _ => trivial) nil (fun h r _ ih => cons h r ih) h
theorem VRep.mono {I' : Led} (hs : ∀ p ∈ I, p ∈ I') (h : VRep I v p) : VRep I' v p :=
  VRep.rec (motive_1 := fun a b _ => VRep I' a b) (motive_2 := fun a b _ => VAll I' a b) .val .int .str (fun h _ r => .tup (hs _ h) r) (fun h _ r => .lst (hs _ h) r) (fun h => .obj (hs _ h)) .nil (fun _ _ h r => .cons h r) h
theorem VAll.mono {I' : Led} (hs : ∀ p ∈ I, p ∈ I') (h : VAll I vs ps) : VAll I' vs ps := h.ind (motive := VAll I') .nil fun h _ r => .cons (h.mono hs) r
theorem VAll.length (h : VAll I vs ps) : vs.length = ps.length := h.ind (motive := fun vs ps => vs.length = ps.length) rfl fun _ _ ih => congrArg (· + 1) ih
theorem VAll.append (h : VAll I vs ps) (k : VAll I ws qs) : VAll I (vs ++ ws) (ps ++ qs) := h.ind (motive := fun vs ps => VAll I (vs ++ ws) (ps ++ qs)) k fun h _ ih => .cons h ih
theorem VAll.one (h : VRep I v p) : VAll I [v] [p] := .cons h .nil
theorem VAll.getR (h : VAll I vs ps) : ∀ k : Nat, (vs[k]? = none ∧ ps[k]? = none) ∨ ∃ v p, vs[k]? = some v ∧ ps[k]? = some p ∧ VRep I v p :=
  h.ind (motive := fun vs ps => ∀ k : Nat, (vs[k]? = none ∧ ps[k]? = none) ∨ ∃ v p, vs[k]? = some v ∧ ps[k]? = some p ∧ VRep I v p) (fun _ => .inl ⟨rfl, rfl⟩) fun h _ ih k => k.casesOn (.inr ⟨_, _, rfl, rfl, h⟩) ih
theorem VAll.get {k : Nat} (h : VAll I vs ps) (hk : ps[k]? = some p) : ∃ v, vs[k]? = some v ∧ VRep I v p :=
  (h.getR k).elim (fun e => nomatch hk.symm.trans e.2) fun ⟨v, _, e, e', r⟩ => ⟨v, e, Option.some.inj (e'.symm.trans hk) ▸ r⟩
theorem VAll.getV {k : Nat} (h : VAll I vs ps) (hk : vs[k]? = some v) : ∃ p, ps[k]? = some p ∧ VRep I v p :=
  (h.getR k).elim (fun e => nomatch hk.symm.trans e.1) fun ⟨_, p, e, e', r⟩ => ⟨p, e', Option.some.inj (e.symm.trans hk) ▸ r⟩
theorem VAll.take (h : VAll I vs ps) : ∀ k : Nat, VAll I (vs.take k) (ps.take k) :=
  h.ind (motive := fun vs ps => ∀ k : Nat, VAll I (vs.take k) (ps.take k)) (fun k => by rw [List.take_nil, List.take_nil]; exact .nil) fun h _ ih k => k.casesOn .nil fun k => .cons h (ih k)
theorem VAll.drop (h : VAll I vs ps) : ∀ k : Nat, VAll I (vs.drop k) (ps.drop k) :=
  h.ind (motive := fun vs ps => ∀ k : Nat, VAll I (vs.drop k) (ps.drop k)) (fun k => by rw [List.drop_nil, List.drop_nil]; exact .nil) fun h r ih k => k.casesOn (.cons h r) ih
theorem VAll.set (h : VAll I vs ps) (k : Nat) (hv : VRep I v p) : VAll I (vs.set k v) (ps.set k p) :=
  h.ind (motive := fun vs ps => ∀ k : Nat, VAll I (vs.set k v) (ps.set k p)) (fun _ => .nil) (fun h r ih k => k.casesOn (.cons hv r) fun k => .cons h (ih k)) k
end
inductive AObj where
  | list (l : List PV)
  | inst (C : Addr) (fs : List (Str × PV))
  | dict (kvs : List (List Int × Int)) (ep : Nat)
  | cell (v : Option PV)
  | raw (o : Obj)
  | frame (d : Data)
noncomputable abbrev Store := List (Addr × AObj)
inductive FRep (w : World) (I : Led) : List DictEntry → List (Str × PV) → Prop
  | nil : FRep w I [] []
  | cons {x : Str} {t : Tok} {v : Value} {p : PV} {es : List DictEntry} {fs : List (Str × PV)} :
      VRep I v p → FRep w I es fs → FRep w I (⟨PyData.keyHash w.params x, .str x t, v⟩ :: es) ((x, p) :: fs)
inductive KRep (prog : Program) (w : World) (I : Led) : List (List Int × Addr × Value) → List (List Int × Int) → Prop
  | nil : KRep prog w I [] []
  | cons {ks : List Int} {a : Addr} {i : Int} {t : Tok} {xs : List (List Int × Addr × Value)} {kvs : List (List Int × Int)} :
      VRep I (.ref a) (.tup (ks.map .int)) → KRep prog w I xs kvs → KRep prog w I ((ks, a, .int i t) :: xs) ((ks, i) :: kvs)
inductive ORep (prog : Program) (w : World) (I : Led) (a : Addr) : AObj → Led → Prop
  | list {vs : List Value} {n : Nat} {l : List PV} : VAll I vs l → ORep prog w I a (.list l) [(a, listOf vs.toArray n)]
  | inst {C dx : Addr} {es : List DictEntry} {n : Nat} {fs : List (Str × PV)} : FRep w I es fs → ORep prog w I a (.inst C fs) [(a, instObj C dx), (dx, dictOf es n)]
  | dict {o : Obj} {es : Array DictEntry} {ep : Nat} {xs : List (List Int × Addr × Value)} {kvs : List (List Int × Int)} : (a == sysModules) = false → o.ExactDict → o.data = .dict es ep →
      es.toList = xs.map (entryOfKey (tupleKind (intKind prog w))) → (kvs.map (·.1)).Nodup → KRep prog w I xs kvs → ORep prog w I a (.dict kvs ep) [(a, o)]
  | cellS {o : Obj} {v : Value} {p : PV} : o.data = .cell (some v) → VRep I v p → ORep prog w I a (.cell (some p)) [(a, o)]
  | cellN {o : Obj} : o.data = .cell none → ORep prog w I a (.cell none) [(a, o)]
  | raw {o : Obj} : ORep prog w I a (.raw o) [(a, o)]
  | frame {o : Obj} {d : Data} : o.data = d → ORep prog w I a (.frame d) [(a, o)]
section
variable {prog : Program} {w : World} {I : Led} {a : Addr}
noncomputable def ORep.Inv (prog : Program) (w : World) (I : Led) (a : Addr) : AObj → Led → Prop
  | .list l, own => ∃ (vs : List Value) (n : Nat), VAll I vs l ∧ own = [(a, listOf vs.toArray n)]
  | .inst C fs, own => ∃ (dx : Addr) (es : List DictEntry) (n : Nat), FRep w I es fs ∧ own = [(a, instObj C dx), (dx, dictOf es n)]
  | .dict kvs ep, own => ∃ (o : Obj) (es : Array DictEntry) (xs : List (List Int × Addr × Value)), (a == sysModules) = false ∧ Obj.ExactDict o ∧ o.data = .dict es ep ∧ es.toList = xs.map (entryOfKey (tupleKind (intKind prog w))) ∧ (kvs.map (·.1)).Nodup ∧ KRep prog w I xs kvs ∧ own = [(a, o)]
  | .cell (some p), own => ∃ (o : Obj) (v : Value), o.data = .cell (some v) ∧ VRep I v p ∧ own = [(a, o)]
  | .cell none, own => ∃ o : Obj, o.data = .cell none ∧ own = [(a, o)]
  | .raw o, own => own = [(a, o)]
  | .frame d, own => ∃ o : Obj, o.data = d ∧ own = [(a, o)]
theorem ORep.inv {o : AObj} {own : Led} (k : ORep prog w I a o own) : ORep.Inv prog w I a o own :=
  ORep.rec (motive := fun o own _ => ORep.Inv prog w I a o own) (fun h => ⟨_, _, h, rfl⟩) (fun h => ⟨_, _, _, h, rfl⟩) (fun h0 h1 h2 h3 h4 h => ⟨_, _, _, h0, h1, h2, h3, h4, h, rfl⟩) (fun h r => ⟨_, _, h, r, rfl⟩) (fun h => ⟨_, h, rfl⟩) rfl (fun h => ⟨_, h, rfl⟩) k
theorem ORep.casesList {l : List PV} {motive : ∀ own, ORep prog w I a (.list l) own → Prop} (list : ∀ {vs : List Value} {n : Nat} (h : VAll I vs l), motive [(a, listOf vs.toArray n)] (.list h)) {own : Led} (k : ORep prog w I a (.list l) own) : motive own k := by
  obtain ⟨vs, n, h, e⟩ : ∃ (vs : List Value) (n : Nat), VAll I vs l ∧ own = [(a, listOf vs.toArray n)] := k.inv
  subst e; exact list h
theorem ORep.casesInst {Cl : Addr} {fs : List (Str × PV)} {motive : ∀ own, ORep prog w I a (.inst Cl fs) own → Prop} (inst : ∀ {dx : Addr} {es : List DictEntry} {n : Nat} (h : FRep w I es fs), motive [(a, instObj Cl dx), (dx, dictOf es n)] (.inst h)) {own : Led}
    (k : ORep prog w I a (.inst Cl fs) own) : motive own k := by
  obtain ⟨dx, es, n, h, e⟩ : ∃ (dx : Addr) (es : List DictEntry) (n : Nat), FRep w I es fs ∧ own = [(a, instObj Cl dx), (dx, dictOf es n)] := k.inv
  subst e; exact inst h
theorem ORep.casesDict {kvs : List (List Int × Int)} {ep : Nat} {motive : ∀ own, ORep prog w I a (.dict kvs ep) own → Prop} (dict : ∀ {o : Obj} {es : Array DictEntry} {xs : List (List Int × Addr × Value)} (h0 : (a == sysModules) = false) (h1 : o.ExactDict)
    (h2 : o.data = .dict es ep) (h3 : es.toList = xs.map (entryOfKey (tupleKind (intKind prog w)))) (h4 : (kvs.map (·.1)).Nodup) (h : KRep prog w I xs kvs), motive [(a, o)] (.dict h0 h1 h2 h3 h4 h)) {own : Led} (k : ORep prog w I a (.dict kvs ep) own) : motive own k := by
  obtain ⟨o, es, xs, h0, h1, h2, h3, h4, h, e⟩ : ∃ (o : Obj) (es : Array DictEntry) (xs : List (List Int × Addr × Value)), (a == sysModules) = false ∧ Obj.ExactDict o ∧ o.data = .dict es ep ∧ es.toList = xs.map (entryOfKey (tupleKind (intKind prog w))) ∧ (kvs.map (fun x : List Int × Int => x.1)).Nodup ∧ KRep prog w I xs kvs ∧ own = [(a, o)] := k.inv
  subst e; exact dict h0 h1 h2 h3 h4 h
theorem ORep.casesSome {p : PV} {motive : ∀ own, ORep prog w I a (.cell (some p)) own → Prop} (cellS : ∀ {o : Obj} {v : Value} (h : o.data = .cell (some v)) (r : VRep I v p), motive [(a, o)] (.cellS h r)) {own : Led} (k : ORep prog w I a (.cell (some p)) own) : motive own k := by
  obtain ⟨o, v, h, r, e⟩ : ∃ (o : Obj) (v : Value), o.data = .cell (some v) ∧ VRep I v p ∧ own = [(a, o)] := k.inv
  subst e; exact cellS h r
theorem ORep.casesRaw {o : Obj} {motive : ∀ own, ORep prog w I a (.raw o) own → Prop} (raw : motive [(a, o)] .raw) {own : Led} (k : ORep prog w I a (.raw o) own) : motive own k := by
  have e : own = [(a, o)] := k.inv
  subst e; exact raw
theorem ORep.casesFrame {d : Data} {motive : ∀ own, ORep prog w I a (.frame d) own → Prop} (frame : ∀ {o : Obj} (h : o.data = d), motive [(a, o)] (.frame h)) {own : Led} (k : ORep prog w I a (.frame d) own) : motive own k := by
  obtain ⟨o, h, e⟩ : ∃ o : Obj, o.data = d ∧ own = [(a, o)] := k.inv
  subst e; exact frame h
noncomputable def VRep.Inv (I : Led) (v : Value) : PV → Prop
  | .val u => v = u
  | .int i => ∃ t, v = .int i t
  | .str x => ∃ t, v = .str x t
  | .tup l => ∃ (a : Addr) (vs : List Value) (n : Nat), (a, tupObj vs n) ∈ I ∧ VAll I vs l ∧ v = .ref a
  | .lst l => ∃ (a : Addr) (vs : List Value) (n : Nat), (a, listOf vs.toArray n) ∈ I ∧ VAll I vs l ∧ v = .ref a
  | .obj o => ∃ a, (a, o) ∈ I ∧ v = .ref a
theorem VRep.inv {v : Value} {p : PV} (k : VRep I v p) : VRep.Inv I v p :=
  VRep.rec (motive_1 := fun v p _ => VRep.Inv I v p) (motive_2 := fun _ _ _ => True) (fun _ => rfl) (fun _ t => ⟨t, rfl⟩) (fun _ t => ⟨t, rfl⟩) (fun h r _ => ⟨_, _, _, h, r, rfl⟩) (fun h r _ => ⟨_, _, _, h, r, rfl⟩) (fun h => ⟨_, h, rfl⟩) trivial (fun _ _ _ _ => trivial) k
theorem VRep.casesTup {l : List PV} {motive : ∀ v, VRep I v (.tup l) → Prop} (tup : ∀ {a : Addr} {vs : List Value} {n : Nat} (h : (a, tupObj vs n) ∈ I) (r : VAll I vs l), motive (.ref a) (.tup h r)) {v : Value} (k : VRep I v (.tup l)) : motive v k := by
  obtain ⟨a, vs, n, h, r, e⟩ : ∃ (a : Addr) (vs : List Value) (n : Nat), (a, tupObj vs n) ∈ I ∧ VAll I vs l ∧ v = .ref a := k.inv
  subst e; exact tup h r
theorem VRep.casesLst {l : List PV} {motive : ∀ v, VRep I v (.lst l) → Prop} (lst : ∀ {a : Addr} {vs : List Value} {n : Nat} (h : (a, listOf vs.toArray n) ∈ I) (r : VAll I vs l), motive (.ref a) (.lst h r)) {v : Value} (k : VRep I v (.lst l)) : motive v k := by
  obtain ⟨a, vs, n, h, r, e⟩ : ∃ (a : Addr) (vs : List Value) (n : Nat), (a, listOf vs.toArray n) ∈ I ∧ VAll I vs l ∧ v = .ref a := k.inv
  subst e; exact lst h r
theorem VRep.casesInt {i : Int} {motive : ∀ v, VRep I v (.int i) → Prop} (int : ∀ t : Tok, motive (.int i t) (.int i t)) {v : Value} (k : VRep I v (.int i)) : motive v k := by
  obtain ⟨t, e⟩ : ∃ t, v = .int i t := k.inv
  subst e; exact int t
theorem VAll.casesNil {motive : ∀ vs, VAll I vs [] → Prop} (nil : motive [] .nil) {vs : List Value} (k : VAll I vs []) : motive vs k := by
  cases k with | nil => exact nil
theorem VAll.casesCons {p : PV} {ps : List PV} {motive : ∀ vs, VAll I vs (p :: ps) → Prop} (cons : ∀ {v : Value} {vs : List Value} (h : VRep I v p) (r : VAll I vs ps), motive (v :: vs) (.cons h r)) {vs : List Value} (k : VAll I vs (p :: ps)) : motive vs k := by
  cases k with | cons h r => exact cons h r
end
theorem FRep.mono {w : World} {I I' : Led} (hs : ∀ p ∈ I, p ∈ I') {es : List DictEntry} {fs : List (Str × PV)} (h : FRep w I es fs) : FRep w I' es fs := by
  induction h with
  | nil => exact .nil
  | cons h _ ih => exact .cons (h.mono hs) ih
theorem KRep.mono {prog : Program} {w : World} {I I' : Led} (hs : ∀ p ∈ I, p ∈ I') {xs : List (List Int × Addr × Value)} {fs : List (List Int × Int)} (h : KRep prog w I xs fs) : KRep prog w I' xs fs := by
  induction h with
  | nil => exact .nil
  | cons h _ ih => exact .cons (h.mono hs) ih
theorem ORep.mono {prog : Program} {w : World} {I I' : Led} (hs : ∀ p ∈ I, p ∈ I') {a : Addr} {o : AObj} {own : Led} (h : ORep prog w I a o own) : ORep prog w I' a o own :=
  ORep.rec (motive := fun o own _ => ORep prog w I' a o own) (fun h => .list (h.mono hs)) (fun h => .inst (h.mono hs)) (fun h0 h1 h2 h3 h4 h => .dict h0 h1 h2 h3 h4 (h.mono hs)) (fun h k => .cellS h (k.mono hs)) .cellN .raw .frame h
inductive Sep (prog : Program) (w : World) (I : Led) : Store → Led → Prop
  | nil : Sep prog w I [] []
  | cons {a : Addr} {o : AObj} {own : Led} {σ : Store} {D : Led} : ORep prog w I a o own → Sep prog w I σ D → Sep prog w I ((a, o) :: σ) (own ++ D)
theorem Sep.casesCons {prog : Program} {w : World} {I : Led} {a : Addr} {o : AObj} {σ : Store} {motive : ∀ S, Sep prog w I ((a, o) :: σ) S → Prop} (cons : ∀ {own D : Led} (r : ORep prog w I a o own) (k : Sep prog w I σ D), motive (own ++ D) (.cons r k)) {S : Led}
    (k : Sep prog w I ((a, o) :: σ) S) : motive S k := by
  cases k with | cons r k => exact cons r k
theorem VRep.casesObj {I : Led} {o : Obj} {motive : ∀ v, VRep I v (.obj o) → Prop} (obj : ∀ {a : Addr} (h : (a, o) ∈ I), motive (.ref a) (.obj h)) {v : Value} (k : VRep I v (.obj o)) : motive v k := by
  obtain ⟨a, h, e⟩ : ∃ a, (a, o) ∈ I ∧ v = .ref a := k.inv
  subst e; exact obj h
theorem Sep.mono {prog : Program} {w : World} {I I' : Led} (hs : ∀ p ∈ I, p ∈ I') {σ : Store} {D : Led} (h : Sep prog w I σ D) : Sep prog w I' σ D := by
  induction h with
  | nil => exact .nil
  | cons h _ ih => exact .cons (h.mono hs) ih
theorem Sep.append {prog : Program} {w : World} {I : Led} {σ σ' : Store} {D D' : Led} (h : Sep prog w I σ D) (k : Sep prog w I σ' D') : Sep prog w I (σ ++ σ') (D ++ D') := by
  induction h with
  | nil => exact k
  | cons h _ ih => rw [List.cons_append, List.append_assoc]; exact .cons h ih
theorem Sep.split {prog : Program} {w : World} {I : Led} {σ σ' : Store} {D : Led} (h : Sep prog w I (σ ++ σ') D) : ∃ D₁ D₂, D = D₁ ++ D₂ ∧ Sep prog w I σ D₁ ∧ Sep prog w I σ' D₂ := by
  induction σ generalizing D with
  | nil => exact ⟨[], D, rfl, .nil, h⟩
  | cons x σ ih =>
    cases h using Sep.casesCons with
    | cons h r =>
      obtain ⟨D₁, D₂, rfl, h1, h2⟩ := ih r
      exact ⟨_, D₂, (List.append_assoc ..).symm, .cons h h1, h2⟩
theorem Sep.find {prog : Program} {w : World} {I : Led} {σ : Store} {D : Led} {a : Addr} {o : AObj} (h : Sep prog w I σ D) (hm : (a, o) ∈ σ) :
    ∃ σ₁ σ₂ D₁ own D₂, σ = σ₁ ++ (a, o) :: σ₂ ∧ D = D₁ ++ (own ++ D₂) ∧ Sep prog w I σ₁ D₁ ∧ ORep prog w I a o own ∧ Sep prog w I σ₂ D₂ := by
  obtain ⟨σ₁, σ₂, rfl⟩ := List.append_of_mem hm
  obtain ⟨D₁, D', rfl, h1, h2⟩ := h.split
  cases h2 using Sep.casesCons with
  | cons k r => exact ⟨σ₁, σ₂, D₁, _, _, rfl, rfl, h1, k, r⟩
theorem Sep.perm {prog : Program} {w : World} {I : Led} {σ σ' : Store} (hp : σ.Perm σ') : ∀ {D : Led}, Sep prog w I σ D → ∃ D', Sep prog w I σ' D' ∧ D.Perm D' := by
  induction hp with
  | nil => intro D h; exact ⟨D, h, .refl _⟩
  | cons x _ ih =>
    intro D h
    cases h using Sep.casesCons with
    | cons h r =>
      obtain ⟨D', r', p⟩ := ih r
      exact ⟨_, .cons h r', p.append_left _⟩
  | swap x y l =>
    intro D h
    cases h using Sep.casesCons with
    | cons h r => cases r using Sep.casesCons with
      | cons h' r => exact ⟨_, .cons h' (.cons h r), List.append_assoc _ _ _ ▸ List.append_assoc _ _ _ ▸ List.Perm.append_right _ List.perm_append_comm⟩
  | trans _ _ ih1 ih2 =>
    intro D h
    obtain ⟨D₁, h1, p1⟩ := ih1 h
    obtain ⟨D₂, h2, p2⟩ := ih2 h1
    exact ⟨D₂, h2, p1.trans p2⟩
structure Ctx where
  prog : Program
  w : World
  A : Around
  env : Env
  fr : List Env
  h₀ : Heap
  J : Led
  I₀ : Led
  s₀ : Shared
noncomputable abbrev Ctx.M (C : Ctx) : Model := model C.prog C.w
structure Ctx.Ok (C : Ctx) (n : Nat) : Prop where
  stack : C.A.frames = some C.fr
  X : (hd.heap_1 C.w.params).In C.h₀
  T : ∃ p loose mean mg mb, Top p loose mean mg mb C.h₀
  hh : C.A.handled = none
  depth : C.A.depth + n ≤ 500
  units : C.A.units + 10 * n ≤ 5000
  hk : C.env.scope.kind = .function
  gl : C.env.globals = mainGlobals
  bi : C.env.builtins = builtinsNs
theorem Ctx.Ok.le {C : Ctx} {n k : Nat} (O : C.Ok n) (h : k ≤ n) : C.Ok k :=
  ⟨O.stack, O.X, O.T, O.hh, by have := O.depth; (first | lia | omega), by have := O.units; (first | lia | omega), O.hk, O.gl, O.bi⟩
noncomputable abbrev Locs := List (Str × PV)
noncomputable abbrev Tmp := List (Value × PV)
structure InvD (C : Ctx) (ρ : Locs) (σ : Store) (τ : Tmp) (s : Shared) (m : Str → Option Value) (S I : Led) : Prop where
  F : Fr C.h₀ C.env.locals s.heap m
  N : News C.h₀ C.env.locals s.heap (S ++ (C.J ++ I))
  nd : ((S ++ (C.J ++ I)).map (·.1)).Nodup
  sep : Sep C.prog C.w I σ S
  sub : ∀ p ∈ C.I₀, p ∈ I
  loc : ∀ x p, ρ.lookup x = some p → ∃ v, m x = some v ∧ VRep I v p
  tmp : ∀ q ∈ τ, VRep I q.1 q.2
  g : s.gens = C.s₀.gens
  d : s.drawn = C.s₀.drawn
  os : s.os = C.s₀.os
noncomputable def Inv (C : Ctx) (ρ : Locs) (σ : Store) (τ : Tmp) (s : Shared) : Prop := ∃ m S I, InvD C ρ σ τ s m S I
theorem Inv.out {C : Ctx} {ρ : Locs} {σ : Store} {τ : Tmp} {s : Shared} {P : Prop} (J : Inv C ρ σ τ s) (k : ∀ m S I, InvD C ρ σ τ s m S I → P) : P := J.elim fun m h => h.elim fun S h => h.elim fun I D => k m S I D
theorem Inv.weak {C : Ctx} {ρ ρ' : Locs} {σ : Store} {τ τ' : Tmp} {s : Shared} (h : Inv C ρ σ τ s) (hρ : ∀ x p, ρ'.lookup x = some p → ρ.lookup x = some p) (hτ : ∀ q ∈ τ', q ∈ τ) : Inv C ρ' σ τ' s := by
  obtain ⟨m, S, I, D⟩ := h
  exact ⟨m, S, I, { D with loc := fun x p e => D.loc x p (hρ x p e), tmp := fun q hq => D.tmp q (hτ q hq) }⟩
theorem Inv.tmps {C : Ctx} {ρ : Locs} {σ : Store} {τ τ' : Tmp} {s : Shared} (h : Inv C ρ σ τ s) (hτ : ∀ q ∈ τ', q ∈ τ) : Inv C ρ σ τ' s := h.weak (fun _ _ e => e) hτ
theorem Inv.drop {C : Ctx} {ρ : Locs} {σ : Store} {τ : Tmp} {q : Value × PV} {s : Shared} (h : Inv C ρ σ (q :: τ) s) : Inv C ρ σ τ s := h.tmps fun _ hq => .tail _ hq
theorem Inv.tok {C : Ctx} {ρ : Locs} {σ : Store} {τ : Tmp} {s : Shared} {t : Nat} (h : Inv C ρ σ τ s) : Inv C ρ σ τ { s with toks := t } := by
  obtain ⟨m, S, I, D⟩ := h
  exact ⟨m, S, I, { D with }⟩
theorem Inv.push {C : Ctx} {ρ : Locs} {σ : Store} {τ : Tmp} {s : Shared} {v : Value} {p : PV} (h : Inv C ρ σ τ s) (hv : ∀ I, VRep I v p) : Inv C ρ σ ((v, p) :: τ) s := by
  obtain ⟨m, S, I, D⟩ := h
  exact ⟨m, S, I, { D with tmp := fun q hq => by rcases List.mem_cons.mp hq with rfl | hq; exact hv I; exact D.tmp q hq }⟩
theorem Inv.perm {C : Ctx} {ρ : Locs} {σ σ' : Store} {τ : Tmp} {s : Shared} (h : Inv C ρ σ τ s) (hp : σ.Perm σ') : Inv C ρ σ' τ s := by
  obtain ⟨m, S, I, D⟩ := h
  obtain ⟨S', h', p⟩ := D.sep.perm hp
  have p' : (S ++ (C.J ++ I)).Perm (S' ++ (C.J ++ I)) := p.append_right _
  exact ⟨m, S', I, { D with N := fun q hq => D.N q (p'.mem_iff.mpr hq), nd := (p'.map _).nodup_iff.mp D.nd, sep := h' }⟩
end
section
inductive UpdS (a : Addr) (o o' : AObj) : Store → Store → Prop
  | head {σ : Store} : UpdS a o o' ((a, o) :: σ) ((a, o') :: σ)
  | tail {x : Addr × AObj} {σ σ' : Store} : UpdS a o o' σ σ' → UpdS a o o' (x :: σ) (x :: σ')
theorem UpdS.split {a : Addr} {o o' : AObj} {σ σ' : Store} (U : UpdS a o o' σ σ') : ∃ σ₁ σ₂, σ = σ₁ ++ (a, o) :: σ₂ ∧ σ' = σ₁ ++ (a, o') :: σ₂ := by
  induction U with
  | head => exact ⟨[], _, rfl, rfl⟩
  | tail _ ih => obtain ⟨σ₁, σ₂, rfl, rfl⟩ := ih; exact ⟨_ :: σ₁, σ₂, rfl, rfl⟩
theorem UpdS.mem {a : Addr} {o o' : AObj} {σ σ' : Store} (U : UpdS a o o' σ σ') : (a, o) ∈ σ := by
  obtain ⟨σ₁, σ₂, rfl, _⟩ := U.split; simp
theorem nodup_fresh {news : Led} {n : Nat} {o : Obj} (h : ∀ p ∈ news, p.1 < n) (nd : (news.map (·.1)).Nodup) : (((n, o) :: news).map (·.1)).Nodup := by
  refine List.nodup_cons.mpr ⟨fun q => ?_, nd⟩
  obtain ⟨p, hp, e⟩ := List.mem_map.mp q
  exact Nat.lt_irrefl _ (e ▸ h p hp)
theorem News.sub {h₀ h : Heap} {L : Addr} {l l' : Led} (N : News h₀ L h l) (hs : ∀ p ∈ l', p ∈ l) : News h₀ L h l' := fun p hp => N p (hs p hp)
theorem News.lt {h₀ h : Heap} {L : Addr} {l : Led} (N : News h₀ L h l) : ∀ p ∈ l, p.1 < h.objs.size := fun p hp => Heap.lt_size (N p hp).1
section
variable {C : Ctx} {ρ : Locs} {σ : Store} {τ : Tmp} {s : Shared} {m : Str → Option Value} {S I : Led}
theorem mem3 {p : Addr × Obj} {S J I : Led} : p ∈ S ++ (J ++ I) ↔ p ∈ S ∨ p ∈ J ∨ p ∈ I := by
  rw [List.mem_append, List.mem_append]
theorem InvD.growI (D : InvD C ρ σ τ s m S I) {own : Led} {h' : Heap} {tk : Nat} (F' : Fr C.h₀ C.env.locals h' m) (N' : News C.h₀ C.env.locals h' (own ++ (S ++ (C.J ++ I))))
    (nd' : ((own ++ (S ++ (C.J ++ I))).map (·.1)).Nodup) : InvD C ρ σ τ { s with heap := h', toks := tk } m S (own ++ I) := by
  have hp : (own ++ (S ++ (C.J ++ I))).Perm (S ++ (C.J ++ (own ++ I))) := by
    refine List.Perm.trans (List.perm_append_comm_assoc _ _ _) (List.Perm.append_left _ ?_)
    exact List.perm_append_comm_assoc _ _ _
  have hm : ∀ p ∈ I, p ∈ own ++ I := fun p h => List.mem_append_right _ h
  exact ⟨F', News.sub N' fun p h => hp.mem_iff.mpr h, (hp.map _).nodup_iff.mp nd', D.sep.mono hm, fun p h => hm p (D.sub p h), fun x p e => by
    obtain ⟨v, hv, r⟩ := D.loc x p e; exact ⟨v, hv, r.mono hm⟩, fun q hq => (D.tmp q hq).mono hm, D.g, D.d, D.os⟩
theorem InvD.growS (D : InvD C ρ σ τ s m S I) {own : Led} {a : Addr} {o : AObj} {h' : Heap} {tk : Nat} (F' : Fr C.h₀ C.env.locals h' m) (N' : News C.h₀ C.env.locals h' (own ++ (S ++ (C.J ++ I))))
    (nd' : ((own ++ (S ++ (C.J ++ I))).map (·.1)).Nodup) (hr : ORep C.prog C.w I a o own) : InvD C ρ ((a, o) :: σ) τ { s with heap := h', toks := tk } m (own ++ S) I :=
  ⟨F', by rw [List.append_assoc]; exact N', by rw [List.append_assoc]; exact nd', .cons hr D.sep, D.sub, D.loc, D.tmp, D.g, D.d, D.os⟩
theorem InvD.pushI (D : InvD C ρ σ τ s m S I) (o : Obj) {tk : Nat} (hf : o.isFreed = false := by rfl) : InvD C ρ σ τ { s with heap := s.heap.push o, toks := tk } m S ((s.heap.objs.size, o) :: I) :=
  D.growI (own := [(s.heap.objs.size, o)]) (D.F.push o) (D.N.push D.F o hf) (nodup_fresh (News.lt D.N) D.nd)
theorem InvD.pushS (D : InvD C ρ σ τ s m S I) {o : Obj} {ao : AObj} {tk : Nat} (hr : ORep C.prog C.w I s.heap.objs.size ao [(s.heap.objs.size, o)]) (hf : o.isFreed = false := by rfl) :
    InvD C ρ ((s.heap.objs.size, ao) :: σ) τ { s with heap := s.heap.push o, toks := tk } m ((s.heap.objs.size, o) :: S) I :=
  D.growS (own := [(s.heap.objs.size, o)]) (D.F.push o) (D.N.push D.F o hf) (nodup_fresh (News.lt D.N) D.nd) hr
theorem InvD.upd (D : InvD C ρ σ τ s m S I) {a : Addr} {o o' : AObj} {σ' : Store} (U : UpdS a o o' σ σ') :
    ∃ D₁ own D₂, S = D₁ ++ (own ++ D₂) ∧ ORep C.prog C.w I a o own ∧ ∀ own' h' tk, ORep C.prog C.w I a o' own' → own'.map (·.1) = own.map (·.1) → Fr C.h₀ C.env.locals h' m →
      News C.h₀ C.env.locals h' (D₁ ++ (own' ++ (D₂ ++ (C.J ++ I)))) → InvD C ρ σ' τ { s with heap := h', toks := tk } m (D₁ ++ (own' ++ D₂)) I := by
  obtain ⟨σ₁, σ₂, rfl, rfl⟩ := U.split
  obtain ⟨D₁, D', e, h1, h2⟩ := D.sep.split
  cases h2 using Sep.casesCons with
  | cons k r =>
    rename_i own D₂
    refine ⟨D₁, own, D₂, e, k, fun own' h' tk k' ea F' N' => ?_⟩
    refine ⟨F', by simpa [List.append_assoc] using N', ?_, h1.append (.cons k' r), D.sub, D.loc, D.tmp, D.g, D.d, D.os⟩
    have nd := D.nd
    rw [e] at nd
    simpa [List.map_append, ea] using nd
theorem InvD.apart (D : InvD C ρ σ τ s m S I) {D₁ own D₂ : Led} (e : S = D₁ ++ (own ++ D₂)) {q : Addr × Obj} (hq : q ∈ own) : (∀ p ∈ D₁, p.1 ≠ q.1) ∧ (∀ p ∈ D₂ ++ (C.J ++ I), p.1 ≠ q.1) := by
  have nd := D.nd
  subst e
  rw [List.append_assoc, List.append_assoc, List.map_append, List.map_append] at nd
  have n1 := List.nodup_append.mp nd
  have n2 := List.nodup_append.mp n1.2.1
  refine ⟨fun p hp => n1.2.2 _ (List.mem_map_of_mem hp) _ (List.mem_append_left _ (List.mem_map_of_mem hq)), fun p hp => Ne.symm (n2.2.2 _ (List.mem_map_of_mem hq) _ (List.mem_map_of_mem hp))⟩
theorem InvD.store (D : InvD C ρ σ τ s m S I) {x : Str} {v : Value} {p : PV} {h' : Heap} {tk : Nat} (hv : VRep I v p) (hn : h'.Ns C.env.locals (fun y => if y = x then some v else m y)) (hs : Heap.SameBut C.env.locals s.heap h') :
    InvD C ((x, p) :: ρ) σ τ { s with heap := h', toks := tk } (fun y => if y = x then some v else m y) S I := by
  refine ⟨D.F.set hn hs, D.N.set hs, D.nd, D.sep, D.sub, fun y q e => ?_, D.tmp, D.g, D.d, D.os⟩
  rw [List.lookup_cons] at e
  by_cases hy : y = x
  · subst hy
    simp at e; subst e
    exact ⟨v, if_pos rfl, hv⟩
  · have : (y == x) = false := by simpa using hy
    rw [this] at e
    obtain ⟨w, hw, r⟩ := D.loc y q e
    exact ⟨w, by rw [if_neg hy]; exact hw, r⟩
end
noncomputable def AE (C : Ctx) (ρ : Locs) (σ : Store) (e : Expr) (K : PV → Store → Prop) : Prop :=
  ∀ τ s (Q : Value → Shared → Prop) E, Inv C ρ σ τ s → (∀ v p σ' s', K p σ' → Inv C ρ σ' ((v, p) :: τ) s' → Q v s') → wpAny C.M C.A (eval e C.env) Q E s
noncomputable def AT (C : Ctx) (ρ : Locs) (σ : Store) (e : Expr) (K : Bool → Store → Prop) : Prop :=
  ∀ τ s (Q : Bool → Shared → Prop) E, Inv C ρ σ τ s → (∀ b σ' s', K b σ' → Inv C ρ σ' τ s' → Q b s') → wpAny C.M C.A (isTrue e C.env (eval e C.env)) Q E s
inductive Fl where
  | next | brk | cont
  | ret (p : PV)
structure Post (C : Ctx) (K : Fl → Locs → Store → Prop) (Q : Flow → Shared → Prop) : Prop where
  next : ∀ ρ σ s, K .next ρ σ → Inv C ρ σ [] s → Q .next s
  brk : ∀ ρ σ s, K .brk ρ σ → Inv C ρ σ [] s → Q .brk s
  cont : ∀ ρ σ s, K .cont ρ σ → Inv C ρ σ [] s → Q .cont s
  ret : ∀ v p ρ σ s, K (.ret p) ρ σ → Inv C ρ σ [(v, p)] s → Q (.ret v) s
noncomputable def AX (C : Ctx) (ρ : Locs) (σ : Store) (ss : List Stmt) (K : Fl → Locs → Store → Prop) : Prop :=
  ∀ s (Q : Flow → Shared → Prop) E, Inv C ρ σ [] s → Post C K Q → wpAny C.M C.A (execs ss C.env) Q E s
noncomputable def AS (C : Ctx) (ρ : Locs) (σ : Store) (st : Stmt) (K : Fl → Locs → Store → Prop) : Prop :=
  ∀ s (Q : Flow → Shared → Prop) E, Inv C ρ σ [] s → Post C K Q → wpAny C.M C.A (exec st C.env) Q E s
noncomputable def AG (C : Ctx) (ρ : Locs) (σ : Store) (t : Expr) (p : PV) (K : Locs → Store → Prop) : Prop :=
  ∀ τ s v (Q : Unit → Shared → Prop) E, Inv C ρ σ τ s → (v, p) ∈ τ → (∀ ρ' σ' s', K ρ' σ' → Inv C ρ' σ' τ s' → Q () s') → wpAny C.M C.A (assign t C.env v) Q E s
section
variable {C : Ctx} {n : Nat} {ρ : Locs} {σ : Store} {e l r : Expr} {K : PV → Store → Prop} {sc : Scope} {x : Str} {pos : Pos} {p : PV}
theorem AE.mono {K' : PV → Store → Prop} (h : AE C ρ σ e K) (hk : ∀ p σ', K p σ' → K' p σ') : AE C ρ σ e K' :=
  fun τ s Q E J q => h τ s Q E J fun v p σ' s' k J' => q v p σ' s' (hk p σ' k) J'
theorem AE.loc (O : C.Ok n) (hs : C.env.scope = sc) (hx : sc.names.lookup x = some .local) (hv : ρ.lookup x = some p) (hd : (x == ("__debug__" : Str)) = false) (k : K p σ) : AE C ρ σ (.Name x pos) K := by
  intro τ s Q E ⟨m, S, I, D⟩ q
  obtain ⟨v, hm, hr⟩ := D.loc x p hv
  refine wpAny_Name (wpAny_loadName_local O.hk (by rw [Env.kindOf, hs]; exact hx) D.F.ns hm ?_) hd
  exact q v p σ s k ⟨m, S, I, { D with tmp := fun q hq => by rcases List.mem_cons.mp hq with rfl | hq; exact hr; exact D.tmp q hq }⟩
theorem AE.glob {v : Value} (O : C.Ok n) (hs : C.env.scope = sc) (hx : sc.names.lookup x = some .globalImplicit) (hv : nsIn (hd.heap_1 C.w.params) mainGlobals x = some (some v)) (hd : (x == ("__debug__" : Str)) = false) (k : K (.val v) σ) : AE C ρ σ (.Name x pos) K := by
  intro τ s Q E J q
  refine Inv.out J fun m S I D => ?_
  obtain ⟨_, _, _, _, _, T⟩ := O.T
  refine nameG_K D.F O.X (topRead_of T) hv ?_ O.gl O.hk (by rw [Env.kindOf, hs]; exact hx) hd
  exact q v _ σ s k (Inv.push ⟨m, S, I, D⟩ fun _ => .val v)
theorem AE.blt {v : Value} (O : C.Ok n) (hs : C.env.scope = sc) (hx : sc.names.lookup x = some .globalImplicit) (hv : nsIn (hd.heap_1 C.w.params) mainGlobals x = some none) (hb : bootBuiltins x = some v) (hn : x ≠ "__name__") (hd : (x == ("__debug__" : Str)) = false)
    (k : K (.val v) σ) : AE C ρ σ (.Name x pos) K := by
  intro τ s Q E J q
  refine Inv.out J fun m S I D => ?_
  obtain ⟨_, _, _, _, _, T⟩ := O.T
  refine Name_function_global O.hk (by rw [Env.kindOf, hs]; exact hx) (loadGlobal_builtin (by rw [O.gl]; exact T.g.keeps D.F.keep) (mg_none_of O.X T.g hv) (by rw [O.bi]; exact T.b.keeps D.F.keep) ((T.builtins x hn).trans hb) ?_) hd
  exact q v _ σ s k (Inv.push ⟨m, S, I, D⟩ fun _ => .val v)
theorem InvD.cell {τ : Tmp} {s : Shared} {m : Str → Option Value} {S I : Led} (D : InvD C ρ σ τ s m S I) {c : Addr} (hm : (c, AObj.cell (some p)) ∈ σ) : ∃ v, s.heap.IsCell c (some v) ∧ VRep I v p := by
  obtain ⟨_, _, D₁, own, D₂, _, e, _, k, _⟩ := D.sep.find hm
  cases k using ORep.casesSome with
  | cellS hd hv => exact ⟨_, ⟨_, (D.N (c, _) (mem3.mpr (.inl (by rw [e]; exact List.mem_append_right _ (.head _))))).1, hd⟩, hv⟩
theorem AE.cell {c : Addr} {kd : NameKind} (O : C.Ok n) (hs : C.env.scope = sc) (hx : sc.names.lookup x = some kd) (hkd : kd = .cell ∨ kd = .free) (hc : C.env.cells.lookup x = some c) (hm : (c, AObj.cell (some p)) ∈ σ)
    (hd : (x == ("__debug__" : Str)) = false) (hn : (x == ("__classdict__" : Str)) = false) (k : K p σ) : AE C ρ σ (.Name x pos) K := by
  intro τ s Q E ⟨m, S, I, D⟩ q
  obtain ⟨v, hv, hr⟩ := D.cell hm
  have fin : Q v s := q v p σ s k ⟨m, S, I, { D with tmp := fun q hq => by rcases List.mem_cons.mp hq with rfl | hq; exact hr; exact D.tmp q hq }⟩
  rcases hkd with rfl | rfl
  · exact wpAny_Name (wpAny_loadName_cell O.hk (by rw [Env.kindOf, hs]; exact hx) hc hv fin) hd
  · exact wpAny_Name (wpAny_loadName_free O.hk (by rw [Env.kindOf, hs]; exact hx) hc hv fin hn) hd
theorem AE.int {i : Int} {kk : Nat} (k : K (.int i) σ) : AE C ρ σ (.Constant (.int i) kk pos) K := by
  intro τ s Q E J q
  exact wpAny_Constant_int (q _ _ σ _ k (Inv.push J.tok fun _ => .int i _))
theorem AE.str {i : Str} {kk : Nat} (k : K (.str i) σ) : AE C ρ σ (.Constant (.str i) kk pos) K := by
  intro τ s Q E J q
  rw [eval_Constant]
  exact wpAny_bind (wpAny_fresh (wpAny_pure (q _ _ σ _ k (Inv.push J.tok fun _ => .str i _))))
theorem AE.none {kk : Nat} (k : K .none σ) : AE C ρ σ (.Constant .none kk pos) K := by
  intro τ s Q E J q
  rw [eval_Constant]
  exact wpAny_pure (q _ _ σ _ k (Inv.push J fun _ => .val _))
theorem AE.bool {b : Bool} {kk : Nat} (k : K (.bool b) σ) : AE C ρ σ (.Constant (.bool b) kk pos) K := by
  intro τ s Q E J q
  rw [eval_Constant]
  exact wpAny_pure (q _ _ σ _ k (Inv.push J fun _ => .val _))
noncomputable def AO2 (C : Ctx) (ρ : Locs) (σ : Store) (f : Value → Value → Sem Value) (a b : PV) (K : PV → Store → Prop) : Prop :=
  ∀ τ s va vb (Q : Value → Shared → Prop) E, Inv C ρ σ τ s → (va, a) ∈ τ → (vb, b) ∈ τ → (∀ v p σ' s', K p σ' → Inv C ρ σ' ((v, p) :: τ) s' → Q v s') → wpAny C.M C.A (f va vb) Q E s
noncomputable abbrev BinK2 (C : Ctx) (ρ : Locs) (f : Value → Value → Sem Value) (a : PV) (K : PV → Store → Prop) : PV → Store → Prop := fun b σ₂ => AO2 C ρ σ₂ f a b K
noncomputable abbrev BinK (C : Ctx) (ρ : Locs) (r : Expr) (f : Value → Value → Sem Value) (K : PV → Store → Prop) : PV → Store → Prop := fun a σ₁ => AE C ρ σ₁ r (BinK2 C ρ f a K)
noncomputable abbrev BoolK (K : Bool → Store → Prop) : PV → Store → Prop := fun p σ => ∃ b, p = .bool b ∧ K b σ
theorem BoolK.mk {K : Bool → Store → Prop} {b : Bool} {σ : Store} (k : K b σ) : BoolK K (.bool b) σ := ⟨b, rfl, k⟩
theorem AE.binop {op : Operator} (h : AE C ρ σ l (BinK C ρ r (binaryOp op) K)) : AE C ρ σ (.BinOp l op r pos) K := by
  intro τ s Q E J q
  refine wpAny_BinOp (h τ s _ E J fun va a σ₁ s₁ h₁ J₁ => h₁ _ s₁ _ E J₁ fun vb b σ₂ s₂ h₂ J₂ => ?_)
  exact h₂ _ s₂ va vb Q E J₂ (.tail _ (.head _)) (.head _) fun v p σ' s' k J' => q v p σ' s' k (J'.tmps fun q hq => by
    rcases List.mem_cons.mp hq with rfl | hq
    · exact .head _
    · exact .tail _ (.tail _ (.tail _ hq)))
theorem AE.cmp {op : CmpOp} (h : AE C ρ σ l (BinK C ρ r (compareOp op) K)) (hm : behindInMarks op r = false) : AE C ρ σ (.Compare l [op] [r] pos) K := by
  intro τ s Q E J q
  refine wpAny_Compare1 (h τ s _ E J fun va a σ₁ s₁ h₁ J₁ => h₁ _ s₁ _ E J₁ fun vb b σ₂ s₂ h₂ J₂ => ?_) hm
  exact h₂ _ s₂ va vb Q E J₂ (.tail _ (.head _)) (.head _) fun v p σ' s' k J' => q v p σ' s' k (J'.tmps fun q hq => by
    rcases List.mem_cons.mp hq with rfl | hq
    · exact .head _
    · exact .tail _ (.tail _ (.tail _ hq)))
theorem AT.cmp {op : CmpOp} {K : Bool → Store → Prop} (h : AE C ρ σ l (BinK C ρ r (compareOp op) (BoolK K))) (hm : behindInMarks op r = false) :
    AT C ρ σ (.Compare l [op] [r] pos) K := by
  intro τ s Q E J q
  refine wpAny_isTrue_Compare1 (h τ s _ E J fun va a σ₁ s₁ h₁ J₁ => h₁ _ s₁ _ E J₁ fun vb b σ₂ s₂ h₂ J₂ => ?_) hm
  refine h₂ _ s₂ va vb _ E J₂ (.tail _ (.head _)) (.head _) fun v p σ' s' k J' => ?_
  obtain ⟨b, rfl, k⟩ := k
  refine Inv.out J' fun m S I D => ?_
  have := D.tmp _ (.head _)
  cases this
  exact wpAny_truthy_bool (q b σ' s' k (Inv.tmps ⟨m, S, I, D⟩ fun q hq => .tail _ (.tail _ (.tail _ hq))))
end
end
section
set_option tactic.hygienic false
section
variable {C : Ctx} {ρ : Locs} {σ : Store} {τ : Tmp} {s : Shared} {v : Value}
theorem Inv.rep {p : PV} (J : Inv C ρ σ τ s) (h : (v, p) ∈ τ) : ∃ I, VRep I v p := by
  obtain ⟨m, S, I, D⟩ := J; exact ⟨I, D.tmp _ h⟩
theorem Inv.getInt {i : Int} (J : Inv C ρ σ τ s) (h : (v, PV.int i) ∈ τ) : ∃ t, v = .int i t := by
  obtain ⟨I, r⟩ := J.rep h; cases r; exact ⟨_, rfl⟩
theorem Inv.getStr {i : Str} (J : Inv C ρ σ τ s) (h : (v, PV.str i) ∈ τ) : ∃ t, v = .str i t := by
  obtain ⟨I, r⟩ := J.rep h; cases r; exact ⟨_, rfl⟩
theorem Inv.getVal {u : Value} (J : Inv C ρ σ τ s) (h : (v, PV.val u) ∈ τ) : v = u := by
  obtain ⟨I, r⟩ := J.rep h; cases r; rfl
end
section
variable {C : Ctx} {n : Nat} {ρ : Locs} {σ : Store} {K : PV → Store → Prop} {a b : Int} {x y : Str} {c d : Bool}
theorem AO2.add (k : K (.int (a + b)) σ) : AO2 C ρ σ (binaryOp .Add) (.int a) (.int b) K := by
  intro τ s va vb Q E J ha hb q
  obtain ⟨t, rfl⟩ := J.getInt ha; obtain ⟨u, rfl⟩ := J.getInt hb
  exact PySem.P.add_int (q _ _ σ _ k (J.tok.push fun _ => .int _ _))
theorem AO2.sub (k : K (.int (a - b)) σ) : AO2 C ρ σ (binaryOp .Sub) (.int a) (.int b) K := by
  intro τ s va vb Q E J ha hb q
  obtain ⟨t, rfl⟩ := J.getInt ha; obtain ⟨u, rfl⟩ := J.getInt hb
  exact PySem.P.sub_int (q _ _ σ _ k (J.tok.push fun _ => .int _ _))
theorem AO2.mul (hm : IntMulOk a b) (k : K (.int (a * b)) σ) : AO2 C ρ σ (binaryOp .Mult) (.int a) (.int b) K := by
  intro τ s va vb Q E J ha hb q
  obtain ⟨t, rfl⟩ := J.getInt ha; obtain ⟨u, rfl⟩ := J.getInt hb
  exact PySem.P.mul_int (q _ _ σ _ k (J.tok.push fun _ => .int _ _)) hm
theorem AO2.floordiv (hb0 : b ≠ 0) (hz : b.natAbs < 1073741824) (k : K (.int (a.fdiv b)) σ) : AO2 C ρ σ (binaryOp .FloorDiv) (.int a) (.int b) K := by
  intro τ s va vb Q E J ha hb q
  obtain ⟨t, rfl⟩ := J.getInt ha; obtain ⟨u, rfl⟩ := J.getInt hb
  exact floordiv_int hb0 (q _ _ σ _ k (J.tok.push fun _ => .int _ _)) (.inl (PyProof.noPylong_small hz))
theorem AO2.mod (hb0 : b ≠ 0) (k : K (.int (a.fmod b)) σ) : AO2 C ρ σ (binaryOp .Mod) (.int a) (.int b) K := by
  intro τ s va vb Q E J ha hb q
  obtain ⟨t, rfl⟩ := J.getInt ha; obtain ⟨u, rfl⟩ := J.getInt hb
  exact mod_int' hb0 (q _ _ σ _ k (J.tok.push fun _ => .int _ _))
theorem AO2.eqI (k : K (.bool (decide (a = b))) σ) : AO2 C ρ σ (compareOp .Eq) (.int a) (.int b) K := by
  intro τ s va vb Q E J ha hb q
  obtain ⟨t, rfl⟩ := J.getInt ha; obtain ⟨u, rfl⟩ := J.getInt hb
  exact PySem.P.eq_int (q _ (.bool (decide (a = b))) σ _ k (J.push fun _ => by rw [show (a == b) = decide (a = b) from rfl]; exact .val _))
theorem AO2.neI (k : K (.bool (decide (a ≠ b))) σ) : AO2 C ρ σ (compareOp .NotEq) (.int a) (.int b) K := by
  intro τ s va vb Q E J ha hb q
  obtain ⟨t, rfl⟩ := J.getInt ha; obtain ⟨u, rfl⟩ := J.getInt hb
  exact PySem.P.ne_int (q _ (.bool (decide (a ≠ b))) σ _ k (J.push fun _ => by rw [show (a != b) = decide (a ≠ b) from by by_cases h : a = b <;> simp [h]]; exact .val _))
theorem AO2.lt (k : K (.bool (decide (a < b))) σ) : AO2 C ρ σ (compareOp .Lt) (.int a) (.int b) K := by
  intro τ s va vb Q E J ha hb q
  obtain ⟨t, rfl⟩ := J.getInt ha; obtain ⟨u, rfl⟩ := J.getInt hb
  exact PySem.P.lt_int (q _ _ σ _ k (J.push fun _ => .val _))
theorem AO2.le (k : K (.bool (decide (a ≤ b))) σ) : AO2 C ρ σ (compareOp .LtE) (.int a) (.int b) K := by
  intro τ s va vb Q E J ha hb q
  obtain ⟨t, rfl⟩ := J.getInt ha; obtain ⟨u, rfl⟩ := J.getInt hb
  exact PySem.P.le_int (q _ _ σ _ k (J.push fun _ => .val _))
theorem AO2.gt (k : K (.bool (decide (a > b))) σ) : AO2 C ρ σ (compareOp .Gt) (.int a) (.int b) K := by
  intro τ s va vb Q E J ha hb q
  obtain ⟨t, rfl⟩ := J.getInt ha; obtain ⟨u, rfl⟩ := J.getInt hb
  exact PySem.P.gt_int (q _ _ σ _ k (J.push fun _ => .val _))
theorem AO2.ge (k : K (.bool (decide (a ≥ b))) σ) : AO2 C ρ σ (compareOp .GtE) (.int a) (.int b) K := by
  intro τ s va vb Q E J ha hb q
  obtain ⟨t, rfl⟩ := J.getInt ha; obtain ⟨u, rfl⟩ := J.getInt hb
  exact PySem.P.ge_int (q _ _ σ _ k (J.push fun _ => .val _))
theorem str_beq (x y : Str) : (x.cps.toList == y.cps.toList) = decide (x = y) := by
  by_cases h : x = y
  · subst h; simp
  · rw [decide_eq_false h]
    refine Bool.eq_false_iff.mpr fun e => h ?_
    have := eq_of_beq e
    cases x; cases y; simp at this; simp [this]
theorem AO2.eqS (k : K (.bool (decide (x = y))) σ) : AO2 C ρ σ (compareOp .Eq) (.str x) (.str y) K := by
  intro τ s va vb Q E J ha hb q
  obtain ⟨t, rfl⟩ := J.getStr ha; obtain ⟨u, rfl⟩ := J.getStr hb
  exact PySem.P.eq_str (q _ (.bool (decide (x = y))) σ _ k (J.push fun _ => by rw [str_beq]; exact .val _))
theorem AO2.eqB (k : K (.bool (c == d)) σ) : AO2 C ρ σ (compareOp .Eq) (.bool c) (.bool d) K := by
  intro τ s va vb Q E J ha hb q
  cases J.getVal ha; cases J.getVal hb
  exact eq_bool (q _ _ σ _ k (J.push fun _ => .val _))
noncomputable def PV.notNone : PV → Bool
  | .val v => !(v == .none)
  | _ => true
theorem VRep.isNone {I : Led} {v : Value} {p : PV} (h : VRep I v p) : (v == .none) = !p.notNone := by
  cases h <;> simp [PV.notNone]
theorem AO2.isNoneP {p : PV} (k : K (.bool (!p.notNone)) σ) : AO2 C ρ σ (compareOp .Is) p .none K := by
  intro τ s va vb Q E J ha hb q
  obtain ⟨I, r⟩ := J.rep ha; cases J.getVal hb
  exact PySem.is_none (q _ (.bool (!p.notNone)) σ _ k (J.push fun _ => by rw [r.isNone]; exact .val _))
theorem AO2.isNotNoneP {p : PV} (k : K (.bool p.notNone) σ) : AO2 C ρ σ (compareOp .IsNot) p .none K := by
  intro τ s va vb Q E J ha hb q
  obtain ⟨I, r⟩ := J.rep ha; cases J.getVal hb
  exact PySem.isNot_none (q _ (.bool p.notNone) σ _ k (J.push fun _ => by rw [r.isNone, Bool.not_not]; exact .val _))
end
section
variable {C : Ctx} {n : Nat} {ρ : Locs} {σ : Store} {e e₁ e₂ l r r₂ test body orelse : Expr} {rest : List Expr} {K : PV → Store → Prop} {KB : Bool → Store → Prop} {pos : Pos} {a b c : Int}
theorem AT.mono {K' : Bool → Store → Prop} (h : AT C ρ σ e KB) (hk : ∀ p σ', KB p σ' → K' p σ') : AT C ρ σ e K' :=
  fun τ s Q E J q => h τ s Q E J fun b σ' s' k J' => q b σ' s' (hk b σ' k) J'
noncomputable abbrev NegK (KB : Bool → Store → Prop) : Bool → Store → Prop := fun b σ' => KB (!b) σ'
noncomputable abbrev AndK (C : Ctx) (ρ : Locs) (rest : List Expr) (pos : Pos) (KB : Bool → Store → Prop) : Bool → Store → Prop := fun b σ' => (b = true → AT C ρ σ' (.BoolOp .And rest pos) KB) ∧ (b = false → KB false σ')
noncomputable abbrev OrK (C : Ctx) (ρ : Locs) (rest : List Expr) (pos : Pos) (KB : Bool → Store → Prop) : Bool → Store → Prop := fun b σ' => (b = true → KB true σ') ∧ (b = false → AT C ρ σ' (.BoolOp .Or rest pos) KB)
noncomputable abbrev IfeK (C : Ctx) (ρ : Locs) (body orelse : Expr) (K : PV → Store → Prop) : Bool → Store → Prop := fun b σ' => (b = true → AE C ρ σ' body K) ∧ (b = false → AE C ρ σ' orelse K)
noncomputable abbrev NumK (K : PV → Store → Prop) : PV → Store → Prop := fun p σ' => ∃ i, p = .int i ∧ K (.int (-i)) σ'
noncomputable abbrev ChK (C : Ctx) (ρ : Locs) (b : PV) (op₂ : CmpOp) (r₂ : Expr) (KB : Bool → Store → Prop) : PV → Store → Prop := fun p σ₃ => ∃ c, p = .bool c ∧ (c = false → KB false σ₃) ∧ (c = true → AE C ρ σ₃ r₂ (BinK2 C ρ (compareOp op₂) b (BoolK KB)))
noncomputable abbrev Ch2 (C : Ctx) (ρ : Locs) (op₁ op₂ : CmpOp) (r₂ : Expr) (a : PV) (KB : Bool → Store → Prop) : PV → Store → Prop := fun b σ₂ => AO2 C ρ σ₂ (compareOp op₁) a b (ChK C ρ b op₂ r₂ KB)
noncomputable abbrev Ch1 (C : Ctx) (ρ : Locs) (r : Expr) (op₁ op₂ : CmpOp) (r₂ : Expr) (KB : Bool → Store → Prop) : PV → Store → Prop := fun a σ₁ => AE C ρ σ₁ r (Ch2 C ρ op₁ op₂ r₂ a KB)
theorem OrK.yes (h : KB true σ) : OrK C ρ rest pos KB true σ := ⟨fun _ => h, fun h => nomatch h⟩
theorem OrK.no (h : AT C ρ σ (.BoolOp .Or rest pos) KB) : OrK C ρ rest pos KB false σ := ⟨(fun h => nomatch h), fun _ => h⟩
theorem NegK.t (h : KB false σ) : NegK KB true σ := h
theorem NegK.mk {b : Bool} (h : KB (!b) σ) : NegK KB b σ := h
theorem NumK.mk {i : Int} (h : K (.int (-i)) σ) : NumK K (.int i) σ := ⟨i, rfl, h⟩
theorem AT.neg (h : AT C ρ σ e (NegK KB)) : AT C ρ σ (.UnaryOp .Not e pos) KB :=
  fun τ s Q E J q => isTrue_not (h τ s _ E J fun b σ' s' k J' => q (!b) σ' s' k J')
theorem AT.and0 (k : KB true σ) : AT C ρ σ (.BoolOp .And [] pos) KB := fun _ s _ _ J q => isTrue_and_nil (q true σ s k J)
theorem AT.or0 (k : KB false σ) : AT C ρ σ (.BoolOp .Or [] pos) KB := fun _ s _ _ J q => isTrue_or_nil (q false σ s k J)
theorem AT.and (h : AT C ρ σ e (AndK C ρ rest pos KB)) : AT C ρ σ (.BoolOp .And (e :: rest) pos) KB := by
  intro τ s Q E J q
  refine isTrue_and (h τ s _ E J fun b σ' s' k J' => ?_)
  cases b with
  | true => exact k.1 rfl τ s' Q E J' q
  | false => exact q false σ' s' (k.2 rfl) J'
theorem AT.or (h : AT C ρ σ e (OrK C ρ rest pos KB)) : AT C ρ σ (.BoolOp .Or (e :: rest) pos) KB := by
  intro τ s Q E J q
  refine isTrue_or (h τ s _ E J fun b σ' s' k J' => ?_)
  cases b with
  | true => exact q true σ' s' (k.1 rfl) J'
  | false => exact k.2 rfl τ s' Q E J' q
theorem AT.plain (h : AE C ρ σ e (BoolK KB)) (he : ∀ env w, isTrue e env w = (do let v ← w; standAt e.pos; holding [v] (truthy v))) : AT C ρ σ e KB := by
  intro τ s Q E J q
  rw [he]
  refine wpAny_bind (h τ s _ E J fun v p σ' s' k J' => ?_)
  obtain ⟨b, rfl, k⟩ := k
  cases J'.getVal (.head _)
  exact wpAny_bind (wpAny_standAt (wpAny_holding (wpAny_truthy_bool (q b σ' s' k J'.drop))))
theorem AE.ifexp (h : AT C ρ σ test (IfeK C ρ body orelse K)) : AE C ρ σ (.IfExp test body orelse pos) K := by
  intro τ s Q E J q
  refine wpAny_IfExp (h τ s _ E J fun b σ' s' k J' => ?_)
  cases b with
  | true => exact k.1 rfl τ s' Q E J' q
  | false => exact k.2 rfl τ s' Q E J' q
theorem AE.usub (h : AE C ρ σ e (NumK K)) : AE C ρ σ (.UnaryOp .USub e pos) K := by
  intro τ s Q E J q
  show wpAny _ _ (do let v ← eval e C.env; standAt pos; holding [v] (unaryOp .USub v)) Q E s
  refine wpAny_bind (h τ s _ E J fun v p σ' s' k J' => ?_)
  obtain ⟨i, rfl, k⟩ := k
  obtain ⟨t, rfl⟩ := J'.getInt (.head _)
  exact wpAny_bind (wpAny_standAt (wpAny_holding (PySem.P.neg_int (q _ _ σ' _ k (J'.drop.tok.push fun _ => .int _ _)))))
theorem AE.and2 (h : AE C ρ σ e₁ fun p σ' => ∃ b, p = .bool b ∧ (b = true → AE C ρ σ' e₂ K) ∧ (b = false → K (.bool false) σ')) : AE C ρ σ (.BoolOp .And [e₁, e₂] pos) K := by
  intro τ s Q E J q
  refine BoolOp_and (h τ s _ E J fun v p σ' s' k J' => ?_)
  obtain ⟨b, rfl, k⟩ := k
  cases J'.getVal (.head _)
  refine wpAny_truthy_bool ?_
  cases b with
  | true => exact BoolOp_one (k.1 rfl τ s' Q E J'.drop q)
  | false => exact q _ _ σ' s' (k.2 rfl) J'
theorem wpAny_releaseM {M : Model} {A : Around} {E : Value → Shared → Prop} {s : Shared} {vs keep : List Value} {Q : Unit → Shared → Prop} (h : Q () s) : wpAny M A (release vs keep) Q E s := fun Γ p _ => by
  rw [Sem.wp_release]; exact h
theorem wpAny_operateM {M : Model} {A : Around} {E : Value → Shared → Prop} {s : Shared} {vs : List Value} {t : Sem Value} {Q : Value → Shared → Prop} (h : wpAny M A t Q E s) : wpAny M A (operate vs t) Q E s := fun Γ p hΓ => by
  rw [Sem.wp_operate]; exact h Γ p hΓ
theorem AT.chain {op₁ op₂ : CmpOp}
    (h : AE C ρ σ l (Ch1 C ρ r op₁ op₂ r₂ KB))
    (hm : lastMarks [op₁, op₂] [r, r₂] = false) : AT C ρ σ (.Compare l [op₁, op₂] [r, r₂] pos) KB := by
  intro τ s Q E J q
  refine isTrue_chain (h τ s _ E J fun va a σ₁ s₁ h₁ J₁ => ?_) hm
  show wpAny _ _ (do
    let rv ← holding [va] (eval r C.env)
    standAt pos
    let c ← holding [va, rv] (compareOp op₁ va rv)
    release [va, rv] [c]
    if ← holding [c, rv] (truthy c) then testChain pos rv [op₂] [eval r₂ C.env] else pure false) Q E s₁
  refine wpAny_bind (wpAny_holding (h₁ _ s₁ _ E J₁ fun vb b σ₂ s₂ h₂ J₂ => wpAny_bind (wpAny_standAt (wpAny_bind (wpAny_holding ?_)))))
  refine h₂ _ s₂ va vb _ E J₂ (.tail _ (.head _)) (.head _) fun v p σ₃ s₃ k J₃ => ?_
  obtain ⟨c, rfl, k⟩ := k
  cases J₃.getVal (.head _)
  refine wpAny_bind ?_
  refine wpAny_releaseM ?_
  refine wpAny_bind (wpAny_holding (wpAny_truthy_bool ?_))
  cases c with
  | false => exact wpAny_pure (q false σ₃ s₃ (k.1 rfl) (J₃.tmps fun q hq => .tail _ (.tail _ (.tail _ hq))))
  | true =>
    show wpAny _ _ (do
      let rv ← holding [vb] (eval r₂ C.env)
      standAt pos
      let c ← operate [vb, rv] (compareOp op₂ vb rv)
      holding [c] (truthy c)) Q E s₃
    refine wpAny_bind (wpAny_holding (k.2 rfl _ s₃ _ E J₃ fun vd d σ₄ s₄ h₄ J₄ => wpAny_bind (wpAny_standAt (wpAny_bind ?_))))
    refine wpAny_operateM (h₄ _ s₄ vb vd _ E J₄ (.tail _ (.tail _ (.head _))) (.head _) fun v p σ₅ s₅ k J₅ => ?_)
    obtain ⟨c, rfl, k⟩ := k
    cases J₅.getVal (.head _)
    exact wpAny_holding (wpAny_truthy_bool (q c σ₅ s₅ k (J₅.tmps fun q hq => .tail _ (.tail _ (.tail _ (.tail _ (.tail _ hq)))))))
end
section
variable {C : Ctx} {n : Nat} {ρ : Locs} {σ : Store} {e t test : Expr} {body orelse rest : List Stmt} {st : Stmt} {K : Fl → Locs → Store → Prop} {pos : Pos} {sc : Scope} {x : Str}
theorem Post.mono {K' : Fl → Locs → Store → Prop} {Q : Flow → Shared → Prop} (h : Post C K' Q) (hk : ∀ f ρ σ, K f ρ σ → K' f ρ σ) : Post C K Q :=
  ⟨fun ρ σ s k => h.next ρ σ s (hk _ _ _ k), fun ρ σ s k => h.brk ρ σ s (hk _ _ _ k), fun ρ σ s k => h.cont ρ σ s (hk _ _ _ k), fun v p ρ σ s k => h.ret v p ρ σ s (hk _ _ _ k)⟩
theorem AX.mono {K' : Fl → Locs → Store → Prop} {ss : List Stmt} (h : AX C ρ σ ss K) (hk : ∀ f ρ σ, K f ρ σ → K' f ρ σ) : AX C ρ σ ss K' :=
  fun s Q E J P => h s Q E J (P.mono hk)
theorem AX.nil (k : K .next ρ σ) : AX C ρ σ [] K := fun s Q E J P => wpAny_execs_nil (P.next ρ σ s k J)
noncomputable abbrev SeqK (C : Ctx) (rest : List Stmt) (K : Fl → Locs → Store → Prop) : Fl → Locs → Store → Prop := fun f ρ' σ' => match f with | .next => AX C ρ' σ' rest K | f => K f ρ' σ'
noncomputable abbrev IfK (C : Ctx) (ρ : Locs) (body orelse : List Stmt) (K : Fl → Locs → Store → Prop) : Bool → Store → Prop := fun b σ' => (b = true → AX C ρ σ' body K) ∧ (b = false → AX C ρ σ' orelse K)
noncomputable abbrev RtK (ρ : Locs) (K : Fl → Locs → Store → Prop) : PV → Store → Prop := fun p σ' => K (.ret p) ρ σ'
noncomputable abbrev ExK (ρ : Locs) (K : Fl → Locs → Store → Prop) : PV → Store → Prop := fun _ σ' => K .next ρ σ'
noncomputable abbrev NxK (K : Fl → Locs → Store → Prop) : Locs → Store → Prop := fun ρ σ => K .next ρ σ
noncomputable abbrev AsK (C : Ctx) (ρ : Locs) (t : Expr) (K : Fl → Locs → Store → Prop) : PV → Store → Prop := fun p σ' => AG C ρ σ' t p (NxK K)
noncomputable abbrev RetK (K : PV → Store → Prop) : Fl → Locs → Store → Prop := fun fl _ σ' => match fl with | .ret p => K p σ' | _ => K .none σ'
theorem RtK.mk {p : PV} (h : K (.ret p) ρ σ) : RtK ρ K p σ := h
theorem ExK.mk {p : PV} (h : K .next ρ σ) : ExK ρ K p σ := h
theorem NxK.mk (h : K .next ρ σ) : NxK K ρ σ := h
theorem RetK.ret {K : PV → Store → Prop} {p : PV} (h : K p σ) : RetK K (.ret p) ρ σ := h
theorem RetK.next {K : PV → Store → Prop} (h : K .none σ) : RetK K .next ρ σ := h
theorem SeqK.next (h : AX C ρ σ rest K) : SeqK C rest K .next ρ σ := h
theorem SeqK.ret {p : PV} (h : K (.ret p) ρ σ) : SeqK C rest K (.ret p) ρ σ := h
theorem IfK.yes (h : AX C ρ σ body K) : IfK C ρ body orelse K true σ := ⟨fun _ => h, fun h => nomatch h⟩
theorem IfK.no (h : AX C ρ σ orelse K) : IfK C ρ body orelse K false σ := ⟨(fun h => nomatch h), fun _ => h⟩
theorem AX.cons (h : AS C ρ σ st (SeqK C rest K)) : AX C ρ σ (st :: rest) K := by
  intro s Q E J P
  refine wpAny_execs_cons (h s _ E J ⟨fun ρ' σ' s' k J' => ?_, fun ρ' σ' s' k J' => ?_, fun ρ' σ' s' k J' => ?_, fun v p ρ' σ' s' k J' => ?_⟩)
  · exact k s' Q E J' P
  · exact P.brk ρ' σ' s' k J'
  · exact P.cont ρ' σ' s' k J'
  · exact P.ret v p ρ' σ' s' k J'
theorem AS.ifs (h : AT C ρ σ test (IfK C ρ body orelse K)) : AS C ρ σ (.If test body orelse pos) K := by
  intro s Q E J P
  refine wpAny_If (h [] s _ E J fun b σ' s' k J' => ?_)
  cases b with
  | true => exact k.1 rfl s' Q E J' P
  | false => exact k.2 rfl s' Q E J' P
theorem AS.ret (h : AE C ρ σ e (RtK ρ K)) : AS C ρ σ (.Return (some e) pos) K :=
  fun s Q E J P => wpAny_Return_some (h [] s _ E J fun v p σ' s' k J' => P.ret v p ρ σ' s' k J')
theorem AS.expr (O : C.Ok n) (h : AE C ρ σ e (ExK ρ K)) (hs : swapsWith e none pos.line C.env = pure false) : AS C ρ σ (.Expr e pos) K :=
  fun s Q E J P => wpAny_Expr_any (h [] s _ E J fun _ _ σ' s' k J' => P.next ρ σ' s' k J'.drop) (by
    show (C.env.scope.kind == .module && _) = false
    rw [O.hk]; rfl) hs
theorem AS.assign {t : Expr} (h : AE C ρ σ e (AsK C ρ t K)) (hs : swapsWithSole [t] e pos.line C.env = pure false) (hw : swappedStores [t] e C.env = pure none)
    (ha : assignEach [t] C.env = [(false, PySem.assign t C.env)]) : AS C ρ σ (.Assign [t] e pos) K := by
  intro s Q E J P
  rw [exec_Assign]
  refine wpAny_bind (wpAny_standAt ?_)
  rw [hs]
  refine wpAny_bind (wpAny_pure ?_)
  rw [if_neg (by decide)]
  refine wpAny_bind (h [] s _ E J fun v p σ' s' k J' => ?_)
  rw [hw, ha]
  refine wpAny_bind (wpAny_pure ?_)
  show wpAny _ _ (do PySem.assign t C.env v; pure .next) Q E s'
  exact wpAny_bind (k _ s' v _ E J' (.head _) fun ρ'' σ'' s'' k' J'' => wpAny_pure (P.next ρ'' σ'' s'' k' J''.drop))
theorem AG.name {p : PV} {K : Locs → Store → Prop} (O : C.Ok n) (hs : C.env.scope = sc) (hx : sc.names.lookup x = some .local) (k : K ((x, p) :: ρ) σ) : AG C ρ σ (.Name x pos) p K := by
  intro τ s v Q E J hv q
  show wpAny _ _ (do standAt pos; bindName C.env x v) Q E s
  refine wpAny_bind (wpAny_standAt (wpAny_bindName ?_))
  refine Inv.out J fun m S I D => ?_
  refine wpAny_storeName_local (by rw [Env.kindOf, hs]; exact hx) D.F.ns (fun h' hn hsb => q _ σ _ k ⟨_, S, I, D.store (D.tmp _ hv) hn hsb⟩) ?_
  rw [O.hk]; rfl
theorem AG.cell {p : PV} {p₀ : Option PV} {c : Addr} {σ' : Store} {K : Locs → Store → Prop} (O : C.Ok n) (hs : C.env.scope = sc) (hx : sc.names.lookup x = some .cell) (hc : C.env.cells.lookup x = some c) (U : UpdS c (.cell p₀) (.cell (some p)) σ σ')
    (k : K ρ σ') : AG C ρ σ (.Name x pos) p K := by
  intro τ s v Q E J hv q
  show wpAny _ _ (do standAt pos; bindName C.env x v) Q E s
  refine wpAny_bind (wpAny_standAt (wpAny_bindName ?_))
  refine Inv.out J fun m S I D => ?_
  obtain ⟨D₁, own, D₂, e, r, put⟩ := D.upd U
  have hr := D.tmp _ hv
  have key : ∀ o : Obj, own = [(c, o)] → ∀ v₀, o.data = .cell v₀ → wpAny C.M C.A (storeName C.env x v) Q E s := by
    intro o ho v₀ hd
    subst ho
    have hm : (c, o) ∈ S ++ (C.J ++ I) := mem3.mpr (.inl (by rw [e]; exact List.mem_append_right _ (.head _)))
    have hN := D.N _ hm
    have ap := D.apart (q := (c, o)) e (.head _)
    refine wpAny_storeName_cell O.hk (by rw [Env.kindOf, hs]; exact hx) hc ⟨o, hN.1, hd⟩ fun h' hv' hsb => ?_
    obtain ⟨o', ho', hd'⟩ := hv'
    refine q ρ σ' _ k ⟨m, _, I, put [(c, o')] h' s.toks (.cellS hd' hr) rfl ?_ ?_⟩
    · exact ⟨D.F.ns.sameBut hsb (Ne.symm hN.2.1), fun b ob eb => (hsb.2 b (fun q => by rw [q, hN.2.2] at eb; cases eb)).trans (D.F.keep b ob eb), D.F.above⟩
    · have hN' : News C.h₀ C.env.locals s.heap (D₁ ++ (c, o) :: (D₂ ++ (C.J ++ I))) := by
        have := D.N; rw [e] at this; simpa [List.append_assoc] using this
      exact news_set hN' ap.1 ap.2 hsb ho'
  cases r with
  | cellS hd _ => exact key _ rfl _ hd
  | cellN hd => exact key _ rfl _ hd
end
end
section
set_option tactic.hygienic false
noncomputable def Ctx.into (C : Ctx) (env : Env) (h : Heap) (as : List Addr) (I : Led) : Ctx :=
  { C with A := C.A.deeper env, env := env, fr := env :: C.fr, h₀ := hideAll h as, I₀ := I }
section
variable {C : Ctx} {n : Nat} {ρ : Locs} {σ : Store} {τ : Tmp} {s : Shared} {m : Str → Option Value} {S I : Led}
theorem InvD.notIn (D : InvD C ρ σ τ s m S I) {a : Addr} {o : Obj} (h : C.h₀.get? a = some o) : a ∉ (S ++ (C.J ++ I)).map (·.1) := fun q => by
  obtain ⟨p, hp, e⟩ := List.mem_map.mp q
  have := (D.N p hp).2.2
  rw [e, h] at this; cases this
theorem InvD.notL (D : InvD C ρ σ τ s m S I) : C.env.locals ∉ (S ++ (C.J ++ I)).map (·.1) := fun q => by
  obtain ⟨p, hp, e⟩ := List.mem_map.mp q
  exact (D.N p hp).2.1 e
theorem InvD.stays (D : InvD C ρ σ τ s m S I) : ∀ b o, C.h₀.get? b = some o → (hideAll s.heap ((S ++ (C.J ++ I)).map (·.1))).get? b = some o :=
  fun b o e => hideAll_get _ (D.F.keep b o e) (D.notIn e)
theorem InvD.hidL (D : InvD C ρ σ τ s m S I) : ∃ o es ep, (hideAll s.heap ((S ++ (C.J ++ I)).map (·.1))).get? C.env.locals = some o ∧ o.data = .dict es ep ∧ StrKeys es ∧ ∀ name, nsFind es name = m name := by
  obtain ⟨o, es, ep, ho, r⟩ := D.F.ns
  exact ⟨o, es, ep, hideAll_get _ ho D.notL, r⟩
theorem Ctx.Ok.into (O : C.Ok (n + 1)) (D : InvD C ρ σ τ s m S I) {env : Env} (hl : env.frame = some env.locals) (hk : env.scope.kind = .function) (hg : env.globals = mainGlobals) (hb : env.builtins = builtinsNs) :
    (C.into env s.heap ((S ++ (C.J ++ I)).map (·.1)) I).Ok n := by
  obtain ⟨p, loose, mean, mg, mb, T⟩ := O.T
  refine ⟨Around.frames_deeper O.stack, O.X.keeps D.stays, ⟨p, loose, mean, mg, mb, T.keeps D.stays⟩, O.hh, ?_, ?_, hk, hg, hb⟩
  · show C.A.depth + 1 + n ≤ 500
    have := O.depth; (first | lia | omega)
  · show C.A.units + 3 + 10 * n ≤ 5000
    have := O.units; (first | lia | omega)
theorem InvD.into (D : InvD C ρ σ τ s m S I) {env : Env} {h₁ : Heap} {m' : Str → Option Value} {tk : Nat} {ρ' : Locs} {τ' : Tmp} (he : env.locals = s.heap.objs.size) (hns : h₁.Ns env.locals m') (hk : ∀ b o, s.heap.get? b = some o → h₁.get? b = some o)
    (loc : ∀ x p, ρ'.lookup x = some p → ∃ v, m' x = some v ∧ VRep I v p) (tmp : ∀ q ∈ τ', VRep I q.1 q.2) : InvD (C.into env s.heap ((S ++ (C.J ++ I)).map (·.1)) I) ρ' σ τ' { s with heap := h₁, toks := tk } m' S I := by
  refine ⟨⟨hns, fun b o e => hk b o (of_hideAll _ e), ?_⟩, fun p hp => ⟨hk _ _ (D.N p hp).1, ?_, hideAll_none _ (List.mem_map_of_mem hp)⟩, D.nd, D.sep, fun _ h => h, loc, tmp, D.g, D.d, D.os⟩
  · show (hideAll s.heap _).objs.size ≤ env.locals
    rw [hideAll_size, he]; exact Nat.le_refl _
  · show p.1 ≠ env.locals
    rw [he]; exact Nat.ne_of_lt (Heap.lt_size (D.N p hp).1)
theorem InvD.back (D : InvD C ρ σ τ s m S I) {env : Env} {ρ' : Locs} {σ' : Store} {τ' : Tmp} {s' : Shared} {m' : Str → Option Value} {S' I' : Led}
    (D' : InvD (C.into env s.heap ((S ++ (C.J ++ I)).map (·.1)) I) ρ' σ' τ' s' m' S' I') : InvD C ρ σ' (τ' ++ τ) s' m S' I' := by
  have sub : ∀ p ∈ I, p ∈ I' := D'.sub
  obtain ⟨oL, es, ep, hL, hd, hr⟩ := D.hidL
  refine ⟨⟨⟨oL, es, ep, D'.F.keep _ _ hL, hd, hr⟩, fun b o e => D'.F.keep _ _ (D.stays b o e), D.F.above⟩, fun p hp => ⟨(D'.N p hp).1, fun q => ?_, ?_⟩, D'.nd, D'.sep, fun p hp => sub p (D.sub p hp), fun x p e => ?_, fun q hq => ?_, D'.g, D'.d, D'.os⟩
  · have := (D'.N p hp).2.2
    rw [q] at this
    have h2 : (hideAll s.heap ((S ++ (C.J ++ I)).map (·.1))).get? C.env.locals = none := this
    rw [hL] at h2; cases h2
  · cases q : C.h₀.get? p.1 with
    | none => rfl
    | some o =>
      have h2 : (hideAll s.heap ((S ++ (C.J ++ I)).map (·.1))).get? p.1 = none := (D'.N p hp).2.2
      rw [D.stays _ _ q] at h2; cases h2
  · obtain ⟨v, hv, r⟩ := D.loc x p e; exact ⟨v, hv, r.mono sub⟩
  · rcases List.mem_append.mp hq with hq | hq
    · exact D'.tmp q hq
    · exact (D.tmp q hq).mono sub
end
inductive AllIn (τ : Tmp) : List Value → List PV → Prop
  | nil : AllIn τ [] []
  | cons {v : Value} {p : PV} {vs : List Value} {ps : List PV} : (v, p) ∈ τ → AllIn τ vs ps → AllIn τ (v :: vs) (p :: ps)
theorem AllIn.mono {τ τ' : Tmp} (h : ∀ q ∈ τ, q ∈ τ') {vs : List Value} {ps : List PV} (a : AllIn τ vs ps) : AllIn τ' vs ps := by
  induction a with
  | nil => exact .nil
  | cons h1 _ ih => exact .cons (h _ h1) ih
theorem AllIn.rep {C : Ctx} {ρ : Locs} {σ : Store} {τ : Tmp} {s : Shared} {m : Str → Option Value} {S I : Led} (D : InvD C ρ σ τ s m S I) {vs : List Value} {ps : List PV} (a : AllIn τ vs ps) : VAll I vs ps := by
  induction a with
  | nil => exact .nil
  | cons h1 _ ih => exact .cons (D.tmp _ h1) ih
theorem AllIn.length {τ : Tmp} {vs : List Value} {ps : List PV} (a : AllIn τ vs ps) : vs.length = ps.length := by
  induction a with
  | nil => rfl
  | cons _ _ ih => simp [ih]
noncomputable def AC (C : Ctx) (ρ : Locs) (σ : Store) (f : PV) (ps : List PV) (K : PV → Store → Prop) : Prop :=
  ∀ τ s vf vs (Q : Value → Shared → Prop) E, Inv C ρ σ τ s → (vf, f) ∈ τ → AllIn τ vs ps → (∀ v p σ' s', K p σ' → Inv C ρ σ' ((v, p) :: τ) s' → Q v s') → wpAny C.M C.A (call vf vs) Q E s
noncomputable def CT (f : PV) (ps : List PV) (σ : Store) (n : Nat) (K : PV → Store → Prop) : Prop := ∀ C ρ, C.Ok n → AC C ρ σ f ps K
theorem AC.mono {C : Ctx} {ρ : Locs} {σ : Store} {f : PV} {ps : List PV} {K K' : PV → Store → Prop} (h : AC C ρ σ f ps K) (hk : ∀ p σ', K p σ' → K' p σ') : AC C ρ σ f ps K' :=
  fun τ s vf vs Q E J hf ha q => h τ s vf vs Q E J hf ha fun v p σ' s' k => q v p σ' s' (hk p σ' k)
theorem CT.mono {σ : Store} {f : PV} {ps : List PV} {n : Nat} {K K' : PV → Store → Prop} (h : CT f ps σ n K) (hk : ∀ p σ', K p σ' → K' p σ') : CT f ps σ n K' :=
  fun C ρ O => (h C ρ O).mono hk
theorem lookup_zip_rev {xs : List Str} {vs : List Value} (nd : xs.Nodup) (hl : vs.length = xs.length) (x : Str) : (xs.zip vs).reverse.lookup x = (xs.zip vs).lookup x := by
  induction xs generalizing vs with
  | nil => rfl
  | cons y xs ih =>
    cases vs with
    | nil => rfl
    | cons v vs =>
      have nd' := List.nodup_cons.mp nd
      rw [List.zip_cons_cons, List.reverse_cons, List.lookup_append, ih nd'.2 (by simpa using hl)]
      rw [List.lookup_cons]
      by_cases h : x = y
      · subst h
        have : (xs.zip vs).lookup x = none := by
          rw [List.lookup_eq_none_iff]
          intro p hp
          simp only [bne_iff_ne, ne_eq, beq_eq_false_iff_ne]
          rintro rfl
          exact nd'.1 (List.of_mem_zip hp).1
        rw [this]; simp
      · have : (x == y) = false := by simpa using h
        simp [List.lookup_cons, this]
theorem lookup_zip_rep {I : Led} {xs : List Str} {vs : List Value} {ps : List PV} (h : VAll I vs ps) {x : Str} {p : PV} (e : (xs.zip ps).lookup x = some p) : ∃ v, (xs.zip vs).lookup x = some v ∧ VRep I v p := by
  induction xs generalizing vs ps with
  | nil => cases e
  | cons y xs ih =>
    cases h with
    | nil => cases e
    | cons h1 h2 =>
      rw [List.zip_cons_cons, List.lookup_cons] at e ⊢
      by_cases hx : (x == y) = true
      · rw [hx] at e ⊢; cases e; exact ⟨_, rfl, h1⟩
      · have hx' : (x == y) = false := by simpa using hx
        rw [hx'] at e ⊢; exact ih h2 e
structure Def (f : Addr) (xs : List Str) (body : List Stmt) (sc : Scope) : Prop where
  ex : ∀ w : World, ∃ (oc : Value) (od : Option Addr) (osl : Array (Option Value)) (name qual : Str) (params : Arguments) (dV kV doc pm : Value) (an : Option Addr) (cdv ct : Value),
    (hd.heap_1 w.params).lookup f = some ⟨oc, od, .func (fnX name qual params body sc [] dV kV doc pm an cdv ct), osl⟩ ∧ codeIn (hd.heap_1 w.params) cdv qual = true ∧
    ∀ vs, vs.length = xs.length → ∀ s, (hd.heap_1 w.params).In s.heap → BindsTo s (fnX name qual params body sc [] dV kV doc pm an cdv ct) ⟨vs, []⟩ (xs.zip vs)
  nd : xs.Nodup
  loc : ∀ x ∈ xs, sc.names.lookup x = some .local
  nocell : ∀ x ∈ sc.names, x.2 ≠ .cell
  co : sc.isCoroutine = false
  gen : sc.isGenerator = false
  kind : sc.kind = .function
theorem Def.of {f : Addr} {xs : List Str} {body : List Stmt} {sc : Scope} {oc : Value} {od : Option Addr} {osl : Array (Option Value)} {name qual : Str} {params : Arguments} {dV kV doc pm : Value} {an : Option Addr} {cdv ct : Value}
    (h1 : ∀ w : World, (hd.heap_1 w.params).lookup f = some ⟨oc, od, .func (fnX name qual params body sc [] dV kV doc pm an cdv ct), osl⟩) (h2 : ∀ w : World, codeIn (hd.heap_1 w.params) cdv qual = true)
    (h3 : ∀ vs, vs.length = xs.length → ∀ s : Shared, BindsTo s (fnX name qual params body sc [] dV kV doc pm an cdv ct) ⟨vs, []⟩ (xs.zip vs)) (nd : xs.Nodup) (loc : ∀ x ∈ xs, sc.names.lookup x = some .local)
    (nocell : ∀ x ∈ sc.names, x.2 ≠ .cell) (co : sc.isCoroutine = false) (gen : sc.isGenerator = false) (kind : sc.kind = .function) : Def f xs body sc :=
  ⟨fun w => ⟨oc, od, osl, name, qual, params, dV, kV, doc, pm, an, cdv, ct, h1 w, h2 w, fun vs h s _ => h3 vs h s⟩, nd, loc, nocell, co, gen, kind⟩
theorem Def.ofX {f : Addr} {xs : List Str} {body : List Stmt} {sc : Scope} {oc : Value} {od : Option Addr} {osl : Array (Option Value)} {name qual : Str} {params : Arguments} {dV kV doc pm : Value} {an : Option Addr} {cdv ct : Value}
    (h1 : ∀ w : World, (hd.heap_1 w.params).lookup f = some ⟨oc, od, .func (fnX name qual params body sc [] dV kV doc pm an cdv ct), osl⟩) (h2 : ∀ w : World, codeIn (hd.heap_1 w.params) cdv qual = true)
    (h3 : ∀ (w : World) vs, vs.length = xs.length → ∀ s : Shared, (hd.heap_1 w.params).In s.heap → BindsTo s (fnX name qual params body sc [] dV kV doc pm an cdv ct) ⟨vs, []⟩ (xs.zip vs)) (nd : xs.Nodup) (loc : ∀ x ∈ xs, sc.names.lookup x = some .local)
    (nocell : ∀ x ∈ sc.names, x.2 ≠ .cell) (co : sc.isCoroutine = false) (gen : sc.isGenerator = false) (kind : sc.kind = .function) : Def f xs body sc :=
  ⟨fun w => ⟨oc, od, osl, name, qual, params, dV, kV, doc, pm, an, cdv, ct, h1 w, h2 w, h3 w⟩, nd, loc, nocell, co, gen, kind⟩
theorem vsS {n : Nat} {P : List Value → Prop} (h : ∀ a vs, vs.length = n → P (a :: vs)) : ∀ vs : List Value, vs.length = n + 1 → P vs := fun vs =>
  List.rec (motive := fun vs => vs.length = n + 1 → P vs) (fun e => absurd e.symm (Nat.succ_ne_zero n)) (fun a t _ e => h a t (Nat.succ.inj e)) vs
theorem vs0 {P : List Value → Prop} (h : P []) (vs : List Value) (e : vs.length = 0) : P vs := List.eq_nil_of_length_eq_zero e ▸ h
theorem vs1 {P : List Value → Prop} (h : ∀ a, P [a]) : ∀ vs : List Value, vs.length = 1 → P vs := vsS fun a => vs0 (P := fun t => P (a :: t)) (h a)
theorem vs2 {P : List Value → Prop} (h : ∀ a b, P [a, b]) : ∀ vs : List Value, vs.length = 2 → P vs := vsS fun a => vs1 (P := fun t => P (a :: t)) (h a)
theorem vs3 {P : List Value → Prop} (h : ∀ a b c, P [a, b, c]) : ∀ vs : List Value, vs.length = 3 → P vs := vsS fun a => vs2 (P := fun t => P (a :: t)) (h a)
theorem vs4 {P : List Value → Prop} (h : ∀ a b c d, P [a, b, c, d]) : ∀ vs : List Value, vs.length = 4 → P vs := vsS fun a => vs3 (P := fun t => P (a :: t)) (h a)
theorem vs5 {P : List Value → Prop} (h : ∀ a b c d e, P [a, b, c, d, e]) : ∀ vs : List Value, vs.length = 5 → P vs := vsS fun a => vs4 (P := fun t => P (a :: t)) (h a)
theorem vs6 {P : List Value → Prop} (h : ∀ a b c d e f, P [a, b, c, d, e, f]) : ∀ vs : List Value, vs.length = 6 → P vs := vsS fun a => vs5 (P := fun t => P (a :: t)) (h a)
noncomputable def CC (f : PV) (ps : List PV) (σ : Store) (n : Nat) (K : PV → Store → Prop) : Prop :=
  ∀ C ρ, C.Ok n → ∀ τ s vf vs (R : Result → Shared → Prop), Inv C ρ σ τ s → (vf, f) ∈ τ → AllIn τ vs ps → (∀ v p σ' s', K p σ' → Inv C ρ σ' ((v, p) :: τ) s' → R (.ok (.ret v)) s') → codeAny C.M C.A (.call vf ⟨vs, []⟩) R s
theorem CT.of {σ : Store} {f : PV} {ps : List PV} {n : Nat} {K : PV → Store → Prop} (h : CC f ps σ n K) : CT f ps σ n K :=
  fun C ρ O τ s vf vs _ _ J hf ha q => wpAny_call (h C ρ O τ s vf vs _ J hf ha fun v p σ' s' k J' => q v p σ' s' k J')
theorem CC.def {f : Addr} {xs : List Str} {body : List Stmt} {sc : Scope} (d : Def f xs body sc) {ps : List PV} {σ : Store} {n : Nat} {K : PV → Store → Prop} (hl : ps.length = xs.length)
    (h : ∀ C, C.Ok n → C.env.scope = sc → C.env.cells = [] → AX C (xs.zip ps) σ body (RetK K)) : CC (.ref f) ps σ (n + 1) K := by
  intro C ρ O τ s vf vs R J hf ha q
  cases J.getVal hf
  refine Inv.out J fun m S I D => ?_
  obtain ⟨oc, od, osl, name, qual, params, dV, kV, doc, pm, an, cdv, ct, ho, hcd, hb⟩ := d.ex C.w
  obtain ⟨_, _, _, _, _, T⟩ := O.T
  have X := O.X.keeps D.F.keep
  have hva := ha.rep D
  refine codeAny_call_def (fd := fnX name qual params body sc [] dV kV doc pm an cdv ct) (body := body) (binds := xs.zip vs) (by have := O.depth; show C.A.depth < 1000; (first | lia | omega)) (X _ _ ho) rfl (T.nolimit.keeps D.F.keep) (codeRec_of X hcd) rfl
    (hb vs (by rw [ha.length, hl]) s X) d.nocell (fun y hy => d.loc _ (List.of_mem_zip hy).1) (fun h₁ hns hk => ?_) d.co d.gen d.kind
  let env := callEnv (fnX name qual params body sc [] dV kV doc pm an cdv ct) s.heap.objs.size f
  have O' := O.into D (env := env) rfl d.kind rfl rfl
  have D' := D.into (env := env) (τ' := []) (ρ' := xs.zip ps) (tk := s.toks + (xs.zip vs).length) rfl hns hk (fun x p e => by
    obtain ⟨v, e', r⟩ := lookup_zip_rep hva e
    exact ⟨v, (lookup_zip_rev d.nd (by rw [ha.length, hl]) x).trans e', r⟩) (fun _ h => nomatch h)
  have go : ∀ v p ρ' σ' s', K p σ' → Inv (C.into env s.heap ((S ++ (C.J ++ I)).map (·.1)) I) ρ' σ' [(v, p)] s' → R (.ok (.ret v)) s' := by
    intro v p ρ' σ' s' k J'
    obtain ⟨m', S', I', D''⟩ := J'
    exact q v p σ' s' k ⟨m, S', I', D.back D''⟩
  refine h _ O' rfl rfl _ _ _ ⟨_, S, I, D'⟩ ⟨fun ρ' σ' s' k J' => ?_, fun ρ' σ' s' k J' => ?_, fun ρ' σ' s' k J' => ?_, fun v p ρ' σ' s' k J' => ?_⟩
  · exact go _ .none ρ' σ' s' k (J'.push fun _ => .val _)
  · exact go _ .none ρ' σ' s' k (J'.push fun _ => .val _)
  · exact go _ .none ρ' σ' s' k (J'.push fun _ => .val _)
  · exact go v p ρ' σ' s' k J'
theorem CT.def {f : Addr} {xs : List Str} {body : List Stmt} {sc : Scope} (d : Def f xs body sc) {ps : List PV} {σ : Store} {n : Nat} {K : PV → Store → Prop} (hl : ps.length = xs.length)
    (h : ∀ C, C.Ok n → C.env.scope = sc → C.env.cells = [] → AX C (xs.zip ps) σ body (RetK K)) : CT (.ref f) ps σ (n + 1) K := .of (.def d hl h)
theorem Inv.at {C : Ctx} {ρ : Locs} {σ : Store} {τ : Tmp} {s : Shared} (J : Inv C ρ σ τ s) (A : Around) : Inv { C with A := A } ρ σ τ s := by
  refine Inv.out J fun m S I D => ?_
  exact ⟨m, S, I, ⟨D.F, D.N, D.nd, D.sep, D.sub, D.loc, D.tmp, D.g, D.d, D.os⟩⟩
theorem Inv.off {C : Ctx} {ρ : Locs} {σ : Store} {τ : Tmp} {s : Shared} {A : Around} (J : Inv { C with A := A } ρ σ τ s) : Inv C ρ σ τ s := by
  refine Inv.out J fun m S I D => ?_
  exact ⟨m, S, I, ⟨D.F, D.N, D.nd, D.sep, D.sub, D.loc, D.tmp, D.g, D.d, D.os⟩⟩
theorem Ctx.Ok.at {C : Ctx} {n k : Nat} (O : C.Ok n) {A : Around} (h1 : A.frames = C.A.frames) (h2 : A.handled = C.A.handled) (h3 : A.depth ≤ C.A.depth + 1) (h4 : A.units ≤ C.A.units + 10) (hk : k + 1 ≤ n) : Ctx.Ok { C with A := A } k :=
  ⟨h1.trans O.stack, O.X, O.T, h2.trans O.hh, by have := O.depth; show A.depth + k ≤ 500; (first | lia | omega), by have := O.units; show A.units + 10 * k ≤ 5000; (first | lia | omega), O.hk, O.gl, O.bi⟩
theorem CC.cls {Cl fI : Addr} {ps : List PV} {σ : Store} {n : Nat} {K : PV → Store → Prop} (hm : ∀ w : World, makesIn (hd.heap_1 w.params) Cl = true) (hi : ∀ w : World, findIn (hd.heap_1 w.params) (.ref Cl) "__init__" = some (some (.ref fI)))
    (hf : ∀ w : World, typeIn (hd.heap_1 w.params) (.ref fI) = some (.type "function")) (h : ∀ x, CC (.ref fI) (.ref x :: ps) ((x, .inst Cl []) :: σ) n fun p σ' => p = .none ∧ K (.ref x) σ') : CC (.ref Cl) ps σ (n + 1) K := by
  intro C ρ O τ s vf vs R J hv ha q
  cases J.getVal hv
  refine Inv.out J fun m S I D => ?_
  refine make_K D.F D.N (O.X.keeps D.F.keep) (hm _) (hi _) (hf _) fun x dx h' F' N' h1 h2 => ?_
  have D' : InvD C ρ ((x, .inst Cl []) :: σ) τ { s with heap := h' } m ([(x, instObj Cl dx), (dx, dictOf [] 0)] ++ S) I := by
    refine D.growS (tk := s.toks) F' N' ?_ (.inst .nil)
    have nd := nodup_fresh (o := dictOf [] 0) h1 D.nd
    refine nodup_fresh (n := x) (o := instObj Cl dx) (fun p hp => ?_) nd
    rcases List.mem_cons.mp hp with rfl | hp
    · exact h2
    · exact Nat.lt_trans (h1 p hp) h2
  have O' : Ctx.Ok { C with A := C.A.under (.builtin "type.__call__" ⟨.ref Cl :: vs, []⟩) } n := by
    refine O.at ?_ rfl ?_ ?_ (Nat.le_refl _)
    · exact rfl
    · rw [depth_under_kw]; exact Nat.le_refl _
    · show C.A.units + _ ≤ C.A.units + 10
      exact Nat.add_le_add_left (Nat.le_of_ble_eq_true rfl) _
  refine h x _ ρ O' ((.ref x, .ref x) :: (.ref fI, .ref fI) :: τ) _ (.ref fI) _ _ ((((Inv.push ⟨m, _, I, D'⟩ fun _ => .val (.ref fI)).push fun _ => .val (.ref x))).at _) (.tail _ (.head _)) (.cons (.head _) (ha.mono fun q hq => .tail _ (.tail _ hq))) fun v p σ' s' k J' => ?_
  obtain ⟨rfl, k⟩ := k
  have J₂ := J'.off
  have e := J₂.getVal (.head _)
  refine ⟨e, q _ _ σ' s' k (J₂.tmps fun q hq => ?_)⟩
  rcases List.mem_cons.mp hq with rfl | hq
  · exact .tail _ (.head _)
  · exact .tail _ (.tail _ (.tail _ hq))
end
section
set_option tactic.hygienic false
section
variable {C : Ctx} {n : Nat} {ρ : Locs} {σ : Store} {τ : Tmp} {s : Shared} {m : Str → Option Value} {S I : Led} {a x Cl : Addr} {l : List PV} {fs : List (Str × PV)} {v : Value}
theorem InvD.led (D : InvD C ρ σ τ s m S I) {o : AObj} (hm : (a, o) ∈ σ) : ∃ own, ORep C.prog C.w I a o own ∧ ∀ q ∈ own, q ∈ S ++ (C.J ++ I) := by
  obtain ⟨_, _, D₁, own, D₂, _, e, _, k, _⟩ := D.sep.find hm
  exact ⟨own, k, fun q hq => mem3.mpr (.inl (by rw [e]; exact List.mem_append_right _ (List.mem_append_left _ hq)))⟩
theorem InvD.list (D : InvD C ρ σ τ s m S I) (hm : (a, AObj.list l) ∈ σ) : ∃ vs n, (a, listOf vs.toArray n) ∈ S ++ (C.J ++ I) ∧ VAll I vs l := by
  obtain ⟨own, k, hq⟩ := D.led hm
  cases k using ORep.casesList with | list h => exact ⟨_, _, hq _ (.head _), h⟩
theorem InvD.isList (D : InvD C ρ σ τ s m S I) (hm : (a, AObj.list l) ∈ σ) : ∃ vs, s.heap.IsList a vs.toArray ∧ VAll I vs l := by
  obtain ⟨vs, n, h, r⟩ := D.list hm
  exact ⟨vs, ⟨_, (D.N _ h).1, rfl, n, rfl⟩, r⟩
theorem InvD.inst (D : InvD C ρ σ τ s m S I) (hm : (x, AObj.inst Cl fs) ∈ σ) : ∃ dx es n, InstAt s.heap x (instObj Cl dx) Cl (some (dictOf es n)) ∧ FRep C.w I es fs := by
  obtain ⟨own, k, hq⟩ := D.led hm
  cases k using ORep.casesInst with | inst h => exact ⟨_, _, _, InstAt.of_news D.N (hq _ (.head _)) (hq _ (.tail _ (.head _))), h⟩
theorem InvD.tup (D : InvD C ρ σ τ s m S I) (h : VRep I v (.tup l)) : ∃ a vs, v = .ref a ∧ IsTup s.heap a vs.toArray ∧ VAll I vs l := by
  cases h using VRep.casesTup with | tup hm r => exact ⟨_, _, rfl, ⟨_, (D.N _ (mem3.mpr (.inr (.inr hm)))).1, rfl, _, rfl⟩, r⟩
theorem InvD.lst (D : InvD C ρ σ τ s m S I) (h : VRep I v (.lst l)) : ∃ a vs, v = .ref a ∧ s.heap.IsList a vs.toArray ∧ VAll I vs l := by
  cases h using VRep.casesLst with | lst hm r => exact ⟨_, _, rfl, ⟨_, (D.N _ (mem3.mpr (.inr (.inr hm)))).1, rfl, _, rfl⟩, r⟩
theorem InvD.more (D : InvD C ρ σ τ s m S I) {p : PV} (h : VRep I v p) : InvD C ρ σ ((v, p) :: τ) s m S I :=
  { D with tmp := fun q hq => by rcases List.mem_cons.mp hq with rfl | hq; exact h; exact D.tmp q hq }
theorem InvD.tok (D : InvD C ρ σ τ s m S I) {t : Nat} : InvD C ρ σ τ { s with toks := t } m S I := { D with }
theorem InvD.inv (D : InvD C ρ σ τ s m S I) : Inv C ρ σ τ s := ⟨m, S, I, D⟩
end
noncomputable def AL (C : Ctx) (ρ : Locs) (σ : Store) (pos : Pos) (es : List Expr) (K : List PV → Store → Prop) : Prop :=
  ∀ τ s (Q : List Value → Shared → Prop) E, Inv C ρ σ τ s → (∀ vs ps σ' τ' s', K ps σ' → Inv C ρ σ' τ' s' → AllIn τ' vs ps → (∀ q ∈ τ, q ∈ τ') → Q vs s') → wpAny C.M C.A (spliced (backTo pos (starEach es C.env))) Q E s
section
variable {C : Ctx} {n : Nat} {ρ : Locs} {σ : Store} {e : Expr} {es : List Expr} {pos : Pos}
theorem AL.nil {K : List PV → Store → Prop} (k : K [] σ) : AL C ρ σ pos [] K := fun τ s Q E J q => spliced_none (q [] [] σ τ s k J .nil fun _ h => h)
noncomputable abbrev CoK (p : PV) (K : List PV → Store → Prop) : List PV → Store → Prop := fun ps σ'' => K (p :: ps) σ''
noncomputable abbrev AlK (C : Ctx) (ρ : Locs) (pos : Pos) (es : List Expr) (K : List PV → Store → Prop) : PV → Store → Prop := fun p σ' => AL C ρ σ' pos es (CoK p K)
theorem CoK.mk {p : PV} {ps : List PV} {K : List PV → Store → Prop} (h : K (p :: ps) σ) : CoK p K ps σ := h
theorem AL.cons {K : List PV → Store → Prop} (h : AE C ρ σ e (AlK C ρ pos es K)) (he : ∀ env, starEach (e :: es) env = (false, eval e env) :: starEach es env) : AL C ρ σ pos (e :: es) K := by
  intro τ s Q E J q
  refine spliced_more (h τ s _ E J fun v p σ' s' k J' => ?_) (he _)
  exact k _ s' _ E J' fun vs ps σ'' τ'' s'' k' J'' a sub => q _ _ σ'' τ'' s'' k' J'' (.cons (sub _ (.head _)) a) fun q hq => sub _ (.tail _ hq)
end
noncomputable def Callee (C : Ctx) (σ : Store) (f : PV) : Prop := ∀ ρ τ s v, Inv C ρ σ τ s → (v, f) ∈ τ → ∃ k, (k = Keeper.frame ∨ k = Keeper.machine ∨ k = Keeper.boundFrame) ∧ Looks C.M s.heap (keeperOf v) k
section
variable {C : Ctx} {n : Nat} {ρ : Locs} {σ : Store}
theorem Callee.K (O : C.Ok n) {f : Value} (h : keepIn (hd.heap_1 C.w.params) f = true) : Callee C σ (.val f) := by
  intro ρ τ s v J hv
  cases J.getVal hv
  refine Inv.out J fun m S I D => ?_
  exact keeps_K h _ (O.X.keeps D.F.keep)
theorem Callee.builtin {id : String} : Callee C σ (.val (.builtin id)) := by
  intro ρ τ s v J hv
  cases J.getVal hv
  exact ⟨.machine, .inr (.inl rfl), Looks.of_pure rfl⟩
theorem Callee.type {id : String} : Callee C σ (.val (.type id)) := by
  intro ρ τ s v J hv
  cases J.getVal hv
  exact ⟨.machine, .inr (.inl rfl), Looks.of_pure rfl⟩
theorem AllIn.app {τ : Tmp} {vs ws : List Value} {ps qs : List PV} (a : AllIn τ vs ps) (b : AllIn τ ws qs) : AllIn τ (vs ++ ws) (ps ++ qs) := by
  induction a with
  | nil => exact b
  | cons h1 _ ih => exact .cons h1 ih
theorem AC.args0 {pos : Pos} {f : PV} {K : PV → Store → Prop} {first : List PV} (h : Callee C σ f ∧ AC C ρ σ f (first ++ []) K) {τ : Tmp} {s : Shared} {vf : Value} {fv : List Value} {Q : Value → Shared → Prop} {E : Value → Shared → Prop}
    (J : Inv C ρ σ τ s) (hf : (vf, f) ∈ τ) (ha : AllIn τ fv first) (q : ∀ v p σ' s', K p σ' → Inv C ρ σ' ((v, p) :: τ) s' → Q v s') : wpAny C.M C.A (callWith pos vf fv (backTo pos (starEach [] C.env)) []) Q E s := by
  refine callWith_of (P := fun h => ∃ k, (k = Keeper.frame ∨ k = Keeper.machine ∨ k = Keeper.boundFrame) ∧ Looks C.M h (keeperOf vf) k) rfl (fun _ x => x) (evalArgs_nil3 ⟨h.1 ρ τ s vf J hf, ?_⟩)
  exact h.2 τ s vf _ Q E J hf (ha.app .nil) q
theorem AC.args {pos : Pos} {f : PV} {e : Expr} {es : List Expr} {K : PV → Store → Prop} {first : List PV}
    (hp : ∀ env, (backTo pos (starEach (e :: es) env)).any (·.1) = false) (he : ∀ env, starEach (e :: es) env = (false, eval e env) :: starEach es env)
    (h : AL C ρ σ pos (e :: es) fun ps σ₂ => Callee C σ₂ f ∧ AC C ρ σ₂ f (first ++ ps) K) {τ : Tmp} {s : Shared} {vf : Value} {fv : List Value} {Q : Value → Shared → Prop} {E : Value → Shared → Prop}
    (J : Inv C ρ σ τ s) (hf : (vf, f) ∈ τ) (ha : AllIn τ fv first) (q : ∀ v p σ' s', K p σ' → Inv C ρ σ' ((v, p) :: τ) s' → Q v s') : wpAny C.M C.A (callWith pos vf fv (backTo pos (starEach (e :: es) C.env)) []) Q E s := by
  refine callWith_of (P := fun h => ∃ k, (k = Keeper.frame ∨ k = Keeper.machine ∨ k = Keeper.boundFrame) ∧ Looks C.M h (keeperOf vf) k) (by rw [hp]; rfl) (fun _ x => x) ?_
  have h' := h τ s (fun vs s₂ => (∃ k, (k = Keeper.frame ∨ k = Keeper.machine ∨ k = Keeper.boundFrame) ∧ Looks C.M s₂.heap (keeperOf vf) k) ∧ wpAny C.M C.A (PySem.call vf (fv ++ vs) []) Q E s₂) E J fun vs ps σ₂ τ₂ s₂ k J₂ a sub =>
    ⟨k.1 ρ τ₂ s₂ vf J₂ (sub _ hf), k.2 τ₂ s₂ vf _ Q E J₂ (sub _ hf) ((ha.mono sub).app a) fun v p σ' s' k' J' => q v p σ' s' k' (J'.tmps fun q hq => by
      rcases List.mem_cons.mp hq with rfl | hq
      · exact .head _
      · exact .tail _ (sub _ hq))⟩
  rw [he] at h' ⊢
  exact evalArgs_plain h'
noncomputable abbrev Cl0K (C : Ctx) (ρ : Locs) (K : PV → Store → Prop) : PV → Store → Prop := fun f σ₁ => Callee C σ₁ f ∧ AC C ρ σ₁ f [] K
noncomputable abbrev ClK2 (C : Ctx) (ρ : Locs) (f : PV) (K : PV → Store → Prop) : List PV → Store → Prop := fun ps σ₂ => Callee C σ₂ f ∧ AC C ρ σ₂ f ps K
noncomputable abbrev ClK (C : Ctx) (ρ : Locs) (pos : Pos) (es : List Expr) (K : PV → Store → Prop) : PV → Store → Prop := fun f σ₁ => AL C ρ σ₁ pos es (ClK2 C ρ f K)
theorem Cl0K.mk {f : PV} {K : PV → Store → Prop} (c : Callee C σ f) (h : AC C ρ σ f [] K) : Cl0K C ρ K f σ := ⟨c, h⟩
theorem ClK2.mk {f : PV} {ps : List PV} {K : PV → Store → Prop} (c : Callee C σ f) (h : AC C ρ σ f ps K) : ClK2 C ρ f K ps σ := ⟨c, h⟩
theorem AE.call0 {fe : Expr} {pos : Pos} {K : PV → Store → Prop} (hc : ∀ env, eval (.Call fe [] [] pos) env = (do callWith pos (← eval fe env) [] (backTo pos (starEach [] env)) (backToKw pos (keywordEach [] env))))
    (h : AE C ρ σ fe (Cl0K C ρ K)) : AE C ρ σ (.Call fe [] [] pos) K := by
  intro τ s Q E J q
  rw [hc]
  refine wpAny_bind (h τ s _ E J fun vf f σ₁ s₁ k J₁ => ?_)
  exact AC.args0 k J₁ (.head _) .nil fun v p σ' s' k' J' => q v p σ' s' k' (J'.tmps fun q hq => by
    rcases List.mem_cons.mp hq with rfl | hq
    · exact .head _
    · exact .tail _ (.tail _ hq))
theorem AE.call {fe e : Expr} {es : List Expr} {pos : Pos} {K : PV → Store → Prop} (hc : ∀ env, eval (.Call fe (e :: es) [] pos) env = (do callWith pos (← eval fe env) [] (backTo pos (starEach (e :: es) env)) (backToKw pos (keywordEach [] env))))
    (hp : ∀ env, (backTo pos (starEach (e :: es) env)).any (·.1) = false) (he : ∀ env, starEach (e :: es) env = (false, eval e env) :: starEach es env)
    (h : AE C ρ σ fe (ClK C ρ pos (e :: es) K)) : AE C ρ σ (.Call fe (e :: es) [] pos) K := by
  intro τ s Q E J q
  rw [hc]
  refine wpAny_bind (h τ s _ E J fun vf f σ₁ s₁ k J₁ => ?_)
  exact AC.args (first := []) hp he k J₁ (.head _) .nil fun v p σ' s' k' J' => q v p σ' s' k' (J'.tmps fun q hq => by
    rcases List.mem_cons.mp hq with rfl | hq
    · exact .head _
    · exact .tail _ (.tail _ hq))
noncomputable def AM (C : Ctx) (σ : Store) (p : PV) (name : Str) (g : PV) : Prop :=
  ∀ ρ τ s v pl (Q : Value × List Value → Shared → Prop) E, Inv C ρ σ τ s → (v, p) ∈ τ → (∀ vg t, Inv C ρ σ ((vg, g) :: τ) { s with toks := t } → Q (vg, [v]) { s with toks := t }) → wpAny C.M C.A (getMethod v name pl) Q E s
noncomputable abbrev Mt0K (C : Ctx) (ρ : Locs) (name : Str) (K : PV → Store → Prop) : PV → Store → Prop := fun p σ₁ => ∃ g, AM C σ₁ p name g ∧ Callee C σ₁ g ∧ AC C ρ σ₁ g [p] K
noncomputable abbrev MtK2 (C : Ctx) (ρ : Locs) (g p : PV) (K : PV → Store → Prop) : List PV → Store → Prop := fun ps σ₂ => Callee C σ₂ g ∧ AC C ρ σ₂ g (p :: ps) K
noncomputable abbrev MtK (C : Ctx) (ρ : Locs) (name : Str) (pos : Pos) (es : List Expr) (K : PV → Store → Prop) : PV → Store → Prop := fun p σ₁ => ∃ g, AM C σ₁ p name g ∧ AL C ρ σ₁ pos es (MtK2 C ρ g p K)
theorem Mt0K.mk {name : Str} {p g : PV} {K : PV → Store → Prop} (m : AM C σ p name g) (h : Callee C σ g ∧ AC C ρ σ g [p] K) : Mt0K C ρ name K p σ := ⟨g, m, h⟩
theorem MtK2.mk {g p : PV} {ps : List PV} {K : PV → Store → Prop} (c : Callee C σ g) (h : AC C ρ σ g (p :: ps) K) : MtK2 C ρ g p K ps σ := ⟨c, h⟩
theorem MtK.mk {name : Str} {pos : Pos} {es : List Expr} {p g : PV} {K : PV → Store → Prop} (m : AM C σ p name g) (h : AL C ρ σ pos es (MtK2 C ρ g p K)) : MtK C ρ name pos es K p σ := ⟨g, m, h⟩
theorem AE.meth0 {o : Expr} {name : Str} {apos pos : Pos} {pl : Env → Sem Bool} {K : PV → Store → Prop}
    (hc : ∀ env, eval (.Call (.Attribute o name apos) [] [] pos) env = (do
      let ov ← eval o env
      standAt apos.atName
      let (f, first) ← holding [ov] (getMethod ov name (pl env))
      callWith pos f first (backTo pos (starEach [] env)) (backToKw pos (keywordEach [] env))))
    (h : AE C ρ σ o (Mt0K C ρ name K)) : AE C ρ σ (.Call (.Attribute o name apos) [] [] pos) K := by
  intro τ s Q E J q
  rw [hc]
  refine wpAny_bind (h τ s _ E J fun v p σ₁ s₁ k J₁ => wpAny_bind (wpAny_standAt (wpAny_bind (wpAny_holding ?_))))
  obtain ⟨g, hm, hk, ha⟩ := k
  refine hm ρ _ s₁ v _ _ E J₁ (.head _) fun vg t J₂ => ?_
  exact AC.args0 (first := [p]) ⟨hk, ha⟩ J₂ (.head _) (.cons (.tail _ (.head _)) .nil) fun v p σ' s' k' J' => q v p σ' s' k' (J'.tmps fun q hq => by
    rcases List.mem_cons.mp hq with rfl | hq
    · exact .head _
    · exact .tail _ (.tail _ (.tail _ hq)))
theorem AE.meth {o e : Expr} {es : List Expr} {name : Str} {apos pos : Pos} {pl : Env → Sem Bool} {K : PV → Store → Prop}
    (hc : ∀ env, eval (.Call (.Attribute o name apos) (e :: es) [] pos) env = (do
      let ov ← eval o env
      standAt apos.atName
      let (f, first) ← holding [ov] (getMethod ov name (pl env))
      callWith pos f first (backTo pos (starEach (e :: es) env)) (backToKw pos (keywordEach [] env))))
    (hp : ∀ env, (backTo pos (starEach (e :: es) env)).any (·.1) = false) (he : ∀ env, starEach (e :: es) env = (false, eval e env) :: starEach es env)
    (h : AE C ρ σ o (MtK C ρ name pos (e :: es) K)) : AE C ρ σ (.Call (.Attribute o name apos) (e :: es) [] pos) K := by
  intro τ s Q E J q
  rw [hc]
  refine wpAny_bind (h τ s _ E J fun v p σ₁ s₁ k J₁ => wpAny_bind (wpAny_standAt (wpAny_bind (wpAny_holding ?_))))
  obtain ⟨g, hm, ha⟩ := k
  refine hm ρ _ s₁ v _ _ E J₁ (.head _) fun vg t J₂ => ?_
  exact AC.args (first := [p]) hp he ha J₂ (.head _) (.cons (.tail _ (.head _)) .nil) fun v p σ' s' k' J' => q v p σ' s' k' (J'.tmps fun q hq => by
    rcases List.mem_cons.mp hq with rfl | hq
    · exact .head _
    · exact .tail _ (.tail _ (.tail _ hq)))
end
section
variable {w : World} {I : Led} {es : List DictEntry} {fs : List (Str × PV)} {name : Str} {p : PV} {v : Value} {t : Tok}
theorem isStr_beq (x : Str) (t : Tok) (name : Str) : (Value.str x t).isStr name = (x == name) := rfl
theorem FRep.get (h : FRep w I es fs) (e : fs.lookup name = some p) : ∃ v, getL name es = some (some v) ∧ VRep I v p := by
  induction h with
  | nil => cases e
  | @cons x t v q es fs hv h ih =>
    rw [List.lookup_cons] at e
    unfold getL
    rw [List.find?_cons, isStr_beq]
    by_cases hx : name = x
    · subst hx
      simp at e; subst e
      simp; exact hv
    · have h1 : (name == x) = false := by simpa using hx
      have h2 : (x == name) = false := by simpa using Ne.symm hx
      rw [h1] at e
      rw [h2]
      obtain ⟨v', g, r⟩ := ih e
      unfold getL at g
      refine ⟨v', ?_, r⟩
      cases q : es.find? (·.key.isStr name) with
      | some e' => rw [q] at g; simp at g ⊢; exact g
      | none => rw [q] at g; simp at g
theorem FRep.refKey (h : FRep w I es fs) : es.any (·.refKey) = false := by
  induction h with
  | nil => rfl
  | cons _ _ ih => rw [List.any_cons, ih]; rfl
theorem FRep.getNone (h : FRep w I es fs) (e : fs.lookup name = none) : getL name es = some none := by
  have key : es.find? (·.key.isStr name) = none := by
    induction h with
    | nil => rfl
    | @cons x t v q es fs hv h ih =>
      rw [List.lookup_cons] at e
      by_cases hx : name = x
      · subst hx; simp at e
      · have h1 : (name == x) = false := by simpa using hx
        have h2 : (x == name) = false := by simpa using Ne.symm hx
        rw [h1] at e
        rw [List.find?_cons, isStr_beq, h2]
        exact ih e
  unfold getL
  rw [key, h.refKey]; rfl
noncomputable def setF : List (Str × PV) → Str → PV → List (Str × PV)
  | [], x, p => [(x, p)]
  | (y, q) :: r, x, p => if y = x then (y, p) :: r else (y, q) :: setF r x p
theorem FRep.put (h : FRep w I es fs) (hv : VRep I v p) : FRep w I (putL name (PyData.keyHash w.params name) (.str name t) v es) (setF fs name p) := by
  induction h with
  | nil => exact .cons hv .nil
  | @cons x t' v' q es fs hq h ih =>
    unfold putL setF
    rw [isStr_beq]
    by_cases hx : x = name
    · subst hx; simp; exact .cons hv h
    · have h2 : (x == name) = false := by simpa using hx
      rw [h2, if_neg hx]
      exact .cons hq ih
theorem FRep.length (h : FRep w I es fs) : es.length = fs.length := by
  induction h with
  | nil => rfl
  | cons _ _ ih => simp [ih]
end
structure FieldOk (Cl : Addr) (name : Str) : Prop where
  get : ∀ w : World, plainGet (hd.heap_1 w.params) Cl name = true
  dict : ∀ w : World, hasDictIn (hd.heap_1 w.params) Cl = true
  none : ∀ w : World, findIn (hd.heap_1 w.params) (.ref Cl) name = some .none
  set : ∀ w : World, findIn (hd.heap_1 w.params) (.ref Cl) "__setattr__" = some (some (.builtin "object.__setattr__"))
  over : ∀ w : World, plainOver (hd.heap_1 w.params) Cl = true
  take : ∀ w : World, takerIn (hd.heap_1 w.params) Cl name = some .none
structure MethOk (Cl : Addr) (name : Str) (f : Addr) : Prop where
  get : ∀ w : World, plainGet (hd.heap_1 w.params) Cl name = true
  find : ∀ w : World, findIn (hd.heap_1 w.params) (.ref Cl) name = some (some (.ref f))
  fn : ∀ w : World, isFn (hd.heap_1 w.params) (.ref f) = true
section
variable {C : Ctx} {n : Nat} {ρ : Locs} {σ σ' : Store} {o : Expr} {name : Str} {pos : Pos} {K : PV → Store → Prop} {x Cl f : Addr} {fs fs' : List (Str × PV)} {p : PV}
theorem VRep.handed {I : Led} {v : Value} (h : VRep I v p) (hp : ∀ u, p = .val u → handedIn u = true) : handedIn v = true := by
  cases h <;> first | rfl | exact hp _ rfl
noncomputable abbrev AtK (name : Str) (K : PV → Store → Prop) : PV → Store → Prop := fun q σ₁ => ∃ x Cl fs p, q = .ref x ∧ (x, AObj.inst Cl fs) ∈ σ₁ ∧ FieldOk Cl name ∧ fs.lookup name = some p ∧ (∀ u, p = .val u → handedIn u = true) ∧ K p σ₁
theorem AtK.mk (hm : (x, AObj.inst Cl fs) ∈ σ) (fo : FieldOk Cl name) (hl : fs.lookup name = some p) (hh : ∀ u, p = .val u → handedIn u = true) (k : K p σ) : AtK name K (.ref x) σ := ⟨x, Cl, fs, p, rfl, hm, fo, hl, hh, k⟩
theorem AE.attr (O : C.Ok n) (hb : attributeBase o name C.env (eval o C.env) = eval o C.env)
    (h : AE C ρ σ o (AtK name K)) : AE C ρ σ (.Attribute o name pos) K := by
  intro τ s Q E J q
  show wpAny _ _ (do
    let o' ← attributeBase o name C.env (eval o C.env)
    standAt pos.atName
    let r ← holding [o'] (getAttr o' name true)
    letTemporaryGo o o' r
    pure r) Q E s
  rw [hb]
  refine wpAny_bind (h τ s _ E J fun v p' σ₁ s₁ k J₁ => wpAny_bind (wpAny_standAt (wpAny_bind (wpAny_holding ?_))))
  obtain ⟨x, Cl, fs, p, rfl, hm, fo, hl, hh, k⟩ := k
  cases J₁.getVal (.head _)
  refine Inv.out J₁ fun m S I D => ?_
  obtain ⟨dx, es, n', hi, hf⟩ := D.inst hm
  obtain ⟨v, hg, hv⟩ := hf.get hl
  refine get_own D.F O.X hi (fo.get _) (fo.dict _) (fo.none _) rfl hg (hv.handed hh) ?_
  exact wpAny_bind (wpAny_letTemporaryGo (wpAny_pure (q v p σ₁ _ k ((D.more hv).tok.inv.tmps fun q hq => by
    rcases List.mem_cons.mp hq with rfl | hq
    · exact .head _
    · exact .tail _ (.tail _ hq)))))
theorem AM.inst (O : C.Ok n) (mo : MethOk Cl name f) (hm : (x, AObj.inst Cl fs) ∈ σ) (hl : fs.lookup name = none) : AM C σ (.ref x) name (.ref f) := by
  intro ρ τ s v pl Q E J hv q
  cases J.getVal hv
  refine Inv.out J fun m S I D => ?_
  obtain ⟨dx, es, n', hi, hf⟩ := D.inst hm
  exact method_inst D.F O.X hi (mo.get _) (mo.find _) (mo.fn _) (hf.getNone hl) (q _ s.toks (D.more (.val _)).inv)
inductive SetF : List (Str × PV) → Str → PV → List (Str × PV) → Prop
  | nil {x : Str} {p : PV} : SetF [] x p [(x, p)]
  | hit {x : Str} {p q : PV} {r : List (Str × PV)} : SetF ((x, q) :: r) x p ((x, p) :: r)
  | miss {x y : Str} {p q : PV} {r r' : List (Str × PV)} : (y == x) = false → SetF r x p r' → SetF ((y, q) :: r) x p ((y, q) :: r')
theorem SetF.eq {fs fs' : List (Str × PV)} {x : Str} {p : PV} (h : SetF fs x p fs') : setF fs x p = fs' := by
  induction h with
  | nil => rfl
  | hit => simp [setF]
  | miss h _ ih =>
    have h' := beq_eq_false_iff_ne.mp h
    simp [setF, h', ih]
noncomputable abbrev AgK (ρ : Locs) (name : Str) (p : PV) (K : Locs → Store → Prop) : PV → Store → Prop := fun q σ₁ => ∃ x Cl fs fs' σ₂, q = .ref x ∧ FieldOk Cl name ∧ SetF fs name p fs' ∧ fs'.length ≤ 1000 ∧ UpdS x (.inst Cl fs) (.inst Cl fs') σ₁ σ₂ ∧ (fs.lookup name = none ∨ ∃ q, fs.lookup name = some q) ∧ K ρ σ₂
theorem AgK.mk {K : Locs → Store → Prop} (fo : FieldOk Cl name) (s : SetF fs name p fs') (z : fs'.length ≤ 1000) (U : UpdS x (.inst Cl fs) (.inst Cl fs') σ σ') (l : fs.lookup name = none ∨ ∃ q, fs.lookup name = some q) (k : K ρ σ') : AgK ρ name p K (.ref x) σ := ⟨x, Cl, fs, fs', σ', rfl, fo, s, z, U, l, k⟩
theorem AG.attr (O : C.Ok n) {K : Locs → Store → Prop}
    (h : AE C ρ σ o (AgK ρ name p K)) : AG C ρ σ (.Attribute o name pos) p K := by
  intro τ s v Q E J hv q
  show wpAny _ _ (do
    let ov ← holding [v] (eval o C.env)
    standAt pos.atName
    holding [v, ov] (setAttr ov name v)
    release [v, ov] []) Q E s
  refine wpAny_bind (wpAny_holding (h τ s _ E J fun vo p' σ₁ s₁ k J₁ => wpAny_bind (wpAny_standAt (wpAny_bind (wpAny_holding ?_)))))
  obtain ⟨x, Cl, fs, fs', σ₂, rfl, fo, hs, hz, U, hl, k⟩ := k
  have hs := hs.eq
  cases J₁.getVal (.head _)
  refine Inv.out J₁ fun m S I D => ?_
  obtain ⟨D₁, own, D₂, e, r, put⟩ := D.upd U
  have hv' := D.tmp _ (.tail _ hv)
  cases r using ORep.casesInst with
  | @inst dx es n' hf =>
    have N : News C.h₀ C.env.locals s₁.heap ((D₁ ++ [(x, instObj Cl dx)]) ++ (dx, dictOf es n') :: (D₂ ++ (C.J ++ I))) := by
      have := D.N; rw [e] at this; simpa [List.append_assoc] using this
    have hi : InstAt s₁.heap x (instObj Cl dx) Cl (some (dictOf es n')) := InstAt.of_news N (by simp) (by simp)
    have ap := D.apart (q := (dx, dictOf es n')) e (.tail _ (.head _))
    have hne : x ≠ dx := by
      have nd := D.nd
      rw [e] at nd
      simp only [List.map_append, List.map_cons, List.map_nil, List.append_assoc] at nd
      have n1 := (List.nodup_append.mp nd).2.1
      intro q
      subst q
      simp at n1
    have hg : (getL name es).isSome = true := by
      rcases hl with hl | ⟨q, hl⟩
      · rw [hf.getNone hl]; rfl
      · obtain ⟨v, g, _⟩ := hf.get hl; rw [g]; rfl
    have put' := hf.put (name := name) (t := s₁.toks + 1) hv'
    rw [hs] at put'
    have U' : Upd dx (dictOf es n') (dictOf (putL name (PyData.keyHash C.w.params name) (.str name (s₁.toks + 1)) v es) (putN name es n')) ((D₁ ++ [(x, instObj Cl dx)]) ++ (dx, dictOf es n') :: (D₂ ++ (C.J ++ I)))
        ((D₁ ++ [(x, instObj Cl dx)]) ++ (dx, dictOf (putL name (PyData.keyHash C.w.params name) (.str name (s₁.toks + 1)) v es) (putN name es n')) :: (D₂ ++ (C.J ++ I))) := by
      have h1 : ∀ p ∈ D₁ ++ [(x, instObj Cl dx)], p.1 ≠ dx := fun p hp => by
        rcases List.mem_append.mp hp with hp | hp
        · exact ap.1 p hp
        · rw [List.mem_singleton.mp hp]; exact hne
      have h2 := ap.2
      generalize D₁ ++ [(x, instObj Cl dx)] = pre at h1
      induction pre with
      | nil => exact .head h2
      | cons y pre ih => exact .tail (h1 y (.head _)) (ih fun p hp => h1 p (.tail _ hp))
    refine set_dict D.F O.X N hi rfl (fo.set _) (fo.over _) (fo.take _) (fo.dict _) hg rfl U' (by rw [put'.length]; exact hz) fun h' F' N' => ?_
    refine wpAny_releaseM (q ρ σ₂ _ k (Inv.tmps ⟨m, _, I, put [(x, instObj Cl dx), (dx, dictOf (putL name (PyData.keyHash C.w.params name) (.str name (s₁.toks + 1)) v es) (putN name es n'))] h' (s₁.toks + 2) (.inst put') rfl F' ?_⟩ fun q hq => .tail _ hq))
    simpa [List.append_assoc] using N'
end
end
section
set_option tactic.hygienic false
section
variable {τ : Tmp} {vs : List Value} {p q r : PV}
theorem AllIn.zero (h : AllIn τ vs []) : vs = [] := by cases h; rfl
theorem AllIn.one (h : AllIn τ vs [p]) : ∃ v, vs = [v] ∧ (v, p) ∈ τ := by
  cases h with | cons h1 h => obtain rfl := h.zero; exact ⟨_, rfl, h1⟩
theorem AllIn.two (h : AllIn τ vs [p, q]) : ∃ v w, vs = [v, w] ∧ (v, p) ∈ τ ∧ (w, q) ∈ τ := by
  cases h with | cons h1 h => obtain ⟨w, rfl, h2⟩ := h.one; exact ⟨_, w, rfl, h1, h2⟩
theorem AllIn.three (h : AllIn τ vs [p, q, r]) : ∃ v w x, vs = [v, w, x] ∧ (v, p) ∈ τ ∧ (w, q) ∈ τ ∧ (x, r) ∈ τ := by
  cases h with | cons h1 h => obtain ⟨w, x, rfl, h2, h3⟩ := h.two; exact ⟨_, w, x, rfl, h1, h2, h3⟩
end
section
variable {C : Ctx} {n : Nat} {ρ : Locs} {σ σ' : Store} {τ : Tmp} {s : Shared} {m : Str → Option Value} {S I : Led} {a : Addr} {l l' : List PV} {es : List Expr} {pos : Pos} {K : PV → Store → Prop} {kk : Nat}
theorem sizeLine_le {k : Nat} (h : k ≤ 1000) : k ≤ sizeLine := Nat.le_trans h (by decide)
noncomputable abbrev TuK (K : PV → Store → Prop) : List PV → Store → Prop := fun ps σ' => ps.length ≤ 1000 ∧ K (.tup ps) σ'
noncomputable abbrev LiK (K : PV → Store → Prop) : List PV → Store → Prop := fun ps σ' => ps.length ≤ 1000 ∧ ∀ a, K (.ref a) ((a, .list ps) :: σ')
noncomputable abbrev LsK (K : PV → Store → Prop) : List PV → Store → Prop := fun ps σ' => ps.length ≤ 1000 ∧ K (.lst ps) σ'
theorem TuK.mk {ps : List PV} (z : Nat.ble ps.length 1000 = true) (k : K (.tup ps) σ) : TuK K ps σ := ⟨Nat.le_of_ble_eq_true z, k⟩
theorem AE.tuple (h : AL C ρ σ pos es (TuK K)) : AE C ρ σ (.Tuple es kk pos) K := by
  intro τ s Q E J q
  refine Tuple_ (h τ s _ E J fun vs ps σ' τ' s' k J' al sub => ?_)
  refine Inv.out J' fun m S I D => ?_
  refine wpAny_newObj_type (q _ _ σ' _ k.2 (Inv.tmps (((D.pushI (tupObj vs 0) (tk := s'.toks)).more (.tup (.head _) ((al.rep D).mono fun _ h => .tail _ h))).inv) fun q hq => by
    rcases List.mem_cons.mp hq with rfl | hq
    · exact .head _
    · exact .tail _ (sub _ hq))) ?_
  show vs.toArray.size ≤ sizeLine
  rw [List.size_toArray, al.length]; exact sizeLine_le k.1
theorem AE.list (h : AL C ρ σ pos es (LiK K)) : AE C ρ σ (.List es pos) K := by
  intro τ s Q E J q
  refine List_ (h τ s _ E J fun vs ps σ' τ' s' k J' al sub => ?_)
  refine Inv.out J' fun m S I D => ?_
  refine wpAny_newObj_type (q _ _ _ _ (k.2 s'.heap.objs.size) (Inv.tmps (((D.pushS (o := listOf vs.toArray 0) (ao := .list ps) (tk := s'.toks) (.list (al.rep D))).more (.val _)).inv) fun q hq => by
    rcases List.mem_cons.mp hq with rfl | hq
    · exact .head _
    · exact .tail _ (sub _ hq))) ?_
  show vs.toArray.size ≤ sizeLine
  rw [List.size_toArray, al.length]; exact sizeLine_le k.1
theorem AE.lst (h : AL C ρ σ pos es (LsK K)) : AE C ρ σ (.List es pos) K := by
  intro τ s Q E J q
  refine List_ (h τ s _ E J fun vs ps σ' τ' s' k J' al sub => ?_)
  refine Inv.out J' fun m S I D => ?_
  refine wpAny_newObj_type (q _ _ σ' _ k.2 (Inv.tmps (((D.pushI (listOf vs.toArray 0) (tk := s'.toks)).more (.lst (.head _) ((al.rep D).mono fun _ h => .tail _ h))).inv) fun q hq => by
    rcases List.mem_cons.mp hq with rfl | hq
    · exact .head _
    · exact .tail _ (sub _ hq))) ?_
  show vs.toArray.size ≤ sizeLine
  rw [List.size_toArray, al.length]; exact sizeLine_le k.1
theorem InvD.lupd (D : InvD C ρ σ τ s m S I) (U : UpdS a (.list l) (.list l') σ σ') : ∃ vs n, s.heap.get? a = some (listOf vs.toArray n) ∧ VAll I vs l ∧
    ∀ vs' n' h' tk, VAll I vs' l' → Heap.SameBut a s.heap h' → h'.get? a = some (listOf vs'.toArray n') → InvD C ρ σ' τ { s with heap := h', toks := tk } m (S.map fun p => if p.1 = a then (a, listOf vs'.toArray n') else p) I := by
  obtain ⟨D₁, own, D₂, e, r, put⟩ := D.upd U
  cases r using ORep.casesList with
  | @list vs n hv =>
    have hm : (a, listOf vs.toArray n) ∈ S ++ (C.J ++ I) := mem3.mpr (.inl (by rw [e]; exact List.mem_append_right _ (.head _)))
    have hN := D.N _ hm
    have ap := D.apart (q := (a, listOf vs.toArray n)) e (.head _)
    refine ⟨vs, n, hN.1, hv, fun vs' n' h' tk hv' hsb ho' => ?_⟩
    have hN' : News C.h₀ C.env.locals s.heap (D₁ ++ (a, listOf vs.toArray n) :: (D₂ ++ (C.J ++ I))) := by
      have := D.N; rw [e] at this; simpa [List.append_assoc] using this
    have eS : (S.map fun p => if p.1 = a then (a, listOf vs'.toArray n') else p) = D₁ ++ ([(a, listOf vs'.toArray n')] ++ D₂) := by
      have idm : ∀ L : Led, (∀ p ∈ L, p.1 ≠ a) → (L.map fun p => if p.1 = a then (a, listOf vs'.toArray n') else p) = L := fun L hL => by
        have : (L.map fun p => if p.1 = a then (a, listOf vs'.toArray n') else p) = L.map id := List.map_congr_left fun p hp => if_neg (hL p hp)
        rw [this, List.map_id]
      rw [e, List.map_append, List.map_append, idm D₁ ap.1, idm D₂ fun p hp => ap.2 p (List.mem_append_left _ hp)]
      simp
    rw [eS]
    exact put [(a, listOf vs'.toArray n')] h' tk (.list hv') rfl
      ⟨D.F.ns.sameBut hsb (Ne.symm hN.2.1), fun b ob eb => (hsb.2 b (fun q => by rw [q, hN.2.2] at eb; cases eb)).trans (D.F.keep b ob eb), D.F.above⟩ (news_set hN' ap.1 ap.2 hsb ho')
theorem AM.list {name : Str} {id : String} (slot : Slot "list" name id) (hty : typeOf (.builtin id) = pure (.type "method_descriptor")) (hm : (a, AObj.list l) ∈ σ) : AM C σ (.ref a) name (.val (.builtin id)) := by
  intro ρ τ s v pl Q E J hv q
  cases J.getVal hv
  refine Inv.out J fun m S I D => ?_
  obtain ⟨vs, n, hm', _⟩ := D.list hm
  exact kl_method D.N hm' slot hty (q _ s.toks (D.more (.val _)).inv)
theorem AC.append {p : PV} (U : UpdS a (.list l) (.list (l ++ [p])) σ σ') (hz : l.length ≤ 1000) (k : K .none σ') : AC C ρ σ (.val (.builtin "list.append")) [.ref a, p] K := by
  intro τ s vf vs Q E J hf ha q
  cases J.getVal hf
  obtain ⟨v1, v2, rfl, h1, h2⟩ := ha.two
  cases J.getVal h1
  refine Inv.out J fun m S I D => ?_
  have hp := D.tmp _ h2
  obtain ⟨us, n, ho, hv, put⟩ := D.lupd U
  refine append_at (hsz := ?_) ho fun h' hsb ho' => q _ _ σ' _ k ((put (us ++ [_]) (n + 1) h' s.toks (hv.append (.one hp)) hsb ?_).more (.val _)).inv
  · rw [ho']; simp
  · rw [List.size_toArray, hv.length]; exact sizeLine_le hz
theorem fits_index {i : Int} (h0 : -1000 ≤ i) (h1 : i ≤ 1000) : Builtin.List.listFitsIndex i = true := by
  unfold Builtin.List.listFitsIndex
  simp only [Bool.and_eq_true, decide_eq_true_eq]; (first | lia | omega)
theorem AC.pop {i : Int} {p : PV} {q₁ q₂ : List PV} (U : UpdS a (.list (q₁ ++ p :: q₂)) (.list (q₁ ++ q₂)) σ σ') (hi : i = q₁.length) (hz : q₁.length + q₂.length < 1000) (k : K p σ') : AC C ρ σ (.val (.builtin "list.pop")) [.ref a, .int i] K := by
  intro τ s vf vs Q E J hf ha q
  cases J.getVal hf
  obtain ⟨v1, v2, rfl, h1, h2⟩ := ha.two
  cases J.getVal h1
  obtain ⟨t, rfl⟩ := J.getInt h2
  refine Inv.out J fun m S I D => ?_
  obtain ⟨us, n, ho, hv, put⟩ := D.lupd U
  obtain ⟨y, hy, hyr⟩ := hv.get (k := q₁.length) (p := p) (by simp)
  have hlen : us.length = q₁.length + (q₂.length + 1) := by rw [hv.length]; simp
  have e : us = us.take q₁.length ++ y :: us.drop (q₁.length + 1) := by
    have h := List.take_append_drop q₁.length us
    have h2 : us.drop q₁.length = y :: us.drop (q₁.length + 1) := by
      rw [← List.getElem_cons_drop (by (first | lia | omega))]
      congr 1
      exact Option.some.inj ((List.getElem?_eq_getElem (by (first | lia | omega))).symm.trans hy)
    rw [h2] at h; exact h.symm
  have hlt : (us.take q₁.length).length = q₁.length := by rw [List.length_take]; (first | lia | omega)
  have hsz : us.toArray.size ≤ sizeLine := by rw [List.size_toArray]; exact sizeLine_le (by (first | lia | omega))
  have hidx : seqIndex? i us.toArray.size = some q₁.length := by
    unfold seqIndex?
    rw [List.size_toArray]
    have h1 : ¬ (i < 0) := by (first | lia | omega)
    simp only [h1, if_false]
    rw [if_pos (by simp; (first | lia | omega))]
    simp [hi]
  refine call_meets PySem.F.slot_list_pop ⟨_, ho, rfl⟩ PySem.F.entry_list_pop (PySem.F.args_list_pop_2 _ _) (PySem.MeetsSeq.list_pop_at a us.toArray n i t q₁.length y (fits_index (by (first | lia | omega)) (by (first | lia | omega))) hidx (by simpa using hy) hsz) ⟨ho, ?_⟩
  refine q _ _ σ' _ k ((put (us.take q₁.length ++ us.drop (q₁.length + 1)) (n + 1) _ s.toks ?_ (Heap.SameBut.update ..) ?_).more hyr).inv
  · have h3 := (hv.take q₁.length).append (hv.drop (q₁.length + 1))
    simpa using h3
  · have h4 := PySem.IsL.update ho (fun xs => xs.eraseIdxIfInBounds q₁.length)
    rw [h4]
    have h5 : us.toArray.eraseIdxIfInBounds q₁.length = (us.take q₁.length ++ us.drop (q₁.length + 1)).toArray := by
      have := kl_erase (us.take q₁.length) (us.drop (q₁.length + 1)) y
      rw [hlt, ← e] at this
      exact this
    have hne : ¬ (((us.take q₁.length ++ us.drop (q₁.length + 1)).toArray.size == us.toArray.size) = true) := by
      intro h
      have h6 := eq_of_beq h
      rw [List.size_toArray, List.size_toArray, List.length_append, hlt, List.length_drop] at h6
      (first | lia | omega)
    rw [h5, if_neg hne]
theorem AC.len (hm : (a, AObj.list l) ∈ σ) (hz : l.length ≤ 1000) (k : K (.int l.length) σ) : AC C ρ σ (.val (.builtin "len")) [.ref a] K := by
  intro τ s vf vs Q E J hf ha q
  cases J.getVal hf
  obtain ⟨v1, rfl, h1⟩ := ha.one
  cases J.getVal h1
  refine Inv.out J fun m S I D => ?_
  obtain ⟨us, hl, hv⟩ := D.isList hm
  have hs : us.toArray.size = l.length := by rw [List.size_toArray, hv.length]
  refine call_len_list hl (by rw [hs]; (first | lia | omega)) ?_
  rw [hs]
  exact q _ _ σ _ k (D.tok.more (.int _ _)).inv
theorem AC.lenF (hz : l.length ≤ 1000) (k : K (.int l.length) σ) : AC C ρ σ (.val (.builtin "len")) [.lst l] K := by
  intro τ s vf vs Q E J hf ha q
  cases J.getVal hf
  obtain ⟨v1, rfl, h1⟩ := ha.one
  refine Inv.out J fun m S I D => ?_
  obtain ⟨b, us, rfl, hl, hv⟩ := D.lst (D.tmp _ h1)
  have hs : us.toArray.size = l.length := by rw [List.size_toArray, hv.length]
  refine call_len_list hl (by rw [hs]; (first | lia | omega)) ?_
  rw [hs]
  exact q _ _ σ _ k (D.tok.more (.int _ _)).inv
end
end
section
set_option tactic.hygienic false
noncomputable def AI (C : Ctx) (ρ : Locs) (σ : Store) (o i : PV) (K : PV → Store → Prop) : Prop :=
  ∀ τ s value slice vo vi (Q : Value → Shared → Prop) E, (subscripted slice false vo vi = operate [vo, vi] (getItem vo vi)) → Inv C ρ σ τ s → (vo, o) ∈ τ → (vi, i) ∈ τ →
    (∀ v p σ' s', K p σ' → Inv C ρ σ' ((v, p) :: τ) s' → Q v s') → wpAny C.M C.A (subscriptTail value slice vo vi) Q E s
section
variable {C : Ctx} {n : Nat} {ρ : Locs} {σ σ' : Store} {τ : Tmp} {s : Shared} {a : Addr} {l l' : List PV} {value slice e : Expr} {pos : Pos} {K : PV → Store → Prop} {k : Int} {p : PV}
noncomputable abbrev SuK2 (C : Ctx) (ρ : Locs) (o : PV) (K : PV → Store → Prop) : PV → Store → Prop := fun i σ₂ => AI C ρ σ₂ o i K
noncomputable abbrev SuK (C : Ctx) (ρ : Locs) (slice : Expr) (K : PV → Store → Prop) : PV → Store → Prop := fun o σ₁ => AE C ρ σ₁ slice (SuK2 C ρ o K)
theorem AE.sub (h : AE C ρ σ value (SuK C ρ slice K)) (hs : ∀ o i, subscripted slice false o i = operate [o, i] (getItem o i)) : AE C ρ σ (.Subscript value slice pos) K := by
  intro τ s Q E J q
  refine Subscript_ (h τ s _ E J fun vo o σ₁ s₁ h₁ J₁ => h₁ _ s₁ _ E J₁ fun vi i σ₂ s₂ h₂ J₂ => ?_)
  exact h₂ _ s₂ value slice vo vi Q E (hs _ _) J₂ (.tail _ (.head _)) (.head _) fun v p σ' s' k J' => q v p σ' s' k (J'.tmps fun q hq => by
    rcases List.mem_cons.mp hq with rfl | hq
    · exact .head _
    · exact .tail _ (.tail _ (.tail _ hq)))
theorem AI.list (hm : (a, AObj.list l) ∈ σ) (h0 : 0 ≤ k) (hz : k < 2 ^ 63) (hx : l[k.toNat]? = some p) (kk : K p σ) : AI C ρ σ (.ref a) (.int k) K := by
  intro τ s value slice vo vi Q E hs J ho hi q
  cases J.getVal ho
  obtain ⟨t, rfl⟩ := J.getInt hi
  refine Inv.out J fun m S I D => ?_
  obtain ⟨us, hl, hv⟩ := D.isList hm
  obtain ⟨v, hv', r⟩ := hv.get hx
  exact tail_any hl.typeIs slot_list_getitem.lookup (wpAny_getItem_list hl h0 hz (by simpa using hv') (q _ _ σ _ kk (D.more r).inv)) hs
theorem AI.lst (h0 : 0 ≤ k) (hz : k < 2 ^ 63) (hx : l[k.toNat]? = some p) (kk : K p σ) : AI C ρ σ (.lst l) (.int k) K := by
  intro τ s value slice vo vi Q E hs J ho hi q
  obtain ⟨t, rfl⟩ := J.getInt hi
  refine Inv.out J fun m S I D => ?_
  obtain ⟨b, us, rfl, hl, hv⟩ := D.lst (D.tmp _ ho)
  obtain ⟨v, hv', r⟩ := hv.get hx
  exact tail_any hl.typeIs slot_list_getitem.lookup (wpAny_getItem_list hl h0 hz (by simpa using hv') (q _ _ σ _ kk (D.more r).inv)) hs
theorem AI.tup (h0 : 0 ≤ k) (hz : k < 2 ^ 63) (hx : l[k.toNat]? = some p) (kk : K p σ) : AI C ρ σ (.tup l) (.int k) K := by
  intro τ s value slice vo vi Q E hs J ho hi q
  obtain ⟨t, rfl⟩ := J.getInt hi
  refine Inv.out J fun m S I D => ?_
  obtain ⟨b, us, rfl, hl, hv⟩ := D.tup (D.tmp _ ho)
  obtain ⟨v, hv', r⟩ := hv.get hx
  have hlt : k.toNat < l.length := (List.getElem?_eq_some_iff.mp hx).1
  have hj : seqIndex? k us.toArray.size = some k.toNat := by
    unfold seqIndex?
    rw [List.size_toArray, hv.length]
    have h1 : ¬ (k < 0) := by (first | lia | omega)
    simp only [h1, if_false]
    rw [if_pos (by simp; (first | lia | omega))]
  exact tail_any hl.typeIs slot_tuple_getitem.lookup (getItem_tuple hl (by (first | lia | omega)) hz hj (by simpa using hv') (q _ _ σ _ kk (D.more r).inv)) hs
noncomputable abbrev sliceObj (l u : Value) : Obj := { cls := .type "slice", data := .fields #[l, u, .none] }
noncomputable abbrev StK (K : PV → Store → Prop) : PV → Store → Prop := fun p σ' => ∃ i, p = .int i ∧ ∀ t, K (.obj (sliceObj .none (.int i t))) σ'
noncomputable abbrev SfK (K : PV → Store → Prop) : PV → Store → Prop := fun p σ' => ∃ i, p = .int i ∧ ∀ t, K (.obj (sliceObj (.int i t) .none)) σ'
theorem AE.sliceTo (h : AE C ρ σ e (StK K)) : AE C ρ σ (.Slice Option.none (some e) Option.none pos) K := by
  intro τ s Q E J q
  refine wpAny_Slice (evalPart_none_step (evalPart_some_step (h τ s _ E J fun v p σ' s' k J' => evalPart_none_step ?_)))
  obtain ⟨i, rfl, k⟩ := k
  obtain ⟨t, rfl⟩ := J'.getInt (.head _)
  refine Inv.out J' fun m S I D => ?_
  exact q _ _ σ' _ (k t) (Inv.tmps (((D.pushI (sliceObj .none (.int i t)) (tk := s'.toks)).more (.obj (.head _))).inv) fun q hq => by
    rcases List.mem_cons.mp hq with rfl | hq
    · exact .head _
    · exact .tail _ (.tail _ hq))
theorem AE.sliceFrom (h : AE C ρ σ e (SfK K)) : AE C ρ σ (.Slice (some e) Option.none Option.none pos) K := by
  intro τ s Q E J q
  refine wpAny_Slice (evalPart_some_step (h τ s _ E J fun v p σ' s' k J' => evalPart_none_step (evalPart_none_step ?_)))
  obtain ⟨i, rfl, k⟩ := k
  obtain ⟨t, rfl⟩ := J'.getInt (.head _)
  refine Inv.out J' fun m S I D => ?_
  exact q _ _ σ' _ (k t) (Inv.tmps (((D.pushI (sliceObj (.int i t) .none) (tk := s'.toks)).more (.obj (.head _))).inv) fun q hq => by
    rcases List.mem_cons.mp hq with rfl | hq
    · exact .head _
    · exact .tail _ (.tail _ hq))
theorem AE.sliceAll (k : K (.obj (sliceObj .none .none)) σ) : AE C ρ σ (.Slice Option.none Option.none Option.none pos) K := by
  intro τ s Q E J q
  refine wpAny_Slice (evalPart_none_step (evalPart_none_step (evalPart_none_step ?_)))
  refine Inv.out J fun m S I D => ?_
  exact q _ _ σ _ k (((D.pushI (sliceObj .none .none) (tk := s.toks)).more (.obj (.head _))).inv)
noncomputable def AP (C : Ctx) (ρ : Locs) (σ : Store) (o i : PV) (K : PV → Store → Prop) : Prop :=
  ∀ τ s vo vi (Q : Value → Shared → Prop) E, Inv C ρ σ τ s → (vo, o) ∈ τ → (vi, i) ∈ τ → (∀ v p σ' s', K p σ' → Inv C ρ σ' ((v, p) :: τ) s' → Q v s') → wpAny C.M C.A (getItem vo vi) Q E s
noncomputable abbrev PaK2 (C : Ctx) (ρ : Locs) (o : PV) (K : PV → Store → Prop) : PV → Store → Prop := fun i σ₂ => (∃ b l, o = .ref b ∧ (b, AObj.list l) ∈ σ₂ ∨ o = .lst l ∨ o = .tup l) ∧ AP C ρ σ₂ o i K
noncomputable abbrev PaK (C : Ctx) (ρ : Locs) (sl : Expr) (K : PV → Store → Prop) : PV → Store → Prop := fun o σ₁ => AE C ρ σ₁ sl (PaK2 C ρ o K)
theorem AE.part {lo up : Option Expr} {p' : Pos} (h : AE C ρ σ value (PaK C ρ (.Slice lo up Option.none p') K)) : AE C ρ σ (.Subscript value (.Slice lo up Option.none p') pos) K := by
  intro τ s Q E J q
  refine Subscript_ (h τ s _ E J fun vo o σ₁ s₁ h₁ J₁ => h₁ _ s₁ _ E J₁ fun vi i σ₂ s₂ h₂ J₂ => ?_)
  have fin := fun E => h₂.2 _ s₂ vo vi Q E J₂ (.tail _ (.head _)) (.head _) fun v p σ' s' k J' => q v p σ' s' k (J'.tmps fun q hq => by
    rcases List.mem_cons.mp hq with rfl | hq
    · exact .head _
    · exact .tail _ (.tail _ (.tail _ hq)))
  refine Inv.out J₂ fun m S I D => ?_
  have hv := D.tmp _ (.tail _ (.head _))
  rcases h₂.1 with ⟨b, l, ⟨rfl, hm⟩ | rfl | rfl⟩
  · cases hv
    obtain ⟨us, hl, _⟩ := D.isList hm
    exact tail_any hl.typeIs slot_list_getitem.lookup (fin E) (ops := [vi, .ref b]) rfl
  · obtain ⟨b, us, rfl, hl, _⟩ := D.lst hv
    exact tail_any hl.typeIs slot_list_getitem.lookup (fin E) (ops := [vi, .ref b]) rfl
  · obtain ⟨b, us, rfl, hl, _⟩ := D.tup hv
    exact tail_any hl.typeIs slot_tuple_getitem.lookup (fin E) (ops := [vi, .ref b]) rfl
theorem VAll.pick {I : Led} {vs : List Value} {ps : List PV} (h : VAll I vs ps) (a b : Nat) : VAll I ((vs.drop a).take b) ((ps.drop a).take b) := (h.drop a).take b
noncomputable def pickP (l : List PV) (lo hi : Option Int) : List PV := (l.drop (kms_lo lo l.length)).take (kms_hi hi l.length - kms_lo lo l.length)
theorem VAll.kpick {I : Led} {vs : List Value} {ps : List PV} (h : VAll I vs ps) (lo hi : Option Int) : VAll I (kms_pick vs lo hi) (pickP ps lo hi) := by
  unfold kms_pick pickP; rw [h.length]; exact h.pick _ _
theorem pickP_upto (l : List PV) {k : Int} (h : 0 ≤ k) : pickP l .none (some k) = l.take k.toNat := by
  unfold pickP kms_lo kms_hi
  have : ¬ k < 0 := by (first | lia | omega)
  simp only [this, if_false, List.drop_zero, Nat.sub_zero]
  rw [List.take_eq_take_iff]; (first | lia | omega)
theorem pickP_from (l : List PV) {k : Int} (h : 0 ≤ k) : pickP l (some k) .none = l.drop k.toNat := by
  unfold pickP kms_lo kms_hi
  have : ¬ k < 0 := by (first | lia | omega)
  simp only [this, if_false]
  by_cases hk : k.toNat ≤ l.length
  · rw [Nat.min_eq_left hk, List.take_of_length_le (by simp)]
  · rw [Nat.min_eq_right (by (first | lia | omega)), Nat.sub_self, List.take_zero, List.drop_eq_nil_of_le (by (first | lia | omega))]
theorem AP.listG {vl vu : Value} {lo hi : Option Int} (pl : IsPart vl lo) (pu : IsPart vu hi) {o : PV} (ho : (∃ b, o = .ref b ∧ (b, AObj.list l) ∈ σ) ∨ o = .lst l) (hz : l.length ≤ 1000) (kk : K (.lst (pickP l lo hi)) σ) : AP C ρ σ o (.obj (sliceObj vl vu)) K := by
  intro τ s vo vi Q E J hvo hvi q
  refine Inv.out J fun m S I D => ?_
  have ri := D.tmp _ hvi
  have ro := D.tmp _ hvo
  have key : ∀ b us, vo = .ref b → s.heap.IsList b us.toArray → VAll I us l → wpAny C.M C.A (getItem vo vi) Q E s := by
    intro b us e hl hv
    subst e
    cases ri with
    | @obj sa _ hm =>
      have hsl : s.heap.IsSliceOf sa vl vu .none := ⟨_, (D.N _ (mem3.mpr (.inr (.inr hm)))).1, rfl, rfl⟩
      refine wpAny_getItem_list_slice hl hsl pl pu .none (by simp) ?_ (by rw [List.size_toArray, hv.length]; exact sizeLine_le hz)
      rw [kms_pick_eq]
      exact q _ _ σ _ kk (((D.pushI (listOf (kms_pick us lo hi).toArray 0) (tk := s.toks)).more (.lst (.head _) ((hv.kpick lo hi).mono fun _ h => .tail _ h))).inv)
  rcases ho with ⟨b, rfl, hm⟩ | rfl
  · cases ro
    obtain ⟨us, hl, hv⟩ := D.isList hm
    exact key b us rfl hl hv
  · obtain ⟨b, us, e, hl, hv⟩ := D.lst ro
    exact key b us e hl hv
theorem AP.listTo {t : Tok} (hm : (a, AObj.list l) ∈ σ) (h0 : 0 ≤ k) (hz : l.length ≤ 1000) (kk : K (.lst (l.take k.toNat)) σ) : AP C ρ σ (.ref a) (.obj (sliceObj .none (.int k t))) K :=
  AP.listG .none (.int k t) (.inl ⟨a, rfl, hm⟩) hz (by rw [pickP_upto l h0]; exact kk)
theorem AP.lstTo {t : Tok} (h0 : 0 ≤ k) (hz : l.length ≤ 1000) (kk : K (.lst (l.take k.toNat)) σ) : AP C ρ σ (.lst l) (.obj (sliceObj .none (.int k t))) K :=
  AP.listG .none (.int k t) (.inr rfl) hz (by rw [pickP_upto l h0]; exact kk)
theorem AP.lstFrom {t : Tok} (h0 : 0 ≤ k) (hz : l.length ≤ 1000) (kk : K (.lst (l.drop k.toNat)) σ) : AP C ρ σ (.lst l) (.obj (sliceObj (.int k t) .none)) K :=
  AP.listG (.int k t) .none (.inr rfl) hz (by rw [pickP_from l h0]; exact kk)
noncomputable def AW (C : Ctx) (ρ : Locs) (σ : Store) (o i p : PV) (K : Store → Prop) : Prop :=
  ∀ τ s vo vi v (Q : Unit → Shared → Prop) E, Inv C ρ σ τ s → (vo, o) ∈ τ → (vi, i) ∈ τ → (v, p) ∈ τ → (∀ σ' s', K σ' → Inv C ρ σ' τ s' → Q () s') → wpAny C.M C.A (setItem vo vi v) Q E s
noncomputable abbrev AsuK3 (ρ : Locs) (K : Locs → Store → Prop) : Store → Prop := fun σ => K ρ σ
noncomputable abbrev AsuK2 (C : Ctx) (ρ : Locs) (po p : PV) (K : Locs → Store → Prop) : PV → Store → Prop := fun pi σ₂ => AW C ρ σ₂ po pi p (AsuK3 ρ K)
noncomputable abbrev AsuK (C : Ctx) (ρ : Locs) (i : Expr) (p : PV) (K : Locs → Store → Prop) : PV → Store → Prop := fun po σ₁ => AE C ρ σ₁ i (AsuK2 C ρ po p K)
theorem AG.sub {o i : Expr} {K : Locs → Store → Prop} (h : AE C ρ σ o (AsuK C ρ i p K)) : AG C ρ σ (.Subscript o i pos) p K := by
  intro τ s v Q E J hv q
  rw [assign_Subscript]
  refine wpAny_bind (wpAny_holding (h τ s _ E J fun vo po σ₁ s₁ h₁ J₁ => wpAny_bind (wpAny_holding (h₁ _ s₁ _ E J₁ fun vi pi σ₂ s₂ h₂ J₂ => wpAny_bind (wpAny_standAt (wpAny_bind (wpAny_holding ?_)))))))
  exact h₂ _ s₂ vo vi v _ E J₂ (.tail _ (.head _)) (.head _) (.tail _ (.tail _ hv)) fun σ₃ s₃ k J₃ => wpAny_releaseM (q ρ σ₃ s₃ k (J₃.tmps fun q hq => .tail _ (.tail _ hq)))
theorem AW.list {K : Store → Prop} (U : UpdS a (.list l) (.list (l.set k.toNat p)) σ σ') (h0 : 0 ≤ k) (h1 : k < l.length) (hz : l.length ≤ 1000) (kk : K σ') : AW C ρ σ (.ref a) (.int k) p K := by
  intro τ s vo vi v Q E J ho hi hv q
  cases J.getVal ho
  obtain ⟨t, rfl⟩ := J.getInt hi
  refine Inv.out J fun m S I D => ?_
  have hp := D.tmp _ hv
  obtain ⟨us, n, hg, hr, put⟩ := D.lupd U
  refine ki_setAt hg h0 (by (first | lia | omega)) (by rw [List.size_toArray, hr.length]; exact h1) ?_
  refine q σ' _ kk (put (us.set k.toNat v) n _ s.toks (hr.set k.toNat hp) (Heap.SameBut.update ..) ?_).inv
  have h4 := PySem.IsL.update hg (fun xs => xs.setIfInBounds k.toNat v)
  rw [h4]
  have h5 : us.toArray.setIfInBounds k.toNat v = (us.set k.toNat v).toArray := by
    apply Array.toList_inj.mp; simp
  rw [h5, if_pos (by simp)]
end
end
section
@[reducible] def Ctx.jj (C : Ctx) (J I₀ : Led) : Ctx := { C with J := J, I₀ := I₀ }
theorem Ctx.Ok.jj {C : Ctx} {n : Nat} (O : C.Ok n) (J I₀ : Led) : (C.jj J I₀).Ok n := ⟨O.stack, O.X, O.T, O.hh, O.depth, O.units, O.hk, O.gl, O.bi⟩
section
variable {C : Ctx} {n : Nat} {ρ : Locs} {σ : Store} {τ : Tmp} {s : Shared} {m : Str → Option Value} {S I J I₀ E E' : Led} {h' : Heap} {tk : Nat}
theorem InvD.ext (D : InvD C ρ σ τ s m S I) (hk : ∀ b o, s.heap.get? b = some o → h'.get? b = some o) : InvD C ρ σ τ { s with heap := h', toks := tk } m S I :=
  ⟨⟨D.F.ns.keeps hk, fun b o e => hk b o (D.F.keep b o e), D.F.above⟩, fun p hp => ⟨hk _ _ (D.N p hp).1, (D.N p hp).2⟩, D.nd, D.sep, D.sub, D.loc, D.tmp, D.g, D.d, D.os⟩
theorem InvD.reJ (D : InvD (C.jj (E ++ J) I₀) ρ σ τ s m S I) (ea : E'.map (·.1) = E.map (·.1)) (hk : ∀ b o, b ∉ E.map (·.1) → s.heap.get? b = some o → h'.get? b = some o) (hE : ∀ p ∈ E', h'.get? p.1 = some p.2) :
    InvD (C.jj (E' ++ J) I₀) ρ σ τ { s with heap := h', toks := tk } m S I := by
  have hin : ∀ p ∈ E, p ∈ S ++ ((E ++ J) ++ I) := fun p hp => by simp [hp]
  have nd : ((S ++ ((E ++ J) ++ I)).map (·.1)).Nodup := D.nd
  have hS : ∀ p ∈ S ++ ((E' ++ J) ++ I), p ∈ E' ∨ (p ∈ S ++ ((E ++ J) ++ I) ∧ p.1 ∉ E.map (·.1)) := by
    intro p hp
    have nd' : ((S ++ (J ++ I)) ++ E).map (·.1) |>.Nodup := by
      refine (List.Perm.nodup_iff (List.Perm.map _ ?_)).mp nd
      calc (S ++ ((E ++ J) ++ I)).Perm (S ++ ((J ++ I) ++ E)) := by
            refine List.Perm.append_left _ ?_
            rw [List.append_assoc]
            exact List.perm_append_comm
        _ = ((S ++ (J ++ I)) ++ E) := by simp only [List.append_assoc]
    rw [List.map_append] at nd'
    have nd2 := (List.nodup_append.mp nd').2.2
    have out : ∀ q ∈ S ++ (J ++ I), q.1 ∉ E.map (·.1) := fun q hq hm => nd2 _ (List.mem_map_of_mem hq) _ hm rfl
    simp only [List.mem_append] at hp
    rcases hp with hp | (hp | hp) | hp
    · exact .inr ⟨by simp [hp], out p (by simp [hp])⟩
    · exact .inl hp
    · exact .inr ⟨by simp [hp], out p (by simp [hp])⟩
    · exact .inr ⟨by simp [hp], out p (by simp [hp])⟩
  have hL : C.env.locals ∉ E.map (·.1) := fun q => by
    obtain ⟨p, hp, e⟩ := List.mem_map.mp q
    exact (D.N p (hin p hp)).2.1 e
  refine ⟨⟨?_, fun b o e => hk b o (fun q => ?_) (D.F.keep b o e), D.F.above⟩, fun p hp => ?_, ?_, D.sep, D.sub, D.loc, D.tmp, D.g, D.d, D.os⟩
  · obtain ⟨o, es, ep, ho, r⟩ := D.F.ns
    exact ⟨o, es, ep, hk _ _ hL ho, r⟩
  · obtain ⟨p, hp, e'⟩ := List.mem_map.mp q
    have := (D.N p (hin p hp)).2.2
    rw [e'] at this
    have e2 : C.h₀.get? b = some o := e
    rw [show (C.jj (E ++ J) I₀).h₀ = C.h₀ from rfl, e2] at this; cases this
  · rcases hS p hp with h1 | ⟨h1, h2⟩
    · have : p.1 ∈ E.map (·.1) := by rw [← ea]; exact List.mem_map_of_mem h1
      obtain ⟨p₀, hp₀, e⟩ := List.mem_map.mp this
      have hN := (D.N p₀ (hin p₀ hp₀)).2
      rw [e] at hN
      exact ⟨hE p h1, hN⟩
    · exact ⟨hk _ _ h2 (D.N p h1).1, (D.N p h1).2⟩
  · have e1 : (S ++ ((E' ++ J) ++ I)).map (·.1) = (S ++ ((E ++ J) ++ I)).map (·.1) := by simp only [List.map_append, ea]
    show ((S ++ ((E' ++ J) ++ I)).map (·.1)).Nodup
    rw [e1]; exact nd
theorem InvD.addJ (D : InvD C ρ σ τ s m S I) (hk : ∀ b o, s.heap.get? b = some o → h'.get? b = some o) (hE : ∀ p ∈ E, h'.get? p.1 = some p.2) (hf : ∀ p ∈ E, s.heap.get? p.1 = none) (hn : (E.map (·.1)).Nodup) :
    InvD (C.jj (E ++ C.J) I) ρ σ τ { s with heap := h', toks := tk } m S I := by
  have hfr : ∀ p ∈ E, ∀ b o, s.heap.get? b = some o → p.1 ≠ b := fun p hp b o e q => by rw [← q, hf p hp] at e; cases e
  refine ⟨⟨D.F.ns.keeps hk, fun b o e => hk b o (D.F.keep b o e), D.F.above⟩, fun p hp => ?_, ?_, D.sep, fun _ h => h, D.loc, D.tmp, D.g, D.d, D.os⟩
  · have hp' : p ∈ S ++ ((E ++ C.J) ++ I) := hp
    simp only [List.mem_append] at hp'
    have old : p ∈ S ++ (C.J ++ I) → h'.get? p.1 = some p.2 ∧ p.1 ≠ C.env.locals ∧ C.h₀.get? p.1 = none := fun h => ⟨hk _ _ (D.N p h).1, (D.N p h).2⟩
    rcases hp' with h | (h | h) | h
    · exact old (by simp [h])
    · refine ⟨hE p h, fun q => ?_, ?_⟩
      · obtain ⟨o, _, _, ho, _⟩ := D.F.ns
        exact hfr p h _ _ ho q
      · cases q : C.h₀.get? p.1 with
        | none => rfl
        | some o => exact absurd rfl (hfr p h _ _ (D.F.keep _ _ q))
    · exact old (by simp [h])
    · exact old (by simp [h])
  · have nd := D.nd
    show ((S ++ ((E ++ C.J) ++ I)).map (·.1)).Nodup
    have hp : (S ++ ((E ++ C.J) ++ I)).Perm (E ++ (S ++ (C.J ++ I))) := by
      rw [List.append_assoc]
      exact List.perm_append_comm_assoc _ _ _
    refine (hp.map (·.1)).nodup_iff.mpr ?_
    rw [List.map_append]
    refine List.nodup_append.mpr ⟨hn, nd, fun a ha b hb e => ?_⟩
    obtain ⟨p, hp, rfl⟩ := List.mem_map.mp ha
    obtain ⟨q, hq, rfl⟩ := List.mem_map.mp hb
    exact hfr p hp _ _ (D.N q hq).1 e
theorem InvD.dropJ (D : InvD (C.jj (E ++ C.J) I₀) ρ σ τ s m S I) (hs : ∀ p ∈ C.I₀, p ∈ I₀) : InvD C ρ σ τ s m S I := by
  refine ⟨D.F, News.sub D.N fun p hp => ?_, ?_, D.sep, fun p hp => D.sub p (hs p hp), D.loc, D.tmp, D.g, D.d, D.os⟩
  · have : p ∈ S ∨ p ∈ C.J ∨ p ∈ I := mem3.mp hp
    show p ∈ S ++ ((E ++ C.J) ++ I)
    simp only [List.mem_append]
    rcases this with h | h | h <;> simp [h]
  · have nd : ((S ++ ((E ++ C.J) ++ I)).map (·.1)).Nodup := D.nd
    have hp : (S ++ ((E ++ C.J) ++ I)).Perm (E ++ (S ++ (C.J ++ I))) := by
      rw [List.append_assoc]
      exact List.perm_append_comm_assoc _ _ _
    have := (hp.map (·.1)).nodup_iff.mp nd
    rw [List.map_append] at this
    exact (List.nodup_append.mp this).2.1
end
theorem InvD.cutJ {C : Ctx} {ρ : Locs} {σ : Store} {τ : Tmp} {s : Shared} {m : Str → Option Value} {S I J I₀ E : Led} {h' : Heap} {tk : Nat} (D : InvD (C.jj (E ++ J) I₀) ρ σ τ s m S I) (hk : ∀ b o, b ∉ E.map (·.1) → s.heap.get? b = some o → h'.get? b = some o) :
    InvD (C.jj J I₀) ρ σ τ { s with heap := h', toks := tk } m S I := by
  have nd : ((S ++ ((E ++ J) ++ I)).map (·.1)).Nodup := D.nd
  have hp : (S ++ ((E ++ J) ++ I)).Perm (E ++ (S ++ (J ++ I))) := by
    rw [List.append_assoc]
    exact List.perm_append_comm_assoc _ _ _
  have nd2 := (hp.map (·.1)).nodup_iff.mp nd
  rw [List.map_append] at nd2
  have nd3 := List.nodup_append.mp nd2
  have hin : ∀ p ∈ E, p ∈ S ++ ((E ++ J) ++ I) := fun p hp => by simp [hp]
  have out : ∀ q ∈ S ++ (J ++ I), q.1 ∉ E.map (·.1) := fun q hq hm => nd3.2.2 _ hm _ (List.mem_map_of_mem hq) rfl
  have hL : C.env.locals ∉ E.map (·.1) := fun q => by
    obtain ⟨p, hp, e⟩ := List.mem_map.mp q
    exact (D.N p (hin p hp)).2.1 e
  refine ⟨⟨?_, fun b o e => hk b o (fun q => ?_) (D.F.keep b o e), D.F.above⟩, fun p hp => ?_, nd3.2.1, D.sep, D.sub, D.loc, D.tmp, D.g, D.d, D.os⟩
  · obtain ⟨o, es, ep, ho, r⟩ := D.F.ns
    exact ⟨o, es, ep, hk _ _ hL ho, r⟩
  · obtain ⟨p, hp, e'⟩ := List.mem_map.mp q
    have := (D.N p (hin p hp)).2.2
    rw [e'] at this
    have e2 : C.h₀.get? b = some o := e
    rw [show (C.jj (E ++ J) I₀).h₀ = C.h₀ from rfl, e2] at this; cases this
  · have hp' : p ∈ S ++ (J ++ I) := hp
    have h1 : p ∈ S ++ ((E ++ J) ++ I) := by
      simp only [List.mem_append] at hp' ⊢
      rcases hp' with h | h | h <;> simp [h]
    exact ⟨hk _ _ (out p hp') (D.N p h1).1, (D.N p h1).2⟩
noncomputable def Next (it : Value) (EP : Nat → Led → Prop) (EO : Nat → Value → Led → Prop) (l : List PV) (Src : Store → Prop) (I₀ : Led) : Prop :=
  ∀ (C : Ctx), C.A.handled = none → ∀ J I₁, (∀ p ∈ I₀, p ∈ I₁) → ∀ i E ρ σ τ s (Q : Option Value → Shared → Prop) X, EP i E → Inv (C.jj (E ++ J) I₁) ρ σ τ s → Src σ →
    (∀ v p E' s', l[i]? = some p → EO (i + 1) v E' → Inv (C.jj (E' ++ J) I₁) ρ σ ((v, p) :: τ) s' → Q (some v) s') →
    (∀ s', l[i]? = none → Inv (C.jj J I₁) ρ σ τ s' → Q none s') → wpAny C.M C.A (pyNext it) Q X s
noncomputable def Own (it : Value) (EP : Nat → Led → Prop) (EO : Nat → Value → Led → Prop) (TOk : Expr → Prop) : Prop :=
  ∀ (C : Ctx) J I₁ i E ρ σ τ s t v (Q : Unit → Shared → Prop) X, TOk t → EO i v E → Inv (C.jj (E ++ J) I₁) ρ σ τ s → (∀ E' s', EP i E' → Inv (C.jj (E' ++ J) I₁) ρ σ τ s' → Q () s') → wpAny C.M C.A (letOwnedTupleGo t it v) Q X s
noncomputable def Self (it : Value) (EP : Nat → Led → Prop) : Prop :=
  ∀ (C : Ctx) J I₁ i E ρ σ τ s (Q : Value → Shared → Prop) X, EP i E → Inv (C.jj (E ++ J) I₁) ρ σ τ s → Q it s → wpAny C.M C.A (pyIter it) Q X s
noncomputable def IterG (C : Ctx) (σ : Store) (p : PV) (l : List PV) (Src : Store → Prop) (TOk : Expr → Prop) (σ' : Store) : Prop :=
  ∀ ρ τ s v (Q : Value → Shared → Prop) X, Inv C ρ σ τ s → (v, p) ∈ τ →
    (∀ it EP EO E I₀ s', (∀ p ∈ C.I₀, p ∈ I₀) → EP 0 E → (Inv (C.jj (E ++ C.J) I₀) ρ σ' τ s') → Next it EP EO l Src I₀ → Own it EP EO TOk → Self it EP → Q it s') → wpAny C.M C.A (pyIter v) Q X s
noncomputable abbrev Iter (C : Ctx) (σ : Store) (p : PV) (l : List PV) (Src : Store → Prop) : Prop := IterG C σ p l Src (fun _ => True) σ
theorem turn_lt {d l : List PV} {p : PV} (h : d.length < l.length) : l.length - (d ++ [p]).length < l.length - d.length ∧ (d ++ [p]).length ≤ l.length := by
  rw [List.length_append, List.length_singleton]; omega
noncomputable abbrev TurnK (V : List PV → Locs → Store → Prop) (d : List PV) (x : PV) (K : Fl → Locs → Store → Prop) : Fl → Locs → Store → Prop := fun fl ρ'' σ'' =>
  match fl with | .next => V (d ++ [x]) ρ'' σ'' | .cont => V (d ++ [x]) ρ'' σ'' | .brk => K .next ρ'' σ'' | .ret p => K (.ret p) ρ'' σ''
noncomputable abbrev BodK (C : Ctx) (body : List Stmt) (K : Fl → Locs → Store → Prop) : Locs → Store → Prop := fun ρ' σ' => AX C ρ' σ' body K
noncomputable abbrev ForK (C : Ctx) (ρ : Locs) (target : Expr) (body : List Stmt) (K : Fl → Locs → Store → Prop) : PV → Store → Prop := fun p σ₁ =>
  ∃ l Src, ∃ V : List PV → Locs → Store → Prop, ∃ TOk σ₂, IterG C σ₁ p l Src TOk σ₂ ∧ TOk target ∧ V [] ρ σ₂ ∧ (∀ ρ σ, V l ρ σ → K .next ρ σ) ∧ (∀ d ρ σ, V d ρ σ → Src σ) ∧
      ∀ d x r, l = d ++ x :: r → ∀ J I₀ ρ σ, V d ρ σ → AG (C.jj J I₀) ρ σ target x (BodK (C.jj J I₀) body (TurnK V d x K))
theorem TurnK.next {V : List PV → Locs → Store → Prop} {d : List PV} {x : PV} {K : Fl → Locs → Store → Prop} {ρ : Locs} {σ : Store} (h : V (d ++ [x]) ρ σ) : TurnK V d x K .next ρ σ := h
theorem TurnK.ret {V : List PV → Locs → Store → Prop} {d : List PV} {x p : PV} {K : Fl → Locs → Store → Prop} {ρ : Locs} {σ : Store} (h : K (.ret p) ρ σ) : TurnK V d x K (.ret p) ρ σ := h
theorem ForK.mk {C : Ctx} {ρ : Locs} {target : Expr} {body : List Stmt} {K : Fl → Locs → Store → Prop} {p : PV} {σ₁ σ₂ : Store} {l : List PV} {Src : Store → Prop} {TOk : Expr → Prop} (V : List PV → Locs → Store → Prop) (it : IterG C σ₁ p l Src TOk σ₂) (tk : TOk target)
    (v0 : V [] ρ σ₂) (hk : ∀ ρ σ, V l ρ σ → K .next ρ σ) (hs : ∀ d ρ σ, V d ρ σ → Src σ) (st : ∀ d x r, l = d ++ x :: r → ∀ J I₀ ρ σ, V d ρ σ → AG (C.jj J I₀) ρ σ target x (BodK (C.jj J I₀) body (TurnK V d x K))) : ForK C ρ target body K p σ₁ :=
  ⟨l, Src, V, TOk, σ₂, it, tk, v0, hk, hs, st⟩
theorem AS.forIn {C : Ctx} {n : Nat} {ρ : Locs} {σ : Store} {target iter : Expr} {body : List Stmt} {pos : Pos} {K : Fl → Locs → Store → Prop}
    (h : AE C ρ σ iter (ForK C ρ target body K))
    (hs : ∀ x, foldedSetIterable iter C.env x = pure x) (hh : C.A.handled = none) : AS C ρ σ (.For target iter body [] pos) K := by
  intro s Q E J P
  refine wpAny_For (h [] s _ E J fun v p σ₁ s₁ k J₁ => ?_) hs
  obtain ⟨l, Src, V, TOk, σ₂, hi, tok, v0, vend, vsrc, step⟩ := k
  refine hi ρ _ s₁ v _ E J₁ (.head _) fun it EP EO E₀ I₀ s₂ hI hE J₂ nx lt _ => ?_
  refine codeAny_forLoop_any (fun k s => ∃ d ρ' σ' E', l.length - d.length = k ∧ d.length ≤ l.length ∧ d = l.take d.length ∧ V d ρ' σ' ∧ EP d.length E' ∧ Inv (C.jj (E' ++ C.J) I₀) ρ' σ' [] s) (fun k s hk => ?_) _
    ⟨[], ρ, σ₂, E₀, rfl, Nat.zero_le _, rfl, v0, hE, J₂.tmps fun _ h => nomatch h⟩
  obtain ⟨d, ρ', σ', E', hd, hle, ht, hv, hE', J'⟩ := hk
  refine nx C hh C.J I₀ (fun _ h => h) _ E' ρ' σ' [] s _ _ hE' J' (vsrc _ _ _ hv) (fun v p E'' s' hp hE'' J'' => ?_) fun s' hp J'' => ?_
  · have hlt : d.length < l.length := (List.getElem?_eq_some_iff.mp hp).1
    have hl : l = d ++ p :: l.drop (d.length + 1) := by
      have h1 := (List.take_append_drop d.length l).symm
      rw [← ht] at h1
      have h2 : l.drop d.length = p :: l.drop (d.length + 1) := by
        rw [← List.getElem_cons_drop hlt]
        congr 1
        exact Option.some.inj ((List.getElem?_eq_getElem hlt).symm.trans hp)
      rw [h2] at h1; exact h1
    refine lt C C.J I₀ _ E'' ρ' σ' _ s' _ _ _ _ tok hE'' J'' fun E'' s' hE'' J'' => ?_
    refine step d p _ hl (E'' ++ C.J) I₀ ρ' σ' hv _ s' v _ _ J'' (.head _) fun ρ₂ σ₂ s₂ hx J₂ => ?_
    have nextV : ∀ ρ₃ σ₃ s₃, V (d ++ [p]) ρ₃ σ₃ → Inv (C.jj (E'' ++ C.J) I₀) ρ₃ σ₃ [] s₃ → ∃ m, m < k ∧ ∃ d ρ' σ' E', l.length - d.length = m ∧ d.length ≤ l.length ∧ d = l.take d.length ∧ V d ρ' σ' ∧ EP d.length E' ∧ Inv (C.jj (E' ++ C.J) I₀) ρ' σ' [] s₃ := by
      intro ρ₃ σ₃ s₃ hv₃ J₃
      refine ⟨l.length - (d ++ [p]).length, hd ▸ (turn_lt hlt).1, d ++ [p], ρ₃, σ₃, E'', rfl, (turn_lt hlt).2, ?_, hv₃, by simpa using hE'', J₃⟩
      obtain ⟨r, hr⟩ : ∃ r, l = d ++ p :: r := ⟨_, hl⟩
      rw [hr]
      have e1 : d ++ p :: r = (d ++ [p]) ++ r := by simp
      rw [e1, List.take_left]
    refine hx s₂ _ _ (J₂.tmps fun _ h => nomatch h) ⟨fun ρ₃ σ₃ s₃ k₃ J₃ => nextV ρ₃ σ₃ s₃ k₃ J₃, fun ρ₃ σ₃ s₃ k₃ J₃ => ?_, fun ρ₃ σ₃ s₃ k₃ J₃ => nextV ρ₃ σ₃ s₃ k₃ J₃, fun v₃ p₃ ρ₃ σ₃ s₃ k₃ J₃ => ?_⟩
    · obtain ⟨m, S, I, D⟩ := J₃
      exact P.next ρ₃ σ₃ s₃ k₃ (D.dropJ hI).inv
    · obtain ⟨m, S, I, D⟩ := J₃
      exact P.ret v₃ p₃ ρ₃ σ₃ s₃ k₃ (D.dropJ hI).inv
  · have hd' : d = l := by
      have : l.length ≤ d.length := List.getElem?_eq_none_iff.mp hp
      rw [ht]; exact List.take_of_length_le this
    refine Inv.out J'' fun m S I D => ?_
    exact wpAny_execs_nil (P.next ρ' σ' s' (vend _ _ (hd' ▸ hv)) (InvD.dropJ (E := []) D hI).inv)
section
variable {C : Ctx} {n : Nat} {ρ : Locs} {σ : Store} {test : Expr} {body : List Stmt} {pos : Pos} {K : Fl → Locs → Store → Prop}
theorem AS.while (V : Nat → Locs → Store → Prop) (k : Nat) (v0 : V k ρ σ)
    (step : ∀ k ρ σ, V k ρ σ → AT C ρ σ test fun b σ' => (b = true → AX C ρ σ' body fun fl ρ'' σ'' =>
        match fl with | .next => ∃ j, j < k ∧ V j ρ'' σ'' | .cont => ∃ j, j < k ∧ V j ρ'' σ'' | .brk => K .next ρ'' σ'' | .ret p => K (.ret p) ρ'' σ'') ∧ (b = false → K .next ρ σ')) : AS C ρ σ (.While test body [] pos) K := by
  intro s Q E J P
  refine wpAny_While (codeAny_whileLoop (fun k s => ∃ ρ σ, V k ρ σ ∧ Inv C ρ σ [] s) (fun k s hk => ?_) k ⟨ρ, σ, v0, J⟩)
  obtain ⟨ρ', σ', hv, J'⟩ := hk
  refine step k ρ' σ' hv [] s _ _ J' fun b σ'' s' hb J'' => ?_
  cases b with
  | true =>
    refine hb.1 rfl s' _ _ J'' ⟨fun ρ₃ σ₃ s₃ k₃ J₃ => ?_, fun ρ₃ σ₃ s₃ k₃ J₃ => P.next _ _ _ k₃ J₃, fun ρ₃ σ₃ s₃ k₃ J₃ => ?_, fun v₃ p₃ ρ₃ σ₃ s₃ k₃ J₃ => P.ret _ _ _ _ _ k₃ J₃⟩
    · obtain ⟨j, hj, hv⟩ := k₃; exact ⟨j, hj, _, _, hv, J₃⟩
    · obtain ⟨j, hj, hv⟩ := k₃; exact ⟨j, hj, _, _, hv, J₃⟩
  | false => exact wpAny_execs_nil (P.next _ _ _ (hb.2 rfl) J'')
end
end
section
set_option tactic.hygienic false
section
variable {C : Ctx} {n : Nat} {ρ : Locs} {σ σ' : Store} {τ : Tmp} {s : Shared} {a : Addr} {l : List PV} {pos : Pos} {p : PV}
noncomputable def EList (it a : Addr) (i : Nat) (E : Led) : Prop := ∃ o, E = [(it, o)] ∧ o.cls = .type "list_iterator" ∧ o.data = .fields #[.ref a, .int i 0]
theorem get_none_size {h : Heap} : h.get? h.objs.size = none := by
  cases q : h.get? h.objs.size with
  | none => rfl
  | some o => exact absurd (Heap.lt_size q) (Nat.lt_irrefl _)
theorem Next.list {it : Addr} {Src : Store → Prop} {I₀ : Led}
    (hsrc : ∀ (C : Ctx) (J I₁ E : Led) ρ σ τ s m S I, (∀ p ∈ I₀, p ∈ I₁) → InvD (C.jj (E ++ J) I₁) ρ σ τ s m S I → Src σ → ∃ vs, s.heap.IsList a vs.toArray ∧ VAll I vs l) :
    Next (.ref it) (EList it a) (fun i _ => EList it a i) l Src I₀ := by
  intro C hh J I₁ hI₁ i E ρ σ τ s Q X hE J hs qs qn
  obtain ⟨o, rfl, hc, hd⟩ := hE
  refine Inv.out J fun m S I D => ?_
  obtain ⟨vs, hl, hv⟩ := hsrc _ _ _ _ ρ σ τ s m S I hI₁ D hs
  have hit : s.heap.IsListIter it a i := ⟨o, (D.N (it, o) (by simp)).1, hc, hd⟩
  cases hx : vs[i]? with
  | some v =>
    obtain ⟨p, hp, hr⟩ := hv.getV hx
    refine wpAny_pyNext_list_item hit hl (by simpa using hx) fun h' hit' hsb => ?_
    obtain ⟨o', ho', hc', hd'⟩ := hit'
    refine qs v p [(it, o')] _ hp ⟨o', rfl, hc', hd'⟩ ((InvD.reJ (E := [(it, o)]) D (E' := [(it, o')]) (tk := s.toks) rfl (fun b ob hb e => (hsb.2 b (fun q => hb (by simp [q]))).trans e) (fun p hp => ?_)).more hr).inv
    rw [List.mem_singleton.mp hp]; exact ho'
  | none =>
    refine wpAny_pyNext_list_end hh hit hl (by simpa using hx) fun h' he => ?_
    refine qn _ (by rw [List.getElem?_eq_none_iff] at hx ⊢; rw [← hv.length]; exact hx) (InvD.cutJ (E := [(it, o)]) D (tk := s.toks) fun b ob hb e => he b ob (fun q => hb (by simp [q])) e).inv
theorem Own.plain {it : Addr} {EP : Nat → Led → Prop} (h : ∀ i E, EP i E → ∃ o c vs, (it, o) ∈ E ∧ o.cls = .type c ∧ o.data = .fields vs ∧ (["enumerate", "zip", "dict_itemiterator", "dict_reverseitemiterator", "odict_iterator", "itertools.zip_longest", "itertools.pairwise"] : List String).contains c = false) : Own (.ref it) EP (fun i _ => EP i) (fun _ => True) := by
  intro C J I₁ i E ρ σ τ s t v Q X _ hE J q
  have fin : Q () s := q E s hE J
  obtain ⟨o, c, vs, hm, hc, hd, hn⟩ := h i E hE
  refine Inv.out J fun m S I D => ?_
  have ho := (D.N (it, o) (by simp [hm])).1
  have key : wpAny C.M C.A (do
      let (.ref r, .ref a) := ((Value.ref it, v) : Value × Value) | return
      let o ← load r
      match o.cls, o.data with
      | .type n, .fields vs =>
        if ["enumerate", "zip", "dict_itemiterator", "dict_reverseitemiterator", "odict_iterator", "itertools.zip_longest", "itertools.pairwise"].contains n && vs[0]? == some (rawInt a) then
          rule "for.unpacks-the-owned-tuple"
          updateField r 0 .none
      | _, _ => pure ()) Q X s := by
    cases v with
    | ref a =>
      refine wpAny_bind (wpAny_load ho ?_)
      rw [hc, hd]
      show wpAny _ _ (if (_ && _) = true then _ else _) Q X s
      rw [hn, Bool.false_and, if_neg (by decide)]
      exact wpAny_pure fin
    | _ => exact wpAny_pure fin
  cases t with
  | Tuple => exact key
  | List => exact key
  | _ => exact wpAny_pure fin
theorem Iter.ofList {Src : Store → Prop} {v : Value} {ρ : Locs} {s : Shared} {m : Str → Option Value} {S I : Led} {Q : Value → Shared → Prop} {X : Value → Shared → Prop} {vs : List Value} (D : InvD C ρ σ τ s m S I) (hl : s.heap.IsList a vs.toArray)
    (hsrc : ∀ (C : Ctx) (J I₁ E : Led) ρ σ τ s m S I', (∀ p ∈ I, p ∈ I₁) → InvD (C.jj (E ++ J) I₁) ρ σ τ s m S I' → Src σ → ∃ vs, s.heap.IsList a vs.toArray ∧ VAll I' vs l)
    (k : ∀ it EP EO E I₀ s', (∀ p ∈ C.I₀, p ∈ I₀) → EP 0 E → (Inv (C.jj (E ++ C.J) I₀) ρ σ τ s') → Next it EP EO l Src I₀ → Own it EP EO (fun _ => True) → Self it EP → Q it s') : wpAny C.M C.A (pyIter (.ref a)) Q X s := by
  refine wpAny_pyIter_list hl ?_
  have hnew := get_none_size (h := s.heap)
  refine k (.ref s.heap.objs.size) (EList s.heap.objs.size a) (fun i _ => EList s.heap.objs.size a i) [(s.heap.objs.size, { cls := .type "list_iterator", data := .fields #[.ref a, .int 0 0] })] I _ D.sub ⟨_, rfl, rfl, rfl⟩
    (D.addJ (tk := s.toks) (fun b o e => Heap.get?_push_of_some _ e) (fun p hp => ?_) (fun p hp => ?_) (by simp)).inv (Next.list hsrc) (Own.plain fun i E hE => ?_) (fun C J I₁ i E ρ σ τ s Q X hE J q => ?_)
  · rw [List.mem_singleton.mp hp]; exact Heap.get?_push_size _ rfl
  · rw [List.mem_singleton.mp hp]; exact hnew
  · obtain ⟨o, rfl, hc, hd⟩ := hE
    exact ⟨o, _, _, by simp, hc, hd, by decide⟩
  · obtain ⟨o, rfl, hc, hd⟩ := hE
    refine Inv.out J fun m S I D => ?_
    exact wpAny_pyIter_listiter (l := a) (i := i) ⟨o, (D.N (_, o) (by simp)).1, hc, hd⟩ q
theorem Iter.list (hm : (a, AObj.list l) ∈ σ) : Iter C σ (.ref a) l fun σ => (a, AObj.list l) ∈ σ := by
  intro ρ τ s v Q X J hv k
  cases J.getVal hv
  refine Inv.out J fun m S I D => ?_
  obtain ⟨vs, hl, hr⟩ := D.isList hm
  exact Iter.ofList (v := .ref a) D hl (fun C J I₁ E ρ σ τ s m S I' _ D' hm' => D'.isList hm') k
theorem Iter.lst : Iter C σ (.lst l) l fun _ => True := by
  intro ρ τ s v Q X J hv k
  refine Inv.out J fun m S I D => ?_
  have hr := D.tmp _ hv
  cases hr with
  | @lst b vs nn _ hm hv =>
    have hl : s.heap.IsList b vs.toArray := ⟨_, (D.N _ (mem3.mpr (.inr (.inr hm)))).1, rfl, nn, rfl⟩
    refine Iter.ofList (v := .ref b) D hl (fun C J I₁ E ρ σ τ s m S I' hI D' _ => ⟨vs, ⟨_, (D'.N (b, listOf vs.toArray nn) (by simp [D'.sub _ (hI _ hm)])).1, rfl, nn, rfl⟩, hv.mono fun p hp => D'.sub p (hI p hp)⟩) k
end
theorem InvD.mores {C : Ctx} {ρ : Locs} {σ : Store} {s : Shared} {m : Str → Option Value} {S I : Led} : ∀ {vs : List Value} {l : List PV} {τ : Tmp}, InvD C ρ σ τ s m S I → VAll I vs l → ∃ τ', InvD C ρ σ τ' s m S I ∧ AllIn τ' vs l ∧ ∀ q ∈ τ, q ∈ τ'
  | [], l, τ, D, h => by cases h; exact ⟨τ, D, .nil, fun _ h => h⟩
  | v :: vs, l, τ, D, h => by
    cases h with
    | cons h1 h2 =>
      obtain ⟨τ', D', al, sub⟩ := (D.more h1).mores h2
      exact ⟨τ', D', .cons (sub _ (.head _)) al, fun q hq => sub q (.tail _ hq)⟩
section
variable {C : Ctx} {n : Nat} {ρ : Locs} {σ σ' : Store} {τ : Tmp} {s : Shared} {a : Addr} {l : List PV} {pos : Pos} {p : PV} {kk : Nat}
noncomputable def AGs (C : Ctx) (ρ : Locs) (σ : Store) : List Expr → List PV → (Locs → Store → Prop) → Prop
  | [], [], K => K ρ σ
  | t :: ts, p :: ps, K => AG C ρ σ t p fun ρ' σ' => AGs C ρ' σ' ts ps K
  | _, _, _ => False
theorem AGs.go {X : Value → Shared → Prop} : ∀ {ts : List Expr} {ps : List PV} {ρ : Locs} {σ : Store} {K : Locs → Store → Prop} {τ : Tmp} {s : Shared} {vs : List Value} {Q : Unit → Shared → Prop}, AGs C ρ σ ts ps K → Inv C ρ σ τ s → AllIn τ vs ps →
    (∀ ρ' σ' s', K ρ' σ' → Inv C ρ' σ' τ s' → Q () s') → wpAny C.M C.A (assignInOrder (ts.map fun t => PySem.assign t C.env) vs) Q X s
  | [], [], ρ, σ, K, τ, s, vs, Q, h, J, ha, q => by
    cases ha
    exact assignInOrder_nil (q ρ σ s h J)
  | t :: ts, p :: ps, ρ, σ, K, τ, s, vs, Q, h, J, ha, q => by
    cases ha with
    | cons h1 ha => exact assignInOrder_cons (h τ s _ _ _ J h1 fun ρ' σ' s' k' J' => AGs.go k' J' ha q)
  | [], _ :: _, _, _, _, _, _, _, _, h, _, _, _ => h.elim
  | _ :: _, [], _, _, _, _, _, _, _, h, _, _, _ => h.elim
theorem AG.tup {ts : List Expr} {K : Locs → Store → Prop} (O : C.Ok n) (hl : l.length = ts.length) (he : assignEach ts C.env = ts.map fun t => (false, PySem.assign t C.env)) (h : AGs C ρ σ ts l K) : AG C ρ σ (.Tuple ts kk pos) (.tup l) K := by
  intro τ s v Q X J hv q
  refine Inv.out J fun m S I D => ?_
  obtain ⟨b, vs, rfl, ht, hr⟩ := D.tup (D.tmp _ hv)
  refine assign_Tuple_tuple O.hh ht (by rw [he, List.length_map, List.size_toArray, hr.length, hl]) ?_ fun h' hx => ?_
  · rw [he]; simp
  · rw [he, List.map_map]
    have hk : ∀ b o, s.heap.get? b = some o → h'.get? b = some o := fun b o e => hx b o (Nat.ne_of_lt (Heap.lt_size e)) e
    obtain ⟨τ', D', al, sub⟩ := (D.ext (tk := s.toks) hk).mores hr
    exact AGs.go h D'.inv al fun ρ' σ' s' k J' => q ρ' σ' s' k (J'.tmps sub)
end
end
section
section
variable {C : Ctx} {n : Nat} {ρ : Locs} {σ : Store} {K : PV → Store → Prop} {a b : Int} {c : Bool}
theorem AC.intI (k : K (.int a) σ) : AC C ρ σ (.val (.type "int")) [.int a] K := by
  intro τ s vf vs Q E J hf ha q
  cases J.getVal hf
  obtain ⟨v1, rfl, h1⟩ := ha.one
  obtain ⟨t, rfl⟩ := J.getInt h1
  exact PySem.call_int_int (q _ _ σ _ k (J.push fun _ => .int _ _))
theorem AC.intB (k : K (.int (if c then 1 else 0)) σ) : AC C ρ σ (.val (.type "int")) [.bool c] K := by
  intro τ s vf vs Q E J hf ha q
  cases J.getVal hf
  obtain ⟨v1, rfl, h1⟩ := ha.one
  cases J.getVal h1
  exact call_int_bool (q _ _ σ _ k (J.tok.push fun _ => .int _ _))
theorem AC.max2 (O : C.Ok n) (k : K (.int (if b > a then b else a)) σ) : AC C ρ σ (.val (.builtin "max")) [.int a, .int b] K := by
  intro τ s vf vs Q E J hf ha q
  cases J.getVal hf
  obtain ⟨v1, v2, rfl, h1, h2⟩ := ha.two
  obtain ⟨t, rfl⟩ := J.getInt h1
  obtain ⟨u, rfl⟩ := J.getInt h2
  refine Inv.out J fun m S I D => ?_
  refine max_two_ints O.hh fun h' tk hk => q _ _ σ _ k ((D.ext hk).more ?_).inv
  by_cases h : b > a
  · rw [if_pos h, if_pos h]; exact .int _ _
  · rw [if_neg h, if_neg h]; exact .int _ _
theorem AO2.pow (hn : 0 ≤ b) (hn2 : b ≤ 1000000) (ha : a.natAbs < 2 ^ 64) (k : K (.int (a ^ b.toNat)) σ) : AO2 C ρ σ (binaryOp .Pow) (.int a) (.int b) K := by
  intro τ s va vb Q E J h1 h2 q
  obtain ⟨t, rfl⟩ := J.getInt h1; obtain ⟨u, rfl⟩ := J.getInt h2
  exact pow_int_small hn hn2 ha (q _ _ σ _ k (J.tok.push fun _ => .int _ _))
end
end
section
section
variable {C : Ctx} {n : Nat} {ρ : Locs} {σ φ : Store} {τ : Tmp} {s : Shared}
theorem Inv.frame (J : Inv C ρ (σ ++ φ) τ s) : ∃ J' I', (∀ p ∈ C.I₀, p ∈ I') ∧ Inv (C.jj J' I') ρ σ τ s ∧ ∀ ρ' σ' τ' s', Inv (C.jj J' I') ρ' σ' τ' s' → Inv C ρ' (σ' ++ φ) τ' s' := by
  refine Inv.out J fun m S I D => ?_
  obtain ⟨D₁, D₂, rfl, h1, h2⟩ := D.sep.split
  refine ⟨D₂ ++ C.J, I, D.sub, ⟨m, D₁, I, ?_⟩, fun ρ' σ' τ' s' J' => ?_⟩
  · refine ⟨D.F, ?_, ?_, h1, fun _ h => h, D.loc, D.tmp, D.g, D.d, D.os⟩
    · have := D.N; simpa [List.append_assoc] using this
    · have := D.nd; simpa [List.append_assoc] using this
  · obtain ⟨m', S', I', D'⟩ := J'
    refine ⟨m', S' ++ D₂, I', D'.F, ?_, ?_, D'.sep.append (h2.mono D'.sub), fun p hp => D'.sub p (D.sub p hp), D'.loc, D'.tmp, D'.g, D'.d, D'.os⟩
    · have := D'.N; simpa [List.append_assoc] using this
    · have := D'.nd; simpa [List.append_assoc] using this
noncomputable def Le (σ σ' : Store) : Prop := ∀ C ρ τ s, Inv C ρ σ τ s → Inv C ρ σ' τ s
theorem Le.refl (σ : Store) : Le σ σ := fun _ _ _ _ h => h
theorem Le.trans {σ₁ σ₂ σ₃ : Store} (h : Le σ₁ σ₂) (k : Le σ₂ σ₃) : Le σ₁ σ₃ := fun C ρ τ s J => k C ρ τ s (h C ρ τ s J)
theorem Le.perm {σ σ' : Store} (h : σ.Perm σ') : Le σ σ' := fun _ _ _ _ J => J.perm h
theorem Le.app {σ σ' : Store} (h : Le σ σ') (φ : Store) : Le (σ ++ φ) (σ' ++ φ) := fun C ρ τ s J => by
  obtain ⟨J', I', _, J1, back⟩ := J.frame
  exact back ρ σ' τ s (h _ _ _ _ J1)
theorem Le.drop (σ φ : Store) : Le (σ ++ φ) σ := fun C ρ τ s ⟨m, S, I, D⟩ => by
  obtain ⟨D₁, D₂, rfl, h1, h2⟩ := D.sep.split
  have hs : ∀ p ∈ D₁ ++ (C.J ++ I), p ∈ (D₁ ++ D₂) ++ (C.J ++ I) := fun p hp => by
    simp only [List.mem_append] at hp ⊢; rcases hp with h | h | h <;> simp [h]
  refine ⟨m, D₁, I, D.F, News.sub D.N hs, ?_, h1, D.sub, D.loc, D.tmp, D.g, D.d, D.os⟩
  have nd := D.nd
  refine List.Nodup.sublist (List.Sublist.map _ ?_) nd
  rw [List.append_assoc]
  exact List.Sublist.append_left (List.sublist_append_right _ _) _
theorem Le.dropH (x : Addr × AObj) (σ : Store) : Le (x :: σ) σ := (Le.perm (List.perm_append_comm (l₁ := [x]) (l₂ := σ))).trans (Le.drop σ [x])
theorem Le.pre (φ : Store) {σ σ' : Store} (h : Le σ σ') : Le (φ ++ σ) (φ ++ σ') := ((Le.perm List.perm_append_comm).trans (h.app φ)).trans (Le.perm List.perm_append_comm)
theorem Le.cons (x : Addr × AObj) {σ σ' : Store} (h : Le σ σ') : Le (x :: σ) (x :: σ') := Le.pre [x] h
variable {e : Expr} {ss : List Stmt} {st : Stmt} {K K' : PV → Store → Prop} {σ' : Store} {f : PV} {ps : List PV}
theorem AE.le (hl : Le σ σ') (h : AE C ρ σ' e K) : AE C ρ σ e K := fun τ s Q E J q => h τ s Q E (hl _ _ _ _ J) q
theorem AX.le {K : Fl → Locs → Store → Prop} (hl : Le σ σ') (h : AX C ρ σ' ss K) : AX C ρ σ ss K := fun s Q E J q => h s Q E (hl _ _ _ _ J) q
theorem AE.conseq (h : AE C ρ σ e K) (hk : ∀ p σ', K p σ' → ∃ σ'', Le σ' σ'' ∧ K' p σ'') : AE C ρ σ e K' := fun τ s Q E J q => h τ s Q E J fun v p σ' s' k J' => by
  obtain ⟨σ'', hl, k'⟩ := hk p σ' k
  exact q v p σ'' s' k' (hl _ _ _ _ J')
theorem AC.conseq (h : AC C ρ σ f ps K) (hk : ∀ p σ', K p σ' → ∃ σ'', Le σ' σ'' ∧ K' p σ'') : AC C ρ σ f ps K' := fun τ s vf vs Q E J hf ha q => h τ s vf vs Q E J hf ha fun v p σ' s' k J' => by
  obtain ⟨σ'', hl, k'⟩ := hk p σ' k
  exact q v p σ'' s' k' (hl _ _ _ _ J')
theorem CC.conseq (h : CC f ps σ n K) (hk : ∀ p σ', K p σ' → ∃ σ'', Le σ' σ'' ∧ K' p σ'') : CC f ps σ n K' := fun C ρ O τ s vf vs R J hf ha q => h C ρ O τ s vf vs R J hf ha fun v p σ' s' k J' => by
  obtain ⟨σ'', hl, k'⟩ := hk p σ' k
  exact q v p σ'' s' k' (hl _ _ _ _ J')
theorem CT.conseq (h : CT f ps σ n K) (hk : ∀ p σ', K p σ' → ∃ σ'', Le σ' σ'' ∧ K' p σ'') : CT f ps σ n K' := fun C ρ O => (h C ρ O).conseq hk
theorem AX.conseq {K K' : Fl → Locs → Store → Prop} (h : AX C ρ σ ss K) (hk : ∀ fl ρ' σ', K fl ρ' σ' → ∃ σ'', Le σ' σ'' ∧ K' fl ρ' σ'') : AX C ρ σ ss K' := fun s Q E J P => h s Q E J
  ⟨fun ρ' σ' s' k J' => let ⟨σ'', hl, k'⟩ := hk _ ρ' σ' k; P.next ρ' σ'' s' k' (hl _ _ _ _ J'), fun ρ' σ' s' k J' => let ⟨σ'', hl, k'⟩ := hk _ ρ' σ' k; P.brk ρ' σ'' s' k' (hl _ _ _ _ J'),
   fun ρ' σ' s' k J' => let ⟨σ'', hl, k'⟩ := hk _ ρ' σ' k; P.cont ρ' σ'' s' k' (hl _ _ _ _ J'), fun v p ρ' σ' s' k J' => let ⟨σ'', hl, k'⟩ := hk _ ρ' σ' k; P.ret v p ρ' σ'' s' k' (hl _ _ _ _ J')⟩
theorem CC.frame (h : CC f ps σ n K) (φ : Store) : CC f ps (σ ++ φ) n fun p σ' => ∃ σ₁, σ' = σ₁ ++ φ ∧ K p σ₁ := fun C ρ O τ s vf vs R J hf ha q => by
  obtain ⟨J', I', _, J1, back⟩ := J.frame
  exact h _ ρ (O.jj J' I') τ s vf vs R J1 hf ha fun v p σ' s' k J2 => q v p _ s' ⟨_, rfl, k⟩ (back _ _ _ _ J2)
theorem CT.frame (h : CT f ps σ n K) (φ : Store) : CT f ps (σ ++ φ) n fun p σ' => ∃ σ₁, σ' = σ₁ ++ φ ∧ K p σ₁ := fun C ρ O τ s vf vs Q E J hf ha q => by
  obtain ⟨J', I', _, J1, back⟩ := J.frame
  exact h _ ρ (O.jj J' I') τ s vf vs Q E J1 hf ha fun v p σ' s' k J2 => q v p _ s' ⟨_, rfl, k⟩ (back _ _ _ _ J2)
theorem AC.use {σ₁ : Store} {K₀ : PV → Store → Prop} {k : Nat} (O : C.Ok n) (h : CT f ps σ₁ k K₀) (hk : k ≤ n) (hp : Le σ (σ₁ ++ φ)) (kk : ∀ p σ', K₀ p σ' → ∃ σ'', Le (σ' ++ φ) σ'' ∧ K p σ'') : AC C ρ σ f ps K := by
  have h1 := (h.frame φ) C ρ (O.le hk)
  refine AC.conseq (σ := σ) (K := fun p σ' => ∃ σ₁, σ' = σ₁ ++ φ ∧ K₀ p σ₁) (fun τ s vf vs Q E J hf ha q => h1 τ s vf vs Q E (hp _ _ _ _ J) hf ha q) fun p σ' hk => ?_
  obtain ⟨σ₂, rfl, k⟩ := hk
  exact kk p σ₂ k
theorem Inv.freeze {a : Addr} {l : List PV} {v : Value} (J : Inv C ρ ((a, .list l) :: σ) ((v, .ref a) :: τ) s) : Inv C ρ σ ((v, .lst l) :: τ) s := by
  cases J.getVal (.head _)
  refine Inv.out J fun m S I D => ?_
  have h := D.sep
  cases h using Sep.casesCons with
  | cons r k =>
    cases r using ORep.casesList with
    | @list vs n' hv =>
      rename_i D₂
      have hp : (([(a, listOf vs.toArray n')] ++ D₂) ++ (C.J ++ I)).Perm (D₂ ++ (C.J ++ ((a, listOf vs.toArray n') :: I))) := by
        rw [List.singleton_append, List.cons_append, ← List.append_assoc, ← List.append_assoc]
        exact List.perm_middle.symm
      have hm : ∀ p ∈ I, p ∈ (a, listOf vs.toArray n') :: I := fun p h => .tail _ h
      refine ⟨m, D₂, (a, listOf vs.toArray n') :: I, D.F, News.sub D.N fun p h => hp.mem_iff.mpr h, (hp.map _).nodup_iff.mp D.nd, k.mono hm, fun p h => hm p (D.sub p h), fun x p e => ?_, fun q hq => ?_, D.g, D.d, D.os⟩
      · obtain ⟨v, hv, r⟩ := D.loc x p e; exact ⟨v, hv, r.mono hm⟩
      · rcases List.mem_cons.mp hq with rfl | hq
        · exact .lst (.head _) (hv.mono hm)
        · exact (D.tmp q (.tail _ hq)).mono hm
theorem AC.freeze (h : AC C ρ σ f ps fun p σ' => ∃ a l σ₂, p = .ref a ∧ σ' = (a, .list l) :: σ₂ ∧ K (.lst l) σ₂) : AC C ρ σ f ps K := fun τ s vf vs Q E J hf ha q => h τ s vf vs Q E J hf ha fun v p σ' s' k J' => by
  obtain ⟨a, l, σ₂, rfl, rfl, k⟩ := k
  exact q v _ σ₂ s' k J'.freeze
end
structure DefC (f : Addr) (xs : List Str) (body : List Stmt) (sc : Scope) : Prop where
  ex : ∀ w : World, ∃ (oc : Value) (od : Option Addr) (osl : Array (Option Value)) (name qual : Str) (params : Arguments) (dV kV doc pm : Value) (an : Option Addr) (cdv ct : Value),
    (hd.heap_1 w.params).lookup f = some ⟨oc, od, .func (fnX name qual params body sc [] dV kV doc pm an cdv ct), osl⟩ ∧ codeIn (hd.heap_1 w.params) cdv qual = true ∧
    ∀ vs, vs.length = xs.length → ∀ s, (hd.heap_1 w.params).In s.heap → BindsTo s (fnX name qual params body sc [] dV kV doc pm an cdv ct) ⟨vs, []⟩ (xs.zip vs)
  nd : xs.Nodup
  loc : ∀ x ∈ xs, sc.names.lookup x = some .local ∨ (sc.names.lookup x = some .cell ∧ ((cellsFrom 0 sc.names []).lookup x).isSome = true)
  cells : ((cellsFrom 0 sc.names []).map (·.1)).Nodup
  kinds : ∀ x ∈ (cellsFrom 0 sc.names []).map (·.1), sc.names.lookup x ≠ some .local
  co : sc.isCoroutine = false
  gen : sc.isGenerator = false
  kind : sc.kind = .function
theorem DefC.of {f : Addr} {xs : List Str} {body : List Stmt} {sc : Scope} {oc : Value} {od : Option Addr} {osl : Array (Option Value)} {name qual : Str} {params : Arguments} {dV kV doc pm : Value} {an : Option Addr} {cdv ct : Value}
    (h1 : ∀ w : World, (hd.heap_1 w.params).lookup f = some ⟨oc, od, .func (fnX name qual params body sc [] dV kV doc pm an cdv ct), osl⟩) (h2 : ∀ w : World, codeIn (hd.heap_1 w.params) cdv qual = true)
    (h3 : ∀ vs, vs.length = xs.length → ∀ s : Shared, BindsTo s (fnX name qual params body sc [] dV kV doc pm an cdv ct) ⟨vs, []⟩ (xs.zip vs)) (nd : xs.Nodup)
    (loc : ∀ x ∈ xs, sc.names.lookup x = some .local ∨ (sc.names.lookup x = some .cell ∧ ((cellsFrom 0 sc.names []).lookup x).isSome = true)) (cells : ((cellsFrom 0 sc.names []).map (·.1)).Nodup)
    (kinds : ∀ x ∈ (cellsFrom 0 sc.names []).map (·.1), sc.names.lookup x ≠ some .local) (co : sc.isCoroutine = false) (gen : sc.isGenerator = false) (kind : sc.kind = .function) : DefC f xs body sc :=
  ⟨fun w => ⟨oc, od, osl, name, qual, params, dV, kV, doc, pm, an, cdv, ct, h1 w, h2 w, fun vs h s _ => h3 vs h s⟩, nd, loc, cells, kinds, co, gen, kind⟩
theorem DefC.ofX {f : Addr} {xs : List Str} {body : List Stmt} {sc : Scope} {oc : Value} {od : Option Addr} {osl : Array (Option Value)} {name qual : Str} {params : Arguments} {dV kV doc pm : Value} {an : Option Addr} {cdv ct : Value}
    (h1 : ∀ w : World, (hd.heap_1 w.params).lookup f = some ⟨oc, od, .func (fnX name qual params body sc [] dV kV doc pm an cdv ct), osl⟩) (h2 : ∀ w : World, codeIn (hd.heap_1 w.params) cdv qual = true)
    (h3 : ∀ (w : World) vs, vs.length = xs.length → ∀ s : Shared, (hd.heap_1 w.params).In s.heap → BindsTo s (fnX name qual params body sc [] dV kV doc pm an cdv ct) ⟨vs, []⟩ (xs.zip vs)) (nd : xs.Nodup)
    (loc : ∀ x ∈ xs, sc.names.lookup x = some .local ∨ (sc.names.lookup x = some .cell ∧ ((cellsFrom 0 sc.names []).lookup x).isSome = true)) (cells : ((cellsFrom 0 sc.names []).map (·.1)).Nodup)
    (kinds : ∀ x ∈ (cellsFrom 0 sc.names []).map (·.1), sc.names.lookup x ≠ some .local) (co : sc.isCoroutine = false) (gen : sc.isGenerator = false) (kind : sc.kind = .function) : DefC f xs body sc :=
  ⟨fun w => ⟨oc, od, osl, name, qual, params, dV, kV, doc, pm, an, cdv, ct, h1 w, h2 w, h3 w⟩, nd, loc, cells, kinds, co, gen, kind⟩
noncomputable def locsOf (sc : Scope) : Locs → Locs := fun l => l.filter fun q => decide (sc.names.lookup q.1 = some .local)
noncomputable def cellsOf (cs : List (Str × Addr)) (l : Locs) : Store := cs.map fun q => (q.2, .cell (l.lookup q.1))
theorem bindL_of {kindOf : Str → Option NameKind} {x : Str} {v : Value} : ∀ {binds : List (Str × Value)} {m : Str → Option Value}, (binds.map (·.1)).Nodup → binds.lookup x = some v → kindOf x = some .local → bindL kindOf binds m x = some v
  | [], _, _, h, _ => by cases h
  | (y, u) :: r, m, nd, h, hk => by
    rw [List.map_cons, List.nodup_cons] at nd
    unfold bindL
    rw [List.lookup_cons] at h
    by_cases hx : x = y
    · subst hx
      simp at h; subst h
      rw [if_pos hk]
      have keep : ∀ (r : List (Str × Value)) (m : Str → Option Value), x ∉ r.map (·.1) → bindL kindOf r m x = m x := by
        intro r
        induction r with
        | nil => intro m _; rfl
        | cons q r ih =>
          intro m hn
          obtain ⟨z, u'⟩ := q
          rw [List.map_cons, List.mem_cons, not_or] at hn
          unfold bindL
          rw [ih _ hn.2]
          split
          · exact if_neg hn.1
          · rfl
      rw [keep r _ nd.1]; exact if_pos rfl
    · have : (x == y) = false := by simpa using hx
      rw [this] at h
      exact bindL_of nd.2 h hk
theorem bindC_of {kindOf : Str → Option NameKind} {x : Str} : ∀ {binds : List (Str × Value)} {m : Str → Option Value}, (binds.map (·.1)).Nodup → kindOf x ≠ some .local → bindC kindOf binds m x = (binds.lookup x).or (m x)
  | [], _, _, _ => rfl
  | (y, u) :: r, m, nd, hk => by
    rw [List.map_cons, List.nodup_cons] at nd
    unfold bindC
    rw [bindC_of nd.2 hk, List.lookup_cons]
    by_cases hx : x = y
    · subst hx
      rw [if_neg hk]
      have : r.lookup x = none := by
        rw [List.lookup_eq_none_iff]
        intro p hp
        simp only [bne_iff_ne, ne_eq]
        rintro rfl
        exact nd.1 (List.mem_map.mpr ⟨p, hp, rfl⟩)
      simp [this]
    · have : (x == y) = false := by simpa using hx
      rw [this]
      congr 1
      split
      · rfl
      · exact if_neg hx
theorem zip_keys {α : Type} {xs : List Str} {vs : List α} (h : vs.length = xs.length) : (xs.zip vs).map (·.1) = xs := by
  induction xs generalizing vs with
  | nil => rfl
  | cons x xs ih => cases vs with
    | nil => cases h
    | cons v vs => simp [ih (by simpa using h)]
theorem lookup_locsOf {sc : Scope} {l : Locs} {x : Str} {p : PV} (h : (locsOf sc l).lookup x = some p) : l.lookup x = some p ∧ sc.names.lookup x = some .local := by
  induction l with
  | nil => cases h
  | cons q l ih =>
    obtain ⟨y, q⟩ := q
    unfold locsOf at h
    rw [List.filter_cons] at h
    by_cases hk : sc.names.lookup y = some .local
    · rw [if_pos (by simpa using hk), List.lookup_cons] at h
      by_cases hx : x = y
      · subst hx; simp at h; subst h; exact ⟨by simp, hk⟩
      · have : (x == y) = false := by simpa using hx
        rw [this] at h
        have := ih h
        rw [List.lookup_cons, ‹(x == y) = false›]; exact this
    · rw [if_neg (by simpa using hk)] at h
      have h2 := ih h
      by_cases hx : x = y
      · subst hx; exact absurd h2.2 hk
      · have : (x == y) = false := by simpa using hx
        rw [List.lookup_cons, this]; exact h2
theorem cells_sep {prog : Program} {w : World} {I : Led} {xs : List Str} {vs : List Value} {ps : List PV} {cm : Str → Option Value} (hv : VAll I vs ps) {cs : List (Str × Addr)} {cells : Led}
    (Y : CellsAre cm cs cells) (hcm : ∀ q ∈ cs, cm q.1 = (xs.zip vs).lookup q.1) : Sep prog w I (cellsOf cs (xs.zip ps)) cells := by
  induction Y with
  | nil => exact .nil
  | @cons n c o cs cells hd r ih =>
    have h1 := hcm _ (.head _)
    refine Sep.cons (own := [(c, o)]) ?_ (ih fun q hq => hcm q (.tail _ hq))
    cases q : (xs.zip ps).lookup n with
    | some p =>
      obtain ⟨v, e, hr⟩ := lookup_zip_rep hv q
      exact .cellS (by rw [hd, h1, e]) hr
    | none =>
      have key : ∀ (xs : List Str) (vs : List Value) (ps : List PV), VAll I vs ps → (xs.zip ps).lookup n = none → (xs.zip vs).lookup n = none := by
        intro xs
        induction xs with
        | nil => intro vs ps _ _; rfl
        | cons x xs ih =>
          intro vs ps h e
          cases h with
          | nil => rfl
          | cons h1 h2 =>
            rw [List.zip_cons_cons, List.lookup_cons] at e ⊢
            cases hx : n == x with
            | true => rw [hx] at e; cases e
            | false => rw [hx] at e; exact ih _ _ h2 e
      exact .cellN (by rw [hd, h1, key _ _ _ hv q])
theorem CC.defC {f : Addr} {xs : List Str} {body : List Stmt} {sc : Scope} (d : DefC f xs body sc) {ps : List PV} {σ : Store} {n : Nat} {K : PV → Store → Prop} (hl : ps.length = xs.length)
    (h : ∀ C L, C.Ok n → C.env.scope = sc → C.env.cells = cellsFrom L sc.names [] → AX C (locsOf sc (xs.zip ps)) (cellsOf (cellsFrom L sc.names []) (xs.zip ps) ++ σ) body (RetK K)) : CC (.ref f) ps σ (n + 1) K := by
  intro C ρ O τ s vf vs R J hf ha q
  cases J.getVal hf
  refine Inv.out J fun m S I D => ?_
  obtain ⟨oc, od, osl, name, qual, params, dV, kV, doc, pm, an, cdv, ct, ho, hcd, hb⟩ := d.ex C.w
  obtain ⟨_, _, _, _, _, T⟩ := O.T
  have X := O.X.keeps D.F.keep
  have hva := ha.rep D
  have hlv : vs.length = xs.length := by rw [ha.length, hl]
  have ndz : ((xs.zip vs).map (·.1)).Nodup := by rw [zip_keys hlv]; exact d.nd
  have hlim := T.nolimit.keeps D.F.keep
  refine codeAny_call_function (fd := fnX name qual params body sc [] dV kV doc pm an cdv ct) (by have := O.depth; show C.A.depth < 1000; (first | lia | omega)) (X _ _ ho) rfl d.co d.gen rfl (codeRec_of X hcd) (hb vs hlv s X _ _ _ _ ?_)
  refine wpAny_newFunctionEnv_cells d.kind (fun y hy => ?_) fun env he s' x => ?_
  · rcases d.loc y.1 (List.of_mem_zip hy).1 with h | ⟨h, h2⟩
    · exact .inl h
    · refine .inr ⟨h, ?_⟩
      have hm : ((cellsFrom (s.heap.objs.size + 1) sc.names []).map (·.1)) = (cellsFrom 0 sc.names []).map (·.1) := cellsFrom_names _ _ _ _ _ rfl
      obtain ⟨c, hc⟩ := Option.isSome_iff_exists.mp h2
      have h3 : y.1 ∈ (cellsFrom (s.heap.objs.size + 1) sc.names []).map (·.1) := by rw [hm]; exact List.mem_map.mpr ⟨_, mem_of_lookup hc, rfl⟩
      obtain ⟨q, hq, e⟩ := List.mem_map.mp h3
      have := lookup_of_mem_nodup (hm ▸ d.cells) (n := q.1) (c := q.2) hq
      rw [e] at this; rw [this]; rfl
  subst he
  refine ⟨hlim.keeps x.toInCall.keep, codeAny_func ?_⟩
  obtain ⟨h₁, tk, rfl, _⟩ := x.done
  have hk₁ := x.toInCall.keep
  let env := callEnvC (fnX name qual params body sc [] dV kV doc pm an cdv ct) s.heap.objs.size f
  have hmm : ((cellsFrom (s.heap.objs.size + 1) sc.names []).map (·.1)) = (cellsFrom 0 sc.names []).map (·.1) := cellsFrom_names _ _ _ _ _ rfl
  obtain ⟨cells, NC, Y⟩ := Cl.news (h₀ := s.heap) (Nat.le_refl _) fun n c hm => ⟨x.cell n c (lookup_of_mem_nodup (hmm ▸ d.cells) hm), x.above n c hm⟩
  have O' := O.into D (env := env) rfl d.kind rfl rfl
  have D' := D.into (env := env) (τ' := []) (ρ' := locsOf sc (xs.zip ps)) (tk := tk) rfl x.toInCall.ns hk₁ (fun x p e => by
    obtain ⟨e1, e2⟩ := lookup_locsOf e
    obtain ⟨v, e', r⟩ := lookup_zip_rep hva e1
    exact ⟨v, bindL_of ndz e' e2, r⟩) (fun _ h => nomatch h)
  have hnk : ∀ q ∈ cellsFrom (s.heap.objs.size + 1) sc.names [], sc.names.lookup q.1 ≠ some .local := by
    intro q hq e
    have : q.1 ∈ (cellsFrom 0 sc.names []).map (·.1) := by rw [← hmm]; exact List.mem_map_of_mem hq
    exact d.kinds q.1 this e
  have hsep : Sep C.prog C.w I (cellsOf (cellsFrom (s.heap.objs.size + 1) sc.names []) (xs.zip ps)) cells := by
    refine cells_sep hva Y fun q hq => ?_
    rw [bindC_of ndz (hnk q hq)]; simp
  have NN : News (hideAll s.heap ((S ++ (C.J ++ I)).map (·.1))) env.locals h₁ (cells ++ (S ++ (C.J ++ I))) := fun p hp => by
    rcases List.mem_append.mp hp with hp | hp
    · refine ⟨(NC p hp).1, (NC p hp).2.1, ?_⟩
      cases q : (hideAll s.heap ((S ++ (C.J ++ I)).map (·.1))).get? p.1 with
      | none => rfl
      | some o => have := of_hideAll _ q; rw [(NC p hp).2.2] at this; cases this
    · exact D'.N p hp
  have hmap : cells.map (·.1) = (cellsFrom (s.heap.objs.size + 1) sc.names []).map (·.2) := by
    have : ∀ {cm : Str → Option Value} {cs : List (Str × Addr)} {cells : Led}, CellsAre cm cs cells → cells.map (·.1) = cs.map (·.2) := by
      intro cm cs cells h
      induction h with
      | nil => rfl
      | cons _ _ ih => simp [ih]
    exact this Y
  have ndc : (cells.map (·.1)).Nodup := by
    rw [hmap]
    exact (List.pairwise_map).mpr x.apart
  have ND : ((cells ++ (S ++ (C.J ++ I))).map (·.1)).Nodup := by
    rw [List.map_append]
    refine List.nodup_append.mpr ⟨ndc, D.nd, fun a ha b hb e => ?_⟩
    obtain ⟨p, hp, rfl⟩ := List.mem_map.mp ha
    obtain ⟨q, hq, rfl⟩ := List.mem_map.mp hb
    have h1 := (NC p hp).2.2
    have h2 := (D.N q hq).1
    rw [e, h2] at h1; cases h1
  have D2 : InvD (C.into env s.heap ((S ++ (C.J ++ I)).map (·.1)) I) (locsOf sc (xs.zip ps)) (cellsOf (cellsFrom (s.heap.objs.size + 1) sc.names []) (xs.zip ps) ++ σ) [] { s with heap := h₁, toks := tk }
      (bindL env.kindOf (xs.zip vs) fun _ => none) (cells ++ S) I :=
    ⟨D'.F, by rw [List.append_assoc]; exact NN, by rw [List.append_assoc]; exact ND, hsep.append D'.sep, D'.sub, D'.loc, D'.tmp, D'.g, D'.d, D'.os⟩
  have go : ∀ v p ρ' σ' s', K p σ' → Inv (C.into env s.heap ((S ++ (C.J ++ I)).map (·.1)) I) ρ' σ' [(v, p)] s' → R (.ok (.ret v)) s' := by
    intro v p ρ' σ' s' k J'
    obtain ⟨m', S', I', D''⟩ := J'
    exact q v p σ' s' k ⟨m, S', I', D.back D''⟩
  refine h _ (s.heap.objs.size + 1) O' rfl rfl _ _ _ ⟨_, _, I, D2⟩ ⟨fun ρ' σ' s' k J' => ?_, fun ρ' σ' s' k J' => ?_, fun ρ' σ' s' k J' => ?_, fun v p ρ' σ' s' k J' => ?_⟩
  · exact go _ .none ρ' σ' s' k (J'.push fun _ => .val _)
  · exact go _ .none ρ' σ' s' k (J'.push fun _ => .val _)
  · exact go _ .none ρ' σ' s' k (J'.push fun _ => .val _)
  · exact go v p ρ' σ' s' k J'
theorem CT.defC {f : Addr} {xs : List Str} {body : List Stmt} {sc : Scope} (d : DefC f xs body sc) {ps : List PV} {σ : Store} {n : Nat} {K : PV → Store → Prop} (hl : ps.length = xs.length)
    (h : ∀ C L, C.Ok n → C.env.scope = sc → C.env.cells = cellsFrom L sc.names [] → AX C (locsOf sc (xs.zip ps)) (cellsOf (cellsFrom L sc.names []) (xs.zip ps) ++ σ) body (RetK K)) : CT (.ref f) ps σ (n + 1) K := .of (.defC d hl h)
end
section
noncomputable def turnOf (e : Expr) (d : Nat) (it acc : Value) (env : Env) (ps : Pos) (target : Expr) (ifs : List Expr) (emit : Sem Fin → Sem Fin) : Sem Fin := do
  standAt ps
  match ← pyNext it with
  | none => pure (.done .next)
  | some v =>
    letOwnedTupleGo target it v
    assign target env v
    let mut ok := true
    for c in ifs do
      if ok then ok ← isTrue c env (eval c env)
    if ok then emit (again (.compLoop e d it acc env)) else again (.compLoop e d it acc env)
theorem turn1 (elt target iter : Expr) (ifs : List Expr) (scope : Scope) (pos : Pos) (it acc : Value) (env : Env) :
    compTurn (.ListComp elt [⟨target, iter, ifs, 0⟩] scope pos) 0 it acc env = turnOf (.ListComp elt [⟨target, iter, ifs, 0⟩] scope pos) 0 it acc env iter.pos target ifs (fun k => (do let _ ← call (.builtin "list.append") [acc, ← eval elt env]) >>= fun _ => k) := rfl
theorem turn2a (elt t1 i1 t2 i2 : Expr) (f1 f2 : List Expr) (scope : Scope) (pos : Pos) (it acc : Value) (env : Env) :
    compTurn (.ListComp elt [⟨t1, i1, f1, 0⟩, ⟨t2, i2, f2, 0⟩] scope pos) 0 it acc env = turnOf (.ListComp elt [⟨t1, i1, f1, 0⟩, ⟨t2, i2, f2, 0⟩] scope pos) 0 it acc env i1.pos t1 f1 (fun k => do
      let x ← eval i2 env
      standAt i2.pos
      let x ← foldedSetIterable i2 env x
      let _ ← runOwn (.compStart (.ListComp elt [⟨t1, i1, f1, 0⟩, ⟨t2, i2, f2, 0⟩] scope pos) 1 (← holding [x] (pyIter x)) acc env) env
      k) := rfl
theorem turn2b (elt t1 i1 t2 i2 : Expr) (f1 f2 : List Expr) (scope : Scope) (pos : Pos) (it acc : Value) (env : Env) :
    compTurn (.ListComp elt [⟨t1, i1, f1, 0⟩, ⟨t2, i2, f2, 0⟩] scope pos) 1 it acc env = turnOf (.ListComp elt [⟨t1, i1, f1, 0⟩, ⟨t2, i2, f2, 0⟩] scope pos) 1 it acc env i2.pos t2 f2 (fun k => (do let _ ← call (.builtin "list.append") [acc, ← eval elt env]) >>= fun _ => k) := rfl
noncomputable def AU (C : Ctx) (ρ : Locs) (σ : Store) (x : Sem Fin → Sem Fin) (K : Store → Prop) : Prop :=
  ∀ s r (Q : Fin → Shared → Prop) E, Inv C ρ σ [] s → (∀ σ' s', K σ' → Inv C ρ σ' [] s' → wpAny C.M C.A r Q E s') → wpAny C.M C.A (x r) Q E s
noncomputable def ATs (C : Ctx) (ρ : Locs) (σ : Store) : List Expr → (Bool → Store → Prop) → Prop
  | [], K => K true σ
  | [c], K => AT C ρ σ c K
  | _, _ => False
theorem ATs.go {C : Ctx} {ρ : Locs} {σ : Store} {τ : Tmp} {ifs : List Expr} {K : Bool → Store → Prop} {s : Shared} {Q : Bool → Shared → Prop} {E : Value → Shared → Prop} (h : ATs C ρ σ ifs K) (J : Inv C ρ σ τ s) (q : ∀ b σ' s', K b σ' → Inv C ρ σ' τ s' → Q b s') :
    wpAny C.M C.A (forIn ifs true fun c r => if r = true then do let ok ← isTrue c C.env (eval c C.env); pure (ForInStep.yield ok) else pure (ForInStep.yield r)) Q E s := by
  match ifs, h with
  | [], h => exact wpAny_tests_nil (q _ _ _ h J)
  | [c], h => exact wpAny_tests_one (h τ s _ E J q)
theorem comp_loop {C : Ctx} {J I₀ I₁ E₀ : Led} {e : Expr} {d : Nat} {it acc : Value} {ps : Pos} {target : Expr} {ifs : List Expr} {emit : Sem Fin → Sem Fin} {EP : Nat → Led → Prop} {EO : Nat → Value → Led → Prop} {l : List PV} {Src : Store → Prop} {ρ : Locs} {σ : Store} {s : Shared} {R : Result → Shared → Prop}
    (hturn : compTurn e d it acc C.env = turnOf e d it acc C.env ps target ifs emit) (hf : (Code.compLoop e d it acc C.env).isFrame = false) (hq : (Code.compLoop e d it acc C.env).quiet = true) (hu : C.A.under (.compLoop e d it acc C.env) = C.A)
    (hd : C.M.den (.compLoop e d it acc C.env) = if (Code.compLoop e d it acc C.env).isFrame then (compTurn e d it acc C.env).onRaise (leaving C.env) else (compTurn e d it acc C.env).onRaise (fun x => do noteFrame x C.env; theTreesLotGoes x))
    (hh : C.A.handled = none) (nx : Next it EP EO l Src I₀) (ow : Own it EP EO fun _ => True) (hI : ∀ p ∈ I₀, p ∈ I₁) (V : List PV → Store → Prop) (vsrc : ∀ d σ, V d σ → Src σ) (v0 : V [] σ) (e0 : EP 0 E₀)
    (step : ∀ d x r, l = d ++ x :: r → ∀ J σ, V d σ → AG (C.jj J I₁) ρ σ target x fun ρ₁ σ₁ => (∀ y p, ρ.lookup y = some p → ρ₁.lookup y = some p) ∧
      ATs (C.jj J I₁) ρ₁ σ₁ ifs fun b σ₂ => if b = true then AU (C.jj J I₁) ρ₁ σ₂ emit fun σ₃ => V (d ++ [x]) σ₃ else V (d ++ [x]) σ₂)
    (hR : ∀ σ' s', V l σ' → Inv (C.jj J I₁) ρ σ' [] s' → R (.ok .next) s') (J₀ : Inv (C.jj (E₀ ++ J) I₁) ρ σ [] s) : codeAny C.M C.A (.compLoop e d it acc C.env) R s := by
  refine codeAny_loop hq (fun k s => ∃ d σ' E', l.length - d.length = k ∧ d.length ≤ l.length ∧ d = l.take d.length ∧ V d σ' ∧ EP d.length E' ∧ Inv (C.jj (E' ++ J) I₁) ρ σ' [] s) (fun k s hk => ?_) l.length ⟨[], σ, E₀, by simp, Nat.zero_le _, rfl, v0, e0, J₀⟩
  rw [hu, hd, hf, if_neg (by decide), hturn]
  refine wpAny_noted ?_
  obtain ⟨dn, σ', E', hk', hle, ht, hv, hE', J'⟩ := hk
  unfold turnOf
  refine wpAny_bind (wpAny_standAt (wpAny_bind ?_))
  refine nx C hh J I₁ hI _ E' ρ σ' [] s _ _ hE' J' (vsrc _ _ hv) (fun v p E'' s' hp hE'' J'' => ?_) fun s' hp J'' => ?_
  · have hlt : dn.length < l.length := (List.getElem?_eq_some_iff.mp hp).1
    have hl : l = dn ++ p :: l.drop (dn.length + 1) := by
      have h1 := (List.take_append_drop dn.length l).symm
      rw [← ht] at h1
      have h2 : l.drop dn.length = p :: l.drop (dn.length + 1) := by
        rw [← List.getElem_cons_drop hlt]
        congr 1
        exact Option.some.inj ((List.getElem?_eq_getElem hlt).symm.trans hp)
      rw [h2] at h1; exact h1
    refine wpAny_bind (ow C J I₁ _ E'' ρ σ' _ s' _ _ _ _ trivial hE'' J'' fun E'' s' hE'' J'' => ?_)
    refine wpAny_bind (step dn p _ hl (E'' ++ J) σ' hv _ s' v _ _ J'' (.head _) fun ρ₂ σ₂ s₂ hx J₂ => ?_)
    obtain ⟨hw, hx⟩ := hx
    have nextV : ∀ σ₃ s₃, V (dn ++ [p]) σ₃ → Inv (C.jj (E'' ++ J) I₁) ρ₂ σ₃ [] s₃ → ∃ m, m < k ∧ ∃ d σ' E', l.length - d.length = m ∧ d.length ≤ l.length ∧ d = l.take d.length ∧ V d σ' ∧ EP d.length E' ∧ Inv (C.jj (E' ++ J) I₁) ρ σ' [] s₃ := by
      intro σ₃ s₃ hv₃ J₃
      refine ⟨l.length - (dn ++ [p]).length, hk' ▸ (turn_lt hlt).1, dn ++ [p], σ₃, E'', rfl, (turn_lt hlt).2, ?_, hv₃, by simpa using hE'', J₃.weak hw fun _ h => nomatch h⟩
      obtain ⟨r, hr⟩ : ∃ r, l = dn ++ p :: r := ⟨_, hl⟩
      rw [hr]
      have e1 : dn ++ p :: r = (dn ++ [p]) ++ r := by simp
      rw [e1, List.take_left]
    refine wpAny_bind (ATs.go (C := C.jj (E'' ++ J) I₁) (τ := []) hx (J₂.tmps fun _ h => nomatch h) fun b σ₃ s₃ h₃ J₃ => ?_)
    cases b with
    | false => exact wpAny_pure ⟨rfl, nextV σ₃ s₃ h₃ J₃⟩
    | true => exact h₃ s₃ _ _ _ J₃ fun σ₄ s₄ k₄ J₄ => wpAny_pure ⟨rfl, nextV σ₄ s₄ k₄ J₄⟩
  · have hd' : dn = l := by
      have : l.length ≤ dn.length := List.getElem?_eq_none_iff.mp hp
      rw [ht]; exact List.take_of_length_le this
    exact wpAny_pure (hR σ' s' (hd' ▸ hv) J'')
theorem AU.emit {C : Ctx} {ρ : Locs} {σ : Store} {elt : Expr} {acc : Addr} {K : Store → Prop}
    (h : AE C ρ σ elt fun p σ₁ => ∃ l σ₂, l.length ≤ 1000 ∧ UpdS acc (.list l) (.list (l ++ [p])) σ₁ σ₂ ∧ K σ₂) : AU C ρ σ (fun k => (do let _ ← call (.builtin "list.append") [.ref acc, ← eval elt C.env]) >>= fun _ => k) K := by
  intro s r Q E J q
  refine wpAny_bind (wpAny_bind (h [] s _ _ J fun v p σ₁ s₁ k J₁ => wpAny_bind ?_))
  obtain ⟨l, σ₂, hl, U, k⟩ := k
  exact (AC.append (K := fun _ σ' => K σ') U hl k) _ s₁ _ [.ref acc, v] _ _ ((J₁.push fun _ => .val (.ref acc)).push fun _ => .val (.builtin "list.append")) (.head _) (.cons (.tail _ (.head _)) (.cons (.tail _ (.tail _ (.head _))) .nil))
    fun v p σ' s' k J' => wpAny_pure (q σ' s' k (J'.tmps fun _ h => nomatch h))
theorem codeAny_start {C : Ctx} {R : Result → Shared → Prop} {s : Shared} {elt : Expr} {gens : List Comprehension} {scope : Scope} {pos : Pos} {d : Nat} {it acc : Value} {target iter : Expr} {ifs : List Expr} (hg : gens[d]? = some ⟨target, iter, ifs, 0⟩)
    (h0 : codeAny C.M C.A (.compLoop (.ListComp elt gens scope pos) d it acc C.env) R s)
    (h : ∀ (Q : Value → Shared → Prop) X, Q it s → wpAny C.M C.A (pyIter it) Q X s) : codeAny C.M C.A (.compStart (.ListComp elt gens scope pos) d it acc C.env) R s := by
  refine codeAny_of_tree ?_
  show wpAny _ _ ((compStart (.ListComp elt gens scope pos) d it acc C.env).onRaise (fun x => do noteFrame x C.env; standAt theWindowsPlace)) _ _ s
  refine wpAny_notedAt ?_
  unfold compStart
  have hc : clausesOf (.ListComp elt gens scope pos) = gens := rfl
  rw [hc, hg]
  show wpAny _ _ (ask >>= _) _ _ s
  refine wpAny_bind (wpAny_askSetting (wpAny_ite ?_))
  split
  · first
      | exact wpAny_bind (wpAny_pure (wpAny_pure (And.intro rfl h0)))
      | exact wpAny_pure (And.intro rfl h0)
  · first
      | exact wpAny_bind (wpAny_rule (wpAny_bind (wpAny_standAt (wpAny_bind (h _ _ (wpAny_pure (And.intro rfl h0)))))))
      | (refine wpAny_bind (wpAny_rule ?_); show wpAny _ _ (standAt iter.pos >>= _) _ _ s; exact wpAny_bind (wpAny_standAt (wpAny_bind (h _ _ (wpAny_pure (And.intro rfl h0))))))
theorem AU.next {C : Ctx} {n : Nat} {ρ : Locs} {σ : Store} {elt : Expr} {gens : List Comprehension} {scope : Scope} {pos : Pos} {acc : Value} {target iter : Expr} {ifs : List Expr} {emit : Sem Fin → Sem Fin} {K : Store → Prop} (O : C.Ok n) (hg : gens[1]? = some ⟨target, iter, ifs, 0⟩)
    (hturn : ∀ it, compTurn (.ListComp elt gens scope pos) 1 it acc C.env = turnOf (.ListComp elt gens scope pos) 1 it acc C.env iter.pos target ifs emit) (hs : ∀ x, foldedSetIterable iter C.env x = pure x)
    (h : AE C ρ σ iter fun p σ₁ => ∃ l Src, ∃ V : List PV → Store → Prop, Iter C σ₁ p l Src ∧ V [] σ₁ ∧ (∀ σ, V l σ → K σ) ∧ (∀ d σ, V d σ → Src σ) ∧
      ∀ d x r, l = d ++ x :: r → ∀ J I₁ σ, V d σ → AG (C.jj J I₁) ρ σ target x fun ρ₁ σ₁ => (∀ y p, ρ.lookup y = some p → ρ₁.lookup y = some p) ∧
        ATs (C.jj J I₁) ρ₁ σ₁ ifs fun b σ₂ => if b = true then AU (C.jj J I₁) ρ₁ σ₂ emit fun σ₃ => V (d ++ [x]) σ₃ else V (d ++ [x]) σ₂) :
    AU C ρ σ (fun k => do
      let x ← eval iter C.env
      standAt iter.pos
      let x ← foldedSetIterable iter C.env x
      let _ ← runOwn (.compStart (.ListComp elt gens scope pos) 1 (← holding [x] (pyIter x)) acc C.env) C.env
      k) K := by
  intro s r Q E J q
  refine wpAny_bind (h [] s _ _ J fun v p σ₁ s₁ k J₁ => wpAny_bind (wpAny_standAt (wpAny_bind (wpAny_of_eq (hs v) (wpAny_bind (wpAny_holding ?_))))))
  obtain ⟨l, Src, V, hi, v0, vend, vsrc, step⟩ := k
  refine hi ρ _ s₁ v _ _ J₁ (.head _) fun it EP EO E₀ I₀ s₂ hI hE J₂ nx ow sf => ?_
  have J₂' : Inv (C.jj (E₀ ++ C.J) I₀) ρ σ₁ [] s₂ := J₂.tmps fun _ h => nomatch h
  refine wpAny_bind (wpAny_runOwn ?_)
  rw [Around.mark_none]
  refine codeAny_start hg ?_ (fun Q X q => sf C C.J I₀ 0 E₀ ρ σ₁ [] s₂ Q X hE J₂' q)
  refine comp_loop (J := C.J) (I₁ := I₀) (hturn it) rfl rfl rfl rfl O.hh nx ow (fun _ h => h) V vsrc v0 hE (fun d x r e J σ hv => step d x r e J I₀ σ hv) (fun σ' s' hv J' => ?_) J₂'
  refine Inv.out J' fun m S I D => ?_
  exact q σ' s' (vend _ hv) (InvD.dropJ (E := []) D hI).inv
theorem InvD.cx {C : Ctx} {ρ : Locs} {σ : Store} {τ : Tmp} {s : Shared} {m : Str → Option Value} {S I : Led} (D : InvD C ρ σ τ s m S I) (A : Around) (fr : List Env) : InvD { C with A := A, fr := fr } ρ σ τ s m S I :=
  ⟨D.F, D.N, D.nd, D.sep, D.sub, D.loc, D.tmp, D.g, D.d, D.os⟩
noncomputable def Ctx.comp (C : Ctx) (env : Env) (h : Heap) (as : List Addr) (I : Led) : Ctx := { C with env := env, h₀ := hideAll h as, I₀ := I }
theorem Ctx.Ok.comp {C : Ctx} {n : Nat} {ρ : Locs} {σ : Store} {τ : Tmp} {s : Shared} {m : Str → Option Value} {S I : Led} (O : C.Ok n) (D : InvD C ρ σ τ s m S I) {env : Env} (hk : env.scope.kind = .function) (hg : env.globals = mainGlobals) (hb : env.builtins = builtinsNs) :
    (C.comp env s.heap ((S ++ (C.J ++ I)).map (·.1)) I).Ok n := by
  obtain ⟨p, loose, mean, mg, mb, T⟩ := O.T
  exact ⟨O.stack, O.X.keeps D.stays, ⟨p, loose, mean, mg, mb, T.keeps D.stays⟩, O.hh, O.depth, O.units, hk, hg, hb⟩
theorem InvD.backC {C : Ctx} {ρ : Locs} {σ : Store} {τ : Tmp} {s : Shared} {m : Str → Option Value} {S I : Led} (D : InvD C ρ σ τ s m S I) {env : Env} (he : env.locals = s.heap.objs.size) {J' : Led} {ρ' : Locs} {σ' : Store} {τ' : Tmp} {s' : Shared} {m' : Str → Option Value} {S' I' : Led}
    (D' : InvD ((C.comp env s.heap ((S ++ (C.J ++ I)).map (·.1)) I).jj J' I) ρ' σ' τ' s' m' S' I') : ∃ o es ep, o.data = .dict es ep ∧ StrKeys es ∧ (∀ name, nsFind es name = m' name) ∧ InvD (C.jj ([(env.locals, o)] ++ J') I') ρ σ' (τ' ++ τ) s' m S' I' := by
  have sub : ∀ p ∈ I, p ∈ I' := D'.sub
  obtain ⟨oL, es, ep, hL, hd, hr⟩ := D.hidL
  obtain ⟨o, es', ep', ho, hd', hsk, hnf⟩ := D'.F.ns
  have ho' : s'.heap.get? env.locals = some o := ho
  have hnew : C.h₀.get? env.locals = none := by
    cases q : C.h₀.get? env.locals with
    | none => rfl
    | some x =>
      have := Heap.lt_size (D.F.keep _ _ q)
      rw [he] at this; exact absurd this (Nat.lt_irrefl _)
  have hneL : env.locals ≠ C.env.locals := by
    obtain ⟨oo, _, _, hh, _⟩ := D.F.ns
    intro q
    have := Heap.lt_size hh
    rw [← q, he] at this; exact absurd this (Nat.lt_irrefl _)
  refine ⟨o, es', ep', hd', hsk, hnf, ⟨⟨oL, es, ep, D'.F.keep _ _ hL, hd, hr⟩, fun b o e => D'.F.keep _ _ (D.stays b o e), D.F.above⟩, fun p hp => ?_, ?_, D'.sep, fun _ h => h, fun x p e => ?_, fun q hq => ?_, D'.g, D'.d, D'.os⟩
  · have hp' : p ∈ S' ++ (([(env.locals, o)] ++ J') ++ I') := hp
    have old : p ∈ S' ++ (J' ++ I') → s'.heap.get? p.1 = some p.2 ∧ p.1 ≠ C.env.locals ∧ C.h₀.get? p.1 = none := by
      intro hp
      refine ⟨(D'.N p hp).1, fun q => ?_, ?_⟩
      · have := (D'.N p hp).2.2
        rw [q] at this
        have h2 : (hideAll s.heap ((S ++ (C.J ++ I)).map (·.1))).get? C.env.locals = none := this
        rw [hL] at h2; cases h2
      · cases q : C.h₀.get? p.1 with
        | none => rfl
        | some o =>
          have h2 : (hideAll s.heap ((S ++ (C.J ++ I)).map (·.1))).get? p.1 = none := (D'.N p hp).2.2
          rw [D.stays _ _ q] at h2; cases h2
    simp only [List.mem_append, List.mem_singleton] at hp'
    rcases hp' with h | (h | h) | h
    · exact old (by simp [h])
    · subst h; exact ⟨ho', hneL, hnew⟩
    · exact old (by simp [h])
    · exact old (by simp [h])
  · have nd : ((S' ++ (J' ++ I')).map (·.1)).Nodup := D'.nd
    have hp : (S' ++ (([(env.locals, o)] ++ J') ++ I')).Perm ((env.locals, o) :: (S' ++ (J' ++ I'))) := by
      rw [List.append_assoc]
      exact List.perm_middle
    refine (hp.map (·.1)).nodup_iff.mpr ?_
    refine List.nodup_cons.mpr ⟨fun q => ?_, nd⟩
    obtain ⟨p, hp, e⟩ := List.mem_map.mp q
    exact (D'.N p hp).2.1 e
  · obtain ⟨v, hv, r⟩ := D.loc x p e; exact ⟨v, hv, r.mono sub⟩
  · rcases List.mem_append.mp hq with hq | hq
    · exact D'.tmp q hq
    · exact (D.tmp q hq).mono sub
end
section
noncomputable def clOf : List (Str × NameKind) → List (Str × Addr) → List (Str × Addr) → Option (List (Str × Addr))
  | [], _, acc => some acc
  | (n, k) :: r, cells, acc => if k == .free then (match cells.lookup n with | some c => clOf r cells ((n, c) :: acc) | none => none) else clOf r cells acc
theorem closureFor_of {scope : Scope} {env : Env} {cl : List (Str × Addr)} (h : clOf scope.names env.cells [] = some cl) : closureFor scope env = pure cl := by
  have key : ∀ (names : List (Str × NameKind)) (acc : List (Str × Addr)), clOf names env.cells acc = some cl →
      (forIn names acc fun x r => (match x with
        | (name, kind) => if (kind == NameKind.free) = true then (do let d ← cellOf env name; pure (ForInStep.yield ((name, d) :: r))) else pure (ForInStep.yield r) : Sem (ForInStep (List (Str × Addr))))) = pure cl := by
    intro names
    induction names with
    | nil => intro acc h; cases h; rfl
    | cons q r ih =>
      intro acc h
      obtain ⟨x, k⟩ := q
      unfold clOf at h
      rw [List.forIn_cons]
      by_cases hk : (k == NameKind.free) = true
      · rw [if_pos hk] at h
        cases hc : env.cells.lookup x with
        | none => rw [hc] at h; cases h
        | some c =>
          rw [hc] at h
          have := ih _ h
          simp only [hk, if_true, cellOf, hc]
          exact this
      · rw [if_neg hk] at h
        have := ih _ h
        simp only [if_neg hk]
        exact this
  show ((forIn scope.names [] fun x r => (match x with
        | (name, kind) => if (kind == NameKind.free) = true then (do let d ← cellOf env name; pure (ForInStep.yield ((name, d) :: r))) else pure (ForInStep.yield r) : Sem (ForInStep (List (Str × Addr))))) >>= fun cs => pure cs) = pure cl
  rw [key _ _ h]; rfl
noncomputable def Fz (acc : Addr) (σ : Store) (p : PV) (σ' : Store) : Prop := (p = .ref acc ∧ σ' = σ) ∨ ∃ l, σ = (acc, .list l) :: σ' ∧ p = .lst l
theorem Fz.inv {C : Ctx} {ρ : Locs} {σ σ' : Store} {τ : Tmp} {s : Shared} {acc : Addr} {p : PV} {v : Value} (f : Fz acc σ p σ') (J : Inv C ρ σ ((v, .ref acc) :: τ) s) : Inv C ρ σ' ((v, p) :: τ) s := by
  rcases f with ⟨rfl, rfl⟩ | ⟨l, rfl, rfl⟩
  · exact J
  · exact J.freeze
section
variable {C : Ctx} {n : Nat} {ρ : Locs} {σ : Store} {elt target iter : Expr} {gens : List Comprehension} {ifs : List Expr} {scope sc2 : Scope} {pos : Pos} {cl : List (Str × Addr)} {emit : Env → Value → Sem Fin → Sem Fin}
noncomputable def Turns (n : Nat) (sc2 : Scope) (cl : List (Str × Addr)) (target : Expr) (ifs : List Expr) (emit : Env → Value → Sem Fin → Sem Fin) (l : List PV) (V : Addr → List PV → Store → Prop) : Prop :=
  ∀ acc d x r, l = d ++ x :: r → ∀ C', C'.Ok n → C'.env.scope = sc2 → C'.env.cells = cl → ∀ σ, V acc d σ → AG C' [] σ target x fun ρ₁ σ₁ => ATs C' ρ₁ σ₁ ifs fun b σ₂ =>
    if b = true then AU C' ρ₁ σ₂ (emit C'.env (.ref acc)) fun σ₃ => V acc (d ++ [x]) σ₃ else V acc (d ++ [x]) σ₂
theorem comp_core (O : C.Ok n) (hkind : scope.kind = .function) (hcell : ∀ y ∈ scope.names, y.2 ≠ .cell) (hg : gens[0]? = some ⟨target, iter, ifs, 0⟩)
    (hturn : ∀ env it acc, compTurn (.ListComp elt gens scope pos) 0 it acc env = turnOf (.ListComp elt gens scope pos) 0 it acc env iter.pos target ifs (emit env acc))
    {use : Option (Value → Sem Unit)} {Q : Value → Shared → Prop} {X : Value → Shared → Prop} {τ : Tmp} {s : Shared} {it : Value} {EP : Nat → Led → Prop} {EO : Nat → Value → Led → Prop} {E₀ I₀ : Led} {l : List PV} {Src : Store → Prop} (V : Addr → List PV → Store → Prop)
    (hI : ∀ p ∈ C.I₀, p ∈ I₀) (hE : EP 0 E₀) (J : Inv (C.jj (E₀ ++ C.J) I₀) ρ σ τ s) (nx : Next it EP EO l Src I₀) (ow : Own it EP EO fun _ => True) (sf : Self it EP)
    (v0 : ∀ acc, V acc [] ((acc, .list []) :: σ)) (vsrc : ∀ acc d σ, V acc d σ → Src σ) (hsc : relabel scope C.env = sc2) (step : Turns n sc2 cl target ifs emit l V)
    (fin : ∀ acc L o es ep (m' : Str → Option Value) σ' s' I', o.data = .dict es ep → StrKeys es → (∀ name, nsFind es name = m' name) → V acc l σ' → (∀ p ∈ C.I₀, p ∈ I') → Inv (C.jj ([(L, o)] ++ C.J) I') ρ σ' ((.ref acc, .ref acc) :: τ) s' → s'.heap.get? L = some o → compPost C.M C.A X use Q (.ref acc) L (.ok .next) s') :
    wpAny C.M C.A (newList []) (fun acc s₃ => wpAny C.M C.A (newFunctionEnv scope C.env.globals cl [] C.env.qual none .none (some C.env)) (fun cenv s₄ =>
      codeAny C.M C.A (.compStart (.ListComp elt gens scope pos) 0 it acc { cenv with scope := relabel scope C.env }) (compPost C.M C.A X use Q acc cenv.locals) s₄) X s₃) X s := by
  refine Inv.out J fun m S I D => ?_
  have D3 := D.pushS (o := listOf ([] : List Value).toArray 0) (ao := .list []) (tk := s.toks) (.list .nil)
  refine wpAny_newObj_type (wpAny_newFunctionEnv hcell (by intro y hy; simp at hy) (fun h₁ hns₁ hsb₁ => ?_) hkind) (Nat.zero_le _)
  dsimp only at hns₁ hsb₁ ⊢
  generalize hacc : s.heap.objs.size = acc at D3
  generalize hs3 : ({ s with heap := s.heap.push (listOf ([] : List Value).toArray 0), toks := s.toks } : Shared) = s3 at D3
  have hh3 : s3.heap = s.heap.push (listOf ([] : List Value).toArray 0) := by rw [← hs3]
  have hkeep : ∀ b o, s3.heap.get? b = some o → h₁.get? b = some o := fun b o e => by
    rw [hh3] at e
    exact hsb₁.extBut b o (Nat.ne_of_lt (Heap.lt_size e)) (Heap.get?_push_of_some _ e)
  let env := compEnvC scope cl s3.heap.objs.size C.env
  have D4 := D3.into (env := env) (τ' := []) (ρ' := []) (tk := s3.toks) (h₁ := h₁) (m' := fun x => ([] : List (Str × Value)).reverse.lookup x) rfl (by show h₁.Ns s3.heap.objs.size _; rw [hh3]; exact hns₁) hkeep (fun x p e => by cases e) (fun _ h => nomatch h)
  have O0 : (C.jj (E₀ ++ C.J) I₀).Ok n := O.jj _ _
  have O2 := O0.comp D3 (env := env) (by simp [env, compEnvC, relabel, hkind]) O.gl O.bi
  have D5 := D4.cx C.A C.fr
  let C2 := (C.jj (E₀ ++ C.J) I₀).comp env s3.heap (((((acc, listOf ([] : List Value).toArray 0) :: S) ++ ((C.jj (E₀ ++ C.J) I₀).J ++ I))).map (·.1)) I
  have J5 : Inv (C2.jj (E₀ ++ C.J) I) [] ((acc, .list []) :: σ) [] { s3 with heap := h₁, toks := s3.toks } := ⟨_, _, _, D5⟩
  have hsub : ∀ p ∈ I₀, p ∈ I := D.sub
  have main : codeAny C2.M C2.A (.compStart (.ListComp elt gens scope pos) 0 it (.ref acc) C2.env) (compPost C.M C.A X use Q (.ref acc) env.locals) { s3 with heap := h₁, toks := s3.toks } := by
    refine codeAny_start hg ?_ (fun Q X q => sf C2 C.J I 0 E₀ [] _ [] _ Q X hE J5 q)
    refine comp_loop (J := C.J) (I₁ := I) (hturn C2.env it (.ref acc)) rfl rfl rfl rfl O.hh nx ow hsub (V acc) (fun d σ h => vsrc acc d σ h) (v0 acc) hE (fun d x r e J' σ' hv => ?_) (fun σ' s' hv J' => ?_) J5
    · have h1 := step acc d x r e (C2.jj J' I) (O2.jj _ _) hsc rfl σ' hv
      intro τ s v Q E Ji hm q
      exact h1 τ s v Q E Ji hm fun ρ' σ' s' k Ji' => q ρ' σ' s' ⟨(fun y p e => nomatch e), k⟩ Ji'
    · obtain ⟨m', S', I', D'⟩ := J'
      obtain ⟨o, es, ep, h1, h2, h3, D6⟩ := D3.backC (env := env) rfl D'
      refine fin acc env.locals o es ep _ σ' s' I' h1 h2 h3 hv (fun p hp => D'.sub p (hsub p (hI p hp))) (Inv.push ⟨m, S', I', D6⟩ fun _ => .val _) ?_
      have := D6.N (env.locals, o) (by simp)
      exact this.1
  subst hacc
  subst hs3
  exact main
theorem ns_drop {C : Ctx} {I' : Led} {L : Addr} {o : Obj} {ρ : Locs} {σ : Store} {τ : Tmp} {s : Shared} (hI : ∀ p ∈ C.I₀, p ∈ I') (J : Inv (C.jj ([(L, o)] ++ C.J) I') ρ σ τ s) {h' : Heap} (hs : Heap.SameBut L s.heap h') : Inv C ρ σ τ { s with heap := h' } := by
  refine Inv.out J fun m S I D => ?_
  have := InvD.cutJ (E := [(L, o)]) (C := C) (J := C.J) D (tk := s.toks) (h' := h') fun b ob hb e => (hs.2 b (fun q => hb (by simp [q]))).trans e
  exact (InvD.dropJ (E := []) this hI).inv
theorem ns_at {C : Ctx} {I' : Led} {L : Addr} {o : Obj} {es : Array DictEntry} {ep : Nat} {m' : Str → Option Value} {ρ : Locs} {σ : Store} {τ : Tmp} {s : Shared} (h1 : o.data = .dict es ep) (h2 : StrKeys es) (h3 : ∀ name, nsFind es name = m' name)
    (J : Inv (C.jj ([(L, o)] ++ C.J) I') ρ σ τ s) : s.heap.Ns L m' := by
  refine Inv.out J fun m S I D => ?_
  exact ⟨o, es, ep, (D.N (L, o) (by simp)).1, h1, h2, h3⟩
theorem AE.compG {rest : List Comprehension} {K : PV → Store → Prop} (O : C.Ok n) (hcl : clOf scope.names C.env.cells [] = some cl) (hsc : relabel scope C.env = sc2) (hkind : scope.kind = .function) (hcell : ∀ y ∈ scope.names, y.2 ≠ .cell)
    (hnames : ∀ x ∈ scope.names, x.2 = .local → scope.names.lookup x.1 = some .local) (hs : ∀ x, foldedSetIterable iter C.env x = pure x)
    (hturn : ∀ env it acc, compTurn (.ListComp elt (⟨target, iter, ifs, 0⟩ :: rest) scope pos) 0 it acc env = turnOf (.ListComp elt (⟨target, iter, ifs, 0⟩ :: rest) scope pos) 0 it acc env iter.pos target ifs (emit env acc))
    (h : AE C ρ σ iter fun p σ₁ => ∃ l Src, ∃ V : Addr → List PV → Store → Prop, Iter C σ₁ p l Src ∧ (∀ acc, V acc [] ((acc, .list []) :: σ₁)) ∧ (∀ acc d σ, V acc d σ → Src σ) ∧
      (∀ acc σ, V acc l σ → ∃ p₂ σ₂, Fz acc σ p₂ σ₂ ∧ K p₂ σ₂) ∧ Turns n sc2 cl target ifs emit l V) : AE C ρ σ (.ListComp elt (⟨target, iter, ifs, 0⟩ :: rest) scope pos) K := by
  intro τ s Q X J q
  rw [eval_ListComp]
  show wpAny _ C.A (comprehension (.ListComp elt (⟨target, iter, ifs, 0⟩ :: rest) scope pos) scope C.env _ (newList []) false (eval iter C.env)) _ _ s
  refine wpAny_comprehension_free (e := .ListComp elt (⟨target, iter, ifs, 0⟩ :: rest) scope pos) (g := ⟨target, iter, ifs, 0⟩) (gs := rest) (use := Option.none) rfl hs (closureFor_of hcl) hkind hnames (h τ s _ X J fun v p σ₁ s₁ k J₁ => ?_)
  obtain ⟨l, Src, V, hi, v0, vsrc, vend, step⟩ := k
  refine hi ρ _ s₁ v _ _ J₁ (.head _) fun it EP EO E₀ I₀ s₂ hI hE J₂ nx ow sf => ?_
  refine comp_core (use := Option.none) O hkind hcell rfl hturn V hI hE J₂ nx ow sf v0 vsrc hsc step fun acc L o es ep m' σ' s' I' h1 h2 h3 hv hI' J' ho => ?_
  refine ⟨m', ns_at h1 h2 h3 J', fun h' hs' => ?_⟩
  obtain ⟨p₂, σ₂, fz, k⟩ := vend acc σ' hv
  exact q _ p₂ σ₂ _ k ((fz.inv (ns_drop hI' J' hs')).tmps fun q hq => by
    rcases List.mem_cons.mp hq with rfl | hq
    · exact .head _
    · exact .tail _ (.tail _ hq))
theorem AS.compG {rest : List Comprehension} {y : Str} {yp spos : Pos} {K : Fl → Locs → Store → Prop} {sc : Scope} (O : C.Ok n) (hsw : swapsWith (.ListComp elt (⟨target, iter, ifs, 0⟩ :: rest) scope pos) (some (.Name y yp)) spos.line C.env = pure true)
    (hcl : clOf scope.names C.env.cells [] = some cl) (hsc : relabel scope C.env = sc2) (hkind : scope.kind = .function) (hcell : ∀ y ∈ scope.names, y.2 ≠ .cell)
    (hnames : ∀ x ∈ scope.names, x.2 = .local → scope.names.lookup x.1 = some .local) (hs : ∀ x, foldedSetIterable iter C.env x = pure x) (hes : C.env.scope = sc) (hy : sc.names.lookup y = some .local)
    (hturn : ∀ env it acc, compTurn (.ListComp elt (⟨target, iter, ifs, 0⟩ :: rest) scope pos) 0 it acc env = turnOf (.ListComp elt (⟨target, iter, ifs, 0⟩ :: rest) scope pos) 0 it acc env iter.pos target ifs (emit env acc))
    (h : AE C ρ σ iter fun p σ₁ => ∃ l Src, ∃ V : Addr → List PV → Store → Prop, Iter C σ₁ p l Src ∧ (∀ acc, V acc [] ((acc, .list []) :: σ₁)) ∧ (∀ acc d σ, V acc d σ → Src σ) ∧
      (∀ acc σ, V acc l σ → ∃ p₂ σ₂, Fz acc σ p₂ σ₂ ∧ K .next ((y, p₂) :: ρ) σ₂) ∧ Turns n sc2 cl target ifs emit l V) : AS C ρ σ (.Assign [.Name y yp] (.ListComp elt (⟨target, iter, ifs, 0⟩ :: rest) scope pos) spos) K := by
  intro s Q X J P
  rw [exec_Assign_Name_used _ _ _ _ hsw]
  refine wpAny_bind (wpAny_standAt (wpAny_bind ?_))
  show wpAny _ C.A (do let _ ← comprehension (.ListComp elt (⟨target, iter, ifs, 0⟩ :: rest) scope pos) scope C.env _ (newList []) false (eval iter C.env) (some (PySem.assign (Expr.Name y yp) C.env))) _ _ s
  refine wpAny_bind (wpAny_mono (wpAny_comprehension_free (e := .ListComp elt (⟨target, iter, ifs, 0⟩ :: rest) scope pos) (g := ⟨target, iter, ifs, 0⟩) (gs := rest) (use := some (PySem.assign (Expr.Name y yp) C.env)) (Q := fun _ s' => Q .next s') rfl hs (closureFor_of hcl) hkind hnames (h [] s _ X J fun v p σ₁ s₁ k J₁ => ?_)) (fun _ s' hq => wpAny_pure (wpAny_pure hq)) fun _ _ e => e)
  obtain ⟨l, Src, V, hi, v0, vsrc, vend, step⟩ := k
  refine hi ρ _ s₁ v _ _ J₁ (.head _) fun it EP EO E₀ I₀ s₂ hI hE J₂ nx ow sf => ?_
  refine comp_core (use := some (PySem.assign (Expr.Name y yp) C.env)) O hkind hcell rfl hturn V hI hE J₂ nx ow sf v0 vsrc hsc step fun acc L o es ep m' σ' s' I' h1 h2 h3 hv hI' J' ho => ?_
  obtain ⟨p₂, σ₂, fz, k⟩ := vend acc σ' hv
  have J₃ := fz.inv J'
  show wpAny _ _ (PySem.assign (Expr.Name y yp) C.env (Value.ref acc)) _ _ _
  refine (AG.name (C := C.jj ([(L, o)] ++ C.J) I') (K := fun ρ'' σ'' => ρ'' = (y, p₂) :: ρ ∧ σ'' = σ₂) (O.jj _ _) hes hy ⟨rfl, rfl⟩) _ s' (Value.ref acc) _ _ J₃ (.head _) fun ρ'' σ'' s'' k' J₄ => ?_
  obtain ⟨rfl, rfl⟩ := k'
  refine ⟨m', ns_at h1 h2 h3 J₄, fun h' hs' => ?_⟩
  exact P.next _ _ _ k ((ns_drop hI' J₄ hs').tmps fun _ h => nomatch h)
end
end
section
theorem Fz.keep (acc : Addr) (σ : Store) : Fz acc σ (.ref acc) σ := .inl ⟨rfl, rfl⟩
theorem Fz.ice (acc : Addr) (l : List PV) (σ : Store) : Fz acc ((acc, .list l) :: σ) (.lst l) σ := .inr ⟨l, rfl, rfl⟩
noncomputable abbrev emit1 (elt : Expr) : Env → Value → Sem Fin → Sem Fin := fun env acc k => (do let _ ← call (.builtin "list.append") [acc, ← eval elt env]) >>= fun _ => k
noncomputable abbrev emit2 (elt t1 i1 t2 i2 : Expr) (f1 f2 : List Expr) (scope : Scope) (pos : Pos) : Env → Value → Sem Fin → Sem Fin := fun env acc k => do
  let x ← eval i2 env
  standAt i2.pos
  let x ← foldedSetIterable i2 env x
  let _ ← runOwn (.compStart (.ListComp elt [⟨t1, i1, f1, 0⟩, ⟨t2, i2, f2, 0⟩] scope pos) 1 (← holding [x] (pyIter x)) acc env) env
  k
section
variable {n : Nat} {σ : Store} {elt target iter t1 i1 t2 i2 : Expr} {ifs f1 f2 : List Expr} {scope sc2 : Scope} {pos : Pos} {cl : List (Str × Addr)} {l : List PV}
theorem Turns.pure1 {t : PV → Bool} {f : PV → PV} (hl : l.length ≤ 1000)
    (h : ∀ acc ys x, x ∈ l → ∀ C, C.Ok n → C.env.scope = sc2 → C.env.cells = cl → AG C [] ((acc, .list ys) :: σ) target x fun ρ₁ σ₁ => ATs C ρ₁ σ₁ ifs fun b σ₂ => σ₂ = (acc, .list ys) :: σ ∧ b = t x ∧
      (b = true → AE C ρ₁ σ₂ elt fun p σ₃ => σ₃ = (acc, .list ys) :: σ ∧ p = f x)) :
    Turns n sc2 cl target ifs (emit1 elt) l fun acc d σ' => σ' = (acc, .list ((d.filter t).map f)) :: σ := by
  intro acc d x r e C O hsc hcl σ' hv
  subst hv
  have hx : x ∈ l := by rw [e]; simp
  have hlen : ((d.filter t).map f).length ≤ 1000 := by
    rw [List.length_map]
    refine Nat.le_trans (List.length_filter_le _ _) (Nat.le_trans ?_ hl)
    rw [e]; simp
  have mono : ∀ (ρ₁ : Locs) (σ₁ : Store) (K K' : Bool → Store → Prop), (∀ b σ', K b σ' → K' b σ') → ATs C ρ₁ σ₁ ifs K → ATs C ρ₁ σ₁ ifs K' := by
    intro ρ₁ σ₁ K K' hk h
    match ifs, h with
    | [], h => exact hk _ _ h
    | [c], h => exact fun τ s Q E J q => h τ s Q E J fun b σ' s' k J' => q b σ' s' (hk b σ' k) J'
  intro τ s v Q E J hm q
  refine h acc _ x hx C O hsc hcl τ s v Q E J hm fun ρ₁ σ₁ s₁ k J₁ => q ρ₁ σ₁ s₁ (mono _ _ _ _ (fun b σ₂ k => ?_) k) J₁
  obtain ⟨rfl, hb, k⟩ := k
  cases b with
  | false =>
    simp only [Bool.false_eq_true, if_false]
    rw [List.filter_append, List.filter_cons_of_neg (by rw [← hb]; decide)]; simp
  | true =>
    simp only [if_true]
    refine AU.emit ((k rfl).mono fun p σ₃ k => ?_)
    obtain ⟨rfl, rfl⟩ := k
    refine ⟨_, _, hlen, .head, ?_⟩
    rw [List.filter_append, List.filter_cons_of_pos (by rw [← hb])]; simp
theorem ATs.mono {C : Ctx} {ρ : Locs} {K K' : Bool → Store → Prop} (hk : ∀ b σ', K b σ' → K' b σ') (h : ATs C ρ σ ifs K) : ATs C ρ σ ifs K' := by
  match ifs, h with
  | [], h => exact hk _ _ h
  | [c], h => exact fun τ s Q E J q => h τ s Q E J fun b σ' s' k J' => q b σ' s' (hk b σ' k) J'
theorem AG.mono {C : Ctx} {ρ : Locs} {p : PV} {K K' : Locs → Store → Prop} (hk : ∀ b σ', K b σ' → K' b σ') (h : AG C ρ σ target p K) : AG C ρ σ target p K' :=
  fun τ s v Q E J hv q => h τ s v Q E J hv fun ρ' σ' s' k J' => q ρ' σ' s' (hk _ _ k) J'
theorem Turns.pure2 {g : PV → List PV} {t : PV → PV → Bool} {f : PV → PV → PV} (hl : (l.flatMap fun x => ((g x).filter (t x)).map (f x)).length ≤ 1000) (hs : ∀ env x, foldedSetIterable i2 env x = pure x)
    (h : ∀ acc ys x, x ∈ l → ∀ C, C.Ok n → C.env.scope = sc2 → C.env.cells = cl → AG C [] ((acc, .list ys) :: σ) t1 x fun ρ₁ σ₁ => σ₁ = (acc, .list ys) :: σ ∧ AE C ρ₁ σ₁ i2 fun p σ₂ => σ₂ = (acc, .list ys) :: σ ∧ ∃ Src, Iter C σ₂ p (g x) Src ∧ (∀ ys, Src ((acc, .list ys) :: σ)) ∧
      ∀ ys y, y ∈ g x → ∀ C, C.Ok n → C.env.scope = sc2 → C.env.cells = cl → AG C ρ₁ ((acc, .list ys) :: σ) t2 y fun ρ₂ σ₃ => (∀ z p, ρ₁.lookup z = some p → ρ₂.lookup z = some p) ∧ ATs C ρ₂ σ₃ f2 fun b σ₄ => σ₄ = (acc, .list ys) :: σ ∧ b = t x y ∧
        (b = true → AE C ρ₂ σ₄ elt fun p σ₅ => σ₅ = (acc, .list ys) :: σ ∧ p = f x y)) :
    Turns n sc2 cl t1 [] (emit2 elt t1 i1 t2 i2 [] f2 scope pos) l fun acc d σ' => σ' = (acc, .list (d.flatMap fun x => ((g x).filter (t x)).map (f x))) :: σ := by
  intro acc d x r e C O hsc hcl σ' hv
  subst hv
  have hx : x ∈ l := by rw [e]; simp
  refine (h acc _ x hx C O hsc hcl).mono fun ρ₁ σ₁ k => ?_
  obtain ⟨rfl, k⟩ := k
  show AU C ρ₁ _ (emit2 elt t1 i1 t2 i2 [] f2 scope pos C.env (.ref acc)) _
  refine AU.next O rfl (fun it => turn2b _ _ _ _ _ _ _ _ _ _ _ _) (hs _) (k.mono fun p σ₂ k => ?_)
  obtain ⟨rfl, Src, hi, hsrc, k⟩ := k
  refine ⟨g x, Src, fun d' σ' => σ' = (acc, .list ((d.flatMap fun x => ((g x).filter (t x)).map (f x)) ++ (d'.filter (t x)).map (f x))) :: σ, hi, by simp, fun σ' hv => ?_, fun d' σ' hv => by rw [hv]; exact hsrc _, ?_⟩
  · rw [hv]; simp
  · intro d' y r' e' J I₁ σ' hv
    subst hv
    have hy : y ∈ g x := by rw [e']; simp
    refine (k _ y hy (C.jj J I₁) (O.jj _ _) hsc hcl).mono fun ρ₂ σ₃ k => ⟨k.1, k.2.mono fun b σ₄ k => ?_⟩
    obtain ⟨rfl, hb, k⟩ := k
    cases b with
    | false =>
      simp only [Bool.false_eq_true, if_false]
      rw [List.filter_append, List.filter_cons_of_neg (by rw [← hb]; decide)]; simp
    | true =>
      simp only [if_true]
      refine AU.emit (C := C.jj J I₁) ((k rfl).mono fun p σ₃ k => ?_)
      obtain ⟨rfl, rfl⟩ := k
      refine ⟨_, _, ?_, .head, ?_⟩
      · refine Nat.le_trans ?_ hl
        rw [e, List.flatMap_append, List.flatMap_cons, e']
        simp only [List.length_append, List.length_map, List.filter_append]
        (first | lia | omega)
      · rw [List.filter_append, List.filter_cons_of_pos (by rw [← hb])]; simp
end
section
variable {C : Ctx} {n : Nat} {ρ : Locs} {σ : Store} {elt target iter t1 i1 t2 i2 : Expr} {ifs f1 f2 : List Expr} {scope sc2 sc : Scope} {pos : Pos} {cl : List (Str × Addr)}
theorem AE.comp1 {K : PV → Store → Prop} (O : C.Ok n) (hcl : clOf scope.names C.env.cells [] = some cl) (hsc : relabel scope C.env = sc2) (hkind : scope.kind = .function) (hcell : ∀ y ∈ scope.names, y.2 ≠ .cell)
    (hnames : ∀ x ∈ scope.names, x.2 = .local → scope.names.lookup x.1 = some .local) (hs : ∀ x, foldedSetIterable iter C.env x = pure x)
    (h : AE C ρ σ iter fun p σ₁ => ∃ l Src, ∃ t : PV → Bool, ∃ f : PV → PV, Iter C σ₁ p l Src ∧ (∀ acc ys, Src ((acc, .list ys) :: σ₁)) ∧ l.length ≤ 1000 ∧
      (∀ acc, ∃ p₂ σ₂, Fz acc ((acc, .list ((l.filter t).map f)) :: σ₁) p₂ σ₂ ∧ K p₂ σ₂) ∧
      (∀ acc ys x, x ∈ l → ∀ C, C.Ok n → C.env.scope = sc2 → C.env.cells = cl → AG C [] ((acc, .list ys) :: σ₁) target x fun ρ₁ σ' => ATs C ρ₁ σ' ifs fun b σ₂ => σ₂ = (acc, .list ys) :: σ₁ ∧ b = t x ∧
        (b = true → AE C ρ₁ σ₂ elt fun p σ₃ => σ₃ = (acc, .list ys) :: σ₁ ∧ p = f x))) :
    AE C ρ σ (.ListComp elt [⟨target, iter, ifs, 0⟩] scope pos) K := by
  refine AE.compG (emit := emit1 elt) O hcl hsc hkind hcell hnames hs (fun env it acc => turn1 _ _ _ _ _ _ _ _ _) (h.mono fun p σ₁ k => ?_)
  obtain ⟨l, Src, t, f, hi, hsrc, hl, hk, st⟩ := k
  exact ⟨l, Src, _, hi, fun acc => rfl, fun acc d σ hv => by rw [hv]; exact hsrc _ _, fun acc σ hv => by rw [hv]; exact hk acc, Turns.pure1 (t := t) (f := f) hl st⟩
theorem AS.comp1 {y : Str} {yp spos : Pos} {K : Fl → Locs → Store → Prop} (O : C.Ok n) (hsw : swapsWith (.ListComp elt [⟨target, iter, ifs, 0⟩] scope pos) (some (.Name y yp)) spos.line C.env = pure true)
    (hcl : clOf scope.names C.env.cells [] = some cl) (hsc : relabel scope C.env = sc2) (hkind : scope.kind = .function) (hcell : ∀ y ∈ scope.names, y.2 ≠ .cell)
    (hnames : ∀ x ∈ scope.names, x.2 = .local → scope.names.lookup x.1 = some .local) (hs : ∀ x, foldedSetIterable iter C.env x = pure x) (hes : C.env.scope = sc) (hy : sc.names.lookup y = some .local)
    (h : AE C ρ σ iter fun p σ₁ => ∃ l Src, ∃ t : PV → Bool, ∃ f : PV → PV, Iter C σ₁ p l Src ∧ (∀ acc ys, Src ((acc, .list ys) :: σ₁)) ∧ l.length ≤ 1000 ∧
      (∀ acc, ∃ p₂ σ₂, Fz acc ((acc, .list ((l.filter t).map f)) :: σ₁) p₂ σ₂ ∧ K .next ((y, p₂) :: ρ) σ₂) ∧
      (∀ acc ys x, x ∈ l → ∀ C, C.Ok n → C.env.scope = sc2 → C.env.cells = cl → AG C [] ((acc, .list ys) :: σ₁) target x fun ρ₁ σ' => ATs C ρ₁ σ' ifs fun b σ₂ => σ₂ = (acc, .list ys) :: σ₁ ∧ b = t x ∧
        (b = true → AE C ρ₁ σ₂ elt fun p σ₃ => σ₃ = (acc, .list ys) :: σ₁ ∧ p = f x))) :
    AS C ρ σ (.Assign [.Name y yp] (.ListComp elt [⟨target, iter, ifs, 0⟩] scope pos) spos) K := by
  refine AS.compG (emit := emit1 elt) O hsw hcl hsc hkind hcell hnames hs hes hy (fun env it acc => turn1 _ _ _ _ _ _ _ _ _) (h.mono fun p σ₁ k => ?_)
  obtain ⟨l, Src, t, f, hi, hsrc, hl, hk, st⟩ := k
  exact ⟨l, Src, _, hi, fun acc => rfl, fun acc d σ hv => by rw [hv]; exact hsrc _ _, fun acc σ hv => by rw [hv]; exact hk acc, Turns.pure1 (t := t) (f := f) hl st⟩
noncomputable def Two (n : Nat) (sc2 : Scope) (cl : List (Str × Addr)) (elt t1 i2 t2 : Expr) (f2 : List Expr) (σ : Store) (l : List PV) (g : PV → List PV) (t : PV → PV → Bool) (f : PV → PV → PV) : Prop :=
  ∀ acc ys x, x ∈ l → ∀ C, C.Ok n → C.env.scope = sc2 → C.env.cells = cl → AG C [] ((acc, .list ys) :: σ) t1 x fun ρ₁ σ₁ => σ₁ = (acc, .list ys) :: σ ∧ AE C ρ₁ σ₁ i2 fun p σ₂ => σ₂ = (acc, .list ys) :: σ ∧ ∃ Src, Iter C σ₂ p (g x) Src ∧ (∀ ys, Src ((acc, .list ys) :: σ)) ∧
      ∀ ys y, y ∈ g x → ∀ C, C.Ok n → C.env.scope = sc2 → C.env.cells = cl → AG C ρ₁ ((acc, .list ys) :: σ) t2 y fun ρ₂ σ₃ => (∀ z p, ρ₁.lookup z = some p → ρ₂.lookup z = some p) ∧ ATs C ρ₂ σ₃ f2 fun b σ₄ => σ₄ = (acc, .list ys) :: σ ∧ b = t x y ∧
        (b = true → AE C ρ₂ σ₄ elt fun p σ₅ => σ₅ = (acc, .list ys) :: σ ∧ p = f x y)
theorem AE.comp2 {K : PV → Store → Prop} (O : C.Ok n) (hcl : clOf scope.names C.env.cells [] = some cl) (hsc : relabel scope C.env = sc2) (hkind : scope.kind = .function) (hcell : ∀ y ∈ scope.names, y.2 ≠ .cell)
    (hnames : ∀ x ∈ scope.names, x.2 = .local → scope.names.lookup x.1 = some .local) (hs : ∀ x, foldedSetIterable i1 C.env x = pure x) (hs2 : ∀ env x, foldedSetIterable i2 env x = pure x)
    (h : AE C ρ σ i1 fun p σ₁ => ∃ l Src, ∃ g : PV → List PV, ∃ t : PV → PV → Bool, ∃ f : PV → PV → PV, Iter C σ₁ p l Src ∧ (∀ acc ys, Src ((acc, .list ys) :: σ₁)) ∧ (l.flatMap fun x => ((g x).filter (t x)).map (f x)).length ≤ 1000 ∧
      (∀ acc, ∃ p₂ σ₂, Fz acc ((acc, .list (l.flatMap fun x => ((g x).filter (t x)).map (f x))) :: σ₁) p₂ σ₂ ∧ K p₂ σ₂) ∧ Two n sc2 cl elt t1 i2 t2 f2 σ₁ l g t f) :
    AE C ρ σ (.ListComp elt [⟨t1, i1, [], 0⟩, ⟨t2, i2, f2, 0⟩] scope pos) K := by
  refine AE.compG (emit := emit2 elt t1 i1 t2 i2 [] f2 scope pos) O hcl hsc hkind hcell hnames hs (fun env it acc => turn2a _ _ _ _ _ _ _ _ _ _ _ _) (h.mono fun p σ₁ k => ?_)
  obtain ⟨l, Src, g, t, f, hi, hsrc, hl, hk, st⟩ := k
  exact ⟨l, Src, _, hi, fun acc => rfl, fun acc d σ hv => by rw [hv]; exact hsrc _ _, fun acc σ hv => by rw [hv]; exact hk acc, Turns.pure2 hl hs2 st⟩
theorem AS.comp2 {y : Str} {yp spos : Pos} {K : Fl → Locs → Store → Prop} (O : C.Ok n) (hsw : swapsWith (.ListComp elt [⟨t1, i1, [], 0⟩, ⟨t2, i2, f2, 0⟩] scope pos) (some (.Name y yp)) spos.line C.env = pure true)
    (hcl : clOf scope.names C.env.cells [] = some cl) (hsc : relabel scope C.env = sc2) (hkind : scope.kind = .function) (hcell : ∀ y ∈ scope.names, y.2 ≠ .cell)
    (hnames : ∀ x ∈ scope.names, x.2 = .local → scope.names.lookup x.1 = some .local) (hs : ∀ x, foldedSetIterable i1 C.env x = pure x) (hs2 : ∀ env x, foldedSetIterable i2 env x = pure x) (hes : C.env.scope = sc) (hy : sc.names.lookup y = some .local)
    (h : AE C ρ σ i1 fun p σ₁ => ∃ l Src, ∃ g : PV → List PV, ∃ t : PV → PV → Bool, ∃ f : PV → PV → PV, Iter C σ₁ p l Src ∧ (∀ acc ys, Src ((acc, .list ys) :: σ₁)) ∧ (l.flatMap fun x => ((g x).filter (t x)).map (f x)).length ≤ 1000 ∧
      (∀ acc, ∃ p₂ σ₂, Fz acc ((acc, .list (l.flatMap fun x => ((g x).filter (t x)).map (f x))) :: σ₁) p₂ σ₂ ∧ K .next ((y, p₂) :: ρ) σ₂) ∧ Two n sc2 cl elt t1 i2 t2 f2 σ₁ l g t f) :
    AS C ρ σ (.Assign [.Name y yp] (.ListComp elt [⟨t1, i1, [], 0⟩, ⟨t2, i2, f2, 0⟩] scope pos) spos) K := by
  refine AS.compG (emit := emit2 elt t1 i1 t2 i2 [] f2 scope pos) O hsw hcl hsc hkind hcell hnames hs hes hy (fun env it acc => turn2a _ _ _ _ _ _ _ _ _ _ _ _) (h.mono fun p σ₁ k => ?_)
  obtain ⟨l, Src, g, t, f, hi, hsrc, hl, hk, st⟩ := k
  exact ⟨l, Src, _, hi, fun acc => rfl, fun acc d σ hv => by rw [hv]; exact hsrc _ _, fun acc σ hv => by rw [hv]; exact hk acc, Turns.pure2 hl hs2 st⟩
end
end
section
noncomputable abbrev rangeObj (a b : Int) (t u v : Tok) : Obj := { cls := .type "range", dict := none, data := .fields #[.int a t, .int b u, .int 1 v], slots := #[] }
noncomputable abbrev rangeIt (x left : Int) : Obj := { cls := .type "range_iterator", dict := none, data := .fields #[rawInt x, rawInt left, rawInt 1], slots := #[] }
noncomputable abbrev enumObj (it : Addr) (i : Int) (old : Value) : Obj := { cls := .type "enumerate", dict := none, data := .fields #[.none, .bool false, .ref it, rawInt i, .none, old], slots := #[] }
noncomputable abbrev enumOut (it : Addr) (i : Int) (x : Value) (T : Addr) : Obj := { cls := .type "enumerate", dict := none, data := .fields #[rawInt T, .bool false, .ref it, rawInt i, .none, x], slots := #[] }
noncomputable def nums (a b : Int) : List PV := (List.range (b - a).toNat).map fun (i : Nat) => .int (a + (i : Int))
noncomputable def numbered (l : List PV) : List PV := l.zipIdx.map fun q => .tup [.int q.2, q.1]
section
variable {C : Ctx} {n : Nat} {ρ : Locs} {σ : Store} {τ : Tmp} {s : Shared} {K : PV → Store → Prop} {a : Addr} {l : List PV} {m : Str → Option Value} {S I : Led}
theorem AC.range1 {b : Int} (k : ∀ t u v, K (.obj (rangeObj 0 b t u v)) σ) : AC C ρ σ (.val (.type "range")) [.int b] K := by
  intro τ s vf vs Q E J hf ha q
  cases J.getVal hf
  obtain ⟨v1, rfl, h1⟩ := ha.one
  obtain ⟨t, rfl⟩ := J.getInt h1
  refine Inv.out J fun m S I D => ?_
  exact call_range_1 (q _ _ σ _ (k _ _ _) (((D.pushI (rangeObj 0 b s.toks t (s.toks + 1)) (tk := s.toks + 1 + 1)).more (.obj (.head _))).inv))
theorem AC.range2 {a b : Int} (k : ∀ t u v, K (.obj (rangeObj a b t u v)) σ) : AC C ρ σ (.val (.type "range")) [.int a, .int b] K := by
  intro τ s vf vs Q E J hf ha q
  cases J.getVal hf
  obtain ⟨v1, v2, rfl, h1, h2⟩ := ha.two
  obtain ⟨t, rfl⟩ := J.getInt h1
  obtain ⟨u, rfl⟩ := J.getInt h2
  refine Inv.out J fun m S I D => ?_
  exact call_range_2 (q _ _ σ _ (k _ _ _) (((D.pushI (rangeObj a b t u s.toks) (tk := s.toks + 1)).more (.obj (.head _))).inv))
theorem small_le {a b : Int} (h1 : -1000 ≤ a) (h2 : a ≤ 1000) (h3 : -1000 ≤ b) (h4 : b ≤ 1000) : Builtin.Range.small a b 1 = true :=
  small_one (by (first | lia | omega)) (by (first | lia | omega)) (by (first | lia | omega)) (by (first | lia | omega))
theorem Iter.range {a b : Int} {t u v : Tok} (h1 : -1000 ≤ a) (h2 : a ≤ 1000) (h3 : -1000 ≤ b) (h4 : b ≤ 1000) : Iter C σ (.obj (rangeObj a b t u v)) (nums a b) fun _ => True := by
  intro ρ τ s v' Q X J hv k
  refine Inv.out J fun m S I D => ?_
  have hr := D.tmp _ hv
  cases hr using VRep.casesObj with
  | @obj r hm =>
    refine wpAny_pyIter_range (a := a) (b := b) (c := 1) (t := t) (u := u) (v := v) (D.N _ (mem3.mpr (.inr (.inr hm)))).1 (small_le h1 h2 h3 h4) ?_
    have hnew := get_none_size (h := s.heap)
    refine k (.ref s.heap.objs.size) (fun i E => E = [(s.heap.objs.size, rangeIt (a + i) ((b - a).toNat - i))]) (fun i _ E => E = [(s.heap.objs.size, rangeIt (a + i) ((b - a).toNat - i))]) [(s.heap.objs.size, rangeIt a (Builtin.Range.rangeSize a b 1))] I _ D.sub ?_
      (D.addJ (tk := s.toks) (fun b o e => Heap.get?_push_of_some _ e) (fun p hp => ?_) (fun p hp => ?_) (by simp)).inv ?_ ?_ ?_
    · show [(s.heap.objs.size, rangeIt a (Builtin.Range.rangeSize a b 1))] = [(s.heap.objs.size, rangeIt (a + ((0 : Nat) : Int)) (((b - a).toNat : Int) - ((0 : Nat) : Int)))]
      rw [rangeSize_nat]
      simp
    · rw [List.mem_singleton.mp hp]; exact Heap.get?_push_size _ rfl
    · rw [List.mem_singleton.mp hp]; exact hnew
    · intro C' hh J' I₁ hI i E ρ' σ' τ' s' Q' X' hE Ji _ qs qn
      subst hE
      obtain ⟨m', S', I', D'⟩ := Ji
      have hit : IsRangeIter s'.heap s.heap.objs.size (a + i) ((b - a).toNat - i) 1 := (D'.N (s.heap.objs.size, _) (by simp)).1
      by_cases hlt : i < (b - a).toNat
      · refine wpAny_pyNext_range_item hit (by (first | lia | omega)) fun h' hit' hsb => ?_
        refine qs _ (.int (a + i)) [(s.heap.objs.size, rangeIt (a + i + 1) (((b - a).toNat : Int) - i - 1))] _ ?_ ?_ ((InvD.reJ (E := [(s.heap.objs.size, rangeIt (a + i) ((b - a).toNat - i))]) (E' := [(s.heap.objs.size, rangeIt (a + i + 1) (((b - a).toNat : Int) - i - 1))]) D' (tk := s'.toks + 1) rfl (fun b ob hb e => (hsb.2 b (fun q => hb (by simp [q]))).trans e) (fun p hp => ?_)).more (.int _ _)).inv
        · unfold nums
          rw [List.getElem?_map, List.getElem?_range hlt]; rfl
        · show _ = [(s.heap.objs.size, rangeIt (a + ((i + 1 : Nat) : Int)) (((b - a).toNat : Int) - ((i + 1 : Nat) : Int)))]
          have e1 : a + (i : Int) + 1 = a + ((i + 1 : Nat) : Int) := by (first | lia | omega)
          have e2 : ((b - a).toNat : Int) - (i : Int) - 1 = ((b - a).toNat : Int) - ((i + 1 : Nat) : Int) := by (first | lia | omega)
          rw [e1, e2]
        · rw [List.mem_singleton.mp hp]; exact hit'
      · refine wpAny_pyNext_range_end hh hit (by (first | lia | omega)) fun h' he => ?_
        refine qn _ ?_ (InvD.cutJ (E := [(s.heap.objs.size, rangeIt (a + i) ((b - a).toNat - i))]) D' (tk := s'.toks) fun b ob hb e => he b ob (fun q => hb (by simp [q])) e).inv
        unfold nums
        rw [List.getElem?_eq_none_iff]; simp; (first | lia | omega)
    · refine Own.plain fun i E hE => ?_
      subst hE
      exact ⟨_, "range_iterator", _, .head _, rfl, rfl, by decide⟩
    · intro C' J' I₁ i E ρ' σ' τ' s' Q' X' hE Ji q
      subst hE
      obtain ⟨m', S', I', D'⟩ := Ji
      have hit : IsRangeIter s'.heap s.heap.objs.size (a + i) ((b - a).toNat - i) 1 := (D'.N (s.heap.objs.size, _) (by simp)).1
      have hT : s'.TypeIs (.ref s.heap.objs.size) "range_iterator" := ⟨_, hit, rfl⟩
      refine wpAny_pyIter_slot hT F.slot_range_iterator_iter (wpAny_call_entry F.slot_range_iterator_iter hT (entryFor_alias (id' := "dict_keyiterator.__iter__") (by kernel_rfl) rfl (by decide +kernel) (by kernel_rfl) : entryFor table "range_iterator.__iter__" = some Builtin.«dict_keyiterator.__iter__») ?_ (F.args_range_iterator_iter_1 _))
      show wpAny _ _ (ret (.ref s.heap.objs.size)) _ _ s'
      exact wpAny_pure ⟨_, rfl, "range_iterator", _, hT, F.slot_range_iterator_next.lookup, q⟩
theorem InvD.fresh (D : InvD C ρ σ τ s m S I) {b : Addr} (h : s.heap.objs.size ≤ b) : b ≠ C.env.locals ∧ C.h₀.get? b = none ∧ ∀ p ∈ S ++ (C.J ++ I), p.1 ≠ b := by
  refine ⟨fun q => ?_, ?_, fun p hp q => ?_⟩
  · obtain ⟨o, _, _, ho, _⟩ := D.F.ns
    have := Heap.lt_size ho
    rw [← q] at this; exact absurd this (Nat.not_lt.mpr h)
  · cases q : C.h₀.get? b with
    | none => rfl
    | some o => exact absurd (Heap.lt_size (D.F.keep _ _ q)) (Nat.not_lt.mpr h)
  · have := Heap.lt_size (D.N p hp).1
    rw [q] at this; exact absurd this (Nat.not_lt.mpr h)
theorem InvD.newS (D : InvD C ρ σ τ s m S I) {h' : Heap} {tk : Nat} {b : Addr} {o : Obj} {ao : AObj} (hb : s.heap.objs.size ≤ b) (hk : ∀ c oc, s.heap.get? c = some oc → h'.get? c = some oc) (ho : h'.get? b = some o) (hr : ORep C.prog C.w I b ao [(b, o)]) :
    InvD C ρ ((b, ao) :: σ) τ { s with heap := h', toks := tk } m ([(b, o)] ++ S) I := by
  have D' := D.ext (tk := tk) hk
  have f := D.fresh hb
  refine ⟨D'.F, fun p hp => ?_, ?_, .cons hr D'.sep, D'.sub, D'.loc, D'.tmp, D'.g, D'.d, D'.os⟩
  · have hp' : p ∈ (b, o) :: (S ++ (C.J ++ I)) := by simpa using hp
    rcases List.mem_cons.mp hp' with rfl | hp
    · exact ⟨ho, f.1, f.2.1⟩
    · exact D'.N p hp
  · show (((b, o) :: (S ++ (C.J ++ I))).map (·.1)).Nodup
    refine List.nodup_cons.mpr ⟨fun q => ?_, D.nd⟩
    obtain ⟨p, hp, e⟩ := List.mem_map.mp q
    exact f.2.2 p hp e
theorem AC.enumL (hm : (a, AObj.list l) ∈ σ) (k : ∀ e it oi, oi.cls = .type "list_iterator" → oi.data = .fields #[.ref a, .int 0 0] → K (.ref e) ((e, .raw (enumObj it 0 .none)) :: (it, .raw oi) :: σ)) : AC C ρ σ (.val (.type "enumerate")) [.ref a] K := by
  intro τ s vf vs Q E J hf ha q
  cases J.getVal hf
  obtain ⟨v1, rfl, h1⟩ := ha.one
  cases J.getVal h1
  refine Inv.out J fun m S I D => ?_
  obtain ⟨us, hl, hv⟩ := D.isList hm
  refine call_enumerate_list hl fun h' he hi hsz hk => ?_
  obtain ⟨oi, ho, hc, hd⟩ := hi
  have D1 := D.newS (tk := s.toks) (b := s.heap.objs.size) (o := oi) (ao := .raw oi) (Nat.le_refl _) hk ho .raw
  have D2 : InvD C ρ ((s.heap.objs.size + 1, .raw (enumObj s.heap.objs.size 0 .none)) :: (s.heap.objs.size, .raw oi) :: σ) τ { s with heap := h', toks := s.toks } m ([(s.heap.objs.size + 1, enumObj s.heap.objs.size 0 .none)] ++ ([(s.heap.objs.size, oi)] ++ S)) I := by
    have f := D.fresh (b := s.heap.objs.size + 1) (Nat.le_succ _)
    refine ⟨D1.F, fun p hp => ?_, ?_, .cons (.raw (o := enumObj s.heap.objs.size 0 .none)) D1.sep, D1.sub, D1.loc, D1.tmp, D1.g, D1.d, D1.os⟩
    · have hp' : p ∈ (s.heap.objs.size + 1, enumObj s.heap.objs.size 0 .none) :: (([(s.heap.objs.size, oi)] ++ S) ++ (C.J ++ I)) := by simpa using hp
      rcases List.mem_cons.mp hp' with rfl | hp
      · exact ⟨he, f.1, f.2.1⟩
      · exact D1.N p hp
    · show (((s.heap.objs.size + 1, enumObj s.heap.objs.size 0 .none) :: (([(s.heap.objs.size, oi)] ++ S) ++ (C.J ++ I))).map (·.1)).Nodup
      refine List.nodup_cons.mpr ⟨fun q => ?_, D1.nd⟩
      obtain ⟨p, hp, e⟩ := List.mem_map.mp q
      have hp' : p ∈ (s.heap.objs.size, oi) :: (S ++ (C.J ++ I)) := by simpa using hp
      rcases List.mem_cons.mp hp' with rfl | hp
      · exact absurd e (Nat.ne_of_lt (Nat.lt_succ_self _))
      · exact f.2.2 p hp e
  exact q _ _ _ _ (k _ _ oi hc hd) (D2.more (.val _)).inv
noncomputable def IsTupT (t : Expr) : Prop := ∃ elts kk pos, t = .Tuple elts kk pos
theorem IterG.enum {e it : Addr} {oi : Obj} (hc : oi.cls = .type "list_iterator") (hd : oi.data = .fields #[.ref a, .int 0 0]) (hm : (a, AObj.list l) ∈ σ) :
    IterG C ((e, .raw (enumObj it 0 .none)) :: (it, .raw oi) :: σ) (.ref e) (numbered l) (fun σ => (a, AObj.list l) ∈ σ) IsTupT σ := by
  intro ρ τ s v' Q X J hv k
  cases J.getVal hv
  refine Inv.out J fun m S I D => ?_
  have hs := D.sep
  cases hs using Sep.casesCons with
  | cons r1 hs =>
    cases r1 using ORep.casesRaw
    cases hs using Sep.casesCons with
    | cons r2 hs =>
      cases r2 using ORep.casesRaw
      rename_i S₀
      have hlen : ∀ p ∈ [(e, enumObj it 0 .none), (it, oi)] ++ S₀ ++ (C.J ++ I), p ∈ (([(e, enumObj it 0 .none)] ++ ([(it, oi)] ++ S₀)) ++ (C.J ++ I)) := fun p hp => by simpa using hp
      have he : IsEnum s.heap e it 0 .none := (D.N (e, _) (.head _)).1
      refine wpAny_pyIter_enum he ?_
      have hp : (([(e, enumObj it 0 .none)] ++ ([(it, oi)] ++ S₀)) ++ (C.J ++ I)).Perm (S₀ ++ (([(e, enumObj it 0 .none), (it, oi)] ++ C.J) ++ I)) := by
        have h1 : ([(e, enumObj it 0 .none)] ++ ([(it, oi)] ++ S₀)) ++ (C.J ++ I) = [(e, enumObj it 0 .none), (it, oi)] ++ (S₀ ++ (C.J ++ I)) := by simp
        rw [h1, List.append_assoc]
        exact List.perm_append_comm_assoc _ _ _
      have D2 : InvD (C.jj ([(e, enumObj it 0 .none), (it, oi)] ++ C.J) I) ρ σ τ s m S₀ I :=
        ⟨D.F, News.sub D.N fun p h => hp.mem_iff.mpr h, (hp.map _).nodup_iff.mp D.nd, hs, fun _ h => h, D.loc, D.tmp, D.g, D.d, D.os⟩
      have hne : e ≠ it := by
        have nd := D.nd
        simp at nd
        exact fun q => nd.1.1 q
      refine k (.ref e) (fun i E => ∃ oi old, E = [(e, enumObj it i old), (it, oi)] ∧ oi.cls = .type "list_iterator" ∧ oi.data = .fields #[.ref a, .int i 0])
        (fun i v E => ∃ oi x T, v = .ref T ∧ E = [(e, enumOut it i x T), (it, oi)] ∧ oi.cls = .type "list_iterator" ∧ oi.data = .fields #[.ref a, .int i 0]) _ I _ D.sub ⟨oi, .none, rfl, hc, hd⟩ D2.inv ?_ ?_ ?_
      · intro C' hh J' I₁ hI i E ρ' σ' τ' s' Q' X' hE Ji hm' qs qn
        obtain ⟨oi', old, rfl, hc', hd'⟩ := hE
        obtain ⟨m', S', I', D'⟩ := Ji
        have hen : IsEnum s'.heap e it i old := (D'.N (e, _) (mem3.mpr (.inr (.inl (.head _))))).1
        have hit : s'.heap.IsListIter it a i := ⟨oi', (D'.N (it, oi') (mem3.mpr (.inr (.inl (.tail _ (.head _)))))).1, hc', hd'⟩
        obtain ⟨us, hl, hvs⟩ := D'.isList hm'
        cases hx : us[i]? with
        | some x =>
          obtain ⟨p, hp', hr⟩ := hvs.getV hx
          refine wpAny_pyNext_enum_item hen hit hl (by simpa using hx) hne fun h' he' hi' ht hsz hk => ?_
          obtain ⟨oi₂, ho₂, hc₂, hd₂⟩ := hi'
          have D1 := InvD.reJ (E := [(e, enumObj it i old), (it, oi')]) (E' := [(e, enumOut it ((i : Int) + 1) x s'.heap.objs.size), (it, oi₂)]) (h' := h') (tk := s'.toks + 1) D' rfl (fun b ob hb e => hk b ob (fun q => hb (by simp [q])) (fun q => hb (by simp [q])) e) (fun p hp => by
            rcases List.mem_cons.mp hp with rfl | hp
            · exact he'
            · rw [List.mem_singleton.mp hp]; exact ho₂)
          have f := D'.fresh (b := s'.heap.objs.size) (Nat.le_refl _)
          have hnotE : ∀ p ∈ S' ++ (((C'.jj ([(e, enumOut it ((i : Int) + 1) x s'.heap.objs.size), (it, oi₂)] ++ J') I₁).J) ++ I'), p.1 ≠ s'.heap.objs.size := by
            intro p hp q
            have : p.1 ∈ (S' ++ (((C'.jj ([(e, enumObj it i old), (it, oi')] ++ J') I₁).J) ++ I')).map (·.1) := by
              have h1 := List.mem_map_of_mem (f := Prod.fst) hp
              simpa using h1
            obtain ⟨p', hp', e'⟩ := List.mem_map.mp this
            exact f.2.2 p' hp' (e'.trans q)
          have D3 : InvD (C'.jj ([(e, enumOut it ((i : Int) + 1) x s'.heap.objs.size), (it, oi₂)] ++ J') I₁) ρ' σ' τ' { s' with heap := h', toks := s'.toks + 1 } m' S' ((s'.heap.objs.size, tupObj [.int i s'.toks, x] 0) :: I') := by
            have hm : ∀ p ∈ I', p ∈ (s'.heap.objs.size, tupObj [.int i s'.toks, x] 0) :: I' := fun p h => .tail _ h
            have hp : (S' ++ (((C'.jj ([(e, enumOut it ((i : Int) + 1) x s'.heap.objs.size), (it, oi₂)] ++ J') I₁).J) ++ ((s'.heap.objs.size, tupObj [.int i s'.toks, x] 0) :: I'))).Perm
                ((s'.heap.objs.size, tupObj [.int i s'.toks, x] 0) :: (S' ++ (((C'.jj ([(e, enumOut it ((i : Int) + 1) x s'.heap.objs.size), (it, oi₂)] ++ J') I₁).J) ++ I'))) :=
              List.Perm.trans (List.Perm.append_left _ List.perm_middle) List.perm_middle
            refine ⟨D1.F, fun p hp' => ?_, ?_, D1.sep.mono hm, fun p h => hm p (D1.sub p h), fun x p e => ?_, fun q hq => (D1.tmp q hq).mono hm, D1.g, D1.d, D1.os⟩
            · rcases List.mem_cons.mp (hp.mem_iff.mp hp') with rfl | hp
              · exact ⟨ht, f.1, f.2.1⟩
              · exact D1.N p hp
            · refine (hp.map (·.1)).nodup_iff.mpr (List.nodup_cons.mpr ⟨fun q => ?_, D1.nd⟩)
              obtain ⟨p, hp, e⟩ := List.mem_map.mp q
              exact hnotE p hp e
            · obtain ⟨v, hv, r⟩ := D1.loc x p e; exact ⟨v, hv, r.mono hm⟩
          refine qs (.ref s'.heap.objs.size) (.tup [.int i, p]) _ _ ?_ ⟨oi₂, x, s'.heap.objs.size, rfl, rfl, hc₂, hd₂⟩ (D3.more (.tup (.head _) (.cons (.int _ _) (.cons (hr.mono fun _ h => .tail _ h) .nil)))).inv
          unfold numbered
          rw [List.getElem?_map, List.getElem?_zipIdx, hp']; simp
        | none =>
          refine wpAny_pyNext_enum_end hh hen hit hl (by simpa using hx) fun h' hk => ?_
          refine qn _ ?_ (InvD.cutJ (E := [(e, enumObj it i old), (it, oi')]) D' (tk := s'.toks) fun b ob hb e => hk b ob (fun q => hb (by simp [q])) e).inv
          rw [List.getElem?_eq_none_iff] at hx ⊢
          unfold numbered
          simp; rw [← hvs.length]; exact hx
      · intro C' J' I₁ i E ρ' σ' τ' s' t v Q' X' ht hE Ji q
        obtain ⟨oi', x, T, rfl, rfl, hc', hd'⟩ := hE
        obtain ⟨elts, kk, pos, rfl⟩ := ht
        obtain ⟨m', S', I', D'⟩ := Ji
        have hen : IsEnumOut s'.heap e it i x T := (D'.N (e, _) (mem3.mpr (.inr (.inl (.head _))))).1
        refine wpAny_letOwnedTupleGo_enum hen fun h' he' hsb => ?_
        refine q [(e, enumObj it i x), (it, oi')] _ ⟨oi', x, rfl, hc', hd'⟩ (InvD.reJ (E := [(e, enumOut it i x T), (it, oi')]) (E' := [(e, enumObj it i x), (it, oi')]) (tk := s'.toks) D' rfl (fun b ob hb e => (hsb.2 b (fun q => hb (by simp [q]))).trans e) (fun p hp => ?_)).inv
        rcases List.mem_cons.mp hp with rfl | hp
        · exact he'
        · rw [List.mem_singleton.mp hp]
          exact (hsb.2 it (Ne.symm hne)).trans (D'.N (it, oi') (mem3.mpr (.inr (.inl (.tail _ (.head _)))))).1
      · intro C' J' I₁ i E ρ' σ' τ' s' Q' X' hE Ji q
        obtain ⟨oi', old, rfl, hc', hd'⟩ := hE
        obtain ⟨m', S', I', D'⟩ := Ji
        exact wpAny_pyIter_enum (it := it) (i := i) (old := old) (D'.N (e, _) (mem3.mpr (.inr (.inl (.head _))))).1 q
end
end
section
section
variable {prog : Program} {w : World} {A : Around} {E : Value → Shared → Prop} {s : Shared}
theorem adjust_to (k n : Nat) : Builtin.Slice.sliceAdjust none (some (k : Int)) 1 (n : Int) = (0, ((min k n : Nat) : Int)) := by
  unfold Builtin.Slice.sliceAdjust
  have h1 : ¬ ((1 : Int) < 0) := by (first | lia | omega)
  have h2 : ¬ ((k : Int) < 0) := by (first | lia | omega)
  simp only [h1, h2, if_false]
  congr 1
  (first | lia | omega)
theorem places_to (k : Nat) : Builtin.Slice.slicePlaces 0 (k : Int) 1 = k := by
  unfold Builtin.Slice.slicePlaces
  have h1 : (1 : Int) > 0 := by (first | lia | omega)
  simp only [h1, if_true, Int.ediv_one]
  split <;> (first | lia | omega)
theorem sliceApplied_to {sl : Addr} {k n : Nat} {u : Tok} {Q : Int × Int × Nat → Shared → Prop} (hs : s.heap.IsSliceOf sl .none (.int k u) .none) (h : Q (0, 1, min k n) s) :
    wpAny (model prog w) A (Builtin.Slice.sliceApplied (.ref sl) (pure (n : Int))) Q E s := by
  obtain ⟨os, hos, hcs, hds⟩ := id hs
  unfold Builtin.Slice.sliceApplied Builtin.Slice.sliceFields
  refine wpAny_bind (wpAny_bind (wpAny_field hos hds (x := .none) rfl (wpAny_bind (wpAny_field hos hds (x := .int k u) rfl (wpAny_bind (wpAny_field hos hds (x := .none) rfl (wpAny_pure ?_)))))))
  refine wpAny_bind (slicePart_none ?_)
  show wpAny _ _ (if ((1 : Int) == 0) = true then _ else _) _ _ s
  rw [if_neg (by decide)]
  refine wpAny_bind (slicePart_none (wpAny_bind (slicePart_int (wpAny_bind (wpAny_pure ?_)))))
  show wpAny _ _ (match Builtin.Slice.sliceAdjust none (some (k : Int)) 1 (n : Int) with | (lo, hi) => pure (lo, (1 : Int), Builtin.Slice.slicePlaces lo hi 1)) _ _ s
  rw [adjust_to k n]
  show wpAny _ _ (pure ((0 : Int), (1 : Int), Builtin.Slice.slicePlaces (0 : Int) ((min k n : Nat) : Int) 1)) _ _ s
  rw [places_to]
  exact wpAny_pure h
theorem pick_to (xs : Array Value) (k : Nat) (hk : k ≤ xs.size) : ((List.range k).filterMap fun (j : Nat) => xs[((0 : Int) + (j : Int) * 1).toNat]?).toArray = (xs.toList.take k).toArray := by
  have e : (fun (j : Nat) => xs[((0 : Int) + (j : Int) * 1).toNat]?) = fun j => xs[0 + j]? := by
    funext j
    have : ((0 : Int) + (j : Int) * 1).toNat = 0 + j := by (first | lia | omega)
    rw [this]
  rw [e]
  have := pick_run xs 0 k
  rw [List.filterMap_map] at this
  have e2 : ((fun x => xs[x]?) ∘ fun x => 0 + x) = fun k => xs[0 + k]? := rfl
  rw [e2] at this
  rw [this]; simp
theorem getItem_tuple_to {t sl : Addr} {items : Array Value} {k : Nat} {u : Tok} {Q : Value → Shared → Prop} (ht : IsTup s.heap t items) (hs : s.heap.IsSliceOf sl .none (.int k u) .none) (ha : k < items.size)
    (h : Q (.ref s.heap.objs.size) { s with heap := s.heap.push { cls := .type "tuple", data := .seq (items.toList.take k).toArray } })
    (hsz : items.size ≤ sizeLine) : wpAny (model prog w) A (getItem (.ref t) (.ref sl)) Q E s := by
  have hdrop : sizeOk (.seq (items.toList.take k).toArray) := by
    show (items.toList.take k).toArray.size ≤ sizeLine
    rw [List.size_toArray, List.length_take, Array.length_toList]
    (first | lia | omega)
  obtain ⟨os, hos, hcs, hds⟩ := id hs
  have hTs : s.TypeIs (.ref sl) "slice" := ⟨os, hos, hcs⟩
  unfold getItem
  try with_reducible refine wpAny_holding ?_
  first | refine wpAny_bind (wpAny_pure ?_) | skip
  refine wpAny_bind (wpAny_sequenceKey ht.typeIs (by decide) ?_)
  refine wpAny_bind (wpAny_callSpecial?_slot (name := Str.ofString "__getitem__") ht.typeIs slot_tuple_getitem
    (wpAny_call_entry slot_tuple_getitem ht.typeIs entry_tuple_getitem ?_ (args_tuple_getitem _ _)))
  show wpAny _ _ (Builtin.Tuple.tupleItemsOf (.ref t) >>= _) _ _ s
  refine wpAny_bind (tupleItemsOf_ ht ?_)
  refine wpAny_bind (wpAny_typeOf hTs ?_)
  rw [if_pos (by decide)]
  refine wpAny_bind (sliceApplied_to hs ?_)
  have hm : min k items.size = k := by (first | lia | omega)
  rw [hm]
  have hno : ¬ (((0 : Int) == 0 && (1 : Int) == 1 && k == items.size) = true) := by
    have : (k == items.size) = false := by rw [beq_eq_false_iff_ne]; (first | lia | omega)
    rw [this]; simp
  show wpAny _ _ (if ((0 : Int) == 0 && (1 : Int) == 1 && k == items.size) = true then _ else _) _ _ s
  rw [if_neg hno, pick_to items k (by (first | lia | omega))]
  first
    | exact wpAny_bind (m := Builtin.Tuple.tupleExact _) (wpAny_newObj_type (wpAny_pure ⟨_, rfl, wpAny_pure h⟩) hdrop)
    | exact wpAny_bind (m := Builtin.Tuple.tupleExact _) (wpAny_newObj_type (wpAny_bind (wpAny_pure (wpAny_pure ⟨_, rfl, wpAny_pure h⟩))) hdrop)
    | exact wpAny_bind (wpAny_bind (m := Builtin.Tuple.tupleExact _) (wpAny_newObj_type (wpAny_pure (wpAny_pure ⟨_, rfl, wpAny_pure h⟩)) hdrop))
    | exact wpAny_bind (wpAny_bind (m := Builtin.Tuple.tupleExact _) (wpAny_newObj_type (wpAny_pure ⟨_, rfl, wpAny_pure h⟩) hdrop))
theorem wpAny_letGo {keep : List Value} {Q : Unit → Shared → Prop} (h : Q () s) : ∀ l : List Value, wpAny (model prog w) A (letGo l keep) Q E s
  | [] => wpAny_pure h
  | _ :: rest => by
    unfold letGo
    exact wpAny_bind (wpAny_holding (wpAny_point (wpAny_letGo h rest)))
theorem sliceBounds_all (n : Nat) : sliceBounds .none .none .none n = (0, (n : Int), 1) := by
  unfold sliceBounds
  simp
theorem setItem_all {l sl b : Addr} {items new : Array Value} {n : Nat} {Q : Unit → Shared → Prop} (ho : s.heap.get? l = some (listOf items n)) (hs : s.heap.IsSliceOf sl .none .none .none) (hb : s.heap.IsList b new)
    (hsz : items.size ≤ 1000) (hsz2 : new.size ≤ 1000) (h : Q () { s with heap := s.heap.update l (Obj.mapSeq fun xs => xs.extract 0 0 ++ new ++ xs.extract items.size xs.size) }) :
    wpAny (model prog w) A (setItem (.ref l) (.ref sl) (.ref b)) Q E s := by
  have hl : s.heap.IsList l items := PySem.IsL.isList (n := n) ho
  obtain ⟨os, hos, hcs, hds⟩ := id hs
  have hTs : s.TypeIs (.ref sl) "slice" := ⟨os, hos, hcs⟩
  unfold setItem
  try with_reducible refine wpAny_holding ?_
  first | refine wpAny_bind (wpAny_pure ?_) | skip
  refine wpAny_bind (wpAny_sequenceKey hl.typeIs (by decide) ?_)
  refine wpAny_bind (wpAny_callSpecial?_slot (name := Str.ofString "__setitem__") hl.typeIs slot_list_setitem
    (wpAny_call_entry slot_list_setitem hl.typeIs entry_list_setitem ?_ (args_list_setitem _ _ _)))
  show wpAny _ _ (Builtin.List.listSubscript? (.ref sl) >>= _) _ _ s
  refine wpAny_bind ?_
  unfold Builtin.List.listSubscript?
  refine wpAny_bind (wpAny_specialOf hTs slice_no_index ?_)
  rw [Option.isNone_none, if_pos rfl]
  refine wpAny_pure ?_
  show wpAny _ _ (typeOf (.ref sl) >>= _) _ _ s
  refine wpAny_bind (wpAny_typeOf hTs ?_)
  rw [if_neg (by decide)]
  rw [listSliceParts_eq]
  refine wpAny_bind (wpAny_bind (wpAny_field hos hds (x := .none) rfl (wpAny_bind (wpAny_listPart .none ?_))))
  rw [if_neg (by decide)]
  refine wpAny_bind (wpAny_field hos hds (x := .none) rfl (wpAny_bind (wpAny_listPart .none ?_)))
  refine wpAny_bind (wpAny_field hos hds (x := .none) rfl (wpAny_bind (wpAny_listPart .none (wpAny_pure ?_))))
  have hitems : ∀ (c : Addr) (xs : Array Value) (Q : Array Value → Shared → Prop) (E : Value → Shared → Prop), s.heap.IsList c xs → Q xs s → wpAny (model prog w) A.in1 (Builtin.List.listItems (.ref c)) Q E s := by
    intro c xs Q E hc q
    obtain ⟨o, ho, _, k, hd⟩ := hc
    unfold Builtin.List.listItems
    exact wpAny_bind (wpAny_seqItems ho hd (wpAny_pure q))
  have hidx : sliceIndices (rawPart .none) (rawPart .none) (rawPart .none) items.size = pure (0, (items.size : Int), 1) := by
    rw [sliceIndices_raw _ _ _ _ (by simp), sliceBounds_all]
  have hlong : ¬ (Builtin.List.listTooLong (items.size + new.size) = true) := by
    unfold Builtin.List.listTooLong
    have : (sizeLine : Nat) = 4194304 ∨ 2000 ≤ sizeLine := .inr (by decide)
    simp only [decide_eq_true_eq]
    have h2 : 2000 ≤ sizeLine := by decide
    (first | lia | omega)
  have e1 : (max (0 : Int) (items.size : Int)).toNat = items.size := by (first | lia | omega)
  have hz2 : ((fun xs : Array Value => xs.extract 0 ((0 : Int), (items.size : Int), (1 : Int)).1.toNat ++ new ++ xs.extract (max ((0 : Int), (items.size : Int), (1 : Int)).1 ((0 : Int), (items.size : Int), (1 : Int)).2.1).toNat xs.size) items).size ≤ sizeLine + 1 := by
    have h2 : 2000 ≤ sizeLine := by decide
    simp only [Array.size_append, Array.size_extract]
    have e0 : (0 : Int).toNat = 0 := rfl
    rw [e0, e1]; (first | lia | omega)
  have hupd : s.heap.update l (Obj.mapSeq fun xs : Array Value => xs.extract 0 ((0 : Int), (items.size : Int), (1 : Int)).1.toNat ++ new ++ xs.extract (max ((0 : Int), (items.size : Int), (1 : Int)).1 ((0 : Int), (items.size : Int), (1 : Int)).2.1).toNat xs.size) = s.heap.update l (Obj.mapSeq fun xs => xs.extract 0 0 ++ new ++ xs.extract items.size xs.size) := by
    simp only [e1]; rfl
  have hall : ∀ (Q : Array Value → Shared → Prop) (E : Value → Shared → Prop), Q new s → wpAny (model prog w) A.in1 (Builtin.List.listAllItems (.ref b) "must assign iterable to extended slice") Q E s := by
    intro Q E q
    unfold Builtin.List.listAllItems
    refine wpAny_bind (wpAny_typeOf hb.typeIs ?_)
    rw [if_pos (by decide)]
    exact hitems b new _ _ hb q
  refine wpAny_ite_split (fun _ => ?_) (fun _ => ?_)
  · refine wpAny_bind (hitems b new _ _ hb (wpAny_bind (hitems l items _ _ hl (wpAny_bind (wpAny_of_eq hidx ?_)))))
    refine wpAny_ite_true rfl (wpAny_bind (wpAny_rule (wpAny_ite_false (decide_eq_false hlong) ?_)))
    refine wpAny_bind (wpAny_updateSeq ho rfl (hz := by exact sizeLine_le hsz) (_hz' := hz2) ?_)
    refine wpAny_bind (wpAny_letGo ?_ _)
    exact wpAny_pure ⟨_, rfl, wpAny_pure (hupd ▸ h)⟩
  · refine wpAny_bind (hall _ _ (wpAny_bind (hitems l items _ _ hl (wpAny_bind (wpAny_of_eq hidx ?_)))))
    refine wpAny_ite_true rfl (wpAny_bind (wpAny_rule (wpAny_ite_false (decide_eq_false hlong) ?_)))
    refine wpAny_bind (wpAny_updateSeq ho rfl (hz := by exact sizeLine_le hsz) (_hz' := hz2) ?_)
    refine wpAny_bind (wpAny_letGo ?_ _)
    exact wpAny_pure ⟨_, rfl, wpAny_pure (hupd ▸ h)⟩
end
section
variable {C : Ctx} {n : Nat} {ρ : Locs} {σ σ' : Store} {τ : Tmp} {s : Shared} {m : Str → Option Value} {S I : Led} {a : Addr} {l l' : List PV} {K : PV → Store → Prop} {p : PV}
theorem AP.tupTo {k : Nat} {t : Tok} (h1 : k < l.length) (hz : l.length ≤ 1000) (kk : K (.tup (l.take k)) σ) : AP C ρ σ (.tup l) (.obj (sliceObj .none (.int (k : Int) t))) K := by
  intro τ s vo vi Q E J hvo hvi q
  refine Inv.out J fun m S I D => ?_
  have ri := D.tmp _ hvi
  obtain ⟨b, us, rfl, ht, hv⟩ := D.tup (D.tmp _ hvo)
  cases ri with
  | @obj sa _ hm =>
    have hsl : s.heap.IsSliceOf sa .none (.int k t) .none := ⟨_, (D.N _ (mem3.mpr (.inr (.inr hm)))).1, rfl, rfl⟩
    refine getItem_tuple_to ht hsl (by rw [List.size_toArray, hv.length]; exact h1) ?_ (by rw [List.size_toArray, hv.length]; exact sizeLine_le hz)
    exact q _ _ σ _ kk (((D.pushI (tupObj (us.take k) 0) (tk := s.toks)).more (.tup (.head _) ((hv.take k).mono fun _ h => .tail _ h))).inv)
theorem AW.listAll {K : Store → Prop} (U : UpdS a (.list l) (.list l') σ σ') (hz : l.length ≤ 1000) (hz' : l'.length ≤ 1000) (kk : K σ') : AW C ρ σ (.ref a) (.obj (sliceObj .none .none)) (.lst l') K := by
  intro τ s vo vi v Q E J ho hi hv q
  cases J.getVal ho
  refine Inv.out J fun m S I D => ?_
  have ri := D.tmp _ hi
  obtain ⟨b, ws, rfl, hb, hw⟩ := D.lst (D.tmp _ hv)
  obtain ⟨us, n, hg, hr, put⟩ := D.lupd U
  cases ri with
  | @obj sa _ hm =>
    have hsl : s.heap.IsSliceOf sa .none .none .none := ⟨_, (D.N _ (mem3.mpr (.inr (.inr hm)))).1, rfl, rfl⟩
    refine setItem_all hg hsl hb (by rw [List.size_toArray, hr.length]; exact hz) (by rw [List.size_toArray, hw.length]; exact hz') ?_
    have h4 := PySem.IsL.update hg (fun xs => xs.extract 0 0 ++ ws.toArray ++ xs.extract us.toArray.size xs.size)
    have h5 : us.toArray.extract 0 0 ++ ws.toArray ++ us.toArray.extract us.toArray.size us.toArray.size = ws.toArray := by
      apply Array.toList_inj.mp; simp
    rw [h5] at h4
    exact q σ' _ kk (put ws _ _ s.toks hw (Heap.SameBut.update ..) h4).inv
theorem AM.listInsert (hm : (a, AObj.list l) ∈ σ) : AM C σ (.ref a) "insert" (.val (.builtin "list.insert")) := AM.list PySem.F.slot_list_insert PySem.F.type_list_insert hm
theorem AM.listPop (hm : (a, AObj.list l) ∈ σ) : AM C σ (.ref a) "pop" (.val (.builtin "list.pop")) := AM.list PySem.F.slot_list_pop PySem.F.type_list_pop hm
theorem insert_run {prog : Program} {w : World} {A : Around} {E : Value → Shared → Prop} {s : Shared} {D : Addr} {its : Array Value} {n : Nat} {x : Int} {u : Tok} {y : Value} {Q : Value → Shared → Prop} (ho : s.heap.get? D = some (listOf its n)) (hf : Builtin.List.listFitsIndex x = true) (h0 : 0 ≤ x) (h1 : x ≤ its.size) (hz : its.size ≤ sizeLine)
    (h : ∀ h', Heap.SameBut D s.heap h' → h'.get? D = some (listOf (its.toList.take x.toNat ++ y :: its.toList.drop x.toNat).toArray (n + 1)) → Q .none { s with heap := h' }) :
    wpAny (model prog w) A (call (.builtin "list.insert") [.ref D, .int x u, y]) Q E s := by
  refine call_meets PySem.F.slot_list_insert ⟨_, ho, rfl⟩ PySem.F.entry_list_insert (PySem.F.args_list_insert_3 _ _ _) (PySem.AutoSeq1.list_insert_list_int_val_1 D its n x u y (by simp [hf]) hz) ⟨ho, h _ (Heap.SameBut.update ..) ?_⟩
  have h4 := PySem.IsL.update ho (fun xs => have k := if x < 0 then (x + ((xs.size : Nat) : Int)).toNat else min x.toNat xs.size; (xs.extract 0 k).push y ++ xs.extract k)
  have hn : ¬ (x < 0) := by (first | lia | omega)
  have hmin : min x.toNat its.size = x.toNat := by (first | lia | omega)
  have h5 : (have k := if x < 0 then (x + ((its.size : Nat) : Int)).toNat else min x.toNat its.size; (its.extract 0 k).push y ++ its.extract k) = (its.toList.take x.toNat ++ y :: its.toList.drop x.toNat).toArray := by
    simp only [hn, if_false]
    rw [hmin]
    have := kl_ins_eq its.toList x.toNat y
    rw [Array.toArray_toList] at this
    exact this
  rw [h4, h5]
  have hne : ¬ (((its.toList.take x.toNat ++ y :: its.toList.drop x.toNat).toArray.size == its.size) = true) := by
    intro h
    have h6 := eq_of_beq h
    rw [List.size_toArray, List.length_append, List.length_cons, List.length_take, List.length_drop, Array.length_toList] at h6
    (first | lia | omega)
  rw [if_neg hne]
theorem AC.insert {k : Nat} (U : UpdS a (.list l) (.list (l.take k ++ p :: l.drop k)) σ σ') (hk : k ≤ l.length) (hz : l.length ≤ 1000) (kk : K .none σ') : AC C ρ σ (.val (.builtin "list.insert")) [.ref a, .int (k : Int), p] K := by
  intro τ s vf vs Q E J hf ha q
  cases J.getVal hf
  obtain ⟨v1, v2, v3, rfl, h1, h2, h3⟩ := ha.three
  cases J.getVal h1
  obtain ⟨t, rfl⟩ := J.getInt h2
  refine Inv.out J fun m S I D => ?_
  have hp := D.tmp _ h3
  obtain ⟨us, n, ho, hv, put⟩ := D.lupd U
  have hlen := hv.length
  refine insert_run ho (fits_index (by (first | lia | omega)) (by (first | lia | omega))) (by (first | lia | omega)) (by rw [List.size_toArray]; (first | lia | omega)) (by rw [List.size_toArray, hlen]; exact sizeLine_le hz) fun h' hsb h4 => ?_
  exact q _ _ σ' _ kk ((put (us.take k ++ v3 :: us.drop k) (n + 1) _ s.toks ((hv.take k).append (.cons hp (hv.drop k))) hsb h4).more (.val _)).inv
theorem AG.list {ts : List Expr} {pos : Pos} {kk : Nat} {K : Locs → Store → Prop} (O : C.Ok n) (hm : (a, AObj.list l) ∈ σ) (hl : l.length = ts.length) (he : assignEach ts C.env = ts.map fun t => (false, PySem.assign t C.env)) (h : AGs C ρ σ ts l K) : AG C ρ σ (.Tuple ts kk pos) (.ref a) K := by
  intro τ s v Q X J hv q
  cases J.getVal hv
  refine Inv.out J fun m S I D => ?_
  obtain ⟨us, hli, hr⟩ := D.isList hm
  rw [assign_Tuple]
  refine wpAny_bind (wpAny_standAt ?_)
  unfold unpack
  have h1 : (assignEach ts C.env).findIdx? (·.1) = Option.none := by rw [he]; simp
  have h2 : (assignEach ts C.env).length = us.toArray.size := by rw [he, List.length_map, List.size_toArray, hr.length, hl]
  rw [h1, h2]
  refine wpAny_bind (wpAny_holding (kun_itemsOf O.hh hli fun h' hx => ?_))
  rw [he, List.map_map]
  have hk : ∀ b o, s.heap.get? b = some o → h'.get? b = some o := fun b o e => hx b o (Nat.ne_of_lt (Heap.lt_size e)) e
  obtain ⟨τ', D', al, sub⟩ := (D.ext (tk := s.toks) hk).mores hr
  exact AGs.go h D'.inv al fun ρ' σ' s' k J' => q ρ' σ' s' k (J'.tmps sub)
end
end
section
set_option tactic.hygienic false
noncomputable abbrev PV.key (ks : List Int) : PV := .tup (ks.map .int)
section
variable {prog : Program} {w : World} {I : Led}
theorem VAll.ints : ∀ {ks : List Int} {vs : List Value}, VAll I vs (ks.map .int) → PySem.ItemsAre (intKind prog w) ks vs
  | [], _, h => by cases h; exact .nil
  | k :: ks, _, h => by
    cases h using VAll.casesCons with
    | cons h1 h2 =>
      cases h1 using VRep.casesInt with
      | int t => exact .cons (by simp [intKind, Value.isInt]) (VAll.ints h2)
theorem VRep.key {v : Value} {ks : List Int} (h : VRep I v (.key ks)) : ∃ a o, v = .ref a ∧ (a, o) ∈ I ∧ TupKeyObj (intKind prog w) ks o := by
  cases h using VRep.casesTup with
  | tup hm r => exact ⟨_, _, rfl, hm, rfl, _, _, rfl, r.ints⟩
theorem KRep.at {xs : List (List Int × Addr × Value)} {kvs : List (List Int × Int)} (h : KRep prog w I xs kvs) (ks : List Int) : match kvs.lookup ks with | some i => ∃ a t, atKey xs ks = some (a, .int i t) | none => atKey xs ks = none := by
  induction h with
  | nil => rfl
  | @cons k a i t xs kvs hm h ih =>
    rw [List.lookup_cons]
    by_cases e : ks = k
    · subst e
      simp [atKey]
    · have h1 : (ks == k) = false := by simpa using e
      have h2 : atKey ((k, a, .int i t) :: xs) ks = atKey xs ks := by
        have : ¬ k = ks := fun q => e q.symm
        simp [atKey, this]
      rw [h1, h2]; exact ih
theorem KRep.keys {xs : List (List Int × Addr × Value)} {kvs : List (List Int × Int)} (h : KRep prog w I xs kvs) : xs.map (·.1) = kvs.map (·.1) := by
  induction h with
  | nil => rfl
  | cons _ _ ih => simp [ih]
theorem KRep.len {xs : List (List Int × Addr × Value)} {kvs : List (List Int × Int)} (h : KRep prog w I xs kvs) : xs.length = kvs.length := by
  have := congrArg List.length h.keys; simpa using this
theorem KRep.getV {xs : List (List Int × Addr × Value)} {kvs : List (List Int × Int)} (h : KRep prog w I xs kvs) : ∀ x ∈ xs, VRep I (.ref x.2.1) (.key x.1) := by
  induction h with
  | nil => intro x hx; cases hx
  | cons hm _ ih =>
    intro x hx
    rcases List.mem_cons.mp hx with rfl | hx
    · exact hm
    · exact ih x hx
theorem KRep.get {xs : List (List Int × Addr × Value)} {kvs : List (List Int × Int)} (h : KRep prog w I xs kvs) : ∀ x ∈ xs, ∃ ok, (x.2.1, ok) ∈ I ∧ TupKeyObj (intKind prog w) x.1 ok := fun x hx => by
  obtain ⟨a, o, e, hm, t⟩ := (h.getV x hx).key (prog := prog) (w := w)
  cases e
  exact ⟨o, hm, t⟩
theorem KRep.snoc {xs : List (List Int × Addr × Value)} {kvs : List (List Int × Int)} {ks : List Int} {a : Addr} {i : Int} {t : Tok} (h : KRep prog w I xs kvs) (hm : VRep I (.ref a) (.key ks)) : KRep prog w I (xs ++ [(ks, a, .int i t)]) (kvs ++ [(ks, i)]) := by
  induction h with
  | nil => exact .cons hm .nil
  | cons h1 _ ih => exact .cons h1 ih
end
section
variable {C : Ctx} {n : Nat} {ρ : Locs} {σ σ' : Store} {τ : Tmp} {s : Shared} {m : Str → Option Value} {S I : Led} {d : Addr} {kvs : List (List Int × Int)} {K : PV → Store → Prop} {ks : List Int} {ep : Nat}
theorem InvD.dict (D : InvD C ρ σ τ s m S I) (hm : (d, AObj.dict kvs ep) ∈ σ) : ∃ o es xs, (d, o) ∈ S ++ (C.J ++ I) ∧ (d == sysModules) = false ∧ o.ExactDict ∧ o.data = .dict es ep ∧ es.toList = xs.map (entryOfKey (tupleKind (intKind C.prog C.w))) ∧ (kvs.map (·.1)).Nodup ∧ KRep C.prog C.w I xs kvs := by
  obtain ⟨own, k, hq⟩ := D.led hm
  cases k using ORep.casesDict with
  | dict h0 h1 h2 h3 h4 h => exact ⟨_, _, _, hq _ (.head _), h0, h1, h2, h3, h4, h⟩
theorem InvD.dictH (D : InvD C ρ σ τ s m S I) (hm : (d, AObj.dict kvs ep) ∈ σ) : ∃ xs, s.heap.DictOfH (tupleKind (intKind C.prog C.w)) d xs ∧ (d == sysModules) = false ∧ KRep C.prog C.w I xs kvs := by
  obtain ⟨o, es, xs, hm', h0, h1, h2, h3, h4, h⟩ := D.dict hm
  refine ⟨xs, ⟨o, es, ep, (D.N _ hm').1, h1, h2, h3, fun x hx => ?_, by rw [h.keys]; exact h4⟩, h0, h⟩
  obtain ⟨ok, hmk, t⟩ := h.get x hx
  exact t.key (D.N _ (mem3.mpr (.inr (.inr hmk)))).1
theorem Ctx.Ok.room (O : C.Ok n) : (tupleKind (intKind C.prog C.w)).room C.A.in1 := tupleKind_room_in1 (by have := O.units; show C.A.units + 1 < 9900; (first | lia | omega))
theorem AO2.inD (O : C.Ok n) (hm : (d, AObj.dict kvs ep) ∈ σ) (k : K (.bool (kvs.lookup ks).isSome) σ) : AO2 C ρ σ (compareOp .In) (.key ks) (.ref d) K := by
  intro τ s va vb Q E J h1 h2 q
  cases J.getVal h2
  refine Inv.out J fun m S I D => ?_
  obtain ⟨a, ok, rfl, hmk, t⟩ := (D.tmp _ h1).key (prog := C.prog) (w := C.w)
  obtain ⟨xs, hd, h0, hk⟩ := D.dictH hm
  refine wpAny_in_heap O.room (t.key (D.N _ (mem3.mpr (.inr (.inr hmk)))).1) h0 hd ?_
  have e : (atKey xs ks).isSome = (kvs.lookup ks).isSome := by
    have := hk.at ks
    cases q : kvs.lookup ks with
    | some i => rw [q] at this; obtain ⟨a, t, e⟩ := this; rw [e]; rfl
    | none => rw [q] at this; rw [this]; rfl
  rw [e]
  exact q _ _ σ _ k (D.tok.more (.val _)).inv
theorem AI.dict {i : Int} (O : C.Ok n) (hm : (d, AObj.dict kvs ep) ∈ σ) (hl : kvs.lookup ks = some i) (k : K (.int i) σ) : AI C ρ σ (.ref d) (.key ks) K := by
  intro τ s value slice vo vi Q E hs J ho hi q
  cases J.getVal ho
  refine Inv.out J fun m S I D => ?_
  obtain ⟨a, ok, rfl, hmk, t⟩ := (D.tmp _ hi).key (prog := C.prog) (w := C.w)
  obtain ⟨xs, hd, h0, hk⟩ := D.dictH hm
  have := hk.at ks
  rw [hl] at this
  obtain ⟨b, u, e⟩ := this
  exact tail_any hd.typeIs slot_dict_getitem.lookup (wpAny_getItem_heap O.room (t.key (D.N _ (mem3.mpr (.inr (.inr hmk)))).1) hd e (q _ _ σ _ k (D.tok.more (.int _ _)).inv)) hs
theorem AM.dict (hm : (d, AObj.dict kvs ep) ∈ σ) : AM C σ (.ref d) "get" (.val (.builtin "dict.get")) := by
  intro ρ τ s v pl Q E J hv q
  cases J.getVal hv
  refine Inv.out J fun m S I D => ?_
  obtain ⟨xs, hd, h0, hk⟩ := D.dictH hm
  exact getMethod_builtin hd.typeIs PySem.F.plainAttrs_dict PySem.F.slot_dict_get PySem.F.type_dict_get (dictOfH_noDict hd) (q _ s.toks (D.more (.val _)).inv)
theorem AC.dget (O : C.Ok n) (hm : (d, AObj.dict kvs ep) ∈ σ) (k : K (match kvs.lookup ks with | some i => .int i | none => .none) σ) : AC C ρ σ (.val (.builtin "dict.get")) [.ref d, .key ks] K := by
  intro τ s vf vs Q E J hf ha q
  cases J.getVal hf
  obtain ⟨v1, v2, rfl, h1, h2⟩ := ha.two
  cases J.getVal h1
  refine Inv.out J fun m S I D => ?_
  obtain ⟨a, ok, rfl, hmk, t⟩ := (D.tmp _ h2).key (prog := C.prog) (w := C.w)
  obtain ⟨xs, hd, h0, hk⟩ := D.dictH hm
  refine call_meetsIn PySem.F.slot_dict_get hd.typeIs PySem.F.entry_dict_get (PySem.F.args_dict_get_2 _ _) (meetsH_dict_get (tupleKind (intKind C.prog C.w)) d a h0) ⟨O.room, ks, xs, t.key (D.N _ (mem3.mpr (.inr (.inr hmk)))).1, hd, ?_⟩
  have := hk.at ks
  cases e : kvs.lookup ks with
  | some i =>
    rw [e] at this k
    obtain ⟨b, u, e⟩ := this
    rw [e]
    exact q _ _ σ _ k (D.tok.more (.int _ _)).inv
  | none =>
    rw [e] at this k
    rw [this]
    exact q _ _ σ _ k (D.tok.more (.val _)).inv
theorem AW.dict {i : Int} {K : Store → Prop} (O : C.Ok n) (hU : ∀ ep', ∃ σ', UpdS d (.dict kvs ep) (.dict (kvs ++ [(ks, i)]) ep') σ σ' ∧ K σ') (hl : kvs.lookup ks = none) (hz : kvs.length ≤ 1000) : AW C ρ σ (.ref d) (.key ks) (.int i) K := by
  intro τ s vo vi v Q E J ho hi hv q
  cases J.getVal ho
  obtain ⟨u, rfl⟩ := J.getInt hv
  refine Inv.out J fun m S I D => ?_
  have hvk := D.tmp _ hi
  obtain ⟨a, ok, rfl, hmk, t⟩ := hvk.key (prog := C.prog) (w := C.w)
  obtain ⟨o, es, xs, hm, h0, h1, h2, h3, h4, hk⟩ := D.dict (hU ep).choose_spec.1.mem
  have hd : s.heap.DictOfH (tupleKind (intKind C.prog C.w)) d xs := by
    refine ⟨o, es, ep, (D.N _ hm).1, h1, h2, h3, fun x hx => ?_, by rw [hk.keys]; exact h4⟩
    obtain ⟨ok, hmk, t⟩ := hk.get x hx
    exact t.key (D.N _ (mem3.mpr (.inr (.inr hmk)))).1
  have hat := hk.at ks
  rw [hl] at hat
  refine wpAny_setItem_heap (hsz := by rw [hk.len]; exact sizeLine_le hz) O.room (t.key (D.N _ (mem3.mpr (.inr (.inr hmk)))).1) hd fun h' hm' hs => ?_
  rw [storedH_new hat] at hm'
  obtain ⟨o', es', ep', ho', hc', hd', he', _, hn'⟩ := hm'
  obtain ⟨σ', U, k⟩ := hU ep'
  obtain ⟨D₁, own, D₂, e, r, put⟩ := D.upd U
  cases r using ORep.casesDict with
  | @dict o es xs₂ h0 h1 h2 h3 h4 hk₂ =>
    have hN := D.N (d, o) (mem3.mpr (.inl (by rw [e]; exact List.mem_append_right _ (.head _))))
    have ap := D.apart (q := (d, o)) e (.head _)
    have hN' : News C.h₀ C.env.locals s.heap (D₁ ++ (d, o) :: (D₂ ++ (C.J ++ I))) := by
      have := D.N; rw [e] at this; simpa [List.append_assoc] using this
    have hkr : KRep C.prog C.w I (xs ++ [(ks, a, .int i u)]) (kvs ++ [(ks, i)]) := hk.snoc hvk
    exact q σ' _ k (put [(d, o')] h' _ (.dict h0 hc' hd' he' (by rw [← hkr.keys]; exact hn') hkr) rfl
      ⟨D.F.ns.sameBut hs (Ne.symm hN.2.1), fun b ob eb => (hs.2 b (fun q => by rw [q, hN.2.2] at eb; cases eb)).trans (D.F.keep b ob eb), D.F.above⟩ (news_set hN' ap.1 ap.2 hs ho')).inv
theorem AE.dict0 {pos : Pos} (O : C.Ok n) (k : ∀ a, K (.ref a) ((a, .dict [] 0) :: σ)) : AE C ρ σ (.Dict [] [] pos) K := by
  intro τ s Q E J q
  refine Inv.out J fun m S I D => ?_
  refine wpAny_Dict_empty ?_
  obtain ⟨_, _, _, _, _, T⟩ := O.T
  have hbig : sysModules < C.h₀.objs.size := modules_low T.nolimit
  refine q _ _ _ _ (k s.heap.objs.size) (((D.pushS (o := { cls := .type "dict", data := .dict #[] }) (ao := .dict [] 0) (tk := s.toks) ?_).more (.val _)).inv)
  exact .dict (o := { cls := .type "dict", data := .dict #[] }) (es := #[]) (ep := 0) (xs := []) (D.F.notModules hbig) ⟨rfl, rfl, rfl⟩ rfl rfl List.nodup_nil .nil
theorem dictIter_start {d : Addr} {o : Obj} {es : Array DictEntry} {ep : Nat} {Q : Value → Shared → Prop} {E : Value → Shared → Prop} {A : Around} {prog : Program} {w : World} (hd : (d == sysModules) = false) (ho : s.heap.get? d = some o) (hc : o.ExactDict) (hdat : o.data = .dict es ep)
    (hQ : Q (.ref s.heap.objs.size) { s with heap := s.heap.push { cls := .type "dict_keyiterator", data := .fields #[.ref d, .int 0 0, .int es.size 0, .int ep 0] } }) : wpAny (model prog w) A (pyIter (.ref d)) Q E s := by
  have hT : s.TypeIs (.ref d) "dict" := ⟨o, ho, hc.1⟩
  refine wpAny_pyIter_slot hT F.slot_dict_iter (wpAny_call_entry F.slot_dict_iter hT F.entry_dict_iter ?_ (F.args_dict_iter_1 _))
  unfold Builtin.«dict.__iter__»
  refine wpAny_bind ?_
  unfold Builtin.Dict.dictSlotNone
  refine wpAny_bind (wpAny_notOrdered_dict hT ?_)
  refine wpAny_pure ?_
  show wpAny _ _ (Builtin.Dict.showsAll d >>= _) _ _ s
  unfold Builtin.Dict.showsAll
  rw [if_neg (by rw [hd]; exact Bool.false_ne_true)]
  refine wpAny_bind (wpAny_pure (wpAny_bind (wpAny_dictEntries ho hdat (wpAny_bind (wpAny_dictEpoch ho hdat ?_)))))
  refine wpAny_bind (wpAny_newObj_type (wpAny_pure ⟨_, rfl, "dict_keyiterator", _, ⟨_, Heap.get?_push_size _ rfl, rfl⟩, F.slot_dict_keyiterator_next.lookup, ?_⟩))
  simpa [rawInt] using hQ
section
variable {prog : Program} {w : World} {A : Around} {E : Value → Shared → Prop} {it d : Addr} {i ep : Nat} {es : Array DictEntry} {Q : Option Value → Shared → Prop} {od : Obj}
theorem dictIter_item (hit : s.heap.IsKeyIter it d i es.size ep) (hod : s.heap.get? d = some od) (hdd : od.data = .dict es ep) (hlt : i < es.size)
    (hQ : ∀ h', h'.IsKeyIter it d (i + 1) es.size ep → Heap.SameBut it s.heap h' → Q (some es[i].key) { s with heap := h' }) : wpAny (model prog w) A (pyNext (.ref it)) Q E s := by
  obtain ⟨o, ho, hc, hd⟩ := id hit
  have hown : Builtin.Dict_items.ownsTuple "dict_keyiterator" = false := by decide
  unfold pyNext
  refine wpAny_bind (wpAny_attempt (wpAny_callSpecial?_slot (name := Str.ofString "__next__") hit.typeIs F.slot_dict_keyiterator_next
    (wpAny_call_entry F.slot_dict_keyiterator_next hit.typeIs F.entry_dict_keyiterator_next ?_ (F.args_dict_keyiterator_next_1 _))))
  refine wpAny_bind (wpAny_pure (wpAny_bind (wpAny_bind ?_)))
  first | refine wpAny_bind (wpAny_typeNameOfWhole_keyiter hit.typeIs (wpAny_pure ?_)) | refine wpAny_bind (wpAny_typeNameOf_keyiter hit.typeIs (wpAny_pure ?_))
  refine wpAny_bind (wpAny_fieldsOf ho hd ?_)
  rw [hown, if_neg Bool.false_ne_true]
  show wpAny _ _ (if (Value.ref d == Value.none) = true then _ else _) _ _ s
  rw [if_neg (show ¬ ((Value.ref d == Value.none) = true) from Bool.false_ne_true)]
  refine wpAny_bind (wpAny_pure (wpAny_bind (wpAny_dictEntries hod hdd ?_)))
  rw [if_neg (by simp)]
  refine wpAny_bind (wpAny_pure (wpAny_bind (wpAny_dictEpoch hod hdd ?_)))
  rw [if_neg (by simp)]
  refine wpAny_pure ?_
  dsimp only
  rw [if_neg (Int.not_lt.mpr (Int.natCast_nonneg i)), Int.toNat_natCast, Array.getElem?_eq_getElem hlt]
  refine wpAny_bind ?_
  first | refine wpAny_bind (wpAny_typeNameOfWhole_keyiter hit.typeIs (wpAny_pure ?_)) | refine wpAny_bind (wpAny_typeNameOf_keyiter hit.typeIs (wpAny_pure ?_))
  refine wpAny_bind (wpAny_isOneOf_keyiter hit.typeIs ?_)
  show wpAny _ _ (setField (.ref it) 1 (rawInt ((i : Int) + 1)) >>= _) _ _ s
  refine wpAny_bind (wpAny_setField ho hd (by simp) ?_)
  have hit' : (s.heap.update it (Obj.mapFields (·.setIfInBounds 1 (rawInt ((i : Int) + 1))))).IsKeyIter it d (i + 1) es.size ep :=
    ⟨_, Heap.get?_update_self _ ho (Obj.isFreed_of_fields (Obj.data_mapFields hd _)), (Obj.cls_mapFields ..).trans hc, by rw [Obj.data_mapFields hd]; simp [rawInt]⟩
  refine wpAny_bind (wpAny_holding ?_)
  refine wpAny_bind (wpAny_isOneOf_keyiter (s := { s with heap := s.heap.update it (Obj.mapFields (·.setIfInBounds 1 (rawInt ((i : Int) + 1)))) }) hit'.typeIs ?_)
  show wpAny _ _ (pure es[i].key) _ _ _
  exact wpAny_pure (wpAny_pure ⟨_, rfl, wpAny_pure (hQ _ hit' (Heap.SameBut.update ..))⟩)
theorem dictIter_end (hh : A.handled = none) (hit : s.heap.IsKeyIter it d i es.size ep) (hod : s.heap.get? d = some od) (hdd : od.data = .dict es ep) (hge : es.size ≤ i)
    (hQ : ∀ h', Heap.ExtBut it s.heap h' → Q none { s with heap := h' }) : wpAny (model prog w) A (pyNext (.ref it)) Q E s := by
  obtain ⟨o, ho, hc, hd⟩ := id hit
  have hown : Builtin.Dict_items.ownsTuple "dict_keyiterator" = false := by decide
  unfold pyNext
  refine wpAny_bind (wpAny_attempt (wpAny_callSpecial?_slot (name := Str.ofString "__next__") hit.typeIs F.slot_dict_keyiterator_next
    (wpAny_call_entry F.slot_dict_keyiterator_next hit.typeIs F.entry_dict_keyiterator_next ?_ (F.args_dict_keyiterator_next_1 _))))
  refine wpAny_bind (wpAny_pure (wpAny_bind (wpAny_bind ?_)))
  first | refine wpAny_bind (wpAny_typeNameOfWhole_keyiter hit.typeIs (wpAny_pure ?_)) | refine wpAny_bind (wpAny_typeNameOf_keyiter hit.typeIs (wpAny_pure ?_))
  refine wpAny_bind (wpAny_fieldsOf ho hd ?_)
  rw [hown, if_neg Bool.false_ne_true]
  show wpAny _ _ (if (Value.ref d == Value.none) = true then _ else _) _ _ s
  rw [if_neg (show ¬ ((Value.ref d == Value.none) = true) from Bool.false_ne_true)]
  refine wpAny_bind (wpAny_pure (wpAny_bind (wpAny_dictEntries hod hdd ?_)))
  rw [if_neg (by simp)]
  refine wpAny_bind (wpAny_pure (wpAny_bind (wpAny_dictEpoch hod hdd ?_)))
  rw [if_neg (by simp)]
  refine wpAny_pure ?_
  dsimp only
  rw [if_neg (Int.not_lt.mpr (Int.natCast_nonneg i)), Int.toNat_natCast, Array.getElem?_eq_none hge]
  refine wpAny_bind ?_
  first | refine wpAny_bind (wpAny_typeNameOfWhole_keyiter hit.typeIs (wpAny_pure ?_)) | refine wpAny_bind (wpAny_typeNameOf_keyiter hit.typeIs (wpAny_pure ?_))
  show wpAny _ _ (setField (.ref it) 0 .none >>= _) _ _ s
  refine wpAny_bind (wpAny_setField ho hd (by simp) ?_)
  show wpAny _ _ (newExc (.type "StopIteration") [] >>= _) _ _ _
  refine wpAny_bind ?_
  unfold newExc newTuple
  refine wpAny_bind (wpAny_newObj_type ?_ (by size_fits))
  refine wpAny_bind (m := firstArgMember _ _) (wpAny_of_eq (a := Value.none) (by first | rfl | (simp only [firstArgMember]; rfl)) ?_)
  refine wpAny_newObj_type ?_ (by size_fits)
  unfold raiseNew
  refine wpAny_bind (wpAny_handled ?_)
  rw [show A.in1.handled = none from hh]
  refine wpAny_bind (wpAny_pure (wpAny_throw ?_))
  refine wpAny_bind (wpAny_isInstance (T := "StopIteration") (b := true) ⟨_, Heap.get?_push_size _ rfl, rfl⟩ isSubtype_stop ?_)
  exact wpAny_pure (hQ _ (((Heap.SameBut.update ..).extBut.push _).push _))
end
theorem ORep.dict_key {prog : Program} {w : World} {I : Led} {es : Array DictEntry} {xs : List (List Int × Addr × Value)} (h3 : es.toList = xs.map (entryOfKey (tupleKind (intKind prog w)))) (hk : KRep prog w I xs kvs) {i : Nat} (hlt : i < es.size) :
    ∃ q, kvs[i]? = some q ∧ VRep I es[i].key (.key q.1) := by
  have hx : i < xs.length := by
    have := congrArg List.length h3
    simp at this; (first | lia | omega)
  have e1 : es[i] = entryOfKey (tupleKind (intKind prog w)) xs[i] := by
    have h1 : es.toList[i]? = some es[i] := by simp [hlt]
    rw [h3, List.getElem?_map, List.getElem?_eq_getElem hx] at h1
    exact (Option.some.inj h1).symm
  have hm := hk.getV xs[i] (List.getElem_mem hx)
  have hi : i < kvs.length := by rw [← hk.len]; exact hx
  have e2 : xs[i].1 = kvs[i].1 := by
    have h1 : (xs.map (·.1))[i]? = (kvs.map (·.1))[i]? := by rw [hk.keys]
    rw [List.getElem?_map, List.getElem?_map, List.getElem?_eq_getElem hx, List.getElem?_eq_getElem hi] at h1
    exact Option.some.inj h1
  exact ⟨kvs[i], List.getElem?_eq_getElem hi, by rw [e1]; exact e2 ▸ hm⟩
theorem Iter.dict (hm : (d, AObj.dict kvs ep) ∈ σ) : Iter C σ (.ref d) (kvs.map fun q => .key q.1) fun σ => (d, AObj.dict kvs ep) ∈ σ := by
  intro ρ τ s v' Q X J hv k
  cases J.getVal hv
  refine Inv.out J fun m S I D => ?_
  obtain ⟨o, es, xs, hm', h0, h1, h2, h3, h4, hk⟩ := D.dict hm
  have hes : ∀ {es : Array DictEntry} {xs : List (List Int × Addr × Value)} {I : Led} {prog : Program} {w : World}, es.toList = xs.map (entryOfKey (tupleKind (intKind prog w))) → KRep prog w I xs kvs → es.size = kvs.length := by
    intro es xs I prog w h3 hk
    rw [← hk.len]; have := congrArg List.length h3; simpa using this
  refine dictIter_start h0 (D.N _ hm').1 h1 h2 ?_
  have hnew := get_none_size (h := s.heap)
  refine k (.ref s.heap.objs.size) (fun i E => ∃ oi, E = [(s.heap.objs.size, oi)] ∧ oi.cls = .type "dict_keyiterator" ∧ oi.data = .fields #[.ref d, .int i 0, .int kvs.length 0, .int ep 0])
    (fun i _ E => ∃ oi, E = [(s.heap.objs.size, oi)] ∧ oi.cls = .type "dict_keyiterator" ∧ oi.data = .fields #[.ref d, .int i 0, .int kvs.length 0, .int ep 0])
    [(s.heap.objs.size, { cls := .type "dict_keyiterator", data := .fields #[.ref d, .int 0 0, .int es.size 0, .int ep 0] })] I _ D.sub ⟨_, rfl, rfl, by rw [hes h3 hk]; rfl⟩
    (D.addJ (tk := s.toks) (fun b o e => Heap.get?_push_of_some _ e) (fun p hp => ?_) (fun p hp => ?_) (by simp)).inv ?_ (Own.plain fun i E hE => ?_) ?_
  · rw [List.mem_singleton.mp hp]; exact Heap.get?_push_size _ rfl
  · rw [List.mem_singleton.mp hp]; exact hnew
  · intro C' hh J' I₁ hI i E ρ' σ' τ' s' Q' X' hE Ji hm' qs qn
    obtain ⟨oi, rfl, hc, hd⟩ := hE
    obtain ⟨m', S', I', D'⟩ := Ji
    obtain ⟨o', es', xs', hm₂, _, h1', h2', h3', h4', hk'⟩ := D'.dict hm'
    have hsz := hes h3' hk'
    have hit : s'.heap.IsKeyIter s.heap.objs.size d i es'.size ep := ⟨oi, (D'.N (_, oi) (by simp)).1, hc, by rw [hsz]; exact hd⟩
    by_cases hlt : i < es'.size
    · refine dictIter_item hit (D'.N _ hm₂).1 h2' hlt fun h' hit' hsb => ?_
      obtain ⟨oi', ho', hc', hd'⟩ := hit'
      obtain ⟨q', hq', hvr⟩ := ORep.dict_key h3' hk' hlt
      refine qs _ (.key q'.1) [(s.heap.objs.size, oi')] _ ?_ ⟨oi', rfl, hc', by rw [hsz] at hd'; exact hd'⟩ ((InvD.reJ (E := [(s.heap.objs.size, oi)]) (E' := [(s.heap.objs.size, oi')]) (tk := s'.toks) D' rfl (fun b ob hb e => (hsb.2 b (fun q => hb (by simp [q]))).trans e) (fun p hp => ?_)).more hvr).inv
      · rw [List.getElem?_map, hq']; rfl
      · rw [List.mem_singleton.mp hp]; exact ho'
    · refine dictIter_end hh hit (D'.N _ hm₂).1 h2' (by (first | lia | omega)) fun h' he => ?_
      refine qn _ ?_ (InvD.cutJ (E := [(s.heap.objs.size, oi)]) D' (tk := s'.toks) fun b ob hb e => he b ob (fun q => hb (by simp [q])) e).inv
      rw [List.getElem?_eq_none_iff, List.length_map]; (first | lia | omega)
  · obtain ⟨oi, rfl, hc, hd⟩ := hE
    exact ⟨oi, "dict_keyiterator", _, .head _, hc, hd, by decide⟩
  · intro C' J' I₁ i E ρ' σ' τ' s' Q' X' hE Ji q
    obtain ⟨oi, rfl, hc, hd⟩ := hE
    obtain ⟨m', S', I', D'⟩ := Ji
    have hT : s'.TypeIs (.ref s.heap.objs.size) "dict_keyiterator" := ⟨oi, (D'.N (_, oi) (by simp)).1, hc⟩
    refine wpAny_pyIter_slot hT F.slot_dict_keyiterator_iter (wpAny_call_entry F.slot_dict_keyiterator_iter hT F.entry_dict_keyiterator_iter ?_ (F.args_dict_keyiterator_iter_1 _))
    show wpAny _ _ (ret (.ref s.heap.objs.size)) _ _ s'
    exact wpAny_pure ⟨_, rfl, "dict_keyiterator", _, hT, F.slot_dict_keyiterator_next.lookup, q⟩
end
end
section
set_option tactic.hygienic false
noncomputable def toV : Value → PyData
  | .bool b => .bool b
  | _ => .none
noncomputable def okV : Value → Bool
  | .none => true
  | .bool _ => true
  | _ => false
theorem okV_cases {motive : Value → Prop} (n : motive .none) (b : ∀ b, motive (.bool b)) {v : Value} (h : okV v = true) : motive v :=
  Value.casesOn (motive := fun v => okV v = true → motive v) v (fun _ => n) (fun h => nomatch h) (fun h => nomatch h) (fun c _ => b c) (fun _ _ h => nomatch h) (fun _ _ h => nomatch h) (fun _ _ h => nomatch h) (fun _ _ h => nomatch h) (fun _ h => nomatch h) (fun _ h => nomatch h) (fun _ h => nomatch h) h
mutual
noncomputable def toD : PV → PyData
  | .val v => toV v
  | .int i => .int i
  | .str x => .str x
  | .tup l => .tuple (toDs l)
  | .lst l => .list (toDs l)
  | .obj _ => .none
noncomputable def toDs : List PV → List PyData
  | [] => []
  | p :: ps => toD p :: toDs ps
end
mutual
noncomputable def okE : PV → Nat → Bool
  | .val v => fun _ => okV v
  | .int _ => fun _ => true
  | .str x => fun _ => PyData.strOk x
  | .tup l => fun n => Nat.rec false (fun n _ => okEs l n) n
  | .lst l => fun n => Nat.rec false (fun n _ => okEs l n) n
  | .obj _ => fun _ => false
noncomputable def okEs : List PV → Nat → Bool
  | [] => fun _ => true
  | p :: ps => fun n => okE p n && okEs ps n
end
noncomputable def okD (n : Nat) (p : PV) : Bool := okE p n
noncomputable def okDs (n : Nat) (l : List PV) : Bool := okEs l n
theorem toDs_map (l : List PV) : toDs l = l.map toD := by
  induction l with
  | nil => rfl
  | cons p l ih => exact congrArg (toD p :: ·) ih
theorem okDs_iff {n : Nat} {l : List PV} : okDs n l = true ↔ ∀ p ∈ l, okD n p = true := by
  induction l with
  | nil => exact ⟨fun _ _ h => (nomatch h), fun _ => rfl⟩
  | cons p l ih => rw [List.forall_mem_cons, ← ih]; exact Bool.and_eq_true_iff
theorem okD_more {n : Nat} {p : PV} : okD n p = true → okD (n + 1) p = true :=
  PV.rec (motive_1 := fun p => ∀ n, okD n p = true → okD (n + 1) p = true) (motive_2 := fun l => ∀ n, okDs n l = true → okDs (n + 1) l = true) (fun _ _ h => h) (fun _ _ h => h) (fun _ _ h => h)
    (fun _ ih n => Nat.rec (fun h => nomatch h) (fun n _ h => ih n h) n) (fun _ ih n => Nat.rec (fun h => nomatch h) (fun n _ h => ih n h) n) (fun _ _ h => h) (fun _ h => h)
    (fun _ _ ip il n h => Bool.and_eq_true_iff.mpr ⟨ip n (Bool.and_eq_true_iff.mp h).1, il n (Bool.and_eq_true_iff.mp h).2⟩) p n
section
variable {I : Led} {h : Heap} {v : Value} {p : PV} {vs : List Value} {ps : List PV}
theorem Reads.tuple {vs : List Value} {k : Nat} {a : Addr} {xs : List PyData} (ho : h.get? a = some (tupObj vs k)) (q : ∃ as, ReadsAll h vs xs as) : ∃ as, Reads h (.ref a) (.tuple xs) as :=
  q.elim fun as q => ⟨_, reads_tuple_at ho rfl rfl q⟩
theorem Reads.list {vs : List Value} {k : Nat} {a : Addr} {xs : List PyData} (ho : h.get? a = some (listOf vs.toArray k)) (q : ∃ as, ReadsAll h vs xs as) : ∃ as, Reads h (.ref a) (.list xs) as :=
  q.elim fun as q => ⟨_, reads_list_at ho rfl rfl q⟩
theorem VRep.reads (hI : ∀ p ∈ I, h.get? p.1 = some p.2) (n : Nat) (k : VRep I v p) : okD n p = true → ∃ as, Reads h v (toD p) as :=
  VRep.rec (motive_1 := fun v p _ => ∀ n, okD n p = true → ∃ as, Reads h v (toD p) as) (motive_2 := fun vs ps _ => ∀ n, okDs n ps = true → ∃ as, ReadsAll h vs (toDs ps) as)
    (fun v _ hk => okV_cases (motive := fun v => ∃ as, Reads h v (toV v) as) ⟨_, Reads.none⟩ (fun b => ⟨_, Reads.bool b⟩) hk) (fun i t _ _ => ⟨_, Reads.int i t⟩) (fun x t _ _ => ⟨_, Reads.str x t⟩)
    (fun hm _ ih n => Nat.rec (fun h => nomatch h) (fun n _ hk => Reads.tuple (hI _ hm) (ih n hk)) n) (fun hm _ ih n => Nat.rec (fun h => nomatch h) (fun n _ hk => Reads.list (hI _ hm) (ih n hk)) n) (fun _ _ hk => nomatch hk)
    (fun _ _ => ⟨_, ReadsAll.nil⟩) (fun _ _ ip il n hk => (ip n (Bool.and_eq_true_iff.mp hk).1).elim fun _ q => (il n (Bool.and_eq_true_iff.mp hk).2).elim fun _ p => ⟨_, ReadsAll.cons q p⟩) k n
theorem VAll.reads (hI : ∀ p ∈ I, h.get? p.1 = some p.2) (n : Nat) (k : VAll I vs ps) : okDs n ps = true → ∃ as, ReadsAll h vs (toDs ps) as :=
  k.ind (motive := fun vs ps => okDs n ps = true → ∃ as, ReadsAll h vs (toDs ps) as) (fun _ => ⟨_, ReadsAll.nil⟩) fun ip _ il hk => (ip.reads hI n (Bool.and_eq_true_iff.mp hk).1).elim fun _ q => (il (Bool.and_eq_true_iff.mp hk).2).elim fun _ p => ⟨_, ReadsAll.cons q p⟩
end
theorem okD_lay (n : Nat) (p : PV) : okD n p = true → (toD p).canLay0 = true ∧ (toD p).depth ≤ n :=
  PV.rec (motive_1 := fun p => ∀ n, okD n p = true → (toD p).canLay0 = true ∧ (toD p).depth ≤ n) (motive_2 := fun l => ∀ n, okDs n l = true → PyData.canLayAll0 (toDs l) = true ∧ PyData.depthAll (toDs l) ≤ n)
    (fun v n hk => okV_cases (motive := fun v => (toV v).canLay0 = true ∧ (toV v).depth ≤ n) ⟨rfl, Nat.zero_le n⟩ (fun _ => ⟨rfl, Nat.zero_le n⟩) hk) (fun _ n _ => ⟨rfl, Nat.zero_le n⟩) (fun _ n h => ⟨h, Nat.zero_le n⟩)
    (fun _ ih n => Nat.rec (fun h => nomatch h) (fun n _ h => ⟨(ih n h).1, Nat.succ_le_succ (ih n h).2⟩) n) (fun _ ih n => Nat.rec (fun h => nomatch h) (fun n _ h => ⟨(ih n h).1, Nat.succ_le_succ (ih n h).2⟩) n) (fun _ _ h => nomatch h)
    (fun n _ => ⟨rfl, Nat.zero_le n⟩) (fun _ _ ip il n h => ⟨Bool.and_eq_true_iff.mpr ⟨(ip n (Bool.and_eq_true_iff.mp h).1).1, (il n (Bool.and_eq_true_iff.mp h).2).1⟩, Nat.max_le.mpr ⟨(ip n (Bool.and_eq_true_iff.mp h).1).2, (il n (Bool.and_eq_true_iff.mp h).2).2⟩⟩) p n
theorem okDs_lay (n : Nat) (l : List PV) (h : okDs n l = true) : PyData.canLayAll0 (toDs l) = true ∧ PyData.depthAll (toDs l) ≤ n :=
  ⟨(okD_lay (n + 1) (.tup l) h).1, Nat.le_of_succ_le_succ (okD_lay (n + 1) (.tup l) h).2⟩
theorem okD_shaped {p : PV} (h : okD 8 p = true) : SeqAt.shaped (toD p) = true := by
  have := okD_lay 8 p h
  unfold SeqAt.shaped
  rw [this.1, Bool.true_and, decide_eq_true_eq]
  have := this.2; (first | lia | omega)
theorem eqv_self {p : PV} (h : okD 8 p = true) : PyData.eqv (toD p) (toD p) = true := SeqAt.eqv_refl _ (okD_lay 8 p h).1
noncomputable def okIV : Value → Bool
  | .none => true
  | _ => false
theorem okIV_none {v : Value} (h : okIV v = true) : v = .none :=
  Value.casesOn (motive := fun v => okIV v = true → v = .none) v (fun _ => rfl) (fun h => nomatch h) (fun h => nomatch h) (fun _ h => nomatch h) (fun _ _ h => nomatch h) (fun _ _ h => nomatch h) (fun _ _ h => nomatch h) (fun _ _ h => nomatch h) (fun _ h => nomatch h) (fun _ h => nomatch h) (fun _ h => nomatch h) h
mutual
noncomputable def okI : PV → Bool
  | .val v => okIV v
  | .int _ => true
  | .str _ => true
  | .tup l => okIs l
  | .lst l => okIs l
  | .obj _ => false
noncomputable def okIs : List PV → Bool
  | [] => true
  | p :: ps => okI p && okIs ps
end
theorem okIs_iff {l : List PV} : okIs l = true ↔ ∀ p ∈ l, okI p = true := by
  induction l with
  | nil => exact ⟨fun _ _ h => (nomatch h), fun _ => rfl⟩
  | cons p l ih => rw [List.forall_mem_cons, ← ih]; exact Bool.and_eq_true_iff
theorem iffF {b : Bool} {P : Prop} (h : b = false) (k : ¬ P) : b = true ↔ P := ⟨fun e => absurd (h.symm.trans e) Bool.false_ne_true, fun e => absurd e k⟩
theorem eqv_kind {p : PV} (hv : PyData.eqv (toD p) .none = true ↔ p = .none) (hi : ∀ i, PyData.eqv (toD p) (.int i) = true ↔ p = .int i) (hs : ∀ s, PyData.eqv (toD p) (.str s) = true ↔ p = .str s)
    (ht : ∀ l, okIs l = true → (PyData.eqv (toD p) (.tuple (toDs l)) = true ↔ p = .tup l)) (hl : ∀ l, okIs l = true → (PyData.eqv (toD p) (.list (toDs l)) = true ↔ p = .lst l)) : ∀ q, okI q = true → (PyData.eqv (toD p) (toD q) = true ↔ p = q)
  | .val v, h => okIV_none h ▸ hv
  | .int i, _ => hi i
  | .str s, _ => hs s
  | .tup l, h => ht l h
  | .lst l, h => hl l h
  | .obj _, h => nomatch h
theorem eqv_iff (p q : PV) (h : okI p = true) : okI q = true → (PyData.eqv (toD p) (toD q) = true ↔ p = q) :=
  PV.rec (motive_1 := fun p => okI p = true → ∀ q, okI q = true → (PyData.eqv (toD p) (toD q) = true ↔ p = q)) (motive_2 := fun l => okIs l = true → ∀ m, okIs m = true → (PyData.eqvAll (toDs l) (toDs m) = true ↔ l = m))
    (fun _ h => okIV_none h ▸ eqv_kind ⟨fun _ => rfl, fun _ => rfl⟩ (fun _ => iffF rfl (fun e => nomatch e)) (fun _ => iffF rfl (fun e => nomatch e)) (fun _ _ => iffF rfl (fun e => nomatch e)) (fun _ _ => iffF rfl (fun e => nomatch e)))
    (fun i _ => eqv_kind (iffF rfl (fun e => nomatch e)) (fun j => ⟨fun e => congrArg PV.int (eq_of_beq e), fun e => beq_iff_eq.mpr (PV.int.inj e)⟩) (fun _ => iffF rfl (fun e => nomatch e)) (fun _ _ => iffF rfl (fun e => nomatch e)) (fun _ _ => iffF rfl (fun e => nomatch e)))
    (fun x _ => eqv_kind (iffF rfl (fun e => nomatch e)) (fun _ => iffF rfl (fun e => nomatch e)) (fun y => ⟨fun e => congrArg PV.str (eq_of_beq e), fun e => beq_iff_eq.mpr (PV.str.inj e)⟩) (fun _ _ => iffF rfl (fun e => nomatch e)) (fun _ _ => iffF rfl (fun e => nomatch e)))
    (fun _ ih h => eqv_kind (iffF rfl (fun e => nomatch e)) (fun _ => iffF rfl (fun e => nomatch e)) (fun _ => iffF rfl (fun e => nomatch e)) (fun m k => (ih h m k).trans ⟨congrArg PV.tup, PV.tup.inj⟩) (fun _ _ => iffF rfl (fun e => nomatch e)))
    (fun _ ih h => eqv_kind (iffF rfl (fun e => nomatch e)) (fun _ => iffF rfl (fun e => nomatch e)) (fun _ => iffF rfl (fun e => nomatch e)) (fun _ _ => iffF rfl (fun e => nomatch e)) (fun m k => (ih h m k).trans ⟨congrArg PV.lst, PV.lst.inj⟩))
    (fun _ h => nomatch h)
    (fun _ m => List.casesOn m (fun _ => ⟨fun _ => rfl, fun _ => rfl⟩) fun _ _ _ => iffF rfl (fun e => nomatch e))
    (fun p ps ip il h m => List.casesOn m (fun _ => iffF rfl (fun e => nomatch e)) fun q qs k => Bool.and_eq_true_iff.trans ⟨fun e => (ip (Bool.and_eq_true_iff.mp h).1 q (Bool.and_eq_true_iff.mp k).1).mp e.1 ▸ (il (Bool.and_eq_true_iff.mp h).2 qs (Bool.and_eq_true_iff.mp k).2).mp e.2 ▸ rfl,
      fun e => ⟨(ip (Bool.and_eq_true_iff.mp h).1 q (Bool.and_eq_true_iff.mp k).1).mpr (List.cons.inj e).1, (il (Bool.and_eq_true_iff.mp h).2 qs (Bool.and_eq_true_iff.mp k).2).mpr (List.cons.inj e).2⟩⟩) p h q
section
variable {C : Ctx} {n : Nat} {ρ : Locs} {σ σ' : Store} {τ : Tmp} {s : Shared} {m : Str → Option Value} {S I : Led} {a : Addr} {l : List PV} {K : PV → Store → Prop} {p q : PV}
theorem InvD.heapI (D : InvD C ρ σ τ s m S I) : ∀ p ∈ I, s.heap.get? p.1 = some p.2 := fun p hp => (D.N p (mem3.mpr (.inr (.inr hp)))).1
theorem Ctx.Ok.roomE (O : C.Ok n) : C.A.units + 65 < cLine := by have := O.units; show C.A.units + 65 < 9900; (first | lia | omega)
theorem AO2.eqD (O : C.Ok n) (hp : okD 8 p = true) (hq : okD 8 q = true) (k : K (.bool (PyData.eqv (toD p) (toD q))) σ) : AO2 C ρ σ (compareOp .Eq) p q K := by
  intro τ s va vb Q E J h1 h2 fin
  refine Inv.out J fun m S I D => ?_
  obtain ⟨as, ra⟩ := (D.tmp _ h1).reads D.heapI 8 hp
  obtain ⟨bs, rb⟩ := (D.tmp _ h2).reads D.heapI 8 hq
  exact eq_dataH ra rb (okD_shaped hp) (okD_shaped hq) (by have := O.roomE; (first | lia | omega)) (fin _ _ σ _ k (D.more (.val _)).inv)
theorem AO2.neD (O : C.Ok n) (hp : okD 8 p = true) (hq : okD 8 q = true) (k : K (.bool (!PyData.eqv (toD p) (toD q))) σ) : AO2 C ρ σ (compareOp .NotEq) p q K := by
  intro τ s va vb Q E J h1 h2 fin
  refine Inv.out J fun m S I D => ?_
  obtain ⟨as, ra⟩ := (D.tmp _ h1).reads D.heapI 8 hp
  obtain ⟨bs, rb⟩ := (D.tmp _ h2).reads D.heapI 8 hq
  exact ne_dataH ra rb (okD_shaped hp) (okD_shaped hq) (by have := O.roomE; (first | lia | omega)) (fin _ _ σ _ k (D.more (.val _)).inv)
theorem InvD.readsL (D : InvD C ρ σ τ s m S I) (hm : (a, AObj.list l) ∈ σ) (hl : okDs 7 l = true) : ∃ as, Reads s.heap (.ref a) (.list (toDs l)) as := by
  obtain ⟨vs, n, hm', hv⟩ := D.list hm
  obtain ⟨as, q⟩ := VAll.reads D.heapI 7 hv hl
  exact ⟨_, reads_list_at (D.N _ hm').1 rfl rfl (by simpa [W.listOf] using q)⟩
theorem okDs_shaped {l : List PV} (h : okDs 7 l = true) : SeqAt.shaped (.list (toDs l)) = true := by
  have := okDs_lay 7 l h
  have h1 : (PyData.list (toDs l)).canLay0 = true := by simp only [PyData.canLay0]; exact this.1
  have h2 : (PyData.list (toDs l)).depth ≤ 64 := by simp only [PyData.depth]; have := this.2; (first | lia | omega)
  unfold SeqAt.shaped
  rw [h1, Bool.true_and]
  exact decide_eq_true h2
theorem AO2.eqL (O : C.Ok n) (hm : (a, AObj.list l) ∈ σ) (hl : okDs 7 l = true) (hq : okD 8 q = true) (k : K (.bool (PyData.eqv (.list (toDs l)) (toD q))) σ) : AO2 C ρ σ (compareOp .Eq) (.ref a) q K := by
  intro τ s va vb Q E J h1 h2 fin
  cases J.getVal h1
  refine Inv.out J fun m S I D => ?_
  obtain ⟨as, ra⟩ := D.readsL hm hl
  obtain ⟨bs, rb⟩ := (D.tmp _ h2).reads D.heapI 8 hq
  exact eq_dataH ra rb (okDs_shaped hl) (okD_shaped hq) (by have := O.roomE; (first | lia | omega)) (fin _ _ σ _ k (D.more (.val _)).inv)
theorem AO2.neL (O : C.Ok n) (hm : (a, AObj.list l) ∈ σ) (hl : okDs 7 l = true) (hq : okD 8 q = true) (k : K (.bool (!PyData.eqv (.list (toDs l)) (toD q))) σ) : AO2 C ρ σ (compareOp .NotEq) (.ref a) q K := by
  intro τ s va vb Q E J h1 h2 fin
  cases J.getVal h1
  refine Inv.out J fun m S I D => ?_
  obtain ⟨as, ra⟩ := D.readsL hm hl
  obtain ⟨bs, rb⟩ := (D.tmp _ h2).reads D.heapI 8 hq
  exact ne_dataH ra rb (okDs_shaped hl) (okD_shaped hq) (by have := O.roomE; (first | lia | omega)) (fin _ _ σ _ k (D.more (.val _)).inv)
theorem room_in {A : Around} {xs : List PyData} {d : PyData} (hd : SeqAt.shaped d = true) (hu : A.units + 65 < cLine) : A.units + 1 + min (PyData.depthAll xs) d.depth < cLine := room_in_shaped hd hu
theorem AO2.inL (O : C.Ok n) (hp : okD 8 p = true) (hl : okD 8 (.lst l) = true) (k : K (.bool ((toDs l).any fun y => PyData.eqv y (toD p))) σ) : AO2 C ρ σ (compareOp .In) p (.lst l) K := by
  intro τ s va vb Q E J h1 h2 fin
  refine Inv.out J fun m S I D => ?_
  obtain ⟨as, ra⟩ := (D.tmp _ h1).reads D.heapI 8 hp
  obtain ⟨bs, rb⟩ := (D.tmp _ h2).reads D.heapI 8 hl
  have hs := okD_shaped hl
  exact SeqAt.in_list_reads rb ra (SeqAt.canLay_of_shaped hs) (SeqAt.canLay_of_shaped (okD_shaped hp)) (room_in (okD_shaped hp) O.roomE) (fin _ _ σ _ k (D.more (.val _)).inv)
theorem AO2.notInL (O : C.Ok n) (hp : okD 8 p = true) (hl : okD 8 (.lst l) = true) (k : K (.bool (!(toDs l).any fun y => PyData.eqv y (toD p))) σ) : AO2 C ρ σ (compareOp .NotIn) p (.lst l) K := by
  intro τ s va vb Q E J h1 h2 fin
  refine Inv.out J fun m S I D => ?_
  obtain ⟨as, ra⟩ := (D.tmp _ h1).reads D.heapI 8 hp
  obtain ⟨bs, rb⟩ := (D.tmp _ h2).reads D.heapI 8 hl
  have hs := okD_shaped hl
  exact SeqAt.notIn_list_reads rb ra (SeqAt.canLay_of_shaped hs) (SeqAt.canLay_of_shaped (okD_shaped hp)) (room_in (okD_shaped hp) O.roomE) (fin _ _ σ _ k (D.more (.val _)).inv)
theorem any_eqv {p : PV} (h : okI p = true) (hl : okIs l = true) : ((toDs l).any fun y => PyData.eqv y (toD p)) = true ↔ p ∈ l := by
  rw [okIs_iff] at hl
  rw [toDs_map, List.any_map, List.any_eq_true]
  constructor
  · rintro ⟨x, hx, e⟩
    have := (eqv_iff x p (hl x hx) h).mp e
    exact this ▸ hx
  · intro hx
    exact ⟨p, hx, (eqv_iff p p h h).mpr rfl⟩
end
end
section
section
variable {prog : Program} {w : World} {A : Around} {E : Value → Shared → Prop} {s : Shared}
theorem gt_pair {a b : Addr} {i j i' j' : Int} {t u t' u' : Tok} {Q : Value → Shared → Prop} (ha : IsTup s.heap a #[.int i t, .int j u]) (hb : IsTup s.heap b #[.int i' t', .int j' u']) (hu : A.units < cLine)
    (h : Q (.bool (decide (i' < i ∨ (i = i' ∧ j' < j)))) s) : wpAny (model prog w) A (compareOp .Gt (.ref a) (.ref b)) Q E s := by
  show wpAny _ _ (richCompare .Gt (.ref a) (.ref b)) Q E s
  refine wpAny_richCompare_same_room ha.typeIs hb.typeIs F.slot_tuple_gt ?_ hu
  refine wpAny_call_entry F.slot_tuple_gt ha.typeIs F.entry_tuple_gt ?_ (F.args_tuple_gt_2 _ _)
  show wpAny _ _ (isInstance (.ref b) (.type "tuple") >>= _) _ _ s
  refine wpAny_bind (wpAny_isInstance hb.typeIs isSubtype_tuple_tuple ?_)
  simp only [Bool.not_true, Bool.false_eq_true, if_false]
  refine wpAny_bind (tupleItemsOf_ ha (wpAny_bind (tupleItemsOf_ hb ?_)))
  simp only [List.zip_cons_cons, List.zip_nil_left, List.forIn_cons, List.forIn_nil]
  refine wpAny_bind (wpAny_bind (wpAny_bind (wpAny_eqBool_int ?_)))
  by_cases h1 : i = i'
  · subst h1
    simp only [BEq.rfl, Bool.not_true, Bool.false_eq_true, if_false]
    refine wpAny_pure (wpAny_bind (wpAny_bind (wpAny_eqBool_int ?_)))
    by_cases h2 : j = j'
    · subst h2
      simp only [BEq.rfl, Bool.not_true, Bool.false_eq_true, if_false]
      refine wpAny_pure (wpAny_pure ?_)
      refine wpAny_pure ⟨_, rfl, by simp [Builtin.Tuple.tupleCompareSizes], ?_⟩
      have e : decide (i < i ∨ (i = i ∧ j < j)) = false := by simp
      rw [e] at h
      exact h
    · have e : (j == j') = false := by simpa using h2
      simp only [e, Bool.not_false, if_true]
      refine wpAny_bind (wpAny_rule (wpAny_bind ?_))
      show wpAny _ _ (compareOp .Gt (.int j u) (.int j' u')) _ _ s
      refine PyProof.Rows.gt_int (wpAny_bind (wpAny_pure (wpAny_pure (wpAny_pure (wpAny_pure ⟨_, rfl, by simp, ?_⟩)))))
      have e : decide (i < i ∨ (i = i ∧ j' < j)) = decide (j' < j) := by simp
      rw [e] at h
      exact h
  · have e : (i == i') = false := by simpa using h1
    simp only [e, Bool.not_false, if_true]
    refine wpAny_bind (wpAny_rule (wpAny_bind ?_))
    show wpAny _ _ (compareOp .Gt (.int i t) (.int i' t')) _ _ s
    refine PyProof.Rows.gt_int (wpAny_bind (wpAny_pure (wpAny_pure (wpAny_pure (wpAny_pure ⟨_, rfl, by simp, ?_⟩)))))
    have e : decide (i' < i ∨ (i = i' ∧ j' < j)) = decide (i' < i) := by simp [h1]
    rw [e] at h
    exact h
open AutoSeq1 (wpAny_loadPart') in
theorem lt_loop (l b : Addr) (items items2 : Array Value) (n n2 : Nat) (k : Nat) (i i' : Int) (t t' : Tok) (h1 : items[k]? = some (.int i t)) (h2 : items2[k]? = some (.int i' t')) :
    Meets (Builtin.«list.__eq__.loop» ⟨[.ref l, .ref b, rawInt (k : Int), rawInt 0], []⟩) (fun A R s => s.heap.get? l = some (W.listOf items n) ∧ s.heap.get? b = some (W.listOf items2 n2) ∧
      (i = i' → (Code.builtin "list.__eq__.loop" ⟨[.ref l, .ref b, rawInt ((k : Int) + 1), rawInt 0], []⟩).quiet = true ∧ ∀ prog w, codeAny (model prog w) A (.builtin "list.__eq__.loop" ⟨[.ref l, .ref b, rawInt ((k : Int) + 1), rawInt 0], []⟩) R s) ∧
      (i ≠ i' → R (.ok (.ret (.bool (decide (i < i'))))) s)) := by
  intro prog w A R s h
  obtain ⟨hp, g, d, tk, os⟩ := s; obtain ⟨hl, hb, heq, hne⟩ := h
  wp_walk using wpAny_loadPart' hl, wpAny_loadPart' hb
  have e1 : items[((k : Nat) : Int).toNat]? = some (.int i t) := by simpa using h1
  have e2 : items2[((k : Nat) : Int).toNat]? = some (.int i' t') := by simpa using h2
  rw [e1, e2]
  refine wpAny_bind (wpAny_eqBool_int ?_)
  by_cases hii : i = i'
  · have e : (i == i') = true := by simpa using hii
    rw [if_pos e]
    exact wpAny_pure ⟨(heq hii).1, (heq hii).2 prog w⟩
  · have e : ¬ (i == i') = true := by simpa using hii
    rw [if_neg e]
    wp_walk using wpAny_loadPart' hl, wpAny_loadPart' hb
    rw [e1, e2]
    refine wpAny_bind ?_
    show wpAny _ _ (compareOp .Lt (.int i t) (.int i' t')) _ _ _
    exact PyProof.Rows.lt_int (wpAny_pure (hne hii))
open AutoSeq1 (wpAny_loadPart') in
theorem lt_tree (l b : Addr) (items items2 : Array Value) (n n2 : Nat) (i i' j j' : Int) (t t' u u' : Tok) (h1 : items[0]? = some (.int i t)) (h2 : items2[0]? = some (.int i' t')) (h3 : items[1]? = some (.int j u)) (h4 : items2[1]? = some (.int j' u')) (hd : i ≠ i' ∨ j ≠ j') :
    Meets (Builtin.«list.__lt__» ⟨[.ref l, .ref b], []⟩) (fun A R s => s.heap.get? l = some (W.listOf items n) ∧ s.heap.get? b = some (W.listOf items2 n2) ∧
      R (.ok (.ret (.bool (decide (i < i' ∨ (i = i' ∧ j < j')))))) s) := by
  intro prog w A R s h
  obtain ⟨hp, g, d, tk, os⟩ := s; obtain ⟨hl, hb, h⟩ := h
  have f3 := AutoSeq1.sub_list_list
  wp_walk using wpAny_loadPart' hl, wpAny_loadPart' hb
  refine ⟨plainId_quiet MeetsSeq3.plain_eq_loop _, codeAny_builtin MeetsSeq3.entry_eq_loop (by
    rw [Around.under_plainId MeetsSeq3.plain_eq_loop _]
    refine lt_loop l b items items2 n n2 0 i i' t t' h1 h2 prog w A R _ ⟨hl, hb, fun e => ⟨plainId_quiet MeetsSeq3.plain_eq_loop _, fun prog w => codeAny_builtin MeetsSeq3.entry_eq_loop (by
      rw [Around.under_plainId MeetsSeq3.plain_eq_loop _]
      refine lt_loop l b items items2 n n2 1 j j' u u' h3 h4 prog w A R _ ⟨hl, hb, fun e2 => ?_, fun e2 => ?_⟩
      · exact absurd e2 (hd.resolve_left fun x => x e)
      · subst e
        have e3 : decide (i < i ∨ (i = i ∧ j < j')) = decide (j < j') := by simp
        rw [e3] at h
        exact h)⟩, fun e => ?_⟩
    have e3 : decide (i < i' ∨ (i = i' ∧ j < j')) = decide (i < i') := by simp [e]
    rw [e3] at h
    exact h)⟩
theorem lt_rows {l b : Addr} {items items2 : Array Value} {i i' j j' : Int} {t t' u u' : Tok} {Q : Bool → Shared → Prop} (hl : s.heap.IsList l items) (hb : s.heap.IsList b items2) (h1 : items[0]? = some (.int i t)) (h2 : items2[0]? = some (.int i' t')) (h3 : items[1]? = some (.int j u)) (h4 : items2[1]? = some (.int j' u'))
    (hne : ∃ n, s.heap.get? l = some (W.listOf items n)) (hne2 : ∃ n, s.heap.get? b = some (W.listOf items2 n)) (hd : i ≠ i' ∨ j ≠ j') (hu : A.units < cLine) (h : Q (decide (i < i' ∨ (i = i' ∧ j < j'))) s) : wpAny (model prog w) A (keyLt' oneType' (.ref l) (.ref b)) Q E s := by
  rw [keyLt'_oneType, oneLt'_eq]
  simp only [if_true]
  refine wpAny_bind (wpAny_cRoomFor hu ?_)
  obtain ⟨n, hne⟩ := hne
  obtain ⟨n2, hne2⟩ := hne2
  refine wpAny_bind (wpAny_callSpecialIfBound?_slot hl.typeIs F.slot_list_lt ?_)
  refine call_meets F.slot_list_lt hl.typeIs F.entry_list_lt (F.args_list_lt_2 _ _) (lt_tree l b items items2 n n2 i i' j j' t t' u u' h1 h2 h3 h4 hd) ⟨hne, hne2, ?_⟩
  exact wpAny_truthy_bool h
end
end
section
structure SWO (lt : Nat → Nat → Bool) : Prop where
  irr : ∀ i, lt i i = false
  tr : ∀ i j k, lt i j = true → lt j k = true → lt i k = true
  ntr : ∀ i j k, lt i k = true → lt i j = true ∨ lt j k = true
noncomputable def kAll {α : Type} (ok : Nat → Nat → Prop) (lt : Nat → Nat → Bool) : KasT α → (α → Prop) → Prop
  | .ret a, Q => Q a
  | .ask i j k, Q => ok i j ∧ kAll ok lt (k (lt i j)) Q
section
variable {α β : Type} {ok : Nat → Nat → Prop} {lt : Nat → Nat → Bool}
theorem kAll_bind {f : α → KasT β} {Q : β → Prop} : ∀ t : KasT α, kAll ok lt t (fun a => kAll ok lt (f a) Q) → kAll ok lt (t.bind f) Q
  | .ret _, h => h
  | .ask _ _ k, h => ⟨h.1, kAll_bind (k _) h.2⟩
theorem kAll_mono {Q Q' : α → Prop} (hq : ∀ a, Q a → Q' a) : ∀ t : KasT α, kAll ok lt t Q → kAll ok lt t Q'
  | .ret _, h => hq _ h
  | .ask _ _ k, h => ⟨h.1, kAll_mono hq (k _) h.2⟩
theorem kAll_run {cmp : Nat → Nat → (Bool → Shared → Prop) → Shared → Prop} {G : α → Shared → Prop} {s : Shared} (hc : ∀ i j C, ok i j → C (lt i j) s → cmp i j C s) : ∀ t : KasT α, kAll ok lt t (fun a => G a s) → t.kasWp cmp G s
  | .ret _, h => h
  | .ask i j k, h => hc i j _ h.1 (kAll_run hc (k _) h.2)
noncomputable def g (p : Array Nat) (k : Nat) : Nat := p.getD k 0
theorem g_of {p : Array Nat} {k v : Nat} (h : p[k]? = some v) : g p k = v := by
  obtain ⟨hk, e⟩ := Array.getElem?_eq_some_iff.mp h
  unfold g; rw [Array.getD_eq_getD_getElem?, h]; rfl
theorem g_congr {p q : Array Nat} {i j : Nat} (h : p[i]? = q[j]?) : g p i = g q j := by
  unfold g; rw [Array.getD_eq_getD_getElem?, Array.getD_eq_getD_getElem?, h]
theorem g_rev {p : Array Nat} {i j : Nat} (hj : j ≤ p.size) (k : Nat) : g (kas_rev p i j) k = if i ≤ k ∧ k < j then g p (i + j - 1 - k) else g p k := by
  have e := getElem?_mirror_all (xs := p) (i := i) hj k
  split at e
  · rename_i h; rw [if_pos h]; exact g_congr e
  · rename_i h; rw [if_neg h]; exact g_congr e
theorem g_bub {p : Array Nat} {src d : Nat} (hs : src < p.size) (hd : d ≤ src) (k : Nat) : g (bubble p src d) k = if k = src - d then g p src else if src - d < k ∧ k ≤ src then g p (k - 1) else g p k := by
  have e := getElem?_bubble hs d hd k
  split at e
  · rename_i h; rw [if_pos h]; exact g_congr e
  · rename_i h
    rw [if_neg h]
    split at e
    · rename_i h2; rw [if_pos h2]; exact g_congr e
    · rename_i h2; rw [if_neg h2]; exact g_congr e
structure POk (n : Nat) (p : Array Nat) : Prop where
  perm : p.Perm (List.range n).toArray
variable {n : Nat} {p : Array Nat}
theorem POk.size (h : POk n p) : p.size = n := by have := h.perm.size_eq; simpa using this
theorem POk.list (h : POk n p) : p.toList.Perm (List.range n) := by simpa using h.perm.toList
theorem POk.bd (h : POk n p) {k : Nat} (hk : k < n) : g p k < n := by
  have hk' : k < p.size := by rw [h.size]; exact hk
  have : p[k] ∈ p.toList := by simp
  have h2 := h.list.mem_iff.mp this
  have e : g p k = p[k] := by simp [g, Array.getD, hk']
  rw [e]; exact List.mem_range.mp h2
theorem POk.inj (h : POk n p) {a b : Nat} (ha : a < n) (hb : b < n) (e : g p a = g p b) : a = b := by
  have nd : p.toList.Nodup := h.list.nodup_iff.mpr List.nodup_range
  have ha' : a < p.toList.length := by rw [Array.length_toList, h.size]; exact ha
  have hb' : b < p.toList.length := by rw [Array.length_toList, h.size]; exact hb
  have e1 : g p a = p.toList[a] := by
    have : a < p.size := by rw [h.size]; exact ha
    simp [g, Array.getD, this]
  have e2 : g p b = p.toList[b] := by
    have : b < p.size := by rw [h.size]; exact hb
    simp [g, Array.getD, this]
  rw [e1, e2] at e
  have hx : p.toList[a]? = p.toList[b]? := by rw [List.getElem?_eq_getElem ha', List.getElem?_eq_getElem hb', e]
  exact (List.getElem?_inj ha' nd).mp hx
theorem POk.rev (h : POk n p) (i j : Nat) : POk n (kas_rev p i j) := ⟨(mirror_perm p i j _).trans h.perm⟩
theorem POk.bub (h : POk n p) (i j : Nat) : POk n (bubble p i j) := ⟨(bubble_perm p i j).trans h.perm⟩
noncomputable def Rr (lt : Nat → Nat → Bool) (i j : Nat) : Prop := lt j i = false ∧ (lt i j = true ∨ i < j)
theorem SWO.asym (O : SWO lt) {i j : Nat} (h : lt i j = true) : lt j i = false := by
  cases q : lt j i with
  | false => rfl
  | true => have := O.tr i j i h q; rw [O.irr] at this; cases this
theorem SWO.R_of (O : SWO lt) {i j : Nat} (h : lt i j = true) : Rr lt i j := ⟨O.asym h, .inl h⟩
theorem SWO.Rtrans (O : SWO lt) {i j k : Nat} (h1 : Rr lt i j) (h2 : Rr lt j k) : Rr lt i k := by
  constructor
  · cases q : lt k i with
    | false => rfl
    | true =>
      rcases O.ntr k j i q with h | h
      · rw [h2.1] at h; cases h
      · rw [h1.1] at h; cases h
  · rcases h1.2 with a | a
    · rcases O.ntr i k j a with b | b
      · exact .inl b
      · rw [h2.1] at b; cases b
    · rcases h2.2 with b | b
      · rcases O.ntr j i k b with c | c
        · rw [h1.1] at c; cases c
        · exact .inl c
      · exact .inr (Nat.lt_trans a b)
theorem SWO.eq_trans (O : SWO lt) {i j k : Nat} (h1 : lt i j = false) (h2 : lt j k = false) : lt i k = false := by
  cases q : lt i k with
  | false => rfl
  | true => rcases O.ntr i j k q with h | h
            · rw [h1] at h; cases h
            · rw [h2] at h; cases h
noncomputable abbrev okN (n : Nat) : Nat → Nat → Prop := fun i j => i < n ∧ j < n ∧ i ≠ j
theorem POk.may (h : POk n p) {a b : Nat} (ha : a < n) (hb : b < n) (hab : a ≠ b) : okN n (g p a) (g p b) := ⟨h.bd ha, h.bd hb, fun e => hab (h.inj ha hb e)⟩
theorem asc_all (hp : POk n p) : ∀ (f a : Nat), 1 ≤ a → a + f = n → kAll (okN n) lt (kas_asc p f a) fun m => a ≤ m ∧ m ≤ n ∧ (∀ k, a ≤ k → k < m → lt (g p k) (g p (k - 1)) = false) ∧ (m < n → lt (g p m) (g p (m - 1)) = true)
  | 0, a, h1, h2 => ⟨Nat.le_refl _, by (first | lia | omega), fun k h3 h4 => absurd h4 (by (first | lia | omega)), fun h => absurd h (by (first | lia | omega))⟩
  | f + 1, a, h1, h2 => by
    refine ⟨hp.may (by (first | lia | omega)) (by (first | lia | omega)) (by (first | lia | omega)), ?_⟩
    show kAll _ _ (if lt (g p a) (g p (a - 1)) = true then .ret a else kas_asc p f (a + 1)) _
    split
    · rename_i h
      exact ⟨Nat.le_refl _, by (first | lia | omega), fun k h3 h4 => absurd h4 (by (first | lia | omega)), fun _ => h⟩
    · rename_i h
      refine kAll_mono (fun m hm => ⟨by (first | lia | omega), hm.2.1, fun k h3 h4 => ?_, hm.2.2.2⟩) _ (asc_all hp f (a + 1) (by (first | lia | omega)) (by (first | lia | omega)))
      by_cases e : k = a
      · subst e; simpa using h
      · exact hm.2.2.1 k (by (first | lia | omega)) h4
noncomputable def Up (lt : Nat → Nat → Bool) (p : Array Nat) (m : Nat) : Prop := ∀ a b, a < b → b < m → Rr lt (g p a) (g p b)
theorem Up.of_adj (O : SWO lt) {p : Array Nat} {m : Nat} (h : ∀ k, 1 ≤ k → k < m → Rr lt (g p (k - 1)) (g p k)) : Up lt p m := by
  intro a b hab
  induction b with
  | zero => (first | lia | omega)
  | succ b ih =>
    intro hb
    have h1 := h (b + 1) (by (first | lia | omega)) hb
    rw [Nat.add_sub_cancel] at h1
    by_cases e : a = b
    · subst e; exact h1
    · exact O.Rtrans (ih (by (first | lia | omega)) (by (first | lia | omega))) h1
structure Dn (lt : Nat → Nat → Bool) (p : Array Nat) (e n : Nat) : Prop where
  down : ∀ a b, a < b → b < e → Rr lt (g p b) (g p a)
  less : ∀ a b, a < e → e ≤ b → b < n → lt (g p b) (g p a) = true
  same : ∀ a b, e ≤ a → a < n → e ≤ b → b < n → lt (g p a) (g p b) = false
  rest : ∀ k, e ≤ k → k < p.size → g p k = k
  lo : e < n
  hi : n ≤ p.size
theorem sub1 {x y z : Nat} (h : z < x + y) : x + y - 1 - z + z + 1 = x + y := by first | lia | omega
theorem Dn.flip (O : SWO lt) {e m : Nat} (D : Dn lt p e m) (hp : POk n p) : (∀ a b, a < b → b < m → Rr lt (g (kas_rev p e m) b) (g (kas_rev p e m) a)) ∧ (∀ k, m ≤ k → k < p.size → g (kas_rev p e m) k = k) ∧
    (∀ a, a < m → ∃ a', a' < m ∧ (e ≤ a ↔ e ≤ a') ∧ g (kas_rev p e m) a = g p a') := by
  have lo := D.lo
  have hi := D.hi
  refine ⟨fun a b hab hb => ?_, fun k hk hk' => ?_, fun a ha => ?_⟩
  · rw [g_rev D.hi, g_rev D.hi]
    have hB := sub1 (x := e) (y := m) (z := b) (Nat.lt_of_lt_of_le hb (Nat.le_add_left _ _))
    have hA := sub1 (x := e) (y := m) (z := a) (Nat.lt_of_lt_of_le (Nat.lt_trans hab hb) (Nat.le_add_left _ _))
    generalize e + m - 1 - b = B at hB ⊢
    generalize e + m - 1 - a = A at hA ⊢
    by_cases h1 : e ≤ a
    · have a1 : A < m := by lia
      have a2 : e ≤ A := by lia
      have b1 : B < m := by lia
      have b2 : e ≤ B := by lia
      rw [if_pos ⟨Nat.le_trans h1 (Nat.le_of_lt hab), hb⟩, if_pos ⟨h1, Nat.lt_trans hab hb⟩]
      have e1 := D.rest B b2 (Nat.lt_of_lt_of_le b1 hi)
      have e2 := D.rest A a2 (Nat.lt_of_lt_of_le a1 hi)
      exact ⟨D.same _ _ a2 a1 b2 b1, .inr (by rw [e1, e2]; clear e1 e2; lia)⟩
    · by_cases h2 : e ≤ b
      · rw [if_pos ⟨h2, hb⟩, if_neg (fun h => h1 h.1)]
        exact O.R_of (D.less _ _ (Nat.lt_of_not_le h1) (by lia) (by lia))
      · rw [if_neg (fun h => h2 h.1), if_neg (fun h => h1 h.1)]
        exact D.down a b hab (Nat.lt_of_not_le h2)
  · rw [g_rev D.hi, if_neg (fun h => absurd h.2 (Nat.not_lt.mpr hk))]
    exact D.rest k (Nat.le_trans (Nat.le_of_lt lo) hk) hk'
  · rw [g_rev D.hi]
    by_cases h1 : e ≤ a
    · have hA := sub1 (x := e) (y := m) (z := a) (Nat.lt_of_lt_of_le ha (Nat.le_add_left _ _))
      generalize e + m - 1 - a = A at hA ⊢
      exact ⟨A, by lia, ⟨fun _ => by lia, fun _ => h1⟩, by rw [if_pos ⟨h1, ha⟩]⟩
    · exact ⟨a, ha, Iff.rfl, by rw [if_neg (fun h => h1 h.1)]⟩
theorem desc_all (O : SWO lt) : ∀ (f : Nat) (p : Array Nat) (m q : Nat), POk n p → m + f = n → q + 1 ≤ m → Dn lt p (m - (q + 1)) m →
    kAll (okN n) lt (kas_desc f p m q) fun r => POk n r.1 ∧ r.2.2 + 1 ≤ r.2.1 ∧ m ≤ r.2.1 ∧ r.2.1 ≤ n ∧ Dn lt r.1 (r.2.1 - (r.2.2 + 1)) r.2.1
  | 0, p, m, q, hp, hm, hq, D => ⟨hp, hq, Nat.le_refl _, (by show m ≤ n; (first | lia | omega)), D⟩
  | f + 1, p, m, q, hp, hm, hq, D => by
    have lo := D.lo
    have hsz := hp.size
    refine ⟨hp.may (by (first | lia | omega)) (by (first | lia | omega)) (by (first | lia | omega)), ?_⟩
    show kAll _ _ (if lt (g p m) (g p (m - 1)) = true then (if q > 0 then kas_desc f (kas_rev p (m - (q + 1)) m) (m + 1) 0 else kas_desc f p (m + 1) 0)
      else .ask (g p (m - 1)) (g p m) fun d => if d = true then .ret (p, m, q) else kas_desc f p (m + 1) (q + 1)) _
    have hrest : g p m = m := D.rest m (by (first | lia | omega)) (by (first | lia | omega))
    split
    · rename_i hlt
      -- the next is smaller than all before
      have small : ∀ a, a < m → lt (g p m) (g p a) = true := by
        intro a ha
        by_cases h1 : m - (q + 1) ≤ a
        · rcases O.ntr _ (g p a) _ hlt with h | h
          · exact h
          · rw [D.same a (m - 1) h1 ha (by (first | lia | omega)) (by (first | lia | omega))] at h; cases h
        · exact O.tr _ _ _ hlt (D.less a (m - 1) (by (first | lia | omega)) (by (first | lia | omega)) (by (first | lia | omega)))
      split
      · obtain ⟨f1, f2, f3⟩ := D.flip O hp
        refine kAll_mono (fun r hr => ⟨hr.1, hr.2.1, by (first | lia | omega), hr.2.2.2.1, hr.2.2.2.2⟩) _ (desc_all O f _ (m + 1) 0 (hp.rev _ _) (by (first | lia | omega)) (by (first | lia | omega)) ⟨?_, ?_, ?_, ?_, by (first | lia | omega), ?_⟩)
        · intro a b hab hb
          exact f1 a b hab (by (first | lia | omega))
        · intro a b ha h1 h2
          have : b = m := by (first | lia | omega)
          subst this
          obtain ⟨a', ha', _, e'⟩ := f3 a (by (first | lia | omega))
          rw [e', f2 b (by (first | lia | omega)) (by (first | lia | omega))]
          have := small a' ha'
          rw [hrest] at this; exact this
        · intro a b h1 h2 h3 h4
          have : a = b := by (first | lia | omega)
          subst this; exact O.irr _
        · intro k h1 h2
          refine f2 k (by (first | lia | omega)) ?_
          rw [kas_rev_size] at h2; exact h2
        · rw [kas_rev_size]; (first | lia | omega)
      · rename_i hq0
        have hq0 : q = 0 := by (first | lia | omega)
        subst hq0
        refine kAll_mono (fun r hr => ⟨hr.1, hr.2.1, by (first | lia | omega), hr.2.2.2.1, hr.2.2.2.2⟩) _ (desc_all O f _ (m + 1) 0 hp (by (first | lia | omega)) (by (first | lia | omega)) ⟨?_, ?_, ?_, ?_, by (first | lia | omega), by (first | lia | omega)⟩)
        · intro a b hab hb
          by_cases h1 : b < m - 1
          · exact D.down a b hab (by (first | lia | omega))
          · exact O.R_of (D.less a b (by (first | lia | omega)) (by (first | lia | omega)) (by (first | lia | omega)))
        · intro a b ha h1 h2
          have : b = m := by (first | lia | omega)
          subst this
          exact small a (by (first | lia | omega))
        · intro a b h1 h2 h3 h4
          have : a = b := by (first | lia | omega)
          subst this; exact O.irr _
        · intro k h1 h2
          exact D.rest k (by (first | lia | omega)) h2
    · rename_i hlt
      refine ⟨hp.may (by (first | lia | omega)) (by (first | lia | omega)) (by (first | lia | omega)), ?_⟩
      show kAll _ _ (if lt (g p (m - 1)) (g p m) = true then .ret (p, m, q) else kas_desc f p (m + 1) (q + 1)) _
      split
      · exact ⟨hp, hq, Nat.le_refl _, (by show m ≤ n; (first | lia | omega)), D⟩
      · rename_i hgt
        have h1 : lt (g p m) (g p (m - 1)) = false := by simpa using hlt
        have h2 : lt (g p (m - 1)) (g p m) = false := by simpa using hgt
        have hb : ∀ a, m - (q + 1) ≤ a → a < m → lt (g p m) (g p a) = false ∧ lt (g p a) (g p m) = false := fun a h3 h4 =>
          ⟨O.eq_trans h1 (D.same _ _ (by (first | lia | omega)) (by (first | lia | omega)) h3 h4), O.eq_trans (D.same a (m - 1) h3 h4 (by (first | lia | omega)) (by (first | lia | omega))) h2⟩
        have em : m + 1 - (q + 1 + 1) = m - (q + 1) := by (first | lia | omega)
        refine kAll_mono (fun r hr => ⟨hr.1, hr.2.1, by (first | lia | omega), hr.2.2.2.1, hr.2.2.2.2⟩) _ (desc_all O f p (m + 1) (q + 1) hp (by (first | lia | omega)) (by (first | lia | omega)) (em ▸ ⟨D.down, ?_, ?_, D.rest, by (first | lia | omega), by (first | lia | omega)⟩))
        · intro a b ha h3 h4
          by_cases e : b = m
          · subst e
            have h5 := D.less a (b - 1) ha (by (first | lia | omega)) (by (first | lia | omega))
            rcases O.ntr _ (g p b) _ h5 with h | h
            · rw [h2] at h; cases h
            · exact h
          · exact D.less a b ha h3 (by (first | lia | omega))
        · intro a b h3 h4 h5 h6
          by_cases ea : a = m
          · subst ea
            by_cases eb : b = a
            · subst eb; exact O.irr _
            · exact (hb b h5 (by (first | lia | omega))).1
          · by_cases eb : b = m
            · subst eb; exact (hb a h3 (by (first | lia | omega))).2
            · exact D.same a b h3 (by (first | lia | omega)) h5 (by (first | lia | omega))
theorem POk.below (hp : POk n p) {m : Nat} (hm : m ≤ n) (rest : ∀ k, m ≤ k → k < n → g p k = k) {a : Nat} (ha : a < m) : g p a < m := by
  rcases Nat.lt_or_ge (g p a) m with h | h
  · exact h
  · have h1 := hp.bd (k := a) (by (first | lia | omega))
    have h2 := rest _ h h1
    have := hp.inj (a := g p a) (b := a) h1 (by (first | lia | omega)) h2
    (first | lia | omega)
structure Run (lt : Nat → Nat → Bool) (n : Nat) (r : Nat × Array Nat) : Prop where
  ok : POk n r.2
  lo : 1 ≤ r.1
  hi : r.1 ≤ n
  up : Up lt r.2 r.1
  rest : ∀ k, r.1 ≤ k → k < n → g r.2 k = k
theorem tail3_all (O : SWO lt) {m : Nat} (hp : POk n p) (h1 : 1 ≤ m) (hm : m ≤ n) (dn : ∀ a b, a < b → b < m → Rr lt (g p b) (g p a)) (rest : ∀ k, m ≤ k → k < n → g p k = k) : kAll (okN n) lt (kas_tail3 m n p) (Run lt n) := by
  have hsz := hp.size
  have hms : m ≤ p.size := by rw [hsz]; exact hm
  refine kAll_bind _ (kAll_mono (fun k hk => ?_) _ (asc_all (hp.rev 0 m) (n - m) m h1 (Nat.add_sub_of_le hm)))
  obtain ⟨k1, k2, k3, _⟩ := hk
  have e1 : ∀ a M, M + a + 1 = m → g (kas_rev p 0 m) a = g p M := fun a M ha => by
    have e : 0 + m - 1 - a = M := by first | lia | omega
    rw [g_rev hms, if_pos ⟨Nat.zero_le _, by first | lia | omega⟩, e]
  have e2 : ∀ a, m ≤ a → a < n → g (kas_rev p 0 m) a = a := fun a ha h => by rw [g_rev hms, if_neg (fun h => absurd h.2 (Nat.not_lt.mpr ha))]; exact rest a ha h
  refine ⟨hp.rev 0 m, Nat.le_trans h1 k1, k2, Up.of_adj O fun j h2 h3 => ?_, fun j h2 h3 => e2 j (Nat.le_trans k1 h2) h3⟩
  have h3' : j < k := h3
  clear h3
  obtain ⟨i, rfl⟩ : ∃ i, j = i + 1 := ⟨j - 1, (Nat.sub_add_cancel h2).symm⟩
  have bel := hp.below hm rest (a := 0) h1
  by_cases hj : i + 1 < m
  · obtain ⟨M, hM⟩ : ∃ M, m = M + (i + 1) + 1 := ⟨m - (i + 1) - 1, by first | lia | omega⟩
    show Rr lt (g (kas_rev p 0 m) i) (g (kas_rev p 0 m) (i + 1))
    rw [e1 i (M + 1) (by first | lia | omega), e1 (i + 1) M hM.symm]
    exact dn _ _ (Nat.lt_succ_self M) (by first | lia | omega)
  · have hj := Nat.le_of_not_lt hj
    have hn : i + 1 < n := Nat.lt_of_lt_of_le h3' k2
    refine ⟨k3 (i + 1) hj h3', .inr ?_⟩
    show g (kas_rev p 0 m) i < g (kas_rev p 0 m) (i + 1)
    rw [e2 (i + 1) hj hn]
    by_cases hj2 : i < m
    · rw [e1 i 0 (by first | lia | omega)]
      exact Nat.lt_of_lt_of_le bel hj
    · rw [e2 _ (Nat.le_of_not_lt hj2) (Nat.lt_of_succ_lt hn)]; exact Nat.lt_succ_self i
theorem descPart_all (O : SWO lt) {m : Nat} (hp : POk n p) (h1 : 1 ≤ m) (hm : m + 1 ≤ n) (dn : ∀ a b, a < b → b < m → Rr lt (g p b) (g p a)) (rest : ∀ k, m ≤ k → k < n → g p k = k) (less : ∀ a, a < m → lt (g p m) (g p a) = true) :
    kAll (okN n) lt (kas_descPart m n p) (Run lt n) := by
  have hsz := hp.size
  have D : Dn lt p (m + 1 - (0 + 1)) (m + 1) := by
    refine ⟨fun a b h2 h3 => dn a b h2 h3, fun a b h2 h3 h4 => ?_, fun a b h2 h3 h4 h5 => ?_, fun k h2 h3 => rest k h2 (hsz ▸ h3), Nat.lt_succ_self m, hsz.symm ▸ hm⟩
    · have : b = m := Nat.le_antisymm (Nat.le_of_lt_succ h4) h3
      subst this; exact less a h2
    · have : a = b := Nat.le_antisymm (Nat.le_trans (Nat.le_of_lt_succ h3) h4) (Nat.le_trans (Nat.le_of_lt_succ h5) h2)
      subst this; exact O.irr _
  refine kAll_bind _ (kAll_mono (fun r hr => ?_) _ (desc_all O (n - (m + 1)) p (m + 1) 0 hp (Nat.add_sub_of_le hm) (Nat.succ_le_succ (Nat.zero_le _)) D))
  obtain ⟨hr1, hr2, hr3, hr4, hD⟩ := hr
  have hsz2 := hr1.size
  obtain ⟨f1, f2, _⟩ := hD.flip O hr1
  have r1 : 1 ≤ r.2.1 := Nat.le_trans (Nat.le_add_left 1 _) hr2
  show kAll _ _ (if r.2.2 > 0 then kas_tail3 r.2.1 n (kas_rev r.1 (r.2.1 - (r.2.2 + 1)) r.2.1) else kas_tail3 r.2.1 n r.1) _
  split
  · exact tail3_all O (hr1.rev _ _) r1 hr4 f1 fun k h2 h3 => f2 k h2 (hsz2.symm ▸ h3)
  · rename_i hq
    have hq : r.2.2 = 0 := Nat.eq_zero_of_not_pos hq
    refine tail3_all O hr1 r1 hr4 (fun a b h2 h3 => ?_) fun k h2 h3 => hD.rest k (Nat.le_trans (Nat.sub_le _ _) h2) (hsz2.symm ▸ h3)
    by_cases h4 : b < r.2.1 - (r.2.2 + 1)
    · exact hD.down a b h2 h4
    · exact O.R_of (hD.less a b (by rw [hq]; exact Nat.lt_of_lt_of_le h2 (Nat.le_sub_one_of_lt h3)) (Nat.le_of_not_lt h4) h3)
theorem g_range {k : Nat} (h : k < n) : g (List.range n).toArray k = k := g_of (by simp [h])
theorem POk.range (n : Nat) : POk n (List.range n).toArray := ⟨.refl _⟩
theorem count_all (O : SWO lt) (hn : 1 ≤ n) : kAll (okN n) lt (kas_count n (List.range n).toArray) (Run lt n) := by
  have hp := POk.range n
  refine kAll_bind _ (kAll_mono (fun m hm => ?_) _ (asc_all hp (n - 1) 1 (Nat.le_refl _) (by (first | lia | omega))))
  obtain ⟨m1, m2, m3, m4⟩ := hm
  have adj : Up lt (List.range n).toArray m := Up.of_adj O fun k h1 h2 => ⟨m3 k h1 h2, .inr (by rw [g_range (by (first | lia | omega)), g_range (by (first | lia | omega))]; (first | lia | omega))⟩
  have run : Run lt n (m, (List.range n).toArray) := ⟨hp, m1, m2, adj, fun k _ h => g_range h⟩
  show kAll _ _ (if (m == n) = true then .ret (m, (List.range n).toArray) else if m > 1 then .ask (g (List.range n).toArray 0) (g (List.range n).toArray (m - 1)) fun c => if c = true then .ret (m, (List.range n).toArray) else kas_descPart m n (kas_rev (List.range n).toArray 0 m)
    else kas_descPart m n (List.range n).toArray) _
  split
  · exact run
  · rename_i hmn
    have hmn : m < n := by
      have : m ≠ n := by simpa using hmn
      (first | lia | omega)
    have h4 := m4 hmn
    split
    · rename_i hm1
      refine ⟨hp.may (by (first | lia | omega)) (by (first | lia | omega)) (by (first | lia | omega)), ?_⟩
      show kAll _ _ (if lt (g (List.range n).toArray 0) (g (List.range n).toArray (m - 1)) = true then .ret (m, (List.range n).toArray) else kas_descPart m n (kas_rev (List.range n).toArray 0 m)) _
      split
      · exact run
      · rename_i hc
        have hc : lt 0 (m - 1) = false := by rw [g_range (by (first | lia | omega)), g_range (by (first | lia | omega))] at hc; simpa using hc
        have up : ∀ a b, a < b → b < m → lt b a = false := fun a b h1 h2 => by
          have := (adj a b h1 h2).1
          rw [g_range (by (first | lia | omega)), g_range (by (first | lia | omega))] at this; exact this
        have up' : ∀ a b, a ≤ b → b < m → lt b a = false := fun a b h1 h2 => by
          rcases Nat.lt_or_ge a b with h | h
          · exact up a b h h2
          · have : a = b := by (first | lia | omega)
            subst this; exact O.irr _
        have eq : ∀ a b, a < m → b < m → lt a b = false := fun a b h1 h2 => by
          cases q : lt a b with
          | false => rfl
          | true =>
            rcases O.ntr a (m - 1) b q with h | h
            · rcases O.ntr a 0 (m - 1) h with h | h
              · rw [up' 0 a (by (first | lia | omega)) h1] at h; cases h
              · rw [hc] at h; cases h
            · rw [up' b (m - 1) (by (first | lia | omega)) (by (first | lia | omega))] at h; cases h
        have hsr : m ≤ (List.range n).toArray.size := by rw [List.size_toArray, List.length_range]; exact Nat.le_of_lt hmn
        have e1 : ∀ a M, M + a + 1 = m → g (kas_rev (List.range n).toArray 0 m) a = M := fun a M ha => by
          have e : 0 + m - 1 - a = M := by first | lia | omega
          rw [g_rev hsr, if_pos ⟨Nat.zero_le _, by first | lia | omega⟩, e, g_range (by first | lia | omega)]
        have e2 : ∀ a, m ≤ a → a < n → g (kas_rev (List.range n).toArray 0 m) a = a := fun a ha h => by
          rw [g_rev hsr, if_neg (fun h => absurd h.2 (Nat.not_lt.mpr ha)), g_range h]
        refine descPart_all O (hp.rev 0 m) m1 hmn (fun a b h1 h2 => ?_) (fun k h1 h2 => e2 k h1 h2) (fun a ha => ?_)
        · obtain ⟨A, hA⟩ : ∃ A, A + a + 1 = m := ⟨m - a - 1, by first | lia | omega⟩
          obtain ⟨B, hB⟩ : ∃ B, B + b + 1 = m := ⟨m - b - 1, by first | lia | omega⟩
          rw [e1 a A hA, e1 b B hB]
          exact ⟨eq _ _ (by first | lia | omega) (by first | lia | omega), .inr (by first | lia | omega)⟩
        · obtain ⟨A, hA⟩ : ∃ A, A + a + 1 = m := ⟨m - a - 1, by first | lia | omega⟩
          rw [e1 a A hA, e2 m (Nat.le_refl _) hmn]
          rw [g_range hmn, g_range (by first | lia | omega)] at h4
          rcases O.ntr m A (m - 1) h4 with h | h
          · exact h
          · rw [eq _ _ (by first | lia | omega) (by first | lia | omega)] at h; cases h
    · rename_i hm1
      have hm1 : m = 1 := by (first | lia | omega)
      subst hm1
      refine descPart_all O hp (Nat.le_refl _) (by (first | lia | omega)) (fun a b h1 h2 => absurd h2 (by (first | lia | omega))) (fun k h1 h2 => g_range h2) (fun a ha => ?_)
      have : a = 0 := by (first | lia | omega)
      subst this; exact h4
theorem place_mid {l r f : Nat} (h : l < r) (h3 : r - l ≤ f + 1) : l ≤ (l + r) / 2 ∧ (l + r) / 2 < r ∧ (l + r) / 2 - l ≤ f ∧ r - ((l + r) / 2 + 1) ≤ f := by
  have a : l ≤ (l + r) / 2 := (Nat.le_div_iff_mul_le Nat.two_pos).mpr (by lia)
  have b : (l + r) / 2 < r := Nat.div_lt_of_lt_mul (by lia)
  have h4 : r ≤ f + 1 + l := Nat.sub_le_iff_le_add.mp h3
  clear h h3
  generalize (l + r) / 2 = c at a b ⊢
  exact ⟨a, b, Nat.sub_le_iff_le_add.mpr (by lia), Nat.sub_le_iff_le_add.mpr (by lia)⟩
theorem place_all (O : SWO lt) {k : Nat} (hp : POk n p) (hk : k < n) (up : Up lt p k) : ∀ (f l r : Nat), l ≤ r → r ≤ k → r - l ≤ f → (∀ a, a < l → lt (g p k) (g p a) = false) → (∀ a, r ≤ a → a < k → lt (g p k) (g p a) = true) →
    kAll (okN n) lt (kas_place p k f l r) fun l' => l' ≤ k ∧ (∀ a, a < l' → lt (g p k) (g p a) = false) ∧ (∀ a, l' ≤ a → a < k → lt (g p k) (g p a) = true)
  | 0, l, r, h1, h2, h3, ha, hb => ⟨Nat.le_trans h1 h2, ha, fun a h4 h5 => hb a (Nat.le_trans (Nat.sub_eq_zero_iff_le.mp (Nat.le_zero.mp h3)) h4) h5⟩
  | f + 1, l, r, h1, h2, h3, ha, hb => by
    show kAll _ _ (if l ≥ r then .ret l else .ask (g p k) (g p ((l + r) / 2)) fun c => if c = true then kas_place p k f l ((l + r) / 2) else kas_place p k f ((l + r) / 2 + 1) r) _
    split
    · rename_i h
      exact ⟨Nat.le_trans h1 h2, ha, fun a h4 h5 => hb a (Nat.le_trans h h4) h5⟩
    · rename_i hlr
      have hm := place_mid (Nat.lt_of_not_le hlr) h3
      generalize (l + r) / 2 = c at hm ⊢
      obtain ⟨m1, m2, m3, m4⟩ := hm
      have ck : c < k := Nat.lt_of_lt_of_le m2 h2
      refine ⟨hp.may hk (Nat.lt_trans ck hk) (Nat.ne_of_gt ck), ?_⟩
      show kAll _ _ (if lt (g p k) (g p c) = true then kas_place p k f l c else kas_place p k f (c + 1) r) _
      split
      · rename_i hc
        refine place_all O hp hk up f l _ m1 (Nat.le_of_lt ck) m3 ha fun a h4 h5 => ?_
        by_cases e : a = c
        · subst e; exact hc
        · rcases O.ntr _ (g p a) _ hc with h | h
          · exact h
          · rw [(up c a (Nat.lt_of_le_of_ne h4 (Ne.symm e)) h5).1] at h; cases h
      · rename_i hc
        have hc : lt (g p k) (g p c) = false := by simpa using hc
        refine place_all O hp hk up f _ r m2 h2 m4 (fun a h4 => ?_) hb
        by_cases e : a = c
        · subst e; exact hc
        · exact O.eq_trans hc (up a c (Nat.lt_of_le_of_ne (Nat.le_of_lt_succ h4) e) ck).1
theorem bin_all (O : SWO lt) : ∀ (f : Nat) (p : Array Nat) (k : Nat), POk n p → k + f = n → Up lt p k → (∀ j, k ≤ j → j < n → g p j = j) → kAll (okN n) lt (kas_bin f p k) fun r => POk n r ∧ Up lt r n
  | 0, p, k, hp, hk, up, _ => ⟨hp, by have : k = n := hk
                                      subst this; exact up⟩
  | f + 1, p, k, hp, hk, up, rest => by
    have hsz := hp.size
    have hkn : k < n := by first | lia | omega
    refine kAll_bind _ (kAll_mono (fun l hl => ?_) _ (place_all O hp hkn up k 0 k (Nat.zero_le _) (Nat.le_refl _) (Nat.sub_le _ _) (fun a h => absurd h (Nat.not_lt_zero _)) (fun a h1 h2 => absurd h2 (Nat.not_lt.mpr h1))))
    obtain ⟨l1, l2, l3⟩ := hl
    have gb : ∀ j, g (bubble p k (k - l)) j = if j = l then g p k else if l < j ∧ j ≤ k then g p (j - 1) else g p j := fun j => by
      have := g_bub (p := p) (src := k) (d := k - l) (by rw [hsz]; exact hkn) (Nat.sub_le _ _) j
      rw [Nat.sub_sub_self l1] at this; exact this
    have pk := rest k (Nat.le_refl _) hkn
    have bel : ∀ a, a < k → g p a < k := fun a ha => hp.below (Nat.le_of_lt hkn) rest ha
    have hkf : k + 1 + f = n := by first | lia | omega
    refine bin_all O f _ (k + 1) (hp.bub _ _) hkf (fun a b hab hb => ?_) (fun j h1 h2 => ?_)
    · have hb := Nat.le_of_lt_succ hb
      have low : ∀ a, a < l → Rr lt (g p a) (g p k) := fun a ha => ⟨l2 a ha, .inr (by rw [pk]; exact bel a (Nat.lt_of_lt_of_le ha l1))⟩
      have high : ∀ a, l ≤ a → a < k → Rr lt (g p k) (g p a) := fun a h1 h2 => O.R_of (l3 a h1 h2)
      clear rest bel l2 l3 pk hkf hkn hk
      rw [gb, gb]
      by_cases h1 : a = l
      · subst h1
        rw [if_pos rfl, if_neg (Nat.ne_of_gt hab), if_pos ⟨hab, hb⟩]
        exact high _ (Nat.le_sub_one_of_lt hab) (Nat.lt_of_lt_of_le (Nat.sub_lt (Nat.zero_lt_of_lt hab) Nat.one_pos) hb)
      · rw [if_neg h1]
        by_cases h2 : b = l
        · subst h2
          rw [if_pos rfl, if_neg (fun h => absurd h.1 (Nat.not_lt.mpr (Nat.le_of_lt hab)))]
          exact low a hab
        · rw [if_neg h2]
          by_cases h3 : l < a
          · rw [if_pos ⟨h3, Nat.le_trans (Nat.le_of_lt hab) hb⟩, if_pos ⟨Nat.lt_trans h3 hab, hb⟩]
            obtain ⟨a, rfl⟩ : ∃ x, a = x + 1 := ⟨a - 1, (Nat.sub_add_cancel (Nat.zero_lt_of_lt h3)).symm⟩
            obtain ⟨b, rfl⟩ : ∃ x, b = x + 1 := ⟨b - 1, (Nat.sub_add_cancel (Nat.zero_lt_of_lt hab)).symm⟩
            exact up _ _ (Nat.lt_of_succ_lt_succ hab) hb
          · rw [if_neg (fun h => h3 h.1)]
            have hal : a < l := Nat.lt_of_le_of_ne (Nat.le_of_not_lt h3) h1
            by_cases h4 : l < b
            · rw [if_pos ⟨h4, hb⟩]
              exact up _ _ (Nat.lt_of_lt_of_le hal (Nat.le_sub_one_of_lt h4)) (Nat.lt_of_lt_of_le (Nat.sub_lt (Nat.zero_lt_of_lt h4) Nat.one_pos) hb)
            · rw [if_neg (fun h => h4 h.1)]
              exact up _ _ hab (Nat.lt_of_lt_of_le (Nat.lt_of_le_of_ne (Nat.le_of_not_lt h4) h2) l1)
    · rw [gb, if_neg (by first | lia | omega), if_neg (fun h => absurd h.2 (Nat.not_le.mpr h1))]
      exact rest j (Nat.le_of_succ_le h1) h2
theorem sort_all (O : SWO lt) (hn : 1 ≤ n) : kAll (okN n) lt (kas_sort n) fun p => POk n p ∧ Up lt p n := by
  refine kAll_bind _ (kAll_mono (fun r hr => ?_) _ (count_all O hn))
  show kAll _ _ (if r.1 < n then kas_bin (n - max r.1 1) r.2 (max r.1 1) else .ret r.2) _
  have lo := hr.lo
  have hi := hr.hi
  have em : max r.1 1 = r.1 := by (first | lia | omega)
  rw [em]
  split
  · exact bin_all O _ _ _ hr.ok (by (first | lia | omega)) hr.up hr.rest
  · refine ⟨hr.ok, ?_⟩
    have : r.1 = n := by (first | lia | omega)
    rw [← this]; exact hr.up
end
end
section
section
variable {prog : Program} {w : World} {A : Around} {E : Value → Shared → Prop} {s : Shared}
theorem sorted_few {l : Addr} {vs : List Value} {Q : Value → Shared → Prop} (hl : s.heap.IsList l vs.toArray) (h2 : vs.length < 2)
    (h : Q (.ref (s.heap.objs.size + 1)) { s with heap := sortedAll s.heap vs vs.toArray }) : wpAny (model prog w) A (call (.builtin "sorted") [.ref l]) Q E s := by
  have h64 : vs.length < 64 := by (first | lia | omega)
  refine Calls.call_function_entry kind_sorted plain_sorted entry_sorted (args_sorted1 _) ?_
  unfold Builtin.«sorted»
  refine wpAny_bind (m := checkCount "sorted" 1 1 _) (wpAny_pure ?_)
  refine wpAny_bind (collect_list hl ?_)
  refine wpAny_bind (wpAny_newList ?_)
  have hsz : ((s.heap.push (seqObj "list" #[] 0)).update s.heap.objs.size (Obj.mapSeq (· ++ vs.toArray))).objs.size = s.heap.objs.size + 1 := by
    rw [Heap.size_update, size_push']
  have hoL : (((s.heap.push (seqObj "list" #[] 0)).update s.heap.objs.size (Obj.mapSeq (· ++ vs.toArray))).push (seqObj "list" vs.toArray 0)).get? (s.heap.objs.size + 1) = some (seqObj "list" vs.toArray 0) := by
    rw [← hsz]; exact Heap.get?_push_size _ rfl
  show wpAny _ _ _ _ _ { s with heap := ((s.heap.push (seqObj "list" #[] 0)).update s.heap.objs.size (Obj.mapSeq (· ++ vs.toArray))).push (seqObj "list" vs.toArray 0) }
  rw [hsz]
  generalize hH : ((s.heap.push (seqObj "list" #[] 0)).update s.heap.objs.size (Obj.mapSeq (· ++ vs.toArray))).push (seqObj "list" vs.toArray 0) = H at hoL
  have hfin : sortedHeap H (s.heap.objs.size + 1) vs vs.toArray = sortedAll s.heap vs vs.toArray := by rw [← hH]; rfl
  rw [← hfin] at h
  refine wpAny_bind (wpAny_holding (wpAny_call_entry slot_list_sort ⟨_, hoL, rfl⟩ entry_list_sort ?_ (args_list_sort _)))
  rw [list_sort_plain]
  have ha : s.heap.objs.size + 1 < H.objs.size := Heap.lt_size hoL
  refine wpAny_bind (listItems_at hoL rfl (wpAny_bind (listUpdate_at hoL rfl ?_)))
  obtain ⟨e1, ho1⟩ : ∃ e1, (H.update (s.heap.objs.size + 1) (Obj.mapSeq fun _ => #[])).get? (s.heap.objs.size + 1) = some (seqObj "list" #[] e1) := ⟨_, get?_update_seq hoL (fun _ => #[])⟩
  refine wpAny_bind (seqEpoch_at ho1 rfl (wpAny_bind (wpAny_newTuple (wpAny_bind (wpAny_newList (wpAny_holding ?_))))))
  have ho6 : (((H.update (s.heap.objs.size + 1) (Obj.mapSeq fun _ => #[])).push (seqObj "tuple" vs.toArray 0)).push (seqObj "list" #[] 0)).get? (s.heap.objs.size + 1) = some (seqObj "list" #[] e1) := by
    rw [Heap.get?_push_ne _ _ _ (by rw [size_push', Heap.size_update]; exact Nat.ne_of_lt (Nat.lt_succ_of_lt ha)), Heap.get?_push_ne _ _ _ (by rw [Heap.size_update]; exact Nat.ne_of_lt ha)]
    exact ho1
  have hlt : vs.toArray.size < 2 := by simpa using h2
  show wpAny (model prog w) _ _ _ E { s with heap := ((H.update (s.heap.objs.size + 1) (Obj.mapSeq fun _ => #[])).push (seqObj "tuple" vs.toArray 0)).push (seqObj "list" #[] 0) }
  dsimp only
  rw [if_pos hlt, if_pos hlt]
  refine wpAny_bind (wpAny_pure ?_)
  rw [StateT.run_pure]
  refine wpAny_bind (wpAny_pure ?_)
  dsimp only
  have hout : (arrOf (SortSt.mk' general' (vs.toArray.zip vs.toArray) #[] 7 none)).map (·.2) = vs.toArray := by
    show (vs.toArray.zip vs.toArray).map (·.2) = vs.toArray
    apply Array.toList_inj.mp
    simp [List.map_snd_zip]
  rw [hout]
  refine wpAny_bind (seqEpoch_at ho6 rfl (wpAny_bind (listUpdate_at ho6 rfl ?_ (hsz2 := by rw [List.size_toArray, sizeLine_eq]; (first | lia | omega)))))
  simp only [bne_self_eq_false, Bool.false_eq_true, if_false]
  exact wpAny_pure ⟨_, rfl, wpAny_pure ⟨_, rfl, h⟩⟩
end
noncomputable def rk : PV → Int × Int
  | .lst (.int a :: .int b :: _) => (a, b)
  | _ => (0, 0)
noncomputable def isRow (p : PV) : Prop := ∃ a b r, p = .lst (.int a :: .int b :: r)
noncomputable def lexlt (a b : Int × Int) : Bool := decide (a.1 < b.1 ∨ (a.1 = b.1 ∧ a.2 < b.2))
theorem lex_tr {a1 a2 b1 b2 c1 c2 : Int} (h1 : a1 < b1 ∨ (a1 = b1 ∧ a2 < b2)) (h2 : b1 < c1 ∨ (b1 = c1 ∧ b2 < c2)) : a1 < c1 ∨ (a1 = c1 ∧ a2 < c2) := by
  rcases h1 with p | ⟨rfl, q⟩
  · rcases h2 with r | ⟨rfl, _⟩
    · exact .inl (Int.lt_trans p r)
    · exact .inl p
  · rcases h2 with r | ⟨rfl, s⟩
    · exact .inl r
    · exact .inr ⟨rfl, Int.lt_trans q s⟩
theorem lex_ntr {a1 a2 b1 b2 c1 c2 : Int} (h : a1 < c1 ∨ (a1 = c1 ∧ a2 < c2)) : (a1 < b1 ∨ (a1 = b1 ∧ a2 < b2)) ∨ (b1 < c1 ∨ (b1 = c1 ∧ b2 < c2)) := by
  rcases Int.lt_trichotomy a1 b1 with p | rfl | p
  · exact .inl (.inl p)
  · rcases h with q | ⟨rfl, r⟩
    · exact .inr (.inl q)
    · rcases Int.lt_or_le a2 b2 with s | s
      · exact .inl (.inr ⟨rfl, s⟩)
      · exact .inr (.inr ⟨rfl, Int.lt_of_le_of_lt s r⟩)
  · rcases h with q | ⟨rfl, r⟩
    · exact .inr (.inl (Int.lt_trans p q))
    · exact .inr (.inl p)
theorem lex_conv {x y x' y' : Int} (h : ¬ (x' < x ∨ (x' = x ∧ y' < y))) (hne : x ≠ x' ∨ y ≠ y') : x < x' ∨ (x = x' ∧ y < y') := by
  rcases Int.lt_trichotomy x x' with p | rfl | p
  · exact .inl p
  · rcases Int.lt_trichotomy y y' with q | rfl | q
    · exact .inr ⟨rfl, q⟩
    · exact (hne.elim (fun h => h rfl) fun h => h rfl).elim
    · exact absurd (.inr ⟨rfl, q⟩) h
  · exact absurd (.inl p) h
theorem lexlt_swo (f : Nat → Int × Int) : SWO fun i j => lexlt (f i) (f j) := by
  refine ⟨fun i => ?_, fun i j k h1 h2 => ?_, fun i j k h => ?_⟩
  · simp [lexlt]
  · exact decide_eq_true (lex_tr (of_decide_eq_true h1) (of_decide_eq_true h2))
  · exact (lex_ntr (of_decide_eq_true h)).imp decide_eq_true decide_eq_true
theorem VRep.lst_inv {I : Led} {v : Value} {l : List PV} (h : VRep I v (.lst l)) : ∃ c us k, v = .ref c ∧ (c, W.listOf us.toArray k) ∈ I ∧ VAll I us l := by
  cases h using VRep.casesLst with | lst hm r => exact ⟨_, _, _, rfl, hm, r⟩
theorem VAll.getD {I : Led} {vs : List Value} {l : List PV} (h : VAll I vs l) {i : Nat} (hi : i < vs.length) : VRep I (vs.getD i .none) (l.getD i .none) := by
  obtain ⟨p, hp, hr⟩ := h.getV (k := i) (v := vs[i]) (List.getElem?_eq_getElem hi)
  have e1 : vs.getD i .none = vs[i] := by rw [List.getD_eq_getElem?_getD, List.getElem?_eq_getElem hi]; rfl
  have e2 : l.getD i .none = p := by rw [List.getD_eq_getElem?_getD, hp]; rfl
  rw [e1, e2]; exact hr
theorem VAll.pickD {I : Led} {vs : List Value} {l : List PV} (h : VAll I vs l) : ∀ {is : List Nat}, (∀ i ∈ is, i < vs.length) → VAll I (is.map fun i => vs.getD i .none) (is.map fun i => l.getD i .none)
  | [], _ => .nil
  | i :: is, hi => .cons (h.getD (hi i (.head _))) (h.pickD fun j hj => hi j (.tail _ hj))
theorem map_getD_range {α : Type} (l : List α) (d : α) : (List.range l.length).map (fun i => l.getD i d) = l := by
  apply List.ext_getElem
  · simp
  · intro i h1 h2
    simp [List.getD_eq_getElem?_getD, h2]
section
variable {C : Ctx} {n : Nat} {ρ : Locs} {σ : Store} {τ : Tmp} {s : Shared} {m : Str → Option Value} {S I : Led} {K : PV → Store → Prop} {a : Addr} {l : List PV}
noncomputable def AnyList (σ : Store) (p : PV) (l : List PV) : Prop := p = .lst l ∨ ∃ a, p = .ref a ∧ (a, AObj.list l) ∈ σ
theorem InvD.anyList (D : InvD C ρ σ τ s m S I) {p : PV} {v : Value} (h : AnyList σ p l) (hv : VRep I v p) : ∃ b vs, v = .ref b ∧ s.heap.IsList b vs.toArray ∧ VAll I vs l := by
  rcases h with rfl | ⟨a, rfl, hm⟩
  · exact D.lst hv
  · cases hv
    obtain ⟨us, hl, hr⟩ := D.isList hm
    exact ⟨a, us, rfl, hl, hr⟩
theorem sorted_perm {p : Array Nat} {N : Nat} (hp : POk N p) (hN : N = l.length) : (p.toList.map fun i => l.getD i .none).Perm l := by
  have h1 := (hp.list).map fun i => l.getD i PV.none
  rw [hN, map_getD_range] at h1; exact h1
theorem up_pairwise {p : Array Nat} {N : Nat} (hp : POk N p) {R : Nat → Nat → Prop} (h : ∀ a b, a < b → b < N → R (g p a) (g p b)) : p.toList.Pairwise R := by
  rw [List.pairwise_iff_getElem]
  intro i j hi hj hij
  have hs := hp.size
  rw [Array.length_toList] at hi hj
  have := h i j hij (by (first | lia | omega))
  have e1 : g p i = p.toList[i] := by simp [g, Array.getD, hi]
  have e2 : g p j = p.toList[j] := by simp [g, Array.getD, hj]
  rw [e1, e2] at this
  exact this
theorem keys_ne {l : List PV} (hnd : (l.map rk).Nodup) {i j : Nat} (hi : i < l.length) (hj : j < l.length) (hne : i ≠ j) : rk (l.getD i .none) ≠ rk (l.getD j .none) := by
  intro e
  have hi' : i < (l.map rk).length := by rw [List.length_map]; exact hi
  have e1 : l.getD i .none = l[i] := by rw [List.getD_eq_getElem?_getD, List.getElem?_eq_getElem hi]; rfl
  have e2 : l.getD j .none = l[j] := by rw [List.getD_eq_getElem?_getD, List.getElem?_eq_getElem hj]; rfl
  rw [e1, e2] at e
  refine hne ((List.getElem?_inj hi' hnd).mp ?_)
  rw [List.getElem?_map, List.getElem?_map, List.getElem?_eq_getElem hi, List.getElem?_eq_getElem hj, Option.map_some, Option.map_some, e]
theorem AC.sortedRows {pl : PV} (O : C.Ok n) (hpl : AnyList σ pl l) (hrow : ∀ p ∈ l, isRow p) (hnd : (l.map rk).Nodup) (hz : l.length < 64)
    (k : ∀ l' D, l'.Perm l → l'.Pairwise (fun p q => lexlt (rk p) (rk q) = true) → K (.ref D) ((D, .list l') :: σ)) : AC C ρ σ (.val (.builtin "sorted")) [pl] K := by
  intro τ s vf vs' Q E J hf ha q
  cases J.getVal hf
  obtain ⟨v1, rfl, h1⟩ := ha.one
  refine Inv.out J fun m S I D => ?_
  obtain ⟨b, vs, rfl, hl, hv⟩ := D.anyList hpl (D.tmp _ h1)
  have hlen := hv.length
  by_cases h2 : vs.length < 2
  · refine sorted_few hl h2 ?_
    obtain ⟨e, he⟩ := sortedAll_at s.heap vs vs.toArray
    have D' := D.newS (tk := s.toks) (b := s.heap.objs.size + 1) (ao := .list l) (Nat.le_succ _) (fun _ _ h => sortedAll_old h) he (.list hv)
    refine q _ _ _ _ (k l (s.heap.objs.size + 1) (.refl _) ?_) (D'.more (.val _)).inv
    match l, hlen with
    | [], _ => exact .nil
    | [_], _ => exact List.pairwise_singleton _ _
    | _ :: _ :: _, hlen => simp at hlen; (first | lia | omega)
  · have hT : ∀ h : Heap, News C.h₀ C.env.locals h (S ++ (C.J ++ I)) → ∀ v ∈ vs, ∃ c us k, v = .ref c ∧ h.get? c = some (W.listOf us k) ∧ True := by
      intro h N v hv'
      obtain ⟨i, hi, rfl⟩ := List.mem_iff_getElem.mp hv'
      obtain ⟨p, hp, hr⟩ := hv.getV (k := i) (v := vs[i]) (List.getElem?_eq_getElem hi)
      obtain ⟨x, y, r, rfl⟩ := hrow p (List.mem_of_getElem? hp)
      obtain ⟨c, us, k, e, hm, _⟩ := hr.lst_inv
      exact ⟨c, _, k, e, (N _ (mem3.mpr (.inr (.inr hm)))).1, trivial⟩
    refine kas_sorted (T := .type "list") D.F D.N hl (by (first | lia | omega)) (by (first | lia | omega)) (fun h F' N' v hv' => ?_) (by decide) fun Dd e1 h' F' N' l1 => ?_
    · obtain ⟨c, us, k, rfl, hc, _⟩ := hT h N' v hv'
      exact fun A Q E s ks q => wpAny_typeOf ⟨_, ks _ _ hc, rfl⟩ q
    · have N0 : News C.h₀ C.env.locals h' (S ++ (C.J ++ I)) := fun p hp => N' p (.tail _ hp)
      let f : Nat → Int × Int := fun i => rk (l.getD i .none)
      have O' := lexlt_swo f
      refine kAll_run (ok := okN vs.length) (lt := fun i j => lexlt (f i) (f j)) (fun i j Cc hij hC => ?_) _ (kAll_mono (fun p hp => ?_) _ (sort_all O' (by (first | lia | omega))))
      · -- one comparison
        obtain ⟨hi, hj, hne⟩ := hij
        have row : ∀ i, i < vs.length → ∃ c us k x t y u, vs.getD i .none = .ref c ∧ h'.get? c = some (W.listOf us k) ∧ us[0]? = some (.int x t) ∧ us[1]? = some (.int y u) ∧ f i = (x, y) := by
          intro i hi
          have hr := hv.getD hi
          have hm : l.getD i .none ∈ l := by
            rw [List.getD_eq_getElem?_getD, List.getElem?_eq_getElem (by (first | lia | omega))]
            exact List.getElem_mem _
          obtain ⟨x, y, r, e⟩ := hrow _ hm
          have ef : f i = (x, y) := by show rk _ = _; rw [e]; rfl
          rw [e] at hr
          obtain ⟨c, us, k, e', hm', hall⟩ := hr.lst_inv
          cases hall with
          | cons ha1 hall =>
            cases hall with
            | cons ha2 hall =>
              cases ha1; cases ha2
              exact ⟨c, _, k, x, _, y, _, e', (N0 _ (mem3.mpr (.inr (.inr hm')))).1, rfl, rfl, ef⟩
        obtain ⟨c, us, k1, x, t, y, u, e1, e2, e3, e4, e5⟩ := row i hi
        obtain ⟨c', us', k1', x', t', y', u', e1', e2', e3', e4', e5'⟩ := row j hj
        show wpAny (model C.prog C.w) C.A.in1.in1 (keyLt' oneType' (vs.getD i .none) (vs.getD j .none)) Cc _ _
        rw [e1, e1']
        refine lt_rows ⟨_, e2, rfl, _, rfl⟩ ⟨_, e2', rfl, _, rfl⟩ e3 e3' e4 e4' ⟨_, e2⟩ ⟨_, e2'⟩ ?_ ?_ ?_
        · have hfi : f i ≠ f j := keys_ne hnd (hv.length ▸ hi) (hv.length ▸ hj) hne
          rw [e5, e5'] at hfi
          by_cases hx : x = x'
          · right; intro hy; exact hfi (by rw [hx, hy])
          · exact .inl hx
        · have := O.units; show C.A.units + 1 + 1 < 9900; (first | lia | omega)
        · have : lexlt (f i) (f j) = decide (x < x' ∨ (x = x' ∧ y < y')) := by rw [e5, e5']; rfl
          rw [this] at hC; exact hC
      · obtain ⟨hp, up⟩ := hp
        refine KasFin.intro F' N' (.head fun p hp => Nat.ne_of_lt (l1 p hp)) fun h'' c F'' N'' => ?_
        have hin : ∀ i ∈ p.toList, i < vs.length := fun i hi => List.mem_range.mp (hp.list.mem_iff.mp hi)
        have D' : InvD C ρ ((Dd, .list (p.toList.map fun i => l.getD i .none)) :: σ) τ { s with heap := h'', toks := s.toks } m ([(Dd, W.listOf (List.toArray (p.toList.map fun i => vs.getD i .none)) c)] ++ S) I :=
          D.growS F'' N'' (nodup_fresh l1 D.nd) (.list (hv.pickD hin))
        refine q _ _ _ _ (k _ Dd (sorted_perm hp hlen) ?_) (D'.more (.val _)).inv
        rw [List.pairwise_map]
        refine up_pairwise hp fun a b hab hb => ?_
        have hR := up a b hab hb
        rcases hR.2 with h | h
        · exact h
        · -- equal keys cannot be
          have hlt := hR.1
          have ha' := hp.bd (k := a) (by (first | lia | omega))
          have hb' := hp.bd (k := b) hb
          have hne : f (g p a) ≠ f (g p b) := keys_ne hnd (hv.length ▸ ha') (hv.length ▸ hb') fun e => absurd (hp.inj (Nat.lt_trans hab hb) hb e) (Nat.ne_of_lt hab)
          show lexlt (f (g p a)) (f (g p b)) = true
          have h3 : lexlt (f (g p b)) (f (g p a)) = false := hlt
          simp only [lexlt, decide_eq_true_eq, decide_eq_false_iff_not] at h3 ⊢
          have : (f (g p a)).1 ≠ (f (g p b)).1 ∨ (f (g p a)).2 ≠ (f (g p b)).2 := by
            by_cases hx : (f (g p a)).1 = (f (g p b)).1
            · right; intro hy; exact hne (Prod.ext hx hy)
            · exact .inl hx
          exact lex_conv h3 this
end
end
section
theorem VAll.intsAre {I : Led} : ∀ {ns : List Int} {vs : List Value}, VAll I vs (ns.map .int) → IntsAre vs ns
  | [], _, h => by cases h; exact .nil
  | n :: ns, _, h => by
    cases h with
    | cons h1 h2 =>
      cases h1
      exact .cons n _ (VAll.intsAre h2)
theorem VAll.ofInts {I : Led} {vs : List Value} {ns : List Int} (h : IntsAre vs ns) : VAll I vs (ns.map .int) := by
  induction h with
  | nil => exact .nil
  | cons n t _ ih => exact .cons (.int n t) ih
section
variable {C : Ctx} {n : Nat} {ρ : Locs} {σ : Store} {τ : Tmp} {s : Shared} {m : Str → Option Value} {S I : Led} {K : PV → Store → Prop} {a : Addr} {l : List PV}
theorem AC.sortedI {pl : PV} {ns : List Int} (hpl : AnyList σ pl (ns.map .int)) (hz : ns.length < 64)
    (k : ∀ (ns' : List Int) D, ns'.Perm ns → ns'.Pairwise (· ≤ ·) → K (.ref D) ((D, .list (ns'.map .int)) :: σ)) : AC C ρ σ (.val (.builtin "sorted")) [pl] K := by
  intro τ s vf vs' Q E J hf ha q
  cases J.getVal hf
  obtain ⟨v1, rfl, h1⟩ := ha.one
  refine Inv.out J fun m S I D => ?_
  obtain ⟨b, vs, rfl, hl, hv⟩ := D.anyList hpl (D.tmp _ h1)
  refine kso_sorted D.F D.N hl hv.intsAre hz fun Dd vs' ns' c h' F' N' l1 a1 a2 a3 a4 a5 => ?_
  have D' : InvD C ρ ((Dd, .list (ns'.map .int)) :: σ) τ { s with heap := h', toks := s.toks } m ([(Dd, W.listOf vs'.toArray c)] ++ S) I :=
    D.growS F' N' (nodup_fresh l1 D.nd) (.list (VAll.ofInts a1))
  exact q _ _ _ _ (k ns' Dd a3 a4) (D'.more (.val _)).inv
theorem AC.minL {pl : PV} {ns : List Int} (O : C.Ok n) (hpl : AnyList σ pl (ns.map .int)) (hne : 0 < ns.length) (k : ∀ M, M ∈ ns → (∀ a, a ∈ ns → M ≤ a) → K (.int M) σ) : AC C ρ σ (.val (.builtin "min")) [pl] K := by
  intro τ s vf vs' Q E J hf ha q
  cases J.getVal hf
  obtain ⟨v1, rfl, h1⟩ := ha.one
  refine Inv.out J fun m S I D => ?_
  obtain ⟨b, vs, rfl, hl, hv⟩ := D.anyList hpl (D.tmp _ h1)
  refine kso_min D.F D.N hl hv.intsAre hne O.hh fun h' M t tk F' N' h2 h3 => ?_
  have D' : InvD C ρ σ τ { s with heap := h', toks := tk } m S I := ⟨F', N', D.nd, D.sep, D.sub, D.loc, D.tmp, D.g, D.d, D.os⟩
  exact q _ _ σ _ (k M h2 h3) (D'.more (.int _ _)).inv
theorem AC.listOf {pl : PV} (hpl : AnyList σ pl l) (hz : l.length ≤ 1000) (k : ∀ D, K (.ref D) ((D, .list l) :: σ)) : AC C ρ σ (.val (.type "list")) [pl] K := by
  intro τ s vf vs' Q E J hf ha q
  cases J.getVal hf
  obtain ⟨v1, rfl, h1⟩ := ha.one
  refine Inv.out J fun m S I D => ?_
  obtain ⟨b, vs, rfl, ⟨o, ho, hc, nn, hd⟩, hv⟩ := D.anyList hpl (D.tmp _ h1)
  refine call_list_seq (hsz := by rw [List.size_toArray, hv.length]; exact sizeLine_le hz) b (.inl rfl) ho hc hd fun h' c' hk hD => ?_
  have D' := D.newS (tk := s.toks) (b := s.heap.objs.size) (ao := .list l) (Nat.le_refl _) hk hD (.list hv)
  exact q _ _ _ _ (k _) (D'.more (.val _)).inv
end
end
section
set_option maxHeartbeats 4000000
theorem fo_82_one : FieldOk 82 "one" := by refine ⟨fun w => ?_, fun w => ?_, fun w => ?_, fun w => ?_, fun w => ?_, fun w => ?_⟩ <;> k_is
theorem fo_82_other : FieldOk 82 "other" := by refine ⟨fun w => ?_, fun w => ?_, fun w => ?_, fun w => ?_, fun w => ?_, fun w => ?_⟩ <;> k_is
theorem fo_82_delay : FieldOk 82 "delay" := by refine ⟨fun w => ?_, fun w => ?_, fun w => ?_, fun w => ?_, fun w => ?_, fun w => ?_⟩ <;> k_is
theorem fo_82_is_whole : FieldOk 82 "is_whole" := by refine ⟨fun w => ?_, fun w => ?_, fun w => ?_, fun w => ?_, fun w => ?_, fun w => ?_⟩ <;> k_is
theorem fo_184_rows : FieldOk 184 "rows" := by refine ⟨fun w => ?_, fun w => ?_, fun w => ?_, fun w => ?_, fun w => ?_, fun w => ?_⟩ <;> k_is
theorem fo_184_numbers : FieldOk 184 "numbers" := by refine ⟨fun w => ?_, fun w => ?_, fun w => ?_, fun w => ?_, fun w => ?_, fun w => ?_⟩ <;> k_is
theorem fo_184_flying : FieldOk 184 "flying" := by refine ⟨fun w => ?_, fun w => ?_, fun w => ?_, fun w => ?_, fun w => ?_, fun w => ?_⟩ <;> k_is
theorem fo_184_sent : FieldOk 184 "sent" := by refine ⟨fun w => ?_, fun w => ?_, fun w => ?_, fun w => ?_, fun w => ?_, fun w => ?_⟩ <;> k_is
theorem fo_217_left : FieldOk 217 "left" := by refine ⟨fun w => ?_, fun w => ?_, fun w => ?_, fun w => ?_, fun w => ?_, fun w => ?_⟩ <;> k_is
theorem mo_184_join : MethOk 184 "join" 108 := by refine ⟨fun w => ?_, fun w => ?_, fun w => ?_⟩ <;> k_is
theorem mo_184_wire : MethOk 184 "wire" 115 := by refine ⟨fun w => ?_, fun w => ?_, fun w => ?_⟩ <;> k_is
theorem mo_184_ends : MethOk 184 "ends" 122 := by refine ⟨fun w => ?_, fun w => ?_, fun w => ?_⟩ <;> k_is
theorem mo_184_ports_of : MethOk 184 "ports_of" 127 := by refine ⟨fun w => ?_, fun w => ?_, fun w => ?_⟩ <;> k_is
theorem mo_184_is_whole : MethOk 184 "is_whole" 134 := by refine ⟨fun w => ?_, fun w => ?_, fun w => ?_⟩ <;> k_is
theorem mo_184_cut : MethOk 184 "cut" 139 := by refine ⟨fun w => ?_, fun w => ?_, fun w => ?_⟩ <;> k_is
theorem mo_184_mend : MethOk 184 "mend" 146 := by refine ⟨fun w => ?_, fun w => ?_, fun w => ?_⟩ <;> k_is
theorem mo_184_end_across : MethOk 184 "end_across" 153 := by refine ⟨fun w => ?_, fun w => ?_, fun w => ?_⟩ <;> k_is
theorem mo_184_send : MethOk 184 "send" 160 := by refine ⟨fun w => ?_, fun w => ?_, fun w => ?_⟩ <;> k_is
theorem mo_184_next_time : MethOk 184 "next_time" 167 := by refine ⟨fun w => ?_, fun w => ?_, fun w => ?_⟩ <;> k_is
theorem mo_184_next_arrival : MethOk 184 "next_arrival" 174 := by refine ⟨fun w => ?_, fun w => ?_, fun w => ?_⟩ <;> k_is
theorem mo_184_arrivals : MethOk 184 "arrivals" 181 := by refine ⟨fun w => ?_, fun w => ?_, fun w => ?_⟩ <;> k_is
theorem mo_82_across : MethOk 82 "across" 79 := by refine ⟨fun w => ?_, fun w => ?_, fun w => ?_⟩ <;> k_is
theorem mo_217_due : MethOk 217 "due" 207 := by refine ⟨fun w => ?_, fun w => ?_, fun w => ?_⟩ <;> k_is
theorem mo_217_next_time : MethOk 217 "next_time" 214 := by refine ⟨fun w => ?_, fun w => ?_, fun w => ?_⟩ <;> k_is
end
section
variable {C : Ctx} {ρ : Locs} {σ : Store} {K : PV → Store → Prop} {p : PV}
theorem AO2.isNoneT (k : K (.bool true) σ) : AO2 C ρ σ (compareOp .Is) PV.none PV.none K := AO2.isNoneP k
theorem AO2.isNotNoneF (k : K (.bool false) σ) : AO2 C ρ σ (compareOp .IsNot) PV.none PV.none K := AO2.isNotNoneP k
theorem AO2.isNoneF (h : p.notNone = true) (k : K (.bool false) σ) : AO2 C ρ σ (compareOp .Is) p PV.none K := AO2.isNoneP (by rw [h]; exact k)
theorem AO2.isNotNoneT (h : p.notNone = true) (k : K (.bool true) σ) : AO2 C ρ σ (compareOp .IsNot) p PV.none K := AO2.isNotNoneP (by rw [h]; exact k)
end
local macro_rules | `(tactic| walk_at "mem") => `(tactic| first | assumption | exact List.Mem.head _ | (refine' List.Mem.tail _ ?_; walk_at "mem"))
local macro_rules | `(tactic| walk_at "handed") => `(tactic| first | (intro _ e; cases e; done) | (intro _ e; cases e; rfl) | (intro _ e; cases e <;> rfl))
local macro_rules | `(tactic| walk_at "name") => `(tactic| first
  | refine' AE.loc (by assumption) (by assumption) rfl rfl rfl ?_
  | refine' AE.glob (by assumption) (by assumption) rfl (by k_is) rfl ?_
  | refine' AE.blt (by assumption) (by assumption) rfl (by k_is) (by boot_fast) (by decide) rfl ?_
  | (refine' AE.cell (by assumption) (by assumption) rfl ?kd ?c ?m rfl rfl ?_; (case kd => first | exact .inl rfl | exact .inr rfl); (case c => first | assumption | (simp only [*]; rfl)); (case m => walk_at "mem")))
local macro_rules | `(tactic| walk_at "op") => `(tactic| first
  | refine' AO2.add ?_ | refine' AO2.sub ?_ | refine' AO2.lt ?_ | refine' AO2.le ?_ | refine' AO2.gt ?_ | refine' AO2.ge ?_ | refine' AO2.eqI ?_ | refine' AO2.neI ?_ | refine' AO2.eqS ?_ | refine' AO2.eqB ?_
  | refine' AO2.mod (by first | lia | omega) ?_ | refine' AO2.floordiv (by first | lia | omega) (by first | lia | omega) ?_
  | refine' AO2.isNoneT ?_ | refine' AO2.isNotNoneF ?_ | refine' AO2.isNoneF rfl ?_ | refine' AO2.isNotNoneT rfl ?_)
local macro_rules | `(tactic| walk_at "k") => `(tactic| with_unfolding_none first
  | refine' TurnK.next ?_ | refine' TurnK.ret ?_ | refine' RtK.mk ?_ | refine' ExK.mk ?_ | refine' NxK.mk ?_ | refine' RetK.ret ?_ | refine' RetK.next ?_ | refine' SeqK.next ?_ | refine' SeqK.ret ?_ | refine' CoK.mk ?_ | refine' NegK.t ?_ | refine' NegK.mk ?_
  | refine' IfK.yes ?_ | refine' IfK.no ?_ | refine' OrK.yes ?_ | refine' OrK.no ?_)
local macro_rules | `(tactic| walk_at "aeE") => `(tactic| first
  | ((with_reducible show AE _ _ _ (Expr.Name _ _) _); walk_at "name")
  | with_reducible first | refine' AE.int ?_ | refine' AE.none ?_ | refine' AE.str ?_ | refine' AE.bool ?_ | refine' AE.binop ?_ | refine' AE.tuple ?_ | refine' AE.part ?_ | refine' AE.ifexp ?_ | refine' AE.usub ?_ | refine' AE.sliceTo ?_ | refine' AE.sliceFrom ?_ | refine' AE.sliceAll ?_
  | ((with_reducible show AE _ _ _ (Expr.Subscript _ _ _) _); refine' AE.sub ?_ (fun _ _ => rfl))
  | ((with_reducible show AE _ _ _ (Expr.Call (Expr.Attribute _ _ _) (_ :: _) [] _) _); refine' AE.meth (fun _ => rfl) (fun _ => rfl) (fun _ => rfl) ?_)
  | ((with_reducible show AE _ _ _ (Expr.Call (Expr.Name _ _) (_ :: _) [] _) _); refine' AE.call (fun _ => rfl) (fun _ => rfl) (fun _ => rfl) ?_)
  | ((with_reducible show AE _ _ _ (Expr.Call (Expr.Attribute _ _ _) [] [] _) _); refine' AE.meth0 (fun _ => rfl) ?_)
  | ((with_reducible show AE _ _ _ (Expr.Call (Expr.Name _ _) [] [] _) _); refine' AE.call0 (fun _ => rfl) ?_)
  | ((with_reducible show AE _ _ _ (Expr.Compare _ [_] [_] _) _); refine' AE.cmp ?_ rfl))
local macro_rules | `(tactic| walk_at "ae1") => `(tactic| first
  | ((with_reducible show AE _ _ _ _ _); walk_at "aeE")
  | walk_at "k"
  | with_reducible first | refine' AX.cons ?_ | refine' AL.nil ?_ | refine' AS.ifs ?_ | refine' AS.ret ?_ | refine' AT.neg ?_ | refine' AT.and ?_ | refine' AT.or ?_ | refine' AT.and0 ?_ | refine' AT.or0 ?_ | refine' AX.nil ?_
  | ((with_reducible show AL _ _ _ _ (_ :: _) _); refine' AL.cons ?_ (fun _ => rfl))
  | ((with_reducible show AG _ _ _ (Expr.Name _ _) _ _); refine' AG.name (by assumption) (by assumption) rfl ?_)
  | ((with_reducible show AS _ _ _ (Stmt.Assign [_] _ _) _); refine' AS.assign ?_ rfl rfl rfl)
  | ((with_reducible show AT _ _ _ (Expr.Compare _ [_] [_] _) _); refine' AT.cmp ?_ rfl)
  | ((with_reducible show AT _ _ _ (Expr.Compare _ _ _ _) _); refine' AT.chain ?_ rfl)
  | ((with_reducible show AT _ _ _ _ _); refine' AT.plain ?_ (fun _ _ => rfl))
  | ((with_reducible show AS _ _ _ (Stmt.Expr _ _) _); refine' AS.expr (by assumption) ?_ rfl)
  | ((with_reducible show AO2 _ _ _ _ _ _ _); walk_at "op"))
local macro_rules | `(tactic| walk_at "ae") => `(tactic| (repeat (walk_at "ae2"; (try dsimp only))))
local macro_rules | `(tactic| walk_at "setf") => `(tactic| first | exact SetF.nil | (with_reducible exact SetF.hit) | (refine' SetF.miss rfl ?h; (case h => walk_at "setf")))
local macro_rules | `(tactic| walk_at "fo") => `(tactic| with_reducible first | exact fo_82_one | exact fo_82_other | exact fo_82_delay | exact fo_82_is_whole | exact fo_184_rows | exact fo_184_numbers | exact fo_184_flying | exact fo_184_sent | exact fo_217_left)
theorem AC.go {C : Ctx} {n k : Nat} {ρ : Locs} {σ : Store} {f : PV} {ps : List PV} {K₀ K : PV → Store → Prop} (O : C.Ok n) (h : CT f ps σ k K₀) (hk : k ≤ n) (kk : ∀ p σ', K₀ p σ' → K p σ') : AC C ρ σ f ps K := (h C ρ (O.le hk)).mono kk
local macro_rules | `(tactic| walk_at "mo") => `(tactic| with_reducible first | exact mo_184_join | exact mo_184_wire | exact mo_184_ends | exact mo_184_ports_of | exact mo_184_is_whole | exact mo_184_cut | exact mo_184_mend | exact mo_184_end_across | exact mo_184_send | exact mo_184_next_time | exact mo_184_next_arrival | exact mo_184_arrivals | exact mo_82_across | exact mo_217_due | exact mo_217_next_time)
local macro_rules | `(tactic| walk_at "meth") => `(tactic| first
  | ((first | refine' MtK.mk (AM.inst (by assumption) ?mo ?m ?l) ?_ | refine' Mt0K.mk (AM.inst (by assumption) ?mo ?m ?l) ?_ | refine' ⟨_, AM.inst (by assumption) ?mo ?m ?l, ?_⟩); (case m => walk_at "mem"); (case l => rfl); (case mo => walk_at "mo"))
  | ((first | refine' MtK.mk (AM.list (l := _) slot_list_append type_list_append ?m) ?_ | refine' ⟨_, AM.list (l := _) slot_list_append type_list_append ?m, ?_⟩); (case m => walk_at "mem"))
  | (refine' ⟨_, AM.listPop ?m, ?_⟩; (case m => walk_at "mem"))
  | (refine' ⟨_, AM.listInsert ?m, ?_⟩; (case m => walk_at "mem"))
  | (refine' ⟨_, AM.dict ?m, ?_⟩; (case m => walk_at "mem")))
local macro_rules | `(tactic| walk_at "callee") => `(tactic| first | exact Callee.builtin | exact Callee.type | exact Callee.K (by assumption) (by k_is))
local macro_rules | `(tactic| walk_at "item") => `(tactic| first
  | (refine' AI.list ?m (by decide) (by decide) ?x ?_; (case m => walk_at "mem"); (case x => rfl))
  | refine' AI.lst (by decide) (by decide) rfl ?_
  | refine' AI.tup (by decide) (by decide) rfl ?_)
local macro_rules | `(tactic| walk_at "upd") => `(tactic| first | exact UpdS.head | (refine' UpdS.tail ?h; (case h => walk_at "upd")))
local macro_rules | `(tactic| walk_at "len") => `(tactic| first | assumption | (simp; done) | (simp; first | lia | omega) | lia | omega)
local macro_rules | `(tactic| walk_at "call") => `(tactic| first
  | refine' AC.intI ?_ | refine' AC.intB ?_ | refine' AC.max2 (by assumption) ?_
  | (refine' AC.len ?m ?z ?_; (case m => walk_at "mem"); (case z => walk_at "len"))
  | refine' AC.lenF (by walk_at "len") ?_)
local macro_rules | `(tactic| walk_at "ae2") => `(tactic| first
  | walk_at "ae1"
  | ((with_unfolding_none first | refine' ClK2.mk ?cal ?_ | refine' MtK2.mk ?cal ?_ | refine' Cl0K.mk ?cal ?_ | refine' ⟨?cal, (?_ : AC _ _ _ _ _ _)⟩); (case cal => walk_at "callee"))
  | ((with_unfolding_none show TuK _ _ _); refine' TuK.mk rfl ?_)
  | ((with_unfolding_none show BoolK _ _ _); with_reducible refine' BoolK.mk ?_)
  | ((with_unfolding_none show NumK _ _ _); with_reducible refine' NumK.mk ?_)
  | ((with_unfolding_none show AtK _ _ _ _); (with_reducible show AtK _ _ (PV.val (Value.ref _)) _); (refine' AtK.mk ?m ?fo ?l ?hh ?_; (case m => walk_at "mem"); (case fo => walk_at "fo"); (case l => rfl); (case hh => walk_at "handed")))
  | ((with_unfolding_none show AgK _ _ _ _ _ _); (with_reducible show AgK _ _ _ _ (PV.val (Value.ref _)) _); (refine' AgK.mk ?fo ?s ?z ?U ?l ?_; (case U => walk_at "upd"); (case s => walk_at "setf"); (case fo => walk_at "fo"); (case z => first | exact Nat.le_of_ble_eq_true rfl | (simp; done) | (simp; (first | lia | omega))); (case l => first | exact .inl rfl | exact .inr ⟨_, rfl⟩)))
  | ((with_reducible show List.length (_ :: _) ≤ 1000 ∧ _); refine' ⟨Nat.le_of_ble_eq_true rfl, ?_⟩)
  | ((with_reducible show ∃ g, AM _ _ _ _ g ∧ _); walk_at "meth")
  | ((with_reducible show AI _ _ _ _ (PV.int _) _); walk_at "item")
  | ((with_reducible show AC _ _ _ (PV.val (Value.builtin _)) _ _); walk_at "call")
  | ((with_reducible show AC _ _ _ (PV.val (Value.type _)) _ _); walk_at "call")
  | ((with_reducible show AG _ _ _ (Expr.Subscript _ _ _) _ _); refine' AG.sub ?_)
  | ((with_reducible show AG _ _ _ (Expr.Attribute _ _ _) _ _); refine' AG.attr (by assumption) ?_)
  | ((with_reducible show AE _ _ _ (Expr.Attribute _ _ _) _); refine' AE.attr (by assumption) rfl ?_)
  | ((with_reducible show AW _ _ _ (PV.ref _) (PV.int _) _ _); (refine' AW.list ?U (by decide) ?b ?c ?_; (case U => walk_at "upd"); (case b => walk_at "len"); (case c => walk_at "len")))
  | ((with_reducible show ∃ b, PV.bool _ = PV.bool b ∧ _); refine' ⟨_, rfl, ?_⟩)
  | ((with_reducible show ∃ b, PV.int _ = PV.int b ∧ _); refine' ⟨_, rfl, ?_⟩)
  | ((with_reducible show (true = true → _) ∧ (true = false → _)); refine' ⟨fun _ => ?_, fun h => nomatch h⟩)
  | ((with_reducible show (false = true → _) ∧ (false = false → _)); refine' ⟨(fun h => nomatch h), fun _ => ?_⟩))
local macro_rules | `(tactic| walk_at "defh") => `(tactic| ((first | refine' Def.of ?h1 ?h2 ?h3 ?_ ?_ ?_ ?_ ?_ ?_ | refine' DefC.of ?h1 ?h2 ?h3 ?_ ?_ ?_ ?_ ?_ ?_ ?_); (case h1 => intro w; k_is); (case h2 => intro w; k_is); (any_goals first | decide | rfl)))
local macro_rules | `(tactic| walk_at "def2") => `(tactic| (walk_at "defh"; exact vs2 fun _ _ _ => BindsTo.of_eq rfl))
local macro_rules | `(tactic| walk_at "def1") => `(tactic| (walk_at "defh"; exact vs1 fun _ _ => BindsTo.of_eq rfl))
local macro_rules | `(tactic| walk_at "def3") => `(tactic| (walk_at "defh"; exact vs3 fun _ _ _ _ => BindsTo.of_eq rfl))
local macro_rules | `(tactic| walk_at "def4") => `(tactic| (walk_at "defh"; exact vs4 fun _ _ _ _ _ => BindsTo.of_eq rfl))
section
set_option tactic.hygienic false
noncomputable abbrev endP (e : Int × Int) : PV := .tup [.int e.1, .int e.2]
structure WireD where
  x : Addr
  one : Int × Int
  other : Int × Int
  late : Int
  whole : Bool
noncomputable abbrev wireF (d : WireD) : List (Str × PV) := [("one", endP d.one), ("other", endP d.other), ("delay", .int d.late), ("is_whole", .bool d.whole)]
noncomputable abbrev wireObj (d : WireD) : Addr × AObj := (d.x, .inst 82 (wireF d))
structure FlyD where
  time : Int
  sent : Int
  goal : Int × Int
  number : Int
  thing : PV
noncomputable abbrev flyP (f : FlyD) : PV := .tup [.int f.time, .int f.sent, endP f.goal, .int f.number, f.thing]
structure GW where
  W : Addr
  R : Addr
  D : Addr
  F : Addr
  ep : Nat
  ws : List WireD
  fl : List FlyD
  sent : Int
noncomputable abbrev endK (e : Int × Int) : List Int := [e.1, e.2]
noncomputable def kvsW : Int → List WireD → List (List Int × Int)
  | _, [] => []
  | i, d :: ws => (endK d.one, i) :: (endK d.other, i) :: kvsW (i + 1) ws
noncomputable abbrev wiresF (g : GW) : List (Str × PV) := [("rows", .ref g.R), ("numbers", .ref g.D), ("flying", .ref g.F), ("sent", .int g.sent)]
noncomputable abbrev WS (g : GW) : Store := (g.W, .inst 184 (wiresF g)) :: (g.R, .list (g.ws.map fun d => .ref d.x)) :: (g.D, .dict (kvsW 0 g.ws) g.ep) :: (g.F, .list (g.fl.map flyP)) :: g.ws.map wireObj
section
variable {g : GW} {d : WireD} {i : Nat}
theorem mem_wire (h : g.ws[i]? = some d) : wireObj d ∈ WS g :=
  .tail _ (.tail _ (.tail _ (.tail _ (List.mem_map_of_mem (List.mem_of_getElem? h)))))
theorem upd_map {ws : List WireD} {d' : WireD} (h : ws[i]? = some d) (hx : d'.x = d.x) : UpdS d.x (.inst 82 (wireF d)) (.inst 82 (wireF d')) (ws.map wireObj) ((ws.set i d').map wireObj) := by
  induction ws generalizing i with
  | nil => simp at h
  | cons e ws ih =>
    cases i with
    | zero =>
      simp at h; subst h
      rw [List.set_cons_zero, List.map_cons, List.map_cons]
      have : wireObj d' = (e.x, .inst 82 (wireF d')) := by rw [← hx]
      rw [this]; exact .head
    | succ i =>
      rw [List.set_cons_succ, List.map_cons, List.map_cons]
      exact .tail (ih (by simpa using h))
end
theorem eqv_nil (l : List PV) : PyData.eqv (.list (toDs l)) (toD (.lst [])) = decide (l = []) := by
  cases l <;> rfl
theorem ok_flys {fl : List FlyD} (h : ∀ f ∈ fl, okD 1 f.thing = true) : okDs 7 (fl.map flyP) = true := by
  rw [okDs_iff]
  intro p hp
  obtain ⟨f, hf, rfl⟩ := List.mem_map.mp hp
  have h1 := h f hf
  show (true && (true && ((true && (true && true)) && (true && (okD 6 f.thing && true))))) = true
  rw [okD_more (okD_more (okD_more (okD_more (okD_more h1))))]; rfl
theorem AC.ro1 {C : Ctx} {n k : Nat} {ρ : Locs} {σ : Store} {f : PV} {ps : List PV} {K₀ K : PV → Store → Prop} {x : Addr × AObj} (O : C.Ok n) (h : CT f ps [x] k K₀) (hk : k ≤ n) (hm : x ∈ σ) (kk : ∀ p σ', K₀ p σ' → σ' = [x] ∧ K p σ) : AC C ρ σ f ps K := by
  obtain ⟨l1, l2, rfl⟩ := List.append_of_mem hm
  have hp : (l1 ++ x :: l2).Perm ([x] ++ (l1 ++ l2)) := List.perm_middle
  refine AC.use O h hk (Le.perm hp) fun p σ' k₀ => ?_
  obtain ⟨rfl, k'⟩ := kk p σ' k₀
  exact ⟨_, Le.perm hp.symm, k'⟩
theorem AO2.gtP {C : Ctx} {n : Nat} {ρ : Locs} {σ : Store} {K : PV → Store → Prop} {i j i' j' : Int} (O : C.Ok n) (k : K (.bool (decide (i' < i ∨ (i = i' ∧ j' < j)))) σ) : AO2 C ρ σ (compareOp .Gt) (.tup [.int i, .int j]) (.tup [.int i', .int j']) K := by
  intro τ s va vb Q E J h1 h2 q
  obtain ⟨m, S, I, D⟩ := J
  obtain ⟨a, us, rfl, ha, hva⟩ := D.tup (D.tmp _ h1)
  obtain ⟨b, ws, rfl, hb, hvb⟩ := D.tup (D.tmp _ h2)
  cases hva using VAll.casesCons with
  | cons x1 hva =>
    cases hva using VAll.casesCons with
    | cons x2 hva =>
      cases hva using VAll.casesNil
      cases hvb using VAll.casesCons with
      | cons y1 hvb =>
        cases hvb using VAll.casesCons with
        | cons y2 hvb =>
          cases hvb using VAll.casesNil
          cases x1 using VRep.casesInt; cases x2 using VRep.casesInt; cases y1 using VRep.casesInt; cases y2 using VRep.casesInt
          exact gt_pair ha hb (by have := O.units; show C.A.units < 9900; (first | lia | omega)) (q _ _ σ _ k (D.more (.val _)).inv)
theorem AS.whileX {C : Ctx} {ρ : Locs} {σ : Store} {test : Expr} {body : List Stmt} {pos : Pos} {K : Fl → Locs → Store → Prop} (V : Nat → Locs → Store → Prop) (X : Locs → Store → Prop) (k : Nat) (v0 : V k ρ σ) (hx : ∀ ρ σ, X ρ σ → K .next ρ σ)
    (step : ∀ k ρ σ, V k ρ σ → AT C ρ σ test fun b σ' => (b = true → AX C ρ σ' body fun fl ρ'' σ'' =>
        match fl with | .next => ∃ j, j < k ∧ V j ρ'' σ'' | .cont => ∃ j, j < k ∧ V j ρ'' σ'' | .brk => X ρ'' σ'' | .ret p => K (.ret p) ρ'' σ'') ∧ (b = false → X ρ σ')) : AS C ρ σ (.While test body [] pos) K :=
  AS.while V k v0 fun k ρ σ hv => (step k ρ σ hv).mono fun b σ' h => ⟨fun hb => (h.1 hb).mono fun fl ρ'' σ'' h => (match fl, h with
    | .next, h => h | .cont, h => h | .brk, h => hx _ _ h | .ret _, h => h), fun hb => hx _ _ (h.2 hb)⟩
theorem AX.loc {C : Ctx} {ρ : Locs} {σ : Store} {ss : List Stmt} {K K' : Fl → Locs → Store → Prop} (h : AX C ρ σ ss K) (hk : ∀ fl ρ' σ', K fl ρ' σ' → ∃ ρ'', (∀ x p, ρ''.lookup x = some p → ρ'.lookup x = some p) ∧ K' fl ρ'' σ') : AX C ρ σ ss K' := fun s Q E J P => h s Q E J
  ⟨fun ρ' σ' s' k J' => let ⟨ρ'', hl, k'⟩ := hk _ ρ' σ' k; P.next ρ'' σ' s' k' (J'.weak hl fun _ h => h), fun ρ' σ' s' k J' => let ⟨ρ'', hl, k'⟩ := hk _ ρ' σ' k; P.brk ρ'' σ' s' k' (J'.weak hl fun _ h => h),
   fun ρ' σ' s' k J' => let ⟨ρ'', hl, k'⟩ := hk _ ρ' σ' k; P.cont ρ'' σ' s' k' (J'.weak hl fun _ h => h), fun v p ρ' σ' s' k J' => let ⟨ρ'', hl, k'⟩ := hk _ ρ' σ' k; P.ret v p ρ'' σ' s' k' (J'.weak hl fun _ h => h)⟩
theorem lookup_over {x : Str} {p q : PV} {ρ : Locs} : ∀ y r, ((x, p) :: ρ).lookup y = some r → ((x, p) :: (x, q) :: ρ).lookup y = some r := by
  intro y r h
  rw [List.lookup_cons] at h ⊢
  by_cases hy : y = x
  · subst hy; simpa using h
  · have : (y == x) = false := by simpa using hy
    rw [this] at h ⊢
    rw [List.lookup_cons, this]; exact h
noncomputable def putAtF (key : Int × Int) (fl : List FlyD) : Nat → Nat
  | 0 => 0
  | n + 1 => match fl[n]? with
    | some f => if lexlt key (f.time, f.sent) = true then putAtF key fl n else n + 1
    | none => n + 1
end
section
noncomputable def scEnv (sc : Scope) : Env := { scope := sc, locals := 0, globals := 0, cells := [], qual := Str.empty, func := none, code := .none, frame := none, builtins := 0 }
theorem swapped_sc {ts : List Expr} {v : Expr} {env : Env} {sc : Scope} (h : env.scope = sc) : swappedStores ts v env = swappedStores ts v (scEnv sc) := by subst h; rfl
theorem swaps_sc {t : Option Expr} {v : Expr} {l : Nat} {env : Env} {sc : Scope} (h : env.scope = sc) : swapsWith v t l env = swapsWith v t l (scEnv sc) := by subst h; rfl
section
variable {C : Ctx} {n : Nat} {ρ : Locs} {σ : Store} {sc : Scope} {K : Fl → Locs → Store → Prop} {e : Expr} {x y : Str} {ts : List Expr} {kk : Nat} {tpos pos : Pos}
theorem AS.swap2 (O : C.Ok n) (hs : C.env.scope = sc) (hx : sc.names.lookup x = some .local) (hy : sc.names.lookup y = some .local) (hw : swappedStores [.Tuple ts kk tpos] e (scEnv sc) = pure (some [x, y])) (h1 : swapsWithSole [.Tuple ts kk tpos] e pos.line C.env = pure false)
    (h : AE C ρ σ e fun p σ' => ∃ a b, p = .tup [a, b] ∧ K .next ((x, a) :: (y, b) :: ρ) σ') : AS C ρ σ (.Assign [.Tuple ts kk tpos] e pos) K := by
  intro s Q E J P
  refine Assign_Tuple_swapped (names := [x, y]) (h [] s _ E J fun v p σ' s' k J' => ?_) h1 ((swapped_sc hs).trans hw)
  obtain ⟨a, b, rfl, k⟩ := k
  refine Inv.out J' fun m S I D => ?_
  obtain ⟨t, vs, rfl, ht, hr⟩ := D.tup (D.tmp _ (.head _))
  have hl : [x, y].length = vs.toArray.size := by rw [List.size_toArray, hr.length]; rfl
  rw [hl]
  refine unpackItems_tuple O.hh ht fun h' hext => ?_
  have hk : ∀ b o, s'.heap.get? b = some o → h'.get? b = some o := fun b o e => hext b o (Nat.ne_of_lt (Heap.lt_size e)) e
  obtain ⟨τ', D', al, sub⟩ := (D.ext (tk := s'.toks) hk).mores hr
  obtain ⟨va, vb, rfl, ha, hb⟩ := al.two
  show wpAny _ _ (assignInOrder [bindName C.env y, bindName C.env x] [vb, va]) _ _ _
  obtain ⟨m', S', I', D''⟩ := D'.inv
  refine assignInOrder_cons (wpAny_bindName (wpAny_storeName_local (by rw [Env.kindOf, hs]; exact hy) D''.F.ns (fun h₁ hn₁ hs₁ => ?_) (by rw [O.hk]; rfl)))
  have D1 := D''.store (tk := s'.toks + 1) (D''.tmp _ hb) hn₁ hs₁
  refine assignInOrder_cons (wpAny_bindName (wpAny_storeName_local (by rw [Env.kindOf, hs]; exact hx) D1.F.ns (fun h₂ hn₂ hs₂ => ?_) (by rw [O.hk]; rfl)))
  have D2 := D1.store (tk := s'.toks + 1 + 1) (D1.tmp _ ha) hn₂ hs₂
  exact assignInOrder_nil (P.next _ _ _ k (D2.inv.tmps fun _ h => nomatch h))
end
end
section
set_option maxHeartbeats 4000000
noncomputable def mix (b : Int) : Int := (b * 39373 + 7).fmod 2147483647
noncomputable def takeV (a b top : Int) : Int := if a > 0 then a.fmod top else (((mix b * mix b).fmod 2147483629).fdiv 32).fmod top
noncomputable def takeA (a top : Int) : Int := if a > 0 then a.fdiv top else a
noncomputable def takeB (a b : Int) : Int := if a > 0 then b else mix b
theorem mix_b (b : Int) : 0 ≤ mix b ∧ mix b < 2147483647 := ⟨Int.fmod_nonneg_of_pos _ (by (first | lia | omega)), Int.fmod_lt_of_pos _ (by (first | lia | omega))⟩
theorem take_spec {src : Addr} {a b top : Int} (ht : 0 < top) (hz : top < 1000) (hb0 : 0 ≤ b) (hb : b < 2147483648) :
    CT (.ref 249) [.ref src, .int top] [(src, .list [.int a, .int b])] 1 fun p σ' => p = .int (takeV a b top) ∧ σ' = [(src, .list [.int (takeA a top), .int (takeB a b)])] := by
  refine' CT.def (f := 249) (xs := [Str.ofString "source", Str.ofString "top"]) ?d rfl ?h
  case d => walk_at "def2"
  case h =>
  intro C O hs hc
  walk_at "ae"
  refine ⟨fun hp => ?_, fun hp => ?_⟩
  · have hp' : a > 0 := of_decide_eq_true hp
    walk_at "ae"
    exact ⟨by rw [takeV, if_pos hp'], by rw [takeA, takeB, if_pos hp', if_pos hp']; rfl⟩
  · have hp' : ¬ a > 0 := of_decide_eq_false hp
    walk_at "ae"
    refine AO2.mul ?_ ?_
    · first | exact IntMulOk.of_left (intBits_le_64 (by (first | lia | omega)) (by (first | lia | omega))) | exact IntMulOk.of_right (intBits_le_64 (by (first | lia | omega)) (by (first | lia | omega))) | exact IntMulOk.of_left (intBits_le_64 (by show _ < mix b; have := (mix_b b).1; (first | lia | omega)) (by show mix b < _; have := (mix_b b).2; (first | lia | omega)))
    walk_at "ae"
    refine AO2.mul ?_ ?_
    · first | exact IntMulOk.of_left (intBits_le_64 (by (first | lia | omega)) (by (first | lia | omega))) | exact IntMulOk.of_right (intBits_le_64 (by (first | lia | omega)) (by (first | lia | omega))) | exact IntMulOk.of_left (intBits_le_64 (by show _ < mix b; have := (mix_b b).1; (first | lia | omega)) (by show mix b < _; have := (mix_b b).2; (first | lia | omega)))
    walk_at "ae"
    exact ⟨by rw [takeV, if_neg hp']; rfl, by rw [takeA, takeB, if_neg hp', if_neg hp']; rfl⟩
end
section
set_option maxHeartbeats 4000000
theorem eqv_end (a b : Int × Int) : PyData.eqv (toD (endP a)) (toD (endP b)) = decide (a = b) := by
  have h := eqv_iff (endP a) (endP b) rfl rfl
  rw [Bool.eq_iff_iff, h, decide_eq_true_eq]
  constructor
  · intro e; injection e with e; simp at e; exact Prod.ext e.1 e.2
  · rintro rfl; rfl
theorem across_spec {d : WireD} {e : Int × Int} : CT (.ref 79) [.ref d.x, endP e] [wireObj d] 1 fun p σ' => p = endP (if e = d.one then d.other else d.one) ∧ σ' = [wireObj d] := by
  refine' CT.def (f := 79) (xs := [Str.ofString "self", Str.ofString "end"]) ?d rfl ?h
  case d => walk_at "def2"
  case h =>
  intro C O hs hc
  walk_at "ae"
  refine AO2.eqD O rfl rfl ⟨_, rfl, ?_⟩
  rw [eqv_end]
  refine ⟨fun h => ?_, fun h => ?_⟩
  · have h := of_decide_eq_true h
    walk_at "ae"
    exact ⟨by rw [if_pos h], rfl⟩
  · have h := of_decide_eq_false h
    walk_at "ae"
    exact ⟨by rw [if_neg h], rfl⟩
theorem wire_spec {g : GW} {i : Nat} {d : WireD} (h : g.ws[i]? = some d) (hz : g.ws.length ≤ 1000) : CT (.ref 115) [.ref g.W, .int i] (WS g) 1 fun p σ' => p = .ref d.x ∧ σ' = WS g := by
  refine' CT.def (f := 115) (xs := [Str.ofString "self", Str.ofString "number"]) ?d rfl ?h
  case d => walk_at "def2"
  case h =>
  intro C O hs hc
  walk_at "ae"
  refine ⟨fun h0 => ?_, fun _ => ?_⟩
  · exact absurd h0 (by simp)
  have hlt : i < g.ws.length := (List.getElem?_eq_some_iff.mp h).1
  walk_at "ae"
  refine ⟨fun hb => ?_, fun _ => ?_⟩
  · exact absurd hb (by simp; (first | lia | omega))
  walk_at "ae"
  refine AI.list (l := g.ws.map fun d => .ref d.x) (p := .ref d.x) (by walk_at "mem") (by (first | lia | omega)) (by (first | lia | omega)) (by simp [h]) ?_
  exact ⟨rfl, rfl⟩
theorem isWhole_spec {g : GW} {i : Nat} {d : WireD} (h : g.ws[i]? = some d) (hz : g.ws.length ≤ 1000) : CT (.ref 134) [.ref g.W, .int i] (WS g) 2 fun p σ' => p = .bool d.whole ∧ σ' = WS g := by
  refine' CT.def (f := 134) (xs := [Str.ofString "self", Str.ofString "number"]) ?d rfl ?h
  case d => walk_at "def2"
  case h =>
  intro C O hs hc
  walk_at "ae"
  refine AC.go O (wire_spec h hz) (by (first | lia | omega)) ?_
  rintro p σ' ⟨rfl, rfl⟩
  refine ⟨_, _, _, _, rfl, mem_wire h, by walk_at "fo", rfl, by walk_at "handed", rfl, rfl⟩
theorem ends_spec {g : GW} {i : Nat} {d : WireD} (h : g.ws[i]? = some d) (hz : g.ws.length ≤ 1000) : CT (.ref 122) [.ref g.W, .int i] (WS g) 2 fun p σ' => p = .tup [endP d.one, endP d.other] ∧ σ' = WS g := by
  refine' CT.def (f := 122) (xs := [Str.ofString "self", Str.ofString "number"]) ?d rfl ?h
  case d => walk_at "def2"
  case h =>
  intro C O hs hc
  walk_at "ae"
  refine AC.go O (wire_spec h hz) (by (first | lia | omega)) ?_
  rintro p σ' ⟨rfl, rfl⟩
  have hm := mem_wire h
  walk_at "ae"
  exact ⟨rfl, rfl⟩
theorem nextTime_spec {g : GW} (hz : g.fl.length ≤ 1000) (hok : ∀ f ∈ g.fl, okD 1 f.thing = true) : CT (.ref 167) [.ref g.W] (WS g) 1 fun p σ' => p = (match g.fl with | [] => .none | f :: _ => .int f.time) ∧ σ' = WS g := by
  refine' CT.def (f := 167) (xs := [Str.ofString "self"]) ?d rfl ?h
  case d => walk_at "def1"
  case h =>
  intro C O hs hc
  walk_at "ae"
  refine AE.lst (AL.nil ⟨by simp, ?_⟩)
  refine AO2.neL O (l := g.fl.map flyP) (by walk_at "mem") (ok_flys hok) rfl ⟨_, rfl, ?_⟩
  rw [eqv_nil]
  cases hfl : g.fl with
  | nil =>
    refine ⟨(fun h => nomatch h), fun _ => ?_⟩
    walk_at "ae"
    exact ⟨rfl, rfl⟩
  | cons f r =>
    refine ⟨fun _ => ?_, (fun h => nomatch h)⟩
    walk_at "ae"
    refine AI.list (l := g.fl.map flyP) (p := flyP f) (by walk_at "mem") (by (first | lia | omega)) (by (first | lia | omega)) (by rw [hfl]; rfl) ?_
    walk_at "ae"
    exact ⟨rfl, rfl⟩
noncomputable def optEnd : Option (Int × Int) → PV
  | none => .none
  | some e => endP e
noncomputable def Across (g : GW) (e : Int × Int) (r : Option (Int × Int)) : Prop :=
  ((kvsW 0 g.ws).lookup (endK e) = none ∧ r = none) ∨ ∃ (i : Nat) (d : WireD), (kvsW 0 g.ws).lookup (endK e) = some (i : Int) ∧ g.ws[i]? = some d ∧ r = if d.whole = true then some (if e = d.one then d.other else d.one) else none
theorem endAcross_spec {g : GW} {e : Int × Int} (hz : g.ws.length ≤ 1000) {r : Option (Int × Int)} (hr : Across g e r) :
    CT (.ref 153) [.ref g.W, endP e] (WS g) 2 fun p σ' => p = optEnd r ∧ σ' = WS g := by
  refine' CT.def (f := 153) (xs := [Str.ofString "self", Str.ofString "end"]) ?d rfl ?h
  case d => walk_at "def2"
  case h =>
  intro C O hs hc
  walk_at "ae"
  refine AC.dget O (ks := endK e) (by walk_at "mem") ?_
  rcases hr with ⟨h1, rfl⟩ | ⟨i, d, h1, h2, rfl⟩
  · rw [h1]
    walk_at "ae"
    exact ⟨rfl, rfl⟩
  · rw [h1]
    have hlt : i < g.ws.length := (List.getElem?_eq_some_iff.mp h2).1
    have hm := mem_wire h2
    walk_at "ae"
    refine AI.list (l := g.ws.map fun d => .ref d.x) (p := .ref d.x) (by walk_at "mem") (by (first | lia | omega)) (by (first | lia | omega)) (by simp [h2]) ?_
    walk_at "ae"
    refine ⟨fun hw => ?_, fun hw => ?_⟩
    · have hw : d.whole = false := by simpa using hw
      walk_at "ae"
      exact ⟨by rw [hw]; rfl, rfl⟩
    · have hw : d.whole = true := by simpa using hw
      walk_at "ae"
      refine AI.list (l := g.ws.map fun d => .ref d.x) (p := .ref d.x) (by walk_at "mem") (by (first | lia | omega)) (by (first | lia | omega)) (by simp [h2]) ?_
      walk_at "ae"
      refine AC.ro1 O across_spec (by (first | lia | omega)) hm ?_
      rintro p σ' ⟨rfl, rfl⟩
      exact ⟨rfl, by rw [if_pos hw]; rfl, rfl⟩
noncomputable def insFly (f : FlyD) : List FlyD → List FlyD
  | [] => [f]
  | x :: l => x :: insFly f l
theorem send_none {g : GW} {e : Int × Int} {th now : PV} (hz : g.ws.length ≤ 1000) (hr : Across g e none) : CT (.ref 160) [.ref g.W, endP e, th, now] (WS g) 3 fun p σ' => p = .bool false ∧ σ' = WS g := by
  refine' CT.def (f := 160) (xs := [Str.ofString "self", Str.ofString "end", Str.ofString "thing", Str.ofString "now"]) ?d rfl ?h
  case d => walk_at "def4"
  case h =>
  intro C O hs hc
  walk_at "ae"
  refine AC.go O (endAcross_spec hz hr) (by (first | lia | omega)) ?_
  rintro p σ' ⟨rfl, rfl⟩
  walk_at "ae"
  exact ⟨rfl, rfl⟩
theorem send_some {g : GW} {e r : Int × Int} {th : PV} {now : Int} {i : Nat} {d : WireD} (hz : g.ws.length ≤ 1000) (hzf : g.fl.length < 1000) (hr : Across g e (some r)) (hi : (kvsW 0 g.ws).lookup (endK e) = some (i : Int)) (hd : g.ws[i]? = some d) :
    CT (.ref 160) [.ref g.W, endP e, th, .int now] (WS g) 3 fun p σ' => p = .bool true ∧
      σ' = WS { g with sent := g.sent + 1, fl := g.fl.take (putAtF (now + d.late, g.sent) g.fl g.fl.length) ++ { time := now + d.late, sent := g.sent, goal := r, number := i, thing := th } :: g.fl.drop (putAtF (now + d.late, g.sent) g.fl g.fl.length) } := by
  refine' CT.def (f := 160) (xs := [Str.ofString "self", Str.ofString "end", Str.ofString "thing", Str.ofString "now"]) ?d rfl ?h
  case d => walk_at "def4"
  case h =>
  intro C O hs hc
  have hlt : i < g.ws.length := (List.getElem?_eq_some_iff.mp hd).1
  have hm := mem_wire hd
  walk_at "ae"
  refine AC.go O (endAcross_spec hz hr) (by (first | lia | omega)) ?_
  rintro p σ' ⟨rfl, rfl⟩
  walk_at "ae"
  refine AI.dict O (ks := endK e) (by walk_at "mem") hi ?_
  walk_at "ae"
  refine AI.list (l := g.ws.map fun d => .ref d.x) (p := .ref d.x) (by walk_at "mem") (by (first | lia | omega)) (by (first | lia | omega)) (by simp [hd]) ?_
  walk_at "ae"
  let ρk : Nat → Locs := fun k => (Str.ofString "place", PV.int (k : Int)) :: (Str.ofString "row", PV.tup [PV.int (now + d.late), PV.int g.sent, optEnd (some r), PV.int i, th]) :: (Str.ofString "number", PV.int i) ::
      (Str.ofString "goal", optEnd (some r)) :: [Str.ofString "self", Str.ofString "end", Str.ofString "thing", Str.ofString "now"].zip [PV.ref g.W, endP e, th, PV.int now]
  refine AS.whileX (fun k ρ σ => ρ = ρk k ∧ σ = WS { g with sent := g.sent + 1 } ∧ k ≤ g.fl.length ∧ putAtF (now + d.late, g.sent) g.fl k = putAtF (now + d.late, g.sent) g.fl g.fl.length)
    (fun ρ σ => ∃ k, ρ = ρk k ∧ σ = WS { g with sent := g.sent + 1 } ∧ k ≤ g.fl.length ∧ k = putAtF (now + d.late, g.sent) g.fl g.fl.length) g.fl.length ⟨by rw [List.length_map], rfl, Nat.le_refl _, rfl⟩ ?_ ?_
  · rintro ρ σ ⟨k, rfl, rfl, hk, hput⟩
    dsimp only [ρk]
    walk_at "ae"
    refine AC.insert (l := g.fl.map flyP) (k := k) (by walk_at "upd") (by simpa using hk) (by simp; (first | lia | omega)) ?_
    walk_at "ae"
    refine ⟨rfl, ?_⟩
    rw [← hput]
    simp [List.map_take, List.map_drop, optEnd]
  rintro k ρ σ ⟨rfl, rfl, hk, hput⟩
  dsimp only [ρk]
  walk_at "ae"
  refine ⟨fun h0 => ?_, fun h0 => ?_⟩
  · have h0 : 0 < k := by have := of_decide_eq_true h0; (first | lia | omega)
    obtain ⟨n, rfl⟩ : ∃ n, k = n + 1 := ⟨k - 1, by (first | lia | omega)⟩
    obtain ⟨f, hf⟩ : ∃ f, g.fl[n]? = some f := ⟨g.fl[n]'(by (first | lia | omega)), List.getElem?_eq_getElem _⟩
    have e1 : (((n + 1 : Nat) : Int) - 1) = (n : Int) := by (first | lia | omega)
    walk_at "ae"
    rw [e1]
    refine AI.list (l := g.fl.map flyP) (p := flyP f) (by walk_at "mem") (by (first | lia | omega)) (by (first | lia | omega)) (by simp [hf]) ?_
    walk_at "ae"
    intro t
    refine ⟨⟨0, _, .inr (.inr rfl)⟩, AP.tupTo (k := 2) (by simp) (by simp) ?_⟩
    walk_at "ae"
    intro t
    refine ⟨⟨0, _, .inr (.inr rfl)⟩, AP.tupTo (k := 2) (by simp) (by simp) ?_⟩
    refine AO2.gtP (i := f.time) (j := f.sent) (i' := now + d.late) (j' := g.sent) O ⟨_, rfl, ?_⟩
    have hlex : lexlt (now + d.late, g.sent) (f.time, f.sent) = decide (now + d.late < f.time ∨ f.time = now + d.late ∧ g.sent < f.sent) := by
      unfold lexlt
      congr 1
      simp only [eq_comm]
    refine ⟨fun hb => ?_, fun hb => ?_⟩
    · refine AT.and0 ⟨fun _ => ?_, (fun h => nomatch h)⟩
      refine AX.loc (K := fun fl ρ' σ' => fl = .next ∧ ρ' = (Str.ofString "place", PV.int (n : Int)) :: ρk (n + 1) ∧ σ' = WS { g with sent := g.sent + 1 }) ?_ ?_
      · walk_at "ae"
        rw [e1]
        exact ⟨rfl, rfl, rfl⟩
      · rintro fl ρ' σ' ⟨rfl, rfl, rfl⟩
        refine ⟨ρk n, lookup_over, n, by (first | lia | omega), rfl, rfl, by (first | lia | omega), ?_⟩
        rw [← hput, putAtF, hf]
        simp only
        rw [if_pos (by rw [hlex, hb])]
    · walk_at "ae"
      refine ⟨n + 1, rfl, rfl, hk, ?_⟩
      rw [← hput, putAtF, hf]
      simp only
      rw [if_neg (by rw [hlex, hb]; decide)]
  · have h0 : k = 0 := by have := of_decide_eq_false h0; (first | lia | omega)
    subst h0
    walk_at "ae"
    exact ⟨0, rfl, rfl, hk, hput⟩
end
section
set_option maxHeartbeats 4000000
noncomputable def arrP (f : FlyD) : PV := .tup [.int f.time, endP f.goal, f.thing]
theorem nextArrival_none {g : GW} {now : Int} (hz : g.fl.length < 1000) (hok : ∀ f ∈ g.fl, okD 1 f.thing = true) (hn : ∀ f r, g.fl = f :: r → f.time > now) : CT (.ref 174) [.ref g.W, .int now] (WS g) 1 fun p σ' => p = .none ∧ σ' = WS g := by
  refine' CT.def (f := 174) (xs := [Str.ofString "self", Str.ofString "now"]) ?d rfl ?h
  case d => walk_at "def2"
  case h =>
  intro C O hs hc
  walk_at "ae"
  refine AE.lst (AL.nil ⟨by simp, ?_⟩)
  refine AO2.eqL O (l := g.fl.map flyP) (by walk_at "mem") (ok_flys hok) rfl ⟨_, rfl, ?_⟩
  rw [eqv_nil]
  cases hfl : g.fl with
  | nil =>
    refine ⟨fun _ => ?_, (fun h => nomatch h)⟩
    walk_at "ae"
    exact ⟨rfl, rfl⟩
  | cons f r =>
    refine ⟨(fun h => nomatch h), fun _ => ?_⟩
    walk_at "ae"
    refine AI.list (l := g.fl.map flyP) (p := flyP f) (by walk_at "mem") (by (first | lia | omega)) (by (first | lia | omega)) (by rw [hfl]; rfl) ?_
    walk_at "ae"
    have hgt := hn f r hfl
    rw [decide_eq_true hgt]
    walk_at "ae"
    exact ⟨rfl, rfl⟩
theorem nextArrival_some {g : GW} {now : Int} {f : FlyD} {r : List FlyD} (hz : g.fl.length < 1000) (hok : ∀ f ∈ g.fl, okD 1 f.thing = true) (hfl : g.fl = f :: r) (hn : f.time ≤ now) : CT (.ref 174) [.ref g.W, .int now] (WS g) 1 fun p σ' => p = arrP f ∧ σ' = WS { g with fl := r } := by
  refine' CT.def (f := 174) (xs := [Str.ofString "self", Str.ofString "now"]) ?d rfl ?h
  case d => walk_at "def2"
  case h =>
  intro C O hs hc
  walk_at "ae"
  refine AE.lst (AL.nil ⟨by simp, ?_⟩)
  refine AO2.eqL O (l := g.fl.map flyP) (by walk_at "mem") (ok_flys hok) rfl ⟨_, rfl, ?_⟩
  rw [eqv_nil]
  have hne : decide (g.fl.map flyP = []) = false := by rw [hfl]; rfl
  rw [hne]
  walk_at "ae"
  refine AI.list (l := g.fl.map flyP) (p := flyP f) (by walk_at "mem") (by (first | lia | omega)) (by (first | lia | omega)) (by rw [hfl]; rfl) ?_
  walk_at "ae"
  have hgt : ¬ f.time > now := by (first | lia | omega)
  rw [decide_eq_false hgt]
  walk_at "ae"
  have hW : WS g = (g.W, .inst 184 (wiresF g)) :: (g.R, .list (g.ws.map fun d => .ref d.x)) :: (g.D, .dict (kvsW 0 g.ws) g.ep) :: (g.F, .list ([] ++ flyP f :: r.map flyP)) :: g.ws.map wireObj := by
    have hmap : g.fl.map flyP = [] ++ flyP f :: r.map flyP := by rw [hfl]; rfl
    delta WS
    rw [hmap]
  rw [hW]
  refine AC.pop (q₁ := []) (p := flyP f) (q₂ := r.map flyP) (by walk_at "upd") rfl (by rw [hfl] at hz; simp at hz ⊢; (first | lia | omega)) ?_
  walk_at "ae"
  exact ⟨rfl, rfl⟩
end
section
set_option maxHeartbeats 4000000
noncomputable def curP : Option FlyD → PV
  | none => .none
  | some f => arrP f
noncomputable def nx (now : Int) : List FlyD → Option FlyD × List FlyD
  | [] => (none, [])
  | f :: r => if f.time ≤ now then (some f, r) else (none, f :: r)
theorem nextArr_spec {g : GW} {now : Int} (hz : g.fl.length < 1000) (hok : ∀ f ∈ g.fl, okD 1 f.thing = true) : CT (.ref 174) [.ref g.W, .int now] (WS g) 1 fun p σ' => p = curP (nx now g.fl).1 ∧ σ' = WS { g with fl := (nx now g.fl).2 } := by
  cases hfl : g.fl with
  | nil =>
    refine (nextArrival_none hz hok fun f r e => ?_).mono fun p σ' h => ⟨h.1, ?_⟩
    · rw [hfl] at e; cases e
    · rw [h.2]; show WS g = WS { g with fl := [] }; rw [← hfl]
  | cons f r =>
    by_cases hn : f.time ≤ now
    · have e : nx now (f :: r) = (some f, r) := by rw [nx, if_pos hn]
      rw [e]
      exact nextArrival_some hz hok hfl hn
    · have e : nx now (f :: r) = (none, f :: r) := by rw [nx, if_neg hn]
      rw [e]
      refine (nextArrival_none hz hok fun f' r' e' => ?_).mono fun p σ' h => ⟨h.1, ?_⟩
      · rw [hfl] at e'; cases e'; (first | lia | omega)
      · rw [h.2]; show WS g = WS { g with fl := f :: r }; rw [← hfl]
theorem nx_facts (now : Int) (fl : List FlyD) : (nx now fl).1.toList ++ (nx now fl).2.takeWhile (fun f => decide (f.time ≤ now)) = fl.takeWhile (fun f => decide (f.time ≤ now)) ∧ (nx now fl).2.dropWhile (fun f => decide (f.time ≤ now)) = fl.dropWhile (fun f => decide (f.time ≤ now)) ∧
    ((nx now fl).1 = none → (nx now fl).2.takeWhile (fun f => decide (f.time ≤ now)) = []) ∧ (∀ f ∈ (nx now fl).2, f ∈ fl) ∧ (nx now fl).2.length + (nx now fl).1.toList.length ≤ fl.length := by
  cases fl with
  | nil => simp [nx]
  | cons f r =>
    by_cases h : f.time ≤ now
    · rw [nx, if_pos h]; simp [h]; exact fun a ha => .inr ha
    · rw [nx, if_neg h]; simp [h]
theorem lookup_swap {x f : Str} {p q a : PV} {ρ : Locs} (h : (f == x) = false) : ∀ y r, ((f, a) :: (x, p) :: ρ).lookup y = some r → ((x, p) :: (f, a) :: (x, q) :: ρ).lookup y = some r := by
  intro y r hy
  simp only [List.lookup_cons] at hy ⊢
  by_cases h1 : y = x
  · subst h1
    have h2 : (y == f) = false := by
      have := beq_eq_false_iff_ne.mp h
      simpa using fun e => this e.symm
    rw [h2] at hy; simpa using hy
  · have h3 : (y == x) = false := by simpa using h1
    rw [h3] at hy ⊢
    exact hy
theorem arrivals_spec {g : GW} {now : Int} (hz : g.fl.length < 1000) (hok : ∀ f ∈ g.fl, okD 1 f.thing = true) : CT (.ref 181) [.ref g.W, .int now] (WS g) 2 fun p σ' =>
    ∃ D, p = .ref D ∧ σ' = (D, .list ((g.fl.takeWhile fun f => decide (f.time ≤ now)).map arrP)) :: WS { g with fl := g.fl.dropWhile fun f => decide (f.time ≤ now) } := by
  refine' CT.def (f := 181) (xs := [Str.ofString "self", Str.ofString "now"]) ?d rfl ?h
  case d => walk_at "def2"
  case h =>
  intro C O hs hc
  refine AX.cons (AS.swap2 (x := Str.ofString "found") (y := Str.ofString "row") O hs rfl rfl rfl rfl ?_)
  refine AE.tuple (AL.cons (AE.list (AL.nil ⟨by simp, fun D => ?_⟩)) (fun _ => rfl))
  walk_at "ae"
  have le1 : ∀ (o : Addr × AObj) (σ : Store), Le (o :: σ) (σ ++ [o]) := fun o σ => Le.perm (List.perm_append_comm (l₁ := [o]) (l₂ := σ))
  have le2 : ∀ (o : Addr × AObj) (σ : Store), Le (σ ++ [o]) (o :: σ) := fun o σ => Le.perm (List.perm_append_comm (l₁ := σ) (l₂ := [o]))
  refine AC.use O (nextArr_spec hz hok) (by (first | lia | omega)) (le1 _ _) ?_
  rintro p σ' ⟨rfl, rfl⟩
  refine ⟨_, le2 _ _, ?_⟩
  refine AL.nil ⟨by simp, _, _, rfl, ?_⟩
  let ρk : Option FlyD → Locs := fun c => (Str.ofString "found", PV.ref D) :: (Str.ofString "row", curP c) :: [Str.ofString "self", Str.ofString "now"].zip [PV.ref g.W, PV.int now]
  let T : FlyD → Bool := fun f => decide (f.time ≤ now)
  obtain ⟨n1, n2, n3, n4, n5⟩ := nx_facts now g.fl
  refine AX.cons (AS.whileX (fun k ρ σ => ∃ dn c rest, ρ = ρk c ∧ σ = (D, .list (dn.map arrP)) :: WS { g with fl := rest } ∧ dn ++ (c.toList ++ rest.takeWhile T) = g.fl.takeWhile T ∧ rest.dropWhile T = g.fl.dropWhile T ∧ (c = none → rest.takeWhile T = []) ∧ (∀ f ∈ rest, f ∈ g.fl) ∧ rest.length ≤ g.fl.length ∧ k = rest.length + c.toList.length)
    (fun ρ σ => ρ = ρk none ∧ σ = (D, .list ((g.fl.takeWhile T).map arrP)) :: WS { g with fl := g.fl.dropWhile T }) ((nx now g.fl).2.length + (nx now g.fl).1.toList.length) ⟨[], (nx now g.fl).1, (nx now g.fl).2, rfl, rfl, n1, n2, n3, n4, by (first | lia | omega), rfl⟩ ?_ ?_)
  · rintro ρ σ ⟨rfl, rfl⟩
    dsimp only [ρk]
    walk_at "ae"
    exact ⟨D, rfl, rfl⟩
  rintro k ρ σ ⟨dn, c, rest, rfl, rfl, h1, h2, h3, h4, h5, rfl⟩
  dsimp only [ρk]
  cases c with
  | none =>
    walk_at "ae"
    have h3 := h3 rfl
    have hr : rest.dropWhile T = rest := by
      have := List.takeWhile_append_dropWhile (p := T) (l := rest)
      rw [h3] at this; exact this
    refine ⟨rfl, ?_⟩
    rw [h3] at h1
    have h1 : dn = g.fl.takeWhile T := by simpa using h1
    rw [← h2, hr, ← h1]
  | some f =>
    walk_at "ae"
    have hdn : dn.length ≤ g.fl.length := by
      have e1 := congrArg List.length h1
      simp only [List.length_append] at e1
      have e2 : (g.fl.takeWhile T).length ≤ g.fl.length := (List.takeWhile_prefix T).length_le
      (first | lia | omega)
    refine AC.append (l := dn.map arrP) (p := arrP f) (by walk_at "upd") (by simp; (first | lia | omega)) ?_
    obtain ⟨m1, m2, m3, m4, m5⟩ := nx_facts now rest
    refine AX.loc (K := fun fl ρ' σ' => fl = .next ∧ ρ' = (Str.ofString "row", curP (nx now rest).1) :: ρk (some f) ∧ σ' = (D, .list (dn.map arrP ++ [arrP f])) :: WS { g with fl := (nx now rest).2 }) ?_ ?_
    · walk_at "ae"
      refine AC.use O (nextArr_spec (g := { g with fl := rest }) (by show rest.length < 1000; (first | lia | omega)) (fun f hf => hok f (h4 f hf))) (by (first | lia | omega)) (le1 _ _) ?_
      rintro p σ' ⟨rfl, rfl⟩
      refine ⟨_, le2 _ _, ?_⟩
      walk_at "ae"
      exact ⟨rfl, rfl, rfl⟩
    · rintro fl ρ' σ' ⟨rfl, rfl, rfl⟩
      refine ⟨ρk (nx now rest).1, lookup_swap rfl, (nx now rest).2.length + (nx now rest).1.toList.length, ?_, dn ++ [f], (nx now rest).1, (nx now rest).2, rfl, by simp, ?_, m2.trans h2, m3, fun f hf => h4 f (m4 f hf), by (first | lia | omega), rfl⟩
      · show _ < rest.length + 1
        (first | lia | omega)
      · rw [← h1, ← m1]; simp [T]
end
section
set_option maxHeartbeats 4000000
theorem kvsW_set {d' d : WireD} (h1 : d'.one = d.one) (h2 : d'.other = d.other) : ∀ (ws : List WireD) (i : Nat) (k : Int), ws[i]? = some d → kvsW k (ws.set i d') = kvsW k ws
  | [], _, _, h => by simp at h
  | e :: ws, 0, k, h => by
    simp at h; subst h
    rw [List.set_cons_zero]; simp only [kvsW, h1, h2]
  | e :: ws, i + 1, k, h => by
    rw [List.set_cons_succ]; simp only [kvsW]
    rw [kvsW_set h1 h2 ws i (k + 1) (by simpa using h)]
theorem refs_set {d' d : WireD} (hx : d'.x = d.x) : ∀ (ws : List WireD) (i : Nat), ws[i]? = some d → (ws.set i d').map (fun d => PV.ref d.x) = ws.map fun d => PV.ref d.x
  | [], _, h => by simp at h
  | e :: ws, 0, h => by
    simp at h; subst h
    rw [List.set_cons_zero, List.map_cons, List.map_cons, hx]
  | e :: ws, i + 1, h => by
    rw [List.set_cons_succ, List.map_cons, List.map_cons, refs_set hx ws i (by simpa using h)]
theorem WS_set {g : GW} {i : Nat} {d' d : WireD} (hx : d'.x = d.x) (h1 : d'.one = d.one) (h2 : d'.other = d.other) (h : g.ws[i]? = some d) :
    WS { g with ws := g.ws.set i d' } = (g.W, .inst 184 (wiresF g)) :: (g.R, .list (g.ws.map fun d => .ref d.x)) :: (g.D, .dict (kvsW 0 g.ws) g.ep) :: (g.F, .list (g.fl.map flyP)) :: (g.ws.set i d').map wireObj := by
  simp only [WS, kvsW_set h1 h2 _ _ _ h, refs_set hx _ _ h]
theorem mend_spec {g : GW} {i : Nat} {d : WireD} (h : g.ws[i]? = some d) (hz : g.ws.length ≤ 1000) (hw : d.whole = false) : CT (.ref 146) [.ref g.W, .int i] (WS g) 2 fun p σ' => p = .none ∧ σ' = WS { g with ws := g.ws.set i { d with whole := true } } := by
  refine' CT.def (f := 146) (xs := [Str.ofString "self", Str.ofString "number"]) ?d rfl ?h
  case d => walk_at "def2"
  case h =>
  intro C O hs hc
  walk_at "ae"
  refine AC.go O (wire_spec h hz) (by (first | lia | omega)) ?_
  rintro p σ' ⟨rfl, rfl⟩
  have hm := mem_wire h
  walk_at "ae"
  rw [hw]
  refine ⟨(fun h => nomatch h), fun _ => ?_⟩
  walk_at "ae"
  have hu : UpdS d.x (.inst 82 (wireF d)) (.inst 82 (wireF { d with whole := true })) (WS g) (WS {g with ws := g.ws.set i {d with whole := true}}) := by
    rw [WS_set (d := d) (d' := { d with whole := true }) rfl rfl rfl h]
    exact .tail (.tail (.tail (.tail (upd_map h rfl))))
  refine ⟨_, _, wireF d, wireF { d with whole := true }, _, rfl, fo_82_is_whole, by walk_at "setf", by simp [wireF], hu, .inr ⟨_, rfl⟩, ?_⟩
  walk_at "ae"
  exact ⟨rfl, rfl⟩
end
section
set_option maxHeartbeats 4000000
theorem AX.conv {C : Ctx} {ρ ρ' : Locs} {σ σ' : Store} {ss : List Stmt} {K : Fl → Locs → Store → Prop} (h1 : ρ' = ρ) (h2 : σ' = σ) (h : AX C ρ σ ss K) : AX C ρ' σ' ss K := by subst h1; subst h2; exact h
theorem perm6 {α : Type} (a b c d e f : α) (l : List α) : List.Perm (a :: b :: c :: d :: e :: f :: l) (b :: f :: c :: d :: e :: a :: l) := by
  refine (List.Perm.swap b a _).trans (.cons b ?_)
  refine ((List.perm_middle (l₁ := [c, d, e])).cons a).trans ?_
  refine (List.Perm.swap f a _).trans (.cons f ?_)
  exact (List.perm_middle (l₁ := [c, d, e])).symm
noncomputable def flyNo (i : Nat) : PV → Bool
  | .tup [_, _, _, .int n, _] => n != (i : Int)
  | _ => false
theorem cut_spec {g : GW} {i : Nat} {d : WireD} (h : g.ws[i]? = some d) (hz : g.ws.length ≤ 1000) (hf : g.fl.length ≤ 1000) (hw : d.whole = true) : CT (.ref 139) [.ref g.W, .int i] (WS g) 2 fun p σ' => p = .none ∧ ∃ F', σ' = WS { g with F := F', ws := g.ws.set i { d with whole := false }, fl := g.fl.filter fun f => f.number != (i : Int) } := by
  refine' CT.defC (f := 139) (xs := [Str.ofString "self", Str.ofString "number"]) ?d rfl ?h
  case d => walk_at "defh"; exact vs2 fun _ _ _ => BindsTo.of_eq rfl
  case h =>
  intro C L O hs hc
  have hc : C.env.cells = [(Str.ofString "number", L)] := hc
  refine (AX.conv (ρ := [(Str.ofString "self", .ref g.W)]) (σ := (L, .cell (some (.int i))) :: WS g) rfl rfl ?_)
  refine AX.conseq (K := fun fl _ σ' => fl = .next ∧ ∃ F', σ' = (F', .list (((g.fl.map flyP).filter (flyNo i)).map id)) :: (L, .cell (some (.int i))) :: (g.W, .inst 184 (wiresF { g with F := F' })) ::
    (g.R, .list ((g.ws.set i { d with whole := false }).map fun d => .ref d.x)) :: (g.D, .dict (kvsW 0 (g.ws.set i { d with whole := false })) g.ep) :: (g.F, .list (g.fl.map flyP)) :: (g.ws.set i { d with whole := false }).map wireObj) ?_ ?_
  case refine_2 =>
    rintro fl ρ' σ' ⟨rfl, F', rfl⟩
    refine ⟨_, ?_, rfl, F', rfl⟩
    have e : ((g.fl.map flyP).filter (flyNo i)).map id = (g.fl.filter fun f => f.number != (i : Int)).map flyP := by
      rw [List.map_id, List.filter_map]; rfl
    rw [e]
    refine .trans (Le.perm (σ' := (L, .cell (some (.int i))) :: (g.F, .list (g.fl.map flyP)) :: WS { g with F := F', ws := g.ws.set i { d with whole := false }, fl := g.fl.filter fun f => f.number != (i : Int) }) ?_) ((Le.dropH _ _).trans (Le.dropH _ _))
    exact perm6 _ _ _ _ _ _ _
  walk_at "ae"
  refine AC.use O (wire_spec h hz) (by (first | lia | omega)) (Le.perm (List.perm_append_comm (l₁ := [_]) (l₂ := WS g))) ?_
  rintro p σ' ⟨rfl, rfl⟩
  refine ⟨_, Le.perm (List.perm_append_comm (l₁ := WS g) (l₂ := [_])), ?_⟩
  have hm : wireObj d ∈ (L, AObj.cell (some (PV.int i))) :: WS g := .tail _ (mem_wire h)
  walk_at "ae"
  rw [hw]
  refine ⟨(fun h => nomatch h), fun _ => ?_⟩
  walk_at "ae"
  have hu : UpdS d.x (.inst 82 (wireF d)) (.inst 82 (wireF { d with whole := false })) (WS g) (WS {g with ws := g.ws.set i {d with whole := false}}) := by
    rw [WS_set (d := d) (d' := { d with whole := false }) rfl rfl rfl h]
    exact .tail (.tail (.tail (.tail (upd_map h rfl))))
  refine ⟨_, _, wireF d, wireF { d with whole := false }, (L, .cell (some (.int i))) :: WS {g with ws := g.ws.set i {d with whole := false}}, rfl, fo_82_is_whole, by walk_at "setf", by simp [wireF], .tail hu, .inr ⟨_, rfl⟩, ?_⟩
  walk_at "ae"
  refine AE.comp1 (cl := [(Str.ofString "number", L)]) O (by rw [hc]; rfl) (by rw [relabel, hs]) rfl (by decide) (by decide) (fun _ => rfl) ?_
  walk_at "ae"
  refine ⟨g.fl.map flyP, fun σ => (g.F, AObj.list (g.fl.map flyP)) ∈ σ, flyNo i, id, Iter.list (by walk_at "mem"), fun acc ys => by walk_at "mem", by simpa using hf, fun acc => ⟨_, _, Fz.keep _ _, ?fin⟩, ?st⟩
  case fin =>
    walk_at "ae"
    exact ⟨rfl, acc, rfl⟩
  case st =>
    intro acc ys x hx C' O' hs' hc'
    obtain ⟨f, hf, rfl⟩ := List.mem_map.mp hx
    have hk : C.env.kindOf (Str.ofString "number") = some .cell := by rw [Env.kindOf, hs]; rfl
    simp only [List.map_cons, List.map_nil, hk] at hs'
    walk_at "ae"
    simp only [ATs]
    walk_at "ae"
    have e : decide (f.number ≠ (i : Int)) = flyNo i (flyP f) := by
      show _ = (f.number != (i : Int))
      by_cases h : f.number = (i : Int) <;> simp [h]
    refine ⟨rfl, e, fun _ => ?_⟩
    walk_at "ae"
    exact ⟨rfl, rfl⟩
end
section
noncomputable abbrev excE (C t : Addr) : Obj := { cls := .ref C, data := .fields #[.ref t, .none, .none, .none, .bool false, .none] }
noncomputable abbrev tupE (rest : List Value) : Obj := { cls := .type "tuple", data := .seq rest.toArray }
structure ExcCls (M : Model) (h : Heap) (C : Addr) : Prop where
  obj : ∃ oc od cd sl, h.get? C = some ⟨oc, od, .cls cd, sl⟩ ∧ cd.mro.isEmpty = false ∧ cd.hasDel = false ∧ oc = .type "type"
  mro : ∃ l, Looks M h (mroOf (.ref C)) l ∧ l.isEmpty = false
  made : Looks M h (Bind.madeBy (.ref C)) (some "Exception.__new__")
  base : Looks M h (Bind.staticBase (.ref C)) (.ref C)
  self : Looks M h (isSubtype (.ref C) (.ref C)) true
  exc : Looks M h (isSubtype (.ref C) (.type "Exception")) true
  bexc : Looks M h (isSubtype (.ref C) (.type "BaseException")) true
  attr : Looks M h (isSubtype (.ref C) (.type "AttributeError")) false
  name : Looks M h (isSubtype (.ref C) (.type "NameError")) false
  call : Looks M h (specialOf (.ref C) "__call__") (some (.builtin "type.__call__"))
  typ : Looks M h (isInstance (.ref C) (.type "type")) true
theorem excCls_of {K : Frag} {M : Model} {h : Heap} (X : K.In h) {C : Addr} {oc : Value} {od : Option Addr} {cd : ClassData} {sl : Array (Option Value)} (ho : K.lookup C = some ⟨oc, od, .cls cd, sl⟩)
    (hoc : oc = .type "type") (e3 : (sl.toList[4]?).join = some (.builtin "Exception.__new__")) (e4 : cd.mro.isEmpty = false) (e5 : cd.mro.contains (.ref C) = true) (e6 : cd.mro.contains (.type "Exception") = true) (e7 : cd.mro.contains (.type "BaseException") = true)
    (e8 : cd.mro.contains (.type "AttributeError") = false) (e9 : cd.mro.contains (.type "NameError") = false) (ed : cd.hasDel = false) (e10 : specialIn K (.ref C) "__call__" = some (some (.builtin "type.__call__")))
    (e11 : instIn K (.ref C) (.type "type") = some true) : ExcCls M h C := by
  have hc : clsIn K C = some cd := by unfold clsIn; rw [ho]
  have hm : Looks M h (mroOf (.ref C)) cd.mro := (looks_clsIn X hc).andThen .now
  have sub : ∀ base b, cd.mro.contains base = b → Looks M h (isSubtype (.ref C) base) b := fun base b hb => looks_mroIn X (by unfold mroIn; rw [hc, Option.bind_some, if_neg (by rw [e4]; decide), hb])
  obtain ⟨c, l, hl⟩ : ∃ c l, cd.mro = c :: l := by cases q : cd.mro with | nil => rw [q] at e4; cases e4 | cons c l => exact ⟨c, l, rfl⟩
  have made : Looks M h (Bind.madeBy (.ref C)) (some "Exception.__new__") := by
    intro A Q E s k q
    unfold Bind.madeBy
    refine wpAny_bind (hm A _ E s k ?_)
    rw [hl, List.forIn_cons]
    refine wpAny_bind (wpAny_bind (wpAny_bind (wpAny_bind (wpAny_loadPart (k _ _ (X _ _ ho)) (wpAny_pure ?_)))))
    dsimp only
    rw [← Array.getElem?_toList, e3]
    exact wpAny_pure (wpAny_pure (wpAny_pure q))
  refine ⟨⟨oc, od, cd, sl, X _ _ ho, e4, ed, hoc⟩, ⟨_, hm, e4⟩, made, ?_, sub _ _ e5, sub _ _ e6, sub _ _ e7, sub _ _ e8, sub _ _ e9, looks_specialIn X e10, looks_instIn X e11⟩
  intro A Q E s k q
  unfold Bind.staticBase
  refine wpAny_bind (hm A _ E s k ?_)
  rw [hl, List.forIn_cons]
  exact wpAny_bind (wpAny_bind (wpAny_bind (made A _ E s k (wpAny_pure (wpAny_pure (wpAny_pure q))))))
section
variable {prog : Program} {w : World} {A : Around} {C : Addr} {R : Result → Shared → Prop} {h : Heap} {g : Array GenState} {d : Drawn} {t : Nat} {os : OsState}
theorem exc_new {rest : List Value} (Y : ExcCls (model prog w) h C) (hrest : rest.length ≤ sizeLine)
    (hq : R (.ok (.ret (.ref (h.objs.size + 1)))) ⟨(h.push (tupE rest)).push (excE C h.objs.size), g, d, t, os⟩) :
    codeAny (model prog w) A (.call (.builtin "Exception.__new__") ⟨.ref C :: rest, []⟩) R ⟨h, g, d, t, os⟩ := by
  have F := @PySem.F.excBase_Exception
  obtain ⟨⟨oc, od, cd, sl, hC, e4, ed, -⟩, ⟨l, mro, hle⟩, made, base, self, exc, bexc, attr, name, call, typ⟩ := Y
  have hstar := F.noStar
  have here : Looks (model prog w) h (Bind.madeHere "Exception.__new__" (.ref C)) () := base.andThen (made.andThen (Looks.of_pure (by simp only [Option.map_some, bne_self_eq_false, Bool.false_eq_true, if_false])))
  refine codeAny_call_builtin_code (Code.quiet_builtin _ F.quiet) ?_
  unfold checkBuiltinCall
  rw [F.newKind, F.newSplit, F.newRow]
  extract_lets sig jp
  refine wpAny_ite_true rfl (wpAny_bind (ks_wpAny_isType_cls hC rfl (wpAny_ite_false rfl (wpAny_bind (exc.at (wpAny_ite_false rfl (wpAny_bind (base.at (wpAny_bind (made.at (wpAny_ite_false ?e ?_)))))))))))
  case e => exact decide_eq_false (by rw [bne_self_eq_false]; exact Bool.false_ne_true)
  show wpAny _ _ (Bind.checkArgs _ _ _) _ _ _
  clear jp sig
  repeat (first | lk | wp_step)
  refine codeAny_builtinAt F.entry ?_
  have hends := F.ends
  unfold Builtin.«BaseException.__new__»
  refine PySem.wpAt_bind ?_
  show PySem.wpAt _ _ _ (stack >>= _) _ _ _
  refine PySem.wpAt_bind (PySem.wpAt_stack fun p below => wpAt_of_wpAny ?_)
  wp_walk
  refine wpAt_of_wpAny ?_
  rw [F.owner]
  refine wpAny_bind (ks_wpAny_isType_cls hC rfl (wpAny_ite_false rfl (wpAny_bind (exc.at (wpAny_ite_false rfl ?_)))))
  repeat (first | lk | wp_step)
  refine wpAny_load (Heap.get?_push_of_some _ (Heap.get?_push_of_some _ hC)) ?_
  dsimp only
  rw [ed]
  refine wpAny_pure ?_
  rw [if_neg (by decide)]
  refine wpAny_pure (wpAny_pure ?_)
  show R _ _
  rw [Heap.size_push]
  exact hq
theorem exc_make {rest : List Value} {fI : Addr} (Y : ExcCls (model prog w) h C) (hrest : rest.length ≤ sizeLine) (hi : Looks (model prog w) h (typeLookup (.ref C) "__init__") (some (.ref fI)))
    (hb : ∀ self, Looks (model prog w) h (bindSpecial (.ref fI) self) (.ref fI, [self]))
    (hq : codeAny (model prog w) (A.under (.builtin "type.__call__" ⟨.ref C :: rest, []⟩)) (.call (.ref fI) ⟨.ref (h.objs.size + 1) :: rest, []⟩) (InitBack (h.objs.size + 1) R) ⟨(h.push (tupE rest)).push (excE C h.objs.size), g, d, t, os⟩) :
    codeAny (model prog w) A (.call (.ref C) ⟨rest, []⟩) R ⟨h, g, d, t, os⟩ := by
  have Y' := Y
  obtain ⟨⟨oc, od, cd, sl, hC, e4, ed, -⟩, ⟨l, hm, hle⟩, made, base, self, exc, bexc, attr, name, call, typ⟩ := Y
  refine codeAny_of_tree ?_
  show wpAny _ _ (callAny (.ref C) _) _ _ _
  refine nd_load hC ?_
  show wpAny _ _ (callAny.viaDunder (.ref C) _) _ _ _
  unfold callAny.viaDunder
  refine wpAny_bind (call.at ?_)
  dsimp only
  rw [tc_bind]
  refine wpAny_bind (wpAny_pure (wpAny_bind (wpAny_pure ?_)))
  refine wpAny_pure (a := Fin.again (.call (.builtin "type.__call__") ⟨.ref C :: rest, []⟩)) (And.intro rfl ?_)
  refine codeAny_call_builtin_at (Code.quiet_builtin _ (by decide +kernel)) entry_typeCall (check_slot tc_kind tc_split typ (tc_args _ _ _) ?_)
  unfold Builtin.«type.__call__»
  repeat (first | with_reducible refine wpAny_call ?_ | lk | rw [hle, if_neg Bool.false_ne_true])
  refine exc_new Y' hrest ?_
  have k : ∀ b o, h.get? b = some o → ((h.push (tupE rest)).push (excE C h.objs.size)).get? b = some o := fun b o e => Heap.get?_push_of_some _ (Heap.get?_push_of_some _ e)
  have hx : ((h.push (tupE rest)).push (excE C h.objs.size)).get? (h.objs.size + 1) = some (excE C h.objs.size) := by heap_get
  have t1 : Looks (model prog w) ((h.push (tupE rest)).push (excE C h.objs.size)) (typeOf (.ref (h.objs.size + 1))) (.ref C) := (Looks.ld hx).andThen .now
  have s1 := self.keeps k
  have i1 := hi.keeps k
  have b1 := (hb (.ref (h.objs.size + 1))).keeps k
  unfold isInstance callSpecial? specialOf
  repeat (first | with_reducible refine wpAny_call ?_ | lk)
  refine codeAny_mono hq fun r s' z => ?_
  rcases r with e | (v | _ | _ | _) <;> first | exact z | exact z.elim | skip
  obtain ⟨rfl, z⟩ := z
  exact wpAny_pure (wpAny_pure z)
theorem exc_initCheck {M : Model} {E : Value → Shared → Prop} {e t0 : Addr} {rest : List Value} {Q : Unit → Shared → Prop} (Y : ExcCls M h C) (he : h.get? e = some (excE C t0)) (hq : Q () ⟨h, g, d, t, os⟩) :
    wpAny M A (checkBuiltinCall "Exception.__init__" ⟨.ref e :: rest, []⟩) Q E ⟨h, g, d, t, os⟩ := by
  have F := @PySem.F.excBase_Exception
  obtain ⟨⟨oc, od, cd, sl, hC, e4, ed, -⟩, ⟨l, hm, hle⟩, made, base, self, exc, bexc, attr, name, call, typ⟩ := Y
  have t1 : Looks M h (typeOf (.ref e)) (.ref C) := (Looks.ld he).andThen .now
  have hshort := F.noStar
  unfold checkBuiltinCall
  rw [F.initKind, F.initSplit, F.initRow]
  extract_lets sig jp
  refine wpAny_bind ((t1.andThen exc : Looks M h (isInstance (.ref e) (.type "Exception")) true).here (wpAny_ite_false rfl ?_))
  show wpAny _ _ (Bind.checkArgs _ _ _) _ _ _
  clear jp sig
  unfold Bind.checkArgs
  repeat (first | (with_reducible refine wpAny_onRaise ?_; erw [check_varPos]; exact wpAny_pure hq) | lk)
theorem exc_init {E : Value → Shared → Prop} {e t0 : Addr} {rest : List Value} {Q : Value → Shared → Prop} (Y : ExcCls (model prog w) h C) (he : h.get? e = some (excE C t0)) (hrest : rest.length ≤ sizeLine)
    (hq : Q .none ⟨(h.push (tupE rest)).update e (Obj.mapFields (·.setIfInBounds 0 (.ref h.objs.size))), g, d, t, os⟩) :
    wpAny (model prog w) A (call (.builtin "Exception.__init__") (.ref e :: rest)) Q E ⟨h, g, d, t, os⟩ := by
  have F := @PySem.F.excBase_Exception
  refine wpAny_call (codeAny_call_builtin F.init.plain F.initEntry (exc_initCheck Y he ?_))
  unfold Builtin.«BaseException.__init__»
  dsimp only
  rw [if_neg (by simp)]
  unfold newTuple Builtin.BaseException.bexcPut
  have he₁ := Heap.get?_push_of_some (h := h) (tupE rest) he
  refine wpAny_bind (wpAny_newObj_type (wpAny_bind (wpAny_bind (wpAny_field he₁ rfl rfl (wpAny_bind (wpAny_setField he₁ rfl (by show 0 < 6; decide) ?_))))) (by show rest.toArray.size ≤ sizeLine; rw [List.size_toArray]; exact hrest))
  exact PySem.wpAny_letGo (wpAny_pure hq)
end
end
section
structure ExcSet (M : Model) (h : Heap) (C : Addr) (name : Str) : Prop where
  pass : ∃ l, Looks M h (mroOf (.ref C)) l ∧ ∀ self, refuseLoop self "__setattr__" l = pure ()
  set : Looks M h (typeLookup (.ref C) "__setattr__") (some (.builtin "object.__setattr__"))
  look : Looks M h (typeLookup (.ref C) name) none
  sub : Looks M h (isSubtype (.ref C) (.type "object")) true
  obj : ∃ oc od cd sl, h.get? C = some ⟨oc, od, .cls cd, sl⟩ ∧ cd.hasDict = true
section
variable {prog : Program} {w : World} {A : Around} {C : Addr} {R : Result → Shared → Prop} {h : Heap} {g : Array GenState} {d : Drawn} {t : Nat} {os : OsState} {name : Str} {x : Addr} {ox : Obj} {vs : Array Value} {v : Value}
theorem exc_osa {tk : Tok} (Y : ExcSet (model prog w) h C name) (hx : h.get? x = some ox) (hc : ox.cls = .ref C) (hd : ox.dict = none) (hf : ox.data = .fields vs)
    (hq : ∀ h' tk' ox', h'.get? x = some ox' → ox'.cls = .ref C → ox'.data = .fields vs → (∀ b o, b ≠ x → h.get? b = some o → h'.get? b = some o) → R (.ok (.ret .none)) ⟨h', g, d, tk', os⟩) :
    codeAny (model prog w) A (.call (.builtin "object.__setattr__") ⟨[.ref x, .str name tk, v], []⟩) R ⟨h, g, d, t, os⟩ := by
  have SF := PySem.F.store_object
  obtain ⟨⟨l, hm, hpass⟩, set, look, sub, oc, od, cd, sl, hC, hcd⟩ := Y
  have t1 : Looks (model prog w) h (typeOf (.ref x)) (.ref C) := (Looks.ld hx).andThen (by rw [hc]; exact .now)
  refine codeAny_call_builtin SF.slot.plain SF.entry (@check_slot (model prog w) _ _ _ "object.__setattr__" "object" "__setattr__" (.ref x) [.str name tk, v] [] _ SF.kind SF.split (t1.andThen sub) (SF.args (.ref x) (.str name tk) v) ?_)
  rw [osa_eq, refuse_eq]
  refine wpAny_bind (wpAny_bind (t1.here (wpAny_bind (hm.here ?_))))
  rw [hpass]
  refine wpAny_pure (wpAny_bind (t1.here (wpAny_bind (look.here (wpAny_bind (wpAny_pure ?_))))))
  dsimp only
  repeat (first | (with_reducible refine wpAny_loadPart_at hx ?_; rw [hc]) | wp_step)
  rw [hd, hf]
  rw [if_neg (by simp [typeHasDict])]
  have hx₁ : (h.push { cls := .type "dict", data := .dict #[] }).get? x = some ox := Heap.get?_push_of_some _ hx
  have hxs : x ≠ h.objs.size := Nat.ne_of_lt (Heap.lt_size hx)
  refine wpAny_bind (wpAny_alloc' ?_)
  refine wpAny_bind (wpAny_update' hx₁ ?_)
  refine wpAny_pure ?_
  have hgd : ((h.push { cls := .type "dict", data := .dict #[] }).update x fun o => { cls := o.cls, dict := some h.objs.size, data := o.data, slots := o.slots }).get? h.objs.size
      = some { cls := .type "dict", data := .dict #[] } :=
    (Heap.get?_update_ne _ _ _ _ hxs.symm).trans (Heap.get?_push_at rfl rfl)
  have hnd : ((h.push { cls := .type "dict", data := .dict #[] }).update x fun o => { cls := o.cls, dict := some h.objs.size, data := o.data, slots := o.slots }).Ns h.objs.size (fun _ => none) :=
    ⟨_, #[], _, hgd, rfl, fun e he => absurd he (by simp), fun _ => rfl⟩
  show wpAny _ _ (Builtin.ObjectAttr.storeInDict h.objs.size (.str name tk) name v) _ _ _
  unfold Builtin.ObjectAttr.storeInDict Builtin.ObjectAttr.newKeyGuard
  refine wpAny_bind (wpAny_pure (wpAny_bind (wpAny_nsSet1 (Heap.Ns1.of_empty hnd) fun h' hn' hs => ?_)))
  obtain ⟨oD, esD, epD, hoD, hdD, hcD⟩ := hn'.count (Within.cons name v Within.nil)
  refine wpAny_bind (wpAny_lookBehind hoD (by rw [hdD]; exact pastItsLine_dict (Nat.le_trans hcD (by rw [List.length_cons, List.length_nil, sizeLine_eq]; (first | lia | omega)))) ?_)
  wp_walk
  have hfree : ({ cls := ox.cls, dict := some h.objs.size, data := ox.data, slots := ox.slots } : Obj).isFreed = false := Obj.isFreed_of_fields hf
  refine hq h' _ { cls := ox.cls, dict := some h.objs.size, data := ox.data, slots := ox.slots } ((hs.2 x hxs).trans (Heap.get?_update_self _ hx₁ hfree)) hc hf fun b o hb hbo => ?_
  exact (hs.2 b (Nat.ne_of_lt (Heap.lt_size hbo))).trans ((Heap.get?_update_ne _ _ _ _ hb).trans (Heap.get?_push_of_some _ hbo))
theorem exc_set {E : Value → Shared → Prop} {Q : Unit → Shared → Prop} (Y : ExcSet (model prog w) h C name) (hx : h.get? x = some ox) (hc : ox.cls = .ref C) (hd : ox.dict = none) (hf : ox.data = .fields vs)
    (hq : ∀ h' tk' ox', h'.get? x = some ox' → ox'.cls = .ref C → ox'.data = .fields vs → (∀ b o, b ≠ x → h.get? b = some o → h'.get? b = some o) → Q () ⟨h', g, d, tk', os⟩) :
    wpAny (model prog w) A (setAttr (.ref x) name v) Q E ⟨h, g, d, t, os⟩ := by
  have t1 : Looks (model prog w) h (typeOf (.ref x)) (.ref C) := (Looks.ld hx).andThen (by rw [hc]; exact .now)
  refine wpAny_bind (wpAny_mkText (wpAny_bind (wpAny_bind (wpAny_bind (t1 _ _ _ _ (fun _ _ e => e) (Y.set _ _ _ _ (fun _ _ e => e) (wpAny_holding ?_)))))))
  rw [PySem.F.store_object.slot.bind]
  refine wpAny_bind (wpAny_pure (wpAny_bind (wpAny_call (exc_osa Y hx hc hd hf fun h' tk' ox' a1 a2 a3 a4 => ?_))))
  exact wpAny_pure (wpAny_pure (hq h' tk' ox' a1 a2 a3 a4))
end
end
section
set_option maxHeartbeats 4000000
section
variable {C : Ctx} {n : Nat} {ρ : Locs} {σ : Store}
noncomputable def AMT (C : Ctx) (σ : Store) (p : PV) (name : Str) (g : PV) : Prop :=
  ∀ ρ τ s v pl (Q : Value × List Value → Shared → Prop) E, Inv C ρ σ τ s → (v, p) ∈ τ → (∀ vg t, Inv C ρ σ ((vg, g) :: τ) { s with toks := t } → Q (vg, []) { s with toks := t }) → wpAny C.M C.A (getMethod v name pl) Q E s
theorem AE.methT {o e : Expr} {es : List Expr} {name : Str} {apos pos : Pos} {pl : Env → Sem Bool} {K : PV → Store → Prop}
    (hc : ∀ env, eval (.Call (.Attribute o name apos) (e :: es) [] pos) env = (do
      let ov ← eval o env
      standAt apos.atName
      let (f, first) ← holding [ov] (getMethod ov name (pl env))
      callWith pos f first (backTo pos (starEach (e :: es) env)) (backToKw pos (keywordEach [] env))))
    (hp : ∀ env, (backTo pos (starEach (e :: es) env)).any (·.1) = false) (he : ∀ env, starEach (e :: es) env = (false, eval e env) :: starEach es env)
    (h : AE C ρ σ o fun p σ₁ => ∃ g, AMT C σ₁ p name g ∧ AL C ρ σ₁ pos (e :: es) fun ps σ₂ => Callee C σ₂ g ∧ AC C ρ σ₂ g ps K) : AE C ρ σ (.Call (.Attribute o name apos) (e :: es) [] pos) K := by
  intro τ s Q E J q
  rw [hc]
  refine wpAny_bind (h τ s _ E J fun v p σ₁ s₁ k J₁ => wpAny_bind (wpAny_standAt (wpAny_bind (wpAny_holding ?_))))
  obtain ⟨g, hm, ha⟩ := k
  refine hm ρ _ s₁ v _ _ E J₁ (.head _) fun vg t J₂ => ?_
  exact AC.args (first := []) hp he ha J₂ (.head _) .nil fun v p σ' s' k' J' => q v p σ' s' k' (J'.tmps fun q hq => by
    rcases List.mem_cons.mp hq with rfl | hq
    · exact .head _
    · exact .tail _ (.tail _ (.tail _ hq)))
theorem AMT.excInit (O : C.Ok n) : AMT C σ (.val (.type "Exception")) "__init__" (.val (.builtin "Exception.__init__")) := by
  intro ρ τ s v pl Q E J hv q
  cases J.getVal hv
  obtain ⟨m, S, I, D⟩ := J
  exact method_type D.F O.X (by rfl) (by decide +kernel) (by rfl) rfl (q _ _ ((D.more (.val _)).tok.inv))
theorem InvD.updRawD {τ : Tmp} {s : Shared} {m : Str → Option Value} {S I : Led} (D : InvD C ρ σ τ s m S I) {x : Addr} {o o' : Obj} {σ' : Store} (U : UpdS x (.raw o) (.raw o') σ σ') {h' : Heap} {tk : Nat} (hx : h'.get? x = some o')
    (hk : ∀ b ob, b ≠ x → s.heap.get? b = some ob → h'.get? b = some ob) : ∃ S', InvD C ρ σ' τ { s with heap := h', toks := tk } m S' I ∧ S'.map (·.1) = S.map (·.1) := by
  obtain ⟨D₁, own, D₂, e, r, put⟩ := D.upd U
  cases r using ORep.casesRaw with
  | raw =>
    have hm : (x, o) ∈ S ++ (C.J ++ I) := mem3.mpr (.inl (by rw [e]; exact List.mem_append_right _ (.head _)))
    have hx0 := (D.N _ hm).2.2
    have hxL := (D.N _ hm).2.1
    have ap := D.apart (q := (x, o)) e (.head _)
    refine ⟨_, put [(x, o')] h' tk .raw rfl ⟨?_, fun b ob hb => ?_, D.F.above⟩ fun p hp => ?_, by rw [e]; simp⟩
    · obtain ⟨oL, es, ep, hL, r⟩ := D.F.ns
      exact ⟨oL, es, ep, hk _ _ (Ne.symm hxL) hL, r⟩
    · exact hk _ _ (fun q => by subst q; rw [hx0] at hb; cases hb) (D.F.keep b ob hb)
    · have old : ∀ p, p ∈ D₁ ++ (D₂ ++ (C.J ++ I)) → h'.get? p.1 = some p.2 ∧ p.1 ≠ C.env.locals ∧ C.h₀.get? p.1 = none := fun p hp => by
        have h1 : p ∈ S ++ (C.J ++ I) := by
          rw [e]; simp only [List.mem_append] at hp ⊢
          rcases hp with h | h | h | h <;> simp [h]
        have h2 := D.N p h1
        refine ⟨hk _ _ ?_ h2.1, h2.2⟩
        rcases List.mem_append.mp hp with h | h
        · exact ap.1 p h
        · exact ap.2 p h
      rcases List.mem_append.mp hp with h | h
      · exact old p (List.mem_append_left _ h)
      · rcases List.mem_append.mp h with h | h
        · cases List.mem_singleton.mp h
          exact ⟨hx, hxL, hx0⟩
        · exact old p (List.mem_append_right _ h)
theorem InvD.updRaw {τ : Tmp} {s : Shared} {m : Str → Option Value} {S I : Led} (D : InvD C ρ σ τ s m S I) {x : Addr} {o o' : Obj} {σ' : Store} (U : UpdS x (.raw o) (.raw o') σ σ') {h' : Heap} {tk : Nat} (hx : h'.get? x = some o')
    (hk : ∀ b ob, b ≠ x → s.heap.get? b = some ob → h'.get? b = some ob) : Inv C ρ σ' τ { s with heap := h', toks := tk } := by
  obtain ⟨S', D', _⟩ := D.updRawD (tk := tk) U hx hk
  exact ⟨m, S', I, D'⟩
theorem InvD.raw {τ : Tmp} {s : Shared} {m : Str → Option Value} {S I : Led} (D : InvD C ρ σ τ s m S I) {x : Addr} {o : Obj} (hm : (x, AObj.raw o) ∈ σ) : s.heap.get? x = some o := by
  obtain ⟨own, k, hq⟩ := D.led hm
  cases k using ORep.casesRaw with | raw => exact (D.N _ (hq _ (.head _))).1
theorem AC.excInit {K : PV → Store → Prop} {e t Cl : Addr} {p : PV} (O : C.Ok n) (Y : ∀ (h : Heap), (hd.heap_1 C.w.params).In h → ExcCls C.M h Cl) (hm : (e, AObj.raw (excE Cl t)) ∈ σ) (hU : ∀ t', ∃ σ', UpdS e (.raw (excE Cl t)) (.raw (excE Cl t')) σ σ' ∧ K .none σ') :
    AC C ρ σ (.val (.builtin "Exception.__init__")) [.ref e, p] K := by
  intro τ s vf vs Q E J hf ha q
  cases J.getVal hf
  cases ha with
  | cons h1 ha => cases ha with
    | cons h2 ha =>
      cases ha
      cases J.getVal h1
      rename_i v1
      obtain ⟨m, S, I, D⟩ := J
      have he := D.raw hm
      obtain ⟨hh, g, d, tk, os⟩ := s
      refine exc_init (Y _ (O.X.keeps D.F.keep)) he (by rw [sizeLine_eq]; exact Nat.le_of_ble_eq_true rfl) ?_
      obtain ⟨σ', U, k⟩ := hU hh.objs.size
      have he₁ := Heap.get?_push_of_some (h := hh) (tupE [v1]) he
      refine q _ .none σ' _ k (Inv.push (D.updRaw (tk := tk) U (o' := excE Cl hh.objs.size) (h' := (hh.push (tupE [v1])).update e (Obj.mapFields (·.setIfInBounds 0 (.ref hh.objs.size)))) ?_ fun b ob hb hbo => ?_) fun _ => .val _)
      · rw [Heap.get?_update_self _ he₁ rfl]; rfl
      · rw [Heap.get?_update_other _ _ (Ne.symm hb)]
        exact Heap.get?_push_of_some _ hbo
theorem AG.exc {o : Expr} {name : Str} {pos : Pos} {p : PV} {K : Locs → Store → Prop} {Cl t : Addr} (O : C.Ok n) (Y : ∀ (h : Heap), (hd.heap_1 C.w.params).In h → ExcSet C.M h Cl name)
    (h : AE C ρ σ o fun q σ₁ => ∃ x, q = .ref x ∧ (x, AObj.raw (excE Cl t)) ∈ σ₁ ∧ ∀ o', o'.cls = .ref Cl → o'.data = (excE Cl t).data → ∃ σ₂, UpdS x (.raw (excE Cl t)) (.raw o') σ₁ σ₂ ∧ K ρ σ₂) : AG C ρ σ (.Attribute o name pos) p K := by
  intro τ s v Q E J hv q
  show wpAny _ _ (do
    let ov ← holding [v] (eval o C.env)
    standAt pos.atName
    holding [v, ov] (setAttr ov name v)
    release [v, ov] []) Q E s
  refine wpAny_bind (wpAny_holding (h τ s _ E J fun vo p' σ₁ s₁ k J₁ => wpAny_bind (wpAny_standAt (wpAny_bind (wpAny_holding ?_)))))
  obtain ⟨x, rfl, hm, kk⟩ := k
  cases J₁.getVal (.head _)
  obtain ⟨m, S, I, D⟩ := J₁
  have hx := D.raw hm
  obtain ⟨hh, g, d, tk, os⟩ := s₁
  refine exc_set (Y _ (O.X.keeps D.F.keep)) hx rfl rfl rfl fun h' tk' ox' a1 a2 a3 a4 => ?_
  obtain ⟨σ₂, U, k⟩ := kk ox' a2 a3
  exact wpAny_releaseM (q ρ σ₂ _ k ((D.updRaw U a1 a4).drop))
structure ExcFacts (Cl : Addr) : Prop where
  cls : ∀ (M : Model) (w : World) (h : Heap), (hd.heap_1 w.params).In h → ExcCls M h Cl
  set : ∀ (M : Model) (w : World) (h : Heap), (hd.heap_1 w.params).In h → ExcSet M h Cl "message"
  init : ∀ w : World, findIn (hd.heap_1 w.params) (.ref Cl) "__init__" = some (some (.ref 28))
theorem exc28 : ∀ w : World, typeIn (hd.heap_1 w.params) (.ref 28) = some (.type "function") := fun w => by k_is
noncomputable def isExcObj (Cl : Addr) (o : Obj) : Prop := o.cls = .ref Cl ∧ ∃ t, o.data = .fields #[.ref t, .none, .none, .none, .bool false, .none]
theorem init_exc28 {Cl e t : Addr} {p : PV} (F : ExcFacts Cl) : CC (.ref 28) [.ref e, p] [(e, .raw (excE Cl t))] 2 fun p σ' => p = .none ∧ ∃ o, isExcObj Cl o ∧ σ' = [(e, .raw o)] := by
  refine' CC.def (f := 28) (xs := [Str.ofString "self", Str.ofString "message"]) ?d rfl ?h
  case d => walk_at "def2"
  case h =>
  intro C O hs hc
  refine AX.cons (AS.expr (by assumption) ?_ rfl)
  refine AE.methT (fun _ => rfl) (fun _ => rfl) (fun _ => rfl) ?_
  walk_at "ae"
  refine ⟨_, AMT.excInit O, ?_⟩
  walk_at "ae"
  refine AC.excInit O (fun h X => F.cls _ _ h X) (.head _) fun t' => ⟨_, .head, ?_⟩
  iterate 5 (walk_at "ae2"; (try dsimp only))
  refine AG.exc (t := t') O (fun h X => F.set _ _ h X) ?_
  walk_at "ae"
  refine ⟨e, rfl, .head _, fun o' h1 h2 => ⟨_, .head, ?_⟩⟩
  walk_at "ae"
  exact ⟨rfl, o', ⟨h1, t', h2⟩, rfl⟩
theorem CC.exc {Cl : Addr} {p : PV} {σ : Store} (F : ExcFacts Cl) : CC (.ref Cl) [p] σ 3 fun q σ' => ∃ e o, isExcObj Cl o ∧ q = .ref e ∧ σ' = (e, .raw o) :: σ := by
  intro C ρ O τ s vf vs R J hv ha q
  cases J.getVal hv
  have hlen : vs.length ≤ sizeLine := by rw [ha.length, sizeLine_eq]; exact Nat.le_of_ble_eq_true rfl
  obtain ⟨m, S, I, D⟩ := J
  have X := O.X.keeps D.F.keep
  obtain ⟨hh, g, d, tk, os⟩ := s
  refine exc_make (F.cls _ _ _ X) hlen (looks_findIn X (F.init _)) (fun self => bind_fn X self (exc28 _)) ?_
  have D1 : InvD C ρ σ τ ⟨hh.push (tupE vs), g, d, tk, os⟩ m S ((hh.objs.size, tupE vs) :: I) := D.pushI (tupE vs) (tk := tk)
  have D2 : InvD C ρ ((hh.objs.size + 1, .raw (excE Cl hh.objs.size)) :: σ) τ ⟨(hh.push (tupE vs)).push (excE Cl hh.objs.size), g, d, tk, os⟩ m ((hh.objs.size + 1, excE Cl hh.objs.size) :: S) ((hh.objs.size, tupE vs) :: I) := by
    have := D1.pushS (ao := .raw (excE Cl hh.objs.size)) (o := excE Cl hh.objs.size) (tk := tk) .raw
    simpa only [Heap.size_push] using this
  have O' : Ctx.Ok { C with A := C.A.under (.builtin "type.__call__" ⟨.ref Cl :: vs, []⟩) } 2 := by
    refine O.at rfl rfl ?_ ?_ (Nat.le_refl _)
    · rw [depth_under_kw]; exact Nat.le_refl _
    · show C.A.units + _ ≤ C.A.units + 10
      exact Nat.add_le_add_left (Nat.le_of_ble_eq_true rfl) _
  have J2 : Inv C ρ ([(hh.objs.size + 1, .raw (excE Cl hh.objs.size))] ++ σ) τ ⟨(hh.push (tupE vs)).push (excE Cl hh.objs.size), g, d, tk, os⟩ := ⟨_, _, _, D2⟩
  refine (init_exc28 (p := p) F).frame σ _ ρ O' ((.ref (hh.objs.size + 1), .ref (hh.objs.size + 1)) :: (.ref 28, .ref 28) :: τ) _ (.ref 28) _ _ (((J2.push fun _ => .val (.ref 28)).push fun _ => .val (.ref (hh.objs.size + 1))).at _) (.tail _ (.head _)) (.cons (.head _) (ha.mono fun q hq => .tail _ (.tail _ hq))) fun v p σ' s' k J' => ?_
  obtain ⟨σ₁, rfl, rfl, o, ho, rfl⟩ := k
  have J₂ := J'.off
  have e := J₂.getVal (.head _)
  refine ⟨e, q _ _ _ s' ⟨hh.objs.size + 1, o, ho, rfl, rfl⟩ (J₂.tmps fun q hq => ?_)⟩
  rcases List.mem_cons.mp hq with rfl | hq
  · exact .tail _ (.head _)
  · exact .tail _ (.tail _ (.tail _ hq))
end
theorem refuse_tail (self : Value) (a b : Addr) : refuseLoop self "__setattr__" [.ref a, .ref b, .type "Exception", .type "BaseException", .type "object"] = pure () := by
  rw [refuseLoop_ref, refuseLoop_ref]; exact PySem.F.store_Exception.passes self
theorem excFacts_44 : ExcFacts 44 := by
  refine ⟨fun M w h X => ?_, fun M w h X => ?_, fun w => by k_is⟩
  · obtain ⟨oc, od, cd, sl, ho, h1, h2, h3, h4⟩ : ∃ oc od cd sl, (hd.heap_1 w.params).lookup 44 = some ⟨oc, od, .cls cd, sl⟩ ∧ cd.mro = [.ref 44, .ref 31, .type "Exception", .type "BaseException", .type "object"] ∧ (sl.toList[4]?).join = some (.builtin "Exception.__new__") ∧ cd.hasDel = false ∧ oc = .type "type" := ⟨_, _, _, _, by k_is, rfl, rfl, rfl, rfl⟩
    exact excCls_of X ho h4 h2 (by rw [h1]; rfl) (by rw [h1]; rfl) (by rw [h1]; rfl) (by rw [h1]; rfl) (by rw [h1]; rfl) (by rw [h1]; rfl) h3 (by k_is) (by k_is)
  · obtain ⟨oc, od, cd, sl, ho, h1, h2⟩ : ∃ oc od cd sl, (hd.heap_1 w.params).lookup 44 = some ⟨oc, od, .cls cd, sl⟩ ∧ cd.mro = [.ref 44, .ref 31, .type "Exception", .type "BaseException", .type "object"] ∧ cd.hasDict = true := ⟨_, _, _, _, by k_is, rfl, rfl⟩
    have hm : Looks M h (mroOf (.ref 44)) cd.mro := (looks_clsIn X (K := hd.heap_1 w.params) (C := 44) (by unfold clsIn; rw [ho])).andThen .now
    exact ⟨⟨_, hm, fun self => by rw [h1]; exact refuse_tail self 44 31⟩, looks_findIn (K := hd.heap_1 w.params) X (by k_is), looks_findIn (K := hd.heap_1 w.params) X (by k_is), looks_mroIn (K := hd.heap_1 w.params) X (by k_is), ⟨_, _, _, _, X _ _ ho, h2⟩⟩
theorem excFacts_56 : ExcFacts 56 := by
  refine ⟨fun M w h X => ?_, fun M w h X => ?_, fun w => by k_is⟩
  · obtain ⟨oc, od, cd, sl, ho, h1, h2, h3, h4⟩ : ∃ oc od cd sl, (hd.heap_1 w.params).lookup 56 = some ⟨oc, od, .cls cd, sl⟩ ∧ cd.mro = [.ref 56, .ref 31, .type "Exception", .type "BaseException", .type "object"] ∧ (sl.toList[4]?).join = some (.builtin "Exception.__new__") ∧ cd.hasDel = false ∧ oc = .type "type" := ⟨_, _, _, _, by k_is, rfl, rfl, rfl, rfl⟩
    exact excCls_of X ho h4 h2 (by rw [h1]; rfl) (by rw [h1]; rfl) (by rw [h1]; rfl) (by rw [h1]; rfl) (by rw [h1]; rfl) (by rw [h1]; rfl) h3 (by k_is) (by k_is)
  · obtain ⟨oc, od, cd, sl, ho, h1, h2⟩ : ∃ oc od cd sl, (hd.heap_1 w.params).lookup 56 = some ⟨oc, od, .cls cd, sl⟩ ∧ cd.mro = [.ref 56, .ref 31, .type "Exception", .type "BaseException", .type "object"] ∧ cd.hasDict = true := ⟨_, _, _, _, by k_is, rfl, rfl⟩
    have hm : Looks M h (mroOf (.ref 56)) cd.mro := (looks_clsIn X (K := hd.heap_1 w.params) (C := 56) (by unfold clsIn; rw [ho])).andThen .now
    exact ⟨⟨_, hm, fun self => by rw [h1]; exact refuse_tail self 56 31⟩, looks_findIn (K := hd.heap_1 w.params) X (by k_is), looks_findIn (K := hd.heap_1 w.params) X (by k_is), looks_mroIn (K := hd.heap_1 w.params) X (by k_is), ⟨_, _, _, _, X _ _ ho, h2⟩⟩
end
section
inductive FrsOk : List Env → Store → Prop
  | nil : FrsOk [] []
  | cons {env : Env} {L : Addr} {es : Array DictEntry} {n : Nat} {envs : List Env} {fs : Store} : env.frame = some L → env.scope.kind ≠ .module → FrsOk envs fs → FrsOk (env :: envs) ((L, .frame (.dict es n)) :: fs)
structure FrOk (C : Ctx) (fs : Store) : Prop where
  ex : ∃ r, C.fr = C.env :: r ∧ FrsOk r fs
  own : C.env.frame = some C.env.locals
section
variable {prog : Program} {w : World} {I : Led} {envs : List Env} {fs : Store} {D : Led} {h B h' : Heap}
theorem FrsOk.names (F : FrsOk envs fs) (k : Sep prog w I fs D) : D.map (·.1) = fs.map (·.1) := by
  induction F generalizing D with
  | nil => cases k; rfl
  | cons _ _ _ ih =>
    cases k using Sep.casesCons with
    | cons r k => cases r using ORep.casesFrame with | frame hd => simp [ih k]
theorem FrsOk.funFrames (F : FrsOk envs fs) (k : Sep prog w I fs D) (hp : ∀ p ∈ D, h.get? p.1 = some p.2) (hb : ∀ p ∈ D, B.get? p.1 = none) : h.FunFrames B envs := by
  induction F generalizing D with
  | nil => trivial
  | cons hf hk _ ih =>
    cases k using Sep.casesCons with
    | cons r k => cases r using ORep.casesFrame with
      | frame hd => exact ⟨hk, ⟨_, _, hf, hb _ (.head _), hp _ (.head _), fun vs e => by rw [hd] at e; cases e⟩, ih k (fun p hq => hp p (.tail _ hq)) fun p hq => hb p (.tail _ hq)⟩
theorem FrsOk.turn (F : FrsOk envs fs) (k : Sep prog w I fs D) (hp : ∀ p ∈ D, h.get? p.1 = some p.2) (U : h.UpToSlots h') : ∃ D', Sep prog w I fs D' ∧ D'.map (·.1) = D.map (·.1) ∧ ∀ p ∈ D', h'.get? p.1 = some p.2 := by
  induction F generalizing D with
  | nil => cases k; exact ⟨[], .nil, rfl, fun _ h => nomatch h⟩
  | cons hf hk _ ih =>
    cases k using Sep.casesCons with
    | cons r k => cases r using ORep.casesFrame with
      | @frame o hd =>
        obtain ⟨D', k', e, hp'⟩ := ih k (fun p hq => hp p (.tail _ hq))
        obtain ⟨sl, hs⟩ := U _ _ (hp _ (.head _)) fun vs e => by rw [hd] at e; cases e
        refine ⟨_, .cons (.frame (o := { o with slots := sl }) hd) k', ?_, fun p hq => ?_⟩
        · simp [e]
        · rcases List.mem_cons.mp hq with rfl | hq
          · exact hs
          · exact hp' p hq
end
noncomputable def Noted (h B : Heap) (e : Addr) (cls : Value) : Bool → Prop
  | true => ∃ a0, h.TracedW B e cls a0
  | false => ∃ oe vs a0, h.get? e = some oe ∧ oe.cls = cls ∧ oe.data = .fields vs ∧ vs[0]? = some a0 ∧ vs[1]? = some .none
structure Fly (C : Ctx) (fs : Store) (S I : Led) (B h : Heap) (e : Addr) (cls : Value) (tr : Bool) : Prop where
  base : C.h₀.StaysIn B
  kept : ∀ p ∈ S ++ (C.J ++ I), p.1 ∉ fs.map (·.1) → B.get? p.1 = some p.2
  stays : B.StaysIn h
  new : B.get? e = none
  frames : h.FunFrames B C.fr
  noted : Noted h B e cls tr
noncomputable def InvX (C : Ctx) (ρ : Locs) (σ fs : Store) (τ : Tmp) (s : Shared) (e : Addr) (cls : Value) (tr : Bool) : Prop :=
  ∃ m S I B, InvD C ρ (σ ++ fs) τ s m S I ∧ Fly C fs S I B s.heap e cls tr
section
variable {C : Ctx} {ρ : Locs} {σ fs φ : Store} {τ : Tmp} {s : Shared} {e : Addr} {cls : Value} {tr : Bool}
theorem InvX.inv (X : InvX C ρ σ fs τ s e cls tr) : Inv C ρ (σ ++ fs) τ s := let ⟨m, S, I, _, D, _⟩ := X; ⟨m, S, I, D⟩
theorem InvX.tmps {τ' : Tmp} (X : InvX C ρ σ fs τ s e cls tr) (h : ∀ q ∈ τ', q ∈ τ) : InvX C ρ σ fs τ' s e cls tr := by
  obtain ⟨m, S, I, B, D, F⟩ := X
  exact ⟨m, S, I, B, { D with tmp := fun q hq => D.tmp q (h q hq) }, F⟩
theorem InvX.drop (X : InvX C ρ (σ ++ φ) fs τ s e cls tr) : InvX C ρ σ fs τ s e cls tr := by
  obtain ⟨m, S, I, B, D, F⟩ := X
  obtain ⟨D₁, D₂, rfl, h1, h2⟩ := D.sep.split
  obtain ⟨D₃, D₄, rfl, h3, h4⟩ := h1.split
  have hs : ∀ p ∈ (D₃ ++ D₂) ++ (C.J ++ I), p ∈ ((D₃ ++ D₄) ++ D₂) ++ (C.J ++ I) := fun p hp => by
    simp only [List.mem_append] at hp ⊢; rcases hp with (h | h) | h | h <;> simp [h]
  refine ⟨m, D₃ ++ D₂, I, B, ⟨D.F, News.sub D.N hs, ?_, h3.append h2, D.sub, D.loc, D.tmp, D.g, D.d, D.os⟩, ⟨F.base, fun p hp => F.kept p (hs p hp), F.stays, F.new, F.frames, F.noted⟩⟩
  have nd := D.nd
  refine List.Nodup.sublist (List.Sublist.map _ ?_) nd
  rw [List.append_assoc, List.append_assoc]
  rw [List.append_assoc]
  exact List.Sublist.append_left (List.sublist_append_right _ _) _
theorem InvX.perm {σ' : Store} (X : InvX C ρ σ fs τ s e cls tr) (hp : σ.Perm σ') : InvX C ρ σ' fs τ s e cls tr := by
  obtain ⟨m, S, I, B, D, F⟩ := X
  obtain ⟨D₁, D₂, rfl, h1, h2⟩ := D.sep.split
  obtain ⟨D₁', k, p⟩ := h1.perm hp
  have p' : ((D₁ ++ D₂) ++ (C.J ++ I)).Perm ((D₁' ++ D₂) ++ (C.J ++ I)) := (p.append_right _).append_right _
  exact ⟨m, D₁' ++ D₂, I, B, { D with N := fun q hq => D.N q (p'.mem_iff.mpr hq), nd := (p'.map _).nodup_iff.mp D.nd, sep := k.append h2 }, ⟨F.base, fun q hq => F.kept q (p'.mem_iff.mpr hq), F.stays, F.new, F.frames, F.noted⟩⟩
theorem InvX.turn (K : FrOk C fs) (X : InvX C ρ σ fs τ s e cls tr) : ∃ B, Fly C fs [] [] B s.heap e cls tr ∧ ∀ h' tr', B.StaysIn h' → h'.FunFrames B C.fr → Noted h' B e cls tr' → s.heap.UpToSlots h' → InvX C ρ σ fs τ { s with heap := h' } e cls tr' := by
  obtain ⟨m, S, I, B, D, F⟩ := X
  refine ⟨B, ⟨F.base, fun p hp hq => F.kept p (by simp at hp ⊢; simp [hp]) hq, F.stays, F.new, F.frames, F.noted⟩, fun h' tr' a1 a2 a3 a4 => ?_⟩
  obtain ⟨r, hr, FO⟩ := K.ex
  obtain ⟨D₁, D₂, rfl, k1, k2⟩ := D.sep.split
  obtain ⟨D₂', k2', e2, p2⟩ := FO.turn k2 (fun p hp => (D.N p (by simp [hp])).1) a4
  have names := FO.names k2
  have nd := D.nd
  have nd' : (((D₁ ++ D₂') ++ (C.J ++ I)).map (·.1)) = (((D₁ ++ D₂) ++ (C.J ++ I)).map (·.1)) := by simp [e2]
  have keep : ∀ p ∈ D₁ ++ (C.J ++ I), h'.get? p.1 = some p.2 := fun p hp => by
    refine a1 _ _ (F.kept p (by simp only [List.mem_append] at hp ⊢; rcases hp with h | h | h <;> simp [h]) fun q => ?_)
    rw [← names] at q
    rw [List.append_assoc, List.map_append, List.map_append] at nd
    have n1 := List.nodup_append.mp nd
    have n2 := List.nodup_append.mp n1.2.1
    rcases List.mem_append.mp hp with h | h
    · exact n1.2.2 _ (List.mem_map_of_mem h) _ (List.mem_append_left _ q) rfl
    · exact n2.2.2 _ q _ (List.mem_map_of_mem h) rfl
  have mem' : ∀ p ∈ (D₁ ++ D₂') ++ (C.J ++ I), h'.get? p.1 = some p.2 := fun p hp => by
    simp only [List.mem_append] at hp
    rcases hp with (h | h) | h | h
    · exact keep p (by simp [h])
    · exact p2 p h
    · exact keep p (by simp [h])
    · exact keep p (by simp [h])
  have other : ∀ p ∈ (D₁ ++ D₂') ++ (C.J ++ I), p.1 ≠ C.env.locals ∧ C.h₀.get? p.1 = none := fun p hp => by
    have h1 : p.1 ∈ ((D₁ ++ D₂) ++ (C.J ++ I)).map (·.1) := by rw [← nd']; exact List.mem_map_of_mem hp
    obtain ⟨q, hq, e⟩ := List.mem_map.mp h1
    rw [← e]
    exact (D.N q hq).2
  refine ⟨m, D₁ ++ D₂', I, B, ⟨⟨a4.ns D.F.ns, fun b o hb => a1 _ _ (F.base b o hb), D.F.above⟩, fun p hp => ⟨mem' p hp, other p hp⟩, by rw [nd']; exact D.nd, k1.append k2', D.sub, D.loc, D.tmp, D.g, D.d, D.os⟩, ⟨F.base, fun p hp hq => ?_, a1, F.new, a2, a3⟩⟩
  refine F.kept p ?_ hq
  simp only [List.mem_append] at hp ⊢
  rcases hp with (h | h) | h | h
  · simp [h]
  · exfalso
    apply hq
    rw [← names, ← e2]
    exact List.mem_map_of_mem h
  · simp [h]
  · simp [h]
end
end
section
section
variable {C : Ctx} {n : Nat} {ρ : Locs} {σ fs : Store} {τ : Tmp} {s : Shared} {m : Str → Option Value} {S I : Led}
theorem InvD.L0 (D : InvD C ρ σ τ s m S I) : C.h₀.get? C.env.locals = none := kts_self D.F
theorem InvD.staysR (D : InvD C ρ σ τ s m S I) : ∀ b o, C.h₀.get? b = some o → (hideAll s.heap (C.env.locals :: (S ++ (C.J ++ I)).map (·.1))).get? b = some o :=
  fun b o e => hideAll_get _ (D.F.keep b o e) fun h => by
    rcases List.mem_cons.mp h with h | h
    · rw [h, D.L0] at e; cases e
    · exact D.notIn e h
noncomputable def Ctx.intoR (C : Ctx) (env : Env) (s : Shared) (S I : Led) : Ctx := C.into env s.heap (C.env.locals :: (S ++ (C.J ++ I)).map (·.1)) I
theorem Ctx.Ok.intoR (O : C.Ok (n + 1)) (D : InvD C ρ σ τ s m S I) {env : Env} (hk : env.scope.kind = .function) (hg : env.globals = mainGlobals) (hb : env.builtins = builtinsNs) : (C.intoR env s S I).Ok n := by
  obtain ⟨p, loose, mean, mg, mb, T⟩ := O.T
  refine ⟨Around.frames_deeper O.stack, O.X.keeps D.staysR, ⟨p, loose, mean, mg, mb, T.keeps D.staysR⟩, O.hh, ?_, ?_, hk, hg, hb⟩
  · show C.A.depth + 1 + n ≤ 500
    have := O.depth; (first | lia | omega)
  · show C.A.units + 3 + 10 * n ≤ 5000
    have := O.units; (first | lia | omega)
theorem FrOk.into (O : C.Ok n) (K : FrOk C fs) {env : Env} {es : Array DictEntry} {k : Nat} (hf : env.frame = some env.locals) : FrOk (C.intoR env s S I) ((C.env.locals, .frame (.dict es k)) :: fs) := by
  obtain ⟨r, hr, FO⟩ := K.ex
  refine ⟨⟨C.fr, rfl, ?_⟩, hf⟩
  rw [hr]
  exact .cons K.own (by rw [O.hk]; decide) FO
theorem InvD.intoR (D : InvD C ρ σ τ s m S I) {env : Env} {h₁ : Heap} {m' : Str → Option Value} {tk : Nat} {ρ' : Locs} {τ' : Tmp} {oL : Obj} {es : Array DictEntry} {k : Nat} (hL : s.heap.get? C.env.locals = some oL) (hd : oL.data = .dict es k)
    (he : env.locals = s.heap.objs.size) (hns : h₁.Ns env.locals m') (hk : ∀ b o, s.heap.get? b = some o → h₁.get? b = some o)
    (loc : ∀ x p, ρ'.lookup x = some p → ∃ v, m' x = some v ∧ VRep I v p) (tmp : ∀ q ∈ τ', VRep I q.1 q.2) :
    InvD (C.intoR env s S I) ρ' ((C.env.locals, .frame (.dict es k)) :: σ) τ' { s with heap := h₁, toks := tk } m' ((C.env.locals, oL) :: S) I := by
  have all : ∀ p ∈ (C.env.locals, oL) :: (S ++ (C.J ++ I)), s.heap.get? p.1 = some p.2 := fun p hp => by
    rcases List.mem_cons.mp hp with rfl | hp
    · exact hL
    · exact (D.N p hp).1
  refine ⟨⟨hns, fun b o e => hk b o (of_hideAll _ e), ?_⟩, fun p hp => ⟨hk _ _ (all p hp), ?_, hideAll_none _ ?_⟩, ?_, .cons (own := [(C.env.locals, oL)]) (.frame hd) D.sep, fun _ h => h, loc, tmp, D.g, D.d, D.os⟩
  · show (hideAll s.heap _).objs.size ≤ env.locals
    rw [hideAll_size, he]; exact Nat.le_refl _
  · show p.1 ≠ env.locals
    rw [he]; exact Nat.ne_of_lt (Heap.lt_size (all p hp))
  · exact List.mem_map_of_mem (f := fun q : Addr × Obj => q.1) hp
  · show (((C.env.locals, oL) :: (S ++ (C.J ++ I))).map (·.1)).Nodup
    exact List.nodup_cons.mpr ⟨D.notL, D.nd⟩
theorem InvD.backR (D : InvD C ρ σ τ s m S I) {env : Env} {ρ' : Locs} {σ' : Store} {τ' : Tmp} {s' : Shared} {m' : Str → Option Value} {S' I' : Led} {es : Array DictEntry} {k : Nat} {oL : Obj} (hL : s.heap.get? C.env.locals = some oL) (hd : oL.data = .dict es k)
    (D' : InvD (C.intoR env s S I) ρ' ((C.env.locals, .frame (.dict es k)) :: σ') τ' s' m' S' I') : ∃ o S₂, S' = (C.env.locals, o) :: S₂ ∧ InvD C ρ σ' (τ' ++ τ) s' m S₂ I' := by
  have sub : ∀ p ∈ I, p ∈ I' := D'.sub
  obtain ⟨oL', es', ep', hL', hd', hr⟩ := D.F.ns
  cases hL.symm.trans hL'
  have := hd.symm.trans hd'
  cases this
  have h := D'.sep
  cases h using Sep.casesCons with
  | cons r k2 =>
    cases r using ORep.casesFrame with
    | @frame o ho =>
      rename_i S₂
      refine ⟨o, S₂, rfl, ?_⟩
      have all : ∀ p ∈ S₂ ++ (C.J ++ I'), p ∈ ((C.env.locals, o) :: S₂) ++ ((C.intoR env s S I).J ++ I') := fun p hp => .tail _ hp
      have nd : (C.env.locals :: (S₂ ++ (C.J ++ I')).map (·.1)).Nodup := D'.nd
      have nd' := List.nodup_cons.mp nd
      have hN := D'.N (C.env.locals, o) (.head _)
      refine ⟨⟨⟨o, es, k, hN.1, ho, hr⟩, fun b o e => D'.F.keep _ _ (D.staysR b o e), D.F.above⟩, fun p hp => ⟨(D'.N p (all p hp)).1, fun q => ?_, ?_⟩, nd'.2, k2, fun p hp => sub p (D.sub p hp), fun x p e => ?_, fun q hq => ?_, D'.g, D'.d, D'.os⟩
      · exact nd'.1 (by rw [← q]; exact List.mem_map_of_mem (f := fun q : Addr × Obj => q.1) hp)
      · cases q : C.h₀.get? p.1 with
        | none => rfl
        | some o =>
          have h2 := (D'.N p (all p hp)).2.2
          have h3 : (C.intoR env s S I).h₀.get? p.1 = some o := D.staysR _ _ q
          rw [h3] at h2; cases h2
      · obtain ⟨v, hv, r⟩ := D.loc x p e; exact ⟨v, hv, r.mono sub⟩
      · rcases List.mem_append.mp hq with hq | hq
        · exact D'.tmp q hq
        · exact (D.tmp q hq).mono sub
theorem InvD.permD (D : InvD C ρ σ τ s m S I) {σ' : Store} (hp : σ.Perm σ') : ∃ S', InvD C ρ σ' τ s m S' I ∧ S.Perm S' := by
  obtain ⟨S', h', p⟩ := D.sep.perm hp
  have p' : (S ++ (C.J ++ I)).Perm (S' ++ (C.J ++ I)) := p.append_right _
  exact ⟨S', { D with N := fun q hq => D.N q (p'.mem_iff.mpr hq), nd := (p'.map _).nodup_iff.mp D.nd, sep := h' }, p⟩
theorem InvX.leave {σ₀ σ' : Store} (D : InvD C ρ (σ₀ ++ fs) τ s m S I) (O : C.Ok n) (K : FrOk C fs) {env : Env} {ρ' : Locs} {τ' : Tmp} {s' : Shared} {es : Array DictEntry} {k : Nat} {oL : Obj} (hL : s.heap.get? C.env.locals = some oL) (hd : oL.data = .dict es k) (hf : env.frame = some env.locals)
    {e : Addr} {cls : Value} {tr : Bool} (X : InvX (C.intoR env s S I) ρ' σ' ((C.env.locals, .frame (.dict es k)) :: fs) τ' s' e cls tr) {Q : Unit → Shared → Prop} {E : Value → Shared → Prop}
    (hQ : ∀ h', InvX C ρ σ' fs τ { s' with heap := h' } e cls true → Q () { s' with heap := h' }) : wpAny C.M (C.A.deeper env) (leaving env (.ref e)) Q E s' := by
  obtain ⟨B, F, step⟩ := X.turn (FrOk.into O K hf)
  have out : ∀ h', InvX (C.intoR env s S I) ρ' σ' ((C.env.locals, .frame (.dict es k)) :: fs) τ' { s' with heap := h' } e cls true → InvX C ρ σ' fs τ { s' with heap := h' } e cls true := by
    intro h' X'
    obtain ⟨m', S', I', B', D', F'⟩ := X'
    obtain ⟨S₂, D₂, p⟩ := D'.permD (σ' := (C.env.locals, .frame (.dict es k)) :: (σ' ++ fs)) List.perm_middle
    obtain ⟨o, S₃, rfl, D₃⟩ := D.backR hL hd D₂
    have nd : (C.env.locals :: (S₃ ++ (C.J ++ I')).map (·.1)).Nodup := D₂.nd
    refine ⟨m, S₃, I', B', { D₃ with tmp := fun q hq => D₃.tmp q (List.mem_append_right _ hq) }, ⟨fun b o hb => F'.base _ _ (D.staysR b o hb), fun q hq hn => ?_, F'.stays, F'.new, F'.frames.2.2, F'.noted⟩⟩
    refine F'.kept q ?_ ?_
    · have : q ∈ ((C.env.locals, o) :: S₃) ++ (C.J ++ I') := .tail _ hq
      exact (p.append_right _).mem_iff.mpr this
    · intro hh
      rcases List.mem_cons.mp hh with hh | hh
      · exact (List.nodup_cons.mp nd).1 (by have hh' : q.1 = C.env.locals := hh; rw [← hh']; exact List.mem_map_of_mem (f := fun q : Addr × Obj => q.1) hq)
      · exact hn hh
  have hfr : (C.A.deeper env).frames = some (env :: C.fr) := Around.frames_deeper O.stack
  have FF : s'.heap.FunFrames B (env :: C.fr) := F.frames
  cases tr with
  | false =>
    obtain ⟨oe, vs, a0, he, hc, hdt, h0, h1⟩ := F.noted
    refine wpAny_leaving_firstW hfr FF hf he F.stays F.new hdt h1 h0 fun h' hl => ?_
    obtain ⟨k1, k2, k3, k4⟩ := hl
    exact hQ h' (out h' (step h' true k1 k2 ⟨a0, by rw [← hc]; exact k3⟩ k4))
  | true =>
    obtain ⟨a0, ht⟩ := F.noted
    refine wpAny_leaving_nextW hfr FF hf ht F.stays F.new fun h' hl => ?_
    obtain ⟨k1, k2, k3, k4⟩ := hl
    exact hQ h' (out h' (step h' true k1 k2 ⟨a0, k3⟩ k4))
end
section
variable {C : Ctx} {n : Nat} {ρ : Locs} {σ fs : Store} {τ : Tmp} {s : Shared}
noncomputable def retOf : Flow → Value
  | .ret v => v
  | _ => .none
noncomputable def CodeIs (C : Ctx) (f : Addr) : Prop := ∀ o fd, (hd.heap_1 C.w.params).lookup f = some o → o.data = .func fd → C.env.code = fd.code ∧ C.env.qual = fd.qualname ++ ".<locals>."
noncomputable def AR (C : Ctx) (ρ : Locs) (σ fs : Store) (ss : List Stmt) (cls : Value) (KN : PV → Store → Prop) (KX : Store → Prop) : Prop :=
  ∀ s (Q : Flow → Shared → Prop) E, Inv C ρ (σ ++ fs) [] s → (∀ f v p ρ' σ₁ s', v = retOf f → KN p σ₁ → Inv C ρ' (σ₁ ++ fs) [(v, p)] s' → Q f s') →
    (∀ e ρ' σ₁ τ' s' tr, KX σ₁ → InvX C ρ' σ₁ fs τ' s' e cls tr → E (.ref e) s') → wpAny C.M C.A (execs ss C.env) Q E s
theorem enterF {f : Addr} {xs : List Str} {body : List Stmt} {sc : Scope} (d : DefC f xs body sc) {ps : List PV} {cls : Value} {KN : PV → Store → Prop} {KX : Store → Prop} (hl : ps.length = xs.length) {vf : Value} {vs : List Value} {R : Result → Shared → Prop}
    (O : C.Ok (n + 1)) (K : FrOk C fs) (J : Inv C ρ (σ ++ fs) τ s) (hf : (vf, .ref f) ∈ τ) (ha : AllIn τ vs ps)
    (h : ∀ C' L fs', C'.Ok n → FrOk C' fs' → C'.env.scope = sc → C'.env.cells = cellsFrom L sc.names [] → CodeIs C' f → AR C' (locsOf sc (xs.zip ps)) (cellsOf (cellsFrom L sc.names []) (xs.zip ps) ++ σ) fs' body cls KN KX)
    (qn : ∀ v p σ₁ s', KN p σ₁ → Inv C ρ (σ₁ ++ fs) ((v, p) :: τ) s' → R (.ok (.ret v)) s') (qx : ∀ e σ₁ s', KX σ₁ → InvX C ρ σ₁ fs τ s' e cls true → R (.error (.ref e)) s') : codeAny C.M C.A (.call vf ⟨vs, []⟩) R s := by
  cases J.getVal hf
  obtain ⟨m, S, I, D⟩ := J
  obtain ⟨oc, od, osl, name, qual, params, dV, kV, doc, pm, an, cdv, ct, ho, hcd, hb⟩ := d.ex C.w
  obtain ⟨_, _, _, _, _, T⟩ := O.T
  have X := O.X.keeps D.F.keep
  have hva := ha.rep D
  have hlv : vs.length = xs.length := by rw [ha.length, hl]
  have ndz : ((xs.zip vs).map (·.1)).Nodup := by rw [zip_keys hlv]; exact d.nd
  have hlim := T.nolimit.keeps D.F.keep
  refine codeAny_call_function (fd := fnX name qual params body sc [] dV kV doc pm an cdv ct) (by have := O.depth; show C.A.depth < 1000; (first | lia | omega)) (X _ _ ho) rfl d.co d.gen rfl (codeRec_of X hcd) (hb vs hlv s X _ _ _ _ ?_)
  refine wpAny_newFunctionEnv_cells d.kind (fun y hy => ?_) fun env he s' x => ?_
  · rcases d.loc y.1 (List.of_mem_zip hy).1 with h | ⟨h, h2⟩
    · exact .inl h
    · refine .inr ⟨h, ?_⟩
      have hm : ((cellsFrom (s.heap.objs.size + 1) sc.names []).map (·.1)) = (cellsFrom 0 sc.names []).map (·.1) := cellsFrom_names _ _ _ _ _ rfl
      obtain ⟨c, hc⟩ := Option.isSome_iff_exists.mp h2
      have h3 : y.1 ∈ (cellsFrom (s.heap.objs.size + 1) sc.names []).map (·.1) := by rw [hm]; exact List.mem_map.mpr ⟨_, mem_of_lookup hc, rfl⟩
      obtain ⟨q, hq, e⟩ := List.mem_map.mp h3
      have := lookup_of_mem_nodup (hm ▸ d.cells) (n := q.1) (c := q.2) hq
      rw [e] at this; rw [this]; rfl
  subst he
  refine ⟨hlim.keeps x.toInCall.keep, codeAny_func ?_⟩
  obtain ⟨h₁, tk, rfl, _⟩ := x.done
  have hk₁ := x.toInCall.keep
  let env := callEnvC (fnX name qual params body sc [] dV kV doc pm an cdv ct) s.heap.objs.size f
  have hmm : ((cellsFrom (s.heap.objs.size + 1) sc.names []).map (·.1)) = (cellsFrom 0 sc.names []).map (·.1) := cellsFrom_names _ _ _ _ _ rfl
  obtain ⟨cells, NC, Y⟩ := Cl.news (h₀ := s.heap) (Nat.le_refl _) fun n c hm => ⟨x.cell n c (lookup_of_mem_nodup (hmm ▸ d.cells) hm), x.above n c hm⟩
  have O' := O.intoR D (env := env) d.kind rfl rfl
  obtain ⟨oL, es, ep, hL, hdL, hrL⟩ := id D.F.ns
  have D' := D.intoR (env := env) (τ' := []) (ρ' := locsOf sc (xs.zip ps)) (tk := tk) hL hdL rfl x.toInCall.ns hk₁ (fun x p e => by
    obtain ⟨e1, e2⟩ := lookup_locsOf e
    obtain ⟨v, e', r⟩ := lookup_zip_rep hva e1
    exact ⟨v, bindL_of ndz e' e2, r⟩) (fun _ h => nomatch h)
  have hnk : ∀ q ∈ cellsFrom (s.heap.objs.size + 1) sc.names [], sc.names.lookup q.1 ≠ some .local := by
    intro q hq e
    have : q.1 ∈ (cellsFrom 0 sc.names []).map (·.1) := by rw [← hmm]; exact List.mem_map_of_mem hq
    exact d.kinds q.1 this e
  have hsep : Sep C.prog C.w I (cellsOf (cellsFrom (s.heap.objs.size + 1) sc.names []) (xs.zip ps)) cells := by
    refine cells_sep hva Y fun q hq => ?_
    rw [bindC_of ndz (hnk q hq)]; simp
  have NN : News (C.intoR env s S I).h₀ env.locals h₁ (cells ++ (((C.env.locals, oL) :: S) ++ (C.J ++ I))) := fun p hp => by
    rcases List.mem_append.mp hp with hp | hp
    · refine ⟨(NC p hp).1, (NC p hp).2.1, ?_⟩
      cases q : (C.intoR env s S I).h₀.get? p.1 with
      | none => rfl
      | some o => have := of_hideAll _ q; rw [(NC p hp).2.2] at this; cases this
    · exact D'.N p hp
  have hmap : cells.map (·.1) = (cellsFrom (s.heap.objs.size + 1) sc.names []).map (·.2) := by
    have : ∀ {cm : Str → Option Value} {cs : List (Str × Addr)} {cells : Led}, CellsAre cm cs cells → cells.map (·.1) = cs.map (·.2) := by
      intro cm cs cells h
      induction h with
      | nil => rfl
      | cons _ _ ih => simp [ih]
    exact this Y
  have ndc : (cells.map (·.1)).Nodup := by
    rw [hmap]
    exact (List.pairwise_map).mpr x.apart
  have ND : ((cells ++ (((C.env.locals, oL) :: S) ++ (C.J ++ I))).map (·.1)).Nodup := by
    rw [List.map_append]
    refine List.nodup_append.mpr ⟨ndc, D'.nd, fun a ha b hb e => ?_⟩
    obtain ⟨p, hp, rfl⟩ := List.mem_map.mp ha
    obtain ⟨q, hq, rfl⟩ := List.mem_map.mp hb
    have h1 := (NC p hp).2.2
    have h2 : ∃ o, s.heap.get? q.1 = some o := by
      rcases List.mem_cons.mp hq with rfl | hq
      · exact ⟨_, hL⟩
      · exact ⟨_, (D.N q hq).1⟩
    obtain ⟨o, h2⟩ := h2
    rw [e, h2] at h1; cases h1
  have D2 : InvD (C.intoR env s S I) (locsOf sc (xs.zip ps)) (cellsOf (cellsFrom (s.heap.objs.size + 1) sc.names []) (xs.zip ps) ++ ((C.env.locals, .frame (.dict es ep)) :: (σ ++ fs))) [] { s with heap := h₁, toks := tk }
      (bindL env.kindOf (xs.zip vs) fun _ => none) (cells ++ ((C.env.locals, oL) :: S)) I :=
    ⟨D'.F, by rw [List.append_assoc]; exact NN, by rw [List.append_assoc]; exact ND, hsep.append D'.sep, D'.sub, D'.loc, D'.tmp, D'.g, D'.d, D'.os⟩
  have J2 : Inv (C.intoR env s S I) (locsOf sc (xs.zip ps)) ((cellsOf (cellsFrom (s.heap.objs.size + 1) sc.names []) (xs.zip ps) ++ σ) ++ ((C.env.locals, .frame (.dict es ep)) :: fs)) [] { s with heap := h₁, toks := tk } := by
    refine Inv.perm ⟨_, _, _, D2⟩ ?_
    rw [List.append_assoc]
    exact List.Perm.append_left _ List.perm_middle.symm
  have K' : FrOk (C.intoR env s S I) ((C.env.locals, .frame (.dict es ep)) :: fs) := FrOk.into O K rfl
  refine h _ (s.heap.objs.size + 1) _ O' K' rfl rfl (fun o fd e1 e2 => by rw [show (C.intoR env s S I).w = C.w from rfl, ho] at e1; cases e1; cases e2; exact ⟨rfl, rfl⟩) _ _ _ J2 (fun fl v p ρ' σ₁ s' hv k J' => ?_) (fun e ρ' σ₁ τ' s' tr k X' => ?_)
  · obtain ⟨m', S', I', D''⟩ := J'
    obtain ⟨S₂, D₂, _⟩ := D''.permD (σ' := (C.env.locals, .frame (.dict es ep)) :: (σ₁ ++ fs)) List.perm_middle
    obtain ⟨o, S₃, rfl, D₃⟩ := D.backR hL hdL D₂
    have := qn v p σ₁ s' k ⟨m, S₃, I', D₃⟩
    subst hv
    exact this
  · exact X'.leave D O K hL hdL rfl fun h' X'' => qx e σ₁ _ k X''
end
end
section
noncomputable def onlyOf (h : Heap) (keep : Addr → Bool) : Heap := hideAll h ((List.range h.objs.size).filter fun b => !keep b)
theorem onlyOf_get {h : Heap} {keep : Addr → Bool} {b : Addr} {o : Obj} (hb : h.get? b = some o) (hk : keep b = true) : (onlyOf h keep).get? b = some o :=
  hideAll_get _ hb fun m => by
    have := (List.mem_filter.mp m).2
    rw [hk] at this; cases this
theorem onlyOf_none {h : Heap} {keep : Addr → Bool} {b : Addr} (hk : keep b = false) : (onlyOf h keep).get? b = none := by
  cases q : (onlyOf h keep).get? b with
  | none => rfl
  | some o =>
    have h1 := of_hideAll _ q
    have h2 : (onlyOf h keep).get? b = none := hideAll_none _ (List.mem_filter.mpr ⟨List.mem_range.mpr (Heap.lt_size h1), by rw [hk]; rfl⟩)
    rw [h2] at q; cases q
section
variable {C : Ctx} {n : Nat} {ρ : Locs} {σ fs φ : Store} {τ : Tmp} {s : Shared} {m : Str → Option Value} {S I : Led} {e : Addr} {cls : Value} {tr : Bool}
theorem InvD.raw1 {o : Obj} (D : InvD C ρ ((e, .raw o) :: σ) τ s m S I) : ∃ S', S = (e, o) :: S' ∧ InvD C ρ σ τ s m S' I ∧ e ∉ (S' ++ (C.J ++ I)).map (·.1) ∧ s.heap.get? e = some o ∧ C.h₀.get? e = none ∧ e ≠ C.env.locals := by
  have h := D.sep
  cases h using Sep.casesCons with
  | cons r k =>
    cases r using ORep.casesRaw with
    | raw =>
      rename_i S'
      have nd : (e :: (S' ++ (C.J ++ I)).map (·.1)).Nodup := D.nd
      have hN := D.N (e, o) (.head _)
      exact ⟨S', rfl, ⟨D.F, fun p hp => D.N p (.tail _ hp), (List.nodup_cons.mp nd).2, k, D.sub, D.loc, D.tmp, D.g, D.d, D.os⟩, (List.nodup_cons.mp nd).1, hN.1, hN.2.2, hN.2.1⟩
theorem InvX.make {Cl : Addr} {o : Obj} (O : C.Ok n) (K : FrOk C fs) (J : Inv C ρ ((e, .raw o) :: (σ ++ fs)) τ s) (ho : isExcObj Cl o) : InvX C ρ σ fs τ s e (.ref Cl) false := by
  obtain ⟨m, S, I, D0⟩ := J
  obtain ⟨S', rfl, D, hn, he, he0, heL⟩ := D0.raw1
  obtain ⟨D₁, D₂, rfl, k1, k2⟩ := D.sep.split
  obtain ⟨r, hr, FO⟩ := K.ex
  have names := FO.names k2
  let keep : Addr → Bool := fun b => (C.h₀.get? b).isSome || (((D₁ ++ D₂) ++ (C.J ++ I)).map (·.1)).contains b && !(fs.map (·.1)).contains b
  have frameOut : ∀ p ∈ D₂, keep p.1 = false := fun p hp => by
    have h1 := (D.N p (by simp [hp])).2.2
    have h2 : (fs.map (·.1)).contains p.1 = true := by
      rw [← names]
      simpa using ⟨p.2, hp⟩
    show ((C.h₀.get? p.1).isSome || _ && !(fs.map (·.1)).contains p.1) = false
    rw [h1, h2]; simp
  obtain ⟨oL, es, ep, hL, hdL, hrL⟩ := id D.F.ns
  refine ⟨m, D₁ ++ D₂, I, onlyOf s.heap keep, D, ⟨fun b o hb => onlyOf_get (D.F.keep b o hb) (by show ((C.h₀.get? b).isSome || _) = true; rw [hb]; rfl), fun p hp hq => onlyOf_get (D.N p hp).1 ?_, fun b o hb => of_hideAll _ hb, onlyOf_none ?_, ?_, ?_⟩⟩
  · have h2 : (((D₁ ++ D₂) ++ (C.J ++ I)).map (·.1)).contains p.1 = true := by
      rw [List.contains_iff_mem]; exact List.mem_map_of_mem hp
    have h3 : (fs.map (·.1)).contains p.1 = false := by
      cases q : (fs.map (·.1)).contains p.1 with
      | false => rfl
      | true => exact absurd (List.contains_iff_mem.mp q) hq
    show (_ || (((D₁ ++ D₂) ++ (C.J ++ I)).map (·.1)).contains p.1 && !(fs.map (·.1)).contains p.1) = true
    rw [h2, h3]; simp
  · have h2 : (((D₁ ++ D₂) ++ (C.J ++ I)).map (·.1)).contains e = false := by
      cases q : (((D₁ ++ D₂) ++ (C.J ++ I)).map (·.1)).contains e with
      | false => rfl
      | true => exact absurd (List.contains_iff_mem.mp q) hn
    show ((C.h₀.get? e).isSome || (((D₁ ++ D₂) ++ (C.J ++ I)).map (·.1)).contains e && _) = false
    rw [he0, h2]; rfl
  · rw [hr]
    refine ⟨by rw [O.hk]; decide, ⟨C.env.locals, oL, K.own, onlyOf_none ?_, hL, fun vs q => by rw [hdL] at q; cases q⟩, FO.funFrames k2 (fun p hp => (D.N p (by simp [hp])).1) fun p hp => onlyOf_none (frameOut p hp)⟩
    have h2 : (((D₁ ++ D₂) ++ (C.J ++ I)).map (·.1)).contains C.env.locals = false := by
      cases q : (((D₁ ++ D₂) ++ (C.J ++ I)).map (·.1)).contains C.env.locals with
      | false => rfl
      | true => exact absurd (List.contains_iff_mem.mp q) D.notL
    show ((C.h₀.get? C.env.locals).isSome || (((D₁ ++ D₂) ++ (C.J ++ I)).map (·.1)).contains C.env.locals && _) = false
    rw [D.L0, h2]; rfl
  · obtain ⟨hc, t, hd⟩ := ho
    exact ⟨o, _, .ref t, he, hc, hd, rfl, rfl⟩
theorem InvX.ofD {σw : Store} {B : Heap} (D : InvD C ρ σw τ s m S I) (F : Fly C fs S I B s.heap e cls tr) (hp : σw.Perm (σ ++ fs)) : InvX C ρ σ fs τ s e cls tr := by
  obtain ⟨S', D', p⟩ := D.permD hp
  have p' : (S ++ (C.J ++ I)).Perm (S' ++ (C.J ++ I)) := p.append_right _
  exact ⟨m, S', I, B, D', ⟨F.base, fun q hq => F.kept q (p'.mem_iff.mpr hq), F.stays, F.new, F.frames, F.noted⟩⟩
theorem InvD.frame (D : InvD C ρ (σ ++ φ) τ s m S I) : ∃ D₁ D₂, InvD (C.jj (D₂ ++ C.J) I) ρ σ τ s m D₁ I ∧ ∀ ρ' σ' τ' s' m' S' I', InvD (C.jj (D₂ ++ C.J) I) ρ' σ' τ' s' m' S' I' → InvD C ρ' (σ' ++ φ) τ' s' m' (S' ++ D₂) I' := by
  obtain ⟨D₁, D₂, rfl, h1, h2⟩ := D.sep.split
  refine ⟨D₁, D₂, ?_, fun ρ' σ' τ' s' m' S' I' D' => ?_⟩
  · refine ⟨D.F, ?_, ?_, h1, fun _ h => h, D.loc, D.tmp, D.g, D.d, D.os⟩
    · have := D.N; simpa [List.append_assoc] using this
    · have := D.nd; simpa [List.append_assoc] using this
  · refine ⟨D'.F, ?_, ?_, D'.sep.append (h2.mono D'.sub), fun p hp => D'.sub p (D.sub p hp), D'.loc, D'.tmp, D'.g, D'.d, D'.os⟩
    · have := D'.N; simpa [List.append_assoc] using this
    · have := D'.nd; simpa [List.append_assoc] using this
theorem FrOk.jj (K : FrOk C fs) (J I₀ : Led) : FrOk (C.jj J I₀) fs := ⟨K.ex, K.own⟩
theorem swapR {α : Type} (a b c : List α) : ((a ++ b) ++ c).Perm ((a ++ c) ++ b) := by
  rw [List.append_assoc, List.append_assoc]
  exact List.Perm.append_left _ List.perm_append_comm
end
noncomputable def FT (f : PV) (ps : List PV) (σ : Store) (n : Nat) (K : PV → Store → Prop) : Prop := ∀ C ρ fs, C.Ok n → FrOk C fs → AC C ρ (σ ++ fs) f ps fun p σ' => ∃ σ₁, σ' = σ₁ ++ fs ∧ K p σ₁
noncomputable def RC (C : Ctx) (ρ : Locs) (σ fs : Store) (f : PV) (ps : List PV) (cls : Value) : Prop :=
  ∀ τ s vf vs (Q : Value → Shared → Prop) E, Inv C ρ (σ ++ fs) τ s → (vf, f) ∈ τ → AllIn τ vs ps → (∀ e s', InvX C ρ σ fs τ s' e cls true → E (.ref e) s') → wpAny C.M C.A (call vf vs) Q E s
noncomputable def RT (f : PV) (ps : List PV) (σ : Store) (n : Nat) (cls : Value) : Prop := ∀ C ρ fs, C.Ok n → FrOk C fs → RC C ρ σ fs f ps cls
noncomputable def RTC (f : PV) (ps : List PV) (σ : Store) (n : Nat) (cls : Value) : Prop := ∀ C ρ fs, C.Ok n → FrOk C fs → ∀ τ s vf vs (R : Result → Shared → Prop), Inv C ρ (σ ++ fs) τ s → (vf, f) ∈ τ → AllIn τ vs ps →
  (∀ e s', InvX C ρ σ fs τ s' e cls true → R (.error (.ref e)) s') → codeAny C.M C.A (.call vf ⟨vs, []⟩) R s
noncomputable def RX (C : Ctx) (ρ : Locs) (σ fs : Store) (ss : List Stmt) (cls : Value) (σf : Store) : Prop :=
  ∀ s (Q : Flow → Shared → Prop) E, Inv C ρ (σ ++ fs) [] s → (∀ e ρ' τ' s' tr, InvX C ρ' σf fs τ' s' e cls tr → E (.ref e) s') → wpAny C.M C.A (execs ss C.env) Q E s
noncomputable def RS (C : Ctx) (ρ : Locs) (σ fs : Store) (st : Stmt) (cls : Value) (σf : Store) : Prop :=
  ∀ s (Q : Flow → Shared → Prop) E, Inv C ρ (σ ++ fs) [] s → (∀ e ρ' τ' s' tr, InvX C ρ' σf fs τ' s' e cls tr → E (.ref e) s') → wpAny C.M C.A (exec st C.env) Q E s
noncomputable def RE (C : Ctx) (ρ : Locs) (σ fs : Store) (ex : Expr) (cls : Value) (σf : Store) : Prop :=
  ∀ τ s (Q : Value → Shared → Prop) E, Inv C ρ (σ ++ fs) τ s → (∀ e s', InvX C ρ σf fs τ s' e cls true → E (.ref e) s') → wpAny C.M C.A (eval ex C.env) Q E s
noncomputable def RW (C : Ctx) (ρ : Locs) (σw : Store) (f : PV) (ps : List PV) (cls : Value) (σf fs : Store) : Prop :=
  ∀ τ s vf vs (Q : Value → Shared → Prop) E, Inv C ρ σw τ s → (vf, f) ∈ τ → AllIn τ vs ps → (∀ e s', InvX C ρ σf fs τ s' e cls true → E (.ref e) s') → wpAny C.M C.A (call vf vs) Q E s
section
variable {C : Ctx} {n k : Nat} {ρ : Locs} {σ fs φ σf σw : Store} {f : PV} {ps : List PV} {cls : Value} {K K₀ : PV → Store → Prop}
theorem FT.def {f : Addr} {xs : List Str} {body : List Stmt} {sc : Scope} (d : DefC f xs body sc) (hl : ps.length = xs.length)
    (h : ∀ C L fs, C.Ok n → FrOk C fs → C.env.scope = sc → C.env.cells = cellsFrom L sc.names [] → CodeIs C f → AX C (locsOf sc (xs.zip ps)) ((cellsOf (cellsFrom L sc.names []) (xs.zip ps) ++ σ) ++ fs) body fun fl _ σ' => ∃ σ₁, σ' = σ₁ ++ fs ∧ match fl with | .ret p => K p σ₁ | _ => K .none σ₁) :
    FT (.ref f) ps σ (n + 1) K := fun C ρ fs O F τ s vf vs Q E J hf ha q => by
  refine wpAny_call (enterF (cls := .none) (KN := K) (KX := fun _ => False) d hl O F J hf ha (fun C' L fs' O' F' hs hc hco s' Q' E' J' qn qx => ?_) (fun v p σ₁ s' k J' => q v p _ s' ⟨σ₁, rfl, k⟩ J') fun _ _ _ k => k.elim)
  refine h C' L fs' O' F' hs hc hco s' Q' E' J' ⟨?_, ?_, ?_, ?_⟩
  · rintro ρ' _ s' ⟨σ₁, rfl, k⟩ J'; exact qn .next .none .none ρ' σ₁ s' rfl k (J'.push fun _ => .val _)
  · rintro ρ' _ s' ⟨σ₁, rfl, k⟩ J'; exact qn .brk .none .none ρ' σ₁ s' rfl k (J'.push fun _ => .val _)
  · rintro ρ' _ s' ⟨σ₁, rfl, k⟩ J'; exact qn .cont .none .none ρ' σ₁ s' rfl k (J'.push fun _ => .val _)
  · rintro v p ρ' _ s' ⟨σ₁, rfl, k⟩ J'; exact qn (.ret v) v p ρ' σ₁ s' rfl k J'
theorem RTC.def {f : Addr} {xs : List Str} {body : List Stmt} {sc : Scope} (d : DefC f xs body sc) (hl : ps.length = xs.length)
    (h : ∀ C L fs, C.Ok n → FrOk C fs → C.env.scope = sc → C.env.cells = cellsFrom L sc.names [] → RX C (locsOf sc (xs.zip ps)) (cellsOf (cellsFrom L sc.names []) (xs.zip ps) ++ σ) fs body cls σ) :
    RTC (.ref f) ps σ (n + 1) cls := fun C ρ fs O F τ s vf vs R J hf ha q => by
  refine enterF (cls := cls) (KN := fun _ _ => False) (KX := fun σ₁ => σ₁ = σ) d hl O F J hf ha (fun C' L fs' O' F' hs hc _ s' Q' E' J' qn qx => ?_) (fun _ _ _ _ k => k.elim) fun e σ₁ s' k X => ?_
  · exact h C' L fs' O' F' hs hc s' Q' E' J' fun e ρ' τ' s' tr X => qx e ρ' _ τ' s' tr rfl X
  · subst k; exact q e s' X
theorem RT.of (h : RTC f ps σ n cls) : RT f ps σ n cls := fun C ρ fs O F τ s vf vs Q E J hf ha q => wpAny_call (h C ρ fs O F τ s vf vs _ J hf ha q)
theorem RT.def {f : Addr} {xs : List Str} {body : List Stmt} {sc : Scope} (d : DefC f xs body sc) (hl : ps.length = xs.length)
    (h : ∀ C L fs, C.Ok n → FrOk C fs → C.env.scope = sc → C.env.cells = cellsFrom L sc.names [] → RX C (locsOf sc (xs.zip ps)) (cellsOf (cellsFrom L sc.names []) (xs.zip ps) ++ σ) fs body cls σ) :
    RT (.ref f) ps σ (n + 1) cls := .of (.def d hl h)
theorem AC.useF (O : C.Ok n) (F : FrOk C fs) (h : FT f ps σ k K₀) (hk : k ≤ n) (hp : Le σw ((σ ++ φ) ++ fs)) (kk : ∀ p σ', K₀ p σ' → ∃ σ'', Le ((σ' ++ φ) ++ fs) σ'' ∧ K p σ'') : AC C ρ σw f ps K := by
  intro τ s vf vs Q E J hf ha q
  have J1 : Inv C ρ ((σ ++ fs) ++ φ) τ s := (hp _ _ _ _ J).perm (swapR _ _ _)
  obtain ⟨J', I', _, J2, back⟩ := J1.frame
  refine h _ ρ fs ((O.le hk).jj J' I') (F.jj J' I') τ s vf vs Q E J2 hf ha fun v p σ' s' k J3 => ?_
  obtain ⟨σ₁, rfl, k⟩ := k
  obtain ⟨σ'', hl, k'⟩ := kk p σ₁ k
  exact q v p σ'' s' k' (hl _ _ _ _ ((back _ _ _ _ J3).perm (swapR _ _ _)))
theorem RW.use (O : C.Ok n) (F : FrOk C fs) (h : RT f ps σ k cls) (hk : k ≤ n) (hp : Le σw ((σ ++ φ) ++ fs)) (hf : (σ ++ φ).Perm σf) : RW C ρ σw f ps cls σf fs := by
  intro τ s vf vs Q E J hvf ha q
  have J1 : Inv C ρ ((σ ++ fs) ++ φ) τ s := (hp _ _ _ _ J).perm (swapR _ _ _)
  obtain ⟨m, S, I, D⟩ := J1
  obtain ⟨D₁, D₂, Dj, back⟩ := D.frame
  refine h _ ρ fs ((O.le hk).jj (D₂ ++ C.J) I) (F.jj (D₂ ++ C.J) I) τ s vf vs Q E ⟨_, _, _, Dj⟩ hvf ha fun e s' X => ?_
  obtain ⟨m', S', I', B, D', G⟩ := X
  have D'' := back _ _ _ _ _ _ _ D'
  refine q e s' (InvX.ofD (B := B) D'' ⟨G.base, fun p hp hq => G.kept p ?_ hq, G.stays, G.new, G.frames, G.noted⟩ ((swapR _ _ _).trans (hf.append_right _)))
  simp only [List.mem_append] at hp ⊢
  rcases hp with (h | h) | h | h <;> simp [h]
variable {st : Stmt} {rest body orelse : List Stmt} {e : Expr} {pos : Pos}
theorem RX.next (h : AS C ρ (σ ++ fs) st fun fl ρ' σ' => fl = .next ∧ ∃ σ₁, σ' = σ₁ ++ fs ∧ RX C ρ' σ₁ fs rest cls σf) : RX C ρ σ fs (st :: rest) cls σf := fun s Q E J q => by
  refine wpAny_execs_cons (h s _ E J ⟨?_, ?_, ?_, ?_⟩)
  · rintro ρ' _ s' ⟨_, σ₁, rfl, k⟩ J'; exact k s' Q E J' q
  · rintro ρ' _ s' ⟨k, _⟩; cases k
  · rintro ρ' _ s' ⟨k, _⟩; cases k
  · rintro v p ρ' _ s' ⟨k, _⟩; cases k
theorem RX.here (h : RS C ρ σ fs st cls σf) : RX C ρ σ fs (st :: rest) cls σf := fun s Q E J q => wpAny_execs_cons (h s _ E J q)
theorem RS.assign {t : Expr} (h : RE C ρ σ fs e cls σf) (hs : swapsWithSole [t] e pos.line C.env = pure false) : RS C ρ σ fs (.Assign [t] e pos) cls σf := fun s Q E J q => by
  rw [exec_Assign]
  refine wpAny_bind (wpAny_standAt ?_)
  rw [hs]
  refine wpAny_bind (wpAny_pure ?_)
  rw [if_neg (by decide)]
  exact wpAny_bind (h [] s _ E J fun e s' X => q e ρ [] s' true X)
theorem RS.raise {Cl : Addr} {x : Str} {np cpos : Pos} {args : List Expr} (O : C.Ok n) (F : FrOk C fs) (X : ExcFacts Cl) (h : AE C ρ (σ ++ fs) (.Call (.Name x np) args [] cpos) fun q σ' => ∃ e o, isExcObj Cl o ∧ q = .ref e ∧ σ' = (e, .raw o) :: (σ ++ fs)) :
    RS C ρ σ fs (.Raise (some (.Call (.Name x np) args [] cpos)) none pos) (.ref Cl) σ := fun s Q E J q => by
  rw [arm_exec_Raise]
  have go : wpAny C.M C.A (raiseStmt C.env (some (do let v ← eval (.Call (.Name x np) args [] cpos) C.env; standAt pos; pure v)) none) Q E s := by
    unfold raiseStmt
    refine wpAny_bind (wpAny_bind (h [] s _ E J fun v p σ' s' k J' => wpAny_bind (wpAny_standAt (wpAny_pure ?_))))
    obtain ⟨e, o, ho, rfl, rfl⟩ := k
    cases J'.getVal (.head _)
    have fin := InvX.make O F J' ho
    obtain ⟨m, S, I, D⟩ := J'
    have Y := X.cls C.M C.w _ (O.X.keeps D.F.keep)
    have he := D.raw (.head _)
    obtain ⟨hp, g, d, tk, os⟩ := s'
    obtain ⟨oc, od, dt, sl⟩ := o
    obtain ⟨hc, t, hd⟩ := ho
    cases hc
    cases hd
    have bexc := Y.bexc
    obtain ⟨oc, od', cd, sl', hC, -, -, rfl⟩ := Y.obj
    dsimp only at he bexc hC
    repeat (first | (with_reducible refine wpAny_loadPart_at he ?_) | (with_reducible refine Looks.at bexc ?_) | wp_step)
    exact wpAny_raiseNew_none O.hh (q e ρ _ _ false fin)
  exact wpAny_bind (wpAny_standAt go)
theorem RW.args0 {pos : Pos} {first : List PV} (h : Callee C σw f ∧ RW C ρ σw f (first ++ []) cls σf fs) {τ : Tmp} {s : Shared} {vf : Value} {fv : List Value} {Q : Value → Shared → Prop} {E : Value → Shared → Prop}
    (J : Inv C ρ σw τ s) (hf : (vf, f) ∈ τ) (ha : AllIn τ fv first) (q : ∀ e s', InvX C ρ σf fs τ s' e cls true → E (.ref e) s') : wpAny C.M C.A (callWith pos vf fv (backTo pos (starEach [] C.env)) []) Q E s := by
  refine callWith_of (P := fun h => ∃ k, (k = Keeper.frame ∨ k = Keeper.machine ∨ k = Keeper.boundFrame) ∧ Looks C.M h (keeperOf vf) k) rfl (fun _ x => x) (evalArgs_nil3 ⟨h.1 ρ τ s vf J hf, ?_⟩)
  exact h.2 τ s vf _ Q E J hf (ha.app .nil) q
theorem RW.args {pos : Pos} {e : Expr} {es : List Expr} {first : List PV} {σw : Store}
    (hp : ∀ env, (backTo pos (starEach (e :: es) env)).any (·.1) = false) (he : ∀ env, starEach (e :: es) env = (false, eval e env) :: starEach es env)
    (h : AL C ρ σw pos (e :: es) fun ps σ₂ => Callee C σ₂ f ∧ RW C ρ σ₂ f (first ++ ps) cls σf fs) {τ : Tmp} {s : Shared} {vf : Value} {fv : List Value} {Q : Value → Shared → Prop} {E : Value → Shared → Prop}
    (J : Inv C ρ σw τ s) (hf : (vf, f) ∈ τ) (ha : AllIn τ fv first) (q : ∀ e s', InvX C ρ σf fs τ s' e cls true → E (.ref e) s') : wpAny C.M C.A (callWith pos vf fv (backTo pos (starEach (e :: es) C.env)) []) Q E s := by
  refine callWith_of (P := fun h => ∃ k, (k = Keeper.frame ∨ k = Keeper.machine ∨ k = Keeper.boundFrame) ∧ Looks C.M h (keeperOf vf) k) (by rw [hp]; rfl) (fun _ x => x) ?_
  have h' := h τ s (fun vs s₂ => (∃ k, (k = Keeper.frame ∨ k = Keeper.machine ∨ k = Keeper.boundFrame) ∧ Looks C.M s₂.heap (keeperOf vf) k) ∧ wpAny C.M C.A (PySem.call vf (fv ++ vs) []) Q E s₂) E J fun vs ps σ₂ τ₂ s₂ k J₂ a sub =>
    ⟨k.1 ρ τ₂ s₂ vf J₂ (sub _ hf), k.2 τ₂ s₂ vf _ Q E J₂ (sub _ hf) ((ha.mono sub).app a) fun e s' X => q e s' (X.tmps sub)⟩
  rw [he] at h' ⊢
  exact evalArgs_plain h'
theorem RE.call0 {fe : Expr} {pos : Pos} (hc : ∀ env, eval (.Call fe [] [] pos) env = (do callWith pos (← eval fe env) [] (backTo pos (starEach [] env)) (backToKw pos (keywordEach [] env))))
    (h : AE C ρ (σ ++ fs) fe fun f σ₁ => Callee C σ₁ f ∧ RW C ρ σ₁ f [] cls σf fs) : RE C ρ σ fs (.Call fe [] [] pos) cls σf := by
  intro τ s Q E J q
  rw [hc]
  refine wpAny_bind (h τ s _ E J fun vf f σ₁ s₁ k J₁ => ?_)
  exact RW.args0 k J₁ (.head _) .nil fun e s' X => q e s' (X.tmps fun q hq => .tail _ hq)
theorem RE.call {fe e : Expr} {es : List Expr} {pos : Pos} (hc : ∀ env, eval (.Call fe (e :: es) [] pos) env = (do callWith pos (← eval fe env) [] (backTo pos (starEach (e :: es) env)) (backToKw pos (keywordEach [] env))))
    (hp : ∀ env, (backTo pos (starEach (e :: es) env)).any (·.1) = false) (he : ∀ env, starEach (e :: es) env = (false, eval e env) :: starEach es env)
    (h : AE C ρ (σ ++ fs) fe fun f σ₁ => AL C ρ σ₁ pos (e :: es) fun ps σ₂ => Callee C σ₂ f ∧ RW C ρ σ₂ f ps cls σf fs) : RE C ρ σ fs (.Call fe (e :: es) [] pos) cls σf := by
  intro τ s Q E J q
  rw [hc]
  refine wpAny_bind (h τ s _ E J fun vf f σ₁ s₁ k J₁ => ?_)
  exact RW.args (first := []) hp he k J₁ (.head _) .nil fun e s' X => q e s' (X.tmps fun q hq => .tail _ hq)
theorem RE.meth {o e : Expr} {es : List Expr} {name : Str} {apos pos : Pos} {pl : Env → Sem Bool}
    (hc : ∀ env, eval (.Call (.Attribute o name apos) (e :: es) [] pos) env = (do
      let ov ← eval o env
      standAt apos.atName
      let (f, first) ← holding [ov] (getMethod ov name (pl env))
      callWith pos f first (backTo pos (starEach (e :: es) env)) (backToKw pos (keywordEach [] env))))
    (hp : ∀ env, (backTo pos (starEach (e :: es) env)).any (·.1) = false) (he : ∀ env, starEach (e :: es) env = (false, eval e env) :: starEach es env)
    (h : AE C ρ (σ ++ fs) o fun p σ₁ => ∃ g, AM C σ₁ p name g ∧ AL C ρ σ₁ pos (e :: es) fun ps σ₂ => Callee C σ₂ g ∧ RW C ρ σ₂ g (p :: ps) cls σf fs) : RE C ρ σ fs (.Call (.Attribute o name apos) (e :: es) [] pos) cls σf := by
  intro τ s Q E J q
  rw [hc]
  refine wpAny_bind (h τ s _ E J fun v p σ₁ s₁ k J₁ => wpAny_bind (wpAny_standAt (wpAny_bind (wpAny_holding ?_))))
  obtain ⟨g, hm, ha⟩ := k
  refine hm ρ _ s₁ v _ _ E J₁ (.head _) fun vg t J₂ => ?_
  exact RW.args (first := [p]) hp he ha J₂ (.head _) (.cons (.tail _ (.head _)) .nil) fun e s' X => q e s' (X.tmps fun q hq => .tail _ (.tail _ hq))
theorem exc_self {Cl : Addr} {h : Heap} {A : Around} {E : Value → Shared → Prop} {Q : Bool → Shared → Prop} {M : Model} {e : Addr} {oe : Obj} {g : Array GenState} {d : Drawn} {t : Nat} {os : OsState} (Y : ExcCls M h Cl) (he : h.get? e = some oe) (hc : oe.cls = .ref Cl)
    (hq : Q true ⟨h, g, d, t, os⟩) : wpAny M A (excMatches (.ref e) (.ref Cl)) Q E ⟨h, g, d, t, os⟩ := by
  obtain ⟨oc, od, cd, sl, hC, -, -, rfl⟩ := Y.obj
  have self := Y.self
  have bexc := Y.bexc
  have f := tc_notTuple
  unfold excMatches
  repeat (first | (with_reducible refine wpAny_loadPart_at he ?_; rw [hc]) | with_reducible refine wpAny_loadPart_at hC ?_ | with_reducible refine Looks.at bexc ?_ | with_reducible refine Looks.at self ?_ | wp_step)
  exact hq
theorem AS.tryTrue {Cl : Addr} {x : Str} {np hpos rpos tpos : Pos} {kk : Nat} {cpos : Pos} {sc : Scope} {K : Fl → Locs → Store → Prop} (O : C.Ok n) (F : FrOk C fs) (X : ExcFacts Cl) (hsw : swapsWith e none pos.line C.env = pure false) (hs : C.env.scope = sc) (hx : sc.names.lookup x = some .local)
    (hl : ρ.lookup x = some (.ref Cl)) (hd : (x == ("__debug__" : Str)) = false) (h : RE C ρ σ fs e (.ref Cl) σ) (k : K (.ret (.bool true)) ρ (σ ++ fs)) :
    AS C ρ (σ ++ fs) (.Try [.Expr e pos] [.ExceptHandler (some (.Name x np)) none [.Return (some (.Constant (.bool true) kk cpos)) rpos] hpos] [] [] tpos) K := by
  intro s Q E J P
  refine wpAny_Try_except (wpAny_execs_cons (wpAny_Expr_any (h [] s _ _ J fun e0 s' X0 => ?_) (by
    show (C.env.scope.kind == .module && _) = false
    rw [O.hk]; rfl) hsw))
  obtain ⟨B, G, step⟩ := X0.turn F
  obtain ⟨r, hr, FO⟩ := F.ex
  obtain ⟨a0, ht⟩ := G.noted
  have hfr : C.A.frames = some (C.env :: r) := by rw [← hr]; exact O.stack
  have fly : Heap.FlyingW B (C.env :: r) e0 (.ref Cl) a0 s'.heap := ⟨G.stays, G.new, hr ▸ G.frames, ht⟩
  refine wpAny_looks_onW hfr F.own fly fun h1 held1 sm1 => wpAny_landsW held1 fun h2 fly2 sm2 => ?_
  have X2 : InvX C ρ σ fs [] { s' with heap := h2 } e0 (.ref Cl) true := step h2 true fly2.1 (hr.symm ▸ fly2.2.2.1) ⟨a0, fly2.2.2.2⟩ (sm1.trans sm2)
  obtain ⟨m, S, I, D⟩ := X2.inv
  have Y := X.cls C.M C.w _ (O.X.keeps D.F.keep)
  obtain ⟨oe, hoe, hoc⟩ := fly2.there
  obtain ⟨v, hm, hv⟩ := D.loc x _ hl
  cases hv
  refine wpAny_handleBy_cons (codeAny_handlers_test (wpAny_Name (wpAny_loadName_local O.hk (by rw [Env.kindOf, hs]; exact hx) D.F.ns hm ?_) hd)) (by intro q; cases q)
  refine exc_self Y hoe hoc (codeAny_handlers_suite ?_)
  refine lands_againW fly2 fun h3 fly3 sm3 => ?_
  have X3 : InvX C ρ σ fs [] { s' with heap := h3 } e0 (.ref Cl) true := step h3 true fly3.1 (hr.symm ▸ fly3.2.2.1) ⟨a0, fly3.2.2.2⟩ ((sm1.trans sm2).trans sm3)
  refine wpAny_execs_cons (wpAny_Return_some ?_)
  rw [eval_Constant]
  exact wpAny_pure (P.ret _ _ ρ _ _ k (X3.inv.push fun _ => .val _))
end
end
set_option maxHeartbeats 4000000
theorem rw_same {C : Ctx} {n k : Nat} {ρ : Locs} {σ fs : Store} {f : PV} {ps : List PV} {cls : Value} (O : C.Ok n) (F : FrOk C fs) (h : RT f ps σ k cls) (hk : k ≤ n) : RW C ρ (σ ++ fs) f ps cls σ fs :=
  RW.use (φ := []) O F h hk (by rw [List.append_nil]; exact Le.refl _) (by rw [List.append_nil])
theorem AE.excCall {C : Ctx} {n : Nat} {ρ : Locs} {σ : Store} {Cl : Addr} {p : PV} (O : C.Ok n) (X : ExcFacts Cl) (h3 : 3 ≤ n) : AC C ρ σ (.ref Cl) [p] fun q σ' => ∃ e o, isExcObj Cl o ∧ q = .ref e ∧ σ' = (e, .raw o) :: σ := (CT.of (CC.exc X)) C ρ (O.le h3)
theorem RX.conv {C : Ctx} {ρ ρ' : Locs} {σ σ' fs : Store} {ss : List Stmt} {cls : Value} {σf : Store} (h1 : ρ' = ρ) (h2 : σ' = σ) (h : RX C ρ σ fs ss cls σf) : RX C ρ' σ' fs ss cls σf := by subst h1; subst h2; exact h
theorem RX.ifs {C : Ctx} {ρ : Locs} {σ fs : Store} {test : Expr} {body rest : List Stmt} {pos : Pos} {cls : Value} {σf : Store} (h : AT C ρ (σ ++ fs) test fun b σ' => σ' = σ ++ fs ∧ (b = true → RX C ρ σ fs body cls σf) ∧ (b = false → RX C ρ σ fs rest cls σf)) :
    RX C ρ σ fs (.If test body [] pos :: rest) cls σf := fun s Q E J q => by
  refine wpAny_execs_cons (wpAny_If (h [] s _ E J fun b σ' s' k J' => ?_))
  obtain ⟨rfl, k1, k2⟩ := k
  cases b with
  | true => exact k1 rfl s' _ E J' q
  | false => exact wpAny_execs_nil (k2 rfl s' Q E J' q)
theorem RX.cellH {C : Ctx} {ρ : Locs} {x : Addr × AObj} {σ fs : Store} {ss : List Stmt} {cls : Value} (h : RX C ρ (x :: σ) fs ss cls (x :: σ)) : RX C ρ (x :: σ) fs ss cls σ :=
  fun s Q E J q => h s Q E J fun e ρ' τ' s' tr X => q e ρ' τ' s' tr (InvX.drop (φ := [x]) (X.perm (List.perm_append_comm (l₁ := [x]) (l₂ := σ))))
theorem join_raises {g : GW} {a b : Int × Int} {d : Int} (h : a = b ∨ ((kvsW 0 g.ws).lookup (endK a)).isSome = true ∨ ((kvsW 0 g.ws).lookup (endK b)).isSome = true ∨ d < 0) : RT (.ref 108) [.ref g.W, endP a, endP b, .int d] (WS g) 5 (.ref 44) := by
  refine' RT.def (f := 108) (xs := [Str.ofString "self", Str.ofString "one", Str.ofString "other", Str.ofString "delay"]) ?d rfl ?h
  case d => refine' DefC.ofX ?h1 ?h2 ?h3 ?a ?b ?c ?g ?d ?e ?f; (case h1 => intro w; k_is); (case h2 => intro w; k_is); (case a => decide); (case b => decide); (case c => decide); (case g => decide); (case d => rfl); (case e => rfl); (case f => rfl); exact fun w => vs4 fun _ _ _ _ s X => binds_K (K := hd.heap_1 w.params) (T := 101) X rfl (by k_is) rfl rfl rfl
  case h =>
  intro C L fs O F hs hc
  have hc : C.env.cells = [] := hc
  refine RX.conv (ρ := [Str.ofString "self", Str.ofString "one", Str.ofString "other", Str.ofString "delay"].zip [PV.ref g.W, endP a, endP b, PV.int d]) (σ := WS g) rfl rfl ?_
  refine RX.ifs ?_
  walk_at "ae"
  refine AO2.eqD O rfl rfl ⟨_, rfl, ?_⟩
  rw [eqv_end]
  refine ⟨fun e => ⟨rfl, fun _ => ?_, (fun h => nomatch h)⟩, fun e => ?_⟩
  · refine RX.here (RS.raise O F excFacts_44 ?_)
    walk_at "ae"
    exact AE.excCall O excFacts_44 (by (first | lia | omega))
  walk_at "ae"
  refine AO2.inD (ks := endK a) O (by walk_at "mem") ⟨_, rfl, ?_⟩
  refine ⟨fun e1 => ⟨rfl, fun _ => ?_, (fun h => nomatch h)⟩, fun e1 => ?_⟩
  · refine RX.here (RS.raise O F excFacts_44 ?_)
    walk_at "ae"
    exact AE.excCall O excFacts_44 (by (first | lia | omega))
  walk_at "ae"
  refine AO2.inD (ks := endK b) O (by walk_at "mem") ⟨_, rfl, ?_⟩
  refine ⟨fun e2 => ⟨rfl, fun _ => ?_, (fun h => nomatch h)⟩, fun e2 => ?_⟩
  · refine RX.here (RS.raise O F excFacts_44 ?_)
    walk_at "ae"
    exact AE.excCall O excFacts_44 (by (first | lia | omega))
  walk_at "ae"
  refine ⟨rfl, (fun h => nomatch h), fun _ => ?_⟩
  refine RX.ifs ?_
  walk_at "ae"
  have hd : d < 0 := by
    rcases h with h | h | h | h
    · exact absurd h (of_decide_eq_false e)
    · rw [h] at e1; cases e1
    · rw [h] at e2; cases e2
    · exact h
  refine ⟨rfl, fun _ => ?_, fun h => ?_⟩
  · refine RX.here (RS.raise O F excFacts_44 ?_)
    walk_at "ae"
    exact AE.excCall O excFacts_44 (by (first | lia | omega))
  · exact absurd hd (of_decide_eq_false h)
local macro_rules | `(tactic| walk_at "defC1") => `(tactic| (walk_at "defh"; exact vs1 fun _ _ => BindsTo.of_eq rfl))
local macro_rules | `(tactic| walk_at "defC2") => `(tactic| (walk_at "defh"; exact vs2 fun _ _ _ => BindsTo.of_eq rfl))
local macro_rules | `(tactic| walk_at "raise44") => `(tactic| (refine RX.here (RS.raise (by assumption) (by assumption) excFacts_44 ?_); walk_at "ae"; exact AE.excCall (by assumption) excFacts_44 (by (first | lia | omega))))
local macro_rules | `(tactic| walk_at "raise56") => `(tactic| (refine RX.here (RS.raise (by assumption) (by assumption) excFacts_56 ?_); walk_at "ae"; exact AE.excCall (by assumption) excFacts_56 (by (first | lia | omega))))
theorem mend_raises {g : GW} {i : Nat} {d : WireD} (h : g.ws[i]? = some d) (hz : g.ws.length ≤ 1000) (hw : d.whole = true) : RTC (.ref 146) [.ref g.W, .int i] (WS g) 5 (.ref 56) := by
  refine' RTC.def (f := 146) (xs := [Str.ofString "self", Str.ofString "number"]) ?d rfl ?h
  case d => walk_at "defC2"
  case h =>
  intro C L fs O F hs hc
  have hc : C.env.cells = [] := hc
  refine RX.conv (ρ := [Str.ofString "self", Str.ofString "number"].zip [PV.ref g.W, .int i]) (σ := WS g) rfl rfl ?_
  refine RX.next ?_
  walk_at "ae"
  refine AC.use O (wire_spec h hz) (by (first | lia | omega)) (Le.refl _) ?_
  rintro p σ' ⟨rfl, rfl⟩
  refine ⟨_, Le.refl _, ?_⟩
  have hm : wireObj d ∈ WS g ++ fs := List.mem_append_left _ (mem_wire h)
  walk_at "ae"
  refine ⟨rfl, _, rfl, ?_⟩
  refine RX.ifs ?_
  walk_at "ae"
  rw [hw]
  refine ⟨rfl, fun _ => ?_, (fun h => nomatch h)⟩
  walk_at "raise56"
theorem cut_raises {g : GW} {i : Nat} {d : WireD} (h : g.ws[i]? = some d) (hz : g.ws.length ≤ 1000) (hw : d.whole = false) : RTC (.ref 139) [.ref g.W, .int i] (WS g) 5 (.ref 56) := by
  refine' RTC.def (f := 139) (xs := [Str.ofString "self", Str.ofString "number"]) ?d rfl ?h
  case d => walk_at "defC2"
  case h =>
  intro C L fs O F hs hc
  have hc : C.env.cells = [(Str.ofString "number", L)] := hc
  refine RX.conv (ρ := [(Str.ofString "self", .ref g.W)]) (σ := (L, .cell (some (.int i))) :: WS g) rfl rfl ?_
  refine RX.next ?_
  walk_at "ae"
  refine AC.use (φ := (L, AObj.cell (some (.int i))) :: fs) O (wire_spec h hz) (by (first | lia | omega)) (Le.perm (List.perm_middle (l₁ := WS g)).symm) ?_
  rintro p σ' ⟨rfl, rfl⟩
  refine ⟨(L, .cell (some (.int i))) :: (WS g ++ fs), Le.perm (List.perm_middle (l₁ := WS g)), ?_⟩
  have hm : wireObj d ∈ (L, AObj.cell (some (.int i))) :: (WS g ++ fs) := .tail _ (List.mem_append_left _ (mem_wire h))
  walk_at "ae"
  refine ⟨rfl, (L, .cell (some (.int i))) :: WS g, rfl, ?_⟩
  refine RX.ifs ?_
  walk_at "ae"
  rw [hw]
  refine ⟨rfl, fun _ => ?_, (fun h => nomatch h)⟩
  refine RX.cellH ?_
  walk_at "raise56"
theorem AC.strI {C : Ctx} {ρ : Locs} {σ : Store} {i : Int} {K : PV → Store → Prop} (hi : i.natAbs < 1000000) (k : ∀ x : Str, x.length ≤ 1000002 → K (.str x) σ) : AC C ρ σ (.val (.type "str")) [.int i] K := by
  intro τ s vf vs Q E J hf ha q
  cases J.getVal hf
  cases ha with
  | cons h1 ha =>
    cases ha
    obtain ⟨t, rfl⟩ := J.getInt h1
    refine PySem.P.str_of_int ?_ ?_
    · have : i.natAbs.log2 ≤ i.natAbs := Nat.log2_le_self _
      by_cases h0 : i.natAbs = 0
      · rw [h0]; decide
      · have := (Nat.log2_lt h0 (k := 20)).mpr (by (first | lia | omega))
        (first | lia | omega)
    · have hl := len_str_of_int i
      refine q _ (.str (toString i)) σ _ (k _ ?_) (J.tok.push fun _ => .str _ _)
      show (Str.ofString (toString i)).length ≤ _
      (first | lia | omega)
theorem AO2.addS {C : Ctx} {ρ : Locs} {σ : Store} {x y : Str} {K : PV → Store → Prop} (hz : x.length + y.length ≤ 10000000) (k : K (.str (x ++ y)) σ) : AO2 C ρ σ (binaryOp .Add) (.str x) (.str y) K := by
  intro τ s va vb Q E J h1 h2 q
  obtain ⟨t, rfl⟩ := J.getStr h1
  obtain ⟨u, rfl⟩ := J.getStr h2
  exact add_str (fun t' tk => q _ _ σ _ k (J.tok.push fun _ => .str _ _)) (by rw [sizeLine_eq]; (first | lia | omega))
theorem wire_raises {g : GW} {i : Int} (h : ¬ (0 ≤ i ∧ i < g.ws.length)) (hz : g.ws.length ≤ 1000) (hi : i.natAbs < 1000000) : RT (.ref 115) [.ref g.W, .int i] (WS g) 5 (.ref 44) := by
  refine' RT.def (f := 115) (xs := [Str.ofString "self", Str.ofString "number"]) ?d rfl ?h
  case d => walk_at "defC2"
  case h =>
  intro C L fs O F hs hc
  have hc : C.env.cells = [] := hc
  refine RX.conv (ρ := [Str.ofString "self", Str.ofString "number"].zip [PV.ref g.W, .int i]) (σ := WS g) rfl rfl ?_
  refine RX.ifs ?_
  walk_at "ae"
  refine ⟨fun h0 => ⟨rfl, fun _ => ?_, (fun h => nomatch h)⟩, fun h0 => ?_⟩
  · refine RX.here (RS.raise O F excFacts_44 ?_)
    walk_at "ae"
    refine AC.strI hi fun x hx => ?_
    refine AO2.addS ?_ ?_
    · have : (Str.ofString "there is no wire ").length = 17 := by decide
      (first | lia | omega)
    · walk_at "ae"
      exact AE.excCall O excFacts_44 (by (first | lia | omega))
  walk_at "ae"
  refine ⟨rfl, fun _ => ?_, fun h1 => ?_⟩
  · refine RX.here (RS.raise O F excFacts_44 ?_)
    walk_at "ae"
    refine AC.strI hi fun x hx => ?_
    refine AO2.addS ?_ ?_
    · have : (Str.ofString "there is no wire ").length = 17 := by decide
      (first | lia | omega)
    · walk_at "ae"
      exact AE.excCall O excFacts_44 (by (first | lia | omega))
  · exact absurd h (by simp at h0 h1; simp; (first | lia | omega))
theorem ends_raises {g : GW} {i : Int} (h : ¬ (0 ≤ i ∧ i < g.ws.length)) (hz : g.ws.length ≤ 1000) (hi : i.natAbs < 1000000) : RT (.ref 122) [.ref g.W, .int i] (WS g) 6 (.ref 44) := by
  refine' RT.def (f := 122) (xs := [Str.ofString "self", Str.ofString "number"]) ?d rfl ?h
  case d => walk_at "defC2"
  case h =>
  intro C L fs O F hs hc
  have hc : C.env.cells = [] := hc
  refine RX.conv (ρ := [Str.ofString "self", Str.ofString "number"].zip [PV.ref g.W, .int i]) (σ := WS g) rfl rfl ?_
  refine RX.here (RS.assign (RE.meth (fun _ => rfl) (fun _ => rfl) (fun _ => rfl) ?_) rfl)
  walk_at "ae"
  exact ⟨by walk_at "callee", rw_same O F (wire_raises h hz hi) (by (first | lia | omega))⟩
section
set_option maxHeartbeats 4000000
noncomputable def TabOld (P : Addr) (pos : Pos) (qual : Str) (c' : Addr) (tab : Store) : Prop :=
  ∃ oc vs t, oc.data = .fields vs ∧ vs[1]? = some (.str qual t) ∧ tab = [(P, .raw (tabObj #[rawInt pos.line, rawInt pos.col, .ref c'])), (c', .raw oc)]
noncomputable def TabS (P : Addr) (pos : Pos) (qual : Str) (tab : Store) : Prop := tab = [(P, .raw (tabObj #[]))] ∨ ∃ c', TabOld P pos qual c' tab
noncomputable def LamO (o : Obj) (qual : Str) (body : Expr) (scope : Scope) (clos : List (Str × Addr)) (c' : Addr) : Prop :=
  ∃ params pm ctv, o = kla_obj "<lambda>" qual params body scope clos pm c' ctv ∧ bindArgs (kla_fn "<lambda>" qual params body scope clos pm (.ref c') ctv) ⟨[], []⟩ = pure []
section
variable {C : Ctx} {n : Nat} {ρ : Locs} {σ : Store} {τ : Tmp} {s : Shared} {m : Str → Option Value} {S I : Led}
theorem InvD.adopt (D : InvD C ρ σ τ s m S I) {a : Addr} {o : Obj} (h1 : s.heap.get? a = some o) (h2 : a ∉ (S ++ (C.J ++ I)).map (·.1)) (h3 : C.h₀.get? a = none) (h4 : a ≠ C.env.locals) : InvD C ρ ((a, .raw o) :: σ) τ s m ((a, o) :: S) I :=
  ⟨D.F, fun p hp => by
    rcases List.mem_cons.mp hp with rfl | hp
    · exact ⟨h1, h4, h3⟩
    · exact D.N p hp, List.nodup_cons.mpr ⟨h2, D.nd⟩, .cons (own := [(a, o)]) .raw D.sep, D.sub, D.loc, D.tmp, D.g, D.d, D.os⟩
theorem InvD.pushO (D : InvD C ρ σ τ s m S I) (o : Obj) {tk : Nat} (hf : o.isFreed = false) : Inv C ρ σ ((.ref s.heap.objs.size, .obj o) :: τ) { s with heap := s.heap.push o, toks := tk } :=
  ⟨m, S, _, (D.pushI o (tk := tk) hf).more (.obj (.head _))⟩
theorem AE.lam {K : PV → Store → Prop} {P c : Addr} {qual : Str} {params : Arguments} {body : Expr} {scope : Scope} {pos : Pos} {clos : List (Str × Addr)} {tab : Store} (O : C.Ok n) (hcode : C.env.code = .ref c) (hq : C.env.qual ++ "<lambda>" = qual)
    (hcd : ∀ h : Heap, (hd.heap_1 C.w.params).In h → CodeHd h c P) (hcl : closureFor scope C.env = pure clos) (hdef : defaultsOf params C.env = ([], [])) (hb : ∀ pm cdv ctv, bindArgs (kla_fn "<lambda>" qual params body scope clos pm cdv ctv) ⟨[], []⟩ = pure [])
    (ht : TabS P pos qual tab) (k : ∀ tab' o c', TabOld P pos qual c' tab' → LamO o qual body scope clos c' → K (.obj o) (tab' ++ σ)) : AE C ρ (tab ++ σ) (.Lambda params body scope pos) K := by
  intro τ s Q E J q
  refine kla_eval hdef ?_
  rw [hq]
  obtain ⟨m, S, I, D⟩ := J
  obtain ⟨_, _, mean, mg, mb, T⟩ := O.T
  have CH := hcd _ (O.X.keeps D.F.keep)
  have hgs := T.g.keeps D.F.keep
  obtain ⟨bm, ob, b1, b2, b3, b4, b5, b6⟩ := T.bmain
  have hbG : bm ≠ mainGlobals := fun q => by
    obtain ⟨o, es, ep, e, hd, _⟩ := T.g
    rw [q, e] at b3; cases b3; rw [hd] at b6; cases b6
  have key : ∀ ps σ', tab ++ σ = (P, AObj.raw (tabObj ps)) :: σ' → s.heap.get? P = some (tabObj ps) ∧ C.h₀.get? P = Option.none ∧ P ≠ C.env.locals ∧ mainGlobals ≠ P ∧ bm ≠ P := by
    intro ps σ' e
    rw [e] at D
    obtain ⟨S', _, D', hn, he, he0, heL⟩ := D.raw1
    refine ⟨he, he0, heL, fun q => ?_, fun q => ?_⟩
    · obtain ⟨o, es, ep, e, hd, _⟩ := hgs
      rw [q, he] at e; cases e; cases hd
    · have e := D.F.keep _ _ b3
      rw [q, he] at e; cases e; cases b4
  rcases ht with rfl | ⟨c', oc, vs, t, hocd, hov, rfl⟩
  · obtain ⟨hP, hP0, hPL, hgP, hbP⟩ := key #[] σ rfl
    refine kla_makeFunction (mg := mg) hcl O.gl hgs hcode CH hP trivial rfl hgP ⟨bm, ob, b1, b2, hbG, hbP, D.F.keep _ _ b3, b4, b5, b6⟩ fun c' ctv h' tk hx hge hlt hrec htb => ?_
    obtain ⟨c₂, oc, vs, t, e2, hoc, hdt, hv⟩ := hrec
    cases e2
    obtain ⟨S', D', names⟩ := D.updRawD (tk := tk) (UpdS.head (σ := σ)) htb fun b ob hb => hx b ob hb
    have hsz : ∀ b, s.heap.objs.size ≤ b → b ∉ (S ++ (C.J ++ I)).map (·.1) := fun b hb hm => by
      obtain ⟨p, hp, e⟩ := List.mem_map.mp hm
      have h1 : p.1 < s.heap.objs.size := Heap.lt_size (D.N p hp).1
      have e' : p.1 = b := e
      exact Nat.lt_irrefl _ (Nat.lt_of_lt_of_le h1 (e' ▸ hb))
    have D2 := D'.adopt (a := c') (o := oc) hoc (by rw [List.map_append, names, ← List.map_append]; exact hsz c' hge) (Heap.get?_none_of_le (Nat.le_trans D.F.above (Nat.le_trans (Nat.le_of_lt D.F.ns.lt) hge))) (Nat.ne_of_gt (Nat.lt_of_lt_of_le D.F.ns.lt hge))
    have J2 := (D2.pushO (kla_obj "<lambda>" qual params body scope clos ((mg "__name__").getD .none) c' ctv) (tk := tk) rfl).perm (List.Perm.swap _ _ σ)
    exact q _ _ _ _ (k _ _ c' ⟨oc, vs, t, hdt, hv, rfl⟩ ⟨_, _, _, rfl, hb _ _ _⟩) J2
  · obtain ⟨hP, hP0, hPL, hgP, hbP⟩ := key _ ((c', .raw oc) :: σ) rfl
    refine kla_makeFunctionHit (mg := mg) (cv := .ref c') hcl O.gl hgs hcode CH hP ?_ ?_ ⟨bm, ob, b1, b2, hbG, hbP, D.F.keep _ _ b3, b4, b5, b6⟩ fun ctv h' tk hk hsz => ?_
    · exact trivial
    · exact codeAmong_snoc [] trivial rfl
    · have D' := D.ext (tk := tk) hk
      exact q _ _ _ _ (k _ _ c' ⟨oc, vs, t, hocd, hov, rfl⟩ ⟨_, _, _, rfl, hb _ _ _⟩) (D'.pushO (kla_obj "<lambda>" qual params body scope clos ((mg "__name__").getD .none) c' ctv) (tk := tk) rfl)
end
end
section
set_option maxHeartbeats 4000000
section
variable {C : Ctx} {n : Nat} {ρ : Locs} {σ fs φ : Store} {τ : Tmp} {s : Shared} {m : Str → Option Value} {S I : Led}
theorem InvD.objAt (D : InvD C ρ σ τ s m S I) {v : Value} {o : Obj} (h : (v, PV.obj o) ∈ τ) : ∃ a, v = .ref a ∧ s.heap.get? a = some o := by
  have := D.tmp _ h
  generalize hv : ((v, PV.obj o) : Value × PV).1 = v' at this
  generalize hp : ((v, PV.obj o) : Value × PV).2 = p' at this
  cases this with
  | obj hm => cases hp; cases hv; exact ⟨_, rfl, (D.N _ (mem3.mpr (.inr (.inr hm)))).1⟩
  | _ => cases hp
theorem RT.lam {o : Obj} {P : Addr} {pos : Pos} {qual : Str} {body : Expr} {scope : Scope} {clos : List (Str × Addr)} {c' : Addr} {tab : Store} {cls : Value} (ho : LamO o qual body scope clos c') (ht : TabOld P pos qual c' tab)
    (hk : scope.kind = .function) (hcell : ∀ x ∈ scope.names, x.2 ≠ .cell) (hco : scope.isCoroutine = false) (hgen : scope.isGenerator = false)
    (h : ∀ C fs, C.Ok n → FrOk C fs → C.env.scope = scope → C.env.cells = clos → RE C [] (tab ++ σ) fs body cls (tab ++ σ)) : RT (.obj o) [] (tab ++ σ) (n + 1) cls := by
  intro C ρ fs O K τ s vf vs Q E J hf ha q
  cases ha
  obtain ⟨m, S, I, D⟩ := J
  obtain ⟨f, rfl, hfo⟩ := D.objAt hf
  obtain ⟨params, pm, ctv, rfl, hb⟩ := ho
  obtain ⟨oc, ocvs, t, hocd, hov, rfl⟩ := ht
  have hc' : s.heap.get? c' = some oc := D.raw (by simp)
  obtain ⟨_, _, _, _, _, T⟩ := O.T
  have hlim := T.nolimit.keeps D.F.keep
  obtain ⟨oL, es, ep, hL, hdL, hrL⟩ := id D.F.ns
  refine wpAny_call (kla_callFunE (by have := O.depth; show C.A.depth < 1000; (first | lia | omega)) hfo rfl hco hgen rfl ⟨c', oc, ocvs, t, rfl, hc', hocd, hov⟩ ?_)
  rw [hb]
  refine wpAny_pure (wpAny_newFunctionEnv hcell (fun x hx => nomatch hx) (fun h₁ hns hsb => ⟨hlim.fresh _ hsb, ?_⟩) hk)
  show codeAny _ _ (.expr body (envX qual scope s.heap.objs.size f (.ref c') clos)) _ _
  have hk₁ : ∀ b o, s.heap.get? b = some o → h₁.get? b = some o := fun b o e => hsb.extBut b o (Nat.ne_of_lt (Heap.lt_size e)) (Heap.get?_push_of_some _ e)
  have O' := O.intoR D (env := envX qual scope s.heap.objs.size f (.ref c') clos) hk rfl rfl
  have D' := D.intoR (env := envX qual scope s.heap.objs.size f (.ref c') clos) (τ' := []) (ρ' := []) (tk := s.toks + ([] : List (Str × Value)).length) hL hdL rfl hns hk₁ (fun x p e => nomatch e) (fun _ h => nomatch h)
  have K' : FrOk (C.intoR (envX qual scope s.heap.objs.size f (.ref c') clos) s S I) ((C.env.locals, .frame (.dict es ep)) :: fs) := FrOk.into O K rfl
  refine kla_codeExpr (h _ _ O' K' rfl rfl [] _ _ _ (Inv.perm ⟨_, _, _, D'⟩ (List.perm_middle (l₁ := [_, _] ++ σ)).symm) fun e s' X => ?_)
  exact X.leave D O K hL hdL rfl fun h' X'' => q e _ X''
theorem refused_spec {f : PV} {Cl : Addr} {σ : Store} (X : ExcFacts Cl) (h : RT f [] σ n (.ref Cl)) (hcal : ∀ C σ', C.Ok n → Callee C σ' f) : FT (.ref 263) [f, .ref Cl] σ (n + 1) fun p σ' => p = .bool true ∧ σ' = σ := by
  refine' FT.def (f := 263) (xs := [Str.ofString "call", Str.ofString "kind"]) ?d rfl ?h
  case d => walk_at "defC2"
  case h =>
  intro C L fs O F hs hc hco
  have hc : C.env.cells = [] := hc
  refine (AX.conv (ρ := [Str.ofString "call", Str.ofString "kind"].zip [f, .ref Cl]) (σ := σ ++ fs) rfl rfl ?_)
  refine AX.cons (AS.tryTrue (Cl := Cl) O F X rfl hs rfl rfl rfl ?_ ?_)
  · refine RE.call0 (fun _ => rfl) ?_
    walk_at "ae"
    exact ⟨hcal _ _ O, rw_same O F h (Nat.le_refl _)⟩
  · exact ⟨σ, rfl, rfl, rfl⟩
theorem RT.bound {f : Addr} {x : Addr} {ps : List PV} {cls : Value} (h : RTC (.ref f) (.ref x :: ps) σ n cls) : RT (.obj (methodObj (.ref f) (.ref x))) ps σ n cls := by
  intro C ρ fs O K τ s vf vs Q E J hf ha q
  have J0 := J
  obtain ⟨m, S, I, D⟩ := J
  obtain ⟨a, rfl, hao⟩ := D.objAt hf
  refine wpAny_call (method_call hao ?_)
  exact h C ρ fs O K ((.ref f, .ref f) :: (.ref x, .ref x) :: τ) s _ _ _ ((J0.push fun _ => .val (.ref x)).push fun _ => .val (.ref f)) (.head _) (.cons (.tail _ (.head _)) (ha.mono fun q hq => .tail _ (.tail _ hq))) fun e s' X => q e s' (X.tmps fun q hq => .tail _ (.tail _ hq))
theorem Callee.lam {o : Obj} {qual : Str} {body : Expr} {scope : Scope} {clos : List (Str × Addr)} {c' : Addr} (ho : LamO o qual body scope clos c') : Callee C σ (.obj o) := by
  intro ρ τ s v J hv
  obtain ⟨m, S, I, D⟩ := J
  obtain ⟨a, rfl, hao⟩ := D.objAt hv
  obtain ⟨params, pm, ctv, rfl, hb⟩ := ho
  exact ⟨.frame, .inl rfl, (Looks.ld (part := none) hao).andThen .now⟩
theorem Callee.bound (O : C.Ok n) {f x : Addr} (hf : fnIn (hd.heap_1 C.w.params) f = true) : Callee C σ (.obj (methodObj (.ref f) (.ref x))) := by
  intro ρ τ s v J hv
  obtain ⟨m, S, I, D⟩ := J
  obtain ⟨a, rfl, hao⟩ := D.objAt hv
  exact keeps_M hf _ ⟨hao, O.X.keeps D.F.keep⟩
theorem AE.bound {o : Expr} {name : Str} {pos : Pos} {K : PV → Store → Prop} (O : C.Ok n) (hb : attributeBase o name C.env (eval o C.env) = eval o C.env)
    (h : AE C ρ σ o fun q σ₁ => ∃ x Cl f fs, q = .ref x ∧ (x, AObj.inst Cl fs) ∈ σ₁ ∧ fs.lookup name = Option.none ∧ plainGet (hd.heap_1 C.w.params) Cl name = true ∧ hasDictIn (hd.heap_1 C.w.params) Cl = true ∧ findIn (hd.heap_1 C.w.params) (.ref Cl) name = some (some (.ref f)) ∧
      isFn (hd.heap_1 C.w.params) (.ref f) = true ∧ specialIn (hd.heap_1 C.w.params) (.ref f) "__get__" = some (some (.builtin "function.__get__")) ∧ takesIn (hd.heap_1 C.w.params) (.ref f) = some false ∧ copiedNames.contains name = false ∧ K (.obj (methodObj (.ref f) (.ref x))) σ₁) :
    AE C ρ σ (.Attribute o name pos) K := by
  intro τ s Q E J q
  show wpAny _ _ (do
    let o' ← attributeBase o name C.env (eval o C.env)
    standAt pos.atName
    let r ← holding [o'] (getAttr o' name true)
    letTemporaryGo o o' r
    pure r) Q E s
  rw [hb]
  refine wpAny_bind (h τ s _ E J fun v p' σ₁ s₁ k J₁ => wpAny_bind (wpAny_standAt (wpAny_bind (wpAny_holding ?_))))
  obtain ⟨x, Cl, f, fs, rfl, hm, hl, h1, h2, h3, h4, h5, h6, h7, k⟩ := k
  cases J₁.getVal (.head _)
  obtain ⟨m, S, I, D⟩ := J₁
  obtain ⟨dx, es, n', hi, hf⟩ := D.inst hm
  refine kbm_bound D.F O.X D.N hi h1 h2 h3 h4 h5 h6 h7 (hf.getNone hl) fun a h' F' N' hlt => ?_
  have nd : (([(a, methodObj (.ref f) (.ref x))] ++ (S ++ (C.J ++ I))).map (·.1)).Nodup := by
    refine List.nodup_cons.mpr ⟨fun hm => ?_, D.nd⟩
    obtain ⟨p, hp, e⟩ := List.mem_map.mp hm
    have h1 := hlt p hp
    have e' : p.1 = a := e
    exact Nat.lt_irrefl _ (e' ▸ h1)
  have D' := D.growI (own := [(a, methodObj (.ref f) (.ref x))]) (tk := s₁.toks + 1) F' N' nd
  refine wpAny_bind (wpAny_letTemporaryGo (wpAny_pure (q _ _ σ₁ _ k (Inv.tmps (D'.more (.obj (.head _))).inv fun q hq => ?_))))
  rcases List.mem_cons.mp hq with rfl | hq
  · exact .head _
  · exact .tail _ (.tail _ hq)
end
end
section
set_option maxHeartbeats 4000000
theorem wire_initC {x : Addr} {a b d : PV} : CC (.ref 72) [.ref x, a, b, d] [(x, .inst 82 [])] 1 fun p σ' => p = .none ∧ σ' = [(x, .inst 82 [("one", a), ("other", b), ("delay", d), ("is_whole", .bool true)])] := by
  refine' CC.def (f := 72) (xs := [Str.ofString "self", Str.ofString "one", Str.ofString "other", Str.ofString "delay"]) ?d rfl ?h
  case d => walk_at "def4"
  case h =>
  intro C O hs hc
  walk_at "ae"
  exact ⟨rfl, rfl⟩
theorem wireC {a b d : PV} {σ : Store} : CC (.ref 82) [a, b, d] σ 2 fun p σ' => ∃ x, p = .ref x ∧ σ' = (x, .inst 82 [("one", a), ("other", b), ("delay", d), ("is_whole", .bool true)]) :: σ := by
  refine CC.cls (n := 1) (fI := 72) (fun w => by k_is) (fun w => by k_is) (fun w => by k_is) fun x => ?_
  refine CC.conseq ((wire_initC (x := x) (a := a) (b := b) (d := d)).frame σ) ?_
  rintro p σ' ⟨σ₁, rfl, rfl, rfl⟩
  exact ⟨_, Le.refl _, rfl, x, rfl, rfl⟩
theorem lookup_append_none {kvs : List (List Int × Int)} {k k' : List Int} {v : Int} (h : kvs.lookup k = none) (hk : k ≠ k') : (kvs ++ [(k', v)]).lookup k = none := by
  rw [List.lookup_append, h]
  have : (k == k') = false := by simpa using hk
  simp [List.lookup_cons, this]
theorem kvsW_snoc (d : WireD) : ∀ (ws : List WireD) (i : Int), kvsW i (ws ++ [d]) = kvsW i ws ++ [(endK d.one, i + ws.length), (endK d.other, i + ws.length)]
  | [], i => by simp [kvsW]
  | e :: ws, i => by
    rw [List.cons_append, kvsW, kvsW_snoc d ws, kvsW]
    have e1 : i + 1 + (ws.length : Int) = i + ((ws.length + 1 : Nat) : Int) := by (first | lia | omega)
    simp only [List.cons_append, List.length_cons, e1]
theorem kvsW_length : ∀ (ws : List WireD) (i : Int), (kvsW i ws).length = 2 * ws.length
  | [], _ => rfl
  | _ :: ws, i => by rw [kvsW, List.length_cons, List.length_cons, kvsW_length ws, List.length_cons]; (first | lia | omega)
theorem endK_ne {a b : Int × Int} (h : a ≠ b) : endK a ≠ endK b := fun e => h (by
  have h1 : [a.1, a.2] = [b.1, b.2] := e
  injection h1 with h1 h2
  injection h2 with h2
  exact Prod.ext h1 h2)
noncomputable abbrev newW (x : Addr) (a b : Int × Int) (late : Int) : WireD := { x := x, one := a, other := b, late := late, whole := true }
theorem join_spec {g : GW} {a b : Int × Int} {late : Int} (hz : g.ws.length ≤ 400) (hab : a ≠ b) (ha : (kvsW 0 g.ws).lookup (endK a) = none) (hb : (kvsW 0 g.ws).lookup (endK b) = none) (hl : 0 ≤ late) :
    CT (.ref 108) [.ref g.W, endP a, endP b, .int late] (WS g) 5 fun p σ' => p = .int (g.ws.length : Int) ∧ ∃ x ep, σ' = WS { g with ws := g.ws ++ [newW x a b late], ep := ep } := by
  refine CT.conseq (K := fun p σ' => p = .int (g.ws.length : Int) ∧ ∃ x ep, σ' = wireObj (newW x a b late) :: (g.W, .inst 184 (wiresF g)) :: (g.R, .list ((g.ws ++ [newW x a b late]).map fun d => .ref d.x)) :: (g.D, .dict (kvsW 0 (g.ws ++ [newW x a b late])) ep) ::
      (g.F, .list (g.fl.map flyP)) :: g.ws.map wireObj) ?_ ?_
  case refine_2 =>
    rintro p σ' ⟨rfl, x, ep, rfl⟩
    refine ⟨_, Le.perm ?_, rfl, x, ep, rfl⟩
    rw [WS, List.map_append (f := wireObj)]
    exact (List.perm_append_comm (l₁ := [wireObj (newW x a b late)]) (l₂ := (g.W, .inst 184 (wiresF g)) :: (g.R, .list ((g.ws ++ [newW x a b late]).map fun d => .ref d.x)) :: (g.D, .dict (kvsW 0 (g.ws ++ [newW x a b late])) ep) ::
      (g.F, .list (g.fl.map flyP)) :: g.ws.map wireObj))
  refine' CT.def (f := 108) (xs := [Str.ofString "self", Str.ofString "one", Str.ofString "other", Str.ofString "delay"]) ?d rfl ?h
  case d => refine' Def.ofX ?h1 ?h2 ?h3 ?a ?b ?c ?d ?e ?f; (case h1 => intro w; k_is); (case h2 => intro w; k_is); (case a => decide); (case b => decide); (case c => decide); (case d => rfl); (case e => rfl); (case f => rfl); exact fun w => vs4 fun _ _ _ _ s X => binds_K (K := hd.heap_1 w.params) (T := 101) X rfl (by k_is) rfl rfl rfl
  case h =>
  intro C O hs hc
  have hlen := kvsW_length g.ws 0
  walk_at "ae"
  refine AO2.eqD O rfl rfl ⟨_, rfl, ?_⟩
  rw [eqv_end, decide_eq_false hab]
  refine ⟨(fun h => nomatch h), fun _ => ?_⟩
  walk_at "ae"
  refine AO2.inD (ks := endK a) O (by walk_at "mem") ⟨_, rfl, ?_⟩
  rw [ha]
  refine ⟨(fun h => nomatch h), fun _ => ?_⟩
  walk_at "ae"
  refine AO2.inD (ks := endK b) O (by walk_at "mem") ⟨_, rfl, ?_⟩
  rw [hb]
  refine ⟨(fun h => nomatch h), fun _ => ?_⟩
  walk_at "ae"
  refine ⟨fun h => absurd (of_decide_eq_true h) (by (first | lia | omega)), fun _ => ?_⟩
  walk_at "ae"
  refine (CT.of wireC C _ (O.le (by (first | lia | omega)))).mono ?_
  rintro p σ' ⟨x, rfl, rfl⟩
  walk_at "ae"
  refine AC.append (l := g.ws.map fun d => .ref d.x) (by walk_at "upd") (by simp; (first | lia | omega)) ?_
  walk_at "ae"
  refine AW.dict (ks := endK a) (kvs := kvsW 0 g.ws) (i := ((g.ws.map fun d => PV.ref d.x).length : Int)) O (fun ep' => ⟨_, .tail (.tail (.tail .head)), ?_⟩) ha (by (first | lia | omega))
  walk_at "ae"
  refine AW.dict (ks := endK b) (kvs := kvsW 0 g.ws ++ [(endK a, ((g.ws.map fun d => PV.ref d.x).length : Int))]) (i := ((g.ws.map fun d => PV.ref d.x).length : Int)) O (fun ep'' => ⟨_, .tail (.tail (.tail .head)), ?_⟩)
    (lookup_append_none hb (endK_ne (Ne.symm hab))) (by rw [List.length_append]; simp; (first | lia | omega))
  walk_at "ae"
  have e1 : (((g.ws.map fun d => PV.ref d.x).length : Nat) : Int) = (g.ws.length : Int) := by rw [List.length_map]
  have e2 : kvsW 0 (g.ws ++ [newW x a b late]) = kvsW 0 g.ws ++ [(endK a, (g.ws.length : Int))] ++ [(endK b, (g.ws.length : Int))] := by
    rw [kvsW_snoc, List.append_assoc, Int.zero_add]; rfl
  rw [e1]
  refine ⟨rfl, x, ep'', ?_⟩
  rw [e2, List.map_append]
  rfl
end
section
set_option maxHeartbeats 4000000
theorem wires_initC {x : Addr} : CC (.ref 100) [.ref x] [(x, .inst 184 [])] 1 fun p σ' => p = .none ∧ ∃ R D F, σ' = WS { W := x, R := R, D := D, F := F, ep := 0, ws := [], fl := [], sent := 0 } := by
  refine CC.conseq (K := fun p σ' => p = .none ∧ ∃ R D F, σ' = (F, .list []) :: (D, .dict [] 0) :: (R, .list []) :: [(x, .inst 184 [("rows", .ref R), ("numbers", .ref D), ("flying", .ref F), ("sent", .int 0)])]) ?_ ?_
  case refine_2 =>
    rintro p σ' ⟨rfl, R, D, F, rfl⟩
    refine ⟨_, Le.perm ?_, rfl, R, D, F, rfl⟩
    exact List.reverse_perm [(x, AObj.inst 184 [("rows", .ref R), ("numbers", .ref D), ("flying", .ref F), ("sent", .int 0)]), (R, .list []), (D, .dict [] 0), (F, .list [])]
  refine' CC.def (f := 100) (xs := [Str.ofString "self"]) ?d rfl ?h
  case d => walk_at "def1"
  case h =>
  intro C O hs hc
  walk_at "ae"
  refine AE.list (AL.nil ⟨by simp, fun R => ?_⟩)
  walk_at "ae"
  refine AE.dict0 O fun D => ?_
  walk_at "ae"
  refine AE.list (AL.nil ⟨by simp, fun F => ?_⟩)
  walk_at "ae"
  exact ⟨rfl, R, D, F, rfl⟩
theorem wiresC {σ : Store} : CC (.ref 184) [] σ 2 fun p σ' => ∃ W R D F, p = .ref W ∧ σ' = WS { W := W, R := R, D := D, F := F, ep := 0, ws := [], fl := [], sent := 0 } ++ σ := by
  refine CC.cls (n := 1) (fI := 100) (fun w => by k_is) (fun w => by k_is) (fun w => by k_is) fun x => ?_
  refine CC.conseq ((wires_initC (x := x)).frame σ) ?_
  rintro p σ' ⟨σ₁, rfl, rfl, R, D, F, rfl⟩
  exact ⟨_, Le.refl _, rfl, x, R, D, F, rfl, rfl⟩
noncomputable def endsW : List WireD → List (Int × Int)
  | [] => []
  | d :: ws => d.one :: d.other :: endsW ws
theorem kvsW_keys : ∀ (ws : List WireD) (i : Int), (kvsW i ws).map (·.1) = (endsW ws).map endK
  | [], _ => rfl
  | d :: ws, i => by rw [kvsW, List.map_cons, List.map_cons, kvsW_keys ws, endsW]; rfl
theorem endsW_length : ∀ ws : List WireD, (endsW ws).length = 2 * ws.length
  | [] => rfl
  | d :: ws => by rw [endsW, List.length_cons, List.length_cons, endsW_length ws, List.length_cons]; (first | lia | omega)
noncomputable def portsW (sw : Int) (l : List (Int × Int)) : List Int := (l.filter fun e => decide (e.1 = sw)).map (·.2)
noncomputable def atSw (sw : Int) : PV → Bool
  | .tup (.int i :: _) => decide (i = sw)
  | _ => false
noncomputable def snd1 : PV → PV
  | .tup [_, q] => q
  | p => p
theorem ports_pv (sw : Int) (l : List (Int × Int)) : ((l.map fun e => endP e).filter (atSw sw)).map snd1 = (portsW sw l).map .int := by
  rw [portsW, List.filter_map, List.map_map, List.map_map]; rfl
theorem portsOf_spec {g : GW} {sw : Int} (hz : g.ws.length ≤ 20) : CT (.ref 127) [.ref g.W, .int sw] (WS g) 2 fun p σ' => ∃ (a : Addr) (ns : List Int), p = .ref a ∧ ns.Perm (portsW sw (endsW g.ws)) ∧ ns.Pairwise (· ≤ ·) ∧ σ' = (a, .list (ns.map .int)) :: WS g := by
  refine' CT.defC (f := 127) (xs := [Str.ofString "self", Str.ofString "switch"]) ?d rfl ?h
  case d => walk_at "defC2"
  case h =>
  intro C L O hs hc
  have hc : C.env.cells = [(Str.ofString "switch", L)] := hc
  have hkeys := kvsW_keys g.ws 0
  have hlen := endsW_length g.ws
  have hpl : (portsW sw (endsW g.ws)).length ≤ 40 := by
    rw [portsW, List.length_map]
    have := List.length_filter_le (fun e : Int × Int => decide (e.1 = sw)) (endsW g.ws)
    (first | lia | omega)
  refine (AX.conv (ρ := [(Str.ofString "self", .ref g.W)]) (σ := (L, .cell (some (.int sw))) :: WS g) rfl rfl ?_)
  refine AX.conseq (K := fun fl _ σ' => ∃ (a : Addr) (ns : List Int), fl = .ret (.ref a) ∧ ns.Perm (portsW sw (endsW g.ws)) ∧ ns.Pairwise (· ≤ ·) ∧ σ' = (a, .list (ns.map .int)) :: (L, .cell (some (.int sw))) :: WS g) ?_ ?_
  case refine_2 =>
    rintro fl ρ' σ' ⟨a, ns, rfl, h1, h2, rfl⟩
    exact ⟨_, Le.cons _ (Le.dropH _ _), a, ns, rfl, h1, h2, rfl⟩
  walk_at "ae"
  refine AE.comp1 (cl := [(Str.ofString "switch", L)]) O (by rw [hc]; rfl) (by rw [relabel, hs]) rfl (by decide) (by decide) (fun _ => rfl) ?_
  walk_at "ae"
  refine ⟨_, _, atSw sw, snd1, Iter.dict (by walk_at "mem"), fun acc ys => by walk_at "mem", ?_, fun acc => ⟨_, _, Fz.ice _ _ _, ?fin⟩, ?st⟩
  · rw [List.length_map, kvsW_length]; (first | lia | omega)
  case fin =>
    walk_at "ae"
    have e : ((kvsW 0 g.ws).map fun q => PV.key q.1) = (endsW g.ws).map fun e => endP e := by
      have h : ((kvsW 0 g.ws).map fun q => PV.key q.1) = ((kvsW 0 g.ws).map (·.1)).map PV.key := by rw [List.map_map]; rfl
      rw [h, hkeys, List.map_map]; rfl
    rw [e, ports_pv]
    refine AC.sortedI (ns := portsW sw (endsW g.ws)) (.inl rfl) (by (first | lia | omega)) fun ns' D hp hs => ?_
    exact ⟨D, ns', rfl, hp, hs, rfl⟩
  case st =>
    intro acc ys x hx C' O' hs' hc'
    obtain ⟨q, hq, rfl⟩ := List.mem_map.mp hx
    have hq' : q.1 ∈ (kvsW 0 g.ws).map (·.1) := List.mem_map_of_mem hq
    rw [hkeys] at hq'
    obtain ⟨e, he, e2⟩ := List.mem_map.mp hq'
    rw [← e2]
    have hk : C.env.kindOf (Str.ofString "switch") = some .cell := by rw [Env.kindOf, hs]; rfl
    simp only [List.map_cons, List.map_nil, hk] at hs'
    show AG C' [] _ _ (endP e) _
    walk_at "ae"
    simp only [ATs]
    walk_at "ae"
    refine ⟨rfl, rfl, fun _ => ?_⟩
    walk_at "ae"
    exact ⟨rfl, rfl⟩
end
set_option maxHeartbeats 4000000
structure PRow where
  t : Int
  w : Str
  n : Int
noncomputable abbrev planP (r : PRow) : PV := .tup [.int r.t, .str r.w, .int r.n]
noncomputable abbrev planS (x : Addr) (l : List PRow) : Store := [(x, .inst 217 [("left", .lst (l.map planP))])]
noncomputable def rowLe (now : Int) : PV → Bool
  | .tup (.int t :: _) => decide (t ≤ now)
  | _ => false
theorem due_pv (now : Int) (l : List PRow) : ((l.map planP).filter (rowLe now)).map id = (l.filter fun r => decide (r.t ≤ now)).map planP := by
  rw [List.map_id, List.filter_map]; rfl
theorem due_spec {x : Addr} {l : List PRow} {now : Int} (hz : l.length ≤ 40) : CT (.ref 207) [.ref x, .int now] (planS x l) 2 fun p σ' => p = .lst ((l.filter fun r => decide (r.t ≤ now)).map planP) ∧ σ' = planS x (l.drop (l.filter fun r => decide (r.t ≤ now)).length) := by
  refine' CT.defC (f := 207) (xs := [Str.ofString "self", Str.ofString "now"]) ?d rfl ?h
  case d => walk_at "defC2"
  case h =>
  intro C L O hs hc
  have hc : C.env.cells = [(Str.ofString "now", L)] := hc
  refine (AX.conv (ρ := [(Str.ofString "self", .ref x)]) (σ := (L, .cell (some (.int now))) :: planS x l) rfl rfl ?_)
  refine AX.conseq (K := fun fl _ σ' => fl = .ret (.lst ((l.filter fun r => decide (r.t ≤ now)).map planP)) ∧ σ' = (L, .cell (some (.int now))) :: planS x (l.drop (l.filter fun r => decide (r.t ≤ now)).length)) ?_ ?_
  case refine_2 =>
    rintro fl ρ' σ' ⟨rfl, rfl⟩
    exact ⟨_, Le.dropH _ _, rfl, rfl⟩
  refine AX.cons ?_
  refine AS.comp1 (cl := [(Str.ofString "now", L)]) O (by rw [swaps_sc hs]; rfl) (by rw [hc]; rfl) (by rw [relabel, hs]) rfl (by decide) (by decide) (fun _ => rfl) hs rfl ?_
  walk_at "ae"
  refine ⟨l.map planP, fun _ => True, rowLe now, id, Iter.lst, fun acc ys => trivial, by rw [List.length_map]; (first | lia | omega), fun acc => ⟨_, _, Fz.ice _ _ _, ?fin⟩, ?st⟩
  case fin =>
    rw [due_pv]
    have hle := List.length_filter_le (fun r : PRow => decide (r.t ≤ now)) l
    walk_at "ae"
    intro t
    refine ⟨⟨0, _, .inr (.inl rfl)⟩, AP.lstFrom (by (first | lia | omega)) (by rw [List.length_map]; (first | lia | omega)) ?_⟩
    walk_at "ae"
    refine ⟨rfl, ?_⟩
    rw [planS, Int.toNat_natCast, List.length_map, ← List.map_drop]
  case st =>
    intro acc ys x hx C' O' hs' hc'
    obtain ⟨r, hr, rfl⟩ := List.mem_map.mp hx
    have hk : C.env.kindOf (Str.ofString "now") = some .cell := by rw [Env.kindOf, hs]; rfl
    simp only [List.map_cons, List.map_nil, hk] at hs'
    walk_at "ae"
    simp only [ATs]
    walk_at "ae"
    refine ⟨rfl, rfl, fun _ => ?_⟩
    walk_at "ae"
    exact ⟨rfl, rfl⟩
theorem eqv_nilL (l : List PV) : PyData.eqv (toD (.lst l)) (toD (.lst [])) = decide (l = []) := eqv_nil l
theorem planNext_spec {x : Addr} {l : List PRow} (hz : l.length ≤ 40) (hw : ∀ r ∈ l, PyData.strOk r.w = true) : CT (.ref 214) [.ref x] (planS x l) 2 fun p σ' => p = (match l with | [] => .none | r :: _ => .int r.t) ∧ σ' = planS x l := by
  refine' CT.def (f := 214) (xs := [Str.ofString "self"]) ?d rfl ?h
  case d => walk_at "def1"
  case h =>
  intro C O hs hc
  have hok : okD 8 (.lst (l.map planP)) = true := by
    show okDs 7 (l.map planP) = true
    rw [okDs_iff]
    intro p hp
    obtain ⟨r, hr, rfl⟩ := List.mem_map.mp hp
    show (true && (PyData.strOk r.w && (true && true))) = true
    rw [hw r hr]; rfl
  walk_at "ae"
  refine AE.lst (AL.nil ⟨by simp, ?_⟩)
  refine AO2.neD O hok rfl ⟨_, rfl, ?_⟩
  rw [eqv_nilL]
  cases l with
  | nil =>
    refine ⟨(fun h => nomatch h), fun _ => ?_⟩
    walk_at "ae"
    exact ⟨rfl, rfl⟩
  | cons r l =>
    refine ⟨fun _ => ?_, (fun h => nomatch h)⟩
    walk_at "ae"
    exact ⟨rfl, rfl⟩
noncomputable abbrev turnP (now : Int) (w : Str) (i : Nat) : PV := .tup [.int now, .str w, .int i]
local macro_rules | `(tactic| walk_at "tup") => `(tactic| (refine AG.tup (by assumption) rfl rfl ?_; simp only [AGs]; walk_at "ae"))
theorem turn_same {g : GW} {i : Nat} {d : WireD} {now : Int} {w : Str} (h : g.ws[i]? = some d) (hz : g.ws.length ≤ 1000) (hw : decide (w = "mend") = d.whole) : CT (.ref 235) [.ref g.W, turnP now w i] (WS g) 4 fun p σ' => p = .none ∧ σ' = WS g := by
  refine' CT.def (f := 235) (xs := [Str.ofString "wires", Str.ofString "row"]) ?d rfl ?h
  case d => walk_at "def2"
  case h =>
  intro C O hs hc
  walk_at "ae"
  walk_at "tup"
  refine AC.go O (isWhole_spec h hz) (by (first | lia | omega)) ?_
  rintro p σ' ⟨rfl, rfl⟩
  rw [hw]
  walk_at "ae"
  have e : (d.whole == d.whole) = true := by cases d.whole <;> rfl
  rw [e]
  walk_at "ae"
  exact ⟨rfl, rfl⟩
theorem em : decide (Str.ofString "mend" = Str.ofString "mend") = true := decide_eq_true rfl
theorem ec : decide (Str.ofString "cut" = Str.ofString "mend") = false := decide_eq_false (beq_eq_false_iff_ne.mp (by rfl))
theorem turn_mend {g : GW} {i : Nat} {d : WireD} {now : Int} (h : g.ws[i]? = some d) (hz : g.ws.length ≤ 1000) (hw : d.whole = false) : CT (.ref 235) [.ref g.W, turnP now "mend" i] (WS g) 4 fun p σ' => p = .tup [.int i, .bool true] ∧ σ' = WS { g with ws := g.ws.set i { d with whole := true } } := by
  refine' CT.def (f := 235) (xs := [Str.ofString "wires", Str.ofString "row"]) ?d rfl ?h
  case d => walk_at "def2"
  case h =>
  intro C O hs hc
  walk_at "ae"
  walk_at "tup"
  refine AC.go O (isWhole_spec h hz) (by (first | lia | omega)) ?_
  rintro p σ' ⟨rfl, rfl⟩
  rw [hw]
  walk_at "ae"
  rw [em]
  refine ⟨(fun h => nomatch h), fun _ => ?_⟩
  walk_at "ae"
  rw [em]
  refine ⟨fun _ => ?_, (fun h => nomatch h)⟩
  walk_at "ae"
  refine AC.go O (mend_spec h hz hw) (by (first | lia | omega)) ?_
  rintro p σ' ⟨rfl, rfl⟩
  have hlt : i < g.ws.length := (List.getElem?_eq_some_iff.mp h).1
  walk_at "ae"
  refine AC.go O (isWhole_spec (g := { g with ws := g.ws.set i { d with whole := true } }) (i := i) (d := { d with whole := true }) (by simp [hlt]) (by simpa using hz)) (by (first | lia | omega)) ?_
  rintro p σ' ⟨rfl, rfl⟩
  walk_at "ae"
  exact ⟨rfl, rfl⟩
theorem turn_cut {g : GW} {i : Nat} {d : WireD} {now : Int} (h : g.ws[i]? = some d) (hz : g.ws.length ≤ 1000) (hf : g.fl.length ≤ 1000) (hw : d.whole = true) :
    CT (.ref 235) [.ref g.W, turnP now "cut" i] (WS g) 4 fun p σ' => p = .tup [.int i, .bool false] ∧ ∃ F', σ' = WS { g with F := F', ws := g.ws.set i { d with whole := false }, fl := g.fl.filter fun f => f.number != (i : Int) } := by
  refine' CT.def (f := 235) (xs := [Str.ofString "wires", Str.ofString "row"]) ?d rfl ?h
  case d => walk_at "def2"
  case h =>
  intro C O hs hc
  walk_at "ae"
  walk_at "tup"
  refine AC.go O (isWhole_spec h hz) (by (first | lia | omega)) ?_
  rintro p σ' ⟨rfl, rfl⟩
  rw [hw]
  walk_at "ae"
  rw [ec]
  refine ⟨(fun h => nomatch h), fun _ => ?_⟩
  walk_at "ae"
  rw [ec]
  refine ⟨(fun h => nomatch h), fun _ => ?_⟩
  walk_at "ae"
  refine AC.go O (cut_spec h hz hf hw) (by (first | lia | omega)) ?_
  rintro p σ' ⟨rfl, F', rfl⟩
  have hlt : i < g.ws.length := (List.getElem?_eq_some_iff.mp h).1
  walk_at "ae"
  refine AC.go O (isWhole_spec (g := { g with F := F', ws := g.ws.set i { d with whole := false }, fl := g.fl.filter fun f => f.number != (i : Int) }) (i := i) (d := { d with whole := false }) (by simp [hlt]) (by simpa using hz)) (by (first | lia | omega)) ?_
  rintro p σ' ⟨rfl, rfl⟩
  walk_at "ae"
  exact ⟨rfl, F', rfl⟩
set_option maxHeartbeats 4000000
noncomputable abbrev srcS (src : Addr) (a b : Int) : Store := [(src, .list [.int a, .int b])]
noncomputable def SrcOk (src : Addr) (σ : Store) : Prop := ∃ a b, σ = srcS src a b ∧ 0 ≤ b ∧ b < 2147483648
theorem take_any {src : Addr} {a b : Int} {top : Nat} (ht : 0 < top) (hz : top < 1000) (hb0 : 0 ≤ b) (hb : b < 2147483648) :
    CT (.ref 249) [.ref src, .int top] (srcS src a b) 1 fun p σ' => ∃ v : Nat, p = .int v ∧ v < top ∧ SrcOk src σ' := by
  refine (take_spec (a := a) (b := b) (top := top) (by (first | lia | omega)) (by (first | lia | omega)) hb0 hb).mono ?_
  rintro p σ' ⟨rfl, rfl⟩
  have h1 : 0 ≤ takeV a b top ∧ takeV a b top < top := by
    unfold takeV
    split
    · exact ⟨Int.fmod_nonneg_of_pos _ (by (first | lia | omega)), Int.fmod_lt_of_pos _ (by (first | lia | omega))⟩
    · exact ⟨Int.fmod_nonneg_of_pos _ (by (first | lia | omega)), Int.fmod_lt_of_pos _ (by (first | lia | omega))⟩
  obtain ⟨v, hv⟩ := Int.eq_ofNat_of_zero_le h1.1
  refine ⟨v, by rw [hv], by (first | lia | omega), _, _, rfl, ?_⟩
  unfold takeB
  split
  · exact ⟨hb0, hb⟩
  · have := mix_b b; (first | lia | omega)
theorem one_any {src : Addr} {a b : Int} {l : List PV} (ht : 0 < l.length) (hz : l.length < 1000) (hb0 : 0 ≤ b) (hb : b < 2147483648) :
    CT (.ref 256) [.ref src, .lst l] (srcS src a b) 2 fun p σ' => p ∈ l ∧ SrcOk src σ' := by
  refine' CT.def (f := 256) (xs := [Str.ofString "source", Str.ofString "things"]) ?d rfl ?h
  case d => walk_at "def2"
  case h =>
  intro C O hs hc
  walk_at "ae"
  refine AC.go O (take_any ht hz hb0 hb) (by (first | lia | omega)) ?_
  rintro p σ' ⟨v, rfl, hv, hs'⟩
  obtain ⟨q, hq⟩ : ∃ q, l[v]? = some q := ⟨l[v], List.getElem?_eq_getElem hv⟩
  refine AI.lst (by (first | lia | omega)) (by (first | lia | omega)) (p := q) (by simpa using hq) ?_
  exact ⟨List.mem_of_getElem? hq, hs'⟩
noncomputable abbrev rowL (d : WireD) : List PV := [endP d.one, endP d.other, .int d.late, .bool d.whole]
noncomputable abbrev rowObj (r : Addr × WireD) : Addr × AObj := (r.1, .list (rowL r.2))
noncomputable abbrev rowsS (rw : Addr) (rws : List (Addr × WireD)) : Store := (rw, .list (rws.map fun r => .ref r.1)) :: rws.map rowObj
theorem mem_row {rw : Addr} {rws : List (Addr × WireD)} {i : Nat} {r : Addr × WireD} (h : rws[i]? = some r) : rowObj r ∈ rowsS rw rws := .tail _ (List.mem_map_of_mem (List.mem_of_getElem? h))
noncomputable def rowAt (e : Int × Int) : List WireD → Nat → Option (Nat × WireD)
  | [], _ => none
  | d :: ws, i => if e = d.one ∨ e = d.other then some (i, d) else rowAt e ws (i + 1)
noncomputable def foundP (e : Int × Int) : Option (Nat × WireD) → PV
  | none => .none
  | some (i, d) => .tup [.int i, endP (if e = d.one then d.other else d.one)]
theorem end_in (e : Int × Int) (d : WireD) : ((toDs [endP d.one, endP d.other]).any fun y => PyData.eqv y (toD (endP e))) = decide (e = d.one ∨ e = d.other) := by
  simp only [toDs, List.any_cons, List.any_nil, Bool.or_false]
  have h1 : PyData.eqv (toD (endP d.one)) (toD (endP e)) = decide (d.one = e) := eqv_end _ _
  have h2 : PyData.eqv (toD (endP d.other)) (toD (endP e)) = decide (d.other = e) := eqv_end _ _
  rw [h1, h2, ← Bool.decide_or, decide_eq_decide]
  constructor
  · rintro (h | h)
    · exact .inl h.symm
    · exact .inr h.symm
  · rintro (h | h)
    · exact .inl h.symm
    · exact .inr h.symm
noncomputable def Sub (ρ₀ ρ : Locs) : Prop := ∀ x p, ρ₀.lookup x = some p → ρ.lookup x = some p
theorem Sub.refl (ρ : Locs) : Sub ρ ρ := fun _ _ h => h
theorem Sub.skip {ρ₀ ρ : Locs} {y : Str} {q : PV} (h : ρ₀.lookup y = none) (k : Sub ρ₀ ρ) : Sub ρ₀ ((y, q) :: ρ) := by
  intro x p hx
  rw [List.lookup_cons]
  by_cases e : x = y
  · subst e; rw [h] at hx; cases hx
  · have : (x == y) = false := by simpa using e
    rw [this]; exact k x p hx
theorem AG.locs {C : Ctx} {ρ₀ ρ : Locs} {σ : Store} {t : Expr} {p : PV} {K : Locs → Store → Prop} (k : Sub ρ₀ ρ) (h : AG C ρ₀ σ t p K) : AG C ρ σ t p K := fun τ s v Q E J hv q => h τ s v Q E (J.weak k fun _ h => h) hv q
theorem AX.locs {C : Ctx} {ρ₀ ρ : Locs} {σ : Store} {ss : List Stmt} {K : Fl → Locs → Store → Prop} (k : Sub ρ₀ ρ) (h : AX C ρ₀ σ ss K) : AX C ρ σ ss K := fun s Q E J P => h s Q E (J.weak k fun _ h => h) P
local macro_rules | `(tactic| walk_at "sub") => `(tactic| first | exact Sub.refl _ | (refine Sub.skip rfl ?h; case h => walk_at "sub"))
theorem rowAt_append (e : Int × Int) : ∀ (l m : List WireD) (i : Nat), rowAt e l i = none → rowAt e (l ++ m) i = rowAt e m (i + l.length)
  | [], m, i, _ => rfl
  | d :: l, m, i, h => by
    unfold rowAt at h
    rw [List.cons_append]
    conv => lhs; unfold rowAt
    split at h
    · cases h
    · rename_i hn
      rw [if_neg hn, rowAt_append e l m (i + 1) h, List.length_cons]
      congr 1; (first | lia | omega)
theorem numbered_at {l d r : List PV} {x : PV} (h : numbered l = d ++ x :: r) : ∃ p, l[d.length]? = some p ∧ x = .tup [.int d.length, p] := by
  have h1 : (numbered l)[d.length]? = some x := by rw [h]; simp
  unfold numbered at h1
  rw [List.getElem?_map, List.getElem?_zipIdx] at h1
  cases q : l[d.length]? with
  | none => rw [q] at h1; simp at h1
  | some p => rw [q] at h1; simp at h1; exact ⟨p, rfl, h1.symm⟩
theorem numbered_length (l : List PV) : (numbered l).length = l.length := by simp [numbered]
theorem rowAt_spec {rw : Addr} {rws : List (Addr × WireD)} {e : Int × Int} (hz : rws.length ≤ 50) : CT (.ref 275) [.ref rw, endP e] (rowsS rw rws) 2 fun p σ' => p = foundP e (rowAt e (rws.map (·.2)) 0) ∧ σ' = rowsS rw rws := by
  refine' CT.def (f := 275) (xs := [Str.ofString "rows", Str.ofString "end"]) ?d rfl ?h
  case d => walk_at "def2"
  case h =>
  intro C O hs hc
  refine AX.cons (AS.forIn (n := 0) ?_ (fun _ => rfl) O.hh)
  walk_at "ae"
  refine AC.enumL (l := rws.map fun r => .ref r.1) (by walk_at "mem") fun e' it oi h1 h2 => ?_
  refine ForK.mk (fun d ρ σ => Sub ([Str.ofString "rows", Str.ofString "end"].zip [PV.ref rw, endP e]) ρ ∧ σ = rowsS rw rws ∧ rowAt e ((rws.take d.length).map (·.2)) 0 = none) (IterG.enum h1 h2 (by walk_at "mem")) (⟨_, _, _, rfl⟩) (⟨Sub.refl _, rfl, by simp [rowAt]⟩) ?_ ?_ ?_
  · rintro ρ σ ⟨sub, rfl, h3⟩
    refine AX.locs sub ?_
    rw [numbered_length, List.length_map, List.take_length] at h3
    walk_at "ae"
    rw [h3]
    exact ⟨rfl, rfl⟩
  · rintro d ρ σ ⟨_, rfl, _⟩
    exact .head _
  · rintro d x r hl J I₀ ρ σ ⟨sub, rfl, h3⟩
    refine AG.locs sub ?_
    obtain ⟨p, hp, rfl⟩ := numbered_at hl
    rw [List.getElem?_map] at hp
    obtain ⟨row, hrow, rfl⟩ := Option.map_eq_some_iff.mp hp
    have hm := mem_row (rw := rw) hrow
    obtain ⟨C', hC⟩ : ∃ C', C' = C.jj J I₀ := ⟨_, rfl⟩
    rw [← hC]
    have O' : C'.Ok 1 := by rw [hC]; exact O.jj J I₀
    have hE : C'.env = C.env := by rw [hC]
    have hs' := hs
    rw [← hE] at hs'
    clear hC O hs hE
    walk_at "tup"
    intro t
    refine ⟨⟨_, _, .inl ⟨rfl, hm⟩⟩, AP.listTo hm (by (first | lia | omega)) (by simp) ?_⟩
    refine AO2.inL O' rfl rfl ⟨_, rfl, ?_⟩
    have hlt : d.length < rws.length := (List.getElem?_eq_some_iff.mp hrow).1
    have h4 : ∀ m : List WireD, rowAt e ((rws.take d.length).map (·.2) ++ row.2 :: m) 0 = rowAt e (row.2 :: m) d.length := by
      intro m
      rw [rowAt_append e _ _ _ h3, List.length_map, List.length_take, Nat.zero_add]
      congr 1; (first | lia | omega)
    have h5 : rws.map (·.2) = (rws.take d.length).map (·.2) ++ row.2 :: (rws.drop (d.length + 1)).map (·.2) := by
      have := List.take_append_drop d.length rws
      conv => lhs; rw [← this]
      rw [List.map_append, List.drop_eq_getElem_cons hlt, List.map_cons]
      have : rws[d.length] = row := by rw [List.getElem?_eq_getElem hlt] at hrow; exact Option.some.inj hrow
      rw [this]
    have e2 : (List.take (Int.toNat 2) (rowL row.2)) = [endP row.2.one, endP row.2.other] := rfl
    rw [e2, end_in]
    refine ⟨fun hb => ?_, fun hb => ?_⟩
    · have hb := of_decide_eq_true hb
      walk_at "ae"
      refine AO2.eqD O' rfl rfl ⟨_, rfl, ?_⟩
      rw [eqv_end]
      have h6 : rowAt e (rws.map (·.2)) 0 = some (d.length, row.2) := by
        rw [h5, h4, rowAt, if_pos hb]
      refine ⟨fun h => ?_, fun h => ?_⟩
      · have h := of_decide_eq_true h
        walk_at "ae"
        refine ⟨?_, rfl⟩
        rw [h6]; simp only [foundP]; rw [if_pos h]
      · have h := of_decide_eq_false h
        walk_at "ae"
        refine ⟨?_, rfl⟩
        rw [h6]; simp only [foundP]; rw [if_neg h]
    · have hb := of_decide_eq_false hb
      walk_at "ae"
      refine ⟨by walk_at "sub", rfl, ?_⟩
      have h6 : rws.take (d.length + 1) = rws.take d.length ++ [row] := by
        rw [List.take_add_one, hrow]; rfl
      rw [List.length_append, List.length_singleton, h6, List.map_append, List.map_cons, List.map_nil, h4, rowAt, if_neg hb, rowAt]
set_option maxHeartbeats 4000000
local macro_rules | `(tactic| walk_at "def5") => `(tactic| (walk_at "defh"; exact vs5 fun _ _ _ _ _ _ => BindsTo.of_eq rfl))
local macro_rules | `(tactic| walk_at "def6") => `(tactic| (walk_at "defh"; exact vs6 fun _ _ _ _ _ _ _ => BindsTo.of_eq rfl))
theorem rowAt_lookup (e : Int × Int) : ∀ (ws : List WireD) (i : Nat), (kvsW i ws).lookup (endK e) = (rowAt e ws i).map fun q => (q.1 : Int)
  | [], _ => rfl
  | d :: ws, i => by
    unfold rowAt kvsW
    have k : ∀ x : Int × Int, (endK e == endK x) = decide (e = x) := fun x => by
      rw [Bool.eq_iff_iff, beq_iff_eq, decide_eq_true_eq]
      constructor
      · intro h; exact Decidable.byContradiction fun hn => endK_ne hn h
      · rintro rfl; rfl
    rw [List.lookup_cons, List.lookup_cons, k, k]
    have e1 : ((i : Int) + 1) = ((i + 1 : Nat) : Int) := by (first | lia | omega)
    by_cases h1 : e = d.one
    · rw [decide_eq_true h1, if_pos (.inl h1)]; rfl
    · rw [decide_eq_false h1]
      by_cases h2 : e = d.other
      · rw [decide_eq_true h2, if_pos (.inr h2)]; rfl
      · rw [decide_eq_false h2, if_neg (by rintro (h | h); exact h1 h; exact h2 h), e1]
        exact rowAt_lookup e ws (i + 1)
theorem rowAt_get (e : Int × Int) : ∀ (ws : List WireD) (i j : Nat) (d : WireD), rowAt e ws i = some (j, d) → i ≤ j ∧ ws[j - i]? = some d ∧ (e = d.one ∨ e = d.other)
  | [], _, _, _, h => by cases h
  | x :: ws, i, j, d, h => by
    unfold rowAt at h
    split at h
    · rename_i hx
      cases h
      exact ⟨Nat.le_refl _, by simp, hx⟩
    · obtain ⟨h1, h2, h3⟩ := rowAt_get e ws (i + 1) j d h
      refine ⟨by (first | lia | omega), ?_, h3⟩
      have : j - i = (j - (i + 1)) + 1 := by (first | lia | omega)
      rw [this, List.getElem?_cons_succ]; exact h2
noncomputable abbrev undP (f : FlyD) : PV := .lst [.int f.time, f.thing, endP f.goal, .int f.number]
noncomputable abbrev lawS (g : GW) (rw : Addr) (rws : List (Addr × WireD)) (un : Addr) (u : List FlyD) : Store := (un, .list (u.map undP)) :: (rowsS rw rws ++ WS g)
theorem across_of {g : GW} {e : Int × Int} : Across g e (match rowAt e g.ws 0 with | none => none | some (_, d) => if d.whole = true then some (if e = d.one then d.other else d.one) else none) := by
  have h := rowAt_lookup e g.ws 0
  cases q : rowAt e g.ws 0 with
  | none => rw [q] at h; exact .inl ⟨h, rfl⟩
  | some r =>
    obtain ⟨i, d⟩ := r
    rw [q] at h
    obtain ⟨_, h2, _⟩ := rowAt_get e g.ws 0 i d q
    exact .inr ⟨i, d, h, by simpa using h2, rfl⟩
theorem sent_no {g : GW} {rw un : Addr} {rws : List (Addr × WireD)} {u : List FlyD} {e : Int × Int} {now : Int} {th : PV} (hz : g.ws.length ≤ 20) (hr : rws.map (·.2) = g.ws) (h : ∀ i d, rowAt e g.ws 0 = some (i, d) → d.whole = false) :
    CT (.ref 282) [.ref g.W, .ref rw, .ref un, endP e, th, .int now] (lawS g rw rws un u) 5 fun p σ' => p = .bool true ∧ σ' = lawS g rw rws un u := by
  have hzr : rws.length ≤ 20 := by rw [← hr, List.length_map] at hz; exact hz
  have hac : Across g e none := by
    have := across_of (g := g) (e := e)
    cases q : rowAt e g.ws 0 with
    | none => rw [q] at this; exact this
    | some r => obtain ⟨i, d⟩ := r; rw [q] at this; simp only [h i d q] at this; exact this
  refine' CT.def (f := 282) (xs := [Str.ofString "wires", Str.ofString "rows", Str.ofString "under", Str.ofString "end", Str.ofString "thing", Str.ofString "now"]) ?d rfl ?h
  case d => walk_at "def6"
  case h =>
  intro C O hs hc
  have hW : (g.W, AObj.inst 184 (wiresF g)) ∈ lawS g rw rws un u := by simp [lawS]
  have hR : (rw, AObj.list (rws.map fun r => .ref r.1)) ∈ lawS g rw rws un u := by simp [lawS]
  have fin : ∀ ρ : Locs, True → AC C ρ (lawS g rw rws un u) (.ref 160) [.ref g.W, endP e, th, .int now] fun p σ' => p = .bool false ∧ σ' = lawS g rw rws un u := fun ρ _ => by
    refine AC.use (σ₁ := WS g) (φ := (un, .list (u.map undP)) :: rowsS rw rws) O (send_none (by (first | lia | omega)) hac) (by (first | lia | omega)) (Le.perm ?_) ?_
    · exact List.perm_append_comm (l₁ := (un, AObj.list (u.map undP)) :: rowsS rw rws) (l₂ := WS g)
    rintro p σ' ⟨rfl, rfl⟩
    exact ⟨lawS g rw rws un u, Le.perm (List.perm_append_comm (l₁ := WS g) (l₂ := (un, AObj.list (u.map undP)) :: rowsS rw rws)), rfl, rfl⟩
  walk_at "ae"
  refine AC.use (σ₁ := rowsS rw rws) (φ := (un, .list (u.map undP)) :: WS g) O (rowAt_spec (by (first | lia | omega))) (by (first | lia | omega)) (Le.perm ?_) ?_
  · exact (List.perm_middle (l₁ := rowsS rw rws)).symm
  rintro p σ' ⟨rfl, rfl⟩
  refine ⟨lawS g rw rws un u, Le.perm (List.perm_middle (l₁ := rowsS rw rws)), ?_⟩
  rw [hr]
  walk_at "ae"
  refine AE.and2 ?_
  cases q : rowAt e g.ws 0 with
  | none =>
    walk_at "ae"
    refine (fin _ trivial).mono ?_
    rintro p σ' ⟨rfl, rfl⟩
    walk_at "ae"
    exact ⟨rfl, rfl⟩
  | some r =>
    obtain ⟨i, d⟩ := r
    have hd := h i d q
    obtain ⟨_, hi, _⟩ := rowAt_get e g.ws 0 i d q
    rw [Nat.sub_zero, ← hr, List.getElem?_map] at hi
    obtain ⟨row, hrow, rfl⟩ := Option.map_eq_some_iff.mp hi
    have hm : rowObj row ∈ lawS g rw rws un u := .tail _ (List.mem_append_left _ (mem_row hrow))
    walk_at "ae"
    refine AI.list (l := rws.map fun r => .ref r.1) (p := .ref row.1) hR (by (first | lia | omega)) (by have := (List.getElem?_eq_some_iff.mp hrow).1; (first | lia | omega)) (by simp [hrow]) ?_
    walk_at "ae"
    rw [hd]
    walk_at "ae"
    refine (fin _ trivial).mono ?_
    rintro p σ' ⟨rfl, rfl⟩
    walk_at "ae"
    exact ⟨rfl, rfl⟩
theorem sent_yes {g : GW} {rw un : Addr} {rws : List (Addr × WireD)} {u : List FlyD} {e : Int × Int} {now : Int} {th : PV} {i : Nat} {d : WireD} (hz : g.ws.length ≤ 20) (hf : g.fl.length < 100) (hu : u.length < 100) (hr : rws.map (·.2) = g.ws) (h : rowAt e g.ws 0 = some (i, d)) (hd : d.whole = true) :
    CT (.ref 282) [.ref g.W, .ref rw, .ref un, endP e, th, .int now] (lawS g rw rws un u) 5 fun p σ' => p = .bool true ∧ ∃ f : FlyD, f.time = now + d.late ∧ f.sent = g.sent ∧ f.thing = th ∧
      σ' = lawS { g with sent := g.sent + 1, fl := g.fl.take (putAtF (f.time, f.sent) g.fl g.fl.length) ++ f :: g.fl.drop (putAtF (f.time, f.sent) g.fl g.fl.length) } rw rws un (u ++ [f]) := by
  have hzr : rws.length ≤ 20 := by rw [← hr, List.length_map] at hz; exact hz
  have hac := across_of (g := g) (e := e)
  have hlk := rowAt_lookup e g.ws 0
  rw [h] at hlk hac
  simp only [hd, if_true] at hac
  obtain ⟨_, hi0, _⟩ := rowAt_get e g.ws 0 i d h
  rw [Nat.sub_zero] at hi0
  have hi := hi0
  rw [← hr, List.getElem?_map] at hi
  obtain ⟨row, hrow, rfl⟩ := Option.map_eq_some_iff.mp hi
  let f : FlyD := { time := now + row.2.late, sent := g.sent, goal := if e = row.2.one then row.2.other else row.2.one, number := i, thing := th }
  refine' CT.def (f := 282) (xs := [Str.ofString "wires", Str.ofString "rows", Str.ofString "under", Str.ofString "end", Str.ofString "thing", Str.ofString "now"]) ?d rfl ?h
  case d => walk_at "def6"
  case h =>
  intro C O hs hc
  have hlt := (List.getElem?_eq_some_iff.mp hrow).1
  have hR : (rw, AObj.list (rws.map fun r => .ref r.1)) ∈ lawS g rw rws un u := by simp [lawS]
  have hm : rowObj row ∈ lawS g rw rws un u := .tail _ (List.mem_append_left _ (mem_row hrow))
  have hW : (g.W, AObj.inst 184 (wiresF g)) ∈ lawS g rw rws un (u ++ [f]) := by simp [lawS]
  walk_at "ae"
  refine AC.use (σ₁ := rowsS rw rws) (φ := (un, .list (u.map undP)) :: WS g) O (rowAt_spec (by (first | lia | omega))) (by (first | lia | omega)) (Le.perm ?_) ?_
  · exact (List.perm_middle (l₁ := rowsS rw rws)).symm
  rintro p σ' ⟨rfl, rfl⟩
  refine ⟨lawS g rw rws un u, Le.perm (List.perm_middle (l₁ := rowsS rw rws)), ?_⟩
  rw [hr, h]
  walk_at "ae"
  refine AE.and2 ?_
  walk_at "ae"
  refine AI.list (l := rws.map fun r => .ref r.1) (p := .ref row.1) hR (by (first | lia | omega)) (by (first | lia | omega)) (by simp [hrow]) ?_
  walk_at "ae"
  rw [hd]
  walk_at "ae"
  refine AE.lst ?_
  walk_at "ae"
  refine AI.list (l := rws.map fun r => .ref r.1) (p := .ref row.1) hR (by (first | lia | omega)) (by (first | lia | omega)) (by simp [hrow]) ?_
  walk_at "ae"
  have happ : u.map undP ++ [PV.lst [PV.int (now + row.2.late), th, endP (if e = row.2.one then row.2.other else row.2.one), PV.int i]] = (u ++ [f]).map undP := by rw [List.map_append]; rfl
  refine AC.append (l := u.map undP) .head (by rw [List.length_map]; (first | lia | omega)) ?_
  rw [happ]
  walk_at "ae"
  refine AC.use (σ₁ := WS g) (φ := (un, .list ((u ++ [f]).map undP)) :: rowsS rw rws) O (send_some (by (first | lia | omega)) (by (first | lia | omega)) hac hlk hi0) (by (first | lia | omega)) (Le.perm ?_) ?_
  · exact List.perm_append_comm (l₁ := (un, AObj.list ((u ++ [f]).map undP)) :: rowsS rw rws) (l₂ := WS g)
  rintro p σ' ⟨rfl, rfl⟩
  refine ⟨_, Le.perm (List.perm_append_comm (l₁ := WS _) (l₂ := (un, AObj.list ((u ++ [f]).map undP)) :: rowsS rw rws)), ?_⟩
  walk_at "ae"
  exact ⟨rfl, f, rfl, rfl, rfl, rfl⟩
section
set_option maxHeartbeats 4000000
theorem perm_map_inv {α β : Type} {f : α → β} {l' : List β} {u : List α} (h : (u.map f).Perm l') : ∃ u', u.Perm u' ∧ l' = u'.map f := by
  generalize hl : u.map f = l at h
  induction h generalizing u with
  | nil => cases u with | nil => exact ⟨[], .refl _, rfl⟩ | cons => cases hl
  | cons x _ ih =>
    cases u with
    | nil => cases hl
    | cons a u =>
      injection hl with h1 h2
      obtain ⟨u', p, rfl⟩ := ih h2
      exact ⟨a :: u', p.cons a, by rw [List.map_cons, h1]⟩
  | swap x y l =>
    match u, hl with
    | a :: b :: u, hl =>
      injection hl with h1 h2
      injection h2 with h2 h3
      exact ⟨b :: a :: u, .swap _ _ _, by rw [List.map_cons, List.map_cons, h1, h2, h3]⟩
  | trans _ _ ih1 ih2 =>
    obtain ⟨u1, p1, e1⟩ := ih1 hl
    obtain ⟨u2, p2, e2⟩ := ih2 e1.symm
    exact ⟨u2, p1.trans p2, e2⟩
noncomputable def thg (f : FlyD) : Int := match f.thing with | .int t => t | _ => 0
noncomputable def keyU (f : FlyD) : Int × Int := (f.time, thg f)
noncomputable abbrev tupF (f : FlyD) : PV := .tup [.int f.time, endP f.goal, f.thing]
noncomputable def uLe (now : Int) : PV → Bool
  | .lst (.int t :: _) => decide (t ≤ now)
  | _ => false
noncomputable def uGt (now : Int) : PV → Bool
  | .lst (.int t :: _) => decide (t > now)
  | _ => false
noncomputable def toTup : PV → PV
  | .lst [a, b, c, _] => .tup [a, c, b]
  | p => p
theorem uLe_pv (now : Int) (u : List FlyD) : ((u.map undP).filter (uLe now)).map id = (u.filter fun f => decide (f.time ≤ now)).map undP := by
  rw [List.map_id, List.filter_map]; rfl
theorem uGt_pv (now : Int) (u : List FlyD) : ((u.map undP).filter (uGt now)).map id = (u.filter fun f => decide (f.time > now)).map undP := by
  rw [List.map_id, List.filter_map]; rfl
theorem undP_row {f : FlyD} (h : f.thing = .int (thg f)) : isRow (undP f) ∧ rk (undP f) = keyU f := by
  have e : undP f = .lst [.int f.time, .int (thg f), endP f.goal, .int f.number] := by rw [undP, h]
  rw [e]
  exact ⟨⟨_, _, _, rfl⟩, rfl⟩
theorem due_law {un : Addr} {u : List FlyD} {now : Int} (hz : u.length < 60) (ht : ∀ f ∈ u, f.thing = .int (thg f)) (hnd : (u.map keyU).Nodup) :
    CT (.ref 287) [.ref un, .int now] [(un, .list (u.map undP))] 2 fun p σ' => ∃ u' : List FlyD, (u.filter fun f => decide (f.time ≤ now)).Perm u' ∧ u'.Pairwise (fun f f' => lexlt (keyU f) (keyU f') = true) ∧ p = .lst (u'.map tupF) ∧
      σ' = [(un, .list ((u.filter fun f => decide (f.time > now)).map undP))] := by
  refine' CT.defC (f := 287) (xs := [Str.ofString "under", Str.ofString "now"]) ?d rfl ?h
  case d => walk_at "defC2"
  case h =>
  intro C L O hs hc
  have hc : C.env.cells = [(Str.ofString "now", L)] := hc
  refine (AX.conv (ρ := [(Str.ofString "under", .ref un)]) (σ := (L, .cell (some (.int now))) :: [(un, .list (u.map undP))]) rfl rfl ?_)
  refine AX.conseq (K := fun fl _ σ' => ∃ u' : List FlyD, (u.filter fun f => decide (f.time ≤ now)).Perm u' ∧ u'.Pairwise (fun f f' => lexlt (keyU f) (keyU f') = true) ∧ fl = .ret (.lst (u'.map tupF)) ∧
      σ' = (L, .cell (some (.int now))) :: [(un, .list ((u.filter fun f => decide (f.time > now)).map undP))]) ?_ ?_
  case refine_2 =>
    rintro fl ρ' σ' ⟨u', h1, h2, rfl, rfl⟩
    exact ⟨_, Le.dropH _ _, u', h1, h2, rfl, rfl⟩
  have hk : C.env.kindOf (Str.ofString "now") = some .cell := by rw [Env.kindOf, hs]; rfl
  have hl1 := List.length_filter_le (fun f : FlyD => decide (f.time ≤ now)) u
  have hl2 := List.length_filter_le (fun f : FlyD => decide (f.time > now)) u
  walk_at "ae"
  refine AE.comp1 (cl := [(Str.ofString "now", L)]) O (by rw [hc]; rfl) (by rw [relabel, hs]) rfl (by decide) (by decide) (fun _ => rfl) ?_
  walk_at "ae"
  refine ⟨u.map undP, _, uLe now, id, Iter.list (by walk_at "mem"), fun acc ys => by walk_at "mem", by rw [List.length_map]; (first | lia | omega), fun acc => ⟨_, _, Fz.ice _ _ _, ?fin⟩, ?st⟩
  case st =>
    intro acc ys x hx C' O' hs' hc'
    obtain ⟨f, hf, rfl⟩ := List.mem_map.mp hx
    simp only [List.map_cons, List.map_nil, hk] at hs'
    walk_at "ae"
    simp only [ATs]
    walk_at "ae"
    refine ⟨rfl, rfl, fun _ => ?_⟩
    walk_at "ae"
    exact ⟨rfl, rfl⟩
  case fin =>
    rw [uLe_pv]
    walk_at "ae"
    refine AC.freeze (AC.sortedRows O (.inl rfl) (fun p hp => ?_) ?_ (by rw [List.length_map]; (first | lia | omega)) fun l' D hp hpw => ⟨_, _, _, rfl, rfl, ?_⟩)
    · obtain ⟨f, hf, rfl⟩ := List.mem_map.mp hp
      exact (undP_row (ht f (List.mem_filter.mp hf).1)).1
    · have e : (((u.filter fun f => decide (f.time ≤ now)).map undP).map rk) = ((u.filter fun f => decide (f.time ≤ now)).map keyU) := by
        rw [List.map_map]
        exact List.map_congr_left fun f hf => (undP_row (ht f (List.mem_filter.mp hf).1)).2
      rw [e]
      exact List.Nodup.sublist (List.Sublist.map _ (List.filter_sublist)) hnd
    obtain ⟨u', hp', rfl⟩ := perm_map_inv hp.symm
    have ht' : ∀ f ∈ u', f.thing = .int (thg f) := fun f hf => ht f (List.mem_filter.mp (hp'.mem_iff.mpr hf)).1
    have hpw' : u'.Pairwise (fun f f' => lexlt (keyU f) (keyU f') = true) := by
      rw [List.pairwise_map] at hpw
      refine List.Pairwise.imp_of_mem (fun {a b} ha hb h => ?_) hpw
      rw [(undP_row (ht' a ha)).2, (undP_row (ht' b hb)).2] at h
      exact h
    have hlu : u'.length < 60 := by rw [← hp'.length_eq]; (first | lia | omega)
    walk_at "ae"
    refine AE.comp1 (cl := [(Str.ofString "now", L)]) O (by rw [hc]; rfl) (by rw [relabel, hs]) rfl (by decide) (by decide) (fun _ => rfl) ?_
    walk_at "ae"
    refine ⟨u.map undP, _, uGt now, id, Iter.list (by walk_at "mem"), fun acc ys => by walk_at "mem", by rw [List.length_map]; (first | lia | omega), fun acc => ⟨_, _, Fz.ice _ _ _, ?fin⟩, ?st⟩
    case st =>
      intro acc ys x hx C' O' hs' hc'
      obtain ⟨f, hf, rfl⟩ := List.mem_map.mp hx
      simp only [List.map_cons, List.map_nil, hk] at hs'
      walk_at "ae"
      simp only [ATs]
      walk_at "ae"
      refine ⟨rfl, rfl, fun _ => ?_⟩
      walk_at "ae"
      exact ⟨rfl, rfl⟩
    case fin =>
      rw [uGt_pv]
      walk_at "ae"
      refine AW.listAll (l := u.map undP) (by walk_at "upd") (by rw [List.length_map]; (first | lia | omega)) (by rw [List.length_map]; (first | lia | omega)) ?_
      walk_at "ae"
      refine AE.comp1 (cl := []) O (by rw [hc]; rfl) (by rw [relabel, hs]) rfl (by decide) (by decide) (fun _ => rfl) ?_
      walk_at "ae"
      refine ⟨u'.map undP, fun _ => True, fun _ => true, toTup, Iter.lst, fun acc ys => trivial, by rw [List.length_map]; (first | lia | omega), fun acc => ⟨_, _, Fz.ice _ _ _, ?fin⟩, ?st⟩
      case fin =>
        refine ⟨u', hp', hpw', ?_, rfl⟩
        congr 2
        rw [List.filter_eq_self.mpr (fun _ _ => rfl), List.map_map]; rfl
      case st =>
        intro acc ys x hx C' O' hs' hc'
        obtain ⟨f, hf, rfl⟩ := List.mem_map.mp hx
        walk_at "ae"
        simp only [ATs]
        refine ⟨trivial, trivial, fun _ => ?_⟩
        walk_at "ae"
        exact ⟨rfl, rfl⟩
end
set_option maxHeartbeats 4000000
theorem codeHd_291 : ∀ (w : World) (h : Heap), (hd.heap_1 w.params).In h → CodeHd h 291 289 := fun w h X => ⟨_, _, _, _, _, _, _, _, _, X _ _ (by k_is), rfl, rfl, rfl, rfl, rfl, rfl, rfl, rfl, by decide⟩
theorem codeHd_267 : ∀ (w : World) (h : Heap), (hd.heap_1 w.params).In h → CodeHd h 267 265 := fun w h X => ⟨_, _, _, _, _, _, _, _, _, X _ _ (by k_is), rfl, rfl, rfl, rfl, rfl, rfl, rfl, rfl, by decide⟩
theorem codeHd_313 : ∀ (w : World) (h : Heap), (hd.heap_1 w.params).In h → CodeHd h 313 311 := fun w h X => ⟨_, _, _, _, _, _, _, _, _, X _ _ (by k_is), rfl, rfl, rfl, rfl, rfl, rfl, rfl, rfl, by decide⟩
local macro_rules | `(tactic| walk_at "defC6") => `(tactic| (walk_at "defh"; exact vs6 fun _ _ _ _ _ _ _ => BindsTo.of_eq rfl))
noncomputable def turnedPos : Pos := { line := 180, col := 78, endLine := 180, endCol := 98 }
noncomputable def turnedQ : Str := Str.ofString "_law_turned" ++ ".<locals>." ++ "<lambda>"
theorem code_turned {C : Ctx} (hco : CodeIs C 292) : C.env.code = .ref 291 ∧ C.env.qual = Str.ofString "_law_turned" ++ ".<locals>." := by
  obtain ⟨o, fd, h1, h2, h3, h4⟩ : ∃ o fd, (hd.heap_1 C.w.params).lookup 292 = some o ∧ o.data = .func fd ∧ fd.code = .ref 291 ∧ fd.qualname = Str.ofString "_law_turned" := ⟨_, _, by k_is, rfl, rfl, rfl⟩
  have := hco _ _ h1 h2
  rw [h3, h4] at this
  exact this
noncomputable abbrev turnedC (L : Addr) (i : Nat) (o : Option PV) : Store := [(L + 1, AObj.cell o), (L, AObj.cell (some (.int i)))]
theorem le_mid {a b c d : Store} : ((a ++ (b ++ c)) ++ d).Perm (b ++ (a ++ (c ++ d))) := by
  rw [List.append_assoc, List.append_assoc]
  refine List.Perm.trans (List.perm_append_comm_assoc _ _ _) ?_
  exact .refl _
theorem pullW {a b c W d : Store} : (a ++ (b ++ ((c ++ W) ++ d))).Perm (W ++ (a ++ (b ++ (c ++ d)))) := by
  have e1 : a ++ (b ++ ((c ++ W) ++ d)) = ((a ++ (b ++ c)) ++ W) ++ d := by simp only [List.append_assoc]
  have e2 : W ++ (a ++ (b ++ (c ++ d))) = (W ++ (a ++ (b ++ c))) ++ d := by simp only [List.append_assoc]
  rw [e1, e2]
  exact List.perm_append_comm.append_right d
theorem pullT {a b c W d : Store} : (a ++ (b ++ ((c ++ W) ++ d))).Perm (((a ++ (b ++ W)) ++ c) ++ d) := by
  have e1 : a ++ (b ++ ((c ++ W) ++ d)) = (a ++ b) ++ ((c ++ W) ++ d) := by simp only [List.append_assoc]
  have e2 : ((a ++ (b ++ W)) ++ c) ++ d = (a ++ b) ++ ((W ++ c) ++ d) := by simp only [List.append_assoc]
  rw [e1, e2]
  exact ((List.perm_append_comm.append_right d).append_left _)
theorem pullB {a b W : Store} : (a ++ (b ++ W)).Perm (W ++ (a ++ b)) := by
  rw [← List.append_assoc]; exact List.perm_append_comm
theorem UpdS.pre {a : Addr} {o o' : AObj} {σ σ' : Store} (U : UpdS a o o' σ σ') : ∀ φ : Store, UpdS a o o' (φ ++ σ) (φ ++ σ')
  | [] => U
  | _ :: φ => .tail (U.pre φ)
theorem lam_turned {g : GW} {L f : Addr} {i : Nat} {o : Obj} {clos : List (Str × Addr)} {body : Expr} {scope : Scope} {c' : Addr} {tab : Store} (hcall : RTC (.ref f) [.ref g.W, .int i] (WS g) 5 (.ref 56)) (ho : LamO o turnedQ body scope clos c') (ht : TabOld 289 turnedPos turnedQ c' tab)
    (hk : scope.kind = .function) (hcell : ∀ x ∈ scope.names, x.2 ≠ .cell) (hco : scope.isCoroutine = false) (hgen : scope.isGenerator = false)
    (h : ∀ C fs, C.Ok 5 → FrOk C fs → C.env.scope = scope → C.env.cells = clos → RE C [] (tab ++ (turnedC L i (some (.obj (methodObj (.ref f) (.ref g.W)))) ++ WS g)) fs body (.ref 56) (tab ++ (turnedC L i (some (.obj (methodObj (.ref f) (.ref g.W)))) ++ WS g))) :
    RT (.obj o) [] (tab ++ (turnedC L i (some (.obj (methodObj (.ref f) (.ref g.W)))) ++ WS g)) 6 (.ref 56) := RT.lam ho ht hk hcell hco hgen h
theorem turned_same {g : GW} {rw un : Addr} {rws : List (Addr × WireD)} {u : List FlyD} {i : Nat} {d : WireD} {w : Str} {now : Int} {tab : Store} (hz : g.ws.length ≤ 20) (hr : rws.map (·.2) = g.ws) (hgi : g.ws[i]? = some d) (hw : decide (w = "mend") = d.whole)
    (ht : TabS 289 turnedPos turnedQ tab) :
    FT (.ref 292) [.ref g.W, .ref rw, .ref un, .int i, .str w, .int now] (tab ++ lawS g rw rws un u) 9 fun p σ' => p = .bool true ∧ ∃ tab', TabS 289 turnedPos turnedQ tab' ∧ σ' = tab' ++ lawS g rw rws un u := by
  refine' FT.def (f := 292) (xs := [Str.ofString "wires", Str.ofString "rows", Str.ofString "under", Str.ofString "number", Str.ofString "word", Str.ofString "now"]) ?d rfl ?h
  case d => walk_at "defC6"
  case h =>
  intro C L fs O F hs hc hco
  have hc : C.env.cells = [(Str.ofString "call", L + 1), (Str.ofString "number", L)] := hc
  have hcode := code_turned hco
  have hi0 := hgi
  rw [← hr, List.getElem?_map] at hi0
  obtain ⟨row, hrow, rfl⟩ := Option.map_eq_some_iff.mp hi0
  have hzr : rws.length ≤ 20 := by rw [← hr, List.length_map] at hz; exact hz
  have hlt := (List.getElem?_eq_some_iff.mp hrow).1
  refine AX.conv (ρ := [(Str.ofString "wires", .ref g.W), (Str.ofString "rows", .ref rw), (Str.ofString "under", .ref un), (Str.ofString "word", .str w), (Str.ofString "now", .int now)]) (σ := (turnedC L i none ++ (tab ++ lawS g rw rws un u)) ++ fs) rfl rfl ?_
  refine AX.le (Le.perm le_mid) ?_
  refine AX.conseq (K := fun fl _ σ' => fl = .ret (.bool true) ∧ ∃ tab' o, TabS 289 turnedPos turnedQ tab' ∧ σ' = tab' ++ (turnedC L i o ++ (lawS g rw rws un u ++ fs))) ?_ ?_
  case refine_2 =>
    rintro fl ρ' σ' ⟨rfl, tab', o, ht', rfl⟩
    refine ⟨(tab' ++ lawS g rw rws un u) ++ fs, ?_, _, rfl, rfl, tab', ht', rfl⟩
    rw [List.append_assoc]
    exact Le.pre tab' ((Le.dropH _ _).trans (Le.dropH _ _))
  have memL : ∀ {x : Addr × AObj} {o : Option PV} {tab : Store}, x ∈ lawS g rw rws un u → x ∈ tab ++ (turnedC L i o ++ (lawS g rw rws un u ++ fs)) := fun h => List.mem_append_right _ (List.mem_append_right _ (List.mem_append_left _ h))
  have hR : (rw, AObj.list (rws.map fun r => .ref r.1)) ∈ tab ++ (turnedC L i none ++ (lawS g rw rws un u ++ fs)) := memL (by simp [lawS])
  have hm : rowObj row ∈ tab ++ (turnedC L i none ++ (lawS g rw rws un u ++ fs)) := memL (.tail _ (List.mem_append_left _ (mem_row hrow)))
  have hN : (L, AObj.cell (some (.int i))) ∈ tab ++ (turnedC L i none ++ (lawS g rw rws un u ++ fs)) := List.mem_append_right _ (.tail _ (.head _))
  have hW : (g.W, AObj.inst 184 (wiresF g)) ∈ tab ++ (turnedC L i none ++ (lawS g rw rws un u ++ fs)) := memL (by simp [lawS])
  walk_at "ae"
  refine AI.list (l := rws.map fun r => .ref r.1) (p := .ref row.1) hR (by (first | lia | omega)) (by (first | lia | omega)) (by simp [hrow]) ?_
  walk_at "ae"
  rw [hw]
  have e : (row.2.whole == row.2.whole) = true := by cases row.2.whole <;> rfl
  rw [e]
  walk_at "ae"
  rw [hw]
  have hturn : CT (.ref 235) [.ref g.W, turnP now w i] (WS g) 4 fun p σ' => p = .none ∧ σ' = WS g := turn_same hgi (by (first | lia | omega)) hw
  have hfacts : (row.2.whole = true → RTC (.ref 146) [.ref g.W, .int i] (WS g) 5 (.ref 56)) ∧ (row.2.whole = false → RTC (.ref 139) [.ref g.W, .int i] (WS g) 5 (.ref 56)) :=
    ⟨fun h => mend_raises hgi (by (first | lia | omega)) h, fun h => cut_raises hgi (by (first | lia | omega)) h⟩
  refine ⟨fun h => ?_, fun h => ?_⟩
  · have hcall := hfacts.1 h
    have hfn : fnIn (hd.heap_1 C.w.params) 146 = true := by k_is
    refine AE.bound O rfl ?_
    walk_at "ae"
    refine ⟨_, _, _, _, rfl, hW, rfl, by k_is, by k_is, by k_is, by k_is, by k_is, by k_is, by rfl, ?_⟩
    refine AG.cell O hs rfl (by rw [hc]; rfl) (p₀ := none) (σ' := tab ++ (turnedC L i (some (.obj (methodObj (.ref 146) (.ref g.W)))) ++ (lawS g rw rws un u ++ fs))) (UpdS.pre .head tab) ?_
    have hN' : (L, AObj.cell (some (.int i))) ∈ tab ++ (turnedC L i (some (.obj (methodObj (.ref 146) (.ref g.W)))) ++ (lawS g rw rws un u ++ fs)) := List.mem_append_right _ (.tail _ (.head _))
    clear hN hR hm hW
    walk_at "ae"
    refine AE.and2 ?_
    walk_at "ae"
    refine AC.use (σ₁ := WS g) (φ := tab ++ (turnedC L i (some (.obj (methodObj (.ref 146) (.ref g.W)))) ++ (((un, AObj.list (u.map undP)) :: rowsS rw rws) ++ fs))) O hturn (by (first | lia | omega)) (Le.perm (pullW (c := (un, AObj.list (u.map undP)) :: rowsS rw rws) (W := WS g))) ?_
    rintro p σ' ⟨rfl, rfl⟩
    refine ⟨_, Le.perm (pullW (c := (un, AObj.list (u.map undP)) :: rowsS rw rws) (W := WS g)).symm, ?_⟩
    walk_at "ae"
    refine AE.lam (P := 289) (c := 291) (qual := turnedQ) O hcode.1 (by rw [hcode.2]; rfl) (codeHd_291 _) (closureFor_of (by rw [hc]; rfl)) rfl (fun _ _ _ => rfl) ht fun tab' o c' htab ho => ?_
    walk_at "ae"
    refine AC.useF (φ := (un, AObj.list (u.map undP)) :: rowsS rw rws) O F (refused_spec excFacts_56 (lam_turned hcall ho htab rfl (by decide) rfl rfl ?_) fun _ _ _ => Callee.lam ho) (by (first | lia | omega)) (Le.perm (pullT (c := (un, AObj.list (u.map undP)) :: rowsS rw rws) (W := WS g))) ?_
    · intro C fs O F hs hc
      refine RE.call (fun _ => rfl) (fun _ => rfl) (fun _ => rfl) ?_
      have hA : (L + 1, AObj.cell (some (.obj (methodObj (.ref 146) (.ref g.W))))) ∈ (tab' ++ (turnedC L i (some (.obj (methodObj (.ref 146) (.ref g.W)))) ++ WS g)) ++ fs := List.mem_append_left _ (List.mem_append_right _ (.head _))
      have hB : (L, AObj.cell (some (.int i))) ∈ (tab' ++ (turnedC L i (some (.obj (methodObj (.ref 146) (.ref g.W)))) ++ WS g)) ++ fs := List.mem_append_left _ (List.mem_append_right _ (.tail _ (.head _)))
      walk_at "ae"
      exact ⟨Callee.bound O (by k_is), RW.use (φ := tab' ++ turnedC L i (some (.obj (methodObj (.ref 146) (.ref g.W))))) O F (RT.bound hcall) (by (first | lia | omega)) (Le.app (Le.perm pullB) fs) pullB.symm⟩
    · rintro p σ' ⟨rfl, rfl⟩
      exact ⟨_, Le.perm (pullT (c := (un, AObj.list (u.map undP)) :: rowsS rw rws) (W := WS g)).symm, rfl, tab', _, .inr ⟨c', htab⟩, rfl⟩
  · have hcall := hfacts.2 h
    have hfn : fnIn (hd.heap_1 C.w.params) 139 = true := by k_is
    refine AE.bound O rfl ?_
    walk_at "ae"
    refine ⟨_, _, _, _, rfl, hW, rfl, by k_is, by k_is, by k_is, by k_is, by k_is, by k_is, by rfl, ?_⟩
    refine AG.cell O hs rfl (by rw [hc]; rfl) (p₀ := none) (σ' := tab ++ (turnedC L i (some (.obj (methodObj (.ref 139) (.ref g.W)))) ++ (lawS g rw rws un u ++ fs))) (UpdS.pre .head tab) ?_
    have hN' : (L, AObj.cell (some (.int i))) ∈ tab ++ (turnedC L i (some (.obj (methodObj (.ref 139) (.ref g.W)))) ++ (lawS g rw rws un u ++ fs)) := List.mem_append_right _ (.tail _ (.head _))
    clear hN hR hm hW
    walk_at "ae"
    refine AE.and2 ?_
    walk_at "ae"
    refine AC.use (σ₁ := WS g) (φ := tab ++ (turnedC L i (some (.obj (methodObj (.ref 139) (.ref g.W)))) ++ (((un, AObj.list (u.map undP)) :: rowsS rw rws) ++ fs))) O hturn (by (first | lia | omega)) (Le.perm (pullW (c := (un, AObj.list (u.map undP)) :: rowsS rw rws) (W := WS g))) ?_
    rintro p σ' ⟨rfl, rfl⟩
    refine ⟨_, Le.perm (pullW (c := (un, AObj.list (u.map undP)) :: rowsS rw rws) (W := WS g)).symm, ?_⟩
    walk_at "ae"
    refine AE.lam (P := 289) (c := 291) (qual := turnedQ) O hcode.1 (by rw [hcode.2]; rfl) (codeHd_291 _) (closureFor_of (by rw [hc]; rfl)) rfl (fun _ _ _ => rfl) ht fun tab' o c' htab ho => ?_
    walk_at "ae"
    refine AC.useF (φ := (un, AObj.list (u.map undP)) :: rowsS rw rws) O F (refused_spec excFacts_56 (lam_turned hcall ho htab rfl (by decide) rfl rfl ?_) fun _ _ _ => Callee.lam ho) (by (first | lia | omega)) (Le.perm (pullT (c := (un, AObj.list (u.map undP)) :: rowsS rw rws) (W := WS g))) ?_
    · intro C fs O F hs hc
      refine RE.call (fun _ => rfl) (fun _ => rfl) (fun _ => rfl) ?_
      have hA : (L + 1, AObj.cell (some (.obj (methodObj (.ref 139) (.ref g.W))))) ∈ (tab' ++ (turnedC L i (some (.obj (methodObj (.ref 139) (.ref g.W)))) ++ WS g)) ++ fs := List.mem_append_left _ (List.mem_append_right _ (.head _))
      have hB : (L, AObj.cell (some (.int i))) ∈ (tab' ++ (turnedC L i (some (.obj (methodObj (.ref 139) (.ref g.W)))) ++ WS g)) ++ fs := List.mem_append_left _ (List.mem_append_right _ (.tail _ (.head _)))
      walk_at "ae"
      exact ⟨Callee.bound O (by k_is), RW.use (φ := tab' ++ turnedC L i (some (.obj (methodObj (.ref 139) (.ref g.W))))) O F (RT.bound hcall) (by (first | lia | omega)) (Le.app (Le.perm pullB) fs) pullB.symm⟩
    · rintro p σ' ⟨rfl, rfl⟩
      exact ⟨_, Le.perm (pullT (c := (un, AObj.list (u.map undP)) :: rowsS rw rws) (W := WS g)).symm, rfl, tab', _, .inr ⟨c', htab⟩, rfl⟩
section
set_option maxHeartbeats 4000000
theorem UpdS.app {a : Addr} {o o' : AObj} {σ σ' : Store} (U : UpdS a o o' σ σ') (φ : Store) : UpdS a o o' (σ ++ φ) (σ' ++ φ) := by
  induction U with
  | head => exact .head
  | tail _ ih => exact .tail ih
theorem rows_upd {d' : WireD} : ∀ {rws : List (Addr × WireD)} {i : Nat} {r : Addr × WireD}, rws[i]? = some r → UpdS r.1 (.list (rowL r.2)) (.list (rowL d')) (rws.map rowObj) ((rws.set i (r.1, d')).map rowObj)
  | [], _, _, h => by simp at h
  | x :: rws, 0, r, h => by
    simp at h; subst h
    rw [List.set_cons_zero, List.map_cons, List.map_cons]
    exact .head
  | x :: rws, i + 1, r, h => by
    rw [List.set_cons_succ, List.map_cons, List.map_cons]
    exact .tail (rows_upd (by simpa using h))
theorem rows_refs {d' : WireD} : ∀ {rws : List (Addr × WireD)} {i : Nat} {r : Addr × WireD}, rws[i]? = some r → ((rws.set i (r.1, d')).map fun r => PV.ref r.1) = rws.map fun r => PV.ref r.1
  | [], _, _, h => by simp at h
  | x :: rws, 0, r, h => by simp at h; subst h; rfl
  | x :: rws, i + 1, r, h => by
    rw [List.set_cons_succ, List.map_cons, List.map_cons, rows_refs (rws := rws) (by simpa using h)]
theorem rowsS_upd {rw : Addr} {d' : WireD} {rws : List (Addr × WireD)} {i : Nat} {r : Addr × WireD} (h : rws[i]? = some r) : UpdS r.1 (.list (rowL r.2)) (.list (rowL d')) (rowsS rw rws) (rowsS rw (rws.set i (r.1, d'))) := by
  rw [rowsS, rowsS, rows_refs h]
  exact .tail (rows_upd h)
theorem emc : decide (Str.ofString "mend" = Str.ofString "cut") = false := decide_eq_false (beq_eq_false_iff_ne.mp (by rfl))
theorem ecc : decide (Str.ofString "cut" = Str.ofString "cut") = true := decide_eq_true rfl
theorem turned_mend {g : GW} {rw un : Addr} {rws : List (Addr × WireD)} {u : List FlyD} {i : Nat} {d : WireD} {now : Int} (hz : g.ws.length ≤ 20) (hr : rws.map (·.2) = g.ws) (hgi : g.ws[i]? = some d) (hw : d.whole = false) :
    CT (.ref 292) [.ref g.W, .ref rw, .ref un, .int i, .str "mend", .int now] (lawS g rw rws un u) 9 fun p σ' => p = .bool true ∧ ∃ y, rws[i]? = some (y, d) ∧ σ' = lawS { g with ws := g.ws.set i { d with whole := true } } rw (rws.set i (y, { d with whole := true })) un u := by
  refine' CT.defC (f := 292) (xs := [Str.ofString "wires", Str.ofString "rows", Str.ofString "under", Str.ofString "number", Str.ofString "word", Str.ofString "now"]) ?d rfl ?h
  case d => walk_at "defC6"
  case h =>
  intro C L O hs hc
  have hc : C.env.cells = [(Str.ofString "call", L + 1), (Str.ofString "number", L)] := hc
  have hi0 := hgi
  rw [← hr, List.getElem?_map] at hi0
  obtain ⟨row, hrow, rfl⟩ := Option.map_eq_some_iff.mp hi0
  have hzr : rws.length ≤ 20 := by rw [← hr, List.length_map] at hz; exact hz
  have hlt := (List.getElem?_eq_some_iff.mp hrow).1
  refine AX.conv (ρ := [(Str.ofString "wires", .ref g.W), (Str.ofString "rows", .ref rw), (Str.ofString "under", .ref un), (Str.ofString "word", .str "mend"), (Str.ofString "now", .int now)]) (σ := turnedC L i none ++ lawS g rw rws un u) rfl rfl ?_
  refine AX.conseq (K := fun fl _ σ' => fl = .ret (.bool true) ∧ σ' = turnedC L i none ++ lawS { g with ws := g.ws.set i { row.2 with whole := true } } rw (rws.set i (row.1, { row.2 with whole := true })) un u) ?_ ?_
  case refine_2 =>
    rintro fl ρ' σ' ⟨rfl, rfl⟩
    exact ⟨_, (Le.dropH _ _).trans (Le.dropH _ _), rfl, row.1, hrow, rfl⟩
  have hR : (rw, AObj.list (rws.map fun r => .ref r.1)) ∈ turnedC L i none ++ lawS g rw rws un u := by simp [lawS]
  have hm : rowObj row ∈ turnedC L i none ++ lawS g rw rws un u := List.mem_append_right _ (.tail _ (List.mem_append_left _ (mem_row hrow)))
  walk_at "ae"
  refine AI.list (l := rws.map fun r => .ref r.1) (p := .ref row.1) hR (by (first | lia | omega)) (by (first | lia | omega)) (by simp [hrow]) ?_
  walk_at "ae"
  rw [hw, em]
  refine ⟨(fun h => nomatch h), fun _ => ?_⟩
  walk_at "ae"
  refine AI.list (l := rws.map fun r => .ref r.1) (p := .ref row.1) hR (by (first | lia | omega)) (by (first | lia | omega)) (by simp [hrow]) ?_
  walk_at "ae"
  rw [em]
  refine AW.list (UpdS.pre (.tail (UpdS.app (rowsS_upd (d' := { row.2 with whole := true }) hrow) _)) (turnedC L i none)) (by decide) (by simp) (by simp) ?_
  walk_at "ae"
  rw [emc]
  walk_at "ae"
  refine AC.use (σ₁ := WS g) (φ := turnedC L i none ++ (un, .list (u.map undP)) :: rowsS rw (rws.set i (row.1, { row.2 with whole := true }))) O (turn_mend hgi (by (first | lia | omega)) hw) (by (first | lia | omega)) (Le.perm ?_) ?_
  · exact pullB (a := turnedC L i none) (b := (un, .list (u.map undP)) :: rowsS rw (rws.set i (row.1, { row.2 with whole := true }))) (W := WS g)
  rintro p σ' ⟨rfl, rfl⟩
  refine ⟨_, Le.perm (pullB (a := turnedC L i none) (b := (un, .list (u.map undP)) :: rowsS rw (rws.set i (row.1, { row.2 with whole := true }))) (W := WS { g with ws := g.ws.set i { row.2 with whole := true } })).symm, ?_⟩
  walk_at "ae"
  rw [em]
  refine AO2.eqD O rfl rfl ?_
  rw [eqv_self (by rfl)]
  exact ⟨rfl, rfl⟩
noncomputable def undNo (i : Nat) : PV → Bool
  | .lst [_, _, _, .int n] => n != (i : Int)
  | _ => false
theorem undNo_pv (i : Nat) (u : List FlyD) : ((u.map undP).filter (undNo i)).map id = (u.filter fun f => f.number != (i : Int)).map undP := by
  rw [List.map_id, List.filter_map]; rfl
theorem turned_cut {g : GW} {rw un : Addr} {rws : List (Addr × WireD)} {u : List FlyD} {i : Nat} {d : WireD} {now : Int} (hz : g.ws.length ≤ 20) (hf : g.fl.length ≤ 100) (hu : u.length ≤ 100) (hr : rws.map (·.2) = g.ws) (hgi : g.ws[i]? = some d) (hw : d.whole = true) :
    CT (.ref 292) [.ref g.W, .ref rw, .ref un, .int i, .str "cut", .int now] (lawS g rw rws un u) 9 fun p σ' => p = .bool true ∧ ∃ y F', rws[i]? = some (y, d) ∧
      σ' = lawS { g with F := F', ws := g.ws.set i { d with whole := false }, fl := g.fl.filter fun f => f.number != (i : Int) } rw (rws.set i (y, { d with whole := false })) un (u.filter fun f => f.number != (i : Int)) := by
  refine' CT.defC (f := 292) (xs := [Str.ofString "wires", Str.ofString "rows", Str.ofString "under", Str.ofString "number", Str.ofString "word", Str.ofString "now"]) ?d rfl ?h
  case d => walk_at "defC6"
  case h =>
  intro C L O hs hc
  have hc : C.env.cells = [(Str.ofString "call", L + 1), (Str.ofString "number", L)] := hc
  have hi0 := hgi
  rw [← hr, List.getElem?_map] at hi0
  obtain ⟨row, hrow, rfl⟩ := Option.map_eq_some_iff.mp hi0
  have hzr : rws.length ≤ 20 := by rw [← hr, List.length_map] at hz; exact hz
  have hlt := (List.getElem?_eq_some_iff.mp hrow).1
  refine AX.conv (ρ := [(Str.ofString "wires", .ref g.W), (Str.ofString "rows", .ref rw), (Str.ofString "under", .ref un), (Str.ofString "word", .str "cut"), (Str.ofString "now", .int now)]) (σ := turnedC L i none ++ lawS g rw rws un u) rfl rfl ?_
  refine AX.conseq (K := fun fl _ σ' => fl = .ret (.bool true) ∧ ∃ F', σ' = turnedC L i none ++ lawS { g with F := F', ws := g.ws.set i { row.2 with whole := false }, fl := g.fl.filter fun f => f.number != (i : Int) } rw (rws.set i (row.1, { row.2 with whole := false })) un (u.filter fun f => f.number != (i : Int))) ?_ ?_
  case refine_2 =>
    rintro fl ρ' σ' ⟨rfl, F', rfl⟩
    exact ⟨_, (Le.dropH _ _).trans (Le.dropH _ _), rfl, row.1, F', hrow, rfl⟩
  have hR : (rw, AObj.list (rws.map fun r => .ref r.1)) ∈ turnedC L i none ++ lawS g rw rws un u := by simp [lawS]
  have hm : rowObj row ∈ turnedC L i none ++ lawS g rw rws un u := List.mem_append_right _ (.tail _ (List.mem_append_left _ (mem_row hrow)))
  have hl2 := List.length_filter_le (fun f : FlyD => f.number != (i : Int)) u
  have hk : C.env.kindOf (Str.ofString "number") = some .cell := by rw [Env.kindOf, hs]; rfl
  walk_at "ae"
  refine AI.list (l := rws.map fun r => .ref r.1) (p := .ref row.1) hR (by (first | lia | omega)) (by (first | lia | omega)) (by simp [hrow]) ?_
  walk_at "ae"
  rw [hw, ec]
  refine ⟨(fun h => nomatch h), fun _ => ?_⟩
  walk_at "ae"
  refine AI.list (l := rws.map fun r => .ref r.1) (p := .ref row.1) hR (by (first | lia | omega)) (by (first | lia | omega)) (by simp [hrow]) ?_
  walk_at "ae"
  rw [ec]
  refine AW.list (UpdS.pre (.tail (UpdS.app (rowsS_upd (d' := { row.2 with whole := false }) hrow) _)) (turnedC L i none)) (by decide) (by simp) (by simp) ?_
  walk_at "ae"
  rw [ecc]
  refine ⟨fun _ => ?_, (fun h => nomatch h)⟩
  walk_at "ae"
  refine AE.comp1 (cl := [(Str.ofString "number", L)]) O (by rw [hc]; rfl) (by rw [relabel, hs]) rfl (by decide) (by decide) (fun _ => rfl) ?_
  walk_at "ae"
  refine ⟨u.map undP, _, undNo i, id, Iter.list (by walk_at "mem"), fun acc ys => by walk_at "mem", by rw [List.length_map]; (first | lia | omega), fun acc => ⟨_, _, Fz.ice _ _ _, ?fin⟩, ?st⟩
  case st =>
    intro acc ys x hx C' O' hs' hc'
    obtain ⟨f, hf, rfl⟩ := List.mem_map.mp hx
    simp only [List.map_cons, List.map_nil, hk] at hs'
    walk_at "ae"
    simp only [ATs]
    walk_at "ae"
    have e : decide (f.number ≠ (i : Int)) = undNo i (undP f) := by
      show _ = (f.number != (i : Int))
      by_cases h : f.number = (i : Int) <;> simp [h]
    refine ⟨rfl, e, fun _ => ?_⟩
    walk_at "ae"
    exact ⟨rfl, rfl⟩
  case fin =>
    rw [undNo_pv]
    walk_at "ae"
    refine AW.listAll (l := u.map undP) (by walk_at "upd") (by rw [List.length_map]; (first | lia | omega)) (by rw [List.length_map]; (first | lia | omega)) ?_
    walk_at "ae"
    refine AC.use (σ₁ := WS g) (φ := turnedC L i none ++ (un, .list ((u.filter fun f => f.number != (i : Int)).map undP)) :: rowsS rw (rws.set i (row.1, { row.2 with whole := false }))) O (turn_cut hgi (by (first | lia | omega)) (by (first | lia | omega)) hw) (by (first | lia | omega)) (Le.perm ?_) ?_
    · exact pullB (a := turnedC L i none) (b := (un, .list ((u.filter fun f => f.number != (i : Int)).map undP)) :: rowsS rw (rws.set i (row.1, { row.2 with whole := false }))) (W := WS g)
    rintro p σ' ⟨rfl, F', rfl⟩
    refine ⟨_, Le.perm (pullB (a := turnedC L i none) (b := (un, .list ((u.filter fun f => f.number != (i : Int)).map undP)) :: rowsS rw (rws.set i (row.1, { row.2 with whole := false }))) (W := WS { g with F := F', ws := g.ws.set i { row.2 with whole := false }, fl := g.fl.filter fun f => f.number != (i : Int) })).symm, ?_⟩
    walk_at "ae"
    rw [ec]
    refine AO2.eqD O rfl rfl ?_
    rw [eqv_self (by rfl)]
    exact ⟨rfl, F', rfl⟩
end
set_option maxHeartbeats 4000000
local macro_rules | `(tactic| walk_at "defC3") => `(tactic| (walk_at "defh"; exact vs3 fun _ _ _ _ => BindsTo.of_eq rfl))
structure Twin (fl u : List FlyD) : Prop where
  perm : fl.Perm u
  sorted : fl.Pairwise fun a b => lexlt (a.time, a.sent) (b.time, b.sent) = true
  things : ∀ f ∈ u, f.thing = .int (thg f)
  sent : u.Pairwise fun a b => a.sent < b.sent
  turn : u.Pairwise fun a b => thg a < thg b
structure WsOk (ws : List WireD) : Prop where
  nd : (endsW ws).Nodup
  sw : ∀ e ∈ endsW ws, 0 ≤ e.1 ∧ e.1 < 4
  late : ∀ d ∈ ws, 0 ≤ d.late
theorem AC.onW {C : Ctx} {n k : Nat} {ρ : Locs} {g : GW} {f : PV} {ps : List PV} {K₀ K : PV → Store → Prop} (φ : Store) (O : C.Ok n) (h : CT f ps (WS g) k K₀) (hk : k ≤ n) (kk : ∀ p σ', K₀ p σ' → σ' = WS g ∧ K p (φ ++ WS g)) : AC C ρ (φ ++ WS g) f ps K := by
  refine AC.use (σ₁ := WS g) (φ := φ) O h hk (Le.perm List.perm_append_comm) fun p σ' k₀ => ?_
  obtain ⟨rfl, k'⟩ := kk p σ' k₀
  exact ⟨_, Le.perm List.perm_append_comm, k'⟩
theorem mem_ends {e : Int × Int} {d : WireD} : ∀ {ws : List WireD} {i : Nat}, ws[i]? = some d → (e = d.one ∨ e = d.other) → e ∈ endsW ws
  | [], _, h, _ => by simp at h
  | x :: ws, 0, h, he => by
    simp at h; subst h
    rcases he with rfl | rfl <;> simp [endsW]
  | x :: ws, i + 1, h, he => by
    have := mem_ends (ws := ws) (i := i) (by simpa using h) he
    simp [endsW, this]
theorem rowAt_self {e : Int × Int} {d : WireD} : ∀ {ws : List WireD} {i : Nat} (k : Nat), (endsW ws).Nodup → ws[i]? = some d → (e = d.one ∨ e = d.other) → rowAt e ws k = some (k + i, d)
  | [], _, _, _, h, _ => by simp at h
  | x :: ws, 0, k, _, h, he => by
    simp at h; subst h
    unfold rowAt
    rw [if_pos he]; rfl
  | x :: ws, i + 1, k, nd, h, he => by
    have h' : ws[i]? = some d := by simpa using h
    have hm := mem_ends h' he
    rw [endsW, List.nodup_cons, List.nodup_cons] at nd
    unfold rowAt
    rw [if_neg, rowAt_self (k + 1) nd.2.2 h' he]
    · congr 2; (first | lia | omega)
    · rintro (h1 | h1)
      · exact nd.1 (by rw [← h1]; simp [hm])
      · exact nd.2.1 (by rw [← h1]; exact hm)
theorem rowAt_none {e : Int × Int} : ∀ {ws : List WireD} (k : Nat), e ∉ endsW ws → rowAt e ws k = none
  | [], _, _ => rfl
  | x :: ws, k, h => by
    unfold rowAt
    rw [endsW] at h
    rw [if_neg, rowAt_none (k + 1) (fun hm => h (by simp [hm]))]
    rintro (h1 | h1)
    · exact h (by simp [h1])
    · exact h (by simp [h1])
theorem across_one {g : GW} {i : Nat} {d : WireD} (nd : (endsW g.ws).Nodup) (h : g.ws[i]? = some d) : Across g d.one (if d.whole = true then some d.other else none) := by
  have := across_of (g := g) (e := d.one)
  rw [rowAt_self 0 nd h (.inl rfl)] at this
  simpa using this
theorem ends_ne {ws : List WireD} {i : Nat} {d : WireD} (nd : (endsW ws).Nodup) (h : ws[i]? = some d) : d.other ≠ d.one := by
  induction ws generalizing i with
  | nil => simp at h
  | cons x ws ih =>
    rw [endsW, List.nodup_cons, List.nodup_cons] at nd
    cases i with
    | zero => simp at h; subst h; exact fun e => nd.1 (by simp [e])
    | succ i => exact ih nd.2.2 (by simpa using h)
theorem across_other {g : GW} {i : Nat} {d : WireD} (nd : (endsW g.ws).Nodup) (h : g.ws[i]? = some d) : Across g d.other (if d.whole = true then some d.one else none) := by
  have := across_of (g := g) (e := d.other)
  rw [rowAt_self 0 nd h (.inr rfl)] at this
  simp only [if_neg (ends_ne nd h)] at this
  exact this
theorem across_none {g : GW} {e : Int × Int} (h : e ∉ endsW g.ws) : Across g e none := by
  have := across_of (g := g) (e := e)
  rw [rowAt_none 0 h] at this
  exact this
theorem head_least {fl u : List FlyD} {f : FlyD} {r : List FlyD} (ht : Twin fl u) (e : fl = f :: r) : ∀ x ∈ u, f.time ≤ x.time := by
  intro x hx
  have hx' := ht.perm.mem_iff.mpr hx
  have hs := ht.sorted
  rw [e] at hx' hs
  rcases List.mem_cons.mp hx' with rfl | hx'
  · exact Int.le_refl _
  · have := List.rel_of_pairwise_cons hs hx'
    unfold lexlt at this
    simp at this
    (first | lia | omega)
noncomputable def undT : PV → PV
  | .lst (.int t :: _) => .int t
  | p => p
noncomputable def nextP : List FlyD → PV
  | [] => .none
  | f :: _ => .int f.time
theorem AX.cut {C : Ctx} {ρ : Locs} {σ : Store} {st : Stmt} {rest : List Stmt} {K : Fl → Locs → Store → Prop} (K₀ : Locs → Store → Prop) (h : AS C ρ σ st fun fl ρ' σ' => fl = .next ∧ K₀ ρ' σ') (k : ∀ ρ' σ', K₀ ρ' σ' → AX C ρ' σ' rest K) : AX C ρ σ (st :: rest) K := by
  refine AX.cons fun s Q E J P => h s Q E J (P.mono ?_)
  rintro fl ρ' σ' ⟨rfl, k₀⟩
  exact k ρ' σ' k₀
theorem times_pv (u : List FlyD) : (((u.map undP).filter fun _ => true).map undT) = (u.map (·.time)).map .int := by
  rw [List.filter_eq_self.mpr (fun _ _ => rfl), List.map_map, List.map_map]; rfl
theorem Sep.subl {prog : Program} {w : World} {I : Led} {σ : Store} {D : Led} (h : Sep prog w I σ D) : (σ.map (·.1)).Sublist (D.map (·.1)) := by
  induction h with
  | nil => exact .slnil
  | cons r _ ih =>
    have key : ∀ (a : Addr) (rest tl : List Addr), rest.Sublist tl → ∀ more : List Addr, (a :: rest).Sublist (a :: (more ++ tl)) := fun a rest tl h more => (h.trans (List.sublist_append_right _ _)).cons_cons a
    cases r with
    | list _ => exact key _ _ _ ih []
    | inst _ => exact key _ _ _ ih [_]
    | dict _ _ _ _ _ _ => exact key _ _ _ ih []
    | cellS _ _ => exact key _ _ _ ih []
    | cellN _ => exact key _ _ _ ih []
    | raw => exact key _ _ _ ih []
    | frame _ => exact key _ _ _ ih []
theorem AX.nodup {C : Ctx} {ρ : Locs} {σ : Store} {ss : List Stmt} {K : Fl → Locs → Store → Prop} (h : (σ.map (·.1)).Nodup → AX C ρ σ ss K) : AX C ρ σ ss K := fun s Q E J P => by
  refine h ?_ s Q E J P
  obtain ⟨m, S, I, D⟩ := J
  have nd := D.nd
  rw [List.map_append] at nd
  exact (List.nodup_append.mp nd).1.sublist D.sep.subl
noncomputable def rowEnds (rws : List (Addr × WireD)) : PV → List PV
  | .val (.ref a) => (rws.find? fun r => r.1 == a).elim [] fun r => [endP r.2.one, endP r.2.other]
  | _ => []
theorem rowEnds_of {rws : List (Addr × WireD)} (nd : (rws.map (·.1)).Nodup) {r : Addr × WireD} (h : r ∈ rws) : rowEnds rws (.ref r.1) = [endP r.2.one, endP r.2.other] := by
  have : (rws.find? fun x => x.1 == r.1) = some r := by
    induction rws with
    | nil => cases h
    | cons x rws ih =>
      rw [List.map_cons, List.nodup_cons] at nd
      rw [List.find?_cons]
      rcases List.mem_cons.mp h with rfl | h
      · simp
      · have hne : (x.1 == r.1) = false := by
          rw [beq_eq_false_iff_ne]
          exact fun e => nd.1 (by rw [e]; exact List.mem_map_of_mem (f := fun q : Addr × WireD => q.1) h)
        rw [hne]; exact ih nd.2 h
  show ((rws.find? fun x => x.1 == r.1).elim [] fun r => [endP r.2.one, endP r.2.other]) = _
  rw [this]; rfl
theorem portsW_app (sw : Int) (a b : List (Int × Int)) : portsW sw (a ++ b) = portsW sw a ++ portsW sw b := by
  rw [portsW, List.filter_append, List.map_append]; rfl
theorem rowPorts {sw : Int} {G : PV → List PV} : ∀ rs : List (Addr × WireD), (∀ r ∈ rs, G (.ref r.1) = [endP r.2.one, endP r.2.other]) →
    ((rs.map fun r => PV.ref r.1).flatMap fun x => ((G x).filter (atSw sw)).map snd1) = (portsW sw (endsW (rs.map (·.2)))).map .int
  | [], _ => rfl
  | r :: rs, h => by
    rw [List.map_cons, List.flatMap_cons, rowPorts rs (fun x hx => h x (.tail _ hx)), h r (.head _), List.map_cons, endsW]
    have : r.2.one :: r.2.other :: endsW (rs.map (·.2)) = [r.2.one, r.2.other] ++ endsW (rs.map (·.2)) := rfl
    rw [this, portsW_app, List.map_append, ← ports_pv sw [r.2.one, r.2.other]]
    rfl
theorem stands_spec {g : GW} {rw un : Addr} {rws : List (Addr × WireD)} {u : List FlyD} (hz : g.ws.length ≤ 20) (hf : g.fl.length ≤ 60) (hr : rws.map (·.2) = g.ws) (ho : WsOk g.ws) (ht : Twin g.fl u) :
    CT (.ref 297) [.ref g.W, .ref rw, .ref un] (lawS g rw rws un u) 6 fun p σ' => p = .bool true ∧ σ' = lawS g rw rws un u := by
  refine' CT.defC (f := 297) (xs := [Str.ofString "wires", Str.ofString "rows", Str.ofString "under"]) ?d rfl ?h
  case d => walk_at "defC3"
  case h =>
  intro C L O hs hc
  have hc : C.env.cells = [(Str.ofString "switch", L)] := hc
  refine AX.conv (ρ := [(Str.ofString "wires", .ref g.W), (Str.ofString "rows", .ref rw), (Str.ofString "under", .ref un)]) (σ := (L, .cell none) :: lawS g rw rws un u) rfl rfl ?_
  refine AX.conseq (K := fun fl _ σ' => fl = .ret (.bool true) ∧ ∃ o, σ' = (L, .cell o) :: lawS g rw rws un u) ?_ ?_
  case refine_2 =>
    rintro fl ρ' σ' ⟨rfl, o, rfl⟩
    exact ⟨_, Le.dropH _ _, rfl, rfl⟩
  have hul : u.length ≤ 60 := by rw [← ht.perm.length_eq]; exact hf
  have hokf : ∀ f ∈ g.fl, okD 1 f.thing = true := fun f hf => by rw [ht.things f (ht.perm.mem_iff.mp hf)]; rfl
  have hoku : okDs 7 (u.map undP) = true := by
    rw [okDs_iff]
    intro p hp
    obtain ⟨f, hf, rfl⟩ := List.mem_map.mp hp
    have e : undP f = .lst [.int f.time, .int (thg f), endP f.goal, .int f.number] := by rw [undP, ht.things f hf]
    rw [e]; rfl
  have memL : ∀ {x : Addr × AObj} {o : Option PV}, x ∈ lawS g rw rws un u → x ∈ (L, AObj.cell o) :: lawS g rw rws un u := fun h => .tail _ h
  have hW : (g.W, AObj.inst 184 (wiresF g)) ∈ (L, AObj.cell none) :: lawS g rw rws un u := memL (by simp [lawS])
  have onW : ∀ {ρ : Locs} {o : Option PV} {f : PV} {ps : List PV} {k : Nat} {K₀ K : PV → Store → Prop} (O : C.Ok 5) (h : CT f ps (WS g) k K₀) (hk : k ≤ 5) (kk : ∀ p σ', K₀ p σ' → σ' = WS g ∧ K p ((L, AObj.cell o) :: lawS g rw rws un u)), AC C ρ ((L, AObj.cell o) :: lawS g rw rws un u) f ps K :=
    fun O h hk kk => AC.onW ((L, AObj.cell _) :: (un, .list (u.map undP)) :: rowsS rw rws) O h hk kk
  have hnext : g.fl = [] ↔ u = [] := by
    have := ht.perm.length_eq
    constructor
    · intro h; rw [h] at this; exact List.length_eq_zero_iff.mp this.symm
    · intro h; rw [h] at this; exact List.length_eq_zero_iff.mp this
  refine AX.cut (fun ρ' σ' => ρ' = [(Str.ofString "wires", .ref g.W), (Str.ofString "rows", .ref rw), (Str.ofString "under", .ref un)] ∧ σ' = (L, .cell none) :: lawS g rw rws un u) ?_ ?_
  · walk_at "ae"
    refine onW O (nextTime_spec (by (first | lia | omega)) hokf) (by (first | lia | omega)) ?_
    rintro p σ' ⟨rfl, rfl⟩
    refine ⟨rfl, ?_⟩
    walk_at "ae"
    refine AE.lst (AL.nil ⟨by simp, ?_⟩)
    refine AO2.neL O (l := u.map undP) (.tail _ (.head _)) hoku rfl ⟨_, rfl, ?_⟩
    rw [eqv_nil]
    cases hfl : g.fl with
    | nil =>
      have hu := hnext.mp hfl
      subst hu
      refine ⟨(fun h => by simp at h), fun _ => ?_⟩
      walk_at "ae"
      refine AO2.neD O rfl rfl ⟨false, rfl, ?_⟩
      walk_at "ae"
      exact ⟨rfl, rfl, rfl⟩
    | cons f r =>
      have hu : u ≠ [] := fun h => by rw [hnext.mpr h] at hfl; cases hfl
      refine ⟨fun _ => ?_, fun h => ?_⟩
      · walk_at "ae"
        refine AE.comp1 (cl := []) O (by rw [hc]; rfl) (by rw [relabel, hs]) rfl (by decide) (by decide) (fun _ => rfl) ?_
        walk_at "ae"
        refine ⟨u.map undP, _, fun _ => true, undT, Iter.list (.tail _ (.head _)), fun acc ys => .tail _ (.tail _ (.head _)), by rw [List.length_map]; (first | lia | omega), fun acc => ⟨_, _, Fz.ice _ _ _, ?fin⟩, ?st⟩
        case st =>
          intro acc ys x hx C' O' hs' hc'
          obtain ⟨f, hf, rfl⟩ := List.mem_map.mp hx
          walk_at "ae"
          simp only [ATs]
          refine ⟨trivial, trivial, fun _ => ?_⟩
          walk_at "ae"
          exact ⟨rfl, rfl⟩
        case fin =>
          rw [times_pv]
          walk_at "ae"
          refine AC.minL O (.inl rfl) (by rw [List.length_map]; exact List.length_pos_iff.mpr hu) fun M h1 h2 => ?_
          have hM : f.time = M := by
            obtain ⟨x, hx, rfl⟩ := List.mem_map.mp h1
            have a1 := head_least ht hfl x hx
            have a2 := h2 f.time (List.mem_map_of_mem (ht.perm.mem_iff.mp (by rw [hfl]; exact .head _)))
            exact Int.le_antisymm a1 a2
          refine AO2.neI ⟨_, rfl, ?_⟩
          rw [hM, decide_eq_false (fun h => h rfl)]
          walk_at "ae"
          exact ⟨rfl, rfl, rfl⟩
      · simp [hu] at h
  rintro ρ' σ' ⟨rfl, rfl⟩
  have hzr : rws.length ≤ 20 := by rw [← hr, List.length_map] at hz; exact hz
  have hR : ∀ o, (rw, AObj.list (rws.map fun r => .ref r.1)) ∈ (L, AObj.cell o) :: lawS g rw rws un u := fun o => memL (by simp [lawS])
  refine AX.cut (fun ρ' σ' => Sub [(Str.ofString "wires", .ref g.W), (Str.ofString "rows", .ref rw), (Str.ofString "under", .ref un)] ρ' ∧ σ' = (L, .cell none) :: lawS g rw rws un u) ?_ ?_
  · refine AS.forIn (n := 0) ?_ (fun _ => rfl) O.hh
    walk_at "ae"
    refine AC.enumL (l := rws.map fun r => .ref r.1) (hR _) fun e' it oi h1 h2 => ?_
    refine ForK.mk (fun d ρ σ => Sub [(Str.ofString "wires", .ref g.W), (Str.ofString "rows", .ref rw), (Str.ofString "under", .ref un)] ρ ∧ σ = (L, .cell none) :: lawS g rw rws un u) (IterG.enum h1 h2 (hR _)) (⟨_, _, _, rfl⟩) (⟨Sub.refl _, rfl⟩) ?_ ?_ ?_
    · rintro ρ σ ⟨sub, rfl⟩
      exact ⟨rfl, sub, rfl⟩
    · rintro d ρ σ ⟨_, rfl⟩
      exact hR _
    · rintro d x r hl J I₀ ρ σ ⟨sub, rfl⟩
      refine AG.locs sub ?_
      obtain ⟨p, hp, rfl⟩ := numbered_at hl
      rw [List.getElem?_map] at hp
      obtain ⟨row, hrow, rfl⟩ := Option.map_eq_some_iff.mp hp
      have hm : rowObj row ∈ (L, AObj.cell none) :: lawS g rw rws un u := .tail _ (.tail _ (List.mem_append_left _ (mem_row hrow)))
      have hgi : g.ws[d.length]? = some row.2 := by rw [← hr, List.getElem?_map, hrow]; rfl
      obtain ⟨C', hC⟩ : ∃ C', C' = C.jj J I₀ := ⟨_, rfl⟩
      rw [← hC]
      have O' : C'.Ok 5 := by rw [hC]; exact O.jj J I₀
      have hE : C'.env = C.env := by rw [hC]
      have hs' := hs
      rw [← hE] at hs'
      have onW' : ∀ {ρ : Locs} {o : Option PV} {f : PV} {ps : List PV} {k : Nat} {K₀ K : PV → Store → Prop} (h : CT f ps (WS g) k K₀) (hk : k ≤ 5) (kk : ∀ p σ', K₀ p σ' → σ' = WS g ∧ K p ((L, AObj.cell o) :: lawS g rw rws un u)), AC C' ρ ((L, AObj.cell o) :: lawS g rw rws un u) f ps K :=
        fun h hk kk => AC.onW ((L, AObj.cell _) :: (un, .list (u.map undP)) :: rowsS rw rws) O' h hk kk
      clear hC O hs hE onW
      walk_at "tup"
      refine AG.list O' hm rfl rfl ?_
      simp only [AGs]
      walk_at "ae"
      have hW' : (g.W, AObj.inst 184 (wiresF g)) ∈ (L, AObj.cell none) :: lawS g rw rws un u := hW
      refine onW' (ends_spec hgi (by (first | lia | omega))) (by (first | lia | omega)) ?_
      rintro p σ' ⟨rfl, rfl⟩
      refine ⟨rfl, ?_⟩
      walk_at "ae"
      refine AO2.neD O' rfl rfl ⟨_, rfl, ?_⟩
      rw [eqv_self (by rfl)]
      refine ⟨(fun h => nomatch h), fun _ => ?_⟩
      walk_at "ae"
      refine onW' (isWhole_spec hgi (by (first | lia | omega))) (by (first | lia | omega)) ?_
      rintro p σ' ⟨rfl, rfl⟩
      refine ⟨rfl, ?_⟩
      walk_at "ae"
      refine AO2.neD O' rfl rfl ⟨_, rfl, ?_⟩
      rw [eqv_self (by rfl)]
      refine ⟨(fun h => nomatch h), fun _ => ?_⟩
      walk_at "ae"
      refine AE.lst ?_
      walk_at "ae"
      refine onW' (endAcross_spec (by (first | lia | omega)) (across_one ho.nd hgi)) (by (first | lia | omega)) ?_
      rintro p σ' ⟨rfl, rfl⟩
      refine ⟨rfl, ?_⟩
      walk_at "ae"
      refine onW' (endAcross_spec (by (first | lia | omega)) (across_other ho.nd hgi)) (by (first | lia | omega)) ?_
      rintro p σ' ⟨rfl, rfl⟩
      refine ⟨rfl, ?_⟩
      walk_at "ae"
      cases hwh : row.2.whole with
      | true =>
        refine ⟨fun _ => ?_, (fun h => nomatch h)⟩
        refine AE.lst ?_
        walk_at "ae"
        refine AO2.neD O' rfl rfl ⟨_, rfl, ?_⟩
        rw [show PV.lst [optEnd (if true = true then some row.2.other else none), optEnd (if true = true then some row.2.one else none)] = PV.lst [endP row.2.other, endP row.2.one] from rfl, eqv_self (by rfl)]
        refine ⟨(fun h => nomatch h), fun _ => ?_⟩
        walk_at "ae"
        exact ⟨by walk_at "sub", rfl⟩
      | false =>
        refine ⟨(fun h => nomatch h), fun _ => ?_⟩
        refine AE.lst ?_
        walk_at "ae"
        refine AO2.neD O' rfl rfl ⟨_, rfl, ?_⟩
        rw [show PV.lst [optEnd (if false = true then some row.2.other else none), optEnd (if false = true then some row.2.one else none)] = PV.lst [PV.none, PV.none] from rfl, eqv_self (by rfl)]
        refine ⟨(fun h => nomatch h), fun _ => ?_⟩
        walk_at "ae"
        exact ⟨by walk_at "sub", rfl⟩
  rintro ρ' σ' ⟨sub, rfl⟩
  refine AX.locs sub ?_
  refine AX.nodup fun hnd => ?_
  have hnr : (rws.map (·.1)).Nodup := by
    refine hnd.sublist ?_
    have : (rws.map (·.1)) = (rws.map rowObj).map (·.1) := by rw [List.map_map]; rfl
    rw [this]
    refine List.Sublist.map _ ?_
    exact ((List.sublist_append_left (rws.map rowObj) (WS g)).cons _).cons _ |>.cons _
  have hpl : ∀ sw, (portsW sw (endsW g.ws)).length ≤ 40 := fun sw => by
    rw [portsW, List.length_map]
    have := List.length_filter_le (fun e : Int × Int => decide (e.1 = sw)) (endsW g.ws)
    have := endsW_length g.ws
    (first | lia | omega)
  refine AX.cut (fun ρ' σ' => Sub [(Str.ofString "wires", .ref g.W), (Str.ofString "rows", .ref rw), (Str.ofString "under", .ref un)] ρ' ∧ ∃ o, σ' = (L, .cell o) :: lawS g rw rws un u) ?_ ?_
  · refine AS.forIn (n := 0) ?_ (fun _ => rfl) O.hh
    walk_at "ae"
    refine AC.range1 fun t u' v => ?_
    refine ForK.mk (fun d ρ σ => Sub [(Str.ofString "wires", .ref g.W), (Str.ofString "rows", .ref rw), (Str.ofString "under", .ref un)] ρ ∧ ∃ o, σ = (L, .cell o) :: lawS g rw rws un u) (Iter.range (by decide) (by decide) (by decide) (by decide)) (trivial) (⟨Sub.refl _, none, rfl⟩) ?_ ?_ ?_
    · rintro ρ σ ⟨sub, o, rfl⟩
      exact ⟨rfl, sub, o, rfl⟩
    · rintro d ρ σ ⟨_, o, rfl⟩
      trivial
    · rintro d x r hl J I₀ ρ σ ⟨sub, o, rfl⟩
      refine AG.locs sub ?_
      obtain ⟨sw, rfl⟩ : ∃ sw : Int, x = .int sw := by
        have : x ∈ nums 0 4 := by rw [hl]; simp
        unfold nums at this
        obtain ⟨i, _, rfl⟩ := List.mem_map.mp this
        exact ⟨_, rfl⟩
      obtain ⟨C', hC⟩ : ∃ C', C' = C.jj J I₀ := ⟨_, rfl⟩
      rw [← hC]
      have O' : C'.Ok 5 := by rw [hC]; exact O.jj J I₀
      have hE : C'.env = C.env := by rw [hC]
      have hs' := hs
      have hc' := hc
      rw [← hE] at hs' hc'
      clear hC O hs hE onW hc
      refine AG.cell O' hs' rfl (by rw [hc']; rfl) (p₀ := o) .head ?_
      have hN : (L, AObj.cell (some (.int sw))) ∈ (L, AObj.cell (some (.int sw))) :: lawS g rw rws un u := .head _
      have hW' : (g.W, AObj.inst 184 (wiresF g)) ∈ (L, AObj.cell (some (.int sw))) :: lawS g rw rws un u := memL (by simp [lawS])
      walk_at "ae"
      refine AC.freeze (AC.use (σ₁ := WS g) (φ := (L, AObj.cell (some (.int sw))) :: (un, .list (u.map undP)) :: rowsS rw rws) O' (portsOf_spec hz) (by (first | lia | omega)) (Le.perm (List.perm_append_comm (l₁ := (L, AObj.cell (some (.int sw))) :: (un, .list (u.map undP)) :: rowsS rw rws) (l₂ := WS g))) ?_)
      rintro p σ' ⟨a, ns, rfl, hp, hsr, rfl⟩
      refine ⟨(a, .list (ns.map .int)) :: (((L, AObj.cell (some (.int sw))) :: (un, .list (u.map undP)) :: rowsS rw rws) ++ WS g), Le.cons _ (Le.perm List.perm_append_comm), a, _, _, rfl, rfl, ?_⟩
      walk_at "ae"
      have hk : C'.env.kindOf (Str.ofString "switch") = some .cell := by rw [Env.kindOf, hs']; rfl
      have e1 := rowPorts (sw := sw) (G := rowEnds rws) rws fun r hr => rowEnds_of hnr hr
      rw [hr] at e1
      refine AE.comp2 (cl := [(Str.ofString "switch", L)]) O' (by rw [hc']; rfl) (by rw [relabel, hs']) rfl (by decide) (by decide) (fun _ => rfl) (fun _ _ => rfl) ?_
      walk_at "ae"
      refine ⟨rws.map fun r => .ref r.1, _, rowEnds rws, fun _ y => atSw sw y, fun _ y => snd1 y, Iter.list (hR _), fun acc ys => .tail _ (hR _), ?len, fun acc => ⟨_, _, Fz.ice _ _ _, ?fin⟩, ?st⟩
      case len =>
        rw [e1, List.length_map]
        have := hpl sw
        (first | lia | omega)
      case fin =>
        rw [e1]
        walk_at "ae"
        refine AC.freeze (AC.sortedI (ns := portsW sw (endsW g.ws)) (.inl rfl) (by have := hpl sw; (first | lia | omega)) fun ns' D hp' hs2 => ⟨_, _, _, rfl, rfl, ?_⟩)
        have e2 : ns = ns' := (hp.trans hp'.symm).eq_of_pairwise (fun _ _ _ _ h1 h2 => Int.le_antisymm h1 h2) hsr hs2
        subst e2
        have hok : okD 8 (.lst (ns.map .int)) = true := by
          show okDs 7 _ = true
          rw [okDs_iff]
          intro p hp
          obtain ⟨i, _, rfl⟩ := List.mem_map.mp hp
          rfl
        refine AO2.neD O' hok hok ⟨_, rfl, ?_⟩
        rw [eqv_self hok]
        refine ⟨(fun h => nomatch h), fun _ => ?_⟩
        walk_at "ae"
        exact ⟨Sub.refl _, _, rfl⟩
      case st =>
        intro acc ys x hx C2 O2 hs2 hc2
        obtain ⟨row, hrow, rfl⟩ := List.mem_map.mp hx
        simp only [List.map_cons, List.map_nil, hk] at hs2
        have hm : rowObj row ∈ (acc, AObj.list ys) :: (L, AObj.cell (some (.int sw))) :: lawS g rw rws un u := .tail _ (.tail _ (.tail _ (List.mem_append_left _ (.tail _ (List.mem_map_of_mem hrow)))))
        walk_at "ae"
        refine ⟨rfl, ?_⟩
        walk_at "ae"
        intro t
        refine ⟨⟨_, _, .inl ⟨rfl, hm⟩⟩, AP.listTo hm (by (first | lia | omega)) (by simp) ?_⟩
        refine ⟨rfl, fun _ => True, ?_, fun _ => trivial, ?_⟩
        · rw [rowEnds_of hnr hrow]; exact Iter.lst
        · intro ys y hy C3 O3 hs3 hc3
          rw [rowEnds_of hnr hrow] at hy
          obtain ⟨e, rfl⟩ : ∃ e : Int × Int, y = endP e := by
            rcases List.mem_cons.mp hy with rfl | hy
            · exact ⟨_, rfl⟩
            · rw [List.mem_singleton.mp hy]; exact ⟨_, rfl⟩
          simp only [List.map_cons, List.map_nil, hk] at hs3
          walk_at "ae"
          refine ⟨by walk_at "sub", ?_⟩
          simp only [ATs]
          walk_at "ae"
          refine ⟨rfl, rfl, fun _ => ?_⟩
          walk_at "ae"
          exact ⟨rfl, rfl⟩
  rintro ρ' σ' ⟨sub, o, rfl⟩
  refine AX.locs sub ?_
  have hW' : (g.W, AObj.inst 184 (wiresF g)) ∈ (L, AObj.cell o) :: lawS g rw rws un u := memL (by simp [lawS])
  have h99 : ((9 : Int), (9 : Int)) ∉ endsW g.ws := fun h => by have := (ho.sw _ h).2; (first | lia | omega)
  walk_at "ae"
  refine onW O (endAcross_spec (e := (9, 9)) (by (first | lia | omega)) (across_none h99)) (by (first | lia | omega)) ?_
  rintro p σ' ⟨rfl, rfl⟩
  refine ⟨rfl, ?_⟩
  walk_at "ae"
  exact ⟨rfl, _, rfl⟩
section
noncomputable def sKey (f : FlyD) : Int × Int := (f.time, f.sent)
theorem lex_iff {a b : Int × Int} : lexlt a b = true ↔ a.1 < b.1 ∨ (a.1 = b.1 ∧ a.2 < b.2) := by unfold lexlt; rw [decide_eq_true_eq]
theorem lex_trans {a b c : Int × Int} (h1 : lexlt a b = true) (h2 : lexlt b c = true) : lexlt a c = true := by
  rw [lex_iff] at *; (first | lia | omega)
theorem lex_asymm {a b : Int × Int} (h1 : lexlt a b = true) (h2 : lexlt b a = true) : False := by
  rw [lex_iff] at *; (first | lia | omega)
theorem lex_total {a b : Int × Int} (h : lexlt a b = false) (hne : a.2 ≠ b.2) : lexlt b a = true := by
  have h' : ¬ (a.1 < b.1 ∨ (a.1 = b.1 ∧ a.2 < b.2)) := fun q => by rw [lex_iff.mpr q] at h; cases h
  rw [lex_iff]; (first | lia | omega)
theorem Twin.nil : Twin [] [] := ⟨List.Perm.nil, List.Pairwise.nil, (fun _ h => nomatch h), List.Pairwise.nil, List.Pairwise.nil⟩
theorem Twin.filter {fl u : List FlyD} (t : Twin fl u) (q : FlyD → Bool) : Twin (fl.filter q) (u.filter q) :=
  ⟨t.perm.filter q, t.sorted.filter q, fun f h => t.things f (List.mem_filter.mp h).1, t.sent.filter q, t.turn.filter q⟩
theorem putAtF_spec (key : Int × Int) (fl : List FlyD) : ∀ n, n ≤ fl.length → putAtF key fl n ≤ n ∧ (∀ i (h : i < fl.length), putAtF key fl n ≤ i → i < n → lexlt key (sKey fl[i]) = true) ∧ (∀ (h : putAtF key fl n - 1 < fl.length), 0 < putAtF key fl n → lexlt key (sKey fl[putAtF key fl n - 1]) = false)
  | 0, _ => ⟨Nat.le_refl _, fun i _ _ h => absurd h (Nat.not_lt_zero _), fun _ h => absurd h (Nat.lt_irrefl _)⟩
  | n + 1, hn => by
    have hlt : n < fl.length := hn
    have e : fl[n]? = some fl[n] := List.getElem?_eq_getElem hlt
    obtain ⟨a, b, c⟩ := putAtF_spec key fl n (by (first | lia | omega))
    by_cases h : lexlt key (fl[n].time, fl[n].sent) = true
    · have hp : putAtF key fl (n + 1) = putAtF key fl n := by
        rw [putAtF, e]; simp only; rw [if_pos h]
      rw [hp]
      refine ⟨by (first | lia | omega), fun i hi h1 h2 => ?_, c⟩
      by_cases hin : i = n
      · subst hin; exact h
      · exact b i hi h1 (by (first | lia | omega))
    · have hp : putAtF key fl (n + 1) = n + 1 := by
        rw [putAtF, e]; simp only; rw [if_neg h]
      rw [hp]
      refine ⟨Nat.le_refl _, fun i _ h1 h2 => by (first | lia | omega), fun _ _ => ?_⟩
      show lexlt key (fl[n].time, fl[n].sent) = false
      simpa using h
theorem Twin.send {fl u : List FlyD} (t : Twin fl u) {f : FlyD} (hth : f.thing = .int (thg f)) (hs : ∀ x ∈ u, x.sent < f.sent) (hg : ∀ x ∈ u, thg x < thg f) :
    Twin (fl.take (putAtF (f.time, f.sent) fl fl.length) ++ f :: fl.drop (putAtF (f.time, f.sent) fl fl.length)) (u ++ [f]) := by
  obtain ⟨h1, h2, h3⟩ := putAtF_spec (f.time, f.sent) fl fl.length (Nat.le_refl _)
  generalize hp : putAtF (f.time, f.sent) fl fl.length = p at h1 h2 h3
  have hsort := t.sorted
  rw [← List.take_append_drop p fl] at hsort
  rw [List.pairwise_append] at hsort
  obtain ⟨s1, s2, s3⟩ := hsort
  have hbelow : ∀ a ∈ fl.take p, lexlt (sKey a) (f.time, f.sent) = true := by
    intro a ha
    obtain ⟨i, hi, rfl⟩ := List.mem_iff_getElem.mp ha
    rw [List.length_take] at hi
    have hip : i < p := by (first | lia | omega)
    have hl : p - 1 < fl.length := by (first | lia | omega)
    have hc := h3 hl (by (first | lia | omega))
    have hm : fl[p - 1] ∈ u := t.perm.mem_iff.mp (List.getElem_mem hl)
    have hlast := lex_total hc (by have := hs _ hm; show f.sent ≠ (fl[p-1]).sent; (first | lia | omega))
    rw [List.getElem_take]
    by_cases hh : i = p - 1
    · subst hh; exact hlast
    · exact lex_trans (List.pairwise_iff_getElem.mp t.sorted i (p - 1) (by (first | lia | omega)) hl (by (first | lia | omega))) hlast
  have habove : ∀ b ∈ fl.drop p, lexlt (f.time, f.sent) (sKey b) = true := by
    intro b hb
    obtain ⟨i, hi, rfl⟩ := List.mem_iff_getElem.mp hb
    rw [List.length_drop] at hi
    rw [List.getElem_drop]
    exact h2 (p + i) (by (first | lia | omega)) (by (first | lia | omega)) (by (first | lia | omega))
  refine ⟨?_, ?_, fun x hx => ?_, ?_, ?_⟩
  · refine (List.perm_middle).trans ?_
    rw [List.take_append_drop]
    exact (t.perm.cons f).trans (List.perm_append_comm (l₁ := [f]) (l₂ := u))
  · rw [List.pairwise_append, List.pairwise_cons]
    refine ⟨s1, ⟨habove, s2⟩, fun a ha b hb => ?_⟩
    rcases List.mem_cons.mp hb with rfl | hb
    · exact hbelow a ha
    · exact s3 a ha b hb
  · rcases List.mem_append.mp hx with hx | hx
    · exact t.things x hx
    · rw [List.mem_singleton.mp hx]; exact hth
  · rw [List.pairwise_append]
    refine ⟨t.sent, List.pairwise_singleton _ _, fun a ha b hb => ?_⟩
    rw [List.mem_singleton.mp hb]; exact hs a ha
  · rw [List.pairwise_append]
    refine ⟨t.turn, List.pairwise_singleton _ _, fun a ha b hb => ?_⟩
    rw [List.mem_singleton.mp hb]; exact hg a ha
theorem Twin.agree {fl u : List FlyD} (t : Twin fl u) : ∀ a ∈ u, ∀ b ∈ u, (a.sent < b.sent ↔ thg a < thg b) := by
  intro a ha b hb
  obtain ⟨i, hi, rfl⟩ := List.mem_iff_getElem.mp ha
  obtain ⟨j, hj, rfl⟩ := List.mem_iff_getElem.mp hb
  have hs := List.pairwise_iff_getElem.mp t.sent
  have hg := List.pairwise_iff_getElem.mp t.turn
  rcases Nat.lt_trichotomy i j with h | h | h
  · have a1 := hs i j hi hj h; have a2 := hg i j hi hj h; (first | lia | omega)
  · subst h; (first | lia | omega)
  · have a1 := hs j i hj hi h; have a2 := hg j i hj hi h; (first | lia | omega)
theorem Twin.sortedT {fl u : List FlyD} (t : Twin fl u) : fl.Pairwise fun a b => lexlt (keyU a) (keyU b) = true := by
  refine List.Pairwise.imp_of_mem (fun {a b} ha hb h => ?_) t.sorted
  have hab := t.agree a (t.perm.mem_iff.mp ha) b (t.perm.mem_iff.mp hb)
  have h' := lex_iff.mp h
  refine lex_iff.mpr ?_
  show a.time < b.time ∨ a.time = b.time ∧ thg a < thg b
  have : a.time < b.time ∨ a.time = b.time ∧ a.sent < b.sent := h'
  (first | lia | omega)
theorem Twin.nodupK {fl u : List FlyD} (t : Twin fl u) : (u.map keyU).Nodup := by
  unfold List.Nodup
  rw [List.pairwise_map]
  refine t.turn.imp fun {a b} h e => ?_
  have : thg a = thg b := congrArg Prod.snd e
  (first | lia | omega)
theorem takeWhile_filter {fl : List FlyD} (now : Int) (h : fl.Pairwise fun a b => lexlt (a.time, a.sent) (b.time, b.sent) = true) : fl.takeWhile (fun f => decide (f.time ≤ now)) = fl.filter (fun f => decide (f.time ≤ now)) ∧ fl.dropWhile (fun f => decide (f.time ≤ now)) = fl.filter (fun f => decide (f.time > now)) := by
  induction fl with
  | nil => exact ⟨rfl, rfl⟩
  | cons f r ih =>
    rw [List.pairwise_cons] at h
    obtain ⟨i1, i2⟩ := ih h.2
    by_cases hf : f.time ≤ now
    · rw [List.takeWhile_cons, List.dropWhile_cons, List.filter_cons, List.filter_cons]
      have h1 : decide (f.time ≤ now) = true := decide_eq_true hf
      have h2 : decide (f.time > now) = false := decide_eq_false (by (first | lia | omega))
      simp only [h1, h2, if_true, Bool.false_eq_true, if_false]
      exact ⟨by rw [i1], i2⟩
    · have all : ∀ x ∈ r, ¬ x.time ≤ now := fun x hx => by
        have := lex_iff.mp (h.1 x hx)
        simp only at this
        (first | lia | omega)
      have h1 : decide (f.time ≤ now) = false := decide_eq_false hf
      have h2 : decide (f.time > now) = true := decide_eq_true (by (first | lia | omega))
      rw [List.takeWhile_cons, List.dropWhile_cons, List.filter_cons, List.filter_cons]
      simp only [h1, h2, if_true, Bool.false_eq_true, if_false]
      refine ⟨(List.filter_eq_nil_iff.mpr fun x hx => by simpa using all x hx).symm, ?_⟩
      rw [List.filter_eq_self.mpr fun x hx => by have := all x hx; simp; (first | lia | omega)]
theorem Twin.dueIs {fl u u' : List FlyD} (t : Twin fl u) (now : Int) (hp : (u.filter fun f => decide (f.time ≤ now)).Perm u') (hs : u'.Pairwise fun f f' => lexlt (keyU f) (keyU f') = true) : u' = fl.takeWhile fun f => decide (f.time ≤ now) := by
  rw [(takeWhile_filter now t.sorted).1]
  have p2 : u'.Perm (fl.filter fun f => decide (f.time ≤ now)) := hp.symm.trans (t.perm.filter _).symm
  exact p2.eq_of_pairwise (fun a b _ _ h1 h2 => (lex_asymm h1 h2).elim) hs (t.sortedT.filter _)
theorem Twin.rest {fl u : List FlyD} (t : Twin fl u) (now : Int) : Twin (fl.dropWhile fun f => decide (f.time ≤ now)) (u.filter fun f => decide (f.time > now)) := by
  rw [(takeWhile_filter now t.sorted).2]; exact t.filter _
theorem Twin.first {f : FlyD} {r u : List FlyD} (t : Twin (f :: r) u) : Twin r (u.filter fun x => decide (keyU x ≠ keyU f)) := by
  have h := t.filter fun x => decide (keyU x ≠ keyU f)
  have hs := t.sortedT
  rw [List.pairwise_cons] at hs
  rw [List.filter_cons, if_neg (by simp), List.filter_eq_self.mpr fun x hx => ?_] at h
  · exact h
  · have := lex_iff.mp (hs.1 x hx)
    rw [decide_eq_true_eq]
    intro e
    rw [e] at this
    (first | lia | omega)
end
set_option maxHeartbeats 4000000
noncomputable def cntK {α : Type} (k : α → Nat) : List α → Nat
  | [] => 0
  | x :: l => k x + cntK k l
theorem cntK_nil {α : Type} (k : α → Nat) : cntK k [] = 0 := rfl
theorem cntK_cons {α : Type} (k : α → Nat) (x : α) (l : List α) : cntK k (x :: l) = k x + cntK k l := rfl
theorem cntK_append {α : Type} (k : α → Nat) : ∀ a b : List α, cntK k (a ++ b) = cntK k a + cntK k b
  | [], b => (Nat.zero_add _).symm
  | x :: a, b => by rw [List.cons_append, cntK_cons, cntK_cons, cntK_append k a b, Nat.add_assoc]
theorem cntK_count {α : Type} [BEq α] (a : α) : ∀ l : List α, l.count a = cntK (fun x => if x == a then 1 else 0) l
  | [] => rfl
  | x :: l => by rw [List.count_cons, cntK_cons, cntK_count a l, Nat.add_comm]
theorem permB {α : Type} {l l' : List α} (h : ∀ k : α → Nat, cntK k l = cntK k l') : l.Perm l' := by
  classical
  rw [List.perm_iff_count]
  intro a
  rw [cntK_count, cntK_count]
  exact h _
local macro_rules | `(tactic| walk_at "perm") => `(tactic| (refine permB fun k => ?_; simp only [cntK_append, cntK_cons, cntK_nil, List.map_nil, List.map_cons, List.nil_append, List.append_nil]; first | ac_rfl | lia | omega))
theorem AE.lamP {C : Ctx} {n : Nat} {ρ : Locs} {σ σw : Store} {K : PV → Store → Prop} {P c : Addr} {qual : Str} {params : Arguments} {body : Expr} {scope : Scope} {pos : Pos} {clos : List (Str × Addr)} {tab : Store} (O : C.Ok n) (hcode : C.env.code = .ref c) (hq : C.env.qual ++ "<lambda>" = qual)
    (hcd : ∀ h : Heap, (hd.heap_1 C.w.params).In h → CodeHd h c P) (hcl : closureFor scope C.env = pure clos) (hdef : defaultsOf params C.env = ([], [])) (hb : ∀ pm cdv ctv, bindArgs (kla_fn "<lambda>" qual params body scope clos pm cdv ctv) ⟨[], []⟩ = pure [])
    (ht : TabS P pos qual tab) (hp : Le σw (tab ++ σ)) (k : ∀ tab' o c', TabOld P pos qual c' tab' → LamO o qual body scope clos c' → ∃ σ', Le (tab' ++ σ) σ' ∧ K (.obj o) σ') : AE C ρ σw (.Lambda params body scope pos) K :=
  AE.le hp (AE.conseq (K := fun p σ' => ∃ tab' o c', TabOld P pos qual c' tab' ∧ LamO o qual body scope clos c' ∧ p = .obj o ∧ σ' = tab' ++ σ) (AE.lam O hcode hq hcd hcl hdef hb ht fun tab' o c' h1 h2 => ⟨tab', o, c', h1, h2, rfl, rfl⟩) fun p σ' ⟨tab', o, c', h1, h2, e1, e2⟩ => by
    subst e1; subst e2; exact k tab' o c' h1 h2)
noncomputable def joinedPos : Pos := { line := 159, col := 28, endLine := 159, endCol := 76 }
noncomputable def joinedQ : Str := Str.ofString "_law_joined" ++ ".<locals>." ++ "<lambda>"
theorem code_joined {C : Ctx} (hco : CodeIs C 268) : C.env.code = .ref 267 ∧ C.env.qual = Str.ofString "_law_joined" ++ ".<locals>." := by
  obtain ⟨o, fd, h1, h2, h3, h4⟩ : ∃ o fd, (hd.heap_1 C.w.params).lookup 268 = some o ∧ o.data = .func fd ∧ fd.code = .ref 267 ∧ fd.qualname = Str.ofString "_law_joined" := ⟨_, _, by k_is, rfl, rfl, rfl⟩
  have := hco _ _ h1 h2
  rw [h3, h4] at this
  exact this
noncomputable abbrev joinedC (L W : Addr) (o : Option PV) : Store := [(L + 1, AObj.cell o), (L, AObj.cell (some (.ref W)))]
noncomputable abbrev g0 (W R D F : Addr) : GW := { W := W, R := R, D := D, F := F, ep := 0, ws := [], fl := [], sent := 0 }
noncomputable def allEnds : List (Int × Int) := [(0, 1), (0, 2), (0, 3), (1, 1), (1, 2), (1, 3), (2, 1), (2, 2), (2, 3), (3, 1), (3, 2), (3, 3)]
noncomputable abbrev jS (src : Addr) (a b : Int) (fa : Addr) (fr : List (Int × Int)) (rw : Addr) (rws : List (Addr × WireD)) (L W : Addr) (o : Option PV) (g : GW) (E : Store) : Store :=
  (src, .list [.int a, .int b]) :: (fa, .list (fr.map fun e => endP e)) :: (rw, .list (rws.map fun r => .ref r.1)) :: (L + 1, .cell o) :: (L, .cell (some (.ref W))) :: (rws.map rowObj ++ (WS g ++ E))
structure JOk (W : Addr) (n : Nat) (g : GW) (rws : List (Addr × WireD)) (fr : List (Int × Int)) : Prop where
  gW : g.W = W
  fl : g.fl = []
  sent : g.sent = 0
  rows : rws.map (·.2) = g.ws
  len : g.ws.length = n
  free : fr.length + 2 * n = 12
  nd : (endsW g.ws ++ fr).Nodup
  sw : ∀ e ∈ endsW g.ws ++ fr, 0 ≤ e.1 ∧ e.1 < 4
  late : ∀ d ∈ g.ws, 0 ≤ d.late
theorem endsW_snoc (d : WireD) : ∀ ws : List WireD, endsW (ws ++ [d]) = endsW ws ++ [d.one, d.other]
  | [] => rfl
  | x :: ws => by rw [List.cons_append, endsW, endsW_snoc d ws, endsW]; rfl
theorem erase_perm {α : Type} {l : List α} {i : Nat} (h : i < l.length) : (l[i] :: l.eraseIdx i).Perm l := by
  have e : l = l.take i ++ l[i] :: l.drop (i + 1) := by
    conv => lhs; rw [← List.take_append_drop i l]
    rw [List.drop_eq_getElem_cons h]
  rw [List.eraseIdx_eq_take_drop_succ]
  refine (List.perm_middle (l₁ := l.take i)).symm.trans ?_
  rw [← e]
theorem pop_split {fr : List (Int × Int)} {i : Nat} (h : i < fr.length) : (fr.map fun e => endP e) = ((fr.take i).map fun e => endP e) ++ endP fr[i] :: ((fr.drop (i + 1)).map fun e => endP e) ∧
    ((fr.take i).map fun e => endP e) ++ ((fr.drop (i + 1)).map fun e => endP e) = ((fr.eraseIdx i).map fun e => endP e) := by
  constructor
  · conv => lhs; rw [← List.take_append_drop i fr]
    rw [List.map_append, List.drop_eq_getElem_cons h, List.map_cons]
  · rw [← List.map_append, List.eraseIdx_eq_take_drop_succ]
theorem JOk.join {W : Addr} {n : Nat} {g : GW} {rws : List (Addr × WireD)} {fr : List (Int × Int)} (h : JOk W n g rws fr) {i j : Nat} (hi : i < fr.length) (hj : j < (fr.eraseIdx i).length) {x y : Addr} {ep : Nat} {late : Int} (hl : 0 ≤ late) :
    JOk W (n + 1) { g with ws := g.ws ++ [newW x fr[i] (fr.eraseIdx i)[j] late], ep := ep } (rws ++ [(y, newW x fr[i] (fr.eraseIdx i)[j] late)]) ((fr.eraseIdx i).eraseIdx j) := by
  have p1 : ([fr[i], (fr.eraseIdx i)[j]] ++ (fr.eraseIdx i).eraseIdx j).Perm fr := ((erase_perm hj).cons fr[i]).trans (erase_perm hi)
  have p2 : (endsW (g.ws ++ [newW x fr[i] (fr.eraseIdx i)[j] late]) ++ (fr.eraseIdx i).eraseIdx j).Perm (endsW g.ws ++ fr) := by
    rw [endsW_snoc, List.append_assoc]
    exact p1.append_left _
  have hlen := p1.length_eq
  refine ⟨h.gW, h.fl, h.sent, ?_, ?_, ?_, (p2.nodup_iff).mpr h.nd, fun e he => h.sw e (p2.mem_iff.mp he), fun d hd => ?_⟩
  · rw [List.map_append, h.rows]; rfl
  · rw [List.length_append, h.len]; rfl
  · have := h.free; simp at hlen; (first | lia | omega)
  · rcases List.mem_append.mp hd with hd | hd
    · exact h.late d hd
    · rw [List.mem_singleton.mp hd]; exact hl
theorem JOk.fresh {W : Addr} {n : Nat} {g : GW} {rws : List (Addr × WireD)} {fr : List (Int × Int)} (h : JOk W n g rws fr) {e : Int × Int} (he : e ∈ fr) : (kvsW 0 g.ws).lookup (endK e) = none := by
  have hn : e ∉ endsW g.ws := fun hm => (List.nodup_append.mp h.nd).2.2 e hm e he rfl
  have := rowAt_lookup e g.ws 0
  rw [rowAt_none 0 hn] at this
  exact this
noncomputable def WrongP (g : GW) (x : PV) : Prop := ∃ (e1 e2 : Int × Int) (dl : Int), x = .tup [endP e1, endP e2, .int dl] ∧ (e1 = e2 ∨ ((kvsW 0 g.ws).lookup (endK e1)).isSome = true ∨ ((kvsW 0 g.ws).lookup (endK e2)).isSome = true ∨ dl < 0)
theorem lam_joined {g : GW} {L : Addr} {e1 e2 : Int × Int} {dl : Int} {o : Obj} {clos : List (Str × Addr)} {body : Expr} {scope : Scope} {c' : Addr} {tab : Store} (ho : LamO o joinedQ body scope clos c') (ht : TabOld 265 joinedPos joinedQ c' tab)
    (hk : scope.kind = .function) (hcell : ∀ x ∈ scope.names, x.2 ≠ .cell) (hco : scope.isCoroutine = false) (hgen : scope.isGenerator = false)
    (h : ∀ C fs, C.Ok 5 → FrOk C fs → C.env.scope = scope → C.env.cells = clos → RE C [] (tab ++ (joinedC L g.W (some (.tup [endP e1, endP e2, .int dl])) ++ WS g)) fs body (.ref 44) (tab ++ (joinedC L g.W (some (.tup [endP e1, endP e2, .int dl])) ++ WS g))) :
    RT (.obj o) [] (tab ++ (joinedC L g.W (some (.tup [endP e1, endP e2, .int dl])) ++ WS g)) 6 (.ref 44) := RT.lam ho ht hk hcell hco hgen h
inductive JEnd (src L W : Addr) (fs : Store) (fl : Fl) (σ' : Store) : Prop
  | mk (tab' : Store) (a' b' : Int) (fa : Addr) (fr : List (Int × Int)) (rw : Addr) (rws : List (Addr × WireD)) (o : Option PV) (g : GW) (n : Nat) (e : fl = .ret (.ref rw)) (ht : TabS 265 joinedPos joinedQ tab') (h0 : 0 ≤ b') (h1 : b' < 2147483648)
      (hj : JOk W n g rws fr) (h2 : 2 ≤ n) (h3 : n ≤ 5) (hs : σ' = jS src a' b' fa fr rw rws L W o g (tab' ++ fs))
inductive JCut (ρ₀ : Locs) (src fa rw L W : Addr) (E : Store) (ρ : Locs) (σ : Store) : Prop
  | mk (sub : Sub ρ₀ ρ) (a' b' : Int) (fr : List (Int × Int)) (rws : List (Addr × WireD)) (g : GW) (n : Nat) (h0 : 0 ≤ b') (h1 : b' < 2147483648) (hj : JOk W n g rws fr) (h2 : 2 ≤ n) (h3 : n ≤ 5) (hs : σ = jS src a' b' fa fr rw rws L W none g E)
inductive JTurn (ρ₀ : Locs) (src fa rw L W : Addr) (E : Store) (v n : Nat) (ρ : Locs) (σ : Store) : Prop
  | mk (sub : Sub ρ₀ ρ) (a' b' : Int) (fr : List (Int × Int)) (rws : List (Addr × WireD)) (g : GW) (h0 : 0 ≤ b') (h1 : b' < 2147483648) (hj : JOk W n g rws fr) (h2 : n ≤ 2 + v) (hs : σ = jS src a' b' fa fr rw rws L W none g E)
inductive JWrong (ρ₀ : Locs) (src : Addr) (a' b' : Int) (fa : Addr) (fr : List (Int × Int)) (rw : Addr) (rws : List (Addr × WireD)) (L : Addr) (g : GW) (fs : Store) (ρ : Locs) (σ : Store) : Prop
  | mk (sub : Sub ρ₀ ρ) (tab' : Store) (o : Option PV) (ht : TabS 265 joinedPos joinedQ tab') (hs : σ = jS src a' b' fa fr rw rws L g.W o g (tab' ++ fs))
theorem joined_spec {src W R D F : Addr} {a b : Int} {tab : Store} (hb0 : 0 ≤ b) (hb : b < 2147483648) (ht : TabS 265 joinedPos joinedQ tab) :
    FT (.ref 268) [.ref src, .ref W] (tab ++ (srcS src a b ++ WS (g0 W R D F))) 9 fun p σ' => ∃ tab' rw rws g a' b', p = .ref rw ∧ TabS 265 joinedPos joinedQ tab' ∧ 0 ≤ b' ∧ b' < 2147483648 ∧ g.W = W ∧ g.fl = [] ∧ g.sent = 0 ∧ 2 ≤ g.ws.length ∧ g.ws.length ≤ 5 ∧ rws.map (·.2) = g.ws ∧ WsOk g.ws ∧
      σ' = tab' ++ (srcS src a' b' ++ (rowsS rw rws ++ WS g)) := by
  refine' FT.def (f := 268) (xs := [Str.ofString "source", Str.ofString "wires"]) ?d rfl ?h
  case d => walk_at "defC2"
  case h =>
  intro C L fs O F' hs hc hco
  have hc : C.env.cells = [(Str.ofString "wrong", L + 1), (Str.ofString "wires", L)] := hc
  have hcode := code_joined hco
  refine AX.conv (ρ := [(Str.ofString "source", .ref src)]) (σ := (joinedC L W none ++ (tab ++ (srcS src a b ++ WS (g0 W R D F)))) ++ fs) rfl rfl ?_
  have hp0 : ((joinedC L W none ++ (tab ++ (srcS src a b ++ WS (g0 W R D F)))) ++ fs).Perm ((src, .list [.int a, .int b]) :: (L + 1, .cell none) :: (L, .cell (some (.ref W))) :: (WS (g0 W R D F) ++ (tab ++ fs))) := by
    walk_at "perm"
  refine AX.le (Le.perm hp0) ?_
  refine AX.conseq (K := fun fl _ σ' => JEnd src L W fs fl σ') ?_ ?_
  case refine_2 =>
    rintro fl ρ' σ' ⟨tab', a', b', fa, fr, rw, rws, o, g, n, rfl, ht', hb1, hb2, hj, hn1, hn2, rfl⟩
    refine ⟨(tab' ++ (srcS src a' b' ++ (rowsS rw rws ++ WS g))) ++ fs, ?_, _, rfl, tab', rw, rws, g, a', b', rfl, ht', hb1, hb2, hj.gW, hj.fl, hj.sent, by rw [hj.len]; exact hn1, by rw [hj.len]; exact hn2, hj.rows, ⟨(List.nodup_append.mp hj.nd).1, fun e he => hj.sw e (List.mem_append_left _ he), hj.late⟩, rfl⟩
    refine (Le.cons _ (Le.dropH _ _)).trans ((Le.cons _ (Le.cons _ ((Le.dropH _ _).trans (Le.dropH _ _)))).trans (Le.perm ?_))
    walk_at "perm"
  refine AX.cut (fun ρ' σ' => ∃ rw fa, ρ' = [(Str.ofString "rows", .ref rw), (Str.ofString "free", .ref fa), (Str.ofString "source", .ref src)] ∧ σ' = (fa, .list (allEnds.map fun e => endP e)) :: (rw, .list []) :: (src, .list [.int a, .int b]) :: (L + 1, .cell none) :: (L, .cell (some (.ref W))) :: (WS (g0 W R D F) ++ (tab ++ fs))) ?_ ?_
  · refine AS.swap2 (x := Str.ofString "rows") (y := Str.ofString "free") O hs rfl rfl rfl rfl ?_
    refine AE.tuple (AL.cons (AE.list (AL.nil ⟨by simp, fun rw => ?_⟩)) (fun _ => rfl))
    walk_at "ae"
    refine AE.comp2 (cl := []) O (by rw [hc]; rfl) (by rw [relabel, hs]) rfl (by decide) (by decide) (fun _ => rfl) (fun _ _ => rfl) ?_
    walk_at "ae"
    refine AC.range1 fun t u v => ?_
    refine ⟨nums 0 4, fun _ => True, fun _ => nums 1 4, fun _ _ => true, fun x y => .tup [x, y], Iter.range (by decide) (by decide) (by decide) (by decide), fun _ _ => trivial, by decide, fun acc => ⟨_, _, Fz.keep _ _, ?fin⟩, ?st⟩
    case fin =>
      walk_at "ae"
      exact ⟨_, _, rfl, rfl, rw, acc, rfl, rfl⟩
    case st =>
      intro acc ys x hx C2 O2 hs2 hc2
      walk_at "ae"
      refine ⟨rfl, ?_⟩
      walk_at "ae"
      refine AC.range2 fun t u v => ?_
      refine ⟨rfl, fun _ => True, Iter.range (by decide) (by decide) (by decide) (by decide), fun _ => trivial, ?_⟩
      intro ys y hy C3 O3 hs3 hc3
      walk_at "ae"
      refine ⟨by walk_at "sub", ?_⟩
      simp only [ATs]
      refine ⟨trivial, trivial, fun _ => ?_⟩
      walk_at "ae"
      exact ⟨rfl, rfl⟩
  rintro ρ' σ' ⟨rw, fa, rfl, rfl⟩
  refine AX.le (Le.perm (σ' := jS src a b fa allEnds rw [] L W none (g0 W R D F) (tab ++ fs)) (by walk_at "perm")) ?_
  have hj0 : JOk W 0 (g0 W R D F) [] allEnds := ⟨rfl, rfl, rfl, rfl, rfl, rfl, by show List.Nodup allEnds; decide, by show ∀ e ∈ allEnds, 0 ≤ e.1 ∧ e.1 < 4; decide, fun _ h => nomatch h⟩
  let ρ₀ : Locs := [(Str.ofString "rows", .ref rw), (Str.ofString "free", .ref fa), (Str.ofString "source", .ref src)]
  refine AX.cut (JCut ρ₀ src fa rw L W (tab ++ fs)) ?_ ?_
  · refine AS.forIn (n := 0) ?_ (fun _ => rfl) O.hh
    walk_at "ae"
    refine AC.use (σ₁ := srcS src a b) O (take_any (top := 4) (by (first | lia | omega)) (by (first | lia | omega)) hb0 hb) (by (first | lia | omega)) (Le.refl _) ?_
    rintro p σ' ⟨v, rfl, hv, a1, b1, rfl, hb1, hb2⟩
    refine ⟨_, Le.refl _, ?_⟩
    walk_at "ae"
    refine AC.range1 fun t u w => ?_
    have e2 : ((2 : Int) + (v : Int)) = ((2 + v : Nat) : Int) := by (first | lia | omega)
    rw [e2]
    refine ForK.mk (fun d ρ σ => JTurn ρ₀ src fa rw L W (tab ++ fs) v d.length ρ σ) (Iter.range (by decide) (by decide) (by (first | lia | omega)) (by (first | lia | omega))) (trivial) (⟨Sub.refl _, a1, b1, allEnds, [], g0 W R D F, hb1, hb2, hj0, by simp, rfl⟩) ?_ ?_ ?_
    · rintro ρ σ ⟨sub, a', b', fr, rws, g, h1, h2, h3, h4, rfl⟩
      have hl : (nums 0 ((2 + v : Nat) : Int)).length = 2 + v := by simp [nums]; (first | lia | omega)
      rw [hl] at h3
      exact ⟨rfl, sub, a', b', fr, rws, g, _, h1, h2, h3, by (first | lia | omega), by (first | lia | omega), rfl⟩
    · rintro d ρ σ ⟨_, a', b', fr, rws, g, _, _, _, _, rfl⟩
      trivial
    · rintro d x r hl J I₀ ρ σ ⟨sub, a', b', fr, rws, g, h1, h2, hj, h4, rfl⟩
      refine AG.locs sub ?_
      have hdl : d.length < 2 + v := by
        have := congrArg List.length hl
        simp [nums] at this
        (first | lia | omega)
      obtain ⟨C', hC⟩ : ∃ C', C' = C.jj J I₀ := ⟨_, rfl⟩
      rw [← hC]
      have O' : C'.Ok 8 := by rw [hC]; exact O.jj J I₀
      have hE : C'.env = C.env := by rw [hC]
      have hs' := hs
      have hc' := hc
      rw [← hE] at hs' hc'
      clear hC O hs hE hc
      have hfree := hj.free
      have hfl : 4 ≤ fr.length := by (first | lia | omega)
      walk_at "ae"
      refine AC.use (σ₁ := srcS src a' b') O' (take_any (top := (fr.map fun e => endP e).length) (by rw [List.length_map]; (first | lia | omega)) (by rw [List.length_map]; (first | lia | omega)) h1 h2) (by (first | lia | omega)) (Le.refl _) ?_
      rintro p σ' ⟨i, rfl, hi, a2, b2, rfl, hb3, hb4⟩
      refine ⟨_, Le.refl _, ?_⟩
      rw [List.length_map] at hi
      walk_at "ae"
      obtain ⟨sp1, sp2⟩ := pop_split hi
      rw [sp1]
      refine AC.pop (q₁ := (fr.take i).map fun e => endP e) (q₂ := (fr.drop (i + 1)).map fun e => endP e) (p := endP fr[i]) (.tail .head) (by rw [List.length_map, List.length_take]; (first | lia | omega)) (by simp; (first | lia | omega)) ?_
      rw [sp2]
      have hl1 : (fr.eraseIdx i).length + 1 = fr.length := by rw [List.length_eraseIdx_of_lt hi]; (first | lia | omega)
      walk_at "ae"
      refine AC.use (σ₁ := srcS src a2 b2) O' (take_any (top := ((fr.eraseIdx i).map fun e => endP e).length) (by rw [List.length_map]; (first | lia | omega)) (by rw [List.length_map]; (first | lia | omega)) hb3 hb4) (by (first | lia | omega)) (Le.refl _) ?_
      rintro p σ' ⟨j, rfl, hjj, a3, b3, rfl, hb5, hb6⟩
      refine ⟨_, Le.refl _, ?_⟩
      rw [List.length_map] at hjj
      walk_at "ae"
      obtain ⟨sp3, sp4⟩ := pop_split hjj
      rw [sp3]
      refine AC.pop (q₁ := ((fr.eraseIdx i).take j).map fun e => endP e) (q₂ := ((fr.eraseIdx i).drop (j + 1)).map fun e => endP e) (p := endP (fr.eraseIdx i)[j]) (.tail .head) (by rw [List.length_map, List.length_take]; (first | lia | omega)) (by simp; (first | lia | omega)) ?_
      rw [sp4]
      walk_at "ae"
      refine AE.lst ?_
      walk_at "ae"
      refine AC.use (σ₁ := srcS src a3 b3) O' (one_any (by simp) (by simp) hb5 hb6) (by (first | lia | omega)) (Le.refl _) ?_
      rintro p σ' ⟨hp, a4, b4, rfl, hb7, hb8⟩
      refine ⟨_, Le.refl _, ?_⟩
      obtain ⟨late, rfl, hlate⟩ : ∃ late : Int, p = .int late ∧ 0 ≤ late := by
        simp at hp
        rcases hp with rfl | rfl | rfl | rfl | rfl <;> exact ⟨_, rfl, by decide⟩
      have hgW := hj.gW
      have hrows := hj.rows
      have hglen := hj.len
      have hrl : rws.length = g.ws.length := by rw [← hrows, List.length_map]
      have hn1 := hj.fresh (e := fr[i]) (List.getElem_mem hi)
      have hn2 : (kvsW 0 g.ws).lookup (endK (fr.eraseIdx i)[j]) = none := hj.fresh (List.mem_of_mem_eraseIdx (List.getElem_mem hjj))
      have hne : fr[i] ≠ (fr.eraseIdx i)[j] := by
        intro e
        have nd : fr.Nodup := (List.nodup_append.mp hj.nd).2.1
        have := (erase_perm hi).nodup_iff.mpr nd
        rw [List.nodup_cons] at this
        exact this.1 (by rw [e]; exact List.getElem_mem hjj)
      have hmem : (W, AObj.inst 184 (wiresF g)) ∈ srcS src a4 b4 ++ (fa, AObj.list (((fr.eraseIdx i).eraseIdx j).map fun e => endP e)) :: (rw, AObj.list (rws.map fun r => PV.ref r.1)) :: (L + 1, AObj.cell none) :: (L, AObj.cell (some (PV.ref W))) :: (rws.map rowObj ++ (WS g ++ (tab ++ fs))) := by
        rw [← hgW]; simp
      walk_at "ae"
      rw [← hgW]
      refine AC.use (σ₁ := WS g) (φ := (src, .list [.int a4, .int b4]) :: (fa, AObj.list (((fr.eraseIdx i).eraseIdx j).map fun e => endP e)) :: (rw, AObj.list (rws.map fun r => PV.ref r.1)) :: (L + 1, AObj.cell none) :: (L, AObj.cell (some (PV.ref g.W))) :: (rws.map rowObj ++ (tab ++ fs))) O' (join_spec (by (first | lia | omega)) hne hn1 hn2 hlate) (by (first | lia | omega)) (Le.perm (by walk_at "perm")) ?_
      rintro p σ' ⟨rfl, x', ep, rfl⟩
      refine ⟨jS src a4 b4 fa ((fr.eraseIdx i).eraseIdx j) rw rws L g.W none { g with ws := g.ws ++ [newW x' fr[i] (fr.eraseIdx i)[j] late], ep := ep } (tab ++ fs), Le.perm (by walk_at "perm"), ?_⟩
      have hj' : ∀ y, JOk g.W (d.length + 1) _ _ _ := fun y => by rw [hgW]; exact hj.join hi hjj (x := x') (y := y) (ep := ep) hlate
      walk_at "ae"
      rw [List.length_map, hrl, decide_eq_false (fun h => h rfl)]
      refine ⟨(fun h => nomatch h), fun _ => ?_⟩
      refine AX.nil ?_
      try dsimp only
      refine AX.conseq (K := fun fl ρ'' σ'' => fl = .next ∧ Sub ρ₀ ρ'' ∧ ∃ y, σ'' = (y, AObj.list (rowL (newW x' fr[i] (fr.eraseIdx i)[j] late))) :: (src, .list [.int a4, .int b4]) :: (fa, AObj.list (((fr.eraseIdx i).eraseIdx j).map fun e => endP e)) ::
        (rw, AObj.list ((rws.map fun r => PV.ref r.1) ++ [.ref y])) :: (L + 1, AObj.cell none) :: (L, AObj.cell (some (PV.ref g.W))) :: (rws.map rowObj ++ (WS { g with ws := g.ws ++ [newW x' fr[i] (fr.eraseIdx i)[j] late], ep := ep } ++ (tab ++ fs)))) ?_ ?_
      case refine_2 =>
        rintro fl ρ'' σ'' ⟨rfl, sub'', y, rfl⟩
        refine ⟨jS src a4 b4 fa ((fr.eraseIdx i).eraseIdx j) rw (rws ++ [(y, newW x' fr[i] (fr.eraseIdx i)[j] late)]) L g.W none { g with ws := g.ws ++ [newW x' fr[i] (fr.eraseIdx i)[j] late], ep := ep } (tab ++ fs), Le.perm ?_, sub'', a4, b4, (fr.eraseIdx i).eraseIdx j, rws ++ [(y, newW x' fr[i] (fr.eraseIdx i)[j] late)], { g with ws := g.ws ++ [newW x' fr[i] (fr.eraseIdx i)[j] late], ep := ep }, hb7, hb8, ?_, ?_, rfl⟩
        · rw [jS, List.map_append (f := rowObj), List.map_append (f := fun r : Addr × WireD => PV.ref r.1)]
          generalize WS { g with ws := g.ws ++ [newW x' fr[i] (fr.eraseIdx i)[j] late], ep := ep } = Wst
          have er : rowObj (y, newW x' fr[i] (fr.eraseIdx i)[j] late) = (y, AObj.list (rowL (newW x' fr[i] (fr.eraseIdx i)[j] late))) := rfl
          rw [List.map_cons (f := rowObj), er]
          walk_at "perm"
        · rw [List.length_append, List.length_singleton]; exact hj' y
        · rw [List.length_append, List.length_singleton]; (first | lia | omega)
      walk_at "ae"
      refine AE.list ?_
      walk_at "ae"
      intro y
      walk_at "ae"
      refine AC.append (l := rws.map fun r => PV.ref r.1) (.tail (.tail (.tail .head))) (by rw [List.length_map]; (first | lia | omega)) ?_
      walk_at "ae"
      exact ⟨rfl, by walk_at "sub", y, rfl⟩
  rintro ρ' σ' ⟨sub, a', b', fr, rws, g, n, hb1, hb2, hj, hn1, hn2, rfl⟩
  refine AX.locs sub ?_
  have hgW := hj.gW
  subst hgW
  have hfree := hj.free
  have hrows := hj.rows
  have hglen := hj.len
  have hrl : rws.length = g.ws.length := by rw [← hrows, List.length_map]
  obtain ⟨r0, hr0⟩ : ∃ r, rws[0]? = some r := ⟨rws[0]'(by (first | lia | omega)), List.getElem?_eq_getElem _⟩
  obtain ⟨r1, hr1⟩ : ∃ r, rws[1]? = some r := ⟨rws[1]'(by (first | lia | omega)), List.getElem?_eq_getElem _⟩
  obtain ⟨f0, hf0⟩ : ∃ r, fr[0]? = some r := ⟨fr[0]'(by (first | lia | omega)), List.getElem?_eq_getElem _⟩
  obtain ⟨f1, hf1⟩ : ∃ r, fr[1]? = some r := ⟨fr[1]'(by (first | lia | omega)), List.getElem?_eq_getElem _⟩
  have hg0 : g.ws[0]? = some r0.2 := by rw [← hrows, List.getElem?_map, hr0]; rfl
  have hg1 : g.ws[1]? = some r1.2 := by rw [← hrows, List.getElem?_map, hr1]; rfl
  have hndE : (endsW g.ws).Nodup := (List.nodup_append.mp hj.nd).1
  have isS : ∀ {e : Int × Int} {i : Nat} {d : WireD}, g.ws[i]? = some d → (e = d.one ∨ e = d.other) → ((kvsW 0 g.ws).lookup (endK e)).isSome = true := by
    intro e i d h he
    have := rowAt_lookup e g.ws 0
    rw [rowAt_self 0 hndE h he] at this
    have h2 : (kvsW 0 g.ws).lookup (endK e) = some (((0 + i : Nat) : Int)) := this
    rw [h2]; rfl
  have hm0 : (r0.1, AObj.list (rowL r0.2)) ∈ jS src a' b' fa fr rw rws L g.W none g (tab ++ fs) := .tail _ (.tail _ (.tail _ (.tail _ (.tail _ (List.mem_append_left _ (List.mem_map_of_mem (f := rowObj) (List.mem_of_getElem? hr0)))))))
  have hm1 : (r1.1, AObj.list (rowL r1.2)) ∈ jS src a' b' fa fr rw rws L g.W none g (tab ++ fs) := .tail _ (.tail _ (.tail _ (.tail _ (.tail _ (List.mem_append_left _ (List.mem_map_of_mem (f := rowObj) (List.mem_of_getElem? hr1)))))))
  have hRw : (rw, AObj.list (rws.map fun r => PV.ref r.1)) ∈ jS src a' b' fa fr rw rws L g.W none g (tab ++ fs) := .tail _ (.tail _ (.head _))
  have hFa : (fa, AObj.list (fr.map fun e => endP e)) ∈ jS src a' b' fa fr rw rws L g.W none g (tab ++ fs) := .tail _ (.head _)
  refine AX.cut (JWrong ρ₀ src a' b' fa fr rw rws L g fs) ?_ ?_
  · refine AS.forIn (n := 0) ?_ (fun _ => rfl) O.hh
    refine AE.lst ?_
    walk_at "ae"
    refine AI.list (l := rws.map fun r => PV.ref r.1) (p := .ref r0.1) hRw (by (first | lia | omega)) (by (first | lia | omega)) (by simp [hr0]) ?_
    walk_at "ae"
    refine AI.list (l := fr.map fun e => endP e) (p := endP f0) hFa (by (first | lia | omega)) (by (first | lia | omega)) (by simp [hf0]) ?_
    walk_at "ae"
    refine AI.list (l := fr.map fun e => endP e) (p := endP f0) hFa (by (first | lia | omega)) (by (first | lia | omega)) (by simp [hf0]) ?_
    walk_at "ae"
    refine AI.list (l := fr.map fun e => endP e) (p := endP f0) hFa (by (first | lia | omega)) (by (first | lia | omega)) (by simp [hf0]) ?_
    walk_at "ae"
    refine AI.list (l := fr.map fun e => endP e) (p := endP f0) hFa (by (first | lia | omega)) (by (first | lia | omega)) (by simp [hf0]) ?_
    walk_at "ae"
    refine AI.list (l := rws.map fun r => PV.ref r.1) (p := .ref r1.1) hRw (by (first | lia | omega)) (by (first | lia | omega)) (by simp [hr1]) ?_
    walk_at "ae"
    refine AI.list (l := fr.map fun e => endP e) (p := endP f0) hFa (by (first | lia | omega)) (by (first | lia | omega)) (by simp [hf0]) ?_
    walk_at "ae"
    refine AI.list (l := fr.map fun e => endP e) (p := endP f1) hFa (by (first | lia | omega)) (by (first | lia | omega)) (by simp [hf1]) ?_
    walk_at "ae"
    refine ForK.mk (fun _ ρ σ => JWrong ρ₀ src a' b' fa fr rw rws L g fs ρ σ) (Iter.lst) (trivial) (⟨Sub.refl _, tab, none, ht, rfl⟩) ?_ ?_ ?_
    · rintro ρ σ ⟨sub, tab', o, ht', rfl⟩
      exact ⟨rfl, sub, tab', o, ht', rfl⟩
    · rintro d ρ σ ⟨_, tab', o, _, rfl⟩
      trivial
    · rintro d x r hl J I₀ ρ σ ⟨sub, tab', o, ht', rfl⟩
      refine AG.locs sub ?_
      obtain ⟨e1, e2, dl, rfl, hwr⟩ : WrongP g x := by
        have hx : x ∈ [PV.tup [endP r0.2.one, endP f0, .int 1], .tup [endP f0, endP f0, .int 1], .tup [endP f0, endP r1.2.other, .int 0], .tup [endP f0, endP f1, .int (-1)]] := by
          rw [hl]; simp
        simp only [List.mem_cons, List.not_mem_nil, or_false] at hx
        rcases hx with rfl | rfl | rfl | rfl
        · exact ⟨_, _, _, rfl, .inr (.inl (isS hg0 (.inl rfl)))⟩
        · exact ⟨_, _, _, rfl, .inl rfl⟩
        · exact ⟨_, _, _, rfl, .inr (.inr (.inl (isS hg1 (.inr rfl))))⟩
        · exact ⟨_, _, _, rfl, .inr (.inr (.inr (by decide)))⟩
      have Fj := F'.jj J I₀
      obtain ⟨C', hC⟩ : ∃ C', C' = C.jj J I₀ := ⟨_, rfl⟩
      rw [← hC] at Fj ⊢
      have O' : C'.Ok 8 := by rw [hC]; exact O.jj J I₀
      have hE : C'.env = C.env := by rw [hC]
      have hs' := hs
      have hc' := hc
      have hcode' := hcode
      rw [← hE] at hs' hc' hcode'
      clear hC O hs hE hc hcode F'
      refine AG.cell O' hs' rfl (by rw [hc']; rfl) (p₀ := o) (.tail (.tail (.tail .head))) ?_
      walk_at "ae"
      refine AE.lamP (P := 265) (c := 267) (qual := joinedQ) (σ := jS src a' b' fa fr rw rws L g.W (some (.tup [endP e1, endP e2, .int dl])) g fs) O' hcode'.1 (by rw [hcode'.2]; rfl) (codeHd_267 _) (closureFor_of (by rw [hc']; rfl)) rfl (fun _ _ _ => rfl) ht' (Le.perm (by walk_at "perm")) fun tab2 o2 c' htab ho => ⟨jS src a' b' fa fr rw rws L g.W (some (.tup [endP e1, endP e2, .int dl])) g (tab2 ++ fs), Le.perm (by walk_at "perm"), ?_⟩
      walk_at "ae"
      refine AC.useF (φ := (src, .list [.int a', .int b']) :: (fa, .list (fr.map fun e => endP e)) :: (rw, .list (rws.map fun r => .ref r.1)) :: rws.map rowObj) O' Fj (refused_spec excFacts_44 (lam_joined (g := g) (L := L) (e1 := e1) (e2 := e2) (dl := dl) ho htab rfl (by decide) rfl rfl ?_) fun _ _ _ => Callee.lam ho) (by (first | lia | omega)) (Le.perm (by walk_at "perm")) ?_
      · intro C fs O F hs hc
        refine RE.meth (fun _ => rfl) (fun _ => rfl) (fun _ => rfl) ?_
        have hA : (L + 1, AObj.cell (some (.tup [endP e1, endP e2, .int dl]))) ∈ (tab2 ++ (joinedC L g.W (some (.tup [endP e1, endP e2, .int dl])) ++ WS g)) ++ fs := List.mem_append_left _ (List.mem_append_right _ (.head _))
        have hB : (L, AObj.cell (some (.ref g.W))) ∈ (tab2 ++ (joinedC L g.W (some (.tup [endP e1, endP e2, .int dl])) ++ WS g)) ++ fs := List.mem_append_left _ (List.mem_append_right _ (.tail _ (.head _)))
        have hW2 : (g.W, AObj.inst 184 (wiresF g)) ∈ (tab2 ++ (joinedC L g.W (some (.tup [endP e1, endP e2, .int dl])) ++ WS g)) ++ fs := List.mem_append_left _ (List.mem_append_right _ (.tail _ (.tail _ (.head _))))
        walk_at "ae"
        exact ⟨by walk_at "callee", RW.use (φ := tab2 ++ joinedC L g.W (some (.tup [endP e1, endP e2, .int dl]))) O F (join_raises (g := g) (a := e1) (b := e2) (d := dl) hwr) (by (first | lia | omega)) (Le.app (Le.perm pullB) fs) pullB.symm⟩
      · rintro p σ' ⟨rfl, rfl⟩
        refine ⟨jS src a' b' fa fr rw rws L g.W (some (.tup [endP e1, endP e2, .int dl])) g (tab2 ++ fs), Le.perm (by walk_at "perm"), ?_⟩
        walk_at "ae"
        exact ⟨by walk_at "sub", tab2, _, .inr ⟨c', htab⟩, rfl⟩
  rintro ρ' σ' ⟨sub, tab', o, ht', rfl⟩
  refine AX.locs sub ?_
  walk_at "ae"
  exact ⟨tab', a', b', fa, fr, rw, rws, o, g, n, rfl, ht', hb1, hb2, hj, hn1, hn2, rfl⟩
section
set_option maxHeartbeats 4000000
noncomputable abbrev g0' (W R D F : Addr) : GW := { W := W, R := R, D := D, F := F, ep := 0, ws := [], fl := [], sent := 0 }
noncomputable abbrev gA (W R D F x : Addr) (ep : Nat) (b : Bool) (s : Int) (l : List FlyD) : GW := { W := W, R := R, D := D, F := F, ep := ep, ws := [{ newW x (1, 1) (2, 1) 3 with whole := b }], fl := l, sent := s }
theorem hbo (hb : PyData.strOk "b" = true) : okDs 7 [PV.tup [.int 4, .tup [.int 1, .int 1], .str "b"]] = true := by
  show ((true && ((true && (true && true)) && (PyData.strOk "b" && true))) && true) = true
  rw [hb]; rfl
theorem small_spec : CT (.ref 309) [] [] 8 fun p σ' => p = .bool true ∧ σ' = [] := by
  refine CT.conseq (K := fun p σ' => p = .bool true) ?_ ?_
  case refine_2 =>
    rintro p σ' rfl
    exact ⟨[], Le.drop [] σ', rfl, rfl⟩
  refine' CT.def (f := 309) (xs := []) ?d rfl ?h
  case d => walk_at "defh"; exact vs0 fun _ => BindsTo.of_eq rfl
  case h =>
  intro C O hs hc
  have hb : PyData.strOk (Str.ofString "b") = true := by decide +kernel
  walk_at "ae"
  refine ((CT.of (wiresC (σ := []))) C _ (O.le (by (first | lia | omega)))).mono ?_
  rintro p σ' ⟨W, R, D, F, rfl, rfl⟩
  walk_at "ae"
  refine AC.use (σ₁ := WS (g0' W R D F)) (φ := []) O (join_spec (g := g0' W R D F) (a := (1, 1)) (b := (2, 1)) (late := 3) (by simp) (by decide) rfl rfl (by decide)) (by (first | lia | omega)) (Le.refl _) ?_
  rintro p σ' ⟨rfl, x, ep, rfl⟩
  refine ⟨WS (gA W R D F x ep true 0 []), Le.refl _, ?_⟩
  have hm : ∀ b s l, (W, AObj.inst 184 (wiresF (gA W R D F x ep b s l))) ∈ WS (gA W R D F x ep b s l) := fun _ _ _ => .head _
  walk_at "ae"
  refine AC.go O (send_some (g := gA W R D F x ep true 0 []) (e := (1, 1)) (r := (2, 1)) (th := .str "a") (now := 0) (i := 0) (d := newW x (1, 1) (2, 1) 3) (by simp) (by simp) (.inr ⟨0, newW x (1, 1) (2, 1) 3, rfl, rfl, rfl⟩) rfl rfl) (by (first | lia | omega)) ?_
  rintro p σ' ⟨rfl, rfl⟩
  refine AX.conv (ρ := [(Str.ofString "wires", .ref W)]) (σ := WS (gA W R D F x ep true 1 [{ time := 3, sent := 0, goal := (2, 1), number := 0, thing := .str "a" }])) rfl rfl ?_
  walk_at "ae"
  refine AC.go O (cut_spec (g := gA W R D F x ep true 1 [{ time := 3, sent := 0, goal := (2, 1), number := 0, thing := .str "a" }]) (i := 0) (d := newW x (1, 1) (2, 1) 3) rfl (by simp) (by simp) rfl) (by (first | lia | omega)) ?_
  rintro p σ' ⟨rfl, F', rfl⟩
  refine AX.conv (ρ := [(Str.ofString "wires", .ref W)]) (σ := WS (gA W R D F' x ep false 1 [])) rfl rfl ?_
  walk_at "ae"
  refine AC.go O (mend_spec (g := gA W R D F' x ep false 1 []) (i := 0) (d := { newW x (1, 1) (2, 1) 3 with whole := false }) rfl (by simp) rfl) (by (first | lia | omega)) ?_
  rintro p σ' ⟨rfl, rfl⟩
  refine AX.conv (ρ := [(Str.ofString "wires", .ref W)]) (σ := WS (gA W R D F' x ep true 1 [])) rfl rfl ?_
  walk_at "ae"
  refine AC.go O (send_some (g := gA W R D F' x ep true 1 []) (e := (2, 1)) (r := (1, 1)) (th := .str "b") (now := 1) (i := 0) (d := newW x (1, 1) (2, 1) 3) (by simp) (by simp) (.inr ⟨0, newW x (1, 1) (2, 1) 3, rfl, rfl, rfl⟩) rfl rfl) (by (first | lia | omega)) ?_
  rintro p σ' ⟨rfl, rfl⟩
  refine AX.conv (ρ := [(Str.ofString "wires", .ref W)]) (σ := WS (gA W R D F' x ep true 2 [{ time := 4, sent := 1, goal := (1, 1), number := 0, thing := .str "b" }])) rfl rfl ?_
  walk_at "ae"
  refine AC.go O (arrivals_spec (g := gA W R D F' x ep true 2 [{ time := 4, sent := 1, goal := (1, 1), number := 0, thing := .str "b" }]) (now := 9) (by simp) (fun f hf => by rw [List.mem_singleton.mp hf]; exact hb)) (by (first | lia | omega)) ?_
  rintro p σ' ⟨D', rfl, rfl⟩
  walk_at "ae"
  refine AE.lst ?_
  walk_at "ae"
  refine AO2.eqL O (l := [PV.tup [.int 4, .tup [.int 1, .int 1], .str "b"]]) (.head _) (hbo hb) (hbo hb) ?_
  have e : PyData.eqv (.list (toDs [PV.tup [.int 4, .tup [.int 1, .int 1], .str "b"]])) (toD (.lst [PV.tup [.int 4, .tup [.int 1, .int 1], .str "b"]])) = true := eqv_self (p := .lst [PV.tup [.int 4, .tup [.int 1, .int 1], .str "b"]]) (hbo hb)
  rw [e]
end
section
set_option maxHeartbeats 4000000
theorem AC.defP (P : Heap → Prop) (hP : ∀ h h' : Heap, (∀ b o, h.get? b = some o → h'.get? b = some o) → P h → P h') {f : Addr} {xs : List Str} {body : List Stmt} {sc : Scope} (d : Def f xs body sc) {ps : List PV} {σ : Store} {n : Nat} {K : PV → Store → Prop} (hl : ps.length = xs.length)
    {C : Ctx} {ρ : Locs} (O : C.Ok (n + 1)) (p0 : P C.h₀) (h : ∀ C', C'.Ok n → C'.env.scope = sc → C'.env.cells = [] → P C'.h₀ → AX C' (xs.zip ps) σ body (RetK K)) : AC C ρ σ (.ref f) ps K := by
  intro τ s vf vs Q E J hf ha q
  cases J.getVal hf
  obtain ⟨m, S, I, D⟩ := J
  obtain ⟨oc, od, osl, name, qual, params, dV, kV, doc, pm, an, cdv, ct, ho, hcd, hb⟩ := d.ex C.w
  obtain ⟨_, _, _, _, _, T⟩ := O.T
  have X := O.X.keeps D.F.keep
  have hva := ha.rep D
  refine wpAny_call (codeAny_call_def (fd := fnX name qual params body sc [] dV kV doc pm an cdv ct) (body := body) (binds := xs.zip vs) (by have := O.depth; show C.A.depth < 1000; (first | lia | omega)) (X _ _ ho) rfl (T.nolimit.keeps D.F.keep) (codeRec_of X hcd) rfl
    (hb vs (by rw [ha.length, hl]) s X) d.nocell (fun y hy => d.loc _ (List.of_mem_zip hy).1) (fun h₁ hns hk => ?_) d.co d.gen d.kind)
  let env := callEnv (fnX name qual params body sc [] dV kV doc pm an cdv ct) s.heap.objs.size f
  have O' := O.into D (env := env) rfl d.kind rfl rfl
  have D' := D.into (env := env) (τ' := []) (ρ' := xs.zip ps) (tk := s.toks + (xs.zip vs).length) rfl hns hk (fun x p e => by
    obtain ⟨v, e', r⟩ := lookup_zip_rep hva e
    exact ⟨v, (lookup_zip_rev d.nd (by rw [ha.length, hl]) x).trans e', r⟩) (fun _ h => nomatch h)
  have go : ∀ v p ρ' σ' s', K p σ' → Inv (C.into env s.heap ((S ++ (C.J ++ I)).map (·.1)) I) ρ' σ' [(v, p)] s' → Q v s' := by
    intro v p ρ' σ' s' k J'
    obtain ⟨m', S', I', D''⟩ := J'
    exact q v p σ' s' k ⟨m, S', I', D.back D''⟩
  refine h _ O' rfl rfl (hP _ _ D.stays p0) _ _ _ ⟨_, S, I, D'⟩ ⟨fun ρ' σ' s' k J' => ?_, fun ρ' σ' s' k J' => ?_, fun ρ' σ' s' k J' => ?_, fun v p ρ' σ' s' k J' => ?_⟩
  · exact go _ .none ρ' σ' s' k (J'.push fun _ => .val _)
  · exact go _ .none ρ' σ' s' k (J'.push fun _ => .val _)
  · exact go _ .none ρ' σ' s' k (J'.push fun _ => .val _)
  · exact go v p ρ' σ' s' k J'
section
variable {C : Ctx} {ρ : Locs} {σ : Store} {a : Addr} {vs : List Value} {ns : List Int} {K : PV → Store → Prop}
theorem AC.lenH (hl : C.h₀.IsList a vs.toArray) (hz : vs.length ≤ 1000) (k : K (.int vs.length) σ) : AC C ρ σ (.val (.builtin "len")) [.ref a] K := by
  intro τ s vf vs' Q E J hf ha q
  cases J.getVal hf
  obtain ⟨v1, rfl, h1⟩ := ha.one
  cases J.getVal h1
  obtain ⟨m, S, I, D⟩ := J
  have hl' : s.heap.IsList a vs.toArray := let ⟨o, h1, r⟩ := hl; ⟨o, D.F.keep _ _ h1, r⟩
  refine call_len_list hl' (by rw [List.size_toArray]; (first | lia | omega)) ?_
  rw [List.size_toArray]
  exact q _ _ σ _ k (D.tok.more (.int _ _)).inv
theorem AI.listH {i : Nat} {x : Int} (hl : C.h₀.IsList a vs.toArray) (hi : IntsAre vs ns) (hx : ns[i]? = some x) (hz : i < 1000) (kk : K (.int x) σ) : AI C ρ σ (.ref a) (.int i) K := by
  intro τ s value slice vo vi Q E hs J ho hi' q
  cases J.getVal ho
  obtain ⟨t, rfl⟩ := J.getInt hi'
  obtain ⟨m, S, I, D⟩ := J
  have hl' : s.heap.IsList a vs.toArray := let ⟨o, h1, r⟩ := hl; ⟨o, D.F.keep _ _ h1, r⟩
  have hv : VAll I vs (ns.map .int) := VAll.ofInts hi
  obtain ⟨v, hv', r⟩ := hv.get (k := i) (p := .int x) (by rw [List.getElem?_map, hx]; rfl)
  exact tail_any hl'.typeIs slot_list_getitem.lookup (wpAny_getItem_list hl' (by (first | lia | omega)) (by (first | lia | omega)) (by simpa using hv') (q _ _ σ _ kk (D.more r).inv)) hs
theorem pool_spec {σ : Store} (O : C.Ok 2) (hl : C.h₀.IsList a vs.toArray) (hi : IntsAre vs ns) (hn : ns.length ≤ 63) :
    AC C ρ σ (.ref 242) [.ref a, .int 0] fun p σ' => ∃ D x y, p = .ref D ∧ σ' = srcS D x y ++ σ ∧ 0 ≤ y ∧ y < 2147483648 := by
  refine' AC.defP (n := 1) (f := 242) (xs := [Str.ofString "script", Str.ofString "k"]) (fun h => h.IsList a vs.toArray) (fun h h' k => fun ⟨o, h1, r⟩ => ⟨o, k _ _ h1, r⟩) ?d rfl O hl ?h
  case d => walk_at "def2"
  case h =>
  intro C' O hs hc hl
  have hlen : vs.length = ns.length := hi.length
  iterate 4 (walk_at "ae2"; (try dsimp only))
  refine AX.cut (fun ρ' σ' => ∃ c : Int, Sub ((Str.ofString "cell", PV.int c) :: [Str.ofString "script", Str.ofString "k"].zip [PV.ref a, PV.int 0]) ρ' ∧ σ' = σ) ?_ ?_
  · walk_at "ae"
    refine AC.lenH hl (by (first | lia | omega)) ?_
    walk_at "ae"
    refine ⟨fun hb => ?_, fun hb => ?_⟩
    · have hb := of_decide_eq_true hb
      obtain ⟨x, hx⟩ : ∃ x, ns[0]? = some x := ⟨ns[0]'(by (first | lia | omega)), List.getElem?_eq_getElem _⟩
      walk_at "ae"
      refine AI.listH (i := 0) hl hi hx (by (first | lia | omega)) ?_
      walk_at "ae"
      refine ⟨rfl, x, ?_, rfl⟩
      intro y q hy
      rw [List.lookup_cons] at hy ⊢
      cases hyc : (y == Str.ofString "cell") with
      | true => rw [hyc] at hy; exact hy
      | false => rw [hyc] at hy; rw [List.lookup_cons, hyc]; exact hy
    · walk_at "ae"
      exact ⟨rfl, 0, Sub.refl _, rfl⟩
  rintro ρ' σ' ⟨c, sub, rfl⟩
  refine AX.locs sub ?_
  walk_at "ae"
  generalize (if -1 - c > c then -1 - c else c) = big
  refine AO2.mul (IntMulOk.of_left (intBits_le_64 (by (first | lia | omega)) (by (first | lia | omega)))) ?_
  walk_at "ae"
  refine AO2.mul (IntMulOk.of_right (intBits_le_64 (by (first | lia | omega)) (by (first | lia | omega)))) ?_
  walk_at "ae"
  refine AO2.mul (IntMulOk.of_left (intBits_le_64 (by (first | lia | omega)) (by (first | lia | omega)))) ?_
  walk_at "ae"
  refine AO2.mul (IntMulOk.of_right (intBits_le_64 (by (first | lia | omega)) (by (first | lia | omega)))) ?_
  walk_at "ae"
  refine AE.list ?_
  walk_at "ae"
  refine AO2.pow (by decide) (by decide) (by decide) ?_
  walk_at "ae"
  refine AO2.mul (IntMulOk.of_right (intBits_le_64 (by split <;> (first | lia | omega)) (by split <;> (first | lia | omega)))) ?_
  walk_at "ae"
  intro D
  exact ⟨D, _, _, rfl, rfl, Int.fmod_nonneg_of_pos _ (by (first | lia | omega)), Int.lt_trans (Int.fmod_lt_of_pos _ (by (first | lia | omega))) (by (first | lia | omega))⟩
end
end
section
set_option maxHeartbeats 4000000
theorem call_defD {f : Addr} {xs : List Str} {body : List Stmt} {sc : Scope} (d : Def f xs body sc) {ps : List PV} {σ : Store} {n : Nat} {K : PV → Store → Prop} (hl : ps.length = xs.length)
    (h : ∀ C', C'.Ok n → C'.env.scope = sc → C'.env.cells = [] → AX C' (xs.zip ps) σ body (RetK K))
    {C : Ctx} {ρ : Locs} (O : C.Ok (n + 1)) {τ : Tmp} {s : Shared} {m : Str → Option Value} {S I : Led} (D : InvD C ρ σ τ s m S I) {vs : List Value} (ha : AllIn τ vs ps) {Q : Value → Shared → Prop} {E : Value → Shared → Prop}
    (q : ∀ v p σ' s' S' I', K p σ' → InvD C ρ σ' ((v, p) :: τ) s' m S' I' → Q v s') : wpAny C.M C.A (call (.ref f) vs) Q E s := by
  obtain ⟨oc, od, osl, name, qual, params, dV, kV, doc, pm, an, cdv, ct, ho, hcd, hb⟩ := d.ex C.w
  obtain ⟨_, _, _, _, _, T⟩ := O.T
  have X := O.X.keeps D.F.keep
  have hva := ha.rep D
  refine wpAny_call (codeAny_call_def (fd := fnX name qual params body sc [] dV kV doc pm an cdv ct) (body := body) (binds := xs.zip vs) (by have := O.depth; show C.A.depth < 1000; (first | lia | omega)) (X _ _ ho) rfl (T.nolimit.keeps D.F.keep) (codeRec_of X hcd) rfl
    (hb vs (by rw [ha.length, hl]) s X) d.nocell (fun y hy => d.loc _ (List.of_mem_zip hy).1) (fun h₁ hns hk => ?_) d.co d.gen d.kind)
  let env := callEnv (fnX name qual params body sc [] dV kV doc pm an cdv ct) s.heap.objs.size f
  have O' := O.into D (env := env) rfl d.kind rfl rfl
  have D' := D.into (env := env) (τ' := []) (ρ' := xs.zip ps) (tk := s.toks + (xs.zip vs).length) rfl hns hk (fun x p e => by
    obtain ⟨v, e', r⟩ := lookup_zip_rep hva e
    exact ⟨v, (lookup_zip_rev d.nd (by rw [ha.length, hl]) x).trans e', r⟩) (fun _ h => nomatch h)
  have go : ∀ v p ρ' σ' s', K p σ' → Inv (C.into env s.heap ((S ++ (C.J ++ I)).map (·.1)) I) ρ' σ' [(v, p)] s' → Q v s' := by
    intro v p ρ' σ' s' k J'
    obtain ⟨m', S', I', D''⟩ := J'
    exact q v p σ' s' S' I' k (D.back D'')
  refine h _ O' rfl rfl _ _ _ ⟨_, S, I, D'⟩ ⟨fun ρ' σ' s' k J' => ?_, fun ρ' σ' s' k J' => ?_, fun ρ' σ' s' k J' => ?_, fun v p ρ' σ' s' k J' => ?_⟩
  · exact go _ .none ρ' σ' s' k (J'.push fun _ => .val _)
  · exact go _ .none ρ' σ' s' k (J'.push fun _ => .val _)
  · exact go _ .none ρ' σ' s' k (J'.push fun _ => .val _)
  · exact go v p ρ' σ' s' k J'
theorem key_call {r : PRow} {C : Ctx} {ρ : Locs} {σ : Store} {τ : Tmp} {s : Shared} {m : Str → Option Value} {S I : Led} {v : Value} (O : C.Ok 1) (D : InvD C ρ σ τ s m S I) (hv : (v, planP r) ∈ τ) {Q : Value → Shared → Prop} {E : Value → Shared → Prop}
    (q : ∀ t s' S' I', InvD C ρ σ τ s' m S' I' → Q (.int r.t t) s') : wpAny C.M C.A (call (.ref 228) [v]) Q E s := by
  refine' call_defD (f := 228) (xs := [Str.ofString "row"]) (ps := [planP r]) (n := 0) (K := fun p σ' => p = .int r.t ∧ σ' = σ) ?d rfl ?h O D (.cons hv .nil) ?q
  case d => walk_at "def1"
  case h =>
    intro C O hs hc
    walk_at "ae"
    exact ⟨rfl, rfl⟩
  case q =>
    rintro v p σ' s' S' I' ⟨rfl, rfl⟩ D'
    have J := D'.inv
    obtain ⟨t, rfl⟩ := J.getInt (.head _)
    exact q t s' S' I' { D' with tmp := fun q hq => D'.tmp q (.tail _ hq) }
theorem dedup_names {L : Led} {h : Heap} (nd : (L.map (·.1)).Nodup) (hL : ∀ p ∈ L, h.get? p.1 = some p.2) : ∀ own : Led, (∀ p ∈ own, h.get? p.1 = some p.2) → ∃ own', ((L ++ own').map (·.1)).Nodup ∧ (∀ p ∈ own, p ∈ L ++ own') ∧ ∀ p ∈ own', p ∈ own
  | [], _ => ⟨[], by rw [List.append_nil]; exact nd, (fun _ h => nomatch h), fun _ h => h⟩
  | p :: own, ho => by
    obtain ⟨own', h1, h2, h3⟩ := dedup_names nd hL own fun q hq => ho q (.tail _ hq)
    by_cases hp : p.1 ∈ (L ++ own').map (·.1)
    · refine ⟨own', h1, fun q hq => ?_, fun q hq => .tail _ (h3 q hq)⟩
      rcases List.mem_cons.mp hq with rfl | hq
      · obtain ⟨x, hx, e⟩ := List.mem_map.mp hp
        have e1 : h.get? x.1 = some x.2 := by
          rcases List.mem_append.mp hx with hx | hx
          · exact hL x hx
          · exact ho x (.tail _ (h3 x hx))
        have e2 := ho q (.head _)
        have e' : x.1 = q.1 := e
        rw [← e', e1] at e2
        have : x = q := Prod.ext e' (Option.some.inj e2)
        rw [← this]; exact hx
      · exact h2 q hq
    · refine ⟨p :: own', ?_, fun q hq => ?_, fun q hq => ?_⟩
      · have pp : (L ++ p :: own').Perm (p :: (L ++ own')) := List.perm_middle
        rw [(pp.map _).nodup_iff, List.map_cons, List.nodup_cons]
        exact ⟨hp, h1⟩
      · rcases List.mem_cons.mp hq with rfl | hq
        · exact List.mem_append_right _ (.head _)
        · rcases List.mem_append.mp (h2 q hq) with h | h
          · exact List.mem_append_left _ h
          · exact List.mem_append_right _ (.tail _ h)
      · rcases List.mem_cons.mp hq with rfl | hq
        · exact .head _
        · exact .tail _ (h3 q hq)
noncomputable def raws (L : Led) : Store := L.map fun p => (p.1, .raw p.2)
theorem raws_sep {prog : Program} {w : World} {I : Led} : ∀ L : Led, Sep prog w I (raws L) L
  | [] => .nil
  | p :: L => .cons (own := [p]) .raw (raws_sep L)
theorem raws_inv {prog : Program} {w : World} {I : Led} : ∀ {L S : Led}, Sep prog w I (raws L) S → S = L
  | [], _, h => by cases h; rfl
  | p :: L, _, h => by
    cases h with
    | cons r k => cases r using ORep.casesRaw with
      | raw => rw [raws_inv k]; rfl
theorem ksk_turn {r : PRow} {C : Ctx} {ρ : Locs} {σ : Store} {τ : Tmp} {s : Shared} {m : Str → Option Value} {S I : Led} {v : Value} (O : C.Ok 1) (D : InvD C ρ σ τ s m S I) (hv : VRep I v (planP r)) {own : Led} {h : Heap} {tk : Nat}
    (F' : Fr C.h₀ C.env.locals h m) (N' : News C.h₀ C.env.locals h ((S ++ (C.J ++ I)) ++ own)) :
    wpAny C.M C.A (call (.ref 228) [v]) (KskEnd C.h₀ C.env.locals m ((S ++ (C.J ++ I)) ++ own) r.t { s with heap := h, toks := tk }) (fun _ _ => False) { s with heap := h, toks := tk } := by
  obtain ⟨own', h1, h2, h3⟩ := dedup_names D.nd (fun p hp => (N' p (List.mem_append_left _ hp)).1) own fun p hp => (N' p (List.mem_append_right _ hp)).1
  have hp : ((S ++ (C.J ++ I)) ++ own').Perm ((S ++ (C.J ++ own')) ++ ([] ++ I)) := by walk_at "perm"
  have D1 : InvD (C.jj [] I) [] (raws (S ++ (C.J ++ own'))) [(v, planP r)] { s with heap := h, toks := tk } m (S ++ (C.J ++ own')) I :=
    ⟨F', fun p hq => by
      rcases List.mem_append.mp (hp.mem_iff.mpr hq) with h | h
      · exact N' p (List.mem_append_left _ h)
      · exact N' p (List.mem_append_right _ (h3 p h)), (hp.map _).nodup_iff.mp h1, raws_sep _, fun _ h => h, (fun _ _ e => nomatch e), fun q hq => by rw [List.mem_singleton.mp hq]; exact hv, D.g, D.d, D.os⟩
  refine key_call (C := C.jj [] I) (r := r) (O.jj [] I) D1 (.head _) fun t s' S' I' D' => ?_
  have e := raws_inv D'.sep
  subst e
  refine ⟨s'.heap, s'.toks, t, ?_, rfl, D'.F, fun p hq => ?_⟩
  · have g1 := D'.g; have g2 := D'.d; have g3 := D'.os
    have k1 := D.g; have k2 := D.d; have k3 := D.os
    cases s'; cases s
    simp only at g1 g2 g3 k1 k2 k3 ⊢
    have a1 := g1.trans k1.symm
    have a2 := g2.trans k2.symm
    have a3 := g3.trans k3.symm
    subst a1; subst a2; subst a3; rfl
  · have hq' : p ∈ (S ++ (C.J ++ I)) ++ own' := by
      rcases List.mem_append.mp hq with h | h
      · exact List.mem_append_left _ h
      · exact h2 p h
    have hq2 := hp.mem_iff.mp hq'
    refine D'.N p ?_
    rcases List.mem_append.mp hq2 with h | h
    · exact List.mem_append_left _ h
    · exact List.mem_append_right _ (List.mem_append_right _ (D'.sub p (by simpa using h)))
end
section
set_option maxHeartbeats 4000000
noncomputable def tLt (t : Nat → Int) (i j : Nat) : Bool := decide (t i < t j)
theorem tLt_swo (t : Nat → Int) : SWO (tLt t) := by
  refine ⟨fun i => ?_, fun i j k h1 h2 => ?_, fun i j k h => ?_⟩
  · simp [tLt]
  · simp only [tLt, decide_eq_true_eq] at *; (first | lia | omega)
  · simp only [tLt, decide_eq_true_eq] at *; (first | lia | omega)
noncomputable def bucket (n : Nat) (t : Nat → Int) : List Nat := (List.range 10).flatMap fun k => (List.range n).filter fun i => decide (t i = ((k : Nat) : Int))
theorem Rr_anti {t : Nat → Int} {a b : Nat} (h1 : Rr (tLt t) a b) (h2 : Rr (tLt t) b a) : False := by
  obtain ⟨x1, x2⟩ := h1
  obtain ⟨y1, y2⟩ := h2
  simp only [tLt, decide_eq_false_iff_not, decide_eq_true_eq] at *
  (first | lia | omega)
theorem stab_idx {n : Nat} {t : Nat → Int} (h : ∀ i, i < n → 0 ≤ t i ∧ t i < 10) {p : Array Nat} (hp : POk n p) (up : Up (tLt t) p n) : p.toList = bucket n t := by
  have pw1 : p.toList.Pairwise (Rr (tLt t)) := up_pairwise hp fun a b hab hb => up a b hab hb
  have pw2 : (bucket n t).Pairwise (Rr (tLt t)) := by
    unfold bucket
    rw [List.pairwise_flatMap]
    refine ⟨fun k _ => ?_, ?_⟩
    · refine List.Pairwise.imp_of_mem ?_ (List.Pairwise.filter _ List.pairwise_lt_range)
      intro a b ha hb hab
      have h1 := of_decide_eq_true (List.mem_filter.mp ha).2
      have h2 := of_decide_eq_true (List.mem_filter.mp hb).2
      refine ⟨?_, .inr hab⟩
      simp only [tLt, decide_eq_false_iff_not]; (first | lia | omega)
    · refine List.Pairwise.imp ?_ List.pairwise_lt_range
      intro a b hab x hx y hy
      have h1 := of_decide_eq_true (List.mem_filter.mp hx).2
      have h2 := of_decide_eq_true (List.mem_filter.mp hy).2
      refine ⟨?_, .inl ?_⟩
      · simp only [tLt, decide_eq_false_iff_not]; (first | lia | omega)
      · simp only [tLt, decide_eq_true_eq]; (first | lia | omega)
  have nd1 : p.toList.Nodup := hp.list.nodup_iff.mpr List.nodup_range
  have nd2 : (bucket n t).Nodup := pw2.imp fun {a b} h e => by subst e; exact Rr_anti h h
  have perm : p.toList.Perm (bucket n t) := by
    rw [List.perm_ext_iff_of_nodup nd1 nd2]
    intro i
    rw [hp.list.mem_iff, List.mem_range]
    unfold bucket
    rw [List.mem_flatMap]
    constructor
    · intro hi
      have := h i hi
      exact ⟨(t i).toNat, List.mem_range.mpr (by (first | lia | omega)), List.mem_filter.mpr ⟨List.mem_range.mpr hi, by rw [decide_eq_true_eq]; (first | lia | omega)⟩⟩
    · rintro ⟨k, _, hi⟩
      exact List.mem_range.mp (List.mem_filter.mp hi).1
  exact perm.eq_of_pairwise (fun a b _ _ h1 h2 => (Rr_anti h1 h2).elim) pw1 pw2
theorem filt_range {α : Type} (l : List α) (d : α) (P : α → Bool) : ((List.range l.length).filter fun i => P (l.getD i d)).map (fun i => l.getD i d) = l.filter P := by
  conv => rhs; rw [← map_getD_range l d]
  rw [List.filter_map]; rfl
noncomputable def S10 (l : List PRow) : List PRow := (List.range 10).flatMap fun k => l.filter fun r => decide (r.t = ((k : Nat) : Int))
noncomputable def r00 : PRow := ⟨0, Str.empty, 0⟩
noncomputable abbrev tAt (rows : List PRow) (i : Nat) : Int := (rows.getD i r00).t
theorem bucket_rows (rows : List PRow) : (bucket rows.length (tAt rows)).map (fun i => rows.getD i r00) = S10 rows := by
  unfold bucket S10
  rw [List.map_flatMap]
  congr 1
  funext k
  exact filt_range rows r00 fun r => decide (r.t = ((k : Nat) : Int))
theorem stab_rows {rows : List PRow} (h : ∀ r ∈ rows, 0 ≤ r.t ∧ r.t < 10) {p : Array Nat} (hp : POk rows.length p) (up : Up (tLt (tAt rows)) p rows.length) : p.toList.map (fun i => (rows.map planP).getD i .none) = (S10 rows).map planP := by
  have hin : ∀ i ∈ p.toList, i < rows.length := fun i hi => List.mem_range.mp (hp.list.mem_iff.mp hi)
  have e := stab_idx (t := tAt rows) (fun i hi => h _ (by
    have : rows.getD i r00 = rows[i] := by rw [List.getD_eq_getElem?_getD, List.getElem?_eq_getElem hi]; rfl
    rw [this]; exact List.getElem_mem _)) hp up
  rw [← bucket_rows, ← e, List.map_map]
  refine List.map_congr_left fun i hi => ?_
  have hi := hin i hi
  show (rows.map planP).getD i .none = planP (rows.getD i r00)
  rw [List.getD_eq_getElem?_getD, List.getD_eq_getElem?_getD, List.getElem?_map, List.getElem?_eq_getElem hi]; rfl
theorem S10_few {rows : List PRow} (h : ∀ r ∈ rows, 0 ≤ r.t ∧ r.t < 10) (hl : rows.length < 2) : (S10 rows).map planP = rows.map planP := by
  match rows, hl with
  | [], _ => rfl
  | [r], _ =>
    have e := stab_rows (rows := [r]) h (p := #[0]) ⟨Array.Perm.refl _⟩ fun a b hab hb => absurd hb (by simp; (first | lia | omega))
    rw [← e]; rfl
  | _ :: _ :: _, hl => simp at hl; (first | lia | omega)
theorem IntsAre.getT {vs : List Value} {ns : List Int} (h : IntsAre vs ns) : ∀ {i : Nat}, i < vs.length → ∃ t, vs.getD i .none = .int (ns.getD i 0) t := by
  induction h with
  | nil => intro i hi; simp at hi
  | cons n t r ih =>
    intro i hi
    cases i with
    | zero => exact ⟨t, rfl⟩
    | succ i => exact ih (by simpa using hi)
end
section
set_option maxHeartbeats 4000000
section
variable {C : Ctx} {ρ : Locs} {σ : Store} {τ : Tmp} {m : Str → Option Value}
theorem InvD.reRaw {s : Shared} {S I : Led} {e : Addr} {o o' : Obj} {ao : AObj} (D : InvD C ρ ((e, .raw o) :: σ) τ s m ((e, o) :: S) I) {h' : Heap} {tk : Nat} (F' : Fr C.h₀ C.env.locals h' m) (N' : News C.h₀ C.env.locals h' ((e, o') :: (S ++ (C.J ++ I)))) (hr : ORep C.prog C.w I e ao [(e, o')]) :
    InvD C ρ ((e, ao) :: σ) τ { s with heap := h', toks := tk } m ((e, o') :: S) I := by
  obtain ⟨S', e1, D', -⟩ := D.raw1
  obtain rfl := (List.cons.inj e1).2
  exact D'.growS (own := [(e, o')]) F' N' D.nd hr
theorem keys_go (O : C.Ok 1) {kS Dd : Addr} {od : Obj} {Fin : List Value → Nat → Shared → Prop} : ∀ (rs : List PRow) (vs ks : List Value) (dn : List Int) (e : Nat) (s : Shared) (S I : Led),
    InvD C ρ ((kS, .raw (seqObj "list" (List.toArray ks) e)) :: (Dd, .raw od) :: σ) τ s m S I → AllIn τ vs (rs.map planP) → IntsAre ks dn →
    (∀ ks' e' s' S' I', InvD C ρ ((kS, .raw (seqObj "list" (List.toArray ks') e')) :: (Dd, .raw od) :: σ) τ s' m S' I' → IntsAre ks' (dn ++ rs.map (·.t)) → Fin ks' e' s') →
    KatKeys C.prog C.w C.A C.h₀ C.env.locals m kS (.ref 228) Fin vs ks e s
  | [], vs, ks, dn, e, s, S, I, D, ha, hk, fin => by
    cases ha
    exact KatKeys.nil (fin ks e s S I D (by rw [List.map_nil, List.append_nil]; exact hk))
  | r :: rs, vs, ks, dn, e, s, S, I, D, ha, hk, fin => by
    cases ha with
    | cons h1 ha =>
      refine KatKeys.cons (key_call O D h1 fun t s' S' I' D' => ?_)
      obtain ⟨S2, rfl, D2, -⟩ := D'.raw1
      have nd : ((kS, seqObj "list" (List.toArray ks) e) :: (S2 ++ (C.J ++ I'))).map (·.1) |>.Nodup := D'.nd
      have hne : ∀ p ∈ S2 ++ (C.J ++ I'), p.1 ≠ kS := fun p hp e => (List.nodup_cons.mp nd).1 (List.mem_map.mpr ⟨p, hp, e⟩)
      refine KatBack.intro D'.F D'.N (.head hne) fun h' c F2 N2 => ?_
      have D3 := D'.reRaw (tk := s'.toks) F2 N2 .raw
      refine keys_go O rs _ _ (dn ++ [r.t]) c _ _ _ D3 ha (ksk_snoc hk) fun ks' e' s'' S'' I'' D'' hk' => fin ks' e' s'' S'' I'' D'' ?_
      rw [List.append_assoc] at hk'; exact hk'
theorem sortedK {rows : List PRow} {pl : PV} {K : PV → Store → Prop} {n : Nat} (O : C.Ok n) (hn : 2 ≤ n) (hpl : AnyList σ pl (rows.map planP)) (hz : rows.length < 64) (ht : ∀ r ∈ rows, 0 ≤ r.t ∧ r.t < 10) (k : ∀ D, K (.ref D) ((D, .list ((S10 rows).map planP)) :: σ))
    {s : Shared} {v1 vk : Value} {Q : Value → Shared → Prop} {E : Value → Shared → Prop} (J : Inv C ρ σ τ s) (h1 : (v1, pl) ∈ τ) (hk : (vk, PV.ref 228) ∈ τ) (q : ∀ v p σ' s', K p σ' → Inv C ρ σ' ((v, p) :: τ) s' → Q v s') :
    wpAny C.M C.A (call (.builtin "sorted") [v1] [(Str.ofString "key", vk)]) Q E s := by
  cases J.getVal hk
  obtain ⟨m, S, I, D⟩ := J
  obtain ⟨b, vs, rfl, hl, hv⟩ := D.anyList hpl (D.tmp _ h1)
  have hlen := hv.length
  rw [List.length_map] at hlen
  have O2 : Ctx.Ok { C with A := C.A.in1.in1 } 1 := by
    refine O.at rfl rfl ?_ ?_ hn
    · exact Nat.le_succ _
    · show C.A.units + 1 + 1 ≤ C.A.units + 10; (first | lia | omega)
  have DA : ∀ {ρ : Locs} {σ : Store} {τ : Tmp} {s : Shared} {S I : Led}, InvD C ρ σ τ s m S I → InvD { C with A := C.A.in1.in1 } ρ σ τ s m S I := fun D => ⟨D.F, D.N, D.nd, D.sep, D.sub, D.loc, D.tmp, D.g, D.d, D.os⟩
  have DB : ∀ {ρ : Locs} {σ : Store} {τ : Tmp} {s : Shared} {S I : Led}, InvD { C with A := C.A.in1.in1 } ρ σ τ s m S I → InvD C ρ σ τ s m S I := fun D => ⟨D.F, D.N, D.nd, D.sep, D.sub, D.loc, D.tmp, D.g, D.d, D.os⟩
  by_cases h2 : vs.length < 2
  · refine ksk_sorted (kz := rows.map (·.t)) (b := false) (f := .ref 228) D.F D.N hl (by rw [List.length_map, hlen]) (by (first | lia | omega)) (ksk_s1 _ _) (fun x => ksk_l1 _ _) (fun x => ksk_t1 _ _) ?_ ?_
    · intro i v k hvi hki h tk own F' N'
      obtain ⟨p, hp, hr⟩ := hv.getV hvi
      rw [List.getElem?_map] at hp hki
      obtain ⟨r, hr1, rfl⟩ := Option.map_eq_some_iff.mp hp
      rw [hr1] at hki
      obtain rfl := Option.some.inj hki
      exact ksk_turn (C := { C with A := C.A.in1.in1 }) O2 (DA D) hr F' N'
    · intro Dd h' tk out c F' N' hlt hout
      obtain ⟨ps, hp, he, -⟩ := hout
      have hps : ps = (rows.map (·.t)).zip vs := by
        match rows, vs, hlen, h2, hp with
        | [], [], _, _, hp => exact List.perm_nil.mp hp
        | [r], [v], _, _, hp => exact List.perm_singleton.mp hp
        | _ :: _ :: _, [_], hlen, _, _ => simp at hlen
        | _, _ :: _ :: _, _, h2, _ => simp at h2; (first | lia | omega)
      have ho : out = vs.toArray := by
        apply Array.toList_inj.mp
        rw [he, hps, List.map_snd_zip (by rw [List.length_map]; (first | lia | omega))]
      subst ho
      have D' := D.growS (own := [(Dd, W.listOf vs.toArray c)]) (tk := tk) F' N' (nodup_fresh hlt D.nd) (.list hv)
      have kk := k Dd
      rw [S10_few ht (by (first | lia | omega))] at kk
      exact q _ _ _ _ kk (D'.more (.val _)).inv
  · refine kat_sortedK (b := false) (f := .ref 228) D.F D.N hl (by (first | lia | omega)) (by (first | lia | omega)) (ksk_s1 _ _) (fun x => ksk_l1 _ _) (fun x => ksk_t1 _ _) fun Dd kS e1 h' F' N' hlt hl1 => ?_
    obtain ⟨τ', Dm, al, sub⟩ := D.mores hv
    have N1 : News C.h₀ C.env.locals h' ([(Dd, seqObj "list" #[] e1)] ++ (S ++ (C.J ++ I))) := fun p hp => N' p (.tail _ hp)
    have nd1 := nodup_fresh (o := seqObj "list" #[] e1) hl1 D.nd
    have D1 := Dm.growS (own := [(Dd, seqObj "list" #[] e1)]) (tk := s.toks) F' N1 nd1 .raw
    have D2 := D1.growS (own := [(kS, seqObj "list" #[] 0)]) (tk := s.toks) F' N' (nodup_fresh (n := kS) (fun p hp => by
      rcases List.mem_cons.mp hp with rfl | hp
      · exact hlt
      · exact Nat.lt_trans (hl1 p hp) hlt) nd1) .raw
    refine keys_go (C := { C with A := C.A.in1.in1 }) O2 rows vs [] [] 0 _ _ _ (DA D2) al .nil fun ks e s' S' I' D' hk => ?_
    rw [List.nil_append] at hk
    have hkl : ks.length = rows.length := by have := hk.length; rw [List.length_map] at this; exact this
    rw [ksk_kind (kz := rows.map (·.t)) hk (by rw [List.size_toArray]; (first | lia | omega))]
    refine wpAny_pure ?_
    have tGet : ∀ i, i < rows.length → (rows.map (·.t)).getD i 0 = tAt rows i := fun i hi => by
      rw [tAt, List.getD_eq_getElem?_getD, List.getD_eq_getElem?_getD, List.getElem?_map, List.getElem?_eq_getElem hi]; rfl
    refine kAll_run (ok := okN vs.length) (lt := tLt (tAt rows)) (fun i j Cc hij hC => ?_) _ (kAll_mono (fun p hp => ?_) _ (sort_all (tLt_swo _) (by (first | lia | omega))))
    · obtain ⟨hi, hj, -⟩ := hij
      obtain ⟨t, e1⟩ := Mine.IntsAre.getT hk (i := i) (by (first | lia | omega))
      obtain ⟨u, e2⟩ := Mine.IntsAre.getT hk (i := j) (by (first | lia | omega))
      show wpAny (model C.prog C.w) C.A.in1.in1 (keyLt' oneType' (ks.getD i .none) (ks.getD j .none)) Cc _ _
      rw [e1, e2, tGet i (by (first | lia | omega)), tGet j (by (first | lia | omega))]
      exact kat_lt_int hC
    · obtain ⟨hp, up⟩ := hp
      obtain ⟨S2, rfl, D3, -⟩ := D'.raw1
      obtain ⟨S3, rfl, D4, -⟩ := D3.raw1
      have nd2 : ((kS, seqObj "list" (List.toArray ks) e) :: ((Dd, seqObj "list" #[] e1) :: S3 ++ (C.J ++ I'))).map (·.1) |>.Nodup := D'.nd
      have nd3 : ((Dd, seqObj "list" #[] e1) :: (S3 ++ (C.J ++ I'))).map (·.1) |>.Nodup := D3.nd
      refine KatFin.intro D'.F D'.N (.head fun p hp e => (List.nodup_cons.mp nd2).1 (List.mem_map.mpr ⟨p, hp, e⟩)) fun h2 c2 F2 N2 => ?_
      have N2' : News C.h₀ C.env.locals h2 ((Dd, seqObj "list" #[] e1) :: (S3 ++ (C.J ++ I'))) := fun p hp => N2 p (.tail _ hp)
      refine KasFin.intro F2 N2' (.head fun p hp e => (List.nodup_cons.mp nd3).1 (List.mem_map.mpr ⟨p, hp, e⟩)) fun h3 c3 F3 N3 => ?_
      have hva : VAll I' vs (rows.map planP) := al.rep D4
      have hin : ∀ i ∈ p.toList, i < vs.length := fun i hi => List.mem_range.mp (hp.list.mem_iff.mp hi)
      have D5 := (DB D4).growS (own := [(Dd, W.listOf (List.toArray (p.toList.map fun i => vs.getD i .none)) c3)]) (tk := s'.toks) F3 N3 nd3 (.list (hva.pickD hin))
      rw [hlen] at hp up
      rw [stab_rows ht hp up] at D5
      exact q _ _ _ _ (k Dd) (Inv.tmps (D5.more (.val _)).inv fun q hq => by
        rcases List.mem_cons.mp hq with rfl | hq
        · exact .head _
        · exact .tail _ (sub q hq))
end
end
section
noncomputable def dueR (l : List PRow) (n : Nat) : List PRow := (List.range n).flatMap fun k => l.filter fun r => decide (r.t = ((k : Nat) : Int))
noncomputable def restR (l : List PRow) (n k : Nat) : List PRow := (List.range k).flatMap fun j => l.filter fun r => decide (r.t = ((n + j : Nat) : Int))
theorem dueR_split (l : List PRow) (n k : Nat) : dueR l (n + k) = dueR l n ++ restR l n k := by
  unfold dueR restR
  rw [List.range_add, List.flatMap_append, List.flatMap_map]
theorem mem_dueR {l : List PRow} {n : Nat} {r : PRow} : r ∈ dueR l n ↔ r ∈ l ∧ 0 ≤ r.t ∧ r.t < n := by
  unfold dueR
  rw [List.mem_flatMap]
  constructor
  · rintro ⟨k, hk, hr⟩
    have hk := List.mem_range.mp hk
    obtain ⟨h1, h2⟩ := List.mem_filter.mp hr
    have h2 := of_decide_eq_true h2
    exact ⟨h1, by (first | lia | omega), by (first | lia | omega)⟩
  · rintro ⟨h1, h2, h3⟩
    exact ⟨r.t.toNat, List.mem_range.mpr (by (first | lia | omega)), List.mem_filter.mpr ⟨h1, by rw [decide_eq_true_eq]; (first | lia | omega)⟩⟩
theorem mem_restR {l : List PRow} {n k : Nat} {r : PRow} (h : r ∈ restR l n k) : r ∈ l ∧ (n : Int) ≤ r.t := by
  unfold restR at h
  rw [List.mem_flatMap] at h
  obtain ⟨j, _, hr⟩ := h
  obtain ⟨h1, h2⟩ := List.mem_filter.mp hr
  have h2 := of_decide_eq_true h2
  exact ⟨h1, by (first | lia | omega)⟩
theorem S10_split (l : List PRow) {N : Nat} (hN : N < 10) : S10 l = dueR l (N + 1) ++ restR l (N + 1) (10 - (N + 1)) := by
  rw [← dueR_split]
  have : N + 1 + (10 - (N + 1)) = 10 := by (first | lia | omega)
  rw [this]; rfl
theorem S10_due (l : List PRow) {N : Nat} (hN : N < 10) : (S10 l).filter (fun r => decide (r.t ≤ (N : Int))) = dueR l (N + 1) := by
  rw [S10_split l hN, List.filter_append]
  have e1 : (dueR l (N + 1)).filter (fun r => decide (r.t ≤ (N : Int))) = dueR l (N + 1) := by
    rw [List.filter_eq_self]
    intro r hr
    have := (mem_dueR.mp hr).2.2
    rw [decide_eq_true_eq]; (first | lia | omega)
  have e2 : (restR l (N + 1) (10 - (N + 1))).filter (fun r => decide (r.t ≤ (N : Int))) = [] := by
    rw [List.filter_eq_nil_iff]
    intro r hr
    have := (mem_restR hr).2
    rw [decide_eq_true_eq]; (first | lia | omega)
  rw [e1, e2, List.append_nil]
theorem S10_drop (l : List PRow) {N : Nat} (hN : N < 10) : (S10 l).drop (dueR l (N + 1)).length = S10 (l.filter fun r => decide (r.t > (N : Int))) := by
  rw [S10_split l hN, S10_split (l.filter _) hN, List.drop_left]
  have e1 : dueR (l.filter fun r => decide (r.t > (N : Int))) (N + 1) = [] := by
    rw [List.eq_nil_iff_forall_not_mem]
    intro r hr
    obtain ⟨h1, h2, h3⟩ := mem_dueR.mp hr
    have := of_decide_eq_true (List.mem_filter.mp h1).2
    (first | lia | omega)
  rw [e1, List.nil_append]
  unfold restR
  congr 1
  funext j
  rw [List.filter_filter]
  refine List.filter_congr fun r _ => ?_
  rw [Bool.eq_iff_iff, Bool.and_eq_true, decide_eq_true_eq, decide_eq_true_eq]
  constructor
  · intro h; exact ⟨h, by (first | lia | omega)⟩
  · intro h; exact h.1
theorem S10_mem {l : List PRow} (h : ∀ r ∈ l, 0 ≤ r.t ∧ r.t < 10) {r : PRow} : r ∈ S10 l ↔ r ∈ l := by
  have : S10 l = dueR l 10 := rfl
  rw [this, mem_dueR]
  exact ⟨fun x => x.1, fun x => ⟨x, h r x⟩⟩
theorem S10_sorted (l : List PRow) : (S10 l).Pairwise fun a b => a.t ≤ b.t := by
  unfold S10
  rw [List.pairwise_flatMap]
  refine ⟨fun k _ => ?_, ?_⟩
  · rw [List.pairwise_iff_forall_sublist]
    intro a b hs
    have ha := of_decide_eq_true (List.mem_filter.mp (hs.subset (.head _))).2
    have hb := of_decide_eq_true (List.mem_filter.mp (hs.subset (.tail _ (.head _)))).2
    (first | lia | omega)
  · refine List.Pairwise.imp ?_ List.pairwise_lt_range
    intro a b hab x hx y hy
    have h1 := of_decide_eq_true (List.mem_filter.mp hx).2
    have h2 := of_decide_eq_true (List.mem_filter.mp hy).2
    (first | lia | omega)
theorem S10_head {l : List PRow} (h : ∀ r ∈ l, 0 ≤ r.t ∧ r.t < 10) : (l = [] ∧ S10 l = []) ∨ ∃ r q, S10 l = r :: q ∧ r ∈ l ∧ (∀ x ∈ l, r.t ≤ x.t) ∧ l ≠ [] := by
  cases e : S10 l with
  | nil =>
    left
    refine ⟨?_, rfl⟩
    rw [List.eq_nil_iff_forall_not_mem]
    intro r hr
    have := (S10_mem h).mpr hr
    rw [e] at this; cases this
  | cons r q =>
    right
    have hr : r ∈ l := (S10_mem h).mp (by rw [e]; exact .head _)
    refine ⟨r, q, rfl, hr, fun x hx => ?_, fun e' => by rw [e'] at hr; cases hr⟩
    have hx := (S10_mem h).mpr hx
    have hs := S10_sorted l
    rw [e] at hx hs
    rcases List.mem_cons.mp hx with rfl | hx
    · exact Int.le_refl _
    · exact (List.pairwise_cons.mp hs).1 x hx
theorem bucket_perm {n : Nat} {t : Nat → Int} (h : ∀ i, i < n → 0 ≤ t i ∧ t i < 10) : (List.range n).Perm (bucket n t) := by
  have nd2 : (bucket n t).Nodup := by
    unfold bucket List.Nodup
    rw [List.pairwise_flatMap]
    refine ⟨fun k _ => List.Nodup.sublist List.filter_sublist List.nodup_range, ?_⟩
    refine List.Pairwise.imp ?_ List.pairwise_lt_range
    intro a b hab x hx y hy
    have h1 := of_decide_eq_true (List.mem_filter.mp hx).2
    have h2 := of_decide_eq_true (List.mem_filter.mp hy).2
    intro e
    subst e; (first | lia | omega)
  rw [List.perm_ext_iff_of_nodup List.nodup_range nd2]
  intro i
  rw [List.mem_range]
  unfold bucket
  rw [List.mem_flatMap]
  constructor
  · intro hi
    have := h i hi
    exact ⟨(t i).toNat, List.mem_range.mpr (by (first | lia | omega)), List.mem_filter.mpr ⟨List.mem_range.mpr hi, by rw [decide_eq_true_eq]; (first | lia | omega)⟩⟩
  · rintro ⟨k, _, hi⟩
    exact List.mem_range.mp (List.mem_filter.mp hi).1
theorem S10_length {l : List PRow} (h : ∀ r ∈ l, 0 ≤ r.t ∧ r.t < 10) : (S10 l).length = l.length := by
  rw [← bucket_rows, List.length_map]
  have := (bucket_perm (n := l.length) (t := tAt l) fun i hi => h _ (by
    have : l.getD i r00 = l[i] := by rw [List.getD_eq_getElem?_getD, List.getElem?_eq_getElem hi]; rfl
    rw [this]; exact List.getElem_mem _)).length_eq
  rw [← this, List.length_range]
theorem dueR_len {l : List PRow} (h : ∀ r ∈ l, 0 ≤ r.t ∧ r.t < 10) {N : Nat} (hN : N < 10) : (dueR l (N + 1)).length ≤ l.length := by
  rw [← S10_length h, S10_split l hN, List.length_append]; (first | lia | omega)
end
section
set_option maxHeartbeats 4000000
noncomputable def ACK (C : Ctx) (ρ : Locs) (σ : Store) (f : PV) (ps : List PV) (kn : Str) (k : PV) (K : PV → Store → Prop) : Prop :=
  ∀ τ s vf vs vk (Q : Value → Shared → Prop) E, Inv C ρ σ τ s → (vf, f) ∈ τ → AllIn τ vs ps → (vk, k) ∈ τ → (∀ v p σ' s', K p σ' → Inv C ρ σ' ((v, p) :: τ) s' → Q v s') → wpAny C.M C.A (call vf vs [(kn, vk)]) Q E s
theorem AE.callK {C : Ctx} {ρ : Locs} {σ : Store} {fe e ke : Expr} {kn : Str} {kp pos : Pos} {K : PV → Store → Prop}
    (hc : ∀ env, eval (.Call fe [e] [⟨some kn, ke, kp⟩] pos) env = (do callWith pos (← eval fe env) [] (backTo pos (starEach [e] env)) (backToKw pos (keywordEach [⟨some kn, ke, kp⟩] env))))
    (hp : ∀ env, ((backTo pos (starEach [e] env)).any (·.1) || (backToKw pos (keywordEach [⟨some kn, ke, kp⟩] env)).any (·.1.isNone)) = false) (he : ∀ env, starEach [e] env = (false, eval e env) :: starEach [] env)
    (h : AE C ρ σ fe fun f σ₁ => AL C ρ σ₁ pos [e] fun ps σ₂ => AE C ρ σ₂ ke fun k σ₃ => Callee C σ₃ f ∧ ACK C ρ σ₃ f ps kn k K) : AE C ρ σ (.Call fe [e] [⟨some kn, ke, kp⟩] pos) K := by
  intro τ s Q E J q
  rw [hc]
  refine wpAny_bind (h τ s _ E J fun vf f σ₁ s₁ k J₁ => ?_)
  refine callWith_of (P := fun h => ∃ k, (k = Keeper.frame ∨ k = Keeper.machine ∨ k = Keeper.boundFrame) ∧ Looks C.M h (keeperOf vf) k) (hp _) (fun _ x => x) (evalArgs_kw2 rfl ?_ (he _))
  refine k _ s₁ _ E J₁ fun vs ps σ₂ τ₂ s₂ k₂ J₂ a sub => kwAll_cons (k₂ τ₂ s₂ _ E J₂ fun vk pk σ₃ s₃ k₃ J₃ => kwAll_nil ?_)
  refine ⟨k₃.1 ρ _ s₃ vf J₃ (.tail _ (sub _ (.head _))), k₃.2 _ s₃ vf _ vk Q E J₃ (.tail _ (sub _ (.head _))) (a.mono fun _ h => .tail _ h) (.head _) fun v p σ' s' k' J' => q v p σ' s' k' (J'.tmps fun q hq => ?_)⟩
  rcases List.mem_cons.mp hq with rfl | hq
  · exact .head _
  · exact .tail _ (.tail _ (sub _ (.tail _ hq)))
theorem ACK.sortedK {C : Ctx} {ρ : Locs} {σ : Store} {rows : List PRow} {pl : PV} {K : PV → Store → Prop} {n : Nat} (O : C.Ok n) (hn : 2 ≤ n) (hpl : AnyList σ pl (rows.map planP)) (hz : rows.length < 64) (ht : ∀ r ∈ rows, 0 ≤ r.t ∧ r.t < 10)
    (k : K (.lst ((S10 rows).map planP)) σ) : ACK C ρ σ (.val (.builtin "sorted")) [pl] "key" (.ref 228) K := by
  intro τ s vf vs vk Q E J hf ha hk q
  cases J.getVal hf
  obtain ⟨v1, rfl, h1⟩ := ha.one
  refine Mine.sortedK (K := fun p σ' => ∃ D, p = .ref D ∧ σ' = (D, .list ((S10 rows).map planP)) :: σ) O hn hpl hz ht (fun D => ⟨D, rfl, rfl⟩) J h1 hk ?_
  rintro v p σ' s' ⟨D, rfl, rfl⟩ J'
  exact q v _ σ s' k J'.freeze
theorem planInit {x : Addr} {rows : List PRow} {pl : PV} {σ : Store} (hpl : AnyList σ pl (rows.map planP)) (hz : rows.length < 64) (ht : ∀ r ∈ rows, 0 ≤ r.t ∧ r.t < 10) :
    CC (.ref 202) [.ref x, pl] ((x, .inst 217 []) :: σ) 3 fun p σ' => p = .none ∧ σ' = planS x (S10 rows) ++ σ := by
  have hpl' : AnyList ((x, AObj.inst 217 []) :: σ) pl (rows.map planP) := by
    rcases hpl with rfl | ⟨a, rfl, hm⟩
    · exact .inl rfl
    · exact .inr ⟨a, rfl, .tail _ hm⟩
  refine' CC.def (f := 202) (xs := [Str.ofString "self", Str.ofString "rows"]) (n := 2) ?d rfl ?h
  case d => walk_at "def2"
  case h =>
  intro C O hs hc
  walk_at "ae"
  refine AE.callK (fun _ => rfl) (fun _ => rfl) (fun _ => rfl) ?_
  walk_at "ae"
  refine ⟨Callee.builtin, ACK.sortedK O (by (first | lia | omega)) hpl' hz ht ?_⟩
  walk_at "ae"
  exact ⟨rfl, rfl⟩
theorem planC {rows : List PRow} {pl : PV} {σ : Store} (hpl : AnyList σ pl (rows.map planP)) (hz : rows.length < 64) (ht : ∀ r ∈ rows, 0 ≤ r.t ∧ r.t < 10) : CC (.ref 217) [pl] σ 4 fun p σ' => ∃ x, p = .ref x ∧ σ' = planS x (S10 rows) ++ σ := by
  refine CC.cls (n := 3) (fI := 202) (fun w => by k_is) (fun w => by k_is) (fun w => by k_is) fun x => ?_
  refine CC.conseq (planInit (x := x) hpl hz ht) ?_
  rintro p σ' ⟨rfl, rfl⟩
  exact ⟨_, Le.refl _, rfl, x, rfl, rfl⟩
end
section
set_option maxHeartbeats 4000000
noncomputable abbrev PS (src : Addr) (a b : Int) (L : Addr) (no lo : Option PV) : Store := [(src, .list [.int a, .int b]), (L + 2, .cell no), (L + 1, .cell lo), (L, .cell (some (.ref src)))]
structure RowsOk (l : List PRow) : Prop where
  t : ∀ r ∈ l, 0 ≤ r.t ∧ r.t < 10
  w : ∀ r ∈ l, PyData.strOk r.w = true
theorem strOk_cut : PyData.strOk (Str.ofString "cut") = true := by decide +kernel
theorem strOk_mend : PyData.strOk (Str.ofString "mend") = true := by decide +kernel
noncomputable def tD : PV → PV → Bool
  | .int k, .tup (.int t :: _) => decide (t = k)
  | _, _ => false
theorem tD_pv (l : List PRow) (n : Nat) : ((nums 0 (n : Int)).flatMap fun x => ((l.map planP).filter (tD x)).map fun y => y) = (dueR l n).map planP := by
  unfold nums dueR
  rw [List.flatMap_map, List.map_flatMap]
  have e : ((n : Int) - 0).toNat = n := by (first | lia | omega)
  rw [e]
  congr 1
  funext k
  rw [List.map_id', List.filter_map]
  congr 1
  refine List.filter_congr fun r _ => ?_
  show decide (r.t = 0 + (k : Int)) = decide (r.t = (k : Int))
  rw [Int.zero_add]
noncomputable def rowGt (now : Int) : PV → Bool
  | .tup (.int t :: _) => decide (t > now)
  | _ => false
theorem rowGt_pv (now : Int) (l : List PRow) : ((l.map planP).filter (rowGt now)).map id = (l.filter fun r => decide (r.t > now)).map planP := by
  rw [List.map_id, List.filter_map]; rfl
noncomputable def rowT : PV → PV
  | .tup (.int t :: _) => .int t
  | p => p
theorem rowT_pv (l : List PRow) : (((l.map planP).filter fun _ => true).map rowT) = (l.map (·.t)).map .int := by
  rw [List.filter_eq_self.mpr (fun _ _ => rfl), List.map_map, List.map_map]; rfl
theorem ok_plan {l : List PRow} (hw : ∀ r ∈ l, PyData.strOk r.w = true) : okD 8 (.lst (l.map planP)) = true := by
  show okDs 7 (l.map planP) = true
  rw [okDs_iff]
  intro p hp
  obtain ⟨r, hr, rfl⟩ := List.mem_map.mp hp
  show (true && (PyData.strOk r.w && (true && true))) = true
  rw [hw r hr]; rfl
theorem planNext_nil {x : Addr} : CT (.ref 214) [.ref x] (planS x []) 2 fun p σ' => p = .none ∧ σ' = planS x [] := planNext_spec (l := []) (by simp) fun _ h => nomatch h
theorem planNext_cons {x : Addr} {r : PRow} {q : List PRow} (hz : (r :: q).length ≤ 40) (hw : ∀ y ∈ r :: q, PyData.strOk y.w = true) : CT (.ref 214) [.ref x] (planS x (r :: q)) 2 fun p σ' => p = .int r.t ∧ σ' = planS x (r :: q) := planNext_spec (l := r :: q) hz hw
theorem swapsSole_sc {t v : Expr} {l : Nat} {env : Env} {sc : Scope} (h : env.scope = sc) : swapsWithSole [t] v l env = swapsWithSole [t] v l (scEnv sc) := swaps_sc (t := some t) h
inductive PTurn (ρ₀ : Locs) (src x L : Addr) (a b : Int) (ρ : Locs) (σ : Store) : Prop
  | mk (sub : Sub ρ₀ ρ) (l : List PRow) (no : Option PV) (h : l.length ≤ 5) (ho : RowsOk l) (hs : σ = planS x (S10 l) ++ PS src a b L no (some (.lst (l.map planP))))
theorem plan_spec {src : Addr} {a b : Int} (hb0 : 0 ≤ b) (hb : b < 2147483648) : CT (.ref 302) [.ref src] (srcS src a b) 8 fun p _ => p = .bool true := by
  refine' CT.defC (f := 302) (xs := [Str.ofString "source"]) ?d rfl ?h
  case d => walk_at "defC1"
  case h =>
  intro C L O hs hc
  have hc : C.env.cells = [(Str.ofString "now", L + 2), (Str.ofString "left", L + 1), (Str.ofString "source", L)] := hc
  refine AX.conv (ρ := []) (σ := (L + 2, .cell none) :: (L + 1, .cell none) :: (L, .cell (some (.ref src))) :: srcS src a b) rfl rfl ?_
  refine AX.le (Le.perm (σ' := PS src a b L none none) (by walk_at "perm")) ?_
  have hkS : C.env.kindOf (Str.ofString "source") = some .cell := by rw [Env.kindOf, hs]; rfl
  have hkL : C.env.kindOf (Str.ofString "left") = some .cell := by rw [Env.kindOf, hs]; rfl
  have hkN : C.env.kindOf (Str.ofString "now") = some .cell := by rw [Env.kindOf, hs]; rfl
  refine AX.cut (fun ρ' σ' => ∃ rows a b, 0 ≤ b ∧ b < 2147483648 ∧ rows.length ≤ 5 ∧ RowsOk rows ∧ ρ' = [(Str.ofString "told", .lst (rows.map planP))] ∧ σ' = PS src a b L none none) ?_ ?_
  · refine AS.compG (emit := emit1 _) (cl := [(Str.ofString "source", L)]) O (by rw [swaps_sc hs]; rfl) (by rw [hc]; rfl) (by rw [relabel, hs]) rfl (by decide) (by decide) (fun _ => rfl) hs rfl (fun env it acc => turn1 _ _ _ _ _ _ _ _ _) ?_
    walk_at "ae"
    refine AC.use (σ₁ := srcS src a b) O (take_any (top := 5) (by (first | lia | omega)) (by (first | lia | omega)) hb0 hb) (by (first | lia | omega)) (Le.refl _) ?_
    rintro p σ' ⟨v, rfl, hv, a1, b1, rfl, hb1, hb2⟩
    refine ⟨_, Le.refl _, ?_⟩
    walk_at "ae"
    refine AC.range1 fun t u w => ?_
    have e2 : ((1 : Int) + (v : Int)) = ((1 + v : Nat) : Int) := by (first | lia | omega)
    rw [e2]
    refine ⟨nums 0 ((1 + v : Nat) : Int), fun _ => True, fun acc d σ => ∃ rows a b, 0 ≤ b ∧ b < 2147483648 ∧ rows.length = d.length ∧ RowsOk rows ∧ σ = (acc, .list (rows.map planP)) :: PS src a b L none none, Iter.range (by decide) (by decide) (by (first | lia | omega)) (by (first | lia | omega)), fun acc => ⟨[], a1, b1, hb1, hb2, rfl, ⟨(fun _ h => nomatch h), fun _ h => nomatch h⟩, rfl⟩, fun _ _ _ _ => trivial, ?_, ?_⟩
    · rintro acc σ ⟨rows, a, b, h1, h2, h3, h4, rfl⟩
      have hl : (nums 0 ((1 + v : Nat) : Int)).length = 1 + v := by simp [nums]; (first | lia | omega)
      refine ⟨_, _, Fz.ice _ _ _, rfl, rows, a, b, h1, h2, by (first | lia | omega), h4, rfl, rfl⟩
    · rintro acc d x r hl C' O' hs' hc' σ ⟨rows, a, b, h1, h2, h3, h4, rfl⟩
      have hdl : d.length < 1 + v := by
        have := congrArg List.length hl
        simp [nums] at this
        (first | lia | omega)
      obtain ⟨i, rfl⟩ : ∃ i : Int, x = .int i := by
        have hx : x ∈ nums 0 ((1 + v : Nat) : Int) := by rw [hl]; simp
        obtain ⟨i, _, rfl⟩ := List.mem_map.mp hx
        exact ⟨_, rfl⟩
      simp only [List.map_cons, List.map_nil, hkS] at hs'
      walk_at "ae"
      simp only [ATs, if_true]
      refine AU.emit ?_
      walk_at "ae"
      refine AC.use (σ₁ := srcS src a b) (φ := (acc, .list (rows.map planP)) :: (L + 2, .cell none) :: (L + 1, .cell none) :: [(L, .cell (some (.ref src)))]) O' (take_any (top := 6) (by (first | lia | omega)) (by (first | lia | omega)) h1 h2) (by (first | lia | omega)) (Le.perm (by walk_at "perm")) ?_
      rintro p σ' ⟨v6, rfl, hv6, a2, b2, rfl, hb3, hb4⟩
      refine ⟨(acc, .list (rows.map planP)) :: PS src a2 b2 L none none, Le.perm (by walk_at "perm"), ?_⟩
      walk_at "ae"
      refine AE.lst ?_
      walk_at "ae"
      refine AC.use (σ₁ := srcS src a2 b2) (φ := (acc, .list (rows.map planP)) :: (L + 2, .cell none) :: (L + 1, .cell none) :: [(L, .cell (some (.ref src)))]) O' (one_any (by simp) (by simp) hb3 hb4) (by (first | lia | omega)) (Le.perm (by walk_at "perm")) ?_
      rintro p σ' ⟨hp, a3, b3, rfl, hb5, hb6⟩
      refine ⟨(acc, .list (rows.map planP)) :: PS src a3 b3 L none none, Le.perm (by walk_at "perm"), ?_⟩
      obtain ⟨w, rfl, hw⟩ : ∃ w : Str, p = .str w ∧ PyData.strOk w = true := by
        simp at hp
        rcases hp with rfl | rfl
        · exact ⟨_, rfl, strOk_cut⟩
        · exact ⟨_, rfl, strOk_mend⟩
      walk_at "ae"
      refine ⟨rows.map planP, _, by rw [List.length_map]; (first | lia | omega), .head, rows ++ [⟨(v6 : Int), w, i⟩], a3, b3, hb5, hb6, by rw [List.length_append, List.length_append, h3]; rfl, ⟨fun r hr => ?_, fun r hr => ?_⟩, by rw [List.map_append]; rfl⟩
      · rcases List.mem_append.mp hr with hr | hr
        · exact h4.t r hr
        · rw [List.mem_singleton.mp hr]
          exact ⟨by show (0 : Int) ≤ v6; (first | lia | omega), by show (v6 : Int) < 10; (first | lia | omega)⟩
      · rcases List.mem_append.mp hr with hr | hr
        · exact h4.w r hr
        · rw [List.mem_singleton.mp hr]; exact hw
  rintro ρ' σ' ⟨rows, a, b, hb0, hb, hlen, hok, rfl, rfl⟩
  walk_at "ae"
  refine AS.assign ?_ rfl ((swapped_sc hs).trans rfl) rfl
  walk_at "ae"
  refine ((CT.of (planC (rows := rows) (σ := PS src a b L none none) (.inl rfl) (by (first | lia | omega)) hok.t)) C _ (O.le (by (first | lia | omega)))).mono ?_
  rintro p σ' ⟨x, rfl, rfl⟩
  walk_at "ae"
  refine AC.freeze (AC.listOf (.inl rfl) (by rw [List.length_map]; (first | lia | omega)) fun D => ⟨_, _, _, rfl, rfl, ?_⟩)
  walk_at "ae"
  refine AG.tup O rfl rfl ?_
  simp only [AGs]
  walk_at "ae"
  refine AG.cell O hs rfl (by rw [hc]; rfl) (p₀ := none) (UpdS.pre (.tail (.tail .head)) (planS x (S10 rows))) ?_
  refine AX.conv (ρ := [(Str.ofString "plan", .ref x), (Str.ofString "told", .lst (rows.map planP))]) (σ := planS x (S10 rows) ++ PS src a b L none (some (.lst (rows.map planP)))) rfl rfl ?_
  let ρ₀ : Locs := [(Str.ofString "plan", .ref x), (Str.ofString "told", .lst (rows.map planP))]
  refine AX.cut (fun _ _ => True) ?_ ?_
  · refine AS.forIn (n := 0) ?_ (fun _ => rfl) O.hh
    refine AE.lst ?_
    walk_at "ae"
    refine ForK.mk (fun _ ρ σ => PTurn ρ₀ src x L a b ρ σ) (Iter.lst) (trivial) (⟨Sub.refl _, rows, none, hlen, hok, rfl⟩) (fun _ _ _ => ⟨rfl, trivial⟩) (fun _ _ _ _ => trivial) ?_
    rintro d y r hl J I₀ ρ σ ⟨sub, l, no, hlen, hok, rfl⟩
    refine AG.locs sub ?_
    obtain ⟨N, rfl, hN⟩ : ∃ N : Nat, y = .int N ∧ N < 10 := by
      have hy : y ∈ [PV.int 2, .int 2, .int 4, .int 9] := by rw [hl]; simp
      simp at hy
      rcases hy with rfl | rfl | rfl
      · exact ⟨2, rfl, by (first | lia | omega)⟩
      · exact ⟨4, rfl, by (first | lia | omega)⟩
      · exact ⟨9, rfl, by (first | lia | omega)⟩
    obtain ⟨C', hC⟩ : ∃ C', C' = C.jj J I₀ := ⟨_, rfl⟩
    rw [← hC]
    have O' : C'.Ok 7 := by rw [hC]; exact O.jj J I₀
    have hE : C'.env = C.env := by rw [hC]
    have hs' := hs
    have hc' := hc
    have hkL' := hkL
    have hkN' := hkN
    rw [← hE] at hs' hc' hkL' hkN'
    clear hC O hs hE hc hl sub hkL hkN hkS
    refine AG.cell O' hs' rfl (by rw [hc']; rfl) (p₀ := no) (UpdS.pre (.tail .head) (planS x (S10 l))) ?_
    refine AX.conv (ρ := ρ₀) (σ := planS x (S10 l) ++ PS src a b L (some (.int N)) (some (.lst (l.map planP)))) rfl rfl ?_
    have hmL : ∀ z : Addr × AObj, (L + 1, AObj.cell (some (.lst (l.map planP)))) ∈ z :: (planS x (S10 l) ++ PS src a b L (some (.int N)) (some (.lst (l.map planP)))) := fun z => .tail _ (.tail _ (.tail _ (.tail _ (.head _))))
    have hmN : ∀ z : Addr × AObj, (L + 2, AObj.cell (some (.int N))) ∈ z :: (planS x (S10 l) ++ PS src a b L (some (.int N)) (some (.lst (l.map planP)))) := fun z => .tail _ (.tail _ (.tail _ (.head _)))
    have hmL0 : (L + 1, AObj.cell (some (.lst (l.map planP)))) ∈ planS x (S10 l) ++ PS src a b L (some (.int N)) (some (.lst (l.map planP))) := .tail _ (.tail _ (.tail _ (.head _)))
    have hmN0 : (L + 2, AObj.cell (some (.int N))) ∈ planS x (S10 l) ++ PS src a b L (some (.int N)) (some (.lst (l.map planP))) := .tail _ (.tail _ (.head _))
    refine AX.cut (fun ρ' σ' => ρ' = (Str.ofString "due", .lst ((dueR l (N + 1)).map planP)) :: ρ₀ ∧ σ' = planS x (S10 l) ++ PS src a b L (some (.int N)) (some (.lst (l.map planP)))) ?_ ?_
    · refine AS.comp2 (cl := [(Str.ofString "left", L + 1)]) O' (by rw [swaps_sc hs']; rfl) (by rw [hc']; rfl) (by rw [relabel, hs']) rfl (by decide) (by decide) (fun _ => rfl) (fun _ _ => rfl) hs' rfl ?_
      walk_at "ae"
      refine AC.range1 fun t u v => ?_
      have e2 : ((N : Int) + 1) = ((N + 1 : Nat) : Int) := by (first | lia | omega)
      rw [e2]
      have hdl := dueR_len hok.t hN
      refine ⟨nums 0 ((N + 1 : Nat) : Int), fun _ => True, fun _ => l.map planP, tD, fun _ y => y, Iter.range (by decide) (by decide) (by (first | lia | omega)) (by (first | lia | omega)), fun _ _ => trivial, by rw [tD_pv, List.length_map]; (first | lia | omega), fun acc => ⟨_, _, Fz.ice _ _ _, rfl, by rw [tD_pv], rfl⟩, ?st⟩
      case st =>
        intro acc ys y hy C2 O2 hs2 hc2
        obtain ⟨k, rfl⟩ : ∃ k : Int, y = .int k := by
          obtain ⟨k, _, rfl⟩ := List.mem_map.mp hy
          exact ⟨_, rfl⟩
        simp only [List.map_cons, List.map_nil, hkL'] at hs2
        have hm1 := hmL (acc, AObj.list ys)
        walk_at "ae"
        refine ⟨rfl, ?_⟩
        walk_at "ae"
        refine ⟨rfl, fun _ => True, Iter.lst, fun _ => trivial, ?_⟩
        intro ys y hy C3 O3 hs3 hc3
        obtain ⟨r, hr, rfl⟩ := List.mem_map.mp hy
        simp only [List.map_cons, List.map_nil, hkL'] at hs3
        walk_at "ae"
        refine ⟨by walk_at "sub", ?_⟩
        simp only [ATs]
        walk_at "ae"
        refine ⟨rfl, rfl, fun _ => ?_⟩
        walk_at "ae"
        exact ⟨rfl, rfl⟩
    rintro ρ' σ' ⟨rfl, rfl⟩
    refine AX.cut (fun ρ' σ' => ρ' = (Str.ofString "due", .lst ((dueR l (N + 1)).map planP)) :: ρ₀ ∧ σ' = planS x (S10 l) ++ PS src a b L (some (.int N)) (some (.lst ((l.filter fun r => decide (r.t > (N : Int))).map planP)))) ?_ ?_
    · refine AS.assign ?_ ((swapsSole_sc hs').trans rfl) ((swapped_sc hs').trans rfl) rfl
      walk_at "ae"
      refine AE.comp1 (cl := [(Str.ofString "now", L + 2)]) O' (by rw [hc']; rfl) (by rw [relabel, hs']) rfl (by decide) (by decide) (fun _ => rfl) ?_
      walk_at "ae"
      refine ⟨l.map planP, fun _ => True, rowGt N, id, Iter.lst, fun _ _ => trivial, by rw [List.length_map]; (first | lia | omega), fun acc => ⟨_, _, Fz.ice _ _ _, ?fin⟩, ?st⟩
      case st =>
        intro acc ys y hy C2 O2 hs2 hc2
        obtain ⟨r, hr, rfl⟩ := List.mem_map.mp hy
        simp only [List.map_cons, List.map_nil, hkN'] at hs2
        have hm1 := hmN (acc, AObj.list ys)
        walk_at "ae"
        simp only [ATs]
        walk_at "ae"
        refine ⟨rfl, rfl, fun _ => ?_⟩
        walk_at "ae"
        exact ⟨rfl, rfl⟩
      case fin =>
      rw [rowGt_pv]
      walk_at "ae"
      refine AG.cell O' hs' rfl (by rw [hc']; rfl) (p₀ := some (.lst (l.map planP))) (UpdS.pre (.tail (.tail .head)) (planS x (S10 l))) ?_
      exact ⟨rfl, rfl, rfl⟩
    rintro ρ' σ' ⟨rfl, rfl⟩
    have hm3 : ∀ q : List PRow, (L + 1, AObj.cell (some (.lst ((l.filter fun r => decide (r.t > (N : Int))).map planP)))) ∈ planS x q ++ PS src a b L (some (.int N)) (some (.lst ((l.filter fun r => decide (r.t > (N : Int))).map planP))) := fun q => .tail _ (.tail _ (.tail _ (.head _)))
    have hmx : ∀ q : List PRow, (x, AObj.inst 217 [("left", .lst (q.map planP))]) ∈ planS x q ++ PS src a b L (some (.int N)) (some (.lst ((l.filter fun r => decide (r.t > (N : Int))).map planP))) := fun q => .head _
    have hmx1 := hmx (S10 l)
    walk_at "ae"
    refine AC.use (σ₁ := planS x (S10 l)) O' (due_spec (now := (N : Int)) (by rw [S10_length hok.t]; (first | lia | omega))) (by (first | lia | omega)) (Le.refl _) ?_
    rintro p σ' ⟨rfl, rfl⟩
    rw [S10_due l hN, S10_drop l hN]
    have hl2 := List.length_filter_le (fun r : PRow => decide (r.t > (N : Int))) l
    have hok2 : RowsOk (l.filter fun r => decide (r.t > (N : Int))) := ⟨fun r hr => hok.t r (List.mem_filter.mp hr).1, fun r hr => hok.w r (List.mem_filter.mp hr).1⟩
    generalize (l.filter fun r => decide (r.t > (N : Int))) = l2 at *
    refine ⟨planS x (S10 l2) ++ PS src a b L (some (.int N)) (some (.lst (l2.map planP))), Le.refl _, ?_⟩
    have hmx2 := hmx (S10 l2)
    have hm32 := hm3 (S10 l2)
    have hokd : okD 8 (.lst ((dueR l (N + 1)).map planP)) = true := ok_plan fun r hr => hok.w r (mem_dueR.mp hr).1
    walk_at "ae"
    refine AO2.neD O' hokd hokd ⟨_, rfl, ?_⟩
    rw [eqv_self hokd]
    refine ⟨(fun h => nomatch h), fun _ => ?_⟩
    clear hmx1 hmx hm3
    rcases S10_head hok2.t with ⟨rfl, e⟩ | ⟨r, q, e, hr, hmin, hne⟩
    · rw [e] at hmx2 hm32 ⊢
      walk_at "ae"
      refine AC.use (σ₁ := planS x []) O' planNext_nil (by (first | lia | omega)) (Le.refl _) ?_
      rintro p σ' ⟨rfl, rfl⟩
      refine ⟨planS x [] ++ PS src a b L (some (.int N)) (some (.lst (([] : List PRow).map planP))), Le.refl _, ?_⟩
      walk_at "ae"
      refine AE.lst (AL.nil ⟨by simp, ?_⟩)
      refine AO2.neD O' rfl rfl ⟨_, rfl, ?_⟩
      rw [eqv_nilL]
      refine ⟨(fun h => nomatch h), fun _ => ?_⟩
      walk_at "ae"
      refine AO2.neD O' rfl rfl ⟨false, rfl, ?_⟩
      walk_at "ae"
      exact ⟨by walk_at "sub", [], _, by simp, hok2, rfl⟩
    · have hl2r : S10 l2 = r :: q := e
      have hlen2 : (r :: q).length ≤ 40 := by rw [← e, S10_length hok2.t]; (first | lia | omega)
      have hw2 : ∀ y ∈ r :: q, PyData.strOk y.w = true := fun y hy => hok2.w y ((S10_mem hok2.t).mp (by rw [e]; exact hy))
      rw [e] at hmx2 hm32 ⊢
      walk_at "ae"
      refine AC.use (σ₁ := planS x (r :: q)) O' (planNext_cons hlen2 hw2) (by (first | lia | omega)) (Le.refl _) ?_
      rintro p σ' ⟨rfl, rfl⟩
      refine ⟨planS x (r :: q) ++ PS src a b L (some (.int N)) (some (.lst (l2.map planP))), Le.refl _, ?_⟩
      walk_at "ae"
      refine AE.lst (AL.nil ⟨by simp, ?_⟩)
      refine AO2.neD O' (ok_plan hok2.w) rfl ⟨_, rfl, ?_⟩
      rw [eqv_nilL]
      have hne' : decide (l2.map planP = []) = false := by
        rw [decide_eq_false_iff_not]
        intro h; exact hne (List.map_eq_nil_iff.mp h)
      rw [hne']
      refine ⟨fun _ => ?_, (fun h => nomatch h)⟩
      walk_at "ae"
      refine AE.comp1 (cl := []) O' (by rw [hc']; rfl) (by rw [relabel, hs']) rfl (by decide) (by decide) (fun _ => rfl) ?_
      walk_at "ae"
      refine ⟨l2.map planP, fun _ => True, fun _ => true, rowT, Iter.lst, fun acc ys => trivial, by rw [List.length_map]; (first | lia | omega), fun acc => ⟨_, _, Fz.ice _ _ _, ?fin⟩, ?st⟩
      case st =>
        intro acc ys y hy C2 O2 hs2 hc2
        obtain ⟨r', hr', rfl⟩ := List.mem_map.mp hy
        walk_at "ae"
        simp only [ATs]
        refine ⟨trivial, trivial, fun _ => ?_⟩
        walk_at "ae"
        exact ⟨rfl, rfl⟩
      case fin =>
      rw [rowT_pv]
      walk_at "ae"
      refine AC.minL O' (.inl rfl) (by rw [List.length_map]; exact List.length_pos_iff.mpr hne) fun M h1 h2 => ?_
      have hM : r.t = M := by
        obtain ⟨y, hy, rfl⟩ := List.mem_map.mp h1
        have a1 := hmin y hy
        have a2 := h2 r.t (List.mem_map_of_mem hr)
        exact Int.le_antisymm a1 a2
      refine AO2.neI ⟨_, rfl, ?_⟩
      rw [hM, decide_eq_false (fun h => h rfl)]
      walk_at "ae"
      exact ⟨by walk_at "sub", l2, _, by (first | lia | omega), hok2, by rw [hl2r]⟩
  rintro ρ' σ' -
  walk_at "ae"
end
section
set_option maxHeartbeats 4000000
theorem AS.cut {C : Ctx} {ρ : Locs} {σ : Store} {st : Stmt} {rest : List Stmt} {K : Fl → Locs → Store → Prop} (K₀ : Locs → Store → Prop) (h : AS C ρ σ st fun fl ρ' σ' => fl = .next ∧ K₀ ρ' σ') (k : ∀ ρ' σ', K₀ ρ' σ' → AX C ρ' σ' rest K) : AS C ρ σ st (SeqK C rest K) := fun s Q E J P => h s Q E J (P.mono (by
  rintro fl ρ' σ' ⟨rfl, k₀⟩
  exact k ρ' σ' k₀))
theorem AO2.addLst {C : Ctx} {ρ : Locs} {σ : Store} {l l2 : List PV} {K : PV → Store → Prop} (hz : l.length + l2.length ≤ 1000) (k : K (.lst (l ++ l2)) σ) : AO2 C ρ σ (binaryOp .Add) (.lst l) (.lst l2) K := by
  intro τ s va vb Q E J h1 h2 q
  obtain ⟨m, S, I, D⟩ := J
  obtain ⟨b, us, rfl, hl, hv⟩ := D.lst (D.tmp _ h1)
  obtain ⟨b2, us2, rfl, hl2, hv2⟩ := D.lst (D.tmp _ h2)
  refine add_lists D.F D.N hl hl2 (fun h' F' N' => ?_) (by rw [hv.length, hv2.length, sizeLine_eq]; (first | lia | omega))
  have D' := D.growI (own := [(s.heap.objs.size, W.listOf (us ++ us2).toArray 0)]) (tk := s.toks) F' N' (nodup_fresh (News.lt D.N) D.nd)
  refine q _ (.lst (l ++ l2)) σ _ k (D'.more (.lst (.head _) ?_)).inv
  exact (VAll.mono (fun p hp => .tail _ hp) hv).append (VAll.mono (fun p hp => .tail _ hp) hv2)
noncomputable def lawPos : Pos := { line := 219, col := 40, endLine := 219, endCol := 69 }
noncomputable def lawQ : Str := Str.ofString "law" ++ ".<locals>." ++ "<lambda>"
theorem code_law {C : Ctx} (hco : CodeIs C 314) : C.env.code = .ref 313 ∧ C.env.qual = Str.ofString "law" ++ ".<locals>." := by
  obtain ⟨o, fd, h1, h2, h3, h4⟩ : ∃ o fd, (hd.heap_1 C.w.params).lookup 314 = some o ∧ o.data = .func fd ∧ fd.code = .ref 313 ∧ fd.qualname = Str.ofString "law" := ⟨_, _, by k_is, rfl, rfl, rfl⟩
  have := hco _ _ h1 h2
  rw [h3, h4] at this
  exact this
noncomputable abbrev LS (src : Addr) (a b : Int) (un : Addr) (u : List FlyD) (L : Addr) (now : Int) (fo : Option PV) (rw : Addr) (rws : List (Addr × WireD)) (W : Addr) (g : GW) (t1 t2 t3 : Store) : Store :=
  (src, .list [.int a, .int b]) :: (un, .list (u.map undP)) :: (L + 3, .cell (some (.ref W))) :: (L + 2, .cell (some (.ref rw))) :: (L + 1, .cell fo) :: (L, .cell (some (.int now))) :: (rowsS rw rws ++ (WS g ++ (t1 ++ (t2 ++ t3))))
structure LI (W : Addr) (n : Nat) (g : GW) (rws : List (Addr × WireD)) (u : List FlyD) : Prop where
  gW : g.W = W
  rows : rws.map (·.2) = g.ws
  ok : WsOk g.ws
  two : 2 ≤ g.ws.length
  five : g.ws.length ≤ 5
  twin : Twin g.fl u
  sent : ∀ x ∈ u, x.sent < g.sent
  turn : ∀ x ∈ u, thg x < n
  len : u.length ≤ n
noncomputable abbrev lawC (L W rw : Addr) (rws : List (Addr × WireD)) : Store := [(L + 3, .cell (some (.ref W))), (L + 2, .cell (some (.ref rw))), (rw, .list (rws.map fun r => .ref r.1))]
theorem lam_law {g : GW} {L rw : Addr} {rws : List (Addr × WireD)} {o : Obj} {clos : List (Str × Addr)} {body : Expr} {scope : Scope} {c' : Addr} {tab : Store} (ho : LamO o lawQ body scope clos c') (ht : TabOld 311 lawPos lawQ c' tab)
    (hk : scope.kind = .function) (hcell : ∀ x ∈ scope.names, x.2 ≠ .cell) (hco : scope.isCoroutine = false) (hgen : scope.isGenerator = false)
    (h : ∀ C fs, C.Ok 7 → FrOk C fs → C.env.scope = scope → C.env.cells = clos → RE C [] (tab ++ (lawC L g.W rw rws ++ WS g)) fs body (.ref 44) (tab ++ (lawC L g.W rw rws ++ WS g))) :
    RT (.obj o) [] (tab ++ (lawC L g.W rw rws ++ WS g)) 8 (.ref 44) := RT.lam ho ht hk hcell hco hgen h
theorem endsW_set {d d' : WireD} (h1 : d'.one = d.one) (h2 : d'.other = d.other) : ∀ {ws : List WireD} {i : Nat}, ws[i]? = some d → endsW (ws.set i d') = endsW ws
  | [], _, h => by simp at h
  | x :: ws, 0, h => by
    simp at h; subst h
    rw [List.set_cons_zero, endsW, endsW, h1, h2]
  | x :: ws, i + 1, h => by
    rw [List.set_cons_succ, endsW, endsW, endsW_set h1 h2 (by simpa using h)]
theorem WsOk.set {ws : List WireD} {i : Nat} {d d' : WireD} (h : WsOk ws) (hi : ws[i]? = some d) (h1 : d'.one = d.one) (h2 : d'.other = d.other) (h3 : d'.late = d.late) : WsOk (ws.set i d') := by
  refine ⟨by rw [endsW_set h1 h2 hi]; exact h.nd, by rw [endsW_set h1 h2 hi]; exact h.sw, fun x hx => ?_⟩
  rcases List.mem_or_eq_of_mem_set hx with hx | rfl
  · exact h.late x hx
  · rw [h3]; exact h.late d (List.mem_of_getElem? hi)
theorem nums_at {N : Nat} {d r : List PV} {x : PV} (h : nums 0 (N : Int) = d ++ x :: r) : x = .int (d.length : Nat) ∧ d.length < N := by
  have hl := congrArg List.length h
  simp [nums] at hl
  have h2 := congrArg (fun l => l[d.length]?) h
  simp [nums] at h2
  have hlt : d.length < N := by (first | lia | omega)
  rw [List.getElem?_range hlt] at h2
  simp at h2
  exact ⟨h2.symm, hlt⟩
theorem col0 {rws : List (Addr × WireD)} (nd : (rws.map (·.1)).Nodup) : ((rws.map fun r => PV.ref r.1).filter fun _ => true).map (fun p => (rowEnds rws p).getD 0 .none) = rws.map fun r => endP r.2.one := by
  rw [List.filter_eq_self.mpr (fun _ _ => rfl), List.map_map]
  refine List.map_congr_left fun r hr => ?_
  show (rowEnds rws (.ref r.1)).getD 0 .none = _
  rw [rowEnds_of nd hr]; rfl
theorem col1 {rws : List (Addr × WireD)} (nd : (rws.map (·.1)).Nodup) : ((rws.map fun r => PV.ref r.1).filter fun _ => true).map (fun p => (rowEnds rws p).getD 1 .none) = rws.map fun r => endP r.2.other := by
  rw [List.filter_eq_self.mpr (fun _ _ => rfl), List.map_map]
  refine List.map_congr_left fun r hr => ?_
  show (rowEnds rws (.ref r.1)).getD 1 .none = _
  rw [rowEnds_of nd hr]; rfl
theorem LI.sent_yes {W : Addr} {n : Nat} {g : GW} {rws : List (Addr × WireD)} {u : List FlyD} (h : LI W n g rws u) {f : FlyD} (hs : f.sent = g.sent) (ht : f.thing = .int (n : Nat)) :
    LI W (n + 1) { g with sent := g.sent + 1, fl := g.fl.take (putAtF (f.time, f.sent) g.fl g.fl.length) ++ f :: g.fl.drop (putAtF (f.time, f.sent) g.fl g.fl.length) } rws (u ++ [f]) := by
  have e : thg f = n := by rw [thg, ht]
  refine ⟨h.gW, h.rows, h.ok, h.two, h.five, h.twin.send (by rw [e]; exact ht) (fun x hx => by rw [hs]; exact h.sent x hx) (fun x hx => by rw [e]; exact h.turn x hx), fun x hx => ?_, fun x hx => ?_, by rw [List.length_append]; have := h.len; simp; (first | lia | omega)⟩
  · show x.sent < g.sent + 1
    rcases List.mem_append.mp hx with hx | hx
    · have := h.sent x hx; (first | lia | omega)
    · rw [List.mem_singleton.mp hx, hs]; (first | lia | omega)
  · rcases List.mem_append.mp hx with hx | hx
    · have := h.turn x hx; (first | lia | omega)
    · rw [List.mem_singleton.mp hx, e]; (first | lia | omega)
theorem LI.step {W : Addr} {n : Nat} {g : GW} {rws : List (Addr × WireD)} {u : List FlyD} (h : LI W n g rws u) : LI W (n + 1) g rws u := ⟨h.gW, h.rows, h.ok, h.two, h.five, h.twin, h.sent, fun x hx => by have := h.turn x hx; (first | lia | omega), by have := h.len; (first | lia | omega)⟩
theorem LI.part {W : Addr} {n : Nat} {g : GW} {rws : List (Addr × WireD)} {u : List FlyD} (h : LI W n g rws u) {fl' : List FlyD} (q : FlyD → Bool) (F' : Addr) (t : Twin fl' (u.filter q)) : LI W (n + 1) { g with F := F', fl := fl' } rws (u.filter q) := by
  have hl := List.length_filter_le q u
  have := h.len
  exact ⟨h.gW, h.rows, h.ok, h.two, h.five, t, fun x hx => h.sent x (List.mem_filter.mp hx).1, fun x hx => by have := h.turn x (List.mem_filter.mp hx).1; (first | lia | omega), by (first | lia | omega)⟩
theorem LI.setW {W : Addr} {n : Nat} {g : GW} {rws : List (Addr × WireD)} {u : List FlyD} (h : LI W n g rws u) {i : Nat} {d : WireD} (hi : g.ws[i]? = some d) (b : Bool) (y : Addr) : LI W n { g with ws := g.ws.set i { d with whole := b } } (rws.set i (y, { d with whole := b })) u :=
  ⟨h.gW, by rw [List.map_set, h.rows], h.ok.set hi rfl rfl rfl, by show 2 ≤ (g.ws.set i _).length; rw [List.length_set]; exact h.two, by show (g.ws.set i _).length ≤ 5; rw [List.length_set]; exact h.five, h.twin, h.sent, h.turn, h.len⟩
theorem Sub.cons {ρ₀ ρ : Locs} (y : Str) (q : PV) (k : Sub ρ₀ ρ) : Sub ((y, q) :: ρ₀) ((y, q) :: ρ) := by
  intro x p hx
  rw [List.lookup_cons] at hx ⊢
  cases h : (x == y) with
  | true => rw [h] at hx; exact hx
  | false => rw [h] at hx; exact k x p hx
theorem und_int {f : FlyD} (h : f.thing = .int (thg f)) : undP f = .lst [.int f.time, .int (thg f), endP f.goal, .int f.number] := by rw [undP, h]
theorem ok_und {l : List FlyD} (h : ∀ f ∈ l, f.thing = .int (thg f)) : okDs 7 (l.map undP) = true ∧ okIs (l.map undP) = true := by
  rw [okDs_iff, okIs_iff]
  constructor
  · intro p hp
    obtain ⟨f, hf, rfl⟩ := List.mem_map.mp hp
    rw [und_int (h f hf)]; rfl
  · intro p hp
    obtain ⟨f, hf, rfl⟩ := List.mem_map.mp hp
    rw [und_int (h f hf)]; rfl
noncomputable def notFirst (l : List PV) (p : PV) : Bool := !(toDs l).any fun y => PyData.eqv y (toD p)
theorem notFirst_one {fl u : List FlyD} {f : FlyD} {r : List FlyD} (t : Twin fl u) (hf : fl = f :: r) : ((u.map undP).filter (notFirst [undP f])).map id = (u.filter fun x => decide (keyU x ≠ keyU f)).map undP := by
  have hfu : f ∈ u := t.perm.mem_iff.mp (by rw [hf]; exact .head _)
  rw [List.map_id, List.filter_map]
  congr 1
  refine List.filter_congr fun x hx => ?_
  show notFirst [undP f] (undP x) = _
  have h1 := ok_und (l := [x]) fun y hy => by rw [List.mem_singleton.mp hy]; exact t.things x hx
  have h2 := ok_und (l := [f]) fun y hy => by rw [List.mem_singleton.mp hy]; exact t.things f hfu
  have hx' : okI (undP x) = true := okIs_iff.mp h1.2 _ (.head _)
  have key : ((toDs [undP f]).any fun y => PyData.eqv y (toD (undP x))) = true ↔ undP x ∈ [undP f] := any_eqv hx' h2.2
  have e : undP x ∈ [undP f] ↔ keyU x = keyU f := by
    constructor
    · intro h
      have h := List.mem_singleton.mp h
      rw [und_int (t.things x hx), und_int (t.things f hfu)] at h
      simp only [id, PV.lst.injEq, List.cons.injEq, PV.int.injEq] at h
      rw [keyU, keyU, h.1, h.2.1]
    · intro h
      have hxf : x = f := by
        obtain ⟨i, hi, rfl⟩ := List.mem_iff_getElem.mp hx
        obtain ⟨j, hj, e⟩ := List.mem_iff_getElem.mp hfu
        have nd := t.nodupK
        have hij : i = j := (List.getElem_inj (xs := u.map keyU) nd (h₀ := by simpa using hi) (h₁ := by simpa using hj)).mp (by simp [h, e])
        subst hij; exact e
      rw [hxf]; exact .head _
  unfold notFirst
  by_cases h : keyU x = keyU f
  · rw [key.mpr (e.mpr h)]; simp [h]
  · have : ¬ ((toDs [undP f]).any fun y => PyData.eqv y (toD (undP x))) = true := fun q => h (e.mp (key.mp q))
    rw [Bool.not_eq_true] at this
    rw [this]; simp [h]
theorem notFirst_none (u : List FlyD) : ((u.map undP).filter (notFirst [])).map id = u.map undP := by
  rw [List.map_id, List.filter_eq_self.mpr]; intro p _; rfl
theorem ex2 {P : List Stmt → Scope → Prop} {Q : List Stmt → Scope → Prop} {a : List Stmt} {b : Scope} (p : P a b) (q : Q a b) : ∃ a b, P a b ∧ Q a b := ⟨a, b, p, q⟩
inductive LCut (ρ₀ : Locs) (src un L rw W : Addr) (t2 t3 : Store) (ρ : Locs) (σ : Store) : Prop
  | mk (sub : Sub ρ₀ ρ) (n : Nat) (a b : Int) (u : List FlyD) (now : Int) (fo : Option PV) (rws : List (Addr × WireD)) (g : GW) (t1 : Store) (h0 : 0 ≤ b) (h1 : b < 2147483648) (hI : LI W n g rws u) (h2 : n ≤ 20) (ht : TabS 289 turnedPos turnedQ t1) (hs : σ = LS src a b un u L now fo rw rws W g t1 t2 t3)
inductive LTurn (ρ₀ : Locs) (src un L rw W : Addr) (t2 t3 : Store) (v n : Nat) (ρ : Locs) (σ : Store) : Prop
  | mk (sub : Sub ρ₀ ρ) (a b : Int) (u : List FlyD) (now : Int) (fo : Option PV) (rws : List (Addr × WireD)) (g : GW) (t1 : Store) (h0 : 0 ≤ b) (h1 : b < 2147483648) (hI : LI W n g rws u) (h2 : n ≤ 5 + v) (ht : TabS 289 turnedPos turnedQ t1) (hs : σ = LS src a b un u L now fo rw rws W g t1 t2 t3)
inductive LDeed (ρ₁ : Locs) (src un L rw W : Addr) (now : Int) (t2 t3 : Store) (n : Nat) (ρ : Locs) (σ : Store) : Prop
  | mk (sub : Sub ρ₁ ρ) (a b : Int) (u : List FlyD) (fo : Option PV) (rws : List (Addr × WireD)) (g : GW) (t1 : Store) (h0 : 0 ≤ b) (h1 : b < 2147483648) (hI : LI W n g rws u) (ht : TabS 289 turnedPos turnedQ t1) (hs : σ = LS src a b un u L now fo rw rws W g t1 t2 t3)
theorem law_body : ∃ body sc, DefC 314 [Str.ofString "script"] body sc ∧ ∀ {C : Ctx} {L sa : Addr} {vs : List Value} {ns : List Int} (O : C.Ok 20) (F : FrOk C []) (hs : C.env.scope = sc) (hc : C.env.cells = cellsFrom L sc.names []) (hco : CodeIs C 314)
    (hl : C.h₀.IsList sa vs.toArray) (hi : IntsAre vs ns) (hn : ns.length ≤ 63),
    AX C (locsOf sc ([Str.ofString "script"].zip [PV.ref sa])) (cellsOf (cellsFrom L sc.names []) ([Str.ofString "script"].zip [PV.ref sa]) ++ ([(289, .raw (tabObj #[]))] ++ ([(265, .raw (tabObj #[]))] ++ [(311, .raw (tabObj #[]))]))) body fun fl _ σ' => fl = .ret (.bool true) ∧ ∃ x t1 t2 t3, TabS 289 turnedPos turnedQ t1 ∧ TabS 265 joinedPos joinedQ t2 ∧ TabS 311 lawPos lawQ t3 ∧ σ' = x ++ (t1 ++ (t2 ++ t3)) := by
  refine' ex2 ?d ?h
  case d => walk_at "defC1"
  case h =>
  intro C L sa vs ns O F hs hc hco hl hi hn
  have hc : C.env.cells = [(Str.ofString "wires", L + 3), (Str.ofString "rows", L + 2), (Str.ofString "first", L + 1), (Str.ofString "now", L)] := hc
  have hcode := code_law hco
  refine AX.conv (ρ := [(Str.ofString "script", .ref sa)]) (σ := (L + 3, .cell none) :: (L + 2, .cell none) :: (L + 1, .cell none) :: (L, .cell none) :: ([(289, .raw (tabObj #[]))] ++ ([(265, .raw (tabObj #[]))] ++ [(311, .raw (tabObj #[]))]))) rfl rfl ?_
  have ht1 : TabS 289 turnedPos turnedQ [(289, .raw (tabObj #[]))] := .inl rfl
  have ht2 : TabS 265 joinedPos joinedQ [(265, .raw (tabObj #[]))] := .inl rfl
  have ht3 : TabS 311 lawPos lawQ [(311, .raw (tabObj #[]))] := .inl rfl
  generalize [((289 : Addr), AObj.raw (tabObj #[]))] = t1 at *
  generalize [((265 : Addr), AObj.raw (tabObj #[]))] = t2 at *
  generalize [((311 : Addr), AObj.raw (tabObj #[]))] = t3 at *
  walk_at "ae"
  refine AC.use (σ₁ := []) O small_spec (by (first | lia | omega)) (Le.refl _) ?_
  rintro p σ' ⟨rfl, rfl⟩
  refine ⟨_, Le.refl _, ?_⟩
  walk_at "ae"
  try refine ⟨(fun h => nomatch h), fun _ => ?_⟩
  walk_at "ae"
  refine (pool_spec (O.le (by (first | lia | omega))) hl hi hn).mono ?_
  rintro p σ' ⟨src, a, b, rfl, rfl, hb0, hb⟩
  walk_at "ae"
  refine ((CT.of (wiresC (σ := _))) C _ (O.le (by (first | lia | omega)))).mono ?_
  rintro p σ' ⟨W, R, D, FA, rfl, e⟩
  have e : σ' = WS (g0 W R D FA) ++ _ := e
  subst e
  walk_at "ae"
  refine AE.list ?_
  walk_at "ae"
  refine ⟨by simp, fun un => ?_⟩
  walk_at "ae"
  refine AG.tup O rfl rfl ?_
  simp only [AGs]
  walk_at "ae"
  refine AG.cell O hs rfl (by rw [hc]; rfl) (p₀ := none) (by rw [List.nil_append]; exact .tail (UpdS.pre (UpdS.pre .head _) _)) ?_
  walk_at "ae"
  refine AG.cell O hs rfl (by rw [hc]; rfl) (p₀ := none) (.tail (UpdS.pre (UpdS.pre (.tail (.tail (.tail .head))) _) _)) ?_
  walk_at "ae"
  refine AC.useF (σ := t2 ++ (srcS src a b ++ WS (g0 W R D FA))) (φ := (un, .list []) :: (L + 3, .cell (some (.ref W))) :: (L + 2, .cell none) :: (L + 1, .cell none) :: (L, .cell (some (.int 0))) :: (t1 ++ t3)) O F (joined_spec hb0 hb ht2) (by (first | lia | omega)) (Le.perm (by walk_at "perm")) ?_
  rintro p σ' ⟨t2', rw, rws, g, a1, b1, rfl, ht2', hb0', hb', hgW, hfl, hsent, h2, h5, hrows, hok, rfl⟩
  subst hgW
  refine ⟨(src, .list [.int a1, .int b1]) :: (un, .list []) :: (L + 3, .cell (some (.ref g.W))) :: (L + 2, .cell none) :: (L + 1, .cell none) :: (L, .cell (some (.int 0))) :: (rowsS rw rws ++ (WS g ++ (t1 ++ (t2' ++ t3)))), Le.perm (by walk_at "perm"), ?_⟩
  refine AG.cell O hs rfl (by rw [hc]; rfl) (p₀ := none) (.tail (.tail (.tail .head))) ?_
  clear ht2 hb0 hb
  have hI : LI g.W 0 g rws [] := ⟨rfl, hrows, hok, h2, h5, by rw [hfl]; exact Twin.nil, (fun _ h => nomatch h), (fun _ h => nomatch h), Nat.le_refl _⟩
  refine AX.conv (ρ := [(Str.ofString "under", .ref un), (Str.ofString "source", .ref src), (Str.ofString "script", .ref sa)]) (σ := LS src a1 b1 un [] L 0 none rw rws g.W g t1 t2' t3) rfl rfl ?_
  walk_at "ae"
  have hrl : rws.length = g.ws.length := by rw [← hrows, List.length_map]
  refine AE.lamP (P := 311) (c := 313) (qual := lawQ) (σ := LS src a1 b1 un [] L 0 none rw rws g.W g t1 t2' []) O hcode.1 (by rw [hcode.2]; rfl) (codeHd_313 _) (closureFor_of (by rw [hc]; rfl)) rfl (fun _ _ _ => rfl) ht3 (Le.perm (by walk_at "perm")) fun t3' o2 c' htab ho => ⟨LS src a1 b1 un [] L 0 none rw rws g.W g t1 t2' t3', Le.perm (by walk_at "perm"), ?_⟩
  walk_at "ae"
  refine AC.useF (σ := t3' ++ (lawC L g.W rw rws ++ WS g)) (φ := (src, .list [.int a1, .int b1]) :: (un, .list []) :: (L + 1, .cell none) :: (L, .cell (some (.int 0))) :: (rws.map rowObj ++ (t1 ++ t2'))) O F (refused_spec excFacts_44 (lam_law (g := g) (L := L) (rw := rw) (rws := rws) ho htab rfl (by decide) rfl rfl ?_) fun _ _ _ => Callee.lam ho) (by (first | lia | omega)) (Le.perm (by walk_at "perm")) ?_
  · intro C fs O F hs hc
    refine RE.meth (fun _ => rfl) (fun _ => rfl) (fun _ => rfl) ?_
    have hA : (L + 3, AObj.cell (some (.ref g.W))) ∈ (t3' ++ (lawC L g.W rw rws ++ WS g)) ++ fs := List.mem_append_left _ (List.mem_append_right _ (.head _))
    have hB : (L + 2, AObj.cell (some (.ref rw))) ∈ (t3' ++ (lawC L g.W rw rws ++ WS g)) ++ fs := List.mem_append_left _ (List.mem_append_right _ (.tail _ (.head _)))
    have hR : (rw, AObj.list (rws.map fun r => .ref r.1)) ∈ (t3' ++ (lawC L g.W rw rws ++ WS g)) ++ fs := List.mem_append_left _ (List.mem_append_right _ (.tail _ (.tail _ (.head _))))
    have hW2 : (g.W, AObj.inst 184 (wiresF g)) ∈ (t3' ++ (lawC L g.W rw rws ++ WS g)) ++ fs := List.mem_append_left _ (List.mem_append_right _ (.tail _ (.tail _ (.tail _ (.head _)))))
    walk_at "ae"
    exact ⟨by walk_at "callee", RW.use (φ := t3' ++ lawC L g.W rw rws) O F (ends_raises (g := g) (by rw [List.length_map]; (first | lia | omega)) (by (first | lia | omega)) (by rw [List.length_map]; (first | lia | omega))) (by (first | lia | omega)) (Le.app (Le.perm pullB) fs) pullB.symm⟩
  rintro p σ' ⟨rfl, rfl⟩
  refine ⟨LS src a1 b1 un [] L 0 none rw rws g.W g t1 t2' t3', Le.perm (by walk_at "perm"), ?_⟩
  walk_at "ae"
  try refine ⟨(fun h => nomatch h), fun _ => ?_⟩
  clear ho ht3
  have ht3' : TabS 311 lawPos lawQ t3' := .inr ⟨c', htab⟩
  clear htab
  obtain ⟨W, hW⟩ : ∃ W, W = g.W := ⟨_, rfl⟩
  rw [← hW] at hI ⊢
  let ρ₀ : Locs := [(Str.ofString "under", .ref un), (Str.ofString "source", .ref src), (Str.ofString "script", .ref sa)]
  refine AS.cut (LCut ρ₀ src un L rw W t2' t3') ?_ ?_
  · refine AS.forIn (n := 0) ?_ (fun _ => rfl) O.hh
    walk_at "ae"
    refine AC.use (σ₁ := srcS src a1 b1) O (take_any (top := 10) (by (first | lia | omega)) (by (first | lia | omega)) hb0' hb') (by (first | lia | omega)) (Le.refl _) ?_
    rintro p σ' ⟨v, rfl, hv, a2, b2, rfl, hb1, hb2⟩
    refine ⟨_, Le.refl _, ?_⟩
    walk_at "ae"
    refine AC.range1 fun t u w => ?_
    have e2 : ((5 : Int) + (v : Int)) = ((5 + v : Nat) : Int) := by (first | lia | omega)
    rw [e2]
    refine ForK.mk (fun d ρ σ => LTurn ρ₀ src un L rw W t2' t3' v d.length ρ σ) (Iter.range (by decide) (by decide) (by (first | lia | omega)) (by (first | lia | omega))) (trivial) (⟨Sub.refl _, a2, b2, [], 0, none, rws, g, t1, hb1, hb2, hI, by simp, ht1, rfl⟩) ?_ ?_ ?_
    · rintro ρ σ ⟨sub, a, b, u, now, fo, rws, g, t1, h1, h2, h3, h4, h5, rfl⟩
      exact ⟨rfl, sub, _, a, b, u, now, fo, rws, g, t1, h1, h2, h3, by (first | lia | omega), h5, rfl⟩
    · rintro d ρ σ ⟨_, a, b, u, now, fo, rws, g, t1, _, _, _, _, _, rfl⟩
      trivial
    clear hI hrl hrows hok h2 h5 hfl hsent hb1 hb2 hb0' hb' ht1 ht2'
    rintro d x r hl J I₀ ρ σ ⟨sub, a, b, u, now, fo, rws, g, t1, hb0, hb, hI, hdl, ht1, rfl⟩
    refine AG.locs sub ?_
    obtain ⟨rfl, hdv⟩ := nums_at hl
    have Fj := F.jj J I₀
    obtain ⟨C', hC⟩ : ∃ C', C' = C.jj J I₀ := ⟨_, rfl⟩
    rw [← hC] at Fj ⊢
    have O' : C'.Ok 20 := by rw [hC]; exact O.jj J I₀
    have hE : C'.env = C.env := by rw [hC]
    have hs' := hs
    have hc' := hc
    rw [← hE] at hs' hc'
    clear hC O hs hE hc hcode F hl sub hco
    walk_at "ae"
    refine AS.assign ?_ rfl ((swapped_sc hs').trans rfl) rfl
    walk_at "ae"
    refine AE.lst ?_
    walk_at "ae"
    refine AC.use (σ₁ := srcS src a b) O' (one_any (by simp) (by simp) hb0 hb) (by (first | lia | omega)) (Le.refl _) ?_
    rintro p σ' ⟨hp, a4, b4, rfl, hb7, hb8⟩
    refine ⟨_, Le.refl _, ?_⟩
    obtain ⟨step, rfl⟩ : ∃ step : Int, p = .int step := by
      simp at hp
      rcases hp with rfl | rfl | rfl <;> exact ⟨_, rfl⟩
    clear hp hb0 hb
    walk_at "ae"
    refine AC.use (σ₁ := srcS src a4 b4) O' (take_any (top := 8) (by (first | lia | omega)) (by (first | lia | omega)) hb7 hb8) (by (first | lia | omega)) (Le.refl _) ?_
    rintro p σ' ⟨way, rfl, hway, a5, b5, rfl, hb0, hb⟩
    refine ⟨_, Le.refl _, ?_⟩
    clear hb7 hb8
    walk_at "ae"
    refine AG.tup O' rfl rfl ?_
    simp only [AGs]
    refine AG.cell O' hs' rfl (by rw [hc']; rfl) (p₀ := some (.int now)) (.tail (.tail (.tail (.tail (.tail .head))))) ?_
    walk_at "ae2"
    generalize now + step = now
    refine AX.conv (ρ := (Str.ofString "way", .int way) :: (Str.ofString "turn", .int d.length) :: ρ₀) (σ := LS src a5 b5 un u L now fo rw rws W g t1 t2' t3') rfl rfl ?_
    clear a b a4 b4
    let ρ₁ : Locs := (Str.ofString "turn", .int d.length) :: ρ₀
    refine AX.cut (LDeed ((Str.ofString "is_right", .bool true) :: ρ₁) src un L rw W now t2' t3' (d.length + 1)) ?_ ?_
    · obtain ⟨rfl⟩ : g.W = W := hI.gW
      have hrows := hI.rows
      have hlen : rws.length = g.ws.length := by rw [← hrows, List.length_map]
      have h5 := hI.five
      have h2 := hI.two
      have hul := hI.len
      have hfl : g.fl.length = u.length := hI.twin.perm.length_eq
      have fin : ∀ (ρ' : Locs) a b u' fo' rws' (g' : GW) t1' φ, Sub ρ₁ ρ' → 0 ≤ b → b < 2147483648 → LI g.W (d.length + 1) g' rws' u' → TabS 289 turnedPos turnedQ t1' → φ = LS src a b un u' L now fo' rw rws' g'.W g' t1' t2' t3' →
          Fl.next = Fl.next ∧ LDeed ((Str.ofString "is_right", .bool true) :: ρ₁) src un L rw g.W now t2' t3' (d.length + 1) ((Str.ofString "is_right", .bool true) :: ρ') φ := by
        intro ρ' a b u' fo' rws' g' t1' φ h0 h1 h2 h3 h4 h5
        rw [h3.gW] at h5
        exact ⟨rfl, h0.cons _ _, a, b, u', fo', rws', g', t1', h1, h2, h3, h4, h5⟩
      have hR : (rw, AObj.list (rws.map fun r => .ref r.1)) ∈ LS src a5 b5 un u L now fo rw rws g.W g t1 t2' t3' := .tail _ (.tail _ (.tail _ (.tail _ (.tail _ (.tail _ (.head _))))))
      walk_at "ae"
      refine ⟨fun hway4 => ?_, fun hway4 => ?_⟩
      · refine AX.nodup fun nd => ?_
        have nd' : (rws.map (·.1)).Nodup := by
          simp only [List.map_cons, List.map_append, List.map_map] at nd
          replace nd := (List.nodup_cons.mp nd).2
          replace nd := (List.nodup_cons.mp nd).2
          replace nd := (List.nodup_cons.mp nd).2
          replace nd := (List.nodup_cons.mp nd).2
          replace nd := (List.nodup_cons.mp nd).2
          replace nd := (List.nodup_cons.mp nd).2
          exact (List.nodup_cons.mp (List.nodup_append.mp nd).1).2
        have hO : ∀ r ∈ rws, rowObj r ∈ LS src a5 b5 un u L now fo rw rws g.W g t1 t2' t3' := fun r hr => .tail _ (.tail _ (.tail _ (.tail _ (.tail _ (.tail _ (List.mem_append_left _ (.tail _ (List.mem_map_of_mem (f := rowObj) hr))))))))
        walk_at "ae"
        refine AE.comp1 (cl := []) O' (by rw [hc']; rfl) (by rw [relabel, hs']) rfl (by decide) (by decide) (fun _ => rfl) ?_
        walk_at "ae"
        refine ⟨rws.map fun r => PV.ref r.1, _, fun _ => true, fun p => (rowEnds rws p).getD 0 .none, Iter.list hR, fun acc ys => .tail _ hR, by rw [List.length_map]; (first | lia | omega), fun acc => ⟨_, _, Fz.ice _ _ _, ?fin⟩, ?st⟩
        case st =>
          intro acc ys x hx C2 O2 hs2 hc2
          obtain ⟨r, hr, rfl⟩ := List.mem_map.mp hx
          walk_at "ae"
          simp only [ATs]
          refine ⟨trivial, trivial, fun _ => ?_⟩
          walk_at "ae"
          refine AI.list (l := rowL r.2) (p := endP r.2.one) (.tail _ (hO r hr)) (by decide) (by decide) rfl ?_
          exact ⟨rfl, by rw [rowEnds_of nd' hr]; rfl⟩
        case fin =>
        rw [col0 nd']
        walk_at "ae"
        refine AE.comp1 (cl := []) O' (by rw [hc']; rfl) (by rw [relabel, hs']) rfl (by decide) (by decide) (fun _ => rfl) ?_
        walk_at "ae"
        refine ⟨rws.map fun r => PV.ref r.1, _, fun _ => true, fun p => (rowEnds rws p).getD 1 .none, Iter.list hR, fun acc ys => .tail _ hR, by rw [List.length_map]; (first | lia | omega), fun acc => ⟨_, _, Fz.ice _ _ _, ?fin⟩, ?st⟩
        case st =>
          intro acc ys x hx C2 O2 hs2 hc2
          obtain ⟨r, hr, rfl⟩ := List.mem_map.mp hx
          walk_at "ae"
          simp only [ATs]
          refine ⟨trivial, trivial, fun _ => ?_⟩
          walk_at "ae"
          refine AI.list (l := rowL r.2) (p := endP r.2.other) (.tail _ (hO r hr)) (by decide) (by decide) rfl ?_
          exact ⟨rfl, by rw [rowEnds_of nd' hr]; rfl⟩
        case fin =>
        rw [col1 nd']
        walk_at "ae"
        refine AO2.addLst (by rw [List.length_map, List.length_map]; (first | lia | omega)) ?_
        walk_at "ae"
        refine AE.lst ?_
        walk_at "ae"
        refine AO2.addLst (by simp only [List.length_append, List.length_map, List.length_cons, List.length_nil]; (first | lia | omega)) ?_
        walk_at "ae"
        refine AC.use (σ₁ := srcS src a5 b5) O' (one_any (by simp only [List.length_append, List.length_map, List.length_cons, List.length_nil]; (first | lia | omega)) (by simp only [List.length_append, List.length_map, List.length_cons, List.length_nil]; (first | lia | omega)) hb0 hb) (by (first | lia | omega)) (Le.refl _) ?_
        rintro p σ' ⟨hp, a6, b6, rfl, hb1, hb2⟩
        refine ⟨_, Le.refl _, ?_⟩
        obtain ⟨e, rfl⟩ : ∃ e : Int × Int, p = endP e := by
          simp only [List.mem_append, List.mem_map, List.mem_cons, List.not_mem_nil, or_false] at hp
          rcases hp with (⟨r, _, rfl⟩ | ⟨r, _, rfl⟩) | rfl
          · exact ⟨_, rfl⟩
          · exact ⟨_, rfl⟩
          · exact ⟨(3, 7), rfl⟩
        clear hp hO nd hb0 hb
        walk_at "ae"
        cases hat : rowAt e g.ws 0 with
        | none =>
          refine AC.use (σ₁ := lawS g rw rws un u) (φ := (src, .list [.int a6, .int b6]) :: (L + 3, .cell (some (.ref g.W))) :: (L + 2, .cell (some (.ref rw))) :: (L + 1, .cell fo) :: (L, .cell (some (.int now))) :: (t1 ++ (t2' ++ t3'))) O' (sent_no (e := e) (now := now) (th := .int d.length) (by (first | lia | omega)) hrows (by rw [hat]; intro i d h; cases h)) (by (first | lia | omega)) (Le.perm (by walk_at "perm")) ?_
          rintro p σ' ⟨rfl, rfl⟩
          refine ⟨LS src a6 b6 un u L now fo rw rws g.W g t1 t2' t3', Le.perm (by walk_at "perm"), ?_⟩
          walk_at "ae"
          exact fin _ _ _ _ _ _ _ _ _ (by walk_at "sub") hb1 hb2 hI.step ht1 rfl
        | some q =>
          obtain ⟨i, dd⟩ := q
          cases hw : dd.whole with
          | false =>
            refine AC.use (σ₁ := lawS g rw rws un u) (φ := (src, .list [.int a6, .int b6]) :: (L + 3, .cell (some (.ref g.W))) :: (L + 2, .cell (some (.ref rw))) :: (L + 1, .cell fo) :: (L, .cell (some (.int now))) :: (t1 ++ (t2' ++ t3'))) O' (sent_no (e := e) (now := now) (th := .int d.length) (by (first | lia | omega)) hrows (by rw [hat]; intro i d h; cases h; exact hw)) (by (first | lia | omega)) (Le.perm (by walk_at "perm")) ?_
            rintro p σ' ⟨rfl, rfl⟩
            refine ⟨LS src a6 b6 un u L now fo rw rws g.W g t1 t2' t3', Le.perm (by walk_at "perm"), ?_⟩
            walk_at "ae"
            exact fin _ _ _ _ _ _ _ _ _ (by walk_at "sub") hb1 hb2 hI.step ht1 rfl
          | true =>
            refine AC.use (σ₁ := lawS g rw rws un u) (φ := (src, .list [.int a6, .int b6]) :: (L + 3, .cell (some (.ref g.W))) :: (L + 2, .cell (some (.ref rw))) :: (L + 1, .cell fo) :: (L, .cell (some (.int now))) :: (t1 ++ (t2' ++ t3'))) O' (sent_yes (e := e) (now := now) (th := .int d.length) (by (first | lia | omega)) (by (first | lia | omega)) (by (first | lia | omega)) hrows hat hw) (by (first | lia | omega)) (Le.perm (by walk_at "perm")) ?_
            rintro p σ' ⟨rfl, f, hf1, hf2, hf3, rfl⟩
            have hI' := hI.sent_yes hf2 hf3
            generalize hG : ({ g with sent := g.sent + 1, fl := g.fl.take (putAtF (f.time, f.sent) g.fl g.fl.length) ++ f :: g.fl.drop (putAtF (f.time, f.sent) g.fl g.fl.length) } : GW) = G at *
            have hGW : G.W = g.W := by rw [← hG]
            refine ⟨LS src a6 b6 un (u ++ [f]) L now fo rw rws g.W G t1 t2' t3', Le.perm (by walk_at "perm"), ?_⟩
            walk_at "ae"
            exact fin _ _ _ _ _ _ _ _ _ (by walk_at "sub") hb1 hb2 hI' ht1 (by rw [hGW])
      walk_at "ae"
      refine ⟨fun hway6 => ?_, fun hway6 => ?_⟩
      · walk_at "ae"
        refine AS.swap2 (x := Str.ofString "number") (y := Str.ofString "word") O' hs' rfl rfl rfl rfl ?_
        walk_at "ae"
        refine AC.use (σ₁ := srcS src a5 b5) O' (take_any (top := (rws.map fun r => PV.ref r.1).length) (by rw [List.length_map]; (first | lia | omega)) (by rw [List.length_map]; (first | lia | omega)) hb0 hb) (by (first | lia | omega)) (Le.refl _) ?_
        rintro p σ' ⟨i, rfl, hi, a6, b6, rfl, hb1, hb2⟩
        refine ⟨_, Le.refl _, ?_⟩
        walk_at "ae"
        refine AE.lst ?_
        walk_at "ae"
        refine AC.use (σ₁ := srcS src a6 b6) O' (one_any (by simp) (by simp) hb1 hb2) (by (first | lia | omega)) (Le.refl _) ?_
        rintro p σ' ⟨hp, a7, b7, rfl, hb3, hb4⟩
        refine ⟨_, Le.refl _, ?_⟩
        rw [List.length_map] at hi
        clear hb0 hb hb1 hb2
        obtain ⟨dd, hgi⟩ : ∃ dd, g.ws[i]? = some dd := ⟨g.ws[i]'(by (first | lia | omega)), List.getElem?_eq_getElem _⟩
        walk_at "ae"
        refine ⟨_, _, rfl, ?_⟩
        walk_at "ae"
        have hp : p = .str (Str.ofString "cut") ∨ p = .str (Str.ofString "mend") := by simpa using hp
        have same : ∀ w : Str, decide (w = Str.ofString "mend") = dd.whole → AC C' ((Str.ofString "number", .int i) :: (Str.ofString "word", .str w) :: (Str.ofString "way", .int way) :: ρ₁) (LS src a7 b7 un u L now fo rw rws g.W g t1 t2' t3') (.ref 292) [.ref g.W, .ref rw, .ref un, .int i, .str w, .int now]
            fun p σ' => p = .bool true ∧ ∃ t1', TabS 289 turnedPos turnedQ t1' ∧ σ' = LS src a7 b7 un u L now fo rw rws g.W g t1' t2' t3' := by
          intro w hw
          refine AC.useF (σ := t1 ++ lawS g rw rws un u) (φ := (src, .list [.int a7, .int b7]) :: (L + 3, .cell (some (.ref g.W))) :: (L + 2, .cell (some (.ref rw))) :: (L + 1, .cell fo) :: (L, .cell (some (.int now))) :: (t2' ++ t3')) O' Fj (turned_same (by (first | lia | omega)) hrows hgi hw ht1) (by (first | lia | omega)) (Le.perm (by walk_at "perm")) ?_
          rintro p σ' ⟨rfl, t1', ht1', rfl⟩
          exact ⟨LS src a7 b7 un u L now fo rw rws g.W g t1' t2' t3', Le.perm (by walk_at "perm"), rfl, t1', ht1', rfl⟩
        rcases hp with rfl | rfl
        · cases hw : dd.whole with
          | false =>
            refine (same _ (by rw [hw]; exact ec)).mono ?_
            rintro p σ' ⟨rfl, t1', ht1', rfl⟩
            walk_at "ae"
            exact fin _ _ _ _ _ _ _ _ _ (by walk_at "sub") hb3 hb4 hI.step ht1' rfl
          | true =>
            refine AC.use (σ₁ := lawS g rw rws un u) (φ := (src, .list [.int a7, .int b7]) :: (L + 3, .cell (some (.ref g.W))) :: (L + 2, .cell (some (.ref rw))) :: (L + 1, .cell fo) :: (L, .cell (some (.int now))) :: (t1 ++ (t2' ++ t3'))) O' (turned_cut (by (first | lia | omega)) (by (first | lia | omega)) (by (first | lia | omega)) hrows hgi hw) (by (first | lia | omega)) (Le.perm (by walk_at "perm")) ?_
            rintro p σ' ⟨rfl, y, F', hy, rfl⟩
            have hI' := (hI.setW hgi false y).part (fun f => f.number != (i : Int)) F' (hI.twin.filter _)
            generalize hG : ({ g with F := F', ws := g.ws.set i { dd with whole := false }, fl := g.fl.filter fun f => f.number != (i : Int) } : GW) = G at *
            have hGW : G.W = g.W := by rw [← hG]
            refine ⟨LS src a7 b7 un (u.filter fun f => f.number != (i : Int)) L now fo rw (rws.set i (y, { dd with whole := false })) g.W G t1 t2' t3', Le.perm (by walk_at "perm"), ?_⟩
            walk_at "ae"
            exact fin _ _ _ _ _ _ _ _ _ (by walk_at "sub") hb3 hb4 hI' ht1 (by rw [hGW])
        · cases hw : dd.whole with
          | true =>
            refine (same _ (by rw [hw]; exact em)).mono ?_
            rintro p σ' ⟨rfl, t1', ht1', rfl⟩
            walk_at "ae"
            exact fin _ _ _ _ _ _ _ _ _ (by walk_at "sub") hb3 hb4 hI.step ht1' rfl
          | false =>
            refine AC.use (σ₁ := lawS g rw rws un u) (φ := (src, .list [.int a7, .int b7]) :: (L + 3, .cell (some (.ref g.W))) :: (L + 2, .cell (some (.ref rw))) :: (L + 1, .cell fo) :: (L, .cell (some (.int now))) :: (t1 ++ (t2' ++ t3'))) O' (turned_mend (by (first | lia | omega)) hrows hgi hw) (by (first | lia | omega)) (Le.perm (by walk_at "perm")) ?_
            rintro p σ' ⟨rfl, y, hy, rfl⟩
            have hI' := (hI.setW hgi true y).step
            generalize hG : ({ g with ws := g.ws.set i { dd with whole := true } } : GW) = G at *
            have hGW : G.W = g.W := by rw [← hG]
            refine ⟨LS src a7 b7 un u L now fo rw (rws.set i (y, { dd with whole := true })) g.W G t1 t2' t3', Le.perm (by walk_at "perm"), ?_⟩
            walk_at "ae"
            exact fin _ _ _ _ _ _ _ _ _ (by walk_at "sub") hb3 hb4 hI' ht1 (by rw [hGW])
      have hWm : (g.W, AObj.inst 184 (wiresF g)) ∈ LS src a5 b5 un u L now fo rw rws g.W g t1 t2' t3' := .tail _ (.tail _ (.tail _ (.tail _ (.tail _ (.tail _ (List.mem_append_right _ (List.mem_append_left _ (.head _))))))))
      have hokf : ∀ f ∈ g.fl, okD 1 f.thing = true := fun f hf => by rw [hI.twin.things f (hI.twin.perm.mem_iff.mp hf)]; rfl
      have hUm : (un, AObj.list (u.map undP)) ∈ LS src a5 b5 un u L now fo rw rws g.W g t1 t2' t3' := .tail _ (.head _)
      walk_at "ae"
      refine ⟨fun hway7 => ?_, fun hway7 => ?_⟩
      · refine AX.conseq (K := fun fl ρ' σ' => fl = .next ∧ Sub ((Str.ofString "is_right", .bool true) :: ρ₁) ρ' ∧ ∃ D l u G, LI g.W (d.length + 1) G rws u ∧ σ' = (D, .list l) :: LS src a5 b5 un u L now fo rw rws g.W G t1 t2' t3') ?_ ?_
        case refine_2 =>
          rintro fl ρ' σ' ⟨rfl, sub, D, l, u', G, hG, rfl⟩
          exact ⟨_, Le.dropH _ _, AX.nil (AX.nil ⟨rfl, sub, a5, b5, u', fo, rws, G, t1, hb0, hb, hG, ht1, rfl⟩)⟩
        walk_at "ae"
        refine AC.use (σ₁ := WS g) (φ := (src, .list [.int a5, .int b5]) :: (un, .list (u.map undP)) :: (L + 3, .cell (some (.ref g.W))) :: (L + 2, .cell (some (.ref rw))) :: (L + 1, .cell fo) :: (L, .cell (some (.int now))) :: (rowsS rw rws ++ (t1 ++ (t2' ++ t3')))) O' (arrivals_spec (g := g) (now := now) (by (first | lia | omega)) hokf) (by (first | lia | omega)) (Le.perm (by walk_at "perm")) ?_
        rintro p σ' ⟨D, rfl, rfl⟩
        have hI' : LI g.W (d.length + 1) { g with fl := g.fl.dropWhile fun f => decide (f.time ≤ now) } rws (u.filter fun f => decide (f.time > now)) := hI.part _ g.F (hI.twin.rest now)
        generalize hG : ({ g with fl := g.fl.dropWhile fun f => decide (f.time ≤ now) } : GW) = G at *
        refine ⟨(D, .list ((g.fl.takeWhile fun f => decide (f.time ≤ now)).map arrP)) :: LS src a5 b5 un u L now fo rw rws g.W G t1 t2' t3', Le.perm (by walk_at "perm"), ?_⟩
        walk_at "ae"
        refine AC.use (σ₁ := [(un, .list (u.map undP))]) (φ := (D, .list ((g.fl.takeWhile fun f => decide (f.time ≤ now)).map arrP)) :: (src, .list [.int a5, .int b5]) :: (L + 3, .cell (some (.ref g.W))) :: (L + 2, .cell (some (.ref rw))) :: (L + 1, .cell fo) :: (L, .cell (some (.int now))) :: (rowsS rw rws ++ (WS G ++ (t1 ++ (t2' ++ t3'))))) O' (due_law (now := now) (by (first | lia | omega)) hI.twin.things hI.twin.nodupK) (by (first | lia | omega)) (Le.perm (by walk_at "perm")) ?_
        rintro p σ' ⟨u', hp, hpw, rfl, rfl⟩
        have hu' := hI.twin.dueIs now hp hpw
        subst hu'
        refine ⟨(D, .list ((g.fl.takeWhile fun f => decide (f.time ≤ now)).map arrP)) :: LS src a5 b5 un (u.filter fun f => decide (f.time > now)) L now fo rw rws g.W G t1 t2' t3', Le.perm (by walk_at "perm"), ?_⟩
        have ea : arrP = fun f => tupF f := rfl
        rw [ea]
        have hok7 : okDs 7 ((g.fl.takeWhile fun f => decide (f.time ≤ now)).map fun f => tupF f) = true := by
          rw [okDs_iff]
          intro p hp
          obtain ⟨f, hf, rfl⟩ := List.mem_map.mp hp
          have e : tupF f = .tup [.int f.time, endP f.goal, .int (thg f)] := by
            rw [tupF, hI.twin.things f (hI.twin.perm.mem_iff.mp ((List.takeWhile_sublist _).subset hf))]
          rw [e]; rfl
        refine AO2.eqL O' (.head _) hok7 (show okDs 7 _ = true from hok7) ?_
        have e2 : ∀ l : List PV, okDs 7 l = true → PyData.eqv (.list (toDs l)) (toD (.lst l)) = true := fun l h => eqv_self (p := .lst l) h
        rw [e2 _ hok7]
        walk_at "ae"
        exact ⟨rfl, by exact (Sub.skip rfl (Sub.refl _)).cons _ _, D, _, _, G, hI', rfl⟩
      · have hk : C'.env.kindOf (Str.ofString "now") = some .cell := by rw [Env.kindOf, hs']; rfl
        have hkf : C'.env.kindOf (Str.ofString "first") = some .cell := by rw [Env.kindOf, hs']; rfl
        walk_at "ae"
        refine AE.comp1 (cl := [(Str.ofString "now", L)]) O' (by rw [hc']; rfl) (by rw [relabel, hs']) rfl (by decide) (by decide) (fun _ => rfl) ?_
        walk_at "ae"
        refine ⟨u.map undP, _, uLe now, id, Iter.list hUm, fun acc ys => .tail _ hUm, by rw [List.length_map]; (first | lia | omega), fun acc => ⟨_, _, Fz.ice _ _ _, ?fin⟩, ?st⟩
        case st =>
          intro acc ys x hx C2 O2 hs2 hc2
          obtain ⟨f, hf, rfl⟩ := List.mem_map.mp hx
          simp only [List.map_cons, List.map_nil, hk] at hs2
          walk_at "ae"
          simp only [ATs]
          walk_at "ae"
          refine ⟨rfl, rfl, fun _ => ?_⟩
          walk_at "ae"
          exact ⟨rfl, rfl⟩
        case fin =>
        rw [uLe_pv]
        have hl1 := List.length_filter_le (fun f : FlyD => decide (f.time ≤ now)) u
        walk_at "ae"
        refine AC.freeze (AC.sortedRows O' (.inl rfl) (fun p hp => ?_) ?_ (by rw [List.length_map]; (first | lia | omega)) fun l' D hp hpw => ⟨_, _, _, rfl, rfl, ?_⟩)
        · obtain ⟨f, hf, rfl⟩ := List.mem_map.mp hp
          exact (undP_row (hI.twin.things f (List.mem_filter.mp hf).1)).1
        · have e : (((u.filter fun f => decide (f.time ≤ now)).map undP).map rk) = ((u.filter fun f => decide (f.time ≤ now)).map keyU) := by
            rw [List.map_map]
            exact List.map_congr_left fun f hf => (undP_row (hI.twin.things f (List.mem_filter.mp hf).1)).2
          rw [e]
          exact List.Nodup.sublist (List.Sublist.map _ (List.filter_sublist)) hI.twin.nodupK
        obtain ⟨u', hp', rfl⟩ := perm_map_inv hp.symm
        have ht' : ∀ f ∈ u', f.thing = .int (thg f) := fun f hf => hI.twin.things f (List.mem_filter.mp (hp'.mem_iff.mpr hf)).1
        have hpw' : u'.Pairwise (fun f f' => lexlt (keyU f) (keyU f') = true) := by
          rw [List.pairwise_map] at hpw
          refine List.Pairwise.imp_of_mem (fun {a b} ha hb h => ?_) hpw
          rw [(undP_row (ht' a ha)).2, (undP_row (ht' b hb)).2] at h
          exact h
        have hu' := hI.twin.dueIs now hp' hpw'
        have hlu : u'.length ≤ u.length := by rw [← hp'.length_eq]; exact hl1
        walk_at "ae"
        intro t
        refine ⟨⟨0, _, .inr (.inl rfl)⟩, AP.lstTo (by (first | lia | omega)) (by rw [List.length_map]; (first | lia | omega)) ?_⟩
        walk_at "ae"
        refine AG.cell O' hs' rfl (by rw [hc']; rfl) (p₀ := fo) (.tail (.tail (.tail (.tail .head)))) ?_
        have split : (u' = [] ∧ (∀ f r, g.fl = f :: r → f.time > now)) ∨ (∃ f r, g.fl = f :: r ∧ f.time ≤ now ∧ (u'.map undP).take (1 : Int).toNat = [undP f]) := by
          rw [hu']
          cases hfl : g.fl with
          | nil => exact .inl ⟨rfl, fun _ _ h => by cases h⟩
          | cons f r =>
            by_cases h : f.time ≤ now
            · refine .inr ⟨f, r, rfl, h, ?_⟩
              rw [List.takeWhile_cons, if_pos (decide_eq_true h)]; rfl
            · refine .inl ⟨?_, fun f' r' e => ?_⟩
              · rw [List.takeWhile_cons, if_neg (by simpa using h)]
              · cases e; (first | lia | omega)
        have hFm : ∀ x, (L + 1, AObj.cell x) ∈ LS src a5 b5 un u L now x rw rws g.W g t1 t2' t3' := fun x => .tail _ (.tail _ (.tail _ (.tail _ (.head _))))
        clear hR hWm hUm
        rcases split with ⟨hu0, hnone⟩ | ⟨f, r, hfr, hft, htk⟩
        · have e0 : (u'.map undP).take (1 : Int).toNat = [] := by rw [hu0]; rfl
          rw [e0]
          refine AX.conv (ρ := (Str.ofString "way", .int way) :: ρ₁) (σ := LS src a5 b5 un u L now (some (.lst [])) rw rws g.W g t1 t2' t3') rfl rfl ?_
          have hUm : (un, AObj.list (u.map undP)) ∈ LS src a5 b5 un u L now (some (.lst [])) rw rws g.W g t1 t2' t3' := .tail _ (.head _)
          have hFm' := hFm (some (.lst []))
          walk_at "ae"
          refine AE.comp1 (cl := [(Str.ofString "first", L + 1)]) O' (by rw [hc']; rfl) (by rw [relabel, hs']) rfl (by decide) (by decide) (fun _ => rfl) ?_
          walk_at "ae"
          refine ⟨u.map undP, _, notFirst [], id, Iter.list hUm, fun acc ys => .tail _ hUm, by rw [List.length_map]; (first | lia | omega), fun acc => ⟨_, _, Fz.ice _ _ _, ?fin⟩, ?st⟩
          case st =>
            intro acc ys x hx C2 O2 hs2 hc2
            obtain ⟨f, hf, rfl⟩ := List.mem_map.mp hx
            simp only [List.map_cons, List.map_nil, hkf] at hs2
            have h1 := ok_und (l := [f]) fun y hy => by rw [List.mem_singleton.mp hy]; exact hI.twin.things f hf
            have hx8 : okD 8 (undP f) = true := by rw [und_int (hI.twin.things f hf)]; rfl
            walk_at "ae"
            simp only [ATs]
            walk_at "ae"
            refine AO2.notInL O2 hx8 rfl ⟨_, rfl, ?_⟩
            refine ⟨rfl, rfl, fun _ => ?_⟩
            walk_at "ae"
            exact ⟨rfl, rfl⟩
          case fin =>
          rw [notFirst_none]
          walk_at "ae"
          refine AW.listAll (l := u.map undP) (by walk_at "upd") (by rw [List.length_map]; (first | lia | omega)) (by rw [List.length_map]; (first | lia | omega)) ?_
          have hWm : (g.W, AObj.inst 184 (wiresF g)) ∈ LS src a5 b5 un u L now (some (.lst [])) rw rws g.W g t1 t2' t3' := .tail _ (.tail _ (.tail _ (.tail _ (.tail _ (.tail _ (List.mem_append_right _ (List.mem_append_left _ (.head _))))))))
          refine AX.conv (ρ := (Str.ofString "way", .int way) :: ρ₁) (σ := LS src a5 b5 un u L now (some (.lst [])) rw rws g.W g t1 t2' t3') rfl rfl ?_
          walk_at "ae"
          refine AC.use (σ₁ := WS g) (φ := (src, .list [.int a5, .int b5]) :: (un, .list (u.map undP)) :: (L + 3, .cell (some (.ref g.W))) :: (L + 2, .cell (some (.ref rw))) :: (L + 1, .cell (some (.lst []))) :: (L, .cell (some (.int now))) :: (rowsS rw rws ++ (t1 ++ (t2' ++ t3')))) O' (nextArrival_none (g := g) (now := now) (by (first | lia | omega)) hokf hnone) (by (first | lia | omega)) (Le.perm (by walk_at "perm")) ?_
          rintro p σ' ⟨rfl, rfl⟩
          refine ⟨LS src a5 b5 un u L now (some (.lst [])) rw rws g.W g t1 t2' t3', Le.perm (by walk_at "perm"), ?_⟩
          walk_at "ae"
          refine AE.lst (AL.nil ⟨by simp, ?_⟩)
          refine AO2.neD O' rfl rfl ⟨_, rfl, ?_⟩
          rw [eqv_nilL]
          try refine ⟨(fun h => nomatch h), fun _ => ?_⟩
          walk_at "ae"
          refine AO2.eqD O' rfl rfl ?_
          have e2 : PyData.eqv (toD PV.none) (toD PV.none) = true := rfl
          rw [e2]
          walk_at "ae"
          exact fin _ _ _ _ _ _ _ _ _ (by walk_at "sub") hb0 hb hI.step ht1 rfl
        · rw [htk]
          have hfu : f ∈ u := hI.twin.perm.mem_iff.mp (by rw [hfr]; exact .head _)
          have hfth := hI.twin.things f hfu
          have h8 : okD 8 (.lst [undP f]) = true := by rw [und_int hfth]; rfl
          refine AX.conv (ρ := (Str.ofString "way", .int way) :: ρ₁) (σ := LS src a5 b5 un u L now (some (.lst [undP f])) rw rws g.W g t1 t2' t3') rfl rfl ?_
          have hUm : (un, AObj.list (u.map undP)) ∈ LS src a5 b5 un u L now (some (.lst [undP f])) rw rws g.W g t1 t2' t3' := .tail _ (.head _)
          have hFm' := hFm (some (.lst [undP f]))
          walk_at "ae"
          refine AE.comp1 (cl := [(Str.ofString "first", L + 1)]) O' (by rw [hc']; rfl) (by rw [relabel, hs']) rfl (by decide) (by decide) (fun _ => rfl) ?_
          walk_at "ae"
          refine ⟨u.map undP, _, notFirst [undP f], id, Iter.list hUm, fun acc ys => .tail _ hUm, by rw [List.length_map]; (first | lia | omega), fun acc => ⟨_, _, Fz.ice _ _ _, ?fin⟩, ?st⟩
          case st =>
            intro acc ys x hx C2 O2 hs2 hc2
            obtain ⟨f', hf', rfl⟩ := List.mem_map.mp hx
            simp only [List.map_cons, List.map_nil, hkf] at hs2
            have hx8 : okD 8 (undP f') = true := by rw [und_int (hI.twin.things f' hf')]; rfl
            walk_at "ae"
            simp only [ATs]
            walk_at "ae"
            refine AO2.notInL O2 hx8 h8 ⟨_, rfl, ?_⟩
            refine ⟨rfl, rfl, fun _ => ?_⟩
            walk_at "ae"
            exact ⟨rfl, rfl⟩
          case fin =>
          rw [notFirst_one hI.twin hfr]
          have hl2 := List.length_filter_le (fun x : FlyD => decide (keyU x ≠ keyU f)) u
          walk_at "ae"
          refine AW.listAll (l := u.map undP) (by walk_at "upd") (by rw [List.length_map]; (first | lia | omega)) (by rw [List.length_map]; (first | lia | omega)) ?_
          have hI' : LI g.W (d.length + 1) { g with fl := r } rws (u.filter fun x => decide (keyU x ≠ keyU f)) := hI.part _ g.F (Twin.first (f := f) (r := r) (by rw [← hfr]; exact hI.twin))
          generalize (u.filter fun x => decide (keyU x ≠ keyU f)) = u2 at *
          have hWm : (g.W, AObj.inst 184 (wiresF g)) ∈ LS src a5 b5 un u2 L now (some (.lst [undP f])) rw rws g.W g t1 t2' t3' := .tail _ (.tail _ (.tail _ (.tail _ (.tail _ (.tail _ (List.mem_append_right _ (List.mem_append_left _ (.head _))))))))
          refine AX.conv (ρ := (Str.ofString "way", .int way) :: ρ₁) (σ := LS src a5 b5 un u2 L now (some (.lst [undP f])) rw rws g.W g t1 t2' t3') rfl rfl ?_
          clear hUm hFm'
          walk_at "ae"
          refine AC.use (σ₁ := WS g) (φ := (src, .list [.int a5, .int b5]) :: (un, .list (u2.map undP)) :: (L + 3, .cell (some (.ref g.W))) :: (L + 2, .cell (some (.ref rw))) :: (L + 1, .cell (some (.lst [undP f]))) :: (L, .cell (some (.int now))) :: (rowsS rw rws ++ (t1 ++ (t2' ++ t3')))) O' (nextArrival_some (g := g) (now := now) (by (first | lia | omega)) hokf hfr hft) (by (first | lia | omega)) (Le.perm (by walk_at "perm")) ?_
          rintro p σ' ⟨rfl, rfl⟩
          generalize hG : ({ g with fl := r } : GW) = G at *
          have hGW : G.W = g.W := by rw [← hG]
          refine ⟨LS src a5 b5 un u2 L now (some (.lst [undP f])) rw rws g.W G t1 t2' t3', Le.perm (by walk_at "perm"), ?_⟩
          have hFm' : (L + 1, AObj.cell (some (.lst [undP f]))) ∈ LS src a5 b5 un u2 L now (some (.lst [undP f])) rw rws g.W G t1 t2' t3' := .tail _ (.tail _ (.tail _ (.tail _ (.head _))))
          walk_at "ae"
          refine AE.lst (AL.nil ⟨by simp, ?_⟩)
          refine AO2.neD O' h8 rfl ⟨_, rfl, ?_⟩
          rw [eqv_nilL]
          try refine ⟨fun _ => ?_, (fun h => nomatch h)⟩
          walk_at "ae"
          have hokA : okD 8 (arrP f) = true := by
            have e : arrP f = .tup [.int f.time, endP f.goal, .int (thg f)] := by rw [arrP, hfth]
            rw [e]; rfl
          refine AO2.eqD O' hokA (show okD 8 (arrP f) = true from hokA) ?_
          have e2 : PyData.eqv (toD (arrP f)) (toD (PV.tup [PV.int f.time, endP f.goal, f.thing])) = true := eqv_self (p := arrP f) hokA
          rw [e2]
          walk_at "ae"
          exact fin _ _ _ _ _ _ _ _ _ (by walk_at "sub") hb0 hb hI' ht1 (by rw [hGW])
    rintro ρ' σ' ⟨sub, a, b, u, fo, rws, g, t1, hb0, hb, hI, ht1, rfl⟩
    refine AX.locs sub ?_
    obtain ⟨rfl⟩ : g.W = W := hI.gW
    have hrows := hI.rows
    have h5 := hI.five
    have hul := hI.len
    have hfl : g.fl.length = u.length := hI.twin.perm.length_eq
    walk_at "ae"
    try refine ⟨(fun h => nomatch h), fun _ => ?_⟩
    walk_at "ae"
    refine AC.use (σ₁ := lawS g rw rws un u) (φ := (src, .list [.int a, .int b]) :: (L + 3, .cell (some (.ref g.W))) :: (L + 2, .cell (some (.ref rw))) :: (L + 1, .cell fo) :: (L, .cell (some (.int now))) :: (t1 ++ (t2' ++ t3'))) O' (stands_spec (by (first | lia | omega)) (by (first | lia | omega)) hrows hI.ok hI.twin) (by (first | lia | omega)) (Le.perm (by walk_at "perm")) ?_
    rintro p σ' ⟨rfl, rfl⟩
    refine ⟨LS src a b un u L now fo rw rws g.W g t1 t2' t3', Le.perm (by walk_at "perm"), ?_⟩
    walk_at "ae"
    try refine ⟨(fun h => nomatch h), fun _ => ?_⟩
    walk_at "ae"
    have hd1 : (d ++ [PV.int d.length]).length = d.length + 1 := by rw [List.length_append]; rfl
    exact ⟨by walk_at "sub", a, b, u, now, fo, rws, g, t1, hb0, hb, by rw [hd1]; exact hI, by rw [hd1]; (first | lia | omega), ht1, rfl⟩
  rintro ρ' σ' ⟨sub, n, a, b, u, now, fo, rws, g, t1, hb0, hb, hI, hn20, ht1, rfl⟩
  refine AX.locs sub ?_
  walk_at "ae"
  refine AC.use (σ₁ := srcS src a b) (φ := (un, .list (u.map undP)) :: (L + 3, .cell (some (.ref W))) :: (L + 2, .cell (some (.ref rw))) :: (L + 1, .cell fo) :: (L, .cell (some (.int now))) :: (rowsS rw rws ++ (WS g ++ (t1 ++ (t2' ++ t3'))))) O (plan_spec hb0 hb) (by (first | lia | omega)) (Le.refl _) ?_
  rintro p σ' rfl
  refine ⟨(σ' ++ ((un, .list (u.map undP)) :: (L + 3, .cell (some (.ref W))) :: (L + 2, .cell (some (.ref rw))) :: (L + 1, .cell fo) :: (L, .cell (some (.int now))) :: (rowsS rw rws ++ WS g))) ++ (t1 ++ (t2' ++ t3')), Le.perm (by walk_at "perm"), rfl, _, t1, t2', t3', ht1, ht2', ht3', rfl⟩
end
section
set_option maxHeartbeats 4000000
theorem grown {C : Ctx} {ρ : Locs} {σ : Store} {τ : Tmp} {s : Shared} {P : Addr} {pos : Pos} {q : Str} {tab : Store} (J : Inv C ρ σ τ s) (ht : TabS P pos q tab) (hs : ∀ x ∈ tab, x ∈ σ) : GrownAt P s.heap := by
  obtain ⟨m, S, I, D⟩ := J
  rcases ht with rfl | ⟨c', oc, vs, t, -, -, rfl⟩
  · exact ⟨_, D.raw (hs _ (.head _))⟩
  · exact ⟨_, D.raw (hs _ (.head _))⟩
theorem law_end {prog : Program} {w : World} {env : Env} {body : List Stmt} {h₀ h₁ : Heap} {m : Str → Option Value} {sa L : Addr} {vs : List Value} {ns : List Int} {tk : Nat} {g : Array GenState} {d : Drawn} {os : OsState} {E : Value → Shared → Prop} {o3 o2 o1 o0 : Obj}
    {p : Program} {loose : List Str} {mean : ExcName → Option Value} {mg mb : Str → Option Value} (X : (hd.heap_1 w.params).In h₀) (T : Top p loose mean mg mb h₀) (F : Fr h₀ L h₁ m)
    (N : News h₀ L h₁ [(L + 1 + 3, o3), (L + 1 + 2, o2), (L + 1 + 1, o1), (L + 1, o0), (289, tabObj #[]), (265, tabObj #[]), (311, tabObj #[])])
    (c3 : o3.data = .cell none) (c2 : o2.data = .cell none) (c1 : o1.data = .cell none) (c0 : o0.data = .cell none) (hl : h₀.IsList sa vs.toArray) (hi : IntsAre vs ns) (hn : ns.length ≤ 63) (hlt : 289 < L ∧ 265 < L ∧ 311 < L)
    (hm : m (Str.ofString "script") = some (.ref sa)) (hcs : cellsFrom (L + 1) env.scope.names [] = [(Str.ofString "wires", L + 1 + 3), (Str.ofString "rows", L + 1 + 2), (Str.ofString "first", L + 1 + 1), (Str.ofString "now", L + 1)]) (hls : locsOf env.scope [(Str.ofString "script", PV.ref sa)] = [(Str.ofString "script", PV.ref sa)]) (e1 : env.locals = L) (e2 : env.cells = cellsFrom (L + 1) env.scope.names []) (e3 : env.frame = some L) (e4 : env.globals = mainGlobals) (e5 : env.builtins = builtinsNs)
    (hb : ∃ o fd, (hd.heap_1 w.params).lookup 314 = some o ∧ o.data = .func fd ∧ fd.body = .stmts body ∧ fd.scope = env.scope ∧ env.code = fd.code ∧ env.qual = fd.qualname ++ ".<locals>.") :
    wpAny (model prog w) (callerA.deeper env) (execs body env) (fun f s' => f = .ret (.bool true) ∧ (∀ b o, h₀.get? b = some o → s'.heap.get? b = some o) ∧ s'.os = os ∧ s'.gens = g ∧ GrownAt 289 s'.heap ∧ GrownAt 265 s'.heap ∧ GrownAt 311 s'.heap) E ⟨h₁, g, d, tk, os⟩ := by
  obtain ⟨body', sc, D, law⟩ := law_body
  obtain ⟨oc, od, osl, name, qual, params, dV, kV, doc, pm, an, cdv, ct, ho, -, -⟩ := D.ex w
  obtain ⟨o, fd, h1, h2, h3, h4, h5, h6⟩ := hb
  have h1' := h1
  rw [ho] at h1
  obtain rfl := Option.some.inj h1
  obtain rfl := Data.func.inj h2
  have h3 : FuncBody.stmts body' = .stmts body := h3
  obtain rfl := FuncBody.stmts.inj h3
  have h4 : sc = env.scope := h4
  subst h4
  subst e1
  let C : Mine.Ctx := { prog := prog, w := w, A := callerA.deeper env, env := env, fr := [env], h₀ := h₀, J := [], I₀ := [], s₀ := ⟨h₁, g, d, tk, os⟩ }
  have O : C.Ok 20 := ⟨rfl, X, ⟨_, _, _, _, _, T⟩, rfl, by show callerA.depth + 1 + 20 ≤ 500; decide, by show (callerA.deeper env).units + 200 ≤ 5000; exact Nat.le_of_ble_eq_true rfl, D.kind, e4, e5⟩
  have K : FrOk C [] := ⟨⟨[], rfl, .nil⟩, e3⟩
  have hco : CodeIs C 314 := by
    intro o' fd' ho' hd'
    have ho' : (hd.heap_1 w.params).lookup 314 = some o' := ho'
    rw [h1'] at ho'
    obtain rfl := Option.some.inj ho'
    obtain rfl := Data.func.inj hd'
    exact ⟨h5, h6⟩
  have law' := law (C := C) (L := env.locals + 1) (sa := sa) (vs := vs) (ns := ns) O K rfl e2 hco hl hi hn
  have hz : ([Str.ofString "script"].zip [PV.ref sa]) = [(Str.ofString "script", PV.ref sa)] := rfl
  rw [hz, hls, hcs] at law'
  refine law' ⟨h₁, g, d, tk, os⟩ _ E ⟨m, [(env.locals + 1 + 3, o3), (env.locals + 1 + 2, o2), (env.locals + 1 + 1, o1), (env.locals + 1, o0), (289, tabObj #[]), (265, tabObj #[]), (311, tabObj #[])], [], ⟨F, N, ?_, ?_, (fun _ h => nomatch h), ?_, (fun _ h => nomatch h), rfl, rfl, rfl⟩⟩ ⟨(fun _ _ _ k _ => nomatch k.1), (fun _ _ _ k _ => nomatch k.1), (fun _ _ _ k _ => nomatch k.1), ?_⟩
  · have key : ∀ n : Nat, 289 < n → 265 < n → 311 < n → [n + 1 + 3, n + 1 + 2, n + 1 + 1, n + 1, 289, 265, 311].Nodup := by
      intro n l1 l2 l3
      have u : ∀ {c : Nat}, c < n → ∀ k, n + k ≠ c := fun h k => Nat.ne_of_gt (Nat.lt_of_lt_of_le h (Nat.le_add_right n k))
      have s : ∀ {i j : Nat}, j < i → n + i ≠ n + j := fun h => Nat.ne_of_gt (Nat.add_lt_add_left h n)
      show [n + 4, n + 3, n + 2, n + 1, 289, 265, 311].Nodup
      simp only [List.nodup_cons, List.mem_cons, List.not_mem_nil, or_false, not_or, List.nodup_nil, and_true, not_false_eq_true]
      exact ⟨⟨s (by decide), s (by decide), s (by decide), u l1 4, u l2 4, u l3 4⟩, ⟨s (by decide), s (by decide), u l1 3, u l2 3, u l3 3⟩, ⟨s (by decide), u l1 2, u l2 2, u l3 2⟩, ⟨u l1 1, u l2 1, u l3 1⟩, by decide, by decide⟩
    exact key _ hlt.1 hlt.2.1 hlt.2.2
  · exact .cons (own := [_]) (.cellN c3) (.cons (own := [_]) (.cellN c2) (.cons (own := [_]) (.cellN c1) (.cons (own := [_]) (.cellN c0) (.cons (own := [_]) .raw (.cons (own := [_]) .raw (.cons (own := [_]) .raw .nil))))))
  · intro x q hx
    have hx : (if (x == Str.ofString "script") = true then some (PV.ref sa) else none) = some q := by
      rw [List.lookup_cons] at hx
      cases h : (x == Str.ofString "script") with
      | true => rw [h] at hx; rw [if_pos rfl]; exact hx
      | false => rw [h] at hx; cases hx
    split at hx
    · rename_i h
      obtain rfl := eq_of_beq h
      cases hx
      exact ⟨_, hm, .val _⟩
    · cases hx
  · rintro v q ρ σ s' ⟨e, x, t1, t2, t3, ht1, ht2, ht3, rfl⟩ J
    cases e
    cases J.getVal (.head _)
    obtain ⟨m', S', I', D'⟩ := id J
    exact ⟨rfl, D'.F.keep, D'.os, D'.g, grown J ht1 fun x hx => List.mem_append_right _ (List.mem_append_left _ hx), grown J ht2 fun x hx => List.mem_append_right _ (List.mem_append_right _ (List.mem_append_left _ hx)),
      grown J ht3 fun x hx => List.mem_append_right _ (List.mem_append_right _ (List.mem_append_right _ hx))⟩
end
set_option maxHeartbeats 8000000
theorem hbOf {w : World} {env : Env} {body : List Stmt} {o : Obj} {fd : FuncData} (h1 : (hd.heap_1 w.params).lookup 314 = some o) (h2 : o.data = .func fd) (h3 : fd.body = .stmts body) (h4 : fd.scope = env.scope) (h5 : env.code = fd.code) (h6 : env.qual = fd.qualname ++ ".<locals>.") :
    ∃ o fd, (hd.heap_1 w.params).lookup 314 = some o ∧ o.data = .func fd ∧ fd.body = .stmts body ∧ fd.scope = env.scope ∧ env.code = fd.code ∧ env.qual = fd.qualname ++ ".<locals>." := ⟨o, fd, h1, h2, h3, h4, h5, h6⟩
theorem said : PySem.Challenge.rw_pb0545_01.wellSaid = true := by
  unfold OpenLaw.wellSaid OpenRow.wellSaid OpenRow.partSaid looksOpen
  repeat' with_reducible refine look_both ?_ ?_
  all_goals decide +kernel
end Mine
set_option maxRecDepth 100000 in
set_option maxHeartbeats 8000000 in
theorem PySem.Challenge.cw_pb0545_01_holds : PySem.Challenge.rw_pb0545_01.Holds := by
  w_on
  refine holds_law Mine.said fun said => ?_
  refine PySem.W.holds_open (q := Mine.qv) (loose := []) (Xt := Mine.xt) (XP := XL Mine.qv []) (Yf := Hook.obs (kmHook Mine.hd.heap_1 Mine.asK Mine.asE [289, 265, 311])) (Ya := Hook.val (kmHook Mine.hd.heap_1 Mine.asK Mine.asE [289, 265, 311])) (YP := Hook.says (kmHook Mine.hd.heap_1 Mine.asK Mine.asE [289, 265, 311])) (N := 4678)
    Mine.left (Hook.of (kmHook Mine.hd.heap_1 Mine.asK Mine.asE [289, 265, 311])) (Hook.keeps (kmHook Mine.hd.heap_1 Mine.asK Mine.asE [289, 265, 311])) (fun s e => xl_of s (Bool.and_eq_true_iff.mp e).1) XL.keeps (by rfl) (by rfl) (by rfl) (fun s e => recFacts_of (Bool.and_eq_true_iff.mp e).2) (by rfl) (by first | assumption | decide +kernel) (by decide +kernel) ⟨rfl, rfl, rfl, rfl, rfl, by decide +kernel⟩ ?hw ?hc
  case hw => w_witness2
  case hc =>
    k_go0
    refine wpAny_mono (Mine.law_end (by assumption) (by assumption) (by assumption) (by assumption) ?c3 ?c2 ?c1 ?c0 (by assumption) (by assumption) ?hn ?hlt ?hm ?hcs ?hls ?e1 ?e2 ?e3 ?e4 ?e5 ?hb) (fun f s' h => ?fin) (fun _ _ h => h)
    case c3 => assumption
    case c2 => assumption
    case c1 => assumption
    case c0 => assumption
    case hn => (first | lia | omega)
    case hlt => assumption
    case hm => rfl
    case hcs => rfl
    case hls => rfl
    case e1 => rfl
    case e2 => rfl
    case e3 => rfl
    case e4 => rfl
    case e5 => rfl
    case hb =>
      refine' Mine.hbOf ?lk ?r1 ?r2 ?r3 ?r4 ?r5
      case lk => k_is
      case r1 => rfl
      case r2 => rfl
      case r3 => rfl
      case r4 => rfl
      case r5 => rfl
    case fin =>
      obtain ⟨rfl, hk, ho, hg, g1, g2, g3⟩ := h
      refine ⟨⟨.inl ⟨.bool true, .bool true, [], rfl, fun _ => rfl, .bool true, ?post, fun _ => ⟨List.nodup_nil, fun _ h => nomatch h⟩⟩, hk, ho, hg.trans (by assumption)⟩, g1, g2, g3, trivial⟩
      case post => kernel_rfl
