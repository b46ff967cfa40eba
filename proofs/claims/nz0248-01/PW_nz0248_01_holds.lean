import PyProof.Rows.All
import Wide.All
import OpenK.AllK
import Wide.FinOn
import Lean
import PySem.Challenge.RW_nz0248_01
open PySem PySem.W PyProof.Rows PySem.Calls PySem.Spec
set_option Elab.async false
set_option maxRecDepth 100000
set_option compiler.extract_closed false
namespace Mine
-- part HD
section
/- the head's tool writes the part K of the heap and the view; its goal is closed by a hypothesis, so that nothing else of the head is laid here -/
section
local macro_rules | `(tactic| refine $_) => `(tactic| assumption)
theorem hd : PySem.Challenge.rw_nz0248_01.row.Holds → True := by
  intro h
  have : PySem.Challenge.rw_nz0248_01.row.Holds := by k_head
  trivial
end
end

-- part Left
noncomputable def asL : List Addr := [2, 3, 15, 17, 18, 20, 21, 22, 29, 31, 32, 34, 35, 36, 37, 38, 39, 42, 49, 50, 51, 54, 61, 62, 63, 66, 73, 74, 75, 78,
      80, 81, 83, 84, 85, 87, 88, 90, 91, 92, 94, 95, 97, 98, 106, 107, 109, 110, 112, 113, 114, 115, 116, 117, 118,
      121, 123, 124, 126, 127, 128, 131, 132, 140, 142, 143, 145, 146, 147, 149, 150, 152, 153, 154, 156, 157, 159, 160,
      161, 163, 164, 166, 167, 168, 170, 171, 173, 174, 175, 177, 178, 180, 181, 182, 184, 185, 187, 188, 189, 191, 192,
      194, 195, 196, 198, 199, 201, 202, 203, 205, 206, 208, 209, 210, 211, 212, 213, 214, 217, 219, 220, 222, 223, 224,
      226, 227, 229, 230, 231, 233, 234, 236, 237, 238, 240, 241, 243, 244, 245, 248, 249, 250, 252, 253, 255, 256, 257,
      259, 260, 262, 263, 264, 267, 268, 269, 271, 272, 274, 275, 276, 278, 279, 281, 282]
theorem asL_eq (P : Params) : asL = (hd.heap_1 P).map (·.1) := by kernel_rfl
/- the heaps of the run of the text's top: what stood at the start (boot_o_i), what K holds (kAt), a def's bare form (kPro, made of K's), and the rest (oAt) -/
noncomputable def kAt (P : Params) (a : Addr) : Obj := match (hd.heap_1 P).lookup a with
  | some o => o
  | none => default
noncomputable def kPro (P : Params) (a : Addr) : Obj := match (kAt P a).data with
  | .func f => { cls := .none, data := .func { name := f.name, qualname := f.qualname, params := f.params, body := f.body, scope := f.scope, globals := 0, closure := [], defaults := .none, kwdefaults := .none } }
  | _ => default
noncomputable def oths (P : Params) : List (Addr × Obj) := [
  (11, ⟨.type "tuple", .none, .seq #[] 0, #[]⟩),
  (12, ⟨.none, .none, .fields #[.int 1 0, .int 0 0, .ref 20, .int 5 0, .int 0 0, .ref 27, .int 10 0, .int 0 0, .ref 47, .int 12 0, .int 0 0, .ref 59, .int 14 0, .int 0 0, .ref 71, .int 17 0, .int 0 0, .ref 83, .int 28 0, .int 0 0, .ref 90, .int 30 0, .int 0 0, .ref 97, .int 32 0, .int 0 0, .ref 104, .int 38 0, .int 0 0, .ref 126, .int 45 0, .int 0 0, .ref 131, .int 48 0, .int 0 0, .ref 138, .int 132 0, .int 0 0, .ref 222, .int 143 0, .int 0 0, .ref 229, .int 150 0, .int 0 0, .ref 236, .int 157 0, .int 0 0, .ref 243, .int 162 0, .int 0 0, .ref 248, .int 169 0, .int 0 0, .ref 255, .int 176 0, .int 0 0, .ref 262, .int 183 0, .int 0 0, .ref 267, .int 185 0, .int 0 0, .ref 274, .int 196 0, .int 0 0, .ref 281], #[]⟩),
  (13, ⟨.type "code", .none, .fields #[.str (Str.ofString "<module>") 182, .str (Str.ofString "<module>") 183, .str (Str.ofString "/claim/cut.py") 184, .int 1 0, .int 0 0, .int 0 0, .int 0 0, .int 0 0, .ref 11, .bool false, .int 181 0, .ref 12, .none, .none, .none, .none, .int 185 0, .int 1 0, .str (Str.ofString "/claim/cut.py") 186], #[]⟩),
  (14, ⟨.type "frame", .none, .plain, #[.some (.ref 13), .some (.ref 3), .some (.ref 3), .none, .some (.str (Str.ofString "__main__") 164), .none, .some (.ref 0)]⟩),
  (16, ⟨.none, .none, .fields #[], #[]⟩),
  (23, ⟨.type "builtin_function_or_method", .none, .fields #[.builtin "type.__prepare__", .type "type"], #[]⟩),
  (24, ⟨.type "dict", .none, .dict #[⟨PyData.keyHash P (Str.ofString "__module__"), .str (Str.ofString "__module__") 203, .str (Str.ofString "pixelpress.errors") 194⟩, ⟨PyData.keyHash P (Str.ofString "__qualname__"), .str (Str.ofString "__qualname__") 205, .str (Str.ofString "PressError") 204⟩, ⟨PyData.keyHash P (Str.ofString "__firstlineno__"), .str (Str.ofString "__firstlineno__") 207, .int 5 206⟩, ⟨PyData.keyHash P (Str.ofString "__init__"), .str (Str.ofString "__init__") 215, .ref 35⟩, ⟨PyData.keyHash P (Str.ofString "__static_attributes__"), .str (Str.ofString "__static_attributes__") 217, .ref 36⟩] 5, #[]⟩),
  (25, ⟨.type "tuple", .none, .seq #[] 0, #[]⟩),
  (26, ⟨.none, .none, .fields #[.int 7 0, .int 4 0, .ref 34], #[]⟩),
  (27, ⟨.type "code", .none, .fields #[.str (Str.ofString "PressError") 198, .str (Str.ofString "PressError") 199, .str (Str.ofString "/claim/cut.py") 200, .int 5 0, .int 0 0, .int 0 0, .int 0 0, .int 0 0, .ref 25, .bool false, .int 181 0, .ref 26, .none, .none, .none, .none, .int 201 0, .int 5 0, .str (Str.ofString "/claim/cut.py") 202], #[]⟩),
  (28, ⟨.type "frame", .none, .plain, #[.some (.ref 27), .some (.ref 3), .some (.ref 24), .none, .some (.str (Str.ofString "pixelpress.errors") 194), .none, .some (.ref 0)]⟩),
  (30, ⟨.none, .none, .fields #[], #[]⟩),
  (40, ⟨.type "super", .none, .fields #[.ref 38, .ref 38, .ref 38], #[]⟩),
  (41, ⟨.type "builtin_function_or_method", .none, .fields #[.builtin "object.__init_subclass__", .ref 38], #[]⟩),
  (43, ⟨.type "builtin_function_or_method", .none, .fields #[.builtin "type.__prepare__", .type "type"], #[]⟩),
  (44, ⟨.type "dict", .none, .dict #[⟨PyData.keyHash P (Str.ofString "__module__"), .str (Str.ofString "__module__") 232, .str (Str.ofString "pixelpress.errors") 194⟩, ⟨PyData.keyHash P (Str.ofString "__qualname__"), .str (Str.ofString "__qualname__") 234, .str (Str.ofString "MarkerError") 233⟩, ⟨PyData.keyHash P (Str.ofString "__firstlineno__"), .str (Str.ofString "__firstlineno__") 236, .int 10 235⟩, ⟨PyData.keyHash P (Str.ofString "__static_attributes__"), .str (Str.ofString "__static_attributes__") 237, .ref 49⟩] 4, #[]⟩),
  (45, ⟨.type "tuple", .none, .seq #[] 0, #[]⟩),
  (46, ⟨.none, .none, .fields #[], #[]⟩),
  (47, ⟨.type "code", .none, .fields #[.str (Str.ofString "MarkerError") 227, .str (Str.ofString "MarkerError") 228, .str (Str.ofString "/claim/cut.py") 229, .int 10 0, .int 0 0, .int 0 0, .int 0 0, .int 0 0, .ref 45, .bool false, .int 181 0, .ref 46, .none, .none, .none, .none, .int 230 0, .int 10 0, .str (Str.ofString "/claim/cut.py") 231], #[]⟩),
  (48, ⟨.type "frame", .none, .plain, #[.some (.ref 47), .some (.ref 3), .some (.ref 44), .none, .some (.str (Str.ofString "pixelpress.errors") 194), .none, .some (.ref 0)]⟩),
  (52, ⟨.type "super", .none, .fields #[.ref 51, .ref 51, .ref 51], #[]⟩),
  (53, ⟨.type "builtin_function_or_method", .none, .fields #[.builtin "object.__init_subclass__", .ref 51], #[]⟩),
  (55, ⟨.type "builtin_function_or_method", .none, .fields #[.builtin "type.__prepare__", .type "type"], #[]⟩),
  (56, ⟨.type "dict", .none, .dict #[⟨PyData.keyHash P (Str.ofString "__module__"), .str (Str.ofString "__module__") 248, .str (Str.ofString "pixelpress.errors") 194⟩, ⟨PyData.keyHash P (Str.ofString "__qualname__"), .str (Str.ofString "__qualname__") 250, .str (Str.ofString "SegmentError") 249⟩, ⟨PyData.keyHash P (Str.ofString "__firstlineno__"), .str (Str.ofString "__firstlineno__") 252, .int 12 251⟩, ⟨PyData.keyHash P (Str.ofString "__static_attributes__"), .str (Str.ofString "__static_attributes__") 253, .ref 61⟩] 4, #[]⟩),
  (57, ⟨.type "tuple", .none, .seq #[] 0, #[]⟩),
  (58, ⟨.none, .none, .fields #[], #[]⟩),
  (59, ⟨.type "code", .none, .fields #[.str (Str.ofString "SegmentError") 243, .str (Str.ofString "SegmentError") 244, .str (Str.ofString "/claim/cut.py") 245, .int 12 0, .int 0 0, .int 0 0, .int 0 0, .int 0 0, .ref 57, .bool false, .int 181 0, .ref 58, .none, .none, .none, .none, .int 246 0, .int 12 0, .str (Str.ofString "/claim/cut.py") 247], #[]⟩),
  (60, ⟨.type "frame", .none, .plain, #[.some (.ref 59), .some (.ref 3), .some (.ref 56), .none, .some (.str (Str.ofString "pixelpress.errors") 194), .none, .some (.ref 0)]⟩),
  (64, ⟨.type "super", .none, .fields #[.ref 63, .ref 63, .ref 63], #[]⟩),
  (65, ⟨.type "builtin_function_or_method", .none, .fields #[.builtin "object.__init_subclass__", .ref 63], #[]⟩),
  (67, ⟨.type "builtin_function_or_method", .none, .fields #[.builtin "type.__prepare__", .type "type"], #[]⟩),
  (68, ⟨.type "dict", .none, .dict #[⟨PyData.keyHash P (Str.ofString "__module__"), .str (Str.ofString "__module__") 264, .str (Str.ofString "pixelpress.errors") 194⟩, ⟨PyData.keyHash P (Str.ofString "__qualname__"), .str (Str.ofString "__qualname__") 266, .str (Str.ofString "RangeError") 265⟩, ⟨PyData.keyHash P (Str.ofString "__firstlineno__"), .str (Str.ofString "__firstlineno__") 268, .int 14 267⟩, ⟨PyData.keyHash P (Str.ofString "__static_attributes__"), .str (Str.ofString "__static_attributes__") 269, .ref 73⟩] 4, #[]⟩),
  (69, ⟨.type "tuple", .none, .seq #[] 0, #[]⟩),
  (70, ⟨.none, .none, .fields #[], #[]⟩),
  (71, ⟨.type "code", .none, .fields #[.str (Str.ofString "RangeError") 259, .str (Str.ofString "RangeError") 260, .str (Str.ofString "/claim/cut.py") 261, .int 14 0, .int 0 0, .int 0 0, .int 0 0, .int 0 0, .ref 69, .bool false, .int 181 0, .ref 70, .none, .none, .none, .none, .int 262 0, .int 14 0, .str (Str.ofString "/claim/cut.py") 263], #[]⟩),
  (72, ⟨.type "frame", .none, .plain, #[.some (.ref 71), .some (.ref 3), .some (.ref 68), .none, .some (.str (Str.ofString "pixelpress.errors") 194), .none, .some (.ref 0)]⟩),
  (76, ⟨.type "super", .none, .fields #[.ref 75, .ref 75, .ref 75], #[]⟩),
  (77, ⟨.type "builtin_function_or_method", .none, .fields #[.builtin "object.__init_subclass__", .ref 75], #[]⟩),
  (79, ⟨.none, .none, .fields #[], #[]⟩),
  (86, ⟨.none, .none, .fields #[], #[]⟩),
  (93, ⟨.none, .none, .fields #[], #[]⟩),
  (99, ⟨.type "tuple", .none, .seq #[] 0, #[]⟩),
  (100, ⟨.type "builtin_function_or_method", .none, .fields #[.builtin "type.__prepare__", .type "type"], #[]⟩),
  (101, ⟨.type "dict", .none, .dict #[⟨PyData.keyHash P (Str.ofString "__module__"), .str (Str.ofString "__module__") 317, .str (Str.ofString "pixelpress.markers") 282⟩, ⟨PyData.keyHash P (Str.ofString "__qualname__"), .str (Str.ofString "__qualname__") 319, .str (Str.ofString "Piece") 318⟩, ⟨PyData.keyHash P (Str.ofString "__firstlineno__"), .str (Str.ofString "__firstlineno__") 321, .int 32 320⟩, ⟨PyData.keyHash P (Str.ofString "__init__"), .str (Str.ofString "__init__") 333, .ref 113⟩, ⟨PyData.keyHash P (Str.ofString "__static_attributes__"), .str (Str.ofString "__static_attributes__") 337, .ref 114⟩] 5, #[]⟩),
  (102, ⟨.type "tuple", .none, .seq #[] 0, #[]⟩),
  (103, ⟨.none, .none, .fields #[.int 34 0, .int 4 0, .ref 112], #[]⟩),
  (104, ⟨.type "code", .none, .fields #[.str (Str.ofString "Piece") 312, .str (Str.ofString "Piece") 313, .str (Str.ofString "/claim/cut.py") 314, .int 32 0, .int 0 0, .int 0 0, .int 0 0, .int 0 0, .ref 102, .bool false, .int 181 0, .ref 103, .none, .none, .none, .none, .int 315 0, .int 32 0, .str (Str.ofString "/claim/cut.py") 316], #[]⟩),
  (105, ⟨.type "frame", .none, .plain, #[.some (.ref 104), .some (.ref 3), .some (.ref 101), .none, .some (.str (Str.ofString "pixelpress.markers") 282), .none, .some (.ref 0)]⟩),
  (108, ⟨.none, .none, .fields #[], #[]⟩),
  (119, ⟨.type "super", .none, .fields #[.ref 116, .ref 116, .ref 116], #[]⟩),
  (120, ⟨.type "builtin_function_or_method", .none, .fields #[.builtin "object.__init_subclass__", .ref 116], #[]⟩),
  (122, ⟨.none, .none, .fields #[], #[]⟩),
  (129, ⟨.none, .none, .fields #[], #[]⟩),
  (133, ⟨.type "tuple", .none, .seq #[] 0, #[]⟩),
  (134, ⟨.type "builtin_function_or_method", .none, .fields #[.builtin "type.__prepare__", .type "type"], #[]⟩),
  (135, ⟨.type "dict", .none, .dict #[⟨PyData.keyHash P (Str.ofString "__module__"), .str (Str.ofString "__module__") 368, .str (Str.ofString "pixelpress.streaming") 359⟩, ⟨PyData.keyHash P (Str.ofString "__qualname__"), .str (Str.ofString "__qualname__") 370, .str (Str.ofString "Feeder") 369⟩, ⟨PyData.keyHash P (Str.ofString "__firstlineno__"), .str (Str.ofString "__firstlineno__") 372, .int 48 371⟩, ⟨PyData.keyHash P (Str.ofString "__init__"), .str (Str.ofString "__init__") 379, .ref 146⟩, ⟨PyData.keyHash P (Str.ofString "feed"), .str (Str.ofString "feed") 390, .ref 153⟩, ⟨PyData.keyHash P (Str.ofString "finish"), .str (Str.ofString "finish") 397, .ref 160⟩, ⟨PyData.keyHash P (Str.ofString "fill"), .str (Str.ofString "fill") 405, .ref 167⟩, ⟨PyData.keyHash P (Str.ofString "marker_event"), .str (Str.ofString "marker_event") 414, .ref 174⟩, ⟨PyData.keyHash P (Str.ofString "check_code"), .str (Str.ofString "check_code") 423, .ref 181⟩, ⟨PyData.keyHash P (Str.ofString "segment_event"), .str (Str.ofString "segment_event") 433, .ref 188⟩, ⟨PyData.keyHash P (Str.ofString "data_event"), .str (Str.ofString "data_event") 442, .ref 195⟩, ⟨PyData.keyHash P (Str.ofString "data_up_to"), .str (Str.ofString "data_up_to") 450, .ref 202⟩, ⟨PyData.keyHash P (Str.ofString "last_data"), .str (Str.ofString "last_data") 458, .ref 209⟩, ⟨PyData.keyHash P (Str.ofString "__static_attributes__"), .str (Str.ofString "__static_attributes__") 463, .ref 210⟩] 14, #[]⟩),
  (136, ⟨.type "tuple", .none, .seq #[] 0, #[]⟩),
  (137, ⟨.none, .none, .fields #[.int 50 0, .int 4 0, .ref 145, .int 56 0, .int 4 0, .ref 152, .int 69 0, .int 4 0, .ref 159, .int 72 0, .int 4 0, .ref 166, .int 77 0, .int 4 0, .ref 173, .int 93 0, .int 4 0, .ref 180, .int 101 0, .int 4 0, .ref 187, .int 112 0, .int 4 0, .ref 194, .int 127 0, .int 4 0, .ref 201, .int 130 0, .int 4 0, .ref 208], #[]⟩),
  (138, ⟨.type "code", .none, .fields #[.str (Str.ofString "Feeder") 363, .str (Str.ofString "Feeder") 364, .str (Str.ofString "/claim/cut.py") 365, .int 48 0, .int 0 0, .int 0 0, .int 0 0, .int 0 0, .ref 136, .bool false, .int 181 0, .ref 137, .none, .none, .none, .none, .int 366 0, .int 48 0, .str (Str.ofString "/claim/cut.py") 367], #[]⟩),
  (139, ⟨.type "frame", .none, .plain, #[.some (.ref 138), .some (.ref 3), .some (.ref 135), .none, .some (.str (Str.ofString "pixelpress.streaming") 359), .none, .some (.ref 0)]⟩),
  (141, ⟨.none, .none, .fields #[], #[]⟩),
  (148, ⟨.none, .none, .fields #[], #[]⟩),
  (155, ⟨.none, .none, .fields #[], #[]⟩),
  (162, ⟨.none, .none, .fields #[], #[]⟩),
  (169, ⟨.none, .none, .fields #[], #[]⟩),
  (176, ⟨.none, .none, .fields #[], #[]⟩),
  (183, ⟨.none, .none, .fields #[], #[]⟩),
  (190, ⟨.none, .none, .fields #[], #[]⟩),
  (197, ⟨.none, .none, .fields #[], #[]⟩),
  (204, ⟨.none, .none, .fields #[], #[]⟩),
  (215, ⟨.type "super", .none, .fields #[.ref 212, .ref 212, .ref 212], #[]⟩),
  (216, ⟨.type "builtin_function_or_method", .none, .fields #[.builtin "object.__init_subclass__", .ref 212], #[]⟩),
  (218, ⟨.none, .none, .fields #[], #[]⟩),
  (225, ⟨.none, .none, .fields #[], #[]⟩),
  (232, ⟨.none, .none, .fields #[], #[]⟩),
  (239, ⟨.none, .none, .fields #[], #[]⟩),
  (246, ⟨.none, .none, .fields #[], #[]⟩),
  (251, ⟨.none, .none, .fields #[], #[]⟩),
  (258, ⟨.none, .none, .fields #[], #[]⟩),
  (265, ⟨.none, .none, .fields #[], #[]⟩),
  (270, ⟨.none, .none, .fields #[], #[]⟩),
  (277, ⟨.none, .none, .fields #[], #[]⟩)]
noncomputable def oAt (P : Params) (a : Addr) : Obj := match (oths P).lookup a with
  | some o => o
  | none => default
noncomputable def oV1 (P : Params) : Obj := ⟨.none, .none, .dict #[] 0, #[]⟩
noncomputable def oV2 (P : Params) : Obj := ⟨.type "dict", .none, .dict #[⟨PyData.keyHash P (Str.ofString "__name__"), .str (Str.ofString "__name__") 165, .str (Str.ofString "__main__") 164⟩, ⟨PyData.keyHash P (Str.ofString "__doc__"), .str (Str.ofString "__doc__") 166, .none⟩, ⟨PyData.keyHash P (Str.ofString "__package__"), .str (Str.ofString "__package__") 167, .none⟩, ⟨PyData.keyHash P (Str.ofString "__loader__"), .str (Str.ofString "__loader__") 168, .builtin "__main__.__loader__#opaque"⟩, ⟨PyData.keyHash P (Str.ofString "__spec__"), .str (Str.ofString "__spec__") 169, .none⟩, ⟨PyData.keyHash P (Str.ofString "__annotations__"), .str (Str.ofString "__annotations__") 170, .ref 6⟩, ⟨PyData.keyHash P (Str.ofString "__builtins__"), .str (Str.ofString "__builtins__") 171, .ref 4⟩, ⟨PyData.keyHash P (Str.ofString "__file__"), .str (Str.ofString "__file__") 173, .str (Str.ofString "/claim/cut.py") 172⟩, ⟨PyData.keyHash P (Str.ofString "__cached__"), .str (Str.ofString "__cached__") 174, .none⟩] 9, #[]⟩
noncomputable def oV3 (P : Params) : Obj := ⟨.none, .none, .fields #[], #[]⟩
noncomputable def oV4 (P : Params) : Obj := ⟨.type "dict", .none, .dict #[⟨PyData.keyHash P (Str.ofString "__name__"), .str (Str.ofString "__name__") 165, .str (Str.ofString "pixelpress.errors") 194⟩, ⟨PyData.keyHash P (Str.ofString "__doc__"), .str (Str.ofString "__doc__") 166, .none⟩, ⟨PyData.keyHash P (Str.ofString "__package__"), .str (Str.ofString "__package__") 167, .none⟩, ⟨PyData.keyHash P (Str.ofString "__loader__"), .str (Str.ofString "__loader__") 168, .builtin "__main__.__loader__#opaque"⟩, ⟨PyData.keyHash P (Str.ofString "__spec__"), .str (Str.ofString "__spec__") 169, .none⟩, ⟨PyData.keyHash P (Str.ofString "__annotations__"), .str (Str.ofString "__annotations__") 170, .ref 6⟩, ⟨PyData.keyHash P (Str.ofString "__builtins__"), .str (Str.ofString "__builtins__") 171, .ref 4⟩, ⟨PyData.keyHash P (Str.ofString "__file__"), .str (Str.ofString "__file__") 173, .str (Str.ofString "/claim/cut.py") 172⟩, ⟨PyData.keyHash P (Str.ofString "__cached__"), .str (Str.ofString "__cached__") 174, .none⟩, ⟨PyData.keyHash P (Str.ofString "_wall"), .str (Str.ofString "_wall") 193, .ref 21⟩, ⟨PyData.keyHash P (Str.ofString "PressError"), .str (Str.ofString "PressError") 224, .ref 38⟩, ⟨PyData.keyHash P (Str.ofString "MarkerError"), .str (Str.ofString "MarkerError") 240, .ref 51⟩] 12, #[]⟩
noncomputable def oV5 (P : Params) : Obj := ⟨.none, .none, .fields #[.int 1 0, .int 0 0, .ref 20, .int 5 0, .int 0 0, .ref 27, .int 10 0, .int 0 0, .ref 47], #[]⟩
noncomputable def oV6 (P : Params) : Obj := ⟨.type "type", .none, .cls ⟨Str.ofString "PressError", [.type "Exception"], [.ref 38, .type "Exception", .type "BaseException", .type "object"], 37, Str.ofString "PressError", true, [], [.ref 51], false, .none, false⟩, #[.some (.ref 22), .none, .some (.str (Str.ofString "PressError") 196), .some (.str (Str.ofString "PressError") 204), .some (.builtin "Exception.__new__"), .some (.bool true)]⟩
noncomputable def oV7 (P : Params) : Obj := ⟨.type "dict", .none, .dict #[⟨PyData.keyHash P (Str.ofString "__name__"), .str (Str.ofString "__name__") 165, .str (Str.ofString "pixelpress.markers") 282⟩, ⟨PyData.keyHash P (Str.ofString "__doc__"), .str (Str.ofString "__doc__") 166, .none⟩, ⟨PyData.keyHash P (Str.ofString "__package__"), .str (Str.ofString "__package__") 167, .none⟩, ⟨PyData.keyHash P (Str.ofString "__loader__"), .str (Str.ofString "__loader__") 168, .builtin "__main__.__loader__#opaque"⟩, ⟨PyData.keyHash P (Str.ofString "__spec__"), .str (Str.ofString "__spec__") 169, .none⟩, ⟨PyData.keyHash P (Str.ofString "__annotations__"), .str (Str.ofString "__annotations__") 170, .ref 6⟩, ⟨PyData.keyHash P (Str.ofString "__builtins__"), .str (Str.ofString "__builtins__") 171, .ref 4⟩, ⟨PyData.keyHash P (Str.ofString "__file__"), .str (Str.ofString "__file__") 173, .str (Str.ofString "/claim/cut.py") 172⟩, ⟨PyData.keyHash P (Str.ofString "__cached__"), .str (Str.ofString "__cached__") 174, .none⟩, ⟨PyData.keyHash P (Str.ofString "_wall"), .str (Str.ofString "_wall") 193, .ref 21⟩, ⟨PyData.keyHash P (Str.ofString "PressError"), .str (Str.ofString "PressError") 224, .ref 38⟩, ⟨PyData.keyHash P (Str.ofString "MarkerError"), .str (Str.ofString "MarkerError") 240, .ref 51⟩, ⟨PyData.keyHash P (Str.ofString "SegmentError"), .str (Str.ofString "SegmentError") 256, .ref 63⟩, ⟨PyData.keyHash P (Str.ofString "RangeError"), .str (Str.ofString "RangeError") 272, .ref 75⟩, ⟨PyData.keyHash P (Str.ofString "word"), .str (Str.ofString "word") 281, .ref 84⟩, ⟨PyData.keyHash P (Str.ofString "TEM"), .str (Str.ofString "TEM") 285, .int 1 284⟩, ⟨PyData.keyHash P (Str.ofString "RST0"), .str (Str.ofString "RST0") 287, .int 208 286⟩, ⟨PyData.keyHash P (Str.ofString "SOI"), .str (Str.ofString "SOI") 289, .int 216 288⟩, ⟨PyData.keyHash P (Str.ofString "EOI"), .str (Str.ofString "EOI") 291, .int 217 290⟩, ⟨PyData.keyHash P (Str.ofString "SOS"), .str (Str.ofString "SOS") 293, .int 218 292⟩, ⟨PyData.keyHash P (Str.ofString "MOST_PAYLOAD"), .str (Str.ofString "MOST_PAYLOAD") 295, .int 65533 294⟩, ⟨PyData.keyHash P (Str.ofString "is_restart"), .str (Str.ofString "is_restart") 302, .ref 91⟩, ⟨PyData.keyHash P (Str.ofString "has_length"), .str (Str.ofString "has_length") 309, .ref 98⟩] 23, #[]⟩
noncomputable def oV8 (P : Params) : Obj := ⟨.none, .none, .fields #[.int 1 0, .int 0 0, .ref 20, .int 5 0, .int 0 0, .ref 27, .int 10 0, .int 0 0, .ref 47, .int 12 0, .int 0 0, .ref 59, .int 14 0, .int 0 0, .ref 71, .int 17 0, .int 0 0, .ref 83, .int 28 0, .int 0 0, .ref 90, .int 30 0, .int 0 0, .ref 97], #[]⟩
noncomputable def oV9 (P : Params) : Obj := ⟨.type "dict", .none, .dict #[⟨PyData.keyHash P (Str.ofString "__name__"), .str (Str.ofString "__name__") 165, .str (Str.ofString "pixelpress.streaming") 359⟩, ⟨PyData.keyHash P (Str.ofString "__doc__"), .str (Str.ofString "__doc__") 166, .none⟩, ⟨PyData.keyHash P (Str.ofString "__package__"), .str (Str.ofString "__package__") 167, .none⟩, ⟨PyData.keyHash P (Str.ofString "__loader__"), .str (Str.ofString "__loader__") 168, .builtin "__main__.__loader__#opaque"⟩, ⟨PyData.keyHash P (Str.ofString "__spec__"), .str (Str.ofString "__spec__") 169, .none⟩, ⟨PyData.keyHash P (Str.ofString "__annotations__"), .str (Str.ofString "__annotations__") 170, .ref 6⟩, ⟨PyData.keyHash P (Str.ofString "__builtins__"), .str (Str.ofString "__builtins__") 171, .ref 4⟩, ⟨PyData.keyHash P (Str.ofString "__file__"), .str (Str.ofString "__file__") 173, .str (Str.ofString "/claim/cut.py") 172⟩, ⟨PyData.keyHash P (Str.ofString "__cached__"), .str (Str.ofString "__cached__") 174, .none⟩, ⟨PyData.keyHash P (Str.ofString "_wall"), .str (Str.ofString "_wall") 193, .ref 21⟩, ⟨PyData.keyHash P (Str.ofString "PressError"), .str (Str.ofString "PressError") 224, .ref 38⟩, ⟨PyData.keyHash P (Str.ofString "MarkerError"), .str (Str.ofString "MarkerError") 240, .ref 51⟩, ⟨PyData.keyHash P (Str.ofString "SegmentError"), .str (Str.ofString "SegmentError") 256, .ref 63⟩, ⟨PyData.keyHash P (Str.ofString "RangeError"), .str (Str.ofString "RangeError") 272, .ref 75⟩, ⟨PyData.keyHash P (Str.ofString "word"), .str (Str.ofString "word") 281, .ref 84⟩, ⟨PyData.keyHash P (Str.ofString "TEM"), .str (Str.ofString "TEM") 285, .int 1 284⟩, ⟨PyData.keyHash P (Str.ofString "RST0"), .str (Str.ofString "RST0") 287, .int 208 286⟩, ⟨PyData.keyHash P (Str.ofString "SOI"), .str (Str.ofString "SOI") 289, .int 216 288⟩, ⟨PyData.keyHash P (Str.ofString "EOI"), .str (Str.ofString "EOI") 291, .int 217 290⟩, ⟨PyData.keyHash P (Str.ofString "SOS"), .str (Str.ofString "SOS") 293, .int 218 292⟩, ⟨PyData.keyHash P (Str.ofString "MOST_PAYLOAD"), .str (Str.ofString "MOST_PAYLOAD") 295, .int 65533 294⟩, ⟨PyData.keyHash P (Str.ofString "is_restart"), .str (Str.ofString "is_restart") 302, .ref 91⟩, ⟨PyData.keyHash P (Str.ofString "has_length"), .str (Str.ofString "has_length") 309, .ref 98⟩, ⟨PyData.keyHash P (Str.ofString "Piece"), .str (Str.ofString "Piece") 344, .ref 116⟩, ⟨PyData.keyHash P (Str.ofString "write_piece"), .str (Str.ofString "write_piece") 352, .ref 127⟩, ⟨PyData.keyHash P (Str.ofString "write_pieces"), .str (Str.ofString "write_pieces") 358, .ref 132⟩] 26, #[]⟩
noncomputable def oV10 (P : Params) : Obj := ⟨.none, .none, .fields #[.int 1 0, .int 0 0, .ref 20, .int 5 0, .int 0 0, .ref 27, .int 10 0, .int 0 0, .ref 47, .int 12 0, .int 0 0, .ref 59, .int 14 0, .int 0 0, .ref 71, .int 17 0, .int 0 0, .ref 83, .int 28 0, .int 0 0, .ref 90, .int 30 0, .int 0 0, .ref 97, .int 32 0, .int 0 0, .ref 104, .int 38 0, .int 0 0, .ref 126, .int 45 0, .int 0 0, .ref 131], #[]⟩
noncomputable def oV11 (P : Params) : Obj := ⟨.type "dict", .none, .dict #[⟨PyData.keyHash P (Str.ofString "__name__"), .str (Str.ofString "__name__") 165, .str (Str.ofString "pixelpress.streaming") 359⟩, ⟨PyData.keyHash P (Str.ofString "__doc__"), .str (Str.ofString "__doc__") 166, .none⟩, ⟨PyData.keyHash P (Str.ofString "__package__"), .str (Str.ofString "__package__") 167, .none⟩, ⟨PyData.keyHash P (Str.ofString "__loader__"), .str (Str.ofString "__loader__") 168, .builtin "__main__.__loader__#opaque"⟩, ⟨PyData.keyHash P (Str.ofString "__spec__"), .str (Str.ofString "__spec__") 169, .none⟩, ⟨PyData.keyHash P (Str.ofString "__annotations__"), .str (Str.ofString "__annotations__") 170, .ref 6⟩, ⟨PyData.keyHash P (Str.ofString "__builtins__"), .str (Str.ofString "__builtins__") 171, .ref 4⟩, ⟨PyData.keyHash P (Str.ofString "__file__"), .str (Str.ofString "__file__") 173, .str (Str.ofString "/claim/cut.py") 172⟩, ⟨PyData.keyHash P (Str.ofString "__cached__"), .str (Str.ofString "__cached__") 174, .none⟩, ⟨PyData.keyHash P (Str.ofString "_wall"), .str (Str.ofString "_wall") 193, .ref 21⟩, ⟨PyData.keyHash P (Str.ofString "PressError"), .str (Str.ofString "PressError") 224, .ref 38⟩, ⟨PyData.keyHash P (Str.ofString "MarkerError"), .str (Str.ofString "MarkerError") 240, .ref 51⟩, ⟨PyData.keyHash P (Str.ofString "SegmentError"), .str (Str.ofString "SegmentError") 256, .ref 63⟩, ⟨PyData.keyHash P (Str.ofString "RangeError"), .str (Str.ofString "RangeError") 272, .ref 75⟩, ⟨PyData.keyHash P (Str.ofString "word"), .str (Str.ofString "word") 281, .ref 84⟩, ⟨PyData.keyHash P (Str.ofString "TEM"), .str (Str.ofString "TEM") 285, .int 1 284⟩, ⟨PyData.keyHash P (Str.ofString "RST0"), .str (Str.ofString "RST0") 287, .int 208 286⟩, ⟨PyData.keyHash P (Str.ofString "SOI"), .str (Str.ofString "SOI") 289, .int 216 288⟩, ⟨PyData.keyHash P (Str.ofString "EOI"), .str (Str.ofString "EOI") 291, .int 217 290⟩, ⟨PyData.keyHash P (Str.ofString "SOS"), .str (Str.ofString "SOS") 293, .int 218 292⟩, ⟨PyData.keyHash P (Str.ofString "MOST_PAYLOAD"), .str (Str.ofString "MOST_PAYLOAD") 295, .int 65533 294⟩, ⟨PyData.keyHash P (Str.ofString "is_restart"), .str (Str.ofString "is_restart") 302, .ref 91⟩, ⟨PyData.keyHash P (Str.ofString "has_length"), .str (Str.ofString "has_length") 309, .ref 98⟩, ⟨PyData.keyHash P (Str.ofString "Piece"), .str (Str.ofString "Piece") 344, .ref 116⟩, ⟨PyData.keyHash P (Str.ofString "write_piece"), .str (Str.ofString "write_piece") 352, .ref 127⟩, ⟨PyData.keyHash P (Str.ofString "write_pieces"), .str (Str.ofString "write_pieces") 358, .ref 132⟩, ⟨PyData.keyHash P (Str.ofString "Feeder"), .str (Str.ofString "Feeder") 470, .ref 212⟩] 27, #[]⟩
noncomputable def oV12 (P : Params) : Obj := ⟨.none, .none, .fields #[.int 1 0, .int 0 0, .ref 20, .int 5 0, .int 0 0, .ref 27, .int 10 0, .int 0 0, .ref 47, .int 12 0, .int 0 0, .ref 59, .int 14 0, .int 0 0, .ref 71, .int 17 0, .int 0 0, .ref 83, .int 28 0, .int 0 0, .ref 90, .int 30 0, .int 0 0, .ref 97, .int 32 0, .int 0 0, .ref 104, .int 38 0, .int 0 0, .ref 126, .int 45 0, .int 0 0, .ref 131, .int 48 0, .int 0 0, .ref 138], #[]⟩
noncomputable def topH0 (P : Params) : Heap := { objs := ⟨[
  boot_o_0 P, boot_o_1 P, oV1 P, oV2 P, boot_o_4 P, boot_o_5 P, boot_o_6 P, boot_o_7 P, boot_o_8 P, boot_o_9 P, boot_o_10 P, oAt P 11, oV3 P, oAt P 13, oAt P 14]⟩ }
noncomputable def topH1 (P : Params) : Heap := { objs := ⟨[
  boot_o_0 P, boot_o_1 P, kAt P 2, oV4 P, boot_o_4 P, boot_o_5 P, boot_o_6 P, boot_o_7 P, boot_o_8 P, boot_o_9 P, boot_o_10 P, oAt P 11, oV5 P, oAt P 13, oAt P 14, kAt P 15,
  oAt P 16, kAt P 17, kAt P 18, kPro P 21, kAt P 20, kAt P 21, kAt P 22, oAt P 23, oAt P 24, oAt P 25, oAt P 26, oAt P 27, oAt P 28, kAt P 29, oAt P 30, kAt P 31,
  kAt P 32, kPro P 35, kAt P 34, kAt P 35, kAt P 36, kAt P 37, oV6 P, kAt P 39, oAt P 40, oAt P 41, kAt P 42, oAt P 43, oAt P 44, oAt P 45, oAt P 46, oAt P 47,
  oAt P 48, kAt P 49, kAt P 50, kAt P 51, oAt P 52, oAt P 53]⟩ }
noncomputable def topH2 (P : Params) : Heap := { objs := ⟨[
  boot_o_0 P, boot_o_1 P, kAt P 2, oV7 P, boot_o_4 P, boot_o_5 P, boot_o_6 P, boot_o_7 P, boot_o_8 P, boot_o_9 P, boot_o_10 P, oAt P 11, oV8 P, oAt P 13, oAt P 14, kAt P 15,
  oAt P 16, kAt P 17, kAt P 18, kPro P 21, kAt P 20, kAt P 21, kAt P 22, oAt P 23, oAt P 24, oAt P 25, oAt P 26, oAt P 27, oAt P 28, kAt P 29, oAt P 30, kAt P 31,
  kAt P 32, kPro P 35, kAt P 34, kAt P 35, kAt P 36, kAt P 37, kAt P 38, kAt P 39, oAt P 40, oAt P 41, kAt P 42, oAt P 43, oAt P 44, oAt P 45, oAt P 46, oAt P 47,
  oAt P 48, kAt P 49, kAt P 50, kAt P 51, oAt P 52, oAt P 53, kAt P 54, oAt P 55, oAt P 56, oAt P 57, oAt P 58, oAt P 59, oAt P 60, kAt P 61, kAt P 62, kAt P 63,
  oAt P 64, oAt P 65, kAt P 66, oAt P 67, oAt P 68, oAt P 69, oAt P 70, oAt P 71, oAt P 72, kAt P 73, kAt P 74, kAt P 75, oAt P 76, oAt P 77, kAt P 78, oAt P 79,
  kAt P 80, kAt P 81, kPro P 84, kAt P 83, kAt P 84, kAt P 85, oAt P 86, kAt P 87, kAt P 88, kPro P 91, kAt P 90, kAt P 91, kAt P 92, oAt P 93, kAt P 94, kAt P 95,
  kPro P 98, kAt P 97, kAt P 98]⟩ }
noncomputable def topH3 (P : Params) : Heap := { objs := ⟨[
  boot_o_0 P, boot_o_1 P, kAt P 2, oV9 P, boot_o_4 P, boot_o_5 P, boot_o_6 P, boot_o_7 P, boot_o_8 P, boot_o_9 P, boot_o_10 P, oAt P 11, oV10 P, oAt P 13, oAt P 14, kAt P 15,
  oAt P 16, kAt P 17, kAt P 18, kPro P 21, kAt P 20, kAt P 21, kAt P 22, oAt P 23, oAt P 24, oAt P 25, oAt P 26, oAt P 27, oAt P 28, kAt P 29, oAt P 30, kAt P 31,
  kAt P 32, kPro P 35, kAt P 34, kAt P 35, kAt P 36, kAt P 37, kAt P 38, kAt P 39, oAt P 40, oAt P 41, kAt P 42, oAt P 43, oAt P 44, oAt P 45, oAt P 46, oAt P 47,
  oAt P 48, kAt P 49, kAt P 50, kAt P 51, oAt P 52, oAt P 53, kAt P 54, oAt P 55, oAt P 56, oAt P 57, oAt P 58, oAt P 59, oAt P 60, kAt P 61, kAt P 62, kAt P 63,
  oAt P 64, oAt P 65, kAt P 66, oAt P 67, oAt P 68, oAt P 69, oAt P 70, oAt P 71, oAt P 72, kAt P 73, kAt P 74, kAt P 75, oAt P 76, oAt P 77, kAt P 78, oAt P 79,
  kAt P 80, kAt P 81, kPro P 84, kAt P 83, kAt P 84, kAt P 85, oAt P 86, kAt P 87, kAt P 88, kPro P 91, kAt P 90, kAt P 91, kAt P 92, oAt P 93, kAt P 94, kAt P 95,
  kPro P 98, kAt P 97, kAt P 98, oAt P 99, oAt P 100, oAt P 101, oAt P 102, oAt P 103, oAt P 104, oAt P 105, kAt P 106, kAt P 107, oAt P 108, kAt P 109, kAt P 110, kPro P 113,
  kAt P 112, kAt P 113, kAt P 114, kAt P 115, kAt P 116, kAt P 117, kAt P 118, oAt P 119, oAt P 120, kAt P 121, oAt P 122, kAt P 123, kAt P 124, kPro P 127, kAt P 126, kAt P 127,
  kAt P 128, oAt P 129, kPro P 132, kAt P 131, kAt P 132]⟩ }
noncomputable def topH4 (P : Params) : Heap := { objs := ⟨[
  boot_o_0 P, boot_o_1 P, kAt P 2, oV11 P, boot_o_4 P, boot_o_5 P, boot_o_6 P, boot_o_7 P, boot_o_8 P, boot_o_9 P, boot_o_10 P, oAt P 11, oV12 P, oAt P 13, oAt P 14, kAt P 15,
  oAt P 16, kAt P 17, kAt P 18, kPro P 21, kAt P 20, kAt P 21, kAt P 22, oAt P 23, oAt P 24, oAt P 25, oAt P 26, oAt P 27, oAt P 28, kAt P 29, oAt P 30, kAt P 31,
  kAt P 32, kPro P 35, kAt P 34, kAt P 35, kAt P 36, kAt P 37, kAt P 38, kAt P 39, oAt P 40, oAt P 41, kAt P 42, oAt P 43, oAt P 44, oAt P 45, oAt P 46, oAt P 47,
  oAt P 48, kAt P 49, kAt P 50, kAt P 51, oAt P 52, oAt P 53, kAt P 54, oAt P 55, oAt P 56, oAt P 57, oAt P 58, oAt P 59, oAt P 60, kAt P 61, kAt P 62, kAt P 63,
  oAt P 64, oAt P 65, kAt P 66, oAt P 67, oAt P 68, oAt P 69, oAt P 70, oAt P 71, oAt P 72, kAt P 73, kAt P 74, kAt P 75, oAt P 76, oAt P 77, kAt P 78, oAt P 79,
  kAt P 80, kAt P 81, kPro P 84, kAt P 83, kAt P 84, kAt P 85, oAt P 86, kAt P 87, kAt P 88, kPro P 91, kAt P 90, kAt P 91, kAt P 92, oAt P 93, kAt P 94, kAt P 95,
  kPro P 98, kAt P 97, kAt P 98, oAt P 99, oAt P 100, oAt P 101, oAt P 102, oAt P 103, oAt P 104, oAt P 105, kAt P 106, kAt P 107, oAt P 108, kAt P 109, kAt P 110, kPro P 113,
  kAt P 112, kAt P 113, kAt P 114, kAt P 115, kAt P 116, kAt P 117, kAt P 118, oAt P 119, oAt P 120, kAt P 121, oAt P 122, kAt P 123, kAt P 124, kPro P 127, kAt P 126, kAt P 127,
  kAt P 128, oAt P 129, kPro P 132, kAt P 131, kAt P 132, oAt P 133, oAt P 134, oAt P 135, oAt P 136, oAt P 137, oAt P 138, oAt P 139, kAt P 140, oAt P 141, kAt P 142, kAt P 143,
  kPro P 146, kAt P 145, kAt P 146, kAt P 147, oAt P 148, kAt P 149, kAt P 150, kPro P 153, kAt P 152, kAt P 153, kAt P 154, oAt P 155, kAt P 156, kAt P 157, kPro P 160, kAt P 159,
  kAt P 160, kAt P 161, oAt P 162, kAt P 163, kAt P 164, kPro P 167, kAt P 166, kAt P 167, kAt P 168, oAt P 169, kAt P 170, kAt P 171, kPro P 174, kAt P 173, kAt P 174, kAt P 175,
  oAt P 176, kAt P 177, kAt P 178, kPro P 181, kAt P 180, kAt P 181, kAt P 182, oAt P 183, kAt P 184, kAt P 185, kPro P 188, kAt P 187, kAt P 188, kAt P 189, oAt P 190, kAt P 191,
  kAt P 192, kPro P 195, kAt P 194, kAt P 195, kAt P 196, oAt P 197, kAt P 198, kAt P 199, kPro P 202, kAt P 201, kAt P 202, kAt P 203, oAt P 204, kAt P 205, kAt P 206, kPro P 209,
  kAt P 208, kAt P 209, kAt P 210, kAt P 211, kAt P 212, kAt P 213, kAt P 214, oAt P 215, oAt P 216]⟩ }
noncomputable def topH5 (P : Params) : Heap := { objs := ⟨[
  boot_o_0 P, boot_o_1 P, kAt P 2, kAt P 3, boot_o_4 P, boot_o_5 P, boot_o_6 P, boot_o_7 P, boot_o_8 P, boot_o_9 P, boot_o_10 P, oAt P 11, oAt P 12, oAt P 13, oAt P 14, kAt P 15,
  oAt P 16, kAt P 17, kAt P 18, kPro P 21, kAt P 20, kAt P 21, kAt P 22, oAt P 23, oAt P 24, oAt P 25, oAt P 26, oAt P 27, oAt P 28, kAt P 29, oAt P 30, kAt P 31,
  kAt P 32, kPro P 35, kAt P 34, kAt P 35, kAt P 36, kAt P 37, kAt P 38, kAt P 39, oAt P 40, oAt P 41, kAt P 42, oAt P 43, oAt P 44, oAt P 45, oAt P 46, oAt P 47,
  oAt P 48, kAt P 49, kAt P 50, kAt P 51, oAt P 52, oAt P 53, kAt P 54, oAt P 55, oAt P 56, oAt P 57, oAt P 58, oAt P 59, oAt P 60, kAt P 61, kAt P 62, kAt P 63,
  oAt P 64, oAt P 65, kAt P 66, oAt P 67, oAt P 68, oAt P 69, oAt P 70, oAt P 71, oAt P 72, kAt P 73, kAt P 74, kAt P 75, oAt P 76, oAt P 77, kAt P 78, oAt P 79,
  kAt P 80, kAt P 81, kPro P 84, kAt P 83, kAt P 84, kAt P 85, oAt P 86, kAt P 87, kAt P 88, kPro P 91, kAt P 90, kAt P 91, kAt P 92, oAt P 93, kAt P 94, kAt P 95,
  kPro P 98, kAt P 97, kAt P 98, oAt P 99, oAt P 100, oAt P 101, oAt P 102, oAt P 103, oAt P 104, oAt P 105, kAt P 106, kAt P 107, oAt P 108, kAt P 109, kAt P 110, kPro P 113,
  kAt P 112, kAt P 113, kAt P 114, kAt P 115, kAt P 116, kAt P 117, kAt P 118, oAt P 119, oAt P 120, kAt P 121, oAt P 122, kAt P 123, kAt P 124, kPro P 127, kAt P 126, kAt P 127,
  kAt P 128, oAt P 129, kPro P 132, kAt P 131, kAt P 132, oAt P 133, oAt P 134, oAt P 135, oAt P 136, oAt P 137, oAt P 138, oAt P 139, kAt P 140, oAt P 141, kAt P 142, kAt P 143,
  kPro P 146, kAt P 145, kAt P 146, kAt P 147, oAt P 148, kAt P 149, kAt P 150, kPro P 153, kAt P 152, kAt P 153, kAt P 154, oAt P 155, kAt P 156, kAt P 157, kPro P 160, kAt P 159,
  kAt P 160, kAt P 161, oAt P 162, kAt P 163, kAt P 164, kPro P 167, kAt P 166, kAt P 167, kAt P 168, oAt P 169, kAt P 170, kAt P 171, kPro P 174, kAt P 173, kAt P 174, kAt P 175,
  oAt P 176, kAt P 177, kAt P 178, kPro P 181, kAt P 180, kAt P 181, kAt P 182, oAt P 183, kAt P 184, kAt P 185, kPro P 188, kAt P 187, kAt P 188, kAt P 189, oAt P 190, kAt P 191,
  kAt P 192, kPro P 195, kAt P 194, kAt P 195, kAt P 196, oAt P 197, kAt P 198, kAt P 199, kPro P 202, kAt P 201, kAt P 202, kAt P 203, oAt P 204, kAt P 205, kAt P 206, kPro P 209,
  kAt P 208, kAt P 209, kAt P 210, kAt P 211, kAt P 212, kAt P 213, kAt P 214, oAt P 215, oAt P 216, kAt P 217, oAt P 218, kAt P 219, kAt P 220, kPro P 223, kAt P 222, kAt P 223,
  kAt P 224, oAt P 225, kAt P 226, kAt P 227, kPro P 230, kAt P 229, kAt P 230, kAt P 231, oAt P 232, kAt P 233, kAt P 234, kPro P 237, kAt P 236, kAt P 237, kAt P 238, oAt P 239,
  kAt P 240, kAt P 241, kPro P 244, kAt P 243, kAt P 244, kAt P 245, oAt P 246, kPro P 249, kAt P 248, kAt P 249, kAt P 250, oAt P 251, kAt P 252, kAt P 253, kPro P 256, kAt P 255,
  kAt P 256, kAt P 257, oAt P 258, kAt P 259, kAt P 260, kPro P 263, kAt P 262, kAt P 263, kAt P 264, oAt P 265, kPro P 268, kAt P 267, kAt P 268, kAt P 269, oAt P 270, kAt P 271,
  kAt P 272, kPro P 275, kAt P 274, kAt P 275, kAt P 276, oAt P 277, kAt P 278, kAt P 279, kPro P 282, kAt P 281, kAt P 282]⟩ }
noncomputable abbrev pwN : Program := PySem.Challenge.pw_nz0248_01
noncomputable def topEnv : Env := { scope := pwN.main.scope, locals := mainNs, globals := mainNs, cells := [], code := .ref 13, frame := some 14 }
noncomputable abbrev topC : Code := .body (behindTheImports pwN) topEnv
noncomputable abbrev pos0 : Pos := ⟨0, 0, 0, 0⟩
noncomputable abbrev topAt (H : Params → Heap) (k : Nat) (w : World) (os : OsState) : Shared := ⟨H w.params, Array.mk [], boot_drawn, k, os⟩
noncomputable def grp (i j : Nat) : List Stmt := ((behindTheImports pwN).drop i).take (j - i)
set_option maxHeartbeats 8000000 in
theorem top_pre (w : World) (os : OsState) : topGo treeTable pwN w 11 (some (.ref 6)) 12 (topAt boot_heap boot_toks w os) (topStub pwN) = some (topAt topH0 187 w os, ⟨denote treeTable topC, topC, pos0, [topFrame pos0]⟩) := by
  rw [Fast.te15667345088766844465, Fast.te11892475500146522536, Fast.te14364793385576792824]
  kernel_rfl
set_option maxHeartbeats 8000000 in
theorem top_block (w : World) (os : OsState) : segRun treeTable pwN w 11 (some (.ref 6)) 1 1 (topAt topH0 187 w os) (blockOf (behindTheImports pwN) topEnv topC pos0 [topFrame pos0]) = some (.next, topAt topH0 187 w os, topC, pos0) := by
  rw [Fast.te14374325043358763698, Fast.te14364793385576792824]
  kernel_rfl
set_option maxHeartbeats 8000000 in
theorem top_1 (w : World) (os : OsState) : segRun treeTable pwN w 11 (some (.ref 6)) 1 480 (topAt topH0 187 w os) (piecesOf (grp 0 4) topEnv topC pos0 [topFrame pos0]) = some (.next, topAt topH1 241 w os, topC, ⟨10, 0, 11, 8⟩) := by
  rw [Fast.te14374325043358763698, Fast.te14364793385576792824]
  kernel_rfl
set_option maxHeartbeats 8000000 in
theorem top_2 (w : World) (os : OsState) : segRun treeTable pwN w 11 (some (.ref 6)) 1 586 (topAt topH1 241 w os) (piecesOf (grp 4 17) topEnv topC ⟨10, 0, 11, 8⟩ [topFrame pos0]) = some (.next, topAt topH2 310 w os, topC, ⟨30, 0, 31, 65⟩) := by
  rw [Fast.te14374325043358763698, Fast.te14364793385576792824]
  kernel_rfl
set_option maxHeartbeats 8000000 in
theorem top_3 (w : World) (os : OsState) : segRun treeTable pwN w 11 (some (.ref 6)) 1 295 (topAt topH2 310 w os) (piecesOf (grp 17 21) topEnv topC ⟨30, 0, 31, 65⟩ [topFrame pos0]) = some (.next, topAt topH3 361 w os, topC, ⟨47, 0, 47, 8⟩) := by
  rw [Fast.te14374325043358763698, Fast.te14364793385576792824]
  kernel_rfl
set_option maxHeartbeats 8000000 in
theorem top_4 (w : World) (os : OsState) : segRun treeTable pwN w 11 (some (.ref 6)) 1 520 (topAt topH3 361 w os) (piecesOf (grp 21 22) topEnv topC ⟨47, 0, 47, 8⟩ [topFrame pos0]) = some (.next, topAt topH4 471 w os, topC, ⟨48, 0, 131, 88⟩) := by
  rw [Fast.te14374325043358763698, Fast.te14364793385576792824]
  kernel_rfl
set_option maxHeartbeats 8000000 in
theorem top_5 (w : World) (os : OsState) : segRun treeTable pwN w 11 (some (.ref 6)) 1 330 (topAt topH4 471 w os) (piecesOf (grp 22 33) topEnv topC ⟨48, 0, 131, 88⟩ [topFrame pos0]) = some (.next, topAt topH5 577 w os, topC, ⟨196, 0, 211, 66⟩) := by
  rw [Fast.te14374325043358763698, Fast.te14364793385576792824]
  kernel_rfl
set_option maxHeartbeats 8000000 in
theorem top_fin (w : World) (os : OsState) : topRun treeTable pwN w 11 (some (.ref 6)) 2 (topAt topH5 577 w os) (restOf [] topEnv topC ⟨196, 0, 211, 66⟩ [topFrame pos0]) = some (topAt topH5 577 w os) := by
  rw [Fast.te14082659384304107361, Fast.te14364793385576792824]
  kernel_rfl
theorem grps : grp 0 4 ++ (grp 4 17 ++ (grp 17 21 ++ (grp 21 22 ++ (grp 22 33 ++ [])))) = behindTheImports pwN := by kernel_rfl
theorem top_run (w : World) (os : OsState) : topRun treeTable pwN w 11 (some (.ref 6)) (12 + (1 + (480 + (586 + (295 + (520 + (330 + 2))))))) (topAt boot_heap boot_toks w os) (topStub pwN) = some (topAt topH5 577 w os) := by
  have h := piece_app (top_1 w os) (piece_app (top_2 w os) (piece_app (top_3 w os) (piece_app (top_4 w os) (piece_app (top_5 w os) (top_fin w os)))))
  rw [grps] at h
  exact go_top (top_pre w os) (piece_block (top_block w os) h)
set_option maxHeartbeats 8000000 in
theorem top_size (w : World) : ((boot_heap w.params).isNs mainGlobals && (Array.mk [] : Array GenState).size == 0, (boot_heap w.params).objs.size, (boot_heap w.params).nsMap mainGlobals "__annotations__") = (true, 11, some (.ref 6)) := by
  rw [Fast.te8920871248978507458]
  kernel_rfl
set_option maxHeartbeats 8000000 in
theorem look_a (w : World) (os : OsState) : (staticsOk (importedModules pwN.main.body) (boot_heap w.params) (topH5 w.params) && namesBound pwN (topH5 w.params) && gensDone (topAt topH5 577 w os) && laidKept (boot_heap w.params) (topH5 w.params)) = true := by
  rw [Fast.te5923862056798008813]
  kernel_rfl
set_option maxHeartbeats 8000000 in
theorem look_b (w : World) (os : OsState) : openSeen hd.view_1 [Str.ofString "Piece"] (importedModules pwN.main.body) (fun s => xlAt hd.view_1 [] s && recOk [] s) true (topAt topH5 577 w os) = openGood hd.view_1 [Str.ofString "Piece"] := by
  rw [Fast.te4187177175401517315, Fast.te5923862056798008813]
  kernel_rfl
set_option maxHeartbeats 8000000 in
theorem look_c (w : World) (os : OsState) : (kHook hd.heap_1 asL asL_eq).obs (topAt topH5 577 w os) = (kHook hd.heap_1 asL asL_eq).val w := by
  kernel_rfl
theorem left : LeftO PySem.Challenge.pw_nz0248_01 hd.view_1 [Str.ofString "Piece"] (fun s => xlAt hd.view_1 [] s && recOk [] s) (kHook hd.heap_1 asL asL_eq).obs (kHook hd.heap_1 asL asL_eq).val 4538 :=
  LeftO.of_pieces (H₀ := boot_heap) (H₁ := topH5) (boot_open rfl rfl fun _ => rfl) top_size top_run rfl fun w => funext fun os => looks_pair (look_a w os) (looks_pair (look_b w os) (look_c w os))

-- part B1
noncomputable abbrev Led := List (Addr × Obj)
noncomputable def adr (M : Led) : List Addr := M.map (·.1)

structure Grown (M : Led) (h h' : Heap) (news : Led) : Prop where
  keep : ∀ b o, b ∉ adr M → h.get? b = some o → h'.get? b = some o
  here : ∀ p ∈ news, h'.get? p.1 = some p.2
  own : ∀ p ∈ news, p.1 ∈ adr M ∨ h.get? p.1 = none
  size : h.objs.size ≤ h'.objs.size

noncomputable def Gr (w : World) (H : Heap) : Prop :=
  (hd.heap_1 w.params).In H ∧ ∃ mean mg mb, Top hd.view_1 (looseW hd.view_1 [Str.ofString "Piece"]) mean mg mb H

theorem Gr.keeps {w : World} {H h : Heap} (G : Gr w H) (k : ∀ b o, H.get? b = some o → h.get? b = some o) : Gr w h :=
  ⟨G.1.keeps k, let ⟨a, b, c, T⟩ := G.2; ⟨a, b, c, T.keeps k⟩⟩

/-- a call: of the objects that stood, those of M alone may change -/
noncomputable def Call (w : World) (M : Led) (d u : Nat) (f : Value) (vs : List Value) (s : Shared) (P : Value → Led → Prop) : Prop :=
  ∀ (A : Around) (Q E : Value → Shared → Prop), A.handled = none → A.depth + d < recursionLimit → A.units + u < cLine →
    (∀ v h' tk' news', Grown M s.heap h' news' → P v news' → Q v { s with heap := h', toks := tk' }) →
    wpAny (model PySem.Challenge.rw_nz0248_01.row.prog w) A (PySem.call f vs) Q E s

noncomputable def Ends (g : Heap) (L : Addr) (s : Shared) (P : Value → Led → Prop) (fl : Flow) (s' : Shared) : Prop :=
  ∃ h' tk m' news', s' = { s with heap := h', toks := tk } ∧ Fr g L h' m' ∧ News g L h' news' ∧ P (match fl with | .ret v => v | _ => .none) news'

theorem Ends.ret {g : Heap} {L : Addr} {s : Shared} {P : Value → Led → Prop} {v : Value} {h' : Heap} {tk : Nat} {m' : Str → Option Value} {news' : Led}
    (F : Fr g L h' m') (N : News g L h' news') (p : P v news') : Ends g L s P (.ret v) { s with heap := h', toks := tk } := ⟨h', tk, m', news', rfl, F, N, p⟩
theorem Ends.next {g : Heap} {L : Addr} {s : Shared} {P : Value → Led → Prop} {h' : Heap} {tk : Nat} {m' : Str → Option Value} {news' : Led}
    (F : Fr g L h' m') (N : News g L h' news') (p : P .none news') : Ends g L s P .next { s with heap := h', toks := tk } := ⟨h', tk, m', news', rfl, F, N, p⟩

theorem call_def {w : World} {H : Heap} {M : Led} {d u : Nat} {s : Shared} {vs : List Value} {P : Value → Led → Prop}
    {name qual : Str} {params : Arguments} {body : List Stmt} {scope : Scope} {dV kV doc pm cdv ct oc : Value} {an od : Option Addr} {osl : Array (Option Value)} {f : Addr} {binds : List (Str × Value)}
    (G : Gr w H) (hk : ∀ b o, H.get? b = some o → s.heap.get? b = some o) (hM : ∀ p ∈ M, s.heap.get? p.1 = some p.2 ∧ H.get? p.1 = none)
    (ho : (hd.heap_1 w.params).lookup f = some ⟨oc, od, .func (fnOf name qual params body scope dV kV doc pm an cdv ct), osl⟩) (hcd : codeIn (hd.heap_1 w.params) cdv qual = true)
    (hbind : BindsTo s (fnOf name qual params body scope dV kV doc pm an cdv ct) ⟨vs, []⟩ binds) (hloc : ∀ y ∈ binds, scope.names.lookup y.1 = some .local)
    (h : ∀ g L' h₁ A mean mg mb, Around.handled A = none → Around.depth A + d < recursionLimit → Around.units A + u < cLine → (hd.heap_1 w.params).In g → Top hd.view_1 (looseW hd.view_1 [Str.ofString "Piece"]) mean mg mb g →
      (∀ b o, b ∉ adr M → s.heap.get? b = some o → g.get? b = some o) → (∀ b o, g.get? b = some o → s.heap.get? b = some o) → L' = s.heap.objs.size →
      Fr g L' h₁ (fun y => binds.reverse.lookup y) → News g L' h₁ M →
      ∀ Z : Flow → Shared → Prop, (∀ fl s', Ends g L' s P fl s' → Z fl s') → wpAny (model PySem.Challenge.rw_nz0248_01.row.prog w) A (execs body (envOf qual scope L' f cdv)) Z (fun _ _ => False) { s with heap := h₁, toks := s.toks + binds.length })
    (hco : scope.isCoroutine = false := by rfl) (hgen : scope.isGenerator = false := by rfl) (hk' : scope.kind = .function := by rfl)
    (hcell : ∀ x ∈ scope.names, x.2 ≠ .cell := by decide) : Call w M (d + 1) (u + 3) (.ref f) vs s P := by
  intro A Q E hA hd hu hQ
  have X := G.1
  obtain ⟨mean, mg, mb, T⟩ := G.2
  have st : ∀ b o, H.get? b = some o → (hideAll s.heap (adr M)).get? b = some o := fun b o e => hideAll_get _ (hk b o e) fun q => by
    obtain ⟨p, hp, rfl⟩ := List.mem_map.mp q
    rw [(hM p hp).2] at e; cases e
  refine wpAny_call (codeAny_call_def (fd := fnOf name qual params body scope dV kV doc pm an cdv ct) (body := body) (binds := binds) (by omega) (hk _ _ (X _ _ ho)) rfl (T.nolimit.keeps hk) ((codeRec_of X hcd).keeps hk) rfl hbind hcell hloc (fun h₁ hns hk₁ => ?_) hco hgen hk')
  have L := h (hideAll s.heap (adr M)) s.heap.objs.size h₁ (A.deeper (envOf qual scope s.heap.objs.size f cdv)) mean mg mb hA (by show A.depth + 1 + d < _; omega) (by show A.units + 3 + u < _; omega) (X.keeps st) (T.keeps st)
    (fun b o hb e => hideAll_get _ e hb) (fun b o e => of_hideAll _ e) rfl ⟨hns, fun b o e => hk₁ b o (of_hideAll _ e), Nat.le_of_eq (hideAll_size _ _)⟩
    (fun p hp => ⟨hk₁ _ _ (hM p hp).1, Nat.ne_of_lt (Heap.lt_size (hM p hp).1), hideAll_none _ (List.mem_map_of_mem hp)⟩)
  refine wpAny_mono (L _ fun _ _ y => y) (fun fl s' hl => ?_) fun _ _ y => y.elim
  obtain ⟨h', tk, m', news', rfl, F', N', p⟩ := hl
  refine hQ _ h' tk news' ⟨fun b o hb e => F'.keep b o (hideAll_get _ e hb), fun p hp => (N' p hp).1, fun p hp => ?_, Nat.le_of_lt F'.ns.lt⟩ p
  by_cases q : p.1 ∈ adr M
  · exact .inl q
  · refine .inr ?_
    cases e : s.heap.get? p.1 with
    | none => rfl
    | some o => have := (N' p hp).2.2; rw [hideAll_get _ e q] at this; cases this

/-- the caller's side: its frame and its ledger behind the call -/
theorem Call.use {w : World} {M rest news : Led} {d u : Nat} {f : Value} {vs : List Value} {s : Shared} {P : Value → Led → Prop} {g : Heap} {L : Addr} {m : Str → Option Value} {A : Around} {Q E : Value → Shared → Prop}
    (C : Call w M d u f vs s P) (F : Fr g L s.heap m) (N : News g L s.heap news) (hA : A.handled = none) (hd : A.depth + d < recursionLimit) (hu : A.units + u < cLine)
    (hM : ∀ p ∈ M, p ∈ news) (hr : ∀ p ∈ rest, p ∈ news ∧ p.1 ∉ adr M)
    (hQ : ∀ v h' tk' news', Fr g L h' m → News g L h' (news' ++ rest) → (∀ p ∈ news', p.1 ∈ adr M ∨ ∀ q ∈ news, q.1 ≠ p.1) → P v news' → Q v { s with heap := h', toks := tk' }) :
    wpAny (model PySem.Challenge.rw_nz0248_01.row.prog w) A (PySem.call f vs) Q E s := by
  refine C A Q E hA hd hu fun v h' tk' news' R p => ?_
  obtain ⟨oL, es, ep, hL, hLd, hLk, hLf⟩ := F.ns
  have nL : L ∉ adr M := fun q => by
    obtain ⟨p, hp, e⟩ := List.mem_map.mp q
    exact (N p (hM p hp)).2.1 e
  have ng : ∀ b o, g.get? b = some o → b ∉ adr M := fun b o e q => by
    obtain ⟨p, hp, rfl⟩ := List.mem_map.mp q
    rw [(N p (hM p hp)).2.2] at e; cases e
  refine hQ v h' tk' news' ⟨⟨oL, es, ep, R.keep L oL nL hL, hLd, hLk, hLf⟩, fun b o e => R.keep b o (ng b o e) (F.keep b o e), F.above⟩ (fun p hp => ?_) (fun p hp => ?_) p
  · rcases List.mem_append.mp hp with hp | hp
    · refine ⟨R.here p hp, fun q => ?_, ?_⟩
      · rcases R.own p hp with h1 | h1
        · exact nL (q ▸ h1)
        · rw [q, hL] at h1; cases h1
      · rcases R.own p hp with h1 | h1
        · obtain ⟨q, hq, e⟩ := List.mem_map.mp h1
          rw [← e]; exact (N q (hM q hq)).2.2
        · cases e : g.get? p.1 with
          | none => rfl
          | some o => rw [F.keep _ _ e] at h1; cases h1
    · have := hr p hp
      exact ⟨R.keep _ _ this.2 (N p this.1).1, (N p this.1).2⟩
  · rcases R.own p hp with h1 | h1
    · exact .inl h1
    · refine .inr fun q hq e => ?_
      rw [← e, (N q hq).1] at h1; cases h1

-- part C1
local macro_rules | `(tactic| k_ne) => `(tactic| (refine neN ?_; (try dsimp only); first | assumption | exact Ne.symm (by assumption) | omega))
local macro_rules | `(tactic| walk_at "my enter") => `(tactic| (
  (case ho => k_is); (case hcd => k_is); (case hb => exact BindsTo.of_eq rfl); (case hl => exact locs rfl); (case c1 => exact rfl); (case c2 => exact rfl); (case c3 => exact rfl); (case c4 => decide)))
local macro_rules | `(tactic| walk_at "my go") => `(tactic| ((try dsimp only); (try k_fold); w_on; k_steps))
local macro_rules | `(tactic| walk_at "my turns") => `(tactic| (k_here; (rename Fr _ _ _ _ => lF'); (with_unfolding_all refine' For_turns lF' ?_; k_whole)))
local macro_rules | `(tactic| walk_at "exec For Name Call cons nil") => `(tactic| walk_at "my turns")
local macro_rules | `(tactic| walk_at "exec For Name Name cons nil") => `(tactic| walk_at "my turns")
local macro_rules | `(tactic| walk_at "exec For Name Subscript cons nil") => `(tactic| walk_at "my turns")
local macro_rules | `(tactic| walk_at "exec For Tuple Name cons nil") => `(tactic| walk_at "my turns")
local macro_rules | `(tactic| k_all) => `(tactic| exact (by assumption))
local macro_rules | `(tactic| walk_at "my room") => `(tactic| first | omega | (simp only [Around.in1_depth, Around.in1_units, Around.mark_units] at *; omega))
local macro_rules | `(tactic| walk_at "my len") => `(tactic| ((try simp only [List.length_append, List.length_cons, List.length_nil, List.length_take, List.length_drop]); omega))
local macro_rules | `(tactic| walk_at "my end") => `(tactic| ((try dsimp only); (rename (∀ fl s', Ends _ _ _ _ fl s' → _) => lZ'); refine lZ' _ _ ?_; refine Ends.ret (by assumption) (by assumption) ?_))
local macro_rules | `(tactic| walk_at "my end0") => `(tactic| ((try dsimp only); (rename (∀ fl s', Ends _ _ _ _ fl s' → _) => lZ'); refine lZ' _ _ ?_; refine Ends.ret (by assumption) News.nil ⟨?_, rfl⟩))
local macro_rules | `(tactic| walk_at "my bool") => `(tactic| (refine congrArg Value.bool ?_; (rw [Bool.eq_iff_iff]); simp only [Bool.and_eq_true, Bool.or_eq_true, Bool.not_eq_true', decide_eq_true_eq, decide_eq_false_iff_not, beq_iff_eq, Bool.and_eq_false_iff, Bool.or_eq_false_iff, beq_eq_false_iff_ne, List.any_cons, List.any_nil, Bool.or_false, Bool.not_eq_false', Bool.and_eq_false_imp, ne_eq] at *; omega))
local macro_rules | `(tactic| walk_at "my tl") => `(tactic| (intro _ hq; repeat (first | exact hq | refine List.mem_cons_of_mem _ ?_)))
local macro_rules | `(tactic| walk_at "assign Tuple") => `(tactic| (k_here; (with_reducible show wpAny _ _ (assign (Expr.Tuple _ _ _) _ (Value.ref _)) _ _ _); k_dflt (refine' unpackN_ ?k1 ?k2 ?k3 ?k4 ?k5 ?k6 ?_; (case k1 => k_asm); (case k2 => k_asm); (case k3 => first | (with_reducible assumption) | exact News.isTup (by k_asm) (by k_mem)); (case k4 => first | assumption | exact rfl); (case k5 => exact rfl); (case k6 => exact rfl); k_whole); intro h' F' N'; (try k_sweep)))
local macro_rules | `(tactic| walk_at "unpackItems ref") => `(tactic| (k_here; k_dflt (refine' unpackItemsN_ ?k1 ?k2 ?k3 ?k4 ?k5 ?_; (case k1 => k_asm); (case k2 => k_asm); (case k3 => first | (with_reducible assumption) | exact News.isTup (by k_asm) (by k_mem)); (case k4 => first | assumption | exact rfl); (case k5 => exact rfl); k_whole); intro h' F' N'; (try k_sweep)))
local macro_rules | `(tactic| walk_at "my nn") => `(tactic| first | omega | (simp only [List.length_append, List.length_cons, List.length_nil] at *; omega))
local macro_rules | `(tactic| walk_at "subscriptTail Name Slice ref ref") => `(tactic| walk_at "subscriptTail Attribute Slice ref ref")
local macro_rules | `(tactic| walk_at "subscriptTail Name Name ref int") => `(tactic| walk_at "subscriptTail Attribute")
theorem fillK : PySem.Challenge.rw_nz0248_01 = PySem.Challenge.rw_nz0248_01 ∧ hd.heap_1 = hd.heap_1 := by k_fill; exact ⟨rfl, rfl⟩

theorem fmod_lt' (a : Int) {b : Int} (h : 0 < b) : 0 ≤ a.fmod b ∧ a.fmod b < b := by
  rw [Int.fmod_eq_emod_of_nonneg _ (Int.le_of_lt h)]
  exact ⟨Int.emod_nonneg _ (by omega), Int.emod_lt_of_pos _ h⟩
theorem fdiv_le' {a b : Int} (ha : 0 ≤ a) (h : 0 < b) : 0 ≤ a.fdiv b ∧ a.fdiv b ≤ a := by
  rw [Int.fdiv_eq_ediv_of_nonneg _ (Int.le_of_lt h)]
  exact ⟨Int.ediv_nonneg ha (by omega), Int.ediv_le_self _ ha⟩

noncomputable def IsPool (o : Obj) : Prop := ∃ a b ta tb n, o = W.listOf #[.int a ta, .int b tb] n ∧ 0 ≤ a ∧ 0 ≤ b ∧ b < 2147483647
noncomputable def Drawn (src : Addr) (top : Int) (v : Value) (news : Led) : Prop := ∃ d t o', v = .int d t ∧ 0 ≤ d ∧ d < top ∧ IsPool o' ∧ news = [(src, o')]

set_option maxHeartbeats 4000000 in
theorem take_call {w : World} {H : Heap} {s : Shared} {src : Addr} {top : Int} {tk : Tok} {o : Obj}
    (G : Gr w H) (hk : ∀ b o, H.get? b = some o → s.heap.get? b = some o)
    (hs : s.heap.get? src = some o) (hH : H.get? src = none) (hp : IsPool o) (ht : 2 ≤ top) (ht' : top ≤ 64) :
    Call w [(src, o)] 3 30 (.ref 237) [.ref src, .int top tk] s (Drawn src top) := by
  obtain ⟨a, b, ta, tb, n, rfl, ha, hb, hb'⟩ := hp
  refine' call_def G hk (by simpa using ⟨hs, hH⟩) ?ho ?hcd ?hb ?hl ?h ?c1 ?c2 ?c3 ?c4
  walk_at "my enter"
  intro g L' h₁ A mean mg mb hA hd hu X T hg hg' hL F N Z hZ
  walk_at "my go"
  · dsimp only
    (first | refine hZ _ _ ?_ | (refine hZ2 _ _ ?_; refine hZ _ _ ?_)); refine Ends.ret (by assumption) (by assumption) ⟨_, _, _, rfl, ?_, ?_, ⟨_, _, _, _, _, rfl, ?_, ?_, ?_⟩, rfl⟩
    · exact (fmod_lt' a (by omega)).1
    · exact (fmod_lt' a (by omega)).2
    · exact (fdiv_le' ha (by omega)).1
    · exact hb
    · exact hb'
  · have q := fmod_lt' ((b * 39373 + 7)) (b := 2147483647) (by omega)
    have q' : 0 ≤ [a, ([a, b].getD (Int.toNat 1) 0 * 39373 + 7).fmod 2147483647].getD (Int.toNat 1) 0 ∧ [a, ([a, b].getD (Int.toNat 1) 0 * 39373 + 7).fmod 2147483647].getD (Int.toNat 1) 0 < 2147483647 := q
    refine mul_int ?_ (IntMulOk.of_right (intBits_le_64 (by omega) (by omega)))
    k_steps
    dsimp only
    (first | refine hZ _ _ ?_ | (refine hZ2 _ _ ?_; refine hZ _ _ ?_)); refine Ends.ret (by assumption) (by assumption) ⟨_, _, _, rfl, ?_, ?_, ⟨_, _, _, _, _, rfl, ?_, ?_, ?_⟩, rfl⟩
    · exact (fmod_lt' _ (by omega)).1
    · exact (fmod_lt' _ (by omega)).2
    · exact ha
    · exact q.1
    · exact q.2

-- part B2
theorem e3_4 {α1 α2 α3 : Type} {P1 P2 P3 P4 : α1 → α2 → α3 → Prop} {G : Prop} (h : ∃ a1 a2 a3, P1 a1 a2 a3 ∧ P2 a1 a2 a3 ∧ P3 a1 a2 a3 ∧ P4 a1 a2 a3) (k : ∀ a1 a2 a3, P1 a1 a2 a3 → P2 a1 a2 a3 → P3 a1 a2 a3 → P4 a1 a2 a3 → G) : G :=
  h.elim fun a1 h => h.elim fun a2 h => h.elim fun a3 h => k a1 a2 a3 h.1 h.2.1 h.2.2.1 h.2.2.2
theorem e4_3 {α1 α2 α3 α4 : Type} {P1 P2 P3 : α1 → α2 → α3 → α4 → Prop} {G : Prop} (h : ∃ a1 a2 a3 a4, P1 a1 a2 a3 a4 ∧ P2 a1 a2 a3 a4 ∧ P3 a1 a2 a3 a4) (k : ∀ a1 a2 a3 a4, P1 a1 a2 a3 a4 → P2 a1 a2 a3 a4 → P3 a1 a2 a3 a4 → G) : G :=
  h.elim fun a1 h => h.elim fun a2 h => h.elim fun a3 h => h.elim fun a4 h => k a1 a2 a3 a4 h.1 h.2.1 h.2.2
theorem e4_4 {α1 α2 α3 α4 : Type} {P1 P2 P3 P4 : α1 → α2 → α3 → α4 → Prop} {G : Prop} (h : ∃ a1 a2 a3 a4, P1 a1 a2 a3 a4 ∧ P2 a1 a2 a3 a4 ∧ P3 a1 a2 a3 a4 ∧ P4 a1 a2 a3 a4) (k : ∀ a1 a2 a3 a4, P1 a1 a2 a3 a4 → P2 a1 a2 a3 a4 → P3 a1 a2 a3 a4 → P4 a1 a2 a3 a4 → G) : G :=
  h.elim fun a1 h => h.elim fun a2 h => h.elim fun a3 h => h.elim fun a4 h => k a1 a2 a3 a4 h.1 h.2.1 h.2.2.1 h.2.2.2
theorem e4_5 {α1 α2 α3 α4 : Type} {P1 P2 P3 P4 P5 : α1 → α2 → α3 → α4 → Prop} {G : Prop} (h : ∃ a1 a2 a3 a4, P1 a1 a2 a3 a4 ∧ P2 a1 a2 a3 a4 ∧ P3 a1 a2 a3 a4 ∧ P4 a1 a2 a3 a4 ∧ P5 a1 a2 a3 a4) (k : ∀ a1 a2 a3 a4, P1 a1 a2 a3 a4 → P2 a1 a2 a3 a4 → P3 a1 a2 a3 a4 → P4 a1 a2 a3 a4 → P5 a1 a2 a3 a4 → G) : G :=
  h.elim fun a1 h => h.elim fun a2 h => h.elim fun a3 h => h.elim fun a4 h => k a1 a2 a3 a4 h.1 h.2.1 h.2.2.1 h.2.2.2.1 h.2.2.2.2
theorem e5_7 {α1 α2 α3 α4 α5 : Type} {P1 P2 P3 P4 P5 P6 P7 : α1 → α2 → α3 → α4 → α5 → Prop} {G : Prop} (h : ∃ a1 a2 a3 a4 a5, P1 a1 a2 a3 a4 a5 ∧ P2 a1 a2 a3 a4 a5 ∧ P3 a1 a2 a3 a4 a5 ∧ P4 a1 a2 a3 a4 a5 ∧ P5 a1 a2 a3 a4 a5 ∧ P6 a1 a2 a3 a4 a5 ∧ P7 a1 a2 a3 a4 a5) (k : ∀ a1 a2 a3 a4 a5, P1 a1 a2 a3 a4 a5 → P2 a1 a2 a3 a4 a5 → P3 a1 a2 a3 a4 a5 → P4 a1 a2 a3 a4 a5 → P5 a1 a2 a3 a4 a5 → P6 a1 a2 a3 a4 a5 → P7 a1 a2 a3 a4 a5 → G) : G :=
  h.elim fun a1 h => h.elim fun a2 h => h.elim fun a3 h => h.elim fun a4 h => h.elim fun a5 h => k a1 a2 a3 a4 a5 h.1 h.2.1 h.2.2.1 h.2.2.2.1 h.2.2.2.2.1 h.2.2.2.2.2.1 h.2.2.2.2.2.2
theorem e6_6 {α1 α2 α3 α4 α5 α6 : Type} {P1 P2 P3 P4 P5 P6 : α1 → α2 → α3 → α4 → α5 → α6 → Prop} {G : Prop} (h : ∃ a1 a2 a3 a4 a5 a6, P1 a1 a2 a3 a4 a5 a6 ∧ P2 a1 a2 a3 a4 a5 a6 ∧ P3 a1 a2 a3 a4 a5 a6 ∧ P4 a1 a2 a3 a4 a5 a6 ∧ P5 a1 a2 a3 a4 a5 a6 ∧ P6 a1 a2 a3 a4 a5 a6) (k : ∀ a1 a2 a3 a4 a5 a6, P1 a1 a2 a3 a4 a5 a6 → P2 a1 a2 a3 a4 a5 a6 → P3 a1 a2 a3 a4 a5 a6 → P4 a1 a2 a3 a4 a5 a6 → P5 a1 a2 a3 a4 a5 a6 → P6 a1 a2 a3 a4 a5 a6 → G) : G :=
  h.elim fun a1 h => h.elim fun a2 h => h.elim fun a3 h => h.elim fun a4 h => h.elim fun a5 h => h.elim fun a6 h => k a1 a2 a3 a4 a5 a6 h.1 h.2.1 h.2.2.1 h.2.2.2.1 h.2.2.2.2.1 h.2.2.2.2.2
theorem e6_8 {α1 α2 α3 α4 α5 α6 : Type} {P1 P2 P3 P4 P5 P6 P7 P8 : α1 → α2 → α3 → α4 → α5 → α6 → Prop} {G : Prop} (h : ∃ a1 a2 a3 a4 a5 a6, P1 a1 a2 a3 a4 a5 a6 ∧ P2 a1 a2 a3 a4 a5 a6 ∧ P3 a1 a2 a3 a4 a5 a6 ∧ P4 a1 a2 a3 a4 a5 a6 ∧ P5 a1 a2 a3 a4 a5 a6 ∧ P6 a1 a2 a3 a4 a5 a6 ∧ P7 a1 a2 a3 a4 a5 a6 ∧ P8 a1 a2 a3 a4 a5 a6) (k : ∀ a1 a2 a3 a4 a5 a6, P1 a1 a2 a3 a4 a5 a6 → P2 a1 a2 a3 a4 a5 a6 → P3 a1 a2 a3 a4 a5 a6 → P4 a1 a2 a3 a4 a5 a6 → P5 a1 a2 a3 a4 a5 a6 → P6 a1 a2 a3 a4 a5 a6 → P7 a1 a2 a3 a4 a5 a6 → P8 a1 a2 a3 a4 a5 a6 → G) : G :=
  h.elim fun a1 h => h.elim fun a2 h => h.elim fun a3 h => h.elim fun a4 h => h.elim fun a5 h => h.elim fun a6 h => k a1 a2 a3 a4 a5 a6 h.1 h.2.1 h.2.2.1 h.2.2.2.1 h.2.2.2.2.1 h.2.2.2.2.2.1 h.2.2.2.2.2.2.1 h.2.2.2.2.2.2.2
theorem e6_10 {α1 α2 α3 α4 α5 α6 : Type} {P1 P2 P3 P4 P5 P6 P7 P8 P9 P10 : α1 → α2 → α3 → α4 → α5 → α6 → Prop} {G : Prop} (h : ∃ a1 a2 a3 a4 a5 a6, P1 a1 a2 a3 a4 a5 a6 ∧ P2 a1 a2 a3 a4 a5 a6 ∧ P3 a1 a2 a3 a4 a5 a6 ∧ P4 a1 a2 a3 a4 a5 a6 ∧ P5 a1 a2 a3 a4 a5 a6 ∧ P6 a1 a2 a3 a4 a5 a6 ∧ P7 a1 a2 a3 a4 a5 a6 ∧ P8 a1 a2 a3 a4 a5 a6 ∧ P9 a1 a2 a3 a4 a5 a6 ∧ P10 a1 a2 a3 a4 a5 a6) (k : ∀ a1 a2 a3 a4 a5 a6, P1 a1 a2 a3 a4 a5 a6 → P2 a1 a2 a3 a4 a5 a6 → P3 a1 a2 a3 a4 a5 a6 → P4 a1 a2 a3 a4 a5 a6 → P5 a1 a2 a3 a4 a5 a6 → P6 a1 a2 a3 a4 a5 a6 → P7 a1 a2 a3 a4 a5 a6 → P8 a1 a2 a3 a4 a5 a6 → P9 a1 a2 a3 a4 a5 a6 → P10 a1 a2 a3 a4 a5 a6 → G) : G :=
  h.elim fun a1 h => h.elim fun a2 h => h.elim fun a3 h => h.elim fun a4 h => h.elim fun a5 h => h.elim fun a6 h => k a1 a2 a3 a4 a5 a6 h.1 h.2.1 h.2.2.1 h.2.2.2.1 h.2.2.2.2.1 h.2.2.2.2.2.1 h.2.2.2.2.2.2.1 h.2.2.2.2.2.2.2.1 h.2.2.2.2.2.2.2.2.1 h.2.2.2.2.2.2.2.2.2
theorem e7_7 {α1 α2 α3 α4 α5 α6 α7 : Type} {P1 P2 P3 P4 P5 P6 P7 : α1 → α2 → α3 → α4 → α5 → α6 → α7 → Prop} {G : Prop} (h : ∃ a1 a2 a3 a4 a5 a6 a7, P1 a1 a2 a3 a4 a5 a6 a7 ∧ P2 a1 a2 a3 a4 a5 a6 a7 ∧ P3 a1 a2 a3 a4 a5 a6 a7 ∧ P4 a1 a2 a3 a4 a5 a6 a7 ∧ P5 a1 a2 a3 a4 a5 a6 a7 ∧ P6 a1 a2 a3 a4 a5 a6 a7 ∧ P7 a1 a2 a3 a4 a5 a6 a7) (k : ∀ a1 a2 a3 a4 a5 a6 a7, P1 a1 a2 a3 a4 a5 a6 a7 → P2 a1 a2 a3 a4 a5 a6 a7 → P3 a1 a2 a3 a4 a5 a6 a7 → P4 a1 a2 a3 a4 a5 a6 a7 → P5 a1 a2 a3 a4 a5 a6 a7 → P6 a1 a2 a3 a4 a5 a6 a7 → P7 a1 a2 a3 a4 a5 a6 a7 → G) : G :=
  h.elim fun a1 h => h.elim fun a2 h => h.elim fun a3 h => h.elim fun a4 h => h.elim fun a5 h => h.elim fun a6 h => h.elim fun a7 h => k a1 a2 a3 a4 a5 a6 a7 h.1 h.2.1 h.2.2.1 h.2.2.2.1 h.2.2.2.2.1 h.2.2.2.2.2.1 h.2.2.2.2.2.2
theorem e7_9 {α1 α2 α3 α4 α5 α6 α7 : Type} {P1 P2 P3 P4 P5 P6 P7 P8 P9 : α1 → α2 → α3 → α4 → α5 → α6 → α7 → Prop} {G : Prop} (h : ∃ a1 a2 a3 a4 a5 a6 a7, P1 a1 a2 a3 a4 a5 a6 a7 ∧ P2 a1 a2 a3 a4 a5 a6 a7 ∧ P3 a1 a2 a3 a4 a5 a6 a7 ∧ P4 a1 a2 a3 a4 a5 a6 a7 ∧ P5 a1 a2 a3 a4 a5 a6 a7 ∧ P6 a1 a2 a3 a4 a5 a6 a7 ∧ P7 a1 a2 a3 a4 a5 a6 a7 ∧ P8 a1 a2 a3 a4 a5 a6 a7 ∧ P9 a1 a2 a3 a4 a5 a6 a7) (k : ∀ a1 a2 a3 a4 a5 a6 a7, P1 a1 a2 a3 a4 a5 a6 a7 → P2 a1 a2 a3 a4 a5 a6 a7 → P3 a1 a2 a3 a4 a5 a6 a7 → P4 a1 a2 a3 a4 a5 a6 a7 → P5 a1 a2 a3 a4 a5 a6 a7 → P6 a1 a2 a3 a4 a5 a6 a7 → P7 a1 a2 a3 a4 a5 a6 a7 → P8 a1 a2 a3 a4 a5 a6 a7 → P9 a1 a2 a3 a4 a5 a6 a7 → G) : G :=
  h.elim fun a1 h => h.elim fun a2 h => h.elim fun a3 h => h.elim fun a4 h => h.elim fun a5 h => h.elim fun a6 h => h.elim fun a7 h => k a1 a2 a3 a4 a5 a6 a7 h.1 h.2.1 h.2.2.1 h.2.2.2.1 h.2.2.2.2.1 h.2.2.2.2.2.1 h.2.2.2.2.2.2.1 h.2.2.2.2.2.2.2.1 h.2.2.2.2.2.2.2.2
theorem e9_6 {α1 α2 α3 α4 α5 α6 α7 α8 α9 : Type} {P1 P2 P3 P4 P5 P6 : α1 → α2 → α3 → α4 → α5 → α6 → α7 → α8 → α9 → Prop} {G : Prop} (h : ∃ a1 a2 a3 a4 a5 a6 a7 a8 a9, P1 a1 a2 a3 a4 a5 a6 a7 a8 a9 ∧ P2 a1 a2 a3 a4 a5 a6 a7 a8 a9 ∧ P3 a1 a2 a3 a4 a5 a6 a7 a8 a9 ∧ P4 a1 a2 a3 a4 a5 a6 a7 a8 a9 ∧ P5 a1 a2 a3 a4 a5 a6 a7 a8 a9 ∧ P6 a1 a2 a3 a4 a5 a6 a7 a8 a9) (k : ∀ a1 a2 a3 a4 a5 a6 a7 a8 a9, P1 a1 a2 a3 a4 a5 a6 a7 a8 a9 → P2 a1 a2 a3 a4 a5 a6 a7 a8 a9 → P3 a1 a2 a3 a4 a5 a6 a7 a8 a9 → P4 a1 a2 a3 a4 a5 a6 a7 a8 a9 → P5 a1 a2 a3 a4 a5 a6 a7 a8 a9 → P6 a1 a2 a3 a4 a5 a6 a7 a8 a9 → G) : G :=
  h.elim fun a1 h => h.elim fun a2 h => h.elim fun a3 h => h.elim fun a4 h => h.elim fun a5 h => h.elim fun a6 h => h.elim fun a7 h => h.elim fun a8 h => h.elim fun a9 h => k a1 a2 a3 a4 a5 a6 a7 a8 a9 h.1 h.2.1 h.2.2.1 h.2.2.2.1 h.2.2.2.2.1 h.2.2.2.2.2
theorem e9_15 {α1 α2 α3 α4 α5 α6 α7 α8 α9 : Type} {P1 P2 P3 P4 P5 P6 P7 P8 P9 P10 P11 P12 P13 P14 P15 : α1 → α2 → α3 → α4 → α5 → α6 → α7 → α8 → α9 → Prop} {G : Prop} (h : ∃ a1 a2 a3 a4 a5 a6 a7 a8 a9, P1 a1 a2 a3 a4 a5 a6 a7 a8 a9 ∧ P2 a1 a2 a3 a4 a5 a6 a7 a8 a9 ∧ P3 a1 a2 a3 a4 a5 a6 a7 a8 a9 ∧ P4 a1 a2 a3 a4 a5 a6 a7 a8 a9 ∧ P5 a1 a2 a3 a4 a5 a6 a7 a8 a9 ∧ P6 a1 a2 a3 a4 a5 a6 a7 a8 a9 ∧ P7 a1 a2 a3 a4 a5 a6 a7 a8 a9 ∧ P8 a1 a2 a3 a4 a5 a6 a7 a8 a9 ∧ P9 a1 a2 a3 a4 a5 a6 a7 a8 a9 ∧ P10 a1 a2 a3 a4 a5 a6 a7 a8 a9 ∧ P11 a1 a2 a3 a4 a5 a6 a7 a8 a9 ∧ P12 a1 a2 a3 a4 a5 a6 a7 a8 a9 ∧ P13 a1 a2 a3 a4 a5 a6 a7 a8 a9 ∧ P14 a1 a2 a3 a4 a5 a6 a7 a8 a9 ∧ P15 a1 a2 a3 a4 a5 a6 a7 a8 a9) (k : ∀ a1 a2 a3 a4 a5 a6 a7 a8 a9, P1 a1 a2 a3 a4 a5 a6 a7 a8 a9 → P2 a1 a2 a3 a4 a5 a6 a7 a8 a9 → P3 a1 a2 a3 a4 a5 a6 a7 a8 a9 → P4 a1 a2 a3 a4 a5 a6 a7 a8 a9 → P5 a1 a2 a3 a4 a5 a6 a7 a8 a9 → P6 a1 a2 a3 a4 a5 a6 a7 a8 a9 → P7 a1 a2 a3 a4 a5 a6 a7 a8 a9 → P8 a1 a2 a3 a4 a5 a6 a7 a8 a9 → P9 a1 a2 a3 a4 a5 a6 a7 a8 a9 → P10 a1 a2 a3 a4 a5 a6 a7 a8 a9 → P11 a1 a2 a3 a4 a5 a6 a7 a8 a9 → P12 a1 a2 a3 a4 a5 a6 a7 a8 a9 → P13 a1 a2 a3 a4 a5 a6 a7 a8 a9 → P14 a1 a2 a3 a4 a5 a6 a7 a8 a9 → P15 a1 a2 a3 a4 a5 a6 a7 a8 a9 → G) : G :=
  h.elim fun a1 h => h.elim fun a2 h => h.elim fun a3 h => h.elim fun a4 h => h.elim fun a5 h => h.elim fun a6 h => h.elim fun a7 h => h.elim fun a8 h => h.elim fun a9 h => k a1 a2 a3 a4 a5 a6 a7 a8 a9 h.1 h.2.1 h.2.2.1 h.2.2.2.1 h.2.2.2.2.1 h.2.2.2.2.2.1 h.2.2.2.2.2.2.1 h.2.2.2.2.2.2.2.1 h.2.2.2.2.2.2.2.2.1 h.2.2.2.2.2.2.2.2.2.1 h.2.2.2.2.2.2.2.2.2.2.1 h.2.2.2.2.2.2.2.2.2.2.2.1 h.2.2.2.2.2.2.2.2.2.2.2.2.1 h.2.2.2.2.2.2.2.2.2.2.2.2.2.1 h.2.2.2.2.2.2.2.2.2.2.2.2.2.2
theorem e10_8 {α1 α2 α3 α4 α5 α6 α7 α8 α9 α10 : Type} {P1 P2 P3 P4 P5 P6 P7 P8 : α1 → α2 → α3 → α4 → α5 → α6 → α7 → α8 → α9 → α10 → Prop} {G : Prop} (h : ∃ a1 a2 a3 a4 a5 a6 a7 a8 a9 a10, P1 a1 a2 a3 a4 a5 a6 a7 a8 a9 a10 ∧ P2 a1 a2 a3 a4 a5 a6 a7 a8 a9 a10 ∧ P3 a1 a2 a3 a4 a5 a6 a7 a8 a9 a10 ∧ P4 a1 a2 a3 a4 a5 a6 a7 a8 a9 a10 ∧ P5 a1 a2 a3 a4 a5 a6 a7 a8 a9 a10 ∧ P6 a1 a2 a3 a4 a5 a6 a7 a8 a9 a10 ∧ P7 a1 a2 a3 a4 a5 a6 a7 a8 a9 a10 ∧ P8 a1 a2 a3 a4 a5 a6 a7 a8 a9 a10) (k : ∀ a1 a2 a3 a4 a5 a6 a7 a8 a9 a10, P1 a1 a2 a3 a4 a5 a6 a7 a8 a9 a10 → P2 a1 a2 a3 a4 a5 a6 a7 a8 a9 a10 → P3 a1 a2 a3 a4 a5 a6 a7 a8 a9 a10 → P4 a1 a2 a3 a4 a5 a6 a7 a8 a9 a10 → P5 a1 a2 a3 a4 a5 a6 a7 a8 a9 a10 → P6 a1 a2 a3 a4 a5 a6 a7 a8 a9 a10 → P7 a1 a2 a3 a4 a5 a6 a7 a8 a9 a10 → P8 a1 a2 a3 a4 a5 a6 a7 a8 a9 a10 → G) : G :=
  h.elim fun a1 h => h.elim fun a2 h => h.elim fun a3 h => h.elim fun a4 h => h.elim fun a5 h => h.elim fun a6 h => h.elim fun a7 h => h.elim fun a8 h => h.elim fun a9 h => h.elim fun a10 h => k a1 a2 a3 a4 a5 a6 a7 a8 a9 a10 h.1 h.2.1 h.2.2.1 h.2.2.2.1 h.2.2.2.2.1 h.2.2.2.2.2.1 h.2.2.2.2.2.2.1 h.2.2.2.2.2.2.2
noncomputable def Stop (P : Prop) : Prop := P
theorem stop {P : Prop} (h : Stop P) : P := h

section
variable {prog : Program} {w : World} {A : Around} {E : Value → Shared → Prop} {s : Shared} {env : Env} {h₀ : Heap} {target : Expr} {body : List Stmt} {Q : Flow → Shared → Prop}

noncomputable def Turn (h₀ : Heap) (L : Addr) (s₁ : Shared) (I : Addr) (it : Obj) (J : (Str → Option Value) → Led → Prop) (Q : Flow → Shared → Prop) (f : Flow) (s₂ : Shared) : Prop :=
  match f with
  | .ret v => Q (.ret v) s₂
  | .brk => Q .next s₂
  | _ => ∃ h' tk m' news', s₂ = { s₁ with heap := h', toks := tk } ∧ Fr h₀ L h' m' ∧ News h₀ L h' ((I, it) :: news') ∧ (∀ p ∈ news', p.1 ≠ I) ∧ J m' news'

theorem Turn.next {L : Addr} {s₁ : Shared} {I : Addr} {it : Obj} {J : (Str → Option Value) → Led → Prop} {h' : Heap} {tk : Nat} {m' : Str → Option Value} {news' : Led}
    (F : Fr h₀ L h' m') (N : News h₀ L h' ((I, it) :: news')) (off : ∀ p ∈ news', p.1 ≠ I) (j : J m' news') : Turn h₀ L s₁ I it J Q .next { s₁ with heap := h', toks := tk } := ⟨h', tk, m', news', rfl, F, N, off, j⟩

theorem items_inv {I : Addr} {c : String} {keep : Led} (J : Nat → (Str → Option Value) → Led → Prop) {xs : List Itm}
    (turn : ∀ i a v m₁ news₁ h tk it, xs[i]? = some a → a.Is v h → Obj.cls it = .type c → (∀ p ∈ news₁, p.1 ≠ I) → J i m₁ news₁ → Fr h₀ env.locals h m₁ → News h₀ env.locals h ((I, it) :: news₁) →
      ∀ Z : Flow → Shared → Prop, (∀ f s₃, Turn h₀ env.locals { s with heap := h, toks := tk } I it (fun m' n' => SubL keep n' ∧ J (i + 1) m' n') Q f s₃ → Z f s₃) → wpAny (model prog w) A (assign target env v) (fun _ s₂ => wpAny (model prog w) A (execs body env) Z E s₂) E { s with heap := h, toks := tk })
    (done : ∀ m₁ news₁ h tk, J xs.length m₁ news₁ → Fr h₀ env.locals h m₁ → News h₀ env.locals h news₁ → Q .next { s with heap := h, toks := tk }) :
    ∀ k i m news, i + k = xs.length → (∀ p ∈ news, p.1 ≠ I) → J i m news → ItemsRest prog w A E h₀ env target body Q s [(I, c)] keep (xs.drop i) m news
  | 0, i, m, news, hk, _, hJ => by
    have e : i = xs.length := by omega
    subst e
    rw [List.drop_length]
    exact fun h tk F N => done m news h tk hJ F N
  | k + 1, i, m, news, hk, hoff, hJ => by
    have hi : i < xs.length := by omega
    rw [List.drop_eq_getElem_cons hi]
    intro v h tk hv F it hit N
    refine wpAny_mono (turn i xs[i] v m news h tk it (by simp [hi]) hv hit hoff hJ F N _ fun _ _ y => y) (fun _ s₂ h₂ => wpAny_mono h₂ (fun f s₃ p => ?_) fun _ _ e => e) fun _ _ e => e
    have fin : (∃ h' tk' m' news', s₃ = { s with heap := h', toks := tk' } ∧ Fr h₀ env.locals h' m' ∧ News h₀ env.locals h' ((I, it) :: news') ∧ (∀ p ∈ news', p.1 ≠ I) ∧ SubL keep news' ∧ J (i + 1) m' news') →
        UnrEndW h₀ env.locals { s with heap := h, toks := tk } [(I, it)] (fun m' n' => SubL keep n' ∧ ItemsRest prog w A E h₀ env target body Q s [(I, c)] keep (xs.drop (i + 1)) m' n') s₃ := by
      rintro ⟨h', tk', m', news', rfl, F', N', off', sk, j⟩
      exact ⟨h', tk', m', news', rfl, F', N', fun p hp q hq => by rw [List.mem_singleton.mp hq]; exact off' p hp, sk, items_inv J turn done k (i + 1) m' news' (by omega) off' j⟩
    cases f with
    | ret v => exact p
    | brk => exact p
    | next => exact fin p
    | cont => exact fin p

/-- a list of the ledger, that the turns leave alone -/
theorem for_list {ax : Addr} {vs : List Value} {n : Nat} {m₀ : Str → Option Value} {news : Led} (J : Nat → (Str → Option Value) → Led → Prop)
    (hh : A.handled = none) (F : Fr h₀ env.locals s.heap m₀) (N : News h₀ env.locals s.heap news) (hm : (ax, W.listOf vs.toArray n) ∈ news) (h0 : J 0 m₀ news)
    (turn : ∀ i v m₁ news₁ h tk it I, vs[i]? = some v → Obj.cls it = .type "list_iterator" → (∀ p ∈ news₁, p.1 ≠ I) → J i m₁ news₁ → Fr h₀ env.locals h m₁ → News h₀ env.locals h ((I, it) :: news₁) →
      ∀ Z : Flow → Shared → Prop, (∀ f s₃, Turn h₀ env.locals { s with heap := h, toks := tk } I it (fun m' n' => SubL [(ax, W.listOf vs.toArray n)] n' ∧ J (i + 1) m' n') Q f s₃ → Z f s₃) → wpAny (model prog w) A (assign target env v) (fun _ s₂ => wpAny (model prog w) A (execs body env) Z E s₂) E { s with heap := h, toks := tk })
    (done : ∀ m₁ news₁ h tk, J vs.length m₁ news₁ → Fr h₀ env.locals h m₁ → News h₀ env.locals h news₁ → Q .next { s with heap := h, toks := tk }) :
    wpAny (model prog w) A (pyIter (.ref ax)) (fun it s₂ => TurnsAt prog w A h₀ env target body Q E it s₂) E s := by
  refine iter_listTurns hh F N hm rfl rfl fun I hI => ?_
  have := items_inv (prog := prog) (w := w) (A := A) (E := E) (s := s) (env := env) (h₀ := h₀) (target := target) (body := body) (Q := Q) (I := I) (c := "list_iterator") (keep := [(ax, W.listOf vs.toArray n)]) J (xs := vs.map .val)
    (fun i a v m₁ news₁ h tk it ha hv hit off hJ F₁ N₁ => by
      rw [List.getElem?_map] at ha
      obtain ⟨u, hu, rfl⟩ := Option.map_eq_some_iff.mp ha
      have e : v = u := hv
      subst e
      exact turn i v m₁ news₁ h tk it I hu hit off hJ F₁ N₁)
    (fun m₁ news₁ h tk hJ => by rw [List.length_map] at hJ; exact done m₁ news₁ h tk hJ) (vs.map Itm.val).length 0 m₀ news (by omega) (fun p hp => Nat.ne_of_lt (hI p hp)) h0
  rwa [List.drop_zero] at this

/-- a list of the base -/
theorem for_base {ax : Addr} {vs : List Value} {n : Nat} {m₀ : Str → Option Value} {news : Led} (J : Nat → (Str → Option Value) → Led → Prop)
    (hh : A.handled = none) (F : Fr h₀ env.locals s.heap m₀) (N : News h₀ env.locals s.heap news) (hm : h₀.get? ax = some (W.listOf vs.toArray n)) (h0 : J 0 m₀ news)
    (turn : ∀ i v m₁ news₁ h tk it I, vs[i]? = some v → Obj.cls it = .type "list_iterator" → (∀ p ∈ news₁, p.1 ≠ I) → J i m₁ news₁ → Fr h₀ env.locals h m₁ → News h₀ env.locals h ((I, it) :: news₁) →
      ∀ Z : Flow → Shared → Prop, (∀ f s₃, Turn h₀ env.locals { s with heap := h, toks := tk } I it (fun m' n' => SubL [] n' ∧ J (i + 1) m' n') Q f s₃ → Z f s₃) → wpAny (model prog w) A (assign target env v) (fun _ s₂ => wpAny (model prog w) A (execs body env) Z E s₂) E { s with heap := h, toks := tk })
    (done : ∀ m₁ news₁ h tk, J vs.length m₁ news₁ → Fr h₀ env.locals h m₁ → News h₀ env.locals h news₁ → Q .next { s with heap := h, toks := tk }) :
    wpAny (model prog w) A (pyIter (.ref ax)) (fun it s₂ => TurnsAt prog w A h₀ env target body Q E it s₂) E s := by
  have hax : s.heap.get? ax = some (W.listOf vs.toArray n) := F.keep _ _ hm
  have hl : s.heap.IsList ax vs.toArray := ⟨_, hax, rfl, n, rfl⟩
  have hlt : ax < s.heap.objs.size := Heap.lt_size hax
  have hne : ax ≠ s.heap.objs.size := Nat.ne_of_lt hlt
  have rest := items_inv (prog := prog) (w := w) (A := A) (E := E) (s := s) (env := env) (h₀ := h₀) (target := target) (body := body) (Q := Q) (I := s.heap.objs.size) (c := "list_iterator") (keep := []) J (xs := vs.map .val)
    (fun i a v m₁ news₁ h tk it ha hv hit off hJ F₁ N₁ => by
      rw [List.getElem?_map] at ha
      obtain ⟨u, hu, rfl⟩ := Option.map_eq_some_iff.mp ha
      have e : v = u := hv
      subst e
      exact turn i v m₁ news₁ h tk it _ hu hit off hJ F₁ N₁)
    (fun m₁ news₁ h tk hJ => by rw [List.length_map] at hJ; exact done m₁ news₁ h tk hJ) (vs.map Itm.val).length 0 m₀ news (by omega) (fun p hp => Nat.ne_of_lt (Heap.lt_size (N p hp).1)) h0
  rw [List.drop_zero] at rest
  refine wpAny_pyIter_list hl ?_
  refine ktg_core (tk0 := s.toks) (keep := []) (KTurns.ofWalks (Walks.list hh s.heap.objs.size ax hne vs.toArray) fun i v s Q E st q => letGo_listiter st.1 q) (by simp) (fun i v h hp => ⟨.val v, ?_, rfl⟩) (fun i h st => ?_) (fun b hb => ?_) (fun b hb => by simpa using hb) (fun b hb => ?_) ?_ (fun p hp hI => ?_) ?_ (F.push _) (fun p hp => ⟨Heap.get?_push_of_some _ (N p hp).1, (N p hp).2⟩) trivial rest
  · have hp' : vs.toArray[i]? = some v := hp
    simpa using hp'
  · obtain ⟨it, hit, hic, _⟩ := st.1
    exact ⟨[(s.heap.objs.size, it)], ⟨⟨rfl, hic⟩, trivial⟩, fun p hp => by rw [List.mem_singleton.mp hp]; exact hit⟩
  · have hb' : b = s.heap.objs.size := by simpa using hb
    rw [hb']
    exact ⟨List.mem_cons_self .., next_is_new F⟩
  · have hb' : b = s.heap.objs.size ∨ b = ax := by simpa using hb
    rcases hb' with e | e
    · exact .inl (by simp [e])
    · exact .inr (.inr ⟨_, by rw [e]; exact hm⟩)
  · intro hI
    rcases List.mem_cons.mp hI with e | hI
    · exact absurd F.ns.lt (e ▸ Nat.lt_irrefl _)
    · have e : env.locals = ax := List.mem_singleton.mp hI
      exact absurd (Heap.lt_size hm) (Nat.not_lt.mpr (e ▸ F.above))
  · exact absurd (Heap.lt_size (N p hp).1) ((List.mem_singleton.mp hI) ▸ Nat.lt_irrefl _)
  · exact ⟨⟨_, Heap.get?_push_size _ rfl, rfl, rfl⟩, hl.at fun o e => Heap.get?_push_of_some _ e⟩
theorem letGo_range {I : Addr} {x left : Int} {v : Value} {Q' : Unit → Shared → Prop} {s' : Shared} (hit : IsRangeIter s'.heap I x left 1) (h : Q' () s') :
    wpAny (model prog w) A (letOwnedTupleGo target (.ref I) v) Q' E s' := by
  have ho : s'.heap.get? I = some _ := hit
  unfold letOwnedTupleGo
  cases target <;> first
    | exact wpAny_pure h
    | (cases v <;> first
        | exact wpAny_pure h
        | (refine wpAny_bind (wpAny_load ho ?_)
           exact wpAny_pure h))

theorem for_range {r : Addr} {a₀ b₀ : Int} {t₀ u₀ v₀ : Tok} {n : Nat} {m₀ : Str → Option Value} {news : Led} (J : Nat → (Str → Option Value) → Led → Prop)
    (hh : A.handled = none) (hr : IsRange s.heap r a₀ b₀ 1 t₀ u₀ v₀) (hsmall : Builtin.Range.small a₀ b₀ 1 = true) (hn : Builtin.Range.rangeSize a₀ b₀ 1 = (n : Int)) (F : Fr h₀ env.locals s.heap m₀) (N : News h₀ env.locals s.heap news) (h0 : J 0 m₀ news)
    (turn : ∀ i t m₁ news₁ h tk it I, i < n → Obj.cls it = .type "range_iterator" → (∀ p ∈ news₁, p.1 ≠ I) → J i m₁ news₁ → Fr h₀ env.locals h m₁ → News h₀ env.locals h ((I, it) :: news₁) →
      ∀ Z : Flow → Shared → Prop, (∀ f s₃, Turn h₀ env.locals { s with heap := h, toks := tk } I it (fun m' n' => SubL [] n' ∧ J (i + 1) m' n') Q f s₃ → Z f s₃) → wpAny (model prog w) A (assign target env (.int (a₀ + (i : Int)) t)) (fun _ s₂ => wpAny (model prog w) A (execs body env) Z E s₂) E { s with heap := h, toks := tk })
    (done : ∀ m₁ news₁ h tk, J n m₁ news₁ → Fr h₀ env.locals h m₁ → News h₀ env.locals h news₁ → Q .next { s with heap := h, toks := tk }) :
    wpAny (model prog w) A (pyIter (.ref r)) (fun it s₂ => TurnsAt prog w A h₀ env target body Q E it s₂) E s := by
  let xs : List Itm := (List.range n).map fun (i : Nat) => Itm.tok fun t => .int (a₀ + (i : Int)) t
  have hx : ∀ i a, xs[i]? = some a → i < n ∧ a = Itm.tok fun t => .int (a₀ + (i : Int)) t := fun i a ha => by
    rw [List.getElem?_map] at ha
    obtain ⟨j, hj, rfl⟩ := Option.map_eq_some_iff.mp ha
    have hi : i < n := by
      obtain ⟨hi, _⟩ := List.getElem?_eq_some_iff.mp hj
      simpa using hi
    rw [List.getElem?_range hi] at hj
    cases hj
    exact ⟨hi, rfl⟩
  have hlen : xs.length = n := by simp [xs]
  have rest := items_inv (prog := prog) (w := w) (A := A) (E := E) (s := s) (env := env) (h₀ := h₀) (target := target) (body := body) (Q := Q) (I := s.heap.objs.size) (c := "range_iterator") (keep := []) J (xs := xs)
    (fun i a v m₁ news₁ h tk it ha hv hit off hJ F₁ N₁ => by
      obtain ⟨hi, rfl⟩ := hx i a ha
      obtain ⟨t, rfl⟩ : ∃ t, v = .int (a₀ + (i : Int)) t := hv
      exact turn i t m₁ news₁ h tk it _ hi hit off hJ F₁ N₁)
    (fun m₁ news₁ h tk hJ => by rw [hlen] at hJ; exact done m₁ news₁ h tk hJ) xs.length 0 m₀ news (by omega) (fun p hp => Nat.ne_of_lt (Heap.lt_size (N p hp).1)) h0
  rw [List.drop_zero] at rest
  refine wpAny_pyIter_range hr hsmall ?_
  have W : Walks prog w A s.heap.objs.size [s.heap.objs.size] [s.heap.objs.size] n (fun i v => i < n ∧ ∃ t, v = .int (a₀ + i * 1) t)
      (fun i h => IsRangeIter h s.heap.objs.size (a₀ + (i : Nat) * 1) ((n : Int) - (i : Nat)) 1) := (Walks.range hh _ a₀ 1 n).bound
  refine ktg_core (tk0 := s.toks) (keep := []) (KTurns.ofWalks W fun i v s Q E st q => letGo_range st q) hlen.symm (fun i v h hp => ?_) (fun i h st => ?_) (fun b hb => ?_) (fun b hb => by simpa using hb) (fun b hb => ?_) ?_ (fun p hp hI => ?_) ?_ (F.push _) (fun p hp => ⟨Heap.get?_push_of_some _ (N p hp).1, (N p hp).2⟩) trivial rest
  · obtain ⟨hi, t, rfl⟩ := hp
    refine ⟨Itm.tok fun t => .int (a₀ + (i : Int)) t, by simp [xs, hi], t, by rw [Int.mul_one]⟩
  · exact ⟨[(s.heap.objs.size, _)], ⟨⟨rfl, rfl⟩, trivial⟩, fun p hp => by rw [List.mem_singleton.mp hp]; exact st⟩
  · have hb' : b = s.heap.objs.size := by simpa using hb
    rw [hb']
    exact ⟨List.mem_cons_self .., next_is_new F⟩
  · exact .inl (by simpa using hb)
  · intro hI
    exact absurd F.ns.lt ((List.mem_singleton.mp hI) ▸ Nat.lt_irrefl _)
  · exact absurd (Heap.lt_size (N p hp).1) ((List.mem_singleton.mp hI) ▸ Nat.lt_irrefl _)
  · show IsRangeIter _ _ _ _ _; rw [hn]; simpa using Heap.get?_push_size _ rfl

noncomputable def WTurn (h₀ : Heap) (L : Addr) (s₁ : Shared) (k : Nat) (J : Nat → (Str → Option Value) → Led → Prop) (Q : Flow → Shared → Prop) (f : Flow) (s₂ : Shared) : Prop :=
  match f with
  | .ret v => Q (.ret v) s₂
  | .brk => Q .next s₂
  | _ => ∃ h' tk m' news' k', k' < k ∧ s₂ = { s₁ with heap := h', toks := tk } ∧ Fr h₀ L h' m' ∧ News h₀ L h' news' ∧ J k' m' news'

theorem WTurn.next {L : Addr} {s₁ : Shared} {J : Nat → (Str → Option Value) → Led → Prop} {h' : Heap} {tk : Nat} {m' : Str → Option Value} {news' : Led} {k : Nat} (k' : Nat) (hk : k' < k)
    (F : Fr h₀ L h' m') (N : News h₀ L h' news') (j : J k' m' news') : WTurn h₀ L s₁ k J Q .next { s₁ with heap := h', toks := tk } := ⟨h', tk, m', news', k', hk, rfl, F, N, j⟩

theorem while_inv {test : Expr} {pos : Pos} {k : Nat} {m₀ : Str → Option Value} {news : Led} (J : Nat → (Str → Option Value) → Led → Prop)
    (F : Fr h₀ env.locals s.heap m₀) (N : News h₀ env.locals s.heap news) (h0 : J k m₀ news)
    (turn : ∀ k m₁ news₁ h tk, J k m₁ news₁ → Fr h₀ env.locals h m₁ → News h₀ env.locals h news₁ →
      ∀ Z : Flow → Shared → Prop, (∀ f s₃, WTurn h₀ env.locals { s with heap := h, toks := tk } k J Q f s₃ → Z f s₃) → wpAny (model prog w) A (isTrue test env (eval test env)) (fun b s₂ => if b = true then wpAny (model prog w) A (execs body env) Z E s₂ else Q .next s₂) E { s with heap := h, toks := tk })
    (hE : PassesOwn (model prog w) A env E := by passes_own) : wpAny (model prog w) A (exec (.While test body [] pos) env) Q E s := by
  refine wpAny_While (codeAny_whileLoop (fun k s' => ∃ h tk m₁ news₁, s' = { s with heap := h, toks := tk } ∧ Fr h₀ env.locals h m₁ ∧ News h₀ env.locals h news₁ ∧ J k m₁ news₁) (fun n s' hI => ?_) k ⟨s.heap, s.toks, m₀, news, rfl, F, N, h0⟩)
  obtain ⟨h, tk, m₁, news₁, rfl, F₁, N₁, j⟩ := hI
  refine wpAny_mono (turn n m₁ news₁ h tk j F₁ N₁ _ fun _ _ y => y) (fun b s₂ h₂ => ?_) hE
  cases b with
  | false => exact wpAny_execs_nil (by simpa using h₂)
  | true =>
    simp only [if_true] at h₂ ⊢
    refine wpAny_mono h₂ (fun f s₃ p => ?_) hE
    have fin : (∃ h' tk m' news' k', k' < n ∧ s₃ = { s with heap := h', toks := tk } ∧ Fr h₀ env.locals h' m' ∧ News h₀ env.locals h' news' ∧ J k' m' news') →
        ∃ m, m < n ∧ ∃ h tk m₁ news₁, s₃ = { s with heap := h, toks := tk } ∧ Fr h₀ env.locals h m₁ ∧ News h₀ env.locals h news₁ ∧ J m m₁ news₁ := by
      rintro ⟨h', tk, m', news', k', hk, e, F', N', j'⟩
      exact ⟨k', hk, h', tk, m', news', e, F', N', j'⟩
    cases f with
    | ret v => exact p
    | brk => exact p
    | next => exact fin p
    | cont => exact fin p
end

-- part B3
noncomputable def AllB (m : Str → Option Value) : List (Str × Value) → Prop
  | [] => True
  | p :: r => m p.1 = some p.2 ∧ AllB m r
theorem AllB.mem {m : Str → Option Value} : ∀ {ps : List (Str × Value)}, AllB m ps → ∀ p ∈ ps, m p.1 = some p.2
  | [], _, _, h => nomatch h
  | _ :: _, x, p, h => by
    rcases List.mem_cons.mp h with rfl | h
    · exact x.1
    · exact AllB.mem x.2 p h
theorem fr_norm {h₀ h : Heap} {L : Addr} {m : Str → Option Value} {ps : List (Str × Value)} (F : Fr h₀ L h m) (hp : AllB m ps) : Fr h₀ L h (kstB m ps) := by
  have e : kstB m ps = m := funext fun z => kstB_eq hp.mem fun _ => rfl
  rw [e]; exact F
theorem news_sub {h₀ h : Heap} {L : Addr} {all l : Led} (N : News h₀ L h all) (s : SubL l all) : News h₀ L h l := fun p hp => N p (s.mem p hp)

theorem take_use {w : World} {g : Heap} {L : Addr} {s : Shared} {m : Str → Option Value} {news : Led} {G : Obj → Led} {src : Addr} {o : Obj} {top : Int} {tk : Tok} {A : Around} {Q E : Value → Shared → Prop} {mean mg mb}
    (X : (hd.heap_1 w.params).In g) (T : Top hd.view_1 (looseW hd.view_1 [Str.ofString "Piece"]) mean mg mb g) (F : Fr g L s.heap m) (N : News g L s.heap news) (U : UpdF src o news G) (hp : IsPool o)
    (hA : A.handled = none) (hd : A.depth + 3 < recursionLimit) (hu : A.units + 30 < cLine) (ht : 2 ≤ top) (ht' : top ≤ 64)
    (hQ : ∀ d t o' h' tk', Fr g L h' m → News g L h' (G o') → 0 ≤ d → d < top → IsPool o' → Q (.int d t) { s with heap := h', toks := tk' }) :
    wpAny (model PySem.Challenge.rw_nz0248_01.row.prog w) A (PySem.call (.ref 237) [.ref src, .int top tk]) Q E s := by
  obtain ⟨own, rest, rfl, hg, h1, h2⟩ := U.split
  have hm : (src, o) ∈ own ++ (src, o) :: rest := by simp
  refine Call.use (rest := own ++ rest) (take_call ⟨X, _, _, _, T⟩ F.keep (N _ hm).1 (N _ hm).2.2 hp ht ht') F N hA hd hu (by simp) (fun p hp => ?_) fun v h' tk' news' F' N' _ hP => ?_
  · rcases List.mem_append.mp hp with q | q
    · exact ⟨List.mem_append_left _ q, by simpa [adr] using h1 p q⟩
    · exact ⟨List.mem_append_right _ (.tail _ q), by simpa [adr] using h2 p q⟩
  · obtain ⟨d, t, o', rfl, d0, d1, hp', rfl⟩ := hP
    refine hQ d t o' h' tk' F' ?_ d0 d1 hp'
    rw [hg]
    intro p hp
    apply N'
    simp only [List.mem_append, List.mem_cons, List.not_mem_nil, or_false] at hp ⊢
    rcases hp with q | q | q <;> simp [q]

-- part B4
section
variable {prog : Program} {w : World} {A : Around} {E : Value → Shared → Prop} {s : Shared} {h₀ : Heap} {L : Addr} {m : Str → Option Value} {news : Led} {Q : Value → Shared → Prop} {value slice : PySem.Expr} {b c : List UInt8} {t u : Tok}

theorem add_b (hsz : b.length + c.length ≤ 16777216) (h : ∀ t' k, Q (.bytes (b ++ c).toArray t') { s with toks := k }) :
    wpAny (model prog w) A (binaryOp .Add (.bytes b.toArray t) (.bytes c.toArray u)) Q E s := by
  refine KBy.add_bytes (by simpa using hsz) fun t' k => ?_
  rw [List.append_toArray]
  exact h t' k
theorem len_b (hsz : b.length ≤ 16777216) (h : ∀ t' k, Q (.int (b.length : Int) t') { s with toks := k }) : wpAny (model prog w) A (call (.builtin "len") [.bytes b.toArray t]) Q E s := by
  refine len_bytes (by simp only [List.size_toArray]; omega) ?_
  rw [List.size_toArray]
  exact h _ _
theorem eq_b (h : Q (.bool (b == c)) s) : wpAny (model prog w) A (compareOp .Eq (.bytes b.toArray t) (.bytes c.toArray u)) Q E s := eq_bytes (by simpa using h)
theorem ne_b (h : Q (.bool (b != c)) s) : wpAny (model prog w) A (compareOp .NotEq (.bytes b.toArray t) (.bytes c.toArray u)) Q E s := ne_bytes (by simpa using h)

theorem slice_b {l u' : Value} {lo hi : Option Int} (hF : Fr h₀ L s.heap m) (hN : News h₀ L s.heap news) (hl : IsPart l lo) (hu : IsPart u' hi) (hz : b.length ≤ 16777216)
    (h : ∀ h' t' k, Fr h₀ L h' m → News h₀ L h' news → Q (.bytes ((b.drop (lo.elim 0 (clipAt b.length))).take (hi.elim b.length (clipAt b.length) - lo.elim 0 (clipAt b.length))).toArray t') { s with heap := h', toks := k })
    (hs : subscripted slice false (.bytes b.toArray t) (.ref s.heap.objs.size) = operate [.ref s.heap.objs.size, .bytes b.toArray t] (getItem (.bytes b.toArray t) (.ref s.heap.objs.size)) := by with_unfolding_all rfl)
    (ht : ∀ r, letTemporaryGo value (.bytes b.toArray t) r = pure () := by intro _; with_unfolding_all rfl) :
    wpAny (model prog w) A (subscriptTail value slice (.bytes b.toArray t) (.ref s.heap.objs.size)) Q E { s with heap := s.heap.push { cls := .type "slice", data := .fields #[l, u', .none] } } :=
  tail_of_ItemOn ⟨"bytes", _, FB.slot_bytes_getitem.lookup, typeIs_bytes _ _ _, getItem_meets (typeIs_bytes _ _ _) (by decide) FB.slot_bytes_getitem FB.entry_bytes_getitem (FB.args_bytes_getitem_2 _ _) (KBc.meets_slice2 _ t _ hl hu)
    ⟨Heap.IsSliceOf.new _ _ _ _, Nat.le_trans (KBc.size_picked_le _ lo hi) (by rw [List.size_toArray, sizeLine_eq]; exact hz), fun t' k => by
      have e := KBc.picked_eq b.toArray lo hi
      rw [List.size_toArray] at e
      rw [e]
      exact h _ t' k (hF.push _) (News.pushKeep hN _)⟩⟩ hs ht

theorem item_led {l : Addr} {vs : List Value} {n : Nat} {i : Int} {v : Value} (N : News h₀ L s.heap news) (hm : (l, W.listOf vs.toArray n) ∈ news) (h0 : 0 ≤ i) (hi : i < 2 ^ 63) (hv : vs[i.toNat]? = some v) (h : Q v s)
    (hs : subscripted slice false (.ref l) (.int i u) = operate [.ref l, .int i u] (getItem (.ref l) (.int i u)) := by with_unfolding_all rfl) :
    wpAny (model prog w) A (subscriptTail value slice (.ref l) (.int i u)) Q E s :=
  have hl : s.heap.IsList l vs.toArray := ⟨_, (N _ hm).1, rfl, n, rfl⟩
  tail_any hl.typeIs slot_list_getitem.lookup (wpAny_getItem_list hl h0 hi (by simpa using hv) h) hs

theorem add_l {a b : Addr} {vs ws : List Value} {n n' : Nat} (F : Fr h₀ L s.heap m) (N : News h₀ L s.heap news) (ha : s.heap.get? a = some (W.listOf vs.toArray n)) (hb : s.heap.get? b = some (W.listOf ws.toArray n'))
    (hz : vs.length + ws.length ≤ 16777216) (h : ∀ D h', Fr h₀ L h' m → News h₀ L h' ((D, W.listOf (vs ++ ws).toArray 0) :: news) → (∀ p ∈ news, p.1 < D) → Q (.ref D) { s with heap := h' }) :
    wpAny (model prog w) A (binaryOp .Add (.ref a) (.ref b)) Q E s :=
  kmk_add_lit F N (its := vs.toArray) (its2 := ws.toArray) ⟨_, ha, rfl, n, rfl⟩ ⟨_, hb, rfl, n', rfl⟩ rfl h (by simpa [sizeLine_eq] using hz)

theorem extend_l {D b : Addr} {vs ws : List Value} {n n2 : Nat} {G : Obj → Led} (F : Fr h₀ L s.heap m) (N : News h₀ L s.heap news) (U : UpdF D (W.listOf vs.toArray n) news G) (hb : s.heap.get? b = some (W.listOf ws.toArray n2))
    (hz : vs.length + ws.length ≤ 65536) (h : ∀ h' n', Fr h₀ L h' m → News h₀ L h' (G (W.listOf (vs ++ ws).toArray n')) → Q .none { s with heap := h' }) :
    wpAny (model prog w) A (call (.builtin "list.extend") [.ref D, .ref b]) Q E s := by
  obtain ⟨pre, post, rfl, hg, a, c⟩ := U.split
  have z := N (D, W.listOf vs.toArray n) (by simp)
  have hd : ¬(!vs.toArray.isEmpty && Builtin.List.listTooLong (vs.toArray.size + ws.toArray.size)) = true := by
    have : Builtin.List.listTooLong (vs.toArray.size + ws.toArray.size) = false := by
      unfold Builtin.List.listTooLong
      simp only [List.size_toArray, decide_eq_false_iff_not]
      have := sizeLine_eq
      omega
    rw [this, Bool.and_false]; exact Bool.false_ne_true
  refine call_meets PySem.F.slot_list_extend ⟨_, z.1, rfl⟩ PySem.F.entry_list_extend (PySem.F.args_list_extend_2 _ _) (PySem.AutoSeq1.list_extend_list_list_0 D vs.toArray n b ws.toArray n2 hd (by simp [sizeLine_eq]; omega) (by simp [sizeLine_eq]; omega)) ⟨z.1, hb, ?_⟩
  have q := PySem.IsL.update z.1 (fun x => x ++ ws.toArray)
  rw [List.append_toArray] at q
  exact h _ _ (F.change (Heap.SameBut.update ..) z.2.1 z.2.2) (by rw [hg]; exact news_set N a c (Heap.SameBut.update ..) q)

theorem bytes_l {l : Addr} {vs : List Value} {n : Nat} {ns : List Int} (F : Fr h₀ L s.heap m) (N : News h₀ L s.heap news) (hm : (l, W.listOf vs.toArray n) ∈ news) (hi : IntsAre vs ns) (hr : ∀ n ∈ ns, 0 ≤ n ∧ n < 256) (hz : vs.length ≤ 1000) (hh : A.handled = none)
    (h : ∀ h' t k, Fr h₀ L h' m → News h₀ L h' news → Q (.bytes (ns.map fun n => n.toNat.toUInt8).toArray t) { s with heap := h', toks := k }) : wpAny (model prog w) A (call (.type "bytes") [.ref l]) Q E s :=
  bytes_K F N (News.isList N hm) hi hr (by rw [sizeLine_eq]; omega) hh fun h' t k F' N' _ => h h' t k F' N'
end

-- part C2
local macro_rules | `(tactic| walk_at "pyIter ref") => `(tactic| (k_here; (with_reducible show wpAny _ _ (pyIter (Value.ref _)) _ _ _); refine stop ?_))
local macro_rules | `(tactic| walk_at "exec While Compare cons nil") => `(tactic| (k_here; refine stop ?_))
local macro_rules | `(tactic| walk_at "exec While BoolOp cons nil") => `(tactic| (k_here; refine stop ?_))
local macro_rules | `(tactic| walk_at "call ref") => `(tactic| (
  k_here; (with_reducible show wpAny _ _ (PySem.call (Value.ref 237) [Value.ref _, Value.int _ _]) _ _ _);
  (with_unfolding_all refine' take_use ?X ?T ?F ?N ?U ?p ?A ?d ?u ?t1 ?t2 ?_); (case X => k_asm); (case T => k_asm); (case F => k_asm); (case N => k_asm); (case U => k_updF); (case p => k_asm); (case A => first | assumption | exact rfl); (case d => walk_at "my room"); (case u => walk_at "my room"); (case t1 => omega); (case t2 => omega);
  k_whole; intro d' t' o' h' tk' F' N' d0' d1' p'; (try dsimp only at N'); (try k_sweep)))
local macro_rules | `(tactic| walk_at "binaryOp Add bytes bytes") => `(tactic| (k_here; (with_reducible show wpAny _ _ (binaryOp Operator.Add (Value.bytes (List.toArray _) _) (Value.bytes (List.toArray _) _)) _ _ _); (refine add_b (by walk_at "my len") ?_); intro _ _))
local macro_rules | `(tactic| walk_at "call builtin:len") => `(tactic| (k_here; (with_reducible show wpAny _ _ (call (Value.builtin "len") [Value.bytes (List.toArray _) _]) _ _ _); (refine len_b (by walk_at "my len") ?_); intro _ _))
local macro_rules | `(tactic| walk_at "subscriptTail List") => `(tactic| (k_here; (with_reducible show wpAny _ _ (subscriptTail (Expr.List _ _) (Expr.Call _ _ _ _) (Value.ref _) (Value.int _ _)) _ _ _); refine stop ?_))
local macro_rules | `(tactic| walk_at "call type:bytes") => `(tactic| (k_here; (with_reducible show wpAny _ _ (call (Value.type "bytes") [Value.ref _]) _ _ _); refine stop ?_))
local macro_rules | `(tactic| walk_at "binaryOp Add ref ref") => `(tactic| (k_here; (try dsimp only); refine stop ?_))
section
local macro_rules | `(tactic| walk_at "pyIter ref") => `(tactic| (k_here; (with_reducible show wpAny _ _ (pyIter (Value.ref _)) (fun it s₂ => TurnsAt _ _ _ _ _ _ _ _ _ it s₂) _ _); refine stop ?_))
noncomputable def IsTok (l : List UInt8) : Prop := l = [0] ∨ l = [17] ∨ l = [255, 0] ∨ l = [255, 208] ∨ l = [255, 215] ∨ l = [217]
noncomputable def IsData (n : Nat) (b : List UInt8) : Prop := ∃ ts : List (List UInt8), ts.length = n ∧ (∀ t ∈ ts, IsTok t) ∧ b = ts.flatten

theorem IsTok.len {l : List UInt8} (h : IsTok l) : l.length ≤ 2 := by
  rcases h with rfl | rfl | rfl | rfl | rfl | rfl <;> decide
theorem IsData.len {n : Nat} {b : List UInt8} (h : IsData n b) : b.length ≤ 2 * n := by
  obtain ⟨ts, rfl, h2, rfl⟩ := h
  induction ts with
  | nil => exact Nat.le_refl _
  | cons t r ih =>
    have h1 := (h2 t (.head _)).len
    have h3 := ih fun x hx => h2 x (.tail _ hx)
    simp only [List.flatten_cons, List.length_append, List.length_cons]
    omega
theorem IsData.snoc {n : Nat} {b t : List UInt8} (h : IsData n b) (ht : IsTok t) : IsData (n + 1) (b ++ t) := by
  obtain ⟨ts, rfl, h2, rfl⟩ := h
  exact ⟨ts ++ [t], by simp, fun x hx => by
    rcases List.mem_append.mp hx with hx | hx
    · exact h2 x hx
    · rw [List.mem_singleton.mp hx]; exact ht, by simp⟩
theorem menu6 {d : Int} {t1 t2 t3 t4 t5 t6 : Tok} (h0 : 0 ≤ d) (h1 : d < 6) : ∃ tk t, [Value.bytes (List.toArray [0]) t1, .bytes (List.toArray [17]) t2, .bytes (List.toArray [255, 0]) t3, .bytes (List.toArray [255, 208]) t4, .bytes (List.toArray [255, 215]) t5, .bytes (List.toArray [217]) t6][d.toNat]? = some (.bytes (List.toArray tk) t) ∧ IsTok tk := by
  have : d = 0 ∨ d = 1 ∨ d = 2 ∨ d = 3 ∨ d = 4 ∨ d = 5 := by omega
  unfold IsTok
  rcases this with rfl | rfl | rfl | rfl | rfl | rfl
  · exact ⟨_, _, rfl, by simp⟩
  · exact ⟨_, _, rfl, by simp⟩
  · exact ⟨_, _, rfl, by simp⟩
  · exact ⟨_, _, rfl, by simp⟩
  · exact ⟨_, _, rfl, by simp⟩
  · exact ⟨_, _, rfl, by simp⟩

theorem small_of {d : Int} (h0 : 0 ≤ d) (h1 : d < 64) : Builtin.Range.small 0 d 1 = true := by
  unfold Builtin.Range.small Builtin.Range.rangeFitsLong
  rw [rangeSize_nat]
  simp
  omega
theorem size_of {d : Int} (h0 : 0 ≤ d) : Builtin.Range.rangeSize 0 d 1 = (d.toNat : Int) := by
  rw [rangeSize_nat]; simp

set_option maxHeartbeats 4000000 in
theorem data_call {w : World} {H : Heap} {s : Shared} {src : Addr} {o : Obj}
    (G : Gr w H) (hk : ∀ b o, H.get? b = some o → s.heap.get? b = some o)
    (hs : s.heap.get? src = some o) (hH : H.get? src = none) (hp : IsPool o) :
    Call w [(src, o)] 5 50 (.ref 244) [.ref src] s (fun v news' => ∃ b t o' n, v = .bytes (List.toArray b) t ∧ n ≤ 4 ∧ IsData n b ∧ IsPool o' ∧ news' = [(src, o')]) := by
  refine' call_def G hk (by simpa using ⟨hs, hH⟩) ?ho ?hcd ?hb ?hl ?h ?c1 ?c2 ?c3 ?c4
  walk_at "my enter"
  intro g L' h₁ A mean mg mb hA hd hu X T hg hg' hL F N Z hZ
  walk_at "my go"
  unfold Stop
  rename IsRange _ _ _ _ _ _ _ _ => hr
  rename Fr _ _ _ _ => F1
  rename News _ _ _ _ => N1
  rename IsPool _ => p1
  rename (_ : Int) < 5 => d1
  rename 0 ≤ (_ : Int) => d0
  refine for_range (fun i m news => ∃ o b t, AllB m [("source", .ref src), ("found", .bytes (List.toArray b) t)] ∧ news = [(src, o)] ∧ IsPool o ∧ IsData i b) hA hr (small_of d0 (by omega)) (size_of d0) F1 N1
    ⟨_, [], _, ⟨rfl, rfl, trivial⟩, rfl, p1, [], rfl, nofun, rfl⟩ ?_ ?_
  · rintro i t m₁ news₁ h tk it I hi hit hoff ⟨o, b, tb, hm, rfl, hpo, hb⟩ F2 N2 Z2 hZ2
    have F3 := fr_norm F2 hm
    clear F1 F2 N1
    dsimp only [kstB] at F3
    have hsI := neN (hoff _ (List.mem_singleton.mpr rfl)); dsimp only at hsI
    have hbl : b.length ≤ 2 * i := hb.len
    k_steps
    unfold Stop
    rename (_ : Int) < 6 => e1
    rename 0 ≤ (_ : Int) => e0
    rename IsPool _ => p2
    rename News _ _ _ _ => N3
    obtain ⟨tk, tt, hv, ht⟩ := menu6 (t1 := _) (t2 := _) (t3 := _) (t4 := _) (t5 := _) (t6 := _) e0 e1
    refine item_led N3 (by k_mem) e0 (by omega) hv ?_
    clear hv
    have htl := ht.len
    k_steps
    dsimp only
    refine hZ2 _ _ ?_; refine Turn.next (news' := [(src, _)]) (by assumption) (news_sub (by assumption) ⟨by k_mem, by k_mem, trivial⟩) (fun p hp => by rw [List.mem_singleton.mp hp]; exact hsI) ⟨trivial, _, _, _, ⟨rfl, rfl, trivial⟩, rfl, p2, hb.snoc ht⟩
  · rintro m₁ news₁ h tk ⟨o, b, tb, hm, rfl, hpo, hb⟩ F2 N2
    have F3 := fr_norm F2 hm
    clear F1 F2 N1
    dsimp only [kstB] at F3
    k_steps
    dsimp only
    (first | refine hZ _ _ ?_ | (refine hZ2 _ _ ?_; refine hZ _ _ ?_)); exact Ends.ret F3 N2 ⟨b, tb, o, _, rfl, by omega, hb, hpo, rfl⟩
end

-- part C3
section
theorem Call.pure {w : World} {news : Led} {d u : Nat} {f : Value} {vs : List Value} {s : Shared} {P : Value → Prop} {g : Heap} {L : Addr} {m : Str → Option Value} {A : Around} {Q E : Value → Shared → Prop}
    (C : Call w [] d u f vs s (fun v n => P v ∧ n = [])) (F : Fr g L s.heap m) (N : News g L s.heap news) (hA : A.handled = none) (hd : A.depth + d < recursionLimit) (hu : A.units + u < cLine)
    (hQ : ∀ v h' tk', Fr g L h' m → News g L h' news → P v → Q v { s with heap := h', toks := tk' }) :
    wpAny (model PySem.Challenge.rw_nz0248_01.row.prog w) A (PySem.call f vs) Q E s := by
  refine C.use F N hA hd hu (by simp) (rest := news) (fun p hp => ⟨hp, by simp [adr]⟩) fun v h' tk' news' F' N' _ hP => ?_
  obtain ⟨p, rfl⟩ := hP
  exact hQ v h' tk' F' N' p
local macro_rules | `(tactic| walk_at "pyIter ref") => `(tactic| (k_here; (with_reducible show wpAny _ _ (pyIter (Value.ref _)) (fun it s₂ => TurnsAt _ _ _ _ _ _ _ _ _ it s₂) _ _); refine stop ?_))

set_option maxHeartbeats 4000000 in
theorem restart_call {w : World} {H : Heap} {s : Shared} {c : Int} {t : Tok} (G : Gr w H) (hk : ∀ b o, H.get? b = some o → s.heap.get? b = some o) :
    Call w [] 3 30 (.ref 91) [.int c t] s (fun v news' => v = .bool (decide (208 ≤ c) && decide (c ≤ 215)) ∧ news' = []) := by
  refine' call_def G hk (fun _ h => nomatch h) ?ho ?hcd ?hb ?hl ?h ?c1 ?c2 ?c3 ?c4
  walk_at "my enter"
  intro g L' h₁ A mean mg mb hA hd hu X T hg hg' hL F N Z hZ
  walk_at "my go"
  all_goals walk_at "my end0"
  all_goals walk_at "my bool"
local macro_rules | `(tactic| walk_at "call ref") => `(tactic| (
  k_here; (with_reducible show wpAny _ _ (PySem.call (Value.ref 91) [Value.int _ _]) _ _ _);
  (with_unfolding_all refine' Call.pure (restart_call ⟨?X, _, _, _, ?T⟩ ?K) ?F ?N ?A ?d ?u ?_); (case X => k_asm); (case T => k_asm); (case K => exact Fr.keep (by assumption)); (case F => k_asm); (case N => k_asm); (case A => first | assumption | exact rfl); (case d => walk_at "my room"); (case u => walk_at "my room");
  k_whole; intro v' h' tk' F' N' e'; subst e'; (try k_sweep)))

noncomputable def hasLen (c : Int) : Bool := !(c == 216 || c == 217 || c == 1) && !(decide (208 ≤ c) && decide (c ≤ 215))
theorem hl1 {c : Int} (h : ([216, 217, 1].any fun x => x == c) = true) : (!([216, 217, 1].any fun x => x == c)) = hasLen c := by
  rw [h]
  simp only [List.any_cons, List.any_nil, Bool.or_false, Bool.or_eq_true, beq_iff_eq] at h
  unfold hasLen
  rcases h with h | h | h <;> subst h <;> rfl
theorem hl2 {c : Int} (h : ([216, 217, 1].any fun x => x == c) = false) : (!(decide (208 ≤ c) && decide (c ≤ 215))) = hasLen c := by
  simp only [List.any_cons, List.any_nil, Bool.or_false, Bool.or_eq_false_iff, beq_eq_false_iff_ne] at h
  unfold hasLen
  have : (c == 216 || c == 217 || c == 1) = false := by simp; omega
  rw [this]; rfl
set_option maxHeartbeats 4000000 in
theorem haslen_call {w : World} {H : Heap} {s : Shared} {c : Int} {t : Tok} (G : Gr w H) (hk : ∀ b o, H.get? b = some o → s.heap.get? b = some o) :
    Call w [] 6 60 (.ref 98) [.int c t] s (fun v news' => v = .bool (hasLen c) ∧ news' = []) := by
  refine' call_def G hk (fun _ h => nomatch h) ?ho ?hcd ?hb ?hl ?h ?c1 ?c2 ?c3 ?c4
  walk_at "my enter"
  intro g L' h₁ A mean mg mb hA hd hu X T hg hg' hL F N Z hZ
  walk_at "my go"
  all_goals walk_at "my end0"
  · exact congrArg Value.bool (hl1 (by assumption))
  · exact congrArg Value.bool (hl2 (by assumption))
local macro_rules | `(tactic| walk_at "call ref") => `(tactic| (
  k_here; (with_reducible show wpAny _ _ (PySem.call (Value.ref 98) [Value.int _ _]) _ _ _);
  (with_unfolding_all refine' Call.pure (haslen_call ⟨?X, _, _, _, ?T⟩ ?K) ?F ?N ?A ?d ?u ?_); (case X => k_asm); (case T => k_asm); (case K => exact Fr.keep (by assumption)); (case F => k_asm); (case N => k_asm); (case A => first | assumption | exact rfl); (case d => walk_at "my room"); (case u => walk_at "my room");
  k_whole; intro v' h' tk' F' N' e'; subst e'; (try k_sweep)))

set_option maxHeartbeats 4000000 in
theorem word_call {w : World} {H : Heap} {s : Shared} {c : Int} {t : Tok} (G : Gr w H) (hk : ∀ b o, H.get? b = some o → s.heap.get? b = some o) (h0 : 0 ≤ c) (h1 : c < 256) :
    Call w [] 6 60 (.ref 84) [.int c t] s (fun v news' => (∃ t', v = .bytes (List.toArray [0, c.toNat.toUInt8]) t') ∧ news' = []) := by
  refine' call_def G hk (fun _ h => nomatch h) ?ho ?hcd ?hb ?hl ?h ?c1 ?c2 ?c3 ?c4
  walk_at "my enter"
  intro g L' h₁ A mean mg mb hA hd hu X T hg hg' hL F N Z hZ
  walk_at "my go"
  unfold Stop
  have q := fmod_lt' c (b := 256) (by omega)
  have e1 : c.fdiv 256 = 0 := by rw [Int.fdiv_eq_ediv_of_nonneg _ (by decide)]; omega
  have e2 : c.fmod 256 = c := by rw [Int.fmod_eq_emod_of_nonneg _ (by decide)]; omega
  refine bytes_l (ns := [c.fdiv 256, c.fmod 256]) (by assumption) (by assumption) (by k_mem) (by l_ints) (by rw [e1, e2]; simp; omega) (by simp) hA ?_
  intro h' t' k F' N'
  k_steps
  walk_at "my end0"
  exact ⟨t', by rw [e1, e2]; rfl⟩
local macro_rules | `(tactic| walk_at "call ref") => `(tactic| (
  k_here; (with_reducible show wpAny _ _ (PySem.call (Value.ref 84) [Value.int _ _]) _ _ _);
  (with_unfolding_all refine' Call.pure (word_call ⟨?X, _, _, _, ?T⟩ ?K ?z ?o) ?F ?N ?A ?d ?u ?_); (case X => k_asm); (case T => k_asm); (case K => exact Fr.keep (by assumption)); (case F => k_asm); (case N => k_asm); (case A => first | assumption | exact rfl); (case d => walk_at "my room"); (case u => walk_at "my room"); (case z => omega); (case o => omega);
  k_whole; intro v' h' tk' F' N' e'; obtain ⟨t', e'⟩ := e'; subst e'; (try k_sweep)))
end

-- part B6
section
variable {prog : Program} {w : World} {A : Around} {E : Value → Shared → Prop} {s : Shared} {env : Env} {h₀ : Heap} {L : Addr} {Q : Value → Shared → Prop}

/-- what a turn of a comprehension leaves behind -/
noncomputable def CompTurn (h₀ : Heap) (C : Addr) (s₁ : Shared) (I D L : Addr) (it oD oL : Obj) (J : Value → Led → Prop) (y : Value) (s₂ : Shared) : Prop :=
  ∃ h' tk m' news', s₂ = { s₁ with heap := h', toks := tk } ∧ Fr h₀ C h' m' ∧ News h₀ C h' ((I, it) :: (D, oD) :: (L, oL) :: news') ∧ (∀ p ∈ news', p.1 ≠ I ∧ p.1 ≠ D ∧ p.1 ≠ L) ∧ J y news'

noncomputable def CompAt (prog : Program) (w : World) (A : Around) (h₀ : Heap) (env : Env) (L : Addr) (scope : Scope) (cl : List (Str × Addr)) (x : Str) (elt : PySem.Expr) (Q : Value → Shared → Prop) (it : Value) (s₂ : Shared) : Prop :=
  ∃ (I : Addr) (c : String) (fp : List Addr) (n : Nat) (P : Nat → Value → Prop) (St : Nat → Heap → Prop) (m : Str → Option Value) (news : Led) (J : Nat → List Value → Led → Prop),
    it = .ref I ∧ Walks prog w A I fp [I] n P St ∧ (∀ b ∈ fp, b = I ∨ ∃ o, h₀.get? b = some o) ∧ h₀.get? I = none ∧ I ≠ L ∧ (∀ i h, St i h → ∃ o, h.get? I = some o ∧ o.cls = .type c) ∧ St 0 s₂.heap ∧ I < s₂.heap.objs.size ∧ n ≤ 65536 ∧
    Fr h₀ L s₂.heap m ∧ News h₀ L s₂.heap news ∧ (∀ p ∈ news, p.1 ≠ I) ∧ J 0 [] news ∧
    (∀ i v ys news₁ h tk C D o oL nD mC, i < n → P i v → Obj.cls o = .type c → J i ys news₁ → (∀ p ∈ news₁, p.1 ≠ I ∧ p.1 ≠ D ∧ p.1 ≠ L) → C ≠ L → Fr h₀ C h (fun y => if y = x then some v else (mC : Str → Option Value) y) → News h₀ C h ((I, o) :: (D, W.listOf ys.toArray nD) :: (L, oL) :: news₁) →
      wpAny (model prog w) A (eval elt (compEnvC scope cl C env)) (CompTurn h₀ C { s₂ with heap := h, toks := tk } I D L o (W.listOf ys.toArray nD) oL fun y n' => J (i + 1) (ys ++ [y]) n') (fun _ _ => False) { s₂ with heap := h, toks := tk }) ∧
    ∀ D h' tk ys nD news', J n ys news' → (∀ p ∈ news', p.1 ≠ D) → Fr h₀ L h' m → News h₀ L h' ((D, W.listOf ys.toArray nD) :: news') → Q (.ref D) { s₂ with heap := h', toks := tk }

theorem comp_inv {elt iter : PySem.Expr} {x : Str} {px : Pos} {scope : Scope} {cl : List (Str × Addr)} {pos : Pos}
    (hclos : closureFor scope env = pure cl) (hcell : ∀ y ∈ scope.names, y.2 ≠ .cell) (hkind : scope.kind = .function)
    (hnames : ∀ y ∈ scope.names, y.2 = .local → scope.names.lookup y.1 = some .local) (hx : scope.names.lookup x = some .local)
    (h : wpAny (model prog w) A (eval iter env) (fun xv s₁ => wpAny (model prog w) A (pyIter xv) (fun it s₂ => CompAt prog w A h₀ env L scope cl x elt Q it s₂) E s₁) E s)
    (hs : ∀ x, foldedSetIterable iter env x = pure x := by intro _; rfl) :
    wpAny (model prog w) A (eval (.ListComp elt [⟨.Name x px, iter, [], 0⟩] scope pos) env) Q E s := by
  rw [eval_ListComp]
  refine wpAny_comprehension_free (use := none) rfl hs hclos hkind hnames (wpAny_mono h (fun xv s₁ h₁ => wpAny_mono h₁ (fun it s₂ h₂ => ?_) fun _ _ e => e) fun _ _ e => e)
  refine e9_15 (h₂) ?_; clear h₂; rintro I c fp n P St m news J rfl Wk hfp hI0 hIL hobj hst hIlt hn F N hoff hJ step done
  refine wpAny_newObj_type (wpAny_newFunctionEnv hcell (by intro y hy; simp at hy) (fun h₁ hns₁ hsb₁ => ?_) hkind)
  dsimp only at hns₁ hsb₁ ⊢
  generalize hH2 : s₂.heap.push { cls := .type "list", dict := none, data := .seq ([] : List Value).toArray } = H2 at hns₁ hsb₁ ⊢
  have hC : H2.objs.size = s₂.heap.objs.size + 1 := by rw [← hH2, Heap.size_push]
  have old : ∀ b o, s₂.heap.get? b = some o → h₁.get? b = some o := fun b o e => by
    have hb := Heap.lt_size e
    exact hsb₁.extBut b o (by rw [hC]; exact Nat.ne_of_lt (Nat.lt_succ_of_lt hb)) (Heap.get?_push_of_some _ (hH2 ▸ Heap.get?_push_of_some _ e))
  refine e3_4 (id F.ns) ?_; rintro oL es ep hL hLd hLk hLf
  have hLlt := Heap.lt_size hL
  have hD : h₁.get? s₂.heap.objs.size = some (W.listOf ([] : List Value).toArray 0) := by
    refine hsb₁.extBut _ _ (by rw [hC]; exact Nat.ne_of_lt (Nat.lt_succ_self _)) (Heap.get?_push_of_some _ (hH2 ▸ Heap.get?_push_size _ rfl))
  have big : ∀ a, s₂.heap.objs.size ≤ a → h₀.get? a = none := fun a ha => by
    cases e : h₀.get? a with
    | none => rfl
    | some o => exact absurd (Heap.lt_size (F.keep _ _ e)) (Nat.not_lt.mpr ha)
  have hLn : h₀.get? L = none := by
    cases e : h₀.get? L with
    | none => rfl
    | some o => exact absurd (Heap.lt_size e) (Nat.not_lt.mpr F.above)
  have hst₁ : St 0 h₁ := Wk.frame _ _ _ hst fun b _ o e => old b o e
  have FC : Fr h₀ H2.objs.size h₁ _ := ⟨hns₁, fun b o e => old b o (F.keep b o e), Nat.le_trans F.above (Nat.le_trans (Nat.le_of_lt hLlt) (by rw [hC]; exact Nat.le_succ _))⟩
  have NC : News h₀ H2.objs.size h₁ ((s₂.heap.objs.size, W.listOf ([] : List Value).toArray 0) :: (L, oL) :: news) := fun p hp => by
    rcases List.mem_cons.mp hp with rfl | hp
    · exact ⟨hD, by rw [hC]; exact Nat.ne_of_lt (Nat.lt_succ_self _), big _ (Nat.le_refl _)⟩
    · rcases List.mem_cons.mp hp with rfl | hp
      · exact ⟨old _ _ hL, by rw [hC]; exact Nat.ne_of_lt (Nat.lt_succ_of_lt hLlt), hLn⟩
      · exact ⟨old _ _ (N p hp).1, by rw [hC]; exact Nat.ne_of_lt (Nat.lt_succ_of_lt (Heap.lt_size (N p hp).1)), (N p hp).2.2⟩
  have hID : I ≠ s₂.heap.objs.size := Nat.ne_of_lt hIlt
  have hIC : I ≠ H2.objs.size := by rw [hC]; exact Nat.ne_of_lt (Nat.lt_succ_of_lt hIlt)
  have loop : ∀ s₃ : Shared, s₃ = { s₂ with heap := h₁, toks := s₂.toks + ([] : List (Str × Value)).length } →
      codeAny (model prog w) A (.compLoop (.ListComp elt [⟨.Name x px, iter, [], 0⟩] scope pos) 0 (.ref I) (.ref s₂.heap.objs.size) (compEnvC scope cl H2.objs.size env))
        (compPost (model prog w) A E none Q (.ref s₂.heap.objs.size) H2.objs.size) s₃ := by
    rintro s₃ rfl
    refine codeAny_compLoop_list
      (fun k s' => ∃ h' tk mC ys nD news' i, s' = { s₂ with heap := h', toks := tk } ∧ St i h' ∧ Fr h₀ H2.objs.size h' mC ∧ News h₀ H2.objs.size h' ((s₂.heap.objs.size, W.listOf (List.toArray ys) nD) :: (L, oL) :: news') ∧
        (∀ p ∈ news', p.1 ≠ I ∧ p.1 ≠ s₂.heap.objs.size ∧ p.1 ≠ L) ∧ J i ys news' ∧ i ≤ n ∧ ys.length = i ∧ k = n + 1 - i) ?_ (n + 1)
      ⟨h₁, _, _, [], 0, news, 0, rfl, hst₁, FC, NC, fun p hp => ⟨hoff p hp, Nat.ne_of_lt (Heap.lt_size (N p hp).1), (N p hp).2.1⟩, hJ, Nat.zero_le _, rfl, rfl⟩ ?_
    · rintro k s' hJ' ; refine e7_9 hJ' ?_; clear hJ'; rintro h' tk mC ys nD news' i rfl hst' F' N' off' hJ' hi hlen rfl
      by_cases hlt : i < n
      · refine Wk.item i _ _ _ hlt hst' fun v h₂ tk₂ hP hst₂ hk₂ => ?_
        have k₂ : ∀ b o, b ≠ I → h'.get? b = some o → h₂.get? b = some o := fun b o hb e => hk₂ b o (by simpa using hb) e
        have F₂ : Fr h₀ H2.objs.size h₂ mC := ⟨F'.ns.at' fun o e => k₂ _ o (Ne.symm hIC) e, fun b o e => k₂ b o (fun q => by rw [q, hI0] at e; cases e) (F'.keep b o e), F'.above⟩
        have N₂ : News h₀ H2.objs.size h₂ ((s₂.heap.objs.size, W.listOf ys.toArray nD) :: (L, oL) :: news') := fun p hp => by
          refine ⟨k₂ _ _ ?_ (N' p hp).1, (N' p hp).2⟩
          rcases List.mem_cons.mp hp with rfl | hp
          · exact Ne.symm hID
          · rcases List.mem_cons.mp hp with rfl | hp
            · exact Ne.symm hIL
            · exact (off' p hp).1
        refine wpAny_assign_Name (wpAny_storeName_local (lookup_relabel_local hx) F₂.ns (fun h₃ hn₃ hs₃ => ?_) (by simp [compEnvC, relabel, hkind]))
        have F₃ := F₂.set hn₃ hs₃
        obtain ⟨o, hoI, hoc⟩ := hobj _ _ hst₂
        have N₃ : News h₀ H2.objs.size h₃ ((I, o) :: (s₂.heap.objs.size, W.listOf ys.toArray nD) :: (L, oL) :: news') := fun p hp => by
          rcases List.mem_cons.mp hp with rfl | hp
          · exact ⟨(hs₃.2 _ hIC).trans hoI, hIC, hI0⟩
          · exact (N₂.set hs₃) p hp
        refine wpAny_mono (step i v ys news' h₃ _ H2.objs.size s₂.heap.objs.size o oL nD mC hlt hP hoc hJ' off' (by rw [hC]; exact Nat.ne_of_gt (Nat.lt_succ_of_lt hLlt)) F₃ N₃) (fun y s₄ h₄ => ?_) fun _ _ e => e.elim
        refine e4_5 (h₄) ?_; clear h₄; rintro h₄ tk₄ m₄ news₄ rfl F₄ N₄ off₄ hJ₄
        refine append_K (its := ys.toArray) (n := nD) F₄ N₄ (news' := (I, o) :: (s₂.heap.objs.size, W.listOf (ys.toArray.push y) (nD + 1)) :: (L, oL) :: news₄) ?_ (fun h₅ F₅ N₅ => ?_) (by rw [List.size_toArray, sizeLine_eq]; omega)
        · refine Upd.tail hID (Upd.head fun p hp => ?_)
          rcases List.mem_cons.mp hp with rfl | hp
          · exact Nat.ne_of_lt hLlt
          · exact (off₄ p hp).2.1
        · refine ⟨n + 1 - (i + 1), by omega, h₅, tk₄, m₄, ys ++ [y], nD + 1, news₄, i + 1, rfl, ?_, F₅, ?_, off₄, hJ₄, hlt, by simp [hlen], rfl⟩
          · refine Wk.frame _ _ _ hst₂ fun b hb ob e => ?_
            rcases hfp b hb with rfl | ⟨ob', e'⟩
            · have := (N₅ (b, o) (.head _)).1
              rw [hoI] at e; cases e
              exact this
            · have q := F₂.keep _ _ e'
              rw [e] at q; cases q
              exact F₅.keep _ _ e'
          · intro p hp
            refine N₅ p (.tail _ ?_)
            rw [List.push_toArray]; exact hp
      · have hin : i = n := by omega
        subst hin
        refine Wk.done _ _ _ hst' fun h₂ tk₂ hk₂ => ?_
        have k₂ : ∀ b o, b ≠ I → h'.get? b = some o → h₂.get? b = some o := fun b o hb e => hk₂ b o (by simpa using hb) e
        refine ⟨mC, F'.ns.at' fun o e => k₂ _ o (Ne.symm hIC) e, fun h₃ hs₃ => ?_⟩
        have k₃ : ∀ b o, b ≠ I → b ≠ H2.objs.size → h'.get? b = some o → h₃.get? b = some o := fun b o hb hb' e => (hs₃.2 b hb').trans (k₂ b o hb e)
        have up : ∀ b o, h₀.get? b = some o → h₃.get? b = some o := fun b o e => by
          refine k₃ b o (fun q => by rw [q, hI0] at e; cases e) (fun q => ?_) (F'.keep b o e)
          rw [q, big _ (by rw [hC]; exact Nat.le_succ _)] at e; cases e
        have hL' : h₃.get? L = some oL := k₃ _ _ (Ne.symm hIL) (by rw [hC]; exact Nat.ne_of_lt (Nat.lt_succ_of_lt hLlt)) (N' (L, oL) (by simp)).1
        refine done _ h₃ tk₂ ys nD news' hJ' (fun p hp => (off' p hp).2.1) ⟨⟨oL, es, ep, hL', hLd, hLk, hLf⟩, up, F.above⟩ fun p hp => ?_
        rcases List.mem_cons.mp hp with rfl | hp
        · exact ⟨k₃ _ _ (Ne.symm hID) (by rw [hC]; exact Nat.ne_of_lt (Nat.lt_succ_self _)) (N' _ (.head _)).1, Nat.ne_of_gt hLlt, big _ (Nat.le_refl _)⟩
        · have q := N' p (.tail _ (.tail _ hp))
          exact ⟨k₃ _ _ (off' p hp).1 q.2.1 q.1, (off' p hp).2.2, q.2.2⟩
    · intro _; rfl
  exact codeAny_compStart_list (loop _ rfl) (Wk.self 0 _ _ _ hst₁ (loop _ rfl))

theorem comp_invF {m : Str → Option Value} {elt iter : PySem.Expr} {x : Str} {px : Pos} {scope : Scope} {cl : List (Str × Addr)} {pos : Pos} (_F : Fr h₀ L s.heap m)
    (hclos : closureFor scope env = pure cl) (hcell : ∀ y ∈ scope.names, y.2 ≠ .cell) (hkind : scope.kind = .function)
    (hnames : ∀ y ∈ scope.names, y.2 = .local → scope.names.lookup y.1 = some .local) (hx : scope.names.lookup x = some .local)
    (h : wpAny (model prog w) A (eval iter env) (fun xv s₁ => wpAny (model prog w) A (pyIter xv) (fun it s₂ => CompAt prog w A h₀ env L scope cl x elt Q it s₂) E s₁) E s)
    (hs : ∀ x, foldedSetIterable iter env x = pure x := by intro _; rfl) :
    wpAny (model prog w) A (eval (.ListComp elt [⟨.Name x px, iter, [], 0⟩] scope pos) env) Q E s := comp_inv hclos hcell hkind hnames hx h hs

theorem comp_range {r : Addr} {a₀ b₀ : Int} {t₀ u₀ v₀ : Tok} {n : Nat} {m₀ : Str → Option Value} {news : Led} {scope : Scope} {cl : List (Str × Addr)} {x : Str} {elt : PySem.Expr} (J : Nat → List Value → Led → Prop)
    (hh : A.handled = none) (hr : IsRange s.heap r a₀ b₀ 1 t₀ u₀ v₀) (hsmall : Builtin.Range.small a₀ b₀ 1 = true) (hn : Builtin.Range.rangeSize a₀ b₀ 1 = (n : Int)) (hz : n ≤ 65536) (F : Fr h₀ L s.heap m₀) (N : News h₀ L s.heap news) (h0 : J 0 [] news)
    (step : ∀ i t ys news₁ h tk C D o oL nD mC I, i < n → J i ys news₁ → (∀ p ∈ news₁, p.1 ≠ I ∧ p.1 ≠ D ∧ p.1 ≠ L) → C ≠ L → Fr h₀ C h (fun y => if y = x then some (.int (a₀ + (i : Int)) t) else (mC : Str → Option Value) y) → News h₀ C h ((I, o) :: (D, W.listOf ys.toArray nD) :: (L, oL) :: news₁) →
      wpAny (model prog w) A (eval elt (compEnvC scope cl C env)) (CompTurn h₀ C { s with heap := h, toks := tk } I D L o (W.listOf ys.toArray nD) oL fun y n' => J (i + 1) (ys ++ [y]) n') (fun _ _ => False) { s with heap := h, toks := tk })
    (done : ∀ D h' tk ys nD news', J n ys news' → (∀ p ∈ news', p.1 ≠ D) → Fr h₀ L h' m₀ → News h₀ L h' ((D, W.listOf ys.toArray nD) :: news') → Q (.ref D) { s with heap := h', toks := tk }) :
    wpAny (model prog w) A (pyIter (.ref r)) (fun it s₂ => CompAt prog w A h₀ env L scope cl x elt Q it s₂) E s := by
  refine wpAny_pyIter_range hr hsmall ?_
  have Wk : Walks prog w A s.heap.objs.size [s.heap.objs.size] [s.heap.objs.size] n (fun i v => i < n ∧ ∃ t, v = .int (a₀ + i * 1) t)
      (fun i h => IsRangeIter h s.heap.objs.size (a₀ + (i : Nat) * 1) ((n : Int) - (i : Nat)) 1) := (Walks.range hh _ a₀ 1 n).bound
  refine ⟨s.heap.objs.size, "range_iterator", [s.heap.objs.size], n, _, _, m₀, news, J, rfl, Wk, fun b hb => .inl (by simpa using hb), next_is_new F, Nat.ne_of_gt F.ns.lt, fun i h st => ⟨_, st, rfl⟩,
    (by show IsRangeIter _ _ _ _ _; rw [hn]; simpa using Heap.get?_push_size _ rfl), (by rw [Heap.size_push]; exact Nat.lt_succ_self _), hz, F.push _, fun p hp => ⟨Heap.get?_push_of_some _ (N p hp).1, (N p hp).2⟩, fun p hp => Nat.ne_of_lt (Heap.lt_size (N p hp).1), h0, ?_, ?_⟩
  · rintro i v ys news₁ h tk C D o oL nD mC hi ⟨_, t, rfl⟩ _ hJ off hCL F₁ N₁
    rw [Int.mul_one] at F₁
    exact step i t ys news₁ h tk C D o oL nD mC _ hi hJ off hCL F₁ N₁
  · exact done

theorem comp_base {ax : Addr} {vs : List Value} {nn : Nat} {m₀ : Str → Option Value} {news : Led} {scope : Scope} {cl : List (Str × Addr)} {x : Str} {elt : PySem.Expr} (J : Nat → List Value → Led → Prop)
    (hh : A.handled = none) (hm : h₀.get? ax = some (W.listOf vs.toArray nn)) (hz : vs.length ≤ 65536) (F : Fr h₀ L s.heap m₀) (N : News h₀ L s.heap news) (h0 : J 0 [] news)
    (step : ∀ i v ys news₁ h tk C D o oL nD mC I, vs[i]? = some v → J i ys news₁ → (∀ p ∈ news₁, p.1 ≠ I ∧ p.1 ≠ D ∧ p.1 ≠ L) → C ≠ L → Fr h₀ C h (fun y => if y = x then some v else (mC : Str → Option Value) y) → News h₀ C h ((I, o) :: (D, W.listOf ys.toArray nD) :: (L, oL) :: news₁) →
      wpAny (model prog w) A (eval elt (compEnvC scope cl C env)) (CompTurn h₀ C { s with heap := h, toks := tk } I D L o (W.listOf ys.toArray nD) oL fun y n' => J (i + 1) (ys ++ [y]) n') (fun _ _ => False) { s with heap := h, toks := tk })
    (done : ∀ D h' tk ys nD news', J vs.length ys news' → (∀ p ∈ news', p.1 ≠ D) → Fr h₀ L h' m₀ → News h₀ L h' ((D, W.listOf ys.toArray nD) :: news') → Q (.ref D) { s with heap := h', toks := tk }) :
    wpAny (model prog w) A (pyIter (.ref ax)) (fun it s₂ => CompAt prog w A h₀ env L scope cl x elt Q it s₂) E s := by
  have hax : s.heap.get? ax = some (W.listOf vs.toArray nn) := F.keep _ _ hm
  have hl : s.heap.IsList ax vs.toArray := ⟨_, hax, rfl, nn, rfl⟩
  have hlt : ax < s.heap.objs.size := Heap.lt_size hax
  have hne : ax ≠ s.heap.objs.size := Nat.ne_of_lt hlt
  refine wpAny_pyIter_list hl ?_
  have Wk := Walks.list (prog := prog) (w := w) hh s.heap.objs.size ax hne vs.toArray
  have hlen : vs.toArray.size = vs.length := by simp
  rw [hlen] at Wk
  refine ⟨s.heap.objs.size, "list_iterator", _, vs.length, _, _, m₀, news, J, rfl, Wk, fun b hb => ?_, next_is_new F, Nat.ne_of_gt F.ns.lt, fun i h st => ?_,
    ⟨⟨_, Heap.get?_push_size _ rfl, rfl, rfl⟩, hl.at fun o e => Heap.get?_push_of_some _ e⟩, (by rw [Heap.size_push]; exact Nat.lt_succ_self _), hz, F.push _, fun p hp => ⟨Heap.get?_push_of_some _ (N p hp).1, (N p hp).2⟩, fun p hp => Nat.ne_of_lt (Heap.lt_size (N p hp).1), h0, ?_, done⟩
  · have hb' : b = s.heap.objs.size ∨ b = ax := by simpa using hb
    rcases hb' with e | e
    · exact .inl e
    · exact .inr ⟨_, by rw [e]; exact hm⟩
  · obtain ⟨it, hit, hic, _⟩ := st.1
    exact ⟨it, hit, hic⟩
  · intro i v ys news₁ h tk C D o oL nD mC hi hP _ hJ off hCL F₁ N₁
    exact step i v ys news₁ h tk C D o oL nD mC _ (by simpa using hP) hJ off hCL F₁ N₁
end

-- part B7
theorem call_defC {w : World} {H : Heap} {M : Led} {d u : Nat} {s : Shared} {vs : List Value} {P : Value → Led → Prop}
    {name qual : Str} {params : Arguments} {body : List Stmt} {scope : Scope} {dV kV doc pm cdv ct oc : Value} {an od : Option Addr} {osl : Array (Option Value)} {f : Addr} {binds : List (Str × Value)}
    (G : Gr w H) (hk : ∀ b o, H.get? b = some o → s.heap.get? b = some o) (hM : ∀ p ∈ M, s.heap.get? p.1 = some p.2 ∧ H.get? p.1 = none)
    (ho : (hd.heap_1 w.params).lookup f = some ⟨oc, od, .func (fnOf name qual params body scope dV kV doc pm an cdv ct), osl⟩) (hcd : codeIn (hd.heap_1 w.params) cdv qual = true)
    (hbind : BindsTo s (fnOf name qual params body scope dV kV doc pm an cdv ct) ⟨vs, []⟩ binds)
    (hkind : (binds.all fun y => scope.names.lookup y.1 == some .local || scope.names.lookup y.1 == some .cell) = true) (hnd : ((cellsFrom 0 scope.names []).map (·.1)).Nodup)
    (h : ∀ g L' h₁ tk cells A mean mg mb, Around.handled A = none → Around.depth A + d < recursionLimit → Around.units A + u < cLine → (hd.heap_1 w.params).In g → Top hd.view_1 (looseW hd.view_1 [Str.ofString "Piece"]) mean mg mb g →
      (∀ b o, b ∉ adr M → s.heap.get? b = some o → g.get? b = some o) → (∀ b o, g.get? b = some o → s.heap.get? b = some o) → (∀ p ∈ M, p.1 < L') →
      Fr g L' h₁ (bindL (envOfC qual scope L' f cdv).kindOf binds fun _ => none) → News g L' h₁ (cells ++ M) → CellsAre (bindC (envOfC qual scope L' f cdv).kindOf binds fun _ => none) (cellsFrom (L' + 1) scope.names []) cells →
      ∀ Z : Flow → Shared → Prop, (∀ fl s', Ends g L' s P fl s' → Z fl s') → wpAny (model PySem.Challenge.rw_nz0248_01.row.prog w) A (execs body (envOfC qual scope L' f cdv)) Z (fun _ _ => False) { s with heap := h₁, toks := tk })
    (hco : scope.isCoroutine = false := by rfl) (hgen : scope.isGenerator = false := by rfl) (hk' : scope.kind = .function := by rfl) : Call w M (d + 1) (u + 3) (.ref f) vs s P := by
  intro A Q E hA hd hu hQ
  have X := G.1
  obtain ⟨mean, mg, mb, T⟩ := G.2
  have st : ∀ b o, H.get? b = some o → (hideAll s.heap (adr M)).get? b = some o := fun b o e => hideAll_get _ (hk b o e) fun q => by
    obtain ⟨p, hp, rfl⟩ := List.mem_map.mp q
    rw [(hM p hp).2] at e; cases e
  refine wpAny_call (codeAny_call_function (fd := fnOf name qual params body scope dV kV doc pm an cdv ct) (by omega) (hk _ _ (X _ _ ho)) rfl hco hgen rfl ((codeRec_of X hcd).keeps hk) (hbind _ _ _ _ ?_))
  refine wpAny_newFunctionEnv_cells hk' (kindsX hkind _) fun env' he s' x => ?_
  subst he
  refine ⟨(T.nolimit.keeps hk).keeps x.toInCall.keep, codeAny_func ?_⟩
  obtain ⟨h₁, tk, rfl, _⟩ := x.done
  have hk₁ := x.toInCall.keep
  obtain ⟨cells, NC, Y⟩ := Cl.news (h₀ := s.heap) (Nat.le_refl _) fun n c hm => ⟨x.cell n c (lookup_of_mem_nodup (cellsFrom_names scope.names 0 (s.heap.objs.size + 1) [] [] rfl ▸ hnd) hm), x.above n c hm⟩
  have L := h (hideAll s.heap (adr M)) s.heap.objs.size h₁ tk cells (A.deeper (envOfC qual scope s.heap.objs.size f cdv)) mean mg mb hA (by show A.depth + 1 + d < _; omega) (by show A.units + 3 + u < _; omega) (X.keeps st) (T.keeps st)
    (fun b o hb e => hideAll_get _ e hb) (fun b o e => of_hideAll _ e) (fun p hp => Heap.lt_size (hM p hp).1) ⟨x.toInCall.ns, fun b o e => hk₁ b o (of_hideAll _ e), Nat.le_of_eq (hideAll_size _ _)⟩
    (fun p hp => by
      rcases List.mem_append.mp hp with hp | hp
      · refine ⟨(NC p hp).1, (NC p hp).2.1, ?_⟩
        cases q : (hideAll s.heap (adr M)).get? p.1 with
        | none => rfl
        | some o => have := of_hideAll _ q; rw [(NC p hp).2.2] at this; cases this
      · exact ⟨hk₁ _ _ (hM p hp).1, Nat.ne_of_lt (Heap.lt_size (hM p hp).1), hideAll_none _ (List.mem_map_of_mem hp)⟩) Y
  refine wpAny_mono (L _ fun _ _ y => y) (fun fl s' hl => ?_) fun _ _ y => y.elim
  obtain ⟨h', tk', m', news', rfl, F', N', p⟩ := hl
  refine hQ _ h' tk' news' ⟨fun b o hb e => F'.keep b o (hideAll_get _ e hb), fun p hp => (N' p hp).1, fun p hp => ?_, Nat.le_of_lt F'.ns.lt⟩ p
  by_cases q : p.1 ∈ adr M
  · exact .inl q
  · refine .inr ?_
    cases e : s.heap.get? p.1 with
    | none => rfl
    | some o => have := (N' p hp).2.2; rw [hideAll_get _ e q] at this; cases this

/- tuples -/
noncomputable abbrev tupO (its : List Value) : Obj := { cls := .type "tuple", data := .seq its.toArray }
noncomputable def Tups {α : Type} (V : α → List Value → Prop) (has : Addr → Obj → Prop) : List Value → List α → Prop
  | [], [] => True
  | v :: vs, x :: xs => (∃ a its, v = .ref a ∧ has a (tupO its) ∧ V x its) ∧ Tups V has vs xs
  | _, _ => False
section
variable {α : Type} {V : α → List Value → Prop} {has has' : Addr → Obj → Prop}
theorem Tups.mono (k : ∀ a o, has a o → has' a o) : ∀ {vs : List Value} {xs : List α}, Tups V has vs xs → Tups V has' vs xs
  | [], [], _ => trivial
  | _ :: _, _ :: _, ⟨⟨a, its, e, h, v⟩, r⟩ => ⟨⟨a, its, e, k _ _ h, v⟩, r.mono k⟩
  | [], _ :: _, h => (show False from h).elim
  | _ :: _, [], h => (show False from h).elim
theorem Tups.length : ∀ {vs : List Value} {xs : List α}, Tups V has vs xs → vs.length = xs.length
  | [], [], _ => rfl
  | _ :: _, _ :: _, ⟨_, r⟩ => by rw [List.length_cons, List.length_cons, r.length]
  | [], _ :: _, h => (show False from h).elim
  | _ :: _, [], h => (show False from h).elim
theorem Tups.append : ∀ {vs ws : List Value} {xs ys : List α}, Tups V has vs xs → Tups V has ws ys → Tups V has (vs ++ ws) (xs ++ ys)
  | [], _, [], _, _, h => h
  | _ :: _, _, _ :: _, _, ⟨a, r⟩, h => ⟨a, r.append h⟩
  | [], _, _ :: _, _, h, _ => (show False from h).elim
  | _ :: _, _, [], _, h, _ => (show False from h).elim
theorem Tups.one {a : Addr} {its : List Value} {x : α} (h : has a (tupO its)) (v : V x its) : Tups V has [.ref a] [x] := ⟨⟨a, its, rfl, h, v⟩, trivial⟩
theorem Tups.get : ∀ {vs : List Value} {xs : List α} {i : Nat} {v : Value}, Tups V has vs xs → vs[i]? = some v → ∃ x a its, xs[i]? = some x ∧ v = .ref a ∧ has a (tupO its) ∧ V x its
  | v :: _, x :: _, 0, _, ⟨⟨a, its, e, h, hv⟩, _⟩, q => by
    simp only [List.getElem?_cons_zero, Option.some.injEq] at q
    subst q
    exact ⟨x, a, its, rfl, e, h, hv⟩
  | _ :: _, _ :: _, i + 1, _, ⟨_, r⟩, q => by
    rw [List.getElem?_cons_succ] at q
    exact r.get q
  | [], [], _, _, _, q => nomatch q
  | [], _ :: _, _, _, h, _ => (show False from h).elim
  | _ :: _, [], _, _, h, _ => (show False from h).elim
end
noncomputable def TupOnly (tl : Led) : Prop := ∀ p ∈ tl, p.2.cls = .type "tuple"
theorem TupOnly.off {tl news : Led} {h₀ h : Heap} {L a : Addr} {o : Obj} (T : TupOnly tl) (N : News h₀ L h news) (hs : ∀ p ∈ tl, p ∈ news) (ha : (a, o) ∈ news) (hc : o.cls ≠ .type "tuple") : ∀ p ∈ tl, p.1 ≠ a := fun p hp e => by
  have h1 := (N p (hs p hp)).1
  rw [e, (N _ ha).1] at h1
  cases h1
  exact hc (T p hp)
theorem IsPool.cls {o : Obj} (h : IsPool o) : o.cls = .type "list" := by obtain ⟨_, _, _, _, _, rfl, _⟩ := h; rfl

theorem Call.mono {w : World} {M : Led} {d u : Nat} {f : Value} {vs : List Value} {s : Shared} {P P' : Value → Led → Prop} (C : Call w M d u f vs s P) (k : ∀ v n, P v n → P' v n) : Call w M d u f vs s P' :=
  fun A Q E a b c hQ => C A Q E a b c fun v h' tk' n g p => hQ v h' tk' n g (k _ _ p)
theorem pool_use {w : World} {g : Heap} {L : Addr} {s : Shared} {m : Str → Option Value} {news : Led} {G : Obj → Led} {src : Addr} {o : Obj} {A : Around} {Q E : Value → Shared → Prop} {d u : Nat} {f : Value} {vs : List Value} {R : Value → Prop}
    (F : Fr g L s.heap m) (N : News g L s.heap news) (U : UpdF src o news G) (C : s.heap.get? src = some o → g.get? src = none → Call w [(src, o)] d u f vs s fun v n => ∃ o', R v ∧ IsPool o' ∧ n = [(src, o')])
    (hA : A.handled = none) (hd : A.depth + d < recursionLimit) (hu : A.units + u < cLine)
    (hQ : ∀ v o' h' tk', Fr g L h' m → News g L h' (G o') → IsPool o' → R v → Q v { s with heap := h', toks := tk' }) :
    wpAny (model PySem.Challenge.rw_nz0248_01.row.prog w) A (PySem.call f vs) Q E s := by
  obtain ⟨own, rest, rfl, hg, h1, h2⟩ := U.split
  have hm : (src, o) ∈ own ++ (src, o) :: rest := by simp
  refine Call.use (rest := own ++ rest) (C (N _ hm).1 (N _ hm).2.2) F N hA hd hu (by simp) (fun p hp => ?_) fun v h' tk' news' F' N' _ hP => ?_
  · rcases List.mem_append.mp hp with q | q
    · exact ⟨List.mem_append_left _ q, by simpa [adr] using h1 p q⟩
    · exact ⟨List.mem_append_right _ (.tail _ q), by simpa [adr] using h2 p q⟩
  · obtain ⟨o', r, hp', rfl⟩ := hP
    refine hQ v o' h' tk' F' ?_ hp' r
    rw [hg]
    intro p hp
    apply N'
    simp only [List.mem_append, List.mem_cons, List.not_mem_nil, or_false] at hp ⊢
    rcases hp with q | q | q <;> simp [q]
theorem data_use {w : World} {g : Heap} {L : Addr} {s : Shared} {m : Str → Option Value} {news : Led} {G : Obj → Led} {src : Addr} {o : Obj} {A : Around} {Q E : Value → Shared → Prop} {mean mg mb}
    (X : (hd.heap_1 w.params).In g) (T : Top hd.view_1 (looseW hd.view_1 [Str.ofString "Piece"]) mean mg mb g) (F : Fr g L s.heap m) (N : News g L s.heap news) (U : UpdF src o news G) (hp : IsPool o)
    (hA : A.handled = none) (hd : A.depth + 5 < recursionLimit) (hu : A.units + 50 < cLine)
    (hQ : ∀ b t o' h' tk' n, Fr g L h' m → News g L h' (G o') → n ≤ 4 → IsData n b → IsPool o' → Q (.bytes (List.toArray b) t) { s with heap := h', toks := tk' }) :
    wpAny (model PySem.Challenge.rw_nz0248_01.row.prog w) A (PySem.call (.ref 244) [.ref src]) Q E s := by
  refine pool_use (R := fun v => ∃ b t n, v = .bytes (List.toArray b) t ∧ n ≤ 4 ∧ IsData n b) F N U (fun a b => (data_call ⟨X, _, _, _, T⟩ F.keep a b hp).mono ?_) hA hd hu ?_
  · rintro v n ⟨b, t, o', k, e1, e2, e3, e4, e5⟩
    exact ⟨o', ⟨b, t, k, e1, e2, e3⟩, e4, e5⟩
  · rintro v o' h' tk' F' N' p ⟨b, t, n, rfl, e2, e3⟩
    exact hQ b t o' h' tk' n F' N' e2 e3 p

structure Row where
  code : Nat
  pay : List UInt8
  dat : List UInt8
noncomputable def RowV (r : Row) (its : List Value) : Prop := ∃ t1 t2 t3, its = [.int (r.code : Int) t1, .bytes r.pay.toArray t2, .bytes r.dat.toArray t3]
structure GoodRow (r : Row) : Prop where
  code : r.code = 254 ∨ r.code = 224 ∨ r.code = 219 ∨ r.code = 218 ∨ r.code = 1
  pay : r.pay.length ≤ 3
  bare : r.code = 1 → r.pay = []
  data : ∃ n, n ≤ 4 ∧ IsData n r.dat
  none : r.code ≠ 218 → r.dat = []
noncomputable def GoodRows (rows : List Row) : Prop := ∃ mid, rows = ⟨216, [], []⟩ :: (mid ++ [⟨217, [], []⟩]) ∧ mid.length ≤ 5 ∧ ∀ r ∈ mid, GoodRow r

-- part B5
section
open Sem (wp)

/-- the codes that `exported` may meet -/
noncomputable def badIds : List String := ["bytearray.__contains__", "bytearray.__mod__", "bytearray.__rmod__", "_struct.pack_into.held", "bytearray.find.held"] ++ Builtin.Bytes.decodersThatHold
noncomputable def okCode : Code → Bool
  | .builtin id _ => !badIds.contains id
  | _ => true
noncomputable def Fine (l : List (Code × Pos)) : Prop := ∀ x ∈ l, okCode x.1 = true

noncomputable def wpF {α : Type} (M : Model) (A : Around) (t : Sem α) (Q : α → Shared → Prop) (E : Value → Shared → Prop) (s : Shared) : Prop :=
  ∀ Γ p, Γ.In A → (∀ q, Fine ((Γ.code, q) :: Γ.below)) → wp M Γ t (fun a _ s' => Q a s') (fun e _ s' => E e s') p s
noncomputable def codeF (M : Model) (A : Around) (c : Code) (R : Result → Shared → Prop) (s : Shared) : Prop :=
  ∀ Γ p, Γ.code = c → Γ.Below A → Fine Γ.below → wpCode M Γ R p s

section
variable {α β : Type} {M : Model} {A : Around} {E : Value → Shared → Prop} {s : Shared}
theorem wpF.of {t : Sem α} {Q : α → Shared → Prop} (h : wpAny M A t Q E s) : wpF M A t Q E s := fun Γ p i _ => h Γ p i
theorem codeF.of {c : Code} {R : Result → Shared → Prop} (h : codeAny M A c R s) : codeF M A c R s := fun Γ p a b _ => h Γ p a b
theorem wpF_pure {a : α} {Q : α → Shared → Prop} (h : Q a s) : wpF M A (pure a) Q E s := .of (wpAny_pure h)
theorem wpF_mono {t : Sem α} {Q Q' : α → Shared → Prop} {E' : Value → Shared → Prop} (h : wpF M A t Q E s) (hQ : ∀ a s, Q a s → Q' a s) (hE : ∀ e s, E e s → E' e s) : wpF M A t Q' E' s :=
  fun Γ p i f => Sem.wp_mono M Γ t (fun a _ s => hQ a s) (fun e _ s => hE e s) p s (h Γ p i f)
theorem wpF_bind {m : Sem α} {f : α → Sem β} {Q : β → Shared → Prop} (h : wpF M A m (fun a s' => wpF M A (f a) Q E s') E s) : wpF M A (m >>= f) Q E s := fun Γ p i g => by
  rw [Sem.wp_bind']
  exact Sem.wp_mono M Γ m (fun a p' s' h' => h' Γ p' i g) (fun _ _ _ h' => h') p s (h Γ p i g)
theorem wpF_bindA {m : Sem α} {f : α → Sem β} {Q : β → Shared → Prop} (h : wpAny M A m (fun a s' => wpF M A (f a) Q E s') E s) : wpF M A (m >>= f) Q E s := wpF_bind (.of h)
theorem wpF_holding {vs : List Value} {m : Sem α} {Q : α → Shared → Prop} (h : wpF M A m Q E s) : wpF M A (holding vs m) Q E s := fun Γ p i f => by rw [Sem.wp_holding]; exact h Γ p i f
theorem wpF_keep {vs : List Value} {m : Sem α} {Q : α → Shared → Prop} (h : wpF M A m Q E s) : wpF M A (m.keep vs) Q E s := fun Γ p i f => by rw [Sem.wp_keep]; exact h Γ p i f
theorem wpF_onRaise {m : Sem α} {k : Value → Sem Unit} {Q : α → Shared → Prop} (h : wpF M A m Q (fun e s' => wpF M A (k e) (fun _ s'' => E e s'') E s') s) : wpF M A (m.onRaise k) Q E s := fun Γ p i f => by
  rw [Sem.wp_onRaise]
  exact Sem.wp_mono M Γ m (fun _ _ _ h' => h') (fun e p' s' h' => h' Γ p' i f) p s (h Γ p i f)
theorem wpF_eq {t t' : Sem α} {Q : α → Shared → Prop} (e : t = t') (h : wpF M A t' Q E s) : wpF M A t Q E s := e ▸ h

theorem codeF_mono {c : Code} {R R' : Result → Shared → Prop} (h : codeF M A c R s) (hR : ∀ r s, R r s → R' r s) : codeF M A c R' s := fun Γ p a b f => wpCode_mono hR (h Γ p a b f)
theorem codeF_tree {c : Code} {R : Result → Shared → Prop} (ok : okCode c = true)
    (h : wpF M (A.under c) (M.den c) (fun fin s' => match fin with | .done f => R (.ok f) s' | .again c' => c'.quiet = true ∧ codeF M A c' R s') (fun e s' => R (.error e) s') s) : codeF M A c R s := fun Γ p hc hΓ hf => by
  rw [wpCode_iff_wp, hc]
  have fine : ∀ q, Fine ((Γ.code, q) :: Γ.below) := fun q x hx => by
    rcases List.mem_cons.mp hx with rfl | hx
    · show okCode Γ.code = true; rw [hc]; exact ok
    · exact hf x hx
  refine Sem.wp_mono M Γ _ (fun fin p' s' h' => ?_) (fun _ _ _ h' => h') p s (h Γ p (hc ▸ hΓ.in) fine)
  cases fin with
  | done f => exact h'
  | again c' => exact ⟨h'.1, h'.2 (Γ.goto c') p' rfl (hΓ.goto c') hf⟩
theorem wpF_run {c : Code} {h : Option Value} {Q : Flow → Shared → Prop}
    (hc : codeF M (A.mark h) c (fun r s' => match r with | .ok f => Q f s' | .error e => E e s') s) (hnb : h ≠ some byPass := by intro x; cases x) : wpF M A (run c h) Q E s :=
  fun Γ p i f => by rw [Sem.wp_run]; exact hc _ p rfl (i.enter c h p hnb) (f p)
theorem wpF_runValue {c : Code} {Q : Value → Shared → Prop}
    (hc : codeF M A c (fun r s' => match r with | .ok (.ret v) => Q v s' | .ok _ => False | .error e => E e s') s) : wpF M A (runValue c) Q E s :=
  fun Γ p i f => by rw [Sem.wp_runValue]; exact hc _ p rfl (i.enter c none p (by intro x; cases x)) (f p)
theorem wpF_call {f : Value} {pos : List Value} {kw : List (Str × Value)} {Q : Value → Shared → Prop}
    (hc : codeF M A (.call f ⟨pos, kw⟩) (fun r s' => match r with | .ok (.ret v) => Q v s' | .ok _ => False | .error e => E e s') s) : wpF M A (call f pos kw) Q E s := wpF_runValue hc
end

/- the head -/
theorem caller_fine : ∀ q, Fine ((Code.builtin "claim.caller" {}, q) :: []) := fun q x hx => by
  rw [List.mem_singleton.mp hx]; show okCode (Code.builtin "claim.caller" {}) = true; decide +kernel

theorem thread_ends_F {prog : Program} {w : World} {t : Sem Fin} {s : Shared} {R : Result → Shared → Prop} (hreg : s.asleep)
    (h : wpF (model prog w) callerA t (fun fin s' => ∃ f, fin = .done f ∧ (R (.ok f) s' ∧ leftWithCleanup s'.gens = false)) (fun e s' => R (.error e) s' ∧ leftWithCleanup s'.gens = false) s) :
    ∃ n r s' s'', runN (denote table) prog w n s ⟨t, .builtin "claim.caller" {}, default, []⟩ = .halted (outcomeOf r) s' ∧
      schedN (denote table) prog w n (.single s ⟨t, .builtin "claim.caller" {}, default, []⟩) = .halted (outcomeOf r) s' ∧ s'.forget = s''.forget ∧ R r s'' := by
  have h' : wp (model prog w) ⟨.builtin "claim.caller" {}, none, none, [], none⟩ t
      (Sem.finPost (model prog w) ⟨.builtin "claim.caller" {}, none, none, [], none⟩ fun r s' => R r s' ∧ leftWithCleanup s'.gens = false)
      (fun e _ s' => (R (.error e) s' ∧ leftWithCleanup s'.gens = false)) default s := by
    refine Sem.wp_mono _ _ t (fun fin p' s' h' => ?_) (fun _ _ _ h' => h') default s (h _ default caller_in caller_fine)
    obtain ⟨f, rfl, hf⟩ := h'
    exact hf
  obtain ⟨n, r, s₁, s₂, hs, hn, hfo, hR⟩ := wp_halts_full (M := model prog w) (R := R) hreg h'
  exact ⟨n, r, s₂, s₁, hn, hs, hfo, hR⟩

theorem e2_2 {α1 α2 : Type} {P1 P2 : α1 → α2 → Prop} {G : Prop} (h : ∃ a1 a2, P1 a1 a2 ∧ P2 a1 a2) (k : ∀ a1 a2, P1 a1 a2 → P2 a1 a2 → G) : G :=
  h.elim fun a1 h => h.elim fun a2 h => k a1 a2 h.1 h.2
theorem e4_6 {α1 α2 α3 α4 : Type} {P1 P2 P3 P4 P5 P6 : α1 → α2 → α3 → α4 → Prop} {G : Prop} (h : ∃ a1 a2 a3 a4, P1 a1 a2 a3 a4 ∧ P2 a1 a2 a3 a4 ∧ P3 a1 a2 a3 a4 ∧ P4 a1 a2 a3 a4 ∧ P5 a1 a2 a3 a4 ∧ P6 a1 a2 a3 a4) (k : ∀ a1 a2 a3 a4, P1 a1 a2 a3 a4 → P2 a1 a2 a3 a4 → P3 a1 a2 a3 a4 → P4 a1 a2 a3 a4 → P5 a1 a2 a3 a4 → P6 a1 a2 a3 a4 → G) : G :=
  h.elim fun a1 h => h.elim fun a2 h => h.elim fun a3 h => h.elim fun a4 h => k a1 a2 a3 a4 h.1 h.2.1 h.2.2.1 h.2.2.2.1 h.2.2.2.2.1 h.2.2.2.2.2
theorem callFrom_F {c : ClaimW} {tree : List Value → Sem Fin} {w : World} {s : Shared} {free : Addr → Prop} {gens : Prop} {kept : Heap → Prop} (hz : s.asleep) (hgens : s.gens = #[])
    (hspec : ∀ args, c.pre args = true → WData.layableAll args = true → ∀ ord : List DictEntry → List DictEntry, (∀ l, (ord l).Perm l) →
      ∃ vs s₁, layAllW c.records (classAt s.heap) w.params ord args s = some (vs, s₁) ∧
        wpF (model c.prog w) callerA (tree vs) (fun fin s' => ∃ f, fin = .done f ∧ (c.Ends s args vs s₁ (.ok f) s' ∧ s'.os = s.os ∧ AllBare s'.gens ∧ kept s'.heap))
          (fun e s' => c.Ends s args vs s₁ (.error e) s' ∧ s'.os = s.os ∧ AllBare s'.gens ∧ kept s'.heap) s₁) :
    c.CallFrom (fun vs => ⟨tree vs, .builtin "claim.caller" {}, default, []⟩) w free gens kept s := by
  intro args hpre hlay ord hord
  refine e2_2 (hspec args hpre hlay ord hord) ?_; rintro vs s₁ hlaid hcode
  have hal := layAllW_rest _ _ _ hlaid
  refine e4_6 (thread_ends_F (prog := c.prog) (w := w) (t := tree vs) (s := s₁)
    (R := fun r s' => c.Ends s args vs s₁ r s' ∧ s'.os = s.os ∧ kept s'.heap) (Shared.asleep_of_life hal.2.2.2 hz)
    (wpF_mono hcode (fun _ _ ⟨f, e, h1, h2, h3, h4⟩ => ⟨f, e, ⟨h1, h2, h4⟩, leftWithCleanup_false_of_bare h3⟩) fun _ _ ⟨h1, h2, h3, h4⟩ => ⟨⟨h1, h2, h4⟩, leftWithCleanup_false_of_bare h3⟩)) ?_
  rintro k r s' s'' hrun hsched hfo hcase hos hkp
  have eh := (Shared.forget_eq hfo).1
  have eo := (Shared.forget_eq hfo).2.2.2.1
  have hcase := hcase.congr eh
  rw [← eh] at hkp
  rw [← eo] at hos
  refine ⟨vs, s₁, hlaid, k, _, s', hsched, ?_, (fun _ i x hx => by rw [hgens] at hx; simp at hx), hkp, by rw [(runN_life _ _ _ hrun).trans hal.2.2.2], Shared.rest_eq hos⟩
  rcases hcase with ⟨v, rfl, d1, d2, d3, d4, d5⟩ | ⟨e, ob, cls, rfl, d1, d2, d3, d4, d5⟩
  · exact .inl ⟨v, rfl, d1, d2, d3, fun b o y _ => d4 b o y, d5⟩
  · exact .inr ⟨e, ob, cls, rfl, d1, d2, d3, d4, fun b o y _ => d5 b o y⟩

/-- what is left to show of the law's call, in every fine context -/
noncomputable def WalkF (q : Program) (loose : List Str) (XP : (Str → Option Value) → Heap → Prop) (YP : World → Heap → Prop) (r : RowW) (d : DefRec) (kwd : List (Str × Expr)) : Prop :=
  ∀ (w : World) (s₀ s₁ : Shared) (mg mb : Str → Option Value), Ground q loose r.records XP w s₀ mg mb s₁.heap → YP w s₁.heap → ∀ (a : Addr) (o : Obj) (pm cd doc dV kV : Value), s₁.heap.get? a = some o →
    o.data = .func { docDef d.name d.params d.body d.scope pm cd doc with defaults := dV, kwdefaults := kV } → s₁.heap.CodeRec cd d.name → Dflts mg s₁.heap d.params kwd dV kV → mg d.name = some (.ref a) → s₁.gens = #[] →
    ∀ (args : List WData) (vals : List Value) (as : List Addr), r.claim.pre args = true → WData.layableAll args = true → ReadsAllW r.records (classAt s₀.heap) s₁.heap vals args as → WellAll w.params s₁.heap vals args → (∀ a ∈ as, (a == sysModules) = false) →
      wpF (model r.prog w) callerA (PySem.call (.ref a) vals) (fun v s' => GoodWG r.claim (classAt s₀.heap) (ExcName.means s₀.heap) args s₁ (.ok (.ret v)) s')
        (fun e s' => GoodWG r.claim (classAt s₀.heap) (ExcName.means s₀.heap) args s₁ (.error e) s') s₁

theorem holds_F {r : OpenRow} {q : Program} {loose : List Str} {Xt : Shared → Bool} {XP : (Str → Option Value) → Heap → Prop} {α : Type} {Yf : Shared → α} {Ya : World → α} {YP : World → Heap → Prop} {d : DefRec} {kwd : List (Str × Expr)} {N : Nat}
    (left : LeftO r.prog q loose Xt Yf Ya N) (hY : ∀ w s, Yf s = Ya w → YP w s.heap) (hYk : ∀ w h h', YP w h → (∀ b o, h.get? b = some o → h'.get? b = some o) → YP w h')
    (hX : ∀ s, Xt s = true → XP (s.heap.nsMap mainGlobals) s.heap) (hXk : ∀ mg h h', XP mg h → (∀ b o, h.get? b = some o → h'.get? b = some o) → XP mg h')
    (hdef : defOf q r.name = some (d, kwd)) (hp : r.prog.theDef r.name = some (d.params, d.body, d.scope)) (hk : kwWritten? d.params.kwonlyargs d.params.kw_defaults = some kwd) (hRf : ∀ s, Xt s = true → RecFacts r.records s.heap) (hwr : (!r.writes || r.records.isEmpty) = true)
    (k1 : r.wellSaid = true) (ok : (chainsOk q && opensWell r.prog && (frees r.toRowW && r.within.isEmpty)) = true) (hb : r.prog.bare) (hw : r.toRowW.promised)
    (call : WalkF q loose XP YP r.toRowW d kwd) : r.Holds := by
  refine ⟨k1, hw, ?_⟩
  obtain ⟨ok, k5⟩ := Bool.and_eq_true_iff.mp ok
  obtain ⟨hch, o1⟩ := Bool.and_eq_true_iff.mp ok
  obtain ⟨k5, k6⟩ := Bool.and_eq_true_iff.mp k5
  obtain ⟨hsame, hu, ha, hap, hm⟩ := frees_parts k5
  refine ⟨⟨hb, o1, by show r.makers.map _ = []; rw [hm]; rfl⟩, hw.witness, fun w => ⟨(left.behind hX hch w).1, fun s' hs' => ?_⟩⟩
  obtain ⟨s₀, hf, hg0, s, hT, hz, hgens, hg, G00, y⟩ := (left.behind (XP := fun mg h => XP mg h ∧ RecFacts r.records h) (fun s hs => ⟨hX s hs, hRf s hs⟩) hch w).2 s' hs'
  have G0 : Ground q loose [] XP w s (s.heap.nsMap mainGlobals) (s.heap.nsMap builtinsNs) s.heap := ⟨G00.T, G00.B, G00.D, G00.TE, G00.TD, G00.W, G00.X.1, G00.cls, G00.has, G00.apart, G00.once, G00.K⟩
  have RF := G00.X.2
  refine ⟨s₀, hf, hg0, s, hT, fun n hn => ?_, RF.1, RF.2.1, ?_⟩
  · obtain rfl : n = r.name := by split at hn <;> simp_all
    exact pinned_of_view hg G0 hdef hp hk
  have hgens : s.gens = #[] := Array.eq_empty_of_size_eq_zero (beq_iff_eq.mp hgens)
  have G : Ground q loose r.records XP w s _ _ s.heap := RF.ground G0
  refine callFrom_F (c := r.toRowW.claim) (tree := fun vs => do match ← nsGet mainNs r.name with
      | some f => do ret (← PySem.call f vs)
      | none => unsupported "claim.caller:no-such-global") hz hgens fun args hpre hlay ord hord => ?_
  obtain ⟨⟨vs, s₁⟩, hlaid⟩ := Option.isSome_iff_exists.mp (layAllW_isSome (P := w.params) (ord := ord) G.has args r.args s (pre_splitW hpre).1)
  have keeps := layAllW_keeps _ _ _ hlaid
  have hal := layAllW_rest _ _ _ hlaid
  obtain ⟨as, hrd, hin, hold⟩ := reads_layAllW hord _ _ _ hlaid hlay s₁.heap (fun _ _ e => e)
  have L : Laid r.records w s s₁ args vs as := ⟨⟨ord, hord, hlaid⟩, hrd, hin, hold, keeps, hal.1.trans hgens, hal.2.2.1⟩
  have G₁ := G.keeps hXk keeps
  obtain ⟨a, o, pm, cd, doc, dV, kV, h1, h2, h3, h4, h5⟩ := G₁.fn hdef
  have h := call w s s₁ _ _ G₁ (hYk _ _ _ (hY w s y) keeps) a o pm cd doc dV kV h2 h3 h4 h5 (defOf_name hdef ▸ h1) L.gens args vs as hpre hlay L.reads L.well (L.low G.low)
  have hi := ident_freeW hu ha hap
  have hwi : r.toRowW.claim.within = [] := List.isEmpty_iff.mp k6
  refine ⟨vs, s₁, hlaid, wpF_bindA (wpAny_nsGet G₁.T.g ?_)⟩
  rw [h1]
  refine wpF_bind (wpF_mono h (fun v s' g => wpF_pure ⟨_, rfl, ?_⟩) fun e s' g => ?_)
  · have z := g.laid (c := r.toRowW.claim) hsame hwi hi L
    exact ⟨z.1, z.2.1, z.2.2, fun q => ⟨namesKept_of hT hg _ keeps g.2.1.old, noTable hwr q⟩⟩
  · have z := g.laid (c := r.toRowW.claim) hsame hwi hi L
    exact ⟨z.1, z.2.1, z.2.2, fun q => ⟨namesKept_of hT hg _ keeps g.2.1.old, noTable hwr q⟩⟩
end

-- part C4
local macro_rules | `(tactic| walk_at "call ref") => `(tactic| (
  k_here; (with_reducible show wpAny _ _ (PySem.call (Value.ref 91) [Value.int _ _]) _ _ _);
  (with_unfolding_all refine' Call.pure (restart_call ⟨?X, _, _, _, ?T⟩ ?K) ?F ?N ?A ?d ?u ?_); (case X => k_asm); (case T => k_asm); (case K => exact Fr.keep (by assumption)); (case F => k_asm); (case N => k_asm); (case A => first | assumption | exact rfl); (case d => walk_at "my room"); (case u => walk_at "my room");
  k_whole; intro v' h' tk' F' N' e'; subst e'; (try k_sweep)))
local macro_rules | `(tactic| walk_at "call ref") => `(tactic| (
  k_here; (with_reducible show wpAny _ _ (PySem.call (Value.ref 98) [Value.int _ _]) _ _ _);
  (with_unfolding_all refine' Call.pure (haslen_call ⟨?X, _, _, _, ?T⟩ ?K) ?F ?N ?A ?d ?u ?_); (case X => k_asm); (case T => k_asm); (case K => exact Fr.keep (by assumption)); (case F => k_asm); (case N => k_asm); (case A => first | assumption | exact rfl); (case d => walk_at "my room"); (case u => walk_at "my room");
  k_whole; intro v' h' tk' F' N' e'; subst e'; (try k_sweep)))
local macro_rules | `(tactic| walk_at "call ref") => `(tactic| (
  k_here; (with_reducible show wpAny _ _ (PySem.call (Value.ref 84) [Value.int _ _]) _ _ _);
  (with_unfolding_all refine' Call.pure (word_call ⟨?X, _, _, _, ?T⟩ ?K ?z ?o) ?F ?N ?A ?d ?u ?_); (case X => k_asm); (case T => k_asm); (case K => exact Fr.keep (by assumption)); (case F => k_asm); (case N => k_asm); (case A => first | assumption | exact rfl); (case d => walk_at "my room"); (case u => walk_at "my room"); (case z => omega); (case o => omega);
  k_whole; intro v' h' tk' F' N' e'; obtain ⟨t', e'⟩ := e'; subst e'; (try k_sweep)))
local macro_rules | `(tactic| walk_at "call ref") => `(tactic| (
  k_here; (with_reducible show wpAny _ _ (PySem.call (Value.ref 244) [Value.ref _]) _ _ _);
  (with_unfolding_all refine' data_use ?X ?T ?F ?N ?U ?p ?A ?d ?u ?_); (case X => k_asm); (case T => k_asm); (case F => k_asm); (case N => k_asm); (case U => k_updF); (case p => k_asm); (case A => first | assumption | exact rfl); (case d => walk_at "my room"); (case u => walk_at "my room");
  k_whole; intro b' t' o' h' tk' n' F' N' n4' hb' p'; (try dsimp only at N'); (try k_sweep)))
local macro_rules | `(tactic| walk_at "eval ListComp") => `(tactic| (k_here; (rename Fr _ _ _ _ => lF'); k_dflt (refine' comp_invF lF' ?clos ?cell ?kind ?names ?x ?_; (case clos => with_unfolding_all rfl); (case cell => decide); (case kind => exact rfl); (case names => decide); (case x => exact rfl); k_whole)))
theorem news_c {h₀ h : Heap} {L : Addr} {all l : Led} {p : Addr × Obj} (N : News h₀ L h all) (hm : p ∈ all) (M : News h₀ L h l) : News h₀ L h (p :: l) := fun q hq => by
  rcases List.mem_cons.mp hq with rfl | hq
  · exact N _ hm
  · exact M q hq
theorem news_t {h₀ h : Heap} {L : Addr} {all l : Led} (N : News h₀ L h all) (hs : ∀ p ∈ l, p ∈ all) : News h₀ L h l := fun q hq => N q (hs q hq)
theorem menuC {d : Int} {t1 t2 t3 t4 t5 t6 : Tok} (h0 : 0 ≤ d) (h1 : d < 6) : ∃ (c : Nat) (t : Tok), [Value.int 254 t1, .int 224 t2, .int 219 t3, .int 218 t4, .int 218 t5, .int 1 t6][d.toNat]? = some (.int (c : Int) t) ∧ (c = 254 ∨ c = 224 ∨ c = 219 ∨ c = 218 ∨ c = 1) := by
  have : d = 0 ∨ d = 1 ∨ d = 2 ∨ d = 3 ∨ d = 4 ∨ d = 5 := by omega
  rcases this with rfl | rfl | rfl | rfl | rfl | rfl
  · exact ⟨254, _, rfl, by simp⟩
  · exact ⟨224, _, rfl, by simp⟩
  · exact ⟨219, _, rfl, by simp⟩
  · exact ⟨218, _, rfl, by simp⟩
  · exact ⟨218, _, rfl, by simp⟩
  · exact ⟨1, _, rfl, by simp⟩
theorem menuB {d : Int} {t1 t2 t3 t4 : Tok} (h0 : 0 ≤ d) (h1 : d < 4) : ∃ (c : Int) (t : Tok), [Value.int 255 t1, .int 0 t2, .int 217 t3, .int 3 t4][d.toNat]? = some (.int c t) ∧ 0 ≤ c ∧ c < 256 := by
  have : d = 0 ∨ d = 1 ∨ d = 2 ∨ d = 3 := by omega
  rcases this with rfl | rfl | rfl | rfl
  · exact ⟨255, _, rfl, by simp⟩
  · exact ⟨0, _, rfl, by simp⟩
  · exact ⟨217, _, rfl, by simp⟩
  · exact ⟨3, _, rfl, by simp⟩
theorem ints_snoc {ys : List Value} {ns : List Int} {c : Int} {t : Tok} (h : IntsAre ys ns) : IntsAre (ys ++ [.int c t]) (ns ++ [c]) := by
  induction h with
  | nil => exact IntsAre.cons _ _ IntsAre.nil
  | cons _ _ _ ih => exact IntsAre.cons _ _ ih
section
variable {prog : Program} {w : World} {A : Around} {E : Value → Shared → Prop} {s : Shared} {h₀ : Heap} {L : Addr} {m : Str → Option Value} {news : Led} {Q : Value → Shared → Prop}
theorem append_l {D : Addr} {vs : List Value} {n : Nat} {x : Value} {G : Obj → Led} (F : Fr h₀ L s.heap m) (N : News h₀ L s.heap news) (U : UpdF D (W.listOf vs.toArray n) news G) (hz : vs.length ≤ 65536)
    (h : ∀ h' n', Fr h₀ L h' m → News h₀ L h' (G (W.listOf (vs ++ [x]).toArray n')) → Q .none { s with heap := h' }) : wpAny (model prog w) A (call (.builtin "list.append") [.ref D, x]) Q E s := by
  obtain ⟨pre, post, rfl, hg, a, b⟩ := U.split
  have z := N (D, W.listOf vs.toArray n) (List.mem_append.mpr (.inr (.head _)))
  refine append_at (hsz := by rw [List.size_toArray, sizeLine_eq]; omega) z.1 fun h' hs ho' => h h' (n + 1) (F.change hs z.2.1 z.2.2) ?_
  rw [hg, ← List.push_toArray]
  exact news_set N a b hs ho'
end
local macro_rules | `(tactic| walk_at "call builtin:list.append") => `(tactic| (k_here; (try dsimp only [List.append, List.cons_append, List.nil_append]); k_dflt (refine' append_l (vs := _) ?F ?N ?U ?z ?_; (case F => k_asm); (case N => k_asm); (case U => k_updF); (case z => walk_at "my len"); k_whole); intro h' n' F' N'; (try dsimp only at N'); (try k_sweep)))
noncomputable def RowsJ (L' src : Addr) (co : Obj) (i : Nat) (m : Str → Option Value) (news : Led) : Prop := ∃ l o vs n tl mid, AllB m [("rows", .ref l)] ∧ news = (l, W.listOf (List.toArray vs) n) :: (L' + 1, co) :: (src, o) :: tl ∧ @LT.lt Nat _ (L' + 1) l ∧ IsPool o ∧ TupOnly tl ∧ Tups RowV (fun a o => (a, o) ∈ tl) vs (⟨216, [], []⟩ :: mid) ∧ mid.length = i ∧ ∀ r ∈ mid, GoodRow r
theorem rows_turn {g : Heap} {L' L2 src l I D D2 : Addr} {co o it : Obj} {i nD n' : Nat} {vs ys its : List Value} {tl : Led} {mid : List Row} {r : Row} {s₁ : Shared} {h : Heap} {tk : Nat} {m : Str → Option Value} {Q : Flow → Shared → Prop}
    (hl : @LT.lt Nat _ (L' + 1) l) (q1 : @Ne Nat l I) (q2 : @Ne Nat (L' + 1) I) (q3 : @Ne Nat src I) (q4 : ∀ p ∈ tl, p.1 ≠ I) (hpo : IsPool o) (hto : TupOnly tl) (htu : Tups RowV (fun a o => (a, o) ∈ tl) vs (⟨216, [], []⟩ :: mid)) (hlen : mid.length = i) (hgood : ∀ r ∈ mid, GoodRow r)
    (hr : GoodRow r) (hv : RowV r its) (hID : @LT.lt Nat _ I D2) (hm : m "rows" = some (.ref l)) (F : Fr g L2 h m) (N : News g L2 h ((D2, tupO its) :: (D, W.listOf ys.toArray nD) :: (I, it) :: (l, W.listOf (List.toArray (vs ++ [.ref D2])) n') :: (L' + 1, co) :: (src, o) :: tl)) :
    Turn g L2 s₁ I it (fun m' n' => SubL [] n' ∧ RowsJ L' src co (i + 1) m' n') Q .next { s₁ with heap := h, toks := tk } := by
  refine Turn.next (news' := (l, W.listOf (List.toArray (vs ++ [.ref D2])) n') :: (L' + 1, co) :: (src, o) :: (D2, tupO its) :: tl) F (news_c N (by k_mem) (news_c N (by k_mem) (news_c N (by k_mem) (news_c N (by k_mem) (news_c N (by k_mem) (news_t N (by walk_at "my tl"))))))) ?_ ⟨trivial, l, o, _, _, (D2, tupO its) :: tl, mid ++ [r], ⟨hm, trivial⟩, rfl, hl, hpo, ?_, ?_, by simp [hlen], ?_⟩
  · intro p hp
    simp only [List.mem_cons] at hp
    rcases hp with rfl | rfl | rfl | rfl | hp
    · exact q1
    · exact q2
    · exact q3
    · exact Nat.ne_of_gt hID
    · exact q4 p hp
  · intro p hp
    rcases List.mem_cons.mp hp with rfl | hp
    · rfl
    · exact hto p hp
  · have := Tups.append (V := RowV) (has := fun a o => (a, o) ∈ (D2, tupO its) :: tl) (htu.mono fun a o h => List.mem_cons_of_mem _ h) (Tups.one (x := r) (List.mem_cons_self ..) hv)
    simpa using this
  · intro x hx
    rcases List.mem_append.mp hx with hx | hx
    · exact hgood x hx
    · rw [List.mem_singleton.mp hx]; exact hr
theorem bytes_2 {prog : Program} {w : World} {A : Around} {E : Value → Shared → Prop} {s : Shared} {h₀ : Heap} {L : Addr} {m : Str → Option Value} {news : Led} {Q : Value → Shared → Prop} {l : Addr} {a b : Int} {ta tb : Tok} {n : Nat} (F : Fr h₀ L s.heap m) (N : News h₀ L s.heap news) (hm : (l, W.listOf #[.int a ta, .int b tb] n) ∈ news) (ha : 0 ≤ a ∧ a < 256) (hb : 0 ≤ b ∧ b < 256) (hh : A.handled = none)
    (h : ∀ h' t k, Fr h₀ L h' m → News h₀ L h' news → Q (.bytes [a.toNat.toUInt8, b.toNat.toUInt8].toArray t) { s with heap := h', toks := k }) : wpAny (model prog w) A (call (.type "bytes") [.ref l]) Q E s :=
  bytes_l (vs := [.int a ta, .int b tb]) (ns := [a, b]) F N hm (.cons _ _ (.cons _ _ .nil)) (by simp; omega) (by simp) hh h
theorem no_mem {P : Addr × Obj → Prop} : ∀ p ∈ ([] : Led), P p := fun _ h => nomatch h
theorem ints_bytes {ns : List Int} : (ns.map fun n => n.toNat.toUInt8).length = ns.length := List.length_map ..
set_option maxHeartbeats 1000000 in
theorem rows_call {w : World} {H : Heap} {s : Shared} {src : Addr} {o : Obj}
    (G : Gr w H) (hk : ∀ b o, H.get? b = some o → s.heap.get? b = some o) (hs : s.heap.get? src = some o) (hH : H.get? src = none) (hp : IsPool o) :
    Call w [(src, o)] 10 100 (.ref 249) [.ref src] s (fun v news' => ∃ l vs n tl rows o', v = .ref l ∧ news' = (src, o') :: (l, W.listOf (List.toArray vs) n) :: tl ∧ IsPool o' ∧ TupOnly tl ∧ Tups RowV (fun a o => (a, o) ∈ tl) vs rows ∧ GoodRows rows) := by
  refine' call_defC G hk (by simpa using ⟨hs, hH⟩) ?ho ?hcd ?hb ?hkd ?hnd ?h ?c1 ?c2 ?c3
  case ho => k_is
  case hcd => k_is
  case hb => exact BindsTo.of_eq rfl
  case hkd => exact rfl
  case hnd => decide +kernel
  case c1 => exact rfl
  case c2 => exact rfl
  case c3 => exact rfl
  intro g L' h₁ tk cells A mean mg mb hA hd hu X T hg hg' hlt F N Y Z hZ
  k_cells Y
  (try simp only [List.cons_append, List.nil_append] at N)
  rename Obj => co
  rename co.data = _ => hco0
  have hco : co.data = .cell (some (.ref src)) := hco0
  clear hco0
  have hsl := ltN (hlt _ (.head _)); dsimp only at hsl
  walk_at "my go"
  unfold Stop
  rename IsRange _ _ _ _ _ _ _ _ => hr
  rename Fr _ _ _ _ => F1
  rename News _ _ _ _ => N1
  rename IsPool _ => p1
  rename (_ : Int) < 6 => d1
  rename 0 ≤ (_ : Int) => d0
  refine for_range (RowsJ L' src co) hA hr (small_of d0 (by omega)) (size_of d0) F1
    (news := [_, (L' + 1, co), (src, _), (_, tupO [_, _, _])]) (news_sub N1 ⟨by k_mem, by k_mem, by k_mem, by k_mem, trivial⟩) ?_ ?_ ?_
  · refine ⟨_, _, _, _, [(_, _)], [], ⟨rfl, trivial⟩, rfl, by omega, p1, ?_, ?_, rfl, nofun⟩
    · intro p hp; rw [List.mem_singleton.mp hp]
    · exact Tups.one (x := (⟨216, [], []⟩ : Row)) (List.mem_singleton.mpr rfl) ⟨_, _, _, rfl⟩
  · rintro i t m₁ news₁ h tk₁ it I hi hit hoff hJ' F2 N2 Z2 hZ2; refine e6_8 hJ' ?_; clear hJ'; rintro l o vs n tl mid hm rfl hl hpo hto htu hlen hgood
    have F3 := fr_norm F2 hm
    clear F1 F2 N1
    dsimp only [kstB] at F3
    have q1 := neN (hoff _ (.head _)); dsimp only at q1
    have q2 := neN (hoff _ (.tail _ (.head _))); dsimp only at q2
    have q3 := neN (hoff _ (.tail _ (.tail _ (.head _)))); dsimp only at q3
    have q4 : ∀ p ∈ tl, p.1 ≠ I := fun p hp => hoff p (.tail _ (.tail _ (.tail _ hp)))
    have q5 : ∀ p ∈ tl, p.1 ≠ src := hto.off N2 (fun p hp => by simp [hp]) (a := src) (o := o) (by simp) (by rw [hpo.cls]; decide)
    have q6 : ∀ p ∈ tl, p.1 ≠ l := hto.off N2 (fun p hp => by simp [hp]) (a := l) (o := W.listOf vs.toArray n) (by simp) (by show Value.type "list" ≠ .type "tuple"; decide)
    k_steps
    unfold Stop
    rename (_ : Int) < 6 => e1
    rename 0 ≤ (_ : Int) => e0
    rename IsPool _ => p2
    rename News _ _ _ _ => N3
    obtain ⟨c, tc, hv, hc⟩ := menuC (t1 := _) (t2 := _) (t3 := _) (t4 := _) (t5 := _) (t6 := _) e0 e1
    refine item_led N3 (by k_mem) e0 (by omega) hv ?_
    clear hv e0 e1
    k_steps
    unfold Stop
    rename IsRange _ _ _ _ _ _ _ _ => hr
    rename Fr _ _ _ _ => F4
    rename News _ _ _ _ => N4
    rename (_ : Int) < 4 => e1
    rename Int => d'
    rename 0 ≤ (_ : Int) => e0
    rename IsPool _ => p3
    rename Obj => o3
    have z3 : d'.toNat ≤ 65536 := by omega
    refine comp_range (fun i ys news => ∃ o ns, news = (I, it) :: (l, W.listOf (List.toArray vs) n) :: (L' + 1, co) :: (src, o) :: tl ∧ IsPool o ∧ IntsAre ys ns ∧ ns.length = i ∧ ∀ k ∈ ns, 0 ≤ k ∧ k < 256) hA hr (small_of e0 (by omega)) (size_of e0) z3 F4
      (news_c N4 (by k_mem) (news_c N4 (by k_mem) (news_c N4 (by k_mem) (news_c N4 (by k_mem) (news_t N4 (by walk_at "my tl")))))) ⟨o3, [], rfl, p3, .nil, rfl, nofun⟩ ?_ ?_
    · rintro j tj ys news₂ h₂ tk₂ C D oI oL nD mC I' hj ⟨o2, ns, rfl, p4, hys, hnl, hns⟩ hoff2 hCL F5 N5
      have r1 := hoff2 _ (.head _)
      have r2 := hoff2 _ (.tail _ (.head _))
      have r3 := hoff2 _ (.tail _ (.tail _ (.head _)))
      have r4 := hoff2 _ (.tail _ (.tail _ (.tail _ (.head _))))
      have r5 := neN r4.1; have r6 := neN r4.2.1; have r7 := neN r4.2.2
      k_steps
      unfold Stop
      rename (_ : Int) < 4 => f1
      rename 0 ≤ (_ : Int) => f0
      rename IsPool _ => p5
      rename Obj => o5
      rename News _ _ _ _ => N6
      rename Fr _ _ _ _ => F6
      obtain ⟨c', tc', hv, hc0, hc1⟩ := menuB (t1 := _) (t2 := _) (t3 := _) (t4 := _) f0 f1
      refine item_led N6 (by k_mem) f0 (by omega) hv ?_
      refine ⟨_, _, _, _, rfl, F6, news_c N6 (by k_mem) (news_c N6 (by k_mem) (news_c N6 (by k_mem) (news_c N6 (by k_mem) (news_c N6 (by k_mem) (news_c N6 (by k_mem) (news_c N6 (by k_mem) (news_t N6 (by walk_at "my tl")))))))), ?_, o5, ns ++ [c'], rfl, p5, ?_, ?_, ?_⟩
      · intro p hp
        rcases List.mem_cons.mp hp with rfl | hp
        · exact hoff2 _ (.head _)
        rcases List.mem_cons.mp hp with rfl | hp
        · exact hoff2 _ (.tail _ (.head _))
        rcases List.mem_cons.mp hp with rfl | hp
        · exact hoff2 _ (.tail _ (.tail _ (.head _)))
        rcases List.mem_cons.mp hp with rfl | hp
        · exact r4
        · exact hoff2 _ (.tail _ (.tail _ (.tail _ (.tail _ hp))))
      · exact ints_snoc hys
      · simp [hnl]
      · intro k hk
        rcases List.mem_append.mp hk with hk | hk
        · exact hns k hk
        · rw [List.mem_singleton.mp hk]; exact ⟨hc0, hc1⟩
    · rintro D h₂ tk₂ ys nD news₂ ⟨o2, ns, rfl, p4, hys, hnl, hns⟩ hoff2 F5 N5
      have r1 := hoff2 _ (.head _)
      have r2 := neN (hoff2 _ (.tail _ (.head _)))
      have r3 := neN (hoff2 _ (.tail _ (.tail _ (.head _))))
      have r4 := neN (hoff2 _ (.tail _ (.tail _ (.tail _ (.head _)))))
      have r5 : ∀ p ∈ tl, p.1 ≠ D := fun p hp => hoff2 _ (.tail _ (.tail _ (.tail _ (.tail _ hp))))
      have hvl : vs.length ≤ 6 := by clear hc q1 q2 q3 r2 r3 r4; rw [htu.length, List.length_cons]; omega
      have hyl : ys.length = d'.toNat := by rw [IntsAre.length hys, hnl]
      k_steps
      unfold Stop
      refine bytes_l F5 N5 (.head _) hys hns (by clear hc q1 q2 q3 r2 r3 r4; omega) (by assumption) ?_
      intro h₃ tb tk₃ F6 N6
      have hpl : (ns.map fun n => n.toNat.toUInt8).length ≤ 3 := by rw [ints_bytes, hnl]; omega
      k_steps
      all_goals (try rename IsData _ _ => hdat)
      all_goals (rename (_ < _ ∧ _) => l1; rename News _ _ _ _ => N7; rename Fr _ _ _ _ => F7)
      · exfalso; clear q1 q2 q3 r2 r3 r4; omega
      · have hc1 : c = 1 := by clear q1 q2 q3 r2 r3 r4; omega
        subst hc1
        refine hZ2 _ _ ?_; exact rows_turn (r := ⟨1, [], []⟩) hl q1 q2 q3 q4 p4 hto htu hlen hgood ⟨by simp, Nat.zero_le _, fun _ => rfl, ⟨0, Nat.zero_le _, [], rfl, nofun, rfl⟩, fun _ => rfl⟩ ⟨_, _, _, rfl⟩ l1.2.1 rfl F7 N7
      · have hc1 : c = 218 := by clear q1 q2 q3 r2 r3 r4; omega
        subst hc1
        refine hZ2 _ _ ?_; exact rows_turn (r := ⟨218, _, _⟩) hl q1 q2 q3 q4 (by assumption) hto htu hlen hgood ⟨by simp, hpl, by simp, ⟨_, by assumption, hdat⟩, by simp⟩ ⟨_, _, _, rfl⟩ l1.2.1 rfl F7 N7
      · refine hZ2 _ _ ?_; exact rows_turn (r := ⟨c, _, []⟩) hl q1 q2 q3 q4 p4 hto htu hlen hgood ⟨hc, hpl, fun e => absurd (show c = 1 from e) (by clear hc q1 q2 q3 r2 r3 r4; omega), ⟨0, Nat.zero_le _, [], rfl, nofun, rfl⟩, fun _ => rfl⟩ ⟨_, _, _, rfl⟩ l1.2.1 rfl F7 N7
  · rintro m₁ news₁ h tk hJ' F2 N2; refine e6_8 hJ' ?_; clear hJ'; rintro l o vs n tl mid hm rfl hl hpo hto htu hlen hgood
    have F3 := fr_norm F2 hm
    clear F1 F2 N1
    dsimp only [kstB] at F3
    have hvl : vs.length ≤ 6 := by rw [htu.length, List.length_cons]; omega
    k_steps
    unfold Stop
    rename News _ _ _ _ => N8
    rename Fr _ _ _ _ => F8
    refine add_l (vs := vs) F8 N8 (N8 (l, W.listOf vs.toArray n) (by k_mem)).1 (N8 _ (.head _)).1 (by walk_at "my len") ?_
    intro D5 h5 F9 N9 hD5
    have N10 := N9
    (try dsimp only)
    (first | refine hZ _ _ ?_ | (refine hZ2 _ _ ?_; refine hZ _ _ ?_)); refine Ends.ret (news' := (src, o) :: (D5, _) :: (_, tupO _) :: tl) F9 (news_c N9 (by k_mem) (news_c N9 (List.mem_cons_self ..) (news_c N9 (.tail _ (.tail _ (.head _))) (news_t N9 (by walk_at "my tl"))))) ?_
    refine ⟨D5, _, _, (_, tupO _) :: tl, (⟨216, [], []⟩ :: mid) ++ [⟨217, [], []⟩], o, rfl, rfl, hpo, ?_, ?_, ⟨mid, by simp, by omega, hgood⟩⟩
    · intro p hp
      rcases List.mem_cons.mp hp with rfl | hp
      · rfl
      · exact hto p hp
    · exact Tups.append (V := RowV) (htu.mono fun a o h => List.mem_cons_of_mem _ h) (Tups.one (x := (⟨217, [], []⟩ : Row)) (List.mem_cons_self ..) ⟨_, _, _, rfl⟩)

-- part C5
local macro_rules | `(tactic| walk_at "call type:bytes") => `(tactic| (k_here; (with_reducible show wpAny _ _ (call (Value.type "bytes") [Value.ref _]) _ _ _); k_dflt (refine' bytes_2 ?F ?N ?m ?a ?b ?A ?_; (case F => k_asm); (case N => k_asm); (case m => k_mem); (case a => (first | (constructor <;> omega) | (simp only [List.length_append] at *; constructor <;> omega))); (case b => (first | (constructor <;> omega) | (simp only [List.length_append] at *; constructor <;> omega))); (case A => assumption); k_whole); intro h' t' k' F' N'; (try k_sweep)))
noncomputable abbrev bare (r : Row) : Prop := r.code = 1 ∨ r.code = 216 ∨ r.code = 217
noncomputable def enc (r : Row) : List UInt8 := [255, r.code.toUInt8] ++ if bare r then [] else [0, (r.pay.length + 2).toUInt8] ++ r.pay ++ r.dat
noncomputable def encs (rs : List Row) : List UInt8 := rs.flatMap enc
structure SmallRow (r : Row) : Prop where
  code : r.code < 256
  pay : r.pay.length ≤ 3
  dat : r.dat.length ≤ 8
theorem enc_len {r : Row} (h : SmallRow r) : (enc r).length ≤ 15 := by
  have := h.pay; have := h.dat
  unfold enc
  split <;> simp only [List.length_append, List.length_cons, List.length_nil] <;> omega
theorem encs_len : ∀ {rs : List Row}, (∀ r ∈ rs, SmallRow r) → (encs rs).length ≤ 15 * rs.length
  | [], _ => Nat.zero_le _
  | r :: rs, h => by
    have h1 := enc_len (h r (.head _))
    have h2 := encs_len (rs := rs) fun x hx => h x (.tail _ hx)
    have e : encs (r :: rs) = enc r ++ encs rs := rfl
    rw [e, List.length_append, List.length_cons]
    omega
theorem encs_take {rs : List Row} {i : Nat} {r : Row} (h : rs[i]? = some r) : encs (rs.take (i + 1)) = encs (rs.take i) ++ enc r := by
  unfold encs
  rw [List.take_add_one, h, List.flatMap_append]
  simp
theorem barely {r : Row} : ([1, 216, 217].any fun x => x == (r.code : Int)) = true ↔ bare r := by
  simp only [List.any_cons, List.any_nil, Bool.or_false, Bool.or_eq_true, beq_iff_eq, bare]
  omega
set_option maxHeartbeats 1000000 in
theorem octets_call {w : World} {H : Heap} {s : Shared} {l : Addr} {vs : List Value} {n : Nat} {rows : List Row}
    (G : Gr w H) (hk : ∀ b o, H.get? b = some o → s.heap.get? b = some o) (hl : s.heap.get? l = some (W.listOf (List.toArray vs) n)) (hv : Tups RowV (fun a o => s.heap.get? a = some o) vs rows)
    (hn : rows.length ≤ 8) (hr : ∀ r ∈ rows, SmallRow r) :
    Call w [] 3 30 (.ref 256) [.ref l] s (fun v news' => (∃ t, v = .bytes (List.toArray (encs rows)) t) ∧ news' = []) := by
  refine' call_def G hk (fun _ h => nomatch h) ?ho ?hcd ?hb ?hl ?h ?c1 ?c2 ?c3 ?c4
  walk_at "my enter"
  intro g L' h₁ A mean mg mb hA hd hu X T hg hg' hL F N Z hZ
  have hlg : g.get? l = some (W.listOf (List.toArray vs) n) := hg _ _ nofun hl
  have hvg : Tups RowV (fun a o => g.get? a = some o) vs rows := hv.mono fun a o h => hg _ _ nofun h
  walk_at "my go"
  unfold Stop
  rename Fr _ _ _ _ => F1
  rename News _ _ _ _ => N1
  refine for_base (fun i m news => ∃ b t, AllB m [("found", .bytes (List.toArray b) t)] ∧ b = encs (rows.take i) ∧ news = []) hA F1 (news := []) News.nil hlg ⟨[], _, ⟨rfl, trivial⟩, rfl, rfl⟩ ?_ ?_
  · rintro i v m₁ news₁ h tk it I hvi hit hoff ⟨b, tb, hm, hb, rfl⟩ F2 N2 Z2 hZ2
    have F3 := fr_norm F2 hm
    clear F1 F2 N1
    dsimp only [kstB] at F3
    obtain ⟨r, a, its, hri, rfl, hag, t1, t2, t3, rfl⟩ := hvg.get hvi
    have hrm := hr r (List.mem_of_getElem? hri)
    have hbl : b.length ≤ 120 := by
      have h1 := encs_len (rs := rows.take i) fun x hx => hr x (List.mem_of_mem_take hx)
      rw [← hb, List.length_take] at h1
      omega
    have := hrm.code; have := hrm.pay; have := hrm.dat
    have ht : IsTup h a _ := F3.tup ⟨_, hag, rfl, 0, rfl⟩
    k_steps
    all_goals (rename News _ _ _ _ => N7; rename Fr _ _ _ _ => F7; rename (List.any _ _) = _ => hc)
    all_goals try (with_reducible rename ¬ _ => hc)
    · have hb1 : bare r := barely.mp hc
      refine hZ2 _ _ ?_; refine Turn.next (news' := []) F7 (news_c N7 (by k_mem) News.nil) no_mem ⟨trivial, _, _, ⟨rfl, trivial⟩, ?_, rfl⟩
      rw [encs_take hri, hb]; unfold enc; rw [if_pos hb1]; rfl
    · have hb1 : ¬ bare r := fun h => by rw [barely.mpr h] at hc; cases hc
      refine hZ2 _ _ ?_; refine Turn.next (news' := []) F7 (news_c N7 (by k_mem) News.nil) no_mem ⟨trivial, _, _, ⟨rfl, trivial⟩, ?_, rfl⟩
      rw [encs_take hri, hb]; unfold enc; rw [if_neg hb1]; simp only [List.append_assoc]; rfl
  · rintro m₁ news₁ h tk ⟨b, tb, hm, hb, rfl⟩ F2 N2
    have F3 := fr_norm F2 hm
    clear F1 F2 N1
    dsimp only [kstB] at F3
    k_steps
    walk_at "my end0"
    rw [hb, hvg.length, List.take_length]
    exact ⟨tb, rfl⟩

-- part B8
theorem clip_nn {n : Nat} {i : Int} (h : 0 ≤ i) : clipAt n i = min i.toNat n := by
  have e := clipAt_cast n i
  rw [if_neg (by omega)] at e
  omega
theorem cut_eq {α : Type} (b : List α) {i j : Int} (hi : 0 ≤ i) (hj : 0 ≤ j) : (b.drop (clipAt b.length i)).take (clipAt b.length j - clipAt b.length i) = (b.drop i.toNat).take (j.toNat - i.toNat) := by
  rw [clip_nn hi, clip_nn hj]
  generalize i.toNat = x
  generalize j.toNat = y
  by_cases h : x ≤ b.length
  · rw [Nat.min_eq_left (a := x) h]
    by_cases h' : y ≤ b.length
    · rw [Nat.min_eq_left (a := y) h']
    · rw [Nat.min_eq_right (a := y) (by omega), List.take_of_length_le (by simp), List.take_of_length_le (by simp; omega)]
  · rw [Nat.min_eq_right (a := x) (by omega), List.drop_eq_nil_of_le (Nat.le_refl _), List.drop_eq_nil_of_le (as := b) (i := x) (by omega)]
    simp
theorem cut_from {α : Type} (b : List α) {i : Int} (hi : 0 ≤ i) : (b.drop (clipAt b.length i)).take (b.length - clipAt b.length i) = b.drop i.toNat := by
  rw [clip_nn hi]
  generalize i.toNat = x
  by_cases h : x ≤ b.length
  · rw [Nat.min_eq_left (a := x) h, List.take_of_length_le (by simp)]
  · rw [Nat.min_eq_right (a := x) (by omega), List.drop_eq_nil_of_le (Nat.le_refl _), List.drop_eq_nil_of_le (as := b) (i := x) (by omega)]
    simp
theorem cut_to {α : Type} (b : List α) {j : Int} (hj : 0 ≤ j) : (b.drop 0).take (clipAt b.length j - 0) = b.take j.toNat := by
  rw [clip_nn hj]
  simp only [List.drop_zero, Nat.sub_zero]
  generalize j.toNat = y
  by_cases h : y ≤ b.length
  · rw [Nat.min_eq_left (a := y) h]
  · rw [Nat.min_eq_right (a := y) (by omega), List.take_of_length_le (Nat.le_refl _), List.take_of_length_le (by omega)]
section
variable {prog : Program} {w : World} {A : Around} {E : Value → Shared → Prop} {s : Shared} {h₀ : Heap} {L : Addr} {m : Str → Option Value} {news : Led} {Q : Value → Shared → Prop} {value slice : PySem.Expr} {b : List UInt8} {t ti tj : Tok}
theorem slice_b2 {i j : Int} (hF : Fr h₀ L s.heap m) (hN : News h₀ L s.heap news) (hi : 0 ≤ i) (hj : 0 ≤ j) (hz : b.length ≤ 16777216)
    (h : ∀ h' t' k, Fr h₀ L h' m → News h₀ L h' news → Q (.bytes ((b.drop i.toNat).take (j.toNat - i.toNat)).toArray t') { s with heap := h', toks := k })
    (hs : subscripted slice false (.bytes b.toArray t) (.ref s.heap.objs.size) = operate [.ref s.heap.objs.size, .bytes b.toArray t] (getItem (.bytes b.toArray t) (.ref s.heap.objs.size)) := by with_unfolding_all rfl)
    (ht : ∀ r, letTemporaryGo value (.bytes b.toArray t) r = pure () := by intro _; with_unfolding_all rfl) :
    wpAny (model prog w) A (subscriptTail value slice (.bytes b.toArray t) (.ref s.heap.objs.size)) Q E { s with heap := s.heap.push { cls := .type "slice", data := .fields #[.int i ti, .int j tj, .none] } } := by
  refine slice_b hF hN (.int i ti) (.int j tj) hz (fun h' t' k F' N' => ?_) hs ht
  have q := h h' t' k F' N'
  rw [← cut_eq b hi hj] at q
  exact q
theorem slice_from {i : Int} (hF : Fr h₀ L s.heap m) (hN : News h₀ L s.heap news) (hi : 0 ≤ i) (hz : b.length ≤ 16777216)
    (h : ∀ h' t' k, Fr h₀ L h' m → News h₀ L h' news → Q (.bytes (b.drop i.toNat).toArray t') { s with heap := h', toks := k })
    (hs : subscripted slice false (.bytes b.toArray t) (.ref s.heap.objs.size) = operate [.ref s.heap.objs.size, .bytes b.toArray t] (getItem (.bytes b.toArray t) (.ref s.heap.objs.size)) := by with_unfolding_all rfl)
    (ht : ∀ r, letTemporaryGo value (.bytes b.toArray t) r = pure () := by intro _; with_unfolding_all rfl) :
    wpAny (model prog w) A (subscriptTail value slice (.bytes b.toArray t) (.ref s.heap.objs.size)) Q E { s with heap := s.heap.push { cls := .type "slice", data := .fields #[.int i ti, .none, .none] } } := by
  refine slice_b hF hN (.int i ti) .none hz (fun h' t' k F' N' => ?_) hs ht
  have q := h h' t' k F' N'
  rw [← cut_from b hi] at q
  exact q
theorem len_l {l : Addr} {vs : List Value} {n : Nat} (hN : News h₀ L s.heap news) (hm : (l, W.listOf vs.toArray n) ∈ news) (hz : vs.length ≤ 16777216) (h : ∀ t k, Q (.int (vs.length : Int) t) { s with toks := k }) :
    wpAny (model prog w) A (call (.builtin "len") [.ref l]) Q E s := by
  refine Calls.call_len_list (News.isList hN hm) (by simp only [List.size_toArray]; omega) ?_
  rw [List.size_toArray]
  exact h _ _
end

-- part C6
local macro_rules | `(tactic| walk_at "subscriptTail Name Slice bytes ref") => `(tactic| (k_here; (with_reducible show wpAny _ _ (subscriptTail _ (Expr.Slice _ _ none _) (Value.bytes (List.toArray _) _) (Value.ref _)) _ _ _); (with_reducible rename Fr _ _ _ _ => F'); (with_reducible rename News _ _ _ _ => N'); k_dflt (first
  | (refine' slice_b2 (s := ⟨_, _, _, _, _⟩) F' N' ?i ?j ?z ?_; (case i => walk_at "my nn"); (case j => walk_at "my nn"); (case z => walk_at "my len"); k_whole)
  | (refine' slice_from (s := ⟨_, _, _, _, _⟩) F' N' ?i ?z ?_; (case i => walk_at "my nn"); (case z => walk_at "my len"); k_whole)); intro h' t' k' F' N'; (try k_sweep)))
local macro_rules | `(tactic| walk_at "call builtin:len") => `(tactic| (k_here; (with_reducible show wpAny _ _ (call (Value.builtin "len") [Value.ref _]) _ _ _); k_dflt (refine' len_l (vs := _) ?N ?m ?z ?_; (case N => k_asm); (case m => k_mem); (case z => walk_at "my len"); k_whole); intro _ _))
inductive BytesAre : List Value → List (List UInt8) → Prop
  | nil : BytesAre [] []
  | cons (b : List UInt8) (t : Tok) {vs bs} : BytesAre vs bs → BytesAre (.bytes b.toArray t :: vs) (b :: bs)
theorem BytesAre.snoc {ys : List Value} {ns : List (List UInt8)} {c : List UInt8} {t : Tok} (h : BytesAre ys ns) : BytesAre (ys ++ [.bytes c.toArray t]) (ns ++ [c]) := by
  induction h with
  | nil => exact BytesAre.cons _ _ BytesAre.nil
  | cons _ _ _ ih => exact BytesAre.cons _ _ ih
theorem BytesAre.length {ys : List Value} {ns : List (List UInt8)} (h : BytesAre ys ns) : ys.length = ns.length := by
  induction h with
  | nil => rfl
  | cons _ _ _ ih => rw [List.length_cons, List.length_cons, ih]
theorem BytesAre.get : ∀ {vs : List Value} {bs : List (List UInt8)} {i : Nat} {v : Value}, BytesAre vs bs → vs[i]? = some v → ∃ b t, bs[i]? = some b ∧ v = .bytes b.toArray t := by
  intro vs bs i v h
  induction h generalizing i with
  | nil => intro q; cases q
  | cons b t _ ih =>
    cases i with
    | zero => intro q; simp only [List.getElem?_cons_zero, Option.some.injEq] at q; exact ⟨b, t, rfl, q.symm⟩
    | succ i => intro q; rw [List.getElem?_cons_succ] at q; exact ih q
set_option maxHeartbeats 1000000 in
theorem cuts_call {w : World} {H : Heap} {s : Shared} {src : Addr} {o : Obj} {b : List UInt8} {tb t1 t2 : Tok} {most : Nat} {size : Int}
    (G : Gr w H) (hk : ∀ b o, H.get? b = some o → s.heap.get? b = some o) (hs : s.heap.get? src = some o) (hH : H.get? src = none) (hp : IsPool o)
    (hb : b.length ≤ 1000) (hm : most ≤ 100) (h2 : 2 ≤ size) (h64 : size ≤ 64) :
    Call w [(src, o)] 5 50 (.ref 263) [.ref src, .bytes (List.toArray b) tb, .int (most : Int) t1, .int size t2] s (fun v news' => ∃ l vs n ps o', v = .ref l ∧ @Ne Nat l src ∧ news' = [(src, o'), (l, W.listOf (List.toArray vs) n)] ∧ IsPool o' ∧ BytesAre vs ps ∧ ps.flatten = b ∧ ps.length ≤ most + 1) := by
  refine' call_def G hk (by simpa using ⟨hs, hH⟩) ?ho ?hcd ?hb ?hl ?h ?c1 ?c2 ?c3 ?c4
  walk_at "my enter"
  intro g L' h₁ A mean mg mb hA hd hu X T hg hg' hL F N Z hZ
  walk_at "my go"
  unfold Stop
  rename Fr _ _ _ _ => F1
  rename News _ _ _ _ => N1
  have hne := neN (N1 _ (.head _)).2.1
  refine while_inv (k := most) (fun k m news => ∃ l vs n o ps at' ta, AllB m [("source", .ref src), ("octets", .bytes (List.toArray b) tb), ("most", .int (most : Int) t1), ("size", .int size t2), ("parts", .ref l), ("at", .int (at' : Nat) ta)] ∧ news = [(l, W.listOf (List.toArray vs) n), (src, o)] ∧ @Ne Nat l src ∧ IsPool o ∧ BytesAre vs ps ∧ ps.flatten = b.take at' ∧ ps.length + k = most) F1 (news := [(_, W.listOf (List.toArray []) _), (src, _)]) (news_c N1 (by k_mem) (news_c N1 (by k_mem) News.nil)) ?_ ?_
  · exact ⟨_, [], _, _, [], 0, _, ⟨rfl, rfl, rfl, rfl, rfl, rfl, trivial⟩, rfl, by omega, hp, .nil, rfl, by simp⟩
  · rintro k m₁ news₁ h tk hJ' F2 N2 Z2 hZ2; refine e7_7 hJ' ?_; clear hJ'; rintro l vs n o ps at' ta hm rfl hls hpo hvs hfl hlen
    have F3 := fr_norm F2 hm
    clear F1 F2 N1
    dsimp only [kstB] at F3
    have hvl := hvs.length
    k_steps
    all_goals (rename News _ _ _ _ => N8; rename Fr _ _ _ _ => F8)
    · rename IsPool _ => p2
      rename 0 ≤ (_ : Int) => e0
      rename Int => d'
      obtain ⟨x, rfl⟩ : ∃ x : Nat, d' = x := ⟨d'.toNat, by omega⟩
      refine hZ2 _ _ ?_; refine WTurn.next (news' := [(l, W.listOf (List.toArray (vs ++ [_])) _), (src, _)]) (k - 1) (by omega) F8 (news_c N8 (by k_mem) (news_c N8 (by k_mem) News.nil)) ⟨l, _, _, _, ps ++ [(b.drop at').take x], at' + x, _, ⟨rfl, rfl, rfl, rfl, rfl, rfl, trivial⟩, rfl, hls, p2, ?_, ?_, ?_⟩
      · have e1 : ((at' : Int) + x).toNat - (at' : Int).toNat = x := by omega
        have e2 : (at' : Int).toNat = at' := by omega
        rw [e1, e2]
        exact hvs.snoc
      · rw [List.flatten_append, hfl, List.take_add]; simp
      · simp; omega
    all_goals
      refine add_l (vs := vs) F8 N8 (N8 (l, W.listOf vs.toArray n) (by k_mem)).1 (N8 _ (.head _)).1 (by walk_at "my len") ?_
      intro D5 h5 F9 N9 hD5
      have hD6 : @Ne Nat D5 src := Nat.ne_of_gt (hD5 (src, o) (by k_mem))
      (first | refine hZ _ _ ?_ | (refine hZ2 _ _ ?_; refine hZ _ _ ?_)); refine Ends.ret (news' := [(src, o), (D5, W.listOf (List.toArray (vs ++ [_])) 0)]) F9 (news_c N9 (by k_mem) (news_c N9 (List.mem_cons_self ..) News.nil)) ⟨D5, _, _, ps ++ [b.drop at'], o, rfl, hD6, rfl, hpo, hvs.snoc, ?_, ?_⟩
      · rw [List.flatten_append, hfl]; simp
      · simp; omega

theorem cuts_use {w : World} {g : Heap} {L : Addr} {s : Shared} {m : Str → Option Value} {news : Led} {G : Obj → Led} {src : Addr} {o : Obj} {A : Around} {Q E : Value → Shared → Prop} {b : List UInt8} {tb t1 t2 : Tok} {mo si : Int} {mean mg mb}
    (X : (hd.heap_1 w.params).In g) (T : Top hd.view_1 (looseW hd.view_1 [Str.ofString "Piece"]) mean mg mb g) (F : Fr g L s.heap m) (N : News g L s.heap news) (U : UpdF src o news G) (hp : IsPool o)
    (hA : A.handled = none) (hd : A.depth + 5 < recursionLimit) (hu : A.units + 50 < cLine) (hb : b.length ≤ 1000) (h0 : 0 ≤ mo) (h1 : mo ≤ 100) (h2 : 2 ≤ si) (h3 : si ≤ 64)
    (hQ : ∀ l vs n ps o' h' tk', Fr g L h' m → News g L h' ((l, W.listOf (List.toArray vs) n) :: G o') → (∀ p ∈ news, @Ne Nat p.1 l) → IsPool o' → BytesAre vs ps → ps.flatten = b → (ps.length : Int) ≤ mo + 1 → Q (.ref l) { s with heap := h', toks := tk' }) :
    wpAny (model PySem.Challenge.rw_nz0248_01.row.prog w) A (PySem.call (.ref 263) [.ref src, .bytes (List.toArray b) tb, .int mo t1, .int si t2]) Q E s := by
  obtain ⟨own, rest, rfl, hg, e1, e2⟩ := U.split
  obtain ⟨most, rfl⟩ : ∃ x : Nat, mo = x := ⟨mo.toNat, by omega⟩
  have hm : (src, o) ∈ own ++ (src, o) :: rest := by simp
  refine Call.use (rest := own ++ rest) (cuts_call ⟨X, _, _, _, T⟩ F.keep (N _ hm).1 (N _ hm).2.2 hp hb (by omega) h2 h3) F N hA hd hu (by simp) (fun p hp => ?_) fun v h' tk' news' F' N' fr hP => ?_
  · rcases List.mem_append.mp hp with q | q
    · exact ⟨List.mem_append_left _ q, by simpa [adr] using e1 p q⟩
    · exact ⟨List.mem_append_right _ (.tail _ q), by simpa [adr] using e2 p q⟩
  · obtain ⟨l, vs, n, ps, o', rfl, hls, rfl, hp', hv, hf, hl⟩ := hP
    refine hQ l vs n ps o' h' tk' F' ?_ ?_ hp' hv hf (by omega)
    · rw [hg]
      intro p hp
      apply N'
      simp only [List.mem_append, List.mem_cons, List.not_mem_nil, or_false] at hp ⊢
      rcases hp with q | q | q | q <;> simp [q]
    · intro p hp
      rcases fr (l, W.listOf (List.toArray vs) n) (.tail _ (.head _)) with q | q
      · simp only [adr, List.map_cons, List.map_nil, List.mem_singleton] at q
        exact absurd q hls
      · exact q p hp

-- part B9
theorem inst_base {h₀ h : Heap} {L x C dx : Addr} {m : Str → Option Value} {od : Obj} {sl : Array (Option Value)} (F : Fr h₀ L h m) (h1 : h₀.get? x = some (⟨.ref C, some dx, .plain, sl⟩ : Obj)) (h2 : h₀.get? dx = some od) :
    PySem.W.InstAt h x ⟨.ref C, some dx, .plain, sl⟩ C (some od) := ⟨F.keep _ _ h1, rfl, rfl, F.keep _ _ h2⟩
inductive All2 {α β : Type} (R : α → β → Prop) : List α → List β → Prop
  | nil : All2 R [] []
  | cons {a b l m} : R a b → All2 R l m → All2 R (a :: l) (b :: m)
section
variable {α β : Type} {R R' : α → β → Prop}
theorem All2.mono (k : ∀ a b, R a b → R' a b) {l : List α} {m : List β} (h : All2 R l m) : All2 R' l m := by
  induction h with
  | nil => exact .nil
  | cons a _ ih => exact .cons (k _ _ a) ih
theorem All2.length {l : List α} {m : List β} (h : All2 R l m) : l.length = m.length := by
  induction h with
  | nil => rfl
  | cons _ _ ih => rw [List.length_cons, List.length_cons, ih]
theorem All2.append {l l' : List α} {m m' : List β} (h : All2 R l m) (h' : All2 R l' m') : All2 R (l ++ l') (m ++ m') := by
  induction h with
  | nil => exact h'
  | cons a _ ih => exact .cons a ih
theorem All2.one {a : α} {b : β} (h : R a b) : All2 R [a] [b] := .cons h .nil
theorem All2.get {l : List α} {m : List β} {i : Nat} {v : α} (h : All2 R l m) (q : l[i]? = some v) : ∃ x, m[i]? = some x ∧ R v x := by
  induction h generalizing i with
  | nil => cases q
  | cons a _ ih =>
    cases i with
    | zero => simp only [List.getElem?_cons_zero, Option.some.injEq] at q; exact ⟨_, rfl, q ▸ a⟩
    | succ i => rw [List.getElem?_cons_succ] at q; exact ih q
end
noncomputable def pieceDict (x : Row) (h1 h2 h3 : Int) (k1 k2 k3 t1 t2 t3 : Tok) : List DictEntry :=
  [⟨h1, .str "code" k1, .int (x.code : Int) t1⟩, ⟨h2, .str "payload" k2, .bytes x.pay.toArray t2⟩, ⟨h3, .str "data" k3, .bytes x.dat.toArray t3⟩]
noncomputable def PieceAt (has : Addr → Obj → Prop) (v : Value) (x : Row) : Prop := ∃ a d h1 h2 h3 k1 k2 k3 t1 t2 t3, v = .ref a ∧ has a (instObj 116 d) ∧ has d (dictOf (pieceDict x h1 h2 h3 k1 k2 k3 t1 t2 t3) 3)
theorem PieceAt.mono {has has' : Addr → Obj → Prop} {v : Value} {x : Row} (k : ∀ a o, has a o → has' a o) : PieceAt has v x → PieceAt has' v x := by
  rintro ⟨a, d, h1, h2, h3, k1, k2, k3, t1, t2, t3, e, i, j⟩
  exact ⟨a, d, h1, h2, h3, k1, k2, k3, t1, t2, t3, e, k _ _ i, k _ _ j⟩

-- part C7
local macro_rules | `(tactic| k_inst) => `(tactic| (refine' inst_base ?F ?h1 ?h2; (case F => k_asm); (case h1 => with_reducible assumption); (case h2 => with_reducible assumption)))
section
local macro_rules | `(tactic| walk_at "spare") => `(tactic| skip)
structure GoodP (x : Row) : Prop where
  small : SmallRow x
  len : hasLen x.code = !decide (bare x)
  dat : bare x → x.dat = []
set_option maxHeartbeats 1000000 in
theorem piece_call {w : World} {H : Heap} {s : Shared} {v : Value} {x : Row}
    (G : Gr w H) (hk : ∀ b o, H.get? b = some o → s.heap.get? b = some o) (hx : PieceAt (fun a o => s.heap.get? a = some o) v x) (hg : GoodP x) :
    Call w [] 8 80 (.ref 127) [v] s (fun v news' => (∃ t, v = .bytes (List.toArray (enc x)) t) ∧ news' = []) := by
  obtain ⟨a, d, z1, z2, z3, k1, k2, k3, t1, t2, t3, rfl, ha, hd'⟩ := hx
  refine' call_def G hk (fun _ h => nomatch h) ?ho ?hcd ?hb ?hl ?h ?c1 ?c2 ?c3 ?c4
  walk_at "my enter"
  intro g L' h₁ A mean mg mb hA hd hu X T hg1 hg' hL F N Z hZ
  have hag := hg1 _ _ nofun ha
  have hdg := hg1 _ _ nofun hd'
  clear ha hd'
  unfold pieceDict at hdg
  have := hg.small.code; have := hg.small.pay; have := hg.small.dat
  walk_at "my go"
  all_goals (rename hasLen _ = _ => hc; rw [hg.len] at hc; simp only [Bool.not_eq_true', Bool.not_eq_false', decide_eq_true_eq, decide_eq_false_iff_not] at hc)
  all_goals walk_at "my end0"
  · refine ⟨_, congrArg (fun z => Value.bytes (List.toArray z) _) ?_⟩
    unfold enc; rw [if_neg hc]; simp only [List.append_assoc]; rfl
  · refine ⟨_, congrArg (fun z => Value.bytes (List.toArray z) _) ?_⟩
    unfold enc; rw [if_pos hc, hg.dat hc]; rfl
set_option maxHeartbeats 1000000 in
theorem told_call {w : World} {H : Heap} {s : Shared} {l : Addr} {vs : List Value} {n : Nat} {rows : List Row}
    (G : Gr w H) (hk : ∀ b o, H.get? b = some o → s.heap.get? b = some o) (hl : s.heap.get? l = some (W.listOf (List.toArray vs) n)) (hv : All2 (PieceAt (fun a o => s.heap.get? a = some o)) vs rows) (hn : rows.length ≤ 1000) :
    Call w [] 5 50 (.ref 268) [.ref l] s (fun v news' => ∃ l' vs' n' tl, v = .ref l' ∧ news' = (l', W.listOf (List.toArray vs') n') :: tl ∧ TupOnly tl ∧ Tups RowV (fun a o => (a, o) ∈ tl) vs' rows) := by
  refine' call_def G hk (fun _ h => nomatch h) ?ho ?hcd ?hb ?hl ?h ?c1 ?c2 ?c3 ?c4
  walk_at "my enter"
  intro g L' h₁ A mean mg mb hA hd hu X T hg hg' hL F N Z hZ
  have hlg : g.get? l = some (W.listOf (List.toArray vs) n) := hg _ _ nofun hl
  have hvg : All2 (PieceAt (fun a o => g.get? a = some o)) vs rows := hv.mono fun v x h => h.mono fun a o h => hg _ _ nofun h
  walk_at "my go"
  unfold Stop
  rename Fr _ _ _ _ => F1
  have hvl := hvg.length
  refine comp_base (fun i ys news => TupOnly news ∧ Tups RowV (fun a o => (a, o) ∈ news) ys (rows.take i)) hA hlg (by omega) F1 (news := []) News.nil ⟨no_mem, trivial⟩ ?_ ?_
  · rintro i v ys news₁ h tk C D o oL nD mC I hvi ⟨hto, htu⟩ hoff hCL F5 N5
    obtain ⟨r, hri, a, d, z1, z2, z3, k1, k2, k3, t1, t2, t3, rfl, hag, hdg⟩ := hvg.get hvi
    unfold pieceDict at hdg
    k_steps
    all_goals (try first | exact (show Addr from (0 : Nat)) | exact (show Str from Str.ofString "") | exact Value.none | exact (show List (Str × Addr) from []))
    rename News _ _ _ _ => N7
    rename Fr _ _ _ _ => F7
    rename (_ < _ ∧ _) => l1
    (try dsimp only at l1)
    refine ⟨_, _, _, (_, tupO [_, _, _]) :: news₁, rfl, F7, news_c N7 (by k_mem) (news_c N7 (by k_mem) (news_c N7 (by k_mem) (news_c N7 (by k_mem) (news_t N7 (by walk_at "my tl"))))), ?_, ?_, ?_⟩
    · intro p hp
      rcases List.mem_cons.mp hp with rfl | hp
      · exact ⟨Nat.ne_of_gt l1.1, Nat.ne_of_gt l1.2.1, Nat.ne_of_gt l1.2.2.1⟩
      · exact hoff p hp
    · intro p hp
      rcases List.mem_cons.mp hp with rfl | hp
      · rfl
      · exact hto p hp
    · rw [List.take_add_one, hri]
      exact Tups.append (V := RowV) (htu.mono fun a o h => List.mem_cons_of_mem _ h) (Tups.one (x := r) (List.mem_cons_self ..) ⟨_, _, _, rfl⟩)
  · rintro D h₂ tk₂ ys nD news₂ ⟨hto, htu⟩ hoff2 F5 N5
    k_steps
    (try dsimp only)
    rw [hvl, List.take_length] at htu
    (first | refine hZ _ _ ?_ | (refine hZ2 _ _ ?_; refine hZ _ _ ?_)); exact Ends.ret F5 N5 ⟨D, ys, nD, news₂, rfl, rfl, hto, htu⟩
end

-- part BA1
namespace FA
theorem owner_bytearray : Manifest.owners.lookup (String.ofList ['y', 'a', 'r', 'r', 'a', 'e', 't', 'y', 'b'].reverse) = some Manifest.sig_bytearray := by kernel_rfl
theorem slot_bytearray_len : Slot "bytearray" "__len__" "bytearray.__len__" :=
  .of (owner := "bytearray") (n := "__len__") (by rw [typeLookup_type, builtinLookup_eq_fast]; kernel_rfl) (by decide +kernel) (by decide +kernel) (by decide +kernel)
    (by first | exact .inl (by decide +kernel) | exact .inr (by decide +kernel)) (by rw [isSubtype_type]; kernel_rfl)
theorem entry_bytearray_len : entryFor table "bytearray.__len__" = some Builtin.«bytearray.__len__» := entryFor_of_tree (by kernel_rfl)
theorem args_bytearray_len_1 (a : Value) : argsOk "bytearray.__len__" ⟨[a], []⟩ := by
  unfold argsOk; rw [signature?_of (id := "bytearray.__len__") (n := ['_', '_', 'n', 'e', 'l', '_', '_']) (o := ['y', 'a', 'r', 'r', 'a', 'e', 't', 'y', 'b']) (by kernel_rfl) owner_bytearray]; kernel_rfl
theorem slot_bytearray_getitem : Slot "bytearray" "__getitem__" "bytearray.__getitem__" :=
  .of (owner := "bytearray") (n := "__getitem__") (by rw [typeLookup_type, builtinLookup_eq_fast]; kernel_rfl) (by decide +kernel) (by decide +kernel) (by decide +kernel)
    (by first | exact .inl (by decide +kernel) | exact .inr (by decide +kernel)) (by rw [isSubtype_type]; kernel_rfl)
theorem entry_bytearray_getitem : entryFor table "bytearray.__getitem__" = some Builtin.«bytearray.__getitem__» := entryFor_of_tree (by kernel_rfl)
theorem args_bytearray_getitem_2 (a b : Value) : argsOk "bytearray.__getitem__" ⟨[a, b], []⟩ := by
  unfold argsOk; rw [signature?_of (id := "bytearray.__getitem__") (n := ['_', '_', 'm', 'e', 't', 'i', 't', 'e', 'g', '_', '_']) (o := ['y', 'a', 'r', 'r', 'a', 'e', 't', 'y', 'b']) (by kernel_rfl) owner_bytearray]; kernel_rfl
theorem slot_bytearray_extend : Slot "bytearray" "extend" "bytearray.extend" :=
  .of (owner := "bytearray") (n := "extend") (by rw [typeLookup_type, builtinLookup_eq_fast]; kernel_rfl) (by decide +kernel) (by decide +kernel) (by decide +kernel)
    (by first | exact .inl (by decide +kernel) | exact .inr (by decide +kernel)) (by rw [isSubtype_type]; kernel_rfl)
theorem entry_bytearray_extend : entryFor table "bytearray.extend" = some Builtin.«bytearray.extend» := entryFor_of_tree (by kernel_rfl)
theorem args_bytearray_extend_2 (a b : Value) : argsOk "bytearray.extend" ⟨[a, b], []⟩ := by
  unfold argsOk; rw [signature?_of (id := "bytearray.extend") (n := ['d', 'n', 'e', 't', 'x', 'e']) (o := ['y', 'a', 'r', 'r', 'a', 'e', 't', 'y', 'b']) (by kernel_rfl) owner_bytearray]; kernel_rfl
theorem type_bytearray_extend : typeOf (.builtin "bytearray.extend") = pure (.type "method_descriptor") := by show builtinType _ = _; rw [builtinType_eq_fast]; kernel_rfl
theorem owner_bytes : Manifest.owners.lookup (String.ofList ['s', 'e', 't', 'y', 'b'].reverse) = some Manifest.sig_bytes := by kernel_rfl
theorem slot_bytes_join : Slot "bytes" "join" "bytes.join" :=
  .of (owner := "bytes") (n := "join") (by rw [typeLookup_type, builtinLookup_eq_fast]; kernel_rfl) (by decide +kernel) (by decide +kernel) (by decide +kernel)
    (by first | exact .inl (by decide +kernel) | exact .inr (by decide +kernel)) (by rw [isSubtype_type]; kernel_rfl)
theorem entry_bytes_join : entryFor table "bytes.join" = some Builtin.«bytes.join» := entryFor_of_tree (by kernel_rfl)
theorem args_bytes_join_2 (a b : Value) : argsOk "bytes.join" ⟨[a, b], []⟩ := by
  unfold argsOk; rw [signature?_of (id := "bytes.join") (n := ['n', 'i', 'o', 'j']) (o := ['s', 'e', 't', 'y', 'b']) (by kernel_rfl) owner_bytes]; kernel_rfl
theorem type_bytes_join : typeOf (.builtin "bytes.join") = pure (.type "method_descriptor") := by show builtinType _ = _; rw [builtinType_eq_fast]; kernel_rfl
theorem plainAttrs_bytearray : PlainAttrs "bytearray" :=
  ⟨⟨"bytearray.__getattribute__", by rw [typeLookup_type, builtinLookup_eq_fast]; kernel_rfl, by decide +kernel⟩, by rw [typeLookup_type, builtinLookup_eq_fast]; kernel_rfl⟩
end FA

-- part BA2
section
open Builtin
noncomputable abbrev barr (b : List UInt8) : Obj := { cls := .type "bytearray", data := .bytearray b.toArray }
section
variable {M : Model} {A : Around} {E : Value → Shared → Prop} {s : Shared}
theorem pay_ba {a : Addr} {b : List UInt8} {Q : Array UInt8 → Shared → Prop} (ho : s.heap.get? a = some (barr b)) (h : Q b.toArray s) : wpAny M A (Bytes.payload (.ref a)) Q E s := by
  unfold Bytes.payload Bytes.payload?
  exact wpAny_bind (wpAny_bind (wpAny_load ho (wpAny_pure (wpAny_pure h))))
theorem ty_ba {a : Addr} {b : List UInt8} (ho : s.heap.get? a = some (barr b)) : s.TypeIs (.ref a) "bytearray" := ⟨_, ho, rfl⟩
end
section
variable {prog : Program} {w : World} {A : Around} {E : Value → Shared → Prop} {s : Shared} {Q : Value → Shared → Prop}
theorem len_ba {a : Addr} {b : List UInt8} (ho : s.heap.get? a = some (barr b)) (hz : b.length ≤ 16777216) (h : ∀ t k, Q (.int (b.length : Int) t) { s with toks := k }) : wpAny (model prog w) A (call (.builtin "len") [.ref a]) Q E s := by
  refine call_function_entry kind_len plain_len entry_len (args_len1 _) ?_
  unfold Builtin.«len»
  refine wpAny_bind (m := oneArg "len" _) (wpAny_pure ?_)
  refine wpAny_bind (m := callSpecial? (.ref a) (Str.ofString "__len__")) (wpAny_callSpecial?_slot (name := Str.ofString "__len__") (ty_ba ho) FA.slot_bytearray_len
    (wpAny_call_entry FA.slot_bytearray_len (ty_ba ho) FA.entry_bytearray_len ?_ (FA.args_bytearray_len_1 _)))
  · show wpAny _ _ (Bytes.payload (.ref a) >>= fun r => retInt r.size) _ _ s
    refine wpAny_bind (pay_ba ho ?_)
    rw [List.size_toArray]
    refine wpAny_bind (wpAny_mkInt (wpAny_pure ⟨_, rfl, ?_⟩))
    refine wpAny_bind (wpAny_holding (wpAny_pure ?_))
    refine wpAny_bind (wpAny_letGo ?_)
    show wpAny _ _ (if ((b.length : Nat) : Int) < 0 then _ else _) _ _ _
    rw [if_neg (by omega)]
    show wpAny _ _ (if ((b.length : Nat) : Int) ≥ 2 ^ 63 then _ else _) _ _ _
    rw [if_neg (by omega)]
    exact wpAny_bind (wpAny_mkInt (wpAny_pure ⟨_, rfl, h _ _⟩))
end
theorem meets_ba_item {a : Addr} {b : List UInt8} {i : Int} {u : Tok} :
    Meets («bytearray.__getitem__» ⟨[.ref a, .int i u], []⟩) (fun _ R s => s.heap.get? a = some (barr b) ∧ 0 ≤ i ∧ i < b.length ∧ b.length ≤ 16777216 ∧ ∀ t k, R (.ok (.ret (.int ((b.getD i.toNat 0).toNat : Int) t))) { s with toks := k }) := by
  refine .of_wp fun prog w A R s hS => ?_
  obtain ⟨ho, h0, h1, hz, h⟩ := hS
  show wpAny _ _ (Bytes.subscript? (.int i u) >>= fun r => _) _ _ s
  refine wpAny_bind ?_
  unfold Bytes.subscript?
  refine wpAny_bind (wpAny_specialOf (typeIs_int s i u) F.slot_int_index.lookup ?_)
  show wpAny _ _ (if (!Bytes.fitsIndex i) = true then _ else pure (some i)) _ _ s
  rw [show Bytes.fitsIndex i = true by unfold Bytes.fitsIndex; simp only [Bool.and_eq_true, decide_eq_true_eq]; omega]
  refine wpAny_pure ?_
  show wpAny _ _ (Bytes.payload (.ref a) >>= fun b => match (seqIndex? i b.size).bind (b[·]?) with | some x => retInt x.toNat | none => _) _ _ s
  refine wpAny_bind (pay_ba ho ?_)
  have e : (seqIndex? i b.toArray.size).bind (b.toArray[·]?) = some (b.getD i.toNat 0) := by
    have hn : ¬ i < 0 := by omega
    have hl : i.toNat < b.length := by omega
    have : seqIndex? i b.toArray.size = some i.toNat := by simp [seqIndex?, hn, h0, h1]
    rw [this]; simp [hl]
  rw [e]
  exact wpAny_bind (wpAny_mkInt (wpAny_pure ⟨_, rfl, h _ _⟩))
set_option maxHeartbeats 2000000 in
theorem meets_ba_slice {a sl : Addr} {b : List UInt8} {l u : Value} {lo hi : Option Int} (hl : IsPart l lo) (hu : IsPart u hi) :
    Meets («bytearray.__getitem__» ⟨[.ref a, .ref sl], []⟩) (fun _ R s => s.heap.get? a = some (barr b) ∧ s.heap.IsSliceOf sl l u .none ∧ b.length ≤ 65536 ∧
      R (.ok (.ret (.ref s.heap.objs.size))) { s with heap := s.heap.push (barr ((b.drop (lo.elim 0 (clipAt b.length))).take (hi.elim b.length (clipAt b.length) - lo.elim 0 (clipAt b.length)))) }) := by
  refine .of_wp fun prog w A R s hS => ?_
  obtain ⟨hb, ⟨o, ho, hc, hd⟩, hz, h⟩ := hS
  have hT : s.TypeIs (.ref sl) "slice" := ⟨o, ho, hc⟩
  show wpAny _ _ (Bytes.subscript? (.ref sl) >>= fun r => _) _ _ s
  refine wpAny_bind ?_
  unfold Bytes.subscript?
  refine wpAny_bind (wpAny_specialOf hT slice_no_index (wpAny_pure ?_))
  refine wpAny_bind (wpAny_typeOf hT ?_)
  show wpAny _ _ (Bytes.sliceParts (.ref sl) >>= fun r => _) _ _ s
  refine wpAny_bind ?_
  unfold Bytes.sliceParts
  refine wpAny_bind (wpAny_field (x := .none) ho hd rfl ?_)
  kby_none
  refine wpAny_ite (KBy.ite_no (show ¬ ((Value.none == rawInt 0) = true) from Bool.false_ne_true) ?_)
  refine wpAny_bind (wpAny_field (x := l) ho hd rfl ?_)
  have hp : (KBy.picked b.toArray lo hi) = ((b.drop (lo.elim 0 (clipAt b.length))).take (hi.elim b.length (clipAt b.length) - lo.elim 0 (clipAt b.length))).toArray := by
    have e := KBc.picked_eq b.toArray lo hi
    rw [List.size_toArray] at e
    exact e
  have go : wpAny (model prog w) A.in1 (sliceIndices (rawPart lo) (rawPart hi) (rawPart none) b.toArray.size) (fun r s' => r = sliceBounds lo hi none b.toArray.size ∧ s' = s) (fun _ _ => False) s :=
    wpAny_of_eq (sliceIndices_raw lo hi none b.toArray.size (fun e => nomatch e)) ⟨rfl, rfl⟩
  have fin : wpAny (model prog w) A.in1 (Bytes.newBytearray (Bytes.sliced b.toArray (sliceBounds lo hi none b.toArray.size).1 (sliceBounds lo hi none b.toArray.size).2.1 (sliceBounds lo hi none b.toArray.size).2.2) >>= fun v => ret v)
      (fun fin s' => ∃ v, fin = Fin.done (Flow.ret v) ∧ R (Except.ok (Flow.ret v)) s') (fun e s' => R (Except.error e) s') s := by
    show wpAny _ _ (newObj (.type "bytearray") (.bytearray (KBy.picked b.toArray lo hi)) >>= fun v => ret v) _ _ s
    rw [hp]
    refine wpAny_bind (wpAny_newObj_type (wpAny_pure ⟨_, rfl, h⟩) ?_)
    show (List.toArray _).size ≤ sizeLine
    rw [List.size_toArray, List.length_take, List.length_drop, sizeLine_eq]
    omega
  have fin' : wpAny (model prog w) A.in1 (do
      let b ← Bytes.payload (.ref a)
      let (start, stop, step) ← sliceIndices (rawPart lo) (rawPart hi) (rawPart none) b.size
      ret (← Bytes.newBytearray (Bytes.sliced b start stop step)))
      (fun fin s' => ∃ v, fin = Fin.done (Flow.ret v) ∧ R (Except.ok (Flow.ret v)) s') (fun e s' => R (Except.error e) s') s := by
    refine wpAny_bind (pay_ba hb ?_)
    refine wpAny_bind (wpAny_mono go (fun r s' hr => ?_) fun _ _ e => e.elim)
    obtain ⟨rfl, rfl⟩ := hr
    exact fin
  clear fin go
  cases hl <;> cases hu <;> (first
    | (kby_none; (refine wpAny_bind (wpAny_field (x := .none) ho hd rfl ?_)); kby_none)
    | (kby_none; (refine wpAny_bind (wpAny_field (x := .int _ _) ho hd rfl ?_)); kby_int)
    | (kby_int; (refine wpAny_bind (wpAny_field (x := .none) ho hd rfl ?_)); kby_none)
    | (kby_int; (refine wpAny_bind (wpAny_field (x := .int _ _) ho hd rfl ?_)); kby_int)) <;> refine wpAny_pure ?_ <;> exact fin'
end

-- part BA3
section
open Builtin
namespace FA
theorem no_bytes : typeLookup (.type "bytearray") "__bytes__" = pure none := by rw [typeLookup_type, builtinLookup_eq_fast]; kernel_rfl
theorem noIndex : typeLookup (.type "bytearray") "__index__" = pure none := by rw [typeLookup_type, builtinLookup_eq_fast]; kernel_rfl
theorem look_buffer : typeLookup (.type "bytearray") "__buffer__" = pure (some (.builtin "bytearray.__buffer__")) := by rw [typeLookup_type, builtinLookup_eq_fast]; kernel_rfl
theorem look_release : typeLookup (.type "bytearray") "__release_buffer__" = pure (some (.builtin "bytearray.__release_buffer__")) := by rw [typeLookup_type, builtinLookup_eq_fast]; kernel_rfl
theorem sub_ba : isSubtype (.type "bytearray") (.type "bytearray") = pure true := by rw [isSubtype_type]; kernel_rfl
end FA
section
variable {M : Model} {A : Around} {E : Value → Shared → Prop} {s : Shared}
theorem own_ba {a : Addr} {name : String} {T : s.TypeIs (.ref a) "bytearray"} {id : String} {Q : Bool → Shared → Prop} (hl : typeLookup (.type "bytearray") name = pure (some (.builtin id)))
    (he : id.endsWith ("." ++ name) = true) (hd : id.dropRight (name.length + 1) = "bytearray") (h : Q true s) : wpAny M A (Bytes.slotIsOwn (.ref a) name) Q E s := by
  unfold Bytes.slotIsOwn
  refine wpAny_bind (wpAny_specialOf T hl ?_)
  show wpAny _ _ (if (!id.endsWith ("." ++ name)) = true then _ else _) _ _ _
  rw [if_neg (by rw [he]; decide)]
  show wpAny _ _ (isInstance (.ref a) (.type (id.dropRight (name.length + 1)))) _ _ _
  rw [hd]
  exact wpAny_isInstance T FA.sub_ba h
theorem release_ba {a : Addr} (T : s.TypeIs (.ref a) "bytearray") {Q : Bool → Shared → Prop} (h : Q false s) : wpAny M A (Bytes.ownRelease (.ref a)) Q E s := by
  unfold Bytes.ownRelease
  exact wpAny_bind (own_ba (T := T) FA.look_release (by decide +kernel) (by decide +kernel) (wpAny_pure h))
theorem buffer_ba {a : Addr} {b : List UInt8} {id : String} {full : Bool} {Q : Option (Array UInt8) → Shared → Prop} (ho : s.heap.get? a = some (barr b)) (h : Q (some b.toArray) s) : wpAny M A (Bytes.buffer? id (.ref a) full) Q E s := by
  have T : s.TypeIs (.ref a) "bytearray" := ty_ba ho
  unfold Bytes.buffer?
  refine wpAny_bind (wpAny_specialOf T FA.look_buffer ?_)
  refine wpAny_bind (own_ba (T := T) FA.look_buffer (by decide +kernel) (by decide +kernel) ?_)
  refine bm_if_false rfl ?_
  refine wpAny_bind (wpAny_specialOf T FA.look_buffer ?_)
  refine wpAny_bind (release_ba T ?_)
  refine bm_if_false rfl ?_
  exact wpAny_bind (pay_ba ho (wpAny_pure h))
end
section
variable {prog : Program} {w : World} {A : Around} {E : Value → Shared → Prop} {s : Shared} {Q : Value → Shared → Prop}
theorem new_ba {a : Addr} {b : List UInt8} (ho : s.heap.get? a = some (barr b)) (hz : b.length ≤ 65536) (hQ : ∀ t k, Q (.bytes b.toArray t) { s with toks := k }) :
    codeAny (model prog w) A (.call (.builtin "bytes.__new__") ⟨[.type "bytes", .ref a], []⟩) (wants Q E) s := by
  refine codeAny_of_tree ?_
  show wpAny _ A.in1 (do checkBuiltinCall "bytes.__new__" ⟨[.type "bytes", .ref a], []⟩; again (.builtin "bytes.__new__" ⟨[.type "bytes", .ref a], []⟩)) _ _ s
  refine wpAny_bind (wpAny_of_eq (F.bm_newCall _) (wpAny_pure ⟨plainId_quiet F.bm_plain _, codeAny_builtin F.bm_entry ?_⟩))
  rw [Around.under_plainId F.bm_plain _]
  have hT : s.TypeIs (.ref a) "bytearray" := ty_ba ho
  unfold Builtin.«bytes.__new__»
  refine wpAny_bind (wpAny_of_eq (a := true) rfl ?_)
  refine bm_if_false rfl ?_
  refine wpAny_bind (wpAny_of_eq F.bm_sub ?_)
  refine bm_if_false rfl ?_
  refine wpAny_bind (wpAny_of_eq (F.bm_bind _) ?_)
  refine wpAny_bind (wpAny_of_eq (a := ()) rfl ?_)
  refine wpAny_bind (wpAny_of_eq (a := ()) rfl ?_)
  refine bm_if_false rfl ?_
  refine wpAny_bind (wpAny_specialOf hT FA.no_bytes ?_)
  refine wpAny_bind (wpAny_bind ?_)
  show wpAny _ _ (load a >>= _) _ _ _
  refine wpAny_bind (wpAny_load ho ?_)
  refine wpAny_pure (wpAny_pure ?_)
  refine bm_if_false rfl ?_
  refine wpAny_bind (wpAny_specialOf hT FA.noIndex ?_)
  refine bm_if_true rfl ?_
  first
    | show wpAny _ _ (Builtin.Bytes.buffer? "bytes.__new__" (.ref a) true >>= _) _ _ _
    | (refine wpAny_bind ?_; show wpAny _ _ (Builtin.Bytes.buffer? "bytes.__new__" (.ref a) true >>= _) _ _ _)
  refine wpAny_bind (buffer_ba ho ?_)
  refine wpAny_bind (wpAny_rule ?_)
  refine wpAny_bind (wpAny_mkBytes ?_ (show b.toArray.size ≤ sizeLine by rw [List.size_toArray, sizeLine_eq]; omega))
  show wpAny _ _ (if (Value.type "bytes" == Value.type "bytes") = true then _ else _) _ _ _
  refine bm_if_true (by decide) ?_
  first
    | exact wpAny_pure (hQ _ _)
    | exact wpAny_bind (wpAny_pure (wpAny_pure (hQ _ _)))
    | exact wpAny_pure (wpAny_pure (hQ _ _))
theorem bytes_ba {a : Addr} {b : List UInt8} (ho : s.heap.get? a = some (barr b)) (hz : b.length ≤ 65536) (hQ : ∀ t k, Q (.bytes b.toArray t) { s with toks := k }) : wpAny (model prog w) A (call (.type "bytes") [.ref a]) Q E s := by
  refine callType_codes (Q₁ := fun obj s₁ => s₁.TypeIs obj "bytes" ∧ Q obj s₁) F.bm_called (F.bm_typeCall _) F.entry_object_init
    (new_ba ho hz fun t k => ⟨PySem.W.typeIs_bytes _ _ _, hQ t k⟩) fun obj s₁ h₁ => ?_
  exact ⟨h₁.1, F.args_object_init_2 obj _, object_init_meets F.bm_called.init.lookup F.bm_called.made (by decide) prog w A.in1 _ s₁ ⟨h₁.1, rfl, h₁.2⟩⟩
end
end

-- part BA4
section
open Builtin
theorem joined_nil (parts : List (Array UInt8)) : (Bytes.joined #[] parts).toList = (parts.map (·.toList)).flatten := by
  unfold Bytes.joined
  have key : ∀ (l : List (Array UInt8)) (k : Nat) (acc : Array UInt8), ((l.zipIdx k).foldl (fun out (x : Array UInt8 × Nat) => match x with | (p, i) => (if i > 0 then out ++ #[] else out) ++ p) acc).toList = acc.toList ++ (l.map (·.toList)).flatten := by
    intro l
    induction l with
    | nil => intro k acc; simp
    | cons a l ih =>
      intro k acc
      rw [List.zipIdx_cons, List.foldl_cons, ih]
      simp
  simpa using key parts 0 #[]
theorem take_b {M : Model} {A : Around} {E : Value → Shared → Prop} {s : Shared} {id : String} {b : Array UInt8} {t : Tok} {Q : Option (Array UInt8 × Option Value) → Shared → Prop} (h : Q (some (b, none)) s) :
    wpAny M A (Bytes.takeBufferQuiet? id (.bytes b t) 0) Q E s := by
  unfold Bytes.takeBufferQuiet?
  refine wpAny_bind (wpAny_attempt ?_)
  unfold Bytes.takeBuffer?
  refine wpAny_bind (wpAny_of_eq (KBy.special_eq KBy.look_buffer) ?_)
  refine wpAny_bind (wpAny_of_eq KBy.own_buffer ?_)
  refine bm_if_false rfl ?_
  refine wpAny_bind (wpAny_of_eq (KBy.special_eq KBy.look_buffer) ?_)
  refine wpAny_bind (wpAny_of_eq KBy.buffer_eq ?_)
  exact wpAny_pure (wpAny_pure h)
theorem let_go_join {M : Model} {A : Around} {E : Value → Shared → Prop} {s : Shared} {keep : List Value} {Q : Unit → Shared → Prop} (h : Q () s) : ∀ (taken : List (Value × Option Value)), (∀ x ∈ taken, x.2 = none) → wpAny M A (Bytes.joinLetGo taken keep) Q E s
  | [], _ => wpAny_pure h
  | (x, w) :: rest, hn => by
    obtain rfl : w = none := hn _ (.head _)
    unfold Bytes.joinLetGo
    refine wpAny_bind (wpAny_letGo ?_)
    exact let_go_join h rest fun y hy => hn y (.tail _ hy)
theorem not_one {α : Type} {arr : Array Value} {f : Value → α} {g : Array Value → α} (h : ∀ x, arr ≠ #[x]) : Bytes.joinM.match_1 (fun _ => α) arr f g = g arr := by
  rcases arr with ⟨_ | ⟨a, _ | ⟨b, r⟩⟩⟩
  · rfl
  · exact absurd rfl (h a)
  · rfl
set_option maxHeartbeats 1000000 in
theorem meets_join {l : Addr} {vs : List Value} {bs : List (List UInt8)} {n : Nat} {t : Tok} (hb : BytesAre vs bs) (h2 : 2 ≤ vs.length) (hz : bs.flatten.length ≤ 65536) :
    Meets («bytes.join» ⟨[.bytes #[] t, .ref l], []⟩) (fun _ R s => s.heap.get? l = some (W.listOf vs.toArray n) ∧ ∀ t k, R (.ok (.ret (.bytes bs.flatten.toArray t))) { s with toks := k }) := by
  refine .of_wp fun prog w A R s hS => ?_
  obtain ⟨ho, h⟩ := hS
  have hT : s.TypeIs (.ref l) "list" := ⟨_, ho, rfl⟩
  show wpAny _ _ (Bytes.joinItems (.ref l) >>= _) _ _ s
  unfold Bytes.joinItems
  refine wpAny_bind (wpAny_bind (wpAny_typeOf hT ?_))
  refine bm_if_true rfl ?_
  refine wpAny_pure ?_
  refine wpAny_bind (wpAny_seqItems ho rfl ?_)
  have hnb : ∀ x, vs.toArray ≠ #[x] := fun x e => by
    have := congrArg Array.size e
    rw [List.size_toArray] at this
    simp at this
    omega
  have hbl := hb.length
  have main : ∀ (f : Nat → Array (Array UInt8) × List (Value × Option Value) → Sem (ForInStep (Array (Array UInt8) × List (Value × Option Value)))) (K : Array (Array UInt8) × List (Value × Option Value) → Sem Fin),
      (∀ i st b tb, vs[i]? = some (.bytes (List.toArray b) tb) → (∀ x ∈ st.2, x.2 = none ∧ x.1.onHeap = false) →
        ∀ (Q : ForInStep (Array (Array UInt8) × List (Value × Option Value)) → Shared → Prop), Q (.yield (st.1.push b.toArray, st.2 ++ [(.bytes b.toArray tb, none)])) s → wpAny (model prog w) A.in1 (f i st) Q (fun e s' => R (Except.error e) s') s) →
      (∀ taken, (∀ x ∈ taken, x.2 = none ∧ Value.onHeap x.1 = false) → wpAny (model prog w) A.in1 (K ((bs.map List.toArray).toArray, taken)) (fun fin s' => ∃ v, fin = Fin.done (Flow.ret v) ∧ R (Except.ok (Flow.ret v)) s') (fun e s' => R (Except.error e) s') s) →
      wpAny (model prog w) A.in1 (forIn (List.range' 0 vs.length) ((#[], []) : Array (Array UInt8) × List (Value × Option Value)) f >>= K) (fun fin s' => ∃ v, fin = Fin.done (Flow.ret v) ∧ R (Except.ok (Flow.ret v)) s') (fun e s' => R (Except.error e) s') s := by
    intro f K hf hK
    refine wpAny_bind ?_
    refine wpAny_forIn_list f (fun rest st s' => s' = s ∧ ∃ i, rest = List.range' i (vs.length - i) ∧ i ≤ vs.length ∧ st.1 = ((bs.take i).map List.toArray).toArray ∧ ∀ x ∈ st.2, x.2 = none ∧ x.1.onHeap = false) _ ?_ ?_ _ _ ⟨rfl, 0, rfl, Nat.zero_le _, rfl, fun _ h => nomatch h⟩
    · rintro x rest st s' ⟨rfl, i, hr, hi, h1, h2⟩
      have hlt : i < vs.length := by
        rcases Nat.lt_or_ge i vs.length with h | h
        · exact h
        · rw [show vs.length - i = 0 by omega] at hr; cases hr
      rw [show vs.length - i = (vs.length - (i + 1)) + 1 by omega, List.range'_succ] at hr
      obtain ⟨rfl, rfl⟩ := List.cons.inj hr
      obtain ⟨b, tb, hbi, e⟩ := hb.get (i := x) (v := vs[x]) (by simp [hlt])
      refine hf x st b tb (by rw [← e]; simp [hlt]) h2 _ ⟨rfl, x + 1, rfl, hlt, ?_, ?_⟩
      · show st.1.push b.toArray = _
        rw [h1, List.take_add_one, hbi]; simp
      · intro y hy
        rcases List.mem_append.mp hy with hy | hy
        · exact h2 y hy
        · rw [List.mem_singleton.mp hy]; exact ⟨rfl, rfl⟩
    · rintro st s' ⟨rfl, i, hr, hi, h1, h2⟩
      have : i = vs.length := by
        rcases Nat.lt_or_ge i vs.length with h | h
        · have := congrArg List.length hr; rw [List.length_range', List.length_nil] at this; omega
        · omega
      subst this
      rw [hbl, List.take_length] at h1
      have := hK st.2 h2
      rwa [← h1] at this
  dsimp only
  refine bm_if_true rfl ?_
  have er : List.range' [:vs.toArray.size].start [:vs.toArray.size].size [:vs.toArray.size].step = List.range' 0 vs.length := by simp [Std.Legacy.Range.size]
  rw [← List.size_toArray] at main er
  have ho' : s.heap.get? l = some ({ cls := .type "list", data := .seq vs.toArray n } : Obj) := ho
  have hvv : ∀ i b tb, vs[i]? = some (.bytes (List.toArray b) tb) → vs.toArray.getD i Value.none = .bytes b.toArray tb := fun i b tb hv => by
    obtain ⟨hlt, e⟩ := List.getElem?_eq_some_iff.mp hv
    simp [Array.getD, hlt, e]
  clear ho
  generalize vs.toArray = arr at hnb main er ho' hvv ⊢
  rw [not_one (fun x => hnb x)]
  rw [Std.Legacy.Range.forIn_eq_forIn_range']
  rw [er]
  refine main _ _ ?_ ?_
  · intro i st b tb hv htk Q hQ
    have hget := hvv i b tb hv
    have hany : (st.2.any fun x => x.1.onHeap) = false := by
      rw [List.any_eq_false]
      intro x hx
      rw [(htk x hx).2]; decide
    refine wpAny_bind (wpAny_seqItems ho' rfl ?_)
    dsimp only
    rw [hget, hany]
    refine bm_if_false rfl ?_
    refine wpAny_bind (wpAny_holding (take_b ?_))
    dsimp only
    refine wpAny_bind (wpAny_seqItems ho' rfl ?_)
    dsimp only
    refine bm_if_false (by simp) ?_
    exact wpAny_pure hQ
  · intro taken htk
    dsimp only
    refine wpAny_bind (wpAny_of_eq (a := #[]) rfl ?_)
    have hsz : Bytes.tooLong ((bs.map List.toArray).toArray.foldl (fun x1 x2 => x1 + x2.size) ((#[] : Array UInt8).size * ((bs.map List.toArray).toArray.size - 1))) = false := by
      refine KBy.tooLong_not ?_
      have key : ∀ (l : List (List UInt8)) (k : Nat), List.foldl (fun x1 (x2 : Array UInt8) => x1 + x2.size) k (l.map List.toArray) = k + l.flatten.length := by
        intro l
        induction l with
        | nil => intro k; rfl
        | cons a l ih => intro k; rw [List.map_cons, List.foldl_cons, ih]; simp; omega
      rw [List.foldl_toArray, key]
      show 0 * _ + bs.flatten.length ≤ _
      omega
    rw [hsz]
    refine bm_if_false rfl ?_
    have hj : Bytes.joined #[] (bs.map List.toArray) = bs.flatten.toArray := by
      apply Array.toList_inj.mp
      rw [joined_nil]
      simp [Function.comp_def]
    show wpAny _ _ (mkBytes (Bytes.joined #[] (bs.map List.toArray)) >>= _) _ _ _
    rw [hj]
    refine wpAny_bind (wpAny_mkBytes ?_ (show bs.flatten.toArray.size ≤ sizeLine by rw [List.size_toArray, sizeLine_eq]; omega))
    refine wpAny_bind (wpAny_holding (wpAny_point ?_))
    refine wpAny_bind (let_go_join ?_ taken fun x hx => (htk x hx).1)
    exact wpAny_pure ⟨_, rfl, h _ _⟩
theorem join_b {prog : Program} {w : World} {A : Around} {E : Value → Shared → Prop} {s : Shared} {h₀ : Heap} {L : Addr} {news : Led} {Q : Value → Shared → Prop} {l : Addr} {vs : List Value} {bs : List (List UInt8)} {n : Nat} {t : Tok} (N : News h₀ L s.heap news) (hm : (l, W.listOf vs.toArray n) ∈ news) (hb : BytesAre vs bs) (h2 : 2 ≤ vs.length) (hz : bs.flatten.length ≤ 65536)
    (h : ∀ t k, Q (.bytes bs.flatten.toArray t) { s with toks := k }) : wpAny (model prog w) A (call (.builtin "bytes.join") [.bytes #[] t, .ref l]) Q E s :=
  call_meets FA.slot_bytes_join rfl FA.entry_bytes_join (FA.args_bytes_join_2 _ _) (meets_join hb h2 hz) ⟨(N _ hm).1, h⟩
theorem join_m {prog : Program} {w : World} {A : Around} {E : Value → Shared → Prop} {s : Shared} {b : Array UInt8} {t : Tok} {pl : Sem Bool} {Q : Value × List Value → Shared → Prop} (h : Q (.builtin "bytes.join", [.bytes b t]) s) :
    wpAny (model prog w) A (getMethod (.bytes b t) (PySem.Str.ofString "join") pl) Q E s :=
  getMethod_builtin rfl FB.plainAttrs_bytes FA.slot_bytes_join FA.type_bytes_join (fun a e => by cases e) h
theorem extend_m {prog : Program} {w : World} {A : Around} {E : Value → Shared → Prop} {s : Shared} {a : Addr} {b : List UInt8} {pl : Sem Bool} {Q : Value × List Value → Shared → Prop} (ho : s.heap.get? a = some (barr b)) (h : Q (.builtin "bytearray.extend", [.ref a]) s) :
    wpAny (model prog w) A (getMethod (.ref a) (PySem.Str.ofString "extend") pl) Q E s :=
  getMethod_builtin (ty_ba ho) FA.plainAttrs_bytearray FA.slot_bytearray_extend FA.type_bytearray_extend (fun a e => by cases e; exact ⟨_, ho, rfl⟩) h
end

-- part C8
section
local macro_rules | `(tactic| walk_at "call ref") => `(tactic| (k_here; (with_reducible show wpAny _ _ (PySem.call (Value.ref 127) [Value.ref _]) _ _ _); refine stop ?_))
local macro_rules | `(tactic| walk_at "getMethod bytes") => `(tactic| (k_here; (with_reducible refine join_m ?_)))
set_option maxHeartbeats 1000000 in
theorem write_call {w : World} {H : Heap} {s : Shared} {l : Addr} {vs : List Value} {n : Nat} {rows : List Row}
    (G : Gr w H) (hk : ∀ b o, H.get? b = some o → s.heap.get? b = some o) (hl : s.heap.get? l = some (W.listOf (List.toArray vs) n)) (hv : All2 (PieceAt (fun a o => s.heap.get? a = some o)) vs rows) (hn : rows.length ≤ 8) (h2 : 2 ≤ rows.length) (hr : ∀ r ∈ rows, GoodP r) :
    Call w [] 12 120 (.ref 132) [.ref l] s (fun v news' => (∃ t, v = .bytes (List.toArray (encs rows)) t) ∧ news' = []) := by
  refine' call_def G hk (fun _ h => nomatch h) ?ho ?hcd ?hb ?hl ?h ?c1 ?c2 ?c3 ?c4
  walk_at "my enter"
  intro g L' h₁ A mean mg mb hA hd hu X T hg hg' hL F N Z hZ
  have hlg : g.get? l = some (W.listOf (List.toArray vs) n) := hg _ _ nofun hl
  have hvg : All2 (PieceAt (fun a o => g.get? a = some o)) vs rows := hv.mono fun v x h => h.mono fun a o h => hg _ _ nofun h
  walk_at "my go"
  unfold Stop
  rename Fr _ _ _ _ => F1
  have hvl := hvg.length
  refine comp_base (fun i ys news => news = [] ∧ BytesAre ys ((rows.take i).map enc)) hA hlg (by omega) F1 (news := []) News.nil ⟨rfl, .nil⟩ ?_ ?_
  · rintro i v ys news₁ h tk C D o oL nD mC I hvi ⟨rfl, hys⟩ hoff hCL F5 N5
    obtain ⟨r, hri, hpa⟩ := hvg.get hvi
    k_steps
    all_goals (try first | exact (show Addr from (0 : Nat)) | exact (show Str from Str.ofString "") | exact Value.none | exact (show List (Str × Addr) from []))
    refine Call.pure (piece_call ⟨X, _, _, _, T⟩ F5.keep (hpa.mono fun a o h => F5.keep _ _ h) (hr r (List.mem_of_getElem? hri))) F5 N5 (by assumption) (by walk_at "my room") (by walk_at "my room") ?_
    rintro v' h' tk' F6 N6 ⟨t, rfl⟩
    refine ⟨_, _, _, [], rfl, F6, N6, no_mem, rfl, ?_⟩
    rw [List.take_add_one, hri]
    simpa using hys.snoc
  · rintro D h₂ tk₂ ys nD news₂ ⟨rfl, hys⟩ hoff2 F5 N5
    rw [hvl, List.take_length] at hys
    k_steps
    (try dsimp only)
    refine join_b N5 (.head _) hys (by rw [hys.length, List.length_map]; omega) ?_ ?_
    · have := encs_len fun x hx => (hr x hx).small
      unfold encs at this
      rw [List.flatMap_def] at this
      omega
    · intro t k
      walk_at "my end0"
      exact ⟨t, by unfold encs; rw [List.flatMap_def]⟩
end

-- part B10
inductive Ev where
  | marker (c : Nat)
  | seg (c : Nat) (p : List UInt8)
  | data (b : List UInt8)
noncomputable def EvV : Ev → List Value → Prop
  | .marker c, its => ∃ t1 t2, its = [.str "marker" t1, .int (c : Int) t2]
  | .seg c p, its => ∃ t1 t2 t3, its = [.str "segment" t1, .int (c : Int) t2, .bytes p.toArray t3]
  | .data b, its => ∃ t1 t2, its = [.str "data" t1, .bytes b.toArray t2]
noncomputable def addData (b : List UInt8) : List Row → Option (List Row)
  | [] => none
  | [r] => some [{ r with dat := r.dat ++ b }]
  | r :: s :: t => (addData b (s :: t)).map (r :: ·)
noncomputable def stepE (ps : List Row) : Ev → Option (List Row)
  | .marker c => some (ps ++ [⟨c, [], []⟩])
  | .seg c p => some (ps ++ [⟨c, p, []⟩])
  | .data b => addData b ps
noncomputable def runE : List Row → List Ev → Option (List Row)
  | ps, [] => some ps
  | ps, e :: es => (stepE ps e).bind fun qs => runE qs es
theorem addData_snoc (b : List UInt8) (r : Row) : ∀ ps : List Row, addData b (ps ++ [r]) = some (ps ++ [{ r with dat := r.dat ++ b }])
  | [] => rfl
  | [_] => rfl
  | p :: q :: t => by
    have ih := addData_snoc b r (q :: t)
    show (addData b (q :: (t ++ [r]))).map (p :: ·) = _
    rw [show q :: (t ++ [r]) = (q :: t) ++ [r] from rfl, ih]
    rfl
theorem runE_append : ∀ (es fs : List Ev) (ps : List Row), runE ps (es ++ fs) = (runE ps es).bind fun qs => runE qs fs
  | [], _, _ => rfl
  | e :: es, fs, ps => by
    show (stepE ps e).bind _ = ((stepE ps e).bind _).bind _
    cases stepE ps e with
    | none => rfl
    | some qs => exact runE_append es fs qs
noncomputable def evLen : List Ev → Nat
  | [] => 0
  | .data b :: es => b.length + evLen es
  | _ :: es => evLen es
section
variable {prog : Program} {w : World} {A : Around} {E : Value → Shared → Prop} {s : Shared} {h₀ : Heap} {L : Addr} {m : Str → Option Value} {news : Led} {Q : Value → Shared → Prop} {value slice : PySem.Expr}
theorem item_tb {a : Addr} {its : List Value} {i : Int} {u : Tok} {v : Value} (F : Fr h₀ L s.heap m) (ha : h₀.get? a = some (tupO its)) (h0 : 0 ≤ i) (h1 : i < 2 ^ 63) (hv : its[i.toNat]? = some v) (h : Q v s)
    (hs : subscripted slice false (.ref a) (.int i u) = operate [.ref a, .int i u] (getItem (.ref a) (.int i u)) := by with_unfolding_all rfl) (hg : ∀ r, letTemporaryGo value (.ref a) r = pure () := by intro _; with_unfolding_all rfl) :
    wpAny (model prog w) A (subscriptTail value slice (.ref a) (.int i u)) Q E s := by
  have hlt : i.toNat < its.length := (List.getElem?_eq_some_iff.mp hv).1
  refine item_tupleL (l := its) ⟨_, F.keep _ _ ha, rfl, 0, rfl⟩ (by omega) h1 (j := i.toNat) ?_ hv h hs hg
  have hn : ¬ i < 0 := by omega
  have h2 : i < (its.length : Int) := by omega
  simp [seqIndex?, hn, h2]
end

-- part B11
theorem snoc_cases {α : Type} (l : List α) : l = [] ∨ ∃ m x, l = m ++ [x] := by
  induction l with
  | nil => exact .inl rfl
  | cons a l ih =>
    rcases ih with rfl | ⟨m, x, rfl⟩
    · exact .inr ⟨[], a, rfl⟩
    · exact .inr ⟨a :: m, x, rfl⟩
theorem step_bound {B : Nat} {ps qs : List Row} {e : Ev} (h : stepE ps e = some qs) (hb : ∀ x ∈ ps, x.dat.length ≤ B) : qs.length ≤ ps.length + 1 ∧ ∀ x ∈ qs, x.dat.length ≤ B + evLen [e] := by
  cases e with
  | marker c =>
    cases h
    refine ⟨by simp, fun x hx => ?_⟩
    rcases List.mem_append.mp hx with hx | hx
    · exact Nat.le_trans (hb x hx) (Nat.le_add_right _ _)
    · rw [List.mem_singleton.mp hx]; exact Nat.zero_le _
  | seg c p =>
    cases h
    refine ⟨by simp, fun x hx => ?_⟩
    rcases List.mem_append.mp hx with hx | hx
    · exact Nat.le_trans (hb x hx) (Nat.le_add_right _ _)
    · rw [List.mem_singleton.mp hx]; exact Nat.zero_le _
  | data b =>
    rcases snoc_cases ps with rfl | ⟨rs, r, rfl⟩
    · cases h
    · have : addData b (rs ++ [r]) = some qs := h
      rw [addData_snoc] at this
      cases this
      refine ⟨by simp, fun x hx => ?_⟩
      rcases List.mem_append.mp hx with hx | hx
      · exact Nat.le_trans (hb x (List.mem_append_left _ hx)) (Nat.le_add_right _ _)
      · rw [List.mem_singleton.mp hx]
        have := hb r (by simp)
        show (r.dat ++ b).length ≤ B + (b.length + 0)
        rw [List.length_append]
        omega
theorem evLen_append : ∀ es fs : List Ev, evLen (es ++ fs) = evLen es + evLen fs
  | [], _ => (Nat.zero_add _).symm
  | .marker _ :: es, fs => evLen_append es fs
  | .seg _ _ :: es, fs => evLen_append es fs
  | .data b :: es, fs => by
    show b.length + evLen (es ++ fs) = b.length + evLen es + evLen fs
    rw [evLen_append es fs, Nat.add_assoc]
theorem runE_bound : ∀ (es : List Ev) {B : Nat} {ps qs : List Row}, runE ps es = some qs → (∀ x ∈ ps, x.dat.length ≤ B) → qs.length ≤ ps.length + es.length ∧ ∀ x ∈ qs, x.dat.length ≤ B + evLen es
  | [], B, ps, qs, h, hb => by cases h; exact ⟨Nat.le_refl _, hb⟩
  | e :: es, B, ps, qs, h, hb => by
    have h' : (stepE ps e).bind (fun rs => runE rs es) = some qs := h
    obtain ⟨rs, h1, h2⟩ := Option.bind_eq_some_iff.mp h'
    obtain ⟨b1, b2⟩ := step_bound h1 hb
    obtain ⟨c1, c2⟩ := runE_bound es h2 b2
    refine ⟨by rw [List.length_cons]; omega, fun x hx => ?_⟩
    have := c2 x hx
    have e1 : evLen (e :: es) = evLen [e] + evLen es := evLen_append [e] es
    omega
theorem runE_take {evs : List Ev} {rows : List Row} (h : runE [] evs = some rows) (i : Nat) : ∃ ps, runE [] (evs.take i) = some ps ∧ ps.length ≤ i ∧ ∀ x ∈ ps, x.dat.length ≤ evLen evs := by
  have h' := h
  rw [← List.take_append_drop i evs, runE_append] at h'
  obtain ⟨ps, h1, h2⟩ := Option.bind_eq_some_iff.mp h'
  obtain ⟨b1, b2⟩ := runE_bound (evs.take i) (B := 0) h1 (fun _ h => nomatch h)
  refine ⟨ps, h1, ?_, fun x hx => ?_⟩
  · rw [List.length_take] at b1; simp at b1; omega
  · have := b2 x hx
    have e : evLen evs = evLen (evs.take i) + evLen (evs.drop i) := by rw [← evLen_append, List.take_append_drop]
    omega
theorem runE_next {evs : List Ev} {rows : List Row} {ps : List Row} {i : Nat} {e : Ev} (h : runE [] evs = some rows) (hp : runE [] (evs.take i) = some ps) (he : evs[i]? = some e) : ∃ qs, stepE ps e = some qs ∧ runE [] (evs.take (i + 1)) = some qs := by
  obtain ⟨qs, h1, _⟩ := runE_take h (i + 1)
  have h2 := h1
  rw [List.take_add_one, he, runE_append, hp] at h2
  have h3 : (stepE ps e).bind (fun rs => runE rs []) = some qs := h2
  obtain ⟨rs, a, b⟩ := Option.bind_eq_some_iff.mp h3
  cases b
  exact ⟨_, a, h1⟩
noncomputable def Shape (lp : Addr) (ps : List Row) (news : Led) : Prop := (ps = [] ∧ ∃ n, news = [(lp, W.listOf (List.toArray []) n)]) ∨
  ∃ qs x vs a d n z1 z2 z3 k1 k2 k3 t1 t2 t3 tl, ps = qs ++ [x] ∧ news = (lp, W.listOf (List.toArray (vs ++ [.ref a])) n) :: (a, instObj 116 d) :: (d, dictOf (pieceDict x z1 z2 z3 k1 k2 k3 t1 t2 t3) 3) :: tl ∧
    @LT.lt Nat _ lp d ∧ @LT.lt Nat _ d a ∧ (∀ p ∈ tl, @LT.lt Nat _ lp p.1 ∧ @LT.lt Nat _ p.1 d) ∧ All2 (PieceAt (fun a o => (a, o) ∈ tl)) vs qs
noncomputable def PJ (evs : List Ev) (i : Nat) (m : Str → Option Value) (news : Led) : Prop := ∃ lp ps, AllB m [("pieces", .ref lp)] ∧ runE [] (evs.take i) = some ps ∧ Shape lp ps news
theorem PieceAt.self {tl : Led} {x : Row} {a d : Addr} {z1 z2 z3 k1 k2 k3 t1 t2 t3} : PieceAt (fun b o => (b, o) ∈ (a, instObj 116 d) :: (d, dictOf (pieceDict x z1 z2 z3 k1 k2 k3 t1 t2 t3) 3) :: tl) (.ref a) x :=
  ⟨a, d, z1, z2, z3, k1, k2, k3, t1, t2, t3, rfl, .head _, .tail _ (.head _)⟩

-- part B12
noncomputable def CallC (w : World) (M : Led) (d u : Nat) (f : Value) (vs : List Value) (s : Shared) (P : Value → Led → Prop) : Prop :=
  ∀ (A : Around) (R : Result → Shared → Prop), A.handled = none → A.depth + d < recursionLimit → A.units + u < cLine →
    (∀ v h' tk' news', Grown M s.heap h' news' → P v news' → R (.ok (.ret v)) { s with heap := h', toks := tk' }) →
    codeAny (model PySem.Challenge.rw_nz0248_01.row.prog w) A (.call f ⟨vs, []⟩) R s
theorem CallC.call {w : World} {M : Led} {d u : Nat} {f : Value} {vs : List Value} {s : Shared} {P : Value → Led → Prop} (C : CallC w M d u f vs s P) : Call w M d u f vs s P :=
  fun A _ _ a b c hQ => wpAny_call (C A _ a b c hQ)
theorem Grown.back {M rest news news' : Led} {h h' g : Heap} {L : Addr} {m : Str → Option Value} (R : Grown M h h' news') (F : Fr g L h m) (N : News g L h news) (hM : ∀ p ∈ M, p ∈ news) (hr : ∀ p ∈ rest, p ∈ news ∧ p.1 ∉ adr M) :
    Fr g L h' m ∧ News g L h' (news' ++ rest) ∧ ∀ p ∈ news', p.1 ∈ adr M ∨ ∀ q ∈ news, q.1 ≠ p.1 := by
  obtain ⟨oL, es, ep, hL, hLd, hLk, hLf⟩ := F.ns
  have nL : L ∉ adr M := fun q => by
    obtain ⟨p, hp, e⟩ := List.mem_map.mp q
    exact (N p (hM p hp)).2.1 e
  have ng : ∀ b o, g.get? b = some o → b ∉ adr M := fun b o e q => by
    obtain ⟨p, hp, rfl⟩ := List.mem_map.mp q
    rw [(N p (hM p hp)).2.2] at e; cases e
  refine ⟨⟨⟨oL, es, ep, R.keep L oL nL hL, hLd, hLk, hLf⟩, fun b o e => R.keep b o (ng b o e) (F.keep b o e), F.above⟩, (fun p hp => ?_), (fun p hp => ?_)⟩
  · rcases List.mem_append.mp hp with hp | hp
    · refine ⟨R.here p hp, fun q => ?_, ?_⟩
      · rcases R.own p hp with h1 | h1
        · exact nL (q ▸ h1)
        · rw [q, hL] at h1; cases h1
      · rcases R.own p hp with h1 | h1
        · obtain ⟨q, hq, e⟩ := List.mem_map.mp h1
          rw [← e]; exact (N q (hM q hq)).2.2
        · cases e : g.get? p.1 with
          | none => rfl
          | some o => rw [F.keep _ _ e] at h1; cases h1
    · have := hr p hp
      exact ⟨R.keep _ _ this.2 (N p this.1).1, (N p this.1).2⟩
  · rcases R.own p hp with h1 | h1
    · exact .inl h1
    · refine .inr fun q hq e => ?_
      rw [← e, (N q hq).1] at h1; cases h1

theorem call_defK {w : World} {H : Heap} {M : Led} {d u : Nat} {s : Shared} {vs : List Value} {P : Value → Led → Prop}
    {name qual : Str} {params : Arguments} {body : List Stmt} {scope : Scope} {dV kV doc pm cdv ct oc : Value} {an od : Option Addr} {osl : Array (Option Value)} {f : Addr} {binds : List (Str × Value)}
    (G : Gr w H) (hk : ∀ b o, H.get? b = some o → s.heap.get? b = some o) (hM : ∀ p ∈ M, s.heap.get? p.1 = some p.2 ∧ H.get? p.1 = none)
    (ho : (hd.heap_1 w.params).lookup f = some ⟨oc, od, .func (fnOf name qual params body scope dV kV doc pm an cdv ct), osl⟩) (hcd : codeIn (hd.heap_1 w.params) cdv qual = true)
    (hbind : BindsTo s (fnOf name qual params body scope dV kV doc pm an cdv ct) ⟨vs, []⟩ binds) (hloc : ∀ y ∈ binds, scope.names.lookup y.1 = some .local)
    (h : ∀ g L' h₁ A mean mg mb, Around.handled A = none → Around.depth A + d < recursionLimit → Around.units A + u < cLine → (hd.heap_1 w.params).In g → Top hd.view_1 (looseW hd.view_1 [Str.ofString "Piece"]) mean mg mb g →
      (∀ b o, b ∉ adr M → s.heap.get? b = some o → g.get? b = some o) → (∀ b o, g.get? b = some o → s.heap.get? b = some o) → L' = s.heap.objs.size →
      Fr g L' h₁ (fun y => binds.reverse.lookup y) → News g L' h₁ M →
      ∀ Z : Flow → Shared → Prop, (∀ fl s', Ends g L' s P fl s' → Z fl s') → wpAny (model PySem.Challenge.rw_nz0248_01.row.prog w) A (execs body (envOf qual scope L' f cdv)) Z (fun _ _ => False) { s with heap := h₁, toks := s.toks + binds.length })
    (hco : scope.isCoroutine = false := by rfl) (hgen : scope.isGenerator = false := by rfl) (hk' : scope.kind = .function := by rfl)
    (hcell : ∀ x ∈ scope.names, x.2 ≠ .cell := by decide) : CallC w M (d + 1) (u + 3) (.ref f) vs s P := by
  intro A R hA hd hu hQ
  have X := G.1
  obtain ⟨mean, mg, mb, T⟩ := G.2
  have st : ∀ b o, H.get? b = some o → (hideAll s.heap (adr M)).get? b = some o := fun b o e => hideAll_get _ (hk b o e) fun q => by
    obtain ⟨p, hp, rfl⟩ := List.mem_map.mp q
    rw [(hM p hp).2] at e; cases e
  refine codeAny_call_def (fd := fnOf name qual params body scope dV kV doc pm an cdv ct) (body := body) (binds := binds) (by omega) (hk _ _ (X _ _ ho)) rfl (T.nolimit.keeps hk) ((codeRec_of X hcd).keeps hk) rfl hbind hcell hloc (fun h₁ hns hk₁ => ?_) hco hgen hk'
  have L := h (hideAll s.heap (adr M)) s.heap.objs.size h₁ (A.deeper (envOf qual scope s.heap.objs.size f cdv)) mean mg mb hA (by show A.depth + 1 + d < _; omega) (by show A.units + 3 + u < _; omega) (X.keeps st) (T.keeps st)
    (fun b o hb e => hideAll_get _ e hb) (fun b o e => of_hideAll _ e) rfl ⟨hns, fun b o e => hk₁ b o (of_hideAll _ e), Nat.le_of_eq (hideAll_size _ _)⟩
    (fun p hp => ⟨hk₁ _ _ (hM p hp).1, Nat.ne_of_lt (Heap.lt_size (hM p hp).1), hideAll_none _ (List.mem_map_of_mem hp)⟩)
  refine wpAny_mono (L _ fun _ _ y => y) (fun fl s' hl => ?_) fun _ _ y => y.elim
  obtain ⟨h', tk, m', news', rfl, F', N', p⟩ := hl
  refine hQ _ h' tk news' ⟨fun b o hb e => F'.keep b o (hideAll_get _ e hb), fun p hp => (N' p hp).1, fun p hp => ?_, Nat.le_of_lt F'.ns.lt⟩ p
  by_cases q : p.1 ∈ adr M
  · exact .inl q
  · refine .inr ?_
    cases e : s.heap.get? p.1 with
    | none => rfl
    | some o => have := (N' p hp).2.2; rw [hideAll_get _ e q] at this; cases this

theorem make_use {w : World} {g : Heap} {L : Addr} {s : Shared} {m : Str → Option Value} {news : Led} {A : Around} {Q E : Value → Shared → Prop} {C fI : Addr} {rest : List Value} {d u : Nat} {P : Addr → Addr → Led → Prop}
    (F : Fr g L s.heap m) (N : News g L s.heap news) (X : (hd.heap_1 w.params).In g) (hm : makesIn (hd.heap_1 w.params) C = true) (hi : findIn (hd.heap_1 w.params) (.ref C) "__init__" = some (some (.ref fI))) (hf : typeIn (hd.heap_1 w.params) (.ref fI) = some (.type "function"))
    (hA : A.handled = none) (hd : A.depth + (d + 1) < recursionLimit) (hu : A.units + (u + 1) < cLine)
    (CI : ∀ x dx (s' : Shared), (∀ b o, g.get? b = some o → s'.heap.get? b = some o) → s'.heap.get? x = some (instObj C dx) → s'.heap.get? dx = some emptyDict → g.get? x = none → g.get? dx = none → @LT.lt Nat _ dx x →
      CallC w [(x, instObj C dx), (dx, dictOf [] 0)] d u (.ref fI) (.ref x :: rest) s' (fun v n => v = .none ∧ P x dx n))
    (hQ : ∀ x dx h' tk' news', Fr g L h' m → News g L h' (news' ++ news) → (∀ p ∈ news, @LT.lt Nat _ p.1 dx) → @LT.lt Nat _ dx x → P x dx news' → Q (.ref x) { s with heap := h', toks := tk' }) :
    wpAny (model PySem.Challenge.rw_nz0248_01.row.prog w) A (PySem.call (.ref C) rest) Q E s := by
  refine wpAny_call (make_K F N (X.keeps F.keep) hm hi hf fun x dx h' F' N' l1 l2 => ?_)
  have w1 : (Code.builtin "type.__call__" ⟨.ref C :: rest, []⟩).weight = 1 := by rfl
  have w2 : (Code.builtin "type.__call__" ⟨.ref C :: rest, []⟩).cUnits = 1 := by rfl
  have Nx := N' _ (.head _)
  have Nd := N' _ (.tail _ (.head _))
  refine CI x dx { s with heap := h' } F'.keep Nx.1 Nd.1 Nx.2.2 Nd.2.2 l2 _ _ hA (by show A.depth + _ + d < _; rw [w1]; omega) (by show A.units + _ + u < _; rw [w2]; omega) fun v h2 tk2 news' Gw hP => ?_
  obtain ⟨rfl, hP⟩ := hP
  obtain ⟨F2, N2, _⟩ := Gw.back (rest := news) F' N' (fun p hp => by
    simp only [List.mem_cons, List.not_mem_nil, or_false] at hp ⊢
    rcases hp with rfl | rfl <;> simp) fun p hp => ⟨by simp [hp], by
      have := l1 p hp
      simp only [adr, List.map_cons, List.map_nil, List.mem_cons, List.not_mem_nil, or_false, not_or]
      exact ⟨Nat.ne_of_lt (Nat.lt_trans this l2), Nat.ne_of_lt this⟩⟩
  exact ⟨rfl, hQ x dx h2 tk2 news' F2 N2 l1 l2 hP⟩
theorem item_last {prog : Program} {w : World} {A : Around} {E : Value → Shared → Prop} {s : Shared} {h₀ : Heap} {L : Addr} {news : Led} {Q : Value → Shared → Prop} {value slice : PySem.Expr} {l : Addr} {vs : List Value} {v : Value} {n : Nat} {u : Tok}
    (N : News h₀ L s.heap news) (hm : (l, W.listOf (vs ++ [v]).toArray n) ∈ news) (h : Q v s)
    (hs : subscripted slice false (.ref l) (.int (-1) u) = operate [.ref l, .int (-1) u] (getItem (.ref l) (.int (-1) u)) := by with_unfolding_all rfl) :
    wpAny (model prog w) A (subscriptTail value slice (.ref l) (.int (-1) u)) Q E s := by
  refine kde_neg (News.isList N hm) (by decide) (by decide) (j := vs.length) ?_ (by simp) h hs
  simp [seqIndex?]
  omega
theorem evLen_mem {b : List UInt8} : ∀ {es : List Ev}, Ev.data b ∈ es → b.length ≤ evLen es
  | .data c :: es, h => by
    show b.length ≤ c.length + evLen es
    rcases List.mem_cons.mp h with e | h
    · cases e; omega
    · have := evLen_mem h; omega
  | .marker _ :: es, h => by
    rcases List.mem_cons.mp h with e | h
    · cases e
    · exact evLen_mem (es := es) h
  | .seg _ _ :: es, h => by
    rcases List.mem_cons.mp h with e | h
    · cases e
    · exact evLen_mem (es := es) h
theorem turn_piece {g : Heap} {L2 lp a d I : Addr} {evs : List Ev} {i n : Nat} {z1 z2 z3 : Int} {k1 k2 k3 t1 t2 t3 : Tok} {vs : List Value} {tl : Led} {qs ps : List Row} {x : Row} {it : Obj} {s₁ : Shared} {h : Heap} {tk : Nat} {m : Str → Option Value} {Q : Flow → Shared → Prop}
    (hqs : runE [] (evs.take (i + 1)) = some ps) (he : ps = qs ++ [x]) (hm : m "pieces" = some (.ref lp)) (F : Fr g L2 h m) (N : News g L2 h ((I, it) :: (lp, W.listOf (List.toArray (vs ++ [.ref a])) n) :: (a, instObj 116 d) :: (d, dictOf (pieceDict x z1 z2 z3 k1 k2 k3 t1 t2 t3) 3) :: tl))
    (off : @Ne Nat lp I ∧ @Ne Nat a I ∧ @Ne Nat d I ∧ ∀ p ∈ tl, p.1 ≠ I) (hld : @LT.lt Nat _ lp d) (hda : @LT.lt Nat _ d a) (htl : ∀ p ∈ tl, @LT.lt Nat _ lp p.1 ∧ @LT.lt Nat _ p.1 d) (hall : All2 (PieceAt (fun a o => (a, o) ∈ tl)) vs qs) :
    Turn g L2 s₁ I it (fun m' n' => SubL [] n' ∧ PJ evs (i + 1) m' n') Q .next { s₁ with heap := h, toks := tk } := by
  refine Turn.next F N ?_ ⟨trivial, lp, ps, ⟨hm, trivial⟩, hqs, .inr ⟨qs, x, vs, a, d, n, z1, z2, z3, k1, k2, k3, t1, t2, t3, tl, he, rfl, hld, hda, htl, hall⟩⟩
  intro p hp
  simp only [List.mem_cons] at hp
  rcases hp with rfl | rfl | rfl | hp
  · exact off.1
  · exact off.2.1
  · exact off.2.2.1
  · exact off.2.2.2 p hp
theorem allLt {D : Addr} : ∀ {tl : Led}, AllLt D tl → ∀ p ∈ tl, @LT.lt Nat _ p.1 D
  | [], _, _, h => nomatch h
  | q :: tl, ⟨a, r⟩, p, h => by
    rcases List.mem_cons.mp h with rfl | h
    · exact a
    · exact allLt r p h

-- part C10
local macro_rules | `(tactic| walk_at "subscriptTail Name Constant ref int") => `(tactic| (k_here; (with_reducible show wpAny _ _ (subscriptTail _ _ (Value.ref _) (Value.int _ _)) _ _ _); k_dflt (refine' item_tb ?F ?a ?z ?o ?v ?_; (case F => k_asm); (case a => with_reducible assumption); (case z => decide); (case o => decide); (case v => exact rfl); k_whole)))
local macro_rules | `(tactic| walk_at "subscriptTail Name") => `(tactic| (k_here; (with_reducible show wpAny _ _ (subscriptTail _ _ (Value.ref _) (Value.int (-1) _)) _ _ _); k_dflt (refine' item_last (vs := _) ?N ?m ?_; (case N => k_asm); (case m => k_mem); k_whole)))
section
local macro_rules | `(tactic| walk_at "spare") => `(tactic| skip)
set_option maxHeartbeats 1000000 in
theorem init1_call {w : World} {H : Heap} {s : Shared} {x dx : Addr} {c : Nat} {t : Tok} (G : Gr w H) (hk : ∀ b o, H.get? b = some o → s.heap.get? b = some o) (hx : s.heap.get? x = some (instObj 116 dx)) (hd : s.heap.get? dx = some (dictOf [] 0)) (h1 : H.get? x = none) (h2 : H.get? dx = none) (hlt : @LT.lt Nat _ dx x) :
    CallC w [(x, instObj 116 dx), (dx, dictOf [] 0)] 3 30 (.ref 113) [.ref x, .int (c : Int) t] s (fun v n => v = .none ∧ ∃ z1 z2 z3 k1 k2 k3 t1 t2 t3, n = [(x, instObj 116 dx), (dx, dictOf (pieceDict ⟨c, [], []⟩ z1 z2 z3 k1 k2 k3 t1 t2 t3) 3)]) := by
  have XS := G.1.keeps hk
  refine' call_defK G hk (by simp; exact ⟨⟨hx, h1⟩, hd, h2⟩) ?ho ?hcd ?hb ?hl ?h ?c1 ?c2 ?c3 ?c4
  (case ho => k_is); (case hcd => k_is); (case hb => exact binds_K XS rfl (by k_is) rfl rfl rfl); (case hl => exact locs rfl); (case c1 => exact rfl); (case c2 => exact rfl); (case c3 => exact rfl); (case c4 => decide)
  intro g L' h₁ A mean mg mb hA hd hu X T hg hg' hL F N Z hZ
  walk_at "my go"
  (first | refine hZ _ _ ?_ | (refine hZ2 _ _ ?_; refine hZ _ _ ?_)); exact Ends.next (by assumption) (by assumption) ⟨rfl, _, _, _, _, _, _, _, _, _, rfl⟩
set_option maxHeartbeats 1000000 in
theorem init2_call {w : World} {H : Heap} {s : Shared} {x dx : Addr} {c : Nat} {t : Tok} {b : List UInt8} {tb : Tok} (G : Gr w H) (hk : ∀ b o, H.get? b = some o → s.heap.get? b = some o) (hx : s.heap.get? x = some (instObj 116 dx)) (hd : s.heap.get? dx = some (dictOf [] 0)) (h1 : H.get? x = none) (h2 : H.get? dx = none) (hlt : @LT.lt Nat _ dx x) :
    CallC w [(x, instObj 116 dx), (dx, dictOf [] 0)] 3 30 (.ref 113) [.ref x, .int (c : Int) t, .bytes (List.toArray b) tb] s (fun v n => v = .none ∧ ∃ z1 z2 z3 k1 k2 k3 t1 t2 t3, n = [(x, instObj 116 dx), (dx, dictOf (pieceDict ⟨c, b, []⟩ z1 z2 z3 k1 k2 k3 t1 t2 t3) 3)]) := by
  have XS := G.1.keeps hk
  refine' call_defK G hk (by simp; exact ⟨⟨hx, h1⟩, hd, h2⟩) ?ho ?hcd ?hb ?hl ?h ?c1 ?c2 ?c3 ?c4
  (case ho => k_is); (case hcd => k_is); (case hb => exact binds_K XS rfl (by k_is) rfl rfl rfl); (case hl => exact locs rfl); (case c1 => exact rfl); (case c2 => exact rfl); (case c3 => exact rfl); (case c4 => decide)
  intro g L' h₁ A mean mg mb hA hd hu X T hg hg' hL F N Z hZ
  walk_at "my go"
  (first | refine hZ _ _ ?_ | (refine hZ2 _ _ ?_; refine hZ _ _ ?_)); exact Ends.next (by assumption) (by assumption) ⟨rfl, _, _, _, _, _, _, _, _, _, rfl⟩

noncomputable def NewPiece (x : Row) (a d : Addr) (n : Led) : Prop := ∃ z1 z2 z3 k1 k2 k3 t1 t2 t3, n = [(a, instObj 116 d), (d, dictOf (pieceDict x z1 z2 z3 k1 k2 k3 t1 t2 t3) 3)]
set_option maxHeartbeats 1000000 in
theorem new1_use {w : World} {g : Heap} {L : Addr} {s : Shared} {m : Str → Option Value} {news : Led} {A : Around} {Q E : Value → Shared → Prop} {c : Nat} {t : Tok} {mean mg mb}
    (X : (hd.heap_1 w.params).In g) (T : Top hd.view_1 (looseW hd.view_1 [Str.ofString "Piece"]) mean mg mb g) (F : Fr g L s.heap m) (N : News g L s.heap news)
    (hA : A.handled = none) (hd : A.depth + 4 < recursionLimit) (hu : A.units + 31 < cLine)
    (hQ : ∀ x dx h' tk' z1 z2 z3 k1 k2 k3 t1 t2 t3, Fr g L h' m → News g L h' ((x, instObj 116 dx) :: (dx, dictOf (pieceDict ⟨c, [], []⟩ z1 z2 z3 k1 k2 k3 t1 t2 t3) 3) :: news) → (∀ p ∈ news, @LT.lt Nat _ p.1 dx) → @LT.lt Nat _ dx x → Q (.ref x) { s with heap := h', toks := tk' }) :
    wpAny (model PySem.Challenge.rw_nz0248_01.row.prog w) A (PySem.call (.ref 116) [.int (c : Int) t]) Q E s := by
  refine' make_use (P := NewPiece ⟨c, [], []⟩) F N X ?hm ?hi ?hf hA hd hu (fun x dx s' k1 hx hdx n1 n2 l => init1_call ⟨X, _, _, _, T⟩ k1 hx hdx n1 n2 l) ?_
  case hm => k_is
  case hi => k_is
  case hf => k_is
  rintro x dx h' tk' news' F' N' l1 l2 ⟨z1, z2, z3, k1, k2, k3, t1, t2, t3, rfl⟩
  exact hQ x dx h' tk' z1 z2 z3 k1 k2 k3 t1 t2 t3 F' N' l1 l2
set_option maxHeartbeats 1000000 in
theorem new2_use {w : World} {g : Heap} {L : Addr} {s : Shared} {m : Str → Option Value} {news : Led} {A : Around} {Q E : Value → Shared → Prop} {c : Nat} {t : Tok} {b : List UInt8} {tb : Tok} {mean mg mb}
    (X : (hd.heap_1 w.params).In g) (T : Top hd.view_1 (looseW hd.view_1 [Str.ofString "Piece"]) mean mg mb g) (F : Fr g L s.heap m) (N : News g L s.heap news)
    (hA : A.handled = none) (hd : A.depth + 4 < recursionLimit) (hu : A.units + 31 < cLine)
    (hQ : ∀ x dx h' tk' z1 z2 z3 k1 k2 k3 t1 t2 t3, Fr g L h' m → News g L h' ((x, instObj 116 dx) :: (dx, dictOf (pieceDict ⟨c, b, []⟩ z1 z2 z3 k1 k2 k3 t1 t2 t3) 3) :: news) → (∀ p ∈ news, @LT.lt Nat _ p.1 dx) → @LT.lt Nat _ dx x → Q (.ref x) { s with heap := h', toks := tk' }) :
    wpAny (model PySem.Challenge.rw_nz0248_01.row.prog w) A (PySem.call (.ref 116) [.int (c : Int) t, .bytes (List.toArray b) tb]) Q E s := by
  refine' make_use (P := NewPiece ⟨c, b, []⟩) F N X ?hm ?hi ?hf hA hd hu (fun x dx s' k1 hx hdx n1 n2 l => init2_call ⟨X, _, _, _, T⟩ k1 hx hdx n1 n2 l) ?_
  case hm => k_is
  case hi => k_is
  case hf => k_is
  rintro x dx h' tk' news' F' N' l1 l2 ⟨z1, z2, z3, k1, k2, k3, t1, t2, t3, rfl⟩
  exact hQ x dx h' tk' z1 z2 z3 k1 k2 k3 t1 t2 t3 F' N' l1 l2
end

-- part C9
section
theorem e16_6 {α1 α2 α3 α4 α5 α6 α7 α8 α9 α10 α11 α12 α13 α14 α15 α16 : Type} {P1 P2 P3 P4 P5 P6 : α1 → α2 → α3 → α4 → α5 → α6 → α7 → α8 → α9 → α10 → α11 → α12 → α13 → α14 → α15 → α16 → Prop} {G : Prop} (h : ∃ a1 a2 a3 a4 a5 a6 a7 a8 a9 a10 a11 a12 a13 a14 a15 a16, P1 a1 a2 a3 a4 a5 a6 a7 a8 a9 a10 a11 a12 a13 a14 a15 a16 ∧ P2 a1 a2 a3 a4 a5 a6 a7 a8 a9 a10 a11 a12 a13 a14 a15 a16 ∧ P3 a1 a2 a3 a4 a5 a6 a7 a8 a9 a10 a11 a12 a13 a14 a15 a16 ∧ P4 a1 a2 a3 a4 a5 a6 a7 a8 a9 a10 a11 a12 a13 a14 a15 a16 ∧ P5 a1 a2 a3 a4 a5 a6 a7 a8 a9 a10 a11 a12 a13 a14 a15 a16 ∧ P6 a1 a2 a3 a4 a5 a6 a7 a8 a9 a10 a11 a12 a13 a14 a15 a16) (k : ∀ a1 a2 a3 a4 a5 a6 a7 a8 a9 a10 a11 a12 a13 a14 a15 a16, P1 a1 a2 a3 a4 a5 a6 a7 a8 a9 a10 a11 a12 a13 a14 a15 a16 → P2 a1 a2 a3 a4 a5 a6 a7 a8 a9 a10 a11 a12 a13 a14 a15 a16 → P3 a1 a2 a3 a4 a5 a6 a7 a8 a9 a10 a11 a12 a13 a14 a15 a16 → P4 a1 a2 a3 a4 a5 a6 a7 a8 a9 a10 a11 a12 a13 a14 a15 a16 → P5 a1 a2 a3 a4 a5 a6 a7 a8 a9 a10 a11 a12 a13 a14 a15 a16 → P6 a1 a2 a3 a4 a5 a6 a7 a8 a9 a10 a11 a12 a13 a14 a15 a16 → G) : G :=
  h.elim fun a1 h => h.elim fun a2 h => h.elim fun a3 h => h.elim fun a4 h => h.elim fun a5 h => h.elim fun a6 h => h.elim fun a7 h => h.elim fun a8 h => h.elim fun a9 h => h.elim fun a10 h => h.elim fun a11 h => h.elim fun a12 h => h.elim fun a13 h => h.elim fun a14 h => h.elim fun a15 h => h.elim fun a16 h => k a1 a2 a3 a4 a5 a6 a7 a8 a9 a10 a11 a12 a13 a14 a15 a16 h.1 h.2.1 h.2.2.1 h.2.2.2.1 h.2.2.2.2.1 h.2.2.2.2.2
local macro_rules | `(tactic| walk_at "call ref") => `(tactic| (
  k_here; (with_reducible show wpAny _ _ (PySem.call (Value.ref 116) [Value.int _ _]) _ _ _);
  (with_unfolding_all refine' new1_use ?X ?T ?F ?N ?A ?d ?u ?_); (case X => k_asm); (case T => k_asm); (case F => k_asm); (case N => k_asm); (case A => first | assumption | exact rfl); (case d => walk_at "my room"); (case u => walk_at "my room");
  k_whole; intro x' dx' h' tk' z1' z2' z3' k1' k2' k3' t1' t2' t3' F' N' l1 l2; (try k_lt l1); (try k_lt2 l2); (try k_sweep)))
local macro_rules | `(tactic| walk_at "call ref") => `(tactic| (
  k_here; (with_reducible show wpAny _ _ (PySem.call (Value.ref 116) [Value.int _ _, Value.bytes (List.toArray _) _]) _ _ _);
  (with_unfolding_all refine' new2_use ?X ?T ?F ?N ?A ?d ?u ?_); (case X => k_asm); (case T => k_asm); (case F => k_asm); (case N => k_asm); (case A => first | assumption | exact rfl); (case d => walk_at "my room"); (case u => walk_at "my room");
  k_whole; intro x' dx' h' tk' z1' z2' z3' k1' k2' k3' t1' t2' t3' F' N' l1 l2; (try k_lt l1); (try k_lt2 l2); (try k_sweep)))
set_option maxHeartbeats 1000000 in
theorem pieces_call {w : World} {H : Heap} {s : Shared} {l : Addr} {vs : List Value} {n : Nat} {evs : List Ev} {rows : List Row}
    (G : Gr w H) (hk : ∀ b o, H.get? b = some o → s.heap.get? b = some o) (hl : s.heap.get? l = some (W.listOf (List.toArray vs) n)) (hv : Tups EvV (fun a o => s.heap.get? a = some o) vs evs)
    (hr : runE [] evs = some rows) (hn : evs.length ≤ 1000) (hz : evLen evs ≤ 10000) :
    Call w [] 8 80 (.ref 223) [.ref l] s (fun v news' => ∃ l' vs' n' tl, v = .ref l' ∧ news' = (l', W.listOf (List.toArray vs') n') :: tl ∧ All2 (PieceAt (fun a o => (a, o) ∈ tl)) vs' rows) := by
  refine' call_def G hk (fun _ h => nomatch h) ?ho ?hcd ?hb ?hl ?h ?c1 ?c2 ?c3 ?c4
  walk_at "my enter"
  intro g L' h₁ A mean mg mb hA hd hu X T hg hg' hL F N Z hZ
  have hlg : g.get? l = some (W.listOf (List.toArray vs) n) := hg _ _ nofun hl
  have hvg : Tups EvV (fun a o => g.get? a = some o) vs evs := hv.mono fun a o h => hg _ _ nofun h
  walk_at "my go"
  unfold Stop
  rename Fr _ _ _ _ => F1
  rename News _ _ _ _ => N1
  refine for_base (PJ evs) hA F1 (news := [(_, W.listOf (List.toArray []) _)]) (news_c N1 (by k_mem) News.nil) hlg ⟨_, [], ⟨rfl, trivial⟩, rfl, .inl ⟨rfl, _, rfl⟩⟩ ?_ ?_
  · rintro i v m₁ news₁ h tk it I hvi hit hoff ⟨lp, ps, hm, hps, hsh⟩ F2 N2 Z2 hZ2
    have F3 := fr_norm F2 hm
    clear F1 F2 N1
    dsimp only [kstB] at F3
    obtain ⟨e, a0, its, hei, rfl, hag, hev⟩ := hvg.get hvi
    obtain ⟨qs, hst, hqs⟩ := runE_next hr hps hei
    have hpb := runE_bound _ hps (B := 0) (fun _ h => nomatch h)
    have hpl : ps.length ≤ 1000 := by
      have := (List.getElem?_eq_some_iff.mp hei).1
      have := hpb.1
      rw [List.length_take, List.length_nil] at this
      omega
    have hel : ∀ b, e = Ev.data b → b.length ≤ 10000 := fun b hb => Nat.le_trans (evLen_mem (hb ▸ List.mem_of_getElem? hei)) hz
    obtain ⟨ps', hps', _, hdl⟩ := runE_take hr i
    rw [hps] at hps'
    cases hps'
    rcases hsh with ⟨rfl, n0, rfl⟩ | hJ'
    · have q1 := neN (hoff _ (.head _)); dsimp only at q1
      cases e with
      | marker c =>
        obtain ⟨t1, t2, rfl⟩ := hev
        cases hst
        k_steps
        rename News _ _ _ _ => N7
        rename Fr _ _ _ _ => F7
        rename (_ < _ ∧ _) => l1
        refine hZ2 _ _ ?_; exact turn_piece (vs := []) (tl := []) (qs := []) hqs rfl rfl F7 (news_c N7 (by k_mem) (news_c N7 (by k_mem) (news_c N7 (by k_mem) (news_c N7 (by k_mem) News.nil)))) ⟨q1, Nat.ne_of_gt (Nat.lt_trans l1.1 (by assumption)), Nat.ne_of_gt l1.1, no_mem⟩ l1.2 (by assumption) no_mem .nil
      | seg c p =>
        obtain ⟨t1, t2, t3, rfl⟩ := hev
        cases hst
        k_steps
        rename News _ _ _ _ => N7
        rename Fr _ _ _ _ => F7
        rename (_ < _ ∧ _) => l1
        refine hZ2 _ _ ?_; exact turn_piece (vs := []) (tl := []) (qs := []) hqs rfl rfl F7 (news_c N7 (by k_mem) (news_c N7 (by k_mem) (news_c N7 (by k_mem) (news_c N7 (by k_mem) News.nil)))) ⟨q1, Nat.ne_of_gt (Nat.lt_trans l1.1 (by assumption)), Nat.ne_of_gt l1.1, no_mem⟩ l1.2 (by assumption) no_mem .nil
      | data b => cases hst
    · refine e16_6 hJ' ?_; clear hJ'; rintro qs' x vs a d n z1 z2 z3 k1 k2 k3 t1 t2 t3 tl rfl rfl hla had htl hall
      have q1 := neN (hoff _ (.head _)); dsimp only at q1
      have q2 := neN (hoff _ (.tail _ (.head _))); dsimp only at q2
      have q3 := neN (hoff _ (.tail _ (.tail _ (.head _)))); dsimp only at q3
      have q4 : ∀ p ∈ tl, p.1 ≠ I := fun p hp => hoff p (.tail _ (.tail _ (.tail _ hp)))
      have q5 : ∀ p ∈ tl, p.1 ≠ lp := fun p hp => Nat.ne_of_gt (htl p hp).1
      have q6 : ∀ p ∈ tl, p.1 ≠ d := fun p hp => Nat.ne_of_lt (htl p hp).2
      have q7 : ∀ p ∈ tl, p.1 ≠ a := fun p hp => Nat.ne_of_lt (Nat.lt_trans (htl p hp).2 had)
      have hal := hall.length
      have hxd := hdl x (by simp)
      rw [List.length_append, List.length_singleton] at hpl
      cases e with
      | marker c =>
        obtain ⟨t1, t2, rfl⟩ := hev
        cases hst
        k_steps
        rename News _ _ _ _ => N7
        rename Fr _ _ _ _ => F7
        rename (_ < _ ∧ _) => l1
        refine hZ2 _ _ ?_; refine turn_piece (vs := vs ++ [.ref a]) (tl := (a, instObj 116 d) :: (d, dictOf (pieceDict x z1 z2 z3 k1 k2 k3 _ _ _) 3) :: tl) (qs := qs' ++ [x]) hqs rfl rfl F7 (news_c N7 (by k_mem) (news_c N7 (by k_mem) (news_c N7 (by k_mem) (news_c N7 (by k_mem) (news_c N7 (by k_mem) (news_c N7 (by k_mem) (news_t N7 (by walk_at "my tl")))))))) ⟨q1, Nat.ne_of_gt (Nat.lt_trans l1.1 (by assumption)), Nat.ne_of_gt l1.1, ?_⟩ l1.2.1 (by assumption) ?_ ?_
        · intro p hp
          simp only [List.mem_cons] at hp
          rcases hp with rfl | rfl | hp
          · exact q2
          · exact q3
          · exact q4 p hp
        · intro p hp
          simp only [List.mem_cons] at hp
          rcases hp with rfl | rfl | hp
          · exact ⟨Nat.lt_trans hla had, l1.2.2.1⟩
          · exact ⟨hla, l1.2.2.2.1⟩
          · exact ⟨(htl p hp).1, allLt l1.2.2.2.2 p hp⟩
        · exact (hall.mono fun v x h => h.mono fun a o h => List.mem_cons_of_mem _ (List.mem_cons_of_mem _ h)).append (All2.one PieceAt.self)
      | seg c p =>
        obtain ⟨t1, t2, t3, rfl⟩ := hev
        cases hst
        k_steps
        rename News _ _ _ _ => N7
        rename Fr _ _ _ _ => F7
        rename (_ < _ ∧ _) => l1
        refine hZ2 _ _ ?_; refine turn_piece (vs := vs ++ [.ref a]) (tl := (a, instObj 116 d) :: (d, dictOf (pieceDict x z1 z2 z3 k1 k2 k3 _ _ _) 3) :: tl) (qs := qs' ++ [x]) hqs rfl rfl F7 (news_c N7 (by k_mem) (news_c N7 (by k_mem) (news_c N7 (by k_mem) (news_c N7 (by k_mem) (news_c N7 (by k_mem) (news_c N7 (by k_mem) (news_t N7 (by walk_at "my tl")))))))) ⟨q1, Nat.ne_of_gt (Nat.lt_trans l1.1 (by assumption)), Nat.ne_of_gt l1.1, ?_⟩ l1.2.1 (by assumption) ?_ ?_
        · intro p hp
          simp only [List.mem_cons] at hp
          rcases hp with rfl | rfl | hp
          · exact q2
          · exact q3
          · exact q4 p hp
        · intro p hp
          simp only [List.mem_cons] at hp
          rcases hp with rfl | rfl | hp
          · exact ⟨Nat.lt_trans hla had, l1.2.2.1⟩
          · exact ⟨hla, l1.2.2.2.1⟩
          · exact ⟨(htl p hp).1, allLt l1.2.2.2.2 p hp⟩
        · exact (hall.mono fun v x h => h.mono fun a o h => List.mem_cons_of_mem _ (List.mem_cons_of_mem _ h)).append (All2.one PieceAt.self)
      | data b =>
        obtain ⟨t1, t2, rfl⟩ := hev
        have hbl := hel b rfl
        have hst' : addData b (qs' ++ [x]) = some qs := hst
        rw [addData_snoc] at hst'
        cases hst'
        unfold pieceDict at N2
        k_steps
        rename News _ _ _ _ => N7
        rename Fr _ _ _ _ => F7
        refine hZ2 _ _ ?_; exact turn_piece (x := ⟨x.code, x.pay, x.dat ++ b⟩) hqs rfl rfl F7 N7 ⟨q1, q2, q3, q4⟩ hla had htl hall
  · rintro m₁ news₁ h tk ⟨lp, ps, hm, hps, hsh⟩ F2 N2
    have F3 := fr_norm F2 hm
    clear F1 F2 N1
    dsimp only [kstB] at F3
    k_steps
    (try dsimp only)
    rw [hvg.length, List.take_length, hr] at hps
    cases hps
    rcases hsh with ⟨rfl, n0, rfl⟩ | hJ'
    · (first | refine hZ _ _ ?_ | (refine hZ2 _ _ ?_; refine hZ _ _ ?_)); exact Ends.ret F3 N2 ⟨lp, [], n0, [], rfl, rfl, .nil⟩
    · refine e16_6 hJ' ?_; clear hJ'; rintro qs' x vs a d n z1 z2 z3 k1 k2 k3 t1 t2 t3 tl rfl rfl hla had htl hall
      (first | refine hZ _ _ ?_ | (refine hZ2 _ _ ?_; refine hZ _ _ ?_)); exact Ends.ret F3 N2 ⟨lp, _, n, _, rfl, rfl, (hall.mono fun v x h => h.mono fun a o h => List.mem_cons_of_mem _ (List.mem_cons_of_mem _ h)).append (All2.one PieceAt.self)⟩
end

-- part C11
section
local macro_rules | `(tactic| walk_at "spare") => `(tactic| skip)
local macro_rules | `(tactic| walk_at "call ref") => `(tactic| (
  k_here; (with_reducible show wpAny _ _ (PySem.call (Value.ref 263) [Value.ref _, Value.bytes (List.toArray _) _, Value.int _ _, Value.int _ _]) _ _ _);
  (with_unfolding_all refine' cuts_use ?X ?T ?F ?N ?U ?p ?A ?d ?u ?b ?t0 ?t1 ?t2 ?t3 ?_); (case X => k_asm); (case T => k_asm); (case F => k_asm); (case N => k_asm); (case U => k_updF); (case p => k_asm); (case A => first | assumption | exact rfl); (case d => walk_at "my room"); (case u => walk_at "my room"); (case b => walk_at "my len"); (case t0 => omega); (case t1 => omega); (case t2 => omega); (case t3 => omega);
  k_whole; intro l' vs' n' ps' o' h' tk' F' N' fr' p' hv' hf' hl'; (try dsimp only at N'); (try k_sweep)))
local macro_rules | `(tactic| walk_at "compareOp NotEq bytes bytes") => `(tactic| (k_here; (with_reducible show wpAny _ _ (compareOp CmpOp.NotEq (Value.bytes (List.toArray _) _) (Value.bytes _ _)) _ _ _); k_dflt (refine ne_b (c := []) ?_)))
structure LawRow (r : Row) : Prop where
  small : SmallRow r
  bare : bare r → r.pay = [] ∧ r.dat = []
noncomputable def EJ (src : Addr) (rows : List Row) (i : Nat) (m : Str → Option Value) (news : Led) : Prop :=
  ∃ le o vs n tl evs, AllB m [("source", .ref src), ("events", .ref le)] ∧ news = (le, W.listOf (List.toArray vs) n) :: (src, o) :: tl ∧ @Ne Nat le src ∧ IsPool o ∧ TupOnly tl ∧ Tups EvV (fun a o => (a, o) ∈ tl) vs evs ∧ runE [] evs = some (rows.take i) ∧ evs.length ≤ 4 * i
noncomputable def EJ2 (src I le l2 : Addr) (it : Obj) (vs2 : List Value) (n2 : Nat) (ps : List (List UInt8)) (rows : List Row) (i : Nat) (r : Row) (pay : List UInt8) (j : Nat) (m : Str → Option Value) (news : Led) : Prop :=
  ∃ o vs n tl evs, AllB m [("source", .ref src), ("events", .ref le)] ∧ news = (l2, W.listOf (List.toArray vs2) n2) :: (I, it) :: (le, W.listOf (List.toArray vs) n) :: (src, o) :: tl ∧ IsPool o ∧ TupOnly tl ∧ Tups EvV (fun a o => (a, o) ∈ tl) vs evs ∧ runE [] evs = some (rows.take i ++ [⟨r.code, pay, (ps.take j).flatten⟩]) ∧ evs.length ≤ 4 * i + 1 + j
theorem TupOnly.cons {tl : Led} {a : Addr} {its : List Value} (h : TupOnly tl) : TupOnly ((a, tupO its) :: tl) := fun p hp => by
  rcases List.mem_cons.mp hp with rfl | hp
  · rfl
  · exact h p hp
theorem Tups.snoc {α : Type} {V : α → List Value → Prop} {tl : Led} {vs : List Value} {xs : List α} {a : Addr} {its : List Value} {x : α} (h : Tups V (fun a o => (a, o) ∈ tl) vs xs) (v : V x its) : Tups V (fun b o => (b, o) ∈ (a, tupO its) :: tl) (vs ++ [.ref a]) (xs ++ [x]) :=
  Tups.append (V := V) (has := fun b o => (b, o) ∈ (a, tupO its) :: tl) (h.mono fun a o h => List.mem_cons_of_mem _ h) (Tups.one (List.mem_cons_self ..) v)
theorem runE_snoc {evs : List Ev} {ps qs : List Row} {e : Ev} (h : runE [] evs = some ps) (h' : stepE ps e = some qs) : runE [] (evs ++ [e]) = some qs := by
  rw [runE_append, h]
  show (stepE ps e).bind (fun rs => runE rs []) = some qs
  rw [h']; rfl
set_option maxHeartbeats 1000000 in
theorem events_call {w : World} {H : Heap} {s : Shared} {src l : Addr} {o : Obj} {vs : List Value} {n : Nat} {rows : List Row}
    (G : Gr w H) (hk : ∀ b o, H.get? b = some o → s.heap.get? b = some o) (hs : s.heap.get? src = some o) (hH : H.get? src = none) (hp : IsPool o)
    (hl : H.get? l = some (W.listOf (List.toArray vs) n)) (hv : Tups RowV (fun a o => H.get? a = some o) vs rows) (hn : rows.length ≤ 8) (hr : ∀ r ∈ rows, LawRow r) :
    Call w [(src, o)] 8 80 (.ref 275) [.ref src, .ref l] s (fun v news' => ∃ l' vs' n' tl evs o', v = .ref l' ∧ @Ne Nat l' src ∧ news' = (src, o') :: (l', W.listOf (List.toArray vs') n') :: tl ∧ IsPool o' ∧ TupOnly tl ∧ Tups EvV (fun a o => (a, o) ∈ tl) vs' evs ∧ runE [] evs = some rows ∧ evs.length ≤ 32) := by
  refine' call_def G hk (by simpa using ⟨hs, hH⟩) ?ho ?hcd ?hb ?hl ?h ?c1 ?c2 ?c3 ?c4
  walk_at "my enter"
  intro g L' h₁ A mean mg mb hA hd hu X T hg hg' hL F N Z hZ
  have up : ∀ b o, H.get? b = some o → g.get? b = some o := fun b o' e => hg b o' (fun q => by
    simp only [adr, List.map_cons, List.map_nil, List.mem_singleton] at q
    rw [q, hH] at e; cases e) (hk b o' e)
  have hlg := up _ _ hl
  have hvg : Tups RowV (fun a o => g.get? a = some o) vs rows := hv.mono fun a o h => up _ _ h
  walk_at "my go"
  unfold Stop
  rename Fr _ _ _ _ => F1
  rename News _ _ _ _ => N1
  have hne := neN (N1 _ (.head _)).2.1
  refine for_base (EJ src rows) hA F1 (news := [(_, W.listOf (List.toArray []) _), (src, _)]) (news_c N1 (by k_mem) (news_c N1 (by k_mem) News.nil)) hlg ⟨_, o, [], _, [], [], ⟨rfl, rfl, trivial⟩, rfl, by omega, hp, no_mem, trivial, rfl, Nat.zero_le _⟩ ?_ ?_
  · rintro i v m₁ news₁ h tk it I hvi hit hoff hJ' F2 N2 Z2 hZ2; refine e6_8 hJ' ?_; clear hJ'; rintro le o vs' n' tl evs hm rfl hls hpo hto htu hrun hlen
    have F3 := fr_norm F2 hm
    clear F1 F2 N1
    dsimp only [kstB] at F3
    obtain ⟨r, a, its, hri, rfl, hag, t1, t2, t3, rfl⟩ := hvg.get hvi
    have hrl := hr r (List.mem_of_getElem? hri)
    have := hrl.small.code; have := hrl.small.pay; have := hrl.small.dat
    have hil := (List.getElem?_eq_some_iff.mp hri).1
    have ht : IsTup h a _ := F3.tup ⟨_, hag, rfl, 0, rfl⟩
    have q1 := neN (hoff _ (.head _)); dsimp only at q1
    have q2 := neN (hoff _ (.tail _ (.head _))); dsimp only at q2
    have q4 : ∀ p ∈ tl, p.1 ≠ I := fun p hp => hoff p (.tail _ (.tail _ hp))
    have q5 : ∀ p ∈ tl, p.1 ≠ src := hto.off N2 (fun p hp => by simp [hp]) (a := src) (o := o) (by simp) (by rw [hpo.cls]; decide)
    have q6 : ∀ p ∈ tl, p.1 ≠ le := hto.off N2 (fun p hp => by simp [hp]) (a := le) (o := W.listOf vs'.toArray n') (by simp) (by show Value.type "list" ≠ .type "tuple"; decide)
    have hvl := htu.length
    k_steps
    all_goals (unfold Stop; rename News _ _ _ _ => N7; rename Fr _ _ _ _ => F7; rename (List.any _ _) = _ => hc)
    all_goals (rename_i D8 hx1 l8 hx2 nx1 l2 vs2 n2 ps2 o7 hx3 tkx2 fr p7 hbv hfl hpl)
    all_goals
      have r1 := fr (I, it) (by k_mem); dsimp only at r1
      have r2 := fr (le, W.listOf (List.toArray (vs' ++ [.ref D8])) nx1) (by k_mem); dsimp only at r2
      have r3 := fr (src, o) (by k_mem); dsimp only at r3
      have r4 := fr (D8, _) (.head _); dsimp only at r4
      have r5 : ∀ p ∈ tl, p.1 ≠ l2 := fun p hp => fr p (by simp [hp])
      have hD1 := l8.2.1
      have hpl2 := hbv.length
    · have hb1 : bare r := barely.mp hc
      refine for_list (EJ2 src I le l2 it vs2 n2 ps2 rows i r []) hA F7 (news := (l2, W.listOf (List.toArray vs2) n2) :: (I, it) :: (le, W.listOf (List.toArray (vs' ++ [.ref D8])) nx1) :: (src, o7) :: (D8, tupO [_, _]) :: tl)
        (news_c N7 (by k_mem) (news_c N7 (by k_mem) (news_c N7 (by k_mem) (news_c N7 (by k_mem) (news_c N7 (by k_mem) (news_t N7 (by walk_at "my tl"))))))) (.head _)
        ⟨o7, _, nx1, (D8, tupO [_, _]) :: tl, evs ++ [.marker r.code], ⟨rfl, rfl, trivial⟩, rfl, p7, hto.cons, htu.snoc (x := Ev.marker r.code) ⟨_, _, rfl⟩, runE_snoc hrun rfl, by simp; omega⟩ ?_ ?_
      · rintro j v m₂ news₂ h2 tk2 it2 I2 hvj hit2 hoff2 hJ' F4 N4 Z2 hZ2; refine e5_7 hJ' ?_; clear hJ'; rintro o3 vs3 n3 tl3 evs3 hm3 rfl hpo3 hto3 htu3 hrun3 hlen3
        have F5 := fr_norm F4 hm3
        clear F4 F7 N7
        dsimp only [kstB] at F5
        obtain ⟨b, tb, hbj, rfl⟩ := hbv.get hvj
        have hjl := (List.getElem?_eq_some_iff.mp hbj).1
        have w1 := neN (hoff2 _ (.head _)); dsimp only at w1
        have w2 := neN (hoff2 _ (.tail _ (.head _))); dsimp only at w2
        have w3 := neN (hoff2 _ (.tail _ (.tail _ (.head _)))); dsimp only at w3
        have w4 := neN (hoff2 _ (.tail _ (.tail _ (.tail _ (.head _))))); dsimp only at w4
        have w5 : ∀ p ∈ tl3, p.1 ≠ I2 := fun p hp => hoff2 p (.tail _ (.tail _ (.tail _ (.tail _ hp))))
        have w6 : ∀ p ∈ tl3, p.1 ≠ le := hto3.off N4 (fun p hp => by simp [hp]) (a := le) (o := W.listOf vs3.toArray n3) (by simp) (by show Value.type "list" ≠ .type "tuple"; decide)
        have hvl3 := htu3.length
        k_steps
        all_goals (rename News _ _ _ _ => N7; rename Fr _ _ _ _ => F7; rename (_ != _) = _ => hb)
        · rename (_ < _ ∧ _) => l9
          refine hZ2 _ _ ?_; refine Turn.next (news' := (l2, W.listOf (List.toArray vs2) n2) :: (I, it) :: (le, W.listOf (List.toArray (vs3 ++ [_])) _) :: (src, o3) :: (_, tupO [_, _]) :: tl3) F7 (news_c N7 (by k_mem) (news_c N7 (by k_mem) (news_c N7 (by k_mem) (news_c N7 (by k_mem) (news_c N7 (by k_mem) (news_c N7 (by k_mem) (news_t N7 (by walk_at "my tl")))))))) ?_ ⟨⟨.head _, trivial⟩, o3, _, _, (_, tupO [_, _]) :: tl3, evs3 ++ [.data b], ⟨rfl, rfl, trivial⟩, rfl, hpo3, hto3.cons, htu3.snoc (x := Ev.data b) ⟨_, _, rfl⟩, runE_snoc hrun3 ?_, by simp; omega⟩
          · intro p hp
            simp only [List.mem_cons] at hp
            rcases hp with rfl | rfl | rfl | rfl | rfl | hp
            · exact w1
            · exact w2
            · exact w3
            · exact w4
            · exact Nat.ne_of_gt l9.1
            · exact w5 p hp
          · show addData b _ = _
            rw [addData_snoc, List.take_add_one, hbj]; simp
        · have hbe : b = [] := by simpa using hb
          subst hbe
          refine hZ2 _ _ ?_; refine Turn.next (news' := (l2, W.listOf (List.toArray vs2) n2) :: (I, it) :: (le, W.listOf (List.toArray vs3) n3) :: (src, o3) :: tl3) F7 (news_c N7 (by k_mem) (news_c N7 (by k_mem) (news_c N7 (by k_mem) (news_c N7 (by k_mem) (news_c N7 (by k_mem) (news_t N7 (by walk_at "my tl"))))))) hoff2 ⟨⟨.head _, trivial⟩, o3, _, _, tl3, evs3, ⟨rfl, rfl, trivial⟩, rfl, hpo3, hto3, htu3, ?_, by omega⟩
          rw [hrun3, List.take_add_one, hbj]; simp
      · rintro m₂ news₂ h2 tk2 hJ' F4 N4; refine e5_7 hJ' ?_; clear hJ'; rintro o3 vs3 n3 tl3 evs3 hm3 rfl hpo3 hto3 htu3 hrun3 hlen3
        have F5 := fr_norm F4 hm3
        clear F4 F7 N7
        dsimp only [kstB] at F5
        k_steps
        rename News _ _ _ _ => N7
        rename Fr _ _ _ _ => F7
        have qI : ∀ p ∈ tl3, p.1 ≠ I := hto3.off N7 (fun p hp => by simp [hp]) (a := I) (o := it) (by simp) (by rw [hit]; decide)
        refine hZ2 _ _ ?_; refine Turn.next (news' := (le, W.listOf (List.toArray vs3) n3) :: (src, o3) :: tl3) F7 (news_c N7 (by k_mem) (news_c N7 (by k_mem) (news_c N7 (by k_mem) (news_t N7 (by walk_at "my tl"))))) ?_ ⟨trivial, le, o3, vs3, n3, tl3, evs3, ⟨rfl, rfl, trivial⟩, rfl, hls, hpo3, hto3, htu3, ?_, by omega⟩
        · intro p hp
          simp only [List.mem_cons] at hp
          rcases hp with rfl | rfl | hp
          · exact q1
          · exact q2
          · exact qI p hp
        · rw [hrun3, hpl2, List.take_length, hfl, List.take_add_one, hri]
          have e1 := (hrl.bare hb1).1
          obtain ⟨c0, p0, d0⟩ := r
          dsimp only at e1
          subst e1
          rfl
    · have hb1 : ¬ bare r := fun h => by rw [barely.mpr h] at hc; cases hc
      refine for_list (EJ2 src I le l2 it vs2 n2 ps2 rows i r r.pay) hA F7 (news := (l2, W.listOf (List.toArray vs2) n2) :: (I, it) :: (le, W.listOf (List.toArray (vs' ++ [.ref D8])) nx1) :: (src, o7) :: (D8, tupO [_, _, _]) :: tl)
        (news_c N7 (by k_mem) (news_c N7 (by k_mem) (news_c N7 (by k_mem) (news_c N7 (by k_mem) (news_c N7 (by k_mem) (news_t N7 (by walk_at "my tl"))))))) (.head _)
        ⟨o7, _, nx1, (D8, tupO [_, _, _]) :: tl, evs ++ [.seg r.code r.pay], ⟨rfl, rfl, trivial⟩, rfl, p7, hto.cons, htu.snoc (x := Ev.seg r.code r.pay) ⟨_, _, _, rfl⟩, runE_snoc hrun rfl, by simp; omega⟩ ?_ ?_
      · rintro j v m₂ news₂ h2 tk2 it2 I2 hvj hit2 hoff2 hJ' F4 N4 Z2 hZ2; refine e5_7 hJ' ?_; clear hJ'; rintro o3 vs3 n3 tl3 evs3 hm3 rfl hpo3 hto3 htu3 hrun3 hlen3
        have F5 := fr_norm F4 hm3
        clear F4 F7 N7
        dsimp only [kstB] at F5
        obtain ⟨b, tb, hbj, rfl⟩ := hbv.get hvj
        have hjl := (List.getElem?_eq_some_iff.mp hbj).1
        have w1 := neN (hoff2 _ (.head _)); dsimp only at w1
        have w2 := neN (hoff2 _ (.tail _ (.head _))); dsimp only at w2
        have w3 := neN (hoff2 _ (.tail _ (.tail _ (.head _)))); dsimp only at w3
        have w4 := neN (hoff2 _ (.tail _ (.tail _ (.tail _ (.head _))))); dsimp only at w4
        have w5 : ∀ p ∈ tl3, p.1 ≠ I2 := fun p hp => hoff2 p (.tail _ (.tail _ (.tail _ (.tail _ hp))))
        have w6 : ∀ p ∈ tl3, p.1 ≠ le := hto3.off N4 (fun p hp => by simp [hp]) (a := le) (o := W.listOf vs3.toArray n3) (by simp) (by show Value.type "list" ≠ .type "tuple"; decide)
        have hvl3 := htu3.length
        k_steps
        all_goals (rename News _ _ _ _ => N7; rename Fr _ _ _ _ => F7; rename (_ != _) = _ => hb)
        · rename (_ < _ ∧ _) => l9
          refine hZ2 _ _ ?_; refine Turn.next (news' := (l2, W.listOf (List.toArray vs2) n2) :: (I, it) :: (le, W.listOf (List.toArray (vs3 ++ [_])) _) :: (src, o3) :: (_, tupO [_, _]) :: tl3) F7 (news_c N7 (by k_mem) (news_c N7 (by k_mem) (news_c N7 (by k_mem) (news_c N7 (by k_mem) (news_c N7 (by k_mem) (news_c N7 (by k_mem) (news_t N7 (by walk_at "my tl")))))))) ?_ ⟨⟨.head _, trivial⟩, o3, _, _, (_, tupO [_, _]) :: tl3, evs3 ++ [.data b], ⟨rfl, rfl, trivial⟩, rfl, hpo3, hto3.cons, htu3.snoc (x := Ev.data b) ⟨_, _, rfl⟩, runE_snoc hrun3 ?_, by simp; omega⟩
          · intro p hp
            simp only [List.mem_cons] at hp
            rcases hp with rfl | rfl | rfl | rfl | rfl | hp
            · exact w1
            · exact w2
            · exact w3
            · exact w4
            · exact Nat.ne_of_gt l9.1
            · exact w5 p hp
          · show addData b _ = _
            rw [addData_snoc, List.take_add_one, hbj]; simp
        · have hbe : b = [] := by simpa using hb
          subst hbe
          refine hZ2 _ _ ?_; refine Turn.next (news' := (l2, W.listOf (List.toArray vs2) n2) :: (I, it) :: (le, W.listOf (List.toArray vs3) n3) :: (src, o3) :: tl3) F7 (news_c N7 (by k_mem) (news_c N7 (by k_mem) (news_c N7 (by k_mem) (news_c N7 (by k_mem) (news_c N7 (by k_mem) (news_t N7 (by walk_at "my tl"))))))) hoff2 ⟨⟨.head _, trivial⟩, o3, _, _, tl3, evs3, ⟨rfl, rfl, trivial⟩, rfl, hpo3, hto3, htu3, ?_, by omega⟩
          rw [hrun3, List.take_add_one, hbj]; simp
      · rintro m₂ news₂ h2 tk2 hJ' F4 N4; refine e5_7 hJ' ?_; clear hJ'; rintro o3 vs3 n3 tl3 evs3 hm3 rfl hpo3 hto3 htu3 hrun3 hlen3
        have F5 := fr_norm F4 hm3
        clear F4 F7 N7
        dsimp only [kstB] at F5
        k_steps
        rename News _ _ _ _ => N7
        rename Fr _ _ _ _ => F7
        have qI : ∀ p ∈ tl3, p.1 ≠ I := hto3.off N7 (fun p hp => by simp [hp]) (a := I) (o := it) (by simp) (by rw [hit]; decide)
        refine hZ2 _ _ ?_; refine Turn.next (news' := (le, W.listOf (List.toArray vs3) n3) :: (src, o3) :: tl3) F7 (news_c N7 (by k_mem) (news_c N7 (by k_mem) (news_c N7 (by k_mem) (news_t N7 (by walk_at "my tl"))))) ?_ ⟨trivial, le, o3, vs3, n3, tl3, evs3, ⟨rfl, rfl, trivial⟩, rfl, hls, hpo3, hto3, htu3, ?_, by omega⟩
        · intro p hp
          simp only [List.mem_cons] at hp
          rcases hp with rfl | rfl | hp
          · exact q1
          · exact q2
          · exact qI p hp
        · rw [hrun3, hpl2, List.take_length, hfl, List.take_add_one, hri]
          rfl
  · rintro m₁ news₁ h tk hJ' F2 N2; refine e6_8 hJ' ?_; clear hJ'; rintro le o vs' n' tl evs hm rfl hls hpo hto htu hrun hlen
    have F3 := fr_norm F2 hm
    clear F1 F2 N1
    dsimp only [kstB] at F3
    k_steps
    (try dsimp only)
    have hvl := hvg.length
    rw [hvl, List.take_length] at hrun
    (first | refine hZ _ _ ?_ | (refine hZ2 _ _ ?_; refine hZ _ _ ?_)); exact Ends.ret F3 (news' := (src, o) :: (le, W.listOf (List.toArray vs') n') :: tl) (news_c N2 (by k_mem) (news_c N2 (by k_mem) (news_t N2 (by walk_at "my tl")))) ⟨le, vs', n', tl, evs, o, rfl, hls, rfl, hpo, hto, htu, hrun, by omega⟩
end

-- part C12
section
theorem max_ge {prog : Program} {w : World} {A : Around} {E : Value → Shared → Prop} {s : Shared} {h₀ : Heap} {L : Addr} {m : Str → Option Value} {news : Led} {a b : Int} {t u : Tok} {Q : Value → Shared → Prop} (hh : A.handled = none) (F : Fr h₀ L s.heap m) (N : News h₀ L s.heap news)
    (h : ∀ M t' h' tk, a ≤ M → b ≤ M → Fr h₀ L h' m → News h₀ L h' news → Q (.int M t') { s with heap := h', toks := tk }) : wpAny (model prog w) A (call (.builtin "max") [.int a t, .int b u]) Q E s := by
  refine max_two_N hh F N fun h' tk F' N' => h _ _ h' tk ?_ ?_ F' N' <;> split <;> omega
local macro_rules | `(tactic| walk_at "call builtin:max") => `(tactic| (k_here; (with_reducible show wpAny _ _ (call (Value.builtin "max") [Value.int _ _, Value.int _ _]) _ _ _); k_dflt (refine' max_ge ?A ?F ?N ?_; (case A => assumption); (case F => k_asm); (case N => k_asm); k_whole); intro M' t' h' tk' m1' m2' F' N'; (try k_sweep)))
set_option maxHeartbeats 1000000 in
theorem pool_call {w : World} {H : Heap} {s : Shared} {a : Addr} {vs : List Value} {ns : List Int}
    (G : Gr w H) (hk : ∀ b o, H.get? b = some o → s.heap.get? b = some o) (hl : s.heap.IsList a vs.toArray) (hi : IntsAre vs ns) (hn : ns.length ≤ 63) :
    Call w [] 3 30 (.ref 230) [.ref a] s (fun v news' => ∃ l o, v = .ref l ∧ news' = [(l, o)] ∧ IsPool o) := by
  refine' call_def G hk (fun _ h => nomatch h) ?ho ?hcd ?hb ?hl ?h ?c1 ?c2 ?c3 ?c4
  walk_at "my enter"
  intro g L' h₁ A mean mg mb hA hd hu X T hg hg' hL F N Z hZ
  obtain ⟨ol, hol, hoc, nl, hod⟩ := id hl
  have hlg : g.IsList a vs.toArray := ⟨ol, hg _ _ nofun hol, hoc, nl, hod⟩
  have hvl := hi.length
  walk_at "my go"
  all_goals
    rename News _ _ _ _ => N7
    rename Fr _ _ _ _ => F7
    (try dsimp only)
    (first | refine hZ _ _ ?_ | (refine hZ2 _ _ ?_; refine hZ _ _ ?_)); refine Ends.ret F7 N7 ⟨_, _, rfl, rfl, _, _, _, _, _, rfl, ?_, (fmod_lt' _ (by decide)).1, (fmod_lt' _ (by decide)).2⟩
    refine Int.mul_nonneg (by omega) ?_
    split <;> decide
end

-- part B13
section
variable {prog : Program} {w : World} {A : Around} {E : Value → Shared → Prop} {s : Shared} {h₀ : Heap} {L : Addr} {m : Str → Option Value} {news : Led} {Q : Value → Shared → Prop} {value slice : PySem.Expr} {a : Addr} {b : List UInt8}
theorem len_ban (N : News h₀ L s.heap news) (hm : (a, barr b) ∈ news) (hz : b.length ≤ 16777216) (h : ∀ t k, Q (.int (b.length : Int) t) { s with toks := k }) : wpAny (model prog w) A (call (.builtin "len") [.ref a]) Q E s :=
  len_ba (N _ hm).1 hz h
theorem item_ban {i : Int} {u : Tok} (N : News h₀ L s.heap news) (hm : (a, barr b) ∈ news) (h0 : 0 ≤ i) (h1 : i < b.length) (hz : b.length ≤ 16777216) (h : ∀ t k, Q (.int ((b.getD i.toNat 0).toNat : Int) t) { s with toks := k })
    (hs : subscripted slice false (.ref a) (.int i u) = operate [.ref a, .int i u] (getItem (.ref a) (.int i u)) := by with_unfolding_all rfl) :
    wpAny (model prog w) A (subscriptTail value slice (.ref a) (.int i u)) Q E s :=
  tail_any (ty_ba (N _ hm).1) FA.slot_bytearray_getitem.lookup (getItem_meets (ty_ba (N _ hm).1) (by decide) FA.slot_bytearray_getitem FA.entry_bytearray_getitem (FA.args_bytearray_getitem_2 _ _) meets_ba_item ⟨(N _ hm).1, h0, h1, hz, h⟩) hs
theorem slice_ban {l u : Value} {lo hi : Option Int} (F : Fr h₀ L s.heap m) (N : News h₀ L s.heap news) (hm : (a, barr b) ∈ news) (hl : IsPart l lo) (hu : IsPart u hi) (hz : b.length ≤ 65536)
    (h : ∀ D h', Fr h₀ L h' m → News h₀ L h' ((D, barr ((b.drop (lo.elim 0 (clipAt b.length))).take (hi.elim b.length (clipAt b.length) - lo.elim 0 (clipAt b.length)))) :: news) → (∀ p ∈ news, p.1 < D) → Q (.ref D) { s with heap := h' })
    (hs : subscripted slice false (.ref a) (.ref s.heap.objs.size) = operate [.ref s.heap.objs.size, .ref a] (getItem (.ref a) (.ref s.heap.objs.size)) := by with_unfolding_all rfl) :
    wpAny (model prog w) A (subscriptTail value slice (.ref a) (.ref s.heap.objs.size)) Q E { s with heap := s.heap.push { cls := .type "slice", data := .fields #[l, u, .none] } } := by
  have F1 := F.push { cls := .type "slice", data := .fields #[l, u, .none] }
  have N1 : News h₀ L (s.heap.push { cls := .type "slice", data := .fields #[l, u, .none] }) news := News.pushKeep N _
  have ho := (N1 _ hm).1
  have T := ty_ba (s := { s with heap := s.heap.push { cls := .type "slice", data := .fields #[l, u, .none] } }) ho
  have g : wpAny (model prog w) A (getItem (.ref a) (.ref s.heap.objs.size)) Q E { s with heap := s.heap.push { cls := .type "slice", data := .fields #[l, u, .none] } } :=
    getItem_meets T (by decide) FA.slot_bytearray_getitem FA.entry_bytearray_getitem (FA.args_bytearray_getitem_2 _ _) (meets_ba_slice hl hu) ⟨ho, Heap.IsSliceOf.new _ _ _ _, hz, h _ _ (F1.push _) (N1.push F1 _) fun p hp => Heap.lt_size (N1 p hp).1⟩
  exact tail_any T FA.slot_bytearray_getitem.lookup g hs
theorem slice_ban2 {i j : Int} {ti tj : Tok} (F : Fr h₀ L s.heap m) (N : News h₀ L s.heap news) (hm : (a, barr b) ∈ news) (hi : 0 ≤ i) (hj : 0 ≤ j) (hz : b.length ≤ 65536)
    (h : ∀ D h', Fr h₀ L h' m → News h₀ L h' ((D, barr ((b.drop i.toNat).take (j.toNat - i.toNat))) :: news) → (∀ p ∈ news, p.1 < D) → Q (.ref D) { s with heap := h' })
    (hs : subscripted slice false (.ref a) (.ref s.heap.objs.size) = operate [.ref s.heap.objs.size, .ref a] (getItem (.ref a) (.ref s.heap.objs.size)) := by with_unfolding_all rfl) :
    wpAny (model prog w) A (subscriptTail value slice (.ref a) (.ref s.heap.objs.size)) Q E { s with heap := s.heap.push { cls := .type "slice", data := .fields #[.int i ti, .int j tj, .none] } } := by
  refine slice_ban F N hm (.int i ti) (.int j tj) hz (fun D h' F' N' l => ?_) hs
  have N2 : News h₀ L h' ((D, barr ((b.drop (clipAt b.length i)).take (clipAt b.length j - clipAt b.length i))) :: news) := N'
  rw [cut_eq b hi hj] at N2
  exact h D h' F' N2 l
theorem slice_banF {i : Int} {ti : Tok} (F : Fr h₀ L s.heap m) (N : News h₀ L s.heap news) (hm : (a, barr b) ∈ news) (hi : 0 ≤ i) (hz : b.length ≤ 65536)
    (h : ∀ D h', Fr h₀ L h' m → News h₀ L h' ((D, barr (b.drop i.toNat)) :: news) → (∀ p ∈ news, p.1 < D) → Q (.ref D) { s with heap := h' })
    (hs : subscripted slice false (.ref a) (.ref s.heap.objs.size) = operate [.ref s.heap.objs.size, .ref a] (getItem (.ref a) (.ref s.heap.objs.size)) := by with_unfolding_all rfl) :
    wpAny (model prog w) A (subscriptTail value slice (.ref a) (.ref s.heap.objs.size)) Q E { s with heap := s.heap.push { cls := .type "slice", data := .fields #[.int i ti, .none, .none] } } := by
  refine slice_ban F N hm (.int i ti) .none hz (fun D h' F' N' l => ?_) hs
  have N2 : News h₀ L h' ((D, barr ((b.drop (clipAt b.length i)).take (b.length - clipAt b.length i))) :: news) := N'
  rw [cut_from b hi] at N2
  exact h D h' F' N2 l
theorem slice_banT {j : Int} {tj : Tok} (F : Fr h₀ L s.heap m) (N : News h₀ L s.heap news) (hm : (a, barr b) ∈ news) (hj : 0 ≤ j) (hz : b.length ≤ 65536)
    (h : ∀ D h', Fr h₀ L h' m → News h₀ L h' ((D, barr (b.take j.toNat)) :: news) → (∀ p ∈ news, p.1 < D) → Q (.ref D) { s with heap := h' })
    (hs : subscripted slice false (.ref a) (.ref s.heap.objs.size) = operate [.ref s.heap.objs.size, .ref a] (getItem (.ref a) (.ref s.heap.objs.size)) := by with_unfolding_all rfl) :
    wpAny (model prog w) A (subscriptTail value slice (.ref a) (.ref s.heap.objs.size)) Q E { s with heap := s.heap.push { cls := .type "slice", data := .fields #[.none, .int j tj, .none] } } := by
  refine slice_ban F N hm .none (.int j tj) hz (fun D h' F' N' l => ?_) hs
  have N2 : News h₀ L h' ((D, barr ((b.drop 0).take (clipAt b.length j - 0))) :: news) := N'
  rw [cut_to b hj] at N2
  exact h D h' F' N2 l
theorem bytes_ban (N : News h₀ L s.heap news) (hm : (a, barr b) ∈ news) (hz : b.length ≤ 65536) (h : ∀ t k, Q (.bytes b.toArray t) { s with toks := k }) : wpAny (model prog w) A (call (.type "bytes") [.ref a]) Q E s :=
  bytes_ba (N _ hm).1 hz h
end
theorem bytes_le (x : UInt8) : x.toNat < 256 := x.toNat_lt
noncomputable def skipFF : List UInt8 → Nat
  | 255 :: t => skipFF t + 1
  | _ => 0
theorem skipFF_ff {l : List UInt8} {i : Nat} (h : i < l.length) (e : ((l.getD i 0).toNat : Int) = 255) : skipFF (l.drop i) = skipFF (l.drop (i + 1)) + 1 := by
  rw [List.drop_eq_getElem_cons h]
  have e2 : l[i] = 255 := by
    have : l.getD i 0 = l[i] := by simp [h]
    rw [this] at e
    have e3 : (255 : UInt8).toNat = 255 := rfl
    exact UInt8.toNat_inj.mp (by omega)
  rw [e2]; rfl
theorem skipFF_no {l : List UInt8} {i : Nat} (h : i < l.length) (e : ((l.getD i 0).toNat : Int) ≠ 255) : skipFF (l.drop i) = 0 := by
  rw [List.drop_eq_getElem_cons h]
  have e2 : l[i] ≠ 255 := fun q => by
    have : l.getD i 0 = l[i] := by simp [h]
    rw [this, q] at e
    exact e rfl
  unfold skipFF
  split
  · rename_i q; exact absurd (List.cons.inj q).1 e2
  · rfl
theorem skipFF_le : ∀ l : List UInt8, skipFF l ≤ l.length
  | [] => Nat.zero_le _
  | x :: t => by
    have := skipFF_le t
    unfold skipFF
    split
    · rename_i q
      obtain ⟨rfl, rfl⟩ := List.cons.inj q
      simp; omega
    · exact Nat.zero_le _
structure Hs where
  (z1 z2 z3 z4 : Int)
  (k1 k2 k3 k4 : Tok)
noncomputable def feedDict (b : Addr) (bg ov da : Bool) (z : Hs) : List DictEntry := [⟨z.z1, .str "held" z.k1, .ref b⟩, ⟨z.z2, .str "is_begun" z.k2, .bool bg⟩, ⟨z.z3, .str "is_over" z.k3, .bool ov⟩, ⟨z.z4, .str "is_data" z.k4, .bool da⟩]
noncomputable def FeedM (f d b : Addr) (bg ov da : Bool) (z : Hs) (h : List UInt8) : Led := [(f, instObj 212 d), (d, dictOf (feedDict b bg ov da z) 4), (b, barr h)]
structure Apart3 (f d b : Nat) : Prop where
  df : d ≠ f
  bf : b ≠ f
  bd : b ≠ d
noncomputable def EvAt (tl : Led) (tv : Value) : Option Ev → Prop
  | none => tv = .none
  | some e => ∃ a its, tv = .ref a ∧ (a, tupO its) ∈ tl ∧ EvV e its
noncomputable def ResV (tl : Led) (v : Value) (ev : Option Ev) (many : Nat) : Prop := ∃ t tm tv, v = .ref t ∧ (t, tupO [tv, .int (many : Int) tm]) ∈ tl ∧ EvAt tl tv ev

-- part C13
local macro_rules | `(tactic| walk_at "call builtin:len") => `(tactic| (k_here; (with_reducible show wpAny _ _ (call (Value.builtin "len") [Value.ref _]) _ _ _); k_dflt (refine' len_ban (b := _) ?N ?m ?z ?_; (case N => k_asm); (case m => k_mem); (case z => walk_at "my len"); k_whole); intro _ _))
local macro_rules | `(tactic| walk_at "subscriptTail Attribute") => `(tactic| (k_here; (with_reducible show wpAny _ _ (subscriptTail _ _ (Value.ref _) (Value.int _ _)) _ _ _); k_dflt (refine' item_ban (b := _) ?N ?m ?x ?y ?z ?_; (case N => k_asm); (case m => k_mem); (case x => walk_at "my nn"); (case y => walk_at "my nn"); (case z => walk_at "my len"); k_whole); intro _ _))
local macro_rules | `(tactic| walk_at "subscriptTail Attribute Slice ref ref") => `(tactic| (k_here; (with_reducible show wpAny _ _ (subscriptTail _ (Expr.Slice _ _ none _) (Value.ref _) (Value.ref _)) _ _ _); (with_reducible rename Fr _ _ _ _ => F'); (with_reducible rename News _ _ _ _ => N'); k_dflt (first
  | (refine' slice_ban2 (s := ⟨_, _, _, _, _⟩) (b := _) F' N' ?m ?i ?j ?z ?_; (case m => k_mem); (case i => walk_at "my nn"); (case j => walk_at "my nn"); (case z => walk_at "my len"); k_whole)
  | (refine' slice_banF (s := ⟨_, _, _, _, _⟩) (b := _) F' N' ?m ?i ?z ?_; (case m => k_mem); (case i => walk_at "my nn"); (case z => walk_at "my len"); k_whole)
  | (refine' slice_banT (s := ⟨_, _, _, _, _⟩) (b := _) F' N' ?m ?j ?z ?_; (case m => k_mem); (case j => walk_at "my nn"); (case z => walk_at "my len"); k_whole)); intro D' h' F' N' l1; (try k_lt l1); (try k_sweep)))
local macro_rules | `(tactic| walk_at "call type:bytes") => `(tactic| (k_here; (with_reducible show wpAny _ _ (call (Value.type "bytes") [Value.ref _]) _ _ _); k_dflt (refine' bytes_ban (b := _) ?N ?m ?z ?_; (case N => k_asm); (case m => k_mem); (case z => walk_at "my len"); k_whole); intro t' k'))
set_option maxHeartbeats 1000000 in
theorem fill_call {w : World} {H : Heap} {s : Shared} {f d b : Addr} {bg ov da : Bool} {z : Hs} {h : List UInt8} {at' : Nat} {t : Tok}
    (G : Gr w H) (hk : ∀ b o, H.get? b = some o → s.heap.get? b = some o) (hM : ∀ p ∈ FeedM f d b bg ov da z h, s.heap.get? p.1 = some p.2 ∧ H.get? p.1 = none) (hz : h.length ≤ 65536) :
    Call w (FeedM f d b bg ov da z h) 3 30 (.ref 167) [.ref f, .int (at' : Nat) t] s (fun v news' => (∃ t', v = .int ((at' + skipFF (h.drop at') : Nat) : Int) t') ∧ news' = FeedM f d b bg ov da z h) := by
  refine' call_def G hk hM ?ho ?hcd ?hb ?hl ?h ?c1 ?c2 ?c3 ?c4
  walk_at "my enter"
  intro g L' h₁ A mean mg mb hA hd hu X T hg hg' hL F N Z hZ
  walk_at "my go"
  unfold Stop
  rename Fr _ _ _ _ => F1
  rename News _ _ _ _ => N1
  refine while_inv (k := h.length) (fun k m news => ∃ x tx, AllB m [("self", .ref f), ("at", .int ((x : Nat) : Int) tx)] ∧ news = FeedM f d b bg ov da z h ∧ x + skipFF (h.drop x) = at' + skipFF (h.drop at') ∧ (x ≤ at' ∨ x ≤ h.length) ∧ h.length - x ≤ k) F1 N1 ⟨at', t, ⟨rfl, rfl, trivial⟩, rfl, rfl, .inl (Nat.le_refl _), Nat.sub_le _ _⟩ ?_
  rintro k m₁ news₁ h1 tk ⟨x, tx, hm, rfl, hx, hle, hkx⟩ F2 N2 Z2 hZ2
  have F3 := fr_norm F2 hm
  clear F1 F2 N1
  dsimp only [kstB] at F3
  unfold FeedM feedDict at N2
  k_steps
  · rename (_ = (255 : Int)) => e1
    rename ((_ : Int) < _) => e0
    have hx2 : x < h.length := by omega
    have e3 := skipFF_ff hx2 e1
    refine hZ2 _ _ ?_; refine WTurn.next (k - 1) (by omega) (by assumption) (by assumption) ⟨x + 1, _, ⟨rfl, rfl, trivial⟩, rfl, by omega, by omega, by omega⟩
  · rename ((_ : Int) ≠ 255) => e1
    rename ((_ : Int) < _) => e0
    have hx2 : x < h.length := by omega
    have e3 := skipFF_no hx2 e1
    (first | refine hZ _ _ ?_ | (refine hZ2 _ _ ?_; refine hZ _ _ ?_)); exact Ends.ret (by assumption) (by assumption) ⟨⟨_, congrArg (fun q : Nat => Value.int (q : Int) _) (by omega)⟩, rfl⟩
  · rename (¬ (_ : Int) < _) => e0
    have e3 : skipFF (h.drop x) = 0 := by rw [List.drop_eq_nil_of_le (by omega)]; rfl
    (first | refine hZ _ _ ?_ | (refine hZ2 _ _ ?_; refine hZ _ _ ?_)); exact Ends.ret (by assumption) (by assumption) ⟨⟨_, congrArg (fun q : Nat => Value.int (q : Int) _) (by omega)⟩, rfl⟩

-- part C14
section
local macro_rules | `(tactic| walk_at "exec Raise") => `(tactic| (k_here; exfalso; (try simp only [Bool.and_eq_true, Bool.or_eq_true, Bool.not_eq_true', decide_eq_true_eq, decide_eq_false_iff_not, Bool.and_eq_false_imp] at *); omega))
set_option maxHeartbeats 1000000 in
theorem check_call {w : World} {H : Heap} {s : Shared} {f d b : Addr} {bg ov da : Bool} {z : Hs} {h : List UInt8} {c at' : Nat} {t u : Tok}
    (G : Gr w H) (hk : ∀ b o, H.get? b = some o → s.heap.get? b = some o) (hM : ∀ p ∈ FeedM f d b bg ov da z h, s.heap.get? p.1 = some p.2 ∧ H.get? p.1 = none)
    (h0 : c ≠ 0) (h1 : ¬ (208 ≤ c ∧ c ≤ 215)) (h2 : bg = true → c ≠ 216) (h3 : bg = false → c = 216 ∧ at' = 1) :
    Call w (FeedM f d b bg ov da z h) 5 50 (.ref 181) [.ref f, .int (c : Int) t, .int (at' : Nat) u] s (fun v news' => v = .none ∧ news' = FeedM f d b bg ov da z h) := by
  refine' call_def G hk hM ?ho ?hcd ?hb ?hl ?h ?c1 ?c2 ?c3 ?c4
  walk_at "my enter"
  intro g L' h₁ A mean mg mb hA hd hu X T hg hg' hL F N Z hZ
  unfold FeedM feedDict at N
  cases bg
  · have h3 := h3 rfl
    walk_at "my go"
    (first | refine hZ _ _ ?_ | (refine hZ2 _ _ ?_; refine hZ _ _ ?_)); exact Ends.next (by assumption) (by assumption) ⟨rfl, rfl⟩
  · have h2 := h2 rfl
    walk_at "my go"
    (first | refine hZ _ _ ?_ | (refine hZ2 _ _ ?_; refine hZ _ _ ?_)); exact Ends.next (by assumption) (by assumption) ⟨rfl, rfl⟩
end

-- part C15
section
local macro_rules | `(tactic| walk_at "spare") => `(tactic| skip)
local macro_rules | `(tactic| walk_at "exec Raise") => `(tactic| (k_here; exfalso; (try simp only [Bool.and_eq_true, Bool.or_eq_true, Bool.not_eq_true', decide_eq_true_eq, decide_eq_false_iff_not, Bool.and_eq_false_imp] at *); omega))
noncomputable def sizeAt (h : List UInt8) (a : Nat) : Nat := (h.getD a 0).toNat * 256 + (h.getD (a + 1) 0).toNat
theorem led_swap {g h : Heap} {L : Addr} {x1 x2 x3 x4 x5 x6 : Addr × Obj} (N : News g L h [x1, x2, x3, x4, x5, x6]) : News g L h [x4, x5, x6, x1, x2] := fun p hp => N p (by
  simp only [List.mem_cons] at hp ⊢
  rcases hp with h | h | h | h | h | h <;> simp [h])
set_option maxHeartbeats 1000000 in
theorem segment_call {w : World} {H : Heap} {s : Shared} {f d b : Addr} {bg ov da : Bool} {z : Hs} {h : List UInt8} {c at' : Nat} {t u : Tok}
    (G : Gr w H) (hk : ∀ b o, H.get? b = some o → s.heap.get? b = some o) (hM : ∀ p ∈ FeedM f d b bg ov da z h, s.heap.get? p.1 = some p.2 ∧ H.get? p.1 = none) (hap : Apart3 f d b) (hz : h.length ≤ 65536)
    (h2 : h.length < at' + 2 ∨ 2 ≤ sizeAt h at') :
    Call w (FeedM f d b bg ov da z h) 5 50 (.ref 188) [.ref f, .int (c : Int) t, .int (at' : Nat) u] s (fun v news' => ∃ tl, TupOnly tl ∧
      (((h.length < at' + 2 ∨ h.length < at' + sizeAt h at') ∧ news' = FeedM f d b bg ov da z h ++ tl ∧ ResV tl v none 0) ∨
       (at' + 2 ≤ h.length ∧ at' + sizeAt h at' ≤ h.length ∧ news' = FeedM f d b bg ov (c == 218) z h ++ tl ∧ ResV tl v (some (.seg c ((h.drop (at' + 2)).take (sizeAt h at' - 2)))) (at' + sizeAt h at')))) := by
  refine' call_def G hk hM ?ho ?hcd ?hb ?hl ?h ?c1 ?c2 ?c3 ?c4
  walk_at "my enter"
  intro g L' h₁ A mean mg mb hA hd hu X T hg hg' hL F N Z hZ
  unfold FeedM feedDict at N
  obtain ⟨a1, a2, a3⟩ := hap
  have eS : ((sizeAt h at' : Nat) : Int) = ((h.getD (Int.toNat ↑at') 0).toNat : Int) * 256 + ((h.getD (Int.toNat (↑at' + 1)) 0).toNat : Int) := by
    show _ = ((h.getD at' 0).toNat : Int) * 256 + ((h.getD (at' + 1) 0).toNat : Int)
    unfold sizeAt; omega
  walk_at "my go"
  · rename News _ _ _ _ => N7
    rename Fr _ _ _ _ => F7
    (try dsimp only)
    (first | refine hZ _ _ ?_ | (refine hZ2 _ _ ?_; refine hZ _ _ ?_)); refine Ends.ret (news' := (f, instObj 212 d) :: (d, dictOf (feedDict b bg ov da z) 4) :: (b, barr h) :: [(_, tupO [_, _])]) F7 (news_c N7 (by k_mem) (news_c N7 (by unfold feedDict; k_mem) (news_c N7 (by k_mem) (news_c N7 (by k_mem) News.nil)))) ⟨_, TupOnly.cons no_mem, .inl ⟨.inl (by omega), rfl, _, _, _, rfl, .head _, rfl⟩⟩
  · rename News _ _ _ _ => N7
    rename Fr _ _ _ _ => F7
    (try dsimp only)
    (first | refine hZ _ _ ?_ | (refine hZ2 _ _ ?_; refine hZ _ _ ?_)); refine Ends.ret (news' := (f, instObj 212 d) :: (d, dictOf (feedDict b bg ov da z) 4) :: (b, barr h) :: [(_, tupO [_, _])]) F7 (news_c N7 (by k_mem) (news_c N7 (by unfold feedDict; k_mem) (news_c N7 (by k_mem) (news_c N7 (by k_mem) News.nil)))) ⟨_, TupOnly.cons no_mem, .inl ⟨.inr (by omega), rfl, _, _, _, rfl, .head _, rfl⟩⟩
  · rename News _ _ _ _ => N7
    rename Fr _ _ _ _ => F7
    (try dsimp only)
    have e1 : (Int.toNat (↑at' + (((h.getD (Int.toNat ↑at') 0).toNat : Int) * 256 + ((h.getD (Int.toNat (↑at' + 1)) 0).toNat : Int))) - Int.toNat (↑at' + 2)) = sizeAt h at' - 2 := by omega
    have e2 : Int.toNat (↑at' + 2) = at' + 2 := by omega
    have e3 : (↑at' + (((h.getD (Int.toNat ↑at') 0).toNat : Int) * 256 + ((h.getD (Int.toNat (↑at' + 1)) 0).toNat : Int))) = ((at' + sizeAt h at' : Nat) : Int) := by omega
    rw [e1, e2, e3] at N7
    have e4 : ((c == 218) : Bool) = ((c : Int) == 218) := by rw [Bool.eq_iff_iff]; simp; omega
    (first | refine hZ _ _ ?_ | (refine hZ2 _ _ ?_; refine hZ _ _ ?_)); refine' Ends.ret F7 (led_swap N7) ⟨_, ?t1, .inr ⟨by omega, by omega, ?eq, ?r⟩⟩
    case eq => rw [e4]; rfl
    case t1 => exact TupOnly.cons (TupOnly.cons no_mem)
    case r => exact ⟨_, _, _, rfl, .head _, _, _, rfl, .tail _ (.head _), _, _, _, rfl⟩
end

-- part C16
theorem feed_use {w : World} {g : Heap} {L : Addr} {s : Shared} {m : Str → Option Value} {M : Led} {A : Around} {Q E : Value → Shared → Prop} {d u : Nat} {f : Value} {vs : List Value} {P : Value → Led → Prop}
    (F : Fr g L s.heap m) (N : News g L s.heap M) (C : (∀ p ∈ M, s.heap.get? p.1 = some p.2 ∧ g.get? p.1 = none) → Call w M d u f vs s P)
    (hA : A.handled = none) (hd : A.depth + d < recursionLimit) (hu : A.units + u < cLine)
    (hQ : ∀ v n' h' tk', Fr g L h' m → News g L h' n' → P v n' → Q v { s with heap := h', toks := tk' }) :
    wpAny (model PySem.Challenge.rw_nz0248_01.row.prog w) A (PySem.call f vs) Q E s :=
  Call.use (rest := []) (C fun p hp => ⟨(N p hp).1, (N p hp).2.2⟩) F N hA hd hu (fun _ h => h) no_mem fun v h' tk' n' F' N' _ hP => hQ v n' h' tk' F' (by rwa [List.append_nil] at N') hP
section
variable {w : World} {g : Heap} {L : Addr} {s : Shared} {m : Str → Option Value} {A : Around} {Q E : Value → Shared → Prop} {f d b : Addr} {bg ov da : Bool} {z : Hs} {h : List UInt8} {c at' : Int} {t u : Tok} {mean mg mb}
theorem fill_use (X : (hd.heap_1 w.params).In g) (T : Top hd.view_1 (looseW hd.view_1 [Str.ofString "Piece"]) mean mg mb g) (F : Fr g L s.heap m) (N : News g L s.heap (FeedM f d b bg ov da z h))
    (hA : A.handled = none) (hd : A.depth + 3 < recursionLimit) (hu : A.units + 30 < cLine) (hz : h.length ≤ 65536) (h0 : 0 ≤ at')
    (hQ : ∀ t' h' tk', Fr g L h' m → News g L h' (FeedM f d b bg ov da z h) → Q (.int ((at'.toNat + skipFF (h.drop at'.toNat) : Nat) : Int) t') { s with heap := h', toks := tk' }) :
    wpAny (model PySem.Challenge.rw_nz0248_01.row.prog w) A (PySem.call (.ref 167) [.ref f, .int at' t]) Q E s := by
  obtain ⟨x, rfl⟩ : ∃ x : Nat, at' = x := ⟨at'.toNat, by omega⟩
  refine feed_use F N (fun hM => fill_call ⟨X, _, _, _, T⟩ F.keep hM hz) hA hd hu ?_
  rintro v n' h' tk' F' N' ⟨⟨t', rfl⟩, rfl⟩
  exact hQ t' h' tk' F' N'
theorem check_use (X : (hd.heap_1 w.params).In g) (T : Top hd.view_1 (looseW hd.view_1 [Str.ofString "Piece"]) mean mg mb g) (F : Fr g L s.heap m) (N : News g L s.heap (FeedM f d b bg ov da z h))
    (hA : A.handled = none) (hd : A.depth + 5 < recursionLimit) (hu : A.units + 50 < cLine) (c0 : 0 ≤ c) (a0 : 0 ≤ at') (h0 : c ≠ 0) (h1 : ¬ (208 ≤ c ∧ c ≤ 215)) (h2 : bg = false ∨ c ≠ 216) (h3 : bg = true ∨ (c = 216 ∧ at' = 1))
    (hQ : ∀ h' tk', Fr g L h' m → News g L h' (FeedM f d b bg ov da z h) → Q .none { s with heap := h', toks := tk' }) :
    wpAny (model PySem.Challenge.rw_nz0248_01.row.prog w) A (PySem.call (.ref 181) [.ref f, .int c t, .int at' u]) Q E s := by
  obtain ⟨x, rfl⟩ : ∃ x : Nat, at' = x := ⟨at'.toNat, by omega⟩
  obtain ⟨y, rfl⟩ : ∃ x : Nat, c = x := ⟨c.toNat, by omega⟩
  refine feed_use F N (fun hM => check_call ⟨X, _, _, _, T⟩ F.keep hM (by omega) (by omega) (fun e => ?_) (fun e => ?_)) hA hd hu ?_
  · rcases h2 with q | q
    · rw [q] at e; cases e
    · omega
  · rcases h3 with q | q
    · rw [q] at e; cases e
    · exact ⟨by omega, by omega⟩
  rintro v n' h' tk' F' N' ⟨rfl, rfl⟩
  exact hQ h' tk' F' N'
theorem segment_use (X : (hd.heap_1 w.params).In g) (T : Top hd.view_1 (looseW hd.view_1 [Str.ofString "Piece"]) mean mg mb g) (F : Fr g L s.heap m) (N : News g L s.heap (FeedM f d b bg ov da z h)) (hap : Apart3 f d b)
    (hA : A.handled = none) (hd : A.depth + 5 < recursionLimit) (hu : A.units + 50 < cLine) (hz : h.length ≤ 65536) (c0 : 0 ≤ c) (a0 : 0 ≤ at') (h2 : h.length < at'.toNat + 2 ∨ 2 ≤ sizeAt h at'.toNat)
    (hQ : ∀ v n' h' tk', Fr g L h' m → News g L h' n' → (∃ tl, TupOnly tl ∧
      (((h.length < at'.toNat + 2 ∨ h.length < at'.toNat + sizeAt h at'.toNat) ∧ n' = FeedM f d b bg ov da z h ++ tl ∧ ResV tl v none 0) ∨
       (at'.toNat + 2 ≤ h.length ∧ at'.toNat + sizeAt h at'.toNat ≤ h.length ∧ n' = FeedM f d b bg ov (c.toNat == 218) z h ++ tl ∧ ResV tl v (some (.seg c.toNat ((h.drop (at'.toNat + 2)).take (sizeAt h at'.toNat - 2)))) (at'.toNat + sizeAt h at'.toNat)))) → Q v { s with heap := h', toks := tk' }) :
    wpAny (model PySem.Challenge.rw_nz0248_01.row.prog w) A (PySem.call (.ref 188) [.ref f, .int c t, .int at' u]) Q E s := by
  obtain ⟨x, rfl⟩ : ∃ x : Nat, at' = x := ⟨at'.toNat, by omega⟩
  obtain ⟨y, rfl⟩ : ∃ x : Nat, c = x := ⟨c.toNat, by omega⟩
  exact feed_use F N (fun hM => segment_call ⟨X, _, _, _, T⟩ F.keep hM hap hz h2) hA hd hu hQ
end
theorem fill_use0 {w : World} {g : Heap} {L : Addr} {s : Shared} {m : Str → Option Value} {A : Around} {Q E : Value → Shared → Prop} {f d b : Addr} {bg ov da : Bool} {z : Hs} {h : List UInt8} {t : Tok} {mean mg mb}
    (X : (hd.heap_1 w.params).In g) (T : Top hd.view_1 (looseW hd.view_1 [Str.ofString "Piece"]) mean mg mb g) (F : Fr g L s.heap m) (N : News g L s.heap (FeedM f d b bg ov da z h))
    (hA : A.handled = none) (hd : A.depth + 3 < recursionLimit) (hu : A.units + 30 < cLine) (hz : h.length ≤ 65536)
    (hQ : ∀ t' h' tk', Fr g L h' m → News g L h' (FeedM f d b bg ov da z h) → Q (.int ((skipFF h : Nat) : Int) t') { s with heap := h', toks := tk' }) :
    wpAny (model PySem.Challenge.rw_nz0248_01.row.prog w) A (PySem.call (.ref 167) [.ref f, .int 0 t]) Q E s := by
  refine fill_use X T F N hA hd hu hz (by decide) fun t' h' tk' F' N' => ?_
  have := hQ t' h' tk' F' N'
  rw [← Nat.zero_add (skipFF h)] at this
  exact this
theorem fill_useN {w : World} {g : Heap} {L : Addr} {s : Shared} {m : Str → Option Value} {A : Around} {Q E : Value → Shared → Prop} {f d b : Addr} {bg ov da : Bool} {z : Hs} {h : List UInt8} {x : Nat} {t : Tok} {mean mg mb}
    (X : (hd.heap_1 w.params).In g) (T : Top hd.view_1 (looseW hd.view_1 [Str.ofString "Piece"]) mean mg mb g) (F : Fr g L s.heap m) (N : News g L s.heap (FeedM f d b bg ov da z h))
    (hA : A.handled = none) (hd : A.depth + 3 < recursionLimit) (hu : A.units + 30 < cLine) (hz : h.length ≤ 65536)
    (hQ : ∀ t' h' tk', Fr g L h' m → News g L h' (FeedM f d b bg ov da z h) → Q (.int ((x + skipFF (h.drop x) : Nat) : Int) t') { s with heap := h', toks := tk' }) :
    wpAny (model PySem.Challenge.rw_nz0248_01.row.prog w) A (PySem.call (.ref 167) [.ref f, .int (x : Int) t]) Q E s :=
  fill_use X T F N hA hd hu hz (by omega) hQ

-- part C17
section
local macro_rules | `(tactic| walk_at "exec Raise") => `(tactic| (k_here; exfalso; (try simp only [Bool.and_eq_true, Bool.or_eq_true, Bool.not_eq_true', decide_eq_true_eq, decide_eq_false_iff_not, Bool.and_eq_false_imp] at *); omega))
local macro_rules | `(tactic| walk_at "call ref") => `(tactic| (
  k_here; (with_reducible show wpAny _ _ (PySem.call (Value.ref 167) [Value.ref _, Value.int _ _]) _ _ _);
  (with_unfolding_all refine' fill_use0 ?X ?T ?F ?N ?A ?d ?u ?z ?_); (case X => k_asm); (case T => k_asm); (case F => k_asm); (case N => with_unfolding_all k_asm); (case A => first | assumption | exact rfl); (case d => walk_at "my room"); (case u => walk_at "my room"); (case z => walk_at "my len");
  k_whole; intro t' h' tk' F' N'; (try dsimp only [FeedM, feedDict] at N'); (try k_sweep)))
local macro_rules | `(tactic| walk_at "call ref") => `(tactic| (
  k_here; (with_reducible show wpAny _ _ (PySem.call (Value.ref 181) [Value.ref _, Value.int _ _, Value.int _ _]) _ _ _);
  (with_unfolding_all refine' check_use ?X ?T ?F ?N ?A ?d ?u ?c ?a ?h0 ?h1 ?h2 ?h3 ?_); (case X => k_asm); (case T => k_asm); (case F => k_asm); (case N => with_unfolding_all k_asm); (case A => first | assumption | exact rfl); (case d => walk_at "my room"); (case u => walk_at "my room"); (case c => omega); (case a => omega); (case h0 => omega); (case h1 => omega); (case h2 => first | assumption | omega | (right; omega)); (case h3 => first | assumption | (right; omega));
  k_whole; intro h' tk' F' N'; (try dsimp only [FeedM, feedDict] at N'); (try k_sweep)))
local macro_rules | `(tactic| walk_at "call ref") => `(tactic| (
  k_here; (with_reducible show wpAny _ _ (PySem.call (Value.ref 188) [Value.ref _, Value.int _ _, Value.int _ _]) _ _ _); refine stop ?_))
theorem led_swap5 {g h : Heap} {L : Addr} {x1 x2 x4 x5 x6 : Addr × Obj} (N : News g L h [x1, x2, x4, x5, x6]) : News g L h [x4, x5, x6, x1, x2] := fun p hp => N p (by
  simp only [List.mem_cons] at hp ⊢
  rcases hp with h | h | h | h | h | h <;> simp [h])
structure MarkerOk (h : List UInt8) (bg : Bool) : Prop where
  ff : h = [] ∨ (h.getD 0 0).toNat = 255
  code : h.length ≤ skipFF h ∨ ((h.getD (skipFF h) 0).toNat ≠ 0 ∧ ¬ (208 ≤ (h.getD (skipFF h) 0).toNat ∧ (h.getD (skipFF h) 0).toNat ≤ 215))
  soi : h.length ≤ skipFF h ∨ ((bg = false ∨ ((h.getD (skipFF h) 0).toNat : Int) ≠ 216) ∧ (bg = true ∨ (((h.getD (skipFF h) 0).toNat : Int) = 216 ∧ ((skipFF h : Nat) : Int) = 1)))
  size : h.length ≤ skipFF h ∨ hasLen (h.getD (skipFF h) 0).toNat = false ∨ h.length < skipFF h + 1 + 2 ∨ 2 ≤ sizeAt h (skipFF h + 1)
noncomputable def markerOut (h : List UInt8) (bg ov da : Bool) : Option Ev × Nat × Bool × Bool × Bool :=
  if h.length ≤ skipFF h then (none, 0, bg, ov, da)
  else if hasLen (h.getD (skipFF h) 0).toNat = true then
    if h.length < skipFF h + 1 + 2 ∨ h.length < skipFF h + 1 + sizeAt h (skipFF h + 1) then (none, 0, bg, ov, da)
    else (some (.seg (h.getD (skipFF h) 0).toNat ((h.drop (skipFF h + 1 + 2)).take (sizeAt h (skipFF h + 1) - 2))), skipFF h + 1 + sizeAt h (skipFF h + 1), bg, ov, (h.getD (skipFF h) 0).toNat == 218)
  else (some (.marker (h.getD (skipFF h) 0).toNat), skipFF h + 1, true, (h.getD (skipFF h) 0).toNat == 217, da)
noncomputable def OutP (f d b : Addr) (z : Hs) (h : List UInt8) (out : Option Ev × Nat × Bool × Bool × Bool) (v : Value) (news' : Led) : Prop :=
  ∃ tl, TupOnly tl ∧ news' = FeedM f d b out.2.2.1 out.2.2.2.1 out.2.2.2.2 z h ++ tl ∧ ResV tl v out.1 out.2.1
set_option maxHeartbeats 1000000 in
theorem marker_call {w : World} {H : Heap} {s : Shared} {f d b : Addr} {bg ov da : Bool} {z : Hs} {h : List UInt8}
    (G : Gr w H) (hk : ∀ b o, H.get? b = some o → s.heap.get? b = some o) (hM : ∀ p ∈ FeedM f d b bg ov da z h, s.heap.get? p.1 = some p.2 ∧ H.get? p.1 = none) (hap : Apart3 f d b) (hz : h.length ≤ 65536) (hok : MarkerOk h bg) :
    Call w (FeedM f d b bg ov da z h) 7 80 (.ref 174) [.ref f] s (OutP f d b z h (markerOut h bg ov da)) := by
  refine' call_def G hk hM ?ho ?hcd ?hb ?hl ?h ?c1 ?c2 ?c3 ?c4
  walk_at "my enter"
  intro g L' h₁ A mean mg mb hA hd hu X T hg hg' hL F N Z hZ
  unfold FeedM feedDict at N
  obtain ⟨a1, a2, a3⟩ := id hap
  have hsk := skipFF_le h
  have z0 : h.length = 0 ∨ ((h.getD (Int.toNat 0) 0).toNat : Int) = 255 := by
    rcases hok.ff with e | e
    · left; rw [e]; rfl
    · right; show ((h.getD 0 0).toNat : Int) = 255; omega
  by_cases hlen : h.length ≤ skipFF h
  · have eM : markerOut h bg ov da = (none, 0, bg, ov, da) := if_pos hlen
    rw [eM] at hZ
    walk_at "my go"
    all_goals first
      | (exfalso; omega)
      | skip
    all_goals
      rename News _ _ _ _ => N7
      rename Fr _ _ _ _ => F7
      (try dsimp only)
      (first | refine hZ _ _ ?_ | (refine hZ2 _ _ ?_; refine hZ _ _ ?_)); refine Ends.ret (news' := (f, instObj 212 d) :: (d, dictOf (feedDict b bg ov da z) 4) :: (b, barr h) :: [(_, tupO [_, _])]) F7 (news_c N7 (by k_mem) (news_c N7 (by unfold feedDict; k_mem) (news_c N7 (by k_mem) (news_c N7 (by k_mem) News.nil)))) ⟨_, TupOnly.cons no_mem, rfl, _, _, _, rfl, .head _, rfl⟩
  · have c1 : ((h.getD (Int.toNat ((skipFF h : Nat) : Int)) 0).toNat : Int) ≠ 0 := by
      show ((h.getD (skipFF h) 0).toNat : Int) ≠ 0
      have := hok.code.resolve_left hlen
      omega
    have c2 : ¬ (208 ≤ ((h.getD (Int.toNat ((skipFF h : Nat) : Int)) 0).toNat : Int) ∧ ((h.getD (Int.toNat ((skipFF h : Nat) : Int)) 0).toNat : Int) ≤ 215) := by
      show ¬ (208 ≤ ((h.getD (skipFF h) 0).toNat : Int) ∧ ((h.getD (skipFF h) 0).toNat : Int) ≤ 215)
      have := hok.code.resolve_left hlen
      omega
    have c3 : bg = false ∨ ((h.getD (Int.toNat ((skipFF h : Nat) : Int)) 0).toNat : Int) ≠ 216 := (hok.soi.resolve_left hlen).1
    have c4 : bg = true ∨ (((h.getD (Int.toNat ((skipFF h : Nat) : Int)) 0).toNat : Int) = 216 ∧ ((skipFF h : Nat) : Int) = 1) := (hok.soi.resolve_left hlen).2
    walk_at "my go"
    all_goals first
      | (exfalso; omega)
      | skip
    all_goals (rename hasLen _ = _ => hc; rename News _ _ _ _ => N7; rename Fr _ _ _ _ => F7)
    · unfold Stop
      have hcc : hasLen (h.getD (skipFF h) 0).toNat = true := hc
      refine segment_use (bg := bg) (ov := ov) (da := da) (z := z) (h := h) X T F7 N7 hap hA (by walk_at "my room") (by walk_at "my room") hz (by omega) (by omega) ?_ ?_
      · rcases hok.size.resolve_left hlen with q | q
        · rw [hcc] at q; cases q
        · exact q
      · rintro v n' h' tk' F' N' ⟨tl, ht, hP⟩
        (try dsimp only)
        (first | refine hZ _ _ ?_ | (refine hZ2 _ _ ?_; refine hZ _ _ ?_)); refine Ends.ret F' N' ?_
        unfold markerOut
        rw [if_neg hlen, if_pos hcc]
        rcases hP with ⟨hh, e, hr⟩ | ⟨h1, h2, e, hr⟩
        · rw [if_pos (show h.length < skipFF h + 1 + 2 ∨ h.length < skipFF h + 1 + sizeAt h (skipFF h + 1) from hh)]
          exact ⟨tl, ht, e, hr⟩
        · have hn : ¬ (h.length < skipFF h + 1 + 2 ∨ h.length < skipFF h + 1 + sizeAt h (skipFF h + 1)) := by
            have h1' : skipFF h + 1 + 2 ≤ h.length := h1
            have h2' : skipFF h + 1 + sizeAt h (skipFF h + 1) ≤ h.length := h2
            omega
          rw [if_neg hn]
          exact ⟨tl, ht, e, hr⟩
    · have hcc : ¬ hasLen (h.getD (skipFF h) 0).toNat = true := fun q => by
        have : hasLen (h.getD (skipFF h) 0).toNat = false := hc
        rw [this] at q; cases q
      (try dsimp only)
      refine hZ _ _ ?_
      unfold markerOut
      rw [if_neg hlen, if_neg hcc]
      have e4 : (((h.getD (skipFF h) 0).toNat == 217) : Bool) = (((h.getD (Int.toNat ((skipFF h : Nat) : Int)) 0).toNat : Int) == 217) := by
        show _ = (((h.getD (skipFF h) 0).toNat : Int) == 217)
        rw [Bool.eq_iff_iff]; simp; omega
      refine' Ends.ret F7 (led_swap5 N7) ⟨_, ?t1, ?eq, ?r⟩
      case eq => rw [e4]; rfl
      case t1 => exact TupOnly.cons (TupOnly.cons no_mem)
      case r => exact ⟨_, _, _, rfl, .head _, _, _, rfl, .tail _ (.head _), _, _, rfl⟩
end

-- part C18
section
noncomputable def dataOut (h : List UInt8) (x : Nat) (bg ov da : Bool) : Option Ev × Nat × Bool × Bool × Bool := if x = 0 then (none, 0, bg, ov, da) else (some (.data (h.take x)), x, bg, ov, da)
noncomputable def lastOut (h : List UInt8) (x : Nat) (bg ov da : Bool) : Option Ev × Nat × Bool × Bool × Bool := if x = 0 then markerOut h bg ov da else (some (.data (h.take x)), x, bg, ov, da)
theorem led_swap6 {g h : Heap} {L : Addr} {x1 x2 x3 x4 x5 x6 : Addr × Obj} (N : News g L h [x1, x2, x3, x4, x5, x6]) : News g L h [x4, x5, x6, x1, x2] := led_swap N
local macro_rules | `(tactic| walk_at "call ref") => `(tactic| (
  k_here; (with_reducible show wpAny _ _ (PySem.call (Value.ref 174) [Value.ref _]) _ _ _); refine stop ?_))
set_option maxHeartbeats 1000000 in
theorem upto_call {w : World} {H : Heap} {s : Shared} {f d b : Addr} {bg ov da : Bool} {z : Hs} {h : List UInt8} {x : Nat} {t : Tok}
    (G : Gr w H) (hk : ∀ b o, H.get? b = some o → s.heap.get? b = some o) (hM : ∀ p ∈ FeedM f d b bg ov da z h, s.heap.get? p.1 = some p.2 ∧ H.get? p.1 = none) (hz : h.length ≤ 65536) :
    Call w (FeedM f d b bg ov da z h) 5 50 (.ref 202) [.ref f, .int ((x : Nat) : Int) t] s (OutP f d b z h (dataOut h x bg ov da)) := by
  refine' call_def G hk hM ?ho ?hcd ?hb ?hl ?h ?c1 ?c2 ?c3 ?c4
  walk_at "my enter"
  intro g L' h₁ A mean mg mb hA hd hu X T hg hg' hL F N Z hZ
  unfold FeedM feedDict at N
  walk_at "my go"
  all_goals (rename News _ _ _ _ => N7; rename Fr _ _ _ _ => F7; (try dsimp only))
  · (first | refine hZ _ _ ?_ | (refine hZ2 _ _ ?_; refine hZ _ _ ?_)); refine Ends.ret (P := OutP f d b z h (dataOut h x bg ov da)) (news' := (f, instObj 212 d) :: (d, dictOf (feedDict b bg ov da z) 4) :: (b, barr h) :: [(_, tupO [_, _])]) F7 (news_c N7 (by k_mem) (news_c N7 (by unfold feedDict; k_mem) (news_c N7 (by k_mem) (news_c N7 (by k_mem) News.nil)))) ?_
    unfold dataOut
    rw [if_pos (show x = 0 by omega)]
    exact ⟨_, TupOnly.cons no_mem, rfl, _, _, _, rfl, .head _, rfl⟩
  · (first | refine hZ _ _ ?_ | (refine hZ2 _ _ ?_; refine hZ _ _ ?_)); refine Ends.ret (P := OutP f d b z h (dataOut h x bg ov da)) F7 (led_swap N7) ?_
    unfold dataOut
    rw [if_neg (show ¬ x = 0 by omega)]
    refine' ⟨_, ?t1, ?eq, ?r⟩
    case eq => rfl
    case t1 => exact TupOnly.cons (TupOnly.cons no_mem)
    case r => exact ⟨_, _, _, rfl, .head _, _, _, rfl, .tail _ (.head _), _, _, rfl⟩
set_option maxHeartbeats 1000000 in
theorem last_call {w : World} {H : Heap} {s : Shared} {f d b : Addr} {bg ov da : Bool} {z : Hs} {h : List UInt8} {x : Nat} {t : Tok}
    (G : Gr w H) (hk : ∀ b o, H.get? b = some o → s.heap.get? b = some o) (hM : ∀ p ∈ FeedM f d b bg ov da z h, s.heap.get? p.1 = some p.2 ∧ H.get? p.1 = none) (hap : Apart3 f d b) (hz : h.length ≤ 65536) (hok : x = 0 → MarkerOk h bg) :
    Call w (FeedM f d b bg ov da z h) 9 100 (.ref 209) [.ref f, .int ((x : Nat) : Int) t] s (OutP f d b z h (lastOut h x bg ov da)) := by
  refine' call_def G hk hM ?ho ?hcd ?hb ?hl ?h ?c1 ?c2 ?c3 ?c4
  walk_at "my enter"
  intro g L' h₁ A mean mg mb hA hd hu X T hg hg' hL F N Z hZ
  unfold FeedM feedDict at N
  walk_at "my go"
  all_goals (rename News _ _ _ _ => N7; rename Fr _ _ _ _ => F7)
  · (try dsimp only)
    have hx : x = 0 := by omega
    refine feed_use F7 N7 (fun hM => marker_call (bg := bg) (ov := ov) (da := da) (z := z) (h := h) ⟨X, _, _, _, T⟩ F7.keep hM hap hz (hok hx)) hA (by walk_at "my room") (by walk_at "my room") ?_
    intro v n' h' tk' F' N' hP
    (try dsimp only)
    (first | refine hZ _ _ ?_ | (refine hZ2 _ _ ?_; refine hZ _ _ ?_)); refine Ends.ret (P := OutP f d b z h (lastOut h x bg ov da)) F' N' ?_
    unfold lastOut
    rw [if_pos hx]
    exact hP
  · (try dsimp only)
    (first | refine hZ _ _ ?_ | (refine hZ2 _ _ ?_; refine hZ _ _ ?_)); refine Ends.ret (P := OutP f d b z h (lastOut h x bg ov da)) F7 (led_swap N7) ?_
    unfold lastOut
    rw [if_neg (show ¬ x = 0 by omega)]
    refine' ⟨_, ?t1, ?eq, ?r⟩
    case eq => rfl
    case t1 => exact TupOnly.cons (TupOnly.cons no_mem)
    case r => exact ⟨_, _, _, rfl, .head _, _, _, rfl, .tail _ (.head _), _, _, rfl⟩
end

-- part C19
section
noncomputable def isRst (c : Nat) : Bool := decide (208 ≤ (c : Int)) && decide ((c : Int) ≤ 215)
noncomputable def scanD : Nat → List UInt8 → Nat → Nat × Bool
  | 0, _, x => (x, false)
  | n + 1, h, x =>
    if h.length ≤ x then (x, false)
    else if (h.getD x 0).toNat ≠ 255 then scanD n h (x + 1)
    else if h.length ≤ x + skipFF (h.drop x) then (x, false)
    else if (h.getD (x + skipFF (h.drop x)) 0).toNat ≠ 0 ∧ isRst (h.getD (x + skipFF (h.drop x)) 0).toNat = false then (x, true)
    else scanD n h (x + skipFF (h.drop x) + 1)
theorem scan_succ (n : Nat) (h : List UInt8) (x : Nat) : scanD (n + 1) h x = if h.length ≤ x then (x, false)
    else if (h.getD x 0).toNat ≠ 255 then scanD n h (x + 1)
    else if h.length ≤ x + skipFF (h.drop x) then (x, false)
    else if (h.getD (x + skipFF (h.drop x)) 0).toNat ≠ 0 ∧ isRst (h.getD (x + skipFF (h.drop x)) 0).toNat = false then (x, true)
    else scanD n h (x + skipFF (h.drop x) + 1) := rfl
noncomputable def dataEv (h : List UInt8) (bg ov da : Bool) : Option Ev × Nat × Bool × Bool × Bool :=
  match scanD (h.length + 1) h 0 with
  | (x, false) => dataOut h x bg ov da
  | (x, true) => lastOut h x bg ov false
local macro_rules | `(tactic| walk_at "call ref") => `(tactic| (
  k_here; (with_reducible show wpAny _ _ (PySem.call (Value.ref 167) [Value.ref _, Value.int _ _]) _ _ _);
  (with_unfolding_all refine' fill_useN ?X ?T ?F ?N ?A ?d ?u ?z ?_); (case X => k_asm); (case T => k_asm); (case F => k_asm); (case N => with_unfolding_all k_asm); (case A => first | assumption | exact rfl); (case d => walk_at "my room"); (case u => walk_at "my room"); (case z => walk_at "my len");
  k_whole; intro t' h' tk' F' N'; (try dsimp only [FeedM, feedDict] at N'); (try k_sweep)))
local macro_rules | `(tactic| walk_at "call ref") => `(tactic| (
  k_here; (with_reducible show wpAny _ _ (PySem.call (Value.ref 202) [Value.ref _, Value.int _ _]) _ _ _); refine stop ?_))
local macro_rules | `(tactic| walk_at "call ref") => `(tactic| (
  k_here; (with_reducible show wpAny _ _ (PySem.call (Value.ref 209) [Value.ref _, Value.int _ _]) _ _ _); refine stop ?_))
set_option maxHeartbeats 1000000 in
theorem dataev_call {w : World} {H : Heap} {s : Shared} {f d b : Addr} {bg ov da : Bool} {z : Hs} {h : List UInt8}
    (G : Gr w H) (hk : ∀ b o, H.get? b = some o → s.heap.get? b = some o) (hM : ∀ p ∈ FeedM f d b bg ov da z h, s.heap.get? p.1 = some p.2 ∧ H.get? p.1 = none) (hap : Apart3 f d b) (hz : h.length ≤ 60000)
    (hok : scanD (h.length + 1) h 0 = (0, true) → MarkerOk h bg) :
    Call w (FeedM f d b bg ov da z h) 11 120 (.ref 195) [.ref f] s (OutP f d b z h (dataEv h bg ov da)) := by
  refine' call_def G hk hM ?ho ?hcd ?hb ?hl ?h ?c1 ?c2 ?c3 ?c4
  walk_at "my enter"
  intro g L' h₁ A mean mg mb hA hd hu X T hg hg' hL F N Z hZ
  obtain ⟨a1, a2, a3⟩ := id hap
  walk_at "my go"
  unfold Stop
  rename Fr _ _ _ _ => F1
  rename News _ _ _ _ => N1
  refine while_inv (k := h.length + 1) (fun k m news => ∃ x tx, AllB m [("self", .ref f), ("at", .int ((x : Nat) : Int) tx)] ∧ news = FeedM f d b bg ov da z h ∧ scanD k h x = scanD (h.length + 1) h 0 ∧ h.length < x + k) F1 N1 ⟨0, _, ⟨rfl, rfl, trivial⟩, rfl, rfl, by omega⟩ ?_
  rintro k m₁ news₁ h1 tk ⟨x, tx, hm, rfl, hx, hkx⟩ F2 N2 Z2 hZ2
  have F3 := fr_norm F2 hm
  clear F1 F2 N1
  dsimp only [kstB] at F3
  unfold FeedM feedDict at N2
  have hsk : h.length < x ∨ x + skipFF (h.drop x) ≤ h.length := by
    rcases Nat.lt_or_ge h.length x with q | q
    · exact .inl q
    · have := skipFF_le (h.drop x)
      rw [List.length_drop] at this
      right; omega
  k_steps
  · rename ((_ : Int) ≠ 255) => e1
    rename ((_ : Int) < _) => e0
    obtain ⟨k', rfl⟩ : ∃ k', k = k' + 1 := ⟨k - 1, by omega⟩
    have e2 : (h.getD x 0).toNat ≠ 255 := fun q => e1 (by show ((h.getD x 0).toNat : Int) = 255; omega)
    have hx2 : scanD k' h (x + 1) = scanD (h.length + 1) h 0 := by
      rw [← hx]; rw [scan_succ, if_neg (show ¬ h.length ≤ x by omega), if_pos e2]
    refine hZ2 _ _ ?_; exact WTurn.next k' (Nat.lt_succ_self _) (by assumption) (by assumption) ⟨x + 1, _, ⟨rfl, rfl, trivial⟩, rfl, hx2, by omega⟩
  · unfold Stop
    rename ((_ : Int) = 255) => e1
    rename ((_ : Int) < _) => e0
    rename (((_ : Nat) : Int) = ((h.length : Nat) : Int)) => e3
    obtain ⟨k', rfl⟩ : ∃ k', k = k' + 1 := ⟨k - 1, by omega⟩
    have e2 : ¬ (h.getD x 0).toNat ≠ 255 := fun q => q (by have : ((h.getD x 0).toNat : Int) = 255 := e1; omega)
    have hx2 : (x, false) = scanD (h.length + 1) h 0 := by
      rw [← hx]; rw [scan_succ, if_neg (show ¬ h.length ≤ x by omega), if_neg e2, if_pos (by omega)]
    rename News _ _ _ _ => N7
    rename Fr _ _ _ _ => F7
    refine feed_use F7 N7 (fun hM => upto_call (bg := bg) (ov := ov) (da := da) (z := z) (h := h) ⟨X, _, _, _, T⟩ F7.keep hM (by omega)) hA (by walk_at "my room") (by walk_at "my room") ?_
    intro v n' h' tk' F' N' hP
    (first | refine hZ _ _ ?_ | (refine hZ2 _ _ ?_; refine hZ _ _ ?_)); refine Ends.ret F' N' ?_
    unfold dataEv
    rw [← hx2]
    exact hP
  · rename ((_ : Int) = 255) => e1
    rename ((_ : Int) < _) => e0
    rename (((_ : Nat) : Int) ≠ ((h.length : Nat) : Int)) => e3
    rename (_ && _) = true => e4
    have e5 : ¬ ((h.getD (x + skipFF (h.drop x)) 0).toNat ≠ 0 ∧ isRst (h.getD (x + skipFF (h.drop x)) 0).toNat = false) := fun q => by
      have e6 : isRst (h.getD (x + skipFF (h.drop x)) 0).toNat = true := e4
      rw [e6] at q; exact absurd q.2 (by decide)
    obtain ⟨k', rfl⟩ : ∃ k', k = k' + 1 := ⟨k - 1, by omega⟩
    have e2 : ¬ (h.getD x 0).toNat ≠ 255 := fun q => q (by have : ((h.getD x 0).toNat : Int) = 255 := e1; omega)
    have hx2 : scanD k' h (x + skipFF (h.drop x) + 1) = scanD (h.length + 1) h 0 := by
      rw [← hx, scan_succ, if_neg (show ¬ h.length ≤ x by omega), if_neg e2, if_neg (by omega), if_neg e5]
    refine hZ2 _ _ ?_; exact WTurn.next k' (Nat.lt_succ_self _) (by assumption) (by assumption) ⟨x + skipFF (h.drop x) + 1, _, ⟨rfl, rfl, trivial⟩, rfl, hx2, by omega⟩
  · unfold Stop
    rename ((_ : Int) = 255) => e1
    rename ((_ : Int) < _) => e0
    rename (((_ : Nat) : Int) ≠ ((h.length : Nat) : Int)) => e3
    rename (_ && _) = false => e4
    rename ((_ : Int) ≠ 0) => e7
    obtain ⟨k', rfl⟩ : ∃ k', k = k' + 1 := ⟨k - 1, by omega⟩
    have e2 : ¬ (h.getD x 0).toNat ≠ 255 := fun q => q (by have : ((h.getD x 0).toNat : Int) = 255 := e1; omega)
    have e5 : (h.getD (x + skipFF (h.drop x)) 0).toNat ≠ 0 ∧ isRst (h.getD (x + skipFF (h.drop x)) 0).toNat = false := ⟨fun q => e7 (by show ((h.getD (x + skipFF (h.drop x)) 0).toNat : Int) = 0; omega), e4⟩
    have hx2 : (x, true) = scanD (h.length + 1) h 0 := by
      rw [← hx, scan_succ, if_neg (show ¬ h.length ≤ x by omega), if_neg e2, if_neg (by omega), if_pos e5]
    rename News _ _ _ _ => N7
    rename Fr _ _ _ _ => F7
    refine feed_use F7 N7 (fun hM => last_call (bg := bg) (ov := ov) (da := false) (z := z) (h := h) ⟨X, _, _, _, T⟩ F7.keep hM hap (by omega) (fun q => hok (by rw [← hx2, q]))) hA (by walk_at "my room") (by walk_at "my room") ?_
    intro v n' h' tk' F' N' hP
    (first | refine hZ _ _ ?_ | (refine hZ2 _ _ ?_; refine hZ _ _ ?_)); refine Ends.ret F' N' ?_
    unfold dataEv
    rw [← hx2]
    exact hP
  · rename ((_ : Int) = 255) => e1
    rename ((_ : Int) < _) => e0
    rename (((_ : Nat) : Int) ≠ ((h.length : Nat) : Int)) => e3
    rename ((_ : Int) = 0) => e4
    have e5 : ¬ ((h.getD (x + skipFF (h.drop x)) 0).toNat ≠ 0 ∧ isRst (h.getD (x + skipFF (h.drop x)) 0).toNat = false) := fun q => by
      have e6 : ((h.getD (x + skipFF (h.drop x)) 0).toNat : Int) = 0 := e4
      exact q.1 (by omega)
    obtain ⟨k', rfl⟩ : ∃ k', k = k' + 1 := ⟨k - 1, by omega⟩
    have e2 : ¬ (h.getD x 0).toNat ≠ 255 := fun q => q (by have : ((h.getD x 0).toNat : Int) = 255 := e1; omega)
    have hx2 : scanD k' h (x + skipFF (h.drop x) + 1) = scanD (h.length + 1) h 0 := by
      rw [← hx, scan_succ, if_neg (show ¬ h.length ≤ x by omega), if_neg e2, if_neg (by omega), if_neg e5]
    refine hZ2 _ _ ?_; exact WTurn.next k' (Nat.lt_succ_self _) (by assumption) (by assumption) ⟨x + skipFF (h.drop x) + 1, _, ⟨rfl, rfl, trivial⟩, rfl, hx2, by omega⟩
  · unfold Stop
    rename (¬ (_ : Int) < _) => e0
    have hx2 : (x, false) = scanD (h.length + 1) h 0 := by
      rw [← hx]
      cases k with
      | zero => rfl
      | succ k' => rw [scan_succ, if_pos (show h.length ≤ x by omega)]
    rename News _ _ _ _ => N7
    rename Fr _ _ _ _ => F7
    refine feed_use F7 N7 (fun hM => upto_call (bg := bg) (ov := ov) (da := da) (z := z) (h := h) ⟨X, _, _, _, T⟩ F7.keep hM (by omega)) hA (by walk_at "my room") (by walk_at "my room") ?_
    intro v n' h' tk' F' N' hP
    (first | refine hZ _ _ ?_ | (refine hZ2 _ _ ?_; refine hZ _ _ ?_)); refine Ends.ret F' N' ?_
    unfold dataEv
    rw [← hx2]
    exact hP
end

-- part BA5
section
open Builtin
open Sem (wp)
section
variable {M : Model} {A : Around} {E : Value → Shared → Prop} {s : Shared}
theorem wpF_stack {Q : List (Code × Pos) → Shared → Prop} (h : ∀ st, Fine st → Q st s) : wpF M A stack Q E s := fun Γ p _ f => by
  show Q ((Γ.code, p) :: Γ.below) s
  exact h _ (f p)
theorem exported_F {self : Value} {Q : Bool → Shared → Prop} (h : Q false s) : wpF M A (Bytes.exported self) Q E s := by
  unfold Bytes.exported
  refine wpF_bind (wpF_stack fun st hst => wpF_pure ?_)
  rw [show (List.any st _) = false from ?_]
  · exact h
  · rw [List.any_eq_false]
    rintro ⟨c, p⟩ hx
    have ok := hst _ hx
    dsimp only at ok ⊢
    unfold okCode at ok
    split
    all_goals first
      | (rename_i heq
         have e1 := congrArg Prod.fst heq
         dsimp only at e1
         subst e1
         dsimp only at ok
         first
           | exact absurd ok (by decide +kernel)
           | (intro q
              have q2 := (Bool.and_eq_true_iff.mp q).2
              have q3 : badIds.contains _ = true := List.contains_iff_mem.mpr (List.mem_append_right _ (List.contains_iff_mem.mp q2))
              rw [q3] at ok
              cases ok))
      | exact Bool.false_ne_true
theorem write_ba {a : Addr} {b : List UInt8} {f : Array UInt8 → Array UInt8} {c : List UInt8} {Q : Unit → Shared → Prop} (ho : s.heap.get? a = some (barr b)) (hf : f b.toArray = c.toArray) (hz : c.length ≤ 65536)
    (h : ∀ h', Heap.SameBut a s.heap h' → h'.get? a = some (barr c) → Q () { s with heap := h' }) : wpAny M A (Bytes.write (.ref a) f) Q E s := by
  show wpAny _ _ (updateBytearray a f) _ _ _
  unfold updateBytearray
  refine wpAny_bind (wpAny_load ho ?_)
  show wpAny _ _ (update a (Obj.mapBytearray f) >>= fun _ => lookBehind a) _ _ _
  refine wpAny_bind (wpAny_update ho ?_)
  have h2 : (s.heap.update a (Obj.mapBytearray f)).get? a = some (barr c) := by
    have := Heap.get?_update_self (Obj.mapBytearray f) ho rfl
    rw [this]
    show some ({ cls := .type "bytearray", data := .bytearray (f b.toArray) } : Obj) = _
    rw [hf]
  refine wpAny_lookBehind h2 ?_ (h _ (Heap.SameBut.update ..) h2)
  show (if c.toArray.size > sizeLine then some "bytearray:memory" else none) = none
  rw [if_neg]
  rw [List.size_toArray, sizeLine_eq]
  omega
theorem exportsOf_ba {a : Addr} {b : List UInt8} {Q : Nat → Shared → Prop} (ho : s.heap.get? a = some (barr b)) (h : Q 0 s) : wpAny M A (Bytes.exportsOf (.ref a)) Q E s := by
  show wpAny _ _ (load a >>= _) _ _ _
  exact wpAny_bind (wpAny_load ho (wpAny_pure h))
theorem notExported_F {a : Addr} {b : List UInt8} {Q : Bool → Shared → Prop} (ho : s.heap.get? a = some (barr b)) (h : Q false s) :
    wpF M A (Bytes.exported (.ref a) <||> (do return (← Bytes.exportsOf (.ref a)) > 0)) Q E s := by
  unfold orM
  refine wpF_bind (exported_F ?_)
  show wpF _ _ (Bytes.exportsOf (.ref a) >>= fun n => pure (decide (n > 0))) _ _ _
  exact wpF_bindA (exportsOf_ba ho (wpF_pure h))
theorem resize_F {a : Addr} {b : List UInt8} {Q : Unit → Shared → Prop} (ho : s.heap.get? a = some (barr b)) (h : Q () s) : wpF M A (Bytes.checkResize (.ref a)) Q E s := by
  unfold Bytes.checkResize
  refine wpF_bind (notExported_F ho ?_)
  exact wpF_pure h
end
section
variable {prog : Program} {w : World} {A : Around} {E : Value → Shared → Prop} {s : Shared}
theorem codeF_call_builtin {id : String} {args : Args} {b : Builtin} {R : Result → Shared → Prop} (hq : plainId id = true) (ok : badIds.contains id = false) (hb : entryFor table id = some b)
    (h : wpAny (model prog w) A.in1 (checkBuiltinCall id args) (fun _ s₁ => wpF (model prog w) A.in1 (b args)
      (fun fin s' => match fin with | .done f => R (.ok f) s' | .again c' => c'.quiet = true ∧ codeF (model prog w) A c' R s') (fun e s' => R (.error e) s') s₁)
      (fun e s' => R (.error e) s') s) : codeF (model prog w) A (.call (.builtin id) args) R s := by
  refine codeF_tree rfl ?_
  show wpF _ A.in1 (do checkBuiltinCall id args; again (.builtin id args)) _ _ s
  refine wpF_bindA (wpAny_mono h (fun _ s₁ h₁ => wpF_pure (And.intro (plainId_quiet hq args) (codeF_tree (by show (!badIds.contains id) = true; rw [ok]; rfl) ?_))) fun _ _ h' => h')
  show wpF _ _ (match entryFor table id with | some b => b args | none => unsupported ((withoutEnding? id "#data").getD id)) _ _ s₁
  rw [hb, Around.under_plainId hq args]
  exact h₁
theorem ifF_false {α : Type} {M : Model} {c : Bool} {a b : Sem α} {Q : α → Shared → Prop} (hc : c = false) (h : wpF M A b Q E s) : wpF M A (if c = true then a else b) Q E s := by
  rw [if_neg (by rw [hc]; exact Bool.false_ne_true)]; exact h
theorem ifF_true {α : Type} {M : Model} {c : Bool} {a b : Sem α} {Q : α → Shared → Prop} (hc : c = true) (h : wpF M A a Q E s) : wpF M A (if c = true then a else b) Q E s := by
  rw [if_pos hc]; exact h
theorem extend_F {a : Addr} {b more : List UInt8} {t : Tok} {Q : Value → Shared → Prop} (ho : s.heap.get? a = some (barr b)) (hz : b.length + more.length ≤ 65536)
    (h : ∀ h', Heap.SameBut a s.heap h' → h'.get? a = some (barr (b ++ more)) → Q .none { s with heap := h' }) :
    wpF (model prog w) A (call (.builtin "bytearray.extend") [.ref a, .bytes more.toArray t]) Q E s := by
  refine wpF_call (codeF_call_builtin FA.slot_bytearray_extend.plain (by decide +kernel) FA.entry_bytearray_extend (FA.slot_bytearray_extend.check _ _ _ _ _ _ _ _ (ty_ba ho) (FA.args_bytearray_extend_2 _ _) ?_))
  unfold Builtin.«bytearray.extend»
  refine wpF_bindA (wpAny_of_eq (a := (Value.ref a, Value.bytes more.toArray t)) rfl ?_)
  refine wpF_bindA (wpAny_of_eq (KBy.special_eq KBy.look_buffer) ?_)
  refine ifF_true rfl ?_
  refine wpF_bindA (wpAny_rule ?_)
  refine wpF_bindA (pay_ba ho ?_)
  refine wpF_bindA (take_b ?_)
  refine ifF_true rfl ?_
  have fin : wpF (model prog w) A.in1 (Bytes.write (.ref a) (fun b => b ++ more.toArray) >>= fun _ => ret .none) (fun fin s' => fin = .done (.ret .none) ∧ Q .none s') (fun _ _ => False) s := by
    refine wpF_bindA (write_ba ho (c := b ++ more) (by simp) (by rw [List.length_append]; exact hz) fun h' hs hg => wpF_pure ⟨rfl, h h' hs hg⟩)
  have post : ∀ (t : Sem PySem.Fin) , wpF (model prog w) A.in1 t (fun fin s' => fin = .done (.ret .none) ∧ Q .none s') (fun _ _ => False) s → wpF (model prog w) A.in1 t (fun fin s' => match fin with | .done f => (match (Except.ok f : Result) with | .ok (.ret v) => Q v s' | .ok _ => False | .error e => E e s') | .again c' => c'.quiet = true ∧ codeF (model prog w) A c' (fun r s' => match r with | .ok (.ret v) => Q v s' | .ok _ => False | .error e => E e s') s') (fun e s' => match (Except.error e : Result) with | .ok (.ret v) => Q v s' | .ok _ => False | .error e => E e s') s :=
    fun t ht => wpF_mono ht (fun fin s' hq => by obtain ⟨rfl, hq⟩ := hq; exact hq) fun _ _ x => x.elim
  refine post _ ?_
  cases more with
  | nil => exact fin
  | cons x xs =>
    show wpF _ _ (Bytes.checkResize (.ref a) >>= fun _ => Bytes.write (.ref a) (fun b => b ++ (x :: xs).toArray) >>= fun _ => ret .none) _ _ _
    exact wpF_bind (resize_F ho fin)
end
end

-- part BA6
section
open Builtin
open Sem (wp)
namespace FA
theorem mro_ba : mroOf (.type "bytearray") = pure [.type "bytearray", .type "object"] := by rw [mroOf_type]; kernel_rfl
theorem lookup_ba_new : typeLookup (.type "bytearray") "__new__" = pure (some (.builtin "bytearray.__new__")) := by rw [typeLookup_type, builtinLookup_eq_fast]; kernel_rfl
theorem slot_ba_init : Slot "bytearray" "__init__" "bytearray.__init__" :=
  .of (owner := "bytearray") (n := "__init__") (by rw [typeLookup_type, builtinLookup_eq_fast]; kernel_rfl) (by decide +kernel) (by decide +kernel) (by decide +kernel)
    (by first | exact .inl (by decide +kernel) | exact .inr (by decide +kernel)) (by rw [isSubtype_type]; kernel_rfl)
theorem entry_ba_init : entryFor table "bytearray.__init__" = some Builtin.«bytearray.__init__» := entryFor_of_tree (by kernel_rfl)
theorem args_ba_init_1 (a : Value) : argsOk "bytearray.__init__" ⟨[a], []⟩ := by
  unfold argsOk; rw [signature?_of (id := "bytearray.__init__") (n := ['_', '_', 't', 'i', 'n', 'i', '_', '_']) (o := ['y', 'a', 'r', 'r', 'a', 'e', 't', 'y', 'b']) (by kernel_rfl) owner_bytearray]; kernel_rfl
theorem called_ba : TypeCalled "bytearray" "bytearray.__new__" "bytearray.__init__" :=
  ⟨by decide +kernel, by decide +kernel, ⟨_, _, mro_ba⟩, madeBy_type mro_ba lookup_ba_new (by decide +kernel), by decide +kernel, by rw [isSubtype_type]; kernel_rfl, slot_ba_init⟩
theorem typeCall_ba : checkTypeCall "bytearray" ⟨[], []⟩ = pure () := by kernel_rfl
theorem newCall_ba : checkBuiltinCall "bytearray.__new__" ⟨[.type "bytearray"], []⟩ = pure () := by kernel_rfl
theorem entry_ba_new : entryFor table "bytearray.__new__" = some Builtin.«list.__new__» :=
  entryFor_alias (id' := "list.__new__") (by rw [fastTable_eq_tree]; kernel_rfl) (by decide +kernel) (by decide +kernel) (by rw [fastTable_eq_tree]; kernel_rfl)
theorem plain_ba_new : plainId "bytearray.__new__" = true := by decide +kernel
theorem bind_ba : Builtin.Bytes.bindOptional "bytearray.__init__" "bytearray" ["source", "encoding", "errors"] [] [] = pure [none, none, none] := by kernel_rfl
end FA
set_option maxRecDepth 1000000 in
set_option maxHeartbeats 4000000 in
theorem owner_ba_new : ("bytearray.__new__".splitOn ".__new__").headD "" = "bytearray" := by simp +decide [String.splitOn, String.splitOnAux]
section
variable {prog : Program} {w : World} {A : Around} {E : Value → Shared → Prop} {s : Shared}
theorem code_ba_new {Q₁ : Value → Shared → Prop} (h : Q₁ (.ref s.heap.objs.size) { s with heap := s.heap.push (barr []) }) :
    codeAny (model prog w) A (.call (.builtin "bytearray.__new__") ⟨[.type "bytearray"], []⟩) (wants Q₁ E) s := by
  refine codeAny_of_tree ?_
  show wpAny _ A.in1 (do checkBuiltinCall "bytearray.__new__" ⟨[.type "bytearray"], []⟩; again (.builtin "bytearray.__new__" ⟨[.type "bytearray"], []⟩)) _ _ s
  refine wpAny_bind (wpAny_of_eq FA.newCall_ba (wpAny_pure ⟨plainId_quiet FA.plain_ba_new _, codeAny_builtin_stack FA.entry_ba_new rfl fun p st => ?_⟩))
  rw [Around.under_plainId FA.plain_ba_new _]
  have hsub := FA.sub_ba
  have hown := owner_ba_new
  obtain ⟨hp, g, d, tk, os⟩ := s
  simp only [hown]
  wp_walk
  exact h
theorem init_ba_F {a : Addr} {b : List UInt8} {R : PySem.Fin → Shared → Prop} {X : Value → Shared → Prop} (ho : s.heap.get? a = some (barr b)) (h : ∀ h', Heap.SameBut a s.heap h' → h'.get? a = some (barr []) → R (.done (.ret .none)) { s with heap := h' }) :
    wpF (model prog w) A (Builtin.«bytearray.__init__» ⟨[.ref a], []⟩) R X s := by
  unfold Builtin.«bytearray.__init__»
  refine wpF_bindA (release_ba (ty_ba ho) ?_)
  refine ifF_false rfl ?_
  refine wpF_bindA (wpAny_of_eq FA.bind_ba ?_)
  refine wpF_bindA (wpAny_of_eq (a := ()) rfl ?_)
  refine wpF_bindA (wpAny_of_eq (a := ()) rfl ?_)
  refine wpF_bind (notExported_F ho ?_)
  refine ifF_false rfl ?_
  refine wpF_bindA (write_ba ho (c := []) rfl (Nat.zero_le _) fun h' hs hg => ?_)
  exact wpF_pure (h h' hs hg)
end
end

-- part BA7
section
open Builtin
open Sem (wp)
section
variable {prog : Program} {w : World} {A : Around} {E : Value → Shared → Prop} {s : Shared}
theorem codeF_builtin {id : String} {args : Args} {b : Builtin} {R : Result → Shared → Prop} (ok : badIds.contains id = false) (hb : entryFor table id = some b)
    (h : wpF (model prog w) (A.under (.builtin id args)) (b args)
      (fun fin s' => match fin with | .done f => R (.ok f) s' | .again c' => c'.quiet = true ∧ codeF (model prog w) A c' R s') (fun e s' => R (.error e) s') s) : codeF (model prog w) A (.builtin id args) R s := by
  refine codeF_tree (by show (!badIds.contains id) = true; rw [ok]; rfl) ?_
  show wpF _ _ (match entryFor table id with | some b => b args | none => unsupported ((withoutEnding? id "#data").getD id)) _ _ s
  rw [hb]; exact h
theorem new_bytearray_F {Q : Value → Shared → Prop} (h : ∀ h', (∀ b o, s.heap.get? b = some o → h'.get? b = some o) → h'.get? s.heap.objs.size = some (barr []) → Q (.ref s.heap.objs.size) { s with heap := h' }) :
    wpF (model prog w) A (call (.type "bytearray") []) Q E s := by
  refine wpF_call (codeF_tree rfl ?_)
  show wpF _ _ (callAny (.type "bytearray") _) _ _ _
  refine wpF_pure ⟨Code.quiet_builtin _ (by decide +kernel), codeF_builtin (by decide +kernel) F.entry_type_call ?_⟩
  rw [Around.under_plain (weight_type_call_type "bytearray" [] []) rfl]
  unfold Builtin.«type.__call__»
  refine ifF_false FA.called_ba.notType ?_
  refine ifF_false FA.called_ba.canCreate ?_
  refine wpF_bindA (wpAny_of_eq FA.typeCall_ba ?_)
  refine wpF_bindA (wpAny_of_eq FA.mro_ba ?_)
  refine ifF_false rfl ?_
  refine wpF_bindA (wpAny_of_eq FA.called_ba.made ?_)
  refine wpF_bind (wpF_pure ?_)
  refine wpF_bindA (wpAny_holding (wpAny_call (code_ba_new ?_)))
  have ho : (s.heap.push (barr [])).get? s.heap.objs.size = some (barr []) := Heap.get?_push_size _ rfl
  have T : ({ s with heap := s.heap.push (barr []) } : Shared).TypeIs (.ref s.heap.objs.size) "bytearray" := ⟨_, ho, rfl⟩
  refine wpF_bindA (wpAny_isInstance T FA.sub_ba ?_)
  refine ifF_false rfl ?_
  refine wpF_bind (wpF_holding ?_)
  unfold callSpecial?
  refine wpF_bindA (wpAny_specialOf T FA.slot_ba_init.lookup ?_)
  refine wpF_holding (wpF_bindA (wpAny_of_eq (FA.slot_ba_init.bind _) ?_))
  have hst : ∀ b o, s.heap.get? b = some o → (s.heap.push (barr [])).get? b = some o := fun b o e => Heap.get?_push_of_some _ e
  refine wpF_bind (wpF_call (codeF_call_builtin FA.slot_ba_init.plain (by decide +kernel) FA.entry_ba_init (FA.slot_ba_init.check _ _ _ _ _ _ _ _ T (FA.args_ba_init_1 _) (init_ba_F ho ?_))))
  intro h' hs hg
  refine wpF_pure ?_
  refine ifF_false rfl ?_
  refine wpF_pure ?_
  refine h h' (fun b o e => ?_) hg
  exact hs.extBut b o (Nat.ne_of_lt (Heap.lt_size e)) (hst b o e)
end
end

-- part BA8
section
open Sem (wp)
section
variable {M : Model} {A : Around} {E : Value → Shared → Prop} {s : Shared} {env : Env}
theorem wpF_operate {vs : List Value} {m : Sem Value} {Q : Value → Shared → Prop} (h : wpF M A m Q E s) : wpF M A (operate vs m) Q E s := fun Γ p i f => by rw [Sem.wp_operate]; exact h Γ p i f
theorem execsF_nil {Q : Flow → Shared → Prop} (h : Q .next s) : wpF M A (execs [] env) Q E s := wpF_pure h
theorem execsF_cons {st : Stmt} {rest : List Stmt} {Q : Flow → Shared → Prop} (h : wpF M A (exec st env) (fun f s' => match f with | .next => wpF M A (execs rest env) Q E s' | f => Q f s') E s) : wpF M A (execs (st :: rest) env) Q E s := by
  rw [execs_cons]
  refine wpF_bind (wpF_mono h (fun f s' hf => ?_) fun _ _ x => x)
  cases f with
  | next => exact hf
  | ret v => exact wpF_pure hf
  | brk => exact wpF_pure hf
  | cont => exact wpF_pure hf
theorem callWithF {f : Value} {first : List Value} {args : List (Bool × Sem Value)} {pos : Pos} {Q : Value → Shared → Prop}
    (h : wpAny M A (evalArgs f true args []) (fun x s₁ => wpAny M A (keeperOf f) (fun _ s₂ => wpF M A (call f (first ++ x.pos) x.kw) Q E s₂) E s₁) E s) : wpF M A (callWith pos f first args []) Q E s := by
  unfold callWith
  refine wpF_bindA (wpAny_holding (wpAny_mono h (fun x s₁ h₁ => ?_) fun _ _ x => x))
  refine wpF_bindA (wpAny_standAt ?_)
  refine wpF_bindA (wpAny_mono h₁ (fun k s₂ h₂ => ?_) fun _ _ x => x)
  have tail : ∀ {t : Sem Value}, wpF M A t Q E s₂ → wpF M A (t >>= fun r => holding [r] point >>= fun _ => pure r) Q E s₂ :=
    fun ht => wpF_bind (wpF_mono ht (fun r s₂ hr => wpF_bindA (wpAny_holding (wpAny_point (wpF_pure hr)))) fun _ _ x => x)
  have marked : ∀ mark, wpF M A (callMarked mark f (first ++ x.pos) x.kw) Q E s₂ := fun mark => by unfold callMarked; exact wpF_keep h₂
  cases k <;> cases hb : (args.any (·.1) || ([] : List (Option Str × Sem Value)).any (·.1.isNone)) <;> dsimp only
  all_goals first
    | exact tail (marked _)
    | exact tail h₂
    | exact tail (wpF_operate h₂)
    | (split <;> first | exact tail (marked _) | exact tail h₂)
theorem evalCallF_Name {id : Str} {p pos : Pos} {args : List PySem.Expr} {Q : Value → Shared → Prop}
    (h : wpAny M A (eval (.Name id p) env) (fun f s₁ => wpF M A (callWith pos f [] (backTo pos (starEach args env)) []) Q E s₁) E s) : wpF M A (eval (.Call (.Name id p) args [] pos) env) Q E s := by
  rw [arm_eval_Call_Name']
  exact wpF_bindA h
theorem evalCallF_Attr {o : PySem.Expr} {name : Str} {apos pos : Pos} {args : List PySem.Expr} {Q : Value → Shared → Prop}
    (h : wpAny M A (attributeBase o name env (eval o env)) (fun ov s₁ => wpAny M A (calleeOf (methodCallForm (args.length + 0) (backTo pos (starEach args env)) []) o env ov name) (fun fx s₂ =>
      ∀ q, wpF M A (callWith q fx.1 fx.2 (backTo pos (starEach args env)) []) Q E s₂) E s₁) E s)
    (hp : ∀ s₂, wpAny M A (methodCallPos (methodCallForm (args.length + 0) (backTo pos (starEach args env)) []) o env apos pos) (fun _ s₃ => s₃ = s₂) E s₂) :
    wpF M A (eval (.Call (.Attribute o name apos) args [] pos) env) Q E s := by
  rw [arm_eval_Call]
  refine wpF_bindA (wpAny_mono h (fun ov s₁ h₁ => ?_) fun _ _ x => x)
  refine wpF_bindA (wpAny_standAt ?_)
  unfold methodCall
  refine wpF_bindA (wpAny_holding (wpAny_mono h₁ (fun fx s₂ h₂ => ?_) fun _ _ x => x))
  refine wpF_bindA (wpAny_mono (hp s₂) (fun q s₃ e => ?_) fun _ _ x => x)
  subst e
  exact h₂ q
theorem exprF {e : PySem.Expr} {pos : Pos} {Q : Flow → Shared → Prop} (h : wpF M A (eval e env) (fun v s₁ => wpAny M A (dropValue e pos v) Q E s₁) E s) (hi : interactive env = false := by rfl) (hs : swapsWith e none pos.line env = pure false := by rfl) : wpF M A (exec (.Expr e pos) env) Q E s := by
  rw [exec_Expr env e pos hi hs]
  refine wpF_bindA (wpAny_standAt ?_)
  exact wpF_bind (wpF_mono h (fun v s₁ h₁ => wpF.of h₁) fun _ _ x => x)
theorem assignF {targets : List PySem.Expr} {value : PySem.Expr} {pos : Pos} {Q : Flow → Shared → Prop}
    (h : wpF M A (eval value env) (fun v s₁ => wpAny M A (assignStores env v none ((assignEach targets env).map (·.2))) Q E s₁) E s)
    (hs : swapsWithSole targets value pos.line env = pure false := by rfl) (hw : swappedStores targets value env = pure none := by rfl) : wpF M A (exec (.Assign targets value pos) env) Q E s := by
  rw [exec_Assign]
  refine wpF_bindA (wpAny_standAt ?_)
  rw [hs]
  refine wpF_bind (wpF_pure ?_)
  rw [if_neg (by decide)]
  refine wpF_bind (wpF_mono h (fun v s₁ h₁ => ?_) fun _ _ x => x)
  rw [hw]
  exact wpF_bind (wpF_pure (wpF.of h₁))
end
end

-- part BA9
section
open Sem (wp)
section
variable {prog : Program} {w : World} {A : Around} {s : Shared} {R : Result → Shared → Prop}
theorem codeF_func {body env}
    (h : wpF (model prog w) (A.deeper env) (execs body env) (fun f s' => R (.ok (.ret (match f with | .ret v => v | _ => .none))) s') (fun _ _ => False) s) : codeF (model prog w) A (.func body env) R s := by
  refine codeF_tree rfl ?_
  show wpF _ (A.deeper env) (do point; match ← (execs body env).onRaise (leaving env) with | .ret v => ret v | _ => ret .none) _ _ s
  refine wpF_bindA (wpAny_point (wpF_bind (wpF_onRaise (wpF_mono h (fun f s' h' => ?_) fun _ _ h' => h'.elim))))
  cases f <;> exact wpF_pure h'
theorem codeF_call_function {a : Addr} {args : Args} {o : Obj} {fd : FuncData} {body : List Stmt} (hroom : A.depth < recursionLimit)
    (ho : s.heap.get? a = some o)
    (hd' : o.data = .func fd) (hco : fd.scope.isCoroutine = false) (hgen : fd.scope.isGenerator = false) (hbody : fd.body = .stmts body) (hcd : s.heap.CodeRec fd.code fd.qualname)
    (h : wpAny (model prog w) A.in1 (bindArgs fd args) (fun binds s₁ =>
      wpAny (model prog w) A.in1 (newFunctionEnv fd.scope fd.globals fd.closure binds (fd.qualname ++ ".<locals>.") (some a) fd.code none fd.builtins)
        (fun env s₂ => s₂.heap.NoLimit ∧ codeF (model prog w) A (.func body env) R s₂) (fun e s' => R (.error e) s') s₁) (fun e s' => R (.error e) s') s) :
    codeF (model prog w) A (.call (.ref a) args) R s := by
  refine codeF_tree rfl (wpF.of ?_)
  show wpAny _ A.in1 (callAny (.ref a) args) _ _ s
  simp only [callAny]
  refine wpAny_bind (wpAny_load ho ?_)
  obtain ⟨c, oc, vs, tq, hc, hoc, hdc, hq⟩ := hcd
  simp only [hd', callFunction, hco, hgen, hbody, hc]
  rw [hc] at h
  refine wpAny_bind (m := field (.ref c) 1) (wpAny_field hoc hdc hq (wpAny_bind (wpAny_pure ?_)))
  exact wpAny_bind (wpAny_mono h (fun binds s₁ h₁ => wpAny_bind (wpAny_mono h₁ (fun env s₂ h₂ => wpAny_bind (wpAny_enterFrame h₂.1 hroom
    (wpAny_pure (And.intro rfl h₂.2)))) fun _ _ h' => h')) fun _ _ h' => h')
end
noncomputable def CallCF (w : World) (M : Led) (d u : Nat) (f : Value) (vs : List Value) (s : Shared) (P : Value → Led → Prop) : Prop :=
  ∀ (A : Around) (R : Result → Shared → Prop), A.handled = none → A.depth + d < recursionLimit → A.units + u < cLine →
    (∀ v h' tk' news', Grown M s.heap h' news' → P v news' → R (.ok (.ret v)) { s with heap := h', toks := tk' }) →
    codeF (model PySem.Challenge.rw_nz0248_01.row.prog w) A (.call f ⟨vs, []⟩) R s
theorem callF_def {w : World} {H : Heap} {M : Led} {d u : Nat} {s : Shared} {vs : List Value} {P : Value → Led → Prop}
    {name qual : Str} {params : Arguments} {body : List Stmt} {scope : Scope} {dV kV doc pm cdv ct oc : Value} {an od : Option Addr} {osl : Array (Option Value)} {f : Addr} {binds : List (Str × Value)}
    (G : Gr w H) (hk : ∀ b o, H.get? b = some o → s.heap.get? b = some o) (hM : ∀ p ∈ M, s.heap.get? p.1 = some p.2 ∧ H.get? p.1 = none)
    (ho : (hd.heap_1 w.params).lookup f = some ⟨oc, od, .func (fnOf name qual params body scope dV kV doc pm an cdv ct), osl⟩) (hcd : codeIn (hd.heap_1 w.params) cdv qual = true)
    (hbind : BindsTo s (fnOf name qual params body scope dV kV doc pm an cdv ct) ⟨vs, []⟩ binds) (hloc : ∀ y ∈ binds, scope.names.lookup y.1 = some .local)
    (h : ∀ g L' h₁ A mean mg mb, Around.handled A = none → Around.depth A + d < recursionLimit → Around.units A + u < cLine → (hd.heap_1 w.params).In g → Top hd.view_1 (looseW hd.view_1 [Str.ofString "Piece"]) mean mg mb g →
      (∀ b o, b ∉ adr M → s.heap.get? b = some o → g.get? b = some o) → (∀ b o, g.get? b = some o → s.heap.get? b = some o) → L' = s.heap.objs.size →
      Fr g L' h₁ (fun y => binds.reverse.lookup y) → News g L' h₁ M →
      ∀ Z : Flow → Shared → Prop, (∀ fl s', Ends g L' s P fl s' → Z fl s') → wpF (model PySem.Challenge.rw_nz0248_01.row.prog w) A (execs body (envOf qual scope L' f cdv)) Z (fun _ _ => False) { s with heap := h₁, toks := s.toks + binds.length })
    (hco : scope.isCoroutine = false := by rfl) (hgen : scope.isGenerator = false := by rfl) (hk' : scope.kind = .function := by rfl)
    (hcell : ∀ x ∈ scope.names, x.2 ≠ .cell := by decide) : CallCF w M (d + 1) (u + 3) (.ref f) vs s P := by
  intro A R hA hd hu hQ
  have X := G.1
  obtain ⟨mean, mg, mb, T⟩ := G.2
  have st : ∀ b o, H.get? b = some o → (hideAll s.heap (adr M)).get? b = some o := fun b o e => hideAll_get _ (hk b o e) fun q => by
    obtain ⟨p, hp, rfl⟩ := List.mem_map.mp q
    rw [(hM p hp).2] at e; cases e
  refine codeF_call_function (fd := fnOf name qual params body scope dV kV doc pm an cdv ct) (body := body) (by omega) (hk _ _ (X _ _ ho)) rfl hco hgen rfl ((codeRec_of X hcd).keeps hk) (hbind _ _ _ _ ?_)
  refine wpAny_newFunctionEnv hcell hloc (fun h₁ hns hsb => ⟨(T.nolimit.keeps hk).fresh _ hsb, codeF_func ?_⟩) hk'
  have hk₁ : ∀ b o, s.heap.get? b = some o → h₁.get? b = some o := fun b o e => hsb.extBut b o (Nat.ne_of_lt (Heap.lt_size e)) (Heap.get?_push_of_some _ e)
  have L := h (hideAll s.heap (adr M)) s.heap.objs.size h₁ (A.deeper (envOf qual scope s.heap.objs.size f cdv)) mean mg mb hA (by show A.depth + 1 + d < _; omega) (by show A.units + 3 + u < _; omega) (X.keeps st) (T.keeps st)
    (fun b o hb e => hideAll_get _ e hb) (fun b o e => of_hideAll _ e) rfl ⟨hns, fun b o e => hk₁ b o (of_hideAll _ e), Nat.le_of_eq (hideAll_size _ _)⟩
    (fun p hp => ⟨hk₁ _ _ (hM p hp).1, Nat.ne_of_lt (Heap.lt_size (hM p hp).1), hideAll_none _ (List.mem_map_of_mem hp)⟩)
  refine wpF_mono (L _ fun _ _ y => y) (fun fl s' hl => ?_) fun _ _ y => y.elim
  obtain ⟨h', tk, m', news', rfl, F', N', p⟩ := hl
  refine hQ _ h' tk news' ⟨fun b o hb e => F'.keep b o (hideAll_get _ e hb), fun p hp => (N' p hp).1, fun p hp => ?_, Nat.le_of_lt F'.ns.lt⟩ p
  by_cases q : p.1 ∈ adr M
  · exact .inl q
  · refine .inr ?_
    cases e : s.heap.get? p.1 with
    | none => rfl
    | some o => have := (N' p hp).2.2; rw [hideAll_get _ e q] at this; cases this
theorem CallCF.use {w : World} {M rest news : Led} {d u : Nat} {f : Value} {vs : List Value} {s : Shared} {P : Value → Led → Prop} {g : Heap} {L : Addr} {m : Str → Option Value} {A : Around} {Q E : Value → Shared → Prop}
    (C : CallCF w M d u f vs s P) (F : Fr g L s.heap m) (N : News g L s.heap news) (hA : A.handled = none) (hd : A.depth + d < recursionLimit) (hu : A.units + u < cLine)
    (hM : ∀ p ∈ M, p ∈ news) (hr : ∀ p ∈ rest, p ∈ news ∧ p.1 ∉ adr M)
    (hQ : ∀ v h' tk' news', Fr g L h' m → News g L h' (news' ++ rest) → (∀ p ∈ news', p.1 ∈ adr M ∨ ∀ q ∈ news, q.1 ≠ p.1) → P v news' → Q v { s with heap := h', toks := tk' }) :
    wpF (model PySem.Challenge.rw_nz0248_01.row.prog w) A (PySem.call f vs) Q E s := by
  refine wpF_call (C A _ hA hd hu fun v h' tk' news' R p => ?_)
  obtain ⟨a, b, c⟩ := R.back F N hM hr
  exact hQ v h' tk' news' a b c p
end

-- part BA10
section
open Sem (wp)
section
variable {prog : Program} {w : World} {A : Around} {C : Addr} {R : Result → Shared → Prop} {h : Heap} {g : Array GenState} {d : PySem.Drawn} {t : Nat} {os : OsState}
theorem codeF_call_builtin_at {s : Shared} {id : String} {args : Args} {b : Builtin} {R : Result → Shared → Prop} (hq : (Code.builtin id args).quiet = true) (ok : badIds.contains id = false) (hb : entryFor table id = some b)
    (h : wpAny (model prog w) A.in1 (checkBuiltinCall id args) (fun _ s₁ => wpF (model prog w) (A.under (.builtin id args)) (b args)
      (fun fin s' => match fin with | .done f => R (.ok f) s' | .again c' => c'.quiet = true ∧ codeF (model prog w) A c' R s') (fun e s' => R (.error e) s') s₁)
      (fun e s' => R (.error e) s') s) : codeF (model prog w) A (.call (.builtin id) args) R s := by
  refine codeF_tree rfl ?_
  show wpF _ A.in1 (do checkBuiltinCall id args; again (.builtin id args)) _ _ s
  exact wpF_bindA (wpAny_mono h (fun _ s₁ h₁ => wpF_pure (And.intro hq (codeF_builtin ok hb h₁))) fun _ _ h' => h')
noncomputable def BackF (x : Addr) (Q : Value → Shared → Prop) (r : Result) (s' : Shared) : Prop := match r with
  | .ok (.ret v) => v = .none ∧ Q (.ref x) s'
  | _ => False
theorem makeF_core {Q E : Value → Shared → Prop} {rest : List Value} {init : Value} (Y : Makes (model prog w) h C) (hi : Looks (model prog w) h (typeLookup (.ref C) "__init__") (some init))
    (hb : ∀ self, Looks (model prog w) h (bindSpecial init self) (init, [self])) (hne : (some init != some (Value.builtin "object.__init__")) = true ∨ (rest = [] ∧ ([] : List (Str × Value)) = []))
    (hq : codeF (model prog w) (A.under (.builtin "type.__call__" ⟨.ref C :: rest, []⟩)) (.call init ⟨.ref (h.objs.size + 1) :: rest, []⟩) (BackF (h.objs.size + 1) Q) ⟨(h.push emptyDict).push (instObj C h.objs.size), g, d, t, os⟩) :
    codeF (model prog w) A (.call (.ref C) ⟨rest, []⟩) (wants Q E) ⟨h, g, d, t, os⟩ := by
  have Y' := Y
  obtain ⟨⟨oc, od, cd, sl, hC, e1, e2, e4⟩, made, base, self, top, call, typ⟩ := Y
  refine codeF_tree rfl (wpF.of ?_)
  show wpAny _ _ (callAny (.ref C) _) _ _ _
  refine nd_load hC ?_
  show wpAny _ _ (callAny.viaDunder (.ref C) _) _ _ _
  unfold callAny.viaDunder
  refine wpAny_bind (call.at ?_)
  dsimp only
  rw [tc_bind]
  refine wpAny_bind (wpAny_pure (wpAny_bind (wpAny_pure ?_)))
  refine wpAny_pure (a := Fin.again (.call (.builtin "type.__call__") ⟨.ref C :: rest, []⟩)) (And.intro rfl ?_)
  refine codeF_call_builtin_at (Code.quiet_builtin _ (by decide +kernel)) (by decide +kernel) entry_typeCall (check_slot tc_kind tc_split typ (tc_args _ _ _) ?_)
  unfold Builtin.«type.__call__»
  have hm : Looks (model prog w) h (mroOf (.ref C)) cd.mro := ((Looks.ld (part := none) hC).andThen .now).andThen .now
  refine ifF_false rfl ?_
  refine wpF_bindA (hm.at ?_)
  refine ifF_false e4 ?_
  refine wpF_bindA (made.at ?_)
  refine wpF_bind (wpF_pure ?_)
  refine wpF_bindA (wpAny_holding (wpAny_call (new_K Y' hi hne ?_)))
  have k : ∀ b o, h.get? b = some o → ((h.push emptyDict).push (instObj C h.objs.size)).get? b = some o := fun b o e => Heap.get?_push_of_some _ (Heap.get?_push_of_some _ e)
  have hx : ((h.push emptyDict).push (instObj C h.objs.size)).get? (h.objs.size + 1) = some (instObj C h.objs.size) := by heap_get
  have t1 : Looks (model prog w) ((h.push emptyDict).push (instObj C h.objs.size)) (typeOf (.ref (h.objs.size + 1))) (.ref C) := (Looks.ld hx).andThen .now
  have s1 := self.keeps k
  have i1 := hi.keeps k
  have b1 := (hb (.ref (h.objs.size + 1))).keeps k
  dsimp only
  unfold isInstance callSpecial? specialOf
  refine wpF_bindA (wpAny_bind (t1.at (s1.at ?_)))
  refine ifF_false rfl ?_
  refine wpF_bind (wpF_holding ?_)
  refine wpF_bindA (wpAny_bind (t1.at (i1.at ?_)))
  refine wpF_holding (wpF_bindA (b1.at ?_))
  refine wpF_bind (wpF_call ?_)
  refine codeF_mono hq fun r s' z => ?_
  rcases r with e | (v | _ | _ | _) <;> first | exact z.elim | skip
  obtain ⟨rfl, z⟩ := z
  exact wpF_pure (ifF_false rfl (wpF_pure z))
end
end

-- part BA11
section
open Sem (wp)
section
variable {M : Model} {A : Around} {E : Value → Shared → Prop} {s : Shared} {env : Env}
theorem assignF1 {t value : PySem.Expr} {pos : Pos} {Q : Flow → Shared → Prop}
    (h : wpF M A (eval value env) (fun v s₁ => wpAny M A (assign t env v) (fun _ => Q .next) E s₁) E s) (he : (assignEach [t] env).map (·.2) = [assign t env] := by rfl)
    (hs : swapsWithSole [t] value pos.line env = pure false := by rfl) (hw : swappedStores [t] value env = pure none := by rfl) : wpF M A (exec (.Assign [t] value pos) env) Q E s := by
  refine assignF (wpF_mono h (fun v s₁ h₁ => ?_) fun _ _ x => x) hs hw
  rw [he]
  show wpAny M A (do assignAll v [assign t env]; pure .next) Q E s₁
  exact wpAny_bind (wpAny_mono h₁ (fun _ _ x => wpAny_pure x) fun _ _ x => x)
end
theorem new_ba_led {prog : Program} {w : World} {g : Heap} {L : Addr} {s : Shared} {m : Str → Option Value} {news : Led} {A : Around} {Q E : Value → Shared → Prop} (F : Fr g L s.heap m) (N : News g L s.heap news)
    (hQ : ∀ D h', Fr g L h' m → News g L h' ((D, barr []) :: news) → (∀ p ∈ news, p.1 < D) → Q (.ref D) { s with heap := h' }) : wpF (model prog w) A (call (.type "bytearray") []) Q E s := by
  refine new_bytearray_F fun h' hk hD => ?_
  have F' : Fr g L h' m := F.keeps hk
  refine hQ _ h' F' (fun p hp => ?_) fun p hp => Heap.lt_size (N p hp).1
  rcases List.mem_cons.mp hp with rfl | hp
  · refine ⟨hD, ?_, ?_⟩
    · exact Nat.ne_of_gt F.ns.lt
    · exact next_is_new F
  · exact ⟨hk _ _ (N p hp).1, (N p hp).2⟩
theorem makeF_use {w : World} {g : Heap} {L : Addr} {s : Shared} {m : Str → Option Value} {news : Led} {A : Around} {Q E : Value → Shared → Prop} {C fI : Addr} {rest : List Value} {d u : Nat} {P : Addr → Addr → Led → Prop}
    (F : Fr g L s.heap m) (N : News g L s.heap news) (X : (hd.heap_1 w.params).In g) (hm : makesIn (hd.heap_1 w.params) C = true) (hi : findIn (hd.heap_1 w.params) (.ref C) "__init__" = some (some (.ref fI))) (hf : typeIn (hd.heap_1 w.params) (.ref fI) = some (.type "function"))
    (hA : A.handled = none) (hd : A.depth + (d + 1) < recursionLimit) (hu : A.units + (u + 1) < cLine)
    (CI : ∀ x dx (s' : Shared), (∀ b o, g.get? b = some o → s'.heap.get? b = some o) → s'.heap.get? x = some (instObj C dx) → s'.heap.get? dx = some (dictOf [] 0) → g.get? x = none → g.get? dx = none → @LT.lt Nat _ dx x →
      CallCF w [(x, instObj C dx), (dx, dictOf [] 0)] d u (.ref fI) (.ref x :: rest) s' (fun v n => v = .none ∧ P x dx n))
    (hQ : ∀ x dx h' tk' news', Fr g L h' m → News g L h' (news' ++ news) → (∀ p ∈ news, @LT.lt Nat _ p.1 dx) → @LT.lt Nat _ dx x → P x dx news' → (∀ p ∈ news', p.1 = x ∨ p.1 = dx ∨ ∀ q ∈ news, q.1 ≠ p.1) → Q (.ref x) { s with heap := h', toks := tk' }) :
    wpF (model PySem.Challenge.rw_nz0248_01.row.prog w) A (PySem.call (.ref C) rest) Q E s := by
  obtain ⟨hh, gg, dr, t, os⟩ := s
  have XS := X.keeps F.keep
  have N0 := (N.push F emptyDict).push (F.push _) (instObj C hh.objs.size)
  rw [Heap.size_push] at N0
  have F0 := (F.push emptyDict).push (instObj C hh.objs.size)
  have l1 : ∀ p ∈ news, p.1 < hh.objs.size := fun p hp => Heap.lt_size (N p hp).1
  have l2 : @LT.lt Nat _ hh.objs.size (hh.objs.size + 1) := Nat.lt_succ_self _
  refine wpF_call (makeF_core (makes_of XS hm) (looks_findIn XS hi) (fun self => bind_fn XS self hf) (.inl rfl) ?_)
  have w1 : (Code.builtin "type.__call__" ⟨.ref C :: rest, []⟩).weight = 1 := by rfl
  have w2 : (Code.builtin "type.__call__" ⟨.ref C :: rest, []⟩).cUnits = 1 := by rfl
  have Nx := N0 _ (.head _)
  have Nd := N0 _ (.tail _ (.head _))
  refine CI (hh.objs.size + 1) hh.objs.size ⟨(hh.push emptyDict).push (instObj C hh.objs.size), gg, dr, t, os⟩ F0.keep Nx.1 Nd.1 Nx.2.2 Nd.2.2 l2 _ _ hA (by show A.depth + _ + d < _; rw [w1]; omega) (by show A.units + _ + u < _; rw [w2]; omega) fun v h2 tk2 news' Gw hP => ?_
  obtain ⟨rfl, hP⟩ := hP
  obtain ⟨F2, N2, fr⟩ := Gw.back (rest := news) F0 N0 (fun p hp => by
    simp only [List.mem_cons, List.not_mem_nil, or_false] at hp ⊢
    rcases hp with rfl | rfl <;> simp) fun p hp => ⟨by simp [hp], by
      have := l1 p hp
      simp only [adr, List.map_cons, List.map_nil, List.mem_cons, List.not_mem_nil, or_false, not_or]
      exact ⟨Nat.ne_of_lt (Nat.lt_trans this l2), Nat.ne_of_lt this⟩⟩
  refine ⟨rfl, hQ (hh.objs.size + 1) hh.objs.size h2 tk2 news' F2 N2 l1 l2 hP fun p hp => ?_⟩
  rcases fr p hp with q | q
  · simp only [adr, List.map_cons, List.map_nil, List.mem_cons, List.not_mem_nil, or_false] at q
    rcases q with q | q
    · exact .inl q
    · exact .inr (.inl q)
  · exact .inr (.inr fun r hr => q r (.tail _ (.tail _ hr)))
end

-- part C20
theorem led_rot {g h : Heap} {L : Addr} {x1 x2 x3 : Addr × Obj} (N : News g L h [x1, x2, x3]) : News g L h [x2, x3, x1] := fun p hp => N p (by
  simp only [List.mem_cons] at hp ⊢
  rcases hp with h | h | h | h <;> simp [h])
set_option maxHeartbeats 1000000 in
theorem feedinit_call {w : World} {H : Heap} {s : Shared} {x dx : Addr} (G : Gr w H) (hk : ∀ b o, H.get? b = some o → s.heap.get? b = some o) (hx : s.heap.get? x = some (instObj 212 dx)) (hd : s.heap.get? dx = some (dictOf [] 0)) (h1 : H.get? x = none) (h2 : H.get? dx = none) (hlt : @LT.lt Nat _ dx x) :
    CallCF w [(x, instObj 212 dx), (dx, dictOf [] 0)] 3 30 (.ref 146) [.ref x] s (fun v n => v = .none ∧ ∃ b z, n = FeedM x dx b false false false z [] ∧ Apart3 x dx b) := by
  refine' callF_def G hk (by simp; exact ⟨⟨hx, h1⟩, hd, h2⟩) ?ho ?hcd ?hb ?hl ?h ?c1 ?c2 ?c3 ?c4
  walk_at "my enter"
  intro g L' h₁ A mean mg mb hA hd hu X T hg hg' hL F N Z hZ
  refine execsF_cons (assignF1 (evalCallF_Name ?_))
  (try dsimp only); (try k_fold); w_on
  k_steps
  rename Fr _ _ _ _ => F1
  rename News _ _ _ _ => N1
  refine callWithF (PyProof.Rows.evalArgs_none ?_)
  refine wpAny_pure ?_
  refine new_ba_led F1 N1 ?_
  intro D h' F2 N2 l1
  have e1 := l1 (x, instObj 212 dx) (.head _)
  have e2 := l1 (dx, dictOf [] 0) (.tail _ (.head _))
  (try k_lt l1)
  k_steps
  (try dsimp only)
  refine wpF.of ?_
  k_steps
  rename Fr _ _ _ _ => F7
  rename News _ _ _ _ => N7
  (first | refine hZ _ _ ?_ | (refine hZ2 _ _ ?_; refine hZ _ _ ?_)); exact Ends.next F7 (led_rot N7) ⟨rfl, D, ⟨_, _, _, _, _, _, _, _⟩, rfl, ⟨Nat.ne_of_lt hlt, Nat.ne_of_gt e1, Nat.ne_of_gt e2⟩⟩

-- part B14
noncomputable def stepP (h : List UInt8) (bg da : Bool) : Option Ev × Nat × Bool × Bool × Bool := if da = true then dataEv h bg false da else markerOut h bg false da
noncomputable def OkStep (h : List UInt8) (bg da : Bool) : Prop := if da = true then (scanD (h.length + 1) h 0 = (0, true) → MarkerOk h bg) else MarkerOk h bg
theorem markerOut_nil (bg ov da : Bool) : markerOut [] bg ov da = (none, 0, bg, ov, da) := rfl
theorem dataEv_nil (bg ov da : Bool) : dataEv [] bg ov da = (none, 0, bg, ov, da) := rfl
theorem stepP_nil (bg da : Bool) : (stepP [] bg da).2.1 = 0 := by
  unfold stepP
  cases da <;> rfl
theorem fm_mem {f d b : Addr} {bg ov da : Bool} {z : Hs} {h : List UInt8} {p : Addr × Obj} (hp : p ∈ FeedM f d b bg ov da z h) : p = (f, instObj 212 d) ∨ p = (d, dictOf (feedDict b bg ov da z) 4) ∨ p = (b, barr h) := by
  simpa [FeedM] using hp
theorem fm_adr {f d b : Addr} {bg ov da : Bool} {z : Hs} {h : List UInt8} : adr (FeedM f d b bg ov da z h) = [f, d, b] := rfl
theorem ev_use {w : World} {g : Heap} {L : Addr} {s : Shared} {m : Str → Option Value} {rest : Led} {A : Around} {Q E : Value → Shared → Prop} {f d b : Addr} {bg ov da : Bool} {z : Hs} {h : List UInt8} {out : Option Ev × Nat × Bool × Bool × Bool} {dd uu : Nat} {fv : Value} {vs : List Value}
    (F : Fr g L s.heap m) (N : News g L s.heap (FeedM f d b bg ov da z h ++ rest)) (hr : ∀ p ∈ rest, p.1 ≠ f ∧ p.1 ≠ d ∧ p.1 ≠ b)
    (C : (∀ p ∈ FeedM f d b bg ov da z h, s.heap.get? p.1 = some p.2 ∧ g.get? p.1 = none) → Call w (FeedM f d b bg ov da z h) dd uu fv vs s (OutP f d b z h out))
    (hA : A.handled = none) (hd : A.depth + dd < recursionLimit) (hu : A.units + uu < cLine)
    (hQ : ∀ tl v h' tk', Fr g L h' m → News g L h' (FeedM f d b out.2.2.1 out.2.2.2.1 out.2.2.2.2 z h ++ (tl ++ rest)) → TupOnly tl → (∀ p ∈ tl, ∀ q ∈ rest, q.1 ≠ p.1) → ResV tl v out.1 out.2.1 → Q v { s with heap := h', toks := tk' }) :
    wpAny (model PySem.Challenge.rw_nz0248_01.row.prog w) A (PySem.call fv vs) Q E s := by
  refine Call.use (rest := rest) (C fun p hp => ⟨(N p (List.mem_append_left _ hp)).1, (N p (List.mem_append_left _ hp)).2.2⟩) F N hA hd hu (fun p hp => List.mem_append_left _ hp) (fun p hp => ⟨List.mem_append_right _ hp, ?_⟩) ?_
  · rw [fm_adr]
    have := hr p hp
    simp only [List.mem_cons, List.not_mem_nil, or_false, not_or]
    exact this
  · rintro v h' tk' n' F' N' fr ⟨tl, ht, rfl, hres⟩
    rw [List.append_assoc] at N'
    refine hQ tl v h' tk' F' N' ht (fun p hp q hq => ?_) hres
    rcases fr p (List.mem_append_right _ hp) with e | e
    · exfalso
      rw [fm_adr] at e
      have hin : ∀ x, x ∈ FeedM f d b out.2.2.1 out.2.2.2.1 out.2.2.2.2 z h → p.1 ≠ x.1 := fun x hx => by
        have h1 := (N' p (List.mem_append_right _ (List.mem_append_left _ hp))).1
        have h2 := (N' x (List.mem_append_left _ hx)).1
        intro e3
        rw [e3, h2] at h1
        have h3 := ht p hp
        rw [← Option.some.inj h1] at h3
        rcases fm_mem hx with rfl | rfl | rfl
        · cases h3
        · exact absurd h3 (by show Value.type "dict" ≠ .type "tuple"; decide)
        · exact absurd h3 (by show Value.type "bytearray" ≠ .type "tuple"; decide)
      simp only [List.mem_cons, List.not_mem_nil, or_false] at e
      rcases e with e | e | e
      · exact hin (f, instObj 212 d) (by simp [FeedM]) e
      · exact hin (d, _) (.tail _ (.head _)) e
      · exact hin (b, _) (.tail _ (.tail _ (.head _))) e
    · exact e q (List.mem_append_right _ hq)
theorem evalCallF_A {M : Model} {A : Around} {E : Value → Shared → Prop} {s : Shared} {env : Env} {o : PySem.Expr} {name : Str} {apos pos : Pos} {args : List PySem.Expr} {Q : Value → Shared → Prop}
    (h : wpAny M A (eval o env) (fun ov s₁ => wpAny M A (getMethod ov name (do return (← importBound o env).getD true)) (fun fx s₂ => wpF M A (callWith pos fx.1 fx.2 (backTo pos (starEach args env)) []) Q E s₂) E s₁) E s)
    (hbase : attributeBase o name env (eval o env) = eval o env := by rfl) (hform : methodCallForm (args.length + ([] : List Keyword).length) (backTo pos (starEach args env)) [] = true := by rfl) (hline : (apos.endLine == pos.line) = true := by decide) :
    wpF M A (eval (.Call (.Attribute o name apos) args [] pos) env) Q E s := by
  rw [arm_eval_Call, hbase]
  refine wpF_bindA (wpAny_mono h (fun ov s₁ h₁ => ?_) fun _ _ x => x)
  refine wpF_bindA (wpAny_standAt ?_)
  have hpos : methodCallPos true o env apos pos = pure pos := by unfold methodCallPos; simp [hline]
  unfold methodCall
  show wpF M A (holding [ov] (calleeOf (methodCallForm (args.length + ([] : List Keyword).length) (backTo pos (starEach args env)) []) o env ov name) >>= fun x => methodCallPos (methodCallForm (args.length + ([] : List Keyword).length) (backTo pos (starEach args env)) []) o env apos pos >>= fun q => callWith q x.1 x.2 (backTo pos (starEach args env)) []) Q E s₁
  rw [hform]
  refine wpF_bindA (wpAny_holding ?_)
  show wpAny M A (getMethod ov name (do return (← importBound o env).getD true)) _ _ _
  refine wpAny_mono h₁ (fun fx s₂ h₂ => ?_) fun _ _ x => x
  exact wpF_bindA (wpAny_of_eq hpos h₂)
theorem callWithF_sp {M : Model} {A : Around} {E : Value → Shared → Prop} {s : Shared} {f : Value} {first : List Value} {args : List (Bool × Sem Value)} {pos : Pos} {Q : Value → Shared → Prop}
    (h : wpAny M A (spliced args) (fun vs s₁ => wpAny M A (keeperOf f) (fun _ s₂ => wpF M A (call f (first ++ vs)) Q E s₂) E s₁) E s) (hp : args.any (·.1) = false := by rfl) : wpF M A (callWith pos f first args []) Q E s := by
  refine callWithF ?_
  cases args with
  | nil =>
    refine PyProof.Rows.evalArgs_none ?_
    have h' : wpAny M A (pure []) (fun vs s₁ => wpAny M A (keeperOf f) (fun _ s₂ => wpF M A (call f (first ++ vs)) Q E s₂) E s₁) E s := h
    exact fun Γ p i => h' Γ p i Γ p i
  | cons x rest =>
    obtain ⟨b, x⟩ := x
    cases b with
    | true => cases hp
    | false => exact PySem.Calls.evalArgs_plain h
theorem extend_led {prog : Program} {w : World} {g : Heap} {L : Addr} {s : Shared} {m : Str → Option Value} {news : Led} {G : Obj → Led} {A : Around} {Q E : Value → Shared → Prop} {a : Addr} {b more : List UInt8} {t : Tok} (F : Fr g L s.heap m) (N : News g L s.heap news) (U : UpdF a (barr b) news G) (hz : b.length + more.length ≤ 65536)
    (h : ∀ h', Fr g L h' m → News g L h' (G (barr (b ++ more))) → Q .none { s with heap := h' }) : wpF (model prog w) A (call (.builtin "bytearray.extend") [.ref a, .bytes more.toArray t]) Q E s := by
  obtain ⟨pre, post, rfl, hg, e1, e2⟩ := U.split
  have z := N (a, barr b) (by simp)
  refine extend_F z.1 hz fun h' hs hg' => h h' (F.change hs z.2.1 z.2.2) ?_
  rw [hg]
  exact news_set N e1 e2 hs hg'

-- part C21
section
local macro_rules | `(tactic| walk_at "getMethod ref") => `(tactic| (k_here; (with_reducible show wpAny _ _ (getMethod (Value.ref _) (PySem.Str.ofString "extend") _) _ _ _); k_dflt (refine' extend_m (b := _) ?o ?_; (case o => exact (News.get (by k_asm) (by k_mem))); k_whole)))
noncomputable def FeedPost (I : List UInt8 → Bool → Bool → Bool → List Ev → Prop) (f d : Addr) (z : Hs) (v : Value) (news' : Led) : Prop :=
  ∃ b' h' bg' ov' da' le vs n tl evs, v = .ref le ∧ news' = FeedM f d b' bg' ov' da' z h' ++ (le, W.listOf (List.toArray vs) n) :: tl ∧ Apart3 f d b' ∧ TupOnly tl ∧ Tups EvV (fun a o => (a, o) ∈ tl) vs evs ∧
    ((h' = [] ∧ ov' = true ∧ ∃ h2, I h2 bg' true da' evs) ∨ ∃ bg2 da2 ev, I h' bg2 false da2 evs ∧ stepP h' bg2 da2 = (ev, 0, bg', ov', da'))
noncomputable def FJ (I : List UInt8 → Bool → Bool → Bool → List Ev → Prop) (f d : Addr) (z : Hs) (k : Nat) (m : Str → Option Value) (news : Led) : Prop :=
  ∃ b h bg ov da le vs n tl evs, AllB m [("self", .ref f), ("events", .ref le)] ∧ news = (f, instObj 212 d) :: (d, dictOf (feedDict b bg ov da z) 4) :: (b, barr h) :: (le, W.listOf (List.toArray vs) n) :: tl ∧ Apart3 f d b ∧ (@Ne Nat le f ∧ @Ne Nat le d ∧ @Ne Nat le b) ∧ TupOnly tl ∧ Tups EvV (fun a o => (a, o) ∈ tl) vs evs ∧ I h bg ov da evs ∧ h.length ≤ k
local macro_rules | `(tactic| walk_at "call ref") => `(tactic| (k_here; (with_reducible show wpAny _ _ (PySem.call (Value.ref 195) [Value.ref _]) _ _ _); refine stop ?_))
local macro_rules | `(tactic| walk_at "call ref") => `(tactic| (k_here; (with_reducible show wpAny _ _ (PySem.call (Value.ref 174) [Value.ref _]) _ _ _); refine stop ?_))
set_option maxHeartbeats 1000000 in
theorem feed_call {I : List UInt8 → Bool → Bool → Bool → List Ev → Prop} {w : World} {H : Heap} {s : Shared} {f d b : Addr} {bg ov da : Bool} {z : Hs} {h oct : List UInt8} {t : Tok}
    (G : Gr w H) (hk : ∀ b o, H.get? b = some o → s.heap.get? b = some o) (hM : ∀ p ∈ FeedM f d b bg ov da z h, s.heap.get? p.1 = some p.2 ∧ H.get? p.1 = none) (hap : Apart3 f d b)
    (h0 : I (h ++ oct) bg ov da []) (hz : ∀ h bg ov da evs, I h bg ov da evs → h.length + evs.length ≤ 3000)
    (hok : ∀ h bg da evs, I h bg false da evs → OkStep h bg da)
    (hstep : ∀ h bg da evs ev many bg' ov' da', I h bg false da evs → stepP h bg da = (ev, many, bg', ov', da') → many ≠ 0 → I (h.drop many) bg' ov' da' (evs ++ ev.toList)) :
    CallCF w (FeedM f d b bg ov da z h) 14 160 (.ref 153) [.ref f, .bytes (List.toArray oct) t] s (FeedPost I f d z) := by
  refine' callF_def G hk hM ?ho ?hcd ?hb ?hl ?h ?c1 ?c2 ?c3 ?c4
  walk_at "my enter"
  intro g L' h₁ A mean mg mb hA hd hu X T hg hg' hL F N Z hZ
  unfold FeedM feedDict at N
  obtain ⟨a1, a2, a3⟩ := id hap
  have hzl := hz _ _ _ _ _ h0
  rw [List.length_append, List.length_nil] at hzl
  refine execsF_cons (exprF (evalCallF_A ?_))
  (try dsimp only); (try k_fold); w_on
  k_steps
  dsimp only
  refine callWithF_sp ?_
  k_steps
  (try dsimp only)
  refine wpAny_pure ?_
  rename Fr _ _ _ _ => F1
  rename News _ _ _ _ => N1
  refine' extend_led (b := h) F1 N1 ?U (by omega) ?_
  case U => k_updF
  intro h2 F2 N2
  (try dsimp only at N2)
  refine wpAny_of_eq (a := Flow.next) rfl ?_
  (try dsimp only)
  refine execsF_cons (wpF.of ?_)
  k_steps
  (try dsimp only)
  refine execsF_cons (wpF.of ?_)
  rename Fr _ _ _ _ => F3
  rename News _ _ _ _ => N3
  have e1 := neN (N3 _ (.head _)).2.1
  rename (_ < _ ∧ _) => l0
  refine while_inv (k := (h ++ oct).length) (FJ I f d z) F3 (news := (f, instObj 212 d) :: (d, dictOf (feedDict b bg ov da z) 4) :: (b, barr (h ++ oct)) :: [(_, W.listOf (List.toArray []) _)])
    (news_c N3 (by k_mem) (news_c N3 (by unfold feedDict; k_mem) (news_c N3 (by k_mem) (news_c N3 (by k_mem) News.nil)))) ⟨b, h ++ oct, bg, ov, da, _, [], _, [], [], ⟨rfl, rfl, trivial⟩, rfl, hap, ⟨by omega, by omega, by omega⟩, no_mem, trivial, h0, Nat.le_refl _⟩ ?_
  rintro k m₁ news₁ h1 tk hJ' F4 N4 Z2 hZ2; refine e10_8 hJ' ?_; clear hJ'; rintro b h bg ov da le vs n tl evs hm rfl hap ⟨lf, ld, lb⟩ hto htu hI hkk
  have F5 := fr_norm F4 hm
  clear F4 F3 N3
  dsimp only [kstB] at F5
  have hzz := hz _ _ _ _ _ hI
  obtain ⟨b1, b2, b3⟩ := id hap
  have t1 : ∀ p ∈ tl, p.1 ≠ f := hto.off N4 (fun p hp => by simp [hp]) (a := f) (o := instObj 212 d) (by simp) (by show Value.ref 212 ≠ .type "tuple"; decide)
  have t2 : ∀ p ∈ tl, p.1 ≠ d := hto.off N4 (fun p hp => by simp [hp]) (a := d) (o := dictOf (feedDict b bg ov da z) 4) (by simp) (by show Value.type "dict" ≠ .type "tuple"; decide)
  have t3 : ∀ p ∈ tl, p.1 ≠ b := hto.off N4 (fun p hp => by simp [hp]) (a := b) (o := barr h) (by simp) (by show Value.type "bytearray" ≠ .type "tuple"; decide)
  have t4 : ∀ p ∈ tl, p.1 ≠ le := hto.off N4 (fun p hp => by simp [hp]) (a := le) (o := W.listOf vs.toArray n) (by simp) (by show Value.type "list" ≠ .type "tuple"; decide)
  unfold feedDict at N4
  cases ov
  · cases da
    · k_steps
      (try dsimp only)
      rcases hS : stepP h bg false with ⟨ev, many, bg', ov', da'⟩
      have hS2 : markerOut h bg false false = (ev, many, bg', ov', da') := hS
      rename News _ _ _ _ => N6
      rename Fr _ _ _ _ => F6
      refine ev_use (out := (ev, many, bg', ov', da')) (f := f) (d := d) (b := b) (bg := bg) (ov := false) (da := false) (z := z) (h := h) (rest := (le, W.listOf (List.toArray vs) n) :: tl) F6 N6 ?_ (fun hM => hS2 ▸ marker_call ⟨X, _, _, _, T⟩ F6.keep hM hap (by omega) (hok _ _ _ _ hI)) hA (by walk_at "my room") (by walk_at "my room") ?_
      · intro p hp
        rcases List.mem_cons.mp hp with rfl | hp
        · exact ⟨lf, ld, lb⟩
        · exact ⟨t1 p hp, t2 p hp, t3 p hp⟩
      · rintro tl' v h' tk' F7 N7 ht fr ⟨t, tm, tv, rfl, htm, hev⟩
        dsimp only at N7 htm hev
        have N8 : News g L' h' ((f, instObj 212 d) :: (d, dictOf (feedDict b bg' ov' da' z) 4) :: (b, barr h) :: (le, W.listOf (List.toArray vs) n) :: (tl' ++ tl)) := fun p hp => N7 p (by
          simp only [FeedM, List.mem_append, List.mem_cons, List.cons_append, List.nil_append] at hp ⊢
          rcases hp with q | q | q | q | q | q <;> simp [q])
        have hta : TupOnly (tl' ++ tl) := fun p hp => by
          rcases List.mem_append.mp hp with q | q
          · exact ht p q
          · exact hto p q
        have u1 : ∀ p ∈ tl' ++ tl, p.1 ≠ f := hta.off N8 (fun p hp => List.mem_cons_of_mem _ (List.mem_cons_of_mem _ (List.mem_cons_of_mem _ (List.mem_cons_of_mem _ hp)))) (a := f) (o := instObj 212 d) (.head _) (by show Value.ref 212 ≠ .type "tuple"; decide)
        have u2 : ∀ p ∈ tl' ++ tl, p.1 ≠ d := hta.off N8 (fun p hp => List.mem_cons_of_mem _ (List.mem_cons_of_mem _ (List.mem_cons_of_mem _ (List.mem_cons_of_mem _ hp)))) (a := d) (o := dictOf (feedDict b bg' ov' da' z) 4) (.tail _ (.head _)) (by show Value.type "dict" ≠ .type "tuple"; decide)
        have u4 : ∀ p ∈ tl' ++ tl, p.1 ≠ le := hta.off N8 (fun p hp => List.mem_cons_of_mem _ (List.mem_cons_of_mem _ (List.mem_cons_of_mem _ (List.mem_cons_of_mem _ hp)))) (a := le) (o := W.listOf vs.toArray n) (.tail _ (.tail _ (.tail _ (.head _)))) (by show Value.type "list" ≠ .type "tuple"; decide)
        have htup : IsTup h' t _ := ⟨_, (N8 _ (List.mem_cons_of_mem _ (List.mem_cons_of_mem _ (List.mem_cons_of_mem _ (List.mem_cons_of_mem _ (List.mem_append_left _ htm)))))).1, rfl, 0, rfl⟩
        have hvl := htu.length
        clear N7 N6
        unfold feedDict at N8
        cases ev with
        | none =>
          obtain rfl : tv = .none := hev
          k_steps
          all_goals (rename News _ _ _ _ => N9; rename Fr _ _ _ _ => F9)
          · rename ((_ : Int) = 0) => e0
            obtain rfl : many = 0 := by omega
            (try dsimp only)
            (first | refine hZ _ _ ?_ | (refine hZ2 _ _ ?_; refine hZ _ _ ?_)); exact Ends.ret F9 (news' := (f, instObj 212 d) :: (d, dictOf (feedDict b bg' ov' da' z) 4) :: (b, barr h) :: (le, W.listOf (List.toArray vs) n) :: (tl' ++ tl)) (news_c N9 (by k_mem) (news_c N9 (by unfold feedDict; k_mem) (news_c N9 (by k_mem) (news_c N9 (by k_mem) (news_t N9 (by walk_at "my tl"))))))
              ⟨b, h, bg', ov', da', le, vs, n, tl' ++ tl, evs, rfl, rfl, hap, hta, htu.mono fun a o q => List.mem_append_right _ q, .inr ⟨bg, false, none, hI, hS⟩⟩
          · rename ((_ : Int) ≠ 0) => e0
            rename (_ < _ ∧ _) => lD
            have hmn : many ≠ 0 := by omega
            have hne : h ≠ [] := fun q => by
              have := stepP_nil bg false
              rw [q] at hS
              rw [hS] at this
              exact hmn this
            have hpos : 0 < h.length := List.length_pos_iff.mpr hne
            have hI2 := hstep _ _ _ _ _ _ _ _ _ hI hS hmn
            have hlt : (h.drop many).length < k := by rw [List.length_drop]; omega
            refine hZ2 _ _ ?_; refine WTurn.next (news' := (f, instObj 212 d) :: (d, dictOf (feedDict _ bg' ov' da' z) 4) :: (_, barr (h.drop many)) :: (le, W.listOf (List.toArray vs) _) :: (tl' ++ tl)) (h.drop many).length hlt F9 (news_c N9 (by k_mem) (news_c N9 (by unfold feedDict; k_mem) (news_c N9 (.head _) (news_c N9 (by k_mem) (news_t N9 (by walk_at "my tl"))))))
              ⟨_, h.drop many, bg', ov', da', le, _, _, tl' ++ tl, evs, ⟨rfl, rfl, trivial⟩, rfl, ⟨b1, Nat.ne_of_gt lD.1, Nat.ne_of_gt lD.2.1⟩, ⟨lf, ld, Nat.ne_of_lt lD.2.2.2.1⟩, hta, htu.mono fun a o q => List.mem_append_right _ q, by simpa using hI2, Nat.le_refl _⟩
        | some e =>
          obtain ⟨ea, its, rfl, ham, hv⟩ := hev
          k_steps
          all_goals (rename News _ _ _ _ => N9; rename Fr _ _ _ _ => F9)
          · rename ((_ : Int) = 0) => e0
            obtain rfl : many = 0 := by omega
            (try dsimp only)
            (first | refine hZ _ _ ?_ | (refine hZ2 _ _ ?_; refine hZ _ _ ?_)); exact Ends.ret F9 (news' := (f, instObj 212 d) :: (d, dictOf (feedDict b bg' ov' da' z) 4) :: (b, barr h) :: (le, W.listOf (List.toArray vs) n) :: (tl' ++ tl)) (news_c N9 (by k_mem) (news_c N9 (by unfold feedDict; k_mem) (news_c N9 (by k_mem) (news_c N9 (by k_mem) (news_t N9 (by walk_at "my tl"))))))
              ⟨b, h, bg', ov', da', le, vs, n, tl' ++ tl, evs, rfl, rfl, hap, hta, htu.mono fun a o q => List.mem_append_right _ q, .inr ⟨bg, false, some e, hI, hS⟩⟩
          · rename ((_ : Int) ≠ 0) => e0
            rename (_ < _ ∧ _) => lD
            have hmn : many ≠ 0 := by omega
            have hne : h ≠ [] := fun q => by
              have := stepP_nil bg false
              rw [q] at hS
              rw [hS] at this
              exact hmn this
            have hpos : 0 < h.length := List.length_pos_iff.mpr hne
            have hI2 := hstep _ _ _ _ _ _ _ _ _ hI hS hmn
            have hlt : (h.drop many).length < k := by rw [List.length_drop]; omega
            refine hZ2 _ _ ?_; refine WTurn.next (news' := (f, instObj 212 d) :: (d, dictOf (feedDict _ bg' ov' da' z) 4) :: (_, barr (h.drop many)) :: (le, W.listOf (List.toArray (vs ++ [.ref ea])) _) :: (tl' ++ tl)) (h.drop many).length hlt F9 (news_c N9 (by k_mem) (news_c N9 (by unfold feedDict; k_mem) (news_c N9 (.head _) (news_c N9 (by k_mem) (news_t N9 (by walk_at "my tl"))))))
              ⟨_, h.drop many, bg', ov', da', le, _, _, tl' ++ tl, evs ++ [e], ⟨rfl, rfl, trivial⟩, rfl, ⟨b1, Nat.ne_of_gt lD.1, Nat.ne_of_gt lD.2.1⟩, ⟨lf, ld, Nat.ne_of_lt lD.2.2.2.1⟩, hta, Tups.append (V := EvV) (htu.mono fun a o q => List.mem_append_right _ q) (Tups.one (x := e) (List.mem_append_left _ ham) hv), by simpa using hI2, Nat.le_refl _⟩
    · k_steps
      (try dsimp only)
      rcases hS : stepP h bg true with ⟨ev, many, bg', ov', da'⟩
      have hS2 : dataEv h bg false true = (ev, many, bg', ov', da') := hS
      rename News _ _ _ _ => N6
      rename Fr _ _ _ _ => F6
      refine ev_use (out := (ev, many, bg', ov', da')) (f := f) (d := d) (b := b) (bg := bg) (ov := false) (da := true) (z := z) (h := h) (rest := (le, W.listOf (List.toArray vs) n) :: tl) F6 N6 ?_ (fun hM => hS2 ▸ dataev_call ⟨X, _, _, _, T⟩ F6.keep hM hap (by omega) (hok _ _ _ _ hI)) hA (by walk_at "my room") (by walk_at "my room") ?_
      · intro p hp
        rcases List.mem_cons.mp hp with rfl | hp
        · exact ⟨lf, ld, lb⟩
        · exact ⟨t1 p hp, t2 p hp, t3 p hp⟩
      · rintro tl' v h' tk' F7 N7 ht fr ⟨t, tm, tv, rfl, htm, hev⟩
        dsimp only at N7 htm hev
        have N8 : News g L' h' ((f, instObj 212 d) :: (d, dictOf (feedDict b bg' ov' da' z) 4) :: (b, barr h) :: (le, W.listOf (List.toArray vs) n) :: (tl' ++ tl)) := fun p hp => N7 p (by
          simp only [FeedM, List.mem_append, List.mem_cons, List.cons_append, List.nil_append] at hp ⊢
          rcases hp with q | q | q | q | q | q <;> simp [q])
        have hta : TupOnly (tl' ++ tl) := fun p hp => by
          rcases List.mem_append.mp hp with q | q
          · exact ht p q
          · exact hto p q
        have u1 : ∀ p ∈ tl' ++ tl, p.1 ≠ f := hta.off N8 (fun p hp => List.mem_cons_of_mem _ (List.mem_cons_of_mem _ (List.mem_cons_of_mem _ (List.mem_cons_of_mem _ hp)))) (a := f) (o := instObj 212 d) (.head _) (by show Value.ref 212 ≠ .type "tuple"; decide)
        have u2 : ∀ p ∈ tl' ++ tl, p.1 ≠ d := hta.off N8 (fun p hp => List.mem_cons_of_mem _ (List.mem_cons_of_mem _ (List.mem_cons_of_mem _ (List.mem_cons_of_mem _ hp)))) (a := d) (o := dictOf (feedDict b bg' ov' da' z) 4) (.tail _ (.head _)) (by show Value.type "dict" ≠ .type "tuple"; decide)
        have u4 : ∀ p ∈ tl' ++ tl, p.1 ≠ le := hta.off N8 (fun p hp => List.mem_cons_of_mem _ (List.mem_cons_of_mem _ (List.mem_cons_of_mem _ (List.mem_cons_of_mem _ hp)))) (a := le) (o := W.listOf vs.toArray n) (.tail _ (.tail _ (.tail _ (.head _)))) (by show Value.type "list" ≠ .type "tuple"; decide)
        have htup : IsTup h' t _ := ⟨_, (N8 _ (List.mem_cons_of_mem _ (List.mem_cons_of_mem _ (List.mem_cons_of_mem _ (List.mem_cons_of_mem _ (List.mem_append_left _ htm)))))).1, rfl, 0, rfl⟩
        have hvl := htu.length
        clear N7 N6
        unfold feedDict at N8
        cases ev with
        | none =>
          obtain rfl : tv = .none := hev
          k_steps
          all_goals (rename News _ _ _ _ => N9; rename Fr _ _ _ _ => F9)
          · rename ((_ : Int) = 0) => e0
            obtain rfl : many = 0 := by omega
            (try dsimp only)
            (first | refine hZ _ _ ?_ | (refine hZ2 _ _ ?_; refine hZ _ _ ?_)); exact Ends.ret F9 (news' := (f, instObj 212 d) :: (d, dictOf (feedDict b bg' ov' da' z) 4) :: (b, barr h) :: (le, W.listOf (List.toArray vs) n) :: (tl' ++ tl)) (news_c N9 (by k_mem) (news_c N9 (by unfold feedDict; k_mem) (news_c N9 (by k_mem) (news_c N9 (by k_mem) (news_t N9 (by walk_at "my tl"))))))
              ⟨b, h, bg', ov', da', le, vs, n, tl' ++ tl, evs, rfl, rfl, hap, hta, htu.mono fun a o q => List.mem_append_right _ q, .inr ⟨bg, true, none, hI, hS⟩⟩
          · rename ((_ : Int) ≠ 0) => e0
            rename (_ < _ ∧ _) => lD
            have hmn : many ≠ 0 := by omega
            have hne : h ≠ [] := fun q => by
              have := stepP_nil bg true
              rw [q] at hS
              rw [hS] at this
              exact hmn this
            have hpos : 0 < h.length := List.length_pos_iff.mpr hne
            have hI2 := hstep _ _ _ _ _ _ _ _ _ hI hS hmn
            have hlt : (h.drop many).length < k := by rw [List.length_drop]; omega
            refine hZ2 _ _ ?_; refine WTurn.next (news' := (f, instObj 212 d) :: (d, dictOf (feedDict _ bg' ov' da' z) 4) :: (_, barr (h.drop many)) :: (le, W.listOf (List.toArray vs) _) :: (tl' ++ tl)) (h.drop many).length hlt F9 (news_c N9 (by k_mem) (news_c N9 (by unfold feedDict; k_mem) (news_c N9 (.head _) (news_c N9 (by k_mem) (news_t N9 (by walk_at "my tl"))))))
              ⟨_, h.drop many, bg', ov', da', le, _, _, tl' ++ tl, evs, ⟨rfl, rfl, trivial⟩, rfl, ⟨b1, Nat.ne_of_gt lD.1, Nat.ne_of_gt lD.2.1⟩, ⟨lf, ld, Nat.ne_of_lt lD.2.2.2.1⟩, hta, htu.mono fun a o q => List.mem_append_right _ q, by simpa using hI2, Nat.le_refl _⟩
        | some e =>
          obtain ⟨ea, its, rfl, ham, hv⟩ := hev
          k_steps
          all_goals (rename News _ _ _ _ => N9; rename Fr _ _ _ _ => F9)
          · rename ((_ : Int) = 0) => e0
            obtain rfl : many = 0 := by omega
            (try dsimp only)
            (first | refine hZ _ _ ?_ | (refine hZ2 _ _ ?_; refine hZ _ _ ?_)); exact Ends.ret F9 (news' := (f, instObj 212 d) :: (d, dictOf (feedDict b bg' ov' da' z) 4) :: (b, barr h) :: (le, W.listOf (List.toArray vs) n) :: (tl' ++ tl)) (news_c N9 (by k_mem) (news_c N9 (by unfold feedDict; k_mem) (news_c N9 (by k_mem) (news_c N9 (by k_mem) (news_t N9 (by walk_at "my tl"))))))
              ⟨b, h, bg', ov', da', le, vs, n, tl' ++ tl, evs, rfl, rfl, hap, hta, htu.mono fun a o q => List.mem_append_right _ q, .inr ⟨bg, true, some e, hI, hS⟩⟩
          · rename ((_ : Int) ≠ 0) => e0
            rename (_ < _ ∧ _) => lD
            have hmn : many ≠ 0 := by omega
            have hne : h ≠ [] := fun q => by
              have := stepP_nil bg true
              rw [q] at hS
              rw [hS] at this
              exact hmn this
            have hpos : 0 < h.length := List.length_pos_iff.mpr hne
            have hI2 := hstep _ _ _ _ _ _ _ _ _ hI hS hmn
            have hlt : (h.drop many).length < k := by rw [List.length_drop]; omega
            refine hZ2 _ _ ?_; refine WTurn.next (news' := (f, instObj 212 d) :: (d, dictOf (feedDict _ bg' ov' da' z) 4) :: (_, barr (h.drop many)) :: (le, W.listOf (List.toArray (vs ++ [.ref ea])) _) :: (tl' ++ tl)) (h.drop many).length hlt F9 (news_c N9 (by k_mem) (news_c N9 (by unfold feedDict; k_mem) (news_c N9 (.head _) (news_c N9 (by k_mem) (news_t N9 (by walk_at "my tl"))))))
              ⟨_, h.drop many, bg', ov', da', le, _, _, tl' ++ tl, evs ++ [e], ⟨rfl, rfl, trivial⟩, rfl, ⟨b1, Nat.ne_of_gt lD.1, Nat.ne_of_gt lD.2.1⟩, ⟨lf, ld, Nat.ne_of_lt lD.2.2.2.1⟩, hta, Tups.append (V := EvV) (htu.mono fun a o q => List.mem_append_right _ q) (Tups.one (x := e) (List.mem_append_left _ ham) hv), by simpa using hI2, Nat.le_refl _⟩
  · k_steps
    (try dsimp only)
    refine execsF_cons (assignF1 (evalCallF_Name ?_))
    k_steps
    rename Fr _ _ _ _ => F6
    rename News _ _ _ _ => N6
    refine callWithF (PyProof.Rows.evalArgs_none ?_)
    refine wpAny_pure ?_
    refine new_ba_led F6 N6 ?_
    intro D h' F7 N7 l1
    have g1 : @LT.lt Nat _ f D := l1 (f, instObj 212 d) (.head _)
    have g2 : @LT.lt Nat _ d D := l1 (d, _) (.tail _ (.head _))
    have g3 : @LT.lt Nat _ le D := l1 (le, W.listOf (List.toArray vs) n) (.tail _ (.tail _ (.tail _ (.head _))))
    (try k_lt l1)
    k_steps
    (try dsimp only)
    refine wpF.of ?_
    k_steps
    (try dsimp only)
    rename Fr _ _ _ _ => F9
    rename News _ _ _ _ => N9
    (first | refine hZ _ _ ?_ | (refine hZ2 _ _ ?_; refine hZ _ _ ?_)); exact Ends.ret F9 (news' := (f, instObj 212 d) :: (d, dictOf (feedDict D bg true da z) 4) :: (D, barr []) :: (le, W.listOf (List.toArray vs) n) :: tl) (news_c N9 (by k_mem) (news_c N9 (by unfold feedDict; k_mem) (news_c N9 (by k_mem) (news_c N9 (by k_mem) (news_t N9 (by walk_at "my tl"))))))
      ⟨D, [], bg, true, da, le, vs, n, tl, evs, rfl, rfl, ⟨b1, Nat.ne_of_gt g1, Nat.ne_of_gt g2⟩, hto, htu, .inl ⟨rfl, rfl, h, hI⟩⟩
end

-- part B15
section
open Sem (wp)
section
variable {prog : Program} {w : World} {A : Around} {s : Shared} {env : Env} {h₀ : Heap} {target : PySem.Expr} {body : List Stmt} {Q : Flow → Shared → Prop}
theorem codeF_loop {M : Model} {c : Code} {R : Result → Shared → Prop} (ok : okCode c = true) (hq : c.quiet = true) (I : Nat → Shared → Prop)
    (turn : ∀ n s, I n s → wpF M (A.under c) (M.den c)
      (fun fin s' => match fin with
        | .done f => R (.ok f) s'
        | .again c' => (c' = c ∧ ∃ m, m < n ∧ I m s') ∨ (c'.quiet = true ∧ codeF M A c' R s')) (fun e s' => R (.error e) s') s)
    (n : Nat) (h : I n s) : codeF M A c R s := by
  induction n using Nat.strongRecOn generalizing s with
  | ind n ih =>
    refine codeF_tree ok (wpF_mono (turn n s h) (fun fin s' hf => ?_) fun _ _ h' => h')
    cases fin with
    | done f => exact hf
    | again c' =>
      rcases hf with ⟨rfl, m, hm, hI⟩ | hf
      · exact ⟨hq, ih m hm hI⟩
      · exact hf
theorem onRaiseF {α : Type} {M : Model} {m : Sem α} {k : Value → Sem Unit} {Q : α → Shared → Prop} {E : Value → Shared → Prop} (h : wpF M A m Q (fun _ _ => False) s) : wpF M A (m.onRaise k) Q E s :=
  wpF_onRaise (wpF_mono h (fun _ _ q => q) fun _ _ x => x.elim)
theorem codeF_blockNil {R : Result → Shared → Prop} (h : R (.ok .next) s) : codeF (model prog w) A (.block [] env) R s := by
  refine codeF_tree rfl ?_
  show wpF _ _ (do return Fin.done (← (execs [] env).onRaise (fun x => do noteFrame x env; theTreesLotGoes x))) _ _ s
  exact wpF_bind (onRaiseF (execsF_nil (wpF_pure h)))
theorem forF_loop {it : Value} {R : Result → Shared → Prop} (I : Nat → Shared → Prop)
    (turn : ∀ n s, I n s → wpAny (model prog w) A (pyNext it) (fun r s₁ => match r with
      | none => R (.ok .next) s₁
      | some v => wpAny (model prog w) A (assign target env v) (fun _ s₂ => wpF (model prog w) A (execs body env) (fun f s₃ => match f with
          | .next | .cont => ∃ m, m < n ∧ I m s₃
          | .brk => R (.ok .next) s₃
          | .ret v => R (.ok (.ret v)) s₃) (fun _ _ => False) s₂) (fun _ _ => False) s₁) (fun _ _ => False) s)
    (n : Nat) (h : I n s) (ht : ∀ v, letOwnedTupleGo target it v = pure () := by intro _; rfl) : codeF (model prog w) A (.forLoop target it body [] env) R s := by
  refine codeF_loop rfl rfl I (fun n s hI => ?_) n h
  show wpF _ _ ((forTurn target it body [] env).onRaise (fun x => do noteFrame x env; theTreesLotGoes x)) _ _ s
  refine onRaiseF ?_
  simp only [forTurn]
  refine wpF_bindA (wpAny_standAt ?_)
  refine wpF_bind (onRaiseF (wpF.of (wpAny_mono (turn n s hI) (fun r s₁ h₁ => ?_) fun _ _ h' => h')))
  cases r with
  | none => exact wpF_pure (.inr ⟨rfl, codeF_blockNil h₁⟩)
  | some v =>
    refine wpF_bindA (wpAny_of_eq (ht v) ?_)
    refine wpF_bindA (wpAny_mono h₁ (fun _ s₂ h₂ => ?_) fun _ _ h' => h'.elim)
    refine wpF_bind (wpF_mono h₂ (fun f s₃ h₃ => ?_) fun _ _ h' => h'.elim)
    cases f with
    | next => exact wpF_pure (.inl ⟨rfl, h₃⟩)
    | cont => exact wpF_pure (.inl ⟨rfl, h₃⟩)
    | brk => exact wpF_pure h₃
    | ret v => exact wpF_pure h₃
theorem wpF_For {iter : PySem.Expr} {pos : Pos}
    (h : wpAny (model prog w) A (eval iter env) (fun x s₁ => wpAny (model prog w) A (pyIter x) (fun it s₂ =>
      codeF (model prog w) A (.forLoop target it body [] env) (fun r s' => match r with | .ok f => Q f s' | .error _ => False) s₂) (fun _ _ => False) s₁) (fun _ _ => False) s)
    (hs : ∀ x, foldedSetIterable iter env x = pure x := by intro _; rfl) : wpF (model prog w) A (exec (.For target iter body [] pos) env) Q (fun _ _ => False) s := by
  rw [exec_For]
  refine wpF_bindA (wpAny_standAt ?_)
  refine wpF_bindA (wpAny_mono h (fun x s₁ h₁ => ?_) fun _ _ h' => h')
  refine wpF_bindA (wpAny_of_eq (hs x) ?_)
  refine wpF_bindA (wpAny_standAt ?_)
  refine wpF_bindA (wpAny_holding (wpAny_mono h₁ (fun it s₂ h₂ => ?_) fun _ _ h' => h'))
  unfold runOwn
  refine onRaiseF (wpF_run (by have := h₂; exact codeF_mono h₂ fun r s' hr => by cases r <;> exact hr))
theorem forF_list {ax : Addr} {vs : List Value} {n : Nat} {m₀ : Str → Option Value} {news : Led} (J : Nat → (Str → Option Value) → Led → Prop)
    (hh : A.handled = none) (F : Fr h₀ env.locals s.heap m₀) (N : News h₀ env.locals s.heap news) (hm : (ax, W.listOf vs.toArray n) ∈ news) (h0 : J 0 m₀ news)
    (turn : ∀ i v m₁ news₁ h tk it I, vs[i]? = some v → Obj.cls it = .type "list_iterator" → (∀ p ∈ news₁, p.1 ≠ I) → (ax, W.listOf vs.toArray n) ∈ news₁ → J i m₁ news₁ → Fr h₀ env.locals h m₁ → News h₀ env.locals h ((I, it) :: news₁) →
      ∀ Z : Flow → Shared → Prop, (∀ f s₃, Turn h₀ env.locals { s with heap := h, toks := tk } I it (fun m' n' => (ax, W.listOf vs.toArray n) ∈ n' ∧ J (i + 1) m' n') Q f s₃ → Z f s₃) → wpAny (model prog w) A (assign target env v) (fun _ s₂ => wpF (model prog w) A (execs body env) Z (fun _ _ => False) s₂) (fun _ _ => False) { s with heap := h, toks := tk })
    (done : ∀ m₁ news₁ h tk, J vs.length m₁ news₁ → Fr h₀ env.locals h m₁ → News h₀ env.locals h news₁ → Q .next { s with heap := h, toks := tk }) (ht : ∀ I v, letOwnedTupleGo target (.ref I) v = pure () := by intro _ _; rfl) :
    wpAny (model prog w) A (pyIter (.ref ax)) (fun it s₂ => codeF (model prog w) A (.forLoop target it body [] env) (fun r s' => match r with | .ok f => Q f s' | .error _ => False) s₂) (fun _ _ => False) s := by
  have hl := News.isList N hm
  refine wpAny_pyIter_list hl ?_
  have F0 := F.push ({ cls := .type "list_iterator", data := .fields #[.ref ax, .int 0 0] } : Obj)
  have N0 := N.push F ({ cls := .type "list_iterator", data := .fields #[.ref ax, .int 0 0] } : Obj)
  refine forF_loop (it := .ref s.heap.objs.size) (fun k s' => ∃ h tk m₁ news₁ i it, s' = { s with heap := h, toks := tk } ∧ Obj.cls it = .type "list_iterator" ∧ it.data = .fields #[.ref ax, .int (i : Nat) 0] ∧ Fr h₀ env.locals h m₁ ∧ News h₀ env.locals h ((s.heap.objs.size, it) :: news₁) ∧
    (∀ p ∈ news₁, p.1 ≠ s.heap.objs.size) ∧ (ax, W.listOf vs.toArray n) ∈ news₁ ∧ J i m₁ news₁ ∧ i ≤ vs.length ∧ k = vs.length - i) ?_ vs.length ⟨_, s.toks, m₀, news, 0, _, rfl, rfl, rfl, F0, N0, fun p hp => Nat.ne_of_lt (Heap.lt_size (N p hp).1), hm, h0, Nat.zero_le _, by omega⟩ (ht _)
  rintro k s' hJ' ; refine e6_10 hJ' ?_; clear hJ'; rintro h tk m₁ news₁ i it rfl hc hd F1 N1 off hin hJ hi rfl
  have hit : h.IsListIter s.heap.objs.size ax i := ⟨it, (N1 _ (.head _)).1, hc, hd⟩
  have hl1 : h.IsList ax vs.toArray := News.isList N1 (.tail _ hin)
  by_cases hlt : i < vs.length
  · have hv : vs[i]? = some vs[i] := by simp [hlt]
    refine wpAny_pyNext_list_item (x := vs[i]) hit hl1 (by simpa using hv) fun h' hit' hs => ?_
    obtain ⟨o, ho, hoc, hod⟩ := hit'
    have F2 : Fr h₀ env.locals h' m₁ := F1.change hs (N1 _ (.head _)).2.1 (N1 _ (.head _)).2.2
    have N2 : News h₀ env.locals h' ((s.heap.objs.size, o) :: news₁) := fun p hp => by
      rcases List.mem_cons.mp hp with rfl | hp
      · exact ⟨ho, (N1 _ (.head _)).2⟩
      · exact ⟨(hs.2 p.1 (off p hp)).trans (N1 p (.tail _ hp)).1, (N1 p (.tail _ hp)).2⟩
    refine wpAny_mono (turn i vs[i] m₁ news₁ h' tk o _ hv hoc off hin hJ F2 N2 _ fun _ _ y => y) (fun _ s₂ h₂ => wpF_mono h₂ (fun f s₃ p => ?_) fun _ _ e => e) fun _ _ e => e
    have fin : (∃ h2 tk2 m' news', s₃ = { s with heap := h2, toks := tk2 } ∧ Fr h₀ env.locals h2 m' ∧ News h₀ env.locals h2 ((s.heap.objs.size, o) :: news') ∧ (∀ p ∈ news', p.1 ≠ s.heap.objs.size) ∧ ((ax, W.listOf vs.toArray n) ∈ news' ∧ J (i + 1) m' news')) →
        ∃ m, m < vs.length - i ∧ ∃ h tk m₁ news₁ i it, s₃ = { s with heap := h, toks := tk } ∧ Obj.cls it = .type "list_iterator" ∧ it.data = .fields #[.ref ax, .int (i : Nat) 0] ∧ Fr h₀ env.locals h m₁ ∧ News h₀ env.locals h ((s.heap.objs.size, it) :: news₁) ∧
          (∀ p ∈ news₁, p.1 ≠ s.heap.objs.size) ∧ (ax, W.listOf vs.toArray n) ∈ news₁ ∧ J i m₁ news₁ ∧ i ≤ vs.length ∧ m = vs.length - i := by
      rintro ⟨h2, tk2, m', news', e, F3, N3, off', hin', j⟩
      exact ⟨vs.length - (i + 1), by omega, h2, tk2, m', news', i + 1, o, e, hoc, hod, F3, N3, off', hin', j, hlt, rfl⟩
    cases f with
    | ret v => exact p
    | brk => exact p
    | next => exact fin p
    | cont => exact fin p
  · obtain rfl : i = vs.length := by omega
    refine wpAny_pyNext_list_end hh hit hl1 (by simp) fun h' hs => ?_
    have hI := N1 _ (List.mem_cons_self ..)
    have F2 : Fr h₀ env.locals h' m₁ := ⟨F1.ns.extBut hs (Ne.symm hI.2.1), fun c x e => hs c x (fun q => by rw [q, hI.2.2] at e; cases e) (F1.keep c x e), F1.above⟩
    refine done m₁ news₁ h' tk hJ F2 fun p hp => ⟨hs _ _ (off p hp) (N1 p (.tail _ hp)).1, (N1 p (.tail _ hp)).2⟩
end
end

-- part B16
section
open Sem (wp)
section
variable {M : Model} {A : Around} {E : Value → Shared → Prop} {s : Shared} {env : Env}
theorem splicedF_cons {x : Sem Value} {rest : List (Bool × Sem Value)} {Q : List Value → Shared → Prop}
    (h : wpF M A x (fun v s₁ => wpF M A (spliced rest) (fun vs s₂ => Q (v :: vs) s₂) E s₁) E s) : wpF M A (spliced ((false, x) :: rest)) Q E s := by
  rw [spliced]
  refine wpF_bind (wpF_mono h (fun v s₁ h₁ => ?_) fun _ _ x => x)
  simp only [Bool.false_eq_true, if_false]
  exact wpF_bind (wpF_pure (wpF_bind (wpF_holding (wpF_mono h₁ (fun vs s₂ h₂ => wpF_pure h₂) fun _ _ x => x))))
theorem evalTupleF {elts : List PySem.Expr} {x1} {pos : Pos} {Q : Value → Shared → Prop} (h : wpF M A (spliced (backTo pos (starEach elts env))) (fun vs s₁ => wpAny M A (newTuple vs) Q E s₁) E s) : wpF M A (eval (.Tuple elts x1 pos) env) Q E s := by
  rw [arm_eval_Tuple]
  refine wpF_bindA (wpAny_standAt ?_)
  exact wpF_bind (wpF_mono h (fun vs s₁ h₁ => wpF.of h₁) fun _ _ x => x)
theorem assignTupleF {elts : List PySem.Expr} {k} {tpos : Pos} {value : PySem.Expr} {pos : Pos} {names : List Str} {Q : Flow → Shared → Prop}
    (h : wpF M A (eval value env) (fun v s₁ => wpAny M A (unpackItems v names.length none) (fun items s₂ =>
      wpAny M A (assignInOrder (names.reverse.map fun n => bindName env n) items.reverse) (fun _ => Q .next) E s₂) E s₁) E s)
    (hs : swapsWithSole [.Tuple elts k tpos] value pos.line env = pure false := by rfl)
    (hw : swappedStores [.Tuple elts k tpos] value env = pure (some names) := by rfl) :
    wpF M A (exec (.Assign [.Tuple elts k tpos] value pos) env) Q E s := by
  rw [exec_Assign]
  refine wpF_bindA (wpAny_standAt ?_)
  rw [hs]
  refine wpF_bind (wpF_pure ?_)
  rw [if_neg (by decide)]
  refine wpF_bind (wpF_mono h (fun v s₁ h₁ => ?_) fun _ _ x => x)
  rw [hw]
  refine wpF_bind (wpF_pure (wpF.of ?_))
  show wpAny M A (do rule "assign.swapped-stores"; let items ← unpackItems v names.length none; assignInOrder (names.reverse.map fun n => bindName env n) items.reverse; pure .next) Q E s₁
  exact wpAny_bind (wpAny_rule (wpAny_bind (wpAny_mono h₁ (fun items s₂ h₂ => wpAny_bind (wpAny_mono h₂ (fun _ _ x => wpAny_pure x) fun _ _ x => x)) fun _ _ x => x)))
theorem keep_use {K : Frag} {f : Value} {Q : Keeper → Shared → Prop} (e : keepIn K f = true) (X : K.In s.heap) (h : ∀ k, Q k s) : wpAny M A (keeperOf f) Q E s := by
  obtain ⟨k, _, hk⟩ := looks_keep (M := M) e X
  exact hk A Q E s (fun _ _ e => e) (h k)
end
end

-- part B17
theorem GoodRow.small {r : Row} (h : GoodRow r) : SmallRow r := by
  obtain ⟨n, hn, hd⟩ := h.data
  have := hd.len
  refine ⟨?_, h.pay, by omega⟩
  rcases h.code with e | e | e | e | e <;> omega
theorem GoodRow.law {r : Row} (h : GoodRow r) : LawRow r := by
  refine ⟨h.small, fun hb => ?_⟩
  have h1 : r.code = 1 := by
    rcases hb with e | e | e
    · exact e
    · rcases h.code with q | q | q | q | q <;> omega
    · rcases h.code with q | q | q | q | q <;> omega
  exact ⟨h.bare h1, h.none (by omega)⟩
theorem GoodRow.gp {r : Row} (h : GoodRow r) : GoodP r := by
  refine ⟨h.small, ?_, fun hb => (h.law.bare hb).2⟩
  have hc := h.code
  clear h
  obtain ⟨c, p, d⟩ := r
  dsimp only at hc
  rcases hc with rfl | rfl | rfl | rfl | rfl <;> rfl
theorem soi_good : LawRow ⟨216, [], []⟩ ∧ GoodP ⟨216, [], []⟩ :=
  ⟨⟨⟨by decide, by decide, by decide⟩, fun _ => ⟨rfl, rfl⟩⟩, ⟨⟨by decide, by decide, by decide⟩, by decide, fun _ => rfl⟩⟩
theorem eoi_good : LawRow ⟨217, [], []⟩ ∧ GoodP ⟨217, [], []⟩ :=
  ⟨⟨⟨by decide, by decide, by decide⟩, fun _ => ⟨rfl, rfl⟩⟩, ⟨⟨by decide, by decide, by decide⟩, by decide, fun _ => rfl⟩⟩
theorem GoodRows.all {rows : List Row} (h : GoodRows rows) : rows.length ≤ 8 ∧ 2 ≤ rows.length ∧ (∀ r ∈ rows, LawRow r) ∧ ∀ r ∈ rows, GoodP r := by
  obtain ⟨mid, rfl, hl, hg⟩ := h
  refine ⟨by simp; omega, by simp, fun r hr => ?_, fun r hr => ?_⟩
  · simp only [List.mem_cons, List.mem_append, List.not_mem_nil, or_false] at hr
    rcases hr with rfl | hr | rfl
    · exact soi_good.1
    · exact (hg r hr).law
    · exact eoi_good.1
  · simp only [List.mem_cons, List.mem_append, List.not_mem_nil, or_false] at hr
    rcases hr with rfl | hr | rfl
    · exact soi_good.2
    · exact (hg r hr).gp
    · exact eoi_good.2

-- part B18
noncomputable def TailR (rest : List Row) : Prop := ∃ mid, rest = mid ++ [⟨217, [], []⟩] ∧ ∀ r ∈ mid, GoodRow r
inductive GS (rows : List Row) : List Row → Bool → Bool → Bool → List UInt8 → Prop where
  | start {rest : List Row} (h : rows = ⟨216, [], []⟩ :: rest) (t : TailR rest) : GS rows [] false false false (encs rows)
  | mark {done rest : List Row} (h : rows = done ++ rest) (t : TailR rest) : GS rows done true false false (encs rest)
  | data {d0 rest : List Row} {pay d1 : List UInt8} {ts : List (List UInt8)} (h : rows = d0 ++ ⟨218, pay, d1 ++ ts.flatten⟩ :: rest) (t : TailR rest) (hts : ∀ t ∈ ts, IsTok t) :
      GS rows (d0 ++ [⟨218, pay, d1⟩]) true false true (ts.flatten ++ encs rest)
  | over {da : Bool} : GS rows rows true true da []
theorem enc_big {c : Nat} {p d : List UInt8} (hc : c = 254 ∨ c = 224 ∨ c = 219 ∨ c = 218) : enc ⟨c, p, d⟩ = 255 :: c.toUInt8 :: 0 :: (p.length + 2).toUInt8 :: (p ++ d) := by
  have hb : ¬ bare ⟨c, p, d⟩ := by
    unfold bare
    rintro (e | e | e) <;> dsimp only at e <;> omega
  unfold enc
  rw [if_neg hb]
  simp
inductive RowC : List UInt8 → Row → Prop where
  | eoi : RowC [255, 217] ⟨217, [], []⟩
  | tem : RowC [255, 1] ⟨1, [], []⟩
  | plain {c : Nat} {p : List UInt8} (hc : c = 254 ∨ c = 224 ∨ c = 219) (hp : p.length ≤ 3) : RowC (255 :: c.toUInt8 :: 0 :: (p.length + 2).toUInt8 :: p) ⟨c, p, []⟩
  | scan {p : List UInt8} {ts : List (List UInt8)} (hp : p.length ≤ 3) (hts : ∀ t ∈ ts, IsTok t) : RowC (255 :: 218 :: 0 :: (p.length + 2).toUInt8 :: (p ++ ts.flatten)) ⟨218, p, ts.flatten⟩
theorem GoodRow.c {r : Row} (h : GoodRow r) : RowC (enc r) r := by
  obtain ⟨n, _, ts, _, ht, hd⟩ := h.data
  have hc := h.code
  have hp := h.pay
  have hb := h.bare
  have hn := h.none
  clear h
  obtain ⟨c, p, d⟩ := r
  dsimp only at hd hc hp hb hn
  rcases hc with rfl | rfl | rfl | rfl | rfl
  · obtain rfl := hn (by decide); rw [enc_big (by simp), List.append_nil]; exact .plain (by simp) hp
  · obtain rfl := hn (by decide); rw [enc_big (by simp), List.append_nil]; exact .plain (by simp) hp
  · obtain rfl := hn (by decide); rw [enc_big (by simp), List.append_nil]; exact .plain (by simp) hp
  · subst hd; rw [enc_big (by simp)]; exact .scan hp ht
  · obtain rfl := hn (by decide)
    obtain rfl := hb rfl
    exact .tem
theorem TailR.cases {rest : List Row} (h : TailR rest) : ∃ r rest', rest = r :: rest' ∧ RowC (enc r) r ∧ ((r = ⟨217, [], []⟩ ∧ rest' = []) ∨ (r.code ≠ 217 ∧ TailR rest')) := by
  obtain ⟨mid, rfl, hm⟩ := h
  cases mid with
  | nil => exact ⟨_, _, rfl, .eoi, .inl ⟨rfl, rfl⟩⟩
  | cons r mid =>
    refine ⟨r, mid ++ [⟨217, [], []⟩], rfl, (hm r (.head _)).c, .inr ⟨?_, mid, rfl, fun x hx => hm x (.tail _ hx)⟩⟩
    rcases (hm r (.head _)).code with e | e | e | e | e <;> omega
theorem encs_cons (r : Row) (rs : List Row) : encs (r :: rs) = enc r ++ encs rs := rfl
/-- the first two octets of what is left -/
theorem TailR.head {rest : List Row} (h : TailR rest) : ∃ c : UInt8, ∃ more, encs rest = 255 :: c :: more ∧ (c = 217 ∨ c = 1 ∨ c = 254 ∨ c = 224 ∨ c = 219 ∨ c = 218) := by
  obtain ⟨r, rest', rfl, hr, _⟩ := h.cases
  rw [encs_cons]
  generalize enc r = e at hr
  cases hr with
  | eoi => exact ⟨217, _, rfl, by simp⟩
  | tem => exact ⟨1, _, rfl, by simp⟩
  | plain hc hp => rcases hc with rfl | rfl | rfl <;> exact ⟨_, _, rfl, by decide⟩
  | scan hp hts => exact ⟨218, _, rfl, by simp⟩
theorem cons_cases {h F : List UInt8} {a b : UInt8} {more : List UInt8} (e : h ++ F = a :: b :: more) : (h = [] ∧ F ≠ []) ∨ (h = [a] ∧ F ≠ []) ∨ ∃ t, h = a :: b :: t ∧ t ++ F = more := by
  match h, e with
  | [], e => exact .inl ⟨rfl, by rintro rfl; cases e⟩
  | [x], e =>
    obtain ⟨rfl, e2⟩ := List.cons.inj e
    exact .inr (.inl ⟨rfl, by rintro rfl; cases e2⟩)
  | x :: y :: t, e =>
    obtain ⟨rfl, e2⟩ := List.cons.inj e
    obtain ⟨rfl, e3⟩ := List.cons.inj e2
    exact .inr (.inr ⟨t, rfl, e3⟩)
theorem skip1 {c : UInt8} {t : List UInt8} (hc : c ≠ 255) : skipFF (255 :: c :: t) = 1 := by
  show skipFF (c :: t) + 1 = 1
  have : skipFF (c :: t) = 0 := by
    unfold skipFF
    split
    · rename_i q; exact absurd (List.cons.inj q).1 hc
    · rfl
  rw [this]
theorem markerOut_mark {c : UInt8} {t : List UInt8} {bg ov da : Bool} (hc : c ≠ 255) (hl : hasLen (c.toNat : Int) = false) : markerOut (255 :: c :: t) bg ov da = (some (.marker c.toNat), 2, true, c.toNat == 217, da) := by
  unfold markerOut
  rw [skip1 hc]
  simp [hl]
theorem markerOut_seg {c : UInt8} {t : List UInt8} {bg ov da : Bool} (hc : c ≠ 255) (hl : hasLen (c.toNat : Int) = true) : markerOut (255 :: c :: t) bg ov da =
    if t.length < 2 ∨ t.length < sizeAt t 0 then (none, 0, bg, ov, da) else (some (.seg c.toNat ((t.drop 2).take (sizeAt t 0 - 2))), 2 + sizeAt t 0, bg, ov, c.toNat == 218) := by
  have e : sizeAt (255 :: c :: t) 2 = sizeAt t 0 := rfl
  unfold markerOut
  rw [skip1 hc]
  simp only [List.length_cons, List.getD_cons_succ, List.getD_cons_zero, hl, if_true, Nat.reduceAdd, e]
  rw [if_neg (by omega)]
  by_cases h : t.length < 2 ∨ t.length < sizeAt t 0
  · rw [if_pos h, if_pos (by omega)]
  · rw [if_neg h, if_neg (by omega)]
    rfl
theorem mok_nil {bg : Bool} : MarkerOk [] bg := ⟨.inl rfl, .inl (Nat.le_refl _), .inl (Nat.le_refl _), .inl (Nat.le_refl _)⟩
theorem mok_ff {bg : Bool} : MarkerOk [255] bg := ⟨.inr rfl, .inl (Nat.le_refl _), .inl (Nat.le_refl _), .inl (Nat.le_refl _)⟩
theorem mok_two {c : UInt8} {t : List UInt8} {bg : Bool} (hc : c ≠ 255) (h0 : c.toNat ≠ 0) (hr : ¬ (208 ≤ c.toNat ∧ c.toNat ≤ 215)) (hs : (bg = false ∧ c.toNat = 216) ∨ (bg = true ∧ c.toNat ≠ 216))
    (hz : hasLen (c.toNat : Int) = false ∨ t.length < 2 ∨ 2 ≤ sizeAt t 0) : MarkerOk (255 :: c :: t) bg := by
  refine ⟨.inr rfl, ?_, ?_, ?_⟩ <;> rw [skip1 hc]
  · exact .inr ⟨h0, hr⟩
  · right
    show (_ ∨ (c.toNat : Int) ≠ 216) ∧ (_ ∨ ((c.toNat : Int) = 216 ∧ _))
    rcases hs with ⟨rfl, e⟩ | ⟨rfl, e⟩
    · exact ⟨.inl rfl, .inr ⟨by omega, rfl⟩⟩
    · exact ⟨.inr (by omega), .inl rfl⟩
  · right
    rcases hz with e | e | e
    · exact .inl e
    · right; left
      show t.length + 1 + 1 < _
      omega
    · exact .inr (.inr e)
/-- what one step of the feeder does, held and what is to come being what is left -/
noncomputable def Steps (rows done : List Row) (bg da : Bool) (h F : List UInt8) : Prop :=
  OkStep h bg da ∧ ((∃ da', stepP h bg da = (none, 0, bg, false, da') ∧ GS rows done bg false da' (h ++ F) ∧ F ≠ []) ∨
    ∃ ev many bg' ov' da' done', stepP h bg da = (some ev, many, bg', ov', da') ∧ many ≠ 0 ∧ many ≤ h.length ∧ evLen [ev] ≤ many ∧ stepE done ev = some done' ∧ GS rows done' bg' ov' da' ((h ++ F).drop many))
theorem stepP_mark (h : List UInt8) (bg : Bool) : stepP h bg false = markerOut h bg false false := rfl
theorem ok_mark (h : List UInt8) (bg : Bool) : OkStep h bg false = MarkerOk h bg := rfl
theorem GS.cast {rows done : List Row} {bg ov da : Bool} {R R' : List UInt8} (h : GS rows done bg ov da R) (e : R = R') : GS rows done bg ov da R' := e ▸ h
theorem step_start {rows rest : List Row} {h F : List UInt8} (hr : rows = ⟨216, [], []⟩ :: rest) (t : TailR rest) (e : encs rows = h ++ F) : Steps rows [] false false h F := by
  have e2 : h ++ F = 255 :: 216 :: encs rest := by rw [← e, hr]; rfl
  have hG : GS rows [] false false false (h ++ F) := (GS.start hr t).cast e
  rcases cons_cases e2 with ⟨rfl, hF⟩ | ⟨rfl, hF⟩ | ⟨t', rfl, ht⟩
  · exact ⟨mok_nil, .inl ⟨false, rfl, hG, hF⟩⟩
  · exact ⟨mok_ff, .inl ⟨false, rfl, hG, hF⟩⟩
  · have hm : stepP (255 :: 216 :: t') false false = (some (.marker 216), 2, true, false, false) := markerOut_mark (c := 216) (t := t') (bg := false) (ov := false) (da := false) (by decide) rfl
    refine ⟨mok_two (by decide) (by decide) (by decide) (.inl ⟨rfl, rfl⟩) (.inl rfl), .inr ⟨_, _, _, _, _, [⟨216, [], []⟩], hm, by decide, by simp, by decide, rfl, (GS.mark (done := [⟨216, [], []⟩]) hr t).cast ?_⟩⟩
    rw [e2]; rfl
theorem seg_size {p : List UInt8} {t u : List UInt8} (hp : p.length ≤ 3) (e : t ++ u = 0 :: (p.length + 2).toUInt8 :: p ++ v) : t.length < 2 ∨ (sizeAt t 0 = p.length + 2 ∧ ∃ t', t = 0 :: (p.length + 2).toUInt8 :: t' ∧ t' ++ u = p ++ v) := by
  rcases cons_cases e with ⟨rfl, _⟩ | ⟨rfl, _⟩ | ⟨t', rfl, ht⟩
  · exact .inl (by decide)
  · exact .inl (by simp)
  · refine .inr ⟨?_, t', rfl, ht⟩
    have hq : p.length = 0 ∨ p.length = 1 ∨ p.length = 2 ∨ p.length = 3 := by omega
    show 0 * 256 + ((p.length + 2).toUInt8).toNat = _
    rcases hq with e | e | e | e <;> rw [e] <;> rfl
theorem step_seg {rows done : List Row} {c : Nat} {p more : List UInt8} {h F : List UInt8} (hc : c = 254 ∨ c = 224 ∨ c = 219 ∨ c = 218) (hp : p.length ≤ 3)
    (e : h ++ F = (255 :: c.toUInt8 :: 0 :: (p.length + 2).toUInt8 :: p) ++ more) (hG : GS rows done true false false (h ++ F)) (hG2 : GS rows (done ++ [⟨c, p, []⟩]) true false (c == 218) more) : Steps rows done true false h F := by
  have hcu : c.toUInt8.toNat = c := by rcases hc with rfl | rfl | rfl | rfl <;> rfl
  have hne : c.toUInt8 ≠ 255 := by rcases hc with rfl | rfl | rfl | rfl <;> decide
  have hhl : hasLen (c.toUInt8.toNat : Int) = true := by rcases hc with rfl | rfl | rfl | rfl <;> rfl
  rcases cons_cases e with ⟨rfl, hF⟩ | ⟨rfl, hF⟩ | ⟨t, rfl, ht⟩
  · exact ⟨mok_nil, .inl ⟨false, rfl, hG, hF⟩⟩
  · exact ⟨mok_ff, .inl ⟨false, rfl, hG, hF⟩⟩
  · have hs := seg_size (v := more) hp ht
    have hok : MarkerOk (255 :: c.toUInt8 :: t) true := mok_two hne (by omega) (by omega) (.inr ⟨rfl, by omega⟩) (by rcases hs with q | q <;> omega)
    have hmo := markerOut_seg (t := t) (bg := true) (ov := false) (da := false) hne hhl
    have hlen : t.length + F.length = p.length + 2 + more.length := by
      have := congrArg List.length ht
      simpa [Nat.add_comm, Nat.add_left_comm, Nat.add_assoc] using this
    by_cases hb : t.length < 2 ∨ t.length < sizeAt t 0
    · rw [if_pos hb] at hmo
      refine ⟨hok, .inl ⟨false, hmo, hG, ?_⟩⟩
      rintro rfl
      rw [List.length_nil] at hlen
      omega
    · rw [if_neg hb] at hmo
      obtain ⟨s1, t', rfl, s2⟩ := hs.resolve_left (by omega)
      rw [s1] at hmo hb
      have hpt : p.length ≤ t'.length := by simp only [List.length_cons] at hb; omega
      have e3 : ((0 :: (p.length + 2).toUInt8 :: t').drop 2).take (p.length + 2 - 2) = p := by
        show t'.take p.length = p
        have := congrArg (List.take p.length) s2
        rwa [List.take_append_of_le_length hpt, List.take_left] at this
      rw [e3, hcu] at hmo
      refine ⟨hok, .inr ⟨_, _, _, _, _, _, hmo, by omega, ?_, Nat.zero_le _, rfl, hG2.cast ?_⟩⟩
      · simp only [List.length_cons]; omega
      · rw [e]
        have : 2 + (p.length + 2) = (255 :: c.toUInt8 :: 0 :: (p.length + 2).toUInt8 :: p).length := by simp only [List.length_cons]; omega
        rw [this, List.drop_left]
theorem step_mark {rows done rest : List Row} {h F : List UInt8} (hr : rows = done ++ rest) (t : TailR rest) (e : encs rest = h ++ F) : Steps rows done true false h F := by
  have hG : GS rows done true false false (h ++ F) := (GS.mark hr t).cast e
  obtain ⟨r, rest', rfl, hc, hx⟩ := t.cases
  have hr2 : rows = (done ++ [r]) ++ rest' := by rw [hr, List.append_assoc]; rfl
  rw [encs_cons] at e
  generalize enc r = er at hc e
  cases hc with
  | eoi =>
    obtain rfl : rest' = [] := by
      rcases hx with ⟨_, e⟩ | ⟨q, _⟩
      · exact e
      · exact absurd rfl q
    rcases cons_cases e.symm with ⟨rfl, hF⟩ | ⟨rfl, hF⟩ | ⟨t', rfl, ht⟩
    · exact ⟨mok_nil, .inl ⟨false, rfl, hG, hF⟩⟩
    · exact ⟨mok_ff, .inl ⟨false, rfl, hG, hF⟩⟩
    · have hm : stepP (255 :: 217 :: t') true false = (some (.marker 217), 2, true, true, false) := markerOut_mark (c := 217) (t := t') (bg := true) (ov := false) (da := false) (by decide) rfl
      refine ⟨mok_two (by decide) (by decide) (by decide) (.inr ⟨rfl, by decide⟩) (.inl rfl), .inr ⟨_, _, _, _, _, _, hm, by decide, by simp, by decide, rfl, ?_⟩⟩
      rw [← e]
      rw [List.append_nil] at hr2
      have := GS.over (rows := rows) (da := false)
      subst hr2
      exact this
  | tem =>
    rcases hx with ⟨q, _⟩ | ⟨_, t2⟩
    · exact absurd (congrArg Row.code q) (by decide)
    rcases cons_cases e.symm with ⟨rfl, hF⟩ | ⟨rfl, hF⟩ | ⟨t', rfl, ht⟩
    · exact ⟨mok_nil, .inl ⟨false, rfl, hG, hF⟩⟩
    · exact ⟨mok_ff, .inl ⟨false, rfl, hG, hF⟩⟩
    · have hm : stepP (255 :: 1 :: t') true false = (some (.marker 1), 2, true, false, false) := markerOut_mark (c := 1) (t := t') (bg := true) (ov := false) (da := false) (by decide) rfl
      refine ⟨mok_two (by decide) (by decide) (by decide) (.inr ⟨rfl, by decide⟩) (.inl rfl), .inr ⟨_, _, _, _, _, _, hm, by decide, by simp, by decide, rfl, ?_⟩⟩
      rw [← e]
      exact GS.mark hr2 t2
  | @plain c p hc hp =>
    rcases hx with ⟨q, _⟩ | ⟨_, t2⟩
    · have := congrArg Row.code q
      dsimp only at this
      omega
    refine step_seg (c := c) (by omega) hp e.symm hG ?_
    have : (c == 218) = false := by rcases hc with rfl | rfl | rfl <;> rfl
    rw [this]
    exact GS.mark hr2 t2
  | @scan p ts hp hts =>
    rcases hx with ⟨q, _⟩ | ⟨_, t2⟩
    · exact absurd (congrArg Row.code q) (by show ¬ (218 : Nat) = 217; decide)
    refine step_seg (c := 218) (more := ts.flatten ++ encs rest') (by omega) hp ?_ hG ?_
    · rw [← e]
      simp only [List.cons_append, List.append_assoc]
      rfl
    · exact GS.data (d1 := []) hr t2 hts
theorem drop_cons {h : List UInt8} {x : Nat} {a : UInt8} {t : List UInt8} (e : h.drop x = a :: t) : x < h.length ∧ h.getD x 0 = a ∧ h.drop (x + 1) = t := by
  have hx : x < h.length := by
    rcases Nat.lt_or_ge x h.length with q | q
    · exact q
    · rw [List.drop_eq_nil_of_le q] at e; cases e
  rw [List.drop_eq_getElem_cons hx] at e
  obtain ⟨e1, e2⟩ := List.cons.inj e
  exact ⟨hx, by simp [hx, e1], e2⟩
theorem drop_nil {h : List UInt8} {x : Nat} (e : h.drop x = []) : h.length ≤ x := by
  have := congrArg List.length e
  rw [List.length_drop, List.length_nil] at this
  omega
theorem scan_end {n : Nat} {h : List UInt8} {x : Nat} (e : h.drop x = []) : scanD (n + 1) h x = (x, false) := by
  rw [scan_succ, if_pos (drop_nil e)]
theorem scan_ff {n : Nat} {h : List UInt8} {x : Nat} (e : h.drop x = [255]) : scanD (n + 1) h x = (x, false) := by
  obtain ⟨h1, h2, h3⟩ := drop_cons e
  have := drop_nil h3
  rw [scan_succ, if_neg (by omega), h2, if_neg (by decide), e]
  rw [if_pos (show h.length ≤ x + skipFF [255] from this)]
theorem scan_one {n : Nat} {h : List UInt8} {x : Nat} {a : UInt8} {t : List UInt8} (e : h.drop x = a :: t) (ha : a ≠ 255) : scanD (n + 1) h x = scanD n h (x + 1) := by
  obtain ⟨h1, h2, h3⟩ := drop_cons e
  rw [scan_succ, if_neg (by omega), h2, if_pos]
  intro q
  exact ha (UInt8.toNat_inj.mp q)
theorem scan_two {n : Nat} {h : List UInt8} {x : Nat} {a : UInt8} {t : List UInt8} (e : h.drop x = 255 :: a :: t) (ha : a ≠ 255) :
    scanD (n + 1) h x = if a.toNat ≠ 0 ∧ isRst a.toNat = false then (x, true) else scanD n h (x + 2) := by
  obtain ⟨h1, h2, h3⟩ := drop_cons e
  obtain ⟨h4, h5, h6⟩ := drop_cons h3
  rw [scan_succ, if_neg (by omega), h2, if_neg (by decide), e, skip1 ha, if_neg (by omega), h5]
/-- how far a scan of the data of h reaches -/
theorem scan_tok {F : List UInt8} {rest : List Row} (T : TailR rest) {h : List UInt8} : ∀ (ts : List (List UInt8)) (n x : Nat), (∀ t ∈ ts, IsTok t) → h.length < x + n → x ≤ h.length → h.drop x ++ F = ts.flatten ++ encs rest →
    ∃ ts1 ts2 fin, ts = ts1 ++ ts2 ∧ x + ts1.flatten.length ≤ h.length ∧ scanD n h x = (x + ts1.flatten.length, fin) ∧ (h.drop x).take ts1.flatten.length = ts1.flatten ∧ ((fin = false ∧ F ≠ []) ∨ (fin = true ∧ ts2 = []))
  | [], n, x, _, hn, hx, e => by
    obtain ⟨n, rfl⟩ : ∃ k, n = k + 1 := ⟨n - 1, by omega⟩
    obtain ⟨c, more, e2, hc⟩ := T.head
    have e3 : h.drop x ++ F = 255 :: c :: more := by rw [e, e2]; rfl
    have hne : c ≠ 255 := by rcases hc with rfl | rfl | rfl | rfl | rfl | rfl <;> decide
    rcases cons_cases e3 with ⟨q, hF⟩ | ⟨q, hF⟩ | ⟨t, q, ht⟩
    · exact ⟨[], [], false, rfl, by simpa using hx, scan_end q, rfl, .inl ⟨rfl, hF⟩⟩
    · exact ⟨[], [], false, rfl, by simpa using hx, scan_ff q, rfl, .inl ⟨rfl, hF⟩⟩
    · refine ⟨[], [], true, rfl, by simpa using hx, ?_, rfl, .inr ⟨rfl, rfl⟩⟩
      rw [scan_two q hne, if_pos]
      · rfl
      · rcases hc with rfl | rfl | rfl | rfl | rfl | rfl <;> decide
  | t :: ts, n, x, ht, hn, hx, e => by
    obtain ⟨n, rfl⟩ : ∃ k, n = k + 1 := ⟨n - 1, by omega⟩
    have one : ∀ a : UInt8, a ≠ 255 → t = [a] → ∃ ts1 ts2 fin, t :: ts = ts1 ++ ts2 ∧ x + ts1.flatten.length ≤ h.length ∧ scanD (n + 1) h x = (x + ts1.flatten.length, fin) ∧ (h.drop x).take ts1.flatten.length = ts1.flatten ∧ ((fin = false ∧ F ≠ []) ∨ (fin = true ∧ ts2 = [])) := by
      rintro a ha rfl
      cases q : h.drop x with
      | nil =>
        refine ⟨[], [a] :: ts, false, rfl, by simpa using hx, scan_end q, rfl, .inl ⟨rfl, ?_⟩⟩
        rintro rfl
        rw [q] at e; cases e
      | cons b t' =>
        rw [q] at e
        obtain ⟨rfl, e2⟩ := List.cons.inj e
        obtain ⟨g1, g2, g3⟩ := drop_cons q
        obtain ⟨ts1, ts2, fin, rfl, i1, i2, i3, i4⟩ := scan_tok T (h := h) ts n (x + 1) (fun u hu => ht u (.tail _ hu)) (by omega) (by omega) (by rw [g3]; exact e2)
        refine ⟨[b] :: ts1, ts2, fin, rfl, ?_, ?_, ?_, i4⟩
        · simp only [List.flatten_cons, List.length_append, List.length_cons, List.length_nil]; omega
        · rw [scan_one q ha, i2]
          simp only [List.flatten_cons, List.length_append, List.length_cons, List.length_nil]
          congr 1; omega
        · rw [g3] at i3
          show (b :: t').take (([b] ++ ts1.flatten).length) = [b] ++ ts1.flatten
          simp only [List.cons_append, List.nil_append, List.length_cons, List.take_succ_cons, i3]
    have two : ∀ a : UInt8, a ≠ 255 → ¬ (a.toNat ≠ 0 ∧ isRst a.toNat = false) → t = [255, a] → ∃ ts1 ts2 fin, t :: ts = ts1 ++ ts2 ∧ x + ts1.flatten.length ≤ h.length ∧ scanD (n + 1) h x = (x + ts1.flatten.length, fin) ∧ (h.drop x).take ts1.flatten.length = ts1.flatten ∧ ((fin = false ∧ F ≠ []) ∨ (fin = true ∧ ts2 = [])) := by
      rintro a ha hz rfl
      rcases cons_cases (a := 255) (b := a) (more := ts.flatten ++ encs rest) e with ⟨q, hF⟩ | ⟨q, hF⟩ | ⟨t', q, e2⟩
      · exact ⟨[], [255, a] :: ts, false, rfl, by simpa using hx, scan_end q, rfl, .inl ⟨rfl, hF⟩⟩
      · exact ⟨[], [255, a] :: ts, false, rfl, by simpa using hx, scan_ff q, rfl, .inl ⟨rfl, hF⟩⟩
      · obtain ⟨g1, g2, g3⟩ := drop_cons q
        obtain ⟨k1, k2, k3⟩ := drop_cons g3
        obtain ⟨ts1, ts2, fin, rfl, i1, i2, i3, i4⟩ := scan_tok T (h := h) ts n (x + 1 + 1) (fun u hu => ht u (.tail _ hu)) (by omega) (by omega) (by rw [k3]; exact e2)
        refine ⟨[255, a] :: ts1, ts2, fin, rfl, ?_, ?_, ?_, i4⟩
        · simp only [List.flatten_cons, List.length_append, List.length_cons, List.length_nil]; omega
        · rw [scan_two q ha, if_neg hz, i2]
          simp only [List.flatten_cons, List.length_append, List.length_cons, List.length_nil]
          congr 1; omega
        · rw [k3] at i3
          rw [q]
          show (255 :: a :: t').take (([255, a] ++ ts1.flatten).length) = [255, a] ++ ts1.flatten
          simp only [List.cons_append, List.nil_append, List.length_cons, List.take_succ_cons, i3]
    rcases ht t (.head _) with q | q | q | q | q | q
    · exact one 0 (by decide) q
    · exact one 17 (by decide) q
    · exact two 0 (by decide) (by decide) q
    · exact two 208 (by decide) (by decide) q
    · exact two 215 (by decide) (by decide) q
    · exact one 217 (by decide) q
theorem step_data {rows d0 rest : List Row} {pay d1 : List UInt8} {ts : List (List UInt8)} {h F : List UInt8} (hr : rows = d0 ++ ⟨218, pay, d1 ++ ts.flatten⟩ :: rest) (t : TailR rest) (hts : ∀ t ∈ ts, IsTok t)
    (e : ts.flatten ++ encs rest = h ++ F) : Steps rows (d0 ++ [⟨218, pay, d1⟩]) true true h F := by
  have hG : GS rows (d0 ++ [⟨218, pay, d1⟩]) true false true (h ++ F) := (GS.data hr t hts).cast e
  obtain ⟨ts1, ts2, fin, rfl, i1, i2, i3, i4⟩ := scan_tok t (F := F) (h := h) ts (h.length + 1) 0 hts (by omega) (Nat.zero_le _) e.symm
  rw [Nat.zero_add] at i1 i2
  rw [List.drop_zero] at i3
  have eP : stepP h true true = dataEv h true false true := rfl
  have eD : dataEv h true false true = if fin = true then lastOut h ts1.flatten.length true false false else dataOut h ts1.flatten.length true false true := by
    unfold dataEv; rw [i2]; cases fin <;> rfl
  have eR : (h ++ F).drop ts1.flatten.length = ts2.flatten ++ encs rest := by
    rw [← e, List.flatten_append, List.append_assoc, List.drop_left]
  have hr2 : rows = d0 ++ ⟨218, pay, (d1 ++ ts1.flatten) ++ ts2.flatten⟩ :: rest := by rw [hr, List.flatten_append, List.append_assoc]
  have hadd : stepE (d0 ++ [⟨218, pay, d1⟩]) (.data ts1.flatten) = some (d0 ++ [⟨218, pay, d1 ++ ts1.flatten⟩]) := addData_snoc ts1.flatten ⟨218, pay, d1⟩ d0
  rcases i4 with ⟨rfl, hF⟩ | ⟨rfl, rfl⟩
  · rw [if_neg (by decide)] at eD
    refine ⟨?_, ?_⟩
    · show scanD _ _ _ = _ → _
      rw [i2]
      intro q
      cases (Prod.mk.inj q).2
    · skip
      by_cases hz : ts1.flatten.length = 0
      · refine .inl ⟨true, ?_, hG, hF⟩
        rw [eP, eD]; unfold dataOut; rw [if_pos hz]
      · refine .inr ⟨.data ts1.flatten, _, true, false, true, _, ?_, hz, i1, Nat.le_refl _, hadd, (GS.data hr2 t fun u hu => hts u (List.mem_append_right _ hu)).cast eR.symm⟩
        rw [eP, eD]; unfold dataOut; rw [if_neg hz, i3]
  · rw [if_pos rfl] at eD
    rw [List.append_nil] at hts
    have hr3 : rows = (d0 ++ [⟨218, pay, d1 ++ ts1.flatten⟩]) ++ rest := by rw [hr, List.append_nil, List.append_assoc]; rfl
    by_cases hz : ts1.flatten.length = 0
    · have h0 : ts1.flatten = [] := List.length_eq_zero_iff.mp hz
      rw [h0, List.append_nil] at hr3
      have S := step_mark (h := h) (F := F) hr3 t (by rw [← e, List.append_nil, h0]; rfl)
      have hok : MarkerOk h true := S.1
      refine ⟨fun _ => hok, ?_⟩
      have eM : stepP h true true = stepP h true false := by
        rw [eP, eD]
        unfold lastOut
        rw [if_pos hz]
        rfl
      rw [eM]
      exact S.2
    · refine ⟨?_, .inr ⟨.data ts1.flatten, _, true, false, false, _, ?_, hz, i1, Nat.le_refl _, hadd, (GS.mark hr3 t).cast ?_⟩⟩
      · show scanD _ _ _ = _ → _
        rw [i2]
        intro q
        exact absurd (Prod.mk.inj q).1 hz
      · rw [eP, eD]
        unfold lastOut
        rw [if_neg hz, i3]
      · rw [eR]; rfl
theorem step_all {rows done : List Row} {bg da : Bool} {h F : List UInt8} (hG : GS rows done bg false da (h ++ F)) : Steps rows done bg da h F := by
  generalize hR : h ++ F = R at hG
  cases hG with
  | start h1 t => exact step_start h1 t hR.symm
  | mark h1 t => exact step_mark h1 t hR.symm
  | data h1 t ht => exact step_data h1 t ht hR.symm
/-- the law of one feed -/
noncomputable def LS (rows : List Row) (pre : List Ev) (F h : List UInt8) (bg ov da : Bool) (evs : List Ev) : Prop :=
  ∃ done, runE [] (pre ++ evs) = some done ∧ GS rows done bg ov da (h ++ F) ∧ (pre ++ evs).length + (h ++ F).length ≤ 200 ∧ evLen (pre ++ evs) + (h ++ F).length ≤ 200
theorem LS.size {rows : List Row} {pre evs : List Ev} {F h : List UInt8} {bg ov da : Bool} (x : LS rows pre F h bg ov da evs) : h.length + evs.length ≤ 3000 := by
  obtain ⟨done, _, _, h1, _⟩ := x
  simp only [List.length_append] at h1
  omega
theorem LS.ok {rows : List Row} {pre evs : List Ev} {F h : List UInt8} {bg da : Bool} (x : LS rows pre F h bg false da evs) : OkStep h bg da := by
  obtain ⟨done, _, hG, _⟩ := x
  exact (step_all hG).1
theorem evLen_snoc (es : List Ev) (e : Ev) : evLen (es ++ [e]) = evLen es + evLen [e] := evLen_append es [e]
theorem LS.step {rows : List Row} {pre evs : List Ev} {F h : List UInt8} {bg da : Bool} {ev : Option Ev} {many : Nat} {bg' ov' da' : Bool} (x : LS rows pre F h bg false da evs) (hs : stepP h bg da = (ev, many, bg', ov', da')) (hm : many ≠ 0) :
    LS rows pre F (h.drop many) bg' ov' da' (evs ++ ev.toList) := by
  obtain ⟨done, hr, hG, hl, hv⟩ := x
  rcases (step_all hG).2 with ⟨da2, e, _⟩ | ⟨ev2, many2, bg2, ov2, da2, done', e, _, hml, hel, hst, hG2⟩
  · rw [e] at hs
    exact absurd (Prod.mk.inj (Prod.mk.inj hs).2).1.symm hm
  · rw [e] at hs
    cases hs
    have e1 : (h ++ F).drop many = h.drop many ++ F := List.drop_append_of_le_length hml
    have e2 : pre ++ (evs ++ (some ev2).toList) = (pre ++ evs) ++ [ev2] := by simp
    refine ⟨done', ?_, e1 ▸ hG2, ?_, ?_⟩
    · rw [e2, runE_append, hr]
      show (stepE done ev2).bind _ = _
      rw [hst]; rfl
    · rw [e2]
      simp only [List.length_append, List.length_drop, List.length_cons, List.length_nil] at hl ⊢
      omega
    · rw [e2, evLen_snoc]
      simp only [List.length_append, List.length_drop] at hv ⊢
      omega
/-- the feeder between two feeds: F is what is to come -/
noncomputable def LF (rows : List Row) (evs : List Ev) (F h : List UInt8) (bg ov da : Bool) : Prop := LS rows evs F h bg ov da [] ∧ (ov = true ∨ F ≠ [])
theorem LF.first {rows : List Row} (hg : GoodRows rows) (hl : (encs rows).length ≤ 200) : LF rows [] (encs rows) [] false false false := by
  obtain ⟨mid, rfl, _, hm⟩ := hg
  exact ⟨⟨[], rfl, .start rfl ⟨mid, rfl, hm⟩, by simpa using hl, by simpa [evLen] using hl⟩, .inr (by intro q; cases q)⟩
theorem LF.feed {rows : List Row} {evs : List Ev} {p F h : List UInt8} {bg ov da : Bool} (x : LF rows evs (p ++ F) h bg ov da) : LS rows evs F (h ++ p) bg ov da [] := by
  obtain ⟨⟨done, h1, h2, h3, h4⟩, _⟩ := x
  exact ⟨done, h1, h2.cast (List.append_assoc ..).symm, by rw [List.append_assoc]; exact h3, by rw [List.append_assoc]; exact h4⟩
theorem LS.next {rows : List Row} {pre evs : List Ev} {F h : List UInt8} {bg ov da : Bool}
    (x : (h = [] ∧ ov = true ∧ ∃ h2, LS rows pre F h2 bg true da evs) ∨ ∃ bg2 da2 ev, LS rows pre F h bg2 false da2 evs ∧ stepP h bg2 da2 = (ev, 0, bg, ov, da)) : LF rows (pre ++ evs) F h bg ov da := by
  rcases x with ⟨rfl, rfl, h2, done, h1, hG, hl, hv⟩ | ⟨bg2, da2, ev, ⟨done, h1, hG, hl, hv⟩, hs⟩
  · refine ⟨⟨done, by rw [List.append_nil]; exact h1, ?_, ?_, ?_⟩, .inl rfl⟩
    · generalize hR : h2 ++ F = R at hG
      cases hG with
      | over => obtain ⟨rfl, rfl⟩ := List.append_eq_nil_iff.mp hR; exact .over
    · rw [List.append_nil]; simp only [List.length_append, List.length_nil] at hl ⊢; omega
    · rw [List.append_nil]; simp only [List.length_append, List.length_nil] at hv ⊢; omega
  · rcases (step_all hG).2 with ⟨da3, e, hG3, hF⟩ | ⟨ev2, many2, bg3, ov2, da3, done', e, hm, _⟩
    · rw [e] at hs
      cases hs
      exact ⟨⟨done, by rw [List.append_nil]; exact h1, hG3, by rw [List.append_nil]; exact hl, by rw [List.append_nil]; exact hv⟩, .inr hF⟩
    · rw [e] at hs
      exact absurd (Prod.mk.inj (Prod.mk.inj hs).2).1 hm
theorem LF.part {rows : List Row} {evs : List Ev} {F h : List UInt8} {bg ov da : Bool} (x : LF rows evs F h bg ov da) : (∃ done, runE [] evs = some done) ∧ evs.length ≤ 200 ∧ evLen evs ≤ 200 := by
  obtain ⟨⟨done, h1, _, hl, hv⟩, _⟩ := x
  rw [List.append_nil] at h1 hl hv
  exact ⟨⟨done, h1⟩, by omega, by omega⟩
theorem LF.last {rows : List Row} {evs : List Ev} {h : List UInt8} {bg ov da : Bool} (x : LF rows evs [] h bg ov da) : runE [] evs = some rows := by
  obtain ⟨⟨done, h1, hG, _⟩, ho⟩ := x
  have := ho.resolve_right (fun q => q rfl)
  subst this
  rw [List.append_nil] at h1
  generalize h ++ [] = R at hG
  cases hG with
  | over => exact h1

-- part B19
section
open SeqAt
section
variable {A : Around} {s : Shared}
theorem rc_bytes (b : List UInt8) (t u : Tok) : RcAt A s (.bytes b.toArray t) (.bytes b.toArray u) true := fun prog w E Q h => by
  show wpAny _ A (compareOp .Eq (.bytes b.toArray t) (.bytes b.toArray u)) Q E s
  exact eq_bytes (by rw [beq_self_eq_true]; exact h)
theorem eq_byt (b : List UInt8) (t u : Tok) : EqAt A s (.bytes b.toArray t) (.bytes b.toArray u) true := fun prog w E Q hq => by
  unfold eqBool
  refine wpAny_holding ?_
  refine wpAny_ite_split (fun _ => ?_) (fun _ => ?_)
  · exact wpAny_bind (wpAny_rule (wpAny_pure hq))
  · exact wpAny_bind (rc_bytes b t u prog w E _ (wpAny_truthy_bool hq))
theorem eq_int2 (c : Int) (t u : Tok) : EqAt A s (.int c t) (.int c u) true := by
  have := EqAt.int_int (A := A) (s := s) c t c u
  rwa [beq_self_eq_true] at this
theorem eq_row {a b : Addr} {r : Row} {its1 its2 : List Value} (h1 : s.heap.get? a = some (tupO its1)) (h2 : s.heap.get? b = some (tupO its2)) (v1 : RowV r its1) (v2 : RowV r its2) (hu : A.units < cLine) : EqAt A s (.ref a) (.ref b) true := by
  by_cases hab : a = b
  · subst hab; exact EqAt.same _
  · refine EqAt.of_refs hab ?_
    obtain ⟨t1, t2, t3, rfl⟩ := v1
    obtain ⟨u1, u2, u3, rfl⟩ := v2
    have key := RcAt.tuples (A := A) (s := s) (e := fun _ => true) (l := a) (b := b) ⟨_, h1, rfl, 0, rfl⟩ ⟨_, h2, rfl, 0, rfl⟩ hu (fun j j1 j2 => by
      have hj : j = 0 ∨ j = 1 ∨ j = 2 := by
        have : j < 3 := j1
        omega
      rcases hj with rfl | rfl | rfl
      · exact eq_int2 _ t1 u1
      · exact eq_byt r.pay t2 u2
      · exact eq_byt r.dat t3 u3)
    exact key
theorem Tups.at2 {α : Type} {V : α → List Value → Prop} {has1 has2 : Addr → Obj → Prop} : ∀ {xs : List α} {vs ws : List Value} (_ : Tups V has1 vs xs) (_ : Tups V has2 ws xs) (j : Nat) (h1 : j < vs.length) (h2 : j < ws.length),
    ∃ x a b i1 i2, vs[j] = .ref a ∧ ws[j] = .ref b ∧ has1 a (tupO i1) ∧ has2 b (tupO i2) ∧ V x i1 ∧ V x i2
  | _ :: _, _ :: _, _ :: _, ⟨⟨a, i1, e1, p1, q1⟩, _⟩, ⟨⟨b, i2, e2, p2, q2⟩, _⟩, 0, _, _ => ⟨_, a, b, i1, i2, e1, e2, p1, p2, q1, q2⟩
  | _ :: _, _ :: _, _ :: _, ⟨_, r1⟩, ⟨_, r2⟩, j + 1, h1, h2 => by
    obtain ⟨x, a, b, i1, i2, z⟩ := Tups.at2 r1 r2 j (Nat.lt_of_succ_lt_succ h1) (Nat.lt_of_succ_lt_succ h2)
    exact ⟨x, a, b, i1, i2, z⟩
  | [], _ :: _, _, h, _, _, _, _ => (show False from h).elim
  | _ :: _, [], _, h, _, _, _, _ => (show False from h).elim
  | [], [], _, _, _, j, h1, _ => absurd h1 (Nat.not_lt_zero j)
  | _ :: _, _ :: _, [], _, h, _, _, _ => (show False from h).elim
theorem rows_at {l b : Addr} {vs ws : List Value} {n1 n2 : Nat} {rows : List Row} (h1 : s.heap.get? l = some (listOf vs.toArray n1)) (h2 : s.heap.get? b = some (listOf ws.toArray n2)) (t1 : Tups RowV (fun a o => s.heap.get? a = some o) vs rows)
    (t2 : Tups RowV (fun a o => s.heap.get? a = some o) ws rows) (hu : A.units + 1 < cLine) : vs.toArray.size = ws.toArray.size ∧ ∀ j (h1 : j < vs.toArray.size) (h2 : j < ws.toArray.size), EqAt A.in1 s vs.toArray[j] ws.toArray[j] true := by
  refine ⟨by simp [t1.length, t2.length], fun j j1 j2 => ?_⟩
  obtain ⟨x, a, b, i1, i2, e1, e2, p1, p2, q1, q2⟩ := Tups.at2 t1 t2 j (by simpa using j1) (by simpa using j2)
  simp only [List.getElem_toArray]
  rw [e1, e2]
  exact eq_row p1 p2 q1 q2 hu
theorem all_true (n : Nat) : ((List.range n).all fun _ => true) = true := by simp
theorem eq_rows {prog : Program} {w : World} {E : Value → Shared → Prop} {Q : Value → Shared → Prop} {l b : Addr} {vs ws : List Value} {n1 n2 : Nat} {rows : List Row} (h1 : s.heap.get? l = some (listOf vs.toArray n1)) (h2 : s.heap.get? b = some (listOf ws.toArray n2)) (t1 : Tups RowV (fun a o => s.heap.get? a = some o) vs rows)
    (t2 : Tups RowV (fun a o => s.heap.get? a = some o) ws rows) (hu : A.units + 1 < cLine) (h : Q (.bool true) s) : wpAny (model prog w) A (compareOp .Eq (.ref l) (.ref b)) Q E s := by
  obtain ⟨k1, k2⟩ := rows_at h1 h2 t1 t2 hu
  have key := RcAt.lists (A := A) (s := s) (e := fun _ => true) (l := l) (b := b) ⟨_, h1, rfl, n1, rfl⟩ ⟨_, h2, rfl, n2, rfl⟩ k1 (by omega) k2
  rw [all_true] at key
  exact key prog w E Q h
theorem ne_rows {prog : Program} {w : World} {E : Value → Shared → Prop} {Q : Value → Shared → Prop} {l b : Addr} {vs ws : List Value} {n1 n2 : Nat} {rows : List Row} (h1 : s.heap.get? l = some (listOf vs.toArray n1)) (h2 : s.heap.get? b = some (listOf ws.toArray n2)) (t1 : Tups RowV (fun a o => s.heap.get? a = some o) vs rows)
    (t2 : Tups RowV (fun a o => s.heap.get? a = some o) ws rows) (hu : A.units + 1 < cLine) (h : Q (.bool false) s) : wpAny (model prog w) A (compareOp .NotEq (.ref l) (.ref b)) Q E s := by
  obtain ⟨k1, k2⟩ := rows_at h1 h2 t1 t2 hu
  have key := RcNeAt.lists (A := A) (s := s) (e := fun _ => true) (l := l) (b := b) ⟨_, h1, rfl, n1, rfl⟩ ⟨_, h2, rfl, n2, rfl⟩ k1 (by omega) k2
  rw [all_true] at key
  exact key prog w E Q h
end
end

-- part B20
section
open Sem (wp)
section
variable {prog : Program} {w : World} {A : Around} {E : Value → Shared → Prop} {s : Shared} {h₀ : Heap} {L : Addr} {m : Str → Option Value} {news : Led} {Q : Value → Shared → Prop} {value slice : PySem.Expr} {a : Addr} {vs : List Value} {n : Nat}
theorem slice_lT {k : Int} {t : Tok} (F : Fr h₀ L s.heap m) (N : News h₀ L s.heap news) (hm : (a, W.listOf vs.toArray n) ∈ news) (hk : 0 ≤ k) (hz : vs.length ≤ 1000)
    (h : ∀ D h', Fr h₀ L h' m → News h₀ L h' ((D, W.listOf (vs.take k.toNat).toArray 0) :: news) → (∀ p ∈ news, p.1 < D) → Q (.ref D) { s with heap := h' })
    (hs : subscripted slice false (.ref a) (.ref s.heap.objs.size) = operate [.ref s.heap.objs.size, .ref a] (getItem (.ref a) (.ref s.heap.objs.size)) := by with_unfolding_all rfl)
    (ht : ∀ r, letTemporaryGo value (.ref a) r = pure () := by intro _; with_unfolding_all rfl) :
    wpAny (model prog w) A (subscriptTail value slice (.ref a) (.ref s.heap.objs.size)) Q E { s with heap := s.heap.push { cls := .type "slice", data := .fields #[.none, .int k t, .none] } } := by
  refine slice_list F N (News.isList N hm) .none (.int k t) (fun h' F' N' => ?_) hs ht (by rw [sizeLine_eq]; simp; omega)
  obtain ⟨j, rfl⟩ : ∃ j : Nat, k = j := ⟨k.toNat, by omega⟩
  rw [slicePick_upto'] at N'
  exact h _ h' F' N' fun p hp => Nat.lt_succ_of_lt (Heap.lt_size (N p hp).1)
theorem slice_lF {k : Int} {t : Tok} (F : Fr h₀ L s.heap m) (N : News h₀ L s.heap news) (hm : (a, W.listOf vs.toArray n) ∈ news) (hk : 0 ≤ k) (hz : vs.length ≤ 1000)
    (h : ∀ D h', Fr h₀ L h' m → News h₀ L h' ((D, W.listOf (vs.drop k.toNat).toArray 0) :: news) → (∀ p ∈ news, p.1 < D) → Q (.ref D) { s with heap := h' })
    (hs : subscripted slice false (.ref a) (.ref s.heap.objs.size) = operate [.ref s.heap.objs.size, .ref a] (getItem (.ref a) (.ref s.heap.objs.size)) := by with_unfolding_all rfl)
    (ht : ∀ r, letTemporaryGo value (.ref a) r = pure () := by intro _; with_unfolding_all rfl) :
    wpAny (model prog w) A (subscriptTail value slice (.ref a) (.ref s.heap.objs.size)) Q E { s with heap := s.heap.push { cls := .type "slice", data := .fields #[.int k t, .none, .none] } } := by
  refine slice_list F N (News.isList N hm) (.int k t) .none (fun h' F' N' => ?_) hs ht (by rw [sizeLine_eq]; simp; omega)
  obtain ⟨j, rfl⟩ : ∃ j : Nat, k = j := ⟨k.toNat, by omega⟩
  rw [slicePick_from'] at N'
  exact h _ h' F' N' fun p hp => Nat.lt_succ_of_lt (Heap.lt_size (N p hp).1)
theorem extend_ml {pl : Sem Bool} {Q : Value × List Value → Shared → Prop} (ho : s.heap.get? a = some (W.listOf vs.toArray n)) (h : Q (.builtin "list.extend", [.ref a]) s) :
    wpAny (model prog w) A (getMethod (.ref a) (PySem.Str.ofString "extend") pl) Q E s :=
  getMethod_builtin (T := "list") (Heap.IsList.typeIs ⟨_, ho, rfl, n, rfl⟩) PySem.F.plainAttrs_list PySem.F.slot_list_extend PySem.F.type_list_extend (fun a e => by cases e; exact ⟨_, ho, rfl⟩) h
end
theorem callWithF1 {M : Model} {A : Around} {E : Value → Shared → Prop} {s : Shared} {f : Value} {first : List Value} {x : Sem Value} {pos : Pos} {Q : Value → Shared → Prop}
    (h : wpF M A x (fun v s₁ => wpAny M A (keeperOf f) (fun _ s₂ => wpF M A (call f (first ++ [v])) Q E s₂) E s₁) E s) : wpF M A (callWith pos f first [(false, x)] []) Q E s := by
  unfold callWith
  have h1 : wpF M A (evalArgs f true [(false, x)] []) (fun y s₁ => wpAny M A (keeperOf f) (fun _ s₂ => wpF M A (call f (first ++ y.pos) y.kw) Q E s₂) E s₁) E s := by
    unfold evalArgs
    show wpF M A (spliced [(false, x)] >>= _) _ E s
    refine wpF_bind (splicedF_cons (wpF_mono h (fun v s₁ h₁ => ?_) fun _ _ x => x))
    refine wpF_pure ?_
    refine wpF_holding ?_
    exact wpF_bind (wpF_pure (wpF_bind (wpF_pure (wpF_pure h₁))))
  refine wpF_bind (wpF_holding (wpF_mono h1 (fun y s₁ h₁ => ?_) fun _ _ x => x))
  refine wpF_bindA (wpAny_standAt ?_)
  refine wpF_bindA (wpAny_mono h₁ (fun k s₂ h₂ => ?_) fun _ _ x => x)
  have tail : ∀ {t : Sem Value}, wpF M A t Q E s₂ → wpF M A (t >>= fun r => holding [r] point >>= fun _ => pure r) Q E s₂ :=
    fun ht => wpF_bind (wpF_mono ht (fun r s₂ hr => wpF_bindA (wpAny_holding (wpAny_point (wpF_pure hr)))) fun _ _ x => x)
  have marked : ∀ mark, wpF M A (callMarked mark f (first ++ y.pos) y.kw) Q E s₂ := fun mark => by unfold callMarked; exact wpF_keep h₂
  cases k <;> cases hb : (([(false, x)] : List (Bool × Sem Value)).any (·.1) || ([] : List (Option Str × Sem Value)).any (·.1.isNone)) <;> dsimp only
  all_goals first
    | exact tail (marked _)
    | exact tail h₂
    | exact tail (wpF_operate h₂)
    | (split <;> first | exact tail (marked _) | exact tail h₂)
end

-- part B21
noncomputable def L5 (x dx b : Addr) (bg ov da : Bool) (z : Hs) (h : List UInt8) (le : Addr) (vs : List Value) (n : Nat) (src : Addr) (o : Obj) (R : Led) : Led :=
  (src, o) :: (le, W.listOf (List.toArray vs) n) :: (FeedM x dx b bg ov da z h ++ R)
noncomputable def Off5 (x dx b le src a : Nat) : Prop := a ≠ x ∧ a ≠ dx ∧ a ≠ b ∧ a ≠ le ∧ a ≠ src
structure LL (x dx b le src : Nat) (R : Led) : Prop where
  ap : Apart3 x dx b
  lx : le ≠ x
  ld : le ≠ dx
  lb : le ≠ b
  sx : src ≠ x
  sd : src ≠ dx
  sb : src ≠ b
  sl : src ≠ le
  off : ∀ p ∈ R, Off5 x dx b le src p.1
theorem LL.more {x dx b le src : Nat} {R tl : Led} (l : LL x dx b le src R) (h : ∀ p ∈ tl, Off5 x dx b le src p.1) : LL x dx b le src (tl ++ R) :=
  { l with off := fun p hp => (List.mem_append.mp hp).elim (h p) (l.off p) }
theorem LL.sub {x dx b le src : Nat} {R R' : Led} (l : LL x dx b le src R) (h : ∀ p ∈ R', p ∈ R) : LL x dx b le src R' :=
  { l with off := fun p hp => l.off p (h p hp) }
section
variable {w : World} {g : Heap} {L : Addr} {s : Shared} {m : Str → Option Value} {A : Around} {x dx b : Addr} {bg ov da : Bool} {z : Hs} {h : List UInt8} {le : Addr} {vs : List Value} {n : Nat} {src : Addr} {o : Obj} {R : Led}
theorem l5_up {h' : Heap} {tl : Led} (N : News g L h' (tl ++ L5 x dx b bg ov da z h le vs n src o R)) : News g L h' (L5 x dx b bg ov da z h le vs n src o (tl ++ R)) := fun p hp => N p (by
  simp only [L5, List.mem_append, List.mem_cons] at hp ⊢
  rcases hp with q | q | q | q | q <;> simp [q])
theorem l5_src : (src, o) ∈ L5 x dx b bg ov da z h le vs n src o R := .head _
theorem l5_le : (le, W.listOf (List.toArray vs) n) ∈ L5 x dx b bg ov da z h le vs n src o R := .tail _ (.head _)
theorem l5_m {p : Addr × Obj} (hp : p ∈ FeedM x dx b bg ov da z h) : p ∈ L5 x dx b bg ov da z h le vs n src o R := .tail _ (.tail _ (List.mem_append_left _ hp))
theorem l5_r {p : Addr × Obj} (hp : p ∈ R) : p ∈ L5 x dx b bg ov da z h le vs n src o R := .tail _ (.tail _ (List.mem_append_right _ hp))
theorem l5_off {a : Addr} (q : ∀ p ∈ L5 x dx b bg ov da z h le vs n src o R, p.1 ≠ a) : Off5 x dx b le src a :=
  ⟨fun e => q (x, instObj 212 dx) (l5_m (by simp [FeedM])) e.symm, fun e => q (dx, dictOf (feedDict b bg ov da z) 4) (l5_m (by simp [FeedM])) e.symm, fun e => q (b, barr h) (l5_m (by simp [FeedM])) e.symm,
   fun e => q _ l5_le e.symm, fun e => q _ l5_src e.symm⟩
theorem l5_all {a : Addr} (l : Off5 x dx b le src a) (r : ∀ p ∈ R, p.1 ≠ a) : ∀ p ∈ L5 x dx b bg ov da z h le vs n src o R, p.1 ≠ a := fun p hp e => by
  obtain ⟨l1, l2, l3, l4, l5⟩ := l
  simp only [L5, FeedM, List.mem_append, List.mem_cons, List.not_mem_nil, or_false] at hp
  rcases hp with rfl | rfl | (rfl | rfl | rfl) | hp
  · exact l5 e.symm
  · exact l4 e.symm
  · exact l1 e.symm
  · exact l2 e.symm
  · exact l3 e.symm
  · exact r p hp e
/-- a call that changes nothing that stood -/
theorem law_use {d u : Nat} {f : Value} {args : List Value} {P : Value → Led → Prop} {Q E : Value → Shared → Prop}
    (C : Call w [] d u f args s P) (F : Fr g L s.heap m) (N : News g L s.heap (L5 x dx b bg ov da z h le vs n src o R)) (l : LL x dx b le src R) (hA : A.handled = none) (hd : A.depth + d < recursionLimit) (hu : A.units + u < cLine)
    (hQ : ∀ v h' tk' tl, Fr g L h' m → News g L h' (L5 x dx b bg ov da z h le vs n src o (tl ++ R)) → LL x dx b le src (tl ++ R) → P v tl → Q v { s with heap := h', toks := tk' }) :
    wpAny (model PySem.Challenge.rw_nz0248_01.row.prog w) A (PySem.call f args) Q E s := by
  refine Call.use (rest := L5 x dx b bg ov da z h le vs n src o R) C F N hA hd hu no_mem (fun p hp => ⟨hp, by simp [adr]⟩) ?_
  intro v h' tk' tl F' N' fr hP
  exact hQ v h' tk' tl F' (l5_up N') (l.more fun p hp => l5_off ((fr p hp).resolve_left (by simp [adr]))) hP
/-- a call that draws from the pool -/
theorem law_useS {d u : Nat} {f : Value} {args : List Value} {P : Value → Led → Prop} {P' : Value → Obj → Led → Prop} {Q E : Value → Shared → Prop}
    (C : Call w [(src, o)] d u f args s P) (hP : ∀ v n', P v n' → ∃ o' tl, n' = (src, o') :: tl ∧ IsPool o' ∧ P' v o' tl ∧ ∀ p ∈ tl, @Ne Nat p.1 src ∨ p.2.cls = .type "tuple") (F : Fr g L s.heap m) (N : News g L s.heap (L5 x dx b bg ov da z h le vs n src o R)) (l : LL x dx b le src R) (hA : A.handled = none) (hd : A.depth + d < recursionLimit) (hu : A.units + u < cLine)
    (hQ : ∀ v h' tk' o' tl, Fr g L h' m → News g L h' (L5 x dx b bg ov da z h le vs n src o' (tl ++ R)) → LL x dx b le src (tl ++ R) → IsPool o' → P' v o' tl → Q v { s with heap := h', toks := tk' }) :
    wpAny (model PySem.Challenge.rw_nz0248_01.row.prog w) A (PySem.call f args) Q E s := by
  refine Call.use (rest := (le, W.listOf (List.toArray vs) n) :: (FeedM x dx b bg ov da z h ++ R)) C F N hA hd hu (fun p hp => ?_) (fun p hp => ⟨.tail _ hp, ?_⟩) ?_
  · obtain rfl := List.mem_singleton.mp hp
    exact l5_src
  · simp only [adr, List.map_cons, List.map_nil, List.mem_singleton]
    obtain ⟨ap, lx, ld, lb, sx, sd, sb, sl, off⟩ := l
    simp only [FeedM, List.mem_append, List.mem_cons, List.not_mem_nil, or_false] at hp
    rcases hp with rfl | (rfl | rfl | rfl) | hp
    · exact fun e => sl e.symm
    · exact fun e => sx e.symm
    · exact fun e => sd e.symm
    · exact fun e => sb e.symm
    · exact (off p hp).2.2.2.2
  · intro v h' tk' n' F' N' fr hp
    obtain ⟨o', tl, rfl, ho', hp', hc⟩ := hP v n' hp
    refine hQ v h' tk' o' tl F' (fun p hp => N' p ?_) (l.more fun p hp => ?_) ho' hp'
    · simp only [L5, List.mem_append, List.mem_cons] at hp ⊢
      rcases hp with q | q | q | q | q <;> simp [q]
    · have h2 : p.1 ≠ src := by
        rcases hc p hp with e | e
        · exact e
        · intro e2
          have h3 := (N' p (List.mem_append_left _ (.tail _ hp))).1
          rw [e2, (N' (src, o') (.head _)).1] at h3
          rw [← Option.some.inj h3, ho'.cls] at e
          exact absurd e (by decide)
      exact l5_off ((fr p (.tail _ hp)).resolve_left (by simpa [adr] using h2))
theorem law_take {top : Int} {tk : Tok} {mean mg mb} {Q E : Value → Shared → Prop}
    (X : (hd.heap_1 w.params).In g) (T : Top hd.view_1 (looseW hd.view_1 [Str.ofString "Piece"]) mean mg mb g) (F : Fr g L s.heap m) (N : News g L s.heap (L5 x dx b bg ov da z h le vs n src o R)) (l : LL x dx b le src R) (hp : IsPool o)
    (hA : A.handled = none) (hd : A.depth + 3 < recursionLimit) (hu : A.units + 30 < cLine) (ht : 2 ≤ top) (ht' : top ≤ 64)
    (hQ : ∀ d t o' h' tk', Fr g L h' m → News g L h' (L5 x dx b bg ov da z h le vs n src o' R) → 0 ≤ d → d < top → IsPool o' → Q (.int d t) { s with heap := h', toks := tk' }) :
    wpAny (model PySem.Challenge.rw_nz0248_01.row.prog w) A (PySem.call (.ref 237) [.ref src, .int top tk]) Q E s := by
  refine take_use (G := fun o' => L5 x dx b bg ov da z h le vs n src o' R) X T F N (.head fun p hp => ?_) hp hA hd hu ht ht' hQ
  obtain ⟨ap, lx, ld, lb, sx, sd, sb, sl, off⟩ := l
  simp only [FeedM, List.mem_append, List.mem_cons, List.not_mem_nil, or_false] at hp
  rcases hp with rfl | (rfl | rfl | rfl) | hp
  · exact fun e => sl e.symm
  · exact fun e => sx e.symm
  · exact fun e => sd e.symm
  · exact fun e => sb e.symm
  · exact (off p hp).2.2.2.2
theorem law_ext {le2 : Addr} {ws : List Value} {n2 : Nat} {Q E : Value → Shared → Prop} (F : Fr g L s.heap m) (N : News g L s.heap (L5 x dx b bg ov da z h le vs n src o R)) (l : LL x dx b le src R) (hm : (le2, W.listOf (List.toArray ws) n2) ∈ R)
    (hz : vs.length + ws.length ≤ 65536) (h : ∀ h' n', Fr g L h' m → News g L h' (L5 x dx b bg ov da z h le (vs ++ ws) n' src o R) → Q .none { s with heap := h' }) :
    wpAny (model PySem.Challenge.rw_nz0248_01.row.prog w) A (PySem.call (.builtin "list.extend") [.ref le, .ref le2]) Q E s := by
  refine extend_l (G := fun o' => (src, o) :: (le, o') :: (FeedM x dx b bg ov da z _ ++ R)) F N (.tail l.sl (.head fun p hp => ?_)) (N _ (l5_r hm)).1 hz h
  obtain ⟨ap, lx, ld, lb, sx, sd, sb, sl, off⟩ := l
  simp only [FeedM, List.mem_append, List.mem_cons, List.not_mem_nil, or_false] at hp
  rcases hp with (rfl | rfl | rfl) | hp
  · exact fun e => lx e.symm
  · exact fun e => ld e.symm
  · exact fun e => lb e.symm
  · exact (off p hp).2.2.2.1
theorem law_feed {rows : List Row} {evs : List Ev} {p F' : List UInt8} {t : Tok} {Q E : Value → Shared → Prop} (G : Gr w g) (F : Fr g L s.heap m) (N : News g L s.heap (L5 x dx b bg ov da z h le vs n src o R)) (l : LL x dx b le src R)
    (hI : LF rows evs (p ++ F') h bg ov da) (hA : A.handled = none) (hd : A.depth + 14 < recursionLimit) (hu : A.units + 160 < cLine)
    (hQ : ∀ h' tk' b' bg' ov' da' h2 le2 vs2 n2 tl evs2, Fr g L h' m → News g L h' (L5 x dx b' bg' ov' da' z h2 le vs n src o ((le2, W.listOf (List.toArray vs2) n2) :: (tl ++ R))) → LL x dx b' le src ((le2, W.listOf (List.toArray vs2) n2) :: (tl ++ R)) →
      (∀ p ∈ (le2, W.listOf (List.toArray vs2) n2) :: tl, ∀ q ∈ R, @Ne Nat p.1 q.1) → Tups EvV (fun a o => (a, o) ∈ tl) vs2 evs2 → LF rows (evs ++ evs2) F' h2 bg' ov' da' → Q (.ref le2) { s with heap := h', toks := tk' }) :
    wpF (model PySem.Challenge.rw_nz0248_01.row.prog w) A (PySem.call (.ref 153) [.ref x, .bytes (List.toArray p) t]) Q E s := by
  have hoff : ∀ q ∈ (src, o) :: (le, W.listOf (List.toArray vs) n) :: R, q.1 ∉ adr (FeedM x dx b bg ov da z h) := fun q hq => by
    obtain ⟨ap, lx, ld, lb, sx, sd, sb, sl, off⟩ := l
    rw [fm_adr]
    simp only [List.mem_cons, List.not_mem_nil, or_false, not_or]
    rcases List.mem_cons.mp hq with rfl | hq
    · exact ⟨sx, sd, sb⟩
    rcases List.mem_cons.mp hq with rfl | hq
    · exact ⟨lx, ld, lb⟩
    · exact ⟨(off q hq).1, (off q hq).2.1, (off q hq).2.2.1⟩
  have hin : ∀ q ∈ (src, o) :: (le, W.listOf (List.toArray vs) n) :: R, q ∈ L5 x dx b bg ov da z h le vs n src o R := fun q hq => by
    simp only [L5, List.mem_append, List.mem_cons] at hq ⊢
    rcases hq with q | q | q <;> simp [q]
  refine CallCF.use (rest := (src, o) :: (le, W.listOf (List.toArray vs) n) :: R) (feed_call (I := LS rows evs F') G F.keep (fun p hp => ⟨(N p (l5_m hp)).1, (N p (l5_m hp)).2.2⟩) l.ap hI.feed (fun _ _ _ _ _ q => q.size) (fun _ _ _ _ q => q.ok) (fun _ _ _ _ _ _ _ _ _ q e hm => q.step e hm)) F N hA hd hu (fun p hp => l5_m hp) (fun q hq => ⟨hin q hq, hoff q hq⟩) ?_
  rintro v h' tk' news' F2 N2 fr ⟨b', h2, bg', ov', da', le2, vs2, n2, tl, evs2, rfl, rfl, ap', hto, htu, hx⟩
  have hne : ∀ p ∈ FeedM x dx b' bg' ov' da' z h2 ++ (le2, W.listOf (List.toArray vs2) n2) :: tl, ∀ q ∈ (src, o) :: (le, W.listOf (List.toArray vs) n) :: R, @Ne Nat p.1 q.1 := fun p hp q hq e => by
    rcases fr p hp with e2 | e2
    · exact hoff q hq (e ▸ e2)
    · exact e2 q (hin q hq) e.symm
  have hcl : ∀ p ∈ FeedM x dx b' bg' ov' da' z h2, ∀ q ∈ (le2, W.listOf (List.toArray vs2) n2) :: tl, @Ne Nat q.1 p.1 := fun p hp q hq e => by
    have k1 := (N2 p (List.mem_append_left _ (List.mem_append_left _ hp))).1
    have k2 := (N2 q (List.mem_append_left _ (List.mem_append_right _ hq))).1
    have e' : q.1 = p.1 := e
    rw [e', k1] at k2
    have k3 : p.2 = q.2 := Option.some.inj k2
    have k4 : q.2.cls = .type "list" ∨ q.2.cls = .type "tuple" := by
      rcases List.mem_cons.mp hq with rfl | hq
      · exact .inl rfl
      · exact .inr (hto q hq)
    rw [← k3] at k4
    rcases fm_mem hp with rfl | rfl | rfl
    · rcases k4 with k | k <;> cases k
    · rcases k4 with k | k <;> exact absurd k (by show ¬ Value.type "dict" = .type _; decide)
    · rcases k4 with k | k <;> exact absurd k (by show ¬ Value.type "bytearray" = .type _; decide)
  refine hQ h' tk' b' bg' ov' da' h2 le2 vs2 n2 tl evs2 F2 (fun p hp => N2 p ?_) ?_ (fun p hp q hq => hne p (List.mem_append_right _ hp) q (.tail _ (.tail _ hq))) htu (LS.next hx)
  · simp only [L5, List.mem_append, List.mem_cons] at hp ⊢
    rcases hp with q | q | q | q | q | q <;> simp [q]
  · obtain ⟨ap, lx, ld, lb, sx, sd, sb, sl, off⟩ := l
    have hb' : (b', barr h2) ∈ FeedM x dx b' bg' ov' da' z h2 ++ (le2, W.listOf (List.toArray vs2) n2) :: tl := List.mem_append_left _ (by simp [FeedM])
    have new : ∀ p ∈ (le2, W.listOf (List.toArray vs2) n2) :: tl, Off5 x dx b' le src p.1 := fun p hp =>
      ⟨hcl (x, instObj 212 dx) (by simp [FeedM]) p hp, hcl (dx, dictOf (feedDict b' bg' ov' da' z) 4) (by simp [FeedM]) p hp, hcl (b', barr h2) (by simp [FeedM]) p hp, hne p (List.mem_append_right _ hp) _ (.tail _ (.head _)), hne p (List.mem_append_right _ hp) _ (.head _)⟩
    refine ⟨ap', lx, ld, fun e => hne _ hb' _ (.tail _ (.head _)) e.symm, sx, sd, fun e => hne _ hb' _ (.head _) e.symm, sl, fun p hp => ?_⟩
    rcases List.mem_append.mp (show p ∈ ((le2, W.listOf (List.toArray vs2) n2) :: tl) ++ R from hp) with hp | hp
    · exact new p hp
    · obtain ⟨o1, o2, o3, o4, o5⟩ := off p hp
      exact ⟨o1, o2, fun e => hne _ hb' p (.tail _ (.tail _ hp)) e.symm, o4, o5⟩
end
/-- the loops over the parts -/
noncomputable def LJ (rows : List Row) (bs : List (Str × Value)) (ps : List (List UInt8)) (rest : List UInt8) (x dx : Addr) (z : Hs) (le src : Addr) (o : Obj) (R0 : Led) (i : Nat) (m : Str → Option Value) (news : Led) : Prop :=
  ∃ b bg ov da h vs n R evs, AllB m bs ∧ news = L5 x dx b bg ov da z h le vs n src o R ∧ LL x dx b le src R ∧ (∀ p ∈ R0, p ∈ R) ∧ Tups EvV (fun a o => (a, o) ∈ R) vs evs ∧ LF rows evs ((ps.drop i).flatten ++ rest) h bg ov da
theorem drop_part {α : Type} {ps : List (List α)} {i : Nat} {p : List α} {rest : List α} (h : ps[i]? = some p) : (ps.drop i).flatten ++ rest = p ++ ((ps.drop (i + 1)).flatten ++ rest) := by
  obtain ⟨hi, rfl⟩ := List.getElem?_eq_some_iff.mp h
  rw [List.drop_eq_getElem_cons hi, List.flatten_cons, List.append_assoc]
theorem BytesAre.take : ∀ {vs : List Value} {bs : List (List UInt8)} (k : Nat), BytesAre vs bs → BytesAre (vs.take k) (bs.take k)
  | _, _, 0, _ => .nil
  | _, _, _ + 1, .nil => .nil
  | _, _, k + 1, .cons b t r => .cons b t (r.take k)
theorem BytesAre.drop : ∀ {vs : List Value} {bs : List (List UInt8)} (k : Nat), BytesAre vs bs → BytesAre (vs.drop k) (bs.drop k)
  | _, _, 0, h => h
  | _, _, _ + 1, .nil => .nil
  | _, _, k + 1, .cons _ _ r => r.drop k
theorem lt_all {d : Nat} {l : List (Addr × Obj)} (h : AllLt d l) : ∀ p ∈ l, @LT.lt Nat _ p.1 d := by
  induction l with
  | nil => exact no_mem
  | cons a r ih =>
    intro p hp
    rcases List.mem_cons.mp hp with rfl | hp
    · exact h.1
    · exact ih h.2 p hp
theorem law_pack {g h' : Heap} {L x dx b l' D src rl : Addr} {z : Hs} {n rn : Nat} {tup o2 : Obj} {rvs : List Value} {rtl : Led} {rows : List Row}
    (N : News g L h' ((D, tup) :: (l', W.listOf #[] n) :: (FeedM x dx b false false false z [] ++ (src, o2) :: (rl, W.listOf (List.toArray rvs) rn) :: rtl)))
    (hpo2 : IsPool o2) (rto : TupOnly rtl) (rtu : Tups RowV (fun a o => (a, o) ∈ rtl) rvs rows) (g2 : 2 ≤ rows.length) (hap : Apart3 x dx b)
    (l1 : ∀ p ∈ (src, o2) :: (rl, W.listOf (List.toArray rvs) rn) :: rtl, p.1 < dx) (l2 : dx < x)
    (l3 : ∀ p ∈ FeedM x dx b false false false z [], p.1 = x ∨ p.1 = dx ∨ ∀ q ∈ (src, o2) :: (rl, W.listOf (List.toArray rvs) rn) :: rtl, q.1 ≠ p.1)
    (l4 : ∀ p ∈ FeedM x dx b false false false z [] ++ (src, o2) :: (rl, W.listOf (List.toArray rvs) rn) :: rtl, p.1 < l')
    (l5 : l' < D ∧ AllLt D (FeedM x dx b false false false z [] ++ (src, o2) :: (rl, W.listOf (List.toArray rvs) rn) :: rtl)) :
    ∃ (le : Addr) (R : Led), le = l' ∧ (rl, W.listOf (List.toArray rvs) rn) ∈ R ∧ (∀ p ∈ rtl, p ∈ R) ∧ News g L h' (L5 x dx b false false false z [] le [] n src o2 R) ∧ LL x dx b le src R := by
  refine ⟨l', (D, tup) :: (rl, W.listOf (List.toArray rvs) rn) :: rtl, rfl, .tail _ (.head _), fun p hp => .tail _ (.tail _ hp), fun p hp => N p ?_, ?_⟩
  · simp only [L5, List.mem_append, List.mem_cons] at hp ⊢
    rcases hp with q | q | q | q | q | q <;> simp [q]
  have old : ∀ q ∈ (src, o2) :: (rl, W.listOf (List.toArray rvs) rn) :: rtl, @Ne Nat q.1 x ∧ @Ne Nat q.1 dx ∧ @Ne Nat q.1 b ∧ @Ne Nat q.1 l' := fun q hq => by
    have k1 : @LT.lt Nat _ q.1 dx := l1 q hq
    have k2 : @LT.lt Nat _ dx x := l2
    have k3 : @LT.lt Nat _ q.1 l' := l4 q (List.mem_append_right _ hq)
    refine ⟨by omega, by omega, ?_, by omega⟩
    rcases l3 (b, barr []) (by simp [FeedM]) with e | e | e
    · exact absurd e hap.bf
    · exact absurd e hap.bd
    · exact e q hq
  have fm : ∀ q ∈ FeedM x dx b false false false z [], @LT.lt Nat _ q.1 l' := fun q hq => l4 q (List.mem_append_left _ hq)
  have x1 : @LT.lt Nat _ x l' := fm (x, instObj 212 dx) (by simp [FeedM])
  have x2 : @LT.lt Nat _ dx l' := fm (dx, dictOf (feedDict b false false false z) 4) (by simp [FeedM])
  have x3 : @LT.lt Nat _ b l' := fm (b, barr []) (by simp [FeedM])
  have x4 : @LT.lt Nat _ l' D := l5.1
  have s := old _ (.head _)
  dsimp only at s
  have k0 : @LT.lt Nat _ src l' := l4 (src, o2) (List.mem_append_right _ (.head _))
  refine ⟨hap, by omega, by omega, by omega, s.1, s.2.1, s.2.2.1, s.2.2.2, fun p hp => ?_⟩
  rcases List.mem_cons.mp hp with rfl | hp
  · exact ⟨by dsimp only; omega, by dsimp only; omega, by dsimp only; omega, by dsimp only; omega, by dsimp only; omega⟩
  · have y := old p (.tail _ hp)
    refine ⟨y.1, y.2.1, y.2.2.1, y.2.2.2, ?_⟩
    intro e
    have e1 : p.1 = src := e
    have h1 := (N p (.tail _ (.tail _ (List.mem_append_right _ (.tail _ hp))))).1
    rw [e1, (N (src, o2) (.tail _ (.tail _ (List.mem_append_right _ (.head _))))).1] at h1
    have h2 : o2 = p.2 := Option.some.inj h1
    rcases List.mem_cons.mp hp with rfl | hp
    · obtain ⟨a, b, ta, tb, n, rfl, _⟩ := hpo2
      have h3 : #[Value.int a ta, .int b tb] = rvs.toArray := (Data.seq.inj (congrArg Obj.data h2)).1
      have h4 : rvs = [Value.int a ta, .int b tb] := by
        have := congrArg Array.toList h3
        simpa using this.symm
      subst h4
      match rows, rtu with
      | r :: rs, ⟨⟨a, its, e, _⟩, _⟩ => cases e
    · have h5 := rto p hp
      rw [← h2, hpo2.cls] at h5
      exact absurd h5 (by decide)
theorem law_new {g h' : Heap} {L x dx b : Addr} {bg ov da : Bool} {z : Hs} {h : List UInt8} {le : Addr} {vs : List Value} {n : Nat} {src D : Addr} {o o' : Obj} {R : Led} (N : News g L h' ((D, o') :: L5 x dx b bg ov da z h le vs n src o R)) (l : LL x dx b le src R)
    (k : ∀ p ∈ L5 x dx b bg ov da z h le vs n src o R, p.1 ≠ D) : News g L h' (L5 x dx b bg ov da z h le vs n src o ((D, o') :: R)) ∧ LL x dx b le src ((D, o') :: R) :=
  ⟨l5_up (tl := [(D, o')]) N, l.more (tl := [(D, o')]) fun p hp => by obtain rfl := List.mem_singleton.mp hp; exact l5_off k⟩

-- part B22
noncomputable def datSum : List Row → Nat
  | [] => 0
  | r :: rs => r.dat.length + datSum rs
theorem datSum_append : ∀ a b : List Row, datSum (a ++ b) = datSum a + datSum b
  | [], _ => (Nat.zero_add _).symm
  | r :: a, b => by
    show r.dat.length + datSum (a ++ b) = r.dat.length + datSum a + datSum b
    rw [datSum_append a b, Nat.add_assoc]
theorem addData_sum {b : List UInt8} : ∀ {ps qs : List Row}, addData b ps = some qs → datSum qs = datSum ps + b.length
  | [], _, h => by cases h
  | [r], qs, h => by
    obtain rfl := Option.some.inj (show some [{ r with dat := r.dat ++ b }] = some qs from h)
    show (r.dat ++ b).length + 0 = r.dat.length + 0 + b.length
    rw [List.length_append]; omega
  | r :: s :: t, qs, h => by
    have h' : (addData b (s :: t)).map (r :: ·) = some qs := h
    obtain ⟨rs, h1, rfl⟩ := Option.map_eq_some_iff.mp h'
    have := addData_sum h1
    show r.dat.length + datSum rs = r.dat.length + datSum (s :: t) + b.length
    omega
theorem runE_sum : ∀ {es : List Ev} {ps qs : List Row}, runE ps es = some qs → datSum qs = datSum ps + evLen es
  | [], ps, qs, h => by cases h; rfl
  | e :: es, ps, qs, h => by
    have h' : (stepE ps e).bind (fun rs => runE rs es) = some qs := h
    obtain ⟨rs, h1, h2⟩ := Option.bind_eq_some_iff.mp h'
    have h3 := runE_sum h2
    cases e with
    | marker c =>
      obtain rfl := Option.some.inj (show some (ps ++ [⟨c, [], []⟩]) = some rs from h1)
      rw [h3, datSum_append]; rfl
    | seg c p =>
      obtain rfl := Option.some.inj (show some (ps ++ [⟨c, p, []⟩]) = some rs from h1)
      rw [h3, datSum_append]; rfl
    | data b =>
      have h4 := addData_sum (show addData b ps = some rs from h1)
      rw [h3, h4]
      show _ = datSum ps + (b.length + evLen es)
      omega
theorem datSum_small : ∀ {rows : List Row}, (∀ r ∈ rows, SmallRow r) → datSum rows ≤ 8 * rows.length
  | [], _ => Nat.zero_le _
  | r :: rs, h => by
    have h1 := (h r (.head _)).dat
    have h2 := datSum_small (rows := rs) fun x hx => h x (.tail _ hx)
    show r.dat.length + datSum rs ≤ 8 * (rs.length + 1)
    omega
theorem evLen_rows {evs : List Ev} {rows : List Row} (h : runE [] evs = some rows) (hs : ∀ r ∈ rows, SmallRow r) : evLen evs ≤ 8 * rows.length := by
  have h1 := runE_sum h
  have h2 := datSum_small hs
  have h3 : datSum ([] : List Row) = 0 := rfl
  omega
theorem law_events {w : World} {g : Heap} {L : Addr} {s : Shared} {m : Str → Option Value} {A : Around} {x dx b : Addr} {bg ov da : Bool} {z : Hs} {h : List UInt8} {le : Addr} {vs : List Value} {n : Nat} {src rl : Addr} {o : Obj} {R : Led} {rvs : List Value} {rn : Nat} {rows : List Row} {Q E : Value → Shared → Prop}
    (G : Gr w g) (F : Fr g L s.heap m) (N : News g L s.heap (L5 x dx b bg ov da z h le vs n src o R)) (l : LL x dx b le src R) (hp : IsPool o) (hm : (rl, W.listOf (List.toArray rvs) rn) ∈ R) (htu : Tups RowV (fun a o => (a, o) ∈ R) rvs rows) (hn : rows.length ≤ 8) (hr : ∀ r ∈ rows, LawRow r)
    (hA : A.handled = none) (hd : A.depth + 8 < recursionLimit) (hu : A.units + 80 < cLine)
    (hQ : ∀ l' vs' n' tl evs h' tk' o', Fr g L h' m → News g L h' (L5 x dx b bg ov da z h le vs n src o' (((l', W.listOf (List.toArray vs') n') :: tl) ++ R)) → LL x dx b le src (((l', W.listOf (List.toArray vs') n') :: tl) ++ R) →
      Tups EvV (fun a o => (a, o) ∈ tl) vs' evs → runE [] evs = some rows → evs.length ≤ 32 → Q (.ref l') { s with heap := h', toks := tk' }) :
    wpAny (model PySem.Challenge.rw_nz0248_01.row.prog w) A (PySem.call (.ref 275) [.ref src, .ref rl]) Q E s := by
  have hs := N (src, o) l5_src
  have none : (hideAll s.heap [src]).get? src = none := hideAll_none _ (.head _)
  have up : ∀ p ∈ R, (hideAll s.heap [src]).get? p.1 = some p.2 := fun p hq => hideAll_get _ (N p (l5_r hq)).1 fun q => (l.off p hq).2.2.2.2 (List.mem_singleton.mp q)
  refine law_useS (P' := fun v o' tl' => ∃ l' vs' n' tl evs, v = .ref l' ∧ tl' = (l', W.listOf (List.toArray vs') n') :: tl ∧ Tups EvV (fun a o => (a, o) ∈ tl) vs' evs ∧ runE [] evs = some rows ∧ evs.length ≤ 32)
    (events_call (H := hideAll s.heap [src]) (G.keeps fun b o e => hideAll_get _ (F.keep _ _ e) fun q => ?_) (fun b o e => of_hideAll _ e) hs.1 none hp (up _ hm) (htu.mono fun a o q => up (a, o) q) hn hr) ?_ F N l hA hd hu ?_
  · rw [List.mem_singleton.mp q, hs.2.2] at e; cases e
  · rintro v n' ⟨l', vs', n', tl, evs, o', rfl, hne, rfl, hp', hto, htu', hrun, hlen⟩
    refine ⟨o', _, rfl, hp', ⟨l', vs', n', tl, evs, rfl, rfl, htu', hrun, hlen⟩, fun p hp => ?_⟩
    rcases List.mem_cons.mp hp with rfl | hp
    · exact .inl hne
    · exact .inr (hto p hp)
  · rintro v h' tk' o' tl' F' N' l2 hp' ⟨l', vs', n', tl, evs, rfl, rfl, htu', hrun, hlen⟩
    exact hQ l' vs' n' tl evs h' tk' o' F' N' l2 htu' hrun hlen

-- part C22
section
local macro_rules | `(tactic| walk_at "call ref") => `(tactic| (k_here; (with_reducible show wpAny _ _ (PySem.call (Value.ref 237) [Value.ref _, Value.int _ _]) _ _ _); refine stop ?_))
local macro_rules | `(tactic| walk_at "call builtin:len") => `(tactic| (k_here; (with_reducible show wpAny _ _ (call (Value.builtin "len") [Value.ref _]) _ _ _); refine stop ?_))
local macro_rules | `(tactic| walk_at "subscriptTail Name Slice ref ref") => `(tactic| (k_here; (with_reducible show wpAny _ _ (subscriptTail _ (Expr.Slice _ _ none _) (Value.ref _) (Value.ref _)) _ _ _); refine stop ?_))
local macro_rules | `(tactic| walk_at "getMethod ref") => `(tactic| (k_here; (with_reducible show wpAny _ _ (getMethod (Value.ref _) (PySem.Str.ofString "extend") _) _ _ _); refine stop ?_))
local macro_rules | `(tactic| walk_at "compareOp NotEq ref ref") => `(tactic| (k_here; (with_reducible show wpAny _ _ (compareOp CmpOp.NotEq (Value.ref _) (Value.ref _)) _ _ _); refine stop ?_))
local macro_rules | `(tactic| walk_at "compareOp Eq ref ref") => `(tactic| (k_here; (with_reducible show wpAny _ _ (compareOp CmpOp.Eq (Value.ref _) (Value.ref _)) _ _ _); refine stop ?_))
local macro_rules | `(tactic| walk_at "compareOp NotEq bytes bytes") => `(tactic| (k_here; (with_reducible show wpAny _ _ (compareOp CmpOp.NotEq (Value.bytes _ _) (Value.bytes _ _)) _ _ _); refine stop ?_))
set_option maxHeartbeats 1000000 in
theorem law_call {w : World} {H : Heap} {s : Shared} {a : Addr} {vs : List Value} {ns : List Int}
    (G : Gr w H) (hk : ∀ b o, H.get? b = some o → s.heap.get? b = some o) (hl : s.heap.IsList a vs.toArray) (hi : IntsAre vs ns) (hn : ns.length ≤ 63) :
    CallCF w [] 30 400 (.ref 282) [.ref a] s (fun v news' => v = .bool true) := by
  refine' callF_def G hk (fun _ h => nomatch h) ?ho ?hcd ?hb ?hl ?h ?c1 ?c2 ?c3 ?c4
  walk_at "my enter"
  intro g L' h₁ A mean mg mb hA hd hu X T hg hg' hL F N Z hZ
  obtain ⟨ol, hol, hoc, nl, hod⟩ := id hl
  have hlg : g.IsList a vs.toArray := ⟨ol, hg _ _ nofun hol, hoc, nl, hod⟩
  refine execsF_cons (wpF.of ?_)
  (try dsimp only); (try k_fold); w_on
  k_steps
  rename Fr _ _ _ _ => F1
  rename News _ _ _ _ => N1
  refine Call.use (rest := []) (pool_call ⟨X, _, _, _, T⟩ F1.keep (hlg.at fun o e => F1.keep _ _ e) hi hn) F1 N1 hA (by walk_at "my room") (by walk_at "my room") no_mem no_mem ?_
  rintro v h2 tk2 news2 F2 N2 fr2 ⟨src, o, rfl, rfl, hpo⟩
  simp only [List.append_nil] at N2
  clear N1 F1
  k_steps
  (try dsimp only)
  refine execsF_cons (wpF.of ?_)
  k_steps
  rename Fr _ _ _ _ => F1
  rename News _ _ _ _ => N1
  refine Call.use (rest := []) (rows_call ⟨X, _, _, _, T⟩ F1.keep (N1 _ (.head _)).1 (N1 _ (.head _)).2.2 hpo) F1 N1 hA (by walk_at "my room") (by walk_at "my room") (fun _ h => h) no_mem ?_
  rintro v h3 tk3 news3 F3 N3 fr3 hJ' ; refine e6_6 hJ' ?_; clear hJ'; rintro rl rvs rn rtl rows o2 rfl rfl hpo2 rto rtu hgr
  simp only [List.append_nil] at N3
  clear N1 F1
  k_steps
  (try dsimp only)
  rename Fr _ _ _ _ => F4
  rename News _ _ _ _ => N4
  refine execsF_cons (assignTupleF (evalTupleF ?_))
  refine splicedF_cons (ifF_false rfl ?_)
  refine wpF.of ?_
  k_steps
  obtain ⟨gl, g2, gw, gp⟩ := hgr.all
  refine Call.pure (octets_call ⟨X, _, _, _, T⟩ F4.keep (N4 _ (.tail _ (.head _))).1 (rtu.mono fun a o q => (N4 _ (.tail _ (.tail _ q))).1) gl (fun r hr => (gw r hr).small)) F4 N4 hA (by walk_at "my room") (by walk_at "my room") ?_
  rintro v h5 tk5 F5 N5 ⟨ot, rfl⟩
  clear N4 F4
  refine splicedF_cons (ifF_false rfl (evalCallF_Name ?_))
  k_steps
  refine callWithF (PyProof.Rows.evalArgs_none ?_)
  refine keep_use (K := Mine.hd.heap_1 w.params) (by k_is) (X.keeps (by first | exact F5.keep)) (fun _ => ?_)
  refine' makeF_use F5 N5 X ?hm ?hi ?hf hA (by walk_at "my room") (by walk_at "my room") (fun x dx s' k1 hx hdx n1 n2 l => feedinit_call ⟨X, _, _, _, T⟩ k1 hx hdx n1 n2 l) ?_
  case hm => k_is
  case hi => k_is
  case hf => k_is
  rintro x dx h6 tk6 news6 F6 N6 l1 l2 ⟨b, z, rfl, hap⟩ l3
  refine splicedF_cons (ifF_false rfl ?_)
  refine wpF.of ?_
  k_steps
  refine wpF_pure ?_
  k_steps
  rename Fr _ _ _ _ => F7
  rename News _ _ _ _ => N7
  rename (_ < _ ∧ _) => l5
  rename (∀ p, p ∈ FeedM _ _ _ _ _ _ _ _ ++ _ → _) => l4
  obtain ⟨le, R0, rfl, hrl, hrt, N8, ll⟩ := law_pack N7 hpo2 rto rtu g2 hap l1 l2 l3 l4 l5
  clear N7 l5 l4 l3 l2 l1
  have F8 := fr_norm F7 (ps := [("source", .ref src), ("rows", .ref rl), ("octets", .bytes (List.toArray (encs rows)) ot), ("feeder", .ref x), ("events", .ref le)]) ⟨rfl, rfl, rfl, rfl, rfl, trivial⟩
  clear F7
  dsimp only [kstB] at F8
  have hel := encs_len (rs := rows) (fun r hr => (gw r hr).small)
  refine execsF_cons (wpF.of ?_)
  k_steps
  refine law_useS (P' := fun v o' tl => ∃ l vs n ps, v = .ref l ∧ tl = [(l, W.listOf (List.toArray vs) n)] ∧ BytesAre vs ps ∧ ps.flatten = encs rows ∧ ps.length ≤ 20 + 1) (cuts_call (most := 20) ⟨X, _, _, _, T⟩ F8.keep (N8 _ l5_src).1 (N8 _ l5_src).2.2 hpo2 (by omega) (by decide) (by decide) (by decide)) ?_ F8 N8 ll hA (by walk_at "my room") (by walk_at "my room") ?_
  · rintro v n' hJ' ; refine e5_7 hJ' ?_; clear hJ'; rintro l vs n ps o' rfl hls rfl hpo' hb hf hz
    exact ⟨o', _, rfl, hpo', ⟨l, vs, n, ps, rfl, rfl, hb, hf, hz⟩, fun p hp => by obtain rfl := List.mem_singleton.mp hp; exact .inl hls⟩
  rintro v h9 tk9 o3 tl F9 N9 ll2 hpo3 hJ' ; refine e4_5 hJ' ?_; clear hJ'; rintro lp pvs pn ps rfl rfl hpb hpf hpz
  clear N8 F8 ll
  have hpl := hpb.length
  k_steps
  have hp1 : 1 ≤ ps.length := by
    cases ps with
    | nil =>
      obtain ⟨mid, e, _⟩ := hgr
      rw [e] at hpf
      cases hpf
    | cons _ _ => exact Nat.le_add_left _ _
  refine execsF_cons (wpF.of ?_)
  k_steps
  rename Fr _ _ _ _ => F10
  rename News _ _ _ _ => N10
  refine len_l N10 (l5_r (.head _)) (by omega) ?_
  intro t11 k11
  k_steps
  refine law_take X T F10 N10 ll2 hpo3 hA (by walk_at "my room") (by walk_at "my room") (by omega) (by omega) ?_
  intro half t12 o4 h12 tk12 F12 N12 hh0 hh1 hpo4
  clear N10 F10
  k_steps
  refine execsF_cons (wpF_For ?_)
  k_steps
  rename Fr _ _ _ _ => F13
  rename News _ _ _ _ => N13
  refine slice_lT (s := ⟨_, _, _, _, _⟩) F13 N13 (l5_r (.head _)) hh0 (by omega) ?_
  intro D h14 F14 N14 l14
  obtain ⟨N15, ll3⟩ := law_new N14 ll2 (fun p hp => Nat.ne_of_lt (l14 p hp))
  have F15 := fr_norm F14 (ps := [("source", .ref src), ("rows", .ref rl), ("octets", .bytes (List.toArray (encs rows)) ot), ("feeder", .ref x), ("events", .ref le), ("parts", .ref lp), ("half", .int half t12)]) ⟨rfl, rfl, rfl, rfl, rfl, rfl, rfl, trivial⟩
  clear F14 N14 N13 F13 l14
  dsimp only [kstB] at F15
  have hpt := hpb.take half.toNat
  have hLF0 : LF rows [] (((ps.take half.toNat).drop 0).flatten ++ (ps.drop half.toNat).flatten) [] false false false := by
    rw [List.drop_zero, ← List.flatten_append, List.take_append_drop, hpf]
    exact LF.first hgr (by omega)
  refine forF_list (LJ rows [("source", .ref src), ("rows", .ref rl), ("octets", .bytes (List.toArray (encs rows)) ot), ("feeder", .ref x), ("events", .ref le), ("parts", .ref lp), ("half", .int half t12)] (ps.take half.toNat) (ps.drop half.toNat).flatten x dx z le src o4 ((D, W.listOf (List.toArray (pvs.take half.toNat)) 0) :: ([(lp, W.listOf (List.toArray pvs) pn)] ++ R0))) hA F15 N15 (l5_r (.head _)) ?h0 ?turn ?done
  case h0 => exact ⟨b, false, false, false, [], [], _, _, [], ⟨rfl, rfl, rfl, rfl, rfl, rfl, rfl, trivial⟩, rfl, ll3, fun _ hp => hp, trivial, hLF0⟩
  case turn =>
    clear N15 F15 ll2
    rintro i v m₁ news₁ h1 tk it I hv hc off hin hJ' F N Z2 hZ2; refine e9_6 hJ' ?_; clear hJ'; rintro b bg ov da h vs n R evs hm rfl ll hR htu hLF
    obtain ⟨p, t, hp, rfl⟩ := hpt.get hv
    have F2 := fr_norm F hm
    clear F
    dsimp only [kstB] at F2
    obtain ⟨N2, ll2⟩ := law_new N ll off
    clear N
    k_steps
    refine execsF_cons (exprF (evalCallF_A ?_))
    k_steps
    rename News _ _ _ _ => N4
    refine extend_ml (N4 _ l5_le).1 ?_
    refine callWithF1 ?_
    refine evalCallF_A ?_
    have N3 : News g L' _ ((src, o4) :: (le, W.listOf (List.toArray vs) n) :: (x, instObj 212 dx) :: (dx, dictOf (feedDict b bg ov da z) 4) :: (b, barr h) :: ((I, it) :: R)) := N4
    unfold feedDict at N3
    clear N4
    k_steps
    dsimp only
    refine callWithF_sp ?_
    k_steps
    rename Fr _ _ _ _ => F5
    rename News _ _ _ _ => N5
    have N6 : News g L' _ (L5 x dx b bg ov da z h le vs n src o4 ((I, it) :: R)) := N5
    clear N5
    refine keep_use (K := Mine.hd.heap_1 w.params) (by k_is) (X.keeps F5.keep) (fun _ => ?_)
    rw [drop_part hp] at hLF
    refine law_feed ⟨X, _, _, _, T⟩ F5 N6 ll2 hLF hA (by walk_at "my room") (by walk_at "my room") ?_
    intro h3 tk3 b' bg' ov' da' h2 le2 vs2 n2 tl evs2 F6 N7 ll3 hne htu2 hLF2
    dsimp only
    refine wpAny_pure ?_
    refine wpF.of ?_
    have q1 := htu.length
    have q2 := htu2.length
    have q3 := hLF2.part.2.1
    rw [List.length_append] at q3
    refine law_ext F6 N7 ll3 (.head _) (by omega) ?_
    intro h4 n4 F7 N8
    dsimp only
    refine wpAny_of_eq (a := Flow.next) rfl ?_
    dsimp only
    refine wpF_pure ?_
    refine hZ2 _ _ ?_; refine Turn.next F7 (news' := L5 x dx b' bg' ov' da' z h2 le (vs ++ vs2) n4 src o4 ((le2, W.listOf (List.toArray vs2) n2) :: (tl ++ R))) (fun p hp => N8 p ?_) (l5_all (ll3.off (I, it) (.tail _ (List.mem_append_right _ (.head _)))) ?_) ⟨l5_r (.tail _ (List.mem_append_right _ (hR _ (.head _)))), b', bg', ov', da', h2, vs ++ vs2, n4, _, evs ++ evs2, ⟨rfl, rfl, rfl, rfl, rfl, rfl, rfl, trivial⟩, rfl, ll3.sub ?_, fun p hp => .tail _ (List.mem_append_right _ (hR p hp)), ?_, hLF2⟩
    · simp only [L5, List.mem_append, List.mem_cons] at hp ⊢
      rcases hp with q | q | q | q | q | q | q <;> simp [q]
    · intro p hp
      rcases List.mem_cons.mp hp with rfl | hp
      · exact hne _ (.head _) _ (.head _)
      rcases List.mem_append.mp hp with hp | hp
      · exact hne _ (.tail _ hp) _ (.head _)
      · exact off p (l5_r hp)
    · intro p hp
      simp only [List.mem_append, List.mem_cons] at hp ⊢
      rcases hp with q | q | q <;> simp [q]
    · exact Tups.append (V := EvV) (htu.mono fun a o q => .tail _ (List.mem_append_right _ q)) (htu2.mono fun a o q => .tail _ (List.mem_append_left _ q))
  case done =>
    clear N15 F15 ll2 ll3
    rintro m₁ news₁ h1 tk hJ' F N; refine e9_6 hJ' ?_; clear hJ'; rintro b bg ov da h vs n R evs hm rfl ll hR htu hLF
    have F2 := fr_norm F hm
    clear F
    dsimp only [kstB] at F2
    rw [hpt.length, List.drop_length, List.flatten_nil, List.nil_append] at hLF
    dsimp only
    obtain ⟨⟨rows1, hd1⟩, hd2, hd3⟩ := hLF.part
    refine execsF_cons (wpF.of ?_)
    k_steps
    rename Fr _ _ _ _ => F3
    rename News _ _ _ _ => N3
    refine law_use (pieces_call ⟨X, _, _, _, T⟩ F3.keep (N3 _ l5_le).1 (htu.mono fun a o q => (N3 _ (l5_r q)).1) hd1 (by omega) (by omega)) F3 N3 ll hA (by walk_at "my room") (by walk_at "my room") ?_
    rintro v h3 tk3 tl F4 N4 ll2 hJ' ; refine e4_3 hJ' ?_; clear hJ'; rintro le1 vs1 n1 tl1 rfl rfl hpc
    clear F3 N3
    k_steps
    refine execsF_cons (wpF.of ?_)
    k_steps
    rename Fr _ _ _ _ => F3
    rename News _ _ _ _ => N3
    have hrb := (runE_bound evs (B := 0) hd1 (fun _ h => nomatch h)).1
    rw [List.length_nil] at hrb
    refine law_use (told_call ⟨X, _, _, _, T⟩ F3.keep (N3 _ (l5_r (.head _))).1 (hpc.mono fun a o q => q.mono fun a o q => (N3 _ (l5_r (.tail _ (List.mem_append_left _ q)))).1) (by omega)) F3 N3 ll2 hA (by walk_at "my room") (by walk_at "my room") ?_
    rintro v h3 tk3 tl F4 N4 ll3 hJ' ; refine e4_4 hJ' ?_; clear hJ'; rintro kl kvs kn ktl rfl rfl hkt hku
    clear F3 N3 ll2 ll
    k_steps
    refine execsF_cons (wpF_For ?_)
    k_steps
    rename Fr _ _ _ _ => F13
    rename News _ _ _ _ => N13
    have mP : (lp, W.listOf (List.toArray pvs) pn) ∈ R := hR _ (.tail _ (.head _))
    refine slice_lF (s := ⟨_, _, _, _, _⟩) F13 N13 (l5_r (List.mem_append_right _ (List.mem_append_right _ mP))) hh0 (by omega) ?_
    intro D2 h14 F14 N14 l14
    obtain ⟨N15, ll4⟩ := law_new N14 ll3 (fun p hp => Nat.ne_of_lt (l14 p hp))
    have F15 := fr_norm F14 (ps := [("source", .ref src), ("rows", .ref rl), ("octets", .bytes (List.toArray (encs rows)) ot), ("feeder", .ref x), ("events", .ref le), ("parts", .ref lp), ("half", .int half t12), ("early", .ref le1), ("kept", .ref kl)]) ⟨rfl, rfl, rfl, rfl, rfl, rfl, rfl, rfl, rfl, trivial⟩
    clear F14 N14 N13 F13 l14
    dsimp only [kstB] at F15
    have hpd := hpb.drop half.toNat
    have htu2 : Tups EvV (fun a o => (a, o) ∈ (D2, W.listOf (List.toArray (pvs.drop half.toNat)) 0) :: (((kl, W.listOf (List.toArray kvs) kn) :: ktl) ++ (((le1, W.listOf (List.toArray vs1) n1) :: tl1) ++ R))) vs evs := htu.mono fun a o q => .tail _ (List.mem_append_right _ (List.mem_append_right _ q))
    have hLF0 : LF rows evs (((ps.drop half.toNat).drop 0).flatten ++ []) h bg ov da := by
      rw [List.drop_zero, List.append_nil]
      exact hLF
    refine forF_list (LJ rows [("source", .ref src), ("rows", .ref rl), ("octets", .bytes (List.toArray (encs rows)) ot), ("feeder", .ref x), ("events", .ref le), ("parts", .ref lp), ("half", .int half t12), ("early", .ref le1), ("kept", .ref kl)] (ps.drop half.toNat) [] x dx z le src o4 ((D2, W.listOf (List.toArray (pvs.drop half.toNat)) 0) :: (((kl, W.listOf (List.toArray kvs) kn) :: ktl) ++ (((le1, W.listOf (List.toArray vs1) n1) :: tl1) ++ R)))) hA F15 N15 (l5_r (.head _)) ?h0 ?turn ?done
    case h0 => exact ⟨b, bg, ov, da, h, vs, n, _, evs, ⟨rfl, rfl, rfl, rfl, rfl, rfl, rfl, rfl, rfl, trivial⟩, rfl, ll4, fun _ hp => hp, htu2, hLF0⟩
    case turn =>
      rintro i v m₁ news₁ h1 tk it I hv hc off hin hJ' F N Z2 hZ2; refine e9_6 hJ' ?_; clear hJ'; rintro b bg ov da h vs n R evs hm rfl ll hR htu hLF
      obtain ⟨p, t, hp, rfl⟩ := hpd.get hv
      have F2 := fr_norm F hm
      clear F
      dsimp only [kstB] at F2
      obtain ⟨N2, ll2⟩ := law_new N ll off
      clear N
      k_steps
      refine execsF_cons (exprF (evalCallF_A ?_))
      k_steps
      rename News _ _ _ _ => N4
      refine extend_ml (N4 _ l5_le).1 ?_
      refine callWithF1 ?_
      refine evalCallF_A ?_
      have N3 : News g L' _ ((src, o4) :: (le, W.listOf (List.toArray vs) n) :: (x, instObj 212 dx) :: (dx, dictOf (feedDict b bg ov da z) 4) :: (b, barr h) :: ((I, it) :: R)) := N4
      unfold feedDict at N3
      clear N4
      k_steps
      dsimp only
      refine callWithF_sp ?_
      k_steps
      rename Fr _ _ _ _ => F5
      rename News _ _ _ _ => N5
      have N6 : News g L' _ (L5 x dx b bg ov da z h le vs n src o4 ((I, it) :: R)) := N5
      clear N5
      refine keep_use (K := Mine.hd.heap_1 w.params) (by k_is) (X.keeps F5.keep) (fun _ => ?_)
      rw [drop_part hp] at hLF
      refine law_feed ⟨X, _, _, _, T⟩ F5 N6 ll2 hLF hA (by walk_at "my room") (by walk_at "my room") ?_
      intro h3 tk3 b' bg' ov' da' h2 le2 vs2 n2 tl evs2 F6 N7 ll3 hne htu2 hLF2
      dsimp only
      refine wpAny_pure ?_
      refine wpF.of ?_
      have q1 := htu.length
      have q2 := htu2.length
      have q3 := hLF2.part.2.1
      rw [List.length_append] at q3
      refine law_ext F6 N7 ll3 (.head _) (by omega) ?_
      intro h4 n4 F7 N8
      dsimp only
      refine wpAny_of_eq (a := Flow.next) rfl ?_
      dsimp only
      refine wpF_pure ?_
      refine hZ2 _ _ ?_; refine Turn.next F7 (news' := L5 x dx b' bg' ov' da' z h2 le (vs ++ vs2) n4 src o4 ((le2, W.listOf (List.toArray vs2) n2) :: (tl ++ R))) (fun p hp => N8 p ?_) (l5_all (ll3.off (I, it) (.tail _ (List.mem_append_right _ (.head _)))) ?_) ⟨l5_r (.tail _ (List.mem_append_right _ (hR _ (.head _)))), b', bg', ov', da', h2, vs ++ vs2, n4, _, evs ++ evs2, ⟨rfl, rfl, rfl, rfl, rfl, rfl, rfl, rfl, rfl, trivial⟩, rfl, ll3.sub ?_, fun p hp => .tail _ (List.mem_append_right _ (hR p hp)), ?_, hLF2⟩
      · simp only [L5, List.mem_append, List.mem_cons] at hp ⊢
        rcases hp with q | q | q | q | q | q | q <;> simp [q]
      · intro p hp
        rcases List.mem_cons.mp hp with rfl | hp
        · exact hne _ (.head _) _ (.head _)
        rcases List.mem_append.mp hp with hp | hp
        · exact hne _ (.tail _ hp) _ (.head _)
        · exact off p (l5_r hp)
      · intro p hp
        simp only [List.mem_append, List.mem_cons] at hp ⊢
        rcases hp with q | q | q <;> simp [q]
      · exact Tups.append (V := EvV) (htu.mono fun a o q => .tail _ (List.mem_append_right _ q)) (htu2.mono fun a o q => .tail _ (List.mem_append_left _ q))
    case done =>
      have mKl : (kl, W.listOf (List.toArray kvs) kn) ∈ (D2, W.listOf (List.toArray (pvs.drop half.toNat)) 0) :: (((kl, W.listOf (List.toArray kvs) kn) :: ktl) ++ (((le1, W.listOf (List.toArray vs1) n1) :: tl1) ++ R)) := .tail _ (.head _)
      have mKt : ∀ p ∈ ktl, p ∈ (D2, W.listOf (List.toArray (pvs.drop half.toNat)) 0) :: (((kl, W.listOf (List.toArray kvs) kn) :: ktl) ++ (((le1, W.listOf (List.toArray vs1) n1) :: tl1) ++ R)) := fun p q => .tail _ (.tail _ (List.mem_append_left _ q))
      have mEl : (le1, W.listOf (List.toArray vs1) n1) ∈ (D2, W.listOf (List.toArray (pvs.drop half.toNat)) 0) :: (((kl, W.listOf (List.toArray kvs) kn) :: ktl) ++ (((le1, W.listOf (List.toArray vs1) n1) :: tl1) ++ R)) := .tail _ (List.mem_append_right _ (.head _))
      have mEt : ∀ p ∈ tl1, p ∈ (D2, W.listOf (List.toArray (pvs.drop half.toNat)) 0) :: (((kl, W.listOf (List.toArray kvs) kn) :: ktl) ++ (((le1, W.listOf (List.toArray vs1) n1) :: tl1) ++ R)) := fun p q => .tail _ (List.mem_append_right _ (.tail _ (List.mem_append_left _ q)))
      have mO : ∀ p ∈ R0, p ∈ (D2, W.listOf (List.toArray (pvs.drop half.toNat)) 0) :: (((kl, W.listOf (List.toArray kvs) kn) :: ktl) ++ (((le1, W.listOf (List.toArray vs1) n1) :: tl1) ++ R)) := fun p q => .tail _ (List.mem_append_right _ (List.mem_append_right _ (hR _ (.tail _ (.tail _ q)))))
      clear N15 F15 ll4 ll3 hLF0 hLF htu2 hR htu
      rintro m₁ news₁ h1 tk hJ' F N; refine e9_6 hJ' ?_; clear hJ'; rintro b bg ov da h vs n R evs hm rfl ll hR htu hLF
      have F2 := fr_norm F hm
      clear F
      dsimp only [kstB] at F2
      rw [hpd.length, List.drop_length, List.flatten_nil, List.nil_append] at hLF
      dsimp only
      have mKl2 := hR _ mKl
      have mEl2 := hR _ mEl
      have mRl2 := hR _ (mO _ hrl)
      have hk2 : Tups RowV (fun a o => (a, o) ∈ R) kvs rows1 := hku.mono fun a o q => hR _ (mKt _ q)
      have hr2 : Tups RowV (fun a o => (a, o) ∈ R) rvs rows := rtu.mono fun a o q => hR _ (mO _ (hrt _ q))
      have hp2 := hpc.mono fun a o (q : PieceAt _ a o) => q.mono fun a o q => hR (a, o) (mEt _ q)
      have hrun := hLF.last
      obtain ⟨-, he2, he3⟩ := hLF.part
      clear mKl mKt mEl mEt mO hku hkt hpc
      refine execsF_cons (wpF.of ?_)
      k_steps
      rename Fr _ _ _ _ => F3
      rename News _ _ _ _ => N3
      refine law_use (pieces_call ⟨X, _, _, _, T⟩ F3.keep (N3 _ l5_le).1 (htu.mono fun a o q => (N3 _ (l5_r q)).1) hrun (by omega) (by omega)) F3 N3 ll hA (by walk_at "my room") (by walk_at "my room") ?_
      rintro v h3 tk3 tl F4 N4 ll2 hJ' ; refine e4_3 hJ' ?_; clear hJ'; rintro pl vs2 n2 tl2 rfl rfl hpc
      clear F3 N3
      k_steps
      refine execsF_cons (wpF.of ?_)
      k_steps
      rename Fr _ _ _ _ => F3
      rename News _ _ _ _ => N3
      have hpc2 : All2 (PieceAt fun a o => (a, o) ∈ ((pl, W.listOf (List.toArray vs2) n2) :: tl2) ++ R) vs2 rows := hpc.mono fun a o q => q.mono fun a o q => .tail _ (List.mem_append_left _ q)
      refine law_use (told_call ⟨X, _, _, _, T⟩ F3.keep (N3 _ (l5_r (.head _))).1 (hpc2.mono fun a o q => q.mono fun a o q => (N3 _ (l5_r q)).1) (by omega)) F3 N3 ll2 hA (by walk_at "my room") (by walk_at "my room") ?_
      rintro v h5 tk5 tl F5 N5 ll3 hJ' ; refine e4_4 hJ' ?_; clear hJ'; rintro t1 tvs tn ttl rfl rfl htt htu3
      clear F3 N3
      k_steps
      have hr3 : Tups RowV (fun a o => (a, o) ∈ ((t1, W.listOf (List.toArray tvs) tn) :: ttl) ++ (((pl, W.listOf (List.toArray vs2) n2) :: tl2) ++ R)) rvs rows := hr2.mono fun a o q => List.mem_append_right _ (List.mem_append_right _ q)
      have mRl3 : (rl, W.listOf (List.toArray rvs) rn) ∈ ((t1, W.listOf (List.toArray tvs) tn) :: ttl) ++ (((pl, W.listOf (List.toArray vs2) n2) :: tl2) ++ R) := List.mem_append_right _ (List.mem_append_right _ mRl2)
      rename Fr _ _ _ _ => F3
      rename News _ _ _ _ => N3
      refine ne_rows (N3 _ (l5_r (.head _))).1 (N3 _ (l5_r mRl3)).1 (htu3.mono fun a o q => (N3 _ (l5_r (List.mem_append_left _ (.tail _ q)))).1) (hr3.mono fun a o q => (N3 _ (l5_r q)).1) (by walk_at "my room") ?_
      k_steps
      refine law_use (write_call ⟨X, _, _, _, T⟩ F3.keep (N3 _ (l5_r (List.mem_append_right _ (.head _)))).1 (hpc2.mono fun a o q => q.mono fun a o q => (N3 _ (l5_r (List.mem_append_right _ q))).1) gl g2 gp) F3 N3 ll3 hA (by walk_at "my room") (by walk_at "my room") ?_
      rintro v h6 tk6 tl F6 N6 ll4 ⟨⟨wt, rfl⟩, rfl⟩
      clear F3 N3 ll3
      rw [List.nil_append] at N6 ll4
      k_steps
      refine ne_b ?_
      rw [bne_self_eq_false]
      k_steps
      rename Fr _ _ _ _ => F3
      rename News _ _ _ _ => N3
      refine law_use (told_call ⟨X, _, _, _, T⟩ F3.keep (N3 _ (l5_r (List.mem_append_right _ (List.mem_append_right _ mEl2)))).1 (hp2.mono fun a o q => q.mono fun a o q => (N3 _ (l5_r (List.mem_append_right _ (List.mem_append_right _ q)))).1) (by omega)) F3 N3 ll4 hA (by walk_at "my room") (by walk_at "my room") ?_
      rintro v h7 tk7 tl F7 N7 ll5 hJ' ; refine e4_4 hJ' ?_; clear hJ'; rintro u1 uvs un utl rfl rfl hut hu3
      clear F3 N3 ll4
      k_steps
      rename Fr _ _ _ _ => F3
      rename News _ _ _ _ => N3
      refine ne_rows (N3 _ (l5_r (.head _))).1 (N3 _ (l5_r (List.mem_append_right _ (List.mem_append_right _ (List.mem_append_right _ mKl2))))).1 (hu3.mono fun a o q => (N3 _ (l5_r (List.mem_append_left _ (.tail _ q)))).1)
        (hk2.mono fun a o q => (N3 _ (l5_r (List.mem_append_right _ (List.mem_append_right _ (List.mem_append_right _ q))))).1) (by walk_at "my room") ?_
      k_steps
      (try dsimp only)
      refine wpF.of ?_
      k_steps
      refine law_events ⟨X, _, _, _, T⟩ F3 N3 ll5 hpo4 (List.mem_append_right _ mRl3) (hr3.mono fun a o q => List.mem_append_right _ q) gl gw hA (by walk_at "my room") (by walk_at "my room") ?_
      intro el evv evn etl evs2 h8 tk8 o5 F8 N8 ll6 htu5 hrun5 hlen5
      clear F3 N3 ll5
      k_steps
      rename Fr _ _ _ _ => F3
      rename News _ _ _ _ => N3
      have hel5 := evLen_rows hrun5 (fun r hr => (gw r hr).small)
      refine law_use (pieces_call ⟨X, _, _, _, T⟩ F3.keep (N3 _ (l5_r (.head _))).1 (htu5.mono fun a o q => (N3 _ (l5_r (List.mem_append_left _ (.tail _ q)))).1) hrun5 (by omega) (by omega)) F3 N3 ll6 hA (by walk_at "my room") (by walk_at "my room") ?_
      rintro v h9 tk9 tl F9 N9 ll7 hJ' ; refine e4_3 hJ' ?_; clear hJ'; rintro ql qvs qn qtl rfl rfl hqc
      clear F3 N3 ll6
      k_steps
      rename Fr _ _ _ _ => F3
      rename News _ _ _ _ => N3
      refine law_use (told_call ⟨X, _, _, _, T⟩ F3.keep (N3 _ (l5_r (.head _))).1 (hqc.mono fun a o q => q.mono fun a o q => (N3 _ (l5_r (List.mem_append_left _ (.tail _ q)))).1) (by omega)) F3 N3 ll7 hA (by walk_at "my room") (by walk_at "my room") ?_
      rintro v h10 tk10 tl F10 N10 ll8 hJ' ; refine e4_4 hJ' ?_; clear hJ'; rintro y1 yvs yn ytl rfl rfl hyt hyu
      clear F3 N3 ll7
      k_steps
      rename Fr _ _ _ _ => F3
      rename News _ _ _ _ => N3
      refine eq_rows (N3 _ (l5_r (.head _))).1 (N3 _ (l5_r (List.mem_append_right _ (List.mem_append_right _ (List.mem_append_right _ (List.mem_append_right _ mRl3)))))).1 (hyu.mono fun a o q => (N3 _ (l5_r (List.mem_append_left _ (.tail _ q)))).1)
        (hr3.mono fun a o q => (N3 _ (l5_r (List.mem_append_right _ (List.mem_append_right _ (List.mem_append_right _ (List.mem_append_right _ q)))))).1) (by walk_at "my room") ?_
      k_steps
      (try dsimp only)
      (first | refine hZ _ _ ?_ | (refine hZ2 _ _ ?_; refine hZ _ _ ?_)); exact Ends.ret F3 N3 rfl
end

-- part T6
/- the looks at the law's text, over the library's quick twin -/
set_option maxHeartbeats 8000000 in
theorem said0 : PySem.Challenge.rw_nz0248_01.wellSaid = true := by
  rw [Fast.te9446332074065402090]
  kernel_rfl
set_option maxHeartbeats 8000000 in
theorem X : PySem.Challenge.rw_nz0248_01.Holds := by
  w_on
  refine holds_law said0 fun said => ?_
  refine holds_F (q := hd.view_1) (loose := [Str.ofString "Piece"]) (Xt := fun s => xlAt hd.view_1 [] s && recOk [] s) (XP := XL hd.view_1 []) (Yf := (kHook hd.heap_1 asL asL_eq).obs) (Ya := (kHook hd.heap_1 asL asL_eq).val) (YP := (kHook hd.heap_1 asL asL_eq).says) (N := 4538) left (kHook hd.heap_1 asL asL_eq).of (kHook hd.heap_1 asL asL_eq).keeps (fun s e => xl_of s (Bool.and_eq_true_iff.mp e).1) XL.keeps (by rfl) (by rfl) (by rfl) (fun s e => recFacts_of (Bool.and_eq_true_iff.mp e).2) (by rfl) (by assumption) (by decide +kernel) ⟨rfl, rfl, rfl, rfl, rfl, by decide +kernel⟩ ?hw ?hc
  case hw => w_witness2
  case hc =>
    unfold WalkF
    k_fill
    intro w s₀ s₁ mg mb G Y fa o pm cd doc dV kV ho hd hcd hD hmg hg args vals as hpre hlay hrd hwl hlo
    have KX := kIn_of Y
    refine Ground.open G ?_
    intro T B D TE TW
    wrow_args hpre hlay hrd hwl hlo
    rename Heap.IsList _ _ _ => hL
    rename IntsAre _ _ => hI
    rename (¬ (63 : Int) < _) => hC
    have e1 := mg_of (n := PySem.Str.ofString "law") (v := .ref 282) KX T.g (by k_is)
    have e0 : mg (PySem.Str.ofString "law") = some (.ref fa) := hmg
    rw [e1] at e0
    obtain rfl : 282 = fa := Value.ref.inj (Option.some.inj e0)
    refine wpF_call (law_call ⟨KX, _, _, _, T⟩ (fun _ _ e => e) hL hI (by omega) callerA _ rfl (by decide) (by decide) ?_)
    rintro v h' tk' news' GR rfl
    refine GoodW.toG ⟨.inl ⟨.bool true, .bool true, [], rfl, raisesW_false ?_, .bool true, ?_, unshared_nil⟩, fun b o e => GR.keep b o (by simp [adr]) e, rfl, hg⟩
    · wrow_none_raised
    · wrow_post
end Mine

theorem PySem.Challenge.cw_nz0248_01_holds : PySem.Challenge.rw_nz0248_01.Holds :=
  Mine.X
