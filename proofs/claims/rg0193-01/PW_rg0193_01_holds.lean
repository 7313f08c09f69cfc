import PyProof.Rows.All
import Wide.All
import OpenK.KCell
import Wide.FinOn
import Open.Boot
import Open.Tree
import PyProof.ExcBaseAll.Exception
import PyProof.ExcAttrAll.Exception
import PySem.Challenge.RW_rg0193_01
open PySem PySem.W PySem.Calls PyProof.Rows
set_option Elab.async false
set_option maxRecDepth 100000
set_option maxHeartbeats 0
namespace Mine
/-- a statement of the text's top, by its place -/
noncomputable def dAt (i : Nat) : Stmt := (PySem.Challenge.pw_rg0193_01.main.body).getD i (.Pass ⟨0, 0, 0, 0⟩)
/-- a statement within a class -/
noncomputable def dIn (i j : Nat) : Stmt := (match dAt i with | .ClassDef _ _ _ b .. => b | _ => []).getD j (.Pass ⟨0, 0, 0, 0⟩)
noncomputable def dPar : Stmt → Arguments
  | .FunctionDef _ a .. => a
  | _ => default
noncomputable def dBody : Stmt → List Stmt
  | .FunctionDef _ _ b .. => b
  | _ => default
noncomputable def dScope : Stmt → Scope
  | .FunctionDef _ _ _ _ _ _ s .. => s
  | _ => default
/-- the objects that stand when the text has run, as far as the law comes to them; printed by a program (wip/PR.lean, wip/genB.py) -/
noncomputable def hk (P : Params) : Frag := [
  (2, ⟨.none, none, .dict #[⟨PyData.keyHash P (.ofString "type.__subclasses__.Exception.0"), .str (.ofString "type.__subclasses__.Exception.0") 223, .int (39) 0⟩, ⟨PyData.keyHash P (.ofString "type.__subclasses__.Exception.n"), .str (.ofString "type.__subclasses__.Exception.n") 224, .int (1) 0⟩] 2, #[]⟩),
  (3, ⟨.type "dict", none, .dict #[⟨PyData.keyHash P (.ofString "__name__"), .str (.ofString "__name__") 165, .str (.ofString "law_rg0193_01") 648⟩, ⟨PyData.keyHash P (.ofString "__doc__"), .str (.ofString "__doc__") 166, .none⟩, ⟨PyData.keyHash P (.ofString "__package__"), .str (.ofString "__package__") 167, .none⟩, ⟨PyData.keyHash P (.ofString "__loader__"), .str (.ofString "__loader__") 168, .builtin "__main__.__loader__#opaque"⟩, ⟨PyData.keyHash P (.ofString "__spec__"), .str (.ofString "__spec__") 169, .none⟩, ⟨PyData.keyHash P (.ofString "__annotations__"), .str (.ofString "__annotations__") 170, .ref 6⟩, ⟨PyData.keyHash P (.ofString "__builtins__"), .str (.ofString "__builtins__") 171, .ref 4⟩, ⟨PyData.keyHash P (.ofString "__file__"), .str (.ofString "__file__") 173, .str (.ofString "/claim/cut.py") 172⟩, ⟨PyData.keyHash P (.ofString "__cached__"), .str (.ofString "__cached__") 174, .none⟩, ⟨PyData.keyHash P (.ofString "_wall"), .str (.ofString "_wall") 193, .ref 21⟩, ⟨PyData.keyHash P (.ofString "RowsError"), .str (.ofString "RowsError") 226, .ref 39⟩, ⟨PyData.keyHash P (.ofString "MachineFault"), .str (.ofString "MachineFault") 242, .ref 52⟩, ⟨PyData.keyHash P (.ofString "Thrown"), .str (.ofString "Thrown") 267, .ref 71⟩, ⟨PyData.keyHash P (.ofString "text_value"), .str (.ofString "text_value") 276, .ref 80⟩, ⟨PyData.keyHash P (.ofString "error_kind"), .str (.ofString "error_kind") 283, .ref 87⟩, ⟨PyData.keyHash P (.ofString "error_value"), .str (.ofString "error_value") 291, .ref 94⟩, ⟨PyData.keyHash P (.ofString "thrown"), .str (.ofString "thrown") 299, .ref 101⟩, ⟨PyData.keyHash P (.ofString "thrown_text"), .str (.ofString "thrown_text") 307, .ref 108⟩, ⟨PyData.keyHash P (.ofString "literal_int"), .str (.ofString "literal_int") 315, .ref 115⟩, ⟨PyData.keyHash P (.ofString "named"), .str (.ofString "named") 325, .ref 124⟩, ⟨PyData.keyHash P (.ofString "Thing"), .str (.ofString "Thing") 360, .ref 141⟩, ⟨PyData.keyHash P (.ofString "Heap"), .str (.ofString "Heap") 431, .ref 197⟩, ⟨PyData.keyHash P (.ofString "array_kind"), .str (.ofString "array_kind") 439, .ref 208⟩, ⟨PyData.keyHash P (.ofString "MOST_ITEMS"), .str (.ofString "MOST_ITEMS") 443, .int (20000) 442⟩, ⟨PyData.keyHash P (.ofString "many_of"), .str (.ofString "many_of") 452, .ref 215⟩, ⟨PyData.keyHash P (.ofString "strides_of"), .str (.ofString "strides_of") 462, .ref 222⟩, ⟨PyData.keyHash P (.ofString "offset_of"), .str (.ofString "offset_of") 474, .ref 229⟩, ⟨PyData.keyHash P (.ofString "index_of"), .str (.ofString "index_of") 484, .ref 236⟩, ⟨PyData.keyHash P (.ofString "bounds_fault"), .str (.ofString "bounds_fault") 490, .ref 241⟩, ⟨PyData.keyHash P (.ofString "check_sizes"), .str (.ofString "check_sizes") 496, .ref 246⟩, ⟨PyData.keyHash P (.ofString "is_array"), .str (.ofString "is_array") 503, .ref 253⟩, ⟨PyData.keyHash P (.ofString "parent_of"), .str (.ofString "parent_of") 511, .ref 260⟩, ⟨PyData.keyHash P (.ofString "sizes_of"), .str (.ofString "sizes_of") 519, .ref 267⟩, ⟨PyData.keyHash P (.ofString "layout_of"), .str (.ofString "layout_of") 527, .ref 274⟩, ⟨PyData.keyHash P (.ofString "place_in_parent"), .str (.ofString "place_in_parent") 542, .ref 281⟩, ⟨PyData.keyHash P (.ofString "places_of"), .str (.ofString "places_of") 548, .ref 286⟩, ⟨PyData.keyHash P (.ofString "items_of"), .str (.ofString "items_of") 554, .ref 291⟩, ⟨PyData.keyHash P (.ofString "item_at"), .str (.ofString "item_at") 565, .ref 298⟩, ⟨PyData.keyHash P (.ofString "set_item"), .str (.ofString "set_item") 576, .ref 305⟩, ⟨PyData.keyHash P (.ofString "made"), .str (.ofString "made") 586, .ref 312⟩, ⟨PyData.keyHash P (.ofString "need_row"), .str (.ofString "need_row") 594, .ref 319⟩, ⟨PyData.keyHash P (.ofString "popped"), .str (.ofString "popped") 604, .ref 326⟩, ⟨PyData.keyHash P (.ofString "taken_row"), .str (.ofString "taken_row") 618, .ref 333⟩, ⟨PyData.keyHash P (.ofString "edge_indices"), .str (.ofString "edge_indices") 629, .ref 340⟩, ⟨PyData.keyHash P (.ofString "edge_of"), .str (.ofString "edge_of") 641, .ref 347⟩, ⟨PyData.keyHash P (.ofString "view_of"), .str (.ofString "view_of") 647, .ref 352⟩, ⟨PyData.keyHash P (.ofString "_law_rim"), .str (.ofString "_law_rim") 658, .ref 359⟩, ⟨PyData.keyHash P (.ofString "_law_notch"), .str (.ofString "_law_notch") 667, .ref 366⟩, ⟨PyData.keyHash P (.ofString "_law_int"), .str (.ofString "_law_int") 674, .ref 373⟩, ⟨PyData.keyHash P (.ofString "_law_heard"), .str (.ofString "_law_heard") 682, .ref 380⟩, ⟨PyData.keyHash P (.ofString "_law_shrunk_right"), .str (.ofString "_law_shrunk_right") 688, .ref 385⟩, ⟨PyData.keyHash P (.ofString "_law_sizes_right"), .str (.ofString "_law_sizes_right") 694, .ref 390⟩, ⟨PyData.keyHash P (.ofString "_law_ones_right"), .str (.ofString "_law_ones_right") 700, .ref 395⟩, ⟨PyData.keyHash P (.ofString "law"), .str (.ofString "law") 711, .ref 402⟩] 54, #[]⟩),
  (15, ⟨.type "tuple", none, .seq #[] 0, #[]⟩),
  (17, ⟨.type "tuple", none, .seq #[.str (.ofString "k") 190] 0, #[]⟩),
  (18, ⟨.type "tuple", none, .seq #[] 0, #[]⟩),
  (20, ⟨.type "code", none, .fields #[.str (.ofString "_wall") 187, .str (.ofString "_wall") 188, .str (.ofString "/claim/cut.py") 189, .int (1) 0, .int (1) 0, .int (0) 0, .int (0) 0, .int (3) 0, .ref 15, .bool true, .int (181) 0, .ref 16, .none, .ref 17, .ref 18, .ref 19, .int (191) 0, .int (1) 0, .str (.ofString "/claim/cut.py") 192], #[]⟩),
  (21, ⟨.type "function", none, .func ⟨.ofString "_wall", .ofString "_wall", dPar (dAt 0), .stmts (dBody (dAt 0)), dScope (dAt 0), 3, [], .none, .none, .none, .str (.ofString "__main__") 164, none, .ref 20, .none, 0⟩, #[]⟩),
  (22, ⟨.type "tuple", none, .seq #[.type "Exception"] 0, #[]⟩),
  (29, ⟨.type "tuple", none, .seq #[.none] 0, #[]⟩),
  (30, ⟨.type "tuple", none, .seq #[] 0, #[]⟩),
  (32, ⟨.type "tuple", none, .seq #[.str (.ofString "self") 211, .str (.ofString "message") 212, .str (.ofString "spot") 213] 0, #[]⟩),
  (33, ⟨.type "tuple", none, .seq #[] 0, #[]⟩),
  (35, ⟨.type "code", none, .fields #[.str (.ofString "__init__") 208, .str (.ofString "RowsError.__init__") 209, .str (.ofString "/claim/cut.py") 210, .int (7) 0, .int (3) 0, .int (0) 0, .int (0) 0, .int (3) 0, .ref 30, .bool true, .int (181) 0, .ref 31, .none, .ref 32, .ref 33, .ref 34, .int (214) 0, .int (7) 0, .str (.ofString "/claim/cut.py") 215], #[]⟩),
  (36, ⟨.type "function", none, .func ⟨.ofString "__init__", .ofString "RowsError.__init__", dPar (dIn 2 0), .stmts (dBody (dIn 2 0)), dScope (dIn 2 0), 3, [], .ref 29, .none, .none, .str (.ofString "methodrows.errors") 194, none, .ref 35, .none, 0⟩, #[]⟩),
  (37, ⟨.type "tuple", none, .seq #[.str (.ofString "message") 217, .str (.ofString "spot") 218] 0, #[]⟩),
  (38, ⟨.type "dict", none, .dict #[⟨PyData.keyHash P (.ofString "__module__"), .str (.ofString "__module__") 203, .str (.ofString "methodrows.errors") 194⟩, ⟨PyData.keyHash P (.ofString "__firstlineno__"), .str (.ofString "__firstlineno__") 207, .int (5) 206⟩, ⟨PyData.keyHash P (.ofString "__init__"), .str (.ofString "__init__") 216, .ref 36⟩, ⟨PyData.keyHash P (.ofString "__static_attributes__"), .str (.ofString "__static_attributes__") 219, .ref 37⟩, ⟨PyData.keyHash P (.ofString "__weakref__"), .str (.ofString "__weakref__") 221, .ref 40⟩, ⟨PyData.keyHash P (.ofString "__doc__"), .str (.ofString "__doc__") 222, .none⟩] 3, #[]⟩),
  (39, ⟨.type "type", none, .cls ⟨.ofString "RowsError", [.type "Exception"], [.ref 39, .type "Exception", .type "BaseException", .type "object"], 38, .ofString "RowsError", true, [], [.ref 52, .ref 71], false, none, false⟩, #[(some (.ref 22)), none, (some (.str (.ofString "RowsError") 196)), (some (.str (.ofString "RowsError") 204)), (some (.builtin "Exception.__new__")), (some (.bool true))]⟩),
  (40, ⟨.type "getset_descriptor", none, .fields #[.str (.ofString "__weakref__") 220, .ref 39, .builtin "ExceptionGroup.__weakref__", .none], #[]⟩),
  (43, ⟨.type "tuple", none, .seq #[.ref 39] 0, #[]⟩),
  (50, ⟨.type "tuple", none, .seq #[] 0, #[]⟩),
  (51, ⟨.type "dict", none, .dict #[⟨PyData.keyHash P (.ofString "__module__"), .str (.ofString "__module__") 234, .str (.ofString "methodrows.errors") 194⟩, ⟨PyData.keyHash P (.ofString "__firstlineno__"), .str (.ofString "__firstlineno__") 238, .int (11) 237⟩, ⟨PyData.keyHash P (.ofString "__static_attributes__"), .str (.ofString "__static_attributes__") 239, .ref 50⟩, ⟨PyData.keyHash P (.ofString "__doc__"), .str (.ofString "__doc__") 240, .none⟩] 2, #[]⟩),
  (52, ⟨.type "type", none, .cls ⟨.ofString "MachineFault", [.ref 39], [.ref 52, .ref 39, .type "Exception", .type "BaseException", .type "object"], 51, .ofString "MachineFault", true, [], [], false, none, false⟩, #[(some (.ref 43)), none, (some (.str (.ofString "MachineFault") 227)), (some (.str (.ofString "MachineFault") 235)), (some (.builtin "Exception.__new__")), (some (.bool true))]⟩),
  (55, ⟨.type "tuple", none, .seq #[.ref 39] 0, #[]⟩),
  (62, ⟨.type "tuple", none, .seq #[] 0, #[]⟩),
  (64, ⟨.type "tuple", none, .seq #[.str (.ofString "self") 258, .str (.ofString "value") 259] 0, #[]⟩),
  (65, ⟨.type "tuple", none, .seq #[] 0, #[]⟩),
  (67, ⟨.type "code", none, .fields #[.str (.ofString "__init__") 255, .str (.ofString "Thrown.__init__") 256, .str (.ofString "/claim/cut.py") 257, .int (15) 0, .int (2) 0, .int (0) 0, .int (0) 0, .int (3) 0, .ref 62, .bool true, .int (181) 0, .ref 63, .none, .ref 64, .ref 65, .ref 66, .int (260) 0, .int (15) 0, .str (.ofString "/claim/cut.py") 261], #[]⟩),
  (68, ⟨.type "function", none, .func ⟨.ofString "__init__", .ofString "Thrown.__init__", dPar (dIn 4 0), .stmts (dBody (dIn 4 0)), dScope (dIn 4 0), 3, [], .none, .none, .none, .str (.ofString "methodrows.errors") 194, none, .ref 67, .none, 0⟩, #[]⟩),
  (69, ⟨.type "tuple", none, .seq #[.str (.ofString "value") 263] 0, #[]⟩),
  (70, ⟨.type "dict", none, .dict #[⟨PyData.keyHash P (.ofString "__module__"), .str (.ofString "__module__") 250, .str (.ofString "methodrows.errors") 194⟩, ⟨PyData.keyHash P (.ofString "__firstlineno__"), .str (.ofString "__firstlineno__") 254, .int (13) 253⟩, ⟨PyData.keyHash P (.ofString "__init__"), .str (.ofString "__init__") 262, .ref 68⟩, ⟨PyData.keyHash P (.ofString "__static_attributes__"), .str (.ofString "__static_attributes__") 264, .ref 69⟩, ⟨PyData.keyHash P (.ofString "__doc__"), .str (.ofString "__doc__") 265, .none⟩] 2, #[]⟩),
  (71, ⟨.type "type", none, .cls ⟨.ofString "Thrown", [.ref 39], [.ref 71, .ref 39, .type "Exception", .type "BaseException", .type "object"], 70, .ofString "Thrown", true, [], [], false, none, false⟩, #[(some (.ref 55)), none, (some (.str (.ofString "Thrown") 243)), (some (.str (.ofString "Thrown") 251)), (some (.builtin "Exception.__new__")), (some (.bool true))]⟩),
  (74, ⟨.type "tuple", none, .seq #[] 0, #[]⟩),
  (76, ⟨.type "tuple", none, .seq #[.str (.ofString "text") 273] 0, #[]⟩),
  (77, ⟨.type "tuple", none, .seq #[] 0, #[]⟩),
  (79, ⟨.type "code", none, .fields #[.str (.ofString "text_value") 270, .str (.ofString "text_value") 271, .str (.ofString "/claim/cut.py") 272, .int (19) 0, .int (1) 0, .int (0) 0, .int (0) 0, .int (3) 0, .ref 74, .bool true, .int (181) 0, .ref 75, .none, .ref 76, .ref 77, .ref 78, .int (274) 0, .int (19) 0, .str (.ofString "/claim/cut.py") 275], #[]⟩),
  (80, ⟨.type "function", none, .func ⟨.ofString "text_value", .ofString "text_value", dPar (dAt 6), .stmts (dBody (dAt 6)), dScope (dAt 6), 3, [], .none, .none, .none, .str (.ofString "methodrows.forms") 268, none, .ref 79, .none, 0⟩, #[]⟩),
  (81, ⟨.type "tuple", none, .seq #[] 0, #[]⟩),
  (83, ⟨.type "tuple", none, .seq #[.str (.ofString "name") 280] 0, #[]⟩),
  (84, ⟨.type "tuple", none, .seq #[] 0, #[]⟩),
  (86, ⟨.type "code", none, .fields #[.str (.ofString "error_kind") 277, .str (.ofString "error_kind") 278, .str (.ofString "/claim/cut.py") 279, .int (21) 0, .int (1) 0, .int (0) 0, .int (0) 0, .int (3) 0, .ref 81, .bool true, .int (181) 0, .ref 82, .none, .ref 83, .ref 84, .ref 85, .int (281) 0, .int (21) 0, .str (.ofString "/claim/cut.py") 282], #[]⟩),
  (87, ⟨.type "function", none, .func ⟨.ofString "error_kind", .ofString "error_kind", dPar (dAt 7), .stmts (dBody (dAt 7)), dScope (dAt 7), 3, [], .none, .none, .none, .str (.ofString "methodrows.forms") 268, none, .ref 86, .none, 0⟩, #[]⟩),
  (88, ⟨.type "tuple", none, .seq #[] 0, #[]⟩),
  (90, ⟨.type "tuple", none, .seq #[.str (.ofString "name") 287, .str (.ofString "parts") 288] 0, #[]⟩),
  (91, ⟨.type "tuple", none, .seq #[] 0, #[]⟩),
  (93, ⟨.type "code", none, .fields #[.str (.ofString "error_value") 284, .str (.ofString "error_value") 285, .str (.ofString "/claim/cut.py") 286, .int (23) 0, .int (2) 0, .int (0) 0, .int (0) 0, .int (3) 0, .ref 88, .bool true, .int (181) 0, .ref 89, .none, .ref 90, .ref 91, .ref 92, .int (289) 0, .int (23) 0, .str (.ofString "/claim/cut.py") 290], #[]⟩),
  (94, ⟨.type "function", none, .func ⟨.ofString "error_value", .ofString "error_value", dPar (dAt 8), .stmts (dBody (dAt 8)), dScope (dAt 8), 3, [], .none, .none, .none, .str (.ofString "methodrows.forms") 268, none, .ref 93, .none, 0⟩, #[]⟩),
  (95, ⟨.type "tuple", none, .seq #[] 0, #[]⟩),
  (97, ⟨.type "tuple", none, .seq #[.str (.ofString "name") 295, .str (.ofString "parts") 296] 0, #[]⟩),
  (98, ⟨.type "tuple", none, .seq #[] 0, #[]⟩),
  (100, ⟨.type "code", none, .fields #[.str (.ofString "thrown") 292, .str (.ofString "thrown") 293, .str (.ofString "/claim/cut.py") 294, .int (25) 0, .int (2) 0, .int (0) 0, .int (0) 0, .int (3) 0, .ref 95, .bool true, .int (181) 0, .ref 96, .none, .ref 97, .ref 98, .ref 99, .int (297) 0, .int (25) 0, .str (.ofString "/claim/cut.py") 298], #[]⟩),
  (101, ⟨.type "function", none, .func ⟨.ofString "thrown", .ofString "thrown", dPar (dAt 9), .stmts (dBody (dAt 9)), dScope (dAt 9), 3, [], .none, .none, .none, .str (.ofString "methodrows.forms") 268, none, .ref 100, .none, 0⟩, #[]⟩),
  (102, ⟨.type "tuple", none, .seq #[] 0, #[]⟩),
  (104, ⟨.type "tuple", none, .seq #[.str (.ofString "name") 303, .str (.ofString "text") 304] 0, #[]⟩),
  (105, ⟨.type "tuple", none, .seq #[] 0, #[]⟩),
  (107, ⟨.type "code", none, .fields #[.str (.ofString "thrown_text") 300, .str (.ofString "thrown_text") 301, .str (.ofString "/claim/cut.py") 302, .int (27) 0, .int (2) 0, .int (0) 0, .int (0) 0, .int (3) 0, .ref 102, .bool true, .int (181) 0, .ref 103, .none, .ref 104, .ref 105, .ref 106, .int (305) 0, .int (27) 0, .str (.ofString "/claim/cut.py") 306], #[]⟩),
  (108, ⟨.type "function", none, .func ⟨.ofString "thrown_text", .ofString "thrown_text", dPar (dAt 10), .stmts (dBody (dAt 10)), dScope (dAt 10), 3, [], .none, .none, .none, .str (.ofString "methodrows.forms") 268, none, .ref 107, .none, 0⟩, #[]⟩),
  (109, ⟨.type "tuple", none, .seq #[] 0, #[]⟩),
  (111, ⟨.type "tuple", none, .seq #[.str (.ofString "number") 311, .str (.ofString "kind") 312] 0, #[]⟩),
  (112, ⟨.type "tuple", none, .seq #[] 0, #[]⟩),
  (114, ⟨.type "code", none, .fields #[.str (.ofString "literal_int") 308, .str (.ofString "literal_int") 309, .str (.ofString "/claim/cut.py") 310, .int (29) 0, .int (1) 0, .int (0) 0, .int (0) 0, .int (3) 0, .ref 109, .bool true, .int (181) 0, .ref 110, .none, .ref 111, .ref 112, .ref 113, .int (313) 0, .int (29) 0, .str (.ofString "/claim/cut.py") 314], #[]⟩),
  (115, ⟨.type "function", none, .func ⟨.ofString "literal_int", .ofString "literal_int", dPar (dAt 11), .stmts (dBody (dAt 11)), dScope (dAt 11), 3, [], .none, .none, .none, .str (.ofString "methodrows.forms") 268, none, .ref 114, .none, 0⟩, #[]⟩),
  (116, ⟨.type "tuple", none, .seq #[] 0, #[]⟩),
  (117, ⟨.type "tuple", none, .seq #[.ref 116] 0, #[]⟩),
  (118, ⟨.type "tuple", none, .seq #[] 0, #[]⟩),
  (120, ⟨.type "tuple", none, .seq #[.str (.ofString "name") 321, .str (.ofString "params") 322] 0, #[]⟩),
  (121, ⟨.type "tuple", none, .seq #[] 0, #[]⟩),
  (123, ⟨.type "code", none, .fields #[.str (.ofString "named") 318, .str (.ofString "named") 319, .str (.ofString "/claim/cut.py") 320, .int (33) 0, .int (2) 0, .int (0) 0, .int (0) 0, .int (3) 0, .ref 118, .bool true, .int (181) 0, .ref 119, .none, .ref 120, .ref 121, .ref 122, .int (323) 0, .int (33) 0, .str (.ofString "/claim/cut.py") 324], #[]⟩),
  (124, ⟨.type "function", none, .func ⟨.ofString "named", .ofString "named", dPar (dAt 13), .stmts (dBody (dAt 13)), dScope (dAt 13), 3, [], .ref 117, .none, .none, .str (.ofString "methodrows.kind_terms") 316, none, .ref 123, .none, 0⟩, #[]⟩),
  (132, ⟨.type "tuple", none, .seq #[] 0, #[]⟩),
  (134, ⟨.type "tuple", none, .seq #[.str (.ofString "self") 343, .str (.ofString "kind") 344, .str (.ofString "fields") 345, .str (.ofString "sizes") 346] 0, #[]⟩),
  (135, ⟨.type "tuple", none, .seq #[] 0, #[]⟩),
  (137, ⟨.type "code", none, .fields #[.str (.ofString "__init__") 340, .str (.ofString "Thing.__init__") 341, .str (.ofString "/claim/cut.py") 342, .int (38) 0, .int (4) 0, .int (0) 0, .int (0) 0, .int (3) 0, .ref 132, .bool true, .int (181) 0, .ref 133, .none, .ref 134, .ref 135, .ref 136, .int (347) 0, .int (38) 0, .str (.ofString "/claim/cut.py") 348], #[]⟩),
  (138, ⟨.type "function", none, .func ⟨.ofString "__init__", .ofString "Thing.__init__", dPar (dIn 15 0), .stmts (dBody (dIn 15 0)), dScope (dIn 15 0), 3, [], .none, .none, .none, .str (.ofString "methodrows.values") 326, none, .ref 137, .none, 0⟩, #[]⟩),
  (139, ⟨.type "tuple", none, .seq #[.str (.ofString "fields") 350, .str (.ofString "kind") 351, .str (.ofString "sizes") 352] 0, #[]⟩),
  (140, ⟨.type "dict", none, .dict #[⟨PyData.keyHash P (.ofString "__module__"), .str (.ofString "__module__") 335, .str (.ofString "methodrows.values") 326⟩, ⟨PyData.keyHash P (.ofString "__firstlineno__"), .str (.ofString "__firstlineno__") 339, .int (36) 338⟩, ⟨PyData.keyHash P (.ofString "__init__"), .str (.ofString "__init__") 349, .ref 138⟩, ⟨PyData.keyHash P (.ofString "__static_attributes__"), .str (.ofString "__static_attributes__") 353, .ref 139⟩, ⟨PyData.keyHash P (.ofString "__dict__"), .str (.ofString "__dict__") 355, .ref 142⟩, ⟨PyData.keyHash P (.ofString "__weakref__"), .str (.ofString "__weakref__") 357, .ref 143⟩, ⟨PyData.keyHash P (.ofString "__doc__"), .str (.ofString "__doc__") 358, .none⟩] 4, #[]⟩),
  (141, ⟨.type "type", none, .cls ⟨.ofString "Thing", [.type "object"], [.ref 141, .type "object"], 140, .ofString "Thing", true, [], [], false, none, false⟩, #[none, none, (some (.str (.ofString "Thing") 328)), (some (.str (.ofString "Thing") 336)), (some (.builtin "object.__new__")), (some (.bool true))]⟩),
  (142, ⟨.type "getset_descriptor", none, .fields #[.str (.ofString "__dict__") 354, .ref 141, .builtin "function.__dict__", .builtin "function.__dict__#set"], #[]⟩),
  (143, ⟨.type "getset_descriptor", none, .fields #[.str (.ofString "__weakref__") 356, .ref 141, .builtin "ExceptionGroup.__weakref__", .none], #[]⟩),
  (153, ⟨.type "tuple", none, .seq #[] 0, #[]⟩),
  (155, ⟨.type "tuple", none, .seq #[.str (.ofString "self") 376] 0, #[]⟩),
  (156, ⟨.type "tuple", none, .seq #[] 0, #[]⟩),
  (158, ⟨.type "code", none, .fields #[.str (.ofString "__init__") 373, .str (.ofString "Heap.__init__") 374, .str (.ofString "/claim/cut.py") 375, .int (44) 0, .int (1) 0, .int (0) 0, .int (0) 0, .int (3) 0, .ref 153, .bool true, .int (181) 0, .ref 154, .none, .ref 155, .ref 156, .ref 157, .int (377) 0, .int (44) 0, .str (.ofString "/claim/cut.py") 378], #[]⟩),
  (159, ⟨.type "function", none, .func ⟨.ofString "__init__", .ofString "Heap.__init__", dPar (dIn 16 0), .stmts (dBody (dIn 16 0)), dScope (dIn 16 0), 3, [], .none, .none, .none, .str (.ofString "methodrows.values") 326, none, .ref 158, .none, 0⟩, #[]⟩),
  (160, ⟨.type "tuple", none, .seq #[] 0, #[]⟩),
  (162, ⟨.type "tuple", none, .seq #[.str (.ofString "self") 383, .str (.ofString "thing") 384] 0, #[]⟩),
  (163, ⟨.type "tuple", none, .seq #[] 0, #[]⟩),
  (165, ⟨.type "code", none, .fields #[.str (.ofString "put") 380, .str (.ofString "Heap.put") 381, .str (.ofString "/claim/cut.py") 382, .int (47) 0, .int (2) 0, .int (0) 0, .int (0) 0, .int (3) 0, .ref 160, .bool true, .int (181) 0, .ref 161, .none, .ref 162, .ref 163, .ref 164, .int (385) 0, .int (47) 0, .str (.ofString "/claim/cut.py") 386], #[]⟩),
  (166, ⟨.type "function", none, .func ⟨.ofString "put", .ofString "Heap.put", dPar (dIn 16 1), .stmts (dBody (dIn 16 1)), dScope (dIn 16 1), 3, [], .none, .none, .none, .str (.ofString "methodrows.values") 326, none, .ref 165, .none, 0⟩, #[]⟩),
  (167, ⟨.type "tuple", none, .seq #[] 0, #[]⟩),
  (169, ⟨.type "tuple", none, .seq #[.str (.ofString "self") 391, .str (.ofString "kind") 392, .str (.ofString "fields") 393] 0, #[]⟩),
  (170, ⟨.type "tuple", none, .seq #[] 0, #[]⟩),
  (172, ⟨.type "code", none, .fields #[.str (.ofString "new_object") 388, .str (.ofString "Heap.new_object") 389, .str (.ofString "/claim/cut.py") 390, .int (51) 0, .int (3) 0, .int (0) 0, .int (0) 0, .int (3) 0, .ref 167, .bool true, .int (181) 0, .ref 168, .none, .ref 169, .ref 170, .ref 171, .int (394) 0, .int (51) 0, .str (.ofString "/claim/cut.py") 395], #[]⟩),
  (173, ⟨.type "function", none, .func ⟨.ofString "new_object", .ofString "Heap.new_object", dPar (dIn 16 2), .stmts (dBody (dIn 16 2)), dScope (dIn 16 2), 3, [], .none, .none, .none, .str (.ofString "methodrows.values") 326, none, .ref 172, .none, 0⟩, #[]⟩),
  (174, ⟨.type "tuple", none, .seq #[] 0, #[]⟩),
  (176, ⟨.type "tuple", none, .seq #[.str (.ofString "self") 400, .str (.ofString "kind") 401, .str (.ofString "sizes") 402, .str (.ofString "items") 403] 0, #[]⟩),
  (177, ⟨.type "tuple", none, .seq #[] 0, #[]⟩),
  (179, ⟨.type "code", none, .fields #[.str (.ofString "new_array") 397, .str (.ofString "Heap.new_array") 398, .str (.ofString "/claim/cut.py") 399, .int (54) 0, .int (4) 0, .int (0) 0, .int (0) 0, .int (3) 0, .ref 174, .bool true, .int (181) 0, .ref 175, .none, .ref 176, .ref 177, .ref 178, .int (404) 0, .int (54) 0, .str (.ofString "/claim/cut.py") 405], #[]⟩),
  (180, ⟨.type "function", none, .func ⟨.ofString "new_array", .ofString "Heap.new_array", dPar (dIn 16 3), .stmts (dBody (dIn 16 3)), dScope (dIn 16 3), 3, [], .none, .none, .none, .str (.ofString "methodrows.values") 326, none, .ref 179, .none, 0⟩, #[]⟩),
  (181, ⟨.type "tuple", none, .seq #[] 0, #[]⟩),
  (183, ⟨.type "tuple", none, .seq #[.str (.ofString "self") 410, .str (.ofString "value") 411] 0, #[]⟩),
  (184, ⟨.type "tuple", none, .seq #[] 0, #[]⟩),
  (186, ⟨.type "code", none, .fields #[.str (.ofString "new_box") 407, .str (.ofString "Heap.new_box") 408, .str (.ofString "/claim/cut.py") 409, .int (57) 0, .int (2) 0, .int (0) 0, .int (0) 0, .int (3) 0, .ref 181, .bool true, .int (181) 0, .ref 182, .none, .ref 183, .ref 184, .ref 185, .int (412) 0, .int (57) 0, .str (.ofString "/claim/cut.py") 413], #[]⟩),
  (187, ⟨.type "function", none, .func ⟨.ofString "new_box", .ofString "Heap.new_box", dPar (dIn 16 4), .stmts (dBody (dIn 16 4)), dScope (dIn 16 4), 3, [], .none, .none, .none, .str (.ofString "methodrows.values") 326, none, .ref 186, .none, 0⟩, #[]⟩),
  (188, ⟨.type "tuple", none, .seq #[] 0, #[]⟩),
  (190, ⟨.type "tuple", none, .seq #[.str (.ofString "self") 418, .str (.ofString "address") 419] 0, #[]⟩),
  (191, ⟨.type "tuple", none, .seq #[] 0, #[]⟩),
  (193, ⟨.type "code", none, .fields #[.str (.ofString "object") 415, .str (.ofString "Heap.object") 416, .str (.ofString "/claim/cut.py") 417, .int (60) 0, .int (2) 0, .int (0) 0, .int (0) 0, .int (3) 0, .ref 188, .bool true, .int (181) 0, .ref 189, .none, .ref 190, .ref 191, .ref 192, .int (420) 0, .int (60) 0, .str (.ofString "/claim/cut.py") 421], #[]⟩),
  (194, ⟨.type "function", none, .func ⟨.ofString "object", .ofString "Heap.object", dPar (dIn 16 5), .stmts (dBody (dIn 16 5)), dScope (dIn 16 5), 3, [], .none, .none, .none, .str (.ofString "methodrows.values") 326, none, .ref 193, .none, 0⟩, #[]⟩),
  (195, ⟨.type "tuple", none, .seq #[.str (.ofString "things") 423] 0, #[]⟩),
  (196, ⟨.type "dict", none, .dict #[⟨PyData.keyHash P (.ofString "__module__"), .str (.ofString "__module__") 368, .str (.ofString "methodrows.values") 326⟩, ⟨PyData.keyHash P (.ofString "__firstlineno__"), .str (.ofString "__firstlineno__") 372, .int (42) 371⟩, ⟨PyData.keyHash P (.ofString "__init__"), .str (.ofString "__init__") 379, .ref 159⟩, ⟨PyData.keyHash P (.ofString "put"), .str (.ofString "put") 387, .ref 166⟩, ⟨PyData.keyHash P (.ofString "new_object"), .str (.ofString "new_object") 396, .ref 173⟩, ⟨PyData.keyHash P (.ofString "new_array"), .str (.ofString "new_array") 406, .ref 180⟩, ⟨PyData.keyHash P (.ofString "new_box"), .str (.ofString "new_box") 414, .ref 187⟩, ⟨PyData.keyHash P (.ofString "object"), .str (.ofString "object") 422, .ref 194⟩, ⟨PyData.keyHash P (.ofString "__static_attributes__"), .str (.ofString "__static_attributes__") 424, .ref 195⟩, ⟨PyData.keyHash P (.ofString "__dict__"), .str (.ofString "__dict__") 426, .ref 198⟩, ⟨PyData.keyHash P (.ofString "__weakref__"), .str (.ofString "__weakref__") 428, .ref 199⟩, ⟨PyData.keyHash P (.ofString "__doc__"), .str (.ofString "__doc__") 429, .none⟩] 4, #[]⟩),
  (197, ⟨.type "type", none, .cls ⟨.ofString "Heap", [.type "object"], [.ref 197, .type "object"], 196, .ofString "Heap", true, [], [], false, none, false⟩, #[none, none, (some (.str (.ofString "Heap") 361)), (some (.str (.ofString "Heap") 369)), (some (.builtin "object.__new__")), (some (.bool true))]⟩),
  (198, ⟨.type "getset_descriptor", none, .fields #[.str (.ofString "__dict__") 425, .ref 197, .builtin "function.__dict__", .builtin "function.__dict__#set"], #[]⟩),
  (199, ⟨.type "getset_descriptor", none, .fields #[.str (.ofString "__weakref__") 427, .ref 197, .builtin "ExceptionGroup.__weakref__", .none], #[]⟩),
  (202, ⟨.type "tuple", none, .seq #[] 0, #[]⟩),
  (204, ⟨.type "tuple", none, .seq #[.str (.ofString "item") 435, .str (.ofString "rank") 436] 0, #[]⟩),
  (205, ⟨.type "tuple", none, .seq #[] 0, #[]⟩),
  (207, ⟨.type "code", none, .fields #[.str (.ofString "array_kind") 432, .str (.ofString "array_kind") 433, .str (.ofString "/claim/cut.py") 434, .int (64) 0, .int (2) 0, .int (0) 0, .int (0) 0, .int (3) 0, .ref 202, .bool true, .int (181) 0, .ref 203, .none, .ref 204, .ref 205, .ref 206, .int (437) 0, .int (64) 0, .str (.ofString "/claim/cut.py") 438], #[]⟩),
  (208, ⟨.type "function", none, .func ⟨.ofString "array_kind", .ofString "array_kind", dPar (dAt 17), .stmts (dBody (dAt 17)), dScope (dAt 17), 3, [], .none, .none, .none, .str (.ofString "methodrows.values") 326, none, .ref 207, .none, 0⟩, #[]⟩),
  (209, ⟨.type "tuple", none, .seq #[] 0, #[]⟩),
  (211, ⟨.type "tuple", none, .seq #[.str (.ofString "sizes") 447, .str (.ofString "many") 448, .str (.ofString "size") 449] 0, #[]⟩),
  (212, ⟨.type "tuple", none, .seq #[] 0, #[]⟩),
  (214, ⟨.type "code", none, .fields #[.str (.ofString "many_of") 444, .str (.ofString "many_of") 445, .str (.ofString "/claim/cut.py") 446, .int (68) 0, .int (1) 0, .int (0) 0, .int (0) 0, .int (3) 0, .ref 209, .bool true, .int (181) 0, .ref 210, .none, .ref 211, .ref 212, .ref 213, .int (450) 0, .int (68) 0, .str (.ofString "/claim/cut.py") 451], #[]⟩),
  (215, ⟨.type "function", none, .func ⟨.ofString "many_of", .ofString "many_of", dPar (dAt 20), .stmts (dBody (dAt 20)), dScope (dAt 20), 3, [], .none, .none, .none, .str (.ofString "methodrows.arrays") 440, none, .ref 214, .none, 0⟩, #[]⟩),
  (216, ⟨.type "tuple", none, .seq #[] 0, #[]⟩),
  (218, ⟨.type "tuple", none, .seq #[.str (.ofString "sizes") 456, .str (.ofString "found") 457, .str (.ofString "far") 458, .str (.ofString "size") 459] 0, #[]⟩),
  (219, ⟨.type "tuple", none, .seq #[] 0, #[]⟩),
  (221, ⟨.type "code", none, .fields #[.str (.ofString "strides_of") 453, .str (.ofString "strides_of") 454, .str (.ofString "/claim/cut.py") 455, .int (73) 0, .int (1) 0, .int (0) 0, .int (0) 0, .int (3) 0, .ref 216, .bool true, .int (181) 0, .ref 217, .none, .ref 218, .ref 219, .ref 220, .int (460) 0, .int (73) 0, .str (.ofString "/claim/cut.py") 461], #[]⟩),
  (222, ⟨.type "function", none, .func ⟨.ofString "strides_of", .ofString "strides_of", dPar (dAt 21), .stmts (dBody (dAt 21)), dScope (dAt 21), 3, [], .none, .none, .none, .str (.ofString "methodrows.arrays") 440, none, .ref 221, .none, 0⟩, #[]⟩),
  (223, ⟨.type "tuple", none, .seq #[] 0, #[]⟩),
  (225, ⟨.type "tuple", none, .seq #[.str (.ofString "sizes") 466, .str (.ofString "indices") 467, .str (.ofString "place") 468, .str (.ofString "index") 469, .str (.ofString "size") 470, .str (.ofString "far") 471] 0, #[]⟩),
  (226, ⟨.type "tuple", none, .seq #[] 0, #[]⟩),
  (228, ⟨.type "code", none, .fields #[.str (.ofString "offset_of") 463, .str (.ofString "offset_of") 464, .str (.ofString "/claim/cut.py") 465, .int (79) 0, .int (2) 0, .int (0) 0, .int (0) 0, .int (3) 0, .ref 223, .bool true, .int (181) 0, .ref 224, .none, .ref 225, .ref 226, .ref 227, .int (472) 0, .int (79) 0, .str (.ofString "/claim/cut.py") 473], #[]⟩),
  (229, ⟨.type "function", none, .func ⟨.ofString "offset_of", .ofString "offset_of", dPar (dAt 22), .stmts (dBody (dAt 22)), dScope (dAt 22), 3, [], .none, .none, .none, .str (.ofString "methodrows.arrays") 440, none, .ref 228, .none, 0⟩, #[]⟩),
  (230, ⟨.type "tuple", none, .seq #[] 0, #[]⟩),
  (232, ⟨.type "tuple", none, .seq #[.str (.ofString "sizes") 478, .str (.ofString "offset") 479, .str (.ofString "found") 480, .str (.ofString "size") 481] 0, #[]⟩),
  (233, ⟨.type "tuple", none, .seq #[] 0, #[]⟩),
  (235, ⟨.type "code", none, .fields #[.str (.ofString "index_of") 475, .str (.ofString "index_of") 476, .str (.ofString "/claim/cut.py") 477, .int (92) 0, .int (2) 0, .int (0) 0, .int (0) 0, .int (3) 0, .ref 230, .bool true, .int (181) 0, .ref 231, .none, .ref 232, .ref 233, .ref 234, .int (482) 0, .int (92) 0, .str (.ofString "/claim/cut.py") 483], #[]⟩),
  (236, ⟨.type "function", none, .func ⟨.ofString "index_of", .ofString "index_of", dPar (dAt 23), .stmts (dBody (dAt 23)), dScope (dAt 23), 3, [], .none, .none, .none, .str (.ofString "methodrows.arrays") 440, none, .ref 235, .none, 0⟩, #[]⟩),
  (237, ⟨.type "tuple", none, .seq #[] 0, #[]⟩),
  (240, ⟨.type "code", none, .fields #[.str (.ofString "bounds_fault") 485, .str (.ofString "bounds_fault") 486, .str (.ofString "/claim/cut.py") 487, .int (98) 0, .int (2) 0, .int (0) 0, .int (0) 0, .int (3) 0, .ref 237, .bool true, .int (181) 0, .ref 238, .none, .none, .none, .ref 239, .int (488) 0, .int (98) 0, .str (.ofString "/claim/cut.py") 489], #[]⟩),
  (241, ⟨.type "function", none, .func ⟨.ofString "bounds_fault", .ofString "bounds_fault", dPar (dAt 24), .stmts (dBody (dAt 24)), dScope (dAt 24), 3, [], .none, .none, .none, .str (.ofString "methodrows.arrays") 440, none, .ref 240, .none, 0⟩, #[]⟩),
  (242, ⟨.type "tuple", none, .seq #[] 0, #[]⟩),
  (245, ⟨.type "code", none, .fields #[.str (.ofString "check_sizes") 491, .str (.ofString "check_sizes") 492, .str (.ofString "/claim/cut.py") 493, .int (100) 0, .int (1) 0, .int (0) 0, .int (0) 0, .int (3) 0, .ref 242, .bool true, .int (181) 0, .ref 243, .none, .none, .none, .ref 244, .int (494) 0, .int (100) 0, .str (.ofString "/claim/cut.py") 495], #[]⟩),
  (246, ⟨.type "function", none, .func ⟨.ofString "check_sizes", .ofString "check_sizes", dPar (dAt 25), .stmts (dBody (dAt 25)), dScope (dAt 25), 3, [], .none, .none, .none, .str (.ofString "methodrows.arrays") 440, none, .ref 245, .none, 0⟩, #[]⟩),
  (247, ⟨.type "tuple", none, .seq #[] 0, #[]⟩),
  (249, ⟨.type "tuple", none, .seq #[.str (.ofString "value") 500] 0, #[]⟩),
  (250, ⟨.type "tuple", none, .seq #[] 0, #[]⟩),
  (252, ⟨.type "code", none, .fields #[.str (.ofString "is_array") 497, .str (.ofString "is_array") 498, .str (.ofString "/claim/cut.py") 499, .int (103) 0, .int (1) 0, .int (0) 0, .int (0) 0, .int (3) 0, .ref 247, .bool true, .int (181) 0, .ref 248, .none, .ref 249, .ref 250, .ref 251, .int (501) 0, .int (103) 0, .str (.ofString "/claim/cut.py") 502], #[]⟩),
  (253, ⟨.type "function", none, .func ⟨.ofString "is_array", .ofString "is_array", dPar (dAt 26), .stmts (dBody (dAt 26)), dScope (dAt 26), 3, [], .none, .none, .none, .str (.ofString "methodrows.arrays") 440, none, .ref 252, .none, 0⟩, #[]⟩),
  (254, ⟨.type "tuple", none, .seq #[] 0, #[]⟩),
  (256, ⟨.type "tuple", none, .seq #[.str (.ofString "heap") 507, .str (.ofString "value") 508] 0, #[]⟩),
  (257, ⟨.type "tuple", none, .seq #[] 0, #[]⟩),
  (259, ⟨.type "code", none, .fields #[.str (.ofString "parent_of") 504, .str (.ofString "parent_of") 505, .str (.ofString "/claim/cut.py") 506, .int (105) 0, .int (2) 0, .int (0) 0, .int (0) 0, .int (3) 0, .ref 254, .bool true, .int (181) 0, .ref 255, .none, .ref 256, .ref 257, .ref 258, .int (509) 0, .int (105) 0, .str (.ofString "/claim/cut.py") 510], #[]⟩),
  (260, ⟨.type "function", none, .func ⟨.ofString "parent_of", .ofString "parent_of", dPar (dAt 27), .stmts (dBody (dAt 27)), dScope (dAt 27), 3, [], .none, .none, .none, .str (.ofString "methodrows.arrays") 440, none, .ref 259, .none, 0⟩, #[]⟩),
  (261, ⟨.type "tuple", none, .seq #[] 0, #[]⟩),
  (263, ⟨.type "tuple", none, .seq #[.str (.ofString "heap") 515, .str (.ofString "value") 516] 0, #[]⟩),
  (264, ⟨.type "tuple", none, .seq #[] 0, #[]⟩),
  (266, ⟨.type "code", none, .fields #[.str (.ofString "sizes_of") 512, .str (.ofString "sizes_of") 513, .str (.ofString "/claim/cut.py") 514, .int (109) 0, .int (2) 0, .int (0) 0, .int (0) 0, .int (3) 0, .ref 261, .bool true, .int (181) 0, .ref 262, .none, .ref 263, .ref 264, .ref 265, .int (517) 0, .int (109) 0, .str (.ofString "/claim/cut.py") 518], #[]⟩),
  (267, ⟨.type "function", none, .func ⟨.ofString "sizes_of", .ofString "sizes_of", dPar (dAt 28), .stmts (dBody (dAt 28)), dScope (dAt 28), 3, [], .none, .none, .none, .str (.ofString "methodrows.arrays") 440, none, .ref 266, .none, 0⟩, #[]⟩),
  (268, ⟨.type "tuple", none, .seq #[] 0, #[]⟩),
  (270, ⟨.type "tuple", none, .seq #[.str (.ofString "heap") 523, .str (.ofString "value") 524] 0, #[]⟩),
  (271, ⟨.type "tuple", none, .seq #[] 0, #[]⟩),
  (273, ⟨.type "code", none, .fields #[.str (.ofString "layout_of") 520, .str (.ofString "layout_of") 521, .str (.ofString "/claim/cut.py") 522, .int (111) 0, .int (2) 0, .int (0) 0, .int (0) 0, .int (3) 0, .ref 268, .bool true, .int (181) 0, .ref 269, .none, .ref 270, .ref 271, .ref 272, .int (525) 0, .int (111) 0, .str (.ofString "/claim/cut.py") 526], #[]⟩),
  (274, ⟨.type "function", none, .func ⟨.ofString "layout_of", .ofString "layout_of", dPar (dAt 29), .stmts (dBody (dAt 29)), dScope (dAt 29), 3, [], .none, .none, .none, .str (.ofString "methodrows.arrays") 440, none, .ref 273, .none, 0⟩, #[]⟩),
  (275, ⟨.type "tuple", none, .seq #[] 0, #[]⟩),
  (277, ⟨.type "tuple", none, .seq #[.str (.ofString "heap") 531, .str (.ofString "value") 532, .str (.ofString "indices") 533, .str (.ofString "sizes") 534, .str (.ofString "offset") 535, .str (.ofString "place") 536, .str (.ofString "steps") 537, .str (.ofString "index") 538, .str (.ofString "far") 539] 0, #[]⟩),
  (278, ⟨.type "tuple", none, .seq #[] 0, #[]⟩),
  (280, ⟨.type "code", none, .fields #[.str (.ofString "place_in_parent") 528, .str (.ofString "place_in_parent") 529, .str (.ofString "/claim/cut.py") 530, .int (113) 0, .int (3) 0, .int (0) 0, .int (0) 0, .int (3) 0, .ref 275, .bool true, .int (181) 0, .ref 276, .none, .ref 277, .ref 278, .ref 279, .int (540) 0, .int (113) 0, .str (.ofString "/claim/cut.py") 541], #[]⟩),
  (281, ⟨.type "function", none, .func ⟨.ofString "place_in_parent", .ofString "place_in_parent", dPar (dAt 30), .stmts (dBody (dAt 30)), dScope (dAt 30), 3, [], .none, .none, .none, .str (.ofString "methodrows.arrays") 440, none, .ref 280, .none, 0⟩, #[]⟩),
  (282, ⟨.type "tuple", none, .seq #[] 0, #[]⟩),
  (285, ⟨.type "code", none, .fields #[.str (.ofString "places_of") 543, .str (.ofString "places_of") 544, .str (.ofString "/claim/cut.py") 545, .int (122) 0, .int (2) 0, .int (0) 0, .int (0) 0, .int (3) 0, .ref 282, .bool true, .int (181) 0, .ref 283, .none, .none, .none, .ref 284, .int (546) 0, .int (122) 0, .str (.ofString "/claim/cut.py") 547], #[]⟩),
  (286, ⟨.type "function", none, .func ⟨.ofString "places_of", .ofString "places_of", dPar (dAt 31), .stmts (dBody (dAt 31)), dScope (dAt 31), 3, [], .none, .none, .none, .str (.ofString "methodrows.arrays") 440, none, .ref 285, .none, 0⟩, #[]⟩),
  (287, ⟨.type "tuple", none, .seq #[] 0, #[]⟩),
  (290, ⟨.type "code", none, .fields #[.str (.ofString "items_of") 549, .str (.ofString "items_of") 550, .str (.ofString "/claim/cut.py") 551, .int (128) 0, .int (2) 0, .int (0) 0, .int (0) 0, .int (3) 0, .ref 287, .bool true, .int (181) 0, .ref 288, .none, .none, .none, .ref 289, .int (552) 0, .int (128) 0, .str (.ofString "/claim/cut.py") 553], #[]⟩),
  (291, ⟨.type "function", none, .func ⟨.ofString "items_of", .ofString "items_of", dPar (dAt 32), .stmts (dBody (dAt 32)), dScope (dAt 32), 3, [], .none, .none, .none, .str (.ofString "methodrows.arrays") 440, none, .ref 290, .none, 0⟩, #[]⟩),
  (292, ⟨.type "tuple", none, .seq #[] 0, #[]⟩),
  (294, ⟨.type "tuple", none, .seq #[.str (.ofString "heap") 558, .str (.ofString "value") 559, .str (.ofString "indices") 560, .str (.ofString "place") 561, .str (.ofString "found") 562] 0, #[]⟩),
  (295, ⟨.type "tuple", none, .seq #[] 0, #[]⟩),
  (297, ⟨.type "code", none, .fields #[.str (.ofString "item_at") 555, .str (.ofString "item_at") 556, .str (.ofString "/claim/cut.py") 557, .int (134) 0, .int (3) 0, .int (0) 0, .int (0) 0, .int (3) 0, .ref 292, .bool true, .int (181) 0, .ref 293, .none, .ref 294, .ref 295, .ref 296, .int (563) 0, .int (134) 0, .str (.ofString "/claim/cut.py") 564], #[]⟩),
  (298, ⟨.type "function", none, .func ⟨.ofString "item_at", .ofString "item_at", dPar (dAt 33), .stmts (dBody (dAt 33)), dScope (dAt 33), 3, [], .none, .none, .none, .str (.ofString "methodrows.arrays") 440, none, .ref 297, .none, 0⟩, #[]⟩),
  (299, ⟨.type "tuple", none, .seq #[] 0, #[]⟩),
  (301, ⟨.type "tuple", none, .seq #[.str (.ofString "heap") 569, .str (.ofString "value") 570, .str (.ofString "indices") 571, .str (.ofString "item") 572, .str (.ofString "place") 573] 0, #[]⟩),
  (302, ⟨.type "tuple", none, .seq #[] 0, #[]⟩),
  (304, ⟨.type "code", none, .fields #[.str (.ofString "set_item") 566, .str (.ofString "set_item") 567, .str (.ofString "/claim/cut.py") 568, .int (142) 0, .int (4) 0, .int (0) 0, .int (0) 0, .int (3) 0, .ref 299, .bool true, .int (181) 0, .ref 300, .none, .ref 301, .ref 302, .ref 303, .int (574) 0, .int (142) 0, .str (.ofString "/claim/cut.py") 575], #[]⟩),
  (305, ⟨.type "function", none, .func ⟨.ofString "set_item", .ofString "set_item", dPar (dAt 34), .stmts (dBody (dAt 34)), dScope (dAt 34), 3, [], .none, .none, .none, .str (.ofString "methodrows.arrays") 440, none, .ref 304, .none, 0⟩, #[]⟩),
  (306, ⟨.type "tuple", none, .seq #[] 0, #[]⟩),
  (308, ⟨.type "tuple", none, .seq #[.str (.ofString "heap") 580, .str (.ofString "item_kind") 581, .str (.ofString "sizes") 582, .str (.ofString "items") 583] 0, #[]⟩),
  (309, ⟨.type "tuple", none, .seq #[] 0, #[]⟩),
  (311, ⟨.type "code", none, .fields #[.str (.ofString "made") 577, .str (.ofString "made") 578, .str (.ofString "/claim/cut.py") 579, .int (147) 0, .int (4) 0, .int (0) 0, .int (0) 0, .int (3) 0, .ref 306, .bool true, .int (181) 0, .ref 307, .none, .ref 308, .ref 309, .ref 310, .int (584) 0, .int (147) 0, .str (.ofString "/claim/cut.py") 585], #[]⟩),
  (312, ⟨.type "function", none, .func ⟨.ofString "made", .ofString "made", dPar (dAt 35), .stmts (dBody (dAt 35)), dScope (dAt 35), 3, [], .none, .none, .none, .str (.ofString "methodrows.arrays") 440, none, .ref 311, .none, 0⟩, #[]⟩),
  (313, ⟨.type "tuple", none, .seq #[] 0, #[]⟩),
  (315, ⟨.type "tuple", none, .seq #[.str (.ofString "heap") 590, .str (.ofString "value") 591] 0, #[]⟩),
  (316, ⟨.type "tuple", none, .seq #[] 0, #[]⟩),
  (318, ⟨.type "code", none, .fields #[.str (.ofString "need_row") 587, .str (.ofString "need_row") 588, .str (.ofString "/claim/cut.py") 589, .int (152) 0, .int (2) 0, .int (0) 0, .int (0) 0, .int (3) 0, .ref 313, .bool true, .int (181) 0, .ref 314, .none, .ref 315, .ref 316, .ref 317, .int (592) 0, .int (152) 0, .str (.ofString "/claim/cut.py") 593], #[]⟩),
  (319, ⟨.type "function", none, .func ⟨.ofString "need_row", .ofString "need_row", dPar (dAt 36), .stmts (dBody (dAt 36)), dScope (dAt 36), 3, [], .none, .none, .none, .str (.ofString "methodrows.arrays") 440, none, .ref 318, .none, 0⟩, #[]⟩),
  (320, ⟨.type "tuple", none, .seq #[] 0, #[]⟩),
  (322, ⟨.type "tuple", none, .seq #[.str (.ofString "heap") 598, .str (.ofString "value") 599, .str (.ofString "thing") 600, .str (.ofString "found") 601] 0, #[]⟩),
  (323, ⟨.type "tuple", none, .seq #[] 0, #[]⟩),
  (325, ⟨.type "code", none, .fields #[.str (.ofString "popped") 595, .str (.ofString "popped") 596, .str (.ofString "/claim/cut.py") 597, .int (156) 0, .int (2) 0, .int (0) 0, .int (0) 0, .int (3) 0, .ref 320, .bool true, .int (181) 0, .ref 321, .none, .ref 322, .ref 323, .ref 324, .int (602) 0, .int (156) 0, .str (.ofString "/claim/cut.py") 603], #[]⟩),
  (326, ⟨.type "function", none, .func ⟨.ofString "popped", .ofString "popped", dPar (dAt 37), .stmts (dBody (dAt 37)), dScope (dAt 37), 3, [], .none, .none, .none, .str (.ofString "methodrows.arrays") 440, none, .ref 325, .none, 0⟩, #[]⟩),
  (327, ⟨.type "tuple", none, .seq #[] 0, #[]⟩),
  (329, ⟨.type "tuple", none, .seq #[.str (.ofString "part") 610, .str (.ofString "size") 611, .str (.ofString "first") 612, .str (.ofString "step") 613, .str (.ofString "many") 614, .str (.ofString "last") 615] 0, #[]⟩),
  (330, ⟨.type "tuple", none, .seq #[] 0, #[]⟩),
  (332, ⟨.type "code", none, .fields #[.str (.ofString "taken_row") 607, .str (.ofString "taken_row") 608, .str (.ofString "/claim/cut.py") 609, .int (166) 0, .int (2) 0, .int (0) 0, .int (0) 0, .int (3) 0, .ref 327, .bool true, .int (181) 0, .ref 328, .none, .ref 329, .ref 330, .ref 331, .int (616) 0, .int (166) 0, .str (.ofString "/claim/cut.py") 617], #[]⟩),
  (333, ⟨.type "function", none, .func ⟨.ofString "taken_row", .ofString "taken_row", dPar (dAt 39), .stmts (dBody (dAt 39)), dScope (dAt 39), 3, [], .none, .none, .none, .str (.ofString "methodrows.views") 605, none, .ref 332, .none, 0⟩, #[]⟩),
  (334, ⟨.type "tuple", none, .seq #[] 0, #[]⟩),
  (336, ⟨.type "tuple", none, .seq #[.str (.ofString "parts") 622, .str (.ofString "sizes") 623, .str (.ofString "found") 624, .str (.ofString "part") 625, .str (.ofString "size") 626] 0, #[]⟩),
  (337, ⟨.type "tuple", none, .seq #[] 0, #[]⟩),
  (339, ⟨.type "code", none, .fields #[.str (.ofString "edge_indices") 619, .str (.ofString "edge_indices") 620, .str (.ofString "/claim/cut.py") 621, .int (178) 0, .int (2) 0, .int (0) 0, .int (0) 0, .int (3) 0, .ref 334, .bool true, .int (181) 0, .ref 335, .none, .ref 336, .ref 337, .ref 338, .int (627) 0, .int (178) 0, .str (.ofString "/claim/cut.py") 628], #[]⟩),
  (340, ⟨.type "function", none, .func ⟨.ofString "edge_indices", .ofString "edge_indices", dPar (dAt 40), .stmts (dBody (dAt 40)), dScope (dAt 40), 3, [], .none, .none, .none, .str (.ofString "methodrows.views") 605, none, .ref 339, .none, 0⟩, #[]⟩),
  (341, ⟨.type "tuple", none, .seq #[] 0, #[]⟩),
  (343, ⟨.type "tuple", none, .seq #[.str (.ofString "part") 633, .str (.ofString "size") 634, .str (.ofString "first") 635, .str (.ofString "step") 636, .str (.ofString "many") 637, .str (.ofString "last") 638] 0, #[]⟩),
  (344, ⟨.type "tuple", none, .seq #[] 0, #[]⟩),
  (346, ⟨.type "code", none, .fields #[.str (.ofString "edge_of") 630, .str (.ofString "edge_of") 631, .str (.ofString "/claim/cut.py") 632, .int (186) 0, .int (2) 0, .int (0) 0, .int (0) 0, .int (3) 0, .ref 341, .bool true, .int (181) 0, .ref 342, .none, .ref 343, .ref 344, .ref 345, .int (639) 0, .int (186) 0, .str (.ofString "/claim/cut.py") 640], #[]⟩),
  (347, ⟨.type "function", none, .func ⟨.ofString "edge_of", .ofString "edge_of", dPar (dAt 41), .stmts (dBody (dAt 41)), dScope (dAt 41), 3, [], .none, .none, .none, .str (.ofString "methodrows.views") 605, none, .ref 346, .none, 0⟩, #[]⟩),
  (348, ⟨.type "tuple", none, .seq #[] 0, #[]⟩),
  (351, ⟨.type "code", none, .fields #[.str (.ofString "view_of") 642, .str (.ofString "view_of") 643, .str (.ofString "/claim/cut.py") 644, .int (190) 0, .int (3) 0, .int (0) 0, .int (0) 0, .int (3) 0, .ref 348, .bool true, .int (181) 0, .ref 349, .none, .none, .none, .ref 350, .int (645) 0, .int (190) 0, .str (.ofString "/claim/cut.py") 646], #[]⟩),
  (352, ⟨.type "function", none, .func ⟨.ofString "view_of", .ofString "view_of", dPar (dAt 42), .stmts (dBody (dAt 42)), dScope (dAt 42), 3, [], .none, .none, .none, .str (.ofString "methodrows.views") 605, none, .ref 351, .none, 0⟩, #[]⟩),
  (353, ⟨.type "tuple", none, .seq #[] 0, #[]⟩),
  (355, ⟨.type "tuple", none, .seq #[.str (.ofString "script") 653, .str (.ofString "edge") 654, .str (.ofString "size") 655] 0, #[]⟩),
  (356, ⟨.type "tuple", none, .seq #[] 0, #[]⟩),
  (358, ⟨.type "code", none, .fields #[.str (.ofString "_law_rim") 650, .str (.ofString "_law_rim") 651, .str (.ofString "/claim/cut.py") 652, .int (206) 0, .int (1) 0, .int (0) 0, .int (0) 0, .int (3) 0, .ref 353, .bool true, .int (181) 0, .ref 354, .none, .ref 355, .ref 356, .ref 357, .int (656) 0, .int (206) 0, .str (.ofString "/claim/cut.py") 657], #[]⟩),
  (359, ⟨.type "function", none, .func ⟨.ofString "_law_rim", .ofString "_law_rim", dPar (dAt 44), .stmts (dBody (dAt 44)), dScope (dAt 44), 3, [], .none, .none, .none, .str (.ofString "law_rg0193_01") 648, none, .ref 358, .none, 0⟩, #[]⟩),
  (360, ⟨.type "tuple", none, .seq #[] 0, #[]⟩),
  (362, ⟨.type "tuple", none, .seq #[.str (.ofString "rim") 662, .str (.ofString "many") 663, .str (.ofString "bite") 664] 0, #[]⟩),
  (363, ⟨.type "tuple", none, .seq #[] 0, #[]⟩),
  (365, ⟨.type "code", none, .fields #[.str (.ofString "_law_notch") 659, .str (.ofString "_law_notch") 660, .str (.ofString "/claim/cut.py") 661, .int (210) 0, .int (2) 0, .int (0) 0, .int (0) 0, .int (3) 0, .ref 360, .bool true, .int (181) 0, .ref 361, .none, .ref 362, .ref 363, .ref 364, .int (665) 0, .int (210) 0, .str (.ofString "/claim/cut.py") 666], #[]⟩),
  (366, ⟨.type "function", none, .func ⟨.ofString "_law_notch", .ofString "_law_notch", dPar (dAt 45), .stmts (dBody (dAt 45)), dScope (dAt 45), 3, [], .none, .none, .none, .str (.ofString "law_rg0193_01") 648, none, .ref 365, .none, 0⟩, #[]⟩),
  (367, ⟨.type "tuple", none, .seq #[] 0, #[]⟩),
  (369, ⟨.type "tuple", none, .seq #[.str (.ofString "number") 671] 0, #[]⟩),
  (370, ⟨.type "tuple", none, .seq #[] 0, #[]⟩),
  (372, ⟨.type "code", none, .fields #[.str (.ofString "_law_int") 668, .str (.ofString "_law_int") 669, .str (.ofString "/claim/cut.py") 670, .int (217) 0, .int (1) 0, .int (0) 0, .int (0) 0, .int (3) 0, .ref 367, .bool true, .int (181) 0, .ref 368, .none, .ref 369, .ref 370, .ref 371, .int (672) 0, .int (217) 0, .str (.ofString "/claim/cut.py") 673], #[]⟩),
  (373, ⟨.type "function", none, .func ⟨.ofString "_law_int", .ofString "_law_int", dPar (dAt 46), .stmts (dBody (dAt 46)), dScope (dAt 46), 3, [], .none, .none, .none, .str (.ofString "law_rg0193_01") 648, none, .ref 372, .none, 0⟩, #[]⟩),
  (374, ⟨.type "tuple", none, .seq #[] 0, #[]⟩),
  (376, ⟨.type "tuple", none, .seq #[.str (.ofString "deed") 678, .str (.ofString "error") 679] 0, #[]⟩),
  (377, ⟨.type "tuple", none, .seq #[] 0, #[]⟩),
  (379, ⟨.type "code", none, .fields #[.str (.ofString "_law_heard") 675, .str (.ofString "_law_heard") 676, .str (.ofString "/claim/cut.py") 677, .int (219) 0, .int (1) 0, .int (0) 0, .int (0) 0, .int (3) 0, .ref 374, .bool true, .int (181) 0, .ref 375, .none, .ref 376, .ref 377, .ref 378, .int (680) 0, .int (219) 0, .str (.ofString "/claim/cut.py") 681], #[]⟩),
  (380, ⟨.type "function", none, .func ⟨.ofString "_law_heard", .ofString "_law_heard", dPar (dAt 47), .stmts (dBody (dAt 47)), dScope (dAt 47), 3, [], .none, .none, .none, .str (.ofString "law_rg0193_01") 648, none, .ref 379, .none, 0⟩, #[]⟩),
  (381, ⟨.type "tuple", none, .seq #[] 0, #[]⟩),
  (384, ⟨.type "code", none, .fields #[.str (.ofString "_law_shrunk_right") 683, .str (.ofString "_law_shrunk_right") 684, .str (.ofString "/claim/cut.py") 685, .int (224) 0, .int (2) 0, .int (0) 0, .int (0) 0, .int (3) 0, .ref 381, .bool true, .int (181) 0, .ref 382, .none, .none, .none, .ref 383, .int (686) 0, .int (224) 0, .str (.ofString "/claim/cut.py") 687], #[]⟩),
  (385, ⟨.type "function", none, .func ⟨.ofString "_law_shrunk_right", .ofString "_law_shrunk_right", dPar (dAt 48), .stmts (dBody (dAt 48)), dScope (dAt 48), 3, [], .none, .none, .none, .str (.ofString "law_rg0193_01") 648, none, .ref 384, .none, 0⟩, #[]⟩),
  (386, ⟨.type "tuple", none, .seq #[] 0, #[]⟩),
  (389, ⟨.type "code", none, .fields #[.str (.ofString "_law_sizes_right") 689, .str (.ofString "_law_sizes_right") 690, .str (.ofString "/claim/cut.py") 691, .int (247) 0, .int (1) 0, .int (0) 0, .int (0) 0, .int (3) 0, .ref 386, .bool true, .int (181) 0, .ref 387, .none, .none, .none, .ref 388, .int (692) 0, .int (247) 0, .str (.ofString "/claim/cut.py") 693], #[]⟩),
  (390, ⟨.type "function", none, .func ⟨.ofString "_law_sizes_right", .ofString "_law_sizes_right", dPar (dAt 49), .stmts (dBody (dAt 49)), dScope (dAt 49), 3, [], .none, .none, .none, .str (.ofString "law_rg0193_01") 648, none, .ref 389, .none, 0⟩, #[]⟩),
  (391, ⟨.type "tuple", none, .seq #[] 0, #[]⟩),
  (394, ⟨.type "code", none, .fields #[.str (.ofString "_law_ones_right") 695, .str (.ofString "_law_ones_right") 696, .str (.ofString "/claim/cut.py") 697, .int (257) 0, .int (2) 0, .int (0) 0, .int (0) 0, .int (3) 0, .ref 391, .bool true, .int (181) 0, .ref 392, .none, .none, .none, .ref 393, .int (698) 0, .int (257) 0, .str (.ofString "/claim/cut.py") 699], #[]⟩),
  (395, ⟨.type "function", none, .func ⟨.ofString "_law_ones_right", .ofString "_law_ones_right", dPar (dAt 50), .stmts (dBody (dAt 50)), dScope (dAt 50), 3, [], .none, .none, .none, .str (.ofString "law_rg0193_01") 648, none, .ref 394, .none, 0⟩, #[]⟩),
  (396, ⟨.type "tuple", none, .seq #[] 0, #[]⟩),
  (398, ⟨.type "tuple", none, .seq #[.str (.ofString "script") 704, .str (.ofString "rim") 705, .str (.ofString "heap") 706, .str (.ofString "is_let") 707] 0, #[]⟩),
  (399, ⟨.type "tuple", none, .seq #[.str (.ofString "sizes") 708] 0, #[]⟩),
  (401, ⟨.type "code", none, .fields #[.str (.ofString "law") 701, .str (.ofString "law") 702, .str (.ofString "/claim/cut.py") 703, .int (273) 0, .int (1) 0, .int (0) 0, .int (0) 0, .int (3) 0, .ref 396, .bool true, .int (181) 0, .ref 397, .none, .ref 398, .ref 399, .ref 400, .int (709) 0, .int (273) 0, .str (.ofString "/claim/cut.py") 710], #[]⟩),
  (402, ⟨.type "function", none, .func ⟨.ofString "law", .ofString "law", dPar (dAt 51), .stmts (dBody (dAt 51)), dScope (dAt 51), 3, [], .none, .none, .none, .str (.ofString "law_rg0193_01") 648, none, .ref 401, .none, 0⟩, #[]⟩)]
noncomputable def hkAs : List Addr := [2, 3, 15, 17, 18, 20, 21, 22, 29, 30, 32, 33, 35, 36, 37, 38, 39, 40, 43, 50, 51, 52, 55, 62, 64, 65, 67, 68, 69, 70, 71, 74, 76, 77, 79, 80, 81, 83, 84, 86, 87, 88, 90, 91, 93, 94, 95, 97, 98, 100, 101, 102, 104, 105, 107, 108, 109, 111, 112, 114, 115, 116, 117, 118, 120, 121, 123, 124, 132, 134, 135, 137, 138, 139, 140, 141, 142, 143, 153, 155, 156, 158, 159, 160, 162, 163, 165, 166, 167, 169, 170, 172, 173, 174, 176, 177, 179, 180, 181, 183, 184, 186, 187, 188, 190, 191, 193, 194, 195, 196, 197, 198, 199, 202, 204, 205, 207, 208, 209, 211, 212, 214, 215, 216, 218, 219, 221, 222, 223, 225, 226, 228, 229, 230, 232, 233, 235, 236, 237, 240, 241, 242, 245, 246, 247, 249, 250, 252, 253, 254, 256, 257, 259, 260, 261, 263, 264, 266, 267, 268, 270, 271, 273, 274, 275, 277, 278, 280, 281, 282, 285, 286, 287, 290, 291, 292, 294, 295, 297, 298, 299, 301, 302, 304, 305, 306, 308, 309, 311, 312, 313, 315, 316, 318, 319, 320, 322, 323, 325, 326, 327, 329, 330, 332, 333, 334, 336, 337, 339, 340, 341, 343, 344, 346, 347, 348, 351, 352, 353, 355, 356, 358, 359, 360, 362, 363, 365, 366, 367, 369, 370, 372, 373, 374, 376, 377, 379, 380, 381, 384, 385, 386, 389, 390, 391, 394, 395, 396, 398, 399, 401, 402]
theorem hkAs_ok (P : Params) : hkAs = (hk P).map (·.1) := by kernel_rfl
noncomputable abbrev tabO (ps : Array Value) : Obj := { cls := .none, data := .fields ps }
noncomputable def hkTs : List Addr := [392, 387, 382, 397]
noncomputable def hkHook : Hook where
  α := List (Option Obj) × List (Option Obj)
  obs := fun s => (hkAs.map s.heap.get?, hkTs.map s.heap.get?)
  val := fun w => ((hk w.params).map fun p => some p.2, hkTs.map fun _ => some (tabO #[]))
  says := fun w h => InK hk w h ∧ ∀ P ∈ hkTs, h.get? P = some (tabO #[])
  of := fun w s x => ⟨InK.of hkAs_ok w s (Prod.mk.inj x).1, List.map_inj_left.mp (Prod.mk.inj x).2⟩
  keeps := fun w h h' x k => ⟨InK.keeps w h h' x.1 k, fun P hP => k _ _ (x.2 P hP)⟩

/-- orders of whole numbers that the kernel counts quickly -/
noncomputable def Z.eqB : Int → Int → Bool
  | .ofNat m, .ofNat n => Nat.beq m n
  | .negSucc m, .negSucc n => Nat.beq m n
  | _, _ => false
noncomputable def Z.leB : Int → Int → Bool
  | .ofNat m, .ofNat n => Nat.ble m n
  | .negSucc m, .negSucc n => Nat.ble n m
  | .negSucc _, .ofNat _ => true
  | .ofNat _, .negSucc _ => false
noncomputable def Z.ltB (a b : Int) : Bool := !Z.leB b a
theorem Z.eqB_iff (a b : Int) : Z.eqB a b = true ↔ a = b := by
  unfold Z.eqB
  split
  · rw [Nat.beq_eq]; exact ⟨fun h => by rw [h], fun h => by cases h; rfl⟩
  · rw [Nat.beq_eq]; exact ⟨fun h => by rw [h], fun h => by cases h; rfl⟩
  · rename_i h1 h2
    constructor
    · intro h; cases h
    · intro h; subst h; cases a with
      | ofNat m => exact absurd rfl (h1 m m rfl)
      | negSucc m => exact absurd rfl (h2 m m rfl)
theorem Z.leB_iff (a b : Int) : Z.leB a b = true ↔ a ≤ b := by
  cases a with
  | ofNat m => cases b with
    | ofNat n => show Nat.ble m n = true ↔ _; rw [Nat.ble_eq]; show _ ↔ (m : Int) ≤ (n : Int); omega
    | negSucc n => show false = true ↔ _; constructor
                   · intro h; cases h
                   · intro h; have h : (m : Int) ≤ Int.negSucc n := h; rw [Int.negSucc_eq] at h; omega
  | negSucc m => cases b with
    | ofNat n => show true = true ↔ _; refine ⟨fun _ => ?_, fun _ => rfl⟩; show Int.negSucc m ≤ (n : Int); rw [Int.negSucc_eq]; omega
    | negSucc n => show Nat.ble n m = true ↔ _; rw [Nat.ble_eq, Int.negSucc_eq, Int.negSucc_eq]; omega
theorem Z.ltB_iff (a b : Int) : Z.ltB a b = true ↔ a < b := by
  unfold Z.ltB
  have h := Z.leB_iff b a
  cases e : Z.leB b a with
  | true => have := h.mp e; exact ⟨fun q => (nomatch q), fun q => by omega⟩
  | false => refine ⟨fun _ => ?_, fun _ => rfl⟩; exact Int.not_le.mp fun q => by rw [h.mpr q] at e; cases e
/-- c is a code object whose table of inner code lies at P, whatever the table has come to hold -/
def CodeHd (h : Heap) (c P : Addr) : Prop := ∀ (h' : Heap) (ps : Array Value), (∀ b o, h.get? b = some o → h'.get? b = some o) → h'.get? P = some (tabO ps) → TriplesOk ps.toList → h'.IsCode c P ps ∧ h'.TableAt c P ps
end Mine
open PySem PySem.W PySem.Calls PyProof.Rows
set_option Elab.async false
set_option maxRecDepth 100000
set_option maxHeartbeats 0
namespace Mine.Hd
noncomputable def pf (n q : String) (s : Stmt) : Obj := ⟨.none, none, .func ⟨.ofString n, .ofString q, dPar s, .stmts (dBody s), dScope s, 0, [], .none, .none, .none, .none, none, .none, .none, 0⟩, #[]⟩
noncomputable def eF : Obj := ⟨.none, none, .fields #[], #[]⟩
noncomputable def eT : Obj := ⟨.type "tuple", none, .seq #[] 0, #[]⟩
noncomputable abbrev sv (s : String) (t : Nat) : Value := .str (.ofString s) t
noncomputable abbrev iv (n : Nat) : Value := .int (.ofNat n) 0
noncomputable abbrev kh (P : Params) (s : String) := PyData.keyHash P (.ofString s)
/-- the objects that stand when the text has run, besides those of hk; printed by a program (wip/PR2.lean, wip/genC.py) -/
noncomputable def hr (P : Params) : Frag := [
  (0, boot_o_0 P),
  (1, boot_o_1 P),
  (4, boot_o_4 P),
  (5, boot_o_5 P),
  (6, boot_o_6 P),
  (7, boot_o_7 P),
  (8, boot_o_8 P),
  (9, boot_o_9 P),
  (10, boot_o_10 P),
  (11, eT),
  (12, ⟨.none, none, .fields #[iv 1, iv 0, .ref 20, iv 5, iv 0, .ref 27, iv 11, iv 0, .ref 48, iv 13, iv 0, .ref 60, iv 19, iv 0, .ref 79, iv 21, iv 0, .ref 86, iv 23, iv 0, .ref 93, iv 25, iv 0, .ref 100, iv 27, iv 0, .ref 107, iv 29, iv 0, .ref 114, iv 33, iv 0, .ref 123, iv 36, iv 0, .ref 130, iv 42, iv 0, .ref 151, iv 64, iv 0, .ref 207, iv 68, iv 0, .ref 214, iv 73, iv 0, .ref 221, iv 79, iv 0, .ref 228, iv 92, iv 0, .ref 235, iv 98, iv 0, .ref 240, iv 100, iv 0, .ref 245, iv 103, iv 0, .ref 252, iv 105, iv 0, .ref 259, iv 109, iv 0, .ref 266, iv 111, iv 0, .ref 273, iv 113, iv 0, .ref 280, iv 122, iv 0, .ref 285, iv 128, iv 0, .ref 290, iv 134, iv 0, .ref 297, iv 142, iv 0, .ref 304, iv 147, iv 0, .ref 311, iv 152, iv 0, .ref 318, iv 156, iv 0, .ref 325, iv 166, iv 0, .ref 332, iv 178, iv 0, .ref 339, iv 186, iv 0, .ref 346, iv 190, iv 0, .ref 351, iv 206, iv 0, .ref 358, iv 210, iv 0, .ref 365, iv 217, iv 0, .ref 372, iv 219, iv 0, .ref 379, iv 224, iv 0, .ref 384, iv 247, iv 0, .ref 389, iv 257, iv 0, .ref 394, iv 273, iv 0, .ref 401], #[]⟩),
  (13, ⟨.type "code", none, .fields #[sv "<module>" 182, sv "<module>" 183, sv "/claim/cut.py" 184, iv 1, iv 0, iv 0, iv 0, iv 0, .ref 11, .bool false, iv 181, .ref 12, .none, .none, .none, .none, iv 185, iv 1, sv "/claim/cut.py" 186], #[]⟩),
  (14, ⟨.type "frame", none, .plain, #[(some (.ref 13)), (some (.ref 3)), (some (.ref 3)), none, (some (sv "__main__" 164)), none, (some (.ref 0))]⟩),
  (16, eF),
  (19, pf "_wall" "_wall" (dAt 0)),
  (23, ⟨.type "builtin_function_or_method", none, .fields #[.builtin "type.__prepare__", .type "type"], #[]⟩),
  (24, ⟨.type "dict", none, .dict #[⟨kh P "__module__", sv "__module__" 203, sv "methodrows.errors" 194⟩, ⟨kh P "__qualname__", sv "__qualname__" 205, sv "RowsError" 204⟩, ⟨kh P "__firstlineno__", sv "__firstlineno__" 207, .int (5) 206⟩, ⟨kh P "__init__", sv "__init__" 216, .ref 36⟩, ⟨kh P "__static_attributes__", sv "__static_attributes__" 219, .ref 37⟩] 5, #[]⟩),
  (25, eT),
  (26, ⟨.none, none, .fields #[iv 7, iv 4, .ref 35], #[]⟩),
  (27, ⟨.type "code", none, .fields #[sv "RowsError" 198, sv "RowsError" 199, sv "/claim/cut.py" 200, iv 5, iv 0, iv 0, iv 0, iv 0, .ref 25, .bool false, iv 181, .ref 26, .none, .none, .none, .none, iv 201, iv 5, sv "/claim/cut.py" 202], #[]⟩),
  (28, ⟨.type "frame", none, .plain, #[(some (.ref 27)), (some (.ref 3)), (some (.ref 24)), none, (some (sv "methodrows.errors" 194)), none, (some (.ref 0))]⟩),
  (31, eF),
  (34, pf "__init__" "RowsError.__init__" (dIn 2 0)),
  (41, ⟨.type "super", none, .fields #[.ref 39, .ref 39, .ref 39], #[]⟩),
  (42, ⟨.type "builtin_function_or_method", none, .fields #[.builtin "object.__init_subclass__", .ref 39], #[]⟩),
  (44, ⟨.type "builtin_function_or_method", none, .fields #[.builtin "type.__prepare__", .type "type"], #[]⟩),
  (45, ⟨.type "dict", none, .dict #[⟨kh P "__module__", sv "__module__" 234, sv "methodrows.errors" 194⟩, ⟨kh P "__qualname__", sv "__qualname__" 236, sv "MachineFault" 235⟩, ⟨kh P "__firstlineno__", sv "__firstlineno__" 238, .int (11) 237⟩, ⟨kh P "__static_attributes__", sv "__static_attributes__" 239, .ref 50⟩] 4, #[]⟩),
  (46, eT),
  (47, eF),
  (48, ⟨.type "code", none, .fields #[sv "MachineFault" 229, sv "MachineFault" 230, sv "/claim/cut.py" 231, iv 11, iv 0, iv 0, iv 0, iv 0, .ref 46, .bool false, iv 181, .ref 47, .none, .none, .none, .none, iv 232, iv 11, sv "/claim/cut.py" 233], #[]⟩),
  (49, ⟨.type "frame", none, .plain, #[(some (.ref 48)), (some (.ref 3)), (some (.ref 45)), none, (some (sv "methodrows.errors" 194)), none, (some (.ref 0))]⟩),
  (53, ⟨.type "super", none, .fields #[.ref 52, .ref 52, .ref 52], #[]⟩),
  (54, ⟨.type "builtin_function_or_method", none, .fields #[.builtin "object.__init_subclass__", .ref 52], #[]⟩),
  (56, ⟨.type "builtin_function_or_method", none, .fields #[.builtin "type.__prepare__", .type "type"], #[]⟩),
  (57, ⟨.type "dict", none, .dict #[⟨kh P "__module__", sv "__module__" 250, sv "methodrows.errors" 194⟩, ⟨kh P "__qualname__", sv "__qualname__" 252, sv "Thrown" 251⟩, ⟨kh P "__firstlineno__", sv "__firstlineno__" 254, .int (13) 253⟩, ⟨kh P "__init__", sv "__init__" 262, .ref 68⟩, ⟨kh P "__static_attributes__", sv "__static_attributes__" 264, .ref 69⟩] 5, #[]⟩),
  (58, eT),
  (59, ⟨.none, none, .fields #[iv 15, iv 4, .ref 67], #[]⟩),
  (60, ⟨.type "code", none, .fields #[sv "Thrown" 245, sv "Thrown" 246, sv "/claim/cut.py" 247, iv 13, iv 0, iv 0, iv 0, iv 0, .ref 58, .bool false, iv 181, .ref 59, .none, .none, .none, .none, iv 248, iv 13, sv "/claim/cut.py" 249], #[]⟩),
  (61, ⟨.type "frame", none, .plain, #[(some (.ref 60)), (some (.ref 3)), (some (.ref 57)), none, (some (sv "methodrows.errors" 194)), none, (some (.ref 0))]⟩),
  (63, eF),
  (66, pf "__init__" "Thrown.__init__" (dIn 4 0)),
  (72, ⟨.type "super", none, .fields #[.ref 71, .ref 71, .ref 71], #[]⟩),
  (73, ⟨.type "builtin_function_or_method", none, .fields #[.builtin "object.__init_subclass__", .ref 71], #[]⟩),
  (75, eF),
  (78, pf "text_value" "text_value" (dAt 6)),
  (82, eF),
  (85, pf "error_kind" "error_kind" (dAt 7)),
  (89, eF),
  (92, pf "error_value" "error_value" (dAt 8)),
  (96, eF),
  (99, pf "thrown" "thrown" (dAt 9)),
  (103, eF),
  (106, pf "thrown_text" "thrown_text" (dAt 10)),
  (110, eF),
  (113, pf "literal_int" "literal_int" (dAt 11)),
  (119, eF),
  (122, pf "named" "named" (dAt 13)),
  (125, eT),
  (126, ⟨.type "builtin_function_or_method", none, .fields #[.builtin "type.__prepare__", .type "type"], #[]⟩),
  (127, ⟨.type "dict", none, .dict #[⟨kh P "__module__", sv "__module__" 335, sv "methodrows.values" 326⟩, ⟨kh P "__qualname__", sv "__qualname__" 337, sv "Thing" 336⟩, ⟨kh P "__firstlineno__", sv "__firstlineno__" 339, .int (36) 338⟩, ⟨kh P "__init__", sv "__init__" 349, .ref 138⟩, ⟨kh P "__static_attributes__", sv "__static_attributes__" 353, .ref 139⟩] 5, #[]⟩),
  (128, eT),
  (129, ⟨.none, none, .fields #[iv 38, iv 4, .ref 137], #[]⟩),
  (130, ⟨.type "code", none, .fields #[sv "Thing" 330, sv "Thing" 331, sv "/claim/cut.py" 332, iv 36, iv 0, iv 0, iv 0, iv 0, .ref 128, .bool false, iv 181, .ref 129, .none, .none, .none, .none, iv 333, iv 36, sv "/claim/cut.py" 334], #[]⟩),
  (131, ⟨.type "frame", none, .plain, #[(some (.ref 130)), (some (.ref 3)), (some (.ref 127)), none, (some (sv "methodrows.values" 326)), none, (some (.ref 0))]⟩),
  (133, eF),
  (136, pf "__init__" "Thing.__init__" (dIn 15 0)),
  (144, ⟨.type "super", none, .fields #[.ref 141, .ref 141, .ref 141], #[]⟩),
  (145, ⟨.type "builtin_function_or_method", none, .fields #[.builtin "object.__init_subclass__", .ref 141], #[]⟩),
  (146, eT),
  (147, ⟨.type "builtin_function_or_method", none, .fields #[.builtin "type.__prepare__", .type "type"], #[]⟩),
  (148, ⟨.type "dict", none, .dict #[⟨kh P "__module__", sv "__module__" 368, sv "methodrows.values" 326⟩, ⟨kh P "__qualname__", sv "__qualname__" 370, sv "Heap" 369⟩, ⟨kh P "__firstlineno__", sv "__firstlineno__" 372, .int (42) 371⟩, ⟨kh P "__init__", sv "__init__" 379, .ref 159⟩, ⟨kh P "put", sv "put" 387, .ref 166⟩, ⟨kh P "new_object", sv "new_object" 396, .ref 173⟩, ⟨kh P "new_array", sv "new_array" 406, .ref 180⟩, ⟨kh P "new_box", sv "new_box" 414, .ref 187⟩, ⟨kh P "object", sv "object" 422, .ref 194⟩, ⟨kh P "__static_attributes__", sv "__static_attributes__" 424, .ref 195⟩] 10, #[]⟩),
  (149, eT),
  (150, ⟨.none, none, .fields #[iv 44, iv 4, .ref 158, iv 47, iv 4, .ref 165, iv 51, iv 4, .ref 172, iv 54, iv 4, .ref 179, iv 57, iv 4, .ref 186, iv 60, iv 4, .ref 193], #[]⟩),
  (151, ⟨.type "code", none, .fields #[sv "Heap" 363, sv "Heap" 364, sv "/claim/cut.py" 365, iv 42, iv 0, iv 0, iv 0, iv 0, .ref 149, .bool false, iv 181, .ref 150, .none, .none, .none, .none, iv 366, iv 42, sv "/claim/cut.py" 367], #[]⟩),
  (152, ⟨.type "frame", none, .plain, #[(some (.ref 151)), (some (.ref 3)), (some (.ref 148)), none, (some (sv "methodrows.values" 326)), none, (some (.ref 0))]⟩),
  (154, eF),
  (157, pf "__init__" "Heap.__init__" (dIn 16 0)),
  (161, eF),
  (164, pf "put" "Heap.put" (dIn 16 1)),
  (168, eF),
  (171, pf "new_object" "Heap.new_object" (dIn 16 2)),
  (175, eF),
  (178, pf "new_array" "Heap.new_array" (dIn 16 3)),
  (182, eF),
  (185, pf "new_box" "Heap.new_box" (dIn 16 4)),
  (189, eF),
  (192, pf "object" "Heap.object" (dIn 16 5)),
  (200, ⟨.type "super", none, .fields #[.ref 197, .ref 197, .ref 197], #[]⟩),
  (201, ⟨.type "builtin_function_or_method", none, .fields #[.builtin "object.__init_subclass__", .ref 197], #[]⟩),
  (203, eF),
  (206, pf "array_kind" "array_kind" (dAt 17)),
  (210, eF),
  (213, pf "many_of" "many_of" (dAt 20)),
  (217, eF),
  (220, pf "strides_of" "strides_of" (dAt 21)),
  (224, eF),
  (227, pf "offset_of" "offset_of" (dAt 22)),
  (231, eF),
  (234, pf "index_of" "index_of" (dAt 23)),
  (238, eF),
  (239, pf "bounds_fault" "bounds_fault" (dAt 24)),
  (243, eF),
  (244, pf "check_sizes" "check_sizes" (dAt 25)),
  (248, eF),
  (251, pf "is_array" "is_array" (dAt 26)),
  (255, eF),
  (258, pf "parent_of" "parent_of" (dAt 27)),
  (262, eF),
  (265, pf "sizes_of" "sizes_of" (dAt 28)),
  (269, eF),
  (272, pf "layout_of" "layout_of" (dAt 29)),
  (276, eF),
  (279, pf "place_in_parent" "place_in_parent" (dAt 30)),
  (283, eF),
  (284, pf "places_of" "places_of" (dAt 31)),
  (288, eF),
  (289, pf "items_of" "items_of" (dAt 32)),
  (293, eF),
  (296, pf "item_at" "item_at" (dAt 33)),
  (300, eF),
  (303, pf "set_item" "set_item" (dAt 34)),
  (307, eF),
  (310, pf "made" "made" (dAt 35)),
  (314, eF),
  (317, pf "need_row" "need_row" (dAt 36)),
  (321, eF),
  (324, pf "popped" "popped" (dAt 37)),
  (328, eF),
  (331, pf "taken_row" "taken_row" (dAt 39)),
  (335, eF),
  (338, pf "edge_indices" "edge_indices" (dAt 40)),
  (342, eF),
  (345, pf "edge_of" "edge_of" (dAt 41)),
  (349, eF),
  (350, pf "view_of" "view_of" (dAt 42)),
  (354, eF),
  (357, pf "_law_rim" "_law_rim" (dAt 44)),
  (361, eF),
  (364, pf "_law_notch" "_law_notch" (dAt 45)),
  (368, eF),
  (371, pf "_law_int" "_law_int" (dAt 46)),
  (375, eF),
  (378, pf "_law_heard" "_law_heard" (dAt 47)),
  (382, eF),
  (383, pf "_law_shrunk_right" "_law_shrunk_right" (dAt 48)),
  (387, eF),
  (388, pf "_law_sizes_right" "_law_sizes_right" (dAt 49)),
  (392, eF),
  (393, pf "_law_ones_right" "_law_ones_right" (dAt 50)),
  (397, eF),
  (400, pf "law" "law" (dAt 51))]
noncomputable def mergeF : Nat → Nat → Frag → Frag → List Obj
  | 0, _, _, _ => []
  | n + 1, i, (a, o) :: l, r => match Nat.beq a i with
    | true => o :: mergeF n (i + 1) l r
    | false => match r with
      | [] => []
      | (_, o') :: r => o' :: mergeF n (i + 1) ((a, o) :: l) r
  | n + 1, i, [], (_, o') :: r => o' :: mergeF n (i + 1) [] r
  | _, _, [], [] => []
noncomputable def oAll (P : Params) : List Obj := mergeF 403 0 (hk P) (hr P)
noncomputable def halves : List Obj → List Obj × List Obj
  | [] => ([], [])
  | x :: xs => (x :: (halves xs).2, (halves xs).1)
noncomputable def treeF : Nat → List Obj → BT
  | n + 1, x :: xs => .node x (treeF n (halves xs).1) (treeF n (halves xs).2)
  | _, _ => .nil
noncomputable def c3 (k : Nat) (v : Value) : Obj → Obj
  | ⟨c, d, .dict ⟨e :: es⟩ _, s⟩ => ⟨c, d, .dict ⟨{ e with val := v } :: es.take (k - 1)⟩ k, s⟩
  | o => o
noncomputable def c12 (m : Nat) : Obj → Obj
  | ⟨c, d, .fields ⟨vs⟩, s⟩ => ⟨c, d, .fields ⟨vs.take m⟩, s⟩
  | o => o
noncomputable def c39 (l : List Addr) : Obj → Obj
  | ⟨c, d, .cls k, s⟩ => ⟨c, d, .cls { k with subclasses := l.map .ref }, s⟩
  | o => o
noncomputable def stT (n k m : Nat) (v : Value) (P : Params) : BT := ((treeF 10 ((oAll P).take n)).set 3 (c3 k v)).set 12 (c12 m)
noncomputable def pM : Program := PySem.Challenge.pw_rg0193_01
noncomputable def bM : List Stmt := behindTheImports pM
noncomputable def envM : Env := { scope := pM.main.scope, locals := mainNs, globals := mainNs, cells := [], code := .ref 13, frame := some 14 }
noncomputable def cM : Code := .body bM envM
noncomputable def annM : Option Value := some (.ref 6)
noncomputable def BM : List Frame := [topFrame ⟨0, 0, 0, 0⟩]
noncomputable def lifeM : Life := {}
noncomputable def shT (T : Params → BT) (n toks : Nat) (w : World) (os : OsState) : SharedT := ⟨T w.params, n, lifeM, #[], {}, toks, os⟩
noncomputable def s0 : World → OsState → SharedT := shT (fun P => ((stT 15 9 0 (.str (.ofString "__main__") 164) P).set 2 fun o => { o with data := .dict #[] 0 })) 15 187
noncomputable def s3 : World → OsState → SharedT := shT (fun P => (stT 43 11 6 (.str (.ofString "methodrows.errors") 194) P).set 39 (c39 [])) 43 227
noncomputable def s4 : World → OsState → SharedT := shT (fun P => (stT 55 12 9 (.str (.ofString "methodrows.errors") 194) P).set 39 (c39 [52])) 55 243
noncomputable def s12 : World → OsState → SharedT := shT (stT 116 19 30 (.str (.ofString "methodrows.forms") 268)) 116 316
noncomputable def s16 : World → OsState → SharedT := shT (stT 146 21 36 (.str (.ofString "methodrows.values") 326)) 146 361
noncomputable def s17 : World → OsState → SharedT := shT (stT 202 22 39 (.str (.ofString "methodrows.values") 326)) 202 432
noncomputable def s30 : World → OsState → SharedT := shT (stT 275 34 72 (.str (.ofString "methodrows.arrays") 440)) 275 528
noncomputable def s42 : World → OsState → SharedT := shT (stT 348 45 105 (.str (.ofString "methodrows.views") 605)) 348 642
noncomputable def s52 : World → OsState → SharedT := shT (stT 403 54 132 (.str (.ofString "law_rg0193_01") 648)) 403 712
theorem pc_pre (w : World) (os : OsState) : topGo treeTable pM w 11 annM 12 ⟨boot_heap w.params, Array.mk [], boot_drawn, boot_toks, os⟩ (topStub pM) = some ((s0 w os).abs, ⟨denote treeTable cM, cM, ⟨0, 0, 0, 0⟩, BM⟩) := by kernel_rfl
theorem pc_blk (w : World) (os : OsState) : segRun treeTable pM w 11 annM 1 1 (s0 w os).abs (blockOf bM envM cM ⟨0, 0, 0, 0⟩ BM) = some (.next, (s0 w os).abs, cM, ⟨0, 0, 0, 0⟩) := by kernel_rfl
theorem pc_3 (w : World) (os : OsState) : segRunT treeTable pM w 11 annM 1 270 (s0 w os) (piecesOf (bM.take 3) envM cM ⟨0, 0, 0, 0⟩ BM) = some (.next, s3 w os, cM, ⟨5, 0, 10, 24⟩) := by kernel_rfl
theorem pc_4 (w : World) (os : OsState) : segRunT treeTable pM w 11 annM 1 214 (s3 w os) (piecesOf ((bM.drop 3).take 1) envM cM ⟨5, 0, 10, 24⟩ BM) = some (.next, s4 w os, cM, ⟨11, 0, 12, 8⟩) := by kernel_rfl
theorem pc_12 (w : World) (os : OsState) : segRunT treeTable pM w 11 annM 1 433 (s4 w os) (piecesOf (((bM.drop 3).drop 1).take 8) envM cM ⟨11, 0, 12, 8⟩ BM) = some (.next, s12 w os, cM, ⟨29, 0, 31, 32⟩) := by kernel_rfl
theorem pc_16 (w : World) (os : OsState) : segRunT treeTable pM w 11 annM 1 278 (s12 w os) (piecesOf ((((bM.drop 3).drop 1).drop 8).take 4) envM cM ⟨29, 0, 31, 32⟩ BM) = some (.next, s16 w os, cM, ⟨36, 0, 41, 26⟩) := by kernel_rfl
theorem pc_17 (w : World) (os : OsState) : segRunT treeTable pM w 11 annM 1 385 (s16 w os) (piecesOf (((((bM.drop 3).drop 1).drop 8).drop 4).take 1) envM cM ⟨36, 0, 41, 26⟩ BM) = some (.next, s17 w os, cM, ⟨42, 0, 63, 35⟩) := by kernel_rfl
theorem pc_30 (w : World) (os : OsState) : segRunT treeTable pM w 11 annM 1 349 (s17 w os) (piecesOf ((((((bM.drop 3).drop 1).drop 8).drop 4).drop 1).take 13) envM cM ⟨42, 0, 63, 35⟩ BM) = some (.next, s30 w os, cM, ⟨111, 0, 112, 97⟩) := by kernel_rfl
theorem pc_42 (w : World) (os : OsState) : segRunT treeTable pM w 11 annM 1 360 (s30 w os) (piecesOf (((((((bM.drop 3).drop 1).drop 8).drop 4).drop 1).drop 13).take 12) envM cM ⟨111, 0, 112, 97⟩ BM) = some (.next, s42 w os, cM, ⟨186, 0, 189, 89⟩) := by kernel_rfl
theorem pc_52 (w : World) (os : OsState) : segRunT treeTable pM w 11 annM 1 268 (s42 w os) (piecesOf ((((((((bM.drop 3).drop 1).drop 8).drop 4).drop 1).drop 13).drop 12).take 10) envM cM ⟨186, 0, 189, 89⟩ BM) = some (.next, s52 w os, cM, ⟨273, 0, 278, 96⟩) := by kernel_rfl
noncomputable def hEnd (P : Params) : Heap := ⟨⟨oAll P⟩, lifeM⟩
theorem pc_abs (w : World) (os : OsState) : (s52 w os).abs = ⟨hEnd w.params, #[], {}, 712, os⟩ := by kernel_rfl
theorem pc_fin (w : World) (os : OsState) : topRun treeTable pM w 11 annM 2 (s52 w os).abs (restOf ((((((((bM.drop 3).drop 1).drop 8).drop 4).drop 1).drop 13).drop 12).drop 10) envM cM ⟨273, 0, 278, 96⟩ BM) = some (s52 w os).abs := by kernel_rfl
theorem link {w : World} {k n N : Nat} {s s' : SharedT} {r : Shared} {l : List Stmt} {p p' : Pos} (h : segRunT treeTable pM w 11 annM 1 n s (piecesOf (l.take k) envM cM p BM) = some (.next, s', cM, p'))
    (x : topRun treeTable pM w 11 annM N s'.abs (restOf (l.drop k) envM cM p' BM) = some r) : topRun treeTable pM w 11 annM (n + N) s.abs (restOf l envM cM p BM) = some r := by
  have := piece_app (rest := l.drop k) (segRun_of h) x
  rwa [List.take_append_drop] at this
theorem pc_run (w : World) (os : OsState) : topRun treeTable pM w 11 annM 2572 ⟨boot_heap w.params, Array.mk [], boot_drawn, boot_toks, os⟩ (topStub pM) = some ⟨hEnd w.params, #[], {}, 712, os⟩ := by
  have h := go_top (pc_pre w os) (piece_block (pc_blk w os) (link (pc_3 w os) (link (pc_4 w os) (link (pc_12 w os) (link (pc_16 w os) (link (pc_17 w os) (link (pc_30 w os) (link (pc_42 w os) (link (pc_52 w os) (pc_fin w os))))))))))
  rw [pc_abs] at h
  exact h
theorem pc_open {N : Nat} (h : Nat.ble 600 N = true) : ∀ w : World, (fencedOpening treeTable pM w N).map (fun s => (s.heap, s.gens, s.drawn, s.toks)) = some (boot_heap w.params, Array.mk [], boot_drawn, boot_toks) := boot_open (by kernel_rfl) h fun s => by kernel_rfl
theorem pc_size (w : World) : ((boot_heap w.params).isNs mainGlobals && (Array.mk [] : Array GenState).size == 0, (boot_heap w.params).objs.size, (boot_heap w.params).nsMap mainGlobals "__annotations__") = (true, 11, annM) := by kernel_rfl
theorem left {q : Program} {loose : List Str} {Xt : Shared → Bool} {α : Type} {Yf : Shared → α} {Ya : World → α} {N : Nat} {g0 : Bool} (hN : Nat.ble 600 N = true) (le : Nat.ble 2572 N = true)
    (looks : ∀ w : World, (fun os => ((staticsOk (importedModules pM.main.body) (boot_heap w.params) (hEnd w.params) && namesBound pM (hEnd w.params) && gensDone ⟨hEnd w.params, #[], {}, 712, os⟩ && laidKept (boot_heap w.params) (hEnd w.params)),
        openSeen q loose (importedModules pM.main.body) Xt g0 ⟨hEnd w.params, #[], {}, 712, os⟩, Yf ⟨hEnd w.params, #[], {}, 712, os⟩)) = fun _ => (true, openGood q loose, Ya w)) : LeftO pM q loose Xt Yf Ya N g0 :=
  LeftO.of_pieces (pc_open hN) pc_size pc_run le looks
end Mine.Hd
set_option maxRecDepth 100000
set_option maxHeartbeats 0
/-- what the law's entry must come to -/
def Mine.Entry : Prop := ∀ {p : Program} {loose : List Str} {mean : ExcName → Option Value} {mg mb : Str → Option Value} {w : World} {s : Shared} {fa sv : Addr} {ws : List Value} {ns : List Int},
    Top p loose mean mg mb s.heap → Mine.hkHook.says w s.heap → mg "law" = some (.ref fa) → s.heap.IsList sv ws.toArray → IntsAre ws ns → ¬ (63 : Int) < (ns.length : Int) →
    wpAny (model PySem.Challenge.pw_rg0193_01 w) callerA (call (.ref fa) [.ref sv]) (fun v s' => v = .bool true ∧ OldK s.heap s'.heap ∧ s'.os = s.os ∧ s'.gens = s.gens) (fun _ _ => False) s
theorem Mine.walk (E : Mine.Entry) {q : Program} {loose : List Str} {XP : (Str → Option Value) → Heap → Prop} {d : DefRec} {kwd : List (Str × PySem.Expr)} (hn : d.name = "law") :
    WalkO q loose XP Mine.hkHook.says PySem.Challenge.rw_rg0193_01.row.toRowW d kwd fun f vs => PySem.call f vs := by
  intro w s₀ s₁ mg mb G Y fa o pm cd doc dV kV ho hd hcd hD hmg hg args vals as hpre hlay hrd hwl hlo
  refine Ground.open G ?_
  intro T B D TE TW
  wrow_args hpre hlay hrd hwl hlo
  rw [hn] at hmg
  have e2 := E T Y hmg (by assumption) (by assumption) (by assumption)
  refine wpAny_mono e2 (fun v s' h => ?_) (fun _ _ h => h.elim)
  obtain ⟨e, hold, hos, hgn⟩ := h
  subst e
  exact ⟨.inl ⟨.bool true, .bool true, [], rfl, fun cls => rfl, .bool true, by wrow_post, fun _ => ⟨.nil, fun a ha => by cases ha⟩⟩, hold, hos, AllBare.of_eq (hgn.trans hg)⟩
theorem Mine.said : PySem.Challenge.rw_rg0193_01.wellSaid = true := by
  delta OpenLaw.wellSaid
  repeat' (with_reducible refine look_both ?_ ?_)
  · show OpenRow.wellSaid _ = true
    delta OpenRow.wellSaid OpenRow.partSaid looksOpen
    repeat' (with_reducible refine look_both ?_ ?_)
    all_goals decide +kernel
  all_goals decide +kernel
section
/- the head's run is proved in pieces (Mine.Hd.left); the law's entry is used where the head opens, for the head's tactic drops what stands before it -/
local macro_rules
  | `(tactic| refine $f:ident (q := $q) $xs*) => `(tactic| (refine' $f (q := $q) $xs*; (case hc => exact Mine.walk (by assumption) rfl); (case hl => exact Mine.Hd.left rfl rfl fun w => by kernel_rfl)))
theorem Mine.top (E : Mine.Entry) : PySem.Challenge.rw_rg0193_01.Holds := by
  w_on
  refine holds_law Mine.said fun said => ?_
  o_head Mine.hkHook
  case hw => w_witness2
end
open PySem PySem.W PyProof.Rows PySem.Calls PySem.Spec
set_option Elab.async false
set_option maxRecDepth 100000
namespace Mine

/-! the abstract values and the store -/
inductive V where
  | none | bool (b : Bool) | int (i : Int) | str (n : Nat) | tup (vs : List V) | ref (k : Nat) | ins (c k : Nat) | exo (v : V) | big (lo hi : Int) | opq

inductive AO where
  | lst (vs : List V) | cell (v : Option V) | dct (fs : List (Nat × V)) | rim

/-- the texts that stand in data -/
noncomputable def strTab : List Str := ["ArgumentError", "BoundsError", "Int64", "BigInt", "int", "text", "name", "struct", "tuple", "array", "view", "n", "Array", "Any", "no such sizes of an array", "utf-8", "ErrorException", "DimensionMismatch"]
noncomputable def strOf (n : Nat) : Str := strTab.getD n "?"
/-- the fields' names -/
noncomputable def attrTab : List Str := ["kind", "fields", "sizes", "things", "message", "spot", "value"]
noncomputable def attrOf (n : Nat) : Str := attrTab.getD n "?"

structure St where
  σ : List AO
  μ : List Addr
  tl : List (Addr × Obj)

structure Le (G G' : St) : Prop where
  tl : ∀ p ∈ G.tl, p ∈ G'.tl
  μ : ∃ l, G'.μ = G.μ ++ l
theorem Le.refl (G : St) : Le G G := ⟨fun _ h => h, [], by simp⟩
theorem Le.trans {a b c : St} (x : Le a b) (y : Le b c) : Le a c := by
  refine ⟨fun p h => y.tl p (x.tl p h), ?_⟩
  obtain ⟨l, h1⟩ := x.μ
  obtain ⟨l', h2⟩ := y.μ
  exact ⟨l ++ l', by rw [h2, h1, List.append_assoc]⟩
theorem Le.get {G G' : St} (x : Le G G') {k : Nat} {a : Addr} (h : G.μ[k]? = some a) : G'.μ[k]? = some a := by
  obtain ⟨l, e⟩ := x.μ
  rw [e, List.getElem?_append_left (List.getElem?_eq_some_iff.mp h).1]
  exact h

noncomputable abbrev tupObj (vs : List Value) : Obj := { cls := .type "tuple", data := .seq vs.toArray }
noncomputable abbrev lstObj (vs : List Value) (n : Nat) : Obj := { cls := .type "list", data := .seq vs.toArray n }
noncomputable abbrev cellObj (v : Option Value) : Obj := { cls := .type "cell", data := .cell v }
noncomputable abbrev dctObj (es : Array DictEntry) (n : Nat) : Obj := { cls := .type "dict", data := .dict es n }
noncomputable abbrev insObj (C d : Addr) : Obj := { cls := .ref C, dict := some d, data := .plain }

mutual
inductive VR (G : St) : V → Value → Prop
  | none : VR G .none .none
  | bool (b : Bool) : VR G (.bool b) (.bool b)
  | int (i : Int) (t : Tok) : VR G (.int i) (.int i t)
  | str (n : Nat) (t : Tok) : VR G (.str n) (.str (strOf n) t)
  | tup {vs : List V} {a : Addr} {ws : List Value} : (a, tupObj ws) ∈ G.tl → VRs G vs ws → VR G (.tup vs) (.ref a)
  | ref {k : Nat} {a : Addr} : G.μ[k]? = some a → VR G (.ref k) (.ref a)
  | ins {c k : Nat} {a d : Addr} : (a, insObj c d) ∈ G.tl → G.μ[k]? = some d → VR G (.ins c k) (.ref a)
  | big {lo hi i : Int} {t : Tok} : lo ≤ i → i < hi → hi ≤ 2 ^ 40 → VR G (.big lo hi) (.int i t)
  | opq (v : Value) : VR G .opq v
inductive VRs (G : St) : List V → List Value → Prop
  | nil : VRs G [] []
  | cons {v : V} {vs : List V} {w : Value} {ws : List Value} : VR G v w → VRs G vs ws → VRs G (v :: vs) (w :: ws)
end

mutual
theorem VR.mono {G G' : St} (x : Le G G') : ∀ {v : V} {w : Value}, VR G v w → VR G' v w
  | _, _, .none => .none
  | _, _, .bool b => .bool b
  | _, _, .int i t => .int i t
  | _, _, .str n t => .str n t
  | _, _, .tup h r => .tup (x.tl _ h) (VRs.mono x r)
  | _, _, .ref h => .ref (x.get h)
  | _, _, .ins h k => .ins (x.tl _ h) (x.get k)
  | _, _, .big h k l => .big h k l
  | _, _, .opq v => .opq v
theorem VRs.mono {G G' : St} (x : Le G G') : ∀ {v : List V} {w : List Value}, VRs G v w → VRs G' v w
  | _, _, .nil => .nil
  | _, _, .cons h r => .cons (VR.mono x h) (VRs.mono x r)
end
theorem VRs.length {G : St} : ∀ {vs : List V} {ws : List Value}, VRs G vs ws → ws.length = vs.length
  | _, _, .nil => rfl
  | _, _, .cons _ r => by simp [VRs.length r]
theorem VRs.get {G : St} : ∀ {vs : List V} {ws : List Value}, VRs G vs ws → ∀ {i : Nat} {v : V}, vs[i]? = some v → ∃ w, ws[i]? = some w ∧ VR G v w
  | _, _, .nil, i, v, h => by simp at h
  | _, _, .cons a r, 0, v, h => by
    simp only [List.getElem?_cons_zero, Option.some.injEq] at h
    subst h
    exact ⟨_, rfl, a⟩
  | _, _, .cons a r, i + 1, v, h => by
    simp only [List.getElem?_cons_succ] at h ⊢
    exact VRs.get r h
theorem VRs.append {G : St} {vs vs' : List V} {ws ws' : List Value} (h : VRs G vs ws) (h' : VRs G vs' ws') : VRs G (vs ++ vs') (ws ++ ws') := by
  induction vs generalizing ws with
  | nil => cases h; exact h'
  | cons v vs ih => cases h with | cons a r => exact .cons a (ih r)

/-- the top's facts, over a heap without the code tables that may grow -/
structure Dt where
  w : World
  base : Heap
  mg : Str → Option Value
  mb : Str → Option Value
  K : (hk w.params).In base
  g : base.Ns mainGlobals mg
  b : base.Ns builtinsNs mb
  bi : ∀ x : Str, x ≠ "__name__" → mb x = bootBuiltins x
  nl : base.NoLimit
  bm : ∃ bm o, mg "__builtins__" = some (.ref bm) ∧ bm ≠ builtinsNs ∧ bm ≠ mainGlobals ∧ base.get? bm = some o ∧ o.cls = .type "module" ∧ o.dict = some builtinsNs ∧ o.data = .plain

noncomputable def tabs : List (Addr × Addr) := [(394, 392), (389, 387), (384, 382), (401, 397)]

inductive OR (G : St) (h : Heap) (a : Addr) : AO → Prop
  | lst {vs : List V} {ws : List Value} {n : Nat} : h.get? a = some (lstObj ws n) → VRs G vs ws → OR G h a (.lst vs)
  | cell0 : h.IsCell a none → OR G h a (.cell none)
  | cell {v : V} {w : Value} : h.IsCell a (some w) → VR G v w → OR G h a (.cell (some v))
  | dct {fs : List (Nat × V)} {es : List DictEntry} {n : Nat} : h.get? a = some (dictOf es n) → (∀ e ∈ es, ∃ i t, i < 7 ∧ e.key = .str (attrOf i) t) → es.length ≤ 20 → (∀ x v, fs.lookup x = some v → ∃ w, getL (attrOf x) es = some (some w) ∧ VR G v w) → OR G h a (.dct fs)
  | rim {x y : Int} {t u : Tok} {n : Nat} : h.get? a = some (lstObj [.int x t, .int y u] n) → 0 ≤ x → 0 ≤ y → y < 65287 → OR G h a .rim

structure Fx where
  pr : List (Addr × Obj)
  fr : List (Addr × (Str → Option Value))
  fe : List Env

noncomputable def dom (G : St) (F : Fx) : List Addr := G.tl.map (·.1) ++ (G.μ ++ (F.pr.map (·.1) ++ F.fr.map (·.1)))

/-- a code table: what it bears is a code object that stands -/
noncomputable def TabOk (G : St) (h : Heap) (P : Addr) : Prop := ∃ ps : Array Value, h.get? P = some (tabO ps) ∧ TriplesOk ps.toList ∧
  ∀ pos cv, codeAmong pos ps.toList = some cv → ∃ c' oc, cv = .ref c' ∧ (c', oc) ∈ G.tl ∧ ∃ vs q t, oc.data = .fields vs ∧ vs[1]? = some (.str q t)

structure Wd (D : Dt) (h : Heap) (G : St) (F : Fx) : Prop where
  keep : ∀ b o, D.base.get? b = some o → h.get? b = some o
  len : G.μ.length = G.σ.length
  nd : (dom G F).Nodup
  new : ∀ a ∈ dom G F, D.base.get? a = none ∧ ∀ p ∈ tabs, a ≠ p.2
  tl : ∀ p ∈ G.tl, h.get? p.1 = some p.2
  pr : ∀ p ∈ F.pr, h.get? p.1 = some p.2
  fr : ∀ p ∈ F.fr, h.Ns p.1 p.2
  ob : ∀ (k : Nat) o, G.σ[k]? = some o → ∃ a, G.μ[k]? = some a ∧ OR G h a o
  fe : ∀ e ∈ F.fe, e.scope.kind ≠ .module ∧ ∃ L, e.frame = some L ∧ L ∈ F.fr.map (·.1)
  tab : ∀ p ∈ tabs, D.base.get? p.2 = none ∧ CodeHd D.base p.1 p.2 ∧ TabOk G h p.2

theorem OR.keeps {G : St} {h h' : Heap} {a : Addr} {o : AO} (x : OR G h a o) (e : ∀ ob, h.get? a = some ob → h'.get? a = some ob) : OR G h' a o := by
  cases x with
  | lst h1 r => exact .lst (e _ h1) r
  | cell0 h1 => obtain ⟨o, ho, hd⟩ := h1; exact .cell0 ⟨o, e _ ho, hd⟩
  | cell h1 r => obtain ⟨o, ho, hd⟩ := h1; exact .cell ⟨o, e _ ho, hd⟩ r
  | dct h1 hk hn r => exact .dct (e _ h1) hk hn r
  | rim h1 a b c => exact .rim (e _ h1) a b c
theorem OR.mono {G G' : St} {h : Heap} {a : Addr} {o : AO} (l : Le G G') (x : OR G h a o) : OR G' h a o := by
  cases x with
  | lst h1 r => exact .lst h1 (r.mono l)
  | cell0 h1 => exact .cell0 h1
  | cell h1 r => exact .cell h1 (r.mono l)
  | dct h1 hk hn r => exact .dct h1 hk hn fun x v e => let ⟨w, p, q⟩ := r x v e; ⟨w, p, q.mono l⟩
  | rim h1 a b c => exact .rim h1 a b c

theorem TabOk.mono {G G' : St} {h : Heap} {P : Addr} (l : Le G G') (x : TabOk G h P) : TabOk G' h P := by
  obtain ⟨ps, h1, h2, h3⟩ := x
  exact ⟨ps, h1, h2, fun pos cv e => let ⟨c', oc, a, b, d⟩ := h3 pos cv e; ⟨c', oc, a, l.tl _ b, d⟩⟩

section kit
variable {D : Dt} {h h' : Heap} {G : St} {F : Fx}

theorem OR.here {a : Addr} {o : AO} (x : OR G h a o) : ∃ ob, h.get? a = some ob := by
  cases x with
  | lst h1 _ => exact ⟨_, h1⟩
  | cell0 h1 => obtain ⟨o, ho, _⟩ := h1; exact ⟨_, ho⟩
  | cell h1 _ => obtain ⟨o, ho, _⟩ := h1; exact ⟨_, ho⟩
  | dct h1 _ _ _ => exact ⟨_, h1⟩
  | rim h1 _ _ _ => exact ⟨_, h1⟩
theorem Wd.here (W : Wd D h G F) {a : Addr} (ha : a ∈ dom G F) : ∃ o, h.get? a = some o := by
  unfold dom at ha
  simp only [List.mem_append] at ha
  rcases ha with ha | ha | ha | ha
  · obtain ⟨p, hp, rfl⟩ := List.mem_map.mp ha
    exact ⟨_, W.tl p hp⟩
  · obtain ⟨k, hk⟩ := List.mem_iff_getElem?.mp ha
    have hl : k < G.σ.length := by rw [← W.len]; exact (List.getElem?_eq_some_iff.mp hk).1
    obtain ⟨b, hb, ho⟩ := W.ob k _ (List.getElem?_eq_getElem hl)
    rw [hk] at hb
    cases hb
    exact ho.here
  · obtain ⟨p, hp, rfl⟩ := List.mem_map.mp ha
    exact ⟨_, W.pr p hp⟩
  · obtain ⟨p, hp, rfl⟩ := List.mem_map.mp ha
    obtain ⟨o, es, ep, ho, _⟩ := W.fr p hp
    exact ⟨o, ho⟩
theorem Wd.lt (W : Wd D h G F) {a : Addr} (ha : a ∈ dom G F) : a < h.objs.size := let ⟨_, e⟩ := W.here ha; Heap.lt_size e

/-- a heap that keeps all -/
theorem Wd.grow (W : Wd D h G F) (k : ∀ b o, h.get? b = some o → h'.get? b = some o) : Wd D h' G F where
  keep b o e := k b o (W.keep b o e)
  len := W.len
  nd := W.nd
  new := W.new
  tl p hp := k _ _ (W.tl p hp)
  pr p hp := k _ _ (W.pr p hp)
  fr p hp := (W.fr p hp).keeps k
  ob i o e := let ⟨a, x, y⟩ := W.ob i o e; ⟨a, x, y.keeps fun _ q => k _ _ q⟩
  fe := W.fe
  tab p hp := let ⟨a, c, ps, x, y⟩ := W.tab p hp; ⟨a, c, ps, k _ _ x, y⟩

theorem Wd.push (W : Wd D h G F) (o : Obj) : Wd D (h.push o) G F := W.grow (fun _ _ e => Heap.get?_push_of_some _ e)

theorem Wd.fresh (W : Wd D h G F) : D.base.get? h.objs.size = none := by
  cases q : D.base.get? h.objs.size with
  | none => rfl
  | some o => exact absurd (Heap.lt_size (W.keep _ _ q)) (Nat.lt_irrefl _)
theorem Wd.freshIn (W : Wd D h G F) {a : Addr} (ha : h.objs.size ≤ a) : a ∉ dom G F := fun hm => absurd (W.lt hm) (Nat.not_lt.mpr ha)
theorem Wd.freshBase (W : Wd D h G F) {a : Addr} (ha : h.objs.size ≤ a) : D.base.get? a = none := by
  cases q : D.base.get? a with
  | none => rfl
  | some o => exact absurd (Heap.lt_size (W.keep _ _ q)) (Nat.not_lt.mpr ha)
theorem Wd.freshTab (W : Wd D h G F) {a : Addr} (ha : h.objs.size ≤ a) : ∀ p ∈ tabs, a ≠ p.2 := fun p hp e => by
  subst e
  obtain ⟨_, _, ps, x, _⟩ := W.tab p hp
  exact absurd (Heap.lt_size x) (Nat.not_lt.mpr ha)
end kit
end Mine
open PySem PySem.W PyProof.Rows PySem.Calls PySem.Spec
set_option Elab.async false
set_option maxRecDepth 100000
namespace Mine
section kit
variable {D : Dt} {h h' : Heap} {G : St} {F : Fx}

theorem Le.addT (G : St) (p : Addr × Obj) : Le G { G with tl := p :: G.tl } := ⟨fun _ h => .tail _ h, [], by simp⟩
theorem Le.addS (G : St) (a : Addr) (o : AO) : Le G { G with σ := G.σ ++ [o], μ := G.μ ++ [a] } := ⟨fun _ h => h, [a], rfl⟩
theorem Le.setS (G : St) (s : List AO) : Le G { G with σ := s } := ⟨fun _ h => h, [], by simp⟩

theorem Wd.inTl (_W : Wd D h G F) {p : Addr × Obj} (hp : p ∈ G.tl) : p.1 ∈ dom G F := List.mem_append_left _ (List.mem_map_of_mem hp)
theorem inMu {G : St} {F : Fx} {k : Nat} {a : Addr} (e : G.μ[k]? = some a) : a ∈ dom G F := List.mem_append_right _ (List.mem_append_left _ (List.mem_of_getElem? e))
theorem inPr {G : St} {F : Fx} {p : Addr × Obj} (hp : p ∈ F.pr) : p.1 ∈ dom G F := List.mem_append_right _ (List.mem_append_right _ (List.mem_append_left _ (List.mem_map_of_mem hp)))
theorem inFr {G : St} {F : Fx} {a : Addr} (hp : a ∈ F.fr.map (·.1)) : a ∈ dom G F := List.mem_append_right _ (List.mem_append_right _ (List.mem_append_right _ hp))

/-- an object that stands is taken into the ledger -/
theorem Wd.addT (W : Wd D h G F) {a : Addr} {o : Obj} (e : h.get? a = some o) (ha : a ∉ dom G F) (hb : D.base.get? a = none) (ht : ∀ p ∈ tabs, a ≠ p.2) : Wd D h { G with tl := (a, o) :: G.tl } F where
  keep := W.keep
  len := W.len
  nd := by
    show ((a :: G.tl.map (·.1)) ++ _).Nodup
    exact List.nodup_cons.mpr ⟨ha, W.nd⟩
  new b hb' := by
    rcases List.mem_cons.mp hb' with rfl | hb'
    · exact ⟨hb, ht⟩
    · exact W.new b hb'
  tl p hp := by
    rcases List.mem_cons.mp hp with rfl | hp
    · exact e
    · exact W.tl p hp
  pr := W.pr
  fr := W.fr
  ob i x y := let ⟨b, p, q⟩ := W.ob i x y; ⟨b, p, q.mono (Le.addT G _)⟩
  fe := W.fe
  tab p hp := let ⟨x, c, z⟩ := W.tab p hp; ⟨x, c, z.mono (Le.addT G _)⟩

theorem Wd.newT (W : Wd D h G F) (o : Obj) (hf : o.isFreed = false := by rfl) : Wd D (h.push o) { G with tl := (h.objs.size, o) :: G.tl } F :=
  (W.push o).addT (Heap.get?_push_size h hf) (W.freshIn (Nat.le_refl _)) W.fresh (W.freshTab (Nat.le_refl _))

/-- an object that stands is taken into the store -/
theorem Wd.addS (W : Wd D h G F) {a : Addr} {o : AO} (ha : a ∉ dom G F) (hb : D.base.get? a = none) (ht : ∀ p ∈ tabs, a ≠ p.2)
    (hO : OR { G with σ := G.σ ++ [o], μ := G.μ ++ [a] } h a o) : Wd D h { G with σ := G.σ ++ [o], μ := G.μ ++ [a] } F where
  keep := W.keep
  len := by simp [W.len]
  nd := by
    have := W.nd
    unfold dom at this ha ⊢
    simp only [List.mem_append, not_or] at ha
    simp only [List.nodup_append, List.mem_append, List.nodup_cons, List.mem_singleton, List.not_mem_nil, not_false_eq_true, List.nodup_nil, and_true, true_and] at this ⊢
    obtain ⟨n1, ⟨n2, ⟨n3, n4, n5⟩, n6⟩, n7⟩ := this
    refine ⟨n1, ⟨⟨n2, fun x hx y hy e => ha.2.1 (by rw [← hy, ← e]; exact hx)⟩, ⟨n3, n4, n5⟩, fun x hx y hy e => ?_⟩, fun x hx y hy e => ?_⟩
    · rcases hx with hx | hx
      · exact n6 x hx y hy e
      · subst hx
        subst e
        rcases hy with hy | hy
        · exact ha.2.2.1 hy
        · exact ha.2.2.2 hy
    · rcases hy with (hy | hy) | hy
      · exact n7 x hx y (.inl hy) e
      · subst hy; subst e
        exact ha.1 hx
      · exact n7 x hx y (.inr hy) e
  new b hb' := by
    by_cases hba : b = a
    · subst hba; exact ⟨hb, ht⟩
    · refine W.new b ?_
      unfold dom at hb' ⊢
      simp only [List.mem_append, List.mem_singleton] at hb' ⊢
      rcases hb' with h1 | (h2 | h2) | h3
      · exact .inl h1
      · exact .inr (.inl h2)
      · exact absurd h2 hba
      · exact .inr (.inr h3)
  tl := W.tl
  pr := W.pr
  fr := W.fr
  ob i x y := by
    have hlen := W.len
    by_cases hi : i < G.σ.length
    · rw [List.getElem?_append_left hi] at y
      obtain ⟨b, p, q⟩ := W.ob i x y
      exact ⟨b, (Le.addS G a o).get p, q.mono (Le.addS G a o)⟩
    · have hi' : G.σ.length ≤ i := Nat.le_of_not_lt hi
      rw [List.getElem?_append_right hi'] at y
      have h0 : i - G.σ.length = 0 := by
        cases q : i - G.σ.length with
        | zero => rfl
        | succ n => rw [q] at y; simp at y
      rw [h0] at y
      simp only [List.getElem?_cons_zero, Option.some.injEq] at y
      subst y
      refine ⟨a, ?_, hO⟩
      rw [List.getElem?_append_right (by omega)]
      have : i - G.μ.length = 0 := by omega
      rw [this]; rfl
  fe := W.fe
  tab p hp := let ⟨x, c, z⟩ := W.tab p hp; ⟨x, c, z.mono (Le.addS G a o)⟩

theorem Wd.newS (W : Wd D h G F) (ob : Obj) (o : AO) (hO : OR { G with σ := G.σ ++ [o], μ := G.μ ++ [h.objs.size] } (h.push ob) h.objs.size o) :
    Wd D (h.push ob) { G with σ := G.σ ++ [o], μ := G.μ ++ [h.objs.size] } F :=
  (W.push ob).addS (W.freshIn (Nat.le_refl _)) W.fresh (W.freshTab (Nat.le_refl _)) hO

/-- one object of the store has turned -/
theorem Wd.updS (W : Wd D h G F) {a : Addr} {k : Nat} {o : AO} (hk : G.μ[k]? = some a) (hs : Heap.SameBut a h h') (hO : OR G h' a o) : Wd D h' { G with σ := G.σ.set k o } F where
  keep b x e := (hs.2 b fun q => by subst q; rw [(W.new b (inMu hk)).1] at e; cases e).trans (W.keep b x e)
  len := by simp [W.len]
  nd := W.nd
  new := W.new
  tl p hp := (hs.2 p.1 fun q => by
    have n := W.nd
    unfold dom at n
    rw [List.nodup_append] at n
    exact n.2.2 p.1 (List.mem_map_of_mem hp) a (List.mem_append_left _ (List.mem_of_getElem? hk)) q).trans (W.tl p hp)
  pr p hp := (hs.2 p.1 fun q => by
    have n := W.nd
    unfold dom at n
    rw [List.nodup_append] at n
    have n2 := n.2.1
    rw [List.nodup_append] at n2
    exact n2.2.2 a (List.mem_of_getElem? hk) p.1 (List.mem_append_left _ (List.mem_map_of_mem hp)) q.symm).trans (W.pr p hp)
  fr p hp := (W.fr p hp).sameBut hs fun q => by
    have n := W.nd
    unfold dom at n
    rw [List.nodup_append] at n
    have n2 := n.2.1
    rw [List.nodup_append] at n2
    exact n2.2.2 a (List.mem_of_getElem? hk) p.1 (List.mem_append_right _ (List.mem_map_of_mem hp)) q.symm
  ob i x y := by
    by_cases hi : i = k
    · subst hi
      have hl : i < G.σ.length := by rw [← W.len]; exact (List.getElem?_eq_some_iff.mp hk).1
      rw [List.getElem?_set_self hl] at y
      cases y
      exact ⟨a, hk, hO.mono (Le.setS G _)⟩
    · rw [List.getElem?_set_ne (Ne.symm hi)] at y
      obtain ⟨b, p, q⟩ := W.ob i x y
      refine ⟨b, p, (q.keeps fun ob e => (hs.2 b fun z => ?_).trans e).mono (Le.setS G _)⟩
      subst z
      have n := W.nd
      unfold dom at n
      rw [List.nodup_append] at n
      have n2 := n.2.1
      rw [List.nodup_append] at n2
      have n3 := n2.1
      obtain ⟨l1, e1⟩ := List.getElem?_eq_some_iff.mp p
      obtain ⟨l2, e2⟩ := List.getElem?_eq_some_iff.mp hk
      exact hi ((List.getElem_inj n3).mp (e1.trans e2.symm))
  fe := W.fe
  tab p hp := by
    obtain ⟨x, c, ps, z, r⟩ := W.tab p hp
    exact ⟨x, c, ps, (hs.2 p.2 fun q => (W.new a (inMu hk)).2 p hp q.symm).trans z, r⟩

/-- the locals of the top frame have turned -/
theorem Wd.setFr {L : Addr} {m m' : Str → Option Value} {rest : List (Addr × (Str → Option Value))} {pr : List (Addr × Obj)} {fe : List Env} (W : Wd D h G ⟨pr, (L, m) :: rest, fe⟩) (hs : Heap.SameBut L h h') (hn : h'.Ns L m') : Wd D h' G ⟨pr, (L, m') :: rest, fe⟩ where
  keep b x e := (hs.2 b fun q => by subst q; rw [(W.new b (inFr (.head _))).1] at e; cases e).trans (W.keep b x e)
  len := W.len
  nd := W.nd
  new := W.new
  tl p hp := (hs.2 p.1 fun q => by
    have n := W.nd
    unfold dom at n
    rw [List.nodup_append] at n
    exact n.2.2 p.1 (List.mem_map_of_mem hp) L (List.mem_append_right _ (List.mem_append_right _ (.head _))) q).trans (W.tl p hp)
  pr p hp := (hs.2 p.1 fun q => by
    have n := W.nd
    unfold dom at n
    rw [List.nodup_append] at n
    have n2 := n.2.1
    rw [List.nodup_append] at n2
    have n3 := n2.2.1
    rw [List.nodup_append] at n3
    exact n3.2.2 p.1 (List.mem_map_of_mem hp) L (.head _) q).trans (W.pr p hp)
  fr p hp := by
    rcases List.mem_cons.mp hp with rfl | hp
    · exact hn
    · refine (W.fr p (.tail _ hp)).sameBut hs fun q => ?_
      have n := W.nd
      unfold dom at n
      rw [List.nodup_append] at n
      have n2 := n.2.1
      rw [List.nodup_append] at n2
      have n3 := n2.2.1
      rw [List.nodup_append] at n3
      have n4 := n3.2.1
      rw [List.map_cons, List.nodup_cons] at n4
      have hm : p.1 ∈ rest.map (·.1) := List.mem_map_of_mem hp
      rw [q] at hm
      exact n4.1 hm
  ob i x y := by
    obtain ⟨b, p, q⟩ := W.ob i x y
    refine ⟨b, p, q.keeps fun ob e => (hs.2 b fun z => ?_).trans e⟩
    have n := W.nd
    unfold dom at n
    rw [List.nodup_append] at n
    have n2 := n.2.1
    rw [List.nodup_append] at n2
    exact n2.2.2 b (List.mem_of_getElem? p) L (List.mem_append_right _ (.head _)) z
  fe := W.fe
  tab p hp := by
    obtain ⟨x, c, ps, z, r⟩ := W.tab p hp
    exact ⟨x, c, ps, (hs.2 p.2 fun q => (W.new L (inFr (.head _))).2 p hp q.symm).trans z, r⟩

/-- a frame more -/
theorem Wd.pushFr (W : Wd D h G F) {L : Addr} {m : Str → Option Value} (hn : h.Ns L m) (ha : L ∉ dom G F) (hb : D.base.get? L = none) (ht : ∀ p ∈ tabs, L ≠ p.2) : Wd D h G { F with fr := (L, m) :: F.fr } where
  keep := W.keep
  len := W.len
  nd := by
    have n := W.nd
    unfold dom at n ha ⊢
    simp only [List.mem_append, not_or] at ha
    rw [← List.append_assoc, ← List.append_assoc] at n ⊢
    rw [List.nodup_append] at n ⊢
    refine ⟨n.1, List.nodup_cons.mpr ⟨ha.2.2.2, n.2.1⟩, fun x hx y hy => ?_⟩
    rcases List.mem_cons.mp hy with rfl | hy
    · intro e
      subst e
      simp only [List.mem_append] at hx
      rcases hx with (hx | hx) | hx
      · exact ha.1 hx
      · exact ha.2.1 hx
      · exact ha.2.2.1 hx
    · exact n.2.2 x hx y hy
  new b hb' := by
    by_cases hba : b = L
    · subst hba; exact ⟨hb, ht⟩
    · refine W.new b ?_
      unfold dom at hb' ⊢
      simp only [List.map_cons, List.mem_append, List.mem_cons] at hb' ⊢
      rcases hb' with h1 | h2 | h3 | h4 | h5
      · exact .inl h1
      · exact .inr (.inl h2)
      · exact .inr (.inr (.inl h3))
      · exact absurd h4 hba
      · exact .inr (.inr (.inr h5))
  tl := W.tl
  pr := W.pr
  fr p hp := by
    rcases List.mem_cons.mp hp with rfl | hp
    · exact hn
    · exact W.fr p hp
  ob := W.ob
  fe e he := let ⟨x, L', y, z⟩ := W.fe e he; ⟨x, L', y, .tail _ z⟩
  tab := W.tab
theorem Wd.feCons {pr : List (Addr × Obj)} {fr : List (Addr × (Str → Option Value))} {fe : List Env} {e : Env} {L : Addr} (W : Wd D h G ⟨pr, fr, fe⟩) (hk : e.scope.kind ≠ .module) (hf : e.frame = some L) (hL : L ∈ fr.map (·.1)) : Wd D h G ⟨pr, fr, e :: fe⟩ :=
  ⟨W.keep, W.len, W.nd, W.new, W.tl, W.pr, W.fr, W.ob, fun x hx => by
      rcases List.mem_cons.mp hx with rfl | hx
      · exact ⟨hk, L, hf, hL⟩
      · exact W.fe x hx, W.tab⟩

/-- a frame less, and its env -/
theorem Wd.popFr {L : Addr} {m : Str → Option Value} {rest : List (Addr × (Str → Option Value))} {pr : List (Addr × Obj)} {fe fe' : List Env} (W : Wd D h G ⟨pr, (L, m) :: rest, fe⟩) (hf : ∀ e ∈ fe', e.scope.kind ≠ .module ∧ ∃ L, e.frame = some L ∧ L ∈ rest.map (·.1)) : Wd D h G ⟨pr, rest, fe'⟩ where
  keep := W.keep
  len := W.len
  nd := by
    have n := W.nd
    unfold dom at n ⊢
    refine List.Nodup.sublist ?_ n
    exact (List.Sublist.refl _).append ((List.Sublist.refl _).append ((List.Sublist.refl _).append (List.sublist_cons_self _ _)))
  new b hb := W.new b (by
    unfold dom at hb ⊢
    simp only [List.map_cons, List.mem_append, List.mem_cons] at hb ⊢
    rcases hb with h1 | h2 | h3 | h4
    · exact .inl h1
    · exact .inr (.inl h2)
    · exact .inr (.inr (.inl h3))
    · exact .inr (.inr (.inr (.inr h4))))
  tl := W.tl
  pr := W.pr
  fr p hp := W.fr p (.tail _ hp)
  ob := W.ob
  fe := hf
  tab := W.tab

/-- protected objects: one more, one less, one turned -/
theorem Wd.pushPr (W : Wd D h G F) {a : Addr} {o : Obj} (e : h.get? a = some o) (ha : a ∉ dom G F) (hb : D.base.get? a = none) (ht : ∀ p ∈ tabs, a ≠ p.2) : Wd D h G { F with pr := (a, o) :: F.pr } where
  keep := W.keep
  len := W.len
  nd := by
    have n := W.nd
    unfold dom at n ha ⊢
    simp only [List.mem_append, not_or] at ha
    rw [← List.append_assoc] at n ⊢
    rw [List.nodup_append] at n ⊢
    refine ⟨n.1, List.nodup_cons.mpr ⟨?_, n.2.1⟩, fun x hx y hy => ?_⟩
    · intro hm
      rcases List.mem_append.mp hm with hm | hm
      · exact ha.2.2.1 hm
      · exact ha.2.2.2 hm
    · rcases List.mem_cons.mp hy with rfl | hy
      · intro e
        subst e
        simp only [List.mem_append] at hx
        rcases hx with hx | hx
        · exact ha.1 hx
        · exact ha.2.1 hx
      · exact n.2.2 x hx y hy
  new b hb' := by
    by_cases hba : b = a
    · subst hba; exact ⟨hb, ht⟩
    · refine W.new b ?_
      unfold dom at hb' ⊢
      simp only [List.map_cons, List.mem_append, List.mem_cons] at hb' ⊢
      rcases hb' with h1 | h2 | (h3 | h4) | h5
      · exact .inl h1
      · exact .inr (.inl h2)
      · exact absurd h3 hba
      · exact .inr (.inr (.inl h4))
      · exact .inr (.inr (.inr h5))
  tl := W.tl
  pr p hp := by
    rcases List.mem_cons.mp hp with rfl | hp
    · exact e
    · exact W.pr p hp
  fr := W.fr
  ob := W.ob
  fe := W.fe
  tab := W.tab
theorem Wd.popPr {x : Addr × Obj} {pr : List (Addr × Obj)} {fr : List (Addr × (Str → Option Value))} {fe : List Env} (W : Wd D h G ⟨x :: pr, fr, fe⟩) : Wd D h G ⟨pr, fr, fe⟩ where
  keep := W.keep
  len := W.len
  nd := by
    have n := W.nd
    unfold dom at n ⊢
    refine List.Nodup.sublist ?_ n
    exact (List.Sublist.refl _).append ((List.Sublist.refl _).append ((List.sublist_cons_self _ _).append (List.Sublist.refl _)))
  new b hb := W.new b (by
    unfold dom at hb ⊢
    simp only [List.map_cons, List.mem_append, List.mem_cons] at hb ⊢
    rcases hb with h1 | h2 | h3 | h4
    · exact .inl h1
    · exact .inr (.inl h2)
    · exact .inr (.inr (.inl (.inr h3)))
    · exact .inr (.inr (.inr h4)))
  tl := W.tl
  pr p hp := W.pr p (.tail _ hp)
  fr := W.fr
  ob := W.ob
  fe := W.fe
  tab := W.tab
/-- a heap in which only the one protected object has turned -/
theorem Wd.updPr {a : Addr} {o o' : Obj} {pr pr' : List (Addr × Obj)} {fr : List (Addr × (Str → Option Value))} {fe : List Env} (W : Wd D h G ⟨pr ++ (a, o) :: pr', fr, fe⟩) (hk : ∀ b ob, b ≠ a → h.get? b = some ob → h'.get? b = some ob) (e : h'.get? a = some o') : Wd D h' G ⟨pr ++ (a, o') :: pr', fr, fe⟩ where
  keep b x ex := hk b x (fun q => by
    subst q
    rw [(W.new b (inPr (p := (b, o)) (List.mem_append_right _ (.head _)))).1] at ex; cases ex) (W.keep b x ex)
  len := W.len
  nd := by
    have n := W.nd
    unfold dom at n ⊢
    simpa using n
  new b hb := by
    have : b ∈ dom G ⟨pr ++ (a, o) :: pr', fr, fe⟩ := by unfold dom at hb ⊢; simpa using hb
    exact W.new b this
  tl p hp := hk _ _ (fun q => by
    have n := W.nd
    unfold dom at n
    rw [List.nodup_append] at n
    exact n.2.2 p.1 (List.mem_map_of_mem hp) a (List.mem_append_right _ (List.mem_append_left _ (by simp))) q) (W.tl p hp)
  pr p hp := by
    have n := W.nd
    unfold dom at n
    rw [List.nodup_append] at n
    have n2 := n.2.1
    rw [List.nodup_append] at n2
    have n3 := n2.2.1
    rw [List.nodup_append] at n3
    have n4 := n3.1
    rw [List.map_append, List.nodup_append, List.map_cons, List.nodup_cons] at n4
    rcases List.mem_append.mp hp with hp | hp
    · exact hk _ _ (n4.2.2 p.1 (List.mem_map_of_mem hp) a (.head _)) (W.pr p (List.mem_append_left _ hp))
    · rcases List.mem_cons.mp hp with rfl | hp
      · exact e
      · refine hk _ _ (fun q => n4.2.1.1 ?_) (W.pr p (List.mem_append_right _ (.tail _ hp)))
        have hm : p.1 ∈ pr'.map (·.1) := List.mem_map_of_mem hp
        rw [q] at hm
        exact hm
  fr p hp := by
    obtain ⟨o1, es, ep, ho, r⟩ := W.fr p hp
    refine ⟨o1, es, ep, hk _ _ (fun q => ?_) ho, r⟩
    have n := W.nd
    unfold dom at n
    rw [List.nodup_append] at n
    have n2 := n.2.1
    rw [List.nodup_append] at n2
    have n3 := n2.2.1
    rw [List.nodup_append] at n3
    exact n3.2.2 a (by simp) p.1 (List.mem_map_of_mem hp) q.symm
  ob i x y := by
    obtain ⟨b, p, q⟩ := W.ob i x y
    refine ⟨b, p, q.keeps fun ob e => hk _ _ (fun z => ?_) e⟩
    have n := W.nd
    unfold dom at n
    rw [List.nodup_append] at n
    have n2 := n.2.1
    rw [List.nodup_append] at n2
    exact n2.2.2 b (List.mem_of_getElem? p) a (List.mem_append_left _ (by simp)) z
  fe := W.fe
  tab p hp := by
    obtain ⟨x, c, ps, z, r⟩ := W.tab p hp
    exact ⟨x, c, ps, hk _ _ (fun q => (W.new a (inPr (p := (a, o)) (List.mem_append_right _ (.head _)))).2 p hp q.symm) z, r⟩
end kit
end Mine
open PySem PySem.W PyProof.Rows PySem.Calls PySem.Spec
set_option Elab.async false
set_option maxRecDepth 100000
set_option linter.unusedSimpArgs false
set_option linter.unusedVariables false
namespace Mine

structure Ctx where
  names : List (Str × NameKind)
  ls : List Str
  cs : List Str
  cd : Option Value

noncomputable abbrev Loc := List (Option V)
noncomputable abbrev KV := V → List AO → Bool
noncomputable abbrev CE := Loc → List Nat → List AO → KV → KV → Bool
noncomputable abbrev CEs := Loc → List Nat → List AO → (List V → List AO → Bool) → KV → Bool
noncomputable abbrev CT := Loc → List Nat → List AO → (Bool → List AO → Bool) → KV → Bool

noncomputable def lget : Loc → Nat → Option V
  | [], _ => none
  | o :: _, 0 => o
  | _ :: r, i + 1 => lget r i
noncomputable def lset : Loc → Nat → V → Loc
  | [], _, _ => []
  | _ :: r, 0, v => some v :: r
  | o :: r, i + 1, v => o :: lset r i v
noncomputable def nth {α : Type} : List α → Nat → Option α
  | [], _ => none
  | o :: _, 0 => some o
  | _ :: r, i + 1 => nth r i
theorem nth_eq {α : Type} : ∀ (l : List α) (i : Nat), nth l i = l[i]?
  | [], _ => by simp [nth]
  | _ :: _, 0 => by simp [nth]
  | _ :: r, i + 1 => by simp [nth, nth_eq r i]

structure EnvOK (Γ : Ctx) (env : Env) : Prop where
  names : env.scope.names = Γ.names
  kind : env.scope.kind = .function
  glob : env.globals = mainGlobals
  blt : env.builtins = builtinsNs
  code : ∀ c, Γ.cd = some c → env.code = c

structure AOK (A : Around) (b : Nat) (F : Fx) : Prop where
  h : A.handled = none
  d : A.depth + 10 * b ≤ 900
  u : A.units + 20 * b ≤ 9000
  f : A.frames = some F.fe

noncomputable def LocR (Γ : Ctx) (G : St) (loc : Loc) (m : Str → Option Value) : Prop := ∀ (i : Nat) (x : Str) (v : V), Γ.ls[i]? = some x → lget loc i = some v → ∃ w, m x = some w ∧ VR G v w
noncomputable def CelR (Γ : Ctx) (G : St) (cel : List Nat) (env : Env) : Prop := ∀ (i : Nat) (x : Str) (k : Nat), Γ.cs[i]? = some x → cel[i]? = some k → ∃ a, env.cells.lookup x = some a ∧ G.μ[k]? = some a

structure Same (s s' : Shared) : Prop where
  g : s'.gens = s.gens
  d : s'.drawn = s.drawn
  o : s'.os = s.os
theorem Same.refl (s : Shared) : Same s s := ⟨rfl, rfl, rfl⟩
theorem Same.trans {a b c : Shared} (x : Same a b) (y : Same b c) : Same a c := ⟨y.g.trans x.g, y.d.trans x.d, y.o.trans x.o⟩

structure At (D : Dt) (Γ : Ctx) (b : Nat) (A : Around) (env : Env) (s : Shared) (G : St) (F : Fx) (loc : Loc) (cel : List Nat) : Prop where
  a : AOK A b F
  e : EnvOK Γ env
  w : Wd D s.heap G F
  l : ∃ m rest, F.fr = (env.locals, m) :: rest ∧ LocR Γ G loc m
  c : CelR Γ G cel env
  f : ∃ e0 r, F.fe = e0 :: r ∧ env.frame = e0.frame

theorem LocR.mono {Γ : Ctx} {G G' : St} {loc : Loc} {m : Str → Option Value} (x : Le G G') (h : LocR Γ G loc m) : LocR Γ G' loc m := fun i y v a b => let ⟨w, p, q⟩ := h i y v a b; ⟨w, p, q.mono x⟩
theorem CelR.mono {Γ : Ctx} {G G' : St} {cel : List Nat} {env : Env} (x : Le G G') (h : CelR Γ G cel env) : CelR Γ G' cel env := fun i y v a b => let ⟨w, p, q⟩ := h i y v a b; ⟨w, p, x.get q⟩
theorem At.step {D : Dt} {Γ : Ctx} {b : Nat} {A : Around} {env : Env} {s s' : Shared} {G G' : St} {F : Fx} {loc : Loc} {cel : List Nat} (h : At D Γ b A env s G F loc cel) (w : Wd D s'.heap G' F) (l : Le G G') : At D Γ b A env s' G' F loc cel :=
  ⟨h.a, h.e, w, let ⟨m, r, x, y⟩ := h.l; ⟨m, r, x, y.mono l⟩, h.c.mono l, h.f⟩

/-- an exception of the class Thrown in flight; its value -/
structure Fly (D : Dt) (h : Heap) (G : St) (F : Fx) (f : Option Addr) (e : Addr) (v : V) : Prop where
  ex : ∃ (d : Addr) (vs : Array Value) (sl : Array (Option Value)) (es : Array DictEntry) (n : Nat) (w : Value), h.get? e = some ⟨.ref 71, some d, .fields vs, sl⟩ ∧ (d, dctObj es n) ∈ G.tl ∧ nsFind es (attrOf 6) = some w ∧ StrKeys es ∧ VR G v w ∧ 1 < vs.size ∧
    (vs[1]? = some .none ∨ ∃ T oT ts, vs[1]? = some (.ref T) ∧ T ≠ e ∧ T ∉ dom G F ∧ D.base.get? T = none ∧ (∀ p ∈ tabs, T ≠ p.2) ∧ h.get? T = some oT ∧ oT.data = .fields ts ∧ (ts[3]? = some .none ∨ ∃ L, f = some L ∧ ts[3]? = some (rawInt L)))
  new : e ∉ dom G F ∧ D.base.get? e = none ∧ ∀ p ∈ tabs, e ≠ p.2

noncomputable def PV (D : Dt) (F : Fx) (G : St) (s : Shared) (k : KV) (Q : Value → Shared → Prop) : Prop :=
  ∀ v s' G' w, k v G'.σ = true → Wd D s'.heap G' F → Le G G' → VR G' v w → Same s s' → Q w s'
noncomputable def PX (D : Dt) (F : Fx) (G : St) (s : Shared) (f : Option Addr) (x : KV) (E : Value → Shared → Prop) : Prop :=
  ∀ v s' G' e, x v G'.σ = true → Wd D s'.heap G' F → Le G G' → Fly D s'.heap G' F f e v → Same s s' → E (.ref e) s'
theorem PV.step {D : Dt} {F : Fx} {G G' : St} {s s' : Shared} {k : KV} {Q : Value → Shared → Prop} (h : PV D F G s k Q) (l : Le G G') (m : Same s s') : PV D F G' s' k Q :=
  fun v s2 G2 w a b c d e => h v s2 G2 w a b (l.trans c) d (m.trans e)
theorem PX.step {D : Dt} {F : Fx} {G G' : St} {s s' : Shared} {f : Option Addr} {k : KV} {Q : Value → Shared → Prop} (h : PX D F G s f k Q) (l : Le G G') (m : Same s s') : PX D F G' s' f k Q :=
  fun v s2 G2 w a b c d e => h v s2 G2 w a b (l.trans c) d (m.trans e)

noncomputable abbrev prog : Program := PySem.Challenge.pw_rg0193_01

noncomputable def SE (Γ : Ctx) (b : Nat) (e : PySem.Expr) (c : CE) : Prop :=
  ∀ {D : Dt} {A : Around} {env : Env} {s : Shared} {G : St} {F : Fx} {loc : Loc} {cel : List Nat} {k x : KV} {Q E : Value → Shared → Prop},
    At D Γ b A env s G F loc cel → c loc cel G.σ k x = true → PV D F G s k Q → PX D F G s env.frame x E → wpAny (model prog D.w) A (eval e env) Q E s

noncomputable def SEs (Γ : Ctx) (b : Nat) (es : List PySem.Expr) (c : CEs) : Prop :=
  ∀ {D : Dt} {A : Around} {env : Env} {s : Shared} {G : St} {F : Fx} {loc : Loc} {cel : List Nat} {k : List V → List AO → Bool} {x : KV} {Q : List Value → Shared → Prop} {E : Value → Shared → Prop} (pos : Pos),
    At D Γ b A env s G F loc cel → c loc cel G.σ k x = true → (∀ vs s' G' ws, k vs G'.σ = true → Wd D s'.heap G' F → Le G G' → VRs G' vs ws → Same s s' → Q ws s') → PX D F G s env.frame x E →
      wpAny (model prog D.w) A (spliced (backTo pos (starEach es env))) Q E s

noncomputable def ST (Γ : Ctx) (b : Nat) (e : PySem.Expr) (c : CT) : Prop :=
  ∀ {D : Dt} {A : Around} {env : Env} {s : Shared} {G : St} {F : Fx} {loc : Loc} {cel : List Nat} {k : Bool → List AO → Bool} {x : KV} {Q : Bool → Shared → Prop} {E : Value → Shared → Prop},
    At D Γ b A env s G F loc cel → c loc cel G.σ k x = true → (∀ v s' G', k v G'.σ = true → Wd D s'.heap G' F → Le G G' → Same s s' → Q v s') → PX D F G s env.frame x E →
      wpAny (model prog D.w) A (isTrue e env (eval e env)) Q E s

section consts
variable {Γ : Ctx} {b : Nat}
theorem se_int {i : Int} {k : Nat} {p : Pos} : SE Γ b (.Constant (.int i) k p) (fun _ _ σ kk _ => kk (.int i) σ) := fun h hc hk _ =>
  wpAny_Constant_int (hk (.int i) _ _ _ hc h.w (Le.refl _) (.int i _) ⟨rfl, rfl, rfl⟩)
theorem se_none {k : Nat} {p : Pos} : SE Γ b (.Constant .none k p) (fun _ _ σ kk _ => kk .none σ) := fun h hc hk _ =>
  wpAny_Constant_none (hk .none _ _ _ hc h.w (Le.refl _) .none (Same.refl _))
theorem se_bool {v : Bool} {k : Nat} {p : Pos} : SE Γ b (.Constant (.bool v) k p) (fun _ _ σ kk _ => kk (.bool v) σ) := fun h hc hk _ =>
  wpAny_Constant_bool (hk (.bool v) _ _ _ hc h.w (Le.refl _) (.bool v) (Same.refl _))
theorem se_str (n : Nat) {x : Str} {k : Nat} {p : Pos} (e : x = strOf n) : SE Γ b (.Constant (.str x) k p) (fun _ _ σ kk _ => kk (.str n) σ) := fun h hc hk _ => by
  subst e
  exact wpAny_Constant_str (hk (.str n) _ _ _ hc h.w (Le.refl _) (.str n _) ⟨rfl, rfl, rfl⟩)

theorem kindOf_of {env : Env} (h : EnvOK Γ env) (x : Str) : env.kindOf x = Γ.names.lookup x := by unfold Env.kindOf; rw [h.names]

/-- a name of the frame's own -/
theorem se_loc (i : Nat) {x : Str} {p : Pos} (hi : Γ.ls[i]? = some x) (hk : Γ.names.lookup x = some .local) (hd : (x == ("__debug__" : Str)) = false) :
    SE Γ b (.Name x p) (fun loc _ σ kk _ => match lget loc i with | some v => kk v σ | none => false) := fun {D A env s G F loc cel k x' Q E} h hc hq _ => by
  obtain ⟨m, rest, hf, hl⟩ := h.l
  dsimp only at hc
  cases hv : lget loc i with
  | none => rw [hv] at hc; cases hc
  | some v =>
    rw [hv] at hc
    obtain ⟨w, hm, hr⟩ := hl i _ v hi hv
    have hn := h.w.fr (env.locals, m) (by rw [hf]; exact .head _)
    exact wpAny_Name (wpAny_loadName_local h.e.kind ((kindOf_of h.e _).trans hk) hn hm (hq v _ _ _ hc h.w (Le.refl _) hr (Same.refl _))) hd

theorem se_cell (i : Nat) {x : Str} {p : Pos} (hi : Γ.cs[i]? = some x) (hk : Γ.names.lookup x = some .cell ∨ (Γ.names.lookup x = some .free ∧ (x == ("__classdict__" : Str)) = false)) (hd : (x == ("__debug__" : Str)) = false) :
    SE Γ b (.Name x p) (fun _ cel σ kk _ => match nth cel i with | some j => (match nth σ j with | some (.cell (some v)) => kk v σ | _ => false) | none => false) := fun {D A env s G F loc cel k x' Q E} h hc hq _ => by
  simp only [nth_eq] at hc
  cases hv : cel[i]? with
  | none => rw [hv] at hc; cases hc
  | some j =>
    rw [hv] at hc
    dsimp only at hc
    split at hc
    · rename_i v hs
      obtain ⟨a, ha, hm⟩ := h.c i _ j hi hv
      obtain ⟨a', ha', ho⟩ := h.w.ob j _ hs
      rw [hm] at ha'
      cases ha'
      cases ho with
      | cell hg hr =>
        have fin := hq v _ _ _ hc h.w (Le.refl _) hr (Same.refl _)
        rcases hk with hk | ⟨hk, hn⟩
        · exact wpAny_Name (wpAny_loadName_cell h.e.kind ((kindOf_of h.e _).trans hk) ha hg fin) hd
        · exact wpAny_Name (wpAny_loadName_free h.e.kind ((kindOf_of h.e _).trans hk) ha hg fin hn) hd
    · cases hc
end consts

section lists
variable {Γ : Ctx} {b : Nat}
theorem ses_nil : SEs Γ b [] (fun _ _ σ k _ => k [] σ) := fun _ h hc hk _ => wpAny_items_nil (hk [] _ _ [] hc h.w (Le.refl _) .nil (Same.refl _))
theorem ses_cons {e : PySem.Expr} {es : List PySem.Expr} {c : CE} {cs : CEs} (he : SE Γ b e c) (hs : SEs Γ b es cs) (hst : ∀ env, starEach (e :: es) env = (false, eval e env) :: starEach es env) :
    SEs Γ b (e :: es) (fun loc cel σ k x => c loc cel σ (fun v σ1 => cs loc cel σ1 (fun vs σ2 => k (v :: vs) σ2) x) x) := fun pos h hc hk hx => by
  refine wpAny_items_cons ?_ (hst _)
  refine he h hc (fun v s1 G1 w c1 w1 l1 r1 m1 => ?_) hx
  refine hs pos (h.step w1 l1) c1 (fun vs s2 G2 ws c2 w2 l2 r2 m2 => ?_) (hx.step l1 m1)
  exact hk _ _ _ _ c2 w2 (l1.trans l2) (.cons (r1.mono l2) r2) (m1.trans m2)

theorem se_tuple {es : List PySem.Expr} {cs : CEs} {n : Nat} {p : Pos} (hs : SEs Γ b es cs) (hl : es.length ≤ 1000) :
    SE Γ b (.Tuple es n p) (fun loc cel σ k x => cs loc cel σ (fun vs σ1 => Nat.ble vs.length 1000 && k (.tup vs) σ1) x) := fun h hc hk hx => by
  refine wpAny_Tuple (hs p h hc (fun vs s1 G1 ws c1 w1 l1 r1 m1 => ?_) hx)
  obtain ⟨c0, c1⟩ := Bool.and_eq_true_iff.mp c1
  have hlen := Nat.le_of_ble_eq_true c0
  refine ⟨by rw [r1.length]; exact Nat.le_trans hlen (by decide), ?_⟩
  have W := w1.newT (tupObj ws)
  exact hk (.tup vs) _ { G1 with tl := (s1.heap.objs.size, tupObj ws) :: G1.tl } _ c1 W (l1.trans (Le.addT _ _)) (.tup (.head _) (r1.mono (Le.addT _ _))) ⟨m1.g, m1.d, m1.o⟩

theorem se_list {es : List PySem.Expr} {cs : CEs} {p : Pos} (hs : SEs Γ b es cs) :
    SE Γ b (.List es p) (fun loc cel σ k x => cs loc cel σ (fun vs σ1 => Nat.ble vs.length 1000 && k (.ref σ1.length) (σ1 ++ [.lst vs])) x) := fun h hc hk hx => by
  refine wpAny_List (hs p h hc (fun vs s1 G1 ws c1 w1 l1 r1 m1 => ?_) hx)
  obtain ⟨c0, c1⟩ := Bool.and_eq_true_iff.mp c1
  have hlen := Nat.le_of_ble_eq_true c0
  refine ⟨by rw [r1.length]; exact Nat.le_trans hlen (by decide), ?_⟩
  have L := Le.addS G1 s1.heap.objs.size (.lst vs)
  have W := w1.newS (lstObj ws 0) (.lst vs) (.lst (Heap.get?_push_size _ rfl) (r1.mono L))
  exact hk (.ref G1.σ.length) _ { G1 with σ := G1.σ ++ [.lst vs], μ := G1.μ ++ [s1.heap.objs.size] } _ c1 W (l1.trans L) (.ref (by rw [← w1.len]; simp)) ⟨m1.g, m1.d, m1.o⟩
end lists
end Mine
open PySem PySem.W PyProof.Rows PySem.Calls PySem.Spec
set_option Elab.async false
set_option maxRecDepth 100000
set_option linter.unusedSimpArgs false
set_option linter.unusedVariables false
namespace Mine

/-- the abstract world behind an operation that made nothing but a value -/
noncomputable abbrev PQ (D : Dt) (F : Fx) (G : St) (s : Shared) (σ : List AO) (v : V) (Q : Value → Shared → Prop) : Prop :=
  ∀ s' G' w, G'.σ = σ → Wd D s'.heap G' F → Le G G' → VR G' v w → Same s s' → Q w s'

noncomputable def smallI (b : Int) : Bool := Nat.blt b.natAbs 18446744073709551616
theorem smallI_is {b : Int} (h : smallI b = true) : Builtin.Int.intBits b ≤ 64 := by
  have : b.natAbs < 18446744073709551616 := Nat.le_of_ble_eq_true h
  exact intBits_le_64 (by omega) (by omega)

noncomputable def opI (op : Operator) (a b : Int) : Option Int := match op with
  | .Add => some (a + b)
  | .Sub => some (a - b)
  | .Mult => if smallI b then some (a * b) else none
  | .Mod => if Z.eqB b 0 then none else some (Int.fmod a b)
  | .FloorDiv => if Z.eqB b 0 then none else if Nat.blt b.natAbs 1073741824 then some (Int.fdiv a b) else none
  | .Pow => if Z.leB 0 b && Z.leB b 100 && smallI a then some (a ^ b.toNat) else none
  | _ => none

section
variable {D : Dt} {A : Around} {F : Fx} {G : St} {s : Shared} {Q E : Value → Shared → Prop} {a b i : Int} {t u : Tok}

theorem opI_ok {op : Operator} (h : opI op a b = some i) (hQ : ∀ t', Q (.int i t') { s with toks := s.toks + 1 }) : wpAny (model prog D.w) A (binaryOp op (.int a t) (.int b u)) Q E s := by
  unfold opI at h
  split at h
  · cases h; exact add_int (hQ _)
  · cases h; exact sub_int (hQ _)
  · split at h
    · rename_i hs; cases h; exact mul_int (hQ _) (.of_right (smallI_is hs))
    · cases h
  · split at h
    · cases h
    · rename_i hb
      cases h
      exact mod_int (fun e => hb ((Z.eqB_iff _ _).mpr e)) (hQ _)
  · split at h
    · cases h
    · rename_i hb
      split at h
      · rename_i hs
        cases h
        exact floordiv_int (fun e => hb ((Z.eqB_iff _ _).mpr e)) (hQ _) (Or.inl (PyProof.noPylong_small (Nat.le_of_ble_eq_true hs)))
      · cases h
  · split at h
    · rename_i hs
      cases h
      simp only [Bool.and_eq_true] at hs
      obtain ⟨⟨h1, h2⟩, h3⟩ := hs
      have q1 := (Z.leB_iff _ _).mp h1
      have q2 := (Z.leB_iff _ _).mp h2
      have q3 : a.natAbs < 18446744073709551616 := Nat.le_of_ble_eq_true h3
      exact pow_int_small q1 (by omega) (by omega) (hQ _)
    · cases h
  · cases h
end

section
variable {D : Dt} {A : Around} {F : Fx} {G : St} {s : Shared} {Q E : Value → Shared → Prop}
open MeetsSeq MeetsSeq2 MeetsSeq3 in
theorem mul_list0 {l : Addr} {items : Array Value} {k : Nat} {x : Int} {u : Tok} 
    (hl : s.heap.get? l = some { cls := .type "list", dict := none, data := .seq items k, slots := #[] })
    (hlo : -(2 ^ 63 : Int) ≤ x) (hhi : x < 2 ^ 63) (hsz : items.size * x.toNat ≤ 2 ^ 24)
    (h : Q (.ref s.heap.objs.size) { s with heap := s.heap.push { cls := .type "list", data := .seq (List.foldl (fun x1 x2 => x1 ++ x2) #[] (List.replicate (if items.isEmpty = true then 0 else x.toNat) items)) } }) :
    wpAny (model prog D.w) A (binaryOp .Mult (.ref l) (.int x u)) Q E s :=
  wpAny_binaryOp_repeat_ref (T := "list") (U := "int") (by decide) ⟨_, hl, rfl⟩ (fun s' => typeIs_int s' x u) noFill_list_mul F.fills_int_mul F.slot_int_rmul repeat_list F.slot_int_index.lookup
    (call_meets F.slot_int_rmul (typeIs_int s x u) F.entry_int_rmul (F.args_int_rmul_2 _ _) (int___rmul___int_list x u l items k)
      ⟨hl, rfl, ⟨_, hl, rfl⟩, call_meets F.slot_list_mul ⟨_, hl, rfl⟩ F.entry_list_mul (F.args_list_mul_2 _ _)
        (AutoListH.list___mul___list_int_3 l items k x u (by simp [Builtin.List.listFitsIndex]; omega) (by omega) (by simp [Builtin.List.listTooLong, sizeLine]; omega))
        ⟨hl, h⟩⟩)
end

noncomputable def repV (n : Nat) (vs : List V) : List V := match n with
  | 0 => []
  | n + 1 => vs ++ repV n vs

/-- what a binary operation gives -/
noncomputable def binS (op : Operator) (σ : List AO) (a b : V) : Option (V × List AO) := match a, b with
  | .int a, .int b => (opI op a b).map fun i => (.int i, σ)
  | .tup as, .tup bs => match op, as, bs with
    | .Add, x :: xs, y :: ys => if Nat.ble ((x :: xs).length + (y :: ys).length) 1000 then some (.tup ((x :: xs) ++ (y :: ys)), σ) else none
    | _, _, _ => none
  | .ref k, .int n => match op, nth σ k with
    | .Mult, some (.lst (x :: xs)) => if Z.leB 1 n && Z.leB n 100 && Nat.ble (x :: xs).length 100 then some (.ref σ.length, σ ++ [.lst (repV n.toNat (x :: xs))]) else none
    | _, _ => none
  | .int a, .big lo hi => match op with
    | .Add => if Z.leB (-1000) a && Z.leB a 1000 && Z.leB hi 1000000000000 then some (.big (lo + a) (hi + a), σ) else none
    | .Mult => if Z.eqB a 0 && Z.leB 0 lo then some (.int 0, σ) else none
    | _ => none
  | .big lo hi, .int a => match op with
    | .Sub => if Z.leB (-1000) a && Z.leB a 1000 && Z.leB hi 1000000000000 then some (.big (lo - a) (hi - a), σ) else none
    | _ => none
  | _, _ => none

theorem repV_len (n : Nat) (vs : List V) : (repV n vs).length = n * vs.length := by
  induction n with
  | zero => simp [repV]
  | succ n ih => simp [repV, ih, Nat.succ_mul, Nat.add_comm]
theorem fold_rep {G : St} {vs : List V} {ws : List Value} (h : VRs G vs ws) : ∀ (n : Nat) (acc : List V) (ac : List Value), VRs G acc ac → 
    ∃ us, List.foldl (fun x1 x2 => x1 ++ x2) ac.toArray (List.replicate n ws.toArray) = us.toArray ∧ VRs G (acc ++ repV n vs) us
  | 0, acc, ac, ha => ⟨ac, rfl, by simpa [repV] using ha⟩
  | n + 1, acc, ac, ha => by
    obtain ⟨us, e, r⟩ := fold_rep h n (acc ++ vs) (ac ++ ws) (ha.append h)
    refine ⟨us, ?_, ?_⟩
    · rw [← e, List.replicate_succ, List.foldl_cons]
      congr 1
      simp
    · rw [repV, ← List.append_assoc]; exact r
section
variable {D : Dt} {A : Around} {F : Fx} {G : St} {s : Shared} {Q E : Value → Shared → Prop} {a b v : V} {x y : Value} {σ' : List AO}
theorem VRs.ne {G : St} {v : V} {vs : List V} {ws : List Value} (h : VRs G (v :: vs) ws) : ¬ ws.toArray.isEmpty = true := by
  cases h; simp
theorem Le.refl' {G G' : St} (h : G = G') : Le G G' := by subst h; exact Le.refl _
theorem rep_ok {k : Nat} {n : Int} {v : V} {vs : List V} (hn : nth G.σ k = some (.lst (v :: vs))) (hl : (Z.leB 1 n && Z.leB n 100 && Nat.ble (v :: vs).length 100) = true) (W : Wd D s.heap G F) (ha : VR G (.ref k) x) (hy : VR G (.int n) y)
    (hQ : PQ D F G s (G.σ ++ [.lst (repV n.toNat (v :: vs))]) (.ref G.σ.length) Q) : wpAny (model prog D.w) A (binaryOp .Mult x y) Q E s := by
  rw [nth_eq] at hn
  simp only [Bool.and_eq_true] at hl
  obtain ⟨⟨h1, h2⟩, h3⟩ := hl
  have h1 := (Z.leB_iff _ _).mp h1
  have h2 := (Z.leB_iff _ _).mp h2
  have h3 := Nat.le_of_ble_eq_true h3
  cases ha with | ref m1 =>
  cases hy with | int n t =>
  obtain ⟨a', q, o⟩ := W.ob _ _ hn
  rw [m1] at q; cases q
  cases o with | lst hg r =>
  have e1 := r.length
  refine mul_list0 hg (by omega) (by omega) ?_ ?_
  · simp only [List.size_toArray, e1]
    have : n.toNat ≤ 100 := by omega
    exact Nat.le_trans (Nat.mul_le_mul h3 this) (by decide)
  · obtain ⟨us, eu, ru⟩ := fold_rep r n.toNat [] [] .nil
    rw [if_neg r.ne]
    rw [eu]
    have L := Le.addS G s.heap.objs.size (.lst (repV n.toNat (v :: vs)))
    exact hQ _ { G with σ := G.σ ++ [.lst _], μ := G.μ ++ [s.heap.objs.size] } _ rfl (W.newS (lstObj us 0) (.lst _) (.lst (Heap.get?_push_size _ rfl) (ru.mono L))) L (.ref (by rw [← W.len]; simp)) ⟨rfl, rfl, rfl⟩
theorem binS_ok {op : Operator} (hb : binS op G.σ a b = some (v, σ')) (W : Wd D s.heap G F) (ha : VR G a x) (hy : VR G b y) (hQ : PQ D F G s σ' v Q) : wpAny (model prog D.w) A (binaryOp op x y) Q E s := by
  unfold binS at hb
  split at hb
  · cases ha; cases hy
    rw [Option.map_eq_some_iff] at hb
    obtain ⟨i, hi, e⟩ := hb
    cases e
    exact opI_ok hi fun t' => hQ _ G _ rfl W (Le.refl _) (.int _ _) ⟨rfl, rfl, rfl⟩
  · split at hb
    · split at hb
      · rename_i hl
        cases hb
        cases ha with | tup m1 r1 =>
        cases hy with | tup m2 r2 =>
        have g1 := W.tl _ m1
        have g2 := W.tl _ m2
        have hl := Nat.le_of_ble_eq_true hl
        refine P.add_tuple g1 g2 r1.ne r2.ne ?_ ?_
        · rw [List.append_toArray]
          exact hQ _ { G with tl := (s.heap.objs.size, tupObj _) :: G.tl } _ rfl (W.newT (tupObj _)) (Le.addT _ _) (.tup (.head _) ((r1.append r2).mono (Le.addT _ _))) ⟨rfl, rfl, rfl⟩
        · have e1 := r1.length
          have e2 := r2.length
          simp only [List.size_toArray, e1, e2]
          exact Nat.le_trans hl (by decide)
      · cases hb
    · cases hb
  · split at hb
    · rename_i hn
      split at hb
      · rename_i hl
        cases hb
        exact rep_ok hn hl W ha hy hQ
      · cases hb
    · cases hb
  · split at hb
    · split at hb
      · rename_i hl
        cases hb
        simp only [Bool.and_eq_true] at hl
        have h1 := (Z.leB_iff _ _).mp hl.1.1
        have h2 := (Z.leB_iff _ _).mp hl.1.2
        have h3 := (Z.leB_iff _ _).mp hl.2
        cases ha with | int n t =>
        cases hy with | big p q r =>
        refine add_int (hQ _ G _ rfl W (Le.refl _) (.big ?_ ?_ ?_) ⟨rfl, rfl, rfl⟩)
        · omega
        · omega
        · omega
      · cases hb
    · split at hb
      · rename_i hl
        cases hb
        simp only [Bool.and_eq_true] at hl
        have h1 := (Z.eqB_iff _ _).mp hl.1
        have h2 := (Z.leB_iff _ _).mp hl.2
        subst h1
        cases ha with | int n t =>
        cases hy with | big p q r =>
        refine mul_int (hQ _ G _ rfl W (Le.refl _) ?_ ⟨rfl, rfl, rfl⟩) (.of_right (intBits_le_64 ?_ ?_))
        · rw [Int.zero_mul]; exact .int _ _
        all_goals omega
      · cases hb
    · cases hb
  · split at hb
    · split at hb
      · rename_i hl
        cases hb
        simp only [Bool.and_eq_true] at hl
        have h1 := (Z.leB_iff _ _).mp hl.1.1
        have h2 := (Z.leB_iff _ _).mp hl.1.2
        have h3 := (Z.leB_iff _ _).mp hl.2
        cases hy with | int n t =>
        cases ha with | big p q r =>
        refine sub_int (hQ _ G _ rfl W (Le.refl _) (.big ?_ ?_ ?_) ⟨rfl, rfl, rfl⟩)
        · omega
        · omega
        · omega
      · cases hb
    · cases hb
  · cases hb
end

section
variable {Γ : Ctx} {b : Nat} {l r : PySem.Expr} {cl cr : CE} {op : Operator} {p : Pos}
noncomputable def cbin (op : Operator) (cl cr : CE) : CE := fun loc cel σ k x => cl loc cel σ (fun a σ1 => cr loc cel σ1 (fun b σ2 => match binS op σ2 a b with | some (v, σ3) => k v σ3 | none => false) x) x
theorem se_bin (hl : SE Γ b l cl) (hr : SE Γ b r cr) : SE Γ b (.BinOp l op r p) (cbin op cl cr) := fun h hc hk hx => by
  refine wpAny_BinOp (hl h hc (fun v s1 G1 w c1 w1 l1 r1 m1 => ?_) hx)
  refine hr (h.step w1 l1) c1 (fun v2 s2 G2 u c2 w2 l2 r2 m2 => ?_) (hx.step l1 m1)
  split at c2
  · rename_i v3 σ3 e
    refine binS_ok e w2 (r1.mono l2) r2 fun s3 G3 w3 e3 W3 l3 r3 m3 => ?_
    subst e3
    exact hk _ _ G3 _ c2 W3 ((l1.trans l2).trans l3) r3 ((m1.trans m2).trans m3)
  · cases c2

noncomputable def cneg (c : CE) : CE := fun loc cel σ k x => c loc cel σ (fun a σ1 => match a with | .int i => k (.int (-i)) σ1 | _ => false) x
theorem se_neg {e : PySem.Expr} {c : CE} (h1 : SE Γ b e c) : SE Γ b (.UnaryOp .USub e p) (cneg c) := fun h hc hk hx => by
  refine wpAny_UnaryOp (h1 h hc (fun v s1 G1 w c1 w1 l1 r1 m1 => ?_) hx)
  split at c1
  · cases r1
    refine neg_int (hk _ _ G1 _ c1 w1 l1 (.int _ _) ⟨m1.g, m1.d, m1.o⟩)
  · cases c1
end
end Mine
open PySem PySem.W PyProof.Rows PySem.Calls PySem.Spec
set_option Elab.async false
set_option maxRecDepth 100000
set_option linter.unusedSimpArgs false
set_option linter.unusedVariables false
namespace Mine

mutual
noncomputable def pd : V → PyData
  | .none => .none | .bool b => .bool b | .int i => .int i | .str n => .str (strOf n) | .tup vs => .tuple (pds vs)
  | .ref _ => .none | .ins _ _ => .none | .exo _ => .none | .big _ _ => .none | .opq => .none
noncomputable def pds : List V → List PyData
  | [] => []
  | v :: vs => pd v :: pds vs
end
mutual
noncomputable def okV : Nat → V → Bool
  | _, .none => true | _, .bool _ => true | _, .int _ => true | _, .str n => Nat.blt n 18
  | n, .tup vs => match n with | 0 => false | n + 1 => okVs n vs
  | _, .ref _ => false | _, .ins _ _ => false | _, .exo _ => false | _, .big _ _ => false | _, .opq => false
noncomputable def okVs : Nat → List V → Bool
  | _, [] => true
  | n, v :: vs => okV n v && okVs n vs
end
noncomputable def b2i (b : Bool) : Int := match b with | true => 1 | false => 0
mutual
noncomputable def eqV : V → V → Bool
  | .none, .none => true
  | .bool a, .bool b => match a with | true => b | false => !b
  | .bool a, .int j => Z.eqB (b2i a) j
  | .int i, .bool b => Z.eqB i (b2i b)
  | .int i, .int j => Z.eqB i j
  | .str n, .str m => Nat.beq n m
  | .tup vs, .tup ws => eqVs vs ws
  | _, _ => false
noncomputable def eqVs : List V → List V → Bool
  | [], [] => true
  | v :: vs, w :: ws => match eqV v w with | true => eqVs vs ws | false => false
  | _, _ => false
end

theorem strOf_ok (n : Nat) : PyData.strOk (strOf n) = true := by
  by_cases h : n < 18
  · have : ∀ m : Fin 18, PyData.strOk (strOf m.val) = true := by decide +kernel
    exact this ⟨n, h⟩
  · unfold strOf
    rw [List.getD_eq_getElem?_getD, List.getElem?_eq_none (by show 18 ≤ n; omega)]
    decide +kernel
theorem strOf_inj {n m : Nat} (hn : n < 18) (hm : m < 18) : (strOf n == strOf m) = Nat.beq n m := by
  have : ∀ a b : Fin 18, (strOf a.val == strOf b.val) = Nat.beq a.val b.val := by decide +kernel
  exact this ⟨n, hn⟩ ⟨m, hm⟩
mutual
theorem okV_lay : ∀ (v : V) (n : Nat), okV n v = true → (pd v).canLay0 = true ∧ (pd v).depth ≤ n
  | .none, _, _ => by simp [pd, PyData.canLay0, PyData.depth]
  | .bool _, _, _ => by simp [pd, PyData.canLay0, PyData.depth]
  | .int _, _, _ => by simp [pd, PyData.canLay0, PyData.depth]
  | .str n, _, _ => by simp [pd, PyData.canLay0, PyData.depth, strOf_ok]
  | .tup vs, 0, h => by simp [okV] at h
  | .tup vs, n + 1, h => by
    have q := okVs_lay vs n (by simpa [okV] using h)
    simp only [pd, PyData.canLay0, PyData.depth, q.1, true_and]
    have := q.2
    omega
  | .ref _, _, h => by simp [okV] at h
  | .ins _ _, _, h => by simp [okV] at h
  | .exo _, _, h => by simp [okV] at h
  | .big _ _, _, h => by simp [okV] at h
  | .opq, _, h => by simp [okV] at h
theorem okVs_lay : ∀ (v : List V) (n : Nat), okVs n v = true → PyData.canLayAll0 (pds v) = true ∧ PyData.depthAll (pds v) ≤ n
  | [], n, _ => by simp [pds, PyData.canLayAll0, PyData.depthAll]
  | v :: vs, n, h => by
    simp only [okVs, Bool.and_eq_true] at h
    have q1 := okV_lay v n h.1
    have q2 := okVs_lay vs n h.2
    simp only [pds, PyData.canLayAll0, PyData.depthAll, q1.1, q2.1, Bool.and_self, true_and]
    have a1 := q1.2
    have a2 := q2.2
    omega
end
mutual
theorem eqV_is : ∀ (v w : V) (n m : Nat), okV n v = true → okV m w = true → PyData.eqv (pd v) (pd w) = eqV v w
  | .none, w, n, m, h1, h2 => by cases w <;> simp_all [pd, eqV, PyData.eqv, okV]
  | .bool a, w, n, m, h1, h2 => by
    cases w <;> simp_all [pd, eqV, PyData.eqv, okV, b2i]
    · rename_i c; cases a <;> cases c <;> rfl
    · rename_i i
      rw [Bool.eq_iff_iff, Z.eqB_iff]
      cases a <;> simp
  | .int a, w, n, m, h1, h2 => by
    cases w <;> simp_all [pd, eqV, PyData.eqv, okV, b2i]
    · rename_i i
      rw [Bool.eq_iff_iff, Z.eqB_iff]
      cases i <;> simp
    · rename_i i
      rw [Bool.eq_iff_iff, Z.eqB_iff]
      simp
  | .str a, w, n, m, h1, h2 => by
    cases w with
    | str c =>
      simp only [okV] at h1 h2
      simp only [pd, eqV, PyData.eqv]
      exact strOf_inj (Nat.le_of_ble_eq_true h1) (Nat.le_of_ble_eq_true h2)
    | _ => simp_all [pd, eqV, PyData.eqv, okV]
  | .tup vs, w, n, m, h1, h2 => by
    cases w with
    | tup ws =>
      cases n with
      | zero => simp [okV] at h1
      | succ n =>
        cases m with
        | zero => simp [okV] at h2
        | succ m =>
          simp only [okV] at h1 h2
          simp only [pd, eqV, PyData.eqv]
          exact eqVs_is vs ws n m h1 h2
    | _ => simp_all [pd, eqV, PyData.eqv, okV]
  | .ref _, w, n, m, h1, h2 => by simp [okV] at h1
  | .ins _ _, w, n, m, h1, h2 => by simp [okV] at h1
  | .exo _, w, n, m, h1, h2 => by simp [okV] at h1
  | .big _ _, w, n, m, h1, h2 => by simp [okV] at h1
  | .opq, w, n, m, h1, h2 => by simp [okV] at h1
theorem eqVs_is : ∀ (v w : List V) (n m : Nat), okVs n v = true → okVs m w = true → PyData.eqvAll (pds v) (pds w) = eqVs v w
  | [], w, n, m, h1, h2 => by cases w <;> simp [pds, PyData.eqvAll, eqVs]
  | v :: vs, w, n, m, h1, h2 => by
    cases w with
    | nil => simp [pds, PyData.eqvAll, eqVs]
    | cons w ws =>
      simp only [okVs, Bool.and_eq_true] at h1 h2
      simp only [pds, PyData.eqvAll, eqVs, eqV_is v w n m h1.1 h2.1, eqVs_is vs ws n m h1.2 h2.2]
      cases eqV v w <;> simp
end
mutual
theorem VR.reads {G : St} {h : Heap} (ht : ∀ p ∈ G.tl, h.get? p.1 = some p.2) : ∀ {v : V} {x : Value} (n : Nat), okV n v = true → VR G v x → ∃ as, Reads h x (pd v) as
  | _, _, _, _, .none => ⟨_, .none⟩
  | _, _, _, _, .bool b => ⟨_, .bool b⟩
  | _, _, _, _, .int i t => ⟨_, .int i t⟩
  | _, _, _, _, .str n t => ⟨_, .str _ t⟩
  | .tup vs, _, 0, h, .tup _ _ => by simp [okV] at h
  | .tup vs, _, n + 1, h, .tup m r => by
    obtain ⟨as, q⟩ := VRs.reads ht n (by simpa [okV] using h) r
    rw [pd]
    exact ⟨as, reads_tuple_at (ht _ m) rfl rfl q⟩
  | _, _, _, h, .ref _ => by simp [okV] at h
  | _, _, _, h, .ins _ _ => by simp [okV] at h
  | _, _, _, h, .big _ _ _ => by simp [okV] at h
  | _, _, _, h, .opq _ => by simp [okV] at h
theorem VRs.reads {G : St} {h : Heap} (ht : ∀ p ∈ G.tl, h.get? p.1 = some p.2) : ∀ {v : List V} {x : List Value} (n : Nat), okVs n v = true → VRs G v x → ∃ as, ReadsAll h x (pds v) as
  | _, _, _, _, .nil => ⟨_, .nil⟩
  | v :: vs, _, n, h, .cons a r => by
    simp only [okVs, Bool.and_eq_true] at h
    obtain ⟨as, q⟩ := VR.reads ht n h.1 a
    obtain ⟨bs, q'⟩ := VRs.reads ht n h.2 r
    rw [pds]
    exact ⟨_, .cons q q'⟩
end
/-- what a comparison gives -/
noncomputable def cmpS (op : CmpOp) (σ : List AO) (a b : V) : Option Bool := match op with
  | .Lt => (match a, b with | .int a, .int b => some (Z.ltB a b) | _, _ => none)
  | .LtE => (match a, b with
    | .int a, .int b => some (Z.leB a b)
    | .big lo hi, .int b => (if Z.ltB b lo then some false else none)
    | _, _ => none)
  | .Gt => (match a, b with
    | .int a, .int b => some (Z.ltB b a)
    | .big lo hi, .int b => (if Z.ltB b lo then some true else none)
    | _, _ => none)
  | .GtE => (match a, b with | .int a, .int b => some (Z.leB b a) | _, _ => none)
  | .Eq => (match a, b with
    | .ref k, .ref j => (match nth σ k, nth σ j with | some (.lst vs), some (.lst ws) => (if okVs 8 vs && okVs 8 ws then some (eqVs vs ws) else none) | _, _ => none)
    | a, b => if okV 8 a && okV 8 b then some (eqV a b) else none)
  | .NotEq => (match a, b with
    | .ref k, .ref j => (match nth σ k, nth σ j with | some (.lst vs), some (.lst ws) => (if okVs 8 vs && okVs 8 ws then some (!eqVs vs ws) else none) | _, _ => none)
    | a, b => if okV 8 a && okV 8 b then some (!eqV a b) else none)
  | .Is => (match b with
    | .none => (match a with | .none => some true | .opq => none | .exo _ => none | _ => some false)
    | _ => none)
  | .IsNot => (match b with
    | .none => (match a with | .none => some false | .opq => none | .exo _ => none | _ => some true)
    | _ => none)
  | .In => (match b with
    | .tup vs => if okV 8 a && okVs 8 vs then some (vs.any fun v => eqV v a) else none
    | .ref k => (match nth σ k with | some (.lst vs) => (if okV 8 a && okVs 8 vs then some (vs.any fun v => eqV v a) else none) | _ => none)
    | _ => none)
  | .NotIn => none

section
variable {D : Dt} {A : Around} {F : Fx} {G : St} {s : Shared} {Q E : Value → Shared → Prop} {a b v : V} {x y : Value} {σ' : List AO}

theorem okVs_mem {n : Nat} : ∀ {vs : List V}, okVs n vs = true → ∀ v ∈ vs, okV n v = true
  | _ :: _, h, v, hv => by
    simp only [okVs, Bool.and_eq_true] at h
    rcases List.mem_cons.mp hv with rfl | hv
    · exact h.1
    · exact okVs_mem h.2 v hv
theorem any_pds {a : V} {n m : Nat} (ha : okV n a = true) : ∀ {vs : List V}, okVs m vs = true → ((pds vs).any fun y => PyData.eqv y (pd a)) = vs.any fun v => eqV v a
  | [], _ => rfl
  | v :: vs, h => by
    simp only [okVs, Bool.and_eq_true] at h
    simp only [pds, List.any_cons, any_pds ha h.2, eqV_is v a m n h.1 ha]
theorem shaped_of {v : V} {n : Nat} (h : okV n v = true) (hn : n ≤ 64) : PySem.SeqAt.shaped (pd v) = true := by
  have q := okV_lay v n h
  have := q.2
  unfold PySem.SeqAt.shaped
  rw [q.1, Bool.true_and]
  exact decide_eq_true (by omega)
theorem shapeds_of {v : List V} {n : Nat} (h : okVs n v = true) (hn : n ≤ 63) : PySem.SeqAt.shaped (.list (pds v)) = true := by
  have q := okVs_lay v n h
  have := q.2
  unfold PySem.SeqAt.shaped
  simp only [PyData.canLay0, PyData.depth]
  rw [q.1, Bool.true_and]
  exact decide_eq_true (by omega)
theorem pure_cmp (W : Wd D s.heap G F) (hu : A.units ≤ 9000) (ha : VR G a x) (hy : VR G b y) (h1 : okV 8 a = true) (h2 : okV 8 b = true) :
    (Q (.bool (eqV a b)) s → wpAny (model prog D.w) A (compareOp .Eq x y) Q E s) ∧ (Q (.bool (!eqV a b)) s → wpAny (model prog D.w) A (compareOp .NotEq x y) Q E s) := by
  obtain ⟨as, ra⟩ := ha.reads W.tl 8 h1
  obtain ⟨bs, rb⟩ := hy.reads W.tl 8 h2
  have e := eqV_is a b 8 8 h1 h2
  have room : A.units + 64 < cLine := Nat.lt_of_le_of_lt (Nat.add_le_add_right hu 64) (by decide)
  exact ⟨fun hq => eq_dataH ra rb (shaped_of h1 (by decide)) (shaped_of h2 (by decide)) room (by rw [e]; exact hq), fun hq => ne_dataH ra rb (shaped_of h1 (by decide)) (shaped_of h2 (by decide)) room (by rw [e]; exact hq)⟩
theorem list_cmp {k j : Nat} {vs ws : List V} (W : Wd D s.heap G F) (hu : A.units ≤ 9000) (ha : VR G (.ref k) x) (hy : VR G (.ref j) y) (h1 : nth G.σ k = some (.lst vs)) (h2 : nth G.σ j = some (.lst ws)) (h : (okVs 8 vs && okVs 8 ws) = true) :
    (Q (.bool (eqVs vs ws)) s → wpAny (model prog D.w) A (compareOp .Eq x y) Q E s) ∧ (Q (.bool (!eqVs vs ws)) s → wpAny (model prog D.w) A (compareOp .NotEq x y) Q E s) := by
  rw [nth_eq] at h1 h2
  obtain ⟨o1, o2⟩ := Bool.and_eq_true_iff.mp h
  cases ha with | ref m1 =>
  cases hy with | ref m2 =>
  obtain ⟨a', q1, p1⟩ := W.ob _ _ h1
  obtain ⟨b', q2, p2⟩ := W.ob _ _ h2
  rw [m1] at q1; cases q1
  rw [m2] at q2; cases q2
  cases p1 with | lst g1 r1 =>
  cases p2 with | lst g2 r2 =>
  obtain ⟨as, ra⟩ := r1.reads W.tl 8 o1
  obtain ⟨bs, rb⟩ := r2.reads W.tl 8 o2
  have e := eqVs_is vs ws 8 8 o1 o2
  have room : A.units + 64 < cLine := Nat.lt_of_le_of_lt (Nat.add_le_add_right hu 64) (by decide)
  have ee : PyData.eqv (.list (pds vs)) (.list (pds ws)) = eqVs vs ws := by rw [← e]; rfl
  exact ⟨fun hq => eq_dataH (reads_list_at g1 rfl rfl ra) (reads_list_at g2 rfl rfl rb) (shapeds_of o1 (by decide)) (shapeds_of o2 (by decide)) room (by rw [ee]; exact hq),
    fun hq => ne_dataH (reads_list_at g1 rfl rfl ra) (reads_list_at g2 rfl rfl rb) (shapeds_of o1 (by decide)) (shapeds_of o2 (by decide)) room (by rw [ee]; exact hq)⟩

theorem none_is (ha : VR G a x) (h : ∀ v, a ≠ .exo v) (h' : a ≠ .opq) : (x == Value.none) = (match a with | .none => true | _ => false) := by
  cases ha <;> first | rfl | (exact absurd rfl h')

theorem decide_ltB (a b : Int) : decide (a < b) = Z.ltB a b := by rw [Bool.eq_iff_iff, Z.ltB_iff]; simp
theorem decide_leB (a b : Int) : decide (a ≤ b) = Z.leB a b := by rw [Bool.eq_iff_iff, Z.leB_iff]; simp

theorem cmpS_ok {op : CmpOp} {r : Bool} (hb : cmpS op G.σ a b = some r) (W : Wd D s.heap G F) (hu : A.units ≤ 9000) (ha : VR G a x) (hy : VR G b y) (hQ : Q (.bool r) s) : wpAny (model prog D.w) A (compareOp op x y) Q E s := by
  unfold cmpS at hb
  split at hb
  · split at hb
    · cases ha; cases hy; cases hb
      exact P.lt_int (by rw [decide_ltB]; exact hQ)
    · cases hb
  · split at hb
    · cases ha; cases hy; cases hb
      exact P.le_int (by rw [decide_leB]; exact hQ)
    · split at hb
      · rename_i hl
        have hl := (Z.ltB_iff _ _).mp hl
        cases hb
        cases hy
        cases ha with | big p q t =>
        refine P.le_int (by rw [decide_eq_false (by omega)]; exact hQ)
      · cases hb
    · cases hb
  · split at hb
    · cases ha; cases hy; cases hb
      exact P.gt_int (by rw [show decide (_ > _) = Z.ltB _ _ from decide_ltB _ _]; exact hQ)
    · split at hb
      · rename_i hl
        have hl := (Z.ltB_iff _ _).mp hl
        cases hb
        cases hy
        cases ha with | big p q t =>
        refine P.gt_int (by rw [decide_eq_true (by omega)]; exact hQ)
      · cases hb
    · cases hb
  · split at hb
    · cases ha; cases hy; cases hb
      exact P.ge_int (by rw [show decide (_ ≥ _) = Z.leB _ _ from decide_leB _ _]; exact hQ)
    · cases hb
  · split at hb
    · split at hb
      · rename_i n1 n2
        split at hb
        · rename_i ho
          cases hb
          exact (list_cmp W hu ha hy n1 n2 ho).1 hQ
        · cases hb
      · cases hb
    · split at hb
      · rename_i ho
        cases hb
        obtain ⟨o1, o2⟩ := Bool.and_eq_true_iff.mp ho
        exact (pure_cmp W hu ha hy o1 o2).1 hQ
      · cases hb
  · split at hb
    · split at hb
      · rename_i n1 n2
        split at hb
        · rename_i ho
          cases hb
          exact (list_cmp W hu ha hy n1 n2 ho).2 hQ
        · cases hb
      · cases hb
    · split at hb
      · rename_i ho
        cases hb
        obtain ⟨o1, o2⟩ := Bool.and_eq_true_iff.mp ho
        exact (pure_cmp W hu ha hy o1 o2).2 hQ
      · cases hb
  · split at hb
    · cases hy
      refine is_none ?_
      split at hb
      · cases ha; cases hb; exact hQ
      · cases hb
      · cases hb
      · rename_i h1 h2 h3
        cases hb
        rw [none_is ha h3 h2]
        cases a with
        | none => exact absurd rfl h1
        | _ => exact hQ
    · cases hb
  · split at hb
    · cases hy
      refine isNot_none ?_
      split at hb
      · cases ha; cases hb; exact hQ
      · cases hb
      · cases hb
      · rename_i h1 h2 h3
        cases hb
        rw [none_is ha h3 h2]
        cases a with
        | none => exact absurd rfl h1
        | _ => exact hQ
    · cases hb
  · split at hb
    · split at hb
      · rename_i ho
        cases hb
        obtain ⟨o1, o2⟩ := Bool.and_eq_true_iff.mp ho
        obtain ⟨as, ra⟩ := ha.reads W.tl 8 o1
        cases hy with | tup m r =>
        obtain ⟨bs, rb⟩ := r.reads W.tl 8 o2
        have l1 := okV_lay _ 8 o1
        have l2 := okVs_lay _ 8 o2
        refine PySem.SeqAt.in_tuple_reads (reads_tuple_at (W.tl _ m) rfl rfl rb) ra l2.1 l1.1 ?_ (by rw [any_pds o1 o2]; exact hQ)
        have : cLine > 9100 := by decide
        have := l1.2
        have := l2.2
        omega
      · cases hb
    · split at hb
      · rename_i hn
        split at hb
        · rename_i ho
          cases hb
          obtain ⟨o1, o2⟩ := Bool.and_eq_true_iff.mp ho
          obtain ⟨as, ra⟩ := ha.reads W.tl 8 o1
          rw [nth_eq] at hn
          cases hy with | ref m =>
          obtain ⟨a', q1, p1⟩ := W.ob _ _ hn
          rw [m] at q1; cases q1
          cases p1 with | lst g r =>
          obtain ⟨bs, rb⟩ := r.reads W.tl 8 o2
          have l1 := okV_lay _ 8 o1
          have l2 := okVs_lay _ 8 o2
          refine PySem.SeqAt.in_list_reads (reads_list_at g rfl rfl rb) ra l2.1 l1.1 ?_ (by rw [any_pds o1 o2]; exact hQ)
          have : cLine > 9100 := by decide
          have := l1.2
          have := l2.2
          omega
        · cases hb
      · cases hb
    · cases hb
  · cases hb
end
end Mine
open PySem PySem.W PyProof.Rows PySem.Calls PySem.Spec
set_option Elab.async false
set_option maxRecDepth 100000
set_option linter.unusedSimpArgs false
set_option linter.unusedVariables false
namespace Mine
section
variable {Γ : Ctx} {b : Nat} {l r r2 e : PySem.Expr} {cl cr cr2 : CE} {op op2 : CmpOp} {p : Pos}
noncomputable def ccmp (op : CmpOp) (cl cr : CE) : CE := fun loc cel σ k x => cl loc cel σ (fun a σ1 => cr loc cel σ1 (fun b σ2 => match cmpS op σ2 a b with | some v => k (.bool v) σ2 | none => false) x) x
noncomputable def tcmp (op : CmpOp) (cl cr : CE) : CT := fun loc cel σ k x => cl loc cel σ (fun a σ1 => cr loc cel σ1 (fun b σ2 => match cmpS op σ2 a b with | some v => k v σ2 | none => false) x) x
noncomputable def tcmp2 (op op2 : CmpOp) (cl cr cr2 : CE) : CT := fun loc cel σ k x => cl loc cel σ (fun a σ1 => cr loc cel σ1 (fun b σ2 => match cmpS op σ2 a b with
  | some v => (match v with
    | true => cr2 loc cel σ2 (fun d σ3 => match cmpS op2 σ3 b d with | some v => k v σ3 | none => false) x
    | false => k false σ2)
  | none => false) x) x
theorem units_ok {A : Around} {b : Nat} {F : Fx} (h : AOK A b F) : A.units ≤ 9000 := by have := h.u; omega
theorem se_cmp (hl : SE Γ b l cl) (hr : SE Γ b r cr) (hm : behindInMarks op r = false) : SE Γ b (.Compare l [op] [r] p) (ccmp op cl cr) := fun h hc hk hx => by
  refine wpAny_Compare1 (hl h hc (fun v s1 G1 w c1 w1 l1 r1 m1 => ?_) hx) hm
  refine hr (h.step w1 l1) c1 (fun v2 s2 G2 u c2 w2 l2 r2 m2 => ?_) (hx.step l1 m1)
  split at c2
  · rename_i t e
    exact cmpS_ok e w2 (units_ok h.a) (r1.mono l2) r2 (hk _ _ G2 _ c2 w2 (l1.trans l2) (.bool t) (m1.trans m2))
  · cases c2
theorem st_cmp (hl : SE Γ b l cl) (hr : SE Γ b r cr) (hm : behindInMarks op r = false) : ST Γ b (.Compare l [op] [r] p) (tcmp op cl cr) := fun h hc hk hx => by
  refine wpAny_isTrue_Compare1 (hl h hc (fun v s1 G1 w c1 w1 l1 r1 m1 => ?_) hx) hm
  refine hr (h.step w1 l1) c1 (fun v2 s2 G2 u c2 w2 l2 r2 m2 => ?_) (hx.step l1 m1)
  split at c2
  · rename_i t e
    exact cmpS_ok e w2 (units_ok h.a) (r1.mono l2) r2 (wpAny_truthy_bool (hk _ _ G2 c2 w2 (l1.trans l2) (m1.trans m2)))
  · cases c2
theorem st_cmp2 (hl : SE Γ b l cl) (hr : SE Γ b r cr) (hr2 : SE Γ b r2 cr2) (hm : lastMarks [op, op2] [r, r2] = false) : ST Γ b (.Compare l [op, op2] [r, r2] p) (tcmp2 op op2 cl cr cr2) := fun h hc hk hx => by
  refine isTrue_chain (hl h hc (fun v s1 G1 w c1 w1 l1 r1 m1 => ?_) hx) hm
  refine test_link ?_
  refine hr (h.step w1 l1) c1 (fun v2 s2 G2 u c2 w2 l2 r2 m2 => ?_) (hx.step l1 m1)
  split at c2
  · rename_i t e
    refine cmpS_ok e w2 (units_ok h.a) (r1.mono l2) r2 (wpAny_truthy_bool ?_)
    cases t with
    | false => exact hk _ _ G2 c2 w2 (l1.trans l2) (m1.trans m2)
    | true =>
      refine test_last ?_
      refine hr2 (h.step w2 (l1.trans l2)) c2 (fun v3 s3 G3 u3 c3 w3 l3 r3 m3 => ?_) (hx.step (l1.trans l2) (m1.trans m2))
      split at c3
      · rename_i t e
        exact cmpS_ok e w3 (units_ok h.a) (r2.mono l3) r3 (wpAny_truthy_bool (hk _ _ G3 c3 w3 ((l1.trans l2).trans l3) ((m1.trans m2).trans m3)))
      · cases c3
  · cases c2

noncomputable def truthV (v : V) : Option Bool := match v with | .bool b => some b | .none => some false | _ => none
theorem truthV_ok {D : Dt} {A : Around} {E : Value → Shared → Prop} {Q : Bool → Shared → Prop} {s : Shared} {G : St} {v : V} {x : Value} {t : Bool} (h : truthV v = some t) (hr : VR G v x) (hq : Q t s) : wpAny (model prog D.w) A (truthy x) Q E s := by
  unfold truthV at h
  split at h
  · cases hr; cases h; exact wpAny_truthy_bool hq
  · cases hr; cases h; exact truthy_none hq
  · cases h
noncomputable def tval (c : CE) : CT := fun loc cel σ k x => c loc cel σ (fun a σ1 => match truthV a with | some t => k t σ1 | none => false) x
theorem st_val {c : CE} (h1 : SE Γ b e c) (he : ∀ env whole, isTrue e env whole = (do let v ← whole; standAt e.pos; holding [v] (truthy v))) : ST Γ b e (tval c) := fun h hc hk hx => by
  refine wpAny_isTrue_value (h1 h hc (fun v s1 G1 w c1 w1 l1 r1 m1 => ?_) hx) (he _ _)
  split at c1
  · rename_i t e
    exact truthV_ok e r1 (hk _ _ G1 c1 w1 l1 m1)
  · cases c1
noncomputable def tnot (c : CT) : CT := fun loc cel σ k x => c loc cel σ (fun t σ1 => k (match t with | true => false | false => true) σ1) x
theorem st_not {c : CT} (h1 : ST Γ b e c) : ST Γ b (.UnaryOp .Not e p) (tnot c) := fun h hc hk hx => by
  refine wpAny_isTrue_Not (h1 h hc (fun v s1 G1 c1 w1 l1 m1 => ?_) hx)
  have := hk _ _ G1 c1 w1 l1 m1
  cases v <;> exact this
/-- several tests -/
noncomputable def STs (Γ : Ctx) (b : Nat) (o : PySem.BoolOp) (es : List PySem.Expr) (c : CT) : Prop :=
  ∀ {D : Dt} {A : Around} {env : Env} {s : Shared} {G : St} {F : Fx} {loc : Loc} {cel : List Nat} {k : Bool → List AO → Bool} {x : KV} {Q : Bool → Shared → Prop} {E : Value → Shared → Prop},
    At D Γ b A env s G F loc cel → c loc cel G.σ k x = true → (∀ v s' G', k v G'.σ = true → Wd D s'.heap G' F → Le G G' → Same s s' → Q v s') → PX D F G s env.frame x E →
      wpAny (model prog D.w) A (allTrue o es env) Q E s
theorem sts_and_nil : STs Γ b .And [] (fun _ _ σ k _ => k true σ) := fun h hc hk hx => wpAny_allTrue_And_nil (hk _ _ _ hc h.w (Le.refl _) (Same.refl _))
theorem sts_or_nil : STs Γ b .Or [] (fun _ _ σ k _ => k false σ) := fun h hc hk hx => wpAny_allTrue_Or_nil (hk _ _ _ hc h.w (Le.refl _) (Same.refl _))
noncomputable def tand (c cs : CT) : CT := fun loc cel σ k x => c loc cel σ (fun t σ1 => match t with | true => cs loc cel σ1 k x | false => k false σ1) x
noncomputable def tor (c cs : CT) : CT := fun loc cel σ k x => c loc cel σ (fun t σ1 => match t with | true => k true σ1 | false => cs loc cel σ1 k x) x
theorem sts_and {es : List PySem.Expr} {c cs : CT} (h1 : ST Γ b e c) (h2 : STs Γ b .And es cs) : STs Γ b .And (e :: es) (tand c cs) := fun h hc hk hx => by
  refine wpAny_allTrue_And_cons (h1 h hc (fun v s1 G1 c1 w1 l1 m1 => ?_) hx)
  cases v with
  | false => exact hk _ _ G1 c1 w1 l1 m1
  | true => exact h2 (h.step w1 l1) c1 (fun v s2 G2 c2 w2 l2 m2 => hk _ _ G2 c2 w2 (l1.trans l2) (m1.trans m2)) (hx.step l1 m1)
theorem sts_or {es : List PySem.Expr} {c cs : CT} (h1 : ST Γ b e c) (h2 : STs Γ b .Or es cs) : STs Γ b .Or (e :: es) (tor c cs) := fun h hc hk hx => by
  refine wpAny_allTrue_Or_cons (h1 h hc (fun v s1 G1 c1 w1 l1 m1 => ?_) hx)
  cases v with
  | true => exact hk _ _ G1 c1 w1 l1 m1
  | false => exact h2 (h.step w1 l1) c1 (fun v s2 G2 c2 w2 l2 m2 => hk _ _ G2 c2 w2 (l1.trans l2) (m1.trans m2)) (hx.step l1 m1)
theorem st_bool {o : PySem.BoolOp} {es : List PySem.Expr} {c : CT} (h1 : STs Γ b o es c) : ST Γ b (.BoolOp o es p) c := fun h hc hk hx =>
  wpAny_isTrue_BoolOp (h1 h hc hk hx)

/-- the value of an «and» -/
noncomputable def SBs (Γ : Ctx) (b : Nat) (es : List PySem.Expr) (c : CE) : Prop :=
  ∀ {D : Dt} {A : Around} {env : Env} {s : Shared} {G : St} {F : Fx} {loc : Loc} {cel : List Nat} {k x : KV} {Q E : Value → Shared → Prop} {p : Pos},
    At D Γ b A env s G F loc cel → c loc cel G.σ k x = true → PV D F G s k Q → PX D F G s env.frame x E → wpAny (model prog D.w) A (boolOp p .And (evalEach es env)) Q E s
theorem sbs_one {c : CE} (h1 : SE Γ b e c) : SBs Γ b [e] c := fun h hc hk hx => h1 h hc hk hx
noncomputable def candv (c cs : CE) : CE := fun loc cel σ k x => c loc cel σ (fun a σ1 => match truthV a with | some t => (match t with | true => cs loc cel σ1 k x | false => k a σ1) | none => false) x
theorem sbs_cons {e2 : PySem.Expr} {es : List PySem.Expr} {c cs : CE} (h1 : SE Γ b e c) (h2 : SBs Γ b (e2 :: es) cs) : SBs Γ b (e :: e2 :: es) (candv c cs) := fun {D A env s G F loc cel k x Q E p} h hc hk hx => by
  show wpAny _ _ (do
    let v ← eval e env
    standAt p
    let t ← holding [v] (truthy v)
    match BoolOp.And, t with
    | .And, false | .Or, true => pure v
    | _, _ => boolOp p .And (evalEach (e2 :: es) env)) Q E s
  refine wpAny_bind (h1 h hc (fun v s1 G1 w c1 w1 l1 r1 m1 => ?_) hx)
  split at c1
  · rename_i t e
    refine wpAny_bind (wpAny_standAt (wpAny_bind (wpAny_holding (truthV_ok e r1 ?_))))
    cases t with
    | false => exact wpAny_pure (hk _ _ G1 _ c1 w1 l1 r1 m1)
    | true => exact h2 (h.step w1 l1) c1 (hk.step l1 m1) (hx.step l1 m1)
  · cases c1
theorem se_and {es : List PySem.Expr} {c : CE} (h1 : SBs Γ b es c) : SE Γ b (.BoolOp .And es p) c := fun h hc hk hx => h1 h hc hk hx

noncomputable def cifx (t : CT) (c d : CE) : CE := fun loc cel σ k x => t loc cel σ (fun v σ1 => match v with | true => c loc cel σ1 k x | false => d loc cel σ1 k x) x
theorem se_if {t e1 e2 : PySem.Expr} {ct : CT} {c d : CE} (ht : ST Γ b t ct) (h1 : SE Γ b e1 c) (h2 : SE Γ b e2 d) : SE Γ b (.IfExp t e1 e2 p) (cifx ct c d) := fun h hc hk hx => by
  refine wpAny_IfExp (ht h hc (fun v s1 G1 c1 w1 l1 m1 => ?_) hx)
  cases v with
  | true => exact h1 (h.step w1 l1) c1 (hk.step l1 m1) (hx.step l1 m1)
  | false => exact h2 (h.step w1 l1) c1 (hk.step l1 m1) (hx.step l1 m1)
/-- what is not reached -/
theorem se_dead {e : PySem.Expr} : SE Γ b e (fun _ _ _ _ _ => false) := fun _ hc _ _ => by cases hc
theorem st_dead {e : PySem.Expr} : ST Γ b e (fun _ _ _ _ _ => false) := fun _ hc _ _ => by cases hc
end
end Mine
open PySem PySem.W PyProof.Rows PySem.Calls PySem.Spec
set_option Elab.async false
set_option maxRecDepth 100000
set_option linter.unusedSimpArgs false
set_option linter.unusedVariables false
namespace Mine

/-- the place that an index means -/
noncomputable def idxZ (i : Int) (n : Nat) : Option Nat := match i with
  | .ofNat k => if Nat.blt k n && Nat.blt k 1000 then some k else none
  | .negSucc k => if Nat.blt k n && Nat.blt k 1000 then some (n - 1 - k) else none
theorem idxZ_ok {i : Int} {n k : Nat} (h : idxZ i n = some k) : seqIndex? i n = some k ∧ -1001 ≤ i ∧ i ≤ 1000 ∧ k < n ∧ ((0 ≤ i ∧ k = i.toNat) ∨ (i < 0 ∧ -(n : Int) ≤ i ∧ k = (i + n).toNat)) := by
  unfold idxZ at h
  split at h
  · rename_i j
    split at h
    · rename_i hb
      cases h
      obtain ⟨h1, h2⟩ := Bool.and_eq_true_iff.mp hb
      have h1 : k < n := Nat.le_of_ble_eq_true h1
      have h2 : k < 1000 := Nat.le_of_ble_eq_true h2
      have e : (Int.ofNat k) = (k : Int) := rfl
      rw [e]
      refine ⟨?_, by omega, by omega, h1, Or.inl (by omega)⟩
      unfold seqIndex?
      have hn : ¬ ((k : Int) < 0) := by omega
      simp only [hn, if_false]
      rw [if_pos (by simp only [Bool.and_eq_true, decide_eq_true_eq]; omega)]
      simp
    · cases h
  · rename_i j
    split at h
    · rename_i hb
      cases h
      obtain ⟨h1, h2⟩ := Bool.and_eq_true_iff.mp hb
      have h1 : j < n := Nat.le_of_ble_eq_true h1
      have h2 : j < 1000 := Nat.le_of_ble_eq_true h2
      have e : Int.negSucc j = -(j : Int) - 1 := by omega
      rw [e]
      refine ⟨?_, by omega, by omega, by omega, Or.inr (by omega)⟩
      rw [seqIndex_neg (by omega) (by omega)]
      congr 1
      omega
    · cases h

noncomputable def itemS (σ : List AO) (o i : V) : Option V := match i with
  | .int i => (match o with
    | .tup vs => (match idxZ i vs.length with | some k => nth vs k | none => none)
    | .ref j => (match nth σ j with
      | some (.lst vs) => (match idxZ i vs.length with | some k => nth vs k | none => none)
      | _ => none)
    | _ => none)
  | _ => none

section
variable {D : Dt} {A : Around} {F : Fx} {G : St} {s : Shared} {Q E : Value → Shared → Prop} {o i v : V} {x y : Value}
theorem itemS_ok (h : itemS G.σ o i = some v) (W : Wd D s.heap G F) (ho : VR G o x) (hi : VR G i y) (hQ : ∀ z, VR G v z → Q z s) :
    wpAny (model prog D.w) A (getItem x y) Q E s ∧ ∃ T id, s.TypeIs x T ∧ typeLookup (.type T) "__getitem__" = pure (some (.builtin id)) := by
  unfold itemS at h
  split at h
  · split at h
    · split at h
      · rename_i e
        rw [nth_eq] at h
        cases hi with | int i t =>
        cases ho with | tup m r =>
        rw [← r.length] at e
        obtain ⟨e1, e2, e3, e4, e5⟩ := idxZ_ok e
        obtain ⟨z, hz, hr⟩ := r.get h
        exact ⟨P.getItem_tuple (W.tl _ m) (by omega) (by omega) (by simpa using e1) (by simpa using hz) (hQ z hr), "tuple", _, ⟨_, W.tl _ m, rfl⟩, PySem.F.slot_tuple_getitem.lookup⟩
      · cases h
    · split at h
      · rename_i hn
        split at h
        · rename_i e
          rw [nth_eq] at h hn
          cases hi with | int i t =>
          cases ho with | ref m =>
          obtain ⟨a', q, ob⟩ := W.ob _ _ hn
          rw [m] at q; cases q
          cases ob with | lst hg r =>
          rw [← r.length] at e
          obtain ⟨e1, e2, e3, e4, e5⟩ := idxZ_ok e
          obtain ⟨z, hz, hr⟩ := r.get h
          refine ⟨?_, "list", _, ⟨_, hg, rfl⟩, PySem.F.slot_list_getitem.lookup⟩
          rcases e5 with ⟨hneg, f2⟩ | ⟨hneg, f1, f2⟩
          · exact wpAny_getItem_list ⟨_, hg, rfl, _, rfl⟩ hneg (by omega) (by rw [f2] at hz; simpa using hz) (hQ z hr)
          · exact wpAny_getItem_list_neg (items := _) ⟨_, hg, rfl, _, rfl⟩ hneg (by simpa using f1) (by omega) (by rw [f2] at hz; simpa using hz) (hQ z hr)
        · cases h
      · cases h
    · cases h
  · cases h

theorem sub_tail {value slice : PySem.Expr} {o i : Value} {T id : String} {ops : List Value} (hT : s.TypeIs o T) (hl : typeLookup (.type T) "__getitem__" = pure (some (.builtin id)))
    (h : wpAny (model prog D.w) A (getItem o i) Q E s) (hs : subscripted slice false o i = operate ops (getItem o i)) :
    wpAny (model prog D.w) A (do let r ← subscripted slice (← getitemInPython o) o i; letTemporaryGo value o r; pure r) Q E s := by
  refine wpAny_bind ?_
  rw [getitemInPython_of_ne hT.not_modules]
  refine wpAny_bind (wpAny_specialOf hT hl ?_)
  refine wpAny_pure ?_
  rw [hs]
  exact wpAny_bind (wpAny_operating (wpAny_mono h (fun r s1 hq => wpAny_bind (wpAny_letTemporaryGo (wpAny_pure hq))) fun _ _ x => x))
end

section
variable {Γ : Ctx} {b : Nat} {value slice : PySem.Expr} {cv ci : CE} {p : Pos}
noncomputable def csub (cv ci : CE) : CE := fun loc cel σ k x => cv loc cel σ (fun a σ1 => ci loc cel σ1 (fun i σ2 => match itemS σ2 a i with | some v => k v σ2 | none => false) x) x
theorem se_sub (hv : SE Γ b value cv) (hi : SE Γ b slice ci) (hs : ∀ o i, subscripted slice false o i = operate [o, i] (getItem o i)) : SE Γ b (.Subscript value slice p) (csub cv ci) := fun h hc hk hx => by
  rw [eval_Subscript]
  refine wpAny_bind (hv h hc (fun v s1 G1 w c1 w1 l1 r1 m1 => ?_) hx)
  refine wpAny_bind (wpAny_holding (hi (h.step w1 l1) c1 (fun v2 s2 G2 u c2 w2 l2 r2 m2 => ?_) (hx.step l1 m1)))
  refine wpAny_bind (wpAny_standAt ?_)
  split at c2
  · rename_i v3 e
    obtain ⟨g, T, id, hT, hl⟩ := itemS_ok (D := _) (A := _) (E := _) (Q := _) e w2 (r1.mono l2) r2 fun z hz => hk _ _ G2 _ c2 w2 (l1.trans l2) hz (m1.trans m2)
    exact sub_tail hT hl g (hs _ _)
  · cases c2

/-! all but the last item of a tuple -/
theorem adjust_but (n : Nat) (h : 2 ≤ n) : Builtin.Slice.sliceAdjust none (some (-1)) 1 (n : Int) = (0, (n : Int) - 1) := by
  unfold Builtin.Slice.sliceAdjust
  have h1 : ¬ ((1 : Int) < 0) := by omega
  have h2 : ((-1 : Int) < 0) := by omega
  simp only [h1, h2, if_false, if_true]
  congr 1
  omega
theorem places_but (n : Nat) (h : 2 ≤ n) : Builtin.Slice.slicePlaces 0 ((n : Int) - 1) 1 = n - 1 := by
  unfold Builtin.Slice.slicePlaces
  have h1 : (1 : Int) > 0 := by omega
  simp only [h1, if_true, Int.ediv_one]
  split <;> omega
variable {D : Dt} {A : Around} {s : Shared} {Q E : Value → Shared → Prop}
theorem applied_but {sl : Addr} {n : Nat} {u : Tok} {Q : Int × Int × Nat → Shared → Prop} (hs : s.heap.IsSliceOf sl .none (.int (-1) u) .none) (ha : 2 ≤ n) (h : Q (0, 1, n - 1) s) :
    wpAny (model prog D.w) A (Builtin.Slice.sliceApplied (.ref sl) (pure (n : Int))) Q E s := by
  obtain ⟨os, hos, hcs, hds⟩ := id hs
  unfold Builtin.Slice.sliceApplied Builtin.Slice.sliceFields
  refine wpAny_bind (wpAny_bind (wpAny_field hos hds (x := .none) rfl (wpAny_bind (wpAny_field hos hds (x := .int (-1) u) rfl (wpAny_bind (wpAny_field hos hds (x := .none) rfl (wpAny_pure ?_)))))))
  refine wpAny_bind (slicePart_none ?_)
  show wpAny _ _ (if ((1 : Int) == 0) = true then _ else _) _ _ s
  rw [if_neg (by decide)]
  refine wpAny_bind (slicePart_none (wpAny_bind (slicePart_int (wpAny_bind (wpAny_pure ?_)))))
  show wpAny _ _ (match Builtin.Slice.sliceAdjust none (some (-1)) 1 (n : Int) with | (lo, hi) => pure (lo, (1 : Int), Builtin.Slice.slicePlaces lo hi 1)) _ _ s
  rw [adjust_but n ha]
  show wpAny _ _ (pure ((0 : Int), (1 : Int), Builtin.Slice.slicePlaces (0 : Int) ((n : Int) - 1) 1)) _ _ s
  rw [places_but n ha]
  exact wpAny_pure h
theorem pick_but (xs : List Value) : ((List.range (xs.length - 1)).filterMap fun (k : Nat) => xs.toArray[((0 : Int) + (k : Int) * 1).toNat]?) = xs.dropLast := by
  have e : (fun (k : Nat) => xs.toArray[((0 : Int) + (k : Int) * 1).toNat]?) = fun k => xs[k]? := by
    funext k
    have : ((0 : Int) + (k : Int) * 1).toNat = k := by omega
    rw [this]
    simp
  rw [e]
  have key : ∀ (n : Nat), n ≤ xs.length → (List.range n).filterMap (fun k => xs[k]?) = xs.take n := by
    intro n
    induction n with
    | zero => intro _; simp
    | succ n ih =>
      intro hn
      rw [List.range_succ, List.filterMap_append, ih (by omega)]
      have hl : n < xs.length := by omega
      rw [List.take_add_one]
      simp [List.getElem?_eq_getElem hl]
  rw [key _ (by omega), List.dropLast_eq_take]
theorem but_last {t sl : Addr} {ws : List Value} {u : Tok} (ht : s.heap.get? t = some (tupObj ws)) (hs : s.heap.IsSliceOf sl .none (.int (-1) u) .none) (h2 : 2 ≤ ws.length) (hsz : ws.length ≤ 1000)
    (h : Q (.ref s.heap.objs.size) { s with heap := s.heap.push (tupObj ws.dropLast) }) : wpAny (model prog D.w) A (getItem (.ref t) (.ref sl)) Q E s := by
  have hdrop : sizeOk (.seq ws.dropLast.toArray) := by
    show ws.dropLast.toArray.size ≤ sizeLine
    rw [List.size_toArray, List.length_dropLast]
    exact Nat.le_trans (Nat.le_trans (Nat.sub_le _ _) hsz) (by decide)
  have ht' : IsTup s.heap t ws.toArray := ⟨_, ht, rfl, _, rfl⟩
  obtain ⟨os, hos, hcs, hds⟩ := id hs
  have hTs : s.TypeIs (.ref sl) "slice" := ⟨os, hos, hcs⟩
  unfold getItem
  try with_reducible refine wpAny_holding ?_
  first | refine wpAny_bind (wpAny_pure ?_) | skip
  refine wpAny_bind (wpAny_sequenceKey ht'.typeIs (by decide) ?_)
  refine wpAny_bind (wpAny_callSpecial?_slot (name := Str.ofString "__getitem__") ht'.typeIs slot_tuple_getitem
    (wpAny_call_entry slot_tuple_getitem ht'.typeIs entry_tuple_getitem ?_ (args_tuple_getitem _ _)))
  show wpAny _ _ (Builtin.Tuple.tupleItemsOf (.ref t) >>= _) _ _ s
  refine wpAny_bind (tupleItemsOf_ ht' ?_)
  refine wpAny_bind (wpAny_typeOf hTs ?_)
  rw [if_pos (by decide)]
  rw [List.size_toArray]
  refine wpAny_bind (applied_but hs h2 ?_)
  have hno : ¬ (((0 : Int) == 0 && (1 : Int) == 1 && (ws.length - 1) == ws.length) = true) := by
    have : ((ws.length - 1) == ws.length) = false := by rw [beq_eq_false_iff_ne]; omega
    rw [this]; simp
  show wpAny _ _ (if ((0 : Int) == 0 && (1 : Int) == 1 && (ws.length - 1) == ws.length) = true then _ else _) _ _ s
  rw [if_neg hno, pick_but ws]
  first
    | exact wpAny_bind (m := Builtin.Tuple.tupleExact _) (wpAny_newObj_type (wpAny_pure ⟨_, rfl, wpAny_pure h⟩) hdrop)
    | exact wpAny_bind (m := Builtin.Tuple.tupleExact _) (wpAny_newObj_type (wpAny_bind (wpAny_pure (wpAny_pure ⟨_, rfl, wpAny_pure h⟩))) hdrop)
    | exact wpAny_bind (wpAny_bind (m := Builtin.Tuple.tupleExact _) (wpAny_newObj_type (wpAny_pure (wpAny_pure ⟨_, rfl, wpAny_pure h⟩)) hdrop))
    | exact wpAny_bind (wpAny_bind (m := Builtin.Tuple.tupleExact _) (wpAny_newObj_type (wpAny_pure ⟨_, rfl, wpAny_pure h⟩) hdrop))
end
section
variable {Γ : Ctx} {b : Nat} {value hi : PySem.Expr} {cv ch : CE} {p q : Pos}
/-- [:-1] -/
noncomputable def cbut (cv ch : CE) : CE := fun loc cel σ k x => cv loc cel σ (fun a σ1 => ch loc cel σ1 (fun i σ2 => match a, i with
  | .tup vs, .int (.negSucc 0) => (if Nat.ble 2 vs.length && Nat.ble vs.length 1000 then k (.tup vs.dropLast) σ2 else false)
  | _, _ => false) x) x
theorem VRs.dropLast {G : St} : ∀ {vs : List V} {ws : List Value}, VRs G vs ws → VRs G vs.dropLast ws.dropLast
  | _, _, .nil => .nil
  | _, _, .cons a .nil => .nil
  | _, _, .cons a (.cons c r) => .cons a (VRs.dropLast (.cons c r))
theorem se_but (hv : SE Γ b value cv) (hh : SE Γ b hi ch) : SE Γ b (.Subscript value (.Slice none (some hi) none q) p) (cbut cv ch) := fun {D A env s G F loc cel k x Q E} h hc hk hx => by
  rw [eval_Subscript]
  refine wpAny_bind (hv h hc (fun v s1 G1 w c1 w1 l1 r1 m1 => ?_) hx)
  refine wpAny_bind (wpAny_holding ?_)
  show wpAny _ _ (do
    let l ← (pure .none : Sem Value)
    let u ← holding [l] (eval hi env)
    let s ← holding [l, u] (pure .none : Sem Value)
    newFields "slice" [l, u, s]) _ _ _
  refine wpAny_bind (wpAny_pure (wpAny_bind (wpAny_holding (hh (h.step w1 l1) c1 (fun v2 s2 G2 u c2 w2 l2 r2 m2 => ?_) (hx.step l1 m1)))))
  refine wpAny_bind (wpAny_holding (wpAny_pure ?_))
  split at c2
  · split at c2
    · rename_i hl
      obtain ⟨h1, h2⟩ := Bool.and_eq_true_iff.mp hl
      have h1 := Nat.le_of_ble_eq_true h1
      have h2 := Nat.le_of_ble_eq_true h2
      cases r2 with | int _ t =>
      cases r1 with | tup m r =>
      refine wpAny_newObj_type ?_
      refine wpAny_bind (wpAny_standAt ?_)
      have W := w2.push { cls := .type "slice", data := .fields #[.none, .int (Int.negSucc 0) t, .none] }
      have hg := W.tl _ (l2.tl _ m)
      have hT : Shared.TypeIs { s2 with heap := s2.heap.push { cls := .type "slice", data := .fields #[.none, .int (Int.negSucc 0) t, .none] } } (.ref _) "tuple" := ⟨_, hg, rfl⟩
      refine sub_tail (ops := [.ref s2.heap.objs.size, .ref _]) hT PySem.F.slot_tuple_getitem.lookup (but_last hg (Heap.IsSliceOf.new ..) (by rw [r.length]; exact h1) (by rw [r.length]; exact h2) ?_) rfl
      exact hk (.tup _) _ { G2 with tl := (_, tupObj _) :: G2.tl } _ c2 (W.newT (tupObj _)) ((l1.trans l2).trans (Le.addT _ _)) (.tup (.head _) ((r.mono l2).dropLast.mono (Le.addT _ _))) ⟨(m1.trans m2).g, (m1.trans m2).d, (m1.trans m2).o⟩
    · cases c2
  · cases c2
end
end Mine
open PySem PySem.W PyProof.Rows PySem.Calls PySem.Spec
set_option Elab.async false
set_option maxRecDepth 100000
set_option linter.unusedSimpArgs false
set_option linter.unusedVariables false
namespace Mine

section kit
variable {D : Dt} {h h' : Heap} {G : St} {a : Addr} {o : Obj} {pr pr' : List (Addr × Obj)} {fr : List (Addr × (Str → Option Value))} {fe : List Env}
/-- a protected object is given up, and only it has turned -/
theorem Wd.dropMid (W : Wd D h G ⟨pr ++ (a, o) :: pr', fr, fe⟩) (hk : ∀ b ob, b ≠ a → h.get? b = some ob → h'.get? b = some ob) : Wd D h' G ⟨pr ++ pr', fr, fe⟩ := by
  have sub : ∀ b, b ∈ dom G ⟨pr ++ pr', fr, fe⟩ → b ∈ dom G ⟨pr ++ (a, o) :: pr', fr, fe⟩ ∧ b ≠ a := by
    intro b hb
    have n := W.nd
    unfold dom at hb n ⊢
    simp only [List.map_append, List.map_cons, List.mem_append, List.mem_cons, List.nodup_append, List.nodup_cons] at hb n ⊢
    obtain ⟨n1, ⟨n2, ⟨⟨n3, ⟨n4, n5⟩, n6⟩, n7, n8⟩, n9⟩, n10⟩ := n
    refine ⟨?_, ?_⟩
    · rcases hb with hb | hb | (hb | hb) | hb
      · exact .inl hb
      · exact .inr (.inl hb)
      · exact .inr (.inr (.inl (.inl hb)))
      · exact .inr (.inr (.inl (.inr (.inr hb))))
      · exact .inr (.inr (.inr hb))
    · rcases hb with hb | hb | (hb | hb) | hb
      · exact n10 b hb a (.inr (.inl (.inr (.inl rfl))))
      · exact n9 b hb a (.inl (.inr (.inl rfl)))
      · exact n6 b hb a (.inl rfl)
      · intro e; subst e; exact n4 hb
      · exact fun e => n8 a (.inr (.inl rfl)) b hb e.symm
  refine ⟨fun b x ex => hk b x (fun q => ?_) (W.keep b x ex), W.len, ?_, fun b hb => W.new b (sub b hb).1, fun p hp => hk _ _ (sub p.1 ?_).2 (W.tl p hp), fun p hp => hk _ _ (sub p.1 ?_).2 (W.pr p ?_), fun p hp => ?_, fun i x y => ?_, W.fe, fun p hp => ?_⟩
  · subst q
    rw [(W.new b (inPr (p := (b, o)) (List.mem_append_right _ (.head _)))).1] at ex; cases ex
  · have n := W.nd
    unfold dom at n ⊢
    refine n.sublist ?_
    refine (List.Sublist.refl _).append ((List.Sublist.refl _).append (List.Sublist.append ?_ (List.Sublist.refl _)))
    rw [List.map_append, List.map_append]
    exact (List.Sublist.refl _).append (List.sublist_cons_self _ _)
  · exact List.mem_append_left _ (List.mem_map_of_mem hp)
  · exact inPr hp
  · rcases List.mem_append.mp hp with hp | hp
    · exact List.mem_append_left _ hp
    · exact List.mem_append_right _ (.tail _ hp)
  · obtain ⟨o1, es, ep, ho, r⟩ := W.fr p hp
    exact ⟨o1, es, ep, hk _ _ (sub p.1 (inFr (List.mem_map_of_mem hp))).2 ho, r⟩
  · obtain ⟨b, p, q⟩ := W.ob i x y
    exact ⟨b, p, q.keeps fun ob e => hk _ _ (sub b (inMu p)).2 e⟩
  · obtain ⟨x, c, ps, z, r⟩ := W.tab p hp
    exact ⟨x, c, ps, hk _ _ (fun q => (W.new a (inPr (p := (a, o)) (List.mem_append_right _ (.head _)))).2 p hp q.symm) z, r⟩
theorem Wd.dropSeg {seg : List (Addr × Obj)} (W : Wd D h G ⟨seg ++ pr, fr, fe⟩) : Wd D h G ⟨pr, fr, fe⟩ := by
  induction seg with
  | nil => exact W
  | cons x seg ih => exact ih (Wd.popPr W)
theorem Wd.prNe {b : Addr} {ob : Obj} (W : Wd D h G ⟨pr ++ (a, o) :: pr', fr, fe⟩) (hm : (b, ob) ∈ pr ++ pr') : b ≠ a := by
  have n := W.nd
  unfold dom at n
  simp only [List.map_append, List.map_cons, List.nodup_append, List.nodup_cons, List.mem_append, List.mem_cons] at n
  obtain ⟨n1, ⟨n2, ⟨⟨n3, ⟨n4, n5⟩, n6⟩, n7, n8⟩, n9⟩, n10⟩ := n
  intro e
  subst e
  rcases List.mem_append.mp hm with hm | hm
  · exact n6 b (List.mem_map_of_mem hm) b (.inl rfl) rfl
  · exact n4 (List.mem_map_of_mem (f := Prod.fst) hm)
/-- the first protected objects have turned -/
theorem Wd.setSeg {seg seg' : List (Addr × Obj)} (W : Wd D h G ⟨seg ++ pr, fr, fe⟩) (ha : seg'.map (·.1) = seg.map (·.1))
    (hk : ∀ b ob, b ∉ seg.map (·.1) → h.get? b = some ob → h'.get? b = some ob) (hs : ∀ p ∈ seg', h'.get? p.1 = some p.2) : Wd D h' G ⟨seg' ++ pr, fr, fe⟩ := by
  have hd : dom G ⟨seg' ++ pr, fr, fe⟩ = dom G ⟨seg ++ pr, fr, fe⟩ := by
    unfold dom
    simp only [List.map_append, ha]
  have n := W.nd
  unfold dom at n
  simp only [List.map_append, List.nodup_append, List.mem_append] at n
  obtain ⟨n1, ⟨n2, ⟨⟨n3, n4, n5⟩, n6, n7⟩, n8⟩, n9⟩ := n
  have inS : ∀ {b}, b ∈ seg.map (·.1) → b ∈ dom G ⟨seg ++ pr, fr, fe⟩ := fun {b} hb => by
    obtain ⟨p, hp, rfl⟩ := List.mem_map.mp hb
    exact inPr (List.mem_append_left _ hp)
  refine ⟨fun b x ex => hk b x (fun q => ?_) (W.keep b x ex), W.len, hd ▸ W.nd, fun b hb => W.new b (hd ▸ hb), fun p hp => hk _ _ (fun q => ?_) (W.tl p hp), fun p hp => ?_, fun p hp => ?_, fun i x y => ?_, W.fe, fun p hp => ?_⟩
  · rw [(W.new b (inS q)).1] at ex; cases ex
  · exact n9 p.1 (List.mem_map_of_mem hp) p.1 (.inr (.inl (.inl q))) rfl
  · rcases List.mem_append.mp hp with hp | hp
    · exact hs p hp
    · exact hk _ _ (fun q => n5 p.1 q p.1 (List.mem_map_of_mem hp) rfl) (W.pr p (List.mem_append_right _ hp))
  · obtain ⟨o1, es, ep, ho, r⟩ := W.fr p hp
    exact ⟨o1, es, ep, hk _ _ (fun q => n7 p.1 (.inl q) p.1 (List.mem_map_of_mem hp) rfl) ho, r⟩
  · obtain ⟨b, p, q⟩ := W.ob i x y
    exact ⟨b, p, q.keeps fun ob e => hk _ _ (fun q => n8 b (List.mem_of_getElem? p) b (.inl (.inl q)) rfl) e⟩
  · obtain ⟨x, c, ps, z, r⟩ := W.tab p hp
    exact ⟨x, c, ps, hk _ _ (fun q => (W.new _ (inS q)).2 p hp rfl) z, r⟩
end kit

/-! iterators over a list and a tuple -/
inductive IC where
  | L (k i : Nat) | T (vs : List V) (i : Nat)
inductive ICR (G : St) : IC → Obj → Prop
  | L {k i : Nat} {l : Addr} {o : Obj} : G.μ[k]? = some l → o.cls = .type "list_iterator" → o.data = .fields #[.ref l, .int i 0] → ICR G (.L k i) o
  | T {vs : List V} {ws : List Value} {i : Nat} {t : Addr} {o : Obj} : (t, tupObj ws) ∈ G.tl → VRs G vs ws → o.cls = .type "tuple_iterator" → o.data = .fields #[.ref t, .int i 0] → ICR G (.T vs i) o
theorem ICR.mono {G G' : St} {I : IC} {o : Obj} (x : Le G G') (h : ICR G I o) : ICR G' I o := by
  cases h with
  | L a b c => exact .L (x.get a) b c
  | T a r b c => exact .T (x.tl _ a) (r.mono x) b c
/-- none: not known; some none: the end -/
noncomputable def icNext (σ : List AO) : IC → Option (Option (V × IC))
  | .L k i => match nth σ k with
    | some (.lst vs) => some (match nth vs i with | some v => some (v, .L k (i + 1)) | none => none)
    | _ => none
  | .T vs i => some (match nth vs i with | some v => some (v, .T vs (i + 1)) | none => none)

section
variable {D : Dt} {A : Around} {G : St} {s : Shared} {E : Value → Shared → Prop} {pre post : List (Addr × Obj)} {fr : List (Addr × (Str → Option Value))} {fe : List Env} {it : Addr} {o : Obj} {I I' : IC} {v : V}

theorem nextOf_tuple_item {it t : Addr} {i : Nat} {items} {x : Value} {Q : Value → Shared → Prop} (hit : IsTupIter s.heap it t i)
    (ht : IsTup s.heap t items) (hx : items[i]? = some x) (hQ : ∀ h', IsTupIter h' it t (i + 1) → Heap.SameBut it s.heap h' → Q x { s with heap := h' }) :
    wpAny (model prog D.w) A (Builtin.SmallTypes.nextOf (.ref it)) Q E s := by
  obtain ⟨o, ho, hc, hd⟩ := id hit
  obtain ⟨ol, hol, _, nl, hdl⟩ := ht
  unfold Builtin.SmallTypes.nextOf
  refine wpAny_bind (wpAny_callSpecial?_slot (name := Str.ofString "__next__") hit.typeIs slot_tupleiter_next
    (wpAny_call_entry slot_tupleiter_next hit.typeIs entry_tupleiter_next ?_ (args_tupleiter_next _)))
  show wpAny _ _ (field (.ref it) 0 >>= _) _ _ s
  refine wpAny_bind (wpAny_field ho hd (x := .ref t) rfl ?_)
  show wpAny _ _ (if (Value.ref t == Value.none) = true then _ else _) _ _ s
  rw [if_neg (show ¬ ((Value.ref t == Value.none) = true) from Bool.false_ne_true)]
  show wpAny _ _ (field (.ref it) 1 >>= _) _ _ s
  refine wpAny_bind (wpAny_field ho hd (x := .int i 0) rfl ?_)
  show wpAny _ _ (seqItems? (.ref t) >>= _) _ _ s
  refine wpAny_bind (wpAny_seqItems hol hdl ?_)
  simp only [Int.toNat_natCast, hx]
  refine wpAny_bind (wpAny_setField ho hd (by simp) (wpAny_pure ⟨x, rfl, wpAny_pure (hQ _ ?_ (Heap.SameBut.update ..))⟩))
  exact ⟨_, Heap.get?_update_self _ ho (Obj.isFreed_of_fields (Obj.data_mapFields hd _)), (Obj.cls_mapFields ..).trans hc, by
    rw [Obj.data_mapFields hd]; simp [rawInt]⟩
theorem nextOf_tuple_end {it t : Addr} {i : Nat} {items} {Q : Value → Shared → Prop} (hh : A.handled = none)
    (hit : IsTupIter s.heap it t i) (ht : IsTup s.heap t items) (hx : items[i]? = none)
    (hE : ∀ h' e, Heap.ExtBut it s.heap h' → (∃ o, h'.get? e = some o ∧ o.cls = .type "StopIteration") → E (.ref e) { s with heap := h' }) :
    wpAny (model prog D.w) A (Builtin.SmallTypes.nextOf (.ref it)) Q E s := by
  obtain ⟨o, ho, hc, hd⟩ := id hit
  obtain ⟨ol, hol, _, nl, hdl⟩ := ht
  unfold Builtin.SmallTypes.nextOf
  refine wpAny_bind (wpAny_callSpecial?_slot (name := Str.ofString "__next__") hit.typeIs slot_tupleiter_next
    (wpAny_call_entry slot_tupleiter_next hit.typeIs entry_tupleiter_next ?_ (args_tupleiter_next _)))
  show wpAny _ _ (field (.ref it) 0 >>= _) _ _ s
  refine wpAny_bind (wpAny_field ho hd (x := .ref t) rfl ?_)
  show wpAny _ _ (if (Value.ref t == Value.none) = true then _ else _) _ _ s
  rw [if_neg (show ¬ ((Value.ref t == Value.none) = true) from Bool.false_ne_true)]
  show wpAny _ _ (field (.ref it) 1 >>= _) _ _ s
  refine wpAny_bind (wpAny_field ho hd (x := .int i 0) rfl ?_)
  show wpAny _ _ (seqItems? (.ref t) >>= _) _ _ s
  refine wpAny_bind (wpAny_seqItems hol hdl ?_)
  simp only [Int.toNat_natCast, hx]
  refine wpAny_bind (wpAny_rule (wpAny_bind (wpAny_setField ho hd (by simp) ?_)))
  show wpAny _ _ (newExc (.type "StopIteration") [] >>= _) _ _ _
  refine wpAny_bind ?_
  simp only [newExc, newTuple]
  refine wpAny_bind (wpAny_newObj_type ?_ (by size_fits))
  refine wpAny_bind (m := firstArgMember _ _) (wpAny_of_eq (a := Value.none) (by first | rfl | (simp only [firstArgMember]; rfl)) ?_)
  refine wpAny_newObj_type ?_ (by size_fits)
  simp only [raiseNew]
  refine wpAny_bind (wpAny_handled ?_)
  first | rw [show A.in1.handled = none from hh] | rw [hh]
  refine wpAny_bind (wpAny_pure (wpAny_throw ?_))
  exact hE _ _ (((Heap.SameBut.update ..).extBut.push _).push _) ⟨_, Heap.get?_push_size _ rfl, rfl⟩

theorem ic_seq (W : Wd D s.heap G ⟨pre ++ (it, o) :: post, fr, fe⟩) (R : ICR G I o) (h : icNext G.σ I = some (some (v, I'))) :
    ∃ (vs : List V) (ws : List Value) (x : Value) (i : Nat), VRs G vs ws ∧ ws[i]? = some x ∧ VR G v x ∧
      ((∃ k l, I = .L k i ∧ I' = .L k (i + 1) ∧ G.μ[k]? = some l ∧ s.heap.IsListIter it l i ∧ s.heap.IsList l ws.toArray) ∨
       (∃ t, I = .T vs i ∧ I' = .T vs (i + 1) ∧ (t, tupObj ws) ∈ G.tl ∧ IsTupIter s.heap it t i ∧ IsTup s.heap t ws.toArray)) := by
  have hit := W.pr (it, o) (List.mem_append_right _ (.head _))
  cases R with
  | L m c d =>
    simp only [icNext] at h
    split at h
    · rename_i vs hn
      rw [nth_eq] at hn h
      obtain ⟨a', q, ob⟩ := W.ob _ _ hn
      rw [m] at q; cases q
      cases ob with | lst hg r =>
      split at h
      · rename_i v' hv
        simp only [Option.some.injEq, Prod.mk.injEq] at h
        obtain ⟨rfl, rfl⟩ := h
        obtain ⟨x, hx, hr⟩ := r.get hv
        exact ⟨vs, _, x, _, r, hx, hr, .inl ⟨_, _, rfl, rfl, m, ⟨_, hit, c, d⟩, ⟨_, hg, rfl, _, rfl⟩⟩⟩
      · cases h
    · cases h
  | T m r c d =>
    simp only [icNext, nth_eq] at h
    split at h
    · rename_i v' hv
      simp only [Option.some.injEq, Prod.mk.injEq] at h
      obtain ⟨rfl, rfl⟩ := h
      obtain ⟨x, hx, hr⟩ := r.get hv
      exact ⟨_, _, x, _, r, hx, hr, .inr ⟨_, rfl, rfl, m, ⟨_, hit, c, d⟩, ⟨_, W.tl _ m, rfl, _, rfl⟩⟩⟩
    · cases h
theorem ic_over (W : Wd D s.heap G ⟨pre ++ (it, o) :: post, fr, fe⟩) (R : ICR G I o) (h : icNext G.σ I = some none) :
    ∃ (ws : List Value) (i : Nat), ws[i]? = none ∧
      ((∃ l, s.heap.IsListIter it l i ∧ s.heap.IsList l ws.toArray) ∨ (∃ t, IsTupIter s.heap it t i ∧ IsTup s.heap t ws.toArray)) := by
  have hit := W.pr (it, o) (List.mem_append_right _ (.head _))
  have key : ∀ {vs : List V} {ws : List Value} {i : Nat}, VRs G vs ws → vs[i]? = none → ws[i]? = none := fun r e => by
    rw [List.getElem?_eq_none_iff] at e ⊢
    rw [r.length]; exact e
  cases R with
  | L m c d =>
    simp only [icNext] at h
    split at h
    · rename_i vs hn
      rw [nth_eq] at hn h
      obtain ⟨a', q, ob⟩ := W.ob _ _ hn
      rw [m] at q; cases q
      cases ob with | lst hg r =>
      split at h
      · cases h
      · rename_i hv
        exact ⟨_, _, key r hv, .inl ⟨_, ⟨_, hit, c, d⟩, ⟨_, hg, rfl, _, rfl⟩⟩⟩
    · cases h
  | T m r c d =>
    simp only [icNext, nth_eq] at h
    split at h
    · cases h
    · rename_i hv
      exact ⟨_, _, key r hv, .inr ⟨_, ⟨_, hit, c, d⟩, ⟨_, W.tl _ m, rfl, _, rfl⟩⟩⟩

theorem ic_nextOf {Q : Value → Shared → Prop} (W : Wd D s.heap G ⟨pre ++ (it, o) :: post, fr, fe⟩) (R : ICR G I o) (h : icNext G.σ I = some (some (v, I')))
    (hQ : ∀ h' o' w, Wd D h' G ⟨pre ++ (it, o') :: post, fr, fe⟩ → ICR G I' o' → VR G v w → Q w { s with heap := h' }) : wpAny (model prog D.w) A (Builtin.SmallTypes.nextOf (.ref it)) Q E s := by
  obtain ⟨vs, ws, x, i, r, hx, hr, hc⟩ := ic_seq W R h
  rcases hc with ⟨k, l, rfl, rfl, m, h1, h2⟩ | ⟨t, rfl, rfl, m, h1, h2⟩
  · refine wpAny_nextOf_list_item h1 h2 (by simpa using hx) fun h' ⟨o', ho', hc', hd'⟩ hs => ?_
    exact hQ h' o' x (W.updPr (fun b ob hne e => hs.extBut b ob hne e) ho') (.L m hc' hd') hr
  · refine nextOf_tuple_item h1 h2 (by simpa using hx) fun h' ⟨o', ho', hc', hd'⟩ hs => ?_
    exact hQ h' o' x (W.updPr (fun b ob hne e => hs.extBut b ob hne e) ho') (.T m r hc' hd') hr
theorem ic_nextOf_end {Q : Value → Shared → Prop} (hh : A.handled = none) (W : Wd D s.heap G ⟨pre ++ (it, o) :: post, fr, fe⟩) (R : ICR G I o) (h : icNext G.σ I = some none)
    (hE : ∀ h' e, Wd D h' G ⟨pre ++ post, fr, fe⟩ → (∃ o, h'.get? e = some o ∧ o.cls = .type "StopIteration") → E (.ref e) { s with heap := h' }) : wpAny (model prog D.w) A (Builtin.SmallTypes.nextOf (.ref it)) Q E s := by
  obtain ⟨ws, i, hx, hc⟩ := ic_over W R h
  rcases hc with ⟨l, h1, h2⟩ | ⟨t, h1, h2⟩
  · exact wpAny_nextOf_list_end hh h1 h2 (by simpa using hx) fun h' e hs he => hE h' e (W.dropMid fun b ob hne x => hs b ob hne x) he
  · exact nextOf_tuple_end hh h1 h2 (by simpa using hx) fun h' e hs he => hE h' e (W.dropMid fun b ob hne x => hs b ob hne x) he
theorem ic_pyNext {Q : Option Value → Shared → Prop} (W : Wd D s.heap G ⟨pre ++ (it, o) :: post, fr, fe⟩) (R : ICR G I o) (h : icNext G.σ I = some (some (v, I')))
    (hQ : ∀ h' o' w, Wd D h' G ⟨pre ++ (it, o') :: post, fr, fe⟩ → ICR G I' o' → VR G v w → Q (some w) { s with heap := h' }) : wpAny (model prog D.w) A (pyNext (.ref it)) Q E s := by
  obtain ⟨vs, ws, x, i, r, hx, hr, hc⟩ := ic_seq W R h
  rcases hc with ⟨k, l, rfl, rfl, m, h1, h2⟩ | ⟨t, rfl, rfl, m, h1, h2⟩
  · refine wpAny_pyNext_list_item h1 h2 (by simpa using hx) fun h' ⟨o', ho', hc', hd'⟩ hs => ?_
    exact hQ h' o' x (W.updPr (fun b ob hne e => hs.extBut b ob hne e) ho') (.L m hc' hd') hr
  · refine next_tuple_item h1 h2 (by simpa using hx) fun h' ⟨o', ho', hc', hd'⟩ hs => ?_
    exact hQ h' o' x (W.updPr (fun b ob hne e => hs.extBut b ob hne e) ho') (.T m r hc' hd') hr
theorem ic_pyNext_end {Q : Option Value → Shared → Prop} (hh : A.handled = none) (W : Wd D s.heap G ⟨pre ++ (it, o) :: post, fr, fe⟩) (R : ICR G I o) (h : icNext G.σ I = some none)
    (hQ : ∀ h', Wd D h' G ⟨pre ++ post, fr, fe⟩ → Q none { s with heap := h' }) : wpAny (model prog D.w) A (pyNext (.ref it)) Q E s := by
  obtain ⟨ws, i, hx, hc⟩ := ic_over W R h
  rcases hc with ⟨l, h1, h2⟩ | ⟨t, h1, h2⟩
  · exact wpAny_pyNext_list_end hh h1 h2 (by simpa using hx) fun h' hs => hQ h' (W.dropMid fun b ob hne x => hs b ob hne x)
  · exact next_tuple_end hh h1 h2 (by simpa using hx) fun h' hs => hQ h' (W.dropMid fun b ob hne x => hs b ob hne x)
end
end Mine
open PySem PySem.W PyProof.Rows PySem.Calls PySem.Spec
set_option Elab.async false
set_option maxRecDepth 100000
set_option linter.unusedSimpArgs false
set_option linter.unusedVariables false
namespace Mine

inductive IT where
  | C (I : IC) | R (x : Int) (n : Nat) | E (k i : Nat) | Z2 (I J : IC) | Z3 (I J K : IC)

noncomputable abbrev zipObj (f : Value) (TI TO : Addr) : Obj := { cls := .type "zip", dict := none, data := .fields #[f, .bool false, .bool false, .ref TI, .ref TO], slots := #[] }
noncomputable abbrev enmObj (it : Addr) (i : Int) (old : Value) : Obj := { cls := .type "enumerate", dict := none, data := .fields #[.none, .bool false, .ref it, rawInt i, .none, old], slots := #[] }
noncomputable abbrev rngObj (x left step : Int) : Obj := { cls := .type "range_iterator", dict := none, data := .fields #[rawInt x, rawInt left, rawInt step], slots := #[] }

inductive IR (G : St) : IT → Addr → List (Addr × Obj) → Prop
  | C {I : IC} {a : Addr} {o : Obj} : ICR G I o → IR G (.C I) a [(a, o)]
  | R {x : Int} {n : Nat} {a : Addr} : IR G (.R x n) a [(a, rngObj x n 1)]
  | E {k i : Nat} {l e it : Addr} {o : Obj} {old : Value} : ICR G (.L k i) o → IR G (.E k i) e [(e, enmObj it i old), (it, o)]
  | Z2 {I J : IC} {z TI TO i j : Addr} {o p : Obj} {a b : Value} : (TI, tupObj [.ref i, .ref j]) ∈ G.tl → ICR G I o → ICR G J p →
      IR G (.Z2 I J) z [(z, zipObj .none TI TO), (TO, tupObj [a, b]), (i, o), (j, p)]
  | Z3 {I J K : IC} {z TI TO i j k : Addr} {o p q : Obj} {a b c : Value} : (TI, tupObj [.ref i, .ref j, .ref k]) ∈ G.tl → ICR G I o → ICR G J p → ICR G K q →
      IR G (.Z3 I J K) z [(z, zipObj .none TI TO), (TO, tupObj [a, b, c]), (i, o), (j, p), (k, q)]
theorem IR.mono {G G' : St} {I : IT} {a : Addr} {seg : List (Addr × Obj)} (x : Le G G') (h : IR G I a seg) : IR G' I a seg := by
  cases h with
  | C r => exact .C (r.mono x)
  | R => exact .R
  | E r => exact .E (l := 0) (r.mono x)
  | Z2 m r q => exact .Z2 (x.tl _ m) (r.mono x) (q.mono x)
  | Z3 m r q t => exact .Z3 (x.tl _ m) (r.mono x) (q.mono x) (t.mono x)

noncomputable def itNext (σ : List AO) : IT → Option (Option (V × IT))
  | .C I => match icNext σ I with
    | some (some (v, I')) => some (some (v, .C I'))
    | some none => some none
    | none => none
  | .R x n => match n with
    | 0 => some none
    | n + 1 => some (some (.int x, .R (x + 1) n))
  | .E k i => match icNext σ (.L k i) with
    | some (some (v, _)) => some (some (.tup [.int i, v], .E k (i + 1)))
    | some none => some none
    | none => none
  | .Z2 I J => match icNext σ I with
    | some (some (a, I')) => (match icNext σ J with
      | some (some (b, J')) => some (some (.tup [a, b], .Z2 I' J'))
      | _ => none)
    | some none => some none
    | none => none
  | .Z3 I J K => match icNext σ I with
    | some (some (a, I')) => (match icNext σ J with
      | some (some (b, J')) => (match icNext σ K with
        | some (some (c, K')) => some (some (.tup [a, b, c], .Z3 I' J' K'))
        | _ => none)
      | _ => none)
    | some none => some none
    | none => none

section
variable {D : Dt} {A : Around} {G : St} {s : Shared} {E : Value → Shared → Prop} {pr : List (Addr × Obj)} {fr : List (Addr × (Str → Option Value))} {fe : List Env}

/-- the start of a turn: the next item, and the pair is let go -/
noncomputable abbrev Turn (D : Dt) (A : Around) (pr : List (Addr × Obj)) (fr : List (Addr × (Str → Option Value))) (fe : List Env) (G : St) (s : Shared) (I : IT) (a : Addr) (tgt : PySem.Expr) : Prop :=
  ∀ (v : V) (I' : IT), itNext G.σ I = some (some (v, I')) → ∀ (E : Value → Shared → Prop) (P : Value → Shared → Prop),
    (∀ s' G' seg' w, G'.σ = G.σ → Wd D s'.heap G' ⟨seg' ++ pr, fr, fe⟩ → Le G G' → IR G' I' a seg' → VR G' v w → Same s s' → P w s') →
      wpAny (model prog D.w) A (pyNext (.ref a)) (fun r s' => ∃ w, r = some w ∧ wpAny (model prog D.w) A (letOwnedTupleGo tgt (.ref a) w) (fun _ s'' => P w s'') E s') E s
noncomputable abbrev Over (D : Dt) (A : Around) (pr : List (Addr × Obj)) (fr : List (Addr × (Str → Option Value))) (fe : List Env) (G : St) (s : Shared) (I : IT) (a : Addr) : Prop :=
  itNext G.σ I = some none → ∀ (E : Value → Shared → Prop) (Q : Option Value → Shared → Prop), (∀ s', Wd D s'.heap G ⟨pr, fr, fe⟩ → Same s s' → Q none s') → wpAny (model prog D.w) A (pyNext (.ref a)) Q E s

theorem noGo {tgt : PySem.Expr} {a : Addr} {w : Value} {o : Obj} {T : String} {Q : Unit → Shared → Prop} (ho : s.heap.get? a = some o) (hc : o.cls = .type T)
    (hT : ["enumerate", "zip", "dict_itemiterator", "dict_reverseitemiterator", "odict_iterator", "itertools.zip_longest", "itertools.pairwise"].contains T = false) (h : Q () s) :
    wpAny (model prog D.w) A (letOwnedTupleGo tgt (.ref a) w) Q E s := by
  unfold letOwnedTupleGo
  have key : wpAny (model prog D.w) A (do
      let (.ref r, .ref a) := (Value.ref a, w) | return
      let o ← load r
      match o.cls, o.data with
      | .type n, .fields vs =>
        if ["enumerate", "zip", "dict_itemiterator", "dict_reverseitemiterator", "odict_iterator", "itertools.zip_longest", "itertools.pairwise"].contains n && vs[0]? == some (rawInt a) then
          rule "for.unpacks-the-owned-tuple"
          updateField r 0 .none
      | _, _ => pure ()) Q E s := by
    cases w with
    | ref b =>
      refine wpAny_bind (wpAny_load ho ?_)
      rw [hc]
      cases o.data with
      | fields vs =>
        simp only [hT, Bool.false_and, Bool.false_eq_true, if_false]
        exact wpAny_pure h
      | _ => exact wpAny_pure h
    | _ => exact wpAny_pure h
  cases tgt with
  | Tuple => exact key
  | List => exact key
  | _ => exact wpAny_pure h

theorem turn_C {I : IC} {a : Addr} {o : Obj} {tgt : PySem.Expr} (W : Wd D s.heap G ⟨(a, o) :: pr, fr, fe⟩) (R : ICR G I o) : Turn D A pr fr fe G s (.C I) a tgt := by
  intro v I' h E P hP
  simp only [itNext] at h
  split at h
  · rename_i v' J hn
    simp only [Option.some.injEq, Prod.mk.injEq] at h
    obtain ⟨rfl, rfl⟩ := h
    refine ic_pyNext (pre := []) W R hn fun h' o' w W' R' hw => ⟨w, rfl, ?_⟩
    have ho := W'.pr _ (.head _)
    have fin := hP { s with heap := h' } G [(a, o')] w rfl W' (Le.refl _) (.C R') hw ⟨rfl, rfl, rfl⟩
    cases R' with
    | L m c d => exact noGo ho c (by decide) fin
    | T m r c d => exact noGo ho c (by decide) fin
  · cases h
  · cases h
theorem over_C {I : IC} {a : Addr} {o : Obj} (hh : A.handled = none) (W : Wd D s.heap G ⟨(a, o) :: pr, fr, fe⟩) (R : ICR G I o) : Over D A pr fr fe G s (.C I) a := by
  intro h E Q hQ
  simp only [itNext] at h
  split at h
  · cases h
  · rename_i hn
    exact ic_pyNext_end (pre := []) hh W R hn fun h' W' => hQ _ W' ⟨rfl, rfl, rfl⟩
  · cases h

theorem turn_R {x : Int} {n : Nat} {a : Addr} {tgt : PySem.Expr} (W : Wd D s.heap G ⟨(a, rngObj x n 1) :: pr, fr, fe⟩) : Turn D A pr fr fe G s (.R x n) a tgt := by
  intro v I' h E P hP
  cases n with
  | zero => simp [itNext] at h
  | succ n =>
    simp only [itNext, Option.some.injEq, Prod.mk.injEq] at h
    obtain ⟨rfl, rfl⟩ := h
    refine wpAny_pyNext_range_item (W.pr _ (.head _)) (by omega) fun h' hit hs => ⟨_, rfl, ?_⟩
    refine noGo hit rfl (by decide) ?_
    have e : ((n + 1 : Nat) : Int) - 1 = (n : Int) := by omega
    rw [e] at hit
    exact hP { s with heap := h', toks := s.toks + 1 } G [(a, rngObj (x + 1) n 1)] _ rfl (W.updPr (pr := []) (fun b ob hne e => hs.extBut b ob hne e) hit) (Le.refl _) .R (.int _ _) ⟨rfl, rfl, rfl⟩
theorem over_R {x : Int} {n : Nat} {a : Addr} (hh : A.handled = none) (W : Wd D s.heap G ⟨(a, rngObj x n 1) :: pr, fr, fe⟩) : Over D A pr fr fe G s (.R x n) a := by
  intro h E Q hQ
  cases n with
  | zero => exact wpAny_pyNext_range_end hh (W.pr _ (.head _)) (by simp) fun h' hs => hQ _ (W.dropMid (pr := []) fun b ob hne e => hs b ob hne e) ⟨rfl, rfl, rfl⟩
  | succ n => simp [itNext] at h

theorem turn_E {k i : Nat} {e it : Addr} {o : Obj} {old : Value} {tl : List PySem.Expr} {n : Nat} {p : Pos} (W : Wd D s.heap G ⟨(e, enmObj it i old) :: (it, o) :: pr, fr, fe⟩) (R : ICR G (.L k i) o) :
    Turn D A pr fr fe G s (.E k i) e (.Tuple tl n p) := by
  intro v I' h E P hP
  simp only [itNext] at h
  split at h
  · rename_i v' J hn
    simp only [Option.some.injEq, Prod.mk.injEq] at h
    obtain ⟨rfl, rfl⟩ := h
    obtain ⟨vs, ws, x, j, r, hx, hr, hc⟩ := ic_seq (pre := [(e, enmObj it i old)]) W R hn
    have he := W.pr _ (.head _)
    have hne : e ≠ it := Wd.prNe (pr := [(e, enmObj it i old)]) (pr' := pr) W (List.mem_append_left _ (.head _))
    rcases hc with ⟨k', l, e1, e2, m, h1, h2⟩ | ⟨t, e1, _⟩
    · cases e1
      refine wpAny_pyNext_enum_item he h1 h2 (by simpa using hx) hne fun h' he' hit' ht hz hk => ⟨_, rfl, ?_⟩
      unfold letOwnedTupleGo
      refine wpAny_bind (wpAny_load he' ?_)
      show wpAny _ _ (if (["enumerate", "zip", "dict_itemiterator", "dict_reverseitemiterator", "odict_iterator", "itertools.zip_longest", "itertools.pairwise"].contains "enumerate" &&
        (#[rawInt s.heap.objs.size, .bool false, .ref it, rawInt ((i : Int) + 1), .none, x] : Array Value)[0]? == some (rawInt s.heap.objs.size)) = true then _ else _) _ _ _
      rw [if_pos (by simp)]
      refine wpAny_bind (wpAny_rule ?_)
      show wpAny _ _ (setField (.ref e) 0 .none) _ _ _
      refine wpAny_setField_rec he' (by simp) fun h2' he2 hs2 => ?_
      obtain ⟨o', ho', hc', hd'⟩ := hit'
      have fresh : ∀ {b}, b < s.heap.objs.size → s.heap.objs.size ≠ b := fun q => Nat.ne_of_gt q
      have W2 : Wd D h2' G ⟨[(e, enmObj it ((i : Int) + 1) x), (it, o')] ++ pr, fr, fe⟩ := by
        refine Wd.setSeg (seg := [(e, enmObj it i old), (it, o)]) W rfl (fun b ob hb q => ?_) fun q hq => ?_
        · simp only [List.map_cons, List.map_nil, List.mem_cons, List.not_mem_nil, or_false, not_or] at hb
          exact hs2.extBut b ob hb.1 (hk b ob hb.1 hb.2 q)
        · simp only [List.mem_cons, List.not_mem_nil, or_false] at hq
          rcases hq with rfl | rfl
          · exact he2
          · exact hs2.extBut _ _ (Ne.symm hne) ho'
      have hT : h2'.get? s.heap.objs.size = some (tupObj [.int i s.toks, x]) := hs2.extBut _ _ (fresh (Heap.lt_size he)) ht
      have W3 := W2.addT hT (fun hm => by
          have := W.freshIn (a := s.heap.objs.size) (Nat.le_refl _)
          apply this
          unfold dom at hm ⊢
          simpa using hm) W.fresh (W.freshTab (Nat.le_refl _))
      refine hP { s with heap := h2', toks := s.toks + 1 } { G with tl := (s.heap.objs.size, tupObj [.int i s.toks, x]) :: G.tl } [(e, enmObj it ((i : Int) + 1) x), (it, o')] (.ref s.heap.objs.size) rfl W3 (Le.addT _ _) (.E (k := k) (i := i + 1) (l := 0) ((ICR.L m hc' hd').mono (Le.addT _ _))) (.tup (.head _) (.cons (.int _ _) (.cons (hr.mono (Le.addT _ _)) .nil))) ⟨rfl, rfl, rfl⟩
    · cases e1
  · cases h
  · cases h
theorem over_E {k i : Nat} {e it : Addr} {o : Obj} {old : Value} (hh : A.handled = none) (W : Wd D s.heap G ⟨(e, enmObj it i old) :: (it, o) :: pr, fr, fe⟩) (R : ICR G (.L k i) o) : Over D A pr fr fe G s (.E k i) e := by
  intro h E Q hQ
  simp only [itNext] at h
  split at h
  · cases h
  · rename_i hn
    obtain ⟨ws, j, hx, hc⟩ := ic_over (pre := [(e, enmObj it i old)]) W R hn
    have he := W.pr _ (.head _)
    have hj : ∀ {l}, s.heap.IsListIter it l j → j = i := by
      rintro l ⟨o', ho', _, hd'⟩
      have ho := W.pr (it, o) (.tail _ (.head _))
      rw [ho] at ho'; cases ho'
      cases R with | L m c d =>
      rw [d] at hd'
      simp at hd'
      omega
    rcases hc with ⟨l, h1, h2⟩ | ⟨t, h1, h2⟩
    · have := hj h1
      subst this
      exact wpAny_pyNext_enum_end hh he h1 h2 (by simpa using hx) fun h' hs => hQ _ (Wd.popPr (Wd.dropMid (pr := [(e, enmObj it j old)]) W fun b ob hb q => hs b ob hb q)) ⟨rfl, rfl, rfl⟩
    · obtain ⟨o', ho', hc', _⟩ := h1
      have ho := W.pr (it, o) (.tail _ (.head _))
      rw [ho] at ho'; cases ho'
      cases R with | L m c d =>
      rw [c] at hc'
      simp at hc'
  · cases h
end
end Mine
open PySem PySem.W PyProof.Rows PySem.Calls PySem.Spec
set_option Elab.async false
set_option maxRecDepth 100000
set_option linter.unusedSimpArgs false
set_option linter.unusedVariables false
namespace Mine
section
variable {D : Dt} {A : Around} {G : St} {s : Shared} {E : Value → Shared → Prop} {pr : List (Addr × Obj)} {fr : List (Addr × (Str → Option Value))} {fe : List Env}

theorem updTO {TO : Addr} {arr : Array Value} {k : Nat} {x : Value} {pre post : List (Addr × Obj)} {Q : Unit → Shared → Prop} (W : Wd D s.heap G ⟨pre ++ (TO, { cls := .type "tuple", data := .seq arr }) :: post, fr, fe⟩)
    (h : ∀ h', Wd D h' G ⟨pre ++ (TO, { cls := .type "tuple", data := .seq (arr.setIfInBounds k x) }) :: post, fr, fe⟩ → Q () { s with heap := h' }) (hsz : arr.size ≤ 1000) :
    wpAny (model prog D.w) A (updateSeq TO (·.setIfInBounds k x)) Q E s := by
  have hT := W.pr _ (List.mem_append_right _ (.head _))
  refine wpAny_updateSeq hT rfl (h _ (W.updPr (fun b ob hb q => (Heap.SameBut.update ..).extBut b ob hb q) ?_)) (Nat.le_trans hsz (by decide)) (by rw [Array.size_setIfInBounds]; exact Nat.le_trans hsz (by decide))
  rw [Heap.get?_update_self _ hT rfl]
  simp [Obj.mapSeq]

/-- the end of a turn of zip -/
theorem zip_last {z TI TO : Addr} {kept : List Value} {rest : List (Addr × Obj)} {E : Value → Shared → Prop} {Q : Value → Shared → Prop}
    (W : Wd D s.heap G ⟨(z, zipObj .ellipsis TI TO) :: rest, fr, fe⟩) (hl : kept.length ≤ 1000)
    (hQ : ∀ h' T, Wd D h' { G with tl := (T, tupObj kept) :: G.tl } ⟨(z, zipObj (rawInt T) TI TO) :: rest, fr, fe⟩ → Q (.ref T) { s with heap := h' }) :
    wpAny (model prog D.w) A.in1 (do
      let result ← newTuple kept
      Builtin.SmallTypes.ownedTupleHandOut (.ref z) result
      ret result) (fun fin s' => ∃ v, fin = Fin.done (.ret v) ∧ Q v s') E s := by
  refine wpAny_bind (wpAny_newTuple ?_ (Nat.le_trans hl (by decide)))
  have W1 := W.newT (tupObj kept)
  have hz1 := W1.pr _ (.head _)
  show wpAny _ _ (Builtin.SmallTypes.ownedTupleHandOut (.ref z) (.ref s.heap.objs.size) >>= _) _ _ _
  refine wpAny_bind ?_
  unfold Builtin.SmallTypes.ownedTupleHandOut
  refine wpAny_bind (wpAny_setField_rec hz1 (by simp) fun h₇ hz₇ hs₇ => ?_)
  replace hz₇ : h₇.get? z = some (zipObj (rawInt s.heap.objs.size) TI TO) := hz₇
  refine wpAny_setField_rec hz₇ (by simp) fun h₈ hz₈ hs₈ => ?_
  replace hz₈ : h₈.get? z = some (zipObj (rawInt s.heap.objs.size) TI TO) := hz₈
  exact wpAny_pure ⟨_, rfl, hQ h₈ s.heap.objs.size (Wd.updPr (pr := []) W1 (fun b ob hb q => hs₈.extBut b ob hb (hs₇.extBut b ob hb q)) hz₈)⟩
theorem zip_go {z TI TO T : Addr} {rest : List (Addr × Obj)} {tl : List PySem.Expr} {n : Nat} {p : Pos} {Q : Unit → Shared → Prop} (W : Wd D s.heap G ⟨(z, zipObj (rawInt T) TI TO) :: rest, fr, fe⟩)
    (hQ : ∀ h', Wd D h' G ⟨(z, zipObj .none TI TO) :: rest, fr, fe⟩ → Q () { s with heap := h' }) : wpAny (model prog D.w) A (letOwnedTupleGo (.Tuple tl n p) (.ref z) (.ref T)) Q E s :=
  wpAny_letOwnedTupleGo_zip (W.pr _ (.head _)) fun h9 hz9 hs9 => hQ h9 (Wd.updPr (pr := []) W (fun b ob hb q => hs9.extBut b ob hb q) hz9)

theorem turn_Z2 {I J : IC} {z TI TO i j : Addr} {o q : Obj} {a b : Value} {tl : List PySem.Expr} {n : Nat} {p : Pos} (hTI : (TI, tupObj [.ref i, .ref j]) ∈ G.tl)
    (W : Wd D s.heap G ⟨[(z, zipObj .none TI TO), (TO, tupObj [a, b]), (i, o), (j, q)] ++ pr, fr, fe⟩) (R1 : ICR G I o) (R2 : ICR G J q) : Turn D A pr fr fe G s (.Z2 I J) z (.Tuple tl n p) := by
  intro v I' h E P hP
  simp only [itNext] at h
  split at h
  · rename_i v1 I1 n1
    split at h
    · rename_i v2 J1 n2
      simp only [Option.some.injEq, Prod.mk.injEq] at h
      obtain ⟨rfl, rfl⟩ := h
      have hz := W.pr _ (.head _)
      have hT : s.TypeIs (.ref z) "zip" := ⟨_, hz, rfl⟩
      unfold pyNext
      refine wpAny_bind (wpAny_attempt (wpAny_callSpecial?_slot (name := Str.ofString "__next__") hT PySem.F.slot_zip_next
        (wpAny_call_entry PySem.F.slot_zip_next hT PySem.F.entry_zip_next ?_ (PySem.F.args_zip_next_1 _))))
      show wpAny _ _ (field (.ref z) 2 >>= _) _ _ _
      refine wpAny_bind (wpAny_field hz rfl (x := .bool false) rfl ?_)
      show wpAny _ _ (field (.ref z) 3 >>= _) _ _ _
      refine wpAny_bind (wpAny_field hz rfl (x := .ref TI) rfl ?_)
      refine wpAny_bind (wpAny_seqItems (W.tl _ hTI) rfl ?_)
      show wpAny _ _ (Builtin.SmallTypes.ownedTupleIsFree (.ref z) >>= _) _ _ _
      refine wpAny_bind ?_
      unfold Builtin.SmallTypes.ownedTupleIsFree
      refine wpAny_bind (wpAny_field hz rfl (x := .none) rfl (wpAny_pure ?_))
      simp only [if_true]
      refine wpAny_bind (wpAny_rule ?_)
      refine wpAny_bind (wpAny_field hz rfl (x := .ref TO) rfl ?_)
      refine wpAny_bind (wpAny_setField_rec hz (by simp) fun h₁ hz₁ hs₁ => ?_)
      have W1 : Wd D h₁ G ⟨[] ++ (z, zipObj .ellipsis TI TO) :: ([(TO, tupObj [a, b]), (i, o), (j, q)] ++ pr), fr, fe⟩ := Wd.updPr (pr := []) W (fun b ob hb q => hs₁.extBut b ob hb q) hz₁
      refine wpAny_bind ?_
      simp only [List.toList_toArray, List.zipIdx_cons, List.zipIdx_nil, List.forIn_cons, List.forIn_nil]
      refine wpAny_bind (wpAny_bind (wpAny_onRaise ?_))
      show wpAny _ _ (Builtin.SmallTypes.nextOf (.ref i) >>= _) _ _ _
      refine wpAny_bind (ic_nextOf (s := { s with heap := h₁ }) (pre := [(z, zipObj .ellipsis TI TO), (TO, tupObj [a, b])]) (post := (j, q) :: pr) W1 R1 n1 fun h₂ o2 w1 W2 R1' hw1 => wpAny_pure ?_)
      have hTO2 := W2.pr (TO, tupObj [a, b]) (by simp)
      refine wpAny_bind (wpAny_seqItems hTO2 rfl ?_)
      refine wpAny_bind (updTO (s := { s with heap := h₂ }) (pre := [(z, zipObj .ellipsis TI TO)]) (post := (i, o2) :: (j, q) :: pr) W2 (fun h₃ W3 => ?_) (by simp))
      refine wpAny_bind (wpAny_letGo (wpAny_pure ?_))
      refine wpAny_bind (wpAny_bind (wpAny_onRaise ?_))
      show wpAny _ _ (Builtin.SmallTypes.nextOf (.ref j) >>= _) _ _ _
      refine wpAny_bind (ic_nextOf (s := { s with heap := h₃ }) (pre := [(z, zipObj .ellipsis TI TO), (TO, tupObj [w1, b]), (i, o2)]) (post := pr) W3 R2 n2 fun h₄ o4 w2 W4 R2' hw2 => wpAny_pure ?_)
      have hTO4 := W4.pr (TO, tupObj [w1, b]) (by simp)
      refine wpAny_bind (wpAny_seqItems hTO4 rfl ?_)
      refine wpAny_bind (updTO (s := { s with heap := h₄ }) (pre := [(z, zipObj .ellipsis TI TO)]) (post := (i, o2) :: (j, o4) :: pr) W4 (fun h₅ W5 => ?_) (by simp))
      refine wpAny_bind (wpAny_letGo (wpAny_pure (wpAny_pure ?_)))
      have hTO5 := W5.pr (TO, tupObj [w1, w2]) (by simp)
      refine wpAny_bind (wpAny_seqItems hTO5 rfl ?_)
      refine zip_last (s := { s with heap := h₅ }) (kept := [w1, w2]) W5 (by simp) fun h9 T W9 => wpAny_pure ⟨_, rfl, zip_go (s := { s with heap := h9 }) W9 fun h10 W10 => ?_⟩
      refine hP { s with heap := h10 } { G with tl := (T, tupObj [w1, w2]) :: G.tl } [(z, zipObj .none TI TO), (TO, tupObj [w1, w2]), (i, o2), (j, o4)] (.ref T) rfl W10 (Le.addT _ _) (.Z2 (.tail _ hTI) (R1'.mono (Le.addT _ _)) (R2'.mono (Le.addT _ _))) (.tup (.head _) (.cons (hw1.mono (Le.addT _ _)) (.cons (hw2.mono (Le.addT _ _)) .nil))) ⟨rfl, rfl, rfl⟩
    · cases h
  · cases h
  · cases h
theorem turn_Z3 {I J K : IC} {z TI TO i j k : Addr} {o q t : Obj} {a b c : Value} {tl : List PySem.Expr} {n : Nat} {p : Pos} (hTI : (TI, tupObj [.ref i, .ref j, .ref k]) ∈ G.tl)
    (W : Wd D s.heap G ⟨[(z, zipObj .none TI TO), (TO, tupObj [a, b, c]), (i, o), (j, q), (k, t)] ++ pr, fr, fe⟩) (R1 : ICR G I o) (R2 : ICR G J q) (R3 : ICR G K t) : Turn D A pr fr fe G s (.Z3 I J K) z (.Tuple tl n p) := by
  intro v I' h E P hP
  simp only [itNext] at h
  split at h
  · rename_i v1 I1 n1
    split at h
    · rename_i v2 J1 n2
      split at h
      rotate_left
      · cases h
      rename_i v3 K1 n3
      simp only [Option.some.injEq, Prod.mk.injEq] at h
      obtain ⟨rfl, rfl⟩ := h
      have hz := W.pr _ (.head _)
      have hT : s.TypeIs (.ref z) "zip" := ⟨_, hz, rfl⟩
      unfold pyNext
      refine wpAny_bind (wpAny_attempt (wpAny_callSpecial?_slot (name := Str.ofString "__next__") hT PySem.F.slot_zip_next
        (wpAny_call_entry PySem.F.slot_zip_next hT PySem.F.entry_zip_next ?_ (PySem.F.args_zip_next_1 _))))
      show wpAny _ _ (field (.ref z) 2 >>= _) _ _ _
      refine wpAny_bind (wpAny_field hz rfl (x := .bool false) rfl ?_)
      show wpAny _ _ (field (.ref z) 3 >>= _) _ _ _
      refine wpAny_bind (wpAny_field hz rfl (x := .ref TI) rfl ?_)
      refine wpAny_bind (wpAny_seqItems (W.tl _ hTI) rfl ?_)
      show wpAny _ _ (Builtin.SmallTypes.ownedTupleIsFree (.ref z) >>= _) _ _ _
      refine wpAny_bind ?_
      unfold Builtin.SmallTypes.ownedTupleIsFree
      refine wpAny_bind (wpAny_field hz rfl (x := .none) rfl (wpAny_pure ?_))
      simp only [if_true]
      refine wpAny_bind (wpAny_rule ?_)
      refine wpAny_bind (wpAny_field hz rfl (x := .ref TO) rfl ?_)
      refine wpAny_bind (wpAny_setField_rec hz (by simp) fun h₁ hz₁ hs₁ => ?_)
      have W1 : Wd D h₁ G ⟨[] ++ (z, zipObj .ellipsis TI TO) :: ([(TO, tupObj [a, b, c]), (i, o), (j, q), (k, t)] ++ pr), fr, fe⟩ := Wd.updPr (pr := []) W (fun b ob hb q => hs₁.extBut b ob hb q) hz₁
      refine wpAny_bind ?_
      simp only [List.toList_toArray, List.zipIdx_cons, List.zipIdx_nil, List.forIn_cons, List.forIn_nil]
      refine wpAny_bind (wpAny_bind (wpAny_onRaise ?_))
      show wpAny _ _ (Builtin.SmallTypes.nextOf (.ref i) >>= _) _ _ _
      refine wpAny_bind (ic_nextOf (s := { s with heap := h₁ }) (pre := [(z, zipObj .ellipsis TI TO), (TO, tupObj [a, b, c])]) (post := (j, q) :: (k, t) :: pr) W1 R1 n1 fun h₂ o2 w1 W2 R1' hw1 => wpAny_pure ?_)
      have hTO2 := W2.pr (TO, tupObj [a, b, c]) (by simp)
      refine wpAny_bind (wpAny_seqItems hTO2 rfl ?_)
      refine wpAny_bind (updTO (s := { s with heap := h₂ }) (pre := [(z, zipObj .ellipsis TI TO)]) (post := (i, o2) :: (j, q) :: (k, t) :: pr) W2 (fun h₃ W3 => ?_) (by simp))
      refine wpAny_bind (wpAny_letGo (wpAny_pure ?_))
      refine wpAny_bind (wpAny_bind (wpAny_onRaise ?_))
      show wpAny _ _ (Builtin.SmallTypes.nextOf (.ref j) >>= _) _ _ _
      refine wpAny_bind (ic_nextOf (s := { s with heap := h₃ }) (pre := [(z, zipObj .ellipsis TI TO), (TO, tupObj [w1, b, c]), (i, o2)]) (post := (k, t) :: pr) W3 R2 n2 fun h₄ o4 w2 W4 R2' hw2 => wpAny_pure ?_)
      have hTO4 := W4.pr (TO, tupObj [w1, b, c]) (by simp)
      refine wpAny_bind (wpAny_seqItems hTO4 rfl ?_)
      refine wpAny_bind (updTO (s := { s with heap := h₄ }) (pre := [(z, zipObj .ellipsis TI TO)]) (post := (i, o2) :: (j, o4) :: (k, t) :: pr) W4 (fun h₅ W5 => ?_) (by simp))
      refine wpAny_bind (wpAny_letGo (wpAny_pure ?_))
      refine wpAny_bind (wpAny_bind (wpAny_onRaise ?_))
      show wpAny _ _ (Builtin.SmallTypes.nextOf (.ref k) >>= _) _ _ _
      refine wpAny_bind (ic_nextOf (s := { s with heap := h₅ }) (pre := [(z, zipObj .ellipsis TI TO), (TO, tupObj [w1, w2, c]), (i, o2), (j, o4)]) (post := pr) W5 R3 n3 fun h₆ o6 w3 W6 R3' hw3 => wpAny_pure ?_)
      have hTO6 := W6.pr (TO, tupObj [w1, w2, c]) (by simp)
      refine wpAny_bind (wpAny_seqItems hTO6 rfl ?_)
      refine wpAny_bind (updTO (s := { s with heap := h₆ }) (pre := [(z, zipObj .ellipsis TI TO)]) (post := (i, o2) :: (j, o4) :: (k, o6) :: pr) W6 (fun h₇ W7 => ?_) (by simp))
      refine wpAny_bind (wpAny_letGo (wpAny_pure (wpAny_pure ?_)))
      have hTO7 := W7.pr (TO, tupObj [w1, w2, w3]) (by simp)
      refine wpAny_bind (wpAny_seqItems hTO7 rfl ?_)
      refine zip_last (s := { s with heap := h₇ }) (kept := [w1, w2, w3]) W7 (by simp) fun h9 T W9 => wpAny_pure ⟨_, rfl, zip_go (s := { s with heap := h9 }) W9 fun h10 W10 => ?_⟩
      refine hP { s with heap := h10 } { G with tl := (T, tupObj [w1, w2, w3]) :: G.tl } [(z, zipObj .none TI TO), (TO, tupObj [w1, w2, w3]), (i, o2), (j, o4), (k, o6)] (.ref T) rfl W10 (Le.addT _ _) (.Z3 (.tail _ hTI) (R1'.mono (Le.addT _ _)) (R2'.mono (Le.addT _ _)) (R3'.mono (Le.addT _ _))) (.tup (.head _) (.cons (hw1.mono (Le.addT _ _)) (.cons (hw2.mono (Le.addT _ _)) (.cons (hw3.mono (Le.addT _ _)) .nil)))) ⟨rfl, rfl, rfl⟩
    · cases h
  · cases h
  · cases h

theorem over_zip {I : IC} {z TI TO i : Addr} {o ot : Obj} {js : List Value} {mid pr : List (Addr × Obj)} {Q : Option Value → Shared → Prop} (hh : A.handled = none) (hTI : (TI, tupObj (.ref i :: js)) ∈ G.tl)
    (W : Wd D s.heap G ⟨(z, zipObj .none TI TO) :: (TO, ot) :: (i, o) :: (mid ++ pr), fr, fe⟩) (R1 : ICR G I o) (n1 : icNext G.σ I = some none)
    (hQ : ∀ s', Wd D s'.heap G ⟨pr, fr, fe⟩ → Same s s' → Q none s') : wpAny (model prog D.w) A (pyNext (.ref z)) Q E s := by
  have hz := W.pr _ (.head _)
  have hT : s.TypeIs (.ref z) "zip" := ⟨_, hz, rfl⟩
  unfold pyNext
  refine wpAny_bind (wpAny_attempt (wpAny_callSpecial?_slot (name := Str.ofString "__next__") hT PySem.F.slot_zip_next
    (wpAny_call_entry PySem.F.slot_zip_next hT PySem.F.entry_zip_next ?_ (PySem.F.args_zip_next_1 _))))
  show wpAny _ _ (field (.ref z) 2 >>= _) _ _ _
  refine wpAny_bind (wpAny_field hz rfl (x := .bool false) rfl ?_)
  show wpAny _ _ (field (.ref z) 3 >>= _) _ _ _
  refine wpAny_bind (wpAny_field hz rfl (x := .ref TI) rfl ?_)
  refine wpAny_bind (wpAny_seqItems (W.tl _ hTI) rfl ?_)
  show wpAny _ _ (Builtin.SmallTypes.ownedTupleIsFree (.ref z) >>= _) _ _ _
  refine wpAny_bind ?_
  unfold Builtin.SmallTypes.ownedTupleIsFree
  refine wpAny_bind (wpAny_field hz rfl (x := .none) rfl (wpAny_pure ?_))
  simp only [if_true]
  refine wpAny_bind (wpAny_rule ?_)
  refine wpAny_bind (wpAny_field hz rfl (x := .ref TO) rfl ?_)
  refine wpAny_bind (wpAny_setField_rec hz (by simp) fun h₁ hz₁ hs₁ => ?_)
  have W1 : Wd D h₁ G ⟨[] ++ (z, zipObj .ellipsis TI TO) :: ((TO, ot) :: (i, o) :: (mid ++ pr)), fr, fe⟩ := Wd.updPr (pr := []) W (fun b ob hb q => hs₁.extBut b ob hb q) hz₁
  refine wpAny_bind ?_
  simp only [List.toList_toArray, List.zipIdx_cons, List.forIn_cons]
  refine wpAny_bind (wpAny_bind (wpAny_onRaise ?_))
  show wpAny _ _ (Builtin.SmallTypes.nextOf (.ref i) >>= _) _ _ _
  refine wpAny_bind (ic_nextOf_end (s := { s with heap := h₁ }) (pre := [(z, zipObj .ellipsis TI TO), (TO, ot)]) (post := mid ++ pr) hh W1 R1 n1 fun h₂ e W2 he => ?_)
  obtain ⟨oe, hoe, hce⟩ := he
  have hz2 := W2.pr _ (.head _)
  have hez : e ≠ z := fun x => by subst x; rw [hz2] at hoe; cases hoe; simp at hce
  refine wpAny_setField_rec (s := { s with heap := h₂ }) hz2 (by simp) fun h₃ hz₃ hs₃ => ?_
  refine wpAny_bind (wpAny_isInstance (T := "StopIteration") (b := true) ⟨oe, hs₃.extBut _ _ hez hoe, hce⟩ isSubtype_stop ?_)
  exact wpAny_pure (hQ _ (Wd.dropSeg (seg := (TO, ot) :: mid) (Wd.dropMid (pr := []) W2 fun b ob hb q => hs₃.extBut b ob hb q)) ⟨rfl, rfl, rfl⟩)
theorem over_Z2 {I J : IC} {z TI TO i j : Addr} {o q : Obj} {a b : Value} (hh : A.handled = none) (hTI : (TI, tupObj [.ref i, .ref j]) ∈ G.tl)
    (W : Wd D s.heap G ⟨[(z, zipObj .none TI TO), (TO, tupObj [a, b]), (i, o), (j, q)] ++ pr, fr, fe⟩) (R1 : ICR G I o) : Over D A pr fr fe G s (.Z2 I J) z := by
  intro h E Q hQ
  simp only [itNext] at h
  split at h
  · split at h <;> cases h
  · rename_i n1
    exact over_zip (mid := [(j, q)]) hh hTI W R1 n1 hQ
  · cases h
theorem over_Z3 {I J K : IC} {z TI TO i j k : Addr} {o q t : Obj} {a b c : Value} (hh : A.handled = none) (hTI : (TI, tupObj [.ref i, .ref j, .ref k]) ∈ G.tl)
    (W : Wd D s.heap G ⟨[(z, zipObj .none TI TO), (TO, tupObj [a, b, c]), (i, o), (j, q), (k, t)] ++ pr, fr, fe⟩) (R1 : ICR G I o) : Over D A pr fr fe G s (.Z3 I J K) z := by
  intro h E Q hQ
  simp only [itNext] at h
  split at h
  · split at h
    · split at h <;> cases h
    · cases h
  · rename_i n1
    exact over_zip (mid := [(j, q), (k, t)]) hh hTI W R1 n1 hQ
  · cases h

/-- a target fits an iterator -/
noncomputable def isTup : PySem.Expr → Bool
  | .Tuple _ _ _ => true
  | _ => false
theorem isTup_of {e : PySem.Expr} (h : isTup e = true) : ∃ tl n p, e = .Tuple tl n p := by
  unfold isTup at h
  split at h
  · exact ⟨_, _, _, rfl⟩
  · cases h
noncomputable def fits (I : IT) (e : PySem.Expr) : Bool := match I with
  | .C _ => true
  | .R _ _ => true
  | _ => isTup e
theorem it_turn {I : IT} {a : Addr} {seg : List (Addr × Obj)} {tgt : PySem.Expr} (hf : fits I tgt = true) (W : Wd D s.heap G ⟨seg ++ pr, fr, fe⟩) (R : IR G I a seg) : Turn D A pr fr fe G s I a tgt := by
  cases R with
  | C r => exact turn_C W r
  | R => exact turn_R W
  | E r => obtain ⟨_, _, _, rfl⟩ := isTup_of hf; exact turn_E W r
  | Z2 m r q => obtain ⟨_, _, _, rfl⟩ := isTup_of hf; exact turn_Z2 m W r q
  | Z3 m r q t => obtain ⟨_, _, _, rfl⟩ := isTup_of hf; exact turn_Z3 m W r q t
theorem it_over {I : IT} {a : Addr} {seg : List (Addr × Obj)} (hh : A.handled = none) (W : Wd D s.heap G ⟨seg ++ pr, fr, fe⟩) (R : IR G I a seg) : Over D A pr fr fe G s I a := by
  cases R with
  | C r => exact over_C hh W r
  | R => exact over_R hh W
  | E r => exact over_E hh W r
  | Z2 m r q => exact over_Z2 hh m W r
  | Z3 m r q t => exact over_Z3 hh m W r
end
end Mine
open PySem PySem.W PyProof.Rows PySem.Calls PySem.Spec
set_option Elab.async false
set_option maxRecDepth 100000
set_option linter.unusedSimpArgs false
set_option linter.unusedVariables false
namespace Mine

/-- iter(x) makes o -/
noncomputable def Iters (w : World) (x : Value) (o : Obj) (h : Heap) : Prop := ∀ h', (∀ b ob, h.get? b = some ob → h'.get? b = some ob) → ∀ (A : Around) (Q E : Value → Shared → Prop) g d t os,
  Q (.ref h'.objs.size) ⟨h'.push o, g, d, t, os⟩ → wpAny (model prog w) A (pyIter x) Q E ⟨h', g, d, t, os⟩
theorem Iters.keeps {w : World} {x : Value} {o : Obj} {h h' : Heap} (p : Iters w x o h) (k : ∀ b ob, h.get? b = some ob → h'.get? b = some ob) : Iters w x o h' :=
  fun h2 k2 => p h2 fun b ob e => k2 b ob (k b ob e)
/-- the iterator over a value -/
noncomputable def icOf (σ : List AO) (v : V) : Option IC := match v with
  | .tup vs => some (.T vs 0)
  | .ref k => match nth σ k with | some (.lst _) => some (.L k 0) | _ => none
  | _ => none
theorem iters_of {D : Dt} {h : Heap} {G : St} {F : Fx} {v : V} {x : Value} {I : IC} (W : Wd D h G F) (r : VR G v x) (e : icOf G.σ v = some I) : ∃ o, Iters D.w x o h ∧ ICR G I o ∧ o.isFreed = false := by
  unfold icOf at e
  split at e
  · cases e
    cases r with | tup m q =>
    refine ⟨_, fun h' k A Q E g d t os hq => iter_tuple (items := _) ⟨_, k _ _ (W.tl _ m), rfl, _, rfl⟩ hq, .T m q rfl rfl, rfl⟩
  · split at e
    · rename_i hn
      cases e
      rw [nth_eq] at hn
      cases r with | ref m =>
      obtain ⟨a', q, ob⟩ := W.ob _ _ hn
      rw [m] at q; cases q
      cases ob with | lst hg q =>
      exact ⟨_, fun h' k A Q E g d t os hq => wpAny_pyIter_list (items := _) ⟨_, k _ _ hg, rfl, _, rfl⟩ hq, .L m rfl rfl, rfl⟩
    · cases e
  · cases e

noncomputable abbrev zh1 (h : Heap) (o : Obj) : Heap := h.push o
theorem meets_zip2 (w : World) (x y : Value) (o1 o2 : Obj) :
    MeetsIn prog w (Builtin.«zip.__new__» ⟨[.type "zip", x, y], []⟩) (fun _ R s => Iters w x o1 s.heap ∧ Iters w y o2 s.heap ∧
      R (.ok (.ret (.ref ((((s.heap.push o1).push o2).push (tupObj [.ref s.heap.objs.size, .ref (s.heap.push o1).objs.size])).push (tupObj [.none, .none])).objs.size)))
        { s with heap := ((((s.heap.push o1).push o2).push (tupObj [.ref s.heap.objs.size, .ref (s.heap.push o1).objs.size])).push (tupObj [.none, .none])).push (zipObj .none ((s.heap.push o1).push o2).objs.size (((s.heap.push o1).push o2).push (tupObj [.ref s.heap.objs.size, .ref (s.heap.push o1).objs.size])).objs.size) }) :=
  .of_wp fun A R s h => by
    obtain ⟨hp, g, d, tk, os⟩ := s; obtain ⟨h1, h2, h⟩ := h
    have hsub := sub_zip
    have p1 := fun A Q E g d t os => h1 hp (fun _ _ e => e) A Q E g d t os
    have p2 := fun A Q E g d t os => h2 (hp.push o1) (fun _ _ e => Heap.get?_push_of_some _ e) A Q E g d t os
    wp_walk using p1, p2
    exact ⟨_, rfl, h⟩
theorem meets_zip3 (w : World) (x y u : Value) (o1 o2 o3 : Obj) :
    MeetsIn prog w (Builtin.«zip.__new__» ⟨[.type "zip", x, y, u], []⟩) (fun _ R s => Iters w x o1 s.heap ∧ Iters w y o2 s.heap ∧ Iters w u o3 s.heap ∧
      R (.ok (.ret (.ref (((((s.heap.push o1).push o2).push o3).push (tupObj [.ref s.heap.objs.size, .ref (s.heap.push o1).objs.size, .ref ((s.heap.push o1).push o2).objs.size])).push (tupObj [.none, .none, .none])).objs.size)))
        { s with heap := (((((s.heap.push o1).push o2).push o3).push (tupObj [.ref s.heap.objs.size, .ref (s.heap.push o1).objs.size, .ref ((s.heap.push o1).push o2).objs.size])).push (tupObj [.none, .none, .none])).push (zipObj .none (((s.heap.push o1).push o2).push o3).objs.size ((((s.heap.push o1).push o2).push o3).push (tupObj [.ref s.heap.objs.size, .ref (s.heap.push o1).objs.size, .ref ((s.heap.push o1).push o2).objs.size])).objs.size) }) :=
  .of_wp fun A R s h => by
    obtain ⟨hp, g, d, tk, os⟩ := s; obtain ⟨h1, h2, h3, h⟩ := h
    have hsub := sub_zip
    have p1 := fun A Q E g d t os => h1 hp (fun _ _ e => e) A Q E g d t os
    have p2 := fun A Q E g d t os => h2 (hp.push o1) (fun _ _ e => Heap.get?_push_of_some _ e) A Q E g d t os
    have p3 := fun A Q E g d t os => h3 ((hp.push o1).push o2) (fun _ _ e => Heap.get?_push_of_some _ (Heap.get?_push_of_some _ e)) A Q E g d t os
    wp_walk using p1, p2, p3
    exact ⟨_, rfl, h⟩
end Mine
open PySem PySem.W PyProof.Rows PySem.Calls PySem.Spec
set_option Elab.async false
set_option maxRecDepth 100000
set_option linter.unusedSimpArgs false
set_option linter.unusedVariables false
namespace Mine

noncomputable abbrev KN := Loc → List AO → Bool
noncomputable abbrev CS := Loc → List Nat → List AO → KN → KV → KV → Bool
noncomputable abbrev CG := V → Loc → List Nat → List AO → KN → Bool
noncomputable abbrev CGs := List V → Loc → List Nat → List AO → KN → Bool

/-- the two differ in the locals of the top frame alone -/
structure Fr1 (F F' : Fx) : Prop where
  pr : F'.pr = F.pr
  fe : F'.fe = F.fe
  fr : ∃ L m m' r, F.fr = (L, m) :: r ∧ F'.fr = (L, m') :: r
theorem Fr1.refl {F : Fx} {L : Addr} {m : Str → Option Value} {r : List (Addr × (Str → Option Value))} (h : F.fr = (L, m) :: r) : Fr1 F F := ⟨rfl, rfl, L, m, m, r, h, h⟩
theorem Fr1.trans {a b c : Fx} (x : Fr1 a b) (y : Fr1 b c) : Fr1 a c := by
  obtain ⟨L, m, m', r, e1, e2⟩ := x.fr
  obtain ⟨L2, m2, m3, r2, e3, e4⟩ := y.fr
  rw [e2] at e3
  cases e3
  exact ⟨y.pr.trans x.pr, y.fe.trans x.fe, L, m, m3, r, e1, e4⟩
theorem Fr1.dom {F F' : Fx} (h : Fr1 F F') (G : St) : dom G F' = dom G F := by
  obtain ⟨L, m, m', r, e1, e2⟩ := h.fr
  unfold Mine.dom
  rw [h.pr, e1, e2]
  simp
theorem At.fr1 {D : Dt} {Γ : Ctx} {b : Nat} {A : Around} {env : Env} {s : Shared} {G : St} {F : Fx} {loc : Loc} {cel : List Nat} (h : At D Γ b A env s G F loc cel) : Fr1 F F := let ⟨_, _, e, _⟩ := h.l; .refl e

noncomputable abbrev PN (D : Dt) (Γ : Ctx) (b : Nat) (A : Around) (env : Env) (cel : List Nat) (F : Fx) (G : St) (s : Shared) (n : KN) (Q : Shared → Prop) : Prop :=
  ∀ s' G' F' loc', n loc' G'.σ = true → Fr1 F F' → At D Γ b A env s' G' F' loc' cel → Le G G' → Same s s' → Q s'
noncomputable abbrev PR (D : Dt) (F : Fx) (G : St) (s : Shared) (k : KV) (Q : Value → Shared → Prop) : Prop :=
  ∀ v s' G' F' w, k v G'.σ = true → Fr1 F F' → Wd D s'.heap G' F' → Le G G' → VR G' v w → Same s s' → Q w s'
noncomputable abbrev PXs (D : Dt) (F : Fx) (G : St) (s : Shared) (f : Option Addr) (x : KV) (E : Value → Shared → Prop) : Prop := ∀ F', Fr1 F F' → PX D F' G s f x E

section steps
variable {D : Dt} {Γ : Ctx} {b : Nat} {A : Around} {env : Env} {cel : List Nat} {F F' : Fx} {G G' : St} {s s' : Shared} {n : KN} {k x : KV} {f : Option Addr} {Qn : Shared → Prop} {Q E : Value → Shared → Prop}
theorem PN.step (h : PN D Γ b A env cel F G s n Qn) (r : Fr1 F F') (l : Le G G') (m : Same s s') : PN D Γ b A env cel F' G' s' n Qn :=
  fun s2 G2 F2 loc2 a c d e g => h s2 G2 F2 loc2 a (r.trans c) d (l.trans e) (m.trans g)
theorem PR.step (h : PR D F G s k Q) (r : Fr1 F F') (l : Le G G') (m : Same s s') : PR D F' G' s' k Q :=
  fun v s2 G2 F2 w a c d e g i => h v s2 G2 F2 w a (r.trans c) d (l.trans e) g (m.trans i)
theorem PXs.step (h : PXs D F G s f x E) (r : Fr1 F F') (l : Le G G') (m : Same s s') : PXs D F' G' s' f x E :=
  fun F2 c => (h F2 (r.trans c)).step l m
end steps

noncomputable def SS (Γ : Ctx) (b : Nat) (st : PySem.Stmt) (c : CS) : Prop :=
  ∀ {D : Dt} {A : Around} {env : Env} {s : Shared} {G : St} {F : Fx} {loc : Loc} {cel : List Nat} {n : KN} {k x : KV} {Q : Flow → Shared → Prop} {E : Value → Shared → Prop},
    At D Γ b A env s G F loc cel → c loc cel G.σ n k x = true → PN D Γ b A env cel F G s n (Q .next) → PR D F G s k (fun w => Q (.ret w)) → PXs D F G s env.frame x E →
      wpAny (model prog D.w) A (exec st env) Q E s
noncomputable def SSs (Γ : Ctx) (b : Nat) (st : List PySem.Stmt) (c : CS) : Prop :=
  ∀ {D : Dt} {A : Around} {env : Env} {s : Shared} {G : St} {F : Fx} {loc : Loc} {cel : List Nat} {n : KN} {k x : KV} {Q : Flow → Shared → Prop} {E : Value → Shared → Prop},
    At D Γ b A env s G F loc cel → c loc cel G.σ n k x = true → PN D Γ b A env cel F G s n (Q .next) → PR D F G s k (fun w => Q (.ret w)) → PXs D F G s env.frame x E →
      wpAny (model prog D.w) A (execs st env) Q E s
noncomputable def TG (Γ : Ctx) (b : Nat) (t : PySem.Expr) (g : CG) : Prop :=
  ∀ {D : Dt} {A : Around} {env : Env} {s : Shared} {G : St} {F : Fx} {loc : Loc} {cel : List Nat} {v : V} {w : Value} {n : KN} {Q : Unit → Shared → Prop} {E : Value → Shared → Prop},
    At D Γ b A env s G F loc cel → VR G v w → g v loc cel G.σ n = true → PN D Γ b A env cel F G s n (Q ()) → wpAny (model prog D.w) A (assign t env w) Q E s
noncomputable def TGs (Γ : Ctx) (b : Nat) (ts : List PySem.Expr) (g : CGs) : Prop :=
  ∀ {D : Dt} {A : Around} {env : Env} {s : Shared} {G : St} {F : Fx} {loc : Loc} {cel : List Nat} {vs : List V} {ws : List Value} {n : KN} {Q : Unit → Shared → Prop} {E : Value → Shared → Prop},
    At D Γ b A env s G F loc cel → VRs G vs ws → g vs loc cel G.σ n = true → PN D Γ b A env cel F G s n (Q ()) → wpAny (model prog D.w) A (assignInOrder ((assignEach ts env).map (·.2)) ws) Q E s

section stmts
variable {Γ : Ctx} {b : Nat} {p : Pos}
theorem sss_nil : SSs Γ b [] (fun loc _ σ n _ _ => n loc σ) := fun h hc hn _ _ => wpAny_execs_nil (hn _ _ _ _ hc h.fr1 h (Le.refl _) (Same.refl _))
noncomputable def cseq (c cs : CS) : CS := fun loc cel σ n k x => c loc cel σ (fun loc1 σ1 => cs loc1 cel σ1 n k x) k x
theorem sss_cons {st : PySem.Stmt} {r : List PySem.Stmt} {c cs : CS} (h1 : SS Γ b st c) (h2 : SSs Γ b r cs) : SSs Γ b (st :: r) (cseq c cs) := fun h hc hn hr hx => by
  refine wpAny_execs_cons (h1 h hc ?_ ?_ hx)
  · intro s1 G1 F1 loc1 c1 r1 a1 l1 m1
    exact h2 a1 c1 (PN.step hn r1 l1 m1) (PR.step hr r1 l1 m1) (PXs.step hx r1 l1 m1)
  · exact hr
noncomputable def cif (t : CT) (c d : CS) : CS := fun loc cel σ n k x => t loc cel σ (fun v σ1 => match v with | true => c loc cel σ1 n k x | false => d loc cel σ1 n k x) x
theorem ss_if {t : PySem.Expr} {r1 r2 : List PySem.Stmt} {ct : CT} {c d : CS} (ht : ST Γ b t ct) (h1 : SSs Γ b r1 c) (h2 : SSs Γ b r2 d) : SS Γ b (.If t r1 r2 p) (cif ct c d) := fun h hc hn hr hx => by
  refine wpAny_If (ht h hc (fun v s1 G1 c1 w1 l1 m1 => ?_) (hx _ h.fr1))
  have h' := h.step w1 l1
  cases v with
  | true => exact h1 h' c1 (PN.step hn h.fr1 l1 m1) (PR.step hr h.fr1 l1 m1) (PXs.step hx h.fr1 l1 m1)
  | false => exact h2 h' c1 (PN.step hn h.fr1 l1 m1) (PR.step hr h.fr1 l1 m1) (PXs.step hx h.fr1 l1 m1)
noncomputable def cret (c : CE) : CS := fun loc cel σ _ k x => c loc cel σ k x
theorem ss_ret {e : PySem.Expr} {c : CE} (h1 : SE Γ b e c) : SS Γ b (.Return (some e) p) (cret c) := fun h hc hn hr hx =>
  wpAny_Return_some (h1 h hc (fun v s1 G1 w c1 w1 l1 r1 m1 => hr v s1 G1 _ w c1 h.fr1 w1 l1 r1 m1) (hx _ h.fr1))
noncomputable def cexp (c : CE) : CS := fun loc cel σ n _ x => c loc cel σ (fun _ σ1 => n loc σ1) x
theorem ss_exp {e : PySem.Expr} {c : CE} (h1 : SE Γ b e c) (hi : ∀ env, EnvOK Γ env → interactive env = false) (hs : ∀ env, swapsWith e none p.line env = pure false) : SS Γ b (.Expr e p) (cexp c) := fun h hc hn hr hx =>
  wpAny_Expr_any (h1 h hc (fun v s1 G1 w c1 w1 l1 r1 m1 => hn s1 G1 _ _ c1 h.fr1 (h.step w1 l1) l1 m1) (hx _ h.fr1)) (hi _ h.e) (hs _)
theorem notInteractive {env : Env} (h : EnvOK Γ env) : interactive env = false := by unfold interactive; rw [h.kind]; rfl
theorem ss_dead {st : PySem.Stmt} : SS Γ b st (fun _ _ _ _ _ _ => false) := fun _ hc _ _ _ => by cases hc
theorem sss_dead {st : List PySem.Stmt} : SSs Γ b st (fun _ _ _ _ _ _ => false) := fun _ hc _ _ _ => by cases hc

theorem lget_lset : ∀ (loc : Loc) (i j : Nat) (v v' : V), lget (lset loc i v) j = some v' → (i = j ∧ v' = v) ∨ (i ≠ j ∧ lget loc j = some v')
  | [], _, _, _, _, h => by simp [lset, lget] at h
  | o :: r, 0, 0, v, v', h => by simp [lset, lget] at h; exact .inl ⟨rfl, h.symm⟩
  | o :: r, 0, j + 1, v, v', h => by simp [lset, lget] at h; exact .inr ⟨by omega, by simpa [lget] using h⟩
  | o :: r, i + 1, 0, v, v', h => by simp [lset, lget] at h; exact .inr ⟨by omega, by simpa [lget] using h⟩
  | o :: r, i + 1, j + 1, v, v', h => by
    simp only [lset, lget] at h ⊢
    rcases lget_lset r i j v v' h with ⟨rfl, e⟩ | ⟨e, q⟩
    · exact .inl ⟨rfl, e⟩
    · exact .inr ⟨by omega, q⟩

variable {x : Str}
/-- a name of the frame's own is bound -/
theorem bind_loc {D : Dt} {A : Around} {env : Env} {s : Shared} {G : St} {F : Fx} {loc : Loc} {cel : List Nat} {v : V} {w : Value} {n : KN} {Q : Unit → Shared → Prop} {E : Value → Shared → Prop} (i : Nat)
    (hi : Γ.ls[i]? = some x) (hnd : Γ.ls.Nodup) (hk : Γ.names.lookup x = some .local) (h : At D Γ b A env s G F loc cel) (hr : VR G v w) (hc : n (lset loc i v) G.σ = true) (hn : PN D Γ b A env cel F G s n (Q ())) :
    wpAny (model prog D.w) A (bindName env x w) Q E s := by
  obtain ⟨m, rest, hf, hl⟩ := h.l
  obtain ⟨pr, fr, fe⟩ := F
  simp only at hf
  subst hf
  refine wpAny_bindName (wpAny_storeName_local ((kindOf_of h.e _).trans hk) (h.w.fr _ (.head _)) (fun h' hn' hs => ?_) (by rw [h.e.kind]; rfl))
  have W := h.w.setFr hs hn'
  refine hn { s with heap := h', toks := s.toks + 1 } G ⟨pr, (env.locals, fun y => if y = x then some w else m y) :: rest, fe⟩ (lset loc i v) hc ⟨rfl, rfl, _, _, _, _, rfl, rfl⟩ ⟨⟨h.a.h, h.a.d, h.a.u, h.a.f⟩, h.e, W, ⟨_, _, rfl, ?_⟩, h.c, h.f⟩ (Le.refl _) ⟨rfl, rfl, rfl⟩
  intro j y v' hy hv
  rcases lget_lset loc i j v v' hv with ⟨rfl, rfl⟩ | ⟨hne, hv⟩
  · rw [hi] at hy; cases hy
    exact ⟨w, by simp, hr⟩
  · obtain ⟨w', q1, q2⟩ := hl j y v' hy hv
    refine ⟨w', ?_, q2⟩
    have : y ≠ x := fun e => by
      subst e
      obtain ⟨l1, e1⟩ := List.getElem?_eq_some_iff.mp hi
      obtain ⟨l2, e2⟩ := List.getElem?_eq_some_iff.mp hy
      exact hne ((List.getElem_inj hnd).mp (e1.trans e2.symm))
    simp [this, q1]
noncomputable def gloc (i : Nat) : CG := fun v loc _ σ n => n (lset loc i v) σ
theorem tg_loc (i : Nat) (hi : Γ.ls[i]? = some x) (hnd : Γ.ls.Nodup) (hk : Γ.names.lookup x = some .local) : TG Γ b (.Name x p) (gloc i) := fun h hr hc hn =>
  wpAny_bind (wpAny_standAt (bind_loc i hi hnd hk h hr hc hn))
noncomputable def isCell (σ : List AO) (j : Nat) : Bool := match nth σ j with | some (.cell _) => true | _ => false
noncomputable def gcel (i : Nat) : CG := fun v loc cel σ n => match nth cel i with | some j => (match isCell σ j with | true => n loc (σ.set j (.cell (some v))) | false => false) | none => false
theorem tg_cel (i : Nat) (hi : Γ.cs[i]? = some x) (hk : Γ.names.lookup x = some .cell) : TG Γ b (.Name x p) (gcel i) := fun {D A env s G F loc cel v w n Q E} h hr hc hn => by
  unfold gcel at hc
  rw [nth_eq] at hc
  split at hc
  · rename_i j hj
    split at hc
    · rename_i hic
      obtain ⟨a, ha, hm⟩ := h.c i _ j hi hj
      unfold isCell at hic
      split at hic
      · rename_i v0 hs
        rw [nth_eq] at hs
        obtain ⟨a', ha', ho⟩ := h.w.ob j _ hs
        rw [hm] at ha'; cases ha'
        have key : ∃ v0, s.heap.IsCell a v0 := by
          cases ho with
          | cell0 q => exact ⟨_, q⟩
          | cell q _ => exact ⟨_, q⟩
        obtain ⟨v0, hcell⟩ := key
        refine wpAny_bind (wpAny_standAt (wpAny_bindName (wpAny_storeName_cell h.e.kind ((kindOf_of h.e _).trans hk) ha hcell fun h' hc' hs' => ?_)))
        have W := h.w.updS hm hs' (.cell hc' hr)
        exact hn { s with heap := h' } { G with σ := G.σ.set j (.cell (some v)) } F loc hc h.fr1 (h.step W (Le.setS G _)) (Le.setS G _) ⟨rfl, rfl, rfl⟩
      · cases hic
    · cases hc
  · cases hc

theorem tgs_nil : TGs Γ b [] (fun vs loc _ σ n => match vs with | [] => n loc σ | _ => false) := fun h hr hc hn => by
  cases hr with
  | nil => exact wpAny_pure (hn _ _ _ _ hc h.fr1 h (Le.refl _) (Same.refl _))
  | cons _ _ => cases hc
noncomputable def gcons (g : CG) (gs : CGs) : CGs := fun vs loc cel σ n => match vs with | v :: vs => g v loc cel σ (fun loc1 σ1 => gs vs loc1 cel σ1 n) | _ => false
theorem tgs_cons {t : PySem.Expr} {ts : List PySem.Expr} {g : CG} {gs : CGs} (h1 : TG Γ b t g) (h2 : TGs Γ b ts gs) (hst : ∀ env, assignEach (t :: ts) env = (false, assign t env) :: assignEach ts env) : TGs Γ b (t :: ts) (gcons g gs) := fun h hr hc hn => by
  cases hr with
  | nil => cases hc
  | cons a r =>
    rw [hst, List.map_cons]
    refine wpAny_bind (wpAny_holding (h1 h a hc fun s1 G1 F1 loc1 c1 r1 a1 l1 m1 => ?_))
    exact h2 a1 (r.mono l1) c1 (PN.step hn r1 l1 m1)
noncomputable def gtup (k : Nat) (gs : CGs) : CG := fun v loc cel σ n => match v with | .tup vs => (match Nat.beq vs.length k with | true => gs vs loc cel σ n | false => false) | _ => false
theorem extNew {h h' : Heap} (e : Heap.ExtBut h.objs.size h h') : ∀ b o, h.get? b = some o → h'.get? b = some o := fun b o q => e b o (Nat.ne_of_lt (Heap.lt_size q)) q
theorem tg_tup {ts : List PySem.Expr} {k n : Nat} {gs : CGs} (h1 : TGs Γ b ts gs) (hlen : ∀ env, (assignEach ts env).length = k) (hstar : ∀ env, (assignEach ts env).findIdx? (·.1) = none) : TG Γ b (.Tuple ts n p) (gtup k gs) := fun {D A env s G F loc cel v w n Q E} h hr hc hn => by
  unfold gtup at hc
  split at hc
  · split at hc
    · rename_i hl
      have hl := Nat.eq_of_beq_eq_true hl
      cases hr with | tup m r =>
      refine assign_Tuple_tuple (items := _) h.a.h ⟨_, h.w.tl _ m, rfl, _, rfl⟩ ?_ (hstar _) fun h' he => ?_
      · rw [hlen, List.size_toArray, r.length, hl]
      · refine h1 (s := { s with heap := h' }) (h.step (h.w.grow (extNew he)) (Le.refl _)) r hc (PN.step hn h.fr1 (Le.refl _) ⟨rfl, rfl, rfl⟩)
    · cases hc
  · cases hc

noncomputable def casg (c : CE) (g : CG) : CS := fun loc cel σ n _ x => c loc cel σ (fun v σ1 => g v loc cel σ1 n) x
theorem ss_asg {t value : PySem.Expr} {c : CE} {g : CG} (he : SE Γ b value c) (ht : TG Γ b t g) (hs : ∀ env, EnvOK Γ env → swapsWithSole [t] value p.line env = pure false)
    (hw : ∀ env, EnvOK Γ env → swappedStores [t] value env = pure none) (hst : ∀ env, (assignEach [t] env).map (·.2) = [assign t env]) : SS Γ b (.Assign [t] value p) (casg c g) := fun h hc hn hr hx => by
  refine wpAny_Assign_stores (he h hc (fun v s1 G1 w c1 w1 l1 r1 m1 => ?_) (hx _ h.fr1)) (hs _ h.e) (hw _ h.e)
  rw [hst]
  exact ht (h.step w1 l1) r1 c1 (PN.step hn h.fr1 l1 m1)

end stmts
end Mine
open PySem PySem.W PyProof.Rows PySem.Calls PySem.Spec
set_option Elab.async false
set_option maxRecDepth 100000
set_option linter.unusedSimpArgs false
set_option linter.unusedVariables false
namespace Mine

structure Out (D : Dt) (G : St) (F : Fx) (a : Addr) : Prop where
  d : a ∉ dom G F
  b : D.base.get? a = none
  t : ∀ p ∈ tabs, a ≠ p.2

section
variable {D : Dt} {h h' : Heap} {G : St} {F : Fx}
theorem Wd.out (W : Wd D h G F) {a : Addr} (o : Out D G F a) (k : ∀ b ob, b ≠ a → h.get? b = some ob → h'.get? b = some ob) : Wd D h' G F where
  keep b x e := k b x (fun q => by subst q; rw [o.b] at e; cases e) (W.keep b x e)
  len := W.len
  nd := W.nd
  new := W.new
  tl p hp := k _ _ (fun q => o.d (q ▸ W.inTl hp)) (W.tl p hp)
  pr p hp := k _ _ (fun q => o.d (q ▸ inPr hp)) (W.pr p hp)
  fr p hp := by
    obtain ⟨o1, es, ep, ho, r⟩ := W.fr p hp
    exact ⟨o1, es, ep, k _ _ (fun q => o.d (q ▸ inFr (List.mem_map_of_mem hp))) ho, r⟩
  ob i x y := by
    obtain ⟨b, p, q⟩ := W.ob i x y
    exact ⟨b, p, q.keeps fun ob e => k _ _ (fun z => o.d (z ▸ inMu p)) e⟩
  fe := W.fe
  tab p hp := by
    obtain ⟨x, c, ps, z, r⟩ := W.tab p hp
    exact ⟨x, c, ps, k _ _ (fun q => o.t p hp q.symm) z, r⟩
theorem Wd.outNew (W : Wd D h G F) {a : Addr} (ha : h.objs.size ≤ a) : Out D G F a := ⟨W.freshIn ha, W.freshBase ha, W.freshTab ha⟩

theorem Wd.funFrames (W : Wd D h G F) : h.FunFrames D.base F.fe := by
  have key : ∀ l : List Env, (∀ e ∈ l, e ∈ F.fe) → h.FunFrames D.base l := by
    intro l
    induction l with
    | nil => intro _; trivial
    | cons e r ih =>
      intro hl
      obtain ⟨hk, L, hf, hL⟩ := W.fe e (hl e (.head _))
      obtain ⟨p, hp, rfl⟩ := List.mem_map.mp hL
      obtain ⟨o, es, ep, ho, hd, _⟩ := W.fr p hp
      exact ⟨hk, ⟨p.1, o, hf, (W.new _ (inFr hL)).1, ho, fun vs q => by rw [hd] at q; cases q⟩, ih fun x hx => hl x (.tail _ hx)⟩
  exact key F.fe fun _ h => h

theorem frDisj (W : Wd D h G F) {L b : Addr} (hL : L ∈ F.fr.map (·.1)) (hb : b ∈ G.tl.map (·.1) ∨ b ∈ G.μ ∨ b ∈ F.pr.map (·.1)) : b ≠ L := by
  have n := W.nd
  unfold dom at n
  simp only [List.nodup_append, List.mem_append] at n
  obtain ⟨n1, ⟨n2, ⟨n3, n4, n5⟩, n6⟩, n7⟩ := n
  rcases hb with hb | hb | hb
  · exact n7 b hb L (.inr (.inr hL))
  · exact n6 b hb L (.inr hL)
  · exact n5 b hb L hL
theorem Wd.slots (W : Wd D h G F) (hs : Heap.SlotsOnly (F.fe.filterMap (·.frame)) h h') : Wd D h' G F := by
  have inF : ∀ {b}, b ∈ F.fe.filterMap (·.frame) → b ∈ F.fr.map (·.1) := by
    intro b hb
    obtain ⟨e, he, hf⟩ := List.mem_filterMap.mp hb
    obtain ⟨_, L, hL, hm⟩ := W.fe e he
    rw [hL] at hf
    cases hf
    exact hm
  have same : ∀ {b ob}, b ∉ F.fr.map (·.1) → h.get? b = some ob → h'.get? b = some ob := fun hb e => (hs.2.1 _ fun q => hb (inF q)).trans e
  refine ⟨fun b x e => same (fun q => by rw [(W.new b (inFr q)).1] at e; cases e) (W.keep b x e), W.len, W.nd, W.new, fun p hp => same (fun q => frDisj W q (.inl (List.mem_map_of_mem hp)) rfl) (W.tl p hp), fun p hp => same (fun q => frDisj W q (.inr (.inr (List.mem_map_of_mem hp))) rfl) (W.pr p hp), fun p hp => ?_, fun i x y => ?_, W.fe, fun p hp => ?_⟩
  · obtain ⟨o, es, ep, ho, hd, r⟩ := W.fr p hp
    obtain ⟨sl, hsl⟩ := hs.2.2 _ o ho
    exact ⟨_, es, ep, hsl, hd, r⟩
  · obtain ⟨b, p, q⟩ := W.ob i x y
    exact ⟨b, p, q.keeps fun ob e => same (fun q => frDisj W q (.inr (.inl (List.mem_of_getElem? p))) rfl) e⟩
  · obtain ⟨x, c, ps, z, r⟩ := W.tab p hp
    exact ⟨x, c, ps, same (fun q => (W.new _ (inFr q)).2 p hp rfl) z, r⟩
end

/-- what an exception in flight is, but for its traceback -/
structure Flies (D : Dt) (h : Heap) (G : St) (F : Fx) (e : Addr) (v : V) (vs : Array Value) : Prop where
  ob : ∃ (d : Addr) (sl : Array (Option Value)) (es : Array DictEntry) (n : Nat) (w : Value), h.get? e = some ⟨.ref 71, some d, .fields vs, sl⟩ ∧ (d, dctObj es n) ∈ G.tl ∧ nsFind es (attrOf 6) = some w ∧ StrKeys es ∧ VR G v w
  sz : 1 < vs.size
  out : Out D G F e
/-- its traceback's first entry -/
structure Tb (D : Dt) (h : Heap) (G : St) (F : Fx) (e : Addr) (vs : Array Value) (fl : Value) : Prop where
  t : ∃ T oT ts, vs[1]? = some (.ref T) ∧ T ≠ e ∧ Out D G F T ∧ h.get? T = some oT ∧ oT.data = .fields ts ∧ ts[3]? = some fl
theorem Fly.split {D : Dt} {h : Heap} {G : St} {F : Fx} {f : Option Addr} {e : Addr} {v : V} (x : Fly D h G F f e v) :
    ∃ vs, Flies D h G F e v vs ∧ (vs[1]? = some .none ∨ Tb D h G F e vs .none ∨ ∃ L, f = some L ∧ Tb D h G F e vs (rawInt L)) := by
  obtain ⟨⟨d, vs, sl, es, n, w, h1, h2, h3, h4, h5, h6, h7⟩, n1, n2, n3⟩ := x
  refine ⟨vs, ⟨⟨d, sl, es, n, w, h1, h2, h3, h4, h5⟩, h6, n1, n2, n3⟩, ?_⟩
  rcases h7 with h7 | ⟨T, oT, ts, a1, a2, a3, a4, a5, a6, a7, a8 | ⟨L, a8, a9⟩⟩
  · exact .inl h7
  · exact .inr (.inl ⟨T, oT, ts, a1, a2, ⟨a3, a4, a5⟩, a6, a7, a8⟩)
  · exact .inr (.inr ⟨L, a8, ⟨T, oT, ts, a1, a2, ⟨a3, a4, a5⟩, a6, a7, a9⟩⟩)
theorem Fly.bare {D : Dt} {h : Heap} {G : St} {F : Fx} {f : Option Addr} {e : Addr} {v : V} {vs : Array Value} (x : Flies D h G F e v vs) (t : vs[1]? = some .none) : Fly D h G F f e v := by
  obtain ⟨⟨d, sl, es, n, w, h1, h2, h3, h4, h5⟩, h6, n1, n2, n3⟩ := x
  exact ⟨⟨d, vs, sl, es, n, w, h1, h2, h3, h4, h5, h6, .inl t⟩, n1, n2, n3⟩
theorem Fly.done {D : Dt} {h : Heap} {G : St} {F : Fx} {f : Option Addr} {e : Addr} {v : V} {vs : Array Value} (x : Flies D h G F e v vs) (t : Tb D h G F e vs .none) : Fly D h G F f e v := by
  obtain ⟨⟨d, sl, es, n, w, h1, h2, h3, h4, h5⟩, h6, n1, n2, n3⟩ := x
  obtain ⟨T, oT, ts, a1, a2, ⟨a3, a4, a5⟩, a6, a7, a8⟩ := t
  exact ⟨⟨d, vs, sl, es, n, w, h1, h2, h3, h4, h5, h6, .inr ⟨T, oT, ts, a1, a2, a3, a4, a5, a6, a7, .inl a8⟩⟩, n1, n2, n3⟩
theorem Fly.held {D : Dt} {h : Heap} {G : St} {F : Fx} {L : Addr} {e : Addr} {v : V} {vs : Array Value} (x : Flies D h G F e v vs) (t : Tb D h G F e vs (rawInt L)) : Fly D h G F (some L) e v := by
  obtain ⟨⟨d, sl, es, n, w, h1, h2, h3, h4, h5⟩, h6, n1, n2, n3⟩ := x
  obtain ⟨T, oT, ts, a1, a2, ⟨a3, a4, a5⟩, a6, a7, a8⟩ := t
  exact ⟨⟨d, vs, sl, es, n, w, h1, h2, h3, h4, h5, h6, .inr ⟨T, oT, ts, a1, a2, a3, a4, a5, a6, a7, .inr ⟨L, rfl, a8⟩⟩⟩, n1, n2, n3⟩

section
variable {D : Dt} {A : Around} {G : St} {F : Fx} {s : Shared} {E : Value → Shared → Prop} {Q : Unit → Shared → Prop} {e : Addr} {v : V} {vs : Array Value} {env e0 : Env} {r : List Env} {L : Addr}

theorem frameOf_ok {Q : Value → Shared → Prop} (W : Wd D s.heap G F) (hA : A.frames = some F.fe) (hf : F.fe = e0 :: r) (he : env.frame = e0.frame) (hL : env.frame = some L)
    (h : ∀ h', Wd D h' G F → Heap.SlotsOnly (F.fe.filterMap (·.frame)) s.heap h' → Q (.ref L) { s with heap := h' }) : wpAny (model prog D.w) A (PySem.frameOf env) Q E s := by
  unfold PySem.frameOf
  refine wpAny_bind (wpAny_frameEnvs hA ?_)
  have hdw : (F.fe.dropWhile fun x => x.frame != env.frame) = F.fe := by rw [hf, he]; simp [List.dropWhile]
  rw [hdw]
  unfold frameObject
  rw [hf]
  have W' := W.funFrames
  rw [hf] at W'
  refine wpAny_bind (wpAny_bind (wpAny_readyFrames_fun W' fun h₁ hs₁ => wpAny_pure ?_))
  rw [← he, hL]
  rw [← hf] at hs₁
  exact wpAny_pure (h h₁ (W.slots hs₁) hs₁)

/-- an entry more -/
theorem entry_ok {head : Value} {b : Bool} (W : Wd D s.heap G F) (hA : A.frames = some F.fe) (hf : F.fe = e0 :: r) (he : env.frame = e0.frame) (hL : env.frame = some L) (x : Flies D s.heap G F e v vs)
    (h : ∀ h' vs', Wd D h' G F → Flies D h' G F e v vs' → Tb D h' G F e vs' (rawInt L) → Q () { s with heap := h' }) :
    wpAny (model prog D.w) A (do let a ← PySem.frameOf env; let pl ← entryPlaceOf L b; let b ← EntryCells.newEntry head a .none (rawInt L) .none pl; setField (.ref e) 1 b) Q E s := by
  refine wpAny_bind (frameOf_ok W hA hf he hL fun h₁ W₁ hs₁ => ?_)
  refine wpAny_bind (wpAny_entryPlaceOf fun pl hpl => ?_)
  unfold EntryCells.newEntry newFields
  refine wpAny_bind (wpAny_newObj_type ?_ (hpl.sizeOk5 _ _ _ _ _))
  obtain ⟨⟨d, sl, es, n, w, h1, h2, h3, h4, h5⟩, h6, hout⟩ := x
  have hnf : e ∉ F.fe.filterMap (·.frame) := fun hm => by
    obtain ⟨x, hx, hfr⟩ := List.mem_filterMap.mp hm
    obtain ⟨_, L', hL', hm'⟩ := W.fe x hx
    rw [hL'] at hfr; cases hfr
    exact hout.d (inFr hm')
  have he₁ : h₁.get? e = some ⟨.ref 71, some d, .fields vs, sl⟩ := (hs₁.2.1 e hnf).trans h1
  have W₂ := W₁.push { cls := .type "traceback", dict := none, data := .fields ([head, .ref L, .none, rawInt L, .none] ++ (if pl.isEmpty then List.replicate 6 Value.none else pl)).toArray }
  have he₂ := Heap.get?_push_of_some (h := h₁) { cls := .type "traceback", dict := none, data := .fields ([head, .ref L, .none, rawInt L, .none] ++ (if pl.isEmpty then List.replicate 6 Value.none else pl)).toArray } he₁
  have hTe : h₁.objs.size ≠ e := Nat.ne_of_gt (Heap.lt_size he₁)
  refine wpAny_setField he₂ rfl h6 (h _ (vs.setIfInBounds 1 (.ref h₁.objs.size)) (W₂.out hout fun b ob hb q => (Heap.get?_update_other _ _ (Ne.symm hb)).trans q) ⟨⟨d, sl, es, n, w, ?_, h2, h3, h4, h5⟩, by simpa using h6, hout⟩ ⟨h₁.objs.size, _, _, by simp [h6], hTe, W₁.outNew (Nat.le_refl _), (Heap.get?_update_other _ _ (Ne.symm hTe)).trans (Heap.get?_push_size h₁ rfl), rfl, ?_⟩)
  · exact Heap.get?_update_self (Obj.mapFields (·.setIfInBounds 1 (Value.ref h₁.objs.size))) he₂ rfl
  · first | (simp; done) | (rcases hpl with rfl | ⟨_, _, _, _, _, _, _, rfl⟩ <;> simp)

theorem note_ok (W : Wd D s.heap G F) (hA : A.frames = some F.fe) (hf : F.fe = e0 :: r) (he : env.frame = e0.frame) (hL : env.frame = some L) (x : Fly D s.heap G F env.frame e v)
    (h : ∀ h' vs', Wd D h' G F → Flies D h' G F e v vs' → Tb D h' G F e vs' (rawInt L) → Q () { s with heap := h' }) : wpAny (model prog D.w) A (noteFrame (.ref e) env) Q E s := by
  obtain ⟨vs, x, ht⟩ := x.split
  obtain ⟨d, sl, es, n, w, h1, _⟩ := x.ob
  unfold noteFrame
  simp only [hL]
  rcases ht with ht | ⟨T, oT, ts, a1, a2, a3, a4, a5, a6⟩ | ⟨L', hL', tb⟩
  · refine wpAny_bind (wpAny_field h1 rfl ht ?_)
    rw [if_neg (by decide)]
    exact entry_ok W hA hf he hL x h
  · refine wpAny_bind (wpAny_field h1 rfl a1 ?_)
    rw [if_pos (show (Value.ref T != Value.none) = true from by simp)]
    refine wpAny_bind (wpAny_field a4 a5 a6 ?_)
    rw [if_neg (show ¬ ((Value.none == rawInt L) = true) from by simp [rawInt])]
    refine wpAny_bind (wpAny_setField a4 a5 (Array.getElem?_eq_some_iff.mp a6).1 ?_)
    obtain ⟨⟨d, sl, es, n, w, h1, h2, h3, h4, h5⟩, h6, hout⟩ := x
    refine entry_ok (s := { s with heap := _ }) (W.out a3 fun b ob hb q => (Heap.get?_update_other _ _ (Ne.symm hb)).trans q) hA hf he hL ⟨⟨d, sl, es, n, w, (Heap.get?_update_other _ _ a2).trans h1, h2, h3, h4, h5⟩, h6, hout⟩ h
  · rw [hL] at hL'
    cases hL'
    obtain ⟨T, oT, ts, a1, a2, a3, a4, a5, a6⟩ := id tb
    refine wpAny_bind (wpAny_field h1 rfl a1 ?_)
    rw [if_pos (show (Value.ref T != Value.none) = true from by simp)]
    refine wpAny_bind (wpAny_field a4 a5 a6 ?_)
    rw [if_pos (show (rawInt L == rawInt L) = true from by simp)]
    exact wpAny_pure (h s.heap vs W x tb)

theorem flight_ok {fl : Value} {f : Option Addr} (W : Wd D s.heap G F) (x : Flies D s.heap G F e v vs) (t : Tb D s.heap G F e vs fl)
    (h : ∀ h', Wd D h' G F → Flies D h' G F e v vs → Tb D h' G F e vs (f.elim .none fun f => rawInt f) → Q () { s with heap := h' }) : wpAny (model prog D.w) A (setFlight (.ref e) f) Q E s := by
  obtain ⟨⟨d, sl, es, n, w, h1, h2, h3, h4, h5⟩, h6, hout⟩ := x
  obtain ⟨T, oT, ts, a1, a2, a3, a4, a5, a6⟩ := t
  have hsz : 3 < ts.size := (Array.getElem?_eq_some_iff.mp a6).1
  unfold setFlight
  refine wpAny_bind (wpAny_field h1 rfl a1 ?_)
  rw [if_pos (show (Value.ref T != Value.none) = true from by simp)]
  refine wpAny_setField a4 a5 hsz (h _ (W.out a3 fun b ob hb q => (Heap.get?_update_other _ _ (Ne.symm hb)).trans q) ⟨⟨d, sl, es, n, w, (Heap.get?_update_other _ _ a2).trans h1, h2, h3, h4, h5⟩, h6, hout⟩ ⟨T, _, _, a1, a2, a3, Heap.get?_update_self _ a4 (Obj.isFreed_of_fields (Obj.data_mapFields a5 _)), Obj.data_mapFields a5 _, by simp [hsz]⟩)

/-- leaving a function -/
theorem leave_ok (W : Wd D s.heap G F) (hA : A.frames = some F.fe) (hf : F.fe = e0 :: r) (he : env.frame = e0.frame) (hL : env.frame = some L) (x : Fly D s.heap G F env.frame e v)
    (h : ∀ h', Wd D h' G F → Fly D h' G F none e v → Q () { s with heap := h' }) : wpAny (model prog D.w) A (leaving env (.ref e)) Q E s := by
  unfold leaving
  refine wpAny_bind (note_ok W hA hf he hL x fun h₁ vs' W₁ x₁ t₁ => ?_)
  exact flight_ok (s := { s with heap := h₁ }) W₁ x₁ t₁ fun h₂ W₂ x₂ t₂ => h h₂ W₂ (Fly.done x₂ t₂)

theorem Fly.weak {f : Option Addr} {h : Heap} (x : Fly D h G F none e v) : Fly D h G F f e v := by
  obtain ⟨vs, x, ht⟩ := x.split
  rcases ht with ht | ht | ⟨L, hL, _⟩
  · exact Fly.bare x ht
  · exact Fly.done x ht
  · cases hL
theorem PX.weak {f : Option Addr} {k : KV} (x : PX D F G s f k E) : PX D F G s none k E := fun v s' G' e a b c d m => x v s' G' e a b c d.weak m
theorem Fly.sub {F' : Fx} {f : Option Addr} {h : Heap} (x : Fly D h G F f e v) (hs : ∀ a, a ∈ dom G F' → a ∈ dom G F) : Fly D h G F' f e v := by
  obtain ⟨⟨d, vs, sl, es, n, w, h1, h2, h3, h4, h5, h6, h7⟩, n1, n2, n3⟩ := x
  refine ⟨⟨d, vs, sl, es, n, w, h1, h2, h3, h4, h5, h6, ?_⟩, fun q => n1 (hs _ q), n2, n3⟩
  rcases h7 with h7 | ⟨T, oT, ts, a1, a2, a3, a4⟩
  · exact .inl h7
  · exact .inr ⟨T, oT, ts, a1, a2, fun q => a3 (hs _ q), a4⟩

/-- a loop's own activation: what comes out of it -/
theorem back_ok {k : KV} {A : Around} {F : Fx} (hA : A.frames = some F.fe) (hf : F.fe = e0 :: r) (he : env.frame = e0.frame) (hL : env.frame = some L) (hx : PX D F G s env.frame k E) :
    PX D F G s env.frame k (notedBy (model prog D.w) A env fun e s' => cameBackBy (model prog D.w) A env E e s') := fun v s' G' e a b c d m => by
  unfold notedBy
  refine note_ok b hA hf he hL d fun h₁ vs' W₁ x₁ t₁ => ?_
  unfold cameBackBy
  obtain ⟨d, sl, es, n, w, h1, _⟩ := x₁.ob
  obtain ⟨T, oT, ts, a1, a2, a3, a4, a5, a6⟩ := id t₁
  refine wpAny_bind (wpAny_field h1 rfl a1 ?_)
  rw [if_neg (show ¬ (Value.ref T == Value.none) = true from by simp)]
  refine flight_ok (s := { s' with heap := h₁ }) W₁ x₁ t₁ fun h₂ W₂ x₂ t₂ => ?_
  rw [hL] at t₂
  exact hx v { s' with heap := h₂ } G' e a W₂ c (by rw [hL]; exact Fly.held x₂ t₂) ⟨m.g, m.d, m.o⟩
end
end Mine
open PySem PySem.W PyProof.Rows PySem.Calls PySem.Spec
set_option Elab.async false
set_option maxRecDepth 100000
set_option linter.unusedSimpArgs false
set_option linter.unusedVariables false
namespace Mine

noncomputable abbrev CI := Loc → List Nat → List AO → (IT → List AO → Bool) → KV → Bool
noncomputable def SI (Γ : Ctx) (b : Nat) (e : PySem.Expr) (c : CI) : Prop :=
  ∀ {D : Dt} {A : Around} {env : Env} {s : Shared} {G : St} {F : Fx} {loc : Loc} {cel : List Nat} {k : IT → List AO → Bool} {x : KV} {Q E : Value → Shared → Prop},
    At D Γ b A env s G F loc cel → c loc cel G.σ k x = true →
      (∀ I s' G' a seg, k I G'.σ = true → Wd D s'.heap G' ⟨seg ++ F.pr, F.fr, F.fe⟩ → Le G G' → IR G' I a seg → Same s s' → Q (.ref a) s') → PX D F G s env.frame x E →
        wpAny (model prog D.w) A (eval e env) (fun xv s1 => wpAny (model prog D.w) A (pyIter xv) Q E s1) E s

theorem At.pr {D : Dt} {Γ : Ctx} {b : Nat} {A : Around} {env : Env} {s s' : Shared} {G G' : St} {F : Fx} {loc : Loc} {cel : List Nat} {pr' : List (Addr × Obj)} (h : At D Γ b A env s G F loc cel) (w : Wd D s'.heap G' ⟨pr', F.fr, F.fe⟩) (l : Le G G') : At D Γ b A env s' G' ⟨pr', F.fr, F.fe⟩ loc cel :=
  ⟨⟨h.a.h, h.a.d, h.a.u, h.a.f⟩, h.e, w, let ⟨m, r, x, y⟩ := h.l; ⟨m, r, x, y.mono l⟩, h.c.mono l, h.f⟩
theorem PX.addSeg {D : Dt} {pr seg : List (Addr × Obj)} {fr : List (Addr × (Str → Option Value))} {fe : List Env} {G : St} {s : Shared} {f : Option Addr} {x : KV} {E : Value → Shared → Prop} (h : PX D ⟨pr, fr, fe⟩ G s f x E) : PX D ⟨seg ++ pr, fr, fe⟩ G s f x E :=
  fun v s' G' e a b c d m => h v s' G' e a b.dropSeg c (d.sub fun a ha => by
    unfold dom at ha ⊢
    simp only [List.map_append, List.mem_append] at ha ⊢
    rcases ha with h1 | h2 | h3 | h4
    · exact .inl h1
    · exact .inr (.inl h2)
    · exact .inr (.inr (.inl (.inr h3)))
    · exact .inr (.inr (.inr h4))) m
theorem Fr1.seg {F : Fx} {seg : List (Addr × Obj)} {F2 : Fx} (h : Fr1 ⟨seg ++ F.pr, F.fr, F.fe⟩ F2) : ∃ F3 : Fx, Fr1 F F3 ∧ F2 = ⟨seg ++ F3.pr, F3.fr, F3.fe⟩ := by
  obtain ⟨pr, fr, fe⟩ := F2
  obtain ⟨h1, h2, L, m, m', r, h3, h4⟩ := h
  simp only at h1 h2 h3 h4
  subst h1 h2 h4
  exact ⟨⟨F.pr, (L, m') :: r, F.fe⟩, ⟨rfl, rfl, L, m, m', r, h3, rfl⟩, rfl⟩

section
variable {g : CG} {body : CS} {cel : List Nat} {n : KN} {k x : KV}
noncomputable def fitB (I : IT) (tt : Bool) : Bool := match I with | .C _ => true | .R _ _ => true | _ => tt
noncomputable def lfor (tt : Bool) (g : CG) (body : CS) (cel : List Nat) (n : KN) (k x : KV) : Nat → IT → Loc → List AO → Bool
  | 0, _, _, _ => false
  | f + 1, I, loc, σ => match fitB I tt with
    | true => (match itNext σ I with
      | some o => (match o with
        | some p => g p.1 loc cel σ (fun loc1 σ1 => body loc1 cel σ1 (fun loc2 σ2 => lfor tt g body cel n k x f p.2 loc2 σ2) k x)
        | none => n loc σ)
      | none => false)
    | false => false
end
noncomputable def cfor (fuel : Nat) (tt : Bool) (ci : CI) (g : CG) (body : CS) : CS := fun loc cel σ n k x => ci loc cel σ (fun I σ1 => lfor tt g body cel n k x fuel I loc σ1) x

section
variable {Γ : Ctx} {b : Nat} {p : Pos}
theorem ss_for (fuel : Nat) {tgt iter : PySem.Expr} {bd : List PySem.Stmt} {ci : CI} {g : CG} {body : CS} {tt : Bool} (hi : SI Γ b iter ci) (ht : TG Γ b tgt g) (hb : SSs Γ b bd body) (htt : isTup tgt = tt)
    (hs : ∀ env x, foldedSetIterable iter env x = pure x) : SS Γ b (.For tgt iter bd [] p) (cfor fuel tt ci g body) := fun {D A env s G F loc cel n k x Q E} h hc hn hr hx => by
  refine wpAny_For (hi h hc (fun I s1 G1 a seg c1 w1 l1 r1 m1 => ?_) (hx _ h.fr1)) (hs _)
  obtain ⟨e0, r0, hfe, hfr⟩ := h.f
  obtain ⟨L, hL⟩ : ∃ L, env.frame = some L := by
    obtain ⟨_, L, q, _⟩ := h.w.fe e0 (by rw [hfe]; exact .head _)
    exact ⟨L, hfr.trans q⟩
  refine codeAny_forLoop_any (fun f s' => ∃ G' F' loc' I' seg', lfor tt g body cel n k x f I' loc' G'.σ = true ∧ Fr1 F F' ∧ At D Γ b A env s' G' ⟨seg' ++ F'.pr, F'.fr, F'.fe⟩ loc' cel ∧ Le G G' ∧ Same s s' ∧ IR G' I' a seg')
    ?_ fuel ⟨G1, F, loc, I, seg, c1, h.fr1, h.pr w1 l1, l1, m1, r1⟩
  rintro f s2 ⟨G2, F2, loc2, I2, seg2, c2, f2, a2, l2, m2, r2⟩
  cases f with
  | zero => cases c2
  | succ f =>
    unfold lfor at c2
    split at c2
    · rename_i hfit
      have hfits : fits I2 tgt = true := by rw [← htt] at hfit; exact hfit
      split at c2
      · rename_i o ho
        cases o with
        | some q =>
          obtain ⟨v, I3⟩ := q
          dsimp only at c2
          refine wpAny_mono (it_turn hfits a2.w r2 v I3 ho _ _ fun s3 G3 seg3 w3 e3 w3' l3 r3 v3 m3 => ?_) (fun r s3 hh => by obtain ⟨w, rfl, q⟩ := hh; exact q) fun _ _ q => q
          have a3 : At D Γ b A env s3 G3 ⟨seg3 ++ F2.pr, F2.fr, F2.fe⟩ loc2 cel := At.pr (F := ⟨seg2 ++ F2.pr, F2.fr, F2.fe⟩) a2 w3' l3
          rw [← e3] at c2
          refine ht a3 v3 c2 fun s4 G4 F4 loc4 c4 f4 a4 l4 m4 => ?_
          obtain ⟨F5, f5, rfl⟩ := f4.seg
          have f25 := f2.trans f5
          have l04 := (l2.trans l3).trans l4
          have m04 := (m2.trans m3).trans m4
          refine hb a4 c4 (fun s5 G5 F6 loc5 c5 f6 a5 l5 m5 => ?_) (fun v5 s5 G5 F6 w5 c5 f6 a5 l5 r5 m5 => ?_) ?_
          · obtain ⟨F7, f7, rfl⟩ := f6.seg
            exact ⟨f, Nat.lt_succ_self f, G5, F7, loc5, I3, seg3, c5, f25.trans f7, a5, l04.trans l5, m04.trans m5, r3.mono (l4.trans l5)⟩
          · obtain ⟨F7, f7, rfl⟩ := f6.seg
            exact hr v5 s5 G5 F7 w5 c5 (f25.trans f7) a5.dropSeg (l04.trans l5) r5 (m04.trans m5)
          · intro F6 f6
            obtain ⟨F7, f7, rfl⟩ := f6.seg
            have fx := f25.trans f7
            refine back_ok (e0 := e0) (r := r0) (L := L) ?_ ?_ hfr hL (PX.addSeg (PX.step (hx F7 fx) l04 m04))
            · rw [h.a.f, fx.fe]
            · rw [fx.fe, hfe]
        | none =>
          dsimp only at c2
          refine it_over a2.a.h a2.w r2 ho _ _ fun s3 w3 m3 => ?_
          refine wpAny_execs_nil ?_
          exact hn s3 G2 F2 loc2 c2 f2 ⟨⟨a2.a.h, a2.a.d, a2.a.u, a2.a.f⟩, a2.e, w3, a2.l, a2.c, a2.f⟩ l2 (m2.trans m3)
      · cases c2
    · cases c2

noncomputable def lwhile (t : CT) (body : CS) (cel : List Nat) (n : KN) (k x : KV) : Nat → Loc → List AO → Bool
  | 0, _, _ => false
  | f + 1, loc, σ => t loc cel σ (fun v σ1 => match v with
    | true => body loc cel σ1 (fun loc2 σ2 => lwhile t body cel n k x f loc2 σ2) k x
    | false => n loc σ1) x
noncomputable def cwhile (fuel : Nat) (t : CT) (body : CS) : CS := fun loc cel σ n k x => lwhile t body cel n k x fuel loc σ
theorem ss_while (fuel : Nat) {t : PySem.Expr} {bd : List PySem.Stmt} {ct : CT} {body : CS} (ht : ST Γ b t ct) (hb : SSs Γ b bd body) : SS Γ b (.While t bd [] p) (cwhile fuel ct body) := fun {D A env s G F loc cel n k x Q E} h hc hn hr hx => by
  refine wpAny_While ?_
  obtain ⟨e0, r0, hfe, hfr⟩ := h.f
  obtain ⟨L, hL⟩ : ∃ L, env.frame = some L := by
    obtain ⟨_, L, q, _⟩ := h.w.fe e0 (by rw [hfe]; exact .head _)
    exact ⟨L, hfr.trans q⟩
  refine codeAny_whileLoop (fun f s' => ∃ G' F' loc', lwhile ct body cel n k x f loc' G'.σ = true ∧ Fr1 F F' ∧ At D Γ b A env s' G' F' loc' cel ∧ Le G G' ∧ Same s s') ?_ fuel ⟨G, F, loc, (show lwhile ct body cel n k x fuel loc G.σ = true from hc), h.fr1, h, Le.refl _, Same.refl _⟩
  rintro f s2 ⟨G2, F2, loc2, c2, f2, a2, l2, m2⟩
  cases f with
  | zero => cases c2
  | succ f =>
    unfold lwhile at c2
    refine ht a2 c2 (fun v s3 G3 c3 w3 l3 m3 => ?_) ?_
    · have a3 := a2.step w3 l3
      cases v with
      | true =>
        refine hb a3 c3 (fun s5 G5 F6 loc5 c5 f6 a5 l5 m5 => ?_) (fun v5 s5 G5 F6 w5 c5 f6 a5 l5 r5 m5 => ?_) ?_
        · exact ⟨f, Nat.lt_succ_self f, G5, F6, loc5, c5, f2.trans f6, a5, (l2.trans l3).trans l5, (m2.trans m3).trans m5⟩
        · exact hr v5 s5 G5 F6 w5 c5 (f2.trans f6) a5 ((l2.trans l3).trans l5) r5 ((m2.trans m3).trans m5)
        · intro F7 f7
          have fx := f2.trans f7
          refine back_ok (e0 := e0) (r := r0) (L := L) ?_ ?_ hfr hL (PX.step (hx F7 fx) (l2.trans l3) (m2.trans m3))
          · rw [h.a.f, fx.fe]
          · rw [fx.fe, hfe]
      | false =>
        refine wpAny_execs_nil ?_
        exact hn s3 G3 F2 loc2 c3 f2 a3 (l2.trans l3) (m2.trans m3)
    · refine back_ok (e0 := e0) (r := r0) (L := L) ?_ ?_ hfr hL (PX.step (hx F2 f2) l2 m2)
      · rw [h.a.f, f2.fe]
      · rw [f2.fe, hfe]
end
end Mine
open PySem PySem.W PyProof.Rows PySem.Calls PySem.Spec
set_option Elab.async false
set_option maxRecDepth 100000
set_option linter.unusedSimpArgs false
set_option linter.unusedVariables false
namespace Mine

/-- what a global name means -/
noncomputable def Glb (x : Str) (v : Value) : Prop := ∀ D : Dt, D.mg x = some v ∨ (D.mg x = none ∧ D.mb x = some v)

noncomputable abbrev CF := List V → List AO → KV → KV → Bool
/-- a function of the program -/
structure SF (b : Nat) (f : Addr) (c : CF) : Prop where
  run : ∀ {D : Dt} {A : Around} {s : Shared} {G : St} {F : Fx} {vs : List V} {ws : List Value} {k x : KV} {Q E : Value → Shared → Prop},
    AOK A b F → Wd D s.heap G F → VRs G vs ws → c vs G.σ k x = true → PV D F G s k Q → PX D F G s none x E → wpAny (model prog D.w) A (call (.ref f) ws) Q E s
/-- a callable of the language; it raises nothing -/
noncomputable def SB (fv : Value) (c : CF) : Prop :=
  ∀ {D : Dt} {A : Around} {b : Nat} {s : Shared} {G : St} {F : Fx} {vs : List V} {ws : List Value} {k : KV} {Q E : Value → Shared → Prop},
    AOK A b F → Wd D s.heap G F → VRs G vs ws → c vs G.σ k (fun _ _ => false) = true → PV D F G s k Q → wpAny (model prog D.w) A (call fv ws) Q E s

theorem AOK.down {A : Around} {b k : Nat} {F : Fx} (h : AOK A (b + k) F) : AOK A b F := ⟨h.h, by have := h.d; omega, by have := h.u; omega, h.f⟩
theorem SF.up {b k : Nat} {f : Addr} {c : CF} (h : SF b f c) : SF (b + k) f c := ⟨fun a => h.run a.down⟩

section
variable {Γ : Ctx} {b : Nat} {p q : Pos} {x : Str}

theorem name_glob {D : Dt} {A : Around} {env : Env} {s : Shared} {G : St} {F : Fx} {loc : Loc} {cel : List Nat} {v : Value} {Q E : Value → Shared → Prop} (h : At D Γ b A env s G F loc cel) (hk : Γ.names.lookup x = some .globalImplicit) (hd : (x == ("__debug__" : Str)) = false)
    (hv : Glb x v) (hq : Q v s) : wpAny (model prog D.w) A (eval (.Name x p) env) Q E s := by
  refine Name_function_global h.e.kind ((kindOf_of h.e _).trans hk) ?_ hd
  have hg : s.heap.Ns env.globals D.mg := by rw [h.e.glob]; exact D.g.keeps h.w.keep
  rcases hv D with hv | ⟨h1, h2⟩
  · exact loadGlobal_global hg hv hq
  · exact loadGlobal_builtin hg h1 (by rw [h.e.blt]; exact D.b.keeps h.w.keep) h2 hq

noncomputable def ccall (cs : CEs) (c : CF) : CE := fun loc cel σ k x => cs loc cel σ (fun vs σ1 => c vs σ1 k x) x
/-- a function stands at an address -/
noncomputable def IsFn (f : Addr) : Prop := ∀ D : Dt, ∃ o fd, D.base.get? f = some o ∧ o.data = .func fd

theorem se_call {f : Addr} {e : PySem.Expr} {es : List PySem.Expr} {cs : CEs} {c : CF} (hF : SF b f c) (hv : Glb x (.ref f)) (hf : IsFn f) (hs : SEs Γ b (e :: es) cs) (hk : Γ.names.lookup x = some .globalImplicit) (hd : (x == ("__debug__" : Str)) = false)
    (hst : ∀ env, starEach (e :: es) env = (false, eval e env) :: starEach es env) : SE Γ b (.Call (.Name x q) (e :: es) [] p) (ccall cs c) := fun {D A env s G F loc cel k x' Q E} h hc hq hx => by
  refine Call_Name rfl (name_glob h hk hd hv ?_)
  obtain ⟨o, fd, ho, hfd⟩ := hf D
  refine callWith_def hfd ?_ (hst _)
  refine hs p h hc (fun vs s1 G1 ws c1 w1 l1 r1 m1 => ?_) hx
  exact ⟨w1.keep _ _ ho, hF.run h.a w1 r1 c1 (hq.step l1 m1) (PX.weak (hx.step l1 m1))⟩

theorem se_blt {id : String} {e : PySem.Expr} {es : List PySem.Expr} {cs : CEs} {c : CF} (hF : SB (.builtin id) c) (hv : Glb x (.builtin id)) (hs : SEs Γ b (e :: es) cs) (hk : Γ.names.lookup x = some .globalImplicit) (hd : (x == ("__debug__" : Str)) = false)
    (hst : ∀ env, starEach (e :: es) env = (false, eval e env) :: starEach es env) (hpl : ∀ env, (backTo p (starEach es env)).any (·.1) = false) : SE Γ b (.Call (.Name x q) (e :: es) [] p) (ccall cs (fun vs σ k _ => c vs σ k fun _ _ => false)) := fun {D A env s G F loc cel k x' Q E} h hc hq hx => by
  refine Call_Name rfl (name_glob h hk hd hv ?_)
  refine callWith_builtin1 ?_ (hst _) (hpl _)
  exact hs p h hc (fun vs s1 G1 ws c1 w1 l1 r1 m1 => hF h.a w1 r1 c1 (hq.step l1 m1)) hx
theorem se_typ {T : String} {e : PySem.Expr} {es : List PySem.Expr} {cs : CEs} {c : CF} (hF : SB (.type T) c) (hv : Glb x (.type T)) (hs : SEs Γ b (e :: es) cs) (hk : Γ.names.lookup x = some .globalImplicit) (hd : (x == ("__debug__" : Str)) = false)
    (hst : ∀ env, starEach (e :: es) env = (false, eval e env) :: starEach es env) (hpl : ∀ env, (backTo p (starEach es env)).any (·.1) = false) : SE Γ b (.Call (.Name x q) (e :: es) [] p) (ccall cs (fun vs σ k _ => c vs σ k fun _ _ => false)) := fun {D A env s G F loc cel k x' Q E} h hc hq hx => by
  refine Call_Name rfl (name_glob h hk hd hv ?_)
  refine callWith_type1 ?_ (hst _) (hpl _)
  exact hs p h hc (fun vs s1 G1 ws c1 w1 l1 r1 m1 => hF h.a w1 r1 c1 (hq.step l1 m1)) hx
end

/-! the language's own -/
noncomputable def lenV (σ : List AO) (v : V) : Option Nat := match v with
  | .tup vs => some vs.length
  | .ref k => (match nth σ k with | some (.lst vs) => some vs.length | _ => none)
  | _ => none
noncomputable def b_len : CF := fun vs σ k _ => match vs with
  | [v] => (match lenV σ v with | some n => (match Nat.ble n 100000 with | true => k (.int n) σ | false => false) | none => false)
  | _ => false
theorem sb_len : SB (.builtin "len") b_len := fun {D A b s G F vs ws k Q E} ha hw hr hc hq => by
  unfold b_len at hc
  split at hc
  · cases hr with | cons r rn =>
    cases rn
    split at hc
    · rename_i n hl
      split at hc
      · rename_i hb
        have hb := Nat.le_of_ble_eq_true hb
        unfold lenV at hl
        split at hl
        · cases hl
          cases r with | tup m r =>
          refine P.len_tuple (hw.tl _ m) ?_ ?_
          · rw [List.size_toArray, r.length]; omega
          · rw [List.size_toArray, r.length]
            exact hq _ _ _ _ hc hw (Le.refl _) (.int _ _) ⟨rfl, rfl, rfl⟩
        · split at hl
          · rename_i hn
            cases hl
            rw [nth_eq] at hn
            cases r with | ref m =>
            obtain ⟨a', q, ob⟩ := hw.ob _ _ hn
            rw [m] at q; cases q
            cases ob with | lst hg r =>
            refine call_len_list (items := _) ⟨_, hg, rfl, _, rfl⟩ ?_ ?_
            · rw [List.size_toArray, r.length]; omega
            · rw [List.size_toArray, r.length]
              exact hq _ _ _ _ hc hw (Le.refl _) (.int _ _) ⟨rfl, rfl, rfl⟩
          · cases hl
        · cases hl
      · cases hc
    · cases hc
  · cases hc
noncomputable def b_max : CF := fun vs σ k _ => match vs with
  | [a, c] => (match a with | .int a => (match c with | .int b => k (.int (match Z.ltB a b with | true => b | false => a)) σ | _ => false) | _ => false)
  | _ => false
noncomputable def b_min : CF := fun vs σ k _ => match vs with
  | [a, c] => (match a with | .int a => (match c with | .int b => k (.int (match Z.ltB b a with | true => b | false => a)) σ | _ => false) | _ => false)
  | _ => false
theorem sb_max : SB (.builtin "max") b_max := fun {D A b s G F vs ws k Q E} ha hw hr hc hq => by
  have key : ∀ (a b : Int) (t u : Tok), k (.int (match Z.ltB a b with | true => b | false => a)) G.σ = true → wpAny (model prog D.w) A (call (.builtin "max") [.int a t, .int b u]) Q E s := by
    intro a b t u hk'
    refine max_two_ints ha.h fun h' tk hk => ?_
    refine hq _ { s with heap := h', toks := tk } G _ hk' (hw.grow hk) (Le.refl _) ?_ ⟨rfl, rfl, rfl⟩
    cases e : Z.ltB a b with
    | true => rw [if_pos ((Z.ltB_iff _ _).mp e)]; exact .int _ _
    | false => rw [if_neg fun q => by have := (Z.ltB_iff _ _).mpr q; rw [e] at this; cases this]; exact .int _ _
  unfold b_max at hc
  split at hc
  · split at hc
    · split at hc
      · cases hr with | cons r1 hr =>
        cases hr with | cons r2 hr =>
        cases hr
        cases r1
        cases r2
        exact key _ _ _ _ hc
      · cases hc
    · cases hc
  · cases hc
theorem sb_min : SB (.builtin "min") b_min := fun {D A b s G F vs ws k Q E} ha hw hr hc hq => by
  have key : ∀ (a b : Int) (t u : Tok), k (.int (match Z.ltB b a with | true => b | false => a)) G.σ = true → wpAny (model prog D.w) A (call (.builtin "min") [.int a t, .int b u]) Q E s := by
    intro a b t u hk'
    refine min_two_ints ha.h fun h' tk hk => ?_
    refine hq _ { s with heap := h', toks := tk } G _ hk' (hw.grow hk) (Le.refl _) ?_ ⟨rfl, rfl, rfl⟩
    cases e : Z.ltB b a with
    | true => rw [if_pos ((Z.ltB_iff _ _).mp e)]; exact .int _ _
    | false => rw [if_neg fun q => by have := (Z.ltB_iff _ _).mpr q; rw [e] at this; cases this]; exact .int _ _
  unfold b_min at hc
  split at hc
  · split at hc
    · split at hc
      · cases hr with | cons r1 hr =>
        cases hr with | cons r2 hr =>
        cases hr
        cases r1
        cases r2
        exact key _ _ _ _ hc
      · cases hc
    · cases hc
  · cases hc
noncomputable def b_tuple : CF := fun vs σ k _ => match vs with
  | [v] => (match v with
    | .tup us => k (.tup us) σ
    | .ref j => (match nth σ j with | some (.lst us) => (match Nat.ble us.length 1000 with | true => k (.tup us) σ | false => false) | _ => false)
    | _ => false)
  | _ => false
theorem sb_tuple : SB (.type "tuple") b_tuple := fun {D A b s G F vs ws k Q E} ha hw hr hc hq => by
  unfold b_tuple at hc
  split at hc
  · cases hr with | cons r rn =>
    cases rn
    split at hc
    · cases r with | tup m r =>
      exact call_tuple_tup (items := _) ⟨_, hw.tl _ m, rfl, _, rfl⟩ (hq _ _ _ _ hc hw (Le.refl _) (.tup m r) (Same.refl _))
    · split at hc
      · rename_i hn
        split at hc
        · rename_i hb
          have hb := Nat.le_of_ble_eq_true hb
          rw [nth_eq] at hn
          cases r with | ref m =>
          obtain ⟨a', q, ob⟩ := hw.ob _ _ hn
          rw [m] at q; cases q
          cases ob with | lst hg r =>
          refine call_tuple_list (items := _) ⟨_, hg, rfl, _, rfl⟩ (fun h' hk => ?_) (by rw [List.size_toArray, r.length]; exact Nat.le_trans hb (by decide))
          exact hq (.tup _) _ { G with tl := (h'.objs.size, tupObj _) :: G.tl } _ hc ((hw.grow hk).newT (tupObj _)) (Le.addT _ _) (.tup (.head _) (r.mono (Le.addT _ _))) ⟨rfl, rfl, rfl⟩
        · cases hc
      · cases hc
    · cases hc
  · cases hc
noncomputable def b_list : CF := fun vs σ k _ => match vs with
  | [v] => (match v with
    | .tup us => (match Nat.ble us.length 1000 with | true => k (.ref σ.length) (σ ++ [.lst us]) | false => false)
    | .ref j => (match nth σ j with | some (.lst us) => (match Nat.ble us.length 1000 with | true => k (.ref σ.length) (σ ++ [.lst us]) | false => false) | _ => false)
    | _ => false)
  | _ => false
theorem sb_list : SB (.type "list") b_list := fun {D A b s G F vs ws k Q E} ha hw hr hc hq => by
  have key : ∀ (us : List V) (xs : List Value) (it : Addr) (o : Obj) (T : String) (n : Nat), (T = "list" ∨ T = "tuple") → s.heap.get? it = some o → o.cls = .type T → o.data = .seq xs.toArray n → VRs G us xs → us.length ≤ 1000 →
      k (.ref G.σ.length) (G.σ ++ [.lst us]) = true → wpAny (model prog D.w) A (call (.type "list") [.ref it]) Q E s := by
    intro us xs it o T n hT ho hcl hd r hb hk
    refine call_list_seq it hT ho hcl hd (fun h' c' hkeep hg => ?_) (by rw [List.size_toArray, r.length]; exact Nat.le_trans hb (by decide))
    have L := Le.addS G s.heap.objs.size (.lst us)
    have W := (hw.grow hkeep).addS (hw.freshIn (Nat.le_refl _)) hw.fresh (hw.freshTab (Nat.le_refl _)) (o := .lst us) (.lst hg (r.mono L))
    exact hq (.ref G.σ.length) { s with heap := h' } { G with σ := G.σ ++ [.lst us], μ := G.μ ++ [s.heap.objs.size] } _ hk W L (.ref (by rw [← hw.len]; simp)) ⟨rfl, rfl, rfl⟩
  unfold b_list at hc
  split at hc
  · cases hr with | cons r rn =>
    cases rn
    split at hc
    · split at hc
      · rename_i hb
        have hb := Nat.le_of_ble_eq_true hb
        cases r with | tup m r =>
        exact key _ _ _ _ _ _ (.inr rfl) (hw.tl _ m) rfl rfl r hb hc
      · cases hc
    · split at hc
      · rename_i hn
        split at hc
        · rename_i hb
          have hb := Nat.le_of_ble_eq_true hb
          rw [nth_eq] at hn
          cases r with | ref m =>
          obtain ⟨a', q, ob⟩ := hw.ob _ _ hn
          rw [m] at q; cases q
          cases ob with | lst hg r =>
          exact key _ _ _ _ _ _ (.inl rfl) hg rfl rfl r hb hc
        · cases hc
      · cases hc
    · cases hc
  · cases hc
end Mine
open PySem PySem.W PyProof.Rows PySem.Calls PySem.Spec
set_option Elab.async false
set_option maxRecDepth 100000
set_option linter.unusedSimpArgs false
set_option linter.unusedVariables false
namespace Mine

section
variable {Γ : Ctx} {b : Nat} {p q : Pos} {x : Str}
theorem Wd.push1 {D : Dt} {h : Heap} {G : St} {pr : List (Addr × Obj)} {fr : List (Addr × (Str → Option Value))} {fe : List Env} (W : Wd D h G ⟨pr, fr, fe⟩) (o : Obj) (hf : o.isFreed = false) : Wd D (h.push o) G ⟨(h.objs.size, o) :: pr, fr, fe⟩ :=
  Wd.pushPr (F := ⟨pr, fr, fe⟩) (W.push o) (Heap.get?_push_size h hf) (W.freshIn (Nat.le_refl _)) W.fresh (W.freshTab (Nat.le_refl _))

theorem Wd.permPr {D : Dt} {h : Heap} {G : St} {pr pr' : List (Addr × Obj)} {fr : List (Addr × (Str → Option Value))} {fe : List Env} (W : Wd D h G ⟨pr, fr, fe⟩) (hp : pr'.Perm pr) : Wd D h G ⟨pr', fr, fe⟩ := by
  have hd : (dom G ⟨pr', fr, fe⟩).Perm (dom G ⟨pr, fr, fe⟩) := by
    unfold dom
    exact .append (.refl _) (.append (.refl _) (.append (hp.map _) (.refl _)))
  exact ⟨W.keep, W.len, hd.nodup_iff.mpr W.nd, fun a ha => W.new a (hd.mem_iff.mp ha), W.tl, fun p hm => W.pr p (hp.mem_iff.mp hm), W.fr, W.ob, W.fe, W.tab⟩

noncomputable def ival (c : CE) : CI := fun loc cel σ k x => c loc cel σ (fun v σ1 => match icOf σ1 v with | some I => k (.C I) σ1 | none => false) x
theorem si_val {e : PySem.Expr} {c : CE} (h1 : SE Γ b e c) : SI Γ b e (ival c) := fun {D A env s G F loc cel k x Q E} h hc hq hx => by
  refine h1 h hc (fun v s1 G1 w c1 w1 l1 r1 m1 => ?_) hx
  split at c1
  · rename_i I hI
    obtain ⟨o, hi, ho, hf⟩ := iters_of w1 r1 hI
    refine hi s1.heap (fun _ _ e => e) _ _ _ _ _ _ _ ?_
    exact hq (.C I) ⟨s1.heap.push o, s1.gens, s1.drawn, s1.toks, s1.os⟩ G1 s1.heap.objs.size [(s1.heap.objs.size, o)] c1 (Wd.push1 w1 o hf) l1 (.C ho) ⟨m1.g, m1.d, m1.o⟩
  · cases c1

noncomputable def irng (cs : CEs) : CI := fun loc cel σ k x => cs loc cel σ (fun vs σ1 => match vs with
  | [v] => (match v with | .int n => (match n with | .ofNat m => (match Nat.ble m 1000 with | true => k (.R 0 m) σ1 | false => false) | .negSucc _ => false) | _ => false)
  | _ => false) x
theorem si_rng {e : PySem.Expr} {cs : CEs} (hv : Glb x (.type "range")) (hs : SEs Γ b [e] cs) (hk : Γ.names.lookup x = some .globalImplicit) (hd : (x == ("__debug__" : Str)) = false)
    (hst : ∀ env, starEach [e] env = (false, eval e env) :: starEach [] env) (hpl : ∀ env, (backTo p (starEach [] env)).any (·.1) = false) : SI Γ b (.Call (.Name x q) [e] [] p) (irng cs) := fun {D A env s G F loc cel k x' Q E} h hc hq hx => by
  refine Call_Name rfl (name_glob h hk hd hv ?_)
  refine callWith_type1 ?_ (hst _) (hpl _)
  refine hs p h hc (fun vs s1 G1 ws c1 w1 l1 r1 m1 => ?_) hx
  have key : ∀ (m : Nat) (t : Tok), m ≤ 1000 → k (.R 0 m) G1.σ = true → wpAny (model prog D.w) A (call (.type "range") [.int m t]) (fun xv s1 => wpAny (model prog D.w) A (pyIter xv) Q E s1) E s1 := by
    intro m t hm hk
    refine call_range_1 ?_
    have W := (w1.push { cls := .type "range", data := .fields #[.int 0 s1.toks, .int m t, .int 1 (s1.toks + 1)] })
    refine wpAny_pyIter_range (Heap.get?_push_size _ rfl) ?_ ?_
    · exact small_one (by omega) (by omega) (by omega) (by omega)
    · have e : Builtin.Range.rangeSize 0 m 1 = (m : Int) := by rw [rangeSize_nat]; omega
      rw [e]
      exact hq (.R 0 m) { s1 with heap := _, toks := s1.toks + 1 + 1 } G1 _ [(_, rngObj 0 m 1)] hk (Wd.push1 W (rngObj 0 m 1) rfl) l1 .R ⟨m1.g, m1.d, m1.o⟩
  split at c1
  · split at c1
    · split at c1
      · split at c1
        · rename_i hb
          cases r1 with | cons r rn =>
          cases rn
          cases r
          exact key _ _ (Nat.le_of_ble_eq_true hb) c1
        · cases c1
      · cases c1
    · cases c1
  · cases c1

noncomputable def ienm (cs : CEs) : CI := fun loc cel σ k x => cs loc cel σ (fun vs σ1 => match vs with
  | [v] => (match v with | .ref j => (match nth σ1 j with | some (.lst _) => k (.E j 0) σ1 | _ => false) | _ => false)
  | _ => false) x
theorem si_enm {e : PySem.Expr} {cs : CEs} (hv : Glb x (.type "enumerate")) (hs : SEs Γ b [e] cs) (hk : Γ.names.lookup x = some .globalImplicit) (hd : (x == ("__debug__" : Str)) = false)
    (hst : ∀ env, starEach [e] env = (false, eval e env) :: starEach [] env) (hpl : ∀ env, (backTo p (starEach [] env)).any (·.1) = false) : SI Γ b (.Call (.Name x q) [e] [] p) (ienm cs) := fun {D A env s G F loc cel k x' Q E} h hc hq hx => by
  refine Call_Name rfl (name_glob h hk hd hv ?_)
  refine callWith_type1 ?_ (hst _) (hpl _)
  refine hs p h hc (fun vs s1 G1 ws c1 w1 l1 r1 m1 => ?_) hx
  split at c1
  · split at c1
    · split at c1
      · rename_i hn
        rw [nth_eq] at hn
        cases r1 with | cons r rn =>
        cases rn
        cases r with | ref m =>
        obtain ⟨a', q', ob⟩ := w1.ob _ _ hn
        rw [m] at q'; cases q'
        cases ob with | lst hg r =>
        refine call_enumerate_list (items := _) ⟨_, hg, rfl, _, rfl⟩ fun h' he ⟨o, hi, hic, hid⟩ hz hkeep => ?_
        refine wpAny_pyIter_enum he ?_
        have hb : ∀ {a}, s1.heap.objs.size ≤ a → Out D G1 F a := fun ha => w1.outNew ha
        have W := w1.grow hkeep
        have o1 := hb (Nat.le_refl _)
        have o2 := hb (Nat.le_succ s1.heap.objs.size)
        have W1 := W.pushPr (F := F) hi o1.d o1.b o1.t
        have W2 := Wd.pushPr W1 (a := s1.heap.objs.size + 1) he (fun hm => by
          unfold dom at hm
          simp only [List.map_cons, List.mem_append, List.mem_cons] at hm
          rcases hm with hm | hm | (hm | hm) | hm
          · exact o2.d (by unfold dom; simp only [List.mem_append]; exact .inl hm)
          · exact o2.d (by unfold dom; simp only [List.mem_append]; exact .inr (.inl hm))
          · exact absurd hm (Nat.succ_ne_self _)
          · exact o2.d (by unfold dom; simp only [List.mem_append]; exact .inr (.inr (.inl hm)))
          · exact o2.d (by unfold dom; simp only [List.mem_append]; exact .inr (.inr (.inr hm)))) o2.b o2.t
        exact hq _ { s1 with heap := h' } G1 _ [(s1.heap.objs.size + 1, enmObj s1.heap.objs.size 0 .none), (s1.heap.objs.size, o)] c1 W2 l1 (.E (k := _) (i := 0) (l := 0) (.L m hic hid)) ⟨m1.g, m1.d, m1.o⟩
      · cases c1
    · cases c1
  · cases c1

noncomputable def izip2 (cs : CEs) : CI := fun loc cel σ k x => cs loc cel σ (fun vs σ1 => match vs with
  | [u, v] => (match icOf σ1 u with | some I => (match icOf σ1 v with | some J => k (.Z2 I J) σ1 | none => false) | none => false)
  | _ => false) x
theorem typeCall_zip_3 (a b c : Value) : checkTypeCall "zip" ⟨[a, b, c], []⟩ = pure () := by kernel_rfl
theorem newCall_zip_3 (a b c : Value) : checkBuiltinCall "zip.__new__" ⟨[.type "zip", a, b, c], []⟩ = pure () := by kernel_rfl
theorem args_object_init_4 (a b c d : Value) : argsOk "object.__init__" ⟨[a, b, c, d], []⟩ := by
  unfold argsOk; rw [signature?_of (id := "object.__init__") (n := ['_', '_', 't', 'i', 'n', 'i', '_', '_']) (o := ['t', 'c', 'e', 'j', 'b', 'o']) (by kernel_rfl) PySem.F.owner_object]; kernel_rfl
theorem si_zip2 {e1 e2 : PySem.Expr} {cs : CEs} (hv : Glb x (.type "zip")) (hs : SEs Γ b [e1, e2] cs) (hk : Γ.names.lookup x = some .globalImplicit) (hd : (x == ("__debug__" : Str)) = false)
    (hst : ∀ env, starEach [e1, e2] env = (false, eval e1 env) :: starEach [e2] env) (hpl : ∀ env, (backTo p (starEach [e2] env)).any (·.1) = false) : SI Γ b (.Call (.Name x q) [e1, e2] [] p) (izip2 cs) := fun {D A env s G F loc cel k x' Q E} h hc hq hx => by
  refine Call_Name rfl (name_glob h hk hd hv ?_)
  refine callWith_type1 ?_ (hst _) (hpl _)
  refine hs p h hc (fun vs s1 G1 ws c1 w1 l1 r1 m1 => ?_) hx
  split at c1
  · split at c1
    · rename_i I hI
      split at c1
      · rename_i J hJ
        cases r1 with | cons ra r1 =>
        cases r1 with | cons rb r1 =>
        cases r1
        obtain ⟨o1, i1, q1, f1⟩ := iters_of w1 ra hI
        obtain ⟨o2, i2, q2, f2⟩ := iters_of w1 rb hJ
        refine callType_newIn PySem.F.called_zip (by decide) (PySem.F.typeCall_zip_2 _ _) (PySem.F.newCall_zip_2 _ _) (fun obj => PySem.F.args_object_init_3 obj _ _) PySem.F.entry_zip_new (meets_zip2 D.w _ _ o1 o2) ⟨i1, i2, ⟨_, Heap.get?_push_size _ rfl, rfl⟩, ?_⟩
        have g1 := Wd.push1 w1 o1 f1
        have g2 := Wd.push1 g1 o2 f2
        have g3 := g2.newT (tupObj [.ref s1.heap.objs.size, .ref (s1.heap.push o1).objs.size])
        have g4 := Wd.push1 g3 (tupObj [.none, .none]) rfl
        have g5 := Wd.push1 g4 (zipObj .none ((s1.heap.push o1).push o2).objs.size (((s1.heap.push o1).push o2).push (tupObj [.ref s1.heap.objs.size, .ref (s1.heap.push o1).objs.size])).objs.size) rfl
        refine wpAny_pyIter_zip (g5.pr _ (.head _)) ?_
        have L := Le.addT G1 (((s1.heap.push o1).push o2).objs.size, tupObj [.ref s1.heap.objs.size, .ref (s1.heap.push o1).objs.size])
        refine hq (.Z2 I J) { s1 with heap := _ } { G1 with tl := (((s1.heap.push o1).push o2).objs.size, tupObj [.ref s1.heap.objs.size, .ref (s1.heap.push o1).objs.size]) :: G1.tl } _
          [_, _, (s1.heap.objs.size, o1), ((s1.heap.push o1).objs.size, o2)] c1 (g5.permPr (.cons _ (.cons _ (.swap _ _ _)))) (l1.trans L) (.Z2 (.head _) (q1.mono L) (q2.mono L)) ⟨m1.g, m1.d, m1.o⟩
      · cases c1
    · cases c1
  · cases c1
noncomputable def izip3 (cs : CEs) : CI := fun loc cel σ k x => cs loc cel σ (fun vs σ1 => match vs with
  | [u, v, t] => (match icOf σ1 u with | some I => (match icOf σ1 v with | some J => (match icOf σ1 t with | some K => k (.Z3 I J K) σ1 | none => false) | none => false) | none => false)
  | _ => false) x
theorem si_zip3 {e1 e2 e3 : PySem.Expr} {cs : CEs} (hv : Glb x (.type "zip")) (hs : SEs Γ b [e1, e2, e3] cs) (hk : Γ.names.lookup x = some .globalImplicit) (hd : (x == ("__debug__" : Str)) = false)
    (hst : ∀ env, starEach [e1, e2, e3] env = (false, eval e1 env) :: starEach [e2, e3] env) (hpl : ∀ env, (backTo p (starEach [e2, e3] env)).any (·.1) = false) : SI Γ b (.Call (.Name x q) [e1, e2, e3] [] p) (izip3 cs) := fun {D A env s G F loc cel k x' Q E} h hc hq hx => by
  refine Call_Name rfl (name_glob h hk hd hv ?_)
  refine callWith_type1 ?_ (hst _) (hpl _)
  refine hs p h hc (fun vs s1 G1 ws c1 w1 l1 r1 m1 => ?_) hx
  split at c1
  · split at c1
    · rename_i I hI
      split at c1
      · rename_i J hJ
        split at c1
        rotate_left
        · cases c1
        rename_i K hK
        cases r1 with | cons ra r1 =>
        cases r1 with | cons rb r1 =>
        cases r1 with | cons rc r1 =>
        cases r1
        obtain ⟨o1, i1, q1, f1⟩ := iters_of w1 ra hI
        obtain ⟨o2, i2, q2, f2⟩ := iters_of w1 rb hJ
        obtain ⟨o3, i3, q3, f3⟩ := iters_of w1 rc hK
        refine callType_newIn PySem.F.called_zip (by decide) (typeCall_zip_3 _ _ _) (newCall_zip_3 _ _ _) (fun obj => args_object_init_4 obj _ _ _) PySem.F.entry_zip_new (meets_zip3 D.w _ _ _ o1 o2 o3) ⟨i1, i2, i3, ⟨_, Heap.get?_push_size _ rfl, rfl⟩, ?_⟩
        have g1 := Wd.push1 w1 o1 f1
        have g2 := Wd.push1 g1 o2 f2
        have g2b := Wd.push1 g2 o3 f3
        have g3 := g2b.newT (tupObj [.ref s1.heap.objs.size, .ref (s1.heap.push o1).objs.size, .ref ((s1.heap.push o1).push o2).objs.size])
        have g4 := Wd.push1 g3 (tupObj [.none, .none, .none]) rfl
        have g5 := Wd.push1 g4 (zipObj .none (((s1.heap.push o1).push o2).push o3).objs.size ((((s1.heap.push o1).push o2).push o3).push (tupObj [.ref s1.heap.objs.size, .ref (s1.heap.push o1).objs.size, .ref ((s1.heap.push o1).push o2).objs.size])).objs.size) rfl
        refine wpAny_pyIter_zip (g5.pr _ (.head _)) ?_
        have L := Le.addT G1 ((((s1.heap.push o1).push o2).push o3).objs.size, tupObj [.ref s1.heap.objs.size, .ref (s1.heap.push o1).objs.size, .ref ((s1.heap.push o1).push o2).objs.size])
        refine hq (.Z3 I J K) { s1 with heap := _ } { G1 with tl := ((((s1.heap.push o1).push o2).push o3).objs.size, tupObj [.ref s1.heap.objs.size, .ref (s1.heap.push o1).objs.size, .ref ((s1.heap.push o1).push o2).objs.size]) :: G1.tl } _
          [_, _, (s1.heap.objs.size, o1), ((s1.heap.push o1).objs.size, o2), (((s1.heap.push o1).push o2).objs.size, o3)] c1 (g5.permPr (.cons _ (.cons _ (List.Perm.trans (.cons _ (.swap _ _ _)) (List.Perm.trans (.swap _ _ _) (.cons _ (.swap _ _ _))))))) (l1.trans L) (.Z3 (.head _) (q1.mono L) (q2.mono L) (q3.mono L)) ⟨m1.g, m1.d, m1.o⟩
      · cases c1
    · cases c1
  · cases c1

theorem ir_self {D : Dt} {A : Around} {s : Shared} {G : St} {F : Fx} {I : IT} {a : Addr} {seg : List (Addr × Obj)} {Q E : Value → Shared → Prop} (W : Wd D s.heap G ⟨seg ++ F.pr, F.fr, F.fe⟩) (R : IR G I a seg) (h : Q (.ref a) s) : wpAny (model prog D.w) A (pyIter (.ref a)) Q E s := by
  cases R with
  | C r =>
    have ho := W.pr _ (.head _)
    cases r with
    | L m c d => exact wpAny_pyIter_listiter ⟨_, ho, c, d⟩ h
    | T m q c d => exact wpAny_pyIter_tupleiter ⟨_, ho, c, d⟩ h
  | R => exact wpAny_pyIter_rangeiter (W.pr _ (.head _)) h
  | E r => exact wpAny_pyIter_enum (W.pr _ (.head _)) h
  | Z2 m r q => exact wpAny_pyIter_zip (W.pr _ (.head _)) h
  | Z3 m r q t => exact wpAny_pyIter_zip (W.pr _ (.head _)) h
end
end Mine
open PySem PySem.W PyProof.Rows PySem.Calls PySem.Spec
set_option Elab.async false
set_option maxRecDepth 100000
set_option linter.unusedSimpArgs false
set_option linter.unusedVariables false
namespace Mine

theorem Out.addS {D : Dt} {G : St} {F : Fx} {a b : Addr} {o : AO} (x : Out D G F a) (h : a ≠ b) : Out D { G with σ := G.σ ++ [o], μ := G.μ ++ [b] } F a :=
  ⟨fun hm => by
    unfold dom at hm
    simp only [List.mem_append, List.mem_singleton] at hm
    rcases hm with h1 | (h2 | h2) | h3
    · exact x.d (by unfold dom; simp only [List.mem_append]; exact .inl h1)
    · exact x.d (by unfold dom; simp only [List.mem_append]; exact .inr (.inl h2))
    · exact h h2
    · exact x.d (by unfold dom; simp only [List.mem_append]; exact .inr (.inr h3)), x.b, x.t⟩
theorem Wd.addList {D : Dt} {h : Heap} {F : Fx} : ∀ (as : List Addr) (os : List AO) (G : St), Wd D h G F → as.length = os.length → (∀ a ∈ as, Out D G F a) → as.Nodup → (∀ (i : Nat) (a : Addr) (o : AO), as[i]? = some a → os[i]? = some o → OR G h a o) →
    Wd D h { G with σ := G.σ ++ os, μ := G.μ ++ as } F
  | [], [], G, W, _, _, _, _ => by simpa using W
  | [], _ :: _, _, _, hl, _, _, _ => by simp at hl
  | _ :: _, [], _, _, hl, _, _, _ => by simp at hl
  | a :: as, o :: os, G, W, hl, hf, hn, hO => by
    obtain ⟨h1, h2⟩ := List.nodup_cons.mp hn
    have ha := hf a (.head _)
    have L := Le.addS G a o
    have W1 := W.addS ha.d ha.b ha.t ((hO 0 a o rfl rfl).mono L)
    have := Wd.addList as os _ W1 (by simpa using hl) (fun c hc => (hf c (.tail _ hc)).addS fun e => h1 (e ▸ hc)) h2 (fun i c p hi hp => (hO (i + 1) c p (by simpa using hi) (by simpa using hp)).mono L)
    simpa using this

noncomputable def upto (n : Nat) : List (Option Nat) → List Nat
  | [] => []
  | _ :: r => n :: upto (n + 1) r
theorem upto_get : ∀ (l : List (Option Nat)) (n i k : Nat), (upto n l)[i]? = some k → k = n + i ∧ i < l.length
  | [], _, _, _, h => by simp [upto] at h
  | _ :: r, n, 0, k, h => by simp [upto] at h; exact ⟨h.symm, by simp⟩
  | _ :: r, n, i + 1, k, h => by
    simp only [upto, List.getElem?_cons_succ] at h
    obtain ⟨h1, h2⟩ := upto_get r (n + 1) i k h
    exact ⟨by omega, by simpa using h2⟩
noncomputable def pick (vs : List V) : Option Nat → Option V
  | none => none
  | some j => nth vs j
noncomputable def picks (vs : List V) : List (Option Nat) → Loc
  | [] => []
  | o :: r => pick vs o :: picks vs r
noncomputable def pickc (vs : List V) : List (Option Nat) → List AO
  | [] => []
  | o :: r => .cell (pick vs o) :: pickc vs r
theorem picks_get {vs : List V} : ∀ (l : List (Option Nat)) (i : Nat) (v : V), lget (picks vs l) i = some v → ∃ j, l[i]? = some (some j) ∧ vs[j]? = some v
  | [], i, v, h => by simp [picks, lget] at h
  | o :: r, 0, v, h => by
    simp only [picks, lget] at h
    cases o with
    | none => simp [pick] at h
    | some j => exact ⟨j, rfl, by simpa [pick, nth_eq] using h⟩
  | o :: r, i + 1, v, h => by
    simp only [picks, lget] at h
    obtain ⟨j, h1, h2⟩ := picks_get r i v h
    exact ⟨j, by simpa using h1, h2⟩
theorem pickc_len {vs : List V} : ∀ (l : List (Option Nat)), (pickc vs l).length = l.length
  | [] => rfl
  | _ :: r => by simp [pickc, pickc_len r]
theorem pickc_get {vs : List V} : ∀ (l : List (Option Nat)) (i : Nat) (o : AO), (pickc vs l)[i]? = some o → ∃ q, l[i]? = some q ∧ o = .cell (pick vs q)
  | [], i, v, h => by simp [pickc] at h
  | o :: r, 0, v, h => by simp [pickc] at h; exact ⟨o, rfl, h.symm⟩
  | o :: r, i + 1, v, h => by
    simp only [pickc, List.getElem?_cons_succ] at h
    obtain ⟨j, h1, h2⟩ := pickc_get r i v h
    exact ⟨j, by simpa using h1, h2⟩

theorem cells_some : ∀ (names : List (Str × NameKind)) (n : Nat) (acc : List (Str × Addr)) (x : Str), ((x, NameKind.cell) ∈ names ∨ (acc.lookup x).isSome = true) → ((cellsFrom n names acc).lookup x).isSome = true
  | [], n, acc, x, h => by
    rcases h with h | h
    · cases h
    · exact h
  | (y, k) :: r, n, acc, x, h => by
    unfold cellsFrom
    have keep : (acc.lookup x).isSome = true → (((y, n) :: acc).lookup x).isSome = true := fun q => by
      rw [List.lookup_cons]
      split
      · rfl
      · exact q
    split
    · rename_i hk
      refine cells_some r _ _ x ?_
      rcases h with h | h
      · rcases List.mem_cons.mp h with e | h
        · cases e
          exact .inr (by rw [List.lookup_cons, beq_self_eq_true]; rfl)
        · exact .inl h
      · exact .inr (keep h)
    · rename_i hk
      refine cells_some r _ _ x ?_
      rcases h with h | h
      · rcases List.mem_cons.mp h with e | h
        · cases e
          exact absurd rfl hk
        · exact .inl h
      · exact .inr h

theorem bindL_out (kindOf : Str → Option NameKind) : ∀ (bs : List (Str × Value)) (m : Str → Option Value) (x : Str), x ∉ bs.map (·.1) → bindL kindOf bs m x = m x
  | [], _, _, _ => rfl
  | (n, v) :: r, m, x, h => by
    simp only [List.map_cons, List.mem_cons, not_or] at h
    unfold bindL
    rw [bindL_out kindOf r _ x h.2]
    split
    · simp [h.1]
    · rfl
theorem bindL_in (kindOf : Str → Option NameKind) : ∀ (bs : List (Str × Value)) (m : Str → Option Value) (x : Str) (v : Value), (bs.map (·.1)).Nodup → (x, v) ∈ bs → kindOf x = some .local → bindL kindOf bs m x = some v
  | (n, u) :: r, m, x, v, hn, h, hk => by
    simp only [List.map_cons, List.nodup_cons] at hn
    unfold bindL
    rcases List.mem_cons.mp h with e | h
    · cases e
      rw [bindL_out kindOf r _ _ hn.1, if_pos hk]
      simp
    · exact bindL_in kindOf r _ x v hn.2 h hk
theorem bindC_out (kindOf : Str → Option NameKind) : ∀ (bs : List (Str × Value)) (m : Str → Option Value) (x : Str), x ∉ bs.map (·.1) → bindC kindOf bs m x = m x
  | [], _, _, _ => rfl
  | (n, v) :: r, m, x, h => by
    simp only [List.map_cons, List.mem_cons, not_or] at h
    unfold bindC
    rw [bindC_out kindOf r _ x h.2]
    split
    · rfl
    · simp [h.1]
theorem bindC_in (kindOf : Str → Option NameKind) : ∀ (bs : List (Str × Value)) (m : Str → Option Value) (x : Str) (v : Value), (bs.map (·.1)).Nodup → (x, v) ∈ bs → kindOf x ≠ some .local → bindC kindOf bs m x = some v
  | (n, u) :: r, m, x, v, hn, h, hk => by
    simp only [List.map_cons, List.nodup_cons] at hn
    unfold bindC
    rcases List.mem_cons.mp h with e | h
    · cases e
      rw [bindC_out kindOf r _ _ hn.1, if_neg hk]
      simp
    · exact bindC_in kindOf r _ x v hn.2 h hk

noncomputable def cfun (n : Nat) (li ci : List (Option Nat)) (c : CS) : CF := fun vs σ k x => match Nat.beq vs.length n with
  | true => c (picks vs li) (upto σ.length ci) (σ ++ pickc vs ci) (fun _ σ1 => k .none σ1) k x
  | false => false

/-- how a frame's names stand to the parameters -/
structure Lay (names : List (Str × NameKind)) (ps ls cs : List Str) (li ci : List (Option Nat)) : Prop where
  pn : ps.Nodup
  pk : ∀ x ∈ ps, names.lookup x = some .local ∨ names.lookup x = some .cell
  l : ∀ (i : Nat) (x : Str) (j : Nat), ls[i]? = some x → li[i]? = some (some j) → ps[j]? = some x ∧ names.lookup x = some .local
  cn : cs.Nodup
  cl : cs.length = ci.length
  ck : ∀ x ∈ cs, names.lookup x = some .cell
  c : ∀ (i : Nat) (x : Str) (q : Option Nat), cs[i]? = some x → ci[i]? = some q → match q with | some j => ps[j]? = some x | none => x ∉ ps
noncomputable def laidB (names : List (Str × NameKind)) (ps ls cs : List Str) (li ci : List (Option Nat)) : Bool :=
  decide ps.Nodup && (ps.all fun x => names.lookup x == some .local || names.lookup x == some .cell) && ((ls.zip li).all fun p => match p.2 with | some j => ps[j]? == some p.1 && names.lookup p.1 == some .local | none => true)
    && decide cs.Nodup && Nat.beq cs.length ci.length && (cs.all fun x => names.lookup x == some .cell) && ((cs.zip ci).all fun p => match p.2 with | some j => ps[j]? == some p.1 | none => !ps.contains p.1)
theorem laid_of {names : List (Str × NameKind)} {ps ls cs : List Str} {li ci : List (Option Nat)} (h : laidB names ps ls cs li ci = true) : Lay names ps ls cs li ci := by
  unfold laidB at h
  simp only [Bool.and_eq_true] at h
  obtain ⟨⟨⟨⟨⟨⟨h1, h2⟩, h3⟩, h4⟩, h5⟩, h6⟩, h7⟩ := h
  refine ⟨of_decide_eq_true h1, fun x hx => ?_, fun i x j hi hj => ?_, of_decide_eq_true h4, Nat.eq_of_beq_eq_true h5, fun x hx => ?_, fun i x q hi hq => ?_⟩
  · have := List.all_eq_true.mp h2 x hx
    simp only [Bool.or_eq_true, beq_iff_eq] at this
    exact this
  · have hm : (x, some j) ∈ ls.zip li := List.mem_of_getElem? (i := i) (by rw [List.getElem?_zip_eq_some]; exact ⟨hi, hj⟩)
    have := List.all_eq_true.mp h3 _ hm
    simp only [Bool.and_eq_true, beq_iff_eq] at this
    exact this
  · have := List.all_eq_true.mp h6 x hx
    simpa using this
  · have hm : (x, q) ∈ cs.zip ci := List.mem_of_getElem? (i := i) (by rw [List.getElem?_zip_eq_some]; exact ⟨hi, hq⟩)
    have := List.all_eq_true.mp h7 _ hm
    cases q with
    | none => simpa using this
    | some j => simpa using this
end Mine
open PySem PySem.W PyProof.Rows PySem.Calls PySem.Spec
set_option Elab.async false
set_option maxRecDepth 100000
set_option linter.unusedSimpArgs false
set_option linter.unusedVariables false
namespace Mine

theorem lookup_nodup {cs : List (Str × Addr)} (hp : cs.Pairwise fun x y => x.2 ≠ y.2) {n n' : Str} {c : Addr} (h : cs.lookup n = some c) (h' : cs.lookup n' = some c) : n = n' := name_of_addr hp (mem_of_lookup h) (mem_of_lookup h')

/-- a call of a function, up to its body -/
theorem call_coreC {b : Nat} {f : Addr} {name qual : Str} {params : Arguments} {body : List PySem.Stmt} {names : List (Str × NameKind)} {more : List (Str × PySem.Const)} {dV kV doc pm cdv ct oc : Value} {an od : Option Addr} {osl : Array (Option Value)}
    (ps ls cs : List Str) (li ci : List (Option Nat))
    (hK : ∀ P, (hk P).lookup f = some ⟨oc, od, .func (fnOf name qual params body { kind := .function, names := names, isGenerator := false, isCoroutine := false, more := more } dV kV doc pm an cdv ct), osl⟩)
    (hcd : ∀ P, codeIn (hk P) cdv qual = true)
    (hl : laidB names ps ls cs li ci = true) {D : Dt} {A : Around} {s : Shared} {G : St} {F : Fx} {vs : List V} {ws ws0 : List Value} {R : Result → Shared → Prop}
    (ha : AOK A (b + 1) F) (hw : Wd D s.heap G F) (hr : VRs G vs ws) (hlen : vs.length = ps.length)
    (hb : ∀ (A' : Around) (Q' : List (Str × Value) → Shared → Prop) (E' : Value → Shared → Prop), Q' (ps.zip ws) s → wpAny (model prog D.w) A' (bindArgs (fnOf name qual params body { kind := .function, names := names, isGenerator := false, isCoroutine := false, more := more } dV kV doc pm an cdv ct) ⟨ws0, []⟩) Q' E' s)
    (H : ∀ env s1 as, At D ⟨names, ls, cs, some cdv⟩ b (A.deeper env) env s1 { G with σ := G.σ ++ pickc vs ci, μ := G.μ ++ as } ⟨F.pr, (env.locals, bindL (fun y => names.lookup y) (ps.zip ws) fun _ => none) :: F.fr, env :: F.fe⟩ (picks vs li) (upto G.σ.length ci) →
      Le G { G with σ := G.σ ++ pickc vs ci, μ := G.μ ++ as } → Same s s1 → env.frame = some env.locals → ∀ (Q' : Flow → Shared → Prop) (E' : Value → Shared → Prop), (∀ v s2, R (.ok (.ret v)) s2 → Q' (.ret v) s2) → (∀ s2, R (.ok (.ret .none)) s2 → Q' .next s2) →
      (∀ e s2, wpAny (model prog D.w) (A.deeper env) (leaving env e) (fun _ s3 => R (.error e) s3) (fun e' s3 => R (.error e') s3) s2 → E' e s2) → wpAny (model prog D.w) (A.deeper env) (execs body env) Q' E' s1) :
    codeAny (model prog D.w) A (.call (.ref f) ⟨ws0, []⟩) R s := by
  have hlay := laid_of hl
  have hwl : ws.length = ps.length := by rw [hr.length, hlen]
  have hKb := D.K _ _ (hK D.w.params)
  have hko := hw.keep _ _ hKb
  refine codeAny_call_function (o := _) (fd := fnOf name qual params body { kind := .function, names := names, isGenerator := false, isCoroutine := false, more := more } dV kV doc pm an cdv ct) (body := body) ?_ hko rfl rfl rfl rfl ?_ ?_
  · have := ha.d; show A.depth < 1000; omega
  · have := codeRec_of D.K (hcd D.w.params)
    exact this.keeps hw.keep
  refine hb _ _ _ ?_
  have hz1 : (ps.zip ws).map (·.1) = ps := by rw [List.map_fst_zip]; omega
  have hz : ∀ {j : Nat} {y : Str} {w : Value}, ps[j]? = some y → ws[j]? = some w → (y, w) ∈ ps.zip ws := fun {j y w} h1 h2 => List.mem_of_getElem? (i := j) (by rw [List.getElem?_zip_eq_some]; exact ⟨h1, h2⟩)
  have hcell : ∀ y, names.lookup y = some .cell → ∀ n, ((cellsFrom n names []).lookup y).isSome = true := fun y hy n => cells_some names n [] y (.inl (mem_of_lookup hy))
  refine wpAny_newFunctionEnv_cells rfl (fun y hy => ?_) fun env he s' X => ?_
  · have hy' : y.1 ∈ ps := hz1 ▸ List.mem_map_of_mem hy
    rcases hlay.pk _ hy' with h1 | h1
    · exact .inl h1
    · exact .inr ⟨h1, hcell _ h1 _⟩
  have keep := X.toInCall.keep
  refine ⟨D.nl.keeps fun b o e => keep b o (hw.keep b o e), codeAny_func ?_⟩
  obtain ⟨h', tk, es⟩ := X.toInCall.same
  have hnames : env.scope.names = names := by rw [he]; rfl
  have hkind : env.kindOf = fun y => names.lookup y := by funext y; unfold Env.kindOf; rw [hnames]
  rw [hkind] at X
  have hfr : env.frame = some env.locals := by rw [he]; rfl
  have hW := hw.grow keep
  have hL := hw.outNew X.toInCall.fresh
  have W1 := hW.pushFr (F := F) X.toInCall.ns hL.d hL.b hL.t
  have W2 : Wd D s'.heap G ⟨F.pr, (env.locals, bindL (fun y => names.lookup y) (ps.zip ws) fun _ => none) :: F.fr, env :: F.fe⟩ :=
    Wd.feCons W1 (by rw [he]; exact fun q => by cases q) hfr (by simp)
  -- the cells
  have hA : ∀ y ∈ cs, ∃ a, env.cells.lookup y = some a := fun y hy => by
    have := hcell y (hlay.ck y hy) (s.heap.objs.size + 1)
    have e : env.cells = cellsFrom (s.heap.objs.size + 1) names [] := by rw [he]; rfl
    rw [e]
    exact Option.isSome_iff_exists.mp this
  have hex : ∃ as : List Addr, as.length = cs.length ∧ ∀ (i : Nat) (y : Str) (a : Addr), cs[i]? = some y → as[i]? = some a → env.cells.lookup y = some a := by
    refine ⟨cs.map fun y => (env.cells.lookup y).getD 0, by simp, fun i y a hy ha => ?_⟩
    obtain ⟨a', h1⟩ := hA y (List.mem_of_getElem? hy)
    rw [List.getElem?_map, hy, Option.map_some, h1] at ha
    simp at ha
    rw [h1, ha]
  obtain ⟨as, hal, has⟩ := hex
  have hci : as.length = (pickc vs ci).length := by rw [hal, pickc_len, hlay.cl]
  have hget : ∀ {i : Nat} {a : Addr}, as[i]? = some a → ∃ y, cs[i]? = some y ∧ env.cells.lookup y = some a := fun {i a} h => by
    have hi : i < cs.length := by rw [← hal]; exact (List.getElem?_eq_some_iff.mp h).1
    exact ⟨cs[i], List.getElem?_eq_getElem hi, has i _ a (List.getElem?_eq_getElem hi) h⟩
  have habove : ∀ a ∈ as, env.locals < a := fun a hm => by
    obtain ⟨i, hi⟩ := List.mem_iff_getElem?.mp hm
    obtain ⟨y, _, hy⟩ := hget hi
    exact X.above _ _ (mem_of_lookup hy)
  have W3 := Wd.addList as (pickc vs ci) G W2 hci (fun a hm => by
      have hlt := habove a hm
      have o := hw.outNew (a := a) (Nat.le_trans X.toInCall.fresh (Nat.le_of_lt hlt))
      refine ⟨fun hm => ?_, o.b, o.t⟩
      unfold dom at hm
      simp only [List.map_cons, List.mem_append, List.mem_cons] at hm
      rcases hm with h1 | h2 | h3 | h4 | h5
      · exact o.d (by unfold dom; simp only [List.mem_append]; exact .inl h1)
      · exact o.d (by unfold dom; simp only [List.mem_append]; exact .inr (.inl h2))
      · exact o.d (by unfold dom; simp only [List.mem_append]; exact .inr (.inr (.inl h3)))
      · exact Nat.ne_of_gt hlt h4
      · exact o.d (by unfold dom; simp only [List.mem_append]; exact .inr (.inr (.inr h5))))
    (by
      rw [List.nodup_iff_pairwise_ne, List.pairwise_iff_getElem]
      intro i j hi hj hij e
      obtain ⟨y, h1, h2⟩ := hget (List.getElem?_eq_getElem hi)
      obtain ⟨z, h3, h4⟩ := hget (List.getElem?_eq_getElem hj)
      rw [e] at h2
      have := lookup_nodup X.apart h2 h4
      subst this
      obtain ⟨l1, e1⟩ := List.getElem?_eq_some_iff.mp h1
      obtain ⟨l2, e2⟩ := List.getElem?_eq_some_iff.mp h3
      have := (List.getElem_inj hlay.cn).mp (e1.trans e2.symm)
      omega)
    (fun i a o hi ho => by
      obtain ⟨y, h1, h2⟩ := hget hi
      obtain ⟨q, h3, rfl⟩ := pickc_get ci i o ho
      have hcl := X.cell y a h2
      have hcc := hlay.c i y q h1 h3
      cases q with
      | none =>
        have hcc : y ∉ ps := hcc
        rw [bindC_out _ _ _ _ (by rw [hz1]; exact hcc)] at hcl
        exact .cell0 hcl
      | some j =>
        have hcc : ps[j]? = some y := hcc
        have hj : j < vs.length := by rw [hlen]; exact (List.getElem?_eq_some_iff.mp hcc).1
        obtain ⟨w, hw1, hw2⟩ := hr.get (List.getElem?_eq_getElem hj)
        rw [bindC_in _ _ _ _ _ (by rw [hz1]; exact hlay.pn) (hz hcc hw1) (by rw [hlay.ck y (List.mem_of_getElem? h1)]; decide)] at hcl
        have : pick vs (some j) = some vs[j] := by simp only [pick, nth_eq]; exact List.getElem?_eq_getElem hj
        rw [this]
        exact .cell hcl hw2)
  have L3 : Le G { G with σ := G.σ ++ pickc vs ci, μ := G.μ ++ as } := ⟨fun _ h => h, as, rfl⟩
  have m3 : Same s s' := by subst es; exact ⟨rfl, rfl, rfl⟩
  have hat : At D ⟨names, ls, cs, some cdv⟩ b (A.deeper env) env s' { G with σ := G.σ ++ pickc vs ci, μ := G.μ ++ as } ⟨F.pr, (env.locals, bindL (fun y => names.lookup y) (ps.zip ws) fun _ => none) :: F.fr, env :: F.fe⟩ (picks vs li) (upto G.σ.length ci) := by
    refine ⟨⟨ha.h, ?_, ?_, ?_⟩, ⟨hnames, by rw [he]; rfl, by rw [he]; rfl, by rw [he]; rfl, fun c hc => by cases hc; rw [he]; rfl⟩, W3, ⟨_, _, rfl, ?_⟩, ?_, ⟨env, F.fe, rfl, rfl⟩⟩
    · show A.depth + 1 + 10 * b ≤ 900
      have := ha.d; omega
    · show A.units + 3 + 20 * b ≤ 9000
      have := ha.u; omega
    · exact Around.frames_deeper ha.f
    · intro i y v hy hv
      obtain ⟨j, h1, h2⟩ := picks_get li i v hv
      obtain ⟨h3, h4⟩ := hlay.l i y j hy h1
      obtain ⟨w, hw1, hw2⟩ := hr.get h2
      exact ⟨w, bindL_in _ _ _ _ _ (by rw [hz1]; exact hlay.pn) (hz h3 hw1) h4, hw2.mono L3⟩
    · intro i y q hy hq
      obtain ⟨rfl, hi⟩ := upto_get ci _ _ _ hq
      have hi' : i < as.length := by rw [hci, pickc_len]; exact hi
      refine ⟨as[i], has i y _ hy (List.getElem?_eq_getElem hi'), ?_⟩
      show (G.μ ++ as)[G.σ.length + i]? = _
      rw [List.getElem?_append_right (by rw [hw.len]; omega), hw.len]
      simp [hi']
  refine H env s' as hat L3 m3 hfr _ _ (fun v s2 q => q) (fun s2 q => q) fun e s2 q => ?_
  exact q

theorem call_core {b : Nat} {f : Addr} {name qual : Str} {params : Arguments} {body : List PySem.Stmt} {names : List (Str × NameKind)} {more : List (Str × PySem.Const)} {dV kV doc pm cdv ct oc : Value} {an od : Option Addr} {osl : Array (Option Value)}
    (ps ls cs : List Str) (li ci : List (Option Nat))
    (hK : ∀ P, (hk P).lookup f = some ⟨oc, od, .func (fnOf name qual params body { kind := .function, names := names, isGenerator := false, isCoroutine := false, more := more } dV kV doc pm an cdv ct), osl⟩)
    (hcd : ∀ P, codeIn (hk P) cdv qual = true)
    (hl : laidB names ps ls cs li ci = true) {D : Dt} {A : Around} {s : Shared} {G : St} {F : Fx} {vs : List V} {ws ws0 : List Value} {Q E : Value → Shared → Prop}
    (ha : AOK A (b + 1) F) (hw : Wd D s.heap G F) (hr : VRs G vs ws) (hlen : vs.length = ps.length)
    (hb : bindArgs (fnOf name qual params body { kind := .function, names := names, isGenerator := false, isCoroutine := false, more := more } dV kV doc pm an cdv ct) ⟨ws0, []⟩ = pure (ps.zip ws))
    (H : ∀ env s1 as, At D ⟨names, ls, cs, some cdv⟩ b (A.deeper env) env s1 { G with σ := G.σ ++ pickc vs ci, μ := G.μ ++ as } ⟨F.pr, (env.locals, bindL (fun y => names.lookup y) (ps.zip ws) fun _ => none) :: F.fr, env :: F.fe⟩ (picks vs li) (upto G.σ.length ci) →
      Le G { G with σ := G.σ ++ pickc vs ci, μ := G.μ ++ as } → Same s s1 → env.frame = some env.locals → ∀ (Q' : Flow → Shared → Prop) (E' : Value → Shared → Prop), (∀ v s2, Q v s2 → Q' (.ret v) s2) → (∀ s2, Q .none s2 → Q' .next s2) →
      (∀ e s2, wpAny (model prog D.w) (A.deeper env) (leaving env e) (fun _ s3 => E e s3) E s2 → E' e s2) → wpAny (model prog D.w) (A.deeper env) (execs body env) Q' E' s1) :
    wpAny (model prog D.w) A (call (.ref f) ws0) Q E s :=
  wpAny_call (call_coreC ps ls cs li ci hK hcd hl ha hw hr hlen (fun _ _ _ q => by rw [hb]; exact wpAny_pure q) H)

theorem sf_introC {b : Nat} {f : Addr} {name qual : Str} {params : Arguments} {body : List PySem.Stmt} {names : List (Str × NameKind)} {more : List (Str × PySem.Const)} {dV kV doc pm cdv ct oc : Value} {an od : Option Addr} {osl : Array (Option Value)}
    (ps ls cs : List Str) (li ci : List (Option Nat)) {c : CS}
    (hK : ∀ P, (hk P).lookup f = some ⟨oc, od, .func (fnOf name qual params body { kind := .function, names := names, isGenerator := false, isCoroutine := false, more := more } dV kV doc pm an cdv ct), osl⟩)
    (hcd : ∀ P, codeIn (hk P) cdv qual = true)
    (hb : ∀ ws : List Value, ws.length = ps.length → ∀ {w : World} {s : Shared} (A' : Around) (Q' : List (Str × Value) → Shared → Prop) (E' : Value → Shared → Prop), (hk w.params).In s.heap → Q' (ps.zip ws) s → wpAny (model prog w) A' (bindArgs (fnOf name qual params body { kind := .function, names := names, isGenerator := false, isCoroutine := false, more := more } dV kV doc pm an cdv ct) ⟨ws, []⟩) Q' E' s)
    (hl : laidB names ps ls cs li ci = true) (hbody : SSs ⟨names, ls, cs, some cdv⟩ b body c) : SF (b + 1) f (cfun ps.length li ci c) := ⟨fun {D A s G F vs ws k x Q E} ha hw hr hc hq hx => by
  unfold cfun at hc
  split at hc
  case h_2 => cases hc
  rename_i hlen
  have hlen := Nat.eq_of_beq_eq_true hlen
  refine wpAny_call (call_coreC ps ls cs li ci hK hcd hl ha hw hr hlen (fun A' Q' E' q => hb ws (by rw [hr.length, hlen]) A' Q' E' (fun a o e => hw.keep a o (D.K a o e)) q) fun env s' as hat L3 m3 hfr Q' E' q1 q2 q3 => ?_)
  refine hbody hat hc ?_ ?_ ?_
  · intro s2 G2 F2 loc2 c2 f2 a2 l2 m2
    obtain ⟨pr2, fr2, fe2⟩ := F2
    obtain ⟨e1, e2, L', m', m'', r', e3, e4⟩ := f2
    simp only at e1 e2 e3 e4
    subst e1 e2 e4
    cases e3
    exact q2 _ (hq .none s2 G2 .none c2 (Wd.popFr a2.w fun e he => hw.fe e he) (L3.trans l2) .none (m3.trans m2))
  · intro v s2 G2 F2 w c2 f2 a2 l2 r2 m2
    obtain ⟨pr2, fr2, fe2⟩ := F2
    obtain ⟨e1, e2, L', m', m'', r', e3, e4⟩ := f2
    simp only at e1 e2 e3 e4
    subst e1 e2 e4
    cases e3
    exact q1 _ _ (hq v s2 G2 w c2 (Wd.popFr a2 fun e he => hw.fe e he) (L3.trans l2) r2 (m3.trans m2))
  · intro F2 f2 v s2 G2 e c2 W l2 fl m2
    obtain ⟨pr2, fr2, fe2⟩ := F2
    obtain ⟨e1, e2, L', m', m'', r', e3, e4⟩ := f2
    simp only at e1 e2 e3 e4
    subst e1 e2 e4
    cases e3
    refine q3 _ _ (leave_ok (e0 := env) (r := F.fe) (A := A.deeper env) W (Around.frames_deeper ha.f) rfl rfl hfr fl fun h9 W9 fl9 => ?_)
    refine hx v { s2 with heap := h9 } G2 e c2 (Wd.popFr W9 fun e he => hw.fe e he) (L3.trans l2) (fl9.sub fun a ha => ?_) ⟨(m3.trans m2).g, (m3.trans m2).d, (m3.trans m2).o⟩
    unfold dom at ha ⊢
    simp only [List.map_cons, List.mem_append, List.mem_cons] at ha ⊢
    rcases ha with h1 | h2 | h3 | h4
    · exact .inl h1
    · exact .inr (.inl h2)
    · exact .inr (.inr (.inl h3))
    · exact .inr (.inr (.inr (.inr h4)))⟩
theorem sf_intro {b : Nat} {f : Addr} {name qual : Str} {params : Arguments} {body : List PySem.Stmt} {names : List (Str × NameKind)} {more : List (Str × PySem.Const)} {dV kV doc pm cdv ct oc : Value} {an od : Option Addr} {osl : Array (Option Value)}
    (ps ls cs : List Str) (li ci : List (Option Nat)) {c : CS}
    (hK : ∀ P, (hk P).lookup f = some ⟨oc, od, .func (fnOf name qual params body { kind := .function, names := names, isGenerator := false, isCoroutine := false, more := more } dV kV doc pm an cdv ct), osl⟩)
    (hcd : ∀ P, codeIn (hk P) cdv qual = true)
    (hb : ∀ ws : List Value, ws.length = ps.length → bindArgs (fnOf name qual params body { kind := .function, names := names, isGenerator := false, isCoroutine := false, more := more } dV kV doc pm an cdv ct) ⟨ws, []⟩ = pure (ps.zip ws))
    (hl : laidB names ps ls cs li ci = true) (hbody : SSs ⟨names, ls, cs, some cdv⟩ b body c) : SF (b + 1) f (cfun ps.length li ci c) :=
  sf_introC ps ls cs li ci hK hcd (fun ws h {w s} A' Q' E' _ q => by rw [hb ws h]; exact wpAny_pure q) hl hbody
end Mine
open PySem PySem.W PyProof.Rows PySem.Calls PySem.Spec
set_option Elab.async false
set_option maxRecDepth 100000
set_option linter.unusedSimpArgs false
set_option linter.unusedVariables false
namespace Mine

noncomputable abbrev dead : KV := fun _ _ => false
noncomputable abbrev CB := Nat → Loc → List Nat → List AO → KN → Bool

theorem append_ok {D : Dt} {A : Around} {s : Shared} {l : Addr} {ws : List Value} {n : Nat} {x : Value} {Q E : Value → Shared → Prop} (ho : s.heap.get? l = some (lstObj ws n))
    (hQ : ∀ h' n', h'.get? l = some (lstObj (ws ++ [x]) n') → Heap.SameBut l s.heap h' → Q .none { s with heap := h' }) (hsz : ws.length ≤ 1000) : wpAny (model prog D.w) A (call (.builtin "list.append") [.ref l, x]) Q E s := by
  refine wpAny_call_entry slot_list_append (T := "list") ⟨_, ho, rfl⟩ entry_list_append ?_ (args_list_append _ _)
  show wpAny _ _ (updateSeq l (·.push x) >>= fun _ => ret .none) _ _ s
  refine wpAny_bind ?_
  have key : ∃ n', Obj.mapSeq (·.push x) (lstObj ws n) = lstObj (ws ++ [x]) n' := by
    unfold Obj.mapSeq
    simp only [List.push_toArray]
    exact ⟨_, rfl⟩
  obtain ⟨n', hk⟩ := key
  refine wpAny_updateSeq ho rfl (wpAny_pure ⟨.none, rfl, hQ _ n' ?_ (Heap.SameBut.update ..)⟩) (by rw [List.size_toArray]; exact Nat.le_trans hsz (by decide)) (by rw [Array.size_push, List.size_toArray]; exact Nat.le_trans (Nat.succ_le_succ hsz) (by decide))
  rw [Heap.get?_update_self _ ho rfl, hk]

section
variable {tt : Bool} {g : CG} {ct : CT} {body : CB} {acc : Nat} {cel : List Nat} {n : KN}
noncomputable def lcomp (tt : Bool) (g : CG) (ct : CT) (body : CB) (acc : Nat) (cel : List Nat) (n : KN) : Nat → IT → Loc → List AO → Bool
  | 0, _, _, _ => false
  | f + 1, I, loc, σ => match fitB I tt with
    | true => (match itNext σ I with
      | some o => (match o with
        | some p => g p.1 loc cel σ (fun loc1 σ1 => ct loc1 cel σ1 (fun t σ2 => match t with
          | true => body acc loc1 cel σ2 (fun loc2 σ3 => lcomp tt g ct body acc cel n f p.2 loc2 σ3)
          | false => lcomp tt g ct body acc cel n f p.2 loc1 σ2) dead)
        | none => n loc σ)
      | none => false)
    | false => false
end

noncomputable def TurnEq (e : PySem.Expr) (d : Nat) (tgt : PySem.Expr) (ip : Pos) (ifs : List PySem.Expr) (B : Env → Value → Sem Fin → Sem Fin) : Prop := ∀ it acc env, compTurn e d it acc env = (do
      standAt ip
      match ← pyNext it with
      | none => pure (.done .next)
      | some v =>
        letOwnedTupleGo tgt it v
        assign tgt env v
        let mut ok := true
        for c in ifs do
          if ok then ok ← isTrue c env (eval c env)
        if ok then (B env acc (again (.compLoop e d it acc env)))
        else again (.compLoop e d it acc env))
/-- the body of a comprehension -/
noncomputable def SCB (Γ : Ctx) (b : Nat) (B : Env → Value → Sem Fin → Sem Fin) (c : CB) : Prop :=
  ∀ {D : Dt} {A : Around} {env : Env} {s : Shared} {G : St} {F : Fx} {loc : Loc} {cel : List Nat} {acc : Nat} {a : Addr} {n : KN} {j : Sem Fin} {Q : Fin → Shared → Prop} {E : Value → Shared → Prop},
    At D Γ b A env s G F loc cel → G.μ[acc]? = some a → c acc loc cel G.σ n = true → PN D Γ b A env cel F G s n (fun s' => wpAny (model prog D.w) A j Q E s') → wpAny (model prog D.w) A (B env (.ref a) j) Q E s
noncomputable def SIfs (Γ : Ctx) (b : Nat) (ifs : List PySem.Expr) (c : CT) : Prop :=
  ∀ {D : Dt} {A : Around} {env : Env} {s : Shared} {G : St} {F : Fx} {loc : Loc} {cel : List Nat} {k : Bool → List AO → Bool} {Q : Bool → Shared → Prop} {E : Value → Shared → Prop},
    At D Γ b A env s G F loc cel → c loc cel G.σ k dead = true → (∀ v s' G', k v G'.σ = true → Wd D s'.heap G' F → Le G G' → Same s s' → Q v s') →
      wpAny (model prog D.w) A (forIn ifs true fun c r => if r = true then do let ok ← isTrue c env (eval c env); pure (ForInStep.yield ok) else pure (ForInStep.yield r)) Q E s

section
variable {Γ : Ctx} {b : Nat}
theorem px_dead {D : Dt} {F : Fx} {G : St} {s : Shared} {f : Option Addr} {E : Value → Shared → Prop} : PX D F G s f dead E := fun _ _ _ _ h => by cases h
noncomputable def tyes : CT := fun _ _ σ k _ => k true σ
theorem sif_nil : SIfs Γ b [] tyes := fun h hc hk => wpAny_tests_nil (hk true _ _ hc h.w (Le.refl _) (Same.refl _))
theorem sif_one {e : PySem.Expr} {c : CT} (h1 : ST Γ b e c) : SIfs Γ b [e] c := fun h hc hk => wpAny_tests_one (h1 h hc hk px_dead)

noncomputable def cemit (c : CE) : CB := fun acc loc cel σ n => c loc cel σ (fun v σ1 => match nth σ1 acc with
  | some o => (match o with | .lst vs => (match Nat.ble vs.length 1000 with | true => n loc (σ1.set acc (.lst (vs ++ [v]))) | false => false) | _ => false)
  | none => false) dead
theorem scb_emit {elt : PySem.Expr} {c : CE} (h1 : SE Γ b elt c) : SCB Γ b (fun env acc j => (do let _ ← call (.builtin "list.append") [acc, ← eval elt env]) >>= fun _ => j) (cemit c) := fun {D A env s G F loc cel acc a n j Q E} h hm hc hn => by
  refine wpAny_bind (wpAny_bind (h1 h hc (fun v s1 G1 w c1 w1 l1 r1 m1 => ?_) px_dead))
  split at c1
  · rename_i o ho
    split at c1
    · split at c1
      · rename_i vs hb
        have hb := Nat.le_of_ble_eq_true hb
        rw [nth_eq] at ho
        obtain ⟨a', q, ob⟩ := w1.ob _ _ ho
        rw [l1.get hm] at q; cases q
        cases ob with | lst hg r =>
        refine wpAny_bind (append_ok hg (fun h' n' hg' hs => wpAny_pure ?_) (by rw [r.length]; exact hb))
        have W := w1.updS (l1.get hm) hs (.lst hg' (r.append (.cons r1 .nil)))
        exact hn { s1 with heap := h' } { G1 with σ := G1.σ.set acc (.lst (_ ++ [v])) } F loc c1 h.fr1 (h.step W (l1.trans (Le.setS G1 _))) (l1.trans (Le.setS G1 _)) ⟨m1.g, m1.d, m1.o⟩
      · cases c1
    · cases c1
  · cases c1

theorem comp_loop {elt : PySem.Expr} {gens : List Comprehension} {scope : Scope} {pos ip : Pos} {d : Nat} {tgt : PySem.Expr} {ifs : List PySem.Expr} {B : Env → Value → Sem Fin → Sem Fin} {g : CG} {ct : CT} {cb : CB} {tt : Bool}
    (hT : TurnEq (.ListComp elt gens scope pos) d tgt ip ifs B) (ht : TG Γ b tgt g) (hi : SIfs Γ b ifs ct) (hB : SCB Γ b B cb) (htt : isTup tgt = tt)
    {D : Dt} {A : Around} {env : Env} {s : Shared} {G : St} {F : Fx} {loc : Loc} {cel : List Nat} {acc : Nat} {a aa : Addr} {n : KN} {I : IT} {seg : List (Addr × Obj)} {fuel : Nat} {R : Result → Shared → Prop}
    (h : At D Γ b A env s G F loc cel) (hw : Wd D s.heap G ⟨seg ++ F.pr, F.fr, F.fe⟩) (hir : IR G I a seg) (hm : G.μ[acc]? = some aa) (hc : lcomp tt g ct cb acc cel n fuel I loc G.σ = true) (hn : PN D Γ b A env cel F G s n (R (.ok .next))) :
    codeAny (model prog D.w) A (.compLoop (.ListComp elt gens scope pos) d (.ref a) (.ref aa) env) R s := by
  refine codeAny_loop rfl (fun f s' => ∃ G' F' loc' I' seg', lcomp tt g ct cb acc cel n f I' loc' G'.σ = true ∧ Fr1 F F' ∧ At D Γ b A env s' G' ⟨seg' ++ F'.pr, F'.fr, F'.fe⟩ loc' cel ∧ Le G G' ∧ Same s s' ∧ IR G' I' a seg')
    ?_ fuel ⟨G, F, loc, I, seg, hc, h.fr1, h.pr hw (Le.refl _), Le.refl _, Same.refl _, hir⟩
  rintro f s2 ⟨G2, F2, loc2, I2, seg2, c2, f2, a2, l2, m2, r2⟩
  show wpAny _ A ((compTurn (.ListComp elt gens scope pos) d (.ref a) (.ref aa) env).onRaise (fun x => do noteFrame x env; theTreesLotGoes x)) _ _ s2
  refine wpAny_noted ?_
  rw [hT]
  cases f with
  | zero => cases c2
  | succ f =>
    unfold lcomp at c2
    split at c2
    · rename_i hfit
      have hfits : fits I2 tgt = true := by rw [← htt] at hfit; exact hfit
      split at c2
      · rename_i o ho
        cases o with
        | some q =>
          obtain ⟨v, I3⟩ := q
          dsimp only at c2
          refine wpAny_bind (wpAny_standAt (wpAny_bind (wpAny_mono (it_turn hfits a2.w r2 v I3 ho _ _ fun s3 G3 seg3 w3 e3 w3' l3 r3 v3 m3 => ?_) (fun r s3 hh => by
            obtain ⟨w, rfl, q⟩ := hh
            exact wpAny_bind q) fun _ _ q => q)))
          have a3 : At D Γ b A env s3 G3 ⟨seg3 ++ F2.pr, F2.fr, F2.fe⟩ loc2 cel := At.pr (F := ⟨seg2 ++ F2.pr, F2.fr, F2.fe⟩) a2 w3' l3
          rw [← e3] at c2
          refine wpAny_bind (ht a3 v3 c2 fun s4 G4 F4 loc4 c4 f4 a4 l4 m4 => ?_)
          obtain ⟨F5, f5, rfl⟩ := f4.seg
          have f25 := f2.trans f5
          have l04 := (l2.trans l3).trans l4
          have m04 := (m2.trans m3).trans m4
          refine wpAny_bind (hi a4 c4 fun t s5 G5 c5 w5 l5 m5 => ?_)
          have a5 : At D Γ b A env s5 G5 ⟨seg3 ++ F5.pr, F5.fr, F5.fe⟩ loc4 cel := At.step a4 w5 l5
          cases t with
          | false =>
            exact wpAny_pure ⟨rfl, f, Nat.lt_succ_self f, G5, F5, loc4, I3, seg3, c5, f25, a5, l04.trans l5, m04.trans m5, r3.mono (l4.trans l5)⟩
          | true =>
            dsimp only at c5
            refine (hB a5 ((l04.trans l5).get hm) c5 fun s6 G6 F6 loc6 c6 f6 a6 l6 m6 => ?_)
            obtain ⟨F7, f7, rfl⟩ := f6.seg
            exact wpAny_pure ⟨rfl, f, Nat.lt_succ_self f, G6, F7, loc6, I3, seg3, c6, f25.trans f7, a6, (l04.trans l5).trans l6, (m04.trans m5).trans m6, r3.mono ((l4.trans l5).trans l6)⟩
        | none =>
          dsimp only at c2
          refine wpAny_bind (wpAny_standAt (wpAny_bind (it_over a2.a.h a2.w r2 ho _ _ fun s3 w3 m3 => ?_)))
          exact wpAny_pure (hn s3 G2 F2 loc2 c2 f2 ⟨⟨a2.a.h, a2.a.d, a2.a.u, a2.a.f⟩, a2.e, w3, a2.l, a2.c, a2.f⟩ l2 (m2.trans m3))
      · cases c2
    · cases c2
end
end Mine
open PySem PySem.W PyProof.Rows PySem.Calls PySem.Spec
set_option Elab.async false
set_option maxRecDepth 100000
set_option linter.unusedSimpArgs false
set_option linter.unusedVariables false
namespace Mine

theorem turn_one {elt tgt iter : PySem.Expr} {ifs : List PySem.Expr} {scope : Scope} {pos : Pos} : TurnEq (.ListComp elt [⟨tgt, iter, ifs, 0⟩] scope pos) 0 tgt iter.pos ifs (fun env acc j => (do let _ ← call (.builtin "list.append") [acc, ← eval elt env]) >>= fun _ => j) := fun _ _ _ => rfl
noncomputable abbrev nestB (elt : PySem.Expr) (gens : List Comprehension) (iter : PySem.Expr) (scope : Scope) (pos : Pos) : Env → Value → Sem Fin → Sem Fin := fun env acc j => do
  let x ← eval iter env
  standAt iter.pos
  let x ← foldedSetIterable iter env x
  let _ ← runOwn (.compStart (.ListComp elt gens scope pos) 1 (← holding [x] (pyIter x)) acc env) env
  j
theorem turn_out {elt t1 i1 t2 i2 : PySem.Expr} {f1 f2 : List PySem.Expr} {scope : Scope} {pos : Pos} : TurnEq (.ListComp elt [⟨t1, i1, f1, 0⟩, ⟨t2, i2, f2, 0⟩] scope pos) 0 t1 i1.pos f1 (nestB elt [⟨t1, i1, f1, 0⟩, ⟨t2, i2, f2, 0⟩] i2 scope pos) := fun _ _ _ => rfl
theorem turn_in {elt t1 i1 t2 i2 : PySem.Expr} {f1 f2 : List PySem.Expr} {scope : Scope} {pos : Pos} : TurnEq (.ListComp elt [⟨t1, i1, f1, 0⟩, ⟨t2, i2, f2, 0⟩] scope pos) 1 t2 i2.pos f2 (fun env acc j => (do let _ ← call (.builtin "list.append") [acc, ← eval elt env]) >>= fun _ => j) := fun _ _ _ => rfl

theorem start_in {D : Dt} {A : Around} {s : Shared} {R : Result → Shared → Prop} {elt tgt iter : PySem.Expr} {g0 : Comprehension} {ifs : List PySem.Expr} {scope : Scope} {pos : Pos} {it acc : Value} {env : Env}
    (h0 : codeAny (model prog D.w) A (.compLoop (.ListComp elt [g0, ⟨tgt, iter, ifs, 0⟩] scope pos) 1 it acc env) R s)
    (h : wpAny (model prog D.w) A (pyIter it) (fun it' s' => codeAny (model prog D.w) A (.compLoop (.ListComp elt [g0, ⟨tgt, iter, ifs, 0⟩] scope pos) 1 it' acc env) R s') (notedBy (model prog D.w) A env fun x s' => R (.error x) s') s) :
    codeAny (model prog D.w) A (.compStart (.ListComp elt [g0, ⟨tgt, iter, ifs, 0⟩] scope pos) 1 it acc env) R s := by
  refine codeAny_of_tree ?_
  show wpAny _ _ ((compStart (.ListComp elt [g0, ⟨tgt, iter, ifs, 0⟩] scope pos) 1 it acc env).onRaise (fun x => do noteFrame x env; standAt theWindowsPlace)) _ _ s
  refine wpAny_notedAt ?_
  unfold compStart
  show wpAny _ _ (ask >>= _) _ _ s
  refine wpAny_bind (wpAny_askSetting (wpAny_ite ?_))
  split
  · first
      | exact wpAny_bind (wpAny_pure (wpAny_pure (And.intro rfl h0)))
      | exact wpAny_pure (And.intro rfl h0)
  · first
      | exact wpAny_bind (wpAny_rule (wpAny_bind (wpAny_standAt (wpAny_bind (wpAny_mono h (fun it' s' h' => wpAny_pure (And.intro rfl h')) fun _ _ x => x)))))
      | (refine wpAny_bind (wpAny_rule ?_); show wpAny _ _ (standAt iter.pos >>= _) _ _ s; exact wpAny_bind (wpAny_standAt (wpAny_bind (wpAny_mono h (fun it' s' h' => wpAny_pure (And.intro rfl h')) fun _ _ x => x))))

section
variable {Γ : Ctx} {b : Nat} {p : Pos}
noncomputable def cnest (fuel : Nat) (tt : Bool) (ci : CI) (g : CG) (ct : CT) (body : CB) : CB := fun acc loc cel σ n => ci loc cel σ (fun I σ1 => lcomp tt g ct body acc cel n fuel I loc σ1) dead
theorem scb_nest (fuel : Nat) {elt t1 i1 t2 i2 : PySem.Expr} {f1 f2 : List PySem.Expr} {scope : Scope} {pos : Pos} {tt : Bool} {ci : CI} {g : CG} {ct : CT} {c : CE} (hI : SI Γ b i2 ci) (ht : TG Γ b t2 g) (hi : SIfs Γ b f2 ct) (he : SE Γ b elt c) (htt : isTup t2 = tt)
    (hs : ∀ env x, foldedSetIterable i2 env x = pure x) : SCB Γ b (nestB elt [⟨t1, i1, f1, 0⟩, ⟨t2, i2, f2, 0⟩] i2 scope pos) (cnest fuel tt ci g ct (cemit c)) := fun {D A env s G F loc cel acc a n j Q E} h hm hc hn => by
  refine wpAny_bind (wpAny_mono (hI h hc (Q := fun it s2 => wpAny (model prog D.w) A (runOwn (.compStart (.ListComp elt [⟨t1, i1, f1, 0⟩, ⟨t2, i2, f2, 0⟩] scope pos) 1 it (.ref a) env) env) (fun _ s3 => wpAny (model prog D.w) A j Q E s3) E s2) (fun I s1 G1 z seg c1 w1 l1 r1 m1 => ?_) px_dead)
    (fun x s1 h1 => wpAny_bind (wpAny_standAt (wpAny_bind (wpAny_of_eq (hs _ _) (wpAny_bind (wpAny_holding (wpAny_mono h1 (fun it s2 h2 => wpAny_bind h2) fun _ _ x => x))))))) fun _ _ x => x)
  have hat := h.pr (s' := s1) (G' := G1) w1 l1
  have key : codeAny (model prog D.w) A (.compLoop (.ListComp elt [⟨t1, i1, f1, 0⟩, ⟨t2, i2, f2, 0⟩] scope pos) 1 (.ref z) (.ref a) env) (fun r s' => match r with | .ok f => (fun _ s3 => wpAny (model prog D.w) A j Q E s3) f s' | .error e => cameBackBy (model prog D.w) A env E e s') s1 :=
    comp_loop (F := F) turn_in ht hi (scb_emit he) htt ⟨⟨h.a.h, h.a.d, h.a.u, h.a.f⟩, h.e, Wd.dropSeg w1, hat.l, hat.c, h.f⟩ w1 r1 (l1.get hm) c1 (PN.step hn h.fr1 l1 m1)
  refine wpAny_runOwn (h := none) ?_
  exact start_in key (ir_self w1 r1 key)

noncomputable def selc : List Nat → List Nat → List Nat
  | [], _ => []
  | m :: ms, cel => match nth cel m with | some k => k :: selc ms cel | none => []
theorem selc_get : ∀ (ms cel : List Nat) (i k : Nat), (selc ms cel)[i]? = some k → ∃ m, ms[i]? = some m ∧ cel[m]? = some k
  | [], _, _, _, h => by simp [selc] at h
  | m :: ms, cel, i, k, h => by
    unfold selc at h
    split at h
    · rename_i q hq
      cases i with
      | zero =>
        simp at h
        subst h
        exact ⟨m, rfl, by rw [← nth_eq]; exact hq⟩
      | succ i =>
        simp only [List.getElem?_cons_succ] at h
        obtain ⟨m', h1, h2⟩ := selc_get ms cel i k h
        exact ⟨m', by simpa using h1, h2⟩
    · simp at h
noncomputable def nones : Nat → Loc
  | 0 => []
  | n + 1 => none :: nones n
theorem lget_nones : ∀ (n i : Nat), lget (nones n) i = none
  | 0, _ => rfl
  | _ + 1, 0 => rfl
  | n + 1, i + 1 => by simp [nones, lget, lget_nones n i]

noncomputable def relN (Γ : Ctx) (names : List (Str × NameKind)) : List (Str × NameKind) := names.map fun p => match p.2 == NameKind.free && Γ.names.lookup p.1 == some NameKind.cell with | true => (p.1, .cell) | false => p
theorem relN_ok {env : Env} (h : EnvOK Γ env) (scope : Scope) : (relabel scope env).names = relN Γ scope.names := by
  unfold relabel relN
  refine List.map_congr_left fun p hp => ?_
  obtain ⟨n, k⟩ := p
  simp only [h.kind, kindOf_of h]
  have e : (ScopeKind.function == ScopeKind.function) = true := rfl
  rw [e, Bool.and_true]
  cases q : (k == NameKind.free && List.lookup n Γ.names == some NameKind.cell) <;> simp

theorem closure_ok {env : Env} : ∀ (names : List (Str × NameKind)) (acc : List (Str × Addr)), (∀ x, (x, NameKind.free) ∈ names → ∃ a, env.cells.lookup x = some a) → (∀ x a, (x, a) ∈ acc → env.cells.lookup x = some a) →
    ∃ cl, (forIn names acc fun (p : Str × NameKind) (cs : List (Str × Addr)) => (do
      if p.2 == NameKind.free then
        let __do_lift ← cellOf env p.1
        pure (ForInStep.yield ((p.1, __do_lift) :: cs))
      else pure (ForInStep.yield cs) : Sem (ForInStep (List (Str × Addr))))) = pure cl ∧ (∀ x a, (x, a) ∈ cl → env.cells.lookup x = some a) ∧ (∀ x, (x, NameKind.free) ∈ names → ∃ a, (x, a) ∈ cl) ∧ ∀ p ∈ acc, p ∈ cl
  | [], acc, _, ha => ⟨acc, rfl, ha, (fun _ h => by cases h), fun _ h => h⟩
  | (n, k) :: r, acc, hf, ha => by
    cases hk : k == NameKind.free with
    | true =>
      have hk' : k = .free := by simpa using hk
      subst hk'
      obtain ⟨a, h1⟩ := hf n (.head _)
      obtain ⟨cl, e, p1, p2, p3⟩ := closure_ok (env := env) r ((n, a) :: acc) (fun x hx => hf x (.tail _ hx)) (fun x c hm => by
        rcases List.mem_cons.mp hm with e | hm
        · cases e; exact h1
        · exact ha x c hm)
      refine ⟨cl, ?_, p1, fun x hx => ?_, fun p hp => p3 p (.tail _ hp)⟩
      · rw [List.forIn_cons]
        have : cellOf env n = pure a := by unfold cellOf; rw [h1]
        simp only [this, beq_self_eq_true, if_true, pure_bind]
        exact e
      · rcases List.mem_cons.mp hx with e | hx
        · cases e; exact ⟨a, p3 _ (.head _)⟩
        · exact p2 x hx
    | false =>
      obtain ⟨cl, e, p1, p2, p3⟩ := closure_ok (env := env) r acc (fun x hx => hf x (.tail _ hx)) ha
      refine ⟨cl, ?_, p1, fun x hx => ?_, p3⟩
      · rw [List.forIn_cons]
        simp only [hk, Bool.false_eq_true, if_false, pure_bind]
        exact e
      · rcases List.mem_cons.mp hx with e | hx
        · cases e; simp at hk
        · exact p2 x hx
theorem closureFor_ok {env : Env} {scope : Scope} (hf : ∀ x, (x, NameKind.free) ∈ scope.names → ∃ a, env.cells.lookup x = some a) :
    ∃ cl, closureFor scope env = pure cl ∧ ∀ x, (x, NameKind.free) ∈ scope.names → cl.lookup x = env.cells.lookup x := by
  obtain ⟨cl, e, p1, p2, p3⟩ := closure_ok (env := env) scope.names [] hf (fun _ _ h => by cases h)
  refine ⟨cl, ?_, fun x hx => ?_⟩
  · unfold closureFor
    first | exact e | (simp only [bind_pure]; exact e) | (rw [bind_pure]; exact e)
  · obtain ⟨a, hm⟩ := p2 x hx
    obtain ⟨c, hc⟩ : ∃ c, cl.lookup x = some c := by
      have : ∀ (l : List (Str × Addr)), (x, a) ∈ l → ∃ c, l.lookup x = some c := by
        intro l
        induction l with
        | nil => intro h; cases h
        | cons q l ih =>
          intro h
          obtain ⟨y, d⟩ := q
          rw [List.lookup_cons]
          cases hb : x == y with
          | true => exact ⟨_, rfl⟩
          | false =>
            rcases List.mem_cons.mp h with e | h
            · cases e; simp at hb
            · exact ih h
      exact this cl hm
    rw [hc, p1 x c (mem_of_lookup hc)]
end
end Mine
open PySem PySem.W PyProof.Rows PySem.Calls PySem.Spec
set_option Elab.async false
set_option maxRecDepth 100000
set_option linter.unusedSimpArgs false
set_option linter.unusedVariables false
namespace Mine

structure CLay (Γ : Ctx) (names : List (Str × NameKind)) (cs : List Str) (ms : List Nat) : Prop where
  cell : ∀ y ∈ names, y.2 ≠ .cell
  loc : ∀ y ∈ names, y.2 = .local → names.lookup y.1 = some .local
  free : ∀ x, (x, NameKind.free) ∈ names → ∃ (i m : Nat), cs[i]? = some x ∧ ms[i]? = some m ∧ Γ.cs[m]? = some x
  c : ∀ (i : Nat) (x : Str) (m : Nat), cs[i]? = some x → ms[i]? = some m → Γ.cs[m]? = some x ∧ (x, NameKind.free) ∈ names
noncomputable def clayB (Γ : Ctx) (names : List (Str × NameKind)) (cs : List Str) (ms : List Nat) : Bool :=
  (names.all fun y => match y.2 with | .cell => false | .local => names.lookup y.1 == some .local | .free => (cs.zip ms).any (fun q => q.1 == y.1 && Γ.cs[q.2]? == some y.1) | _ => true)
    && ((cs.zip ms).all fun q => Γ.cs[q.2]? == some q.1 && names.contains (q.1, .free))
theorem clay_of {Γ : Ctx} {names : List (Str × NameKind)} {cs : List Str} {ms : List Nat} (h : clayB Γ names cs ms = true) : CLay Γ names cs ms := by
  unfold clayB at h
  obtain ⟨h1, h2⟩ := Bool.and_eq_true_iff.mp h
  refine ⟨fun y hy e => ?_, fun y hy e => ?_, fun x hx => ?_, fun i x m hi hm => ?_⟩
  · have := List.all_eq_true.mp h1 y hy
    rw [e] at this; cases this
  · have := List.all_eq_true.mp h1 y hy
    rw [e] at this; simpa using this
  · have := List.all_eq_true.mp h1 _ hx
    simp only [List.any_eq_true, Bool.and_eq_true, beq_iff_eq] at this
    obtain ⟨⟨y, m⟩, hm, h3, h4⟩ := this
    simp only at h3 h4
    subst h3
    obtain ⟨i, hi⟩ := List.mem_iff_getElem?.mp hm
    rw [List.getElem?_zip_eq_some] at hi
    exact ⟨i, m, hi.1, hi.2, h4⟩
  · have hz : (x, m) ∈ cs.zip ms := List.mem_of_getElem? (i := i) (by rw [List.getElem?_zip_eq_some]; exact ⟨hi, hm⟩)
    have := List.all_eq_true.mp h2 _ hz
    simp only [Bool.and_eq_true, beq_iff_eq] at this
    exact ⟨this.1, by simpa using this.2⟩

noncomputable def lcomp0 (fuel : Nat) (ms : List Nat) (nl : Nat) (tt : Bool) (g : CG) (ct : CT) (body : CB) (cel : List Nat) (I : IT) (σ1 : List AO) (k : V → List AO → Bool) : Bool :=
  lcomp tt g ct body σ1.length (selc ms cel) (fun _ σ2 => k (.ref σ1.length) σ2) fuel I (nones nl) (σ1 ++ [.lst []])
noncomputable def ccomp (fuel : Nat) (ms : List Nat) (nl : Nat) (tt : Bool) (ci : CI) (g : CG) (ct : CT) (body : CB) : CE := fun loc cel σ k x => match Nat.beq (selc ms cel).length ms.length with
  | true => ci loc cel σ (fun I σ1 => lcomp0 fuel ms nl tt g ct body cel I σ1 k) x
  | false => false
noncomputable def casgc (fuel : Nat) (ms : List Nat) (nl : Nat) (tt : Bool) (ci : CI) (g : CG) (ct : CT) (body : CB) (gt : CG) : CS := fun loc cel σ n _ x => match Nat.beq (selc ms cel).length ms.length with
  | true => ci loc cel σ (fun I σ1 => lcomp0 fuel ms nl tt g ct body cel I σ1 (fun v σ2 => gt v loc cel σ2 n)) x
  | false => false

theorem Wd.frToPr {D : Dt} {h : Heap} {G : St} {pr : List (Addr × Obj)} {L : Addr} {m : Str → Option Value} {fr : List (Addr × (Str → Option Value))} {fe : List Env} (W : Wd D h G ⟨pr, (L, m) :: fr, fe⟩) (hf : ∀ e ∈ fe, e.scope.kind ≠ .module ∧ ∃ L, e.frame = some L ∧ L ∈ fr.map (·.1)) :
    ∃ ob es ep, h.get? L = some ob ∧ ob.data = .dict es ep ∧ StrKeys es ∧ (∀ x, nsFind es x = m x) ∧ Wd D h G ⟨(L, ob) :: pr, fr, fe⟩ := by
  obtain ⟨ob, es, ep, h1, h2, h3, h4⟩ := W.fr (L, m) (.head _)
  have hd : L ∈ dom G ⟨pr, (L, m) :: fr, fe⟩ := inFr (.head _)
  refine ⟨ob, es, ep, h1, h2, h3, h4, Wd.pushPr (F := ⟨pr, fr, fe⟩) (Wd.popFr W hf) h1 ?_ (W.new L hd).1 (W.new L hd).2⟩
  have n := W.nd
  unfold dom at n ⊢
  simp only [List.map_cons, List.nodup_append, List.nodup_cons, List.mem_append, List.mem_cons] at n ⊢
  obtain ⟨n1, ⟨n2, ⟨n3, ⟨n4, n5⟩, n6⟩, n7⟩, n8⟩ := n
  rintro (q | q | q | q)
  · exact n8 L q L (.inr (.inr (.inl rfl))) rfl
  · exact n7 L q L (.inr (.inl rfl)) rfl
  · exact n6 L q L (.inl rfl) rfl
  · exact n4 q

section
variable {Γ : Ctx} {b : Nat} {p : Pos}
theorem comp_core (fuel : Nat) (ms : List Nat) (nl : Nat) {elt tgt iter : PySem.Expr} {ifs : List PySem.Expr} {rest : List Comprehension} {scope : Scope} {pos q : Pos} {tt : Bool} {ci : CI} {g : CG} {ct : CT} {body : CB} {B : Env → Value → Sem Fin → Sem Fin} {ls cs : List Str}
    (hI : SI Γ b iter ci) (hT : TurnEq (.ListComp elt (⟨tgt, iter, ifs, 0⟩ :: rest) scope pos) 0 tgt iter.pos ifs B) (ht : TG ⟨relN Γ scope.names, ls, cs, none⟩ b tgt g) (hi : SIfs ⟨relN Γ scope.names, ls, cs, none⟩ b ifs ct) (hB : SCB ⟨relN Γ scope.names, ls, cs, none⟩ b B body) (htt : isTup tgt = tt)
    (hs : ∀ env x, foldedSetIterable iter env x = pure x) (hk : scope.kind = .function) (hl : clayB Γ scope.names cs ms = true)
    {D : Dt} {A : Around} {env : Env} {s : Shared} {G : St} {F : Fx} {loc : Loc} {cel : List Nat} {k : V → List AO → Bool} {x : KV} {use : Option (Value → Sem Unit)} {Q E : Value → Shared → Prop}
    (h : At D Γ b A env s G F loc cel) (hsel : Nat.beq (selc ms cel).length ms.length = true) (hc : ci loc cel G.σ (fun I σ1 => lcomp0 fuel ms nl tt g ct body cel I σ1 k) x = true) (hx : PX D F G s env.frame x E)
    (fin : ∀ s' G' C m' j aa, k (.ref j) G'.σ = true → Wd D s'.heap G' ⟨F.pr, (C, m') :: F.fr, F.fe⟩ → Le G G' → VR G' (.ref j) (.ref aa) → Same s s' → compPost (model prog D.w) A E use Q (.ref aa) C (.ok .next) s') :
    wpAny (model prog D.w) A (comprehension (.ListComp elt (⟨tgt, iter, ifs, 0⟩ :: rest) scope pos) scope env q (newList []) false (eval iter env) use) Q E s := by
  have hlay := clay_of hl
  have hsel := Nat.eq_of_beq_eq_true hsel
  have hcells : ∀ y, (y, NameKind.free) ∈ scope.names → ∃ (i : Nat), cs[i]? = some y ∧ ∃ (k : Nat), (selc ms cel)[i]? = some k ∧ ∃ a, env.cells.lookup y = some a ∧ G.μ[k]? = some a := by
    intro y hy
    obtain ⟨i, m, h1, h2, h3⟩ := hlay.free y hy
    have hi : i < (selc ms cel).length := by rw [hsel]; exact (List.getElem?_eq_some_iff.mp h2).1
    obtain ⟨m', h4, h5⟩ := selc_get ms cel i _ (List.getElem?_eq_getElem hi)
    rw [h2] at h4; cases h4
    obtain ⟨a, h6, h7⟩ := h.c m y _ h3 h5
    exact ⟨i, h1, _, List.getElem?_eq_getElem hi, a, h6, h7⟩
  obtain ⟨cl, hcl, hclk⟩ := closureFor_ok (env := env) (scope := scope) (fun y hy => let ⟨_, _, _, _, a, h1, _⟩ := hcells y hy; ⟨a, h1⟩)
  refine wpAny_comprehension_free (cl := cl) (g := ⟨tgt, iter, ifs, 0⟩) (gs := rest) rfl (hs env) hcl hk hlay.loc ?_
  refine hI h hc (fun I s2 G2 z seg c2 w2 l2 r2 m2 => ?_) hx
  refine wpAny_newObj_type ?_
  have L3 := Le.addS G2 s2.heap.objs.size (.lst [])
  have w3 := w2.newS (lstObj [] 0) (.lst []) (.lst (Heap.get?_push_size _ rfl) .nil)
  refine wpAny_newFunctionEnv (s := { s2 with heap := s2.heap.push (lstObj [] 0) }) hlay.cell (by intro y hy; simp at hy) (fun h' hns hsb => ?_) hk
  have keep : ∀ b o, (s2.heap.push (lstObj [] 0)).get? b = some o → h'.get? b = some o := fun b o e => hsb.extBut b o (Nat.ne_of_lt (Heap.lt_size e)) (Heap.get?_push_of_some _ e)
  have w4 := w3.grow keep
  have oC := w3.outNew (Nat.le_refl (s2.heap.push (lstObj [] 0)).objs.size)
  have w5 := w4.pushFr hns oC.d oC.b oC.t
  generalize hG3 : ({ G2 with σ := G2.σ ++ [AO.lst []], μ := G2.μ ++ [s2.heap.objs.size] } : St) = G3 at w5 L3
  have hσ : G3.σ = G2.σ ++ [AO.lst []] := by rw [← hG3]
  have hμ : G3.μ[G2.σ.length]? = some s2.heap.objs.size := by rw [← hG3, ← w2.len]; simp
  have l3 := l2.trans L3
  have hc5 : lcomp tt g ct body G2.σ.length (selc ms cel) (fun _ σ2 => k (.ref G2.σ.length) σ2) fuel I (nones nl) G3.σ = true := by rw [hσ]; exact c2
  let env' : Env := { newEnv scope (s2.heap.push (lstObj [] 0)).objs.size env.globals cl env.qual none .none (some env) (builtinsNs) with scope := relabel scope env, builtins := env.builtins }
  have hat : At D ⟨relN Γ scope.names, ls, cs, none⟩ b A { newEnv scope (s2.heap.push (lstObj [] 0)).objs.size env.globals cl env.qual none .none (some env) builtinsNs with scope := relabel scope env } { s2 with heap := h', toks := s2.toks + ([] : List (Str × Value)).length } G3 ⟨F.pr, ((s2.heap.push (lstObj [] 0)).objs.size, fun x => ([] : List (Str × Value)).reverse.lookup x) :: F.fr, F.fe⟩ (nones nl) (selc ms cel) := by
    refine ⟨⟨h.a.h, h.a.d, h.a.u, h.a.f⟩, ⟨relN_ok h.e scope, hk, h.e.glob, h.e.blt, fun c hc => by cases hc⟩, Wd.dropSeg (seg := seg) w5, ⟨_, _, rfl, ?_⟩, ?_, ?_⟩
    · intro i y v _ hv
      rw [lget_nones] at hv; cases hv
    · intro i y q' hy hq
      obtain ⟨m, h1, h2⟩ := selc_get ms cel i q' hq
      obtain ⟨h3, h4⟩ := hlay.c i y m hy h1
      obtain ⟨a, h5, h6⟩ := h.c m y q' h3 h2
      exact ⟨a, (hclk y h4).trans h5, l3.get h6⟩
    · obtain ⟨e0, r, h1, h2⟩ := h.f
      exact ⟨e0, r, h1, h2⟩
  have key : codeAny (model prog D.w) A (.compLoop (.ListComp elt (⟨tgt, iter, ifs, 0⟩ :: rest) scope pos) 0 (.ref z) (.ref s2.heap.objs.size) { newEnv scope (s2.heap.push (lstObj [] 0)).objs.size env.globals cl env.qual none .none (some env) builtinsNs with scope := relabel scope env })
      (compPost (model prog D.w) A E use Q (.ref s2.heap.objs.size) (s2.heap.push (lstObj [] 0)).objs.size) { s2 with heap := h', toks := s2.toks + ([] : List (Str × Value)).length } := by
    refine comp_loop hT ht hi hB htt hat w5 (r2.mono L3) hμ hc5 fun s6 G6 F6 loc6 c6 f6 a6 l6 m6 => ?_
    obtain ⟨pr6, fr6, fe6⟩ := F6
    obtain ⟨e1, e2, L', m', m'', r', e3, e4⟩ := f6
    simp only at e1 e2 e3 e4
    subst e1 e2 e4
    cases e3
    exact fin s6 G6 _ m'' G2.σ.length s2.heap.objs.size c6 a6.w (l3.trans l6) (.ref (l6.get hμ)) (m2.trans (Same.trans (show Same s2 { s2 with heap := h', toks := s2.toks + ([] : List (Str × Value)).length } from ⟨rfl, rfl, rfl⟩) m6))
  exact codeAny_compStart_list key (ir_self (F := ⟨F.pr, _ :: F.fr, F.fe⟩) w5 (r2.mono L3) key)

theorem se_comp (fuel : Nat) (ms : List Nat) (nl : Nat) {elt tgt iter : PySem.Expr} {ifs : List PySem.Expr} {rest : List Comprehension} {scope : Scope} {pos : Pos} {tt : Bool} {ci : CI} {g : CG} {ct : CT} {body : CB} {B : Env → Value → Sem Fin → Sem Fin} {ls cs : List Str}
    (hI : SI Γ b iter ci) (hT : TurnEq (.ListComp elt (⟨tgt, iter, ifs, 0⟩ :: rest) scope pos) 0 tgt iter.pos ifs B) (ht : TG ⟨relN Γ scope.names, ls, cs, none⟩ b tgt g) (hi : SIfs ⟨relN Γ scope.names, ls, cs, none⟩ b ifs ct) (hB : SCB ⟨relN Γ scope.names, ls, cs, none⟩ b B body) (htt : isTup tgt = tt)
    (hs : ∀ env x, foldedSetIterable iter env x = pure x) (hk : scope.kind = .function) (hl : clayB Γ scope.names cs ms = true) : SE Γ b (.ListComp elt (⟨tgt, iter, ifs, 0⟩ :: rest) scope pos) (ccomp fuel ms nl tt ci g ct body) := fun {D A env s G F loc cel k x Q E} h hc hq hx => by
  unfold ccomp at hc
  split at hc
  · rename_i hsel
    rw [eval_ListComp]
    refine comp_core fuel ms nl hI hT ht hi hB htt hs hk hl h hsel hc hx fun s' G' C m' j aa c1 w1 l1 r1 m1 => ?_
    obtain ⟨ob, es, ep, h1, h2, h3, h4, w2⟩ := Wd.frToPr w1 h.w.fe
    exact ⟨m', ⟨ob, es, ep, h1, h2, h3, h4⟩, fun h' hs' => hq (.ref j) { s' with heap := h' } G' _ c1 (Wd.dropMid (pr := []) w2 fun b o hb q => hs'.extBut b o hb q) l1 r1 ⟨m1.g, m1.d, m1.o⟩⟩
  · cases hc

theorem ss_asgc (fuel : Nat) (ms : List Nat) (nl : Nat) {elt tgt iter target : PySem.Expr} {ifs : List PySem.Expr} {rest : List Comprehension} {scope : Scope} {pos : Pos} {tt : Bool} {ci : CI} {g gt : CG} {ct : CT} {body : CB} {B : Env → Value → Sem Fin → Sem Fin} {ls cs : List Str}
    (hI : SI Γ b iter ci) (hT : TurnEq (.ListComp elt (⟨tgt, iter, ifs, 0⟩ :: rest) scope pos) 0 tgt iter.pos ifs B) (ht : TG ⟨relN Γ scope.names, ls, cs, none⟩ b tgt g) (hi : SIfs ⟨relN Γ scope.names, ls, cs, none⟩ b ifs ct) (hB : SCB ⟨relN Γ scope.names, ls, cs, none⟩ b B body) (htt : isTup tgt = tt)
    (hs : ∀ env x, foldedSetIterable iter env x = pure x) (hk : scope.kind = .function) (hl : clayB Γ scope.names cs ms = true)
    (hgt : TG Γ b target gt) (hsw : ∀ env, EnvOK Γ env → swapsWithSole [target] (.ListComp elt (⟨tgt, iter, ifs, 0⟩ :: rest) scope pos) p.line env = pure true) (hst : ∀ env, (assignEach [target] env).map (·.2) = [assign target env]) :
    SS Γ b (.Assign [target] (.ListComp elt (⟨tgt, iter, ifs, 0⟩ :: rest) scope pos) p) (casgc fuel ms nl tt ci g ct body gt) := fun {D A env s G F loc cel n k x Q E} h hc hn hr hx => by
  unfold casgc at hc
  split at hc
  · rename_i hsel
    rw [exec_Assign_arm, hsw env h.e, hst]
    refine wpAny_bind (wpAny_standAt (wpAny_bind (wpAny_pure ?_)))
    rw [if_pos rfl]
    show wpAny _ _ (do
      evalThenUse (.ListComp elt (⟨tgt, iter, ifs, 0⟩ :: rest) scope pos) env fun v => assign target env v
      pure .next) Q E s
    refine wpAny_bind ?_
    show wpAny _ _ (do
      let _ ← comprehension (.ListComp elt (⟨tgt, iter, ifs, 0⟩ :: rest) scope pos) scope env (firstIterPos (⟨tgt, iter, ifs, 0⟩ :: rest) pos) (newList []) false (eval iter env) (some fun v => assign target env v)) _ E s
    refine wpAny_bind (wpAny_mono (comp_core (use := some fun v => assign target env v) (E := E) (Q := fun _ s1 => Q .next s1) fuel ms nl hI hT ht hi hB htt hs hk hl h hsel hc (hx _ h.fr1) fun s' G' C m' j aa c1 w1 l1 r1 m1 => ?_) (fun _ s1 q => wpAny_pure (wpAny_pure q)) fun _ _ x => x)
    obtain ⟨ob, es, ep, h1, h2, h3, h4, w2⟩ := Wd.frToPr w1 h.w.fe
    have h9 : At D Γ b A env s' G' ⟨(C, ob) :: F.pr, F.fr, F.fe⟩ loc cel := h.pr w2 l1
    refine hgt h9 r1 c1 fun s2 G2 F2 loc2 c2 f2 a2 l2 m2 => ?_
    obtain ⟨F3, f3, rfl⟩ := Fr1.seg (seg := [(C, ob)]) f2
    have hC := a2.w.pr (C, ob) (.head _)
    refine ⟨m', ⟨ob, es, ep, hC, h2, h3, h4⟩, fun h' hs' => ?_⟩
    exact hn { s2 with heap := h' } G2 F3 loc2 c2 f3 ⟨⟨a2.a.h, a2.a.d, a2.a.u, a2.a.f⟩, a2.e, Wd.dropMid (pr := []) a2.w fun b o hb q => hs'.extBut b o hb q, a2.l, a2.c, a2.f⟩ (l1.trans l2) ⟨(m1.trans m2).g, (m1.trans m2).d, (m1.trans m2).o⟩
  · cases hc
end
end Mine
open PySem PySem.W PyProof.Rows PySem.Calls PySem.Spec
set_option Elab.async false
set_option maxRecDepth 100000
set_option linter.unusedSimpArgs false
set_option linter.unusedVariables false
namespace Mine

noncomputable def okH : V → Bool
  | .opq => false | .exo _ => false | _ => true
theorem okH_handed {G : St} {v : V} {w : Value} (r : VR G v w) (h : okH v = true) : handedIn w = true := by
  cases r <;> first | rfl | cases h

noncomputable def flook : List (Nat × V) → Nat → Option V
  | [], _ => none
  | (k, v) :: r, i => match Nat.beq i k with | true => some v | false => flook r i
theorem flook_eq : ∀ (fs : List (Nat × V)) (i : Nat), flook fs i = fs.lookup i
  | [], _ => rfl
  | (k, v) :: r, i => by
    rw [List.lookup_cons]
    unfold flook
    have e : Nat.beq i k = (i == k) := by
      rw [Bool.eq_iff_iff, Nat.beq_eq]; simp
    rw [e, flook_eq r i]
    cases i == k <;> rfl
noncomputable def fset : List (Nat × V) → Nat → V → List (Nat × V)
  | [], _, _ => []
  | (k, v) :: r, i, u => match Nat.beq i k with | true => (k, u) :: r | false => (k, v) :: fset r i u
theorem flook_fset : ∀ (fs : List (Nat × V)) (i j : Nat) (u v : V), flook (fset fs i u) j = some v → (i = j ∧ v = u) ∨ (i ≠ j ∧ flook fs j = some v)
  | [], _, _, _, _, h => by simp [fset, flook] at h
  | (k, x) :: r, i, j, u, v, h => by
    unfold fset at h
    cases e : Nat.beq i k with
    | true =>
      rw [e] at h
      have e := Nat.eq_of_beq_eq_true e
      subst e
      unfold flook at h ⊢
      cases q : Nat.beq j i with
      | true =>
        rw [q] at h
        cases h
        exact .inl ⟨(Nat.eq_of_beq_eq_true q).symm, rfl⟩
      | false =>
        rw [q] at h
        refine .inr ⟨fun z => ?_, h⟩
        subst z
        rw [show Nat.beq i i = true from Nat.beq_refl i] at q; cases q
    | false =>
      rw [e] at h
      unfold flook at h ⊢
      cases q : Nat.beq j k with
      | true =>
        rw [q] at h
        refine .inr ⟨fun z => ?_, h⟩
        subst z
        rw [e] at q; cases q
      | false =>
        rw [q] at h
        exact flook_fset r i j u v h

/-- what the class of an thing answers -/
structure ClsOk (C : Addr) : Prop where
  get : ∀ P, plainGet (hk P) C "kind" = true
  dict : ∀ P, hasDictIn (hk P) C = true
noncomputable def NoAttr (C : Addr) (i : Nat) : Prop := ∀ P, findIn (hk P) (.ref C) (attrOf i) = some none

section
variable {D : Dt} {A : Around} {G : St} {F : Fx} {s : Shared} {E : Value → Shared → Prop}
theorem Wd.K (W : Wd D s.heap G F) : (hk D.w.params).In s.heap := fun a o e => W.keep a o (D.K a o e)
theorem inst_at {C d : Addr} {a : Addr} {es : List DictEntry} {n : Nat} (h1 : s.heap.get? a = some (insObj C d)) (h2 : s.heap.get? d = some (dictOf es n)) : InstAt s.heap a (insObj C d) C (some (dictOf es n)) := ⟨h1, rfl, rfl, h2⟩

theorem attr_ok {C : Addr} {i k : Nat} {v : V} {fs : List (Nat × V)} {x : Value} {expr : Bool} {Q : Value → Shared → Prop} (hC : ClsOk C) (hn : NoAttr C i) (W : Wd D s.heap G F) (r : VR G (.ins C k) x) (hs : nth G.σ k = some (.dct fs)) (hv : flook fs i = some v) (hh : okH v = true)
    (hQ : ∀ w, VR G v w → Q w { s with toks := s.toks + 1 }) : wpAny (model prog D.w) A (getAttr x (attrOf i) expr) Q E s := by
  rw [nth_eq] at hs
  rw [flook_eq] at hv
  cases r with | ins m1 m2 =>
  obtain ⟨d', q, o⟩ := W.ob _ _ hs
  rw [m2] at q; cases q
  cases o with | dct hg hk hl hr =>
  obtain ⟨w, h1, h2⟩ := hr _ _ hv
  have I := inst_at (W.tl _ m1) hg
  exact get_value W.K I (plainGet_of (hC.get _)).1 (findObj_own (hC.dict _) (hn _) rfl (show lookIn _ (dictOf _ _) = _ from h1)) (okH_handed h2 hh) (hQ w h2)
end

section
variable {Γ : Ctx} {b : Nat} {p : Pos} {value : PySem.Expr} {cv : CE}
noncomputable def cattr (C i : Nat) (cv : CE) : CE := fun loc cel σ k x => cv loc cel σ (fun a σ1 => match a with
  | .ins C' d => (match Nat.beq C' C with
    | true => (match nth σ1 d with
      | some o => (match o with | .dct fs => (match flook fs i with | some v => (match okH v with | true => k v σ1 | false => false) | none => false) | _ => false)
      | none => false)
    | false => false)
  | _ => false) x
theorem se_attr (C i : Nat) {nm : Str} (hC : ClsOk C) (hn : NoAttr C i) (hnm : nm = attrOf i) (hv : SE Γ b value cv) (hb : ∀ env whole, attributeBase value nm env whole = whole) : SE Γ b (.Attribute value nm p) (cattr C i cv) := fun {D A env s G F loc cel k x Q E} h hc hq hx => by
  show wpAny _ _ (do
    let o ← attributeBase value nm env (eval value env)
    standAt p.atName
    let r ← holding [o] (getAttr o nm true)
    letTemporaryGo value o r
    pure r) Q E s
  rw [hb]
  refine wpAny_bind (hv h hc (fun v s1 G1 w c1 w1 l1 r1 m1 => ?_) hx)
  refine wpAny_bind (wpAny_standAt (wpAny_bind (wpAny_holding ?_)))
  split at c1
  · split at c1
    · rename_i hcc
      have hcc := Nat.eq_of_beq_eq_true hcc
      subst hcc
      split at c1
      · rename_i hs
        split at c1
        · split at c1
          · rename_i hf
            split at c1
            · rename_i hh
              subst hnm
              refine attr_ok hC hn w1 r1 hs hf hh fun w' hw' => ?_
              refine wpAny_bind (wpAny_letTemporaryGo (wpAny_pure ?_))
              exact hq _ { s1 with toks := s1.toks + 1 } G1 _ c1 w1 l1 hw' ⟨m1.g, m1.d, m1.o⟩
            · cases c1
          · cases c1
        · cases c1
      · cases c1
    · cases c1
  · cases c1
end
end Mine
open PySem PySem.W PyProof.Rows PySem.Calls PySem.Spec
set_option Elab.async false
set_option maxRecDepth 100000
set_option linter.unusedSimpArgs false
set_option linter.unusedVariables false
namespace Mine

/-- a method of a class, no field of its things -/
structure Meth (C f : Addr) (nm : Str) : Prop where
  find : ∀ P, findIn (hk P) (.ref C) nm = some (some (.ref f))
  fn : ∀ P, typeIn (hk P) (.ref f) = some (.type "function")
  no : ∀ i, i < 7 → attrOf i ≠ nm

section
variable {D : Dt} {A : Around} {G : St} {F : Fx} {s : Shared} {E : Value → Shared → Prop}
theorem getL_none {nm : Str} {es : List DictEntry} (hk : ∀ e ∈ es, ∃ i t, i < 7 ∧ e.key = .str (attrOf i) t) (hn : ∀ i, i < 7 → attrOf i ≠ nm) : getL nm es = some none := by
  unfold getL
  have h1 : es.find? (·.key.isStr nm) = none := by
    rw [List.find?_eq_none]
    intro e he
    obtain ⟨i, t, hi, hq⟩ := hk e he
    rw [hq]
    simp [Value.isStr]
    exact hn i hi
  rw [h1]
  have h2 : es.any (·.refKey) = false := by
    rw [List.any_eq_false]
    intro e he
    obtain ⟨i, t, hi, hq⟩ := hk e he
    simp [DictEntry.refKey, hq]
  rw [h2]; rfl
theorem meth_ok {C f : Addr} {nm : Str} {k : Nat} {fs : List (Nat × V)} {x : Value} {pl : Sem Bool} {Q : Value × List Value → Shared → Prop} (hC : ClsOk C) (hm : Meth C f nm) (W : Wd D s.heap G F) (r : VR G (.ins C k) x) (hs : nth G.σ k = some (.dct fs))
    (hQ : Q (.ref f, [x]) s) : wpAny (model prog D.w) A (getMethod x nm pl) Q E s := by
  rw [nth_eq] at hs
  cases r with | ins m1 m2 =>
  obtain ⟨d', q, o⟩ := W.ob _ _ hs
  rw [m2] at q; cases q
  cases o with | dct hg hk hl hr =>
  have I := inst_at (W.tl _ m1) hg
  refine method_fn W.K I (plainGet_of (hC.get _)).1 (plainGet_of (hC.get _)).2 (hm.find _) (hm.fn _) ?_ hQ
  show (lookIn nm (dictOf _ _)).map _ = _
  rw [lookIn_dict, getL_none hk hm.no]; rfl
end

section
variable {Γ : Ctx} {b : Nat} {p q : Pos} {o e : PySem.Expr} {es : List PySem.Expr} {co : CE} {cs : CEs}
noncomputable def cmeth (C : Nat) (co : CE) (cs : CEs) (c : CF) : CE := fun loc cel σ k x => co loc cel σ (fun a σ1 => match a with
  | .ins C' d => (match Nat.beq C' C with
    | true => (match nth σ1 d with
      | some ob => (match ob with | .dct _ => cs loc cel σ1 (fun vs σ2 => c (a :: vs) σ2 k x) x | _ => false)
      | none => false)
    | false => false)
  | _ => false) x
theorem se_meth {C f : Nat} {nm : Str} {c : CF} (pl : PySem.Env → Sem Bool) (hF : SF b f c) (hf : IsFn f) (hC : ClsOk C) (hm : Meth C f nm) (ho : SE Γ b o co) (hs : SEs Γ b (e :: es) cs)
    (hst : ∀ env, starEach (e :: es) env = (false, eval e env) :: starEach es env)
    (he : ∀ env, eval (.Call (.Attribute o nm q) (e :: es) [] p) env = (do
      let ov ← eval o env
      standAt q.atName
      let (f, first) ← holding [ov] (getMethod ov nm (pl env))
      callWith p f first (backTo p (starEach (e :: es) env)) [])) : SE Γ b (.Call (.Attribute o nm q) (e :: es) [] p) (cmeth C co cs c) := fun {D A env s G F loc cel k x' Q E} h hc hq hx => by
  rw [he]
  refine wpAny_bind (ho h hc (fun v s1 G1 w c1 w1 l1 r1 m1 => ?_) hx)
  refine wpAny_bind (wpAny_standAt (wpAny_bind (wpAny_holding ?_)))
  split at c1
  · split at c1
    · rename_i hcc
      have hcc := Nat.eq_of_beq_eq_true hcc
      subst hcc
      split at c1
      · rename_i hs'
        split at c1
        · refine meth_ok hC hm w1 r1 hs' ?_
          dsimp only
          obtain ⟨of, fd, hof, hfd⟩ := hf D
          rw [hst]
          refine callWith_function (o := of) (fd := fd) (evalArgs_plain ?_)
          have := hs p (h.step w1 l1) c1 (Q := fun vs s' => (s'.heap.get? f = some of ∧ of.data = .func fd) ∧ wpAny (model prog D.w) A (call (.ref f) ([w] ++ vs) []) Q E s') (fun vs s2 G2 ws c2 w2 l2 r2 m2 => ?_) (hx.step l1 m1)
          · rw [hst] at this; exact this
          · refine ⟨⟨w2.keep _ _ hof, hfd⟩, ?_⟩
            exact hF.run h.a w2 (.cons (r1.mono l2) r2) c2 (hq.step (l1.trans l2) (m1.trans m2)) (PX.weak (hx.step (l1.trans l2) (m1.trans m2)))
        · cases c1
      · cases c1
    · cases c1
  · cases c1

/-- x.append(e) for a list -/
noncomputable def capp (co ce : CE) : CE := fun loc cel σ k x => co loc cel σ (fun a σ1 => match a with
  | .ref j => (match nth σ1 j with
    | some ob => (match ob with
      | .lst _ => ce loc cel σ1 (fun v σ2 => match nth σ2 j with
        | some ob => (match ob with | .lst vs => (match Nat.ble vs.length 1000 with | true => k .none (σ2.set j (.lst (vs ++ [v]))) | false => false) | _ => false)
        | none => false) x
      | _ => false)
    | none => false)
  | _ => false) x
theorem se_app {ce : CE} (ho : SE Γ b o co) (he : SE Γ b e ce) (hst : ∀ env, backTo p (starEach [e] env) = [(false, eval e env)]) (hb : ∀ env, attributeBase o "append" env (eval o env) = eval o env) (hline : (q.endLine == p.line) = true) :
    SE Γ b (.Call (.Attribute o "append" q) [e] [] p) (capp co ce) := fun {D A env s G F loc cel k x' Q E} h hc hq hx => by
  refine wpAny_Call_method (T := "list") (id := "list.append") (hb _) (by rw [hst]; rfl) hline PySem.F.plainAttrs_list PySem.F.slot_list_append PySem.F.type_list_append ?_
  refine ho h hc (fun v s1 G1 w c1 w1 l1 r1 m1 => ?_) hx
  split at c1
  · rename_i j
    split at c1
    · rename_i ob hn
      split at c1
      · rw [nth_eq] at hn
        cases r1 with | ref m =>
        obtain ⟨a', qq, oo⟩ := w1.ob _ _ hn
        rw [m] at qq; cases qq
        cases oo with | lst hg r =>
        refine ⟨⟨_, hg, rfl⟩, fun a ea => ⟨_, by cases ea; exact hg, rfl⟩, ?_⟩
        rw [hst]
        refine P.append_list (wpAny_mono (he (h.step w1 l1) c1 (Q := fun x s' => ∃ items n, items.size ≤ sizeLine ∧ IsL s'.heap _ items n ∧ Q .none { s' with heap := s'.heap.update _ (Obj.mapSeq fun xs => xs.push x) }) (fun v2 s2 G2 w2' c2 w2 l2 r2 m2 => ?_) (hx.step l1 m1)) (fun _ _ q => q) fun _ _ q => q)
        split at c2
        · rename_i ob hn2
          split at c2
          · rename_i vs
            split at c2
            · rename_i hb
              have hb := Nat.le_of_ble_eq_true hb
              rw [nth_eq] at hn2
              obtain ⟨a', qq, oo⟩ := w2.ob _ _ hn2
              rw [l2.get m] at qq; cases qq
              cases oo with | lst hg2 rr =>
              rename_i ws2 n2
              refine ⟨_, _, by rw [List.size_toArray, rr.length]; exact Nat.le_trans hb (by decide), hg2, ?_⟩
              have hg3 := Heap.get?_update_self (Obj.mapSeq fun xs => xs.push w2') hg2 rfl
              have hobj : ∃ n', Obj.mapSeq (fun xs => xs.push w2') (lstObj ws2 n2) = lstObj (ws2 ++ [w2']) n' := by
                unfold Obj.mapSeq
                simp only [List.push_toArray]
                exact ⟨_, rfl⟩
              obtain ⟨n', hobj⟩ := hobj
              rw [hobj] at hg3
              have W := w2.updS (l2.get m) (Heap.SameBut.update ..) (.lst hg3 (rr.append (.cons r2 .nil)))
              exact hq .none { s2 with heap := _ } { G2 with σ := G2.σ.set _ (.lst (vs ++ [v2])) } _ c2 W ((l1.trans l2).trans (Le.setS G2 _)) .none ⟨(m1.trans m2).g, (m1.trans m2).d, (m1.trans m2).o⟩
            · cases c2
          · cases c2
        · cases c2
      · cases c1
    · cases c1
  · cases c1

theorem erase_last (ws : List Value) : ws.toArray.eraseIdxIfInBounds (ws.toArray.size - 1) = ws.dropLast.toArray := by
  cases ws with
  | nil => rfl
  | cons x l =>
    unfold Array.eraseIdxIfInBounds
    rw [dif_pos (by simp)]
    apply Array.ext'
    rw [Array.toList_eraseIdx]
    simp [List.dropLast_eq_take, List.eraseIdx_eq_take_drop_succ]
/-- x.pop() for a list -/
noncomputable def cpop (co : CE) : CE := fun loc cel σ k x => co loc cel σ (fun a σ1 => match a with
  | .ref j => (match nth σ1 j with
    | some ob => (match ob with
      | .lst vs => (match nth vs (vs.length - 1) with | some v => (match Nat.ble vs.length 1000 with | true => k v (σ1.set j (.lst vs.dropLast)) | false => false) | none => false)
      | _ => false)
    | none => false)
  | _ => false) x
theorem se_pop (ho : SE Γ b o co) (hb : ∀ env, attributeBase o "pop" env (eval o env) = eval o env) (hline : (q.endLine == p.line) = true) :
    SE Γ b (.Call (.Attribute o "pop" q) [] [] p) (cpop co) := fun {D A env s G F loc cel k x' Q E} h hc hq hx => by
  refine wpAny_Call_method (T := "list") (id := "list.pop") (hb _) rfl hline PySem.F.plainAttrs_list PySem.F.slot_list_pop PySem.F.type_list_pop ?_
  refine ho h hc (fun v s1 G1 w c1 w1 l1 r1 m1 => ?_) hx
  split at c1
  · rename_i j
    split at c1
    · rename_i ob hn
      split at c1
      · rename_i vs
        split at c1
        · rename_i v hv
          split at c1
          · rename_i hb
            have hb := Nat.le_of_ble_eq_true hb
            rw [nth_eq] at hn hv
            cases r1 with | ref m =>
            obtain ⟨a', qq, oo⟩ := w1.ob _ _ hn
            rw [m] at qq; cases qq
            cases oo with | lst hg r =>
            rename_i ws n
            refine ⟨⟨_, hg, rfl⟩, fun a ea => ⟨_, by cases ea; exact hg, rfl⟩, ?_⟩
            obtain ⟨y, hy, ry⟩ := r.get hv
            refine P.pop_list hg (y := y) (by rw [List.size_toArray, r.length]; simpa using hy) ?_ (by rw [List.size_toArray, r.length]; exact Nat.le_trans hb (by decide))
            have hg3 := Heap.get?_update_self (Obj.mapSeq fun xs => xs.eraseIdxIfInBounds (ws.toArray.size - 1)) hg rfl
            have hobj : ∃ n', Obj.mapSeq (fun xs => xs.eraseIdxIfInBounds (ws.toArray.size - 1)) (lstObj ws n) = lstObj ws.dropLast n' := by
              unfold Obj.mapSeq
              have e : ws.toArray.eraseIdxIfInBounds (ws.toArray.size - 1) = ws.dropLast.toArray := erase_last ws
              simp only [e]
              exact ⟨_, rfl⟩
            obtain ⟨n', hobj⟩ := hobj
            rw [hobj] at hg3
            have W := w1.updS m (Heap.SameBut.update ..) (.lst hg3 r.dropLast)
            exact hq v { s1 with heap := _ } { G1 with σ := G1.σ.set _ (.lst vs.dropLast) } _ c1 W (l1.trans (Le.setS G1 _)) (ry.mono (Le.setS G1 _)) ⟨m1.g, m1.d, m1.o⟩
          · cases c1
        · cases c1
      · cases c1
    · cases c1
  · cases c1
end
end Mine
open PySem PySem.W PyProof.Rows PySem.Calls PySem.Spec
set_option Elab.async false
set_option maxRecDepth 100000
set_option linter.unusedSimpArgs false
set_option linter.unusedVariables false
namespace Mine

section
variable {D : Dt} {A : Around} {G : St} {F : Fx} {s : Shared} {E : Value → Shared → Prop}
theorem set_item {l : Addr} {ws : List Value} {n k : Nat} {i : Int} {t : Tok} {v : Value} {Q : Unit → Shared → Prop} (ho : s.heap.get? l = some (lstObj ws n)) (hi : idxZ i ws.length = some k)
    (hQ : ∀ h', h'.get? l = some (lstObj (ws.set k v) n) → Heap.SameBut l s.heap h' → Q () { s with heap := h' }) : wpAny (model prog D.w) A (setItem (.ref l) (.int i t) v) Q E s := by
  have hl : s.heap.IsList l ws.toArray := ⟨_, ho, rfl, _, rfl⟩
  obtain ⟨e1, e2, e3, e4, e5⟩ := idxZ_ok hi
  have hobj : Obj.mapSeq (·.setIfInBounds k v) (lstObj ws n) = lstObj (ws.set k v) n := by
    unfold Obj.mapSeq
    simp
  have hg : (s.heap.update l (Obj.mapSeq (·.setIfInBounds k v))).get? l = some (lstObj (ws.set k v) n) := by rw [Heap.get?_update_self _ ho rfl, hobj]
  have hx : ws.toArray[k]? = some ws[k] := by simp [e4]
  unfold setItem
  try with_reducible refine wpAny_holding ?_
  first | refine wpAny_bind (wpAny_pure ?_) | skip
  refine wpAny_bind (wpAny_sequenceKey hl.typeIs (by decide) ?_)
  refine wpAny_bind (wpAny_callSpecial?_slot (name := Str.ofString "__setitem__") hl.typeIs slot_list_setitem
    (wpAny_call_entry slot_list_setitem hl.typeIs entry_list_setitem ?_ (args_list_setitem _ _ _)))
  show wpAny _ _ (Builtin.List.listSubscript? (.int i t) >>= _) _ _ s
  rcases e5 with ⟨hneg, f2⟩ | ⟨hneg, f1, f2⟩
  · refine wpAny_bind (wpAny_listSubscript_int (fitsIndex_of hneg (by omega)) ?_)
    obtain ⟨j, rfl⟩ := Int.eq_ofNat_of_zero_le hneg
    have : k = j := by rw [f2]; simp
    subst this
    show wpAny _ _ ((seqItemAt l k >>= fun r => pure (r.map (k, ·))) >>= _) _ _ s
    refine wpAny_bind (wpAny_bind (wpAny_seqItemAt ho rfl (wpAny_pure ?_)))
    rw [hx]
    show wpAny _ _ (setSeqItemAt l k v >>= _) _ _ s
    refine wpAny_bind (wpAny_setSeqItemAt ho rfl ?_)
    first
      | exact wpAny_bind (wpAny_pure (wpAny_pure ⟨.none, rfl, wpAny_pure (hQ _ hg (Heap.SameBut.update ..))⟩))
      | exact wpAny_pure ⟨.none, rfl, wpAny_pure (hQ _ hg (Heap.SameBut.update ..))⟩
  · refine wpAny_bind (wpAny_listSubscript_int (fitsIndex_neg hneg (by omega)) ?_)
    obtain ⟨j, rfl⟩ : ∃ j : Nat, i = Int.negSucc j := by
      cases i with
      | ofNat n => exact absurd hneg (Int.not_lt.mpr (Int.natCast_nonneg n))
      | negSucc n => exact ⟨n, rfl⟩
    show wpAny _ _ ((Builtin.List.listItems (.ref l) >>= fun xs => pure ((seqIndex? (Int.negSucc j) xs.size).bind fun i => xs[i]?.map (i, ·))) >>= _) _ _ s
    refine wpAny_bind (wpAny_bind ?_)
    show wpAny _ _ (seqItems? (.ref l) >>= _) _ _ s
    refine wpAny_bind (wpAny_seqItems ho rfl (wpAny_pure (wpAny_pure ?_)))
    rw [List.size_toArray, e1]
    simp only [Option.bind_some, hx, Option.map_some]
    show wpAny _ _ (setSeqItemAt l k v >>= _) _ _ s
    refine wpAny_bind (wpAny_setSeqItemAt ho rfl ?_)
    first
      | exact wpAny_bind (wpAny_pure (wpAny_pure ⟨.none, rfl, wpAny_pure (hQ _ hg (Heap.SameBut.update ..))⟩))
      | exact wpAny_pure ⟨.none, rfl, wpAny_pure (hQ _ hg (Heap.SameBut.update ..))⟩

theorem VRs.set {G : St} {v : V} {w : Value} (h : VR G v w) : ∀ {vs : List V} {ws : List Value} (k : Nat), VRs G vs ws → VRs G (vs.set k v) (ws.set k w)
  | _, _, _, .nil => .nil
  | _, _, 0, .cons _ r => .cons h r
  | _, _, k + 1, .cons a r => .cons a (VRs.set h k r)
end

section
variable {Γ : Ctx} {b : Nat} {p : Pos} {o i : PySem.Expr} {co ci : CE}
noncomputable def gitem (co ci : CE) : CG := fun v loc cel σ n => co loc cel σ (fun a σ1 => ci loc cel σ1 (fun x σ2 => match a with
  | .ref j => (match x with
    | .int z => (match nth σ2 j with
      | some ob => (match ob with
        | .lst vs => (match idxZ z vs.length with | some k => n loc (σ2.set j (.lst (vs.set k v))) | none => false)
        | _ => false)
      | none => false)
    | _ => false)
  | _ => false) dead) dead
theorem tg_item (ho : SE Γ b o co) (hi : SE Γ b i ci) : TG Γ b (.Subscript o i p) (gitem co ci) := fun {D A env s G F loc cel v w n Q E} h hr hc hn => by
  rw [PySem.assign_Subscript]
  refine wpAny_bind (wpAny_holding (ho h hc (fun a s1 G1 wa c1 w1 l1 r1 m1 => ?_) px_dead))
  refine wpAny_bind (wpAny_holding (hi (h.step w1 l1) c1 (fun x s2 G2 wx c2 w2 l2 r2 m2 => ?_) px_dead))
  refine wpAny_bind (wpAny_standAt (wpAny_bind (wpAny_holding ?_)))
  split at c2
  · rename_i j
    split at c2
    · rename_i z
      split at c2
      · rename_i ob hs
        split at c2
        · rename_i vs
          split at c2
          · rename_i k hk
            rw [nth_eq] at hs
            cases r1 with | ref m =>
            obtain ⟨a', qq, oo⟩ := w2.ob _ _ hs
            rw [l2.get m] at qq; cases qq
            cases oo with | lst hg r =>
            cases r2
            refine set_item hg (by rw [r.length]; exact hk) fun h' hg' hs' => ?_
            have W := w2.updS (l2.get m) hs' (.lst hg' (VRs.set (hr.mono (l1.trans l2)) k r))
            refine wpAny_release ?_
            exact hn { s2 with heap := h' } { G2 with σ := G2.σ.set j (.lst (vs.set k v)) } F loc c2 h.fr1 (h.step W ((l1.trans l2).trans (Le.setS G2 _))) ((l1.trans l2).trans (Le.setS G2 _)) ⟨(m1.trans m2).g, (m1.trans m2).d, (m1.trans m2).o⟩
          · cases c2
        · cases c2
      · cases c2
    · cases c2
  · cases c2
end

/-! an field is set -/
structure SetOk (C i : Nat) : Prop where
  set : ∀ P, findIn (hk P) (.ref C) "__setattr__" = some (some (.builtin "object.__setattr__"))
  over : ∀ P, plainOver (hk P) C = true
  take : ∀ P, takerIn (hk P) C (attrOf i) = some none
  dict : ∀ P, hasDictIn (hk P) C = true

theorem mem_of_lookupN {α : Type} : ∀ {l : List (Nat × α)} {n : Nat} {c : α}, l.lookup n = some c → (n, c) ∈ l
  | (k, v) :: r, n, c, h => by
    rw [List.lookup_cons] at h
    cases hb : n == k with
    | true => rw [hb] at h; cases h; rw [beq_iff_eq.mp hb]; exact List.mem_cons_self
    | false => rw [hb] at h; exact List.mem_cons_of_mem _ (mem_of_lookupN h)
theorem attr_inj {i j : Nat} (hi : i < 7) (hj : j < 7) (h : attrOf i = attrOf j) : i = j := by
  have : ∀ a b : Fin 7, attrOf a.val = attrOf b.val → a.val = b.val := by decide +kernel
  exact this ⟨i, hi⟩ ⟨j, hj⟩ h
theorem putL_mem {nm : Str} {hsh : Int} {t : Tok} {v : Value} : ∀ {es : List DictEntry} {e : DictEntry}, e ∈ putL nm hsh (.str nm t) v es → (∃ e' ∈ es, e'.key = e.key) ∨ e.key = .str nm t
  | [], e, h => by
    simp [putL] at h
    subst h; exact .inr rfl
  | x :: r, e, h => by
    unfold putL at h
    split at h
    · rcases List.mem_cons.mp h with rfl | h
      · exact .inl ⟨x, .head _, rfl⟩
      · exact .inl ⟨e, .tail _ h, rfl⟩
    · rcases List.mem_cons.mp h with rfl | h
      · exact .inl ⟨_, .head _, rfl⟩
      · rcases putL_mem h with ⟨e', h1, h2⟩ | h1
        · exact .inl ⟨e', .tail _ h1, h2⟩
        · exact .inr h1
theorem putL_len {nm : Str} {hsh : Int} {key v : Value} : ∀ {es : List DictEntry}, (es.any (·.key.isStr nm)) = true → (putL nm hsh key v es).length = es.length
  | [], h => by simp at h
  | x :: r, h => by
    unfold putL
    split
    · rfl
    · rename_i hx
      simp only [List.any_cons] at h
      have hx : x.key.isStr nm = false := by simpa using hx
      rw [hx, Bool.false_or] at h
      simp [putL_len h]
theorem putL_find1 {nm : Str} {hsh : Int} {t : Tok} {v : Value} : ∀ (es : List DictEntry), ∃ e, (putL nm hsh (.str nm t) v es).find? (·.key.isStr nm) = some e ∧ e.val = v
  | [] => ⟨⟨hsh, .str nm t, v⟩, by simp [putL, Value.isStr], rfl⟩
  | x :: r => by
    unfold putL
    split
    · rename_i hx
      exact ⟨⟨x.hash, x.key, v⟩, by simp [hx], rfl⟩
    · rename_i hx
      obtain ⟨e, h1, h2⟩ := putL_find1 (nm := nm) (hsh := hsh) (t := t) (v := v) r
      refine ⟨e, ?_, h2⟩
      have hx : x.key.isStr nm = false := by simpa using hx
      simp [hx, h1]
theorem putL_find2 {nm nm' : Str} {hsh : Int} {t : Tok} {v : Value} (hne : nm ≠ nm') : ∀ (es : List DictEntry), (∀ e ∈ es, ∃ x t, e.key = .str x t) → ((putL nm hsh (.str nm t) v es).find? (·.key.isStr nm')).map (·.val) = (es.find? (·.key.isStr nm')).map (·.val)
  | [], _ => by
    have : (Value.str nm t).isStr nm' = false := by simp [Value.isStr, hne]
    simp [putL, this]
  | x :: r, hk => by
    obtain ⟨y, ty, hy⟩ := hk x (.head _)
    unfold putL
    split
    · rename_i hx
      rw [hy] at hx
      have hxy : y = nm := by simpa [Value.isStr] using hx
      have : x.key.isStr nm' = false := by rw [hy, hxy]; simp [Value.isStr, hne]
      simp [this]
    · have ih := putL_find2 (nm := nm) (nm' := nm') (hsh := hsh) (t := t) (v := v) hne r fun e he => hk e (.tail _ he)
      cases hx : x.key.isStr nm' with
      | true => simp [hx]
      | false => simp [hx, ih]

section
variable {D : Dt} {A : Around} {G : St} {F : Fx} {s : Shared} {E : Value → Shared → Prop}
theorem set_attr {C i a d : Nat} {es : List DictEntry} {n : Nat} {w : Value} {Q : Unit → Shared → Prop} (hS : SetOk C i) (W : Wd D s.heap G F) (h1 : s.heap.get? a = some (insObj C d)) (h2 : s.heap.get? d = some (dictOf es n))
    (hk : ∀ e ∈ es, ∃ x t, e.key = .str x t) (ha : es.any (·.key.isStr (attrOf i)) = true) (hz : es.length ≤ 20)
    (hQ : ∀ h' hsh tk n', h'.get? d = some (dictOf (putL (attrOf i) hsh (.str (attrOf i) tk) w es) n') → Heap.SameBut d s.heap h' → Q () { s with heap := h', toks := s.toks + 2 }) :
    wpAny (model prog D.w) A (setAttr (.ref a) (attrOf i) w) Q E s := by
  have X := W.K
  have I := inst_at h1 h2
  refine set_plain X I (hS.set _) ?_
  refine osa_open (s := { s with toks := s.toks + 1 }) X I (hS.over _) (hS.take _) fun b => ?_
  obtain ⟨cd, hc, hd'⟩ := any_some (hS.dict D.w.params)
  dsimp only
  have X1 : (Mine.hk D.w.params).In ({ s with toks := s.toks + 1 } : Shared).heap := X
  refine wpAny_bind (wpAny_pure (wpAny_bind (wpAny_bind (wpAny_loadPart h1 (wpAny_bind ((looks_clsIn (M := model prog D.w) X1 hc).here (s := { s with toks := s.toks + 1 }) ?_))))))
  rw [hd']
  refine wpAny_pure (a := some d) (wpAny_bind (wpAny_pure (wpAny_bind ?_)))
  unfold nsSet
  refine wpAny_bind (wpAny_bind (wpAny_askSetting (wpAny_pure (wpAny_bind (wpAny_mkText (wpAny_bind (wpAny_loadPart h2 ?_)))))))
  dsimp only
  have c : (!(es.toArray).any (·.key.isStr (attrOf i)) && (es.toArray).any (·.refKey)) = false := by
    rw [← Array.any_toList, List.toList_toArray, ha]; rfl
  rw [aRefKeyMayBeTheName_at, c]
  refine wpAny_updatePart h2 ?_
  have hg := Heap.get?_update_self (Obj.putName (attrOf i) (PyData.keyHash D.w.params (attrOf i)) (.str (attrOf i) (s.toks + 1)) w) h2 (by rw [putName_dict]; rfl)
  rw [putName_dict] at hg
  refine wpAny_bind (wpAny_lookBehind hg (pastItsLine_dict (by rw [List.size_toArray, putL_len ha, sizeLine_eq]; omega)) ?_)
  exact wpAny_pure (hQ _ _ _ _ hg (Heap.SameBut.update ..))
end

section
variable {Γ : Ctx} {b : Nat} {p : Pos} {o : PySem.Expr} {co : CE}
noncomputable def gattr (C i : Nat) (co : CE) : CG := fun v loc cel σ n => co loc cel σ (fun a σ1 => match a with
  | .ins C' d => (match Nat.beq C' C with
    | true => (match nth σ1 d with
      | some ob => (match ob with
        | .dct fs => (match flook fs i with
          | some _ => (match fs.all fun q => Nat.blt q.1 7 with | true => n loc (σ1.set d (.dct (fset fs i v))) | false => false)
          | none => false)
        | _ => false)
      | none => false)
    | false => false)
  | _ => false) dead
theorem tg_attr (C i : Nat) {nm : Str} (hS : SetOk C i) (hi : i < 7) (hnm : nm = attrOf i) (ho : SE Γ b o co) : TG Γ b (.Attribute o nm p) (gattr C i co) := fun {D A env s G F loc cel v w n Q E} h hr hc hn => by
  subst hnm
  show wpAny _ _ (do
    let ov ← holding [w] (eval o env)
    standAt p.atName
    holding [w, ov] (setAttr ov (attrOf i) w)
    release [w, ov] []) Q E s
  refine wpAny_bind (wpAny_holding (ho h hc (fun a s1 G1 wa c1 w1 l1 r1 m1 => ?_) px_dead))
  refine wpAny_bind (wpAny_standAt (wpAny_bind (wpAny_holding ?_)))
  split at c1
  · rename_i C' d
    split at c1
    · rename_i hcc
      have hcc := Nat.eq_of_beq_eq_true hcc
      subst hcc
      split at c1
      · rename_i ob hs
        split at c1
        · rename_i fs
          split at c1
          · rename_i v0 hf
            split at c1
            · rename_i hall
              rw [nth_eq] at hs
              cases r1 with | ins e1 e2 =>
              rename_i aI dI
              obtain ⟨d', qq, oo⟩ := w1.ob _ _ hs
              rw [e2] at qq; cases qq
              cases oo with | dct hg hk hl hrel =>
              rename_i es n0
              rw [flook_eq] at hf
              obtain ⟨w0, g1, g2⟩ := hrel _ _ hf
              have hany : es.any (·.key.isStr (attrOf i)) = true := by
                unfold getL at g1
                split at g1
                · rename_i en hen
                  exact List.any_eq_true.mpr ⟨en, List.mem_of_find?_eq_some hen, List.find?_some (p := fun x : DictEntry => x.key.isStr (attrOf i)) hen⟩
                · split at g1 <;> cases g1
              have hkey : ∀ e ∈ es, ∃ x t, e.key = .str x t := fun e he => let ⟨j, t, _, q⟩ := hk e he; ⟨_, t, q⟩
              refine set_attr hS w1 (w1.tl _ e1) hg hkey hany hl fun h' hsh tk n' hg' hs' => ?_
              have hO : OR G1 h' dI (.dct (fset fs i v)) := by
                refine .dct hg' (fun e he => ?_) (by rw [putL_len hany]; exact hl) fun j u hu => ?_
                · rcases putL_mem he with ⟨e', h1, h2⟩ | h1
                  · obtain ⟨j, t, h3, h4⟩ := hk e' h1
                    exact ⟨j, t, h3, h2 ▸ h4⟩
                  · exact ⟨i, _, hi, h1⟩
                · rw [← flook_eq] at hu
                  rcases flook_fset fs i j v u hu with ⟨rfl, rfl⟩ | ⟨hne, hu⟩
                  · obtain ⟨e, q1, q2⟩ := putL_find1 (nm := attrOf i) (hsh := hsh) (t := tk) (v := w) es
                    refine ⟨w, ?_, hr.mono l1⟩
                    unfold getL
                    rw [q1]
                    exact congrArg (fun z => some (some z)) q2
                  · rw [flook_eq] at hu
                    obtain ⟨wu, q1, q2⟩ := hrel _ _ hu
                    have hj : j < 7 := by
                      have := List.all_eq_true.mp hall (j, u) (mem_of_lookupN hu)
                      exact Nat.le_of_ble_eq_true this
                    have hq := putL_find2 (nm := attrOf i) (nm' := attrOf j) (hsh := hsh) (t := tk) (v := w) (fun z => hne (attr_inj hi hj z)) es hkey
                    refine ⟨wu, ?_, q2⟩
                    unfold getL at q1 ⊢
                    split at q1
                    · rename_i en hen
                      rw [hen] at hq
                      cases hp : List.find? (fun x => x.key.isStr (attrOf j)) (putL (attrOf i) hsh (.str (attrOf i) tk) w es) with
                      | none => rw [hp] at hq; cases hq
                      | some en2 =>
                        rw [hp] at hq
                        simp only [Option.map_some, Option.some.injEq] at hq q1
                        dsimp only
                        rw [hq, q1]
                    · split at q1 <;> cases q1
              have W := w1.updS e2 hs' hO
              refine wpAny_release ?_
              exact hn { s1 with heap := h', toks := s1.toks + 2 } { G1 with σ := G1.σ.set d (.dct (fset fs i v)) } F loc c1 h.fr1 (h.step W (l1.trans (Le.setS G1 _))) (l1.trans (Le.setS G1 _)) ⟨m1.g, m1.d, m1.o⟩
            · cases c1
          · cases c1
        · cases c1
      · cases c1
    · cases c1
  · cases c1
end
end Mine
open PySem PySem.W PyProof.Rows PySem.Calls PySem.Spec
set_option Elab.async false
set_option maxRecDepth 100000
set_option linter.unusedSimpArgs false
set_option linter.unusedVariables false
namespace Mine

/-- a new exception is the value; nothing has been noted on it -/
noncomputable def PB (D : Dt) (F : Fx) (G : St) (s : Shared) (x : KV) (Q : Value → Shared → Prop) : Prop :=
  ∀ v s' G' e vs, x v G'.σ = true → Wd D s'.heap G' F → Le G G' → Flies D s'.heap G' F e v vs → vs[1]? = some .none → Same s s' → Q (.ref e) s'
theorem PB.step {D : Dt} {F : Fx} {G G' : St} {s s' : Shared} {k : KV} {Q : Value → Shared → Prop} (h : PB D F G s k Q) (l : Le G G') (m : Same s s') : PB D F G' s' k Q :=
  fun v s2 G2 e vs a b c d t m2 => h v s2 G2 e vs a b (l.trans c) d t (m.trans m2)

noncomputable def SXE (Γ : Ctx) (b : Nat) (e : PySem.Expr) (c : CE) : Prop :=
  ∀ {D : Dt} {A : Around} {env : Env} {s : Shared} {G : St} {F : Fx} {loc : Loc} {cel : List Nat} {k x : KV} {Q E : Value → Shared → Prop},
    At D Γ b A env s G F loc cel → c loc cel G.σ k x = true → PB D F G s k Q → PX D F G s env.frame x E → wpAny (model prog D.w) A (eval e env) Q E s
structure SXF (b : Nat) (f : Addr) (c : CF) : Prop where
  run : ∀ {D : Dt} {A : Around} {s : Shared} {G : St} {F : Fx} {vs : List V} {ws : List Value} {k x : KV} {Q E : Value → Shared → Prop},
    AOK A b F → Wd D s.heap G F → VRs G vs ws → c vs G.σ k x = true → PB D F G s k Q → PX D F G s none x E → wpAny (model prog D.w) A (call (.ref f) ws) Q E s
theorem SXF.up {b k : Nat} {f : Addr} {c : CF} (h : SXF b f c) : SXF (b + k) f c := ⟨fun a => h.run a.down⟩

theorem Flies.sub {D : Dt} {h : Heap} {G : St} {F F' : Fx} {e : Addr} {v : V} {vs : Array Value} (x : Flies D h G F e v vs) (hs : ∀ a, a ∈ dom G F' → a ∈ dom G F) : Flies D h G F' e v vs :=
  ⟨x.ob, x.sz, fun q => x.out.d (hs _ q), x.out.b, x.out.t⟩
theorem dom_pop {G : St} {F : Fx} {p : Addr × (Str → Option Value)} {e : List Env} : ∀ a, a ∈ dom G F → a ∈ dom G ⟨F.pr, p :: F.fr, e⟩ := fun a ha => by
  unfold dom at ha ⊢
  simp only [List.map_cons, List.mem_append, List.mem_cons] at ha ⊢
  rcases ha with h1 | h2 | h3 | h4
  · exact .inl h1
  · exact .inr (.inl h2)
  · exact .inr (.inr (.inl h3))
  · exact .inr (.inr (.inr (.inr h4)))

section
variable {Γ : Ctx} {b : Nat} {p q : Pos} {x : Str}
theorem sxe_call {f : Addr} {e : PySem.Expr} {es : List PySem.Expr} {cs : CEs} {c : CF} (hF : SXF b f c) (hv : Glb x (.ref f)) (hf : ∀ P, keepIn (hk P) (.ref f) = true) (hs : SEs Γ b (e :: es) cs) (hk : Γ.names.lookup x = some .globalImplicit) (hd : (x == ("__debug__" : Str)) = false)
    (hst : ∀ env, starEach (e :: es) env = (false, eval e env) :: starEach es env) (hpl : ∀ env, (backTo p (starEach es env)).any (·.1) = false) : SXE Γ b (.Call (.Name x q) (e :: es) [] p) (ccall cs c) := fun {D A env s G F loc cel k x' Q E} h hc hq hx => by
  refine Call_Name rfl (name_glob h hk hd hv ?_)
  refine callWith_K (h₀ := D.base) D.K (hf _) ?_ (hst _) (hpl _)
  refine hs p h hc (fun vs s1 G1 ws c1 w1 l1 r1 m1 => ?_) hx
  exact ⟨w1.K, hF.run h.a w1 r1 c1 (hq.step l1 m1) (PX.weak (hx.step l1 m1))⟩
/-- the same of what gives a plain value: a class's call too -/
theorem se_callK {f : Addr} {e : PySem.Expr} {es : List PySem.Expr} {cs : CEs} {c : CF} (hF : SF b f c) (hv : Glb x (.ref f)) (hf : ∀ P, keepIn (hk P) (.ref f) = true) (hs : SEs Γ b (e :: es) cs) (hk : Γ.names.lookup x = some .globalImplicit) (hd : (x == ("__debug__" : Str)) = false)
    (hst : ∀ env, starEach (e :: es) env = (false, eval e env) :: starEach es env) (hpl : ∀ env, (backTo p (starEach es env)).any (·.1) = false) : SE Γ b (.Call (.Name x q) (e :: es) [] p) (ccall cs c) := fun {D A env s G F loc cel k x' Q E} h hc hq hx => by
  refine Call_Name rfl (name_glob h hk hd hv ?_)
  refine callWith_K (h₀ := D.base) D.K (hf _) ?_ (hst _) (hpl _)
  refine hs p h hc (fun vs s1 G1 ws c1 w1 l1 r1 m1 => ?_) hx
  exact ⟨w1.K, hF.run h.a w1 r1 c1 (hq.step l1 m1) (PX.weak (hx.step l1 m1))⟩
theorem se_callK0 {f : Addr} {c : CF} (hF : SF b f c) (hv : Glb x (.ref f)) (hf : ∀ P, keepIn (hk P) (.ref f) = true) (hk : Γ.names.lookup x = some .globalImplicit) (hd : (x == ("__debug__" : Str)) = false) :
    SE Γ b (.Call (.Name x q) [] [] p) (fun _ _ σ k x => c [] σ k x) := fun {D A env s G F loc cel k x' Q E} h hc hq hx => by
  refine Call_Name rfl (name_glob h hk hd hv ?_)
  exact callWith_K0 h.w.K (hf _) (hF.run h.a h.w .nil hc hq (PX.weak hx))
end

noncomputable def cfunx (n : Nat) (li ci : List (Option Nat)) (c : CE) : CF := fun vs σ k x => match Nat.beq vs.length n with
  | true => c (picks vs li) (upto σ.length ci) (σ ++ pickc vs ci) k x
  | false => false
theorem sxf_intro {b : Nat} {f : Addr} {name qual : Str} {params : Arguments} {e : PySem.Expr} {p : Pos} {names : List (Str × NameKind)} {more : List (Str × PySem.Const)} {dV kV doc pm cdv ct oc : Value} {an od : Option Addr} {osl : Array (Option Value)}
    (ps ls cs : List Str) (li ci : List (Option Nat)) {c : CE}
    (hK : ∀ P, (hk P).lookup f = some ⟨oc, od, .func (fnOf name qual params [.Return (some e) p] { kind := .function, names := names, isGenerator := false, isCoroutine := false, more := more } dV kV doc pm an cdv ct), osl⟩)
    (hcd : ∀ P, codeIn (hk P) cdv qual = true)
    (hb : ∀ ws : List Value, ws.length = ps.length → bindArgs (fnOf name qual params [.Return (some e) p] { kind := .function, names := names, isGenerator := false, isCoroutine := false, more := more } dV kV doc pm an cdv ct) ⟨ws, []⟩ = pure (ps.zip ws))
    (hl : laidB names ps ls cs li ci = true) (hbody : SXE ⟨names, ls, cs, some cdv⟩ b e c) : SXF (b + 1) f (cfunx ps.length li ci c) := ⟨fun {D A s G F vs ws k x Q E} ha hw hr hc hq hx => by
  unfold cfunx at hc
  split at hc
  case h_2 => cases hc
  rename_i hlen
  have hlen := Nat.eq_of_beq_eq_true hlen
  refine call_core ps ls cs li ci hK hcd hl ha hw hr hlen (hb ws (by rw [hr.length, hlen])) fun env s' as hat L3 m3 hfr Q' E' q1 q2 q3 => ?_
  refine wpAny_execs_cons (wpAny_Return_some (hbody hat hc (fun v s2 G2 e vs c2 W l2 fl t m2 => ?_) (fun v s2 G2 e c2 W l2 fl m2 => ?_)))
  · exact q1 _ _ (hq v s2 G2 e vs c2 (Wd.popFr W fun e he => hw.fe e he) (L3.trans l2) (fl.sub dom_pop) t (m3.trans m2))
  · refine q3 _ _ (leave_ok (e0 := env) (r := F.fe) (A := A.deeper env) W (Around.frames_deeper ha.f) rfl rfl hfr fl fun h9 W9 fl9 => ?_)
    exact hx v { s2 with heap := h9 } G2 e c2 (Wd.popFr W9 fun e he => hw.fe e he) (L3.trans l2) (fl9.sub dom_pop) ⟨(m3.trans m2).g, (m3.trans m2).d, (m3.trans m2).o⟩⟩
end Mine
open PySem PySem.W PyProof.Rows PySem.Calls PySem.Spec
set_option Elab.async false
set_option maxRecDepth 100000
set_option linter.unusedSimpArgs false
set_option linter.unusedVariables false
namespace Mine

theorem sub71 (P : Params) : mroIn (hk P) 71 (.type "BaseException") = some true := by kernel_rfl
theorem obj71 (P : Params) : ∃ cd dd sl, (hk P).lookup 71 = some ⟨.type "type", dd, .cls cd, sl⟩ := ⟨_, _, _, rfl⟩

section
variable {D : Dt} {A : Around} {G : St} {F : Fx} {s : Shared} {E : Value → Shared → Prop} {env : Env}
theorem raise_ok {x : Sem Value} {Q : Flow → Shared → Prop} (hh : A.handled = none)
    (h : wpAny (model prog D.w) A x (fun r s1 => ∃ e v vs G F, r = .ref e ∧ Wd D s1.heap G F ∧ Flies D s1.heap G F e v vs ∧ vs[1]? = some .none ∧ E (.ref e) s1) E s) : wpAny (model prog D.w) A (raiseStmt env (some x) none) Q E s := by
  unfold raiseStmt
  refine wpAny_bind (wpAny_mono h (fun r s1 h1 => ?_) fun _ _ q => q)
  obtain ⟨e, v, vs, G, F, rfl, W, fl, ht, hE⟩ := h1
  obtain ⟨d, sl, es, n, w, he, _⟩ := fl.ob
  obtain ⟨cd, dd, csl, hC⟩ := obj71 D.w.params
  have hC := W.K _ _ hC
  have hsub : Looks (model prog D.w) s1.heap (isSubtype (.ref 71) (.type "BaseException")) true := looks_mroIn W.K (sub71 _)
  obtain ⟨hp, g, dr, tk, os⟩ := s1
  repeat (first | with_reducible refine wpAny_loadPart_at he ?_ | with_reducible refine wpAny_loadPart_at hC ?_ | with_reducible refine hsub.here ?_ | wp_step)
  rw [ht]
  refine wpAny_pure ?_
  rw [if_neg (by decide)]
  exact wpAny_pure (wpAny_raiseNew_none hh hE)
end
noncomputable def craise (c : CE) : CS := fun loc cel σ _ _ x => c loc cel σ x x
section
variable {Γ : Ctx} {b : Nat} {p : Pos}
theorem ss_raise {e : PySem.Expr} {c : CE} (h1 : SXE Γ b e c) : SS Γ b (.Raise (some e) none p) (craise c) := fun {D A env s G F loc cel n k x Q E} h hc hn hr hx => by
  rw [arm_exec_Raise]
  refine wpAny_bind (wpAny_standAt (raise_ok h.a.h (wpAny_bind (h1 h hc (fun v s1 G1 e vs c1 w1 l1 fl t m1 => ?_) (hx F h.fr1)))))
  exact wpAny_bind (wpAny_standAt (wpAny_pure ⟨e, v, vs, G1, F, rfl, w1, fl, t, hx F h.fr1 v s1 G1 e c1 w1 l1 (Fly.bare fl t) m1⟩))
end
end Mine
open PySem PySem.W PyProof.Rows PySem.Calls PySem.Spec Builtin Builtin.ObjectAttr
set_option Elab.async false
set_option maxRecDepth 100000
set_option linter.unusedSimpArgs false
set_option linter.unusedVariables false
namespace Mine

/-- a class whose things take an field into their own dict -/
structure SetC (C : Addr) (nm : Str) : Prop where
  set : ∀ P, findIn (hk P) (.ref C) "__setattr__" = some (some (.builtin "object.__setattr__"))
  over : ∀ P, ∃ cd, clsIn (hk P) C = some cd ∧ (∀ self, refuseLoop self "__setattr__" cd.mro = pure ()) ∧ cd.mro.contains (.type "object") = true ∧ cd.mro.isEmpty = false ∧ cd.hasDict = true
  take : ∀ P, takerIn (hk P) C nm = some none

section
variable {w : World} {A : Around} {s : Shared} {E : Value → Shared → Prop} {C x d : Addr} {ox : Obj} {od : Option Obj} {nm : Str} {v : Value} {Q : Unit → Shared → Prop}
theorem set_open (X : (hk w.params).In s.heap) (hS : SetC C nm) (I : InstAt s.heap x ox C od)
    (h : ∀ b tk, wpAny (model prog w) A.in1 (storeInOwnDict (.ref x) (.ref C) (.str nm tk) nm v b) (fun fin s' => match fin with | .done (.ret _) => Q () s' | _ => False) (fun e s' => E e s') { s with toks := s.toks + 1 }) :
    wpAny (model prog w) A (setAttr (.ref x) nm v) Q E s := by
  refine set_plain X I (hS.set _) ?_
  have SF := PySem.F.store_object
  obtain ⟨cd, hc, hpass, hobj, hne, hdict⟩ := hS.over w.params
  have sub : Looks (model prog w) s.heap (isInstance (.ref x) (.type "object")) true := I.type.andThen (looks_mroIn X (by unfold mroIn; rw [hc, Option.bind_some, if_neg (by rw [hne]; decide), hobj]))
  refine codeAny_call_builtin SF.slot.plain SF.entry (@check_slot (model prog w) _ _ { s with toks := s.toks + 1 } "object.__setattr__" "object" "__setattr__" (.ref x) [.str nm s.toks, v] [] _ SF.kind SF.split sub (SF.args (.ref x) (.str nm s.toks) v) ?_)
  obtain ⟨attr, ha, hr⟩ := Option.bind_eq_some_iff.mp (hS.take w.params)
  have hm : Looks (model prog w) s.heap (mroOf (.ref C)) cd.mro := (looks_clsIn X hc).andThen .now
  have L3 : Looks (model prog w) s.heap (storeTaker? attr) none := by
    cases attr with
    | none => exact .now
    | some a =>
      obtain ⟨b, hb, hb2⟩ := Option.map_eq_some_iff.mp hr
      refine (looks_takesIn X hb).andThen ?_
      cases b with
      | false => exact .now
      | true => cases hb2
  rw [osa_eq, refuse_eq]
  refine wpAny_bind (wpAny_bind (I.type.here (s := { s with toks := s.toks + 1 }) (wpAny_bind (hm.here (s := { s with toks := s.toks + 1 }) ?_))))
  rw [hpass]
  refine wpAny_pure (wpAny_bind (I.type.here (s := { s with toks := s.toks + 1 }) (wpAny_bind ((looks_findIn X ha).here (s := { s with toks := s.toks + 1 }) (wpAny_bind (L3.here (s := { s with toks := s.toks + 1 }) ?_))))))
  refine wpAny_mono (h attr.isSome s.toks) (fun fin s' q => ?_) (fun e s' q => q)
  cases fin with
  | done f => cases f <;> first | exact q | exact q.elim
  | again c => exact q.elim

theorem put_dict {es : List DictEntry} {n : Nat} {tk : Tok} {R : Fin → Shared → Prop} (h2 : s.heap.get? d = some (dictOf es n)) (hk : ∀ e ∈ es, ∃ x t, e.key = .str x t) (hz : es.length ≤ 20)
    (hQ : ∀ h' hsh tk n', h'.get? d = some (dictOf (putL nm hsh (.str nm tk) v es) n') → Heap.SameBut d s.heap h' → R (.done (.ret .none)) { s with heap := h', toks := s.toks + 1 }) :
    wpAny (model prog w) A (storeInDict d (.str nm tk) nm v) R E s := by
  unfold storeInDict newKeyGuard
  refine wpAny_bind (wpAny_pure (wpAny_bind ?_))
  unfold nsSet
  refine wpAny_bind (wpAny_bind (wpAny_askSetting (wpAny_pure (wpAny_bind (wpAny_mkText (wpAny_bind (wpAny_loadPart h2 ?_)))))))
  dsimp only
  have c : (!(es.toArray).any (·.key.isStr nm) && (es.toArray).any (·.refKey)) = false := by
    have : (es.toArray).any (·.refKey) = false := by
      rw [← Array.any_toList, List.toList_toArray, List.any_eq_false]
      intro e he
      obtain ⟨x, t, q⟩ := hk e he
      simp [DictEntry.refKey, q]
    rw [this, Bool.and_false]
  rw [aRefKeyMayBeTheName_at, c]
  refine wpAny_updatePart h2 ?_
  have hg := Heap.get?_update_self (Obj.putName nm (PyData.keyHash w.params nm) (.str nm s.toks) v) h2 (by rw [putName_dict]; rfl)
  rw [putName_dict] at hg
  refine wpAny_bind (wpAny_lookBehind hg (pastItsLine_dict ?_) ?_)
  · have : ∀ es : List DictEntry, (putL nm (PyData.keyHash w.params nm) (.str nm s.toks) v es).length ≤ es.length + 1 := by
      intro es
      induction es with
      | nil => simp [putL]
      | cons e r ih =>
        unfold putL
        split
        · simp
        · simp only [List.length_cons]; omega
    have := this es
    rw [List.size_toArray, sizeLine_eq]; omega
  · exact wpAny_pure (hQ _ _ _ _ hg (Heap.SameBut.update ..))

/-- into a dict that stands -/
theorem set_inst {es : List DictEntry} {n : Nat} (X : (hk w.params).In s.heap) (hS : SetC C nm) (h1 : s.heap.get? x = some ox) (hc : ox.cls = .ref C) (hno : notCls ox = true) (hd : ox.dict = some d) (h2 : s.heap.get? d = some (dictOf es n)) (hk : ∀ e ∈ es, ∃ x t, e.key = .str x t) (hz : es.length ≤ 20)
    (hQ : ∀ h' hsh tk n', h'.get? d = some (dictOf (putL nm hsh (.str nm tk) v es) n') → Heap.SameBut d s.heap h' → Q () { s with heap := h', toks := s.toks + 2 }) : wpAny (model prog w) A (setAttr (.ref x) nm v) Q E s := by
  have I : InstAt s.heap x ox C (some (dictOf es n)) := ⟨h1, hc, hno, by rw [hd]; exact h2⟩
  refine set_open X hS I fun b tk => ?_
  obtain ⟨cd, hcl, _, _, _, hdict⟩ := hS.over w.params
  obtain ⟨oc, odi, oda, osl⟩ := ox
  dsimp only at hc hd
  subst hc hd
  refine wpAny_bind (wpAny_pure (wpAny_bind (wpAny_bind (wpAny_loadPart h1 (wpAny_bind ((looks_clsIn (M := model prog w) X hcl).here (s := { s with toks := s.toks + 1 }) ?_))))))
  rw [hdict]
  refine wpAny_pure (a := some d) ?_
  exact put_dict (s := { s with toks := s.toks + 1 }) h2 hk hz fun h' hsh tk n' a b => hQ h' hsh tk n' a b
/-- the first one: the dict is made -/
theorem set_inst0 (X : (hk w.params).In s.heap) (hS : SetC C nm) (h1 : s.heap.get? x = some ox) (hc : ox.cls = .ref C) (hno : notCls ox = true) (hd : ox.dict = none)
    (hQ : ∀ h' hsh tk n', h'.get? s.heap.objs.size = some (dictOf [⟨hsh, .str nm tk, v⟩] n') → h'.get? x = some { ox with dict := some s.heap.objs.size } → (∀ b o, b ≠ x → s.heap.get? b = some o → h'.get? b = some o) → Q () { s with heap := h', toks := s.toks + 2 }) : wpAny (model prog w) A (setAttr (.ref x) nm v) Q E s := by
  have I : InstAt s.heap x ox C none := ⟨h1, hc, hno, by rw [hd]; trivial⟩
  refine set_open X hS I fun b tk => ?_
  obtain ⟨cd, hcl, _, _, _, hdict⟩ := hS.over w.params
  obtain ⟨oc, odi, oda, osl⟩ := ox
  dsimp only at hc hd
  subst hc hd
  refine wpAny_bind (wpAny_pure (wpAny_bind (wpAny_bind (wpAny_loadPart h1 (wpAny_bind ((looks_clsIn (M := model prog w) X hcl).here (s := { s with toks := s.toks + 1 }) ?_))))))
  rw [hdict]
  have hx1 := Heap.get?_push_of_some { cls := .type "dict", data := .dict #[] } h1
  have hxs : x ≠ s.heap.objs.size := Nat.ne_of_lt (Heap.lt_size h1)
  have hfr : (⟨.ref C, some s.heap.objs.size, oda, osl⟩ : Obj).isFreed = false := by
    have := (Heap.get?_some_iff.mp h1).2
    cases oda <;> first | rfl | exact this
  show wpAny _ _ (match oda with | .cls c => pure none | _ => do
                let d ← alloc { cls := Value.type "dict", data := Data.dict #[] }
                update x fun o => { cls := o.cls, dict := some d, data := o.data, slots := o.slots }
                dictMade (.ref C) x d) _ _ _
  have key : wpAny (model prog w) A.in1 (do
                let d ← alloc { cls := Value.type "dict", data := Data.dict #[] }
                update x fun o => { cls := o.cls, dict := some d, data := o.data, slots := o.slots }
                dictMade (.ref C) x d) (fun a s' =>
      wpAny (model prog w) A.in1
        (match a with
        | some d => storeInDict d (Value.str nm tk) nm v
        | none => noDictFor (Value.ref x) (Value.ref C) nm b)
        (fun fin s' =>
          match fin with
          | Fin.done (Flow.ret v) => Q () s'
          | x => False)
        (fun e s' => E e s') s')
    (fun e s' => E e s') { s with toks := s.toks + 1 } := by
    refine wpAny_bind (wpAny_alloc (wpAny_bind (wpAny_update' hx1 (wpAny_pure ?_))))
    have hxg := Heap.get?_update_self (fun o => { cls := o.cls, dict := some s.heap.objs.size, data := o.data, slots := o.slots }) hx1 hfr
    have hdg : ((s.heap.push { cls := .type "dict", data := .dict #[] }).update x fun o => { cls := o.cls, dict := some s.heap.objs.size, data := o.data, slots := o.slots }).get? s.heap.objs.size = some (dictOf [] 0) :=
      (Heap.get?_update_ne _ _ _ _ hxs.symm).trans (Heap.get?_push_at rfl rfl)
    refine put_dict (s := ⟨_, _, _, _, _⟩) (es := []) (n := 0) hdg (fun e he => by cases he) (by simp) fun h' hsh tk n' a b => ?_
    refine hQ h' hsh tk n' a (b.2 _ hxs |>.trans hxg) fun c o hc ho => (b.2 _ (Nat.ne_of_lt (Heap.lt_size ho))).trans ((Heap.get?_update_ne _ _ _ _ hc).trans (Heap.get?_push_of_some _ ho))
  split
  · cases hno
  · exact key
end
end Mine
open PySem PySem.W PyProof.Rows PySem.Calls PySem.Spec
set_option Elab.async false
set_option maxRecDepth 100000
set_option linter.unusedSimpArgs false
set_option linter.unusedVariables false
namespace Mine

/-- a frame's own name, its very value -/
theorem own_name {D : Dt} {Γ : Ctx} {b : Nat} {A : Around} {env : Env} {s : Shared} {G : St} {F : Fx} {loc : Loc} {cel : List Nat} {y : Str} {p : Pos} {m : Str → Option Value} {rest : List (Addr × (Str → Option Value))} {v : Value} {Q E : Value → Shared → Prop}
    (h : At D Γ b A env s G F loc cel) (hm : F.fr = (env.locals, m) :: rest) (hv : m y = some v) (hk : Γ.names.lookup y = some .local) (hd : (y == ("__debug__" : Str)) = false) (hq : Q v s) : wpAny (model prog D.w) A (eval (.Name y p) env) Q E s :=
  wpAny_Name (wpAny_loadName_local h.e.kind ((kindOf_of h.e _).trans hk) (h.w.fr (env.locals, m) (by rw [hm]; exact .head _)) hv hq) hd

/-- an thing is being made: it and its dict are the maker's own -/
structure Ini (D : Dt) (Γ : Ctx) (b : Nat) (A : Around) (env : Env) (s : Shared) (G : St) (F : Fx) (loc : Loc) (cel : List Nat) (x : Addr) (pr : List (Addr × Obj)) : Prop where
  at_ : At D Γ b A env s G F loc cel
  pr : F.pr = pr
  self : ∃ m rest, F.fr = (env.locals, m) :: rest ∧ m "self" = some (.ref x)

noncomputable def StrL (es : List DictEntry) : Prop := ∀ e ∈ es, ∃ x t, e.key = .str x t
theorem StrL.put {nm : Str} {hsh : Int} {t : Tok} {v : Value} : ∀ {es : List DictEntry}, StrL es → StrL (putL nm hsh (.str nm t) v es)
  | [], _ => fun e he => by
    simp [putL] at he; subst he; exact ⟨_, _, rfl⟩
  | x :: r, h => fun e he => by
    unfold putL at he
    split at he
    · rcases List.mem_cons.mp he with rfl | he
      · exact h x (.head _)
      · exact h e (.tail _ he)
    · rcases List.mem_cons.mp he with rfl | he
      · exact h _ (.head _)
      · exact StrL.put (fun e he => h e (.tail _ he)) e he

section
variable {D : Dt} {Γ : Ctx} {b : Nat} {A : Around} {env : Env} {s : Shared} {G : St} {F : Fx} {loc : Loc} {cel : List Nat} {x d C : Addr} {ox : Obj} {pr : List (Addr × Obj)} {es : List DictEntry} {n : Nat} {nm : Str} {e : PySem.Expr} {c : CE} {p q1 q2 : Pos} {k : KV}
  {Q : Flow → Shared → Prop} {E : Value → Shared → Prop}
theorem ini_set (h : Ini D Γ b A env s G F loc cel x ((d, dictOf es n) :: (x, ox) :: pr)) (hS : SetC C nm) (hc : ox.cls = .ref C) (hno : notCls ox = true) (hd : ox.dict = some d) (hes : StrL es) (hz : es.length ≤ 20)
    (he : SE Γ b e c) (hself : Γ.names.lookup ("self" : Str) = some .local) (hs : swapsWithSole [.Attribute (.Name "self" q1) nm q2] e p.line env = pure false)
    (hw : swappedStores [.Attribute (.Name "self" q1) nm q2] e env = pure none) (hst : (assignEach [.Attribute (.Name "self" q1) nm q2] env).map (·.2) = [assign (.Attribute (.Name "self" q1) nm q2) env])
    (hc' : c loc cel G.σ k dead = true)
    (hn : ∀ v w s' G' F' hsh tk n', k v G'.σ = true → VR G' v w → Le G G' → Same s s' → F'.fr = F.fr → F'.fe = F.fe → Ini D Γ b A env s' G' F' loc cel x ((d, dictOf (putL nm hsh (.str nm tk) w es) n') :: (x, ox) :: pr) → Q .next s') :
    wpAny (model prog D.w) A (exec (.Assign [.Attribute (.Name "self" q1) nm q2] e p) env) Q E s := by
  obtain ⟨hat, hpr, m, rest, hfr, hm⟩ := h
  refine wpAny_Assign_stores (he hat hc' (fun v s1 G1 w c1 w1 l1 r1 m1 => ?_) px_dead) hs hw
  rw [hst]
  have a1 := hat.step w1 l1
  refine wpAny_bind ?_
  refine (wpAny_holding (own_name a1 hfr hm hself (by decide) ?_))
  refine wpAny_bind (wpAny_standAt (wpAny_bind (wpAny_holding ?_)))
  have h1 := w1.pr (x, ox) (by rw [hpr]; exact .tail _ (.head _))
  have h2 := w1.pr (d, dictOf es n) (by rw [hpr]; exact .head _)
  refine set_inst w1.K hS h1 hc hno hd h2 hes hz fun h' hsh tk n' hg hsame => ?_
  refine wpAny_release ?_
  have W0 : Wd D s1.heap G1 ⟨[] ++ (d, dictOf es n) :: ((x, ox) :: pr), F.fr, F.fe⟩ := by
    have : F = ⟨(d, dictOf es n) :: (x, ox) :: pr, F.fr, F.fe⟩ := by rw [← hpr]
    rw [List.nil_append, ← this]; exact w1
  have W : Wd D h' G1 ⟨(d, dictOf (putL nm hsh (.str nm tk) w es) n') :: (x, ox) :: pr, F.fr, F.fe⟩ := Wd.updPr (pr := []) W0 (fun b ob hb q => (hsame.2 b hb).trans q) hg
  exact hn v w { s1 with heap := h', toks := s1.toks + 2 } G1 ⟨(d, dictOf (putL nm hsh (.str nm tk) w es) n') :: (x, ox) :: pr, F.fr, F.fe⟩ hsh tk n' c1 r1 l1 ⟨m1.g, m1.d, m1.o⟩ rfl rfl ⟨At.pr (s' := { s1 with heap := h', toks := s1.toks + 2 }) a1 W (Le.refl _), rfl, ⟨m, rest, hfr, hm⟩⟩

/-- the first store of an exception: its dict is made -/
theorem ini_set0 (h : Ini D Γ b A env s G F loc cel x ((x, ox) :: pr)) (hS : SetC C nm) (hc : ox.cls = .ref C) (hno : notCls ox = true) (hd : ox.dict = none)
    (he : SE Γ b e c) (hself : Γ.names.lookup ("self" : Str) = some .local) (hs : swapsWithSole [.Attribute (.Name "self" q1) nm q2] e p.line env = pure false)
    (hw : swappedStores [.Attribute (.Name "self" q1) nm q2] e env = pure none) (hst : (assignEach [.Attribute (.Name "self" q1) nm q2] env).map (·.2) = [assign (.Attribute (.Name "self" q1) nm q2) env])
    (hc' : c loc cel G.σ k dead = true)
    (hn : ∀ v w s' G' F' d hsh tk n', k v G'.σ = true → VR G' v w → Le G G' → Same s s' → F'.fr = F.fr → F'.fe = F.fe → Ini D Γ b A env s' G' F' loc cel x ((d, dictOf [⟨hsh, .str nm tk, w⟩] n') :: (x, { ox with dict := some d }) :: pr) → Q .next s') :
    wpAny (model prog D.w) A (exec (.Assign [.Attribute (.Name "self" q1) nm q2] e p) env) Q E s := by
  obtain ⟨hat, hpr, m, rest, hfr, hm⟩ := h
  refine wpAny_Assign_stores (he hat hc' (fun v s1 G1 w c1 w1 l1 r1 m1 => ?_) px_dead) hs hw
  rw [hst]
  have a1 := hat.step w1 l1
  refine wpAny_bind ?_
  refine (wpAny_holding (own_name a1 hfr hm hself (by decide) ?_))
  refine wpAny_bind (wpAny_standAt (wpAny_bind (wpAny_holding ?_)))
  have h1 := w1.pr (x, ox) (by rw [hpr]; exact .head _)
  refine set_inst0 w1.K hS h1 hc hno hd fun h' hsh tk n' hg hx' hk' => ?_
  refine wpAny_release ?_
  have W0 : Wd D s1.heap G1 ⟨[] ++ (x, ox) :: pr, F.fr, F.fe⟩ := by
    have : F = ⟨(x, ox) :: pr, F.fr, F.fe⟩ := by rw [← hpr]
    rw [List.nil_append, ← this]; exact w1
  have W1 : Wd D h' G1 ⟨(x, { ox with dict := some s1.heap.objs.size }) :: pr, F.fr, F.fe⟩ := Wd.updPr (pr := []) W0 hk' hx'
  have hD : dom G1 ⟨(x, { ox with dict := some s1.heap.objs.size }) :: pr, F.fr, F.fe⟩ = dom G1 F := by unfold dom; rw [hpr]; rfl
  have W : Wd D h' G1 ⟨(s1.heap.objs.size, dictOf [⟨hsh, .str nm tk, w⟩] n') :: (x, { ox with dict := some s1.heap.objs.size }) :: pr, F.fr, F.fe⟩ :=
    Wd.pushPr (F := ⟨(x, { ox with dict := some s1.heap.objs.size }) :: pr, F.fr, F.fe⟩) W1 hg (by rw [hD]; exact w1.freshIn (Nat.le_refl _)) w1.fresh (w1.freshTab (Nat.le_refl _))
  exact hn v w { s1 with heap := h', toks := s1.toks + 2 } G1 ⟨(s1.heap.objs.size, dictOf [⟨hsh, .str nm tk, w⟩] n') :: (x, { ox with dict := some s1.heap.objs.size }) :: pr, F.fr, F.fe⟩ s1.heap.objs.size hsh tk n' c1 r1 l1 ⟨m1.g, m1.d, m1.o⟩ rfl rfl ⟨At.pr (s' := { s1 with heap := h', toks := s1.toks + 2 }) a1 W (Le.refl _), rfl, ⟨m, rest, hfr, hm⟩⟩
end
end Mine
open PySem PySem.W PyProof.Rows PySem.Calls PySem.Spec
set_option Elab.async false
set_option maxRecDepth 100000
set_option linter.unusedSimpArgs false
set_option linter.unusedVariables false
namespace Mine

theorem two_out {D : Dt} {h : Heap} {G : St} {pr : List (Addr × Obj)} {fr : List (Addr × (Str → Option Value))} {fe : List Env} {d x : Addr} {o1 o2 : Obj} (W : Wd D h G ⟨(d, o1) :: (x, o2) :: pr, fr, fe⟩) :
    d ∉ dom G ⟨pr, fr, fe⟩ ∧ x ∉ dom G ⟨pr, fr, fe⟩ ∧ d ≠ x := by
  have n1 := W.nd
  unfold dom at n1 ⊢
  simp only [List.map_cons] at n1
  have p1 : (G.tl.map (·.1) ++ (G.μ ++ ((d :: x :: pr.map (·.1)) ++ fr.map (·.1)))).Perm (d :: x :: (G.tl.map (·.1) ++ (G.μ ++ (pr.map (·.1) ++ fr.map (·.1))))) := by
    refine .trans (.append_left _ (List.perm_middle (l₁ := G.μ) (a := d) (l₂ := x :: (pr.map (·.1) ++ fr.map (·.1))))) ?_
    refine .trans List.perm_middle (.cons _ ?_)
    refine .trans (.append_left _ (List.perm_middle (l₁ := G.μ) (a := x) (l₂ := (pr.map (·.1) ++ fr.map (·.1))))) ?_
    exact List.perm_middle
  have n2 := p1.nodup_iff.mp n1
  rw [List.nodup_cons, List.nodup_cons] at n2
  refine ⟨fun q => n2.1 (.tail _ q), n2.2.1, fun q => n2.1 (q ▸ .head _)⟩
/-- an thing is made: its maker lets it go -/
theorem finish_ins {D : Dt} {h : Heap} {G : St} {pr : List (Addr × Obj)} {fr : List (Addr × (Str → Option Value))} {fe : List Env} {d x C : Addr} {es : List DictEntry} {n : Nat} {fs : List (Nat × V)}
    (W : Wd D h G ⟨(d, dictOf es n) :: (x, insObj C d) :: pr, fr, fe⟩) (hk : ∀ e ∈ es, ∃ i t, i < 7 ∧ e.key = .str (attrOf i) t) (hz : es.length ≤ 20) (hr : ∀ y v, fs.lookup y = some v → ∃ w, getL (attrOf y) es = some (some w) ∧ VR G v w) :
    ∃ G', G'.σ = G.σ ++ [.dct fs] ∧ Wd D h G' ⟨pr, fr, fe⟩ ∧ Le G G' ∧ VR G' (.ins C G.σ.length) (.ref x) := by
  have hd := W.pr (d, dictOf es n) (.head _)
  have hx := W.pr (x, insObj C d) (.tail _ (.head _))
  have W1 := Wd.popPr W
  have W2 := Wd.popPr W1
  have hnd := two_out W
  have od := W.new d (by unfold dom; simp)
  have ox := W.new x (by unfold dom; simp)
  have L1 : Le G { G with tl := (x, insObj C d) :: G.tl } := Le.addT G _
  have W3 := W2.addT hx hnd.2.1 ox.1 ox.2
  have L2 : Le { G with tl := (x, insObj C d) :: G.tl } { G with tl := (x, insObj C d) :: G.tl, σ := G.σ ++ [.dct fs], μ := G.μ ++ [d] } := Le.addS _ d (.dct fs)
  have W4 := W3.addS (a := d) (o := .dct fs) (by
    intro q
    unfold dom at q
    simp only [List.map_cons, List.cons_append, List.mem_cons] at q
    rcases q with q | q
    · exact hnd.2.2 q
    · exact hnd.1 q) od.1 od.2 (.dct hd hk hz fun y v e => let ⟨w, p, q⟩ := hr y v e; ⟨w, p, q.mono (L1.trans L2)⟩)
  exact ⟨_, rfl, W4, L1.trans L2, .ins (.head _) (by show (G.μ ++ [d])[G.σ.length]? = some d; rw [← W.len]; simp)⟩

noncomputable def cthing : CF := fun vs σ k _ => match vs with
  | [a, b, c] => k (.ins 141 σ.length) (σ ++ [.dct [(0, a), (1, b), (2, c)]])
  | _ => false
theorem setc141 (i : Nat) (h : i < 3) : SetC 141 (attrOf i) := by
  match i, h with
  | 0, _ => exact ⟨fun P => by kernel_rfl, fun P => ⟨_, rfl, fun self => by kernel_rfl, by decide, rfl, rfl⟩, fun P => by kernel_rfl⟩
  | 1, _ => exact ⟨fun P => by kernel_rfl, fun P => ⟨_, rfl, fun self => by kernel_rfl, by decide, rfl, rfl⟩, fun P => by kernel_rfl⟩
  | 2, _ => exact ⟨fun P => by kernel_rfl, fun P => ⟨_, rfl, fun self => by kernel_rfl, by decide, rfl, rfl⟩, fun P => by kernel_rfl⟩
theorem makes141 (P : Params) : makesIn (hk P) 141 = true := by kernel_rfl
theorem init141 (P : Params) : findIn (hk P) (.ref 141) "__init__" = some (some (.ref 138)) := by kernel_rfl
theorem init141f (P : Params) : typeIn (hk P) (.ref 138) = some (.type "function") := by kernel_rfl

theorem aok_make {A : Around} {b C : Nat} {F F' : Fx} {vals : List Value} (h : AOK A (b + 1) F) (hf : F'.fe = F.fe) : AOK (A.under (.builtin "type.__call__" ⟨.ref C :: vals, []⟩)) b F' :=
  ⟨h.h, by have := h.d; show A.depth + 1 + _ ≤ _; omega, by have := h.u; show A.units + 1 + _ ≤ _; omega, by rw [hf]; exact h.f⟩

theorem sf_thing {b : Nat} : SF (b + 2) 141 cthing := ⟨fun {D A s G F vs ws k x Q E} ha hw hr hc hq hx => by
  unfold cthing at hc
  split at hc
  case h_2 => cases hc
  rename_i va vb vc
  cases hr with | cons ra hr =>
  cases hr with | cons rb hr =>
  cases hr with | cons rc hr =>
  cases hr
  rename_i wa wb wc
  have X := hw.K
  obtain ⟨h, g, d, t, os⟩ := s
  obtain ⟨pr0, fr0, fe0⟩ := F
  refine wpAny_call (make_core (makes_of X (makes141 _)) (looks_findIn X (init141 _)) (fun self => bind_fn X self (init141f _)) (.inl rfl) ?_)
  have W1 := (hw.push1 emptyDict rfl).push1 (instObj 141 h.objs.size) rfl
  rw [Heap.size_push] at W1
  have W2 : Wd D ((h.push emptyDict).push (instObj 141 h.objs.size)) G ⟨(h.objs.size, dictOf [] 0) :: (h.objs.size + 1, insObj 141 h.objs.size) :: pr0, fr0, fe0⟩ := W1.permPr (.swap _ _ _)
  refine' call_coreC (b := b) (vs := [.opq, va, vb, vc]) (ws := [.ref (h.objs.size + 1), wa, wb, wc]) (F := ⟨(h.objs.size, dictOf [] 0) :: (h.objs.size + 1, insObj 141 h.objs.size) :: pr0, fr0, fe0⟩) (s := ⟨_, g, d, t, os⟩)
    ["self", "kind", "fields", "sizes"] ["self", "kind", "fields", "sizes"] [] [some 0, some 1, some 2, some 3] [] ?hK ?hcd ?hl ?ha W2 (.cons (.opq _) (.cons ra (.cons rb (.cons rc .nil)))) rfl ?hb ?H
  case hK => intro P; rfl
  case hcd => intro P; kernel_rfl
  case hl => rfl
  case ha => exact aok_make ha rfl
  case hb => intro A' Q' E' q; exact wpAny_pure q
  case H =>
    intro env s1 as hat L3 m3 hfr Q' E' q1 q2 q3
    have I0 : Ini D _ b _ env s1 _ _ _ _ (h.objs.size + 1) ((h.objs.size, dictOf [] 0) :: (h.objs.size + 1, insObj 141 h.objs.size) :: pr0) := ⟨hat, rfl, _, _, rfl, rfl⟩
    refine wpAny_execs_cons (ini_set I0 (setc141 0 (by decide)) rfl rfl rfl (fun e he => by cases he) (by decide) (@se_loc _ _ 1 _ _ rfl rfl rfl) rfl rfl rfl rfl
      (k := fun v1 σ1 => k (V.ins 141 σ1.length) (σ1 ++ [AO.dct [(0, v1), (1, vb), (2, vc)]])) ?_ fun v1 w1 s2 G2 F2 hs1 tk1 n1 c2 r2 l2 m2 e1 e2 I2 => ?_)
    · show k (.ins 141 (G.σ ++ []).length) ((G.σ ++ []) ++ [.dct [(0, va), (1, vb), (2, vc)]]) = true
      rw [List.append_nil]; exact hc
    refine wpAny_execs_cons (ini_set I2 (setc141 1 (by decide)) rfl rfl rfl (StrL.put fun e he => by cases he) (Nat.le_of_ble_eq_true rfl) (@se_loc _ _ 2 _ _ rfl rfl rfl) rfl rfl rfl rfl
      (k := fun v2 σ2 => k (V.ins 141 σ2.length) (σ2 ++ [AO.dct [(0, v1), (1, v2), (2, vc)]])) (by exact c2) fun v2 w2 s3 G3 F3 hs2 tk2 n2 c3 r3 l3 m3' e3 e4 I3 => ?_)
    refine wpAny_execs_cons (ini_set I3 (setc141 2 (by decide)) rfl rfl rfl (StrL.put (StrL.put fun e he => by cases he)) (Nat.le_of_ble_eq_true rfl) (@se_loc _ _ 3 _ _ rfl rfl rfl) rfl rfl rfl rfl
      (k := fun v3 σ3 => k (V.ins 141 σ3.length) (σ3 ++ [AO.dct [(0, v1), (1, v2), (2, v3)]])) (by exact c3) fun v3 w3 s4 G4 F4 hs3 tk3 n3 c4 r4 l4 m4 e5 e6 I4 => ?_)
    refine wpAny_execs_nil (q2 _ ⟨rfl, ?_⟩)
    obtain ⟨pr4, fr4, fe4⟩ := F4
    have hpr := I4.pr
    simp only at e5 e6 hpr
    rw [e3, e1] at e5
    rw [e4, e2] at e6
    subst hpr
    have W4 := I4.at_.w
    rw [e5, e6] at W4
    have W5 := Wd.popFr W4 (fe' := fe0) fun e he => hw.fe e he
    have hes : ∀ e ∈ putL (attrOf 2) hs3 (.str (attrOf 2) tk3) w3 (putL (attrOf 1) hs2 (.str (attrOf 1) tk2) w2 (putL (attrOf 0) hs1 (.str (attrOf 0) tk1) w1 [])), ∃ i t, i < 7 ∧ e.key = .str (attrOf i) t := by
      intro e he
      rcases putL_mem he with ⟨e1, he1, q⟩ | q
      · rcases putL_mem he1 with ⟨e2, he2, q2⟩ | q2
        · rcases putL_mem he2 with ⟨e3, he3, q3⟩ | q3
          · cases he3
          · exact ⟨0, tk1, by decide, q.symm.trans (q2.symm.trans q3)⟩
        · exact ⟨1, tk2, by decide, q.symm.trans q2⟩
      · exact ⟨2, tk3, by decide, q⟩
    have hfs : ∀ y v, [(0, v1), (1, v2), (2, v3)].lookup y = some v → ∃ w, getL (attrOf y) (putL (attrOf 2) hs3 (.str (attrOf 2) tk3) w3 (putL (attrOf 1) hs2 (.str (attrOf 1) tk2) w2 (putL (attrOf 0) hs1 (.str (attrOf 0) tk1) w1 []))) = some (some w) ∧ VR G4 v w := by
      intro y v hy
      match y, hy with
      | 0, hy => cases hy; exact ⟨w1, rfl, (r2.mono l3).mono l4⟩
      | 1, hy => cases hy; exact ⟨w2, rfl, r3.mono l4⟩
      | 2, hy => cases hy; exact ⟨w3, rfl, r4⟩
    obtain ⟨G5, hσ, W6, l5, r5⟩ := finish_ins (fs := [(0, v1), (1, v2), (2, v3)]) W5 hes (Nat.le_of_ble_eq_true rfl) hfs
    have m0 : Same ⟨h, g, d, t, os⟩ s1 := ⟨m3.g, m3.d, m3.o⟩
    exact hq (.ins 141 G4.σ.length) s4 G5 _ (by rw [hσ]; exact c4) W6 (((L3.trans l2).trans l3).trans (l4.trans l5)) r5 (((m0.trans m2).trans m3').trans m4)⟩
end Mine
open PySem PySem.W PyProof.Rows PySem.Calls PySem.Spec
set_option Elab.async false
set_option maxRecDepth 100000
set_option linter.unusedSimpArgs false
set_option linter.unusedVariables false
namespace Mine

noncomputable def cheap : CF := fun vs σ k _ => match vs with
  | [] => k (.ins 197 (σ ++ [AO.lst []]).length) (σ ++ [AO.lst []] ++ [AO.dct [(3, .ref σ.length)]])
  | _ => false
theorem setc197 : SetC 197 (attrOf 3) := ⟨fun P => by kernel_rfl, fun P => ⟨_, rfl, fun self => by kernel_rfl, by decide, rfl, rfl⟩, fun P => by kernel_rfl⟩
theorem makes197 (P : Params) : makesIn (hk P) 197 = true := by kernel_rfl
theorem init197 (P : Params) : findIn (hk P) (.ref 197) "__init__" = some (some (.ref 159)) := by kernel_rfl
theorem init197f (P : Params) : typeIn (hk P) (.ref 159) = some (.type "function") := by kernel_rfl

theorem sf_heap {b : Nat} : SF (b + 2) 197 cheap := ⟨fun {D A s G F vs ws k x Q E} ha hw hr hc hq hx => by
  unfold cheap at hc
  split at hc
  case h_2 => cases hc
  cases hr
  have X := hw.K
  obtain ⟨h, g, d, t, os⟩ := s
  obtain ⟨pr0, fr0, fe0⟩ := F
  refine wpAny_call (make_core (makes_of X (makes197 _)) (looks_findIn X (init197 _)) (fun self => bind_fn X self (init197f _)) (.inl rfl) ?_)
  have W1 := (hw.push1 emptyDict rfl).push1 (instObj 197 h.objs.size) rfl
  rw [Heap.size_push] at W1
  have W2 : Wd D ((h.push emptyDict).push (instObj 197 h.objs.size)) G ⟨(h.objs.size, dictOf [] 0) :: (h.objs.size + 1, insObj 197 h.objs.size) :: pr0, fr0, fe0⟩ := W1.permPr (.swap _ _ _)
  refine' call_coreC (b := b) (vs := [.opq]) (ws := [.ref (h.objs.size + 1)]) (F := ⟨(h.objs.size, dictOf [] 0) :: (h.objs.size + 1, insObj 197 h.objs.size) :: pr0, fr0, fe0⟩) (s := ⟨_, g, d, t, os⟩)
    ["self"] ["self"] [] [some 0] [] ?hK ?hcd ?hl ?ha W2 (.cons (.opq _) .nil) rfl ?hb ?H
  case hK => intro P; rfl
  case hcd => intro P; kernel_rfl
  case hl => rfl
  case ha => exact aok_make ha rfl
  case hb => intro A' Q' E' q; exact wpAny_pure q
  case H =>
    intro env s1 as hat L3 m3 hfr Q' E' q1 q2 q3
    have I0 : Ini D _ b _ env s1 _ _ _ _ (h.objs.size + 1) ((h.objs.size, dictOf [] 0) :: (h.objs.size + 1, insObj 197 h.objs.size) :: pr0) := ⟨hat, rfl, _, _, rfl, rfl⟩
    refine wpAny_execs_cons (ini_set I0 setc197 rfl rfl rfl (fun e he => by cases he) (by decide) (@se_list _ _ _ _ _ (@ses_nil _ _)) rfl rfl rfl rfl
      (k := fun v1 σ1 => k (V.ins 197 σ1.length) (σ1 ++ [AO.dct [(3, v1)]])) ?_ fun v1 w1 s2 G2 F2 hs1 tk1 n1 c2 r2 l2 m2 e1 e2 I2 => ?_)
    · show k (.ins 197 ((G.σ ++ []) ++ [AO.lst []]).length) ((G.σ ++ []) ++ [AO.lst []] ++ [AO.dct [(3, .ref (G.σ ++ []).length)]]) = true
      rw [List.append_nil]; exact hc
    refine wpAny_execs_nil (q2 _ ⟨rfl, ?_⟩)
    obtain ⟨pr4, fr4, fe4⟩ := F2
    have hpr := I2.pr
    simp only at e1 e2 hpr
    subst hpr
    have W4 := I2.at_.w
    rw [e1, e2] at W4
    have W5 := Wd.popFr W4 (fe' := fe0) fun e he => hw.fe e he
    have hes : ∀ e ∈ putL (attrOf 3) hs1 (.str (attrOf 3) tk1) w1 [], ∃ i t, i < 7 ∧ e.key = .str (attrOf i) t := by
      intro e he
      rcases putL_mem he with ⟨e3, he3, q3⟩ | q3
      · cases he3
      · exact ⟨3, tk1, by decide, q3⟩
    have hfs : ∀ y v, [(3, v1)].lookup y = some v → ∃ w, getL (attrOf y) (putL (attrOf 3) hs1 (.str (attrOf 3) tk1) w1 []) = some (some w) ∧ VR G2 v w := by
      intro y v hy
      match y, hy with
      | 3, hy => cases hy; exact ⟨w1, rfl, r2⟩
    obtain ⟨G5, hσ, W6, l5, r5⟩ := finish_ins (fs := [(3, v1)]) W5 hes (Nat.le_of_ble_eq_true rfl) hfs
    have m0 : Same ⟨h, g, d, t, os⟩ s1 := ⟨m3.g, m3.d, m3.o⟩
    exact hq (.ins 197 G2.σ.length) s2 G5 _ (by rw [hσ]; exact c2) W6 (L3.trans (l2.trans l5)) r5 (m0.trans m2)⟩
end Mine
open PySem PySem.W PyProof.Rows PySem.Calls PySem.Spec
set_option Elab.async false
set_option maxRecDepth 100000
set_option linter.unusedSimpArgs false
set_option linter.unusedVariables false
namespace Mine

noncomputable abbrev bm71 : List Value := [.ref 39, .type "Exception", .type "BaseException", .type "object"]
theorem cls71 (P : Params) : ∃ sub k0 k1 k2 k3 k5, (hk P).lookup 71 = some (excClassObj "Thrown" "Thrown" 71 70 [.ref 39] bm71 true [] sub false none none k0 k1 k2 k3 k5 "Exception.__new__") := ⟨_, _, _, _, _, _, rfl⟩
theorem init71 (P : Params) : findIn (hk P) (.ref 71) "__init__" = some (some (.ref 68)) := by kernel_rfl
theorem fn68 (P : Params) : typeIn (hk P) (.ref 68) = some (.type "function") := by kernel_rfl

section
variable {w : World} {A : Around} {E : Value → Shared → Prop} {h : Heap} {g : Array GenState} {d : Drawn} {t : Nat} {os : OsState}
variable {sub : List Value} {k0 k1 k2 k3 k5 : Option Value}
theorem new71 {rest : List Value} {R : Result → Shared → Prop} (hC : h.get? 71 = some (excClassObj "Thrown" "Thrown" 71 70 [.ref 39] bm71 true [] sub false none none k0 k1 k2 k3 k5 "Exception.__new__"))
    (hq : R (.ok (.ret (.ref (h.objs.size + 1)))) ⟨(h.push { cls := .type "tuple", data := .seq rest.toArray }).push { cls := .ref 71, data := .fields #[.ref h.objs.size, .none, .none, .none, .bool false, .none] }, g, d, t, os⟩) (hrest : rest.length ≤ sizeLine) :
    codeAny (model prog w) A (.builtin "Exception.__new__" ⟨.ref 71 :: rest, []⟩) R ⟨h, g, d, t, os⟩ := by
  have F := PySem.F.excBase_Exception
  have hends := F.ends
  have hcB : (Value.ref 71 :: bm71).contains (.type "Exception") = true := by decide +kernel
  have hcA : (Value.ref 71 :: bm71).contains (.type "AttributeError") = false := by decide +kernel
  have hcN : (Value.ref 71 :: bm71).contains (.type "NameError") = false := by decide +kernel
  refine codeAny_builtinAt F.entry ?_
  unfold Builtin.«BaseException.__new__»
  refine PySem.wpAt_bind ?_
  show PySem.wpAt _ _ _ (stack >>= _) _ _ _
  refine PySem.wpAt_bind (PySem.wpAt_stack fun p below => PySem.wpAt_of_wpAny ?_)
  wp_walk
  refine PySem.wpAt_of_wpAny ?_
  rw [F.owner]
  repeat (first | with_reducible refine wpAny_madeHere_exc F.canon hC ?_ | with_reducible refine wpAny_loadPart_at hC ?_ | (with_reducible refine wpAny_isSubtype_exc hC ?_; first | rw [hcB] | rw [hcA] | rw [hcN]) | wp_step)
  show R _ _
  rw [Heap.size_push]
  exact hq
theorem check71 {rest : List Value} {Q : Unit → Shared → Prop} (hC : h.get? 71 = some (excClassObj "Thrown" "Thrown" 71 70 [.ref 39] bm71 true [] sub false none none k0 k1 k2 k3 k5 "Exception.__new__"))
    (hq : Q () ⟨h, g, d, t, os⟩) : wpAny (model prog w) A (checkBuiltinCall "Exception.__new__" ⟨.ref 71 :: rest, []⟩) Q E ⟨h, g, d, t, os⟩ := by
  have F := PySem.F.excBase_Exception
  have hcont : (Value.ref 71 :: bm71).contains (.type "Exception") = true := by decide +kernel
  have hstar := F.noStar
  simp only [checkBuiltinCall, F.newKind, F.newSplit, F.newRow]
  repeat (first | refine wpAny_loadPart_at hC ?_ | (refine wpAny_isSubtype_exc hC ?_; rw [hcont]) | refine wpAny_staticBase_exc hC ?_ | refine wpAny_madeBy_exc hC ?_ | simp only [bne_self_eq_false, Bool.false_eq_true, if_false] | wp_step)
  exact hq
abbrev exc71 (t : Addr) : Obj := { cls := .ref 71, data := .fields #[.ref t, .none, .none, .none, .bool false, .none] }
theorem entry71 {rest : List Value} {Q : PySem.Fin → Shared → Prop} (X : (hk w.params).In h) (hC : h.get? 71 = some (excClassObj "Thrown" "Thrown" 71 70 [.ref 39] bm71 true [] sub false none none k0 k1 k2 k3 k5 "Exception.__new__"))
    (hq : wpAny (model prog w) A (call (.ref 68) (.ref (h.objs.size + 1) :: rest)) (fun r s' => r = .none ∧ Q (.done (.ret (.ref (h.objs.size + 1)))) s') E ⟨(h.push { cls := .type "tuple", data := .seq rest.toArray }).push (exc71 h.objs.size), g, d, t, os⟩) (hrest : rest.length ≤ sizeLine) :
    wpAny (model prog w) A (Builtin.«type.__call__» ⟨.ref 71 :: rest, []⟩) Q E ⟨h, g, d, t, os⟩ := by
  have F := PySem.F.excBase_Exception
  repeat (first | with_reducible refine wpAny_loadPart_at hC ?_ | with_reducible refine wpAny_madeBy_exc hC ?_ | wp_step)
  refine codeAny_call_builtin_code (Code.quiet_builtin _ F.quiet) (check71 hC ?_)
  refine new71 hC ?_ hrest
  show wpAny _ _ _ _ _ _
  have hk' : ∀ b o, h.get? b = some o → ((h.push { cls := .type "tuple", data := .seq rest.toArray }).push (exc71 h.objs.size)).get? b = some o := fun b o e => Heap.get?_push_of_some _ (Heap.get?_push_of_some _ e)
  have hC₁ := hk' _ _ hC
  have X₁ : (hk w.params).In ((h.push { cls := .type "tuple", data := .seq rest.toArray }).push (exc71 h.objs.size)) := fun a o e => hk' _ _ (X a o e)
  have hget : ((h.push { cls := .type "tuple", data := .seq rest.toArray }).push (exc71 h.objs.size)).get? (h.objs.size + 1) = some (exc71 h.objs.size) := by heap_get
  have hcC : (Value.ref 71 :: bm71).contains (.ref 71) = true := by simp
  unfold isInstance
  repeat (first | with_reducible refine wpAny_loadPart_at hget ?_ | (with_reducible refine wpAny_isSubtype_exc hC₁ ?_; rw [hcC]) | wp_step)
  refine (looks_findIn (M := model prog w) X₁ (init71 _)).here (s := ⟨(h.push { cls := .type "tuple", data := .seq rest.toArray }).push (exc71 h.objs.size), g, d, t, os⟩) ?_
  refine wpAny_holding (wpAny_bind ((bind_fn (M := model prog w) X₁ _ (fn68 _)).here (s := ⟨(h.push { cls := .type "tuple", data := .seq rest.toArray }).push (exc71 h.objs.size), g, d, t, os⟩) (wpAny_bind (wpAny_mono hq (fun r s' hr => ?_) fun _ _ x => x))))
  obtain ⟨rfl, hQ⟩ := hr
  wp_walk
  exact hQ
theorem make71 {rest : List Value} {Q : Value → Shared → Prop} (X : (hk w.params).In h)
    (hq : wpAny (model prog w) (A.under (.builtin "type.__call__" ⟨.ref 71 :: rest, []⟩)) (call (.ref 68) (.ref (h.objs.size + 1) :: rest)) (fun r s' => r = .none ∧ Q (.ref (h.objs.size + 1)) s') E ⟨(h.push { cls := .type "tuple", data := .seq rest.toArray }).push (exc71 h.objs.size), g, d, t, os⟩) (hrest : rest.length ≤ sizeLine) :
    wpAny (model prog w) A (call (.ref 71) rest) Q E ⟨h, g, d, t, os⟩ := by
  obtain ⟨sub, k0, k1, k2, k3, k5, hC⟩ := cls71 w.params
  have hC := X _ _ hC
  have f1 := tc_lookup
  have f2 := tc_bind (.ref 71)
  have hT : (⟨h, g, d, t, os⟩ : Shared).TypeIs (.ref 71) "type" := ⟨_, hC, rfl⟩
  refine wpAny_call (codeAny_of_tree ?_)
  show wpAny _ _ (callAny (.ref 71) _) _ _ _
  repeat (any_goals (first | assumption | with_reducible refine wpAny_loadPart_at hC ?_ | wp_step))
  refine ⟨rfl, ?_⟩
  exact codeAny_call_builtin_at (Code.quiet_builtin _ (by decide +kernel)) entry_typeCall (wpAny_check_type_call_sub hC (entry71 X hC hq hrest))
end
end Mine
open PySem PySem.W PyProof.Rows PySem.Calls PySem.Spec
set_option Elab.async false
set_option maxRecDepth 100000
set_option linter.unusedSimpArgs false
set_option linter.unusedVariables false
namespace Mine

abbrev excT (t : Addr) (od : Option Addr) : Obj := { cls := .ref 71, dict := od, data := .fields #[.ref t, .none, .none, .none, .bool false, .none] }
theorem mro71 (P : Params) : mroIn (hk P) 71 (.type "Exception") = some true := by kernel_rfl
section
variable {D : Dt} {A : Around} {E : Value → Shared → Prop} {G : St} {s : Shared} {pr : List (Addr × Obj)} {fr : List (Addr × (Str → Option Value))} {fe : List Env} {e t : Addr} {od : Option Addr}
theorem init_exc {v : Value} {Q : Value → Shared → Prop} (W : Wd D s.heap G ⟨(e, excT t od) :: pr, fr, fe⟩)
    (hq : ∀ h' t', Wd D h' G ⟨(e, excT t' od) :: pr, fr, fe⟩ → Q .none { s with heap := h' }) : wpAny (model prog D.w) A (call (.builtin "Exception.__init__") [.ref e, v]) Q E s := by
  have F := PySem.F.excBase_Exception
  have he : s.heap.get? e = some (excT t od) := W.pr (e, excT t od) (.head _)
  have X := W.K
  obtain ⟨sub, k0, k1, k2, k3, k5, hC⟩ := cls71 D.w.params
  have hC := X _ _ hC
  have hshort := F.noStar
  have hcB : (Value.ref 71 :: bm71).contains (.type "Exception") = true := by decide +kernel
  obtain ⟨h, g, d, tk, os⟩ := s
  have check : ∀ (A' : Around) (Q' : Unit → Shared → Prop) (E' : Value → Shared → Prop), Q' () ⟨h, g, d, tk, os⟩ → wpAny (model prog D.w) A' (checkBuiltinCall "Exception.__init__" ⟨[.ref e, v], []⟩) Q' E' ⟨h, g, d, tk, os⟩ := by
    intro A' Q' E' q
    simp only [checkBuiltinCall, F.initKind, F.initSplit, F.initRow]
    repeat (first | with_reducible refine wpAny_loadPart_at he ?_ | with_reducible refine wpAny_loadPart_at hC ?_ | (with_reducible refine wpAny_isSubtype_exc hC ?_; rw [hcB]) | wp_step)
    exact q
  refine wpAny_call (codeAny_call_builtin F.init.plain F.initEntry (check _ _ _ ?_))
  have he : h.get? e = some (excT t od) := he
  wp_walk
  have hp := Heap.get?_push_of_some { cls := Value.type "tuple", data := Data.seq #[v] } he
  have hg := Heap.get?_update_self (Obj.mapFields fun x => x.setIfInBounds 0 (Value.ref h.objs.size)) hp rfl
  have W1 := W.push { cls := Value.type "tuple", data := Data.seq #[v] }
  exact hq _ h.objs.size (Wd.updPr (pr := []) W1 (fun b ob hb q => (Heap.get?_update_other _ _ (Ne.symm hb)).trans q) hg)
end
end Mine
open PySem PySem.W PyProof.Rows PySem.Calls PySem.Spec
set_option Elab.async false
set_option maxRecDepth 100000
set_option linter.unusedSimpArgs false
set_option linter.unusedVariables false
namespace Mine

theorem glb_of {x : Str} {v : Value} (h : ∀ P, nsIn (hk P) mainGlobals x = some (some v)) : Glb x v := fun D => .inl (mg_of D.K D.g (h _))
theorem glb_blt {x : Str} {v : Value} (h : ∀ P, nsIn (hk P) mainGlobals x = some none) (hn : x ≠ "__name__") (hv : bootBuiltins x = some v) : Glb x v := fun D => .inr ⟨mg_none_of D.K D.g (h _), (D.bi x hn).trans hv⟩

section
variable {w : World} {A : Around} {E : Value → Shared → Prop} {s : Shared}
theorem getm_exc {pl : Sem Bool} {Q : Value × List Value → Shared → Prop} (X : (hk w.params).In s.heap) (h : Q (.builtin "Exception.__init__", []) { s with toks := s.toks + 1 }) : wpAny (model prog w) A (getMethod (.type "Exception") "__init__" pl) Q E s := by
  have hstub : opaqueClassAbove (.type "Exception") = pure none := by unfold opaqueClassAbove; dsimp only; rw [show Manifest.isStub "Exception" = false from by decide +kernel]; rfl
  have L0 : Looks (model prog w) s.heap (typeOf (.type "Exception")) (.type "type") := Looks.of_pure (by kernel_rfl)
  have hg : findIn (hk w.params) (.type "type") "__getattribute__" = some (some (.builtin "type.__getattribute__")) := type_tga
  unfold getMethod specialOf
  refine wpAny_bind (wpAny_bind (L0.here ((looks_findIn X hg).here ?_)))
  dsimp only
  rw [if_pos canon_tga]
  refine wpAny_bind (wpAny_mono (Q := fun v => Q (v, [])) (E := E) ?_ (fun _ _ z => wpAny_pure z) fun _ _ z => z)
  have LO : Looks (model prog w) s.heap (opaqueClassAbove (.type "Exception")) none := Looks.of_pure hstub
  refine cls_open X LO L0 hg (looks_hook X (r := none) (by rfl)) (by show subIn _ _ _ = _; rfl) (show findCls (hk w.params) (.type "Exception") (.type "type") "__init__" = some (.val (.builtin "Exception.__init__")) from by kernel_rfl)
    (wpAny_pure (by show wpAny _ _ (handedOut _) _ _ _; rw [handedOut_of (by rfl)]; exact wpAny_pure h))
theorem getm_39 {pl : Sem Bool} {Q : Value × List Value → Shared → Prop} (X : (hk w.params).In s.heap) (h : Q (.ref 36, []) { s with toks := s.toks + 1 }) : wpAny (model prog w) A (getMethod (.ref 39) "__init__" pl) Q E s :=
  method_cls X (by kernel_rfl) (cls_value X (mc := .type "type") (by kernel_rfl) (by kernel_rfl) (by rfl) h)
end
end Mine
open PySem PySem.W PyProof.Rows PySem.Calls PySem.Spec
set_option Elab.async false
set_option maxRecDepth 100000
set_option linter.unusedSimpArgs false
set_option linter.unusedVariables false
namespace Mine

theorem over71 : ∀ P, ∃ cd, clsIn (hk P) 71 = some cd ∧ (∀ self, refuseLoop self "__setattr__" cd.mro = pure ()) ∧ cd.mro.contains (.type "object") = true ∧ cd.mro.isEmpty = false ∧ cd.hasDict = true :=
  fun P => ⟨_, rfl, fun self => (refuseLoop_ref self "__setattr__" 71 _).trans ((refuseLoop_ref self "__setattr__" 39 _).trans (PySem.F.store_Exception.passes self)), by decide, rfl, rfl⟩
theorem setc71 (i : Nat) (h : 4 ≤ i) (h' : i < 7) : SetC 71 (attrOf i) := by
  match i, h, h' with
  | 4, _, _ => exact ⟨fun P => by kernel_rfl, over71, fun P => by kernel_rfl⟩
  | 5, _, _ => exact ⟨fun P => by kernel_rfl, over71, fun P => by kernel_rfl⟩
  | 6, _, _ => exact ⟨fun P => by kernel_rfl, over71, fun P => by kernel_rfl⟩
theorem glb_exc : Glb "Exception" (.type "Exception") := glb_blt (fun P => by kernel_rfl) (by decide) (by decide +kernel)
theorem glb_39 : Glb "RowsError" (.ref 39) := glb_of fun P => by kernel_rfl

theorem init36 {D : Dt} {A : Around} {b : Nat} {s : Shared} {G : St} {pr : List (Addr × Obj)} {fr : List (Addr × (Str → Option Value))} {fe : List Env} {e t : Addr} {w : Value} {k : List AO → Bool} {Q E : Value → Shared → Prop}
    (ha : AOK A (b + 1) ⟨(e, excT t none) :: pr, fr, fe⟩) (W : Wd D s.heap G ⟨(e, excT t none) :: pr, fr, fe⟩)
    (hk0 : k G.σ = true)
    (hq : ∀ s' G' d t' h1 t1 w1 h2 t2 w2 n, Wd D s'.heap G' ⟨(d, dictOf (putL (attrOf 5) h2 (.str (attrOf 5) t2) w2 [⟨h1, .str (attrOf 4) t1, w1⟩]) n) :: (e, excT t' (some d)) :: pr, fr, fe⟩ → k G'.σ = true → Le G G' → Same s s' → Q .none s') :
    wpAny (model prog D.w) A (call (.ref 36) [.ref e, w]) Q E s := by
  refine wpAny_call ?_
  refine' call_coreC (b := b) (vs := [.opq, .opq, .none]) (ws := [.ref e, w, .none]) (F := ⟨(e, excT t none) :: pr, fr, fe⟩)
    ["self", "message", "spot"] ["self", "message", "spot"] [] [some 0, some 1, some 2] [] ?hK ?hcd ?hl ha W (.cons (.opq _) (.cons (.opq _) (.cons .none .nil))) rfl ?hb ?H
  case hK => intro P; rfl
  case hcd => intro P; kernel_rfl
  case hl => rfl
  case hb => 
    intro A' Q' E' q
    exact binds_K (K := hk D.w.params) (T := 29) (items := #[.none]) (n := 0) W.K rfl rfl rfl rfl rfl _ _ _ _ q
  case H =>
    intro env s1 as hat L3 m3 hfr Q' E' q1 q2 q3
    refine wpAny_execs_cons (wpAny_Expr_any ?_ (notInteractive hat.e) rfl)
    refine methodCall_KW (name_glob hat rfl rfl glb_exc (getm_exc hat.w.K ?_))
    refine callWith_builtin1 (wpAny_items_cons (own_name (At.step (s' := { s1 with toks := s1.toks + 1 }) hat hat.w (Le.refl _)) rfl rfl rfl rfl (wpAny_items_cons (own_name (At.step (s' := { s1 with toks := s1.toks + 1 }) hat hat.w (Le.refl _)) rfl rfl rfl rfl (wpAny_items_nil ?_)) rfl)) rfl) rfl rfl
    refine init_exc (s := { s1 with toks := s1.toks + 1 }) hat.w fun h' t' W1 => ?_
    have at1 := At.pr (s' := { s1 with heap := h', toks := s1.toks + 1 }) hat W1 (Le.refl _)
    have I0 : Ini D _ b _ env { s1 with heap := h', toks := s1.toks + 1 } _ _ _ _ e ((e, excT t' none) :: pr) := ⟨at1, rfl, _, _, rfl, rfl⟩
    refine wpAny_execs_cons (ini_set0 I0 (setc71 4 (by decide) (by decide)) rfl rfl rfl (@se_loc _ _ 1 _ _ rfl rfl rfl) rfl rfl rfl rfl
      (k := fun _ σ1 => k σ1) ?_ fun v1 w1 s2 G2 F2 d hs1 tk1 n1 c2 r2 l2 m2 e1 e2 I2 => ?_)
    · show k (G.σ ++ []) = true
      rw [List.append_nil]; exact hk0
    refine wpAny_execs_cons (ini_set I2 (setc71 5 (by decide) (by decide)) rfl rfl rfl (fun e he => by simp only [List.mem_singleton] at he; subst he; exact ⟨_, _, rfl⟩) (Nat.le_of_ble_eq_true rfl) (@se_loc _ _ 2 _ _ rfl rfl rfl) rfl rfl rfl rfl
      (k := fun _ σ1 => k σ1) (by exact c2) fun v2 w2 s3 G3 F3 hs2 tk2 n2 c3 r3 l3 m3' e3 e4 I3 => ?_)
    refine wpAny_execs_nil (q2 _ ?_)
    obtain ⟨pr4, fr4, fe4⟩ := F3
    have hpr := I3.pr
    simp only at e3 e4 hpr
    rw [e1] at e3
    rw [e2] at e4
    subst hpr
    have W4 := I3.at_.w
    rw [e3, e4] at W4
    have W5 := Wd.popFr W4 (fe' := fe) fun e he => W.fe e he
    have m0 : Same s { s1 with heap := h', toks := s1.toks + 1 } := ⟨m3.g, m3.d, m3.o⟩
    exact hq s3 G3 d t' hs1 tk1 w1 hs2 tk2 w2 n2 W5 c3 ((L3.trans l2).trans l3) ((m0.trans m2).trans m3')
end Mine
open PySem PySem.W PyProof.Rows PySem.Calls PySem.Spec
set_option Elab.async false
set_option maxRecDepth 100000
set_option linter.unusedSimpArgs false
set_option linter.unusedVariables false
namespace Mine

theorem init68 {D : Dt} {A : Around} {b : Nat} {s : Shared} {G : St} {pr : List (Addr × Obj)} {fr : List (Addr × (Str → Option Value))} {fe : List Env} {e t : Addr} {v : V} {w : Value} {k : KV} {Q E : Value → Shared → Prop}
    (ha : AOK A (b + 2) ⟨(e, excT t none) :: pr, fr, fe⟩) (W : Wd D s.heap G ⟨(e, excT t none) :: pr, fr, fe⟩) (r : VR G v w) (hk0 : k v G.σ = true)
    (hq : ∀ v' s' G' d t' h1 t1 w1 h2 t2 w2 h3 t3 w3 n, Wd D s'.heap G' ⟨(d, dictOf (putL (attrOf 6) h3 (.str (attrOf 6) t3) w3 (putL (attrOf 5) h2 (.str (attrOf 5) t2) w2 [⟨h1, .str (attrOf 4) t1, w1⟩])) n) :: (e, excT t' (some d)) :: pr, fr, fe⟩ → VR G' v' w3 → k v' G'.σ = true → Le G G' → Same s s' → Q .none s') :
    wpAny (model prog D.w) A (call (.ref 68) [.ref e, w]) Q E s := by
  refine wpAny_call ?_
  refine' call_coreC (b := b + 1) (vs := [.opq, v]) (ws := [.ref e, w]) (F := ⟨(e, excT t none) :: pr, fr, fe⟩)
    ["self", "value"] ["self", "value"] [] [some 0, some 1] [] ?hK ?hcd ?hl ha W (.cons (.opq _) (.cons r .nil)) rfl ?hb ?H
  case hK => intro P; rfl
  case hcd => intro P; kernel_rfl
  case hl => rfl
  case hb => intro A' Q' E' q; exact wpAny_pure q
  case H =>
    intro env s1 as hat L3 m3 hfr Q' E' q1 q2 q3
    refine wpAny_execs_cons (wpAny_Expr_any ?_ (notInteractive hat.e) rfl)
    refine methodCall_KW (name_glob hat rfl rfl glb_39 (getm_39 hat.w.K ?_))
    refine callWith_K (K := hk D.w.params) (h₀ := D.base) D.K (by kernel_rfl) (wpAny_items_cons (own_name (At.step (s' := { s1 with toks := s1.toks + 1 }) hat hat.w (Le.refl _)) rfl rfl rfl rfl (wpAny_items_cons (wpAny_Constant_str (wpAny_items_nil ⟨?_, ?_⟩)) rfl)) rfl) rfl rfl
    · exact hat.w.K
    refine init36 (k := fun σ => k v σ) (s := { s1 with toks := s1.toks + 1 + 1 }) hat.a hat.w ?_ fun s2 G2 d t' h1 t1 w1 h2 t2 w2 n W2 c2 l2 m2 => ?_
    · show k v (G.σ ++ []) = true
      rw [List.append_nil]; exact hk0
    have at2 := At.pr (s' := s2) (pr' := (d, dictOf (putL (attrOf 5) h2 (.str (attrOf 5) t2) w2 [⟨h1, .str (attrOf 4) t1, w1⟩]) n) :: (e, excT t' (some d)) :: pr) hat W2 l2
    have I2 : Ini D _ (b + 1) _ env s2 G2 _ _ _ e ((d, dictOf (putL (attrOf 5) h2 (.str (attrOf 5) t2) w2 [⟨h1, .str (attrOf 4) t1, w1⟩]) n) :: (e, excT t' (some d)) :: pr) := ⟨at2, rfl, _, _, rfl, rfl⟩
    refine wpAny_execs_cons (ini_set I2 (setc71 6 (by decide) (by decide)) rfl rfl rfl (StrL.put fun e he => by simp only [List.mem_singleton] at he; subst he; exact ⟨_, _, rfl⟩) (Nat.le_of_ble_eq_true rfl) (@se_loc _ _ 1 _ _ rfl rfl rfl) rfl rfl rfl rfl
      (k := k) (by exact c2) fun v3 w3 s3 G3 F3 hs3 tk3 n3 c3 r3 l3 m3' e3 e4 I3 => ?_)
    refine wpAny_execs_nil (q2 _ ?_)
    obtain ⟨pr4, fr4, fe4⟩ := F3
    have hpr := I3.pr
    simp only at e3 e4 hpr
    subst hpr
    have W4 := I3.at_.w
    rw [e3, e4] at W4
    have W5 := Wd.popFr W4 (fe' := fe) fun e he => W.fe e he
    have m0 : Same s { s1 with toks := s1.toks + 1 + 1 } := ⟨m3.g, m3.d, m3.o⟩
    exact hq v3 s3 G3 d t' h1 t1 w1 h2 t2 w2 hs3 tk3 w3 n3 W5 r3 c3 ((L3.trans l2).trans l3) ((m0.trans m2).trans m3')

noncomputable def cthrown : CF := fun vs σ k _ => match vs with
  | [v] => k v σ
  | _ => false
theorem sxf_thrown {b : Nat} : SXF (b + 3) 71 cthrown := ⟨fun {D A s G F vs ws k x Q E} ha hw hr hc hq hx => by
  unfold cthrown at hc
  split at hc
  case h_2 => cases hc
  cases hr with | cons r hr =>
  cases hr
  rename_i v0 w0
  have X := hw.K
  obtain ⟨h, g, d, t, os⟩ := s
  obtain ⟨pr, fr, fe⟩ := F
  refine make71 X ?_ (by simp [sizeLine_eq])
  have W1 := (hw.push { cls := .type "tuple", data := .seq [w0].toArray }).push1 (excT h.objs.size none) rfl
  rw [Heap.size_push] at W1
  refine init68 (b := b) (aok_make ha rfl) W1 r hc fun v' s' G' d' t' h1 t1 w1 h2 t2 w2 h3 t3 w3 n W2 r2 c2 l2 m2 => ⟨rfl, ?_⟩
  have hd := W2.pr _ (.head _)
  have he := W2.pr _ (.tail _ (.head _))
  obtain ⟨n1, n2, n3⟩ := two_out W2
  have od := W2.new d' (by unfold dom; simp)
  have oe := W2.new (h.objs.size + 1) (by unfold dom; simp)
  have W4 := (Wd.popPr (Wd.popPr W2)).addT hd n1 od.1 od.2
  have L : Le G' { G' with tl := (d', dictOf (putL (attrOf 6) h3 (.str (attrOf 6) t3) w3 (putL (attrOf 5) h2 (.str (attrOf 5) t2) w2 [⟨h1, .str (attrOf 4) t1, w1⟩])) n) :: G'.tl } := Le.addT G' _
  have m0 : Same ⟨h, g, d, t, os⟩ s' := ⟨m2.g, m2.d, m2.o⟩
  refine hq v' s' { G' with tl := (d', dictOf (putL (attrOf 6) h3 (.str (attrOf 6) t3) w3 (putL (attrOf 5) h2 (.str (attrOf 5) t2) w2 [⟨h1, .str (attrOf 4) t1, w1⟩])) n) :: G'.tl } (h.objs.size + 1) #[.ref t', .none, .none, .none, .bool false, .none] c2 W4 (l2.trans L) ⟨⟨d', #[], _, n, w3, he, .head _, ?_, ?_, r2.mono L⟩, (show 1 < 6 from by decide), ⟨fun q => ?_, oe.1, oe.2⟩⟩ rfl m0
  · obtain ⟨en, q1, q2⟩ := putL_find1 (nm := attrOf 6) (hsh := h3) (t := t3) (v := w3) (putL (attrOf 5) h2 (.str (attrOf 5) t2) w2 [⟨h1, .str (attrOf 4) t1, w1⟩])
    unfold nsFind findBy
    rw [← Array.find?_toList, List.toList_toArray, q1, ← q2]; rfl
  · intro e he
    have he : e ∈ putL (attrOf 6) h3 (.str (attrOf 6) t3) w3 (putL (attrOf 5) h2 (.str (attrOf 5) t2) w2 [⟨h1, .str (attrOf 4) t1, w1⟩]) := by simpa using he
    exact StrL.put (StrL.put fun e he => by simp only [List.mem_singleton] at he; subst he; exact ⟨_, _, rfl⟩) e he
  · unfold dom at q
    simp only [List.map_cons, List.cons_append, List.mem_cons] at q
    rcases q with q | q
    · exact n3 q.symm
    · exact n2 q⟩
end Mine
open PySem PySem.W PyProof.Rows PySem.Calls PySem.Spec
set_option Elab.async false
set_option maxRecDepth 100000
set_option linter.unusedSimpArgs false
set_option linter.unusedVariables false
namespace Mine

noncomputable def encBytes : Array UInt8 := #[110, 111, 32, 115, 117, 99, 104, 32, 115, 105, 122, 101, 115, 32, 111, 102, 32, 97, 110, 32, 97, 114, 114, 97, 121]
theorem enc_run (t u : Tok) : Builtin.«str.encode» ⟨[.str (strOf 14) t, .str (strOf 15) u], []⟩ = (do ret (← mkBytes encBytes)) := by kernel_rfl

section
variable {Γ : Ctx} {b : Nat} {p q : Pos} {o e : PySem.Expr} {co : CE}
noncomputable def cenc (co : CE) : CE := fun loc cel σ k x => co loc cel σ (fun v σ1 => match v with
  | .str n => (match Nat.beq n 14 with | true => k .opq σ1 | false => false)
  | _ => false) x
theorem se_enc {kk : Nat} {pp : Pos} (ho : SE Γ b o co) (hst : ∀ env, backTo p (starEach [.Constant (.str (strOf 15)) kk pp] env) = [(false, eval (.Constant (.str (strOf 15)) kk pp) env)]) (hb : ∀ env, attributeBase o "encode" env (eval o env) = eval o env) (hline : (q.endLine == p.line) = true) :
    SE Γ b (.Call (.Attribute o "encode" q) [.Constant (.str (strOf 15)) kk pp] [] p) (cenc co) := fun {D A env s G F loc cel k x' Q E} h hc hq hx => by
  refine wpAny_Call_method (T := "str") (id := "str.encode") (hb _) (by rw [hst]; rfl) hline PySem.F.plainAttrs_str PySem.F.slot_str_encode PySem.F.type_str_encode ?_
  refine ho h hc (fun v s1 G1 w c1 w1 l1 r1 m1 => ?_) hx
  split at c1
  · split at c1
    · rename_i hn
      have hn := Nat.eq_of_beq_eq_true hn
      subst hn
      cases r1 with | str _ t =>
      refine ⟨typeIs_str _ _ _, GM.noRef, ?_⟩
      rw [hst]
      refine method_meetsIn PySem.F.slot_str_encode PySem.F.entry_str_encode rfl (evalArgs_plain (spliced_cons (wpAny_Constant_str (spliced_nil ⟨rfl, typeIs_str _ _ _, PySem.F.args_str_encode_2 _ _, fun A R s => R (.ok (.ret (.bytes encBytes s.toks))) { s with toks := s.toks + 1 }, ?_, ?_⟩))))
      · intro A' R s' hR
        show wpAny _ _ (Builtin.«str.encode» ⟨[.str (strOf 14) t, .str (strOf 15) s1.toks], []⟩) _ _ _
        rw [enc_run]
        exact wpAny_bind (wpAny_mkBytes (wpAny_pure hR) (by decide +kernel))
      · exact hq .opq { s1 with toks := s1.toks + 1 + 1 } G1 _ c1 w1 l1 (.opq _) ⟨m1.g, m1.d, m1.o⟩
    · cases c1
  · cases c1
end
end Mine
open PySem PySem.W PyProof.Rows PySem.Calls PySem.Spec
set_option Elab.async false
set_option maxRecDepth 100000
set_option linter.unusedSimpArgs false
set_option linter.unusedVariables false
namespace Mine

theorem glb_isi : Glb "isinstance" (.builtin "isinstance") := glb_blt (fun P => by kernel_rfl) (by decide) (by decide +kernel)
theorem glb_int : Glb "int" (.type "int") := glb_blt (fun P => by kernel_rfl) (by decide) (by decide +kernel)
section
variable {Γ : Ctx} {b : Nat} {p q q2 : Pos} {e : PySem.Expr} {ce : CE}
noncomputable def cisi (ce : CE) : CE := fun loc cel σ k x => ce loc cel σ (fun v σ1 => match v with
  | .tup _ => k (.bool false) σ1
  | _ => false) x
/-- `isthing(e, int)` of a tuple -/
theorem se_isi (he : SE Γ b e ce) (hk : Γ.names.lookup ("isinstance" : Str) = some .globalImplicit) (hk2 : Γ.names.lookup ("int" : Str) = some .globalImplicit)
    (hst : ∀ env, starEach [e, .Name "int" q2] env = (false, eval e env) :: starEach [.Name "int" q2] env) : SE Γ b (.Call (.Name "isinstance" q) [e, .Name "int" q2] [] p) (cisi ce) := fun {D A env s G F loc cel k x' Q E} h hc hq hx => by
  refine Call_Name rfl (name_glob h hk (by decide) glb_isi ?_)
  refine callWith_builtin1 (wpAny_items_cons ?_ (hst _)) (hst _) rfl
  refine he h hc (fun v s1 G1 w c1 w1 l1 r1 m1 => ?_) hx
  split at c1
  · cases r1 with | tup m r =>
    refine wpAny_items_cons (name_glob (h.step w1 l1) hk2 (by decide) glb_int (wpAny_items_nil ?_)) rfl
    exact PySem.IsiPair.tuple_int (w1.tl _ m) rfl (hq (.bool false) _ G1 _ c1 w1 l1 (.bool false) ⟨m1.g, m1.d, m1.o⟩)
  · cases c1
end
end Mine
open PySem PySem.W PyProof.Rows PySem.Calls PySem.Spec
set_option Elab.async false
set_option maxRecDepth 100000
set_option linter.unusedSimpArgs false
set_option linter.unusedVariables false
namespace Mine

noncomputable abbrev lamFd (qual : Str) (params : Arguments) (body : PySem.Expr) (scope : Scope) (clos : List (Str × Addr)) (pm cv ct : Value) : FuncData :=
  { name := "<lambda>", qualname := qual, params, body := .expr body, scope, globals := mainGlobals, closure := clos, defaults := .none, kwdefaults := .none, doc := .none, pyModule := pm, annotations := none, code := cv, closureTuple := ct, builtins := builtinsNs }
noncomputable abbrev lamObj (qual : Str) (params : Arguments) (body : PySem.Expr) (scope : Scope) (clos : List (Str × Addr)) (pm cv ct : Value) : Obj :=
  { cls := .type "function", data := .func (lamFd qual params body scope clos pm cv ct) }
/-- a code object of the ledger -/
noncomputable def CodeIs (G : St) (cv : Value) : Prop := ∃ c' oc, cv = .ref c' ∧ (c', oc) ∈ G.tl ∧ ∃ vs q t, oc.data = .fields vs ∧ vs[1]? = some (.str q t)
theorem CodeIs.mono {G G' : St} {cv : Value} (l : Le G G') (x : CodeIs G cv) : CodeIs G' cv := let ⟨c', oc, a, b, d⟩ := x; ⟨c', oc, a, l.tl _ b, d⟩

theorem among_snoc {pos pos' : Pos} {c cv : Value} : ∀ (l : List Value), TriplesOk l → codeAmong pos' (l ++ [rawInt pos.line, rawInt pos.col, c]) = some cv → codeAmong pos' l = some cv ∨ cv = c := fun l h => by
  fun_induction TriplesOk l with
  | case1 =>
    intro e
    simp only [List.nil_append, codeAmong, rawInt] at e
    split at e
    · exact .inr (by simpa using e.symm)
    · cases e
  | case2 a b d e' r rest ih =>
    intro e
    simp only [List.cons_append, codeAmong] at e ⊢
    split at e
    · rename_i hq
      rw [if_pos hq]; exact .inl e
    · rename_i hq
      rw [if_neg hq]; exact ih h e
  | case3 => exact h.elim

section
variable {D : Dt} {h h' : Heap} {G : St} {F : Fx}
/-- a code table has grown by a code object -/
theorem Wd.tabUp {c P c' : Addr} {oc : Obj} {ps : Array Value} {pos : Pos} {vs : Array Value} {q : Str} {t : Tok} (W : Wd D h G F) (hm : (c, P) ∈ tabs) (hP : h.get? P = some (tabO ps)) (hcs : ∀ pos cv, codeAmong pos ps.toList = some cv → CodeIs G cv) (htr : TriplesOk ps.toList)
    (hx : Heap.ExtBut P h h') (hge : h.objs.size ≤ c') (hoc : h'.get? c' = some oc) (hd : oc.data = .fields vs) (hv : vs[1]? = some (.str q t)) (hP' : h'.get? P = some (tabO (ps ++ #[rawInt pos.line, rawInt pos.col, .ref c']))) (htr' : TriplesOk (ps ++ #[rawInt pos.line, rawInt pos.col, .ref c']).toList) :
    Wd D h' { G with tl := (c', oc) :: G.tl } F := by
  have L := Le.addT G (c', oc)
  have hbP : D.base.get? P = none := (W.tab _ hm).1
  have nP : ∀ {a : Addr}, a ∈ dom G F → a ≠ P := fun ha => (W.new _ ha).2 _ hm
  have hout := W.outNew hge
  refine ⟨fun b o e => hx b o (fun z => by rw [z, hbP] at e; cases e) (W.keep b o e), W.len, ?_, ?_, ?_, fun p hp => hx _ _ (nP (inPr hp)) (W.pr p hp), fun p hp => (W.fr p hp).extBut hx (nP (inFr (List.mem_map_of_mem hp))), ?_, W.fe, ?_⟩
  · show ((c' :: G.tl.map (·.1)) ++ _).Nodup
    exact List.nodup_cons.mpr ⟨hout.d, W.nd⟩
  · intro b hb
    rcases List.mem_cons.mp hb with rfl | hb
    · exact ⟨hout.b, hout.t⟩
    · exact W.new b hb
  · intro p hp
    rcases List.mem_cons.mp hp with rfl | hp
    · exact hoc
    · exact hx _ _ (nP (W.inTl hp)) (W.tl p hp)
  · intro i o ho
    obtain ⟨a, x, y⟩ := W.ob i o ho
    exact ⟨a, x, (y.keeps fun ob e => hx _ _ (nP (inMu x)) e).mono L⟩
  · intro p hp
    obtain ⟨a, b, y⟩ := W.tab p hp
    refine ⟨a, b, ?_⟩
    by_cases hpP : p.2 = P
    · rw [hpP]
      refine ⟨_, hP', htr', fun pos' cv e => ?_⟩
      have e : codeAmong pos' (ps.toList ++ [rawInt pos.line, rawInt pos.col, .ref c']) = some cv := by simpa using e
      rcases among_snoc _ htr e with e | e
      · exact (hcs _ _ e).mono L
      · exact ⟨c', oc, e, .head _, vs, q, t, hd, hv⟩
    · obtain ⟨ps2, y1, y2⟩ := y.mono L
      exact ⟨ps2, hx _ _ hpP y1, y2⟩
end

section
variable {D : Dt} {Γ : Ctx} {b : Nat} {A : Around} {env : Env} {s : Shared} {G : St} {F : Fx} {loc : Loc} {cel : List Nat} {E : Value → Shared → Prop} {c P : Addr} {qual : Str} {params : Arguments} {body : PySem.Expr} {scope : Scope} {clos : List (Str × Addr)} {pos : Pos}
theorem lam_code {tk : Nat} {h1 : Heap} {Q : Value → Shared → Prop} (hc : env.code = .ref c) (hm : (c, P) ∈ tabs) (W : Wd D h1 G F) {name : Str} {l : Nat}
    (h : ∀ h2 tk2 G2 cv, Wd D h2 G2 F → Le G G2 → G2.σ = G.σ → CodeIs G2 cv → Q cv { s with heap := h2, toks := tk2 }) :
    wpAny (model prog D.w) A (functionCode env pos l name qual params scope (.expr body)) Q E { s with heap := h1, toks := tk } := by
  obtain ⟨_, C, ps, hP, htr, hcs⟩ := W.tab _ hm
  obtain ⟨c1, c2⟩ := C h1 ps W.keep hP htr
  cases hf : codeAmong pos ps.toList with
  | some cv => exact wpAny_functionCode_hit hc c1 hf (h h1 tk G cv W (Le.refl _) rfl (hcs _ _ hf))
  | none =>
    refine wpAny_functionCodeX hc c1 c2 hf fun c' h' tk' hx hge hlt hok hrec htb _ => ?_
    obtain ⟨c3, oc, vs, t, e2, hoc, hd, hv⟩ := hrec
    cases e2
    obtain ⟨o, vs', file, tf, flags, tg, inF, text, tt, op, ho, hd', h11, h2, h7, h9, h10, hop, hpd, htr', hne⟩ := id hok
    exact h h' tk' _ _ (W.tabUp hm hP hcs htr hx hge hoc hd hv htb.2 htr') (Le.addT G _) rfl ⟨c', oc, rfl, .head _, vs, qual, t, hd, hv⟩

theorem lam_make {Q : Value → Shared → Prop} (h : At D Γ b A env s G F loc cel) (hcd : Γ.cd = some (.ref c)) (hm : (c, P) ∈ tabs) (hcl : closureFor scope env = pure clos) (hdef : defaultsOf params env = ([], []))
    (hQ : ∀ h2 tk2 G2 f cv pm ct q2, Wd D h2 G2 F → Le G G2 → G2.σ = G.σ → (f, lamObj q2 params body scope clos pm cv ct) ∈ G2.tl → CodeIs G2 cv → Q (.ref f) { s with heap := h2, toks := tk2 }) :
    wpAny (model prog D.w) A (eval (.Lambda params body scope pos) env) Q E s := by
  rw [arm_eval_Lambda, hdef]
  show wpAny _ A (do let dv ← evalAll []; let kdv ← holding dv (evalAllOpt []); makeFunction "<lambda>" (env.qual ++ "<lambda>") params (.expr body) scope env dv kdv [] pos pos.line) Q E s
  refine wpAny_bind (wpAny_pure (wpAny_bind (wpAny_holding (wpAny_pure ?_))))
  rw [makeFunction_eq]
  simp only [List.zip_nil_right, List.filterMap_nil, List.isEmpty_nil, if_true, pure_bind]
  unfold makeTail
  rw [hcl, h.e.glob]
  refine wpAny_bind (wpAny_pure ?_)
  have key : ∀ ct h1, (∀ x o, s.heap.get? x = some o → h1.get? x = some o) → wpAny (model prog D.w) A (do
      let code ← functionCode env pos pos.line "<lambda>" (env.qual ++ "<lambda>") params scope (.expr body)
      let bl ← builtinsFor mainGlobals env.builtins
      let nm ← nsGet mainGlobals "__name__"
      let d ← (pure .none : Sem Value)
      newObj (.type "function") (.func { name := "<lambda>", qualname := env.qual ++ "<lambda>", params, body := .expr body, scope, globals := mainGlobals, closure := clos, defaults := .none, kwdefaults := .none, doc := d, pyModule := nm.getD .none, annotations := none, code := code, closureTuple := ct, builtins := bl })) Q E { s with heap := h1 } := by
    intro ct h1 k1
    have W1 := h.w.grow k1
    refine wpAny_bind (lam_code (s := s) (tk := s.toks) (h.e.code _ hcd) hm W1 fun h2 tk2 G2 cv W2 l2 e2 c2 => ?_)
    obtain ⟨bm, o, b1, b2, b3, b4, b5, b6, b7⟩ := D.bm
    have hg := D.g.keeps W2.keep
    refine wpAny_bind (wpAny_builtinsFor hg b1 b2 (W2.keep _ _ b4) b5 b6 b7 ?_)
    refine wpAny_bind (wpAny_nsGet hg ?_)
    refine wpAny_bind (wpAny_pure (wpAny_newObj_type ?_ (by size_fits)))
    have W3 := W2.newT (lamObj (env.qual ++ "<lambda>") params body scope clos ((D.mg "__name__").getD .none) cv ct)
    exact hQ _ tk2 _ h2.objs.size cv _ ct _ W3 (l2.trans (Le.addT G2 _)) e2 (.head _) (c2.mono (Le.addT G2 _))
  cases clos with
  | nil =>
    simp only [List.isEmpty_nil, if_true]
    exact wpAny_bind (wpAny_pure (key .none s.heap fun _ _ e => e))
  | cons q r =>
    simp only [List.isEmpty_cons, Bool.false_eq_true, if_false]
    exact wpAny_bind (wpAny_newTextTuple (key _ _ fun _ _ e => Heap.get?_push_of_some _ e))
end

section
variable {w : World} {A : Around} {R : Result → Shared → Prop} {s : Shared}
theorem code_expr {e : PySem.Expr} {env : Env}
    (h : wpAny (model prog w) (A.deeper env) (eval e env) (fun v s' => R (.ok (.ret v)) s')
      (fun e' s' => wpAny (model prog w) (A.deeper env) (leaving env e') (fun _ s'' => R (.error e') s'') (fun e'' s'' => R (.error e'') s'') s') s) :
    codeAny (model prog w) A (.expr e env) R s := by
  refine codeAny_of_tree ?_
  show wpAny _ (A.deeper env) (do point; ret (← (eval e env).onRaise (leaving env))) _ _ s
  refine wpAny_bind (wpAny_point (wpAny_bind (wpAny_onRaise ?_)))
  exact wpAny_mono h (fun v s' q => wpAny_pure q) fun _ _ q => q
theorem lam_enter {f : Addr} {qual q2 : Str} {params : Arguments} {body : PySem.Expr} {scope : Scope} {clos : List (Str × Addr)} {pm cv ct : Value} {c' : Addr} {oc : Obj} {vs : Array Value} {t : Tok} (hroom : A.depth < recursionLimit)
    (ho : s.heap.get? f = some (lamObj qual params body scope clos pm cv ct)) (hco : scope.isCoroutine = false) (hgen : scope.isGenerator = false) (hcv : cv = .ref c') (hoc : s.heap.get? c' = some oc) (hd : oc.data = .fields vs) (hv : vs[1]? = some (.str q2 t))
    (hb : bindArgs (lamFd qual params body scope clos pm cv ct) ⟨[], []⟩ = pure [])
    (h : wpAny (model prog w) A.in1 (newFunctionEnv scope mainGlobals clos [] (q2 ++ ".<locals>.") (some f) cv none builtinsNs)
        (fun env s₂ => s₂.heap.NoLimit ∧ codeAny (model prog w) A (.expr body env) R s₂) (fun e s' => R (.error e) s') s) :
    codeAny (model prog w) A (.call (.ref f) ⟨[], []⟩) R s := by
  refine codeAny_of_tree ?_
  show wpAny _ A.in1 (callAny (.ref f) ⟨[], []⟩) _ _ s
  simp only [callAny]
  refine wpAny_bind (wpAny_load ho ?_)
  subst hcv
  simp only [callFunction, hco, hgen]
  refine wpAny_bind (m := field (.ref c') 1) (wpAny_field hoc hd hv (wpAny_bind (wpAny_pure ?_)))
  rw [hb]
  refine wpAny_bind (wpAny_pure (wpAny_bind (wpAny_mono h (fun env s₂ h₂ => ?_) fun _ _ h' => h')))
  exact wpAny_bind (wpAny_enterFrame h₂.1 hroom (wpAny_pure (And.intro rfl h₂.2)))
end
end Mine
open PySem PySem.W PyProof.Rows PySem.Calls PySem.Spec
set_option Elab.async false
set_option maxRecDepth 100000
set_option linter.unusedSimpArgs false
set_option linter.unusedVariables false
namespace Mine
theorem g71 (P : Params) : findIn (hk P) (.ref 71) "__getattribute__" = some (some (.builtin "BaseException.__getattribute__")) := by kernel_rfl
theorem ga71 (P : Params) : findIn (hk P) (.ref 71) "__getattr__" = some none := by kernel_rfl
theorem h71 (P : Params) : hasDictIn (hk P) 71 = true := by kernel_rfl
theorem v71 (P : Params) : findIn (hk P) (.ref 71) (attrOf 6) = some none := by kernel_rfl

section
variable {w : World} {A : Around} {E : Value → Shared → Prop} {s : Shared}
/-- error.value -/
theorem exc_value {e d : Addr} {vs : Array Value} {sl : Array (Option Value)} {es : Array DictEntry} {n : Nat} {v : Addr} {expr : Bool} {Q : Value → Shared → Prop} (X : (hk w.params).In s.heap) (he : s.heap.get? e = some ⟨.ref 71, some d, .fields vs, sl⟩) (hd : s.heap.get? d = some (dctObj es n)) (hf : nsFind es (attrOf 6) = some (.ref v))
    (hq : Q (.ref v) { s with toks := s.toks + 1 }) : wpAny (model prog w) A (getAttr (.ref e) (attrOf 6) expr) Q E s := by
  have FB := PySem.F.attrBase_Exception
  obtain ⟨sub, k0, k1, k2, k3, k5, hC⟩ := cls71 w.params
  have hC := X _ _ hC
  have I : InstAt s.heap e ⟨.ref 71, some d, .fields vs, sl⟩ 71 (some (dctObj es n)) := ⟨he, rfl, rfl, hd⟩
  have hl : lookIn (attrOf 6) (dctObj es n) = some (some (.ref v)) := by
    unfold nsFind findBy at hf
    unfold lookIn
    show (match es.toList.find? (·.key.isStr (attrOf 6)) with | some e => some (some e.val) | none => _) = _
    rw [← Array.find?_toList] at hf
    cases hx : es.toList.find? (·.key.isStr (attrOf 6)) with
    | none => rw [hx] at hf; cases hf
    | some x => rw [hx] at hf; simp only [Option.map_some, Option.some.injEq] at hf; simp [hf]
  have hF : findObj (hk w.params) 71 (some (dctObj es n)) (attrOf 6) = some (.value (.ref v)) := findObj_own (h71 _) (v71 _) rfl hl
  have L0 : Looks (model prog w) s.heap (typeOf (.ref e)) (.ref 71) := I.type
  have L1 := looks_findIn (M := model prog w) X (g71 w.params)
  have L2 := looks_findIn (M := model prog w) X (ga71 w.params)
  have L3 := looks_find (M := model prog w) X I hF
  have hcB : (Value.ref 71 :: bm71).contains (.type "BaseException") = true := by decide +kernel
  have hk0 : builtinKind "BaseException.__getattribute__" = some .slot := by decide +kernel
  have hsplit : splitId "BaseException.__getattribute__" = some ("BaseException", "__getattribute__") := by decide +kernel
  have hx0 : (expr && onTheHeap (Value.builtin "BaseException.__getattribute__")) = false := by cases expr <;> rfl
  have hx2 : (Value.builtin "BaseException.__getattribute__" == Value.builtin "object.__getattribute__") = false := by decide +kernel
  have hx1 : (onTheHeap (Value.ref 71) && Value.builtin "BaseException.__getattribute__" == Value.builtin "object.__getattribute__") = false := by rw [hx2]; rfl
  obtain ⟨h, g, dr, t, os⟩ := s
  unfold getAttr getAttrBy
  refine wpAny_bind (wpAny_mkText (wpAny_holding (wpAny_bind (L0.at (wpAny_bind (L1.at ?_))))))
  dsimp only
  rw [if_neg (by rw [hx1]; decide)]
  unfold getAttrByItsOwn
  refine wpAny_bind ?_
  refine L2.at ?_
  unfold callGetattribute
  rw [if_neg (by rw [hx0]; decide)]
  refine wpAny_bind (wpAny_attempt (wpAny_holding ?_))
  unfold boundAndCalled
  rw [FB.ga.bind]
  refine wpAny_bind (wpAny_pure ?_)
  have check : ∀ (A' : Around) (Q' : Unit → Shared → Prop) (E' : Value → Shared → Prop), Q' () ⟨h, g, dr, t + 1, os⟩ → wpAny (model prog w) A' (checkBuiltinCall "BaseException.__getattribute__" ⟨[.ref e, .str (attrOf 6) t], []⟩) Q' E' ⟨h, g, dr, t + 1, os⟩ := by
    intro A' Q' E' q
    have ha := PySem.F.args_bexc_ga (.ref e) (.str (attrOf 6) t)
    simp only [checkBuiltinCall, hk0, hsplit]
    refine wpAny_bind ?_
    unfold isInstance
    repeat (first | with_reducible refine wpAny_loadPart_at he ?_ | (with_reducible refine wpAny_isSubtype_exc hC ?_; rw [hcB]) | wp_step)
    exact q
  refine wpAny_call (codeAny_call_builtin FB.ga.plain PySem.F.entry_bexc_ga (check _ _ _ ?_))
  show wpAny _ _ (Builtin.«object.__getattribute__» ⟨[.ref e, .str (attrOf 6) t], []⟩) _ _ _
  unfold Builtin.«object.__getattribute__»
  repeat (first | with_reducible refine wpAny_bind (L0.at ?_) | with_reducible refine wpAny_bind (L3.at ?_) | with_reducible refine wpAny_loadPart_at he ?_ | wp_step)
  exact hq
end

theorem name_glob' {D : Dt} {Γ : Ctx} {A : Around} {env : Env} {s : Shared} {G : St} {F : Fx} {x : Str} {p : Pos} {v : Value} {Q E : Value → Shared → Prop} (he : EnvOK Γ env) (hw : Wd D s.heap G F) (hk : Γ.names.lookup x = some .globalImplicit) (hd : (x == ("__debug__" : Str)) = false)
    (hv : Glb x v) (hq : Q v s) : wpAny (model prog D.w) A (eval (.Name x p) env) Q E s := by
  refine Name_function_global he.kind ((kindOf_of he _).trans hk) ?_ hd
  have hg : s.heap.Ns env.globals D.mg := by rw [he.glob]; exact D.g.keeps hw.keep
  rcases hv D with hv | ⟨h1, h2⟩
  · exact loadGlobal_global hg hv hq
  · exact loadGlobal_builtin hg h1 (by rw [he.blt]; exact D.b.keeps hw.keep) h2 hq

section
variable {D : Dt} {A : Around} {E : Value → Shared → Prop} {s : Shared} {G : St} {F : Fx} {env : Env}
theorem sub_const {value : PySem.Expr} {i : Int} {kk : Nat} {p q : Pos} {Q : Value → Shared → Prop}
    (hv : wpAny (model prog D.w) A (eval value env) (fun x s1 => ∃ G1 vs v, Wd D s1.heap G1 F ∧ VR G1 (.tup vs) x ∧ itemS G1.σ (.tup vs) (.int i) = some v ∧ ∀ z t, VR G1 v z → Q z { s1 with toks := t }) E s) :
    wpAny (model prog D.w) A (eval (.Subscript value (.Constant (.int i) kk p) q) env) Q E s := by
  rw [eval_Subscript]
  refine wpAny_bind (wpAny_mono hv (fun x s1 h1 => ?_) fun _ _ y => y)
  obtain ⟨G1, vs, v, W, r, hi, hq⟩ := h1
  refine wpAny_bind (wpAny_holding (wpAny_Constant_int ?_))
  refine wpAny_bind (wpAny_standAt ?_)
  obtain ⟨g, T, id, hT, hl⟩ := itemS_ok (D := D) (A := A) (E := E) (Q := Q) (s := { s1 with toks := s1.toks + 1 }) hi W r (.int i _) fun z hz => hq z _ hz
  exact sub_tail hT hl g rfl
/-- error.value of the bound name -/
theorem exc_val {m : Str → Option Value} {e : Addr} {v : List V} {vs : Array Value} {y : Str} {p q : Pos} {Q : Value → Shared → Prop} {Γ : Ctx} {rest : List (Addr × (Str → Option Value))} (he : EnvOK Γ env) (hk : Γ.names.lookup y = some .local) (hd : (y == ("__debug__" : Str)) = false) (W : Wd D s.heap G F) (hm : F.fr = (env.locals, m) :: rest) (hv : m y = some (.ref e))
    (x : Flies D s.heap G F e (.tup v) vs) (hq : ∀ w, VR G (.tup v) w → Q w { s with toks := s.toks + 1 }) : wpAny (model prog D.w) A (eval (.Attribute (.Name y p) (attrOf 6) q) env) Q E s := by
  show wpAny _ _ (do
    let o ← attributeBase (.Name y p) (attrOf 6) env (eval (.Name y p) env)
    standAt q.atName
    let r ← holding [o] (getAttr o (attrOf 6) true)
    letTemporaryGo (.Name y p) o r
    pure r) Q E s
  show wpAny _ _ (do
    let o ← eval (.Name y p) env
    standAt q.atName
    let r ← holding [o] (getAttr o (attrOf 6) true)
    letTemporaryGo (.Name y p) o r
    pure r) Q E s
  refine wpAny_bind (wpAny_Name (wpAny_loadName_local he.kind ((kindOf_of he _).trans hk) (W.fr (env.locals, m) (by rw [hm]; exact .head _)) hv ?_) hd)
  refine wpAny_bind (wpAny_standAt (wpAny_bind (wpAny_holding ?_)))
  obtain ⟨d, sl, es, n, w, h1, h2, h3, h4, h5⟩ := x.ob
  cases id h5 with | tup m1 r1 =>
  refine exc_value W.K h1 (W.tl _ h2) h3 ?_
  exact wpAny_bind (wpAny_letTemporaryGo (wpAny_pure (hq _ h5)))
end

theorem glb_71 : Glb "Thrown" (.ref 71) := glb_of fun P => by kernel_rfl
section
variable {D : Dt} {A : Around} {E : Value → Shared → Prop} {s : Shared} {G : St} {F : Fx} {env : Env} {Γ : Ctx} {b : Nat} {loc : Loc} {cel : List Nat}
/-- `except Thrown as error: return (error.value[1][1], error.value[2])` -/
theorem catch_ok {nm : Str} (hnm : nm = attrOf 6) {e : Addr} {va vb vn vc vp : V} {Q : Flow → Shared → Prop} {np p1 p2 p3 p4 p5 p6 p7 p8 p9 p10 p11 p12 pos : Pos} {k1 k2 k3 k4 : Nat} (h : At D Γ b A env s G F loc cel) (hL : env.frame = some env.locals) (hkT : Γ.names.lookup ("Thrown" : Str) = some .globalImplicit) (hkE : Γ.names.lookup ("error" : Str) = some .local)
    (x : Fly D s.heap G F env.frame e (.tup [va, .tup [vb, vn, vc], vp]))
    (hq : ∀ s' G' F' w, Fr1 F F' → Wd D s'.heap G' F' → Le G G' → G'.σ = G.σ → VR G' (.tup [vn, vp]) w → Same s s' → Q (.ret w) s') :
    wpAny (model prog D.w) A (noteFrame (.ref e) env) (fun _ s2 => wpAny (model prog D.w) A (setFlight (.ref e) none) (fun _ s3 => wpAny (model prog D.w) A (handleBy (.ref e) env
      [.ExceptHandler (some (.Name "Thrown" np)) (some "error") [.Return (some (.Tuple [.Subscript (.Subscript (.Attribute (.Name "error" p1) nm p2) (.Constant (.int 1) k1 p3) p4) (.Constant (.int 1) k2 p5) p6, .Subscript (.Attribute (.Name "error" p7) nm p8) (.Constant (.int 2) k3 p9) p10] k4 p11)) p12] pos]) Q E s3) E s2) E s := by
  subst hnm
  obtain ⟨e0, r, hf, hfe⟩ := h.f
  refine note_ok h.w h.a.f hf hfe hL x fun h1 vs1 W1 x1 t1 => ?_
  refine flight_ok (s := { s with heap := h1 }) (f := none) W1 x1 t1 fun h2 W2 x2 t2 => ?_
  obtain ⟨sub, k0, c1, c2, c3, c5, hC⟩ := cls71 D.w.params
  have hC := W2.K (s := { s with heap := h2 }) _ _ hC
  obtain ⟨d, sl, es, n, w, he1, he2, he3, he4, he5⟩ := x2.ob
  refine wpAny_handleBy_cons (codeAny_handlers_test (name_glob' (s := { s with heap := h2 }) h.e W2 hkT (by decide) glb_71 (wpAny_excMatches_sub_self hC he1 rfl (by decide +kernel) ?_))) (by intro q; cases q)
  refine codeAny_handlers_suite_as ?_
  refine flight_ok (s := { s with heap := h2 }) (f := none) W2 x2 t2 fun h3 W3 x3 t3 => ?_
  obtain ⟨m, rest, hfr, hl⟩ := h.l
  obtain ⟨pr, fr, fe⟩ := F
  simp only at hfr hf
  subst hfr
  refine wpAny_storeName_local ((kindOf_of h.e _).trans hkE) (W3.fr _ (.head _)) (fun h4 hn4 hs4 => ?_) (by rw [h.e.kind]; rfl)
  have W4 := W3.setFr hs4 hn4
  have hne : e ≠ env.locals := fun q => x3.out.d (by rw [q]; exact inFr (.head _))
  have x4 : Flies D h4 G ⟨pr, (env.locals, fun y => if y = "error" then some (.ref e) else m y) :: rest, fe⟩ e (.tup [va, .tup [vb, vn, vc], vp]) vs1 := by
    obtain ⟨⟨d, sl, es, n, w, h1, h2, h3, h4', h5⟩, h6, hout⟩ := x3
    exact ⟨⟨d, sl, es, n, w, (hs4.2 e hne).trans h1, h2, h3, h4', h5⟩, h6, hout.d, hout.b, hout.t⟩
  refine wpAny_execs_cons (wpAny_Return_some (wpAny_Tuple (wpAny_items_cons (sub_const (F := ⟨pr, (env.locals, fun y => if y = "error" then some (.ref e) else m y) :: rest, fe⟩) (sub_const (F := ⟨pr, (env.locals, fun y => if y = "error" then some (.ref e) else m y) :: rest, fe⟩) (exc_val h.e hkE (by decide) W4 rfl (by simp) x4 fun w5 r5 => ⟨G, _, .tup [vb, vn, vc], W4, r5, rfl, fun z1 t1 rz1 => ⟨G, _, vn, W4, rz1, ?_, fun z2 t2 rz2 => ?_⟩⟩))) ?_)))
  · rfl
  · refine wpAny_items_cons (sub_const (s := { s with heap := h4, toks := t2 }) (F := ⟨pr, (env.locals, fun y => if y = "error" then some (.ref e) else m y) :: rest, fe⟩) (exc_val h.e hkE (by decide) W4 rfl (by simp) x4 fun w6 r6 => ⟨G, _, vp, W4, r6, rfl, fun z3 t3 rz3 => wpAny_items_nil ⟨show 2 ≤ sizeLine from by decide +kernel, ?_⟩⟩)) rfl
    have W5 := W4.newT (tupObj [z2, z3])
    refine wpAny_nameGoes ((kindOf_of h.e _).trans hkE) (W5.fr _ (.head _)) (by rw [h.e.kind]; rfl) fun h6 m6 hn6 hs6 => ?_
    have W6 := W5.setFr hs6 hn6
    exact hq { s with heap := h6, toks := t3 + 1 } { G with tl := (h4.objs.size, tupObj [z2, z3]) :: G.tl } ⟨pr, (env.locals, m6) :: rest, fe⟩ (.ref h4.objs.size) ⟨rfl, rfl, _, _, _, _, rfl, rfl⟩ W6 (Le.addT G _) rfl (.tup (.head _) (.cons (rz2.mono (Le.addT G _)) (.cons (rz3.mono (Le.addT G _)) .nil))) ⟨rfl, rfl, rfl⟩
  · rfl
end
end Mine
open PySem PySem.W PyProof.Rows PySem.Calls PySem.Spec
set_option Elab.async false
set_option maxRecDepth 100000
set_option linter.unusedSimpArgs false
set_option linter.unusedVariables false
namespace Mine

section
variable {D : Dt} {A : Around} {s : Shared} {G : St} {F : Fx} {b : Nat}
/-- the call of a lambda without parameters -/
theorem lam_call {f : Addr} {qual : Str} {params : Arguments} {body : PySem.Expr} {scope : Scope} {clos : List (Str × Addr)} {pm cv ct : Value} {cs : List Str} {cel : List Nat} {c : CE} {k x : KV} {Q E : Value → Shared → Prop}
    (ha : AOK A (b + 1) F) (hw : Wd D s.heap G F) (hf : (f, lamObj qual params body scope clos pm cv ct) ∈ G.tl) (hc : CodeIs G cv) (hbody : SE ⟨scope.names, [], cs, none⟩ b body c)
    (hcells : ∀ (i : Nat) (y : Str) (j : Nat), cs[i]? = some y → cel[i]? = some j → ∃ a, clos.lookup y = some a ∧ G.μ[j]? = some a) (hcc : c [] cel G.σ k x = true)
    (hco : scope.isCoroutine = false) (hgen : scope.isGenerator = false) (hk : scope.kind = .function) (hcell : ∀ y ∈ scope.names, y.2 ≠ .cell) (hb : ∀ qual clos pm cv ct, bindArgs (lamFd qual params body scope clos pm cv ct) ⟨[], []⟩ = pure [])
    (hq : PV D F G s k Q) (hx : PX D F G s none x E) : wpAny (model prog D.w) A (call (.ref f) []) Q E s := by
  obtain ⟨c', oc, hcv, hoc, vs, q2, t, hd, hv⟩ := hc
  refine wpAny_call (lam_enter (by have := ha.d; show A.depth < 1000; omega) (hw.tl _ hf) hco hgen hcv (hw.tl _ hoc) hd hv (hb _ _ _ _ _) ?_)
  refine wpAny_newFunctionEnv hcell (fun y hy => by cases hy) (fun h' hns hsb => ?_) hk
  have keep : ∀ a o, s.heap.get? a = some o → h'.get? a = some o := fun a o e => hsb.extBut a o (Nat.ne_of_lt (Heap.lt_size e)) (Heap.get?_push_of_some _ e)
  have W1 := hw.grow keep
  have oL := hw.outNew (Nat.le_refl s.heap.objs.size)
  have W2 := W1.pushFr hns oL.d oL.b oL.t
  refine ⟨D.nl.keeps fun a o e => keep a o (hw.keep a o e), code_expr ?_⟩
  generalize hE : newEnv scope s.heap.objs.size mainGlobals clos (q2 ++ ".<locals>.") (some f) cv none builtinsNs = env
  have e1 : env.scope = scope := by rw [← hE]; rfl
  have e2 : env.locals = s.heap.objs.size := by rw [← hE]; rfl
  have e3 : env.frame = some env.locals := by rw [← hE]; rfl
  have e4 : env.cells = clos := by rw [← hE]; rfl
  obtain ⟨pr, fr, fe⟩ := F
  have W3 : Wd D h' G ⟨pr, (env.locals, fun y => ([] : List (Str × Value)).reverse.lookup y) :: fr, env :: fe⟩ := by
    refine Wd.feCons (L := env.locals) ?_ (by rw [e1, hk]; decide) e3 (by simp)
    rw [e2]; exact W2
  have hat : At D ⟨scope.names, [], cs, none⟩ b (A.deeper env) env { s with heap := h', toks := s.toks + 0 } G ⟨pr, (env.locals, fun y => ([] : List (Str × Value)).reverse.lookup y) :: fr, env :: fe⟩ [] cel := by
    refine ⟨⟨ha.h, ?_, ?_, Around.frames_deeper ha.f⟩, ⟨by rw [e1], by rw [e1, hk], by rw [← hE]; rfl, by rw [← hE]; rfl, fun c hc => by cases hc⟩, W3, ⟨_, _, rfl, fun i y v hy => by simp at hy⟩, fun i y j hy hj => ?_, ⟨env, fe, rfl, rfl⟩⟩
    · show A.depth + 1 + 10 * b ≤ 900
      have := ha.d; omega
    · show A.units + 3 + 20 * b ≤ 9000
      have := ha.u; omega
    · rw [e4]; exact hcells i y j hy hj
  refine hbody hat hcc (fun v s2 G2 w c2 W l2 r2 m2 => ?_) (fun v s2 G2 e c2 W l2 fl m2 => ?_)
  · exact hq v s2 G2 w c2 (Wd.popFr W fun e he => hw.fe e he) l2 r2 ⟨m2.g, m2.d, m2.o⟩
  · refine leave_ok (e0 := env) (r := fe) (A := A.deeper env) W (Around.frames_deeper ha.f) rfl rfl e3 fl fun h9 W9 fl9 => ?_
    exact hx v { s2 with heap := h9 } G2 e c2 (Wd.popFr W9 fun e he => hw.fe e he) l2 (fl9.sub (F' := ⟨pr, fr, fe⟩) fun a ha => by
      unfold dom at ha ⊢
      simp only [List.map_cons, List.mem_append, List.mem_cons] at ha ⊢
      rcases ha with h1 | h2 | h3 | h4
      · exact .inl h1
      · exact .inr (.inl h2)
      · exact .inr (.inr (.inl h3))
      · exact .inr (.inr (.inr (.inr h4)))) ⟨m2.g, m2.d, m2.o⟩
end

theorem glb_heard : Glb "_law_heard" (.ref 380) := glb_of fun P => by kernel_rfl

/-- what the handler of _law_heard makes of a value thrown -/
noncomputable def heardX (k : KV) : KV := fun v σ => match v with
  | .tup vs => (match vs with
    | [_, b, vp] => (match b with
      | .tup us => (match us with | [_, vn, _] => k (.tup [vn, vp]) σ | _ => false)
      | _ => false)
    | _ => false)
  | _ => false
noncomputable def cheard (ms : List Nat) (c : CE) : CE := fun _ cel σ k _ => match Nat.beq (selc ms cel).length ms.length with
  | true => c [] (selc ms cel) σ k (heardX k)
  | false => false

section
variable {Γ : Ctx} {b : Nat} {p q lp : Pos}
/-- `_law_heard(lambda: body)` -/
theorem se_heard (ms : List Nat) {c P : Addr} {params : Arguments} {body : PySem.Expr} {scope : Scope} {cs : List Str} {cb : CE} (hcd : Γ.cd = some (.ref c)) (hm : (c, P) ∈ tabs) (hbody : SE ⟨scope.names, [], cs, none⟩ b body cb)
    (hk1 : Γ.names.lookup ("_law_heard" : Str) = some .globalImplicit) (hl : clayB Γ scope.names cs ms = true) (hdef : ∀ env, defaultsOf params env = ([], []))
    (hco : scope.isCoroutine = false) (hgen : scope.isGenerator = false) (hkd : scope.kind = .function) (hb : ∀ qual clos pm cv ct, bindArgs (lamFd qual params body scope clos pm cv ct) ⟨[], []⟩ = pure []) :
    SE Γ (b + 2) (.Call (.Name "_law_heard" q) [.Lambda params body scope lp] [] p) (cheard ms cb) := fun {D A env s G F loc cel k x Q E} h hc hq hx => by
  unfold cheard at hc
  split at hc
  case h_2 => cases hc
  rename_i hsel
  have hlay := clay_of hl
  have hsel := Nat.eq_of_beq_eq_true hsel
  have hcells : ∀ y, (y, NameKind.free) ∈ scope.names → ∃ (i : Nat), cs[i]? = some y ∧ ∃ (k : Nat), (selc ms cel)[i]? = some k ∧ ∃ a, env.cells.lookup y = some a ∧ G.μ[k]? = some a := by
    intro y hy
    obtain ⟨i, m, h1, h2, h3⟩ := hlay.free y hy
    have hi : i < (selc ms cel).length := by rw [hsel]; exact (List.getElem?_eq_some_iff.mp h2).1
    obtain ⟨m', h4, h5⟩ := selc_get ms cel i _ (List.getElem?_eq_getElem hi)
    rw [h2] at h4; cases h4
    obtain ⟨a, h6, h7⟩ := h.c m y _ h3 h5
    exact ⟨i, h1, _, List.getElem?_eq_getElem hi, a, h6, h7⟩
  obtain ⟨cl, hcl, hclk⟩ := closureFor_ok (env := env) (scope := scope) (fun y hy => let ⟨_, _, _, _, a, h1, _⟩ := hcells y hy; ⟨a, h1⟩)
  refine Call_Name rfl (name_glob h hk1 (by decide) glb_heard ?_)
  refine callWith_K (K := hk D.w.params) (h₀ := D.base) D.K (by kernel_rfl) ?_ rfl rfl
  refine wpAny_items_cons ?_ rfl
  refine lam_make h hcd hm hcl (hdef env) fun h2 tk2 G2 f cv pm ct q2 W2 l2 eσ hf hcode => wpAny_items_nil ⟨W2.K (s := { s with heap := h2, toks := tk2 }), ?_⟩
  have hcl2 : ∀ (i : Nat) (y : Str) (j : Nat), cs[i]? = some y → (selc ms cel)[i]? = some j → ∃ a, cl.lookup y = some a ∧ G2.μ[j]? = some a := by
    intro i y j hy hj
    obtain ⟨m, h1, h3⟩ := selc_get ms cel i j hj
    obtain ⟨h4, h5⟩ := hlay.c i y m hy h1
    obtain ⟨a, h6, h7⟩ := h.c m y j h4 h3
    exact ⟨a, (hclk y h5).trans h6, l2.get h7⟩
  refine' call_core (b := b + 1) (vs := [.opq]) (ws := [.ref f]) (G := G2) (F := F) ["deed"] ["deed"] [] [some 0] [] ?hK ?hcd ?hl h.a W2 (.cons (.opq _) .nil) rfl ?hb ?H
  case hK => intro P; rfl
  case hcd => intro P; kernel_rfl
  case hl => rfl
  case hb => rfl
  case H =>
    intro env1 s1 as hat L3 m3 hfr Q' E' q1 q2 q3
    obtain ⟨m, rest, hfr1, hl1⟩ := hat.l
    refine wpAny_execs_cons (wpAny_Try_except ?_)
    refine wpAny_execs_cons (wpAny_Return_some (Call_Name rfl (own_name hat rfl rfl rfl rfl ?_)))
    refine callWith_function (o := lamObj _ params body scope cl pm cv ct) (evalArgs_nil3 ⟨⟨hat.w.tl _ (L3.tl _ hf), rfl⟩, ?_⟩)
    have m0 : Same s s1 := ⟨m3.g, m3.d, m3.o⟩
    refine lam_call (x := heardX k) (k := k) hat.a hat.w (L3.tl _ hf) (hcode.mono L3) hbody (fun i y j hy hj => let ⟨a, z1, z2⟩ := hcl2 i y j hy hj; ⟨a, z1, L3.get z2⟩) ?_ hco hgen hkd (fun y hy => hlay.cell y hy) hb ?_ ?_
    · show cb [] (selc ms cel) (G2.σ ++ []) k (heardX k) = true
      rw [List.append_nil, eσ]; exact hc
    · intro v s2 G3 w c3 W3 l3 r3 m4
      exact q1 _ _ (hq v s2 G3 w c3 (Wd.popFr W3 fun e he => h.w.fe e he) ((l2.trans L3).trans l3) r3 (m0.trans m4))
    · intro v s2 G3 e c3 W3 l3 fl m4
      have c3 := c3
      unfold heardX at c3
      split at c3
      case h_2 => cases c3
      split at c3
      case h_2 => cases c3
      split at c3
      case h_2 => cases c3
      split at c3
      case h_2 => cases c3
      refine catch_ok (nm := "value") rfl (hat.step W3 l3) hfr rfl rfl fl.weak fun s4 G4 F4 w f4 W4 l4 eσ4 r4 m5 => ?_
      obtain ⟨pr4, fr4, fe4⟩ := F4
      obtain ⟨e1, e2, L', m', m'', r', e3, e4⟩ := f4
      simp only at e1 e2 e3 e4
      subst e1 e2 e4
      cases e3
      refine q1 _ _ (hq _ s4 G4 w ?_ (Wd.popFr W4 fun e he => h.w.fe e he) ((l2.trans L3).trans (l3.trans l4)) r4 ((m0.trans m4).trans m5))
      rw [eσ4]; exact c3
end
end Mine
open PySem PySem.W PyProof.Rows PySem.Calls PySem.Spec
set_option Elab.async false
set_option maxRecDepth 100000
set_option linter.unusedSimpArgs false
set_option linter.unusedVariables false
namespace Mine

/-! names for the small programs -/
noncomputable def cint (i : Int) : CE := fun _ _ σ kk _ => kk (.int i) σ
noncomputable def cnone : CE := fun _ _ σ kk _ => kk .none σ
noncomputable def cbool (v : Bool) : CE := fun _ _ σ kk _ => kk (.bool v) σ
noncomputable def cstr (n : Nat) : CE := fun _ _ σ kk _ => kk (.str n) σ
noncomputable def cloc (i : Nat) : CE := fun loc _ σ kk _ => match lget loc i with | some v => kk v σ | none => false
noncomputable def ccel (i : Nat) : CE := fun _ cel σ kk _ => match nth cel i with | some j => (match nth σ j with | some (.cell (some v)) => kk v σ | _ => false) | none => false
noncomputable def esnil : CEs := fun _ _ σ k _ => k [] σ
noncomputable def escons (c : CE) (cs : CEs) : CEs := fun loc cel σ k x => c loc cel σ (fun v σ1 => cs loc cel σ1 (fun vs σ2 => k (v :: vs) σ2) x) x
noncomputable def ctup (cs : CEs) : CE := fun loc cel σ k x => cs loc cel σ (fun vs σ1 => Nat.ble vs.length 1000 && k (.tup vs) σ1) x
noncomputable def clist (cs : CEs) : CE := fun loc cel σ k x => cs loc cel σ (fun vs σ1 => Nat.ble vs.length 1000 && k (.ref σ1.length) (σ1 ++ [.lst vs])) x
noncomputable def cblt (cs : CEs) (c : CF) : CE := ccall cs (fun vs σ k _ => c vs σ k fun _ _ => false)
noncomputable def candn : CT := fun _ _ σ k _ => k true σ
noncomputable def corn : CT := fun _ _ σ k _ => k false σ
noncomputable def snil : CS := fun loc _ σ n _ _ => n loc σ
noncomputable def gnil : CGs := fun vs loc _ σ n => match vs with | [] => n loc σ | _ => false
noncomputable def edead : CE := fun _ _ _ _ _ => false
noncomputable def sdead : CS := fun _ _ _ _ _ _ => false
noncomputable def ccall0 (c : CF) : CE := fun _ _ σ k x => c [] σ k x

theorem SF.le {k m : Nat} {f : Addr} {c : CF} (h : SF k f c) (e : Nat.ble k m = true) : SF m f c := by
  obtain ⟨d, rfl⟩ := Nat.le.dest (Nat.le_of_ble_eq_true e)
  exact h.up
theorem SXF.le {k m : Nat} {f : Addr} {c : CF} (h : SXF k f c) (e : Nat.ble k m = true) : SXF m f c := by
  obtain ⟨d, rfl⟩ := Nat.le.dest (Nat.le_of_ble_eq_true e)
  exact h.up

section
variable {Γ : Ctx} {b : Nat} {p : Pos} {x : Str}
theorem se_gint (i : Int) {t : Tok} (hv : Glb x (.int i t)) (hk : Γ.names.lookup x = some .globalImplicit) (hd : (x == ("__debug__" : Str)) = false) : SE Γ b (.Name x p) (cint i) := fun h hc hq _ =>
  name_glob h hk hd hv (hq (.int i) _ _ _ hc h.w (Le.refl _) (.int i _) (Same.refl _))

/-- a name is bound -/
noncomputable def TB (Γ : Ctx) (b : Nat) (x : Str) (g : CG) : Prop :=
  ∀ {D : Dt} {A : Around} {env : Env} {s : Shared} {G : St} {F : Fx} {loc : Loc} {cel : List Nat} {v : V} {w : Value} {n : KN} {Q : Unit → Shared → Prop} {E : Value → Shared → Prop},
    At D Γ b A env s G F loc cel → VR G v w → g v loc cel G.σ n = true → PN D Γ b A env cel F G s n (Q ()) → wpAny (model prog D.w) A (bindName env x w) Q E s
theorem tb_loc (i : Nat) (hi : Γ.ls[i]? = some x) (hnd : Γ.ls.Nodup) (hk : Γ.names.lookup x = some .local) : TB Γ b x (gloc i) := fun h hr hc hn => bind_loc i hi hnd hk h hr hc hn
theorem tb_cel (i : Nat) (hi : Γ.cs[i]? = some x) (hk : Γ.names.lookup x = some .cell) : TB Γ b x (gcel i) := fun {D A env s G F loc cel v w n Q E} h hr hc hn => by
  unfold gcel at hc
  rw [nth_eq] at hc
  split at hc
  case h_2 => cases hc
  rename_i j hj
  split at hc
  case h_2 => cases hc
  rename_i hic
  obtain ⟨a, ha, hm⟩ := h.c i _ j hi hj
  unfold isCell at hic
  split at hic
  case h_2 => cases hic
  rename_i v0 hs
  rw [nth_eq] at hs
  obtain ⟨a', ha', ho⟩ := h.w.ob j _ hs
  rw [hm] at ha'; cases ha'
  have key : ∃ v0, s.heap.IsCell a v0 := by
    cases ho with
    | cell0 q => exact ⟨_, q⟩
    | cell q _ => exact ⟨_, q⟩
  obtain ⟨v0, hcell⟩ := key
  refine wpAny_bindName (wpAny_storeName_cell h.e.kind ((kindOf_of h.e _).trans hk) ha hcell fun h' hc' hs' => ?_)
  have W := h.w.updS hm hs' (.cell hc' hr)
  exact hn { s with heap := h' } { G with σ := G.σ.set j (.cell (some v)) } F loc hc h.fr1 (h.step W (Le.setS G _)) (Le.setS G _) ⟨rfl, rfl, rfl⟩
/-- two names are bound, the second first -/
noncomputable def casgb (c : CE) (g1 g2 : CG) : CS := fun loc cel σ n _ x => c loc cel σ (fun v σ1 => match v with | .tup [a, b] => g2 b loc cel σ1 (fun loc2 σ2 => g1 a loc2 cel σ2 n) | _ => false) x
theorem ss_asgb {x y : Str} {ts : List PySem.Expr} {k : Nat} {q : Pos} {value : PySem.Expr} {c : CE} {g1 g2 : CG} (he : SE Γ b value c) (h1 : TB Γ b x g1) (h2 : TB Γ b y g2) (hs : ∀ env, EnvOK Γ env → swapsWithSole [.Tuple ts k q] value p.line env = pure false)
    (hw : ∀ env, EnvOK Γ env → swappedStores [.Tuple ts k q] value env = pure (some [x, y])) : SS Γ b (.Assign [.Tuple ts k q] value p) (casgb c g1 g2) := fun {D A env s G F loc cel n k x' Q E} h hc hn hr hx => by
  refine Assign_Tuple_swapped (he h hc (fun v s1 G1 w c1 w1 l1 r1 m1 => ?_) (hx _ h.fr1)) (hs _ h.e) (hw _ h.e)
  split at c1
  · rename_i va vb
    cases r1 with | tup m r =>
    rename_i a ws
    cases r with | cons ra r =>
    rename_i wa _
    cases r with | cons rb r =>
    rename_i wb _
    cases r
    have e : [x, y].length = (#[wa, wb] : Array Value).size := rfl
    rw [e]
    refine unpackItems_tuple (items := #[wa, wb]) h.a.h ⟨_, w1.tl _ m, rfl, _, rfl⟩ fun h' he' => ?_
    have a1 := h.step (s' := { s1 with heap := h' }) (w1.grow (extNew he')) l1
    show wpAny _ _ (assignInOrder [fun v => bindName env y v, fun v => bindName env x v] [wb, wa]) _ _ _
    refine wpAny_bind (wpAny_holding (h2 a1 rb c1 fun s2 G2 F2 loc2 c2 r2 a2 l2 m2 => ?_))
    refine wpAny_bind (wpAny_holding (h1 a2 (ra.mono l2) (n := n) c2 fun s3 G3 F3 loc3 c3 r3 a3 l3 m3 => ?_))
    exact wpAny_pure (hn _ _ _ _ c3 (r2.trans r3) a3 ((l1.trans l2).trans l3) (((m1.trans (show Same s1 { s1 with heap := h' } from ⟨rfl, rfl, rfl⟩)).trans m2).trans m3))
  · cases c1
end
theorem ok141 : ClsOk 141 := ⟨fun P => by kernel_rfl, fun P => by kernel_rfl⟩
theorem ok197 : ClsOk 197 := ⟨fun P => by kernel_rfl, fun P => by kernel_rfl⟩
theorem no141 (i : Nat) (h : i < 3) : NoAttr 141 i := by
  match i, h with
  | 0, _ => exact fun P => by kernel_rfl
  | 1, _ => exact fun P => by kernel_rfl
  | 2, _ => exact fun P => by kernel_rfl
theorem no197 : NoAttr 197 3 := fun P => by kernel_rfl
theorem so141 : SetOk 141 2 := ⟨fun P => by kernel_rfl, fun P => by kernel_rfl, fun P => by kernel_rfl, fun P => by kernel_rfl⟩

section
variable {Γ : Ctx} {b : Nat} {p q : Pos} {x : Str} {k : Nat} {e : PySem.Expr} {es : List PySem.Expr} {c : CE} {cs : CEs}
theorem ne_int {i : Int} : SE Γ b (.Constant (.int i) k p) (cint i) := se_int
theorem ne_none : SE Γ b (.Constant .none k p) cnone := se_none
theorem ne_bool {v : Bool} : SE Γ b (.Constant (.bool v) k p) (cbool v) := se_bool
theorem ne_str (n : Nat) (e : x = strOf n) : SE Γ b (.Constant (.str x) k p) (cstr n) := se_str n e
theorem ne_loc (i : Nat) (hi : Γ.ls[i]? = some x) (hk : Γ.names.lookup x = some .local) (hd : (x == ("__debug__" : Str)) = false) : SE Γ b (.Name x p) (cloc i) := se_loc i hi hk hd
theorem ne_cell (i : Nat) (hi : Γ.cs[i]? = some x) (hk : Γ.names.lookup x = some .cell ∨ (Γ.names.lookup x = some .free ∧ (x == ("__classdict__" : Str)) = false)) (hd : (x == ("__debug__" : Str)) = false) : SE Γ b (.Name x p) (ccel i) := se_cell i hi hk hd
theorem nes_nil : SEs Γ b [] esnil := ses_nil
theorem nes_cons (he : SE Γ b e c) (hs : SEs Γ b es cs) (hst : ∀ env, starEach (e :: es) env = (false, eval e env) :: starEach es env) : SEs Γ b (e :: es) (escons c cs) := ses_cons he hs hst
theorem ne_tuple {n : Nat} (hs : SEs Γ b es cs) (hl : es.length ≤ 1000) : SE Γ b (.Tuple es n p) (ctup cs) := se_tuple hs hl
theorem ne_list (hs : SEs Γ b es cs) : SE Γ b (.List es p) (clist cs) := se_list hs
theorem nts_and_nil : STs Γ b .And [] candn := sts_and_nil
theorem nts_or_nil : STs Γ b .Or [] corn := sts_or_nil
theorem nss_nil : SSs Γ b [] snil := sss_nil
theorem ntg_nil : TGs Γ b [] gnil := tgs_nil
theorem ns_dead {st : PySem.Stmt} : SS Γ b st sdead := ss_dead
theorem ne_blt {id : String} {cf : CF} (hF : SB (.builtin id) cf) (hv : Glb x (.builtin id)) (hs : SEs Γ b (e :: es) cs) (hk : Γ.names.lookup x = some .globalImplicit) (hd : (x == ("__debug__" : Str)) = false)
    (hst : ∀ env, starEach (e :: es) env = (false, eval e env) :: starEach es env) (hpl : ∀ env, (backTo p (starEach es env)).any (·.1) = false) : SE Γ b (.Call (.Name x q) (e :: es) [] p) (cblt cs cf) := se_blt hF hv hs hk hd hst hpl
theorem ne_typ {T : String} {cf : CF} (hF : SB (.type T) cf) (hv : Glb x (.type T)) (hs : SEs Γ b (e :: es) cs) (hk : Γ.names.lookup x = some .globalImplicit) (hd : (x == ("__debug__" : Str)) = false)
    (hst : ∀ env, starEach (e :: es) env = (false, eval e env) :: starEach es env) (hpl : ∀ env, (backTo p (starEach es env)).any (·.1) = false) : SE Γ b (.Call (.Name x q) (e :: es) [] p) (cblt cs cf) := se_typ hF hv hs hk hd hst hpl
theorem ne_call0 {f : Addr} {cf : CF} (hF : SF b f cf) (hv : Glb x (.ref f)) (hf : ∀ P, keepIn (hk P) (.ref f) = true) (hk : Γ.names.lookup x = some .globalImplicit) (hd : (x == ("__debug__" : Str)) = false) : SE Γ b (.Call (.Name x q) [] [] p) (ccall0 cf) := se_callK0 hF hv hf hk hd
end
end Mine
namespace Mine
section
variable {Γ : Ctx} {env : Env} {x y : Str}
theorem blockK (h : EnvOK Γ env) : env.blockKind = .function := by unfold Env.blockKind; rw [h.kind]; rfl
theorem swap2 (h : EnvOK Γ env) {p1 p2 q q' : Pos} {k k' : Nat} {v1 v2 : PySem.Expr} (hx : Γ.names.lookup x = some .local) (hy : Γ.names.lookup y = some .local) (hn : ([x, y].eraseDups.length != 2) = false) (hl : (p2.line == p1.line) = true)
    (h1 : ([v1, v2].any fun | .Starred .. => true | _ => false) = false) (h2 : [v1, v2].all (foldedForSure 8) = false) (h3 : [v1, v2].all (constantsAlone 8) = false) : swappedStores [.Tuple [.Name x p1, .Name y p2] k q] (.Tuple [v1, v2] k' q') env = pure (some [x, y]) := by
  have k1 := (kindOf_of h x).trans hx
  have k2 := (kindOf_of h y).trans hy
  have kb := blockK h
  have e1 : (p1.line == p1.line) = true := by simp
  have hn' : (([x, y].eraseDups).length != [x, y].length) = false := hn
  have hn2 : ([x, y].length != 2) = false := rfl
  unfold swappedStores
  simp only [List.length_cons, List.length_nil, kb, List.head?_cons, Option.map_some, Option.getD_some, Expr.pos, List.filterMap_cons, List.filterMap_nil, k1, k2, hl, h1, h2, h3]
  simp only [List.any_cons, List.any_nil, Bool.or_false, Bool.or_eq_false_iff] at h1
  simp [hn]
  intro hh
  rcases hh with hh | hh
  · exact absurd (h1.1.symm.trans hh) (by decide)
  · exact absurd (h1.2.symm.trans hh) (by decide)
theorem swap0 (h : EnvOK Γ env) {p1 p2 q q' : Pos} {k k' : Nat} {v1 v2 : PySem.Expr} (hx : (Γ.names.lookup x == some .local) = false ∨ (Γ.names.lookup y == some .local) = false) : swappedStores [.Tuple [.Name x p1, .Name y p2] k q] (.Tuple [v1, v2] k' q') env = pure none := by
  have k1 := kindOf_of h x
  have k2 := kindOf_of h y
  have kb := blockK h
  unfold swappedStores
  simp only [List.length_cons, List.length_nil, kb, List.head?_cons, Option.map_some, Option.getD_some, Expr.pos, List.filterMap_cons, List.filterMap_nil, k1, k2]
  rcases hx with hx | hx
  · simp only [hx, Bool.false_and, Bool.false_eq_true, if_false]
    generalize (List.lookup y Γ.names == some NameKind.local && p2.line == p1.line) = c
    cases c <;> simp
  · simp only [hx, Bool.false_and, Bool.false_eq_true, if_false]
    generalize (List.lookup x Γ.names == some NameKind.local && p1.line == p1.line) = c
    cases c <;> simp
theorem comp1 (h : EnvOK Γ env) {p q : Pos} {e : PySem.Expr} {g : List Comprehension} {s : Scope} {l : Nat} (hx : Γ.names.lookup x = some .local) (hl : (p.line == q.line) = true) (hs : (s.names.any fun (n, k) => n == x && (k == .local || k == .cell)) = false) : swapsWithSole [.Name x p] (.ListComp e g s q) l env = pure true := by
  have k1 := (kindOf_of h x).trans hx
  have kb := blockK h
  unfold swapsWithSole swapsWith
  simp only [kb, k1, Expr.pos, hl, hs]
  rfl
theorem comp0 (h : EnvOK Γ env) {p q : Pos} {e : PySem.Expr} {g : List Comprehension} {s : Scope} {l : Nat} (hx : (Γ.names.lookup x == some .local) = false) : swapsWithSole [.Name x p] (.ListComp e g s q) l env = pure false := by
  have k1 := kindOf_of h x
  have kb := blockK h
  unfold swapsWithSole swapsWith
  simp only [kb, k1, hx]
  rfl
end
end Mine
open PySem PySem.W PyProof.Rows PySem.Calls PySem.Spec
set_option Elab.async false
set_option maxRecDepth 100000
set_option maxHeartbeats 1000000
set_option linter.unusedSimpArgs false
set_option linter.unusedVariables false
namespace Mine
theorem g_len : Glb "len" (.builtin "len") := glb_blt (fun P => by kernel_rfl) (by decide) (by decide +kernel)
theorem g_max : Glb "max" (.builtin "max") := glb_blt (fun P => by kernel_rfl) (by decide) (by decide +kernel)
theorem g_min : Glb "min" (.builtin "min") := glb_blt (fun P => by kernel_rfl) (by decide) (by decide +kernel)
theorem g_tuple : Glb "tuple" (.type "tuple") := glb_blt (fun P => by kernel_rfl) (by decide) (by decide +kernel)
theorem g_list : Glb "list" (.type "list") := glb_blt (fun P => by kernel_rfl) (by decide) (by decide +kernel)
theorem g_range : Glb "range" (.type "range") := glb_blt (fun P => by kernel_rfl) (by decide) (by decide +kernel)
theorem g_enumerate : Glb "enumerate" (.type "enumerate") := glb_blt (fun P => by kernel_rfl) (by decide) (by decide +kernel)
theorem g_zip : Glb "zip" (.type "zip") := glb_blt (fun P => by kernel_rfl) (by decide) (by decide +kernel)
theorem g_MOST_ITEMS : Glb "MOST_ITEMS" (.int 20000 442) := glb_of fun P => by kernel_rfl
theorem g_Thing : Glb "Thing" (.ref 141) := glb_of fun P => by kernel_rfl
theorem k_Thing : ∀ P, keepIn (hk P) (.ref 141) = true := fun P => by kernel_rfl
theorem g_Heap : Glb "Heap" (.ref 197) := glb_of fun P => by kernel_rfl
theorem k_Heap : ∀ P, keepIn (hk P) (.ref 197) = true := fun P => by kernel_rfl
theorem g_Thrown : Glb "Thrown" (.ref 71) := glb_71
theorem k_Thrown : ∀ P, keepIn (hk P) (.ref 71) = true := fun P => by kernel_rfl
noncomputable abbrev c_Thing : CF := cthing
noncomputable abbrev c_Heap : CF := cheap
noncomputable abbrev c_Thrown : CF := cthrown
theorem f_Thing : SF 2 141 c_Thing := sf_thing
theorem f_Heap : SF 2 197 c_Heap := sf_heap
theorem f_Thrown : SXF 3 71 c_Thrown := sxf_thrown
noncomputable def c_text_value : CF := cfun 1 [some 0] [] (cseq (cret (ctup (escons (cstr 5) (escons (cenc (cloc 0)) (esnil))))) (snil))
theorem g_text_value : Glb "text_value" (.ref 80) := glb_of fun P => by kernel_rfl
theorem k_text_value : ∀ P, keepIn (hk P) (.ref 80) = true := fun P => by kernel_rfl
theorem f_text_value : SF 1 80 c_text_value := by
  refine' sf_intro (b := 0) ["text"] ["text"] [] [some 0] [] ?hK ?hcd ?hb ?hl ?hbody
  case hK => intro P; rfl
  case hcd => intro P; kernel_rfl
  case hb => intro ws h; match ws, h with | [a0], _ => rfl
  case hl => rfl
  case hbody => exact (@sss_cons _ _ _ _ _ _ (@ss_ret _ _ _ _ _ (@ne_tuple _ _ _ _ _ _ (@nes_cons _ _ _ _ _ _ (@ne_str _ _ _ _ _ 5 rfl) (@nes_cons _ _ _ _ _ _ (@se_enc _ _ _ _ _ _ _ _ (@ne_loc _ _ _ _ 0 rfl rfl rfl) (fun _ => rfl) (fun _ => rfl) rfl) (@nes_nil _ _) (fun _ => rfl)) (fun _ => rfl)) (Nat.le_of_ble_eq_true rfl))) (@nss_nil _ _))
noncomputable def c_error_kind : CF := cfun 1 [some 0] [] (cseq (cret (ctup (escons (cstr 6) (escons (cloc 0) (escons (ctup (esnil)) (esnil)))))) (snil))
theorem g_error_kind : Glb "error_kind" (.ref 87) := glb_of fun P => by kernel_rfl
theorem k_error_kind : ∀ P, keepIn (hk P) (.ref 87) = true := fun P => by kernel_rfl
theorem f_error_kind : SF 1 87 c_error_kind := by
  refine' sf_intro (b := 0) ["name"] ["name"] [] [some 0] [] ?hK ?hcd ?hb ?hl ?hbody
  case hK => intro P; rfl
  case hcd => intro P; kernel_rfl
  case hb => intro ws h; match ws, h with | [a0], _ => rfl
  case hl => rfl
  case hbody => exact (@sss_cons _ _ _ _ _ _ (@ss_ret _ _ _ _ _ (@ne_tuple _ _ _ _ _ _ (@nes_cons _ _ _ _ _ _ (@ne_str _ _ _ _ _ 6 rfl) (@nes_cons _ _ _ _ _ _ (@ne_loc _ _ _ _ 0 rfl rfl rfl) (@nes_cons _ _ _ _ _ _ (@ne_tuple _ _ _ _ _ _ (@nes_nil _ _) (Nat.le_of_ble_eq_true rfl)) (@nes_nil _ _) (fun _ => rfl)) (fun _ => rfl)) (fun _ => rfl)) (Nat.le_of_ble_eq_true rfl))) (@nss_nil _ _))
noncomputable def c_error_value : CF := cfun 2 [some 0, some 1] [] (cseq (cret (ctup (escons (cstr 7) (escons (ccall (escons (cloc 0) (esnil)) c_error_kind) (escons (cblt (escons (cloc 1) (esnil)) b_tuple) (esnil)))))) (snil))
theorem g_error_value : Glb "error_value" (.ref 94) := glb_of fun P => by kernel_rfl
theorem k_error_value : ∀ P, keepIn (hk P) (.ref 94) = true := fun P => by kernel_rfl
theorem f_error_value : SF 2 94 c_error_value := by
  refine' sf_intro (b := 1) ["name", "parts"] ["name", "parts"] [] [some 0, some 1] [] ?hK ?hcd ?hb ?hl ?hbody
  case hK => intro P; rfl
  case hcd => intro P; kernel_rfl
  case hb => intro ws h; match ws, h with | [a0, a1], _ => rfl
  case hl => rfl
  case hbody => exact (@sss_cons _ _ _ _ _ _ (@ss_ret _ _ _ _ _ (@ne_tuple _ _ _ _ _ _ (@nes_cons _ _ _ _ _ _ (@ne_str _ _ _ _ _ 7 rfl) (@nes_cons _ _ _ _ _ _ (@se_callK _ _ _ _ _ _ _ _ _ _ (@SF.le 1 1 _ _ (f_error_kind) rfl) g_error_kind k_error_kind (@nes_cons _ _ _ _ _ _ (@ne_loc _ _ _ _ 0 rfl rfl rfl) (@nes_nil _ _) (fun _ => rfl)) rfl rfl (fun _ => rfl) (fun _ => rfl)) (@nes_cons _ _ _ _ _ _ (@ne_typ _ _ _ _ _ _ _ _ _ _ sb_tuple g_tuple (@nes_cons _ _ _ _ _ _ (@ne_loc _ _ _ _ 1 rfl rfl rfl) (@nes_nil _ _) (fun _ => rfl)) rfl rfl (fun _ => rfl) (fun _ => rfl)) (@nes_nil _ _) (fun _ => rfl)) (fun _ => rfl)) (fun _ => rfl)) (Nat.le_of_ble_eq_true rfl))) (@nss_nil _ _))
noncomputable def c_thrown : CF := cfunx 2 [some 0, some 1] [] (ccall (escons (ccall (escons (cloc 0) (escons (cloc 1) (esnil))) c_error_value) (esnil)) c_Thrown)
theorem g_thrown : Glb "thrown" (.ref 101) := glb_of fun P => by kernel_rfl
theorem k_thrown : ∀ P, keepIn (hk P) (.ref 101) = true := fun P => by kernel_rfl
theorem f_thrown : SXF 4 101 c_thrown := by
  refine' sxf_intro (b := 3) ["name", "parts"] ["name", "parts"] [] [some 0, some 1] [] ?hK ?hcd ?hb ?hl ?hbody
  case hK => intro P; rfl
  case hcd => intro P; kernel_rfl
  case hb => intro ws h; match ws, h with | [a0, a1], _ => rfl
  case hl => rfl
  case hbody => exact (@sxe_call _ _ _ _ _ _ _ _ _ _ (@SXF.le 3 3 _ _ (f_Thrown) rfl) g_Thrown k_Thrown (@nes_cons _ _ _ _ _ _ (@se_callK _ _ _ _ _ _ _ _ _ _ (@SF.le 2 3 _ _ (f_error_value) rfl) g_error_value k_error_value (@nes_cons _ _ _ _ _ _ (@ne_loc _ _ _ _ 0 rfl rfl rfl) (@nes_cons _ _ _ _ _ _ (@ne_loc _ _ _ _ 1 rfl rfl rfl) (@nes_nil _ _) (fun _ => rfl)) (fun _ => rfl)) rfl rfl (fun _ => rfl) (fun _ => rfl)) (@nes_nil _ _) (fun _ => rfl)) rfl rfl (fun _ => rfl) (fun _ => rfl))
noncomputable def c_thrown_text : CF := cfunx 2 [some 0, some 1] [] (ccall (escons (ccall (escons (cloc 0) (escons (ctup (escons (ccall (escons (cloc 1) (esnil)) c_text_value) (esnil))) (esnil))) c_error_value) (esnil)) c_Thrown)
theorem g_thrown_text : Glb "thrown_text" (.ref 108) := glb_of fun P => by kernel_rfl
theorem k_thrown_text : ∀ P, keepIn (hk P) (.ref 108) = true := fun P => by kernel_rfl
theorem f_thrown_text : SXF 4 108 c_thrown_text := by
  refine' sxf_intro (b := 3) ["name", "text"] ["name", "text"] [] [some 0, some 1] [] ?hK ?hcd ?hb ?hl ?hbody
  case hK => intro P; rfl
  case hcd => intro P; kernel_rfl
  case hb => intro ws h; match ws, h with | [a0, a1], _ => rfl
  case hl => rfl
  case hbody => exact (@sxe_call _ _ _ _ _ _ _ _ _ _ (@SXF.le 3 3 _ _ (f_Thrown) rfl) g_Thrown k_Thrown (@nes_cons _ _ _ _ _ _ (@se_callK _ _ _ _ _ _ _ _ _ _ (@SF.le 2 3 _ _ (f_error_value) rfl) g_error_value k_error_value (@nes_cons _ _ _ _ _ _ (@ne_loc _ _ _ _ 0 rfl rfl rfl) (@nes_cons _ _ _ _ _ _ (@ne_tuple _ _ _ _ _ _ (@nes_cons _ _ _ _ _ _ (@se_callK _ _ _ _ _ _ _ _ _ _ (@SF.le 1 3 _ _ (f_text_value) rfl) g_text_value k_text_value (@nes_cons _ _ _ _ _ _ (@ne_loc _ _ _ _ 1 rfl rfl rfl) (@nes_nil _ _) (fun _ => rfl)) rfl rfl (fun _ => rfl) (fun _ => rfl)) (@nes_nil _ _) (fun _ => rfl)) (Nat.le_of_ble_eq_true rfl)) (@nes_nil _ _) (fun _ => rfl)) (fun _ => rfl)) rfl rfl (fun _ => rfl) (fun _ => rfl)) (@nes_nil _ _) (fun _ => rfl)) rfl rfl (fun _ => rfl) (fun _ => rfl))
noncomputable def c_literal_int : CF := cfun 1 [some 0, none] [] (cseq (casg (cifx (tcmp2 .LtE .Lt (cbin .Sub (cint (.ofNat 0)) (cbin .Pow (cint (.ofNat 2)) (cint (.ofNat 63)))) (cloc 0) (cbin .Pow (cint (.ofNat 2)) (cint (.ofNat 63)))) (cstr 2) (cstr 3)) (gloc 1)) (cseq (cret (ctup (escons (cstr 4) (escons (cloc 1) (escons (cloc 0) (esnil)))))) (snil)))
theorem g_literal_int : Glb "literal_int" (.ref 115) := glb_of fun P => by kernel_rfl
theorem k_literal_int : ∀ P, keepIn (hk P) (.ref 115) = true := fun P => by kernel_rfl
theorem f_literal_int : SF 1 115 c_literal_int := by
  refine' sf_intro (b := 0) ["number"] ["number", "kind"] [] [some 0, none] [] ?hK ?hcd ?hb ?hl ?hbody
  case hK => intro P; rfl
  case hcd => intro P; kernel_rfl
  case hb => intro ws h; match ws, h with | [a0], _ => rfl
  case hl => rfl
  case hbody => exact (@sss_cons _ _ _ _ _ _ (@ss_asg _ _ _ _ _ _ _ (@se_if _ _ _ _ _ _ _ _ _ (@st_cmp2 _ _ _ _ _ _ _ _ _ _ _ (@se_bin _ _ _ _ _ _ _ _ (@ne_int _ _ _ _ _) (@se_bin _ _ _ _ _ _ _ _ (@ne_int _ _ _ _ _) (@ne_int _ _ _ _ _))) (@ne_loc _ _ _ _ 0 rfl rfl rfl) (@se_bin _ _ _ _ _ _ _ _ (@ne_int _ _ _ _ _) (@ne_int _ _ _ _ _)) rfl) (@ne_str _ _ _ _ _ 2 rfl) (@ne_str _ _ _ _ _ 3 rfl)) (@tg_loc _ _ _ _ 1 rfl (by decide +kernel) rfl) (fun _ _ => rfl) (fun _ _ => rfl) (fun _ => rfl)) (@sss_cons _ _ _ _ _ _ (@ss_ret _ _ _ _ _ (@ne_tuple _ _ _ _ _ _ (@nes_cons _ _ _ _ _ _ (@ne_str _ _ _ _ _ 4 rfl) (@nes_cons _ _ _ _ _ _ (@ne_loc _ _ _ _ 1 rfl rfl rfl) (@nes_cons _ _ _ _ _ _ (@ne_loc _ _ _ _ 0 rfl rfl rfl) (@nes_nil _ _) (fun _ => rfl)) (fun _ => rfl)) (fun _ => rfl)) (Nat.le_of_ble_eq_true rfl))) (@nss_nil _ _)))
noncomputable def c_named : CF := cfun 2 [some 0, some 1] [] (cseq (cret (ctup (escons (cstr 6) (escons (cloc 0) (escons (cblt (escons (cloc 1) (esnil)) b_tuple) (esnil)))))) (snil))
theorem g_named : Glb "named" (.ref 124) := glb_of fun P => by kernel_rfl
theorem k_named : ∀ P, keepIn (hk P) (.ref 124) = true := fun P => by kernel_rfl
theorem f_named : SF 1 124 c_named := by
  refine' sf_introC (b := 0) ["name", "params"] ["name", "params"] [] [some 0, some 1] [] ?hK ?hcd ?hb ?hl ?hbody
  case hK => intro P; rfl
  case hcd => intro P; kernel_rfl
  case hb => intro ws h; match ws, h with | [a0, a1], _ => intro w s A Q E X q; exact binds_K (K := hk w.params) (T := 117) (items := #[.ref 116]) (n := 0) X rfl rfl rfl rfl rfl _ _ _ _ q
  case hl => rfl
  case hbody => exact (@sss_cons _ _ _ _ _ _ (@ss_ret _ _ _ _ _ (@ne_tuple _ _ _ _ _ _ (@nes_cons _ _ _ _ _ _ (@ne_str _ _ _ _ _ 6 rfl) (@nes_cons _ _ _ _ _ _ (@ne_loc _ _ _ _ 0 rfl rfl rfl) (@nes_cons _ _ _ _ _ _ (@ne_typ _ _ _ _ _ _ _ _ _ _ sb_tuple g_tuple (@nes_cons _ _ _ _ _ _ (@ne_loc _ _ _ _ 1 rfl rfl rfl) (@nes_nil _ _) (fun _ => rfl)) rfl rfl (fun _ => rfl) (fun _ => rfl)) (@nes_nil _ _) (fun _ => rfl)) (fun _ => rfl)) (fun _ => rfl)) (Nat.le_of_ble_eq_true rfl))) (@nss_nil _ _))
noncomputable def c_put : CF := cfun 2 [some 0, some 1] [] (cseq (cexp (capp (cattr 197 3 (cloc 0)) (cloc 1))) (cseq (cret (cbin .Sub (cblt (escons (cattr 197 3 (cloc 0)) (esnil)) b_len) (cint (.ofNat 1)))) (snil)))
theorem m_put : Meth 197 166 "put" := ⟨fun P => by kernel_rfl, fun P => by kernel_rfl, by decide +kernel⟩
theorem i_put : IsFn 166 := fun D => ⟨_, _, D.K 166 _ rfl, rfl⟩
theorem f_put : SF 1 166 c_put := by
  refine' sf_intro (b := 0) ["self", "thing"] ["self", "thing"] [] [some 0, some 1] [] ?hK ?hcd ?hb ?hl ?hbody
  case hK => intro P; rfl
  case hcd => intro P; kernel_rfl
  case hb => intro ws h; match ws, h with | [a0, a1], _ => rfl
  case hl => rfl
  case hbody => exact (@sss_cons _ _ _ _ _ _ (@ss_exp _ _ _ _ _ (@se_app _ _ _ _ _ _ _ _ (@se_attr _ _ _ _ _ 197 3 _ ok197 no197 rfl (@ne_loc _ _ _ _ 0 rfl rfl rfl) (fun _ _ => rfl)) (@ne_loc _ _ _ _ 1 rfl rfl rfl) (fun _ => rfl) (fun _ => rfl) rfl) (fun _ h => notInteractive h) (fun _ => rfl)) (@sss_cons _ _ _ _ _ _ (@ss_ret _ _ _ _ _ (@se_bin _ _ _ _ _ _ _ _ (@ne_blt _ _ _ _ _ _ _ _ _ _ sb_len g_len (@nes_cons _ _ _ _ _ _ (@se_attr _ _ _ _ _ 197 3 _ ok197 no197 rfl (@ne_loc _ _ _ _ 0 rfl rfl rfl) (fun _ _ => rfl)) (@nes_nil _ _) (fun _ => rfl)) rfl rfl (fun _ => rfl) (fun _ => rfl)) (@ne_int _ _ _ _ _))) (@nss_nil _ _)))
noncomputable def c_new_array : CF := cfun 4 [some 0, some 1, some 2, some 3] [] (cseq (cret (cmeth 197 (cloc 0) (escons (ccall (escons (cloc 1) (escons (cblt (escons (cloc 3) (esnil)) b_list) (escons (cblt (escons (cloc 2) (esnil)) b_tuple) (esnil)))) c_Thing) (esnil)) c_put)) (snil))
theorem m_new_array : Meth 197 180 "new_array" := ⟨fun P => by kernel_rfl, fun P => by kernel_rfl, by decide +kernel⟩
theorem i_new_array : IsFn 180 := fun D => ⟨_, _, D.K 180 _ rfl, rfl⟩
theorem f_new_array : SF 3 180 c_new_array := by
  refine' sf_intro (b := 2) ["self", "kind", "sizes", "items"] ["self", "kind", "sizes", "items"] [] [some 0, some 1, some 2, some 3] [] ?hK ?hcd ?hb ?hl ?hbody
  case hK => intro P; rfl
  case hcd => intro P; kernel_rfl
  case hb => intro ws h; match ws, h with | [a0, a1, a2, a3], _ => rfl
  case hl => rfl
  case hbody => exact (@sss_cons _ _ _ _ _ _ (@ss_ret _ _ _ _ _ (@se_meth _ _ _ _ _ _ _ _ _ _ _ _ _ _ (@SF.le 1 2 _ _ (f_put) rfl) i_put ok197 m_put (@ne_loc _ _ _ _ 0 rfl rfl rfl) (@nes_cons _ _ _ _ _ _ (@se_callK _ _ _ _ _ _ _ _ _ _ (@SF.le 2 2 _ _ (f_Thing) rfl) g_Thing k_Thing (@nes_cons _ _ _ _ _ _ (@ne_loc _ _ _ _ 1 rfl rfl rfl) (@nes_cons _ _ _ _ _ _ (@ne_typ _ _ _ _ _ _ _ _ _ _ sb_list g_list (@nes_cons _ _ _ _ _ _ (@ne_loc _ _ _ _ 3 rfl rfl rfl) (@nes_nil _ _) (fun _ => rfl)) rfl rfl (fun _ => rfl) (fun _ => rfl)) (@nes_cons _ _ _ _ _ _ (@ne_typ _ _ _ _ _ _ _ _ _ _ sb_tuple g_tuple (@nes_cons _ _ _ _ _ _ (@ne_loc _ _ _ _ 2 rfl rfl rfl) (@nes_nil _ _) (fun _ => rfl)) rfl rfl (fun _ => rfl) (fun _ => rfl)) (@nes_nil _ _) (fun _ => rfl)) (fun _ => rfl)) (fun _ => rfl)) rfl rfl (fun _ => rfl) (fun _ => rfl)) (@nes_nil _ _) (fun _ => rfl)) (fun _ => rfl) (fun _ => rfl))) (@nss_nil _ _))
noncomputable def c_object : CF := cfun 2 [some 0, some 1] [] (cseq (cif (tnot (tcmp2 .LtE .Lt (cint (.ofNat 0)) (cloc 1) (cblt (escons (cattr 197 3 (cloc 0)) (esnil)) b_len))) (cseq (sdead) (snil)) (snil)) (cseq (cret (csub (cattr 197 3 (cloc 0)) (cloc 1))) (snil)))
theorem m_object : Meth 197 194 "object" := ⟨fun P => by kernel_rfl, fun P => by kernel_rfl, by decide +kernel⟩
theorem i_object : IsFn 194 := fun D => ⟨_, _, D.K 194 _ rfl, rfl⟩
theorem f_object : SF 1 194 c_object := by
  refine' sf_intro (b := 0) ["self", "address"] ["self", "address"] [] [some 0, some 1] [] ?hK ?hcd ?hb ?hl ?hbody
  case hK => intro P; rfl
  case hcd => intro P; kernel_rfl
  case hb => intro ws h; match ws, h with | [a0, a1], _ => rfl
  case hl => rfl
  case hbody => exact (@sss_cons _ _ _ _ _ _ (@ss_if _ _ _ _ _ _ _ _ _ (@st_not _ _ _ _ _ (@st_cmp2 _ _ _ _ _ _ _ _ _ _ _ (@ne_int _ _ _ _ _) (@ne_loc _ _ _ _ 1 rfl rfl rfl) (@ne_blt _ _ _ _ _ _ _ _ _ _ sb_len g_len (@nes_cons _ _ _ _ _ _ (@se_attr _ _ _ _ _ 197 3 _ ok197 no197 rfl (@ne_loc _ _ _ _ 0 rfl rfl rfl) (fun _ _ => rfl)) (@nes_nil _ _) (fun _ => rfl)) rfl rfl (fun _ => rfl) (fun _ => rfl)) rfl)) (@sss_cons _ _ _ _ _ _ (@ns_dead _ _ _) (@nss_nil _ _)) (@nss_nil _ _)) (@sss_cons _ _ _ _ _ _ (@ss_ret _ _ _ _ _ (@se_sub _ _ _ _ _ _ _ (@se_attr _ _ _ _ _ 197 3 _ ok197 no197 rfl (@ne_loc _ _ _ _ 0 rfl rfl rfl) (fun _ _ => rfl)) (@ne_loc _ _ _ _ 1 rfl rfl rfl) (fun _ _ => rfl))) (@nss_nil _ _)))
noncomputable def c_array_kind : CF := cfun 2 [some 0, some 1] [] (cseq (cret (ccall (escons (cstr 12) (escons (ctup (escons (cloc 0) (escons (ctup (escons (cstr 11) (escons (cloc 1) (esnil)))) (esnil)))) (esnil))) c_named)) (snil))
theorem g_array_kind : Glb "array_kind" (.ref 208) := glb_of fun P => by kernel_rfl
theorem k_array_kind : ∀ P, keepIn (hk P) (.ref 208) = true := fun P => by kernel_rfl
theorem f_array_kind : SF 2 208 c_array_kind := by
  refine' sf_intro (b := 1) ["item", "rank"] ["item", "rank"] [] [some 0, some 1] [] ?hK ?hcd ?hb ?hl ?hbody
  case hK => intro P; rfl
  case hcd => intro P; kernel_rfl
  case hb => intro ws h; match ws, h with | [a0, a1], _ => rfl
  case hl => rfl
  case hbody => exact (@sss_cons _ _ _ _ _ _ (@ss_ret _ _ _ _ _ (@se_callK _ _ _ _ _ _ _ _ _ _ (@SF.le 1 1 _ _ (f_named) rfl) g_named k_named (@nes_cons _ _ _ _ _ _ (@ne_str _ _ _ _ _ 12 rfl) (@nes_cons _ _ _ _ _ _ (@ne_tuple _ _ _ _ _ _ (@nes_cons _ _ _ _ _ _ (@ne_loc _ _ _ _ 0 rfl rfl rfl) (@nes_cons _ _ _ _ _ _ (@ne_tuple _ _ _ _ _ _ (@nes_cons _ _ _ _ _ _ (@ne_str _ _ _ _ _ 11 rfl) (@nes_cons _ _ _ _ _ _ (@ne_loc _ _ _ _ 1 rfl rfl rfl) (@nes_nil _ _) (fun _ => rfl)) (fun _ => rfl)) (Nat.le_of_ble_eq_true rfl)) (@nes_nil _ _) (fun _ => rfl)) (fun _ => rfl)) (Nat.le_of_ble_eq_true rfl)) (@nes_nil _ _) (fun _ => rfl)) (fun _ => rfl)) rfl rfl (fun _ => rfl) (fun _ => rfl))) (@nss_nil _ _))
noncomputable def c_many_of : CF := cfun 1 [some 0, none, none] [] (cseq (casg (cint (.ofNat 1)) (gloc 1)) (cseq (cfor 10 false (ival (cloc 0)) (gloc 2) (cseq (casg (cbin .Mult (cloc 1) (cloc 2)) (gloc 1)) (snil))) (cseq (cret (cloc 1)) (snil))))
theorem g_many_of : Glb "many_of" (.ref 215) := glb_of fun P => by kernel_rfl
theorem k_many_of : ∀ P, keepIn (hk P) (.ref 215) = true := fun P => by kernel_rfl
theorem f_many_of : SF 1 215 c_many_of := by
  refine' sf_intro (b := 0) ["sizes"] ["sizes", "many", "size"] [] [some 0, none, none] [] ?hK ?hcd ?hb ?hl ?hbody
  case hK => intro P; rfl
  case hcd => intro P; kernel_rfl
  case hb => intro ws h; match ws, h with | [a0], _ => rfl
  case hl => rfl
  case hbody => exact (@sss_cons _ _ _ _ _ _ (@ss_asg _ _ _ _ _ _ _ (@ne_int _ _ _ _ _) (@tg_loc _ _ _ _ 1 rfl (by decide +kernel) rfl) (fun _ _ => rfl) (fun _ _ => rfl) (fun _ => rfl)) (@sss_cons _ _ _ _ _ _ (@ss_for _ _ _ 10 _ _ _ _ _ _ _ (@si_val _ _ _ _ (@ne_loc _ _ _ _ 0 rfl rfl rfl)) (@tg_loc _ _ _ _ 2 rfl (by decide +kernel) rfl) (@sss_cons _ _ _ _ _ _ (@ss_asg _ _ _ _ _ _ _ (@se_bin _ _ _ _ _ _ _ _ (@ne_loc _ _ _ _ 1 rfl rfl rfl) (@ne_loc _ _ _ _ 2 rfl rfl rfl)) (@tg_loc _ _ _ _ 1 rfl (by decide +kernel) rfl) (fun _ _ => rfl) (fun _ _ => rfl) (fun _ => rfl)) (@nss_nil _ _)) rfl (fun _ _ => rfl)) (@sss_cons _ _ _ _ _ _ (@ss_ret _ _ _ _ _ (@ne_loc _ _ _ _ 1 rfl rfl rfl)) (@nss_nil _ _))))
end Mine
open PySem PySem.W PyProof.Rows PySem.Calls PySem.Spec
set_option Elab.async false
set_option maxRecDepth 100000
set_option maxHeartbeats 1000000
set_option linter.unusedSimpArgs false
set_option linter.unusedVariables false
namespace Mine
noncomputable def c_strides_of : CF := cfun 1 [some 0, none, none, none] [] (cseq (casgb (ctup (escons (clist (esnil)) (escons (cint (.ofNat 1)) (esnil)))) (gloc 1) (gloc 2)) (cseq (cfor 10 false (ival (cloc 0)) (gloc 3) (cseq (cexp (capp (cloc 1) (cloc 2))) (cseq (casg (cbin .Mult (cloc 2) (cloc 3)) (gloc 2)) (snil)))) (cseq (cret (cblt (escons (cloc 1) (esnil)) b_tuple)) (snil))))
theorem g_strides_of : Glb "strides_of" (.ref 222) := glb_of fun P => by kernel_rfl
theorem k_strides_of : ∀ P, keepIn (hk P) (.ref 222) = true := fun P => by kernel_rfl
theorem f_strides_of : SF 1 222 c_strides_of := by
  refine' sf_intro (b := 0) ["sizes"] ["sizes", "found", "far", "size"] [] [some 0, none, none, none] [] ?hK ?hcd ?hb ?hl ?hbody
  case hK => intro P; rfl
  case hcd => intro P; kernel_rfl
  case hb => intro ws h; match ws, h with | [a0], _ => rfl
  case hl => rfl
  case hbody => exact (@sss_cons _ _ _ _ _ _ (@ss_asgb _ _ _ _ _ _ _ _ _ _ _ _ (@ne_tuple _ _ _ _ _ _ (@nes_cons _ _ _ _ _ _ (@ne_list _ _ _ _ _ (@nes_nil _ _)) (@nes_cons _ _ _ _ _ _ (@ne_int _ _ _ _ _) (@nes_nil _ _) (fun _ => rfl)) (fun _ => rfl)) (Nat.le_of_ble_eq_true rfl)) (@tb_loc _ _ _ 1 rfl (by decide +kernel) rfl) (@tb_loc _ _ _ 2 rfl (by decide +kernel) rfl) (fun _ _ => rfl) (fun _ h => swap2 h rfl rfl rfl rfl rfl rfl rfl)) (@sss_cons _ _ _ _ _ _ (@ss_for _ _ _ 10 _ _ _ _ _ _ _ (@si_val _ _ _ _ (@ne_loc _ _ _ _ 0 rfl rfl rfl)) (@tg_loc _ _ _ _ 3 rfl (by decide +kernel) rfl) (@sss_cons _ _ _ _ _ _ (@ss_exp _ _ _ _ _ (@se_app _ _ _ _ _ _ _ _ (@ne_loc _ _ _ _ 1 rfl rfl rfl) (@ne_loc _ _ _ _ 2 rfl rfl rfl) (fun _ => rfl) (fun _ => rfl) rfl) (fun _ h => notInteractive h) (fun _ => rfl)) (@sss_cons _ _ _ _ _ _ (@ss_asg _ _ _ _ _ _ _ (@se_bin _ _ _ _ _ _ _ _ (@ne_loc _ _ _ _ 2 rfl rfl rfl) (@ne_loc _ _ _ _ 3 rfl rfl rfl)) (@tg_loc _ _ _ _ 2 rfl (by decide +kernel) rfl) (fun _ _ => rfl) (fun _ _ => rfl) (fun _ => rfl)) (@nss_nil _ _))) rfl (fun _ _ => rfl)) (@sss_cons _ _ _ _ _ _ (@ss_ret _ _ _ _ _ (@ne_typ _ _ _ _ _ _ _ _ _ _ sb_tuple g_tuple (@nes_cons _ _ _ _ _ _ (@ne_loc _ _ _ _ 1 rfl rfl rfl) (@nes_nil _ _) (fun _ => rfl)) rfl rfl (fun _ => rfl) (fun _ => rfl))) (@nss_nil _ _))))
noncomputable def c_offset_of : CF := cfun 2 [some 0, some 1, none, none, none, none] [] (cseq (cwhile 5 (tand (tcmp .Gt (cblt (escons (cloc 1) (esnil)) b_len) (cblt (escons (cint (.ofNat 1)) (escons (cblt (escons (cloc 0) (esnil)) b_len) (esnil))) b_max)) (tand (tcmp .Eq (csub (cloc 1) (cneg (cint (.ofNat 1)))) (cint (.ofNat 1))) (candn))) (cseq (casg (cbut (cloc 1) (cneg (cint (.ofNat 1)))) (gloc 1)) (snil))) (cseq (cif (tand (tcmp .Eq (cblt (escons (cloc 1) (esnil)) b_len) (cint (.ofNat 1))) (tand (tcmp .NotEq (cblt (escons (cloc 0) (esnil)) b_len) (cint (.ofNat 1))) (candn))) (cseq (cret (cifx (tcmp2 .LtE .LtE (cint (.ofNat 1)) (csub (cloc 1) (cint (.ofNat 0))) (ccall (escons (cloc 0) (esnil)) c_many_of)) (cbin .Sub (csub (cloc 1) (cint (.ofNat 0))) (cint (.ofNat 1))) (cneg (cint (.ofNat 1))))) (snil)) (snil)) (cseq (cif (tcmp .NotEq (cblt (escons (cloc 1) (esnil)) b_len) (cblt (escons (cloc 0) (esnil)) b_len)) (cseq (cret (cneg (cint (.ofNat 1)))) (snil)) (snil)) (cseq (casg (cint (.ofNat 0)) (gloc 2)) (cseq (cfor 10 true (izip3 (escons (cloc 1) (escons (cloc 0) (escons (ccall (escons (cloc 0) (esnil)) c_strides_of) (esnil))))) (gtup 3 (gcons (gloc 3) (gcons (gloc 4) (gcons (gloc 5) (gnil))))) (cseq (cif (tnot (tcmp2 .LtE .LtE (cint (.ofNat 1)) (cloc 3) (cloc 4))) (cseq (cret (cneg (cint (.ofNat 1)))) (snil)) (snil)) (cseq (casg (cbin .Add (cloc 2) (cbin .Mult (cbin .Sub (cloc 3) (cint (.ofNat 1))) (cloc 5))) (gloc 2)) (snil)))) (cseq (cret (cloc 2)) (snil)))))))
theorem g_offset_of : Glb "offset_of" (.ref 229) := glb_of fun P => by kernel_rfl
theorem k_offset_of : ∀ P, keepIn (hk P) (.ref 229) = true := fun P => by kernel_rfl
theorem f_offset_of : SF 2 229 c_offset_of := by
  refine' sf_intro (b := 1) ["sizes", "indices"] ["sizes", "indices", "place", "index", "size", "far"] [] [some 0, some 1, none, none, none, none] [] ?hK ?hcd ?hb ?hl ?hbody
  case hK => intro P; rfl
  case hcd => intro P; kernel_rfl
  case hb => intro ws h; match ws, h with | [a0, a1], _ => rfl
  case hl => rfl
  case hbody => exact (@sss_cons _ _ _ _ _ _ (@ss_while _ _ _ 5 _ _ _ _ (@st_bool _ _ _ _ _ _ (@sts_and _ _ _ _ _ _ (@st_cmp _ _ _ _ _ _ _ _ (@ne_blt _ _ _ _ _ _ _ _ _ _ sb_len g_len (@nes_cons _ _ _ _ _ _ (@ne_loc _ _ _ _ 1 rfl rfl rfl) (@nes_nil _ _) (fun _ => rfl)) rfl rfl (fun _ => rfl) (fun _ => rfl)) (@ne_blt _ _ _ _ _ _ _ _ _ _ sb_max g_max (@nes_cons _ _ _ _ _ _ (@ne_int _ _ _ _ _) (@nes_cons _ _ _ _ _ _ (@ne_blt _ _ _ _ _ _ _ _ _ _ sb_len g_len (@nes_cons _ _ _ _ _ _ (@ne_loc _ _ _ _ 0 rfl rfl rfl) (@nes_nil _ _) (fun _ => rfl)) rfl rfl (fun _ => rfl) (fun _ => rfl)) (@nes_nil _ _) (fun _ => rfl)) (fun _ => rfl)) rfl rfl (fun _ => rfl) (fun _ => rfl)) rfl) (@sts_and _ _ _ _ _ _ (@st_cmp _ _ _ _ _ _ _ _ (@se_sub _ _ _ _ _ _ _ (@ne_loc _ _ _ _ 1 rfl rfl rfl) (@se_neg _ _ _ _ _ (@ne_int _ _ _ _ _)) (fun _ _ => rfl)) (@ne_int _ _ _ _ _) rfl) (@nts_and_nil _ _)))) (@sss_cons _ _ _ _ _ _ (@ss_asg _ _ _ _ _ _ _ (@se_but _ _ _ _ _ _ _ _ (@ne_loc _ _ _ _ 1 rfl rfl rfl) (@se_neg _ _ _ _ _ (@ne_int _ _ _ _ _))) (@tg_loc _ _ _ _ 1 rfl (by decide +kernel) rfl) (fun _ _ => rfl) (fun _ _ => rfl) (fun _ => rfl)) (@nss_nil _ _))) (@sss_cons _ _ _ _ _ _ (@ss_if _ _ _ _ _ _ _ _ _ (@st_bool _ _ _ _ _ _ (@sts_and _ _ _ _ _ _ (@st_cmp _ _ _ _ _ _ _ _ (@ne_blt _ _ _ _ _ _ _ _ _ _ sb_len g_len (@nes_cons _ _ _ _ _ _ (@ne_loc _ _ _ _ 1 rfl rfl rfl) (@nes_nil _ _) (fun _ => rfl)) rfl rfl (fun _ => rfl) (fun _ => rfl)) (@ne_int _ _ _ _ _) rfl) (@sts_and _ _ _ _ _ _ (@st_cmp _ _ _ _ _ _ _ _ (@ne_blt _ _ _ _ _ _ _ _ _ _ sb_len g_len (@nes_cons _ _ _ _ _ _ (@ne_loc _ _ _ _ 0 rfl rfl rfl) (@nes_nil _ _) (fun _ => rfl)) rfl rfl (fun _ => rfl) (fun _ => rfl)) (@ne_int _ _ _ _ _) rfl) (@nts_and_nil _ _)))) (@sss_cons _ _ _ _ _ _ (@ss_ret _ _ _ _ _ (@se_if _ _ _ _ _ _ _ _ _ (@st_cmp2 _ _ _ _ _ _ _ _ _ _ _ (@ne_int _ _ _ _ _) (@se_sub _ _ _ _ _ _ _ (@ne_loc _ _ _ _ 1 rfl rfl rfl) (@ne_int _ _ _ _ _) (fun _ _ => rfl)) (@se_callK _ _ _ _ _ _ _ _ _ _ (@SF.le 1 1 _ _ (f_many_of) rfl) g_many_of k_many_of (@nes_cons _ _ _ _ _ _ (@ne_loc _ _ _ _ 0 rfl rfl rfl) (@nes_nil _ _) (fun _ => rfl)) rfl rfl (fun _ => rfl) (fun _ => rfl)) rfl) (@se_bin _ _ _ _ _ _ _ _ (@se_sub _ _ _ _ _ _ _ (@ne_loc _ _ _ _ 1 rfl rfl rfl) (@ne_int _ _ _ _ _) (fun _ _ => rfl)) (@ne_int _ _ _ _ _)) (@se_neg _ _ _ _ _ (@ne_int _ _ _ _ _)))) (@nss_nil _ _)) (@nss_nil _ _)) (@sss_cons _ _ _ _ _ _ (@ss_if _ _ _ _ _ _ _ _ _ (@st_cmp _ _ _ _ _ _ _ _ (@ne_blt _ _ _ _ _ _ _ _ _ _ sb_len g_len (@nes_cons _ _ _ _ _ _ (@ne_loc _ _ _ _ 1 rfl rfl rfl) (@nes_nil _ _) (fun _ => rfl)) rfl rfl (fun _ => rfl) (fun _ => rfl)) (@ne_blt _ _ _ _ _ _ _ _ _ _ sb_len g_len (@nes_cons _ _ _ _ _ _ (@ne_loc _ _ _ _ 0 rfl rfl rfl) (@nes_nil _ _) (fun _ => rfl)) rfl rfl (fun _ => rfl) (fun _ => rfl)) rfl) (@sss_cons _ _ _ _ _ _ (@ss_ret _ _ _ _ _ (@se_neg _ _ _ _ _ (@ne_int _ _ _ _ _))) (@nss_nil _ _)) (@nss_nil _ _)) (@sss_cons _ _ _ _ _ _ (@ss_asg _ _ _ _ _ _ _ (@ne_int _ _ _ _ _) (@tg_loc _ _ _ _ 2 rfl (by decide +kernel) rfl) (fun _ _ => rfl) (fun _ _ => rfl) (fun _ => rfl)) (@sss_cons _ _ _ _ _ _ (@ss_for _ _ _ 10 _ _ _ _ _ _ _ (@si_zip3 _ _ _ _ _ _ _ _ _ g_zip (@nes_cons _ _ _ _ _ _ (@ne_loc _ _ _ _ 1 rfl rfl rfl) (@nes_cons _ _ _ _ _ _ (@ne_loc _ _ _ _ 0 rfl rfl rfl) (@nes_cons _ _ _ _ _ _ (@se_callK _ _ _ _ _ _ _ _ _ _ (@SF.le 1 1 _ _ (f_strides_of) rfl) g_strides_of k_strides_of (@nes_cons _ _ _ _ _ _ (@ne_loc _ _ _ _ 0 rfl rfl rfl) (@nes_nil _ _) (fun _ => rfl)) rfl rfl (fun _ => rfl) (fun _ => rfl)) (@nes_nil _ _) (fun _ => rfl)) (fun _ => rfl)) (fun _ => rfl)) rfl rfl (fun _ => rfl) (fun _ => rfl)) (@tg_tup _ _ _ _ _ _ _ (@tgs_cons _ _ _ _ _ _ (@tg_loc _ _ _ _ 3 rfl (by decide +kernel) rfl) (@tgs_cons _ _ _ _ _ _ (@tg_loc _ _ _ _ 4 rfl (by decide +kernel) rfl) (@tgs_cons _ _ _ _ _ _ (@tg_loc _ _ _ _ 5 rfl (by decide +kernel) rfl) (@ntg_nil _ _) (fun _ => rfl)) (fun _ => rfl)) (fun _ => rfl)) (fun _ => rfl) (fun _ => rfl)) (@sss_cons _ _ _ _ _ _ (@ss_if _ _ _ _ _ _ _ _ _ (@st_not _ _ _ _ _ (@st_cmp2 _ _ _ _ _ _ _ _ _ _ _ (@ne_int _ _ _ _ _) (@ne_loc _ _ _ _ 3 rfl rfl rfl) (@ne_loc _ _ _ _ 4 rfl rfl rfl) rfl)) (@sss_cons _ _ _ _ _ _ (@ss_ret _ _ _ _ _ (@se_neg _ _ _ _ _ (@ne_int _ _ _ _ _))) (@nss_nil _ _)) (@nss_nil _ _)) (@sss_cons _ _ _ _ _ _ (@ss_asg _ _ _ _ _ _ _ (@se_bin _ _ _ _ _ _ _ _ (@ne_loc _ _ _ _ 2 rfl rfl rfl) (@se_bin _ _ _ _ _ _ _ _ (@se_bin _ _ _ _ _ _ _ _ (@ne_loc _ _ _ _ 3 rfl rfl rfl) (@ne_int _ _ _ _ _)) (@ne_loc _ _ _ _ 5 rfl rfl rfl))) (@tg_loc _ _ _ _ 2 rfl (by decide +kernel) rfl) (fun _ _ => rfl) (fun _ _ => rfl) (fun _ => rfl)) (@nss_nil _ _))) rfl (fun _ _ => rfl)) (@sss_cons _ _ _ _ _ _ (@ss_ret _ _ _ _ _ (@ne_loc _ _ _ _ 2 rfl rfl rfl)) (@nss_nil _ _)))))))
noncomputable def c_index_of : CF := cfun 2 [some 0, some 1, none, none] [] (cseq (casg (clist (esnil)) (gloc 2)) (cseq (cfor 10 false (ival (cloc 0)) (gloc 3) (cseq (cexp (capp (cloc 2) (cbin .Add (cbin .Mod (cloc 1) (cloc 3)) (cint (.ofNat 1))))) (cseq (casg (cbin .FloorDiv (cloc 1) (cloc 3)) (gloc 1)) (snil)))) (cseq (cret (cblt (escons (cloc 2) (esnil)) b_tuple)) (snil))))
theorem g_index_of : Glb "index_of" (.ref 236) := glb_of fun P => by kernel_rfl
theorem k_index_of : ∀ P, keepIn (hk P) (.ref 236) = true := fun P => by kernel_rfl
theorem f_index_of : SF 1 236 c_index_of := by
  refine' sf_intro (b := 0) ["sizes", "offset"] ["sizes", "offset", "found", "size"] [] [some 0, some 1, none, none] [] ?hK ?hcd ?hb ?hl ?hbody
  case hK => intro P; rfl
  case hcd => intro P; kernel_rfl
  case hb => intro ws h; match ws, h with | [a0, a1], _ => rfl
  case hl => rfl
  case hbody => exact (@sss_cons _ _ _ _ _ _ (@ss_asg _ _ _ _ _ _ _ (@ne_list _ _ _ _ _ (@nes_nil _ _)) (@tg_loc _ _ _ _ 2 rfl (by decide +kernel) rfl) (fun _ _ => rfl) (fun _ _ => rfl) (fun _ => rfl)) (@sss_cons _ _ _ _ _ _ (@ss_for _ _ _ 10 _ _ _ _ _ _ _ (@si_val _ _ _ _ (@ne_loc _ _ _ _ 0 rfl rfl rfl)) (@tg_loc _ _ _ _ 3 rfl (by decide +kernel) rfl) (@sss_cons _ _ _ _ _ _ (@ss_exp _ _ _ _ _ (@se_app _ _ _ _ _ _ _ _ (@ne_loc _ _ _ _ 2 rfl rfl rfl) (@se_bin _ _ _ _ _ _ _ _ (@se_bin _ _ _ _ _ _ _ _ (@ne_loc _ _ _ _ 1 rfl rfl rfl) (@ne_loc _ _ _ _ 3 rfl rfl rfl)) (@ne_int _ _ _ _ _)) (fun _ => rfl) (fun _ => rfl) rfl) (fun _ h => notInteractive h) (fun _ => rfl)) (@sss_cons _ _ _ _ _ _ (@ss_asg _ _ _ _ _ _ _ (@se_bin _ _ _ _ _ _ _ _ (@ne_loc _ _ _ _ 1 rfl rfl rfl) (@ne_loc _ _ _ _ 3 rfl rfl rfl)) (@tg_loc _ _ _ _ 1 rfl (by decide +kernel) rfl) (fun _ _ => rfl) (fun _ _ => rfl) (fun _ => rfl)) (@nss_nil _ _))) rfl (fun _ _ => rfl)) (@sss_cons _ _ _ _ _ _ (@ss_ret _ _ _ _ _ (@ne_typ _ _ _ _ _ _ _ _ _ _ sb_tuple g_tuple (@nes_cons _ _ _ _ _ _ (@ne_loc _ _ _ _ 2 rfl rfl rfl) (@nes_nil _ _) (fun _ => rfl)) rfl rfl (fun _ => rfl) (fun _ => rfl))) (@nss_nil _ _))))
noncomputable def c_bounds_fault : CF := cfunx 2 [some 0, some 1] [] (ccall (escons (cstr 1) (escons (ctup (escons (cloc 0) (escons (ctup (escons (cstr 8) (escons (cblt (escons (ccomp 10 [] 2 false (ival (cloc 1)) (gloc 1) (tyes) (cemit (ccall (escons (cloc 1) (esnil)) c_literal_int))) (esnil)) b_tuple) (esnil)))) (esnil)))) (esnil))) c_thrown)
theorem g_bounds_fault : Glb "bounds_fault" (.ref 241) := glb_of fun P => by kernel_rfl
theorem k_bounds_fault : ∀ P, keepIn (hk P) (.ref 241) = true := fun P => by kernel_rfl
theorem f_bounds_fault : SXF 5 241 c_bounds_fault := by
  refine' sxf_intro (b := 4) ["value", "indices"] ["value", "indices"] [] [some 0, some 1] [] ?hK ?hcd ?hb ?hl ?hbody
  case hK => intro P; rfl
  case hcd => intro P; kernel_rfl
  case hb => intro ws h; match ws, h with | [a0, a1], _ => rfl
  case hl => rfl
  case hbody => exact (@sxe_call _ _ _ _ _ _ _ _ _ _ (@SXF.le 4 4 _ _ (f_thrown) rfl) g_thrown k_thrown (@nes_cons _ _ _ _ _ _ (@ne_str _ _ _ _ _ 1 rfl) (@nes_cons _ _ _ _ _ _ (@ne_tuple _ _ _ _ _ _ (@nes_cons _ _ _ _ _ _ (@ne_loc _ _ _ _ 0 rfl rfl rfl) (@nes_cons _ _ _ _ _ _ (@ne_tuple _ _ _ _ _ _ (@nes_cons _ _ _ _ _ _ (@ne_str _ _ _ _ _ 8 rfl) (@nes_cons _ _ _ _ _ _ (@ne_typ _ _ _ _ _ _ _ _ _ _ sb_tuple g_tuple (@nes_cons _ _ _ _ _ _ (@se_comp _ _ 10 [] 2 _ _ _ _ _ _ _ _ _ _ _ _ _ [".0", "index"] [] (@si_val _ _ _ _ (@ne_loc _ _ _ _ 1 rfl rfl rfl)) (@turn_one _ _ _ _ _ _) (@tg_loc _ _ _ _ 1 rfl (by decide +kernel) rfl) (@sif_nil _ _) (@scb_emit _ _ _ _ (@se_callK _ _ _ _ _ _ _ _ _ _ (@SF.le 1 4 _ _ (f_literal_int) rfl) g_literal_int k_literal_int (@nes_cons _ _ _ _ _ _ (@ne_loc _ _ _ _ 1 rfl rfl rfl) (@nes_nil _ _) (fun _ => rfl)) rfl rfl (fun _ => rfl) (fun _ => rfl))) rfl (fun _ _ => rfl) rfl rfl) (@nes_nil _ _) (fun _ => rfl)) rfl rfl (fun _ => rfl) (fun _ => rfl)) (@nes_nil _ _) (fun _ => rfl)) (fun _ => rfl)) (Nat.le_of_ble_eq_true rfl)) (@nes_nil _ _) (fun _ => rfl)) (fun _ => rfl)) (Nat.le_of_ble_eq_true rfl)) (@nes_nil _ _) (fun _ => rfl)) (fun _ => rfl)) rfl rfl (fun _ => rfl) (fun _ => rfl))
noncomputable def c_check_sizes : CF := cfun 1 [some 0] [] (cseq (cif (tor (tcmp .NotEq (ccomp 10 [] 2 false (ival (cloc 0)) (gloc 1) (tcmp .Lt (cloc 1) (cint (.ofNat 0))) (cemit (cloc 1))) (clist (esnil))) (tor (tcmp .Gt (ccall (escons (ccomp 10 [] 2 false (ival (cloc 0)) (gloc 1) (tyes) (cemit (cblt (escons (cint (.ofNat 1)) (escons (cloc 1) (esnil))) b_max))) (esnil)) c_many_of) (cint (.ofNat 20000))) (corn))) (cseq (craise (ccall (escons (cstr 0) (escons (cstr 14) (esnil))) c_thrown_text)) (snil)) (snil)) (snil))
theorem g_check_sizes : Glb "check_sizes" (.ref 246) := glb_of fun P => by kernel_rfl
theorem k_check_sizes : ∀ P, keepIn (hk P) (.ref 246) = true := fun P => by kernel_rfl
theorem f_check_sizes : SF 5 246 c_check_sizes := by
  refine' sf_intro (b := 4) ["sizes"] ["sizes"] [] [some 0] [] ?hK ?hcd ?hb ?hl ?hbody
  case hK => intro P; rfl
  case hcd => intro P; kernel_rfl
  case hb => intro ws h; match ws, h with | [a0], _ => rfl
  case hl => rfl
  case hbody => exact (@sss_cons _ _ _ _ _ _ (@ss_if _ _ _ _ _ _ _ _ _ (@st_bool _ _ _ _ _ _ (@sts_or _ _ _ _ _ _ (@st_cmp _ _ _ _ _ _ _ _ (@se_comp _ _ 10 [] 2 _ _ _ _ _ _ _ _ _ _ _ _ _ [".0", "size"] [] (@si_val _ _ _ _ (@ne_loc _ _ _ _ 0 rfl rfl rfl)) (@turn_one _ _ _ _ _ _) (@tg_loc _ _ _ _ 1 rfl (by decide +kernel) rfl) (@sif_one _ _ _ _ (@st_cmp _ _ _ _ _ _ _ _ (@ne_loc _ _ _ _ 1 rfl rfl rfl) (@ne_int _ _ _ _ _) rfl)) (@scb_emit _ _ _ _ (@ne_loc _ _ _ _ 1 rfl rfl rfl)) rfl (fun _ _ => rfl) rfl rfl) (@ne_list _ _ _ _ _ (@nes_nil _ _)) rfl) (@sts_or _ _ _ _ _ _ (@st_cmp _ _ _ _ _ _ _ _ (@se_callK _ _ _ _ _ _ _ _ _ _ (@SF.le 1 4 _ _ (f_many_of) rfl) g_many_of k_many_of (@nes_cons _ _ _ _ _ _ (@se_comp _ _ 10 [] 2 _ _ _ _ _ _ _ _ _ _ _ _ _ [".0", "size"] [] (@si_val _ _ _ _ (@ne_loc _ _ _ _ 0 rfl rfl rfl)) (@turn_one _ _ _ _ _ _) (@tg_loc _ _ _ _ 1 rfl (by decide +kernel) rfl) (@sif_nil _ _) (@scb_emit _ _ _ _ (@ne_blt _ _ _ _ _ _ _ _ _ _ sb_max g_max (@nes_cons _ _ _ _ _ _ (@ne_int _ _ _ _ _) (@nes_cons _ _ _ _ _ _ (@ne_loc _ _ _ _ 1 rfl rfl rfl) (@nes_nil _ _) (fun _ => rfl)) (fun _ => rfl)) rfl rfl (fun _ => rfl) (fun _ => rfl))) rfl (fun _ _ => rfl) rfl rfl) (@nes_nil _ _) (fun _ => rfl)) rfl rfl (fun _ => rfl) (fun _ => rfl)) (@se_gint _ _ _ _ 20000 _ g_MOST_ITEMS rfl rfl) rfl) (@nts_or_nil _ _)))) (@sss_cons _ _ _ _ _ _ (@ss_raise _ _ _ _ _ (@sxe_call _ _ _ _ _ _ _ _ _ _ (@SXF.le 4 4 _ _ (f_thrown_text) rfl) g_thrown_text k_thrown_text (@nes_cons _ _ _ _ _ _ (@ne_str _ _ _ _ _ 0 rfl) (@nes_cons _ _ _ _ _ _ (@ne_str _ _ _ _ _ 14 rfl) (@nes_nil _ _) (fun _ => rfl)) (fun _ => rfl)) rfl rfl (fun _ => rfl) (fun _ => rfl))) (@nss_nil _ _)) (@nss_nil _ _)) (@nss_nil _ _))
noncomputable def c_is_array : CF := cfun 1 [some 0] [] (cseq (cret (ccmp .In (csub (cloc 0) (cint (.ofNat 0))) (ctup (escons (cstr 9) (escons (cstr 10) (esnil)))))) (snil))
theorem g_is_array : Glb "is_array" (.ref 253) := glb_of fun P => by kernel_rfl
theorem k_is_array : ∀ P, keepIn (hk P) (.ref 253) = true := fun P => by kernel_rfl
theorem f_is_array : SF 1 253 c_is_array := by
  refine' sf_intro (b := 0) ["value"] ["value"] [] [some 0] [] ?hK ?hcd ?hb ?hl ?hbody
  case hK => intro P; rfl
  case hcd => intro P; kernel_rfl
  case hb => intro ws h; match ws, h with | [a0], _ => rfl
  case hl => rfl
  case hbody => exact (@sss_cons _ _ _ _ _ _ (@ss_ret _ _ _ _ _ (@se_cmp _ _ _ _ _ _ _ _ (@se_sub _ _ _ _ _ _ _ (@ne_loc _ _ _ _ 0 rfl rfl rfl) (@ne_int _ _ _ _ _) (fun _ _ => rfl)) (@ne_tuple _ _ _ _ _ _ (@nes_cons _ _ _ _ _ _ (@ne_str _ _ _ _ _ 9 rfl) (@nes_cons _ _ _ _ _ _ (@ne_str _ _ _ _ _ 10 rfl) (@nes_nil _ _) (fun _ => rfl)) (fun _ => rfl)) (Nat.le_of_ble_eq_true rfl)) rfl)) (@nss_nil _ _))
noncomputable def c_parent_of : CF := cfun 2 [some 0, some 1] [] (cseq (cif (tnot (tval (ccall (escons (cloc 1) (esnil)) c_is_array))) (cseq (sdead) (snil)) (snil)) (cseq (cret (cmeth 197 (cloc 0) (escons (csub (cloc 1) (cint (.ofNat 1))) (esnil)) c_object)) (snil)))
theorem g_parent_of : Glb "parent_of" (.ref 260) := glb_of fun P => by kernel_rfl
theorem k_parent_of : ∀ P, keepIn (hk P) (.ref 260) = true := fun P => by kernel_rfl
theorem f_parent_of : SF 2 260 c_parent_of := by
  refine' sf_intro (b := 1) ["heap", "value"] ["heap", "value"] [] [some 0, some 1] [] ?hK ?hcd ?hb ?hl ?hbody
  case hK => intro P; rfl
  case hcd => intro P; kernel_rfl
  case hb => intro ws h; match ws, h with | [a0, a1], _ => rfl
  case hl => rfl
  case hbody => exact (@sss_cons _ _ _ _ _ _ (@ss_if _ _ _ _ _ _ _ _ _ (@st_not _ _ _ _ _ (@st_val _ _ _ _ (@se_callK _ _ _ _ _ _ _ _ _ _ (@SF.le 1 1 _ _ (f_is_array) rfl) g_is_array k_is_array (@nes_cons _ _ _ _ _ _ (@ne_loc _ _ _ _ 1 rfl rfl rfl) (@nes_nil _ _) (fun _ => rfl)) rfl rfl (fun _ => rfl) (fun _ => rfl)) (fun _ _ => rfl))) (@sss_cons _ _ _ _ _ _ (@ns_dead _ _ _) (@nss_nil _ _)) (@nss_nil _ _)) (@sss_cons _ _ _ _ _ _ (@ss_ret _ _ _ _ _ (@se_meth _ _ _ _ _ _ _ _ _ _ _ _ _ _ (@SF.le 1 1 _ _ (f_object) rfl) i_object ok197 m_object (@ne_loc _ _ _ _ 0 rfl rfl rfl) (@nes_cons _ _ _ _ _ _ (@se_sub _ _ _ _ _ _ _ (@ne_loc _ _ _ _ 1 rfl rfl rfl) (@ne_int _ _ _ _ _) (fun _ _ => rfl)) (@nes_nil _ _) (fun _ => rfl)) (fun _ => rfl) (fun _ => rfl))) (@nss_nil _ _)))
noncomputable def c_sizes_of : CF := cfun 2 [some 0, some 1] [] (cseq (cret (cifx (tcmp .Eq (csub (cloc 1) (cint (.ofNat 0))) (cstr 10)) (csub (cloc 1) (cint (.ofNat 3))) (cattr 141 2 (ccall (escons (cloc 0) (escons (cloc 1) (esnil))) c_parent_of)))) (snil))
theorem g_sizes_of : Glb "sizes_of" (.ref 267) := glb_of fun P => by kernel_rfl
theorem k_sizes_of : ∀ P, keepIn (hk P) (.ref 267) = true := fun P => by kernel_rfl
theorem f_sizes_of : SF 3 267 c_sizes_of := by
  refine' sf_intro (b := 2) ["heap", "value"] ["heap", "value"] [] [some 0, some 1] [] ?hK ?hcd ?hb ?hl ?hbody
  case hK => intro P; rfl
  case hcd => intro P; kernel_rfl
  case hb => intro ws h; match ws, h with | [a0, a1], _ => rfl
  case hl => rfl
  case hbody => exact (@sss_cons _ _ _ _ _ _ (@ss_ret _ _ _ _ _ (@se_if _ _ _ _ _ _ _ _ _ (@st_cmp _ _ _ _ _ _ _ _ (@se_sub _ _ _ _ _ _ _ (@ne_loc _ _ _ _ 1 rfl rfl rfl) (@ne_int _ _ _ _ _) (fun _ _ => rfl)) (@ne_str _ _ _ _ _ 10 rfl) rfl) (@se_sub _ _ _ _ _ _ _ (@ne_loc _ _ _ _ 1 rfl rfl rfl) (@ne_int _ _ _ _ _) (fun _ _ => rfl)) (@se_attr _ _ _ _ _ 141 2 _ ok141 (no141 2 (by decide)) rfl (@se_callK _ _ _ _ _ _ _ _ _ _ (@SF.le 2 2 _ _ (f_parent_of) rfl) g_parent_of k_parent_of (@nes_cons _ _ _ _ _ _ (@ne_loc _ _ _ _ 0 rfl rfl rfl) (@nes_cons _ _ _ _ _ _ (@ne_loc _ _ _ _ 1 rfl rfl rfl) (@nes_nil _ _) (fun _ => rfl)) (fun _ => rfl)) rfl rfl (fun _ => rfl) (fun _ => rfl)) (fun _ _ => rfl)))) (@nss_nil _ _))
noncomputable def c_layout_of : CF := cfun 2 [some 0, some 1] [] (cseq (cret (cifx (tcmp .Eq (csub (cloc 1) (cint (.ofNat 0))) (cstr 10)) (ctup (escons (csub (cloc 1) (cint (.ofNat 2))) (escons (csub (cloc 1) (cint (.ofNat 4))) (esnil)))) (ctup (escons (cint (.ofNat 0)) (escons (ccall (escons (ccall (escons (cloc 0) (escons (cloc 1) (esnil))) c_sizes_of) (esnil)) c_strides_of) (esnil)))))) (snil))
theorem g_layout_of : Glb "layout_of" (.ref 274) := glb_of fun P => by kernel_rfl
theorem k_layout_of : ∀ P, keepIn (hk P) (.ref 274) = true := fun P => by kernel_rfl
theorem f_layout_of : SF 4 274 c_layout_of := by
  refine' sf_intro (b := 3) ["heap", "value"] ["heap", "value"] [] [some 0, some 1] [] ?hK ?hcd ?hb ?hl ?hbody
  case hK => intro P; rfl
  case hcd => intro P; kernel_rfl
  case hb => intro ws h; match ws, h with | [a0, a1], _ => rfl
  case hl => rfl
  case hbody => exact (@sss_cons _ _ _ _ _ _ (@ss_ret _ _ _ _ _ (@se_if _ _ _ _ _ _ _ _ _ (@st_cmp _ _ _ _ _ _ _ _ (@se_sub _ _ _ _ _ _ _ (@ne_loc _ _ _ _ 1 rfl rfl rfl) (@ne_int _ _ _ _ _) (fun _ _ => rfl)) (@ne_str _ _ _ _ _ 10 rfl) rfl) (@ne_tuple _ _ _ _ _ _ (@nes_cons _ _ _ _ _ _ (@se_sub _ _ _ _ _ _ _ (@ne_loc _ _ _ _ 1 rfl rfl rfl) (@ne_int _ _ _ _ _) (fun _ _ => rfl)) (@nes_cons _ _ _ _ _ _ (@se_sub _ _ _ _ _ _ _ (@ne_loc _ _ _ _ 1 rfl rfl rfl) (@ne_int _ _ _ _ _) (fun _ _ => rfl)) (@nes_nil _ _) (fun _ => rfl)) (fun _ => rfl)) (Nat.le_of_ble_eq_true rfl)) (@ne_tuple _ _ _ _ _ _ (@nes_cons _ _ _ _ _ _ (@ne_int _ _ _ _ _) (@nes_cons _ _ _ _ _ _ (@se_callK _ _ _ _ _ _ _ _ _ _ (@SF.le 1 3 _ _ (f_strides_of) rfl) g_strides_of k_strides_of (@nes_cons _ _ _ _ _ _ (@se_callK _ _ _ _ _ _ _ _ _ _ (@SF.le 3 3 _ _ (f_sizes_of) rfl) g_sizes_of k_sizes_of (@nes_cons _ _ _ _ _ _ (@ne_loc _ _ _ _ 0 rfl rfl rfl) (@nes_cons _ _ _ _ _ _ (@ne_loc _ _ _ _ 1 rfl rfl rfl) (@nes_nil _ _) (fun _ => rfl)) (fun _ => rfl)) rfl rfl (fun _ => rfl) (fun _ => rfl)) (@nes_nil _ _) (fun _ => rfl)) rfl rfl (fun _ => rfl) (fun _ => rfl)) (@nes_nil _ _) (fun _ => rfl)) (fun _ => rfl)) (Nat.le_of_ble_eq_true rfl)))) (@nss_nil _ _))
noncomputable def c_place_in_parent : CF := cfun 3 [some 0, some 1, some 2, none, none, none, none, none, none] [] (cseq (casg (ccall (escons (cloc 0) (escons (cloc 1) (esnil))) c_sizes_of) (gloc 3)) (cseq (casg (ccall (escons (cloc 3) (escons (cloc 2) (esnil))) c_offset_of) (gloc 4)) (cseq (cif (tcmp .Lt (cloc 4) (cint (.ofNat 0))) (cseq (cret (cneg (cint (.ofNat 1)))) (snil)) (snil)) (cseq (casg (ccall (escons (cloc 0) (escons (cloc 1) (esnil))) c_layout_of) (gtup 2 (gcons (gloc 5) (gcons (gloc 6) (gnil))))) (cseq (cfor 10 true (izip2 (escons (ccall (escons (cloc 3) (escons (cloc 4) (esnil))) c_index_of) (escons (cloc 6) (esnil)))) (gtup 2 (gcons (gloc 7) (gcons (gloc 8) (gnil)))) (cseq (casg (cbin .Add (cloc 5) (cbin .Mult (cbin .Sub (cloc 7) (cint (.ofNat 1))) (cloc 8))) (gloc 5)) (snil))) (cseq (cret (cloc 5)) (snil)))))))
theorem g_place_in_parent : Glb "place_in_parent" (.ref 281) := glb_of fun P => by kernel_rfl
theorem k_place_in_parent : ∀ P, keepIn (hk P) (.ref 281) = true := fun P => by kernel_rfl
theorem f_place_in_parent : SF 5 281 c_place_in_parent := by
  refine' sf_intro (b := 4) ["heap", "value", "indices"] ["heap", "value", "indices", "sizes", "offset", "place", "steps", "index", "far"] [] [some 0, some 1, some 2, none, none, none, none, none, none] [] ?hK ?hcd ?hb ?hl ?hbody
  case hK => intro P; rfl
  case hcd => intro P; kernel_rfl
  case hb => intro ws h; match ws, h with | [a0, a1, a2], _ => rfl
  case hl => rfl
  case hbody => exact (@sss_cons _ _ _ _ _ _ (@ss_asg _ _ _ _ _ _ _ (@se_callK _ _ _ _ _ _ _ _ _ _ (@SF.le 3 4 _ _ (f_sizes_of) rfl) g_sizes_of k_sizes_of (@nes_cons _ _ _ _ _ _ (@ne_loc _ _ _ _ 0 rfl rfl rfl) (@nes_cons _ _ _ _ _ _ (@ne_loc _ _ _ _ 1 rfl rfl rfl) (@nes_nil _ _) (fun _ => rfl)) (fun _ => rfl)) rfl rfl (fun _ => rfl) (fun _ => rfl)) (@tg_loc _ _ _ _ 3 rfl (by decide +kernel) rfl) (fun _ _ => rfl) (fun _ _ => rfl) (fun _ => rfl)) (@sss_cons _ _ _ _ _ _ (@ss_asg _ _ _ _ _ _ _ (@se_callK _ _ _ _ _ _ _ _ _ _ (@SF.le 2 4 _ _ (f_offset_of) rfl) g_offset_of k_offset_of (@nes_cons _ _ _ _ _ _ (@ne_loc _ _ _ _ 3 rfl rfl rfl) (@nes_cons _ _ _ _ _ _ (@ne_loc _ _ _ _ 2 rfl rfl rfl) (@nes_nil _ _) (fun _ => rfl)) (fun _ => rfl)) rfl rfl (fun _ => rfl) (fun _ => rfl)) (@tg_loc _ _ _ _ 4 rfl (by decide +kernel) rfl) (fun _ _ => rfl) (fun _ _ => rfl) (fun _ => rfl)) (@sss_cons _ _ _ _ _ _ (@ss_if _ _ _ _ _ _ _ _ _ (@st_cmp _ _ _ _ _ _ _ _ (@ne_loc _ _ _ _ 4 rfl rfl rfl) (@ne_int _ _ _ _ _) rfl) (@sss_cons _ _ _ _ _ _ (@ss_ret _ _ _ _ _ (@se_neg _ _ _ _ _ (@ne_int _ _ _ _ _))) (@nss_nil _ _)) (@nss_nil _ _)) (@sss_cons _ _ _ _ _ _ (@ss_asg _ _ _ _ _ _ _ (@se_callK _ _ _ _ _ _ _ _ _ _ (@SF.le 4 4 _ _ (f_layout_of) rfl) g_layout_of k_layout_of (@nes_cons _ _ _ _ _ _ (@ne_loc _ _ _ _ 0 rfl rfl rfl) (@nes_cons _ _ _ _ _ _ (@ne_loc _ _ _ _ 1 rfl rfl rfl) (@nes_nil _ _) (fun _ => rfl)) (fun _ => rfl)) rfl rfl (fun _ => rfl) (fun _ => rfl)) (@tg_tup _ _ _ _ _ _ _ (@tgs_cons _ _ _ _ _ _ (@tg_loc _ _ _ _ 5 rfl (by decide +kernel) rfl) (@tgs_cons _ _ _ _ _ _ (@tg_loc _ _ _ _ 6 rfl (by decide +kernel) rfl) (@ntg_nil _ _) (fun _ => rfl)) (fun _ => rfl)) (fun _ => rfl) (fun _ => rfl)) (fun _ _ => rfl) (fun _ _ => rfl) (fun _ => rfl)) (@sss_cons _ _ _ _ _ _ (@ss_for _ _ _ 10 _ _ _ _ _ _ _ (@si_zip2 _ _ _ _ _ _ _ _ g_zip (@nes_cons _ _ _ _ _ _ (@se_callK _ _ _ _ _ _ _ _ _ _ (@SF.le 1 4 _ _ (f_index_of) rfl) g_index_of k_index_of (@nes_cons _ _ _ _ _ _ (@ne_loc _ _ _ _ 3 rfl rfl rfl) (@nes_cons _ _ _ _ _ _ (@ne_loc _ _ _ _ 4 rfl rfl rfl) (@nes_nil _ _) (fun _ => rfl)) (fun _ => rfl)) rfl rfl (fun _ => rfl) (fun _ => rfl)) (@nes_cons _ _ _ _ _ _ (@ne_loc _ _ _ _ 6 rfl rfl rfl) (@nes_nil _ _) (fun _ => rfl)) (fun _ => rfl)) rfl rfl (fun _ => rfl) (fun _ => rfl)) (@tg_tup _ _ _ _ _ _ _ (@tgs_cons _ _ _ _ _ _ (@tg_loc _ _ _ _ 7 rfl (by decide +kernel) rfl) (@tgs_cons _ _ _ _ _ _ (@tg_loc _ _ _ _ 8 rfl (by decide +kernel) rfl) (@ntg_nil _ _) (fun _ => rfl)) (fun _ => rfl)) (fun _ => rfl) (fun _ => rfl)) (@sss_cons _ _ _ _ _ _ (@ss_asg _ _ _ _ _ _ _ (@se_bin _ _ _ _ _ _ _ _ (@ne_loc _ _ _ _ 5 rfl rfl rfl) (@se_bin _ _ _ _ _ _ _ _ (@se_bin _ _ _ _ _ _ _ _ (@ne_loc _ _ _ _ 7 rfl rfl rfl) (@ne_int _ _ _ _ _)) (@ne_loc _ _ _ _ 8 rfl rfl rfl))) (@tg_loc _ _ _ _ 5 rfl (by decide +kernel) rfl) (fun _ _ => rfl) (fun _ _ => rfl) (fun _ => rfl)) (@nss_nil _ _)) rfl (fun _ _ => rfl)) (@sss_cons _ _ _ _ _ _ (@ss_ret _ _ _ _ _ (@ne_loc _ _ _ _ 5 rfl rfl rfl)) (@nss_nil _ _)))))))
noncomputable def c_places_of : CF := cfun 2 [some 0, some 1, none, none, none] [none, none] (cseq (casg (ccall (escons (cloc 0) (escons (cloc 1) (esnil))) c_layout_of) (gtup 2 (gcons (gloc 2) (gcons (gloc 3) (gnil))))) (cseq (casg (clist (escons (cloc 2) (esnil))) (gcel 0)) (cseq (cfor 10 true (izip2 (escons (ccall (escons (cloc 0) (escons (cloc 1) (esnil))) c_sizes_of) (escons (cloc 3) (esnil)))) (gtup 2 (gcons (gloc 4) (gcons (gcel 1) (gnil)))) (cseq (casg (ccomp 10 [1, 0] 3 false (irng (escons (cloc 4) (esnil))) (gloc 1) (tyes) (cnest 10 false (ival (ccel 1)) (gloc 2) (tyes) (cemit (cbin .Add (cloc 2) (cbin .Mult (ccel 0) (cloc 1)))))) (gcel 0)) (snil))) (cseq (cret (ccel 0)) (snil)))))
theorem g_places_of : Glb "places_of" (.ref 286) := glb_of fun P => by kernel_rfl
theorem k_places_of : ∀ P, keepIn (hk P) (.ref 286) = true := fun P => by kernel_rfl
theorem f_places_of : SF 5 286 c_places_of := by
  refine' sf_intro (b := 4) ["heap", "value"] ["heap", "value", "first", "steps", "size"] ["found", "far"] [some 0, some 1, none, none, none] [none, none] ?hK ?hcd ?hb ?hl ?hbody
  case hK => intro P; rfl
  case hcd => intro P; kernel_rfl
  case hb => intro ws h; match ws, h with | [a0, a1], _ => rfl
  case hl => rfl
  case hbody => exact (@sss_cons _ _ _ _ _ _ (@ss_asg _ _ _ _ _ _ _ (@se_callK _ _ _ _ _ _ _ _ _ _ (@SF.le 4 4 _ _ (f_layout_of) rfl) g_layout_of k_layout_of (@nes_cons _ _ _ _ _ _ (@ne_loc _ _ _ _ 0 rfl rfl rfl) (@nes_cons _ _ _ _ _ _ (@ne_loc _ _ _ _ 1 rfl rfl rfl) (@nes_nil _ _) (fun _ => rfl)) (fun _ => rfl)) rfl rfl (fun _ => rfl) (fun _ => rfl)) (@tg_tup _ _ _ _ _ _ _ (@tgs_cons _ _ _ _ _ _ (@tg_loc _ _ _ _ 2 rfl (by decide +kernel) rfl) (@tgs_cons _ _ _ _ _ _ (@tg_loc _ _ _ _ 3 rfl (by decide +kernel) rfl) (@ntg_nil _ _) (fun _ => rfl)) (fun _ => rfl)) (fun _ => rfl) (fun _ => rfl)) (fun _ _ => rfl) (fun _ _ => rfl) (fun _ => rfl)) (@sss_cons _ _ _ _ _ _ (@ss_asg _ _ _ _ _ _ _ (@ne_list _ _ _ _ _ (@nes_cons _ _ _ _ _ _ (@ne_loc _ _ _ _ 2 rfl rfl rfl) (@nes_nil _ _) (fun _ => rfl))) (@tg_cel _ _ _ _ 0 rfl rfl) (fun _ _ => rfl) (fun _ _ => rfl) (fun _ => rfl)) (@sss_cons _ _ _ _ _ _ (@ss_for _ _ _ 10 _ _ _ _ _ _ _ (@si_zip2 _ _ _ _ _ _ _ _ g_zip (@nes_cons _ _ _ _ _ _ (@se_callK _ _ _ _ _ _ _ _ _ _ (@SF.le 3 4 _ _ (f_sizes_of) rfl) g_sizes_of k_sizes_of (@nes_cons _ _ _ _ _ _ (@ne_loc _ _ _ _ 0 rfl rfl rfl) (@nes_cons _ _ _ _ _ _ (@ne_loc _ _ _ _ 1 rfl rfl rfl) (@nes_nil _ _) (fun _ => rfl)) (fun _ => rfl)) rfl rfl (fun _ => rfl) (fun _ => rfl)) (@nes_cons _ _ _ _ _ _ (@ne_loc _ _ _ _ 3 rfl rfl rfl) (@nes_nil _ _) (fun _ => rfl)) (fun _ => rfl)) rfl rfl (fun _ => rfl) (fun _ => rfl)) (@tg_tup _ _ _ _ _ _ _ (@tgs_cons _ _ _ _ _ _ (@tg_loc _ _ _ _ 4 rfl (by decide +kernel) rfl) (@tgs_cons _ _ _ _ _ _ (@tg_cel _ _ _ _ 1 rfl rfl) (@ntg_nil _ _) (fun _ => rfl)) (fun _ => rfl)) (fun _ => rfl) (fun _ => rfl)) (@sss_cons _ _ _ _ _ _ (@ss_asg _ _ _ _ _ _ _ (@se_comp _ _ 10 [1, 0] 3 _ _ _ _ _ _ _ _ _ _ _ _ _ [".0", "at", "place"] ["far", "found"] (@si_rng _ _ _ _ _ _ _ g_range (@nes_cons _ _ _ _ _ _ (@ne_loc _ _ _ _ 4 rfl rfl rfl) (@nes_nil _ _) (fun _ => rfl)) rfl rfl (fun _ => rfl) (fun _ => rfl)) (@turn_out _ _ _ _ _ _ _ _ _) (@tg_loc _ _ _ _ 1 rfl (by decide +kernel) rfl) (@sif_nil _ _) (@scb_nest _ _ 10 _ _ _ _ _ _ _ _ _ _ _ _ _ _ (@si_val _ _ _ _ (@ne_cell _ _ _ _ 1 rfl (.inl rfl) rfl)) (@tg_loc _ _ _ _ 2 rfl (by decide +kernel) rfl) (@sif_nil _ _) (@se_bin _ _ _ _ _ _ _ _ (@ne_loc _ _ _ _ 2 rfl rfl rfl) (@se_bin _ _ _ _ _ _ _ _ (@ne_cell _ _ _ _ 0 rfl (.inl rfl) rfl) (@ne_loc _ _ _ _ 1 rfl rfl rfl))) rfl (fun _ _ => rfl)) rfl (fun _ _ => rfl) rfl rfl) (@tg_cel _ _ _ _ 0 rfl rfl) (fun _ h => comp0 h rfl) (fun _ _ => rfl) (fun _ => rfl)) (@nss_nil _ _)) rfl (fun _ _ => rfl)) (@sss_cons _ _ _ _ _ _ (@ss_ret _ _ _ _ _ (@ne_cell _ _ _ _ 0 rfl (.inl rfl) rfl)) (@nss_nil _ _)))))
noncomputable def c_items_of : CF := cfun 2 [some 0, some 1, none, none, none] [none] (cseq (casg (ctup (escons (cattr 141 1 (ccall (escons (cloc 0) (escons (cloc 1) (esnil))) c_parent_of)) (escons (ccall (escons (cloc 0) (escons (cloc 1) (esnil))) c_places_of) (esnil)))) (gtup 2 (gcons (gcel 0) (gcons (gloc 2) (gnil))))) (cseq (cfor 10 true (ienm (escons (cloc 2) (esnil))) (gtup 2 (gcons (gloc 3) (gcons (gloc 4) (gnil)))) (cseq (cif (tcmp .GtE (cloc 4) (cblt (escons (ccel 0) (esnil)) b_len)) (cseq (craise (ccall (escons (cloc 1) (escons (ccall (escons (ccall (escons (cloc 0) (escons (cloc 1) (esnil))) c_sizes_of) (escons (cloc 3) (esnil))) c_index_of) (esnil))) c_bounds_fault)) (snil)) (snil)) (snil))) (cseq (cret (ccomp 10 [0] 2 false (ival (cloc 2)) (gloc 1) (tyes) (cemit (csub (ccel 0) (cloc 1))))) (snil))))
theorem g_items_of : Glb "items_of" (.ref 291) := glb_of fun P => by kernel_rfl
theorem k_items_of : ∀ P, keepIn (hk P) (.ref 291) = true := fun P => by kernel_rfl
theorem f_items_of : SF 6 291 c_items_of := by
  refine' sf_intro (b := 5) ["heap", "value"] ["heap", "value", "places", "at", "place"] ["fields"] [some 0, some 1, none, none, none] [none] ?hK ?hcd ?hb ?hl ?hbody
  case hK => intro P; rfl
  case hcd => intro P; kernel_rfl
  case hb => intro ws h; match ws, h with | [a0, a1], _ => rfl
  case hl => rfl
  case hbody => exact (@sss_cons _ _ _ _ _ _ (@ss_asg _ _ _ _ _ _ _ (@ne_tuple _ _ _ _ _ _ (@nes_cons _ _ _ _ _ _ (@se_attr _ _ _ _ _ 141 1 _ ok141 (no141 1 (by decide)) rfl (@se_callK _ _ _ _ _ _ _ _ _ _ (@SF.le 2 5 _ _ (f_parent_of) rfl) g_parent_of k_parent_of (@nes_cons _ _ _ _ _ _ (@ne_loc _ _ _ _ 0 rfl rfl rfl) (@nes_cons _ _ _ _ _ _ (@ne_loc _ _ _ _ 1 rfl rfl rfl) (@nes_nil _ _) (fun _ => rfl)) (fun _ => rfl)) rfl rfl (fun _ => rfl) (fun _ => rfl)) (fun _ _ => rfl)) (@nes_cons _ _ _ _ _ _ (@se_callK _ _ _ _ _ _ _ _ _ _ (@SF.le 5 5 _ _ (f_places_of) rfl) g_places_of k_places_of (@nes_cons _ _ _ _ _ _ (@ne_loc _ _ _ _ 0 rfl rfl rfl) (@nes_cons _ _ _ _ _ _ (@ne_loc _ _ _ _ 1 rfl rfl rfl) (@nes_nil _ _) (fun _ => rfl)) (fun _ => rfl)) rfl rfl (fun _ => rfl) (fun _ => rfl)) (@nes_nil _ _) (fun _ => rfl)) (fun _ => rfl)) (Nat.le_of_ble_eq_true rfl)) (@tg_tup _ _ _ _ _ _ _ (@tgs_cons _ _ _ _ _ _ (@tg_cel _ _ _ _ 0 rfl rfl) (@tgs_cons _ _ _ _ _ _ (@tg_loc _ _ _ _ 2 rfl (by decide +kernel) rfl) (@ntg_nil _ _) (fun _ => rfl)) (fun _ => rfl)) (fun _ => rfl) (fun _ => rfl)) (fun _ _ => rfl) (fun _ h => swap0 h (.inl rfl)) (fun _ => rfl)) (@sss_cons _ _ _ _ _ _ (@ss_for _ _ _ 10 _ _ _ _ _ _ _ (@si_enm _ _ _ _ _ _ _ g_enumerate (@nes_cons _ _ _ _ _ _ (@ne_loc _ _ _ _ 2 rfl rfl rfl) (@nes_nil _ _) (fun _ => rfl)) rfl rfl (fun _ => rfl) (fun _ => rfl)) (@tg_tup _ _ _ _ _ _ _ (@tgs_cons _ _ _ _ _ _ (@tg_loc _ _ _ _ 3 rfl (by decide +kernel) rfl) (@tgs_cons _ _ _ _ _ _ (@tg_loc _ _ _ _ 4 rfl (by decide +kernel) rfl) (@ntg_nil _ _) (fun _ => rfl)) (fun _ => rfl)) (fun _ => rfl) (fun _ => rfl)) (@sss_cons _ _ _ _ _ _ (@ss_if _ _ _ _ _ _ _ _ _ (@st_cmp _ _ _ _ _ _ _ _ (@ne_loc _ _ _ _ 4 rfl rfl rfl) (@ne_blt _ _ _ _ _ _ _ _ _ _ sb_len g_len (@nes_cons _ _ _ _ _ _ (@ne_cell _ _ _ _ 0 rfl (.inl rfl) rfl) (@nes_nil _ _) (fun _ => rfl)) rfl rfl (fun _ => rfl) (fun _ => rfl)) rfl) (@sss_cons _ _ _ _ _ _ (@ss_raise _ _ _ _ _ (@sxe_call _ _ _ _ _ _ _ _ _ _ (@SXF.le 5 5 _ _ (f_bounds_fault) rfl) g_bounds_fault k_bounds_fault (@nes_cons _ _ _ _ _ _ (@ne_loc _ _ _ _ 1 rfl rfl rfl) (@nes_cons _ _ _ _ _ _ (@se_callK _ _ _ _ _ _ _ _ _ _ (@SF.le 1 5 _ _ (f_index_of) rfl) g_index_of k_index_of (@nes_cons _ _ _ _ _ _ (@se_callK _ _ _ _ _ _ _ _ _ _ (@SF.le 3 5 _ _ (f_sizes_of) rfl) g_sizes_of k_sizes_of (@nes_cons _ _ _ _ _ _ (@ne_loc _ _ _ _ 0 rfl rfl rfl) (@nes_cons _ _ _ _ _ _ (@ne_loc _ _ _ _ 1 rfl rfl rfl) (@nes_nil _ _) (fun _ => rfl)) (fun _ => rfl)) rfl rfl (fun _ => rfl) (fun _ => rfl)) (@nes_cons _ _ _ _ _ _ (@ne_loc _ _ _ _ 3 rfl rfl rfl) (@nes_nil _ _) (fun _ => rfl)) (fun _ => rfl)) rfl rfl (fun _ => rfl) (fun _ => rfl)) (@nes_nil _ _) (fun _ => rfl)) (fun _ => rfl)) rfl rfl (fun _ => rfl) (fun _ => rfl))) (@nss_nil _ _)) (@nss_nil _ _)) (@nss_nil _ _)) rfl (fun _ _ => rfl)) (@sss_cons _ _ _ _ _ _ (@ss_ret _ _ _ _ _ (@se_comp _ _ 10 [0] 2 _ _ _ _ _ _ _ _ _ _ _ _ _ [".0", "place"] ["fields"] (@si_val _ _ _ _ (@ne_loc _ _ _ _ 2 rfl rfl rfl)) (@turn_one _ _ _ _ _ _) (@tg_loc _ _ _ _ 1 rfl (by decide +kernel) rfl) (@sif_nil _ _) (@scb_emit _ _ _ _ (@se_sub _ _ _ _ _ _ _ (@ne_cell _ _ _ _ 0 rfl (.inl rfl) rfl) (@ne_loc _ _ _ _ 1 rfl rfl rfl) (fun _ _ => rfl))) rfl (fun _ _ => rfl) rfl rfl)) (@nss_nil _ _))))
end Mine
open PySem PySem.W PyProof.Rows PySem.Calls PySem.Spec
set_option Elab.async false
set_option maxRecDepth 100000
set_option maxHeartbeats 1000000
set_option linter.unusedSimpArgs false
set_option linter.unusedVariables false
namespace Mine
noncomputable def c_item_at : CF := cfun 3 [some 0, some 1, some 2, none, none] [] (cseq (casg (ccall (escons (cloc 0) (escons (cloc 1) (escons (cloc 2) (esnil)))) c_place_in_parent) (gloc 3)) (cseq (cif (tnot (tcmp2 .LtE .Lt (cint (.ofNat 0)) (cloc 3) (cblt (escons (cattr 141 1 (ccall (escons (cloc 0) (escons (cloc 1) (esnil))) c_parent_of)) (esnil)) b_len))) (cseq (craise (ccall (escons (cloc 1) (escons (cloc 2) (esnil))) c_bounds_fault)) (snil)) (snil)) (cseq (casg (csub (cattr 141 1 (ccall (escons (cloc 0) (escons (cloc 1) (esnil))) c_parent_of)) (cloc 3)) (gloc 4)) (cseq (cif (tcmp .Is (cloc 4) (cnone)) (cseq (sdead) (snil)) (snil)) (cseq (cret (cloc 4)) (snil))))))
theorem g_item_at : Glb "item_at" (.ref 298) := glb_of fun P => by kernel_rfl
theorem k_item_at : ∀ P, keepIn (hk P) (.ref 298) = true := fun P => by kernel_rfl
theorem f_item_at : SF 6 298 c_item_at := by
  refine' sf_intro (b := 5) ["heap", "value", "indices"] ["heap", "value", "indices", "place", "found"] [] [some 0, some 1, some 2, none, none] [] ?hK ?hcd ?hb ?hl ?hbody
  case hK => intro P; rfl
  case hcd => intro P; kernel_rfl
  case hb => intro ws h; match ws, h with | [a0, a1, a2], _ => rfl
  case hl => rfl
  case hbody => exact (@sss_cons _ _ _ _ _ _ (@ss_asg _ _ _ _ _ _ _ (@se_callK _ _ _ _ _ _ _ _ _ _ (@SF.le 5 5 _ _ (f_place_in_parent) rfl) g_place_in_parent k_place_in_parent (@nes_cons _ _ _ _ _ _ (@ne_loc _ _ _ _ 0 rfl rfl rfl) (@nes_cons _ _ _ _ _ _ (@ne_loc _ _ _ _ 1 rfl rfl rfl) (@nes_cons _ _ _ _ _ _ (@ne_loc _ _ _ _ 2 rfl rfl rfl) (@nes_nil _ _) (fun _ => rfl)) (fun _ => rfl)) (fun _ => rfl)) rfl rfl (fun _ => rfl) (fun _ => rfl)) (@tg_loc _ _ _ _ 3 rfl (by decide +kernel) rfl) (fun _ _ => rfl) (fun _ _ => rfl) (fun _ => rfl)) (@sss_cons _ _ _ _ _ _ (@ss_if _ _ _ _ _ _ _ _ _ (@st_not _ _ _ _ _ (@st_cmp2 _ _ _ _ _ _ _ _ _ _ _ (@ne_int _ _ _ _ _) (@ne_loc _ _ _ _ 3 rfl rfl rfl) (@ne_blt _ _ _ _ _ _ _ _ _ _ sb_len g_len (@nes_cons _ _ _ _ _ _ (@se_attr _ _ _ _ _ 141 1 _ ok141 (no141 1 (by decide)) rfl (@se_callK _ _ _ _ _ _ _ _ _ _ (@SF.le 2 5 _ _ (f_parent_of) rfl) g_parent_of k_parent_of (@nes_cons _ _ _ _ _ _ (@ne_loc _ _ _ _ 0 rfl rfl rfl) (@nes_cons _ _ _ _ _ _ (@ne_loc _ _ _ _ 1 rfl rfl rfl) (@nes_nil _ _) (fun _ => rfl)) (fun _ => rfl)) rfl rfl (fun _ => rfl) (fun _ => rfl)) (fun _ _ => rfl)) (@nes_nil _ _) (fun _ => rfl)) rfl rfl (fun _ => rfl) (fun _ => rfl)) rfl)) (@sss_cons _ _ _ _ _ _ (@ss_raise _ _ _ _ _ (@sxe_call _ _ _ _ _ _ _ _ _ _ (@SXF.le 5 5 _ _ (f_bounds_fault) rfl) g_bounds_fault k_bounds_fault (@nes_cons _ _ _ _ _ _ (@ne_loc _ _ _ _ 1 rfl rfl rfl) (@nes_cons _ _ _ _ _ _ (@ne_loc _ _ _ _ 2 rfl rfl rfl) (@nes_nil _ _) (fun _ => rfl)) (fun _ => rfl)) rfl rfl (fun _ => rfl) (fun _ => rfl))) (@nss_nil _ _)) (@nss_nil _ _)) (@sss_cons _ _ _ _ _ _ (@ss_asg _ _ _ _ _ _ _ (@se_sub _ _ _ _ _ _ _ (@se_attr _ _ _ _ _ 141 1 _ ok141 (no141 1 (by decide)) rfl (@se_callK _ _ _ _ _ _ _ _ _ _ (@SF.le 2 5 _ _ (f_parent_of) rfl) g_parent_of k_parent_of (@nes_cons _ _ _ _ _ _ (@ne_loc _ _ _ _ 0 rfl rfl rfl) (@nes_cons _ _ _ _ _ _ (@ne_loc _ _ _ _ 1 rfl rfl rfl) (@nes_nil _ _) (fun _ => rfl)) (fun _ => rfl)) rfl rfl (fun _ => rfl) (fun _ => rfl)) (fun _ _ => rfl)) (@ne_loc _ _ _ _ 3 rfl rfl rfl) (fun _ _ => rfl)) (@tg_loc _ _ _ _ 4 rfl (by decide +kernel) rfl) (fun _ _ => rfl) (fun _ _ => rfl) (fun _ => rfl)) (@sss_cons _ _ _ _ _ _ (@ss_if _ _ _ _ _ _ _ _ _ (@st_cmp _ _ _ _ _ _ _ _ (@ne_loc _ _ _ _ 4 rfl rfl rfl) (@ne_none _ _ _ _) rfl) (@sss_cons _ _ _ _ _ _ (@ns_dead _ _ _) (@nss_nil _ _)) (@nss_nil _ _)) (@sss_cons _ _ _ _ _ _ (@ss_ret _ _ _ _ _ (@ne_loc _ _ _ _ 4 rfl rfl rfl)) (@nss_nil _ _))))))
noncomputable def c_set_item : CF := cfun 4 [some 0, some 1, some 2, some 3, none] [] (cseq (casg (ccall (escons (cloc 0) (escons (cloc 1) (escons (cloc 2) (esnil)))) c_place_in_parent) (gloc 4)) (cseq (cif (tnot (tcmp2 .LtE .Lt (cint (.ofNat 0)) (cloc 4) (cblt (escons (cattr 141 1 (ccall (escons (cloc 0) (escons (cloc 1) (esnil))) c_parent_of)) (esnil)) b_len))) (cseq (craise (ccall (escons (cloc 1) (escons (cloc 2) (esnil))) c_bounds_fault)) (snil)) (snil)) (cseq (casg (cloc 3) (gitem (cattr 141 1 (ccall (escons (cloc 0) (escons (cloc 1) (esnil))) c_parent_of)) (cloc 4))) (snil))))
theorem g_set_item : Glb "set_item" (.ref 305) := glb_of fun P => by kernel_rfl
theorem k_set_item : ∀ P, keepIn (hk P) (.ref 305) = true := fun P => by kernel_rfl
theorem f_set_item : SF 6 305 c_set_item := by
  refine' sf_intro (b := 5) ["heap", "value", "indices", "item"] ["heap", "value", "indices", "item", "place"] [] [some 0, some 1, some 2, some 3, none] [] ?hK ?hcd ?hb ?hl ?hbody
  case hK => intro P; rfl
  case hcd => intro P; kernel_rfl
  case hb => intro ws h; match ws, h with | [a0, a1, a2, a3], _ => rfl
  case hl => rfl
  case hbody => exact (@sss_cons _ _ _ _ _ _ (@ss_asg _ _ _ _ _ _ _ (@se_callK _ _ _ _ _ _ _ _ _ _ (@SF.le 5 5 _ _ (f_place_in_parent) rfl) g_place_in_parent k_place_in_parent (@nes_cons _ _ _ _ _ _ (@ne_loc _ _ _ _ 0 rfl rfl rfl) (@nes_cons _ _ _ _ _ _ (@ne_loc _ _ _ _ 1 rfl rfl rfl) (@nes_cons _ _ _ _ _ _ (@ne_loc _ _ _ _ 2 rfl rfl rfl) (@nes_nil _ _) (fun _ => rfl)) (fun _ => rfl)) (fun _ => rfl)) rfl rfl (fun _ => rfl) (fun _ => rfl)) (@tg_loc _ _ _ _ 4 rfl (by decide +kernel) rfl) (fun _ _ => rfl) (fun _ _ => rfl) (fun _ => rfl)) (@sss_cons _ _ _ _ _ _ (@ss_if _ _ _ _ _ _ _ _ _ (@st_not _ _ _ _ _ (@st_cmp2 _ _ _ _ _ _ _ _ _ _ _ (@ne_int _ _ _ _ _) (@ne_loc _ _ _ _ 4 rfl rfl rfl) (@ne_blt _ _ _ _ _ _ _ _ _ _ sb_len g_len (@nes_cons _ _ _ _ _ _ (@se_attr _ _ _ _ _ 141 1 _ ok141 (no141 1 (by decide)) rfl (@se_callK _ _ _ _ _ _ _ _ _ _ (@SF.le 2 5 _ _ (f_parent_of) rfl) g_parent_of k_parent_of (@nes_cons _ _ _ _ _ _ (@ne_loc _ _ _ _ 0 rfl rfl rfl) (@nes_cons _ _ _ _ _ _ (@ne_loc _ _ _ _ 1 rfl rfl rfl) (@nes_nil _ _) (fun _ => rfl)) (fun _ => rfl)) rfl rfl (fun _ => rfl) (fun _ => rfl)) (fun _ _ => rfl)) (@nes_nil _ _) (fun _ => rfl)) rfl rfl (fun _ => rfl) (fun _ => rfl)) rfl)) (@sss_cons _ _ _ _ _ _ (@ss_raise _ _ _ _ _ (@sxe_call _ _ _ _ _ _ _ _ _ _ (@SXF.le 5 5 _ _ (f_bounds_fault) rfl) g_bounds_fault k_bounds_fault (@nes_cons _ _ _ _ _ _ (@ne_loc _ _ _ _ 1 rfl rfl rfl) (@nes_cons _ _ _ _ _ _ (@ne_loc _ _ _ _ 2 rfl rfl rfl) (@nes_nil _ _) (fun _ => rfl)) (fun _ => rfl)) rfl rfl (fun _ => rfl) (fun _ => rfl))) (@nss_nil _ _)) (@nss_nil _ _)) (@sss_cons _ _ _ _ _ _ (@ss_asg _ _ _ _ _ _ _ (@ne_loc _ _ _ _ 3 rfl rfl rfl) (@tg_item _ _ _ _ _ _ _ (@se_attr _ _ _ _ _ 141 1 _ ok141 (no141 1 (by decide)) rfl (@se_callK _ _ _ _ _ _ _ _ _ _ (@SF.le 2 5 _ _ (f_parent_of) rfl) g_parent_of k_parent_of (@nes_cons _ _ _ _ _ _ (@ne_loc _ _ _ _ 0 rfl rfl rfl) (@nes_cons _ _ _ _ _ _ (@ne_loc _ _ _ _ 1 rfl rfl rfl) (@nes_nil _ _) (fun _ => rfl)) (fun _ => rfl)) rfl rfl (fun _ => rfl) (fun _ => rfl)) (fun _ _ => rfl)) (@ne_loc _ _ _ _ 4 rfl rfl rfl)) (fun _ _ => rfl) (fun _ _ => rfl) (fun _ => rfl)) (@nss_nil _ _))))
noncomputable def c_made : CF := cfun 4 [some 0, some 1, some 2, some 3] [] (cseq (cexp (ccall (escons (cloc 2) (esnil)) c_check_sizes)) (cseq (cif (tcmp .NotEq (ccall (escons (cloc 2) (esnil)) c_many_of) (cblt (escons (cloc 3) (esnil)) b_len)) (cseq (sdead) (snil)) (snil)) (cseq (cret (ctup (escons (cstr 9) (escons (cmeth 197 (cloc 0) (escons (ccall (escons (cloc 1) (escons (cblt (escons (cloc 2) (esnil)) b_len) (esnil))) c_array_kind) (escons (cloc 2) (escons (cloc 3) (esnil)))) c_new_array) (esnil))))) (snil))))
theorem g_made : Glb "made" (.ref 312) := glb_of fun P => by kernel_rfl
theorem k_made : ∀ P, keepIn (hk P) (.ref 312) = true := fun P => by kernel_rfl
theorem f_made : SF 6 312 c_made := by
  refine' sf_intro (b := 5) ["heap", "item_kind", "sizes", "items"] ["heap", "item_kind", "sizes", "items"] [] [some 0, some 1, some 2, some 3] [] ?hK ?hcd ?hb ?hl ?hbody
  case hK => intro P; rfl
  case hcd => intro P; kernel_rfl
  case hb => intro ws h; match ws, h with | [a0, a1, a2, a3], _ => rfl
  case hl => rfl
  case hbody => exact (@sss_cons _ _ _ _ _ _ (@ss_exp _ _ _ _ _ (@se_callK _ _ _ _ _ _ _ _ _ _ (@SF.le 5 5 _ _ (f_check_sizes) rfl) g_check_sizes k_check_sizes (@nes_cons _ _ _ _ _ _ (@ne_loc _ _ _ _ 2 rfl rfl rfl) (@nes_nil _ _) (fun _ => rfl)) rfl rfl (fun _ => rfl) (fun _ => rfl)) (fun _ h => notInteractive h) (fun _ => rfl)) (@sss_cons _ _ _ _ _ _ (@ss_if _ _ _ _ _ _ _ _ _ (@st_cmp _ _ _ _ _ _ _ _ (@se_callK _ _ _ _ _ _ _ _ _ _ (@SF.le 1 5 _ _ (f_many_of) rfl) g_many_of k_many_of (@nes_cons _ _ _ _ _ _ (@ne_loc _ _ _ _ 2 rfl rfl rfl) (@nes_nil _ _) (fun _ => rfl)) rfl rfl (fun _ => rfl) (fun _ => rfl)) (@ne_blt _ _ _ _ _ _ _ _ _ _ sb_len g_len (@nes_cons _ _ _ _ _ _ (@ne_loc _ _ _ _ 3 rfl rfl rfl) (@nes_nil _ _) (fun _ => rfl)) rfl rfl (fun _ => rfl) (fun _ => rfl)) rfl) (@sss_cons _ _ _ _ _ _ (@ns_dead _ _ _) (@nss_nil _ _)) (@nss_nil _ _)) (@sss_cons _ _ _ _ _ _ (@ss_ret _ _ _ _ _ (@ne_tuple _ _ _ _ _ _ (@nes_cons _ _ _ _ _ _ (@ne_str _ _ _ _ _ 9 rfl) (@nes_cons _ _ _ _ _ _ (@se_meth _ _ _ _ _ _ _ _ _ _ _ _ _ _ (@SF.le 3 5 _ _ (f_new_array) rfl) i_new_array ok197 m_new_array (@ne_loc _ _ _ _ 0 rfl rfl rfl) (@nes_cons _ _ _ _ _ _ (@se_callK _ _ _ _ _ _ _ _ _ _ (@SF.le 2 5 _ _ (f_array_kind) rfl) g_array_kind k_array_kind (@nes_cons _ _ _ _ _ _ (@ne_loc _ _ _ _ 1 rfl rfl rfl) (@nes_cons _ _ _ _ _ _ (@ne_blt _ _ _ _ _ _ _ _ _ _ sb_len g_len (@nes_cons _ _ _ _ _ _ (@ne_loc _ _ _ _ 2 rfl rfl rfl) (@nes_nil _ _) (fun _ => rfl)) rfl rfl (fun _ => rfl) (fun _ => rfl)) (@nes_nil _ _) (fun _ => rfl)) (fun _ => rfl)) rfl rfl (fun _ => rfl) (fun _ => rfl)) (@nes_cons _ _ _ _ _ _ (@ne_loc _ _ _ _ 2 rfl rfl rfl) (@nes_cons _ _ _ _ _ _ (@ne_loc _ _ _ _ 3 rfl rfl rfl) (@nes_nil _ _) (fun _ => rfl)) (fun _ => rfl)) (fun _ => rfl)) (fun _ => rfl) (fun _ => rfl)) (@nes_nil _ _) (fun _ => rfl)) (fun _ => rfl)) (Nat.le_of_ble_eq_true rfl))) (@nss_nil _ _))))
noncomputable def c_need_row : CF := cfun 2 [some 0, some 1] [] (cseq (cif (tor (tcmp .NotEq (csub (cloc 1) (cint (.ofNat 0))) (cstr 9)) (tor (tcmp .NotEq (cblt (escons (cattr 141 2 (ccall (escons (cloc 0) (escons (cloc 1) (esnil))) c_parent_of)) (esnil)) b_len) (cint (.ofNat 1))) (corn))) (cseq (sdead) (snil)) (snil)) (cseq (cret (ccall (escons (cloc 0) (escons (cloc 1) (esnil))) c_parent_of)) (snil)))
theorem g_need_row : Glb "need_row" (.ref 319) := glb_of fun P => by kernel_rfl
theorem k_need_row : ∀ P, keepIn (hk P) (.ref 319) = true := fun P => by kernel_rfl
theorem f_need_row : SF 3 319 c_need_row := by
  refine' sf_intro (b := 2) ["heap", "value"] ["heap", "value"] [] [some 0, some 1] [] ?hK ?hcd ?hb ?hl ?hbody
  case hK => intro P; rfl
  case hcd => intro P; kernel_rfl
  case hb => intro ws h; match ws, h with | [a0, a1], _ => rfl
  case hl => rfl
  case hbody => exact (@sss_cons _ _ _ _ _ _ (@ss_if _ _ _ _ _ _ _ _ _ (@st_bool _ _ _ _ _ _ (@sts_or _ _ _ _ _ _ (@st_cmp _ _ _ _ _ _ _ _ (@se_sub _ _ _ _ _ _ _ (@ne_loc _ _ _ _ 1 rfl rfl rfl) (@ne_int _ _ _ _ _) (fun _ _ => rfl)) (@ne_str _ _ _ _ _ 9 rfl) rfl) (@sts_or _ _ _ _ _ _ (@st_cmp _ _ _ _ _ _ _ _ (@ne_blt _ _ _ _ _ _ _ _ _ _ sb_len g_len (@nes_cons _ _ _ _ _ _ (@se_attr _ _ _ _ _ 141 2 _ ok141 (no141 2 (by decide)) rfl (@se_callK _ _ _ _ _ _ _ _ _ _ (@SF.le 2 2 _ _ (f_parent_of) rfl) g_parent_of k_parent_of (@nes_cons _ _ _ _ _ _ (@ne_loc _ _ _ _ 0 rfl rfl rfl) (@nes_cons _ _ _ _ _ _ (@ne_loc _ _ _ _ 1 rfl rfl rfl) (@nes_nil _ _) (fun _ => rfl)) (fun _ => rfl)) rfl rfl (fun _ => rfl) (fun _ => rfl)) (fun _ _ => rfl)) (@nes_nil _ _) (fun _ => rfl)) rfl rfl (fun _ => rfl) (fun _ => rfl)) (@ne_int _ _ _ _ _) rfl) (@nts_or_nil _ _)))) (@sss_cons _ _ _ _ _ _ (@ns_dead _ _ _) (@nss_nil _ _)) (@nss_nil _ _)) (@sss_cons _ _ _ _ _ _ (@ss_ret _ _ _ _ _ (@se_callK _ _ _ _ _ _ _ _ _ _ (@SF.le 2 2 _ _ (f_parent_of) rfl) g_parent_of k_parent_of (@nes_cons _ _ _ _ _ _ (@ne_loc _ _ _ _ 0 rfl rfl rfl) (@nes_cons _ _ _ _ _ _ (@ne_loc _ _ _ _ 1 rfl rfl rfl) (@nes_nil _ _) (fun _ => rfl)) (fun _ => rfl)) rfl rfl (fun _ => rfl) (fun _ => rfl))) (@nss_nil _ _)))
noncomputable def c_popped : CF := cfun 2 [some 0, some 1, none, none] [] (cseq (casg (ccall (escons (cloc 0) (escons (cloc 1) (esnil))) c_need_row) (gloc 2)) (cseq (cif (tcmp .Eq (cattr 141 1 (cloc 2)) (clist (esnil))) (cseq (sdead) (snil)) (snil)) (cseq (casg (cpop (cattr 141 1 (cloc 2))) (gloc 3)) (cseq (casg (ctup (escons (cblt (escons (cattr 141 1 (cloc 2)) (esnil)) b_len) (esnil))) (gattr 141 2 (cloc 2))) (cseq (cif (tcmp .Is (cloc 3) (cnone)) (cseq (sdead) (snil)) (snil)) (cseq (cret (cloc 3)) (snil)))))))
theorem g_popped : Glb "popped" (.ref 326) := glb_of fun P => by kernel_rfl
theorem k_popped : ∀ P, keepIn (hk P) (.ref 326) = true := fun P => by kernel_rfl
theorem f_popped : SF 4 326 c_popped := by
  refine' sf_intro (b := 3) ["heap", "value"] ["heap", "value", "thing", "found"] [] [some 0, some 1, none, none] [] ?hK ?hcd ?hb ?hl ?hbody
  case hK => intro P; rfl
  case hcd => intro P; kernel_rfl
  case hb => intro ws h; match ws, h with | [a0, a1], _ => rfl
  case hl => rfl
  case hbody => exact (@sss_cons _ _ _ _ _ _ (@ss_asg _ _ _ _ _ _ _ (@se_callK _ _ _ _ _ _ _ _ _ _ (@SF.le 3 3 _ _ (f_need_row) rfl) g_need_row k_need_row (@nes_cons _ _ _ _ _ _ (@ne_loc _ _ _ _ 0 rfl rfl rfl) (@nes_cons _ _ _ _ _ _ (@ne_loc _ _ _ _ 1 rfl rfl rfl) (@nes_nil _ _) (fun _ => rfl)) (fun _ => rfl)) rfl rfl (fun _ => rfl) (fun _ => rfl)) (@tg_loc _ _ _ _ 2 rfl (by decide +kernel) rfl) (fun _ _ => rfl) (fun _ _ => rfl) (fun _ => rfl)) (@sss_cons _ _ _ _ _ _ (@ss_if _ _ _ _ _ _ _ _ _ (@st_cmp _ _ _ _ _ _ _ _ (@se_attr _ _ _ _ _ 141 1 _ ok141 (no141 1 (by decide)) rfl (@ne_loc _ _ _ _ 2 rfl rfl rfl) (fun _ _ => rfl)) (@ne_list _ _ _ _ _ (@nes_nil _ _)) rfl) (@sss_cons _ _ _ _ _ _ (@ns_dead _ _ _) (@nss_nil _ _)) (@nss_nil _ _)) (@sss_cons _ _ _ _ _ _ (@ss_asg _ _ _ _ _ _ _ (@se_pop _ _ _ _ _ _ (@se_attr _ _ _ _ _ 141 1 _ ok141 (no141 1 (by decide)) rfl (@ne_loc _ _ _ _ 2 rfl rfl rfl) (fun _ _ => rfl)) (fun _ => rfl) rfl) (@tg_loc _ _ _ _ 3 rfl (by decide +kernel) rfl) (fun _ _ => rfl) (fun _ _ => rfl) (fun _ => rfl)) (@sss_cons _ _ _ _ _ _ (@ss_asg _ _ _ _ _ _ _ (@ne_tuple _ _ _ _ _ _ (@nes_cons _ _ _ _ _ _ (@ne_blt _ _ _ _ _ _ _ _ _ _ sb_len g_len (@nes_cons _ _ _ _ _ _ (@se_attr _ _ _ _ _ 141 1 _ ok141 (no141 1 (by decide)) rfl (@ne_loc _ _ _ _ 2 rfl rfl rfl) (fun _ _ => rfl)) (@nes_nil _ _) (fun _ => rfl)) rfl rfl (fun _ => rfl) (fun _ => rfl)) (@nes_nil _ _) (fun _ => rfl)) (Nat.le_of_ble_eq_true rfl)) (@tg_attr _ _ _ _ _ 141 2 _ so141 (by decide) rfl (@ne_loc _ _ _ _ 2 rfl rfl rfl)) (fun _ _ => rfl) (fun _ _ => rfl) (fun _ => rfl)) (@sss_cons _ _ _ _ _ _ (@ss_if _ _ _ _ _ _ _ _ _ (@st_cmp _ _ _ _ _ _ _ _ (@ne_loc _ _ _ _ 3 rfl rfl rfl) (@ne_none _ _ _ _) rfl) (@sss_cons _ _ _ _ _ _ (@ns_dead _ _ _) (@nss_nil _ _)) (@nss_nil _ _)) (@sss_cons _ _ _ _ _ _ (@ss_ret _ _ _ _ _ (@ne_loc _ _ _ _ 3 rfl rfl rfl)) (@nss_nil _ _)))))))
noncomputable def c_taken_row : CF := cfun 2 [some 0, some 1, none, none, none, none] [] (cseq (cif (tcmp .Is (cloc 0) (cnone)) (cseq (cret (ctup (escons (cint (.ofNat 1)) (escons (cint (.ofNat 1)) (escons (cloc 1) (esnil)))))) (snil)) (snil)) (cseq (cif (tval (cisi (cloc 0))) (cseq (cret (cifx (tcmp2 .LtE .LtE (cint (.ofNat 1)) (cloc 0) (cloc 1)) (ctup (escons (cloc 0) (escons (cint (.ofNat 1)) (escons (cnone) (esnil))))) (cnone))) (snil)) (snil)) (cseq (casg (cloc 0) (gtup 3 (gcons (gloc 2) (gcons (gloc 3) (gcons (gloc 4) (gnil)))))) (cseq (cif (tcmp .LtE (cloc 4) (cint (.ofNat 0))) (cseq (cret (ctup (escons (cint (.ofNat 1)) (escons (cloc 3) (escons (cint (.ofNat 0)) (esnil)))))) (snil)) (snil)) (cseq (cif (tcmp .Gt (cloc 4) (cloc 1)) (cseq (cret (cnone)) (snil)) (snil)) (cseq (casg (cbin .Add (cloc 2) (cbin .Mult (cloc 3) (cbin .Sub (cloc 4) (cint (.ofNat 1))))) (gloc 5)) (cseq (cret (cifx (tand (tcmp2 .LtE .LtE (cint (.ofNat 1)) (cloc 2) (cloc 1)) (tand (tcmp2 .LtE .LtE (cint (.ofNat 1)) (cloc 5) (cloc 1)) (candn))) (ctup (escons (cloc 2) (escons (cloc 3) (escons (cloc 4) (esnil))))) (cnone))) (snil))))))))
theorem g_taken_row : Glb "taken_row" (.ref 333) := glb_of fun P => by kernel_rfl
theorem k_taken_row : ∀ P, keepIn (hk P) (.ref 333) = true := fun P => by kernel_rfl
theorem f_taken_row : SF 1 333 c_taken_row := by
  refine' sf_intro (b := 0) ["part", "size"] ["part", "size", "first", "step", "many", "last"] [] [some 0, some 1, none, none, none, none] [] ?hK ?hcd ?hb ?hl ?hbody
  case hK => intro P; rfl
  case hcd => intro P; kernel_rfl
  case hb => intro ws h; match ws, h with | [a0, a1], _ => rfl
  case hl => rfl
  case hbody => exact (@sss_cons _ _ _ _ _ _ (@ss_if _ _ _ _ _ _ _ _ _ (@st_cmp _ _ _ _ _ _ _ _ (@ne_loc _ _ _ _ 0 rfl rfl rfl) (@ne_none _ _ _ _) rfl) (@sss_cons _ _ _ _ _ _ (@ss_ret _ _ _ _ _ (@ne_tuple _ _ _ _ _ _ (@nes_cons _ _ _ _ _ _ (@ne_int _ _ _ _ _) (@nes_cons _ _ _ _ _ _ (@ne_int _ _ _ _ _) (@nes_cons _ _ _ _ _ _ (@ne_loc _ _ _ _ 1 rfl rfl rfl) (@nes_nil _ _) (fun _ => rfl)) (fun _ => rfl)) (fun _ => rfl)) (Nat.le_of_ble_eq_true rfl))) (@nss_nil _ _)) (@nss_nil _ _)) (@sss_cons _ _ _ _ _ _ (@ss_if _ _ _ _ _ _ _ _ _ (@st_val _ _ _ _ (@se_isi _ _ _ _ _ _ _ (@ne_loc _ _ _ _ 0 rfl rfl rfl) rfl rfl (fun _ => rfl)) (fun _ _ => rfl)) (@sss_cons _ _ _ _ _ _ (@ss_ret _ _ _ _ _ (@se_if _ _ _ _ _ _ _ _ _ (@st_cmp2 _ _ _ _ _ _ _ _ _ _ _ (@ne_int _ _ _ _ _) (@ne_loc _ _ _ _ 0 rfl rfl rfl) (@ne_loc _ _ _ _ 1 rfl rfl rfl) rfl) (@ne_tuple _ _ _ _ _ _ (@nes_cons _ _ _ _ _ _ (@ne_loc _ _ _ _ 0 rfl rfl rfl) (@nes_cons _ _ _ _ _ _ (@ne_int _ _ _ _ _) (@nes_cons _ _ _ _ _ _ (@ne_none _ _ _ _) (@nes_nil _ _) (fun _ => rfl)) (fun _ => rfl)) (fun _ => rfl)) (Nat.le_of_ble_eq_true rfl)) (@ne_none _ _ _ _))) (@nss_nil _ _)) (@nss_nil _ _)) (@sss_cons _ _ _ _ _ _ (@ss_asg _ _ _ _ _ _ _ (@ne_loc _ _ _ _ 0 rfl rfl rfl) (@tg_tup _ _ _ _ _ _ _ (@tgs_cons _ _ _ _ _ _ (@tg_loc _ _ _ _ 2 rfl (by decide +kernel) rfl) (@tgs_cons _ _ _ _ _ _ (@tg_loc _ _ _ _ 3 rfl (by decide +kernel) rfl) (@tgs_cons _ _ _ _ _ _ (@tg_loc _ _ _ _ 4 rfl (by decide +kernel) rfl) (@ntg_nil _ _) (fun _ => rfl)) (fun _ => rfl)) (fun _ => rfl)) (fun _ => rfl) (fun _ => rfl)) (fun _ _ => rfl) (fun _ _ => rfl) (fun _ => rfl)) (@sss_cons _ _ _ _ _ _ (@ss_if _ _ _ _ _ _ _ _ _ (@st_cmp _ _ _ _ _ _ _ _ (@ne_loc _ _ _ _ 4 rfl rfl rfl) (@ne_int _ _ _ _ _) rfl) (@sss_cons _ _ _ _ _ _ (@ss_ret _ _ _ _ _ (@ne_tuple _ _ _ _ _ _ (@nes_cons _ _ _ _ _ _ (@ne_int _ _ _ _ _) (@nes_cons _ _ _ _ _ _ (@ne_loc _ _ _ _ 3 rfl rfl rfl) (@nes_cons _ _ _ _ _ _ (@ne_int _ _ _ _ _) (@nes_nil _ _) (fun _ => rfl)) (fun _ => rfl)) (fun _ => rfl)) (Nat.le_of_ble_eq_true rfl))) (@nss_nil _ _)) (@nss_nil _ _)) (@sss_cons _ _ _ _ _ _ (@ss_if _ _ _ _ _ _ _ _ _ (@st_cmp _ _ _ _ _ _ _ _ (@ne_loc _ _ _ _ 4 rfl rfl rfl) (@ne_loc _ _ _ _ 1 rfl rfl rfl) rfl) (@sss_cons _ _ _ _ _ _ (@ss_ret _ _ _ _ _ (@ne_none _ _ _ _)) (@nss_nil _ _)) (@nss_nil _ _)) (@sss_cons _ _ _ _ _ _ (@ss_asg _ _ _ _ _ _ _ (@se_bin _ _ _ _ _ _ _ _ (@ne_loc _ _ _ _ 2 rfl rfl rfl) (@se_bin _ _ _ _ _ _ _ _ (@ne_loc _ _ _ _ 3 rfl rfl rfl) (@se_bin _ _ _ _ _ _ _ _ (@ne_loc _ _ _ _ 4 rfl rfl rfl) (@ne_int _ _ _ _ _)))) (@tg_loc _ _ _ _ 5 rfl (by decide +kernel) rfl) (fun _ _ => rfl) (fun _ _ => rfl) (fun _ => rfl)) (@sss_cons _ _ _ _ _ _ (@ss_ret _ _ _ _ _ (@se_if _ _ _ _ _ _ _ _ _ (@st_bool _ _ _ _ _ _ (@sts_and _ _ _ _ _ _ (@st_cmp2 _ _ _ _ _ _ _ _ _ _ _ (@ne_int _ _ _ _ _) (@ne_loc _ _ _ _ 2 rfl rfl rfl) (@ne_loc _ _ _ _ 1 rfl rfl rfl) rfl) (@sts_and _ _ _ _ _ _ (@st_cmp2 _ _ _ _ _ _ _ _ _ _ _ (@ne_int _ _ _ _ _) (@ne_loc _ _ _ _ 5 rfl rfl rfl) (@ne_loc _ _ _ _ 1 rfl rfl rfl) rfl) (@nts_and_nil _ _)))) (@ne_tuple _ _ _ _ _ _ (@nes_cons _ _ _ _ _ _ (@ne_loc _ _ _ _ 2 rfl rfl rfl) (@nes_cons _ _ _ _ _ _ (@ne_loc _ _ _ _ 3 rfl rfl rfl) (@nes_cons _ _ _ _ _ _ (@ne_loc _ _ _ _ 4 rfl rfl rfl) (@nes_nil _ _) (fun _ => rfl)) (fun _ => rfl)) (fun _ => rfl)) (Nat.le_of_ble_eq_true rfl)) (@ne_none _ _ _ _))) (@nss_nil _ _))))))))
noncomputable def c_edge_of : CF := cfun 2 [some 0, some 1, none, none, none, none] [] (cseq (casg (cloc 0) (gtup 3 (gcons (gloc 2) (gcons (gloc 3) (gcons (gloc 4) (gnil)))))) (cseq (casg (cbin .Add (cloc 2) (cbin .Mult (cloc 3) (cbin .Sub (cloc 4) (cint (.ofNat 1))))) (gloc 5)) (cseq (cret (cifx (tand (tcmp .Gt (cloc 4) (cint (.ofNat 0))) (tand (tcmp2 .LtE .LtE (cint (.ofNat 1)) (cloc 2) (cloc 1)) (tand (tnot (tcmp2 .LtE .LtE (cint (.ofNat 1)) (cloc 5) (cloc 1))) (candn)))) (cloc 5) (cloc 2))) (snil))))
theorem g_edge_of : Glb "edge_of" (.ref 347) := glb_of fun P => by kernel_rfl
theorem k_edge_of : ∀ P, keepIn (hk P) (.ref 347) = true := fun P => by kernel_rfl
theorem f_edge_of : SF 1 347 c_edge_of := by
  refine' sf_intro (b := 0) ["part", "size"] ["part", "size", "first", "step", "many", "last"] [] [some 0, some 1, none, none, none, none] [] ?hK ?hcd ?hb ?hl ?hbody
  case hK => intro P; rfl
  case hcd => intro P; kernel_rfl
  case hb => intro ws h; match ws, h with | [a0, a1], _ => rfl
  case hl => rfl
  case hbody => exact (@sss_cons _ _ _ _ _ _ (@ss_asg _ _ _ _ _ _ _ (@ne_loc _ _ _ _ 0 rfl rfl rfl) (@tg_tup _ _ _ _ _ _ _ (@tgs_cons _ _ _ _ _ _ (@tg_loc _ _ _ _ 2 rfl (by decide +kernel) rfl) (@tgs_cons _ _ _ _ _ _ (@tg_loc _ _ _ _ 3 rfl (by decide +kernel) rfl) (@tgs_cons _ _ _ _ _ _ (@tg_loc _ _ _ _ 4 rfl (by decide +kernel) rfl) (@ntg_nil _ _) (fun _ => rfl)) (fun _ => rfl)) (fun _ => rfl)) (fun _ => rfl) (fun _ => rfl)) (fun _ _ => rfl) (fun _ _ => rfl) (fun _ => rfl)) (@sss_cons _ _ _ _ _ _ (@ss_asg _ _ _ _ _ _ _ (@se_bin _ _ _ _ _ _ _ _ (@ne_loc _ _ _ _ 2 rfl rfl rfl) (@se_bin _ _ _ _ _ _ _ _ (@ne_loc _ _ _ _ 3 rfl rfl rfl) (@se_bin _ _ _ _ _ _ _ _ (@ne_loc _ _ _ _ 4 rfl rfl rfl) (@ne_int _ _ _ _ _)))) (@tg_loc _ _ _ _ 5 rfl (by decide +kernel) rfl) (fun _ _ => rfl) (fun _ _ => rfl) (fun _ => rfl)) (@sss_cons _ _ _ _ _ _ (@ss_ret _ _ _ _ _ (@se_if _ _ _ _ _ _ _ _ _ (@st_bool _ _ _ _ _ _ (@sts_and _ _ _ _ _ _ (@st_cmp _ _ _ _ _ _ _ _ (@ne_loc _ _ _ _ 4 rfl rfl rfl) (@ne_int _ _ _ _ _) rfl) (@sts_and _ _ _ _ _ _ (@st_cmp2 _ _ _ _ _ _ _ _ _ _ _ (@ne_int _ _ _ _ _) (@ne_loc _ _ _ _ 2 rfl rfl rfl) (@ne_loc _ _ _ _ 1 rfl rfl rfl) rfl) (@sts_and _ _ _ _ _ _ (@st_not _ _ _ _ _ (@st_cmp2 _ _ _ _ _ _ _ _ _ _ _ (@ne_int _ _ _ _ _) (@ne_loc _ _ _ _ 5 rfl rfl rfl) (@ne_loc _ _ _ _ 1 rfl rfl rfl) rfl)) (@nts_and_nil _ _))))) (@ne_loc _ _ _ _ 5 rfl rfl rfl) (@ne_loc _ _ _ _ 2 rfl rfl rfl))) (@nss_nil _ _))))
noncomputable def c_edge_indices : CF := cfun 2 [some 0, some 1, none, none, none] [] (cseq (casg (clist (esnil)) (gloc 2)) (cseq (cfor 10 true (izip2 (escons (cloc 0) (escons (cloc 1) (esnil)))) (gtup 2 (gcons (gloc 3) (gcons (gloc 4) (gnil)))) (cseq (cif (tcmp .Is (cloc 3) (cnone)) (cseq (cexp (capp (cloc 2) (cint (.ofNat 1)))) (snil)) (cseq (cexp (capp (cloc 2) (cifx (tval (cisi (cloc 3))) (cloc 3) (ccall (escons (cloc 3) (escons (cloc 4) (esnil))) c_edge_of)))) (snil))) (snil))) (cseq (cret (cloc 2)) (snil))))
theorem g_edge_indices : Glb "edge_indices" (.ref 340) := glb_of fun P => by kernel_rfl
theorem k_edge_indices : ∀ P, keepIn (hk P) (.ref 340) = true := fun P => by kernel_rfl
theorem f_edge_indices : SF 2 340 c_edge_indices := by
  refine' sf_intro (b := 1) ["parts", "sizes"] ["parts", "sizes", "found", "part", "size"] [] [some 0, some 1, none, none, none] [] ?hK ?hcd ?hb ?hl ?hbody
  case hK => intro P; rfl
  case hcd => intro P; kernel_rfl
  case hb => intro ws h; match ws, h with | [a0, a1], _ => rfl
  case hl => rfl
  case hbody => exact (@sss_cons _ _ _ _ _ _ (@ss_asg _ _ _ _ _ _ _ (@ne_list _ _ _ _ _ (@nes_nil _ _)) (@tg_loc _ _ _ _ 2 rfl (by decide +kernel) rfl) (fun _ _ => rfl) (fun _ _ => rfl) (fun _ => rfl)) (@sss_cons _ _ _ _ _ _ (@ss_for _ _ _ 10 _ _ _ _ _ _ _ (@si_zip2 _ _ _ _ _ _ _ _ g_zip (@nes_cons _ _ _ _ _ _ (@ne_loc _ _ _ _ 0 rfl rfl rfl) (@nes_cons _ _ _ _ _ _ (@ne_loc _ _ _ _ 1 rfl rfl rfl) (@nes_nil _ _) (fun _ => rfl)) (fun _ => rfl)) rfl rfl (fun _ => rfl) (fun _ => rfl)) (@tg_tup _ _ _ _ _ _ _ (@tgs_cons _ _ _ _ _ _ (@tg_loc _ _ _ _ 3 rfl (by decide +kernel) rfl) (@tgs_cons _ _ _ _ _ _ (@tg_loc _ _ _ _ 4 rfl (by decide +kernel) rfl) (@ntg_nil _ _) (fun _ => rfl)) (fun _ => rfl)) (fun _ => rfl) (fun _ => rfl)) (@sss_cons _ _ _ _ _ _ (@ss_if _ _ _ _ _ _ _ _ _ (@st_cmp _ _ _ _ _ _ _ _ (@ne_loc _ _ _ _ 3 rfl rfl rfl) (@ne_none _ _ _ _) rfl) (@sss_cons _ _ _ _ _ _ (@ss_exp _ _ _ _ _ (@se_app _ _ _ _ _ _ _ _ (@ne_loc _ _ _ _ 2 rfl rfl rfl) (@ne_int _ _ _ _ _) (fun _ => rfl) (fun _ => rfl) rfl) (fun _ h => notInteractive h) (fun _ => rfl)) (@nss_nil _ _)) (@sss_cons _ _ _ _ _ _ (@ss_exp _ _ _ _ _ (@se_app _ _ _ _ _ _ _ _ (@ne_loc _ _ _ _ 2 rfl rfl rfl) (@se_if _ _ _ _ _ _ _ _ _ (@st_val _ _ _ _ (@se_isi _ _ _ _ _ _ _ (@ne_loc _ _ _ _ 3 rfl rfl rfl) rfl rfl (fun _ => rfl)) (fun _ _ => rfl)) (@ne_loc _ _ _ _ 3 rfl rfl rfl) (@se_callK _ _ _ _ _ _ _ _ _ _ (@SF.le 1 1 _ _ (f_edge_of) rfl) g_edge_of k_edge_of (@nes_cons _ _ _ _ _ _ (@ne_loc _ _ _ _ 3 rfl rfl rfl) (@nes_cons _ _ _ _ _ _ (@ne_loc _ _ _ _ 4 rfl rfl rfl) (@nes_nil _ _) (fun _ => rfl)) (fun _ => rfl)) rfl rfl (fun _ => rfl) (fun _ => rfl))) (fun _ => rfl) (fun _ => rfl) rfl) (fun _ h => notInteractive h) (fun _ => rfl)) (@nss_nil _ _))) (@nss_nil _ _)) rfl (fun _ _ => rfl)) (@sss_cons _ _ _ _ _ _ (@ss_ret _ _ _ _ _ (@ne_loc _ _ _ _ 2 rfl rfl rfl)) (@nss_nil _ _))))
noncomputable def c_view_of : CF := cfun 3 [some 0, some 1, some 2, none, none, none, none, none, none, none, none, none, none] [] (cseq (casg (ccall (escons (cloc 0) (escons (cloc 1) (esnil))) c_sizes_of) (gloc 3)) (cseq (cif (tcmp .NotEq (cblt (escons (cloc 2) (esnil)) b_len) (cblt (escons (cloc 3) (esnil)) b_len)) (cseq (sdead) (snil)) (snil)) (cseq (casgc 10 [] 3 true (izip2 (escons (cloc 2) (escons (cloc 3) (esnil)))) (gtup 2 (gcons (gloc 1) (gcons (gloc 2) (gnil)))) (tyes) (cemit (ccall (escons (cloc 1) (escons (cloc 2) (esnil))) c_taken_row)) (gloc 4)) (cseq (cif (tcmp .In (cnone) (cloc 4)) (cseq (craise (ccall (escons (cloc 1) (escons (ccall (escons (cloc 2) (escons (cloc 3) (esnil))) c_edge_indices) (esnil))) c_bounds_fault)) (snil)) (snil)) (cseq (casg (ccall (escons (cloc 0) (escons (cloc 1) (esnil))) c_layout_of) (gtup 2 (gcons (gloc 5) (gcons (gloc 6) (gnil))))) (cseq (casgb (ctup (escons (clist (esnil)) (escons (clist (esnil)) (esnil)))) (gloc 7) (gloc 8)) (cseq (cfor 10 true (izip2 (escons (cloc 4) (escons (cloc 6) (esnil)))) (gtup 2 (gcons (gtup 3 (gcons (gloc 9) (gcons (gloc 10) (gcons (gloc 11) (gnil))))) (gcons (gloc 12) (gnil)))) (cseq (casg (cbin .Add (cloc 5) (cbin .Mult (cbin .Sub (cloc 9) (cint (.ofNat 1))) (cloc 12))) (gloc 5)) (cseq (cif (tcmp .IsNot (cloc 11) (cnone)) (cseq (cexp (capp (cloc 7) (cloc 11))) (cseq (cexp (capp (cloc 8) (cbin .Mult (cloc 10) (cloc 12)))) (snil))) (snil)) (snil)))) (cseq (cret (ctup (escons (cstr 10) (escons (csub (cloc 1) (cint (.ofNat 1))) (escons (cloc 5) (escons (cblt (escons (cloc 7) (esnil)) b_tuple) (escons (cblt (escons (cloc 8) (esnil)) b_tuple) (esnil)))))))) (snil)))))))))
theorem g_view_of : Glb "view_of" (.ref 352) := glb_of fun P => by kernel_rfl
theorem k_view_of : ∀ P, keepIn (hk P) (.ref 352) = true := fun P => by kernel_rfl
theorem f_view_of : SF 6 352 c_view_of := by
  refine' sf_intro (b := 5) ["heap", "value", "parts"] ["heap", "value", "parts", "sizes", "rows", "place", "far_ones", "kept", "steps", "first", "step", "many", "far"] [] [some 0, some 1, some 2, none, none, none, none, none, none, none, none, none, none] [] ?hK ?hcd ?hb ?hl ?hbody
  case hK => intro P; rfl
  case hcd => intro P; kernel_rfl
  case hb => intro ws h; match ws, h with | [a0, a1, a2], _ => rfl
  case hl => rfl
  case hbody => exact (@sss_cons _ _ _ _ _ _ (@ss_asg _ _ _ _ _ _ _ (@se_callK _ _ _ _ _ _ _ _ _ _ (@SF.le 3 5 _ _ (f_sizes_of) rfl) g_sizes_of k_sizes_of (@nes_cons _ _ _ _ _ _ (@ne_loc _ _ _ _ 0 rfl rfl rfl) (@nes_cons _ _ _ _ _ _ (@ne_loc _ _ _ _ 1 rfl rfl rfl) (@nes_nil _ _) (fun _ => rfl)) (fun _ => rfl)) rfl rfl (fun _ => rfl) (fun _ => rfl)) (@tg_loc _ _ _ _ 3 rfl (by decide +kernel) rfl) (fun _ _ => rfl) (fun _ _ => rfl) (fun _ => rfl)) (@sss_cons _ _ _ _ _ _ (@ss_if _ _ _ _ _ _ _ _ _ (@st_cmp _ _ _ _ _ _ _ _ (@ne_blt _ _ _ _ _ _ _ _ _ _ sb_len g_len (@nes_cons _ _ _ _ _ _ (@ne_loc _ _ _ _ 2 rfl rfl rfl) (@nes_nil _ _) (fun _ => rfl)) rfl rfl (fun _ => rfl) (fun _ => rfl)) (@ne_blt _ _ _ _ _ _ _ _ _ _ sb_len g_len (@nes_cons _ _ _ _ _ _ (@ne_loc _ _ _ _ 3 rfl rfl rfl) (@nes_nil _ _) (fun _ => rfl)) rfl rfl (fun _ => rfl) (fun _ => rfl)) rfl) (@sss_cons _ _ _ _ _ _ (@ns_dead _ _ _) (@nss_nil _ _)) (@nss_nil _ _)) (@sss_cons _ _ _ _ _ _ (@ss_asgc _ _ _ 10 [] 3 _ _ _ _ _ _ _ _ _ _ _ _ _ _ _ [".0", "part", "size"] [] (@si_zip2 _ _ _ _ _ _ _ _ g_zip (@nes_cons _ _ _ _ _ _ (@ne_loc _ _ _ _ 2 rfl rfl rfl) (@nes_cons _ _ _ _ _ _ (@ne_loc _ _ _ _ 3 rfl rfl rfl) (@nes_nil _ _) (fun _ => rfl)) (fun _ => rfl)) rfl rfl (fun _ => rfl) (fun _ => rfl)) (@turn_one _ _ _ _ _ _) (@tg_tup _ _ _ _ _ _ _ (@tgs_cons _ _ _ _ _ _ (@tg_loc _ _ _ _ 1 rfl (by decide +kernel) rfl) (@tgs_cons _ _ _ _ _ _ (@tg_loc _ _ _ _ 2 rfl (by decide +kernel) rfl) (@ntg_nil _ _) (fun _ => rfl)) (fun _ => rfl)) (fun _ => rfl) (fun _ => rfl)) (@sif_nil _ _) (@scb_emit _ _ _ _ (@se_callK _ _ _ _ _ _ _ _ _ _ (@SF.le 1 5 _ _ (f_taken_row) rfl) g_taken_row k_taken_row (@nes_cons _ _ _ _ _ _ (@ne_loc _ _ _ _ 1 rfl rfl rfl) (@nes_cons _ _ _ _ _ _ (@ne_loc _ _ _ _ 2 rfl rfl rfl) (@nes_nil _ _) (fun _ => rfl)) (fun _ => rfl)) rfl rfl (fun _ => rfl) (fun _ => rfl))) rfl (fun _ _ => rfl) rfl rfl (@tg_loc _ _ _ _ 4 rfl (by decide +kernel) rfl) (fun _ h => comp1 h rfl rfl rfl) (fun _ => rfl)) (@sss_cons _ _ _ _ _ _ (@ss_if _ _ _ _ _ _ _ _ _ (@st_cmp _ _ _ _ _ _ _ _ (@ne_none _ _ _ _) (@ne_loc _ _ _ _ 4 rfl rfl rfl) rfl) (@sss_cons _ _ _ _ _ _ (@ss_raise _ _ _ _ _ (@sxe_call _ _ _ _ _ _ _ _ _ _ (@SXF.le 5 5 _ _ (f_bounds_fault) rfl) g_bounds_fault k_bounds_fault (@nes_cons _ _ _ _ _ _ (@ne_loc _ _ _ _ 1 rfl rfl rfl) (@nes_cons _ _ _ _ _ _ (@se_callK _ _ _ _ _ _ _ _ _ _ (@SF.le 2 5 _ _ (f_edge_indices) rfl) g_edge_indices k_edge_indices (@nes_cons _ _ _ _ _ _ (@ne_loc _ _ _ _ 2 rfl rfl rfl) (@nes_cons _ _ _ _ _ _ (@ne_loc _ _ _ _ 3 rfl rfl rfl) (@nes_nil _ _) (fun _ => rfl)) (fun _ => rfl)) rfl rfl (fun _ => rfl) (fun _ => rfl)) (@nes_nil _ _) (fun _ => rfl)) (fun _ => rfl)) rfl rfl (fun _ => rfl) (fun _ => rfl))) (@nss_nil _ _)) (@nss_nil _ _)) (@sss_cons _ _ _ _ _ _ (@ss_asg _ _ _ _ _ _ _ (@se_callK _ _ _ _ _ _ _ _ _ _ (@SF.le 4 5 _ _ (f_layout_of) rfl) g_layout_of k_layout_of (@nes_cons _ _ _ _ _ _ (@ne_loc _ _ _ _ 0 rfl rfl rfl) (@nes_cons _ _ _ _ _ _ (@ne_loc _ _ _ _ 1 rfl rfl rfl) (@nes_nil _ _) (fun _ => rfl)) (fun _ => rfl)) rfl rfl (fun _ => rfl) (fun _ => rfl)) (@tg_tup _ _ _ _ _ _ _ (@tgs_cons _ _ _ _ _ _ (@tg_loc _ _ _ _ 5 rfl (by decide +kernel) rfl) (@tgs_cons _ _ _ _ _ _ (@tg_loc _ _ _ _ 6 rfl (by decide +kernel) rfl) (@ntg_nil _ _) (fun _ => rfl)) (fun _ => rfl)) (fun _ => rfl) (fun _ => rfl)) (fun _ _ => rfl) (fun _ _ => rfl) (fun _ => rfl)) (@sss_cons _ _ _ _ _ _ (@ss_asgb _ _ _ _ _ _ _ _ _ _ _ _ (@ne_tuple _ _ _ _ _ _ (@nes_cons _ _ _ _ _ _ (@ne_list _ _ _ _ _ (@nes_nil _ _)) (@nes_cons _ _ _ _ _ _ (@ne_list _ _ _ _ _ (@nes_nil _ _)) (@nes_nil _ _) (fun _ => rfl)) (fun _ => rfl)) (Nat.le_of_ble_eq_true rfl)) (@tb_loc _ _ _ 7 rfl (by decide +kernel) rfl) (@tb_loc _ _ _ 8 rfl (by decide +kernel) rfl) (fun _ _ => rfl) (fun _ h => swap2 h rfl rfl rfl rfl rfl rfl rfl)) (@sss_cons _ _ _ _ _ _ (@ss_for _ _ _ 10 _ _ _ _ _ _ _ (@si_zip2 _ _ _ _ _ _ _ _ g_zip (@nes_cons _ _ _ _ _ _ (@ne_loc _ _ _ _ 4 rfl rfl rfl) (@nes_cons _ _ _ _ _ _ (@ne_loc _ _ _ _ 6 rfl rfl rfl) (@nes_nil _ _) (fun _ => rfl)) (fun _ => rfl)) rfl rfl (fun _ => rfl) (fun _ => rfl)) (@tg_tup _ _ _ _ _ _ _ (@tgs_cons _ _ _ _ _ _ (@tg_tup _ _ _ _ _ _ _ (@tgs_cons _ _ _ _ _ _ (@tg_loc _ _ _ _ 9 rfl (by decide +kernel) rfl) (@tgs_cons _ _ _ _ _ _ (@tg_loc _ _ _ _ 10 rfl (by decide +kernel) rfl) (@tgs_cons _ _ _ _ _ _ (@tg_loc _ _ _ _ 11 rfl (by decide +kernel) rfl) (@ntg_nil _ _) (fun _ => rfl)) (fun _ => rfl)) (fun _ => rfl)) (fun _ => rfl) (fun _ => rfl)) (@tgs_cons _ _ _ _ _ _ (@tg_loc _ _ _ _ 12 rfl (by decide +kernel) rfl) (@ntg_nil _ _) (fun _ => rfl)) (fun _ => rfl)) (fun _ => rfl) (fun _ => rfl)) (@sss_cons _ _ _ _ _ _ (@ss_asg _ _ _ _ _ _ _ (@se_bin _ _ _ _ _ _ _ _ (@ne_loc _ _ _ _ 5 rfl rfl rfl) (@se_bin _ _ _ _ _ _ _ _ (@se_bin _ _ _ _ _ _ _ _ (@ne_loc _ _ _ _ 9 rfl rfl rfl) (@ne_int _ _ _ _ _)) (@ne_loc _ _ _ _ 12 rfl rfl rfl))) (@tg_loc _ _ _ _ 5 rfl (by decide +kernel) rfl) (fun _ _ => rfl) (fun _ _ => rfl) (fun _ => rfl)) (@sss_cons _ _ _ _ _ _ (@ss_if _ _ _ _ _ _ _ _ _ (@st_cmp _ _ _ _ _ _ _ _ (@ne_loc _ _ _ _ 11 rfl rfl rfl) (@ne_none _ _ _ _) rfl) (@sss_cons _ _ _ _ _ _ (@ss_exp _ _ _ _ _ (@se_app _ _ _ _ _ _ _ _ (@ne_loc _ _ _ _ 7 rfl rfl rfl) (@ne_loc _ _ _ _ 11 rfl rfl rfl) (fun _ => rfl) (fun _ => rfl) rfl) (fun _ h => notInteractive h) (fun _ => rfl)) (@sss_cons _ _ _ _ _ _ (@ss_exp _ _ _ _ _ (@se_app _ _ _ _ _ _ _ _ (@ne_loc _ _ _ _ 8 rfl rfl rfl) (@se_bin _ _ _ _ _ _ _ _ (@ne_loc _ _ _ _ 10 rfl rfl rfl) (@ne_loc _ _ _ _ 12 rfl rfl rfl)) (fun _ => rfl) (fun _ => rfl) rfl) (fun _ h => notInteractive h) (fun _ => rfl)) (@nss_nil _ _))) (@nss_nil _ _)) (@nss_nil _ _))) rfl (fun _ _ => rfl)) (@sss_cons _ _ _ _ _ _ (@ss_ret _ _ _ _ _ (@ne_tuple _ _ _ _ _ _ (@nes_cons _ _ _ _ _ _ (@ne_str _ _ _ _ _ 10 rfl) (@nes_cons _ _ _ _ _ _ (@se_sub _ _ _ _ _ _ _ (@ne_loc _ _ _ _ 1 rfl rfl rfl) (@ne_int _ _ _ _ _) (fun _ _ => rfl)) (@nes_cons _ _ _ _ _ _ (@ne_loc _ _ _ _ 5 rfl rfl rfl) (@nes_cons _ _ _ _ _ _ (@ne_typ _ _ _ _ _ _ _ _ _ _ sb_tuple g_tuple (@nes_cons _ _ _ _ _ _ (@ne_loc _ _ _ _ 7 rfl rfl rfl) (@nes_nil _ _) (fun _ => rfl)) rfl rfl (fun _ => rfl) (fun _ => rfl)) (@nes_cons _ _ _ _ _ _ (@ne_typ _ _ _ _ _ _ _ _ _ _ sb_tuple g_tuple (@nes_cons _ _ _ _ _ _ (@ne_loc _ _ _ _ 8 rfl rfl rfl) (@nes_nil _ _) (fun _ => rfl)) rfl rfl (fun _ => rfl) (fun _ => rfl)) (@nes_nil _ _) (fun _ => rfl)) (fun _ => rfl)) (fun _ => rfl)) (fun _ => rfl)) (fun _ => rfl)) (Nat.le_of_ble_eq_true rfl))) (@nss_nil _ _)))))))))
noncomputable def c_law_int : CF := cfun 1 [some 0] [] (cseq (cret (ctup (escons (cstr 4) (escons (cstr 2) (escons (cloc 0) (esnil)))))) (snil))
theorem g_law_int : Glb "_law_int" (.ref 373) := glb_of fun P => by kernel_rfl
theorem k_law_int : ∀ P, keepIn (hk P) (.ref 373) = true := fun P => by kernel_rfl
theorem f_law_int : SF 1 373 c_law_int := by
  refine' sf_intro (b := 0) ["number"] ["number"] [] [some 0] [] ?hK ?hcd ?hb ?hl ?hbody
  case hK => intro P; rfl
  case hcd => intro P; kernel_rfl
  case hb => intro ws h; match ws, h with | [a0], _ => rfl
  case hl => rfl
  case hbody => exact (@sss_cons _ _ _ _ _ _ (@ss_ret _ _ _ _ _ (@ne_tuple _ _ _ _ _ _ (@nes_cons _ _ _ _ _ _ (@ne_str _ _ _ _ _ 4 rfl) (@nes_cons _ _ _ _ _ _ (@ne_str _ _ _ _ _ 2 rfl) (@nes_cons _ _ _ _ _ _ (@ne_loc _ _ _ _ 0 rfl rfl rfl) (@nes_nil _ _) (fun _ => rfl)) (fun _ => rfl)) (fun _ => rfl)) (Nat.le_of_ble_eq_true rfl))) (@nss_nil _ _))
end Mine
open PySem PySem.W PyProof.Rows PySem.Calls PySem.Spec
set_option Elab.async false
set_option maxRecDepth 100000
set_option maxHeartbeats 1000000
set_option linter.unusedSimpArgs false
set_option linter.unusedVariables false
namespace Mine
noncomputable def c_notch0 : CF := cfun 2 [some 0, some 1, none] [] (cseq (cif (tcmp .Gt (csub (cloc 0) (cint (.ofNat 0))) (cint (.ofNat 0))) (cseq (casg (cbin .Mod (csub (cloc 0) (cint (.ofNat 0))) (cloc 1)) (gloc 2)) (cseq (casg (cbin .FloorDiv (csub (cloc 0) (cint (.ofNat 0))) (cloc 1)) (gitem (cloc 0) (cint (.ofNat 0)))) (cseq (cret (cloc 2)) (snil)))) (snil)) (cseq (casg (cbin .Mod (cbin .Add (cbin .Mult (csub (cloc 0) (cint (.ofNat 1))) (cint (.ofNat 313))) (cint (.ofNat 8009))) (cint (.ofNat 65287))) (gitem (cloc 0) (cint (.ofNat 1)))) (cseq (cret (cbin .Mod (cbin .FloorDiv (csub (cloc 0) (cint (.ofNat 1))) (cint (.ofNat 7))) (cloc 1))) (snil))))
theorem g_law_notch : Glb "_law_notch" (.ref 366) := glb_of fun P => by kernel_rfl
theorem k_law_notch : ∀ P, keepIn (hk P) (.ref 366) = true := fun P => by kernel_rfl
theorem f_notch0 : SF 1 366 c_notch0 := by
  refine' sf_intro (b := 0) ["rim", "many"] ["rim", "many", "bite"] [] [some 0, some 1, none] [] ?hK ?hcd ?hb ?hl ?hbody
  case hK => intro P; rfl
  case hcd => intro P; kernel_rfl
  case hb => intro ws h; match ws, h with | [a0, a1], _ => rfl
  case hl => rfl
  case hbody => exact (@sss_cons _ _ _ _ _ _ (@ss_if _ _ _ _ _ _ _ _ _ (@st_cmp _ _ _ _ _ _ _ _ (@se_sub _ _ _ _ _ _ _ (@ne_loc _ _ _ _ 0 rfl rfl rfl) (@ne_int _ _ _ _ _) (fun _ _ => rfl)) (@ne_int _ _ _ _ _) rfl) (@sss_cons _ _ _ _ _ _ (@ss_asg _ _ _ _ _ _ _ (@se_bin _ _ _ _ _ _ _ _ (@se_sub _ _ _ _ _ _ _ (@ne_loc _ _ _ _ 0 rfl rfl rfl) (@ne_int _ _ _ _ _) (fun _ _ => rfl)) (@ne_loc _ _ _ _ 1 rfl rfl rfl)) (@tg_loc _ _ _ _ 2 rfl (by decide +kernel) rfl) (fun _ _ => rfl) (fun _ _ => rfl) (fun _ => rfl)) (@sss_cons _ _ _ _ _ _ (@ss_asg _ _ _ _ _ _ _ (@se_bin _ _ _ _ _ _ _ _ (@se_sub _ _ _ _ _ _ _ (@ne_loc _ _ _ _ 0 rfl rfl rfl) (@ne_int _ _ _ _ _) (fun _ _ => rfl)) (@ne_loc _ _ _ _ 1 rfl rfl rfl)) (@tg_item _ _ _ _ _ _ _ (@ne_loc _ _ _ _ 0 rfl rfl rfl) (@ne_int _ _ _ _ _)) (fun _ _ => rfl) (fun _ _ => rfl) (fun _ => rfl)) (@sss_cons _ _ _ _ _ _ (@ss_ret _ _ _ _ _ (@ne_loc _ _ _ _ 2 rfl rfl rfl)) (@nss_nil _ _)))) (@nss_nil _ _)) (@sss_cons _ _ _ _ _ _ (@ss_asg _ _ _ _ _ _ _ (@se_bin _ _ _ _ _ _ _ _ (@se_bin _ _ _ _ _ _ _ _ (@se_bin _ _ _ _ _ _ _ _ (@se_sub _ _ _ _ _ _ _ (@ne_loc _ _ _ _ 0 rfl rfl rfl) (@ne_int _ _ _ _ _) (fun _ _ => rfl)) (@ne_int _ _ _ _ _)) (@ne_int _ _ _ _ _)) (@ne_int _ _ _ _ _)) (@tg_item _ _ _ _ _ _ _ (@ne_loc _ _ _ _ 0 rfl rfl rfl) (@ne_int _ _ _ _ _)) (fun _ _ => rfl) (fun _ _ => rfl) (fun _ => rfl)) (@sss_cons _ _ _ _ _ _ (@ss_ret _ _ _ _ _ (@se_bin _ _ _ _ _ _ _ _ (@se_bin _ _ _ _ _ _ _ _ (@se_sub _ _ _ _ _ _ _ (@ne_loc _ _ _ _ 0 rfl rfl rfl) (@ne_int _ _ _ _ _) (fun _ _ => rfl)) (@ne_int _ _ _ _ _)) (@ne_loc _ _ _ _ 1 rfl rfl rfl))) (@nss_nil _ _))))

theorem eqB_ne {a b : Int} (h : a ≠ b) : Z.eqB a b = false := by
  cases e : Z.eqB a b with
  | false => rfl
  | true => exact absurd ((Z.eqB_iff _ _).mp e) h
theorem nth_set {α : Type} {l : List α} {j : Nat} {a b : α} (h : nth l j = some a) : nth (l.set j b) j = some b := by
  rw [nth_eq] at h ⊢
  have hl := (List.getElem?_eq_some_iff.mp h).1
  simp [hl]
theorem notch_run {j : Nat} {m x y : Int} {σ : List AO} {k xx : KV} (hσ : nth σ j = some (.lst [.int x, .int y])) (hm1 : 1 ≤ m) (hm2 : m ≤ 1000000000) (hx : 0 ≤ x) (hy : 0 ≤ y) (hy2 : y < 65287)
    (hk : ∀ r x' y', 0 ≤ r → r < m → 0 ≤ x' → 0 ≤ y' → y' < 65287 → k (.int r) (σ.set j (.lst [.int x', .int y'])) = true) : c_notch0 [.ref j, .int m] σ k xx = true := by
  have hm0 : Z.eqB m 0 = false := eqB_ne (by omega)
  have hmn : Nat.blt m.natAbs 1073741824 = true := Nat.ble_eq.mpr (by omega)
  have i0 : idxZ (.ofNat 0) ([V.int x, V.int y] : List V).length = some 0 := rfl
  have i1 : idxZ (.ofNat 1) ([V.int x, V.int y] : List V).length = some 1 := rfl
  have bM : ∀ a : Int, ∀ σ : List AO, binS .Mod σ (.int a) (.int m) = some (.int (a.fmod m), σ) := fun a σ => by simp only [binS, opI, hm0]; rfl
  have bD : ∀ a : Int, ∀ σ : List AO, binS .FloorDiv σ (.int a) (.int m) = some (.int (a.fdiv m), σ) := fun a σ => by simp only [binS, opI, hm0, hmn]; rfl
  unfold c_notch0 cfun
  simp only [List.length_cons, List.length_nil]
  show (cseq _ _) _ _ _ _ _ _ = true
  simp only [cseq, cif, tcmp, csub, cloc, cint, cbin, cret, casg, snil, gloc, gitem, lget, picks, pick, nth, upto, pickc, List.append_nil, itemS, hσ, i0, i1, cmpS, lset]
  cases hp : Z.ltB 0 x with
  | true =>
    simp only [hσ, i0, nth, bM x, bD x, Option.map_some]
    show k (.int (x.fmod m)) (σ.set j (.lst [.int (x.fdiv m), .int y])) = true
    refine hk _ _ _ ?_ ?_ ?_ hy hy2
    · exact Int.fmod_nonneg_of_pos _ (by omega)
    · exact Int.fmod_lt_of_pos _ (by omega)
    · rw [Int.fdiv_eq_ediv_of_nonneg _ (by omega)]; exact Int.ediv_nonneg hx (by omega)
  | false =>
    have h1 : (∀ a : Int, binS .Mult σ (.int a) (.int (.ofNat 313)) = some (.int (a * 313), σ)) := fun a => rfl
    have h2 : (∀ a : Int, binS .Add σ (.int a) (.int (.ofNat 8009)) = some (.int (a + 8009), σ)) := fun a => rfl
    have h3 : (∀ a : Int, binS .Mod σ (.int a) (.int (.ofNat 65287)) = some (.int (a.fmod 65287), σ)) := fun a => rfl
    simp only [hσ, i1, h1, h2, h3]
    have h4 : (∀ (σ : List AO) (a : Int), binS .FloorDiv σ (.int a) (.int (.ofNat 7)) = some (.int (a.fdiv 7), σ)) := fun σ a => rfl
    have hs : nth (σ.set j (.lst [.int x, .int ((y * 313 + 8009).fmod 65287)])) j = some (.lst [.int x, .int ((y * 313 + 8009).fmod 65287)]) := nth_set hσ
    have e1 : ([V.int x, V.int y].set 1 (V.int ((y * 313 + 8009).fmod 65287))) = [.int x, .int ((y * 313 + 8009).fmod 65287)] := rfl
    have i2 : idxZ (.ofNat 1) ([V.int x, .int ((y * 313 + 8009).fmod 65287)] : List V).length = some 1 := rfl
    simp only [e1, hs, i2, nth, h4, bM]
    refine hk _ _ _ ?_ ?_ hx ?_ ?_
    · exact Int.fmod_nonneg_of_pos _ (by omega)
    · exact Int.fmod_lt_of_pos _ (by omega)
    · exact Int.fmod_nonneg_of_pos _ (by omega)
    · exact Int.fmod_lt_of_pos _ (by omega)

noncomputable def allN : Nat → (Nat → Bool) → Bool
  | 0, _ => true
  | n + 1, f => match f n with | true => allN n f | false => false
theorem allN_ok {f : Nat → Bool} : ∀ {n : Nat}, allN n f = true → ∀ i, i < n → f i = true
  | 0, _, i, hi => by omega
  | n + 1, h, i, hi => by
    unfold allN at h
    split at h
    · rename_i hf
      rcases Nat.lt_succ_iff_lt_or_eq.mp hi with h1 | h1
      · exact allN_ok h i h1
      · rw [h1]; exact hf
    · cases h
/-- what is known of a draw -/
noncomputable def draw (n : Nat) (k : V → Bool) : Bool := match Nat.ble n 16 with
  | true => allN n fun i => k (.int (.ofNat i))
  | false => k (.big 0 (.ofNat n))
noncomputable def c_law_notch : CF := fun vs σ k _ => match vs with
  | [a, c] => (match a with
    | .ref j => (match nth σ j with
      | some o => (match o with
        | .rim => (match c with
          | .int m => (match m with
            | .ofNat n => (match Nat.ble 1 n with
              | true => (match Nat.ble n 1000000000 with | true => draw n fun v => k v σ | false => false)
              | false => false)
            | .negSucc _ => false)
          | _ => false)
        | _ => false)
      | none => false)
    | _ => false)
  | _ => false
/-- the list of the draws is a list of two ints, and back -/
theorem Wd.rimIn {D : Dt} {h : Heap} {G : St} {F : Fx} {j : Nat} (W : Wd D h G F) (e : nth G.σ j = some .rim) : ∃ x y : Int, 0 ≤ x ∧ 0 ≤ y ∧ y < 65287 ∧ Wd D h { G with σ := G.σ.set j (.lst [.int x, .int y]) } F := by
  rw [nth_eq] at e
  obtain ⟨a, h1, h2⟩ := W.ob j _ e
  cases h2 with | rim hg hx hy hz =>
  exact ⟨_, _, hx, hy, hz, W.updS h1 (Heap.SameBut.refl ..) (.lst hg (.cons (.int _ _) (.cons (.int _ _) .nil)))⟩
theorem Wd.rimOut {D : Dt} {h : Heap} {G : St} {F : Fx} {j : Nat} {x y : Int} (W : Wd D h G F) (e : nth G.σ j = some (.lst [.int x, .int y])) (hx : 0 ≤ x) (hy : 0 ≤ y) (hz : y < 65287) : Wd D h { G with σ := G.σ.set j .rim } F := by
  rw [nth_eq] at e
  obtain ⟨a, h1, h2⟩ := W.ob j _ e
  cases h2 with | lst hg r =>
  cases r with | cons r1 r =>
  cases r with | cons r2 r =>
  cases r; cases r1; cases r2
  exact W.updS h1 (Heap.SameBut.refl ..) (.rim hg hx hy hz)
theorem set_back {σ : List AO} {j : Nat} {o b : AO} (e : nth σ j = some o) : (σ.set j b).set j o = σ := by
  rw [nth_eq] at e
  obtain ⟨hl, he⟩ := List.getElem?_eq_some_iff.mp e
  rw [List.set_set, ← he, List.set_getElem_self]
noncomputable def kNotch (j n : Nat) (k : KV) : KV := fun v σ => match v with
  | .int r => (match nth σ j with
    | some (.lst [.int x', .int y']) => Z.leB 0 r && Z.ltB r (.ofNat n) && (Z.leB 0 x' && Z.leB 0 y' && Z.ltB y' 65287) && draw n (fun v => k v (σ.set j .rim))
    | _ => false)
  | _ => false
theorem f_law_notch : SF 1 366 c_law_notch := ⟨fun {D A s G F vs ws k x Q E} ha hw hr hc hq hx => by
  unfold c_law_notch at hc
  split at hc
  case h_2 => cases hc
  split at hc
  case h_2 => cases hc
  rename_i j
  split at hc
  case h_2 => cases hc
  rename_i o ho
  split at hc
  case h_2 => cases hc
  split at hc
  case h_2 => cases hc
  split at hc
  case h_2 => cases hc
  rename_i n
  split at hc
  case h_2 => cases hc
  rename_i hn1
  split at hc
  case h_2 => cases hc
  rename_i hn2
  have hn1 := Nat.le_of_ble_eq_true hn1
  have hn2 := Nat.le_of_ble_eq_true hn2
  obtain ⟨x0, y0, hx0, hy0, hz0, W1⟩ := hw.rimIn ho
  have hkk : ∀ (i : Nat), i < n → ∃ v, k v G.σ = true ∧ ∀ (G' : St) (t : Tok), VR G' v (.int (.ofNat i) t) := by
    intro i hi
    unfold draw at hc
    split at hc
    · exact ⟨_, allN_ok hc i hi, fun _ _ => .int _ _⟩
    · exact ⟨_, hc, fun _ _ => .big (show (0 : Int) ≤ (i : Int) by omega) (show (i : Int) < (n : Int) by omega) (show (n : Int) ≤ 2 ^ 40 by omega)⟩
  have hkd : ∃ k2, k2 = kNotch j n k := ⟨_, rfl⟩
  obtain ⟨k2, hk2⟩ := hkd
  have L1 : Le G { G with σ := G.σ.set j (.lst [.int x0, .int y0]) } := Le.setS G _
  have hs : nth (G.σ.set j (.lst [.int x0, .int y0])) j = some (.lst [.int x0, .int y0]) := nth_set ho
  have key : c_notch0 [.ref j, .int (.ofNat n)] (G.σ.set j (.lst [.int x0, .int y0])) k2 x = true := by
    refine notch_run hs (show (1 : Int) ≤ (n : Int) by omega) (show (n : Int) ≤ 1000000000 by omega) hx0 hy0 hz0 fun r x' y' h1 h2 h3 h4 h5 => ?_
    subst hk2
    unfold kNotch
    dsimp only
    rw [nth_set hs]
    have e1 : ((G.σ.set j (.lst [.int x0, .int y0])).set j (.lst [.int x', .int y'])).set j .rim = G.σ := by
      rw [List.set_set]; exact set_back ho
    rw [e1]
    simp only [(Z.leB_iff 0 r).mpr h1, (Z.ltB_iff r (.ofNat n)).mpr h2, (Z.leB_iff 0 x').mpr h3, (Z.leB_iff 0 y').mpr h4, (Z.ltB_iff y' 65287).mpr h5, hc, Bool.and_self]
  cases hr with | cons r1 hr =>
  cases hr with | cons r2 hr =>
  cases hr
  refine f_notch0.run (G := { G with σ := G.σ.set j (.lst [.int x0, .int y0]) }) ha W1 (.cons (r1.mono L1) (.cons (r2.mono L1) .nil)) key ?_ (hx.step L1 (Same.refl _))
  intro v s' G1 w c1 W2 l2 r3 m2
  subst hk2
  unfold kNotch at c1
  split at c1
  case h_2 => cases c1
  split at c1
  case h_2 => cases c1
  rename_i r _ x' y' hj
  simp only [Bool.and_eq_true] at c1
  obtain ⟨⟨⟨g1, g2⟩, ⟨g3, g4⟩, g5⟩, g6⟩ := c1
  have g1 := (Z.leB_iff _ _).mp g1
  have g2 := (Z.ltB_iff _ _).mp g2
  have W3 := W2.rimOut hj ((Z.leB_iff _ _).mp g3) ((Z.leB_iff _ _).mp g4) ((Z.ltB_iff _ _).mp g5)
  have l3 : Le G { G1 with σ := G1.σ.set j .rim } := ⟨l2.tl, l2.μ⟩
  cases r3 with | int _ t =>
  obtain ⟨i, rfl⟩ : ∃ i : Nat, r = .ofNat i := ⟨r.toNat, (Int.toNat_of_nonneg g1).symm⟩
  have hi : i < n := by have : (i : Int) < (n : Int) := g2; omega
  unfold draw at g6
  split at g6
  · exact hq _ s' { G1 with σ := G1.σ.set j .rim } _ (allN_ok g6 i hi) W3 l3 (.int _ _) m2
  · exact hq _ s' { G1 with σ := G1.σ.set j .rim } _ g6 W3 l3 (.big (show (0 : Int) ≤ (i : Int) by omega) (show (i : Int) < (n : Int) by omega) (show (n : Int) ≤ 2 ^ 40 by omega)) m2⟩
end Mine
open PySem PySem.W PyProof.Rows PySem.Calls PySem.Spec
set_option Elab.async false
set_option maxRecDepth 100000
set_option maxHeartbeats 1000000
set_option linter.unusedSimpArgs false
set_option linter.unusedVariables false
namespace Mine
/-! what a statement has made and let go is forgotten -/
mutual
noncomputable def vb (m : Nat) : V → Bool
  | .tup vs => vbs m vs
  | .ref k => Nat.blt k m
  | .ins _ k => Nat.blt k m
  | .exo _ => false
  | .none => true | .bool _ => true | .int _ => true | .str _ => true | .big _ _ => true | .opq => true
noncomputable def vbs (m : Nat) : List V → Bool
  | [] => true
  | v :: vs => vb m v && vbs m vs
end
noncomputable def vbL (f : V → Bool) (vs : List V) : Bool := List.rec (motive := fun _ => Bool) true (fun v _ ih => match f v with | true => ih | false => false) vs
noncomputable def vbU (m : Nat) (f : V → Bool) (v : V) : Bool := match v with
  | .int _ => true
  | .str _ => true
  | .tup vs => vbL f vs
  | .ref k => Nat.blt k m
  | .none => true
  | v => vb m v
theorem vbL_of {m : Nat} {f : V → Bool} (h : ∀ v, f v = true → vb m v = true) : ∀ {vs : List V}, vbL f vs = true → vbs m vs = true
  | [], _ => by simp [vbs]
  | v :: vs, e => by
    have e : (match f v with | true => vbL f vs | false => false) = true := e
    split at e
    · rename_i q
      simp [vbs, h v q, vbL_of h e]
    · cases e
theorem vbU_of {m : Nat} {f : V → Bool} (h : ∀ v, f v = true → vb m v = true) {v : V} (e : vbU m f v = true) : vb m v = true := by
  unfold vbU at e
  split at e
  · simp [vb]
  · simp [vb]
  · simp only [vb]; exact vbL_of h e
  · simp only [vb]; exact e
  · simp [vb]
  · exact e
noncomputable def vbF (m : Nat) (v : V) : Bool := vbU m (vbU m (vbU m (vb m))) v
theorem vbF_of {m : Nat} {v : V} (e : vbF m v = true) : vb m v = true := vbU_of (fun _ => vbU_of (fun _ => vbU_of fun _ h => h)) e

mutual
theorem VR.cut {G G' : St} {m : Nat} (ht : G'.tl = G.tl) (hμ : ∀ (k : Nat) a, k < m → G.μ[k]? = some a → G'.μ[k]? = some a) : ∀ {v : V} {w : Value}, VR G v w → vb m v = true → VR G' v w
  | _, _, .none, _ => .none
  | _, _, .bool b, _ => .bool b
  | _, _, .int i t, _ => .int i t
  | _, _, .str n t, _ => .str n t
  | _, _, .tup h r, e => .tup (by rw [ht]; exact h) (VRs.cut ht hμ r (by simpa [vb] using e))
  | _, _, .ref h, e => .ref (hμ _ _ (by simpa [vb] using e) h)
  | _, _, .ins h k, e => .ins (by rw [ht]; exact h) (hμ _ _ (by simpa [vb] using e) k)
  | _, _, .big h k l, _ => .big h k l
  | _, _, .opq v, _ => .opq v
theorem VRs.cut {G G' : St} {m : Nat} (ht : G'.tl = G.tl) (hμ : ∀ (k : Nat) a, k < m → G.μ[k]? = some a → G'.μ[k]? = some a) : ∀ {v : List V} {w : List Value}, VRs G v w → vbs m v = true → VRs G' v w
  | _, _, .nil, _ => .nil
  | v :: vs, _, .cons h r, e => by
    simp only [vbs, Bool.and_eq_true] at e
    exact .cons (VR.cut ht hμ h e.1) (VRs.cut ht hμ r e.2)
end
noncomputable def aob (m : Nat) (o : AO) : Bool := match o with
  | .lst vs => vbL (vbF m) vs
  | .cell v => (match v with | some v => vbF m v | none => true)
  | .dct fs => List.rec (motive := fun _ => Bool) true (fun p _ ih => match vbF m p.2 with | true => ih | false => false) fs
  | .rim => true
theorem aob_dct {m : Nat} : ∀ {fs : List (Nat × V)}, List.rec (motive := fun _ => Bool) true (fun p _ ih => match vbF m p.2 with | true => ih | false => false) fs = true → ∀ x v, fs.lookup x = some v → vb m v = true
  | [], _, x, v, e => by simp at e
  | p :: r, h, x, v, e => by
    have h : (match vbF m p.2 with | true => List.rec (motive := fun _ => Bool) true (fun p _ ih => match vbF m p.2 with | true => ih | false => false) r | false => false) = true := h
    split at h
    · rename_i q
      rw [List.lookup_cons] at e
      split at e
      · cases e; exact vbF_of q
      · exact aob_dct h x v e
    · cases h
theorem OR.cut {G G' : St} {m : Nat} {h : Heap} {a : Addr} {o : AO} (ht : G'.tl = G.tl) (hμ : ∀ (k : Nat) a, k < m → G.μ[k]? = some a → G'.μ[k]? = some a) (x : OR G h a o) (e : aob m o = true) : OR G' h a o := by
  unfold aob at e
  cases x with
  | lst h1 r => exact .lst h1 (r.cut ht hμ (vbL_of (fun _ => vbF_of) e))
  | cell0 h1 => exact .cell0 h1
  | cell h1 r => exact .cell h1 (r.cut ht hμ (vbF_of e))
  | dct h1 hk hn r => exact .dct h1 hk hn fun x v q => let ⟨w, p, z⟩ := r x v q; ⟨w, p, z.cut ht hμ (aob_dct e x v q)⟩
  | rim h1 b c d => exact .rim h1 b c d

noncomputable def tkF (m : Nat) (σ : List AO) (r : Nat) (k : List AO → Bool) : Bool := List.rec (motive := fun _ => Nat → (List AO → Bool) → Bool) (fun _ k => k []) (fun o _ ih r k => Nat.rec (motive := fun _ => Bool) (k []) (fun r' _ => match aob m o with | true => ih r' (fun t => k (o :: t)) | false => false) r) σ r k
theorem tkF_of {m : Nat} : ∀ {σ : List AO} {r : Nat} {k : List AO → Bool}, tkF m σ r k = true → k (σ.take r) = true ∧ ∀ (i : Nat) o, i < r → σ[i]? = some o → aob m o = true
  | [], r, k, h => ⟨by cases r <;> exact h, fun i o _ e => by simp at e⟩
  | o :: t, 0, k, h => ⟨h, fun i o hi _ => by omega⟩
  | o :: t, r + 1, k, h => by
    have h : (match aob m o with | true => tkF m t r (fun t => k (o :: t)) | false => false) = true := h
    split at h
    · rename_i q
      obtain ⟨h1, h2⟩ := tkF_of h
      refine ⟨h1, fun i o' hi e => ?_⟩
      cases i with
      | zero => cases e; exact q
      | succ i => exact h2 i o' (by omega) e
    · cases h
noncomputable def lkF (m : Nat) (ks : List Bool) (loc : Loc) (k : Loc → Bool) : Bool := List.rec (motive := fun _ => List Bool → (Loc → Bool) → Bool) (fun _ k => k []) (fun o _ ih ks k => match ks with
    | [] => false
    | b :: ks => (match b with
      | true => ih ks (fun t => k (none :: t))
      | false => (match o with
        | none => ih ks (fun t => k (none :: t))
        | some v => (match vbF m v with | true => ih ks (fun t => k (some v :: t)) | false => false)))) loc ks k
theorem lkF_of {m : Nat} : ∀ {loc : Loc} {ks : List Bool} {k : Loc → Bool}, lkF m ks loc k = true → ∃ loc2, k loc2 = true ∧ ∀ (i : Nat) v, lget loc2 i = some v → lget loc i = some v ∧ vb m v = true
  | [], ks, k, h => ⟨[], h, fun i v e => by cases i <;> cases e⟩
  | o :: t, [], k, h => by cases h
  | o :: t, b :: ks, k, h => by
    cases b with
    | true =>
      obtain ⟨l2, h1, h2⟩ := lkF_of (loc := t) (ks := ks) (k := fun t => k (none :: t)) h
      refine ⟨none :: l2, h1, fun i v e => ?_⟩
      cases i with
      | zero => cases e
      | succ i => exact h2 i v e
    | false =>
      cases o with
      | none =>
        obtain ⟨l2, h1, h2⟩ := lkF_of (loc := t) (ks := ks) (k := fun t => k (none :: t)) h
        refine ⟨none :: l2, h1, fun i v e => ?_⟩
        cases i with
        | zero => cases e
        | succ i => exact h2 i v e
      | some u =>
        have h : (match vbF m u with | true => lkF m ks t (fun t => k (some u :: t)) | false => false) = true := h
        split at h
        · rename_i q
          obtain ⟨l2, h1, h2⟩ := lkF_of (loc := t) (ks := ks) (k := fun t => k (some u :: t)) h
          refine ⟨some u :: l2, h1, fun i v e => ?_⟩
          cases i with
          | zero => cases e; exact ⟨rfl, vbF_of q⟩
          | succ i => exact h2 i v e
        · cases h
noncomputable def lenT {α : Type} (l : List α) : Nat := List.rec (motive := fun _ => Nat) 0 (fun _ _ ih => Nat.add ih 1) l
theorem lenT_eq {α : Type} (l : List α) : lenT l = l.length := by
  induction l with
  | nil => rfl
  | cons a r ih => show lenT r + 1 = _; rw [ih]; rfl
/-- a statement behind which only what stood ahead of it is kept -/
noncomputable def ctr (ks : List Bool) (c : CS) : CS := fun loc cel σ n k x => c loc cel σ (fun loc1 σ1 => lkF (lenT σ) ks loc1 (fun loc2 => tkF (lenT σ) σ1 (lenT σ) (fun σ2 => n loc2 σ2))) k x
theorem Wd.cut {D : Dt} {h : Heap} {G : St} {F : Fx} {μ l : List Addr} (W : Wd D h G F) (hμ : G.μ = μ ++ l) (he : ∀ (i : Nat) o, i < μ.length → G.σ[i]? = some o → aob μ.length o = true) : Wd D h { G with σ := G.σ.take μ.length, μ := μ } F := by
  have hget : ∀ (k : Nat) (a : Addr), k < μ.length → G.μ[k]? = some a → μ[k]? = some a := fun k a hk e => by rw [hμ, List.getElem?_append_left hk] at e; exact e
  have sub : ∀ a, a ∈ dom { G with σ := G.σ.take μ.length, μ := μ } F → a ∈ dom G F := fun a ha => by
    unfold dom at ha ⊢
    rw [hμ]
    simp only [List.mem_append] at ha ⊢
    rcases ha with h1 | h2 | h3
    · exact .inl h1
    · exact .inr (.inl (.inl h2))
    · exact .inr (.inr h3)
  have hlen : μ.length ≤ G.σ.length := by rw [← W.len, hμ]; simp
  refine ⟨W.keep, by show μ.length = (G.σ.take μ.length).length; simp [hlen], ?_, fun a ha => W.new a (sub a ha), W.tl, W.pr, W.fr, ?_, W.fe, W.tab⟩
  · refine List.Nodup.sublist ?_ W.nd
    unfold dom
    rw [hμ]
    exact (List.Sublist.refl _).append ((List.sublist_append_left _ _).append (List.Sublist.refl _))
  · intro k o ho
    have ho : (G.σ.take μ.length)[k]? = some o := ho
    rw [List.getElem?_take] at ho
    split at ho
    · rename_i hk
      obtain ⟨a, h1, h2⟩ := W.ob k o ho
      exact ⟨a, hget _ _ hk h1, OR.cut (G := G) (G' := { G with σ := G.σ.take μ.length, μ := μ }) rfl hget h2 (he k o hk ho)⟩
    · cases ho
theorem ss_tr {Γ : Ctx} {b : Nat} (ks : List Bool) {st : PySem.Stmt} {c : CS} (h1 : SS Γ b st c) : SS Γ b st (ctr ks c) := fun {D A env s G F loc cel n k x Q E} h hc hn hr hx => by
  refine h1 h hc (fun s' G' F' loc' c' f' a' l' m' => ?_) hr hx
  have c' : lkF (lenT G.σ) ks loc' (fun loc2 => tkF (lenT G.σ) G'.σ (lenT G.σ) (fun σ2 => n loc2 σ2)) = true := c'
  rw [lenT_eq, ← h.w.len] at c'
  obtain ⟨loc2, c2, hl2⟩ := lkF_of c'
  obtain ⟨c3, ho⟩ := tkF_of c2
  obtain ⟨l, hμ⟩ := l'.μ
  have W2 := a'.w.cut hμ ho
  have L : Le G { G' with σ := G'.σ.take G.μ.length, μ := G.μ } := ⟨l'.tl, [], by simp⟩
  refine hn s' _ F' loc2 c3 f' ⟨a'.a, a'.e, W2, ?_, h.c.mono L, a'.f⟩ L m'
  obtain ⟨m, rest, hf, hl⟩ := a'.l
  refine ⟨m, rest, hf, fun i y v hi hv => ?_⟩
  obtain ⟨q1, q2⟩ := hl2 i v hv
  obtain ⟨w, p1, p2⟩ := hl i y v hi q1
  exact ⟨w, p1, VR.cut (G := G') (G' := { G' with σ := G'.σ.take G.μ.length, μ := G.μ }) rfl (fun k a hk e => by rw [hμ, List.getElem?_append_left hk] at e; exact e) p2 q2⟩
end Mine
open PySem PySem.W PyProof.Rows PySem.Calls PySem.Spec
set_option Elab.async false
set_option maxRecDepth 100000
set_option maxHeartbeats 1000000
set_option linter.unusedSimpArgs false
set_option linter.unusedVariables false
namespace Mine
noncomputable def c_law_shrunk_right : CF := cfun 2 [some 0, none, none, none, none, none, none, none, none] [some 1, none, none, none, none, none, none] (cseq (casg (cbin .Add (cint (.ofNat 1)) (ccall (escons (cloc 0) (escons (cint (.ofNat 6)) (esnil))) c_law_notch)) (gcel 1)) (cseq (casg (ccall (escons (ccel 0) (escons (ctup (escons (cstr 6) (escons (cstr 13) (escons (ctup (esnil)) (esnil))))) (escons (ctup (escons (ccel 1) (esnil))) (escons (ccomp 10 [] 2 false (irng (escons (ccel 1) (esnil))) (gloc 1) (tyes) (cemit (ccall (escons (cbin .Add (cint (.ofNat 10)) (cloc 1)) (esnil)) c_law_int))) (esnil))))) c_made) (gloc 1)) (cseq (ctr [false, false, false, false, false, false, false, false, false] (casg (ctup (escons (cbin .Add (cint (.ofNat 1)) (ccall (escons (cloc 0) (escons (ccel 1) (esnil))) c_law_notch)) (escons (csub (clist (escons (cint (.ofNat 1)) (escons (cint (.ofNat 2)) (escons (cneg (cint (.ofNat 1))) (escons (cneg (cint (.ofNat 2))) (esnil)))))) (ccall (escons (cloc 0) (escons (cint (.ofNat 4)) (esnil))) c_law_notch)) (esnil)))) (gtup 2 (gcons (gcel 3) (gcons (gcel 4) (gnil)))))) (cseq (casgc 10 [3, 1, 4] 2 false (irng (escons (ccel 1) (esnil))) (gloc 1) (tcmp2 .LtE .Lt (cint (.ofNat 0)) (cbin .Add (cbin .Sub (ccel 0) (cint (.ofNat 1))) (cbin .Mult (ccel 2) (cloc 1))) (ccel 1)) (cemit (cbin .Add (cbin .Sub (ccel 0) (cint (.ofNat 1))) (cbin .Mult (ccel 2) (cloc 1)))) (gloc 2)) (cseq (ctr [false, false, false, false, false, false, false, false, false] (casg (ccall (escons (ccel 0) (escons (cloc 1) (escons (clist (escons (ctup (escons (ccel 3) (escons (ccel 4) (escons (cblt (escons (cloc 2) (esnil)) b_len) (esnil))))) (esnil))) (esnil)))) c_view_of) (gcel 6))) (cseq (ctr [true, false, false, false, false, false, false, false, false] (casg (cblt (escons (ccel 1) (escons (ccall (escons (cloc 0) (escons (cint (.ofNat 4)) (esnil))) c_law_notch) (esnil))) b_min) (gloc 3))) (cseq (ctr [true, true, false, false, true, false, false, false, false] (cfor 10 false (irng (escons (cloc 3) (esnil))) (gloc 4) (cseq (cexp (ccall (escons (ccel 0) (escons (cloc 1) (esnil))) c_popped)) (snil)))) (cseq (casg (clist (esnil)) (gloc 5)) (cseq (ctr [true, true, true, true, true, false, true, true, false] (cfor 10 true (ienm (escons (cloc 2) (esnil))) (gtup 2 (gcons (gcel 5) (gcons (gcel 2) (gnil)))) (cseq (casg (ctup (escons (cstr 1) (escons (ctup (escons (ccel 6) (escons (ctup (escons (cstr 8) (escons (ctup (escons (ccall (escons (cbin .Add (ccel 5) (cint (.ofNat 1))) (esnil)) c_law_int) (esnil))) (esnil)))) (esnil)))) (esnil)))) (gloc 6)) (cseq (cexp (capp (cloc 5) (cifx (tcmp .Lt (ccel 2) (cbin .Sub (ccel 1) (cloc 3))) (ccall (escons (cbin .Add (cint (.ofNat 10)) (ccel 2)) (esnil)) c_law_int) (cloc 6)))) (cseq (cif (tcmp .NotEq (cheard [5, 0, 6] (ccall (escons (ccel 1) (escons (ccel 2) (escons (ctup (escons (cbin .Add (ccel 0) (cint (.ofNat 1))) (esnil))) (esnil)))) c_item_at)) (csub (cloc 5) (cneg (cint (.ofNat 1))))) (cseq (cret (cbool false)) (snil)) (snil)) (cseq (casg (cheard [5, 0, 2, 6] (ccall (escons (ccel 1) (escons (ccel 3) (escons (ctup (escons (cbin .Add (ccel 0) (cint (.ofNat 1))) (esnil))) (escons (ccall (escons (cbin .Add (cint (.ofNat 70)) (ccel 2)) (esnil)) c_law_int) (esnil))))) c_set_item)) (gloc 7)) (cseq (cif (tcmp .NotEq (cloc 7) (cifx (tcmp .Lt (ccel 2) (cbin .Sub (ccel 1) (cloc 3))) (cnone) (cloc 6))) (cseq (cret (cbool false)) (snil)) (snil)) (cseq (casg (cifx (tcmp .Is (cloc 7) (cnone)) (ccall (escons (cbin .Add (cint (.ofNat 70)) (ccel 2)) (esnil)) c_law_int) (cloc 6)) (gitem (cloc 5) (cneg (cint (.ofNat 1))))) (cseq (ctr [false, false, false, false, false, false, false, false, false] (cif (tcmp .NotEq (cheard [5, 0, 6] (ccall (escons (ccel 1) (escons (ccel 2) (escons (ctup (escons (cbin .Add (ccel 0) (cint (.ofNat 1))) (esnil))) (esnil)))) c_item_at)) (csub (cloc 5) (cneg (cint (.ofNat 1))))) (cseq (cret (cbool false)) (snil)) (snil))) (snil)))))))))) (cseq (casgc 10 [] 2 false (ival (cloc 5)) (gloc 1) (tcmp .Eq (csub (cloc 1) (cint (.ofNat 0))) (cstr 1)) (cemit (cloc 1)) (gloc 8)) (cseq (cret (ccmp .Eq (cheard [0, 6] (ccall (escons (ccel 0) (escons (ccel 1) (esnil))) c_items_of)) (cifx (tcmp .NotEq (cloc 8) (clist (esnil))) (csub (cloc 8) (cint (.ofNat 0))) (cloc 5)))) (snil))))))))))))
theorem g_law_shrunk_right : Glb "_law_shrunk_right" (.ref 385) := glb_of fun P => by kernel_rfl
theorem k_law_shrunk_right : ∀ P, keepIn (hk P) (.ref 385) = true := fun P => by kernel_rfl
theorem f_law_shrunk_right : SF 9 385 c_law_shrunk_right := by
  refine' sf_intro (b := 8) ["rim", "heap"] ["rim", "row", "places", "gone", "turn", "dues", "fault", "told", "faults"] ["heap", "many", "place", "first", "step", "at", "view"] [some 0, none, none, none, none, none, none, none, none] [some 1, none, none, none, none, none, none] ?hK ?hcd ?hb ?hl ?hbody
  case hK => intro P; rfl
  case hcd => intro P; kernel_rfl
  case hb => intro ws h; match ws, h with | [a0, a1], _ => rfl
  case hl => rfl
  case hbody => exact (@sss_cons _ _ _ _ _ _ (@ss_asg _ _ _ _ _ _ _ (@se_bin _ _ _ _ _ _ _ _ (@ne_int _ _ _ _ _) (@se_callK _ _ _ _ _ _ _ _ _ _ (@SF.le 1 8 _ _ (f_law_notch) rfl) g_law_notch k_law_notch (@nes_cons _ _ _ _ _ _ (@ne_loc _ _ _ _ 0 rfl rfl rfl) (@nes_cons _ _ _ _ _ _ (@ne_int _ _ _ _ _) (@nes_nil _ _) (fun _ => rfl)) (fun _ => rfl)) rfl rfl (fun _ => rfl) (fun _ => rfl))) (@tg_cel _ _ _ _ 1 rfl rfl) (fun _ _ => rfl) (fun _ _ => rfl) (fun _ => rfl)) (@sss_cons _ _ _ _ _ _ (@ss_asg _ _ _ _ _ _ _ (@se_callK _ _ _ _ _ _ _ _ _ _ (@SF.le 6 8 _ _ (f_made) rfl) g_made k_made (@nes_cons _ _ _ _ _ _ (@ne_cell _ _ _ _ 0 rfl (.inl rfl) rfl) (@nes_cons _ _ _ _ _ _ (@ne_tuple _ _ _ _ _ _ (@nes_cons _ _ _ _ _ _ (@ne_str _ _ _ _ _ 6 rfl) (@nes_cons _ _ _ _ _ _ (@ne_str _ _ _ _ _ 13 rfl) (@nes_cons _ _ _ _ _ _ (@ne_tuple _ _ _ _ _ _ (@nes_nil _ _) (Nat.le_of_ble_eq_true rfl)) (@nes_nil _ _) (fun _ => rfl)) (fun _ => rfl)) (fun _ => rfl)) (Nat.le_of_ble_eq_true rfl)) (@nes_cons _ _ _ _ _ _ (@ne_tuple _ _ _ _ _ _ (@nes_cons _ _ _ _ _ _ (@ne_cell _ _ _ _ 1 rfl (.inl rfl) rfl) (@nes_nil _ _) (fun _ => rfl)) (Nat.le_of_ble_eq_true rfl)) (@nes_cons _ _ _ _ _ _ (@se_comp _ _ 10 [] 2 _ _ _ _ _ _ _ _ _ _ _ _ _ [".0", "place"] [] (@si_rng _ _ _ _ _ _ _ g_range (@nes_cons _ _ _ _ _ _ (@ne_cell _ _ _ _ 1 rfl (.inl rfl) rfl) (@nes_nil _ _) (fun _ => rfl)) rfl rfl (fun _ => rfl) (fun _ => rfl)) (@turn_one _ _ _ _ _ _) (@tg_loc _ _ _ _ 1 rfl (by decide +kernel) rfl) (@sif_nil _ _) (@scb_emit _ _ _ _ (@se_callK _ _ _ _ _ _ _ _ _ _ (@SF.le 1 8 _ _ (f_law_int) rfl) g_law_int k_law_int (@nes_cons _ _ _ _ _ _ (@se_bin _ _ _ _ _ _ _ _ (@ne_int _ _ _ _ _) (@ne_loc _ _ _ _ 1 rfl rfl rfl)) (@nes_nil _ _) (fun _ => rfl)) rfl rfl (fun _ => rfl) (fun _ => rfl))) rfl (fun _ _ => rfl) rfl rfl) (@nes_nil _ _) (fun _ => rfl)) (fun _ => rfl)) (fun _ => rfl)) (fun _ => rfl)) rfl rfl (fun _ => rfl) (fun _ => rfl)) (@tg_loc _ _ _ _ 1 rfl (by decide +kernel) rfl) (fun _ _ => rfl) (fun _ _ => rfl) (fun _ => rfl)) (@sss_cons _ _ _ _ _ _ (@ss_tr _ _ [false, false, false, false, false, false, false, false, false] _ _ (@ss_asg _ _ _ _ _ _ _ (@ne_tuple _ _ _ _ _ _ (@nes_cons _ _ _ _ _ _ (@se_bin _ _ _ _ _ _ _ _ (@ne_int _ _ _ _ _) (@se_callK _ _ _ _ _ _ _ _ _ _ (@SF.le 1 8 _ _ (f_law_notch) rfl) g_law_notch k_law_notch (@nes_cons _ _ _ _ _ _ (@ne_loc _ _ _ _ 0 rfl rfl rfl) (@nes_cons _ _ _ _ _ _ (@ne_cell _ _ _ _ 1 rfl (.inl rfl) rfl) (@nes_nil _ _) (fun _ => rfl)) (fun _ => rfl)) rfl rfl (fun _ => rfl) (fun _ => rfl))) (@nes_cons _ _ _ _ _ _ (@se_sub _ _ _ _ _ _ _ (@ne_list _ _ _ _ _ (@nes_cons _ _ _ _ _ _ (@ne_int _ _ _ _ _) (@nes_cons _ _ _ _ _ _ (@ne_int _ _ _ _ _) (@nes_cons _ _ _ _ _ _ (@se_neg _ _ _ _ _ (@ne_int _ _ _ _ _)) (@nes_cons _ _ _ _ _ _ (@se_neg _ _ _ _ _ (@ne_int _ _ _ _ _)) (@nes_nil _ _) (fun _ => rfl)) (fun _ => rfl)) (fun _ => rfl)) (fun _ => rfl))) (@se_callK _ _ _ _ _ _ _ _ _ _ (@SF.le 1 8 _ _ (f_law_notch) rfl) g_law_notch k_law_notch (@nes_cons _ _ _ _ _ _ (@ne_loc _ _ _ _ 0 rfl rfl rfl) (@nes_cons _ _ _ _ _ _ (@ne_int _ _ _ _ _) (@nes_nil _ _) (fun _ => rfl)) (fun _ => rfl)) rfl rfl (fun _ => rfl) (fun _ => rfl)) (fun _ _ => rfl)) (@nes_nil _ _) (fun _ => rfl)) (fun _ => rfl)) (Nat.le_of_ble_eq_true rfl)) (@tg_tup _ _ _ _ _ _ _ (@tgs_cons _ _ _ _ _ _ (@tg_cel _ _ _ _ 3 rfl rfl) (@tgs_cons _ _ _ _ _ _ (@tg_cel _ _ _ _ 4 rfl rfl) (@ntg_nil _ _) (fun _ => rfl)) (fun _ => rfl)) (fun _ => rfl) (fun _ => rfl)) (fun _ _ => rfl) (fun _ h => swap0 h (.inl rfl)) (fun _ => rfl))) (@sss_cons _ _ _ _ _ _ (@ss_asgc _ _ _ 10 [3, 1, 4] 2 _ _ _ _ _ _ _ _ _ _ _ _ _ _ _ [".0", "at"] ["first", "many", "step"] (@si_rng _ _ _ _ _ _ _ g_range (@nes_cons _ _ _ _ _ _ (@ne_cell _ _ _ _ 1 rfl (.inl rfl) rfl) (@nes_nil _ _) (fun _ => rfl)) rfl rfl (fun _ => rfl) (fun _ => rfl)) (@turn_one _ _ _ _ _ _) (@tg_loc _ _ _ _ 1 rfl (by decide +kernel) rfl) (@sif_one _ _ _ _ (@st_cmp2 _ _ _ _ _ _ _ _ _ _ _ (@ne_int _ _ _ _ _) (@se_bin _ _ _ _ _ _ _ _ (@se_bin _ _ _ _ _ _ _ _ (@ne_cell _ _ _ _ 0 rfl (.inl rfl) rfl) (@ne_int _ _ _ _ _)) (@se_bin _ _ _ _ _ _ _ _ (@ne_cell _ _ _ _ 2 rfl (.inl rfl) rfl) (@ne_loc _ _ _ _ 1 rfl rfl rfl))) (@ne_cell _ _ _ _ 1 rfl (.inl rfl) rfl) rfl)) (@scb_emit _ _ _ _ (@se_bin _ _ _ _ _ _ _ _ (@se_bin _ _ _ _ _ _ _ _ (@ne_cell _ _ _ _ 0 rfl (.inl rfl) rfl) (@ne_int _ _ _ _ _)) (@se_bin _ _ _ _ _ _ _ _ (@ne_cell _ _ _ _ 2 rfl (.inl rfl) rfl) (@ne_loc _ _ _ _ 1 rfl rfl rfl)))) rfl (fun _ _ => rfl) rfl rfl (@tg_loc _ _ _ _ 2 rfl (by decide +kernel) rfl) (fun _ h => comp1 h rfl rfl rfl) (fun _ => rfl)) (@sss_cons _ _ _ _ _ _ (@ss_tr _ _ [false, false, false, false, false, false, false, false, false] _ _ (@ss_asg _ _ _ _ _ _ _ (@se_callK _ _ _ _ _ _ _ _ _ _ (@SF.le 6 8 _ _ (f_view_of) rfl) g_view_of k_view_of (@nes_cons _ _ _ _ _ _ (@ne_cell _ _ _ _ 0 rfl (.inl rfl) rfl) (@nes_cons _ _ _ _ _ _ (@ne_loc _ _ _ _ 1 rfl rfl rfl) (@nes_cons _ _ _ _ _ _ (@ne_list _ _ _ _ _ (@nes_cons _ _ _ _ _ _ (@ne_tuple _ _ _ _ _ _ (@nes_cons _ _ _ _ _ _ (@ne_cell _ _ _ _ 3 rfl (.inl rfl) rfl) (@nes_cons _ _ _ _ _ _ (@ne_cell _ _ _ _ 4 rfl (.inl rfl) rfl) (@nes_cons _ _ _ _ _ _ (@ne_blt _ _ _ _ _ _ _ _ _ _ sb_len g_len (@nes_cons _ _ _ _ _ _ (@ne_loc _ _ _ _ 2 rfl rfl rfl) (@nes_nil _ _) (fun _ => rfl)) rfl rfl (fun _ => rfl) (fun _ => rfl)) (@nes_nil _ _) (fun _ => rfl)) (fun _ => rfl)) (fun _ => rfl)) (Nat.le_of_ble_eq_true rfl)) (@nes_nil _ _) (fun _ => rfl))) (@nes_nil _ _) (fun _ => rfl)) (fun _ => rfl)) (fun _ => rfl)) rfl rfl (fun _ => rfl) (fun _ => rfl)) (@tg_cel _ _ _ _ 6 rfl rfl) (fun _ _ => rfl) (fun _ _ => rfl) (fun _ => rfl))) (@sss_cons _ _ _ _ _ _ (@ss_tr _ _ [true, false, false, false, false, false, false, false, false] _ _ (@ss_asg _ _ _ _ _ _ _ (@ne_blt _ _ _ _ _ _ _ _ _ _ sb_min g_min (@nes_cons _ _ _ _ _ _ (@ne_cell _ _ _ _ 1 rfl (.inl rfl) rfl) (@nes_cons _ _ _ _ _ _ (@se_callK _ _ _ _ _ _ _ _ _ _ (@SF.le 1 8 _ _ (f_law_notch) rfl) g_law_notch k_law_notch (@nes_cons _ _ _ _ _ _ (@ne_loc _ _ _ _ 0 rfl rfl rfl) (@nes_cons _ _ _ _ _ _ (@ne_int _ _ _ _ _) (@nes_nil _ _) (fun _ => rfl)) (fun _ => rfl)) rfl rfl (fun _ => rfl) (fun _ => rfl)) (@nes_nil _ _) (fun _ => rfl)) (fun _ => rfl)) rfl rfl (fun _ => rfl) (fun _ => rfl)) (@tg_loc _ _ _ _ 3 rfl (by decide +kernel) rfl) (fun _ _ => rfl) (fun _ _ => rfl) (fun _ => rfl))) (@sss_cons _ _ _ _ _ _ (@ss_tr _ _ [true, true, false, false, true, false, false, false, false] _ _ (@ss_for _ _ _ 10 _ _ _ _ _ _ _ (@si_rng _ _ _ _ _ _ _ g_range (@nes_cons _ _ _ _ _ _ (@ne_loc _ _ _ _ 3 rfl rfl rfl) (@nes_nil _ _) (fun _ => rfl)) rfl rfl (fun _ => rfl) (fun _ => rfl)) (@tg_loc _ _ _ _ 4 rfl (by decide +kernel) rfl) (@sss_cons _ _ _ _ _ _ (@ss_exp _ _ _ _ _ (@se_callK _ _ _ _ _ _ _ _ _ _ (@SF.le 4 8 _ _ (f_popped) rfl) g_popped k_popped (@nes_cons _ _ _ _ _ _ (@ne_cell _ _ _ _ 0 rfl (.inl rfl) rfl) (@nes_cons _ _ _ _ _ _ (@ne_loc _ _ _ _ 1 rfl rfl rfl) (@nes_nil _ _) (fun _ => rfl)) (fun _ => rfl)) rfl rfl (fun _ => rfl) (fun _ => rfl)) (fun _ h => notInteractive h) (fun _ => rfl)) (@nss_nil _ _)) rfl (fun _ _ => rfl))) (@sss_cons _ _ _ _ _ _ (@ss_asg _ _ _ _ _ _ _ (@ne_list _ _ _ _ _ (@nes_nil _ _)) (@tg_loc _ _ _ _ 5 rfl (by decide +kernel) rfl) (fun _ _ => rfl) (fun _ _ => rfl) (fun _ => rfl)) (@sss_cons _ _ _ _ _ _ (@ss_tr _ _ [true, true, true, true, true, false, true, true, false] _ _ (@ss_for _ _ _ 10 _ _ _ _ _ _ _ (@si_enm _ _ _ _ _ _ _ g_enumerate (@nes_cons _ _ _ _ _ _ (@ne_loc _ _ _ _ 2 rfl rfl rfl) (@nes_nil _ _) (fun _ => rfl)) rfl rfl (fun _ => rfl) (fun _ => rfl)) (@tg_tup _ _ _ _ _ _ _ (@tgs_cons _ _ _ _ _ _ (@tg_cel _ _ _ _ 5 rfl rfl) (@tgs_cons _ _ _ _ _ _ (@tg_cel _ _ _ _ 2 rfl rfl) (@ntg_nil _ _) (fun _ => rfl)) (fun _ => rfl)) (fun _ => rfl) (fun _ => rfl)) (@sss_cons _ _ _ _ _ _ (@ss_asg _ _ _ _ _ _ _ (@ne_tuple _ _ _ _ _ _ (@nes_cons _ _ _ _ _ _ (@ne_str _ _ _ _ _ 1 rfl) (@nes_cons _ _ _ _ _ _ (@ne_tuple _ _ _ _ _ _ (@nes_cons _ _ _ _ _ _ (@ne_cell _ _ _ _ 6 rfl (.inl rfl) rfl) (@nes_cons _ _ _ _ _ _ (@ne_tuple _ _ _ _ _ _ (@nes_cons _ _ _ _ _ _ (@ne_str _ _ _ _ _ 8 rfl) (@nes_cons _ _ _ _ _ _ (@ne_tuple _ _ _ _ _ _ (@nes_cons _ _ _ _ _ _ (@se_callK _ _ _ _ _ _ _ _ _ _ (@SF.le 1 8 _ _ (f_law_int) rfl) g_law_int k_law_int (@nes_cons _ _ _ _ _ _ (@se_bin _ _ _ _ _ _ _ _ (@ne_cell _ _ _ _ 5 rfl (.inl rfl) rfl) (@ne_int _ _ _ _ _)) (@nes_nil _ _) (fun _ => rfl)) rfl rfl (fun _ => rfl) (fun _ => rfl)) (@nes_nil _ _) (fun _ => rfl)) (Nat.le_of_ble_eq_true rfl)) (@nes_nil _ _) (fun _ => rfl)) (fun _ => rfl)) (Nat.le_of_ble_eq_true rfl)) (@nes_nil _ _) (fun _ => rfl)) (fun _ => rfl)) (Nat.le_of_ble_eq_true rfl)) (@nes_nil _ _) (fun _ => rfl)) (fun _ => rfl)) (Nat.le_of_ble_eq_true rfl)) (@tg_loc _ _ _ _ 6 rfl (by decide +kernel) rfl) (fun _ _ => rfl) (fun _ _ => rfl) (fun _ => rfl)) (@sss_cons _ _ _ _ _ _ (@ss_exp _ _ _ _ _ (@se_app _ _ _ _ _ _ _ _ (@ne_loc _ _ _ _ 5 rfl rfl rfl) (@se_if _ _ _ _ _ _ _ _ _ (@st_cmp _ _ _ _ _ _ _ _ (@ne_cell _ _ _ _ 2 rfl (.inl rfl) rfl) (@se_bin _ _ _ _ _ _ _ _ (@ne_cell _ _ _ _ 1 rfl (.inl rfl) rfl) (@ne_loc _ _ _ _ 3 rfl rfl rfl)) rfl) (@se_callK _ _ _ _ _ _ _ _ _ _ (@SF.le 1 8 _ _ (f_law_int) rfl) g_law_int k_law_int (@nes_cons _ _ _ _ _ _ (@se_bin _ _ _ _ _ _ _ _ (@ne_int _ _ _ _ _) (@ne_cell _ _ _ _ 2 rfl (.inl rfl) rfl)) (@nes_nil _ _) (fun _ => rfl)) rfl rfl (fun _ => rfl) (fun _ => rfl)) (@ne_loc _ _ _ _ 6 rfl rfl rfl)) (fun _ => rfl) (fun _ => rfl) rfl) (fun _ h => notInteractive h) (fun _ => rfl)) (@sss_cons _ _ _ _ _ _ (@ss_if _ _ _ _ _ _ _ _ _ (@st_cmp _ _ _ _ _ _ _ _ (@se_heard _ 6 _ _ _ [5, 0, 6] _ _ _ _ _ ["at", "heap", "view"] _ rfl (by decide : (384, 382) ∈ tabs) (@se_callK _ _ _ _ _ _ _ _ _ _ (@SF.le 6 6 _ _ (f_item_at) rfl) g_item_at k_item_at (@nes_cons _ _ _ _ _ _ (@ne_cell _ _ _ _ 1 rfl (.inr ⟨rfl, rfl⟩) rfl) (@nes_cons _ _ _ _ _ _ (@ne_cell _ _ _ _ 2 rfl (.inr ⟨rfl, rfl⟩) rfl) (@nes_cons _ _ _ _ _ _ (@ne_tuple _ _ _ _ _ _ (@nes_cons _ _ _ _ _ _ (@se_bin _ _ _ _ _ _ _ _ (@ne_cell _ _ _ _ 0 rfl (.inr ⟨rfl, rfl⟩) rfl) (@ne_int _ _ _ _ _)) (@nes_nil _ _) (fun _ => rfl)) (Nat.le_of_ble_eq_true rfl)) (@nes_nil _ _) (fun _ => rfl)) (fun _ => rfl)) (fun _ => rfl)) rfl rfl (fun _ => rfl) (fun _ => rfl)) rfl rfl (fun _ => rfl) rfl rfl rfl (fun _ _ _ _ _ => rfl)) (@se_sub _ _ _ _ _ _ _ (@ne_loc _ _ _ _ 5 rfl rfl rfl) (@se_neg _ _ _ _ _ (@ne_int _ _ _ _ _)) (fun _ _ => rfl)) rfl) (@sss_cons _ _ _ _ _ _ (@ss_ret _ _ _ _ _ (@ne_bool _ _ _ _ _)) (@nss_nil _ _)) (@nss_nil _ _)) (@sss_cons _ _ _ _ _ _ (@ss_asg _ _ _ _ _ _ _ (@se_heard _ 6 _ _ _ [5, 0, 2, 6] _ _ _ _ _ ["at", "heap", "place", "view"] _ rfl (by decide : (384, 382) ∈ tabs) (@se_callK _ _ _ _ _ _ _ _ _ _ (@SF.le 6 6 _ _ (f_set_item) rfl) g_set_item k_set_item (@nes_cons _ _ _ _ _ _ (@ne_cell _ _ _ _ 1 rfl (.inr ⟨rfl, rfl⟩) rfl) (@nes_cons _ _ _ _ _ _ (@ne_cell _ _ _ _ 3 rfl (.inr ⟨rfl, rfl⟩) rfl) (@nes_cons _ _ _ _ _ _ (@ne_tuple _ _ _ _ _ _ (@nes_cons _ _ _ _ _ _ (@se_bin _ _ _ _ _ _ _ _ (@ne_cell _ _ _ _ 0 rfl (.inr ⟨rfl, rfl⟩) rfl) (@ne_int _ _ _ _ _)) (@nes_nil _ _) (fun _ => rfl)) (Nat.le_of_ble_eq_true rfl)) (@nes_cons _ _ _ _ _ _ (@se_callK _ _ _ _ _ _ _ _ _ _ (@SF.le 1 6 _ _ (f_law_int) rfl) g_law_int k_law_int (@nes_cons _ _ _ _ _ _ (@se_bin _ _ _ _ _ _ _ _ (@ne_int _ _ _ _ _) (@ne_cell _ _ _ _ 2 rfl (.inr ⟨rfl, rfl⟩) rfl)) (@nes_nil _ _) (fun _ => rfl)) rfl rfl (fun _ => rfl) (fun _ => rfl)) (@nes_nil _ _) (fun _ => rfl)) (fun _ => rfl)) (fun _ => rfl)) (fun _ => rfl)) rfl rfl (fun _ => rfl) (fun _ => rfl)) rfl rfl (fun _ => rfl) rfl rfl rfl (fun _ _ _ _ _ => rfl)) (@tg_loc _ _ _ _ 7 rfl (by decide +kernel) rfl) (fun _ _ => rfl) (fun _ _ => rfl) (fun _ => rfl)) (@sss_cons _ _ _ _ _ _ (@ss_if _ _ _ _ _ _ _ _ _ (@st_cmp _ _ _ _ _ _ _ _ (@ne_loc _ _ _ _ 7 rfl rfl rfl) (@se_if _ _ _ _ _ _ _ _ _ (@st_cmp _ _ _ _ _ _ _ _ (@ne_cell _ _ _ _ 2 rfl (.inl rfl) rfl) (@se_bin _ _ _ _ _ _ _ _ (@ne_cell _ _ _ _ 1 rfl (.inl rfl) rfl) (@ne_loc _ _ _ _ 3 rfl rfl rfl)) rfl) (@ne_none _ _ _ _) (@ne_loc _ _ _ _ 6 rfl rfl rfl)) rfl) (@sss_cons _ _ _ _ _ _ (@ss_ret _ _ _ _ _ (@ne_bool _ _ _ _ _)) (@nss_nil _ _)) (@nss_nil _ _)) (@sss_cons _ _ _ _ _ _ (@ss_asg _ _ _ _ _ _ _ (@se_if _ _ _ _ _ _ _ _ _ (@st_cmp _ _ _ _ _ _ _ _ (@ne_loc _ _ _ _ 7 rfl rfl rfl) (@ne_none _ _ _ _) rfl) (@se_callK _ _ _ _ _ _ _ _ _ _ (@SF.le 1 8 _ _ (f_law_int) rfl) g_law_int k_law_int (@nes_cons _ _ _ _ _ _ (@se_bin _ _ _ _ _ _ _ _ (@ne_int _ _ _ _ _) (@ne_cell _ _ _ _ 2 rfl (.inl rfl) rfl)) (@nes_nil _ _) (fun _ => rfl)) rfl rfl (fun _ => rfl) (fun _ => rfl)) (@ne_loc _ _ _ _ 6 rfl rfl rfl)) (@tg_item _ _ _ _ _ _ _ (@ne_loc _ _ _ _ 5 rfl rfl rfl) (@se_neg _ _ _ _ _ (@ne_int _ _ _ _ _))) (fun _ _ => rfl) (fun _ _ => rfl) (fun _ => rfl)) (@sss_cons _ _ _ _ _ _ (@ss_tr _ _ [false, false, false, false, false, false, false, false, false] _ _ (@ss_if _ _ _ _ _ _ _ _ _ (@st_cmp _ _ _ _ _ _ _ _ (@se_heard _ 6 _ _ _ [5, 0, 6] _ _ _ _ _ ["at", "heap", "view"] _ rfl (by decide : (384, 382) ∈ tabs) (@se_callK _ _ _ _ _ _ _ _ _ _ (@SF.le 6 6 _ _ (f_item_at) rfl) g_item_at k_item_at (@nes_cons _ _ _ _ _ _ (@ne_cell _ _ _ _ 1 rfl (.inr ⟨rfl, rfl⟩) rfl) (@nes_cons _ _ _ _ _ _ (@ne_cell _ _ _ _ 2 rfl (.inr ⟨rfl, rfl⟩) rfl) (@nes_cons _ _ _ _ _ _ (@ne_tuple _ _ _ _ _ _ (@nes_cons _ _ _ _ _ _ (@se_bin _ _ _ _ _ _ _ _ (@ne_cell _ _ _ _ 0 rfl (.inr ⟨rfl, rfl⟩) rfl) (@ne_int _ _ _ _ _)) (@nes_nil _ _) (fun _ => rfl)) (Nat.le_of_ble_eq_true rfl)) (@nes_nil _ _) (fun _ => rfl)) (fun _ => rfl)) (fun _ => rfl)) rfl rfl (fun _ => rfl) (fun _ => rfl)) rfl rfl (fun _ => rfl) rfl rfl rfl (fun _ _ _ _ _ => rfl)) (@se_sub _ _ _ _ _ _ _ (@ne_loc _ _ _ _ 5 rfl rfl rfl) (@se_neg _ _ _ _ _ (@ne_int _ _ _ _ _)) (fun _ _ => rfl)) rfl) (@sss_cons _ _ _ _ _ _ (@ss_ret _ _ _ _ _ (@ne_bool _ _ _ _ _)) (@nss_nil _ _)) (@nss_nil _ _))) (@nss_nil _ _)))))))) rfl (fun _ _ => rfl))) (@sss_cons _ _ _ _ _ _ (@ss_asgc _ _ _ 10 [] 2 _ _ _ _ _ _ _ _ _ _ _ _ _ _ _ [".0", "due"] [] (@si_val _ _ _ _ (@ne_loc _ _ _ _ 5 rfl rfl rfl)) (@turn_one _ _ _ _ _ _) (@tg_loc _ _ _ _ 1 rfl (by decide +kernel) rfl) (@sif_one _ _ _ _ (@st_cmp _ _ _ _ _ _ _ _ (@se_sub _ _ _ _ _ _ _ (@ne_loc _ _ _ _ 1 rfl rfl rfl) (@ne_int _ _ _ _ _) (fun _ _ => rfl)) (@ne_str _ _ _ _ _ 1 rfl) rfl)) (@scb_emit _ _ _ _ (@ne_loc _ _ _ _ 1 rfl rfl rfl)) rfl (fun _ _ => rfl) rfl rfl (@tg_loc _ _ _ _ 8 rfl (by decide +kernel) rfl) (fun _ h => comp1 h rfl rfl rfl) (fun _ => rfl)) (@sss_cons _ _ _ _ _ _ (@ss_ret _ _ _ _ _ (@se_cmp _ _ _ _ _ _ _ _ (@se_heard _ 6 _ _ _ [0, 6] _ _ _ _ _ ["heap", "view"] _ rfl (by decide : (384, 382) ∈ tabs) (@se_callK _ _ _ _ _ _ _ _ _ _ (@SF.le 6 6 _ _ (f_items_of) rfl) g_items_of k_items_of (@nes_cons _ _ _ _ _ _ (@ne_cell _ _ _ _ 0 rfl (.inr ⟨rfl, rfl⟩) rfl) (@nes_cons _ _ _ _ _ _ (@ne_cell _ _ _ _ 1 rfl (.inr ⟨rfl, rfl⟩) rfl) (@nes_nil _ _) (fun _ => rfl)) (fun _ => rfl)) rfl rfl (fun _ => rfl) (fun _ => rfl)) rfl rfl (fun _ => rfl) rfl rfl rfl (fun _ _ _ _ _ => rfl)) (@se_if _ _ _ _ _ _ _ _ _ (@st_cmp _ _ _ _ _ _ _ _ (@ne_loc _ _ _ _ 8 rfl rfl rfl) (@ne_list _ _ _ _ _ (@nes_nil _ _)) rfl) (@se_sub _ _ _ _ _ _ _ (@ne_loc _ _ _ _ 8 rfl rfl rfl) (@ne_int _ _ _ _ _) (fun _ _ => rfl)) (@ne_loc _ _ _ _ 5 rfl rfl rfl)) rfl)) (@nss_nil _ _))))))))))))
noncomputable def c_law_sizes_right : CF := cfun 1 [none, none, none] [some 0, none, none] (cseq (casg (clist (escons (cint (.ofNat 0)) (escons (cint (.ofNat 1)) (escons (cint (.ofNat 2)) (escons (cint (.ofNat 3)) (escons (cint (.ofNat 200)) (escons (cint (.ofNat 20000)) (escons (cbin .Pow (cint (.ofNat 10)) (cint (.ofNat 12))) (escons (cneg (cint (.ofNat 1))) (esnil)))))))))) (gcel 1)) (cseq (casg (cblt (escons (ccomp 10 [0, 1] 2 false (irng (escons (cbin .Add (cint (.ofNat 1)) (ccall (escons (ccel 0) (escons (cint (.ofNat 3)) (esnil))) c_law_notch)) (esnil))) (gloc 1) (tyes) (cemit (csub (ccel 1) (ccall (escons (ccel 0) (escons (cint (.ofNat 8)) (esnil))) c_law_notch)))) (esnil)) b_tuple) (gcel 2)) (cseq (casg (cint (.ofNat 1)) (gloc 0)) (cseq (cfor 10 false (ival (ccel 2)) (gloc 1) (cseq (casg (cbin .Mult (cloc 0) (cifx (tcmp .Gt (cloc 1) (cint (.ofNat 0))) (cloc 1) (cint (.ofNat 1)))) (gloc 0)) (snil))) (cseq (casg (cheard [2] (ccall (escons (ccel 0) (esnil)) c_check_sizes)) (gloc 2)) (cseq (cif (tor (tcmp .In (cneg (cint (.ofNat 1))) (ccel 2)) (tor (tcmp .Gt (cloc 0) (cint (.ofNat 20000))) (corn))) (cseq (cret (candv (ccmp .IsNot (cloc 2) (cnone)) (ccmp .Eq (csub (cloc 2) (cint (.ofNat 0))) (cstr 0)))) (snil)) (snil)) (cseq (cret (ccmp .Is (cloc 2) (cnone))) (snil))))))))
theorem g_law_sizes_right : Glb "_law_sizes_right" (.ref 390) := glb_of fun P => by kernel_rfl
theorem k_law_sizes_right : ∀ P, keepIn (hk P) (.ref 390) = true := fun P => by kernel_rfl
theorem f_law_sizes_right : SF 8 390 c_law_sizes_right := by
  refine' sf_intro (b := 7) ["rim"] ["room", "size", "told"] ["rim", "some", "sizes"] [none, none, none] [some 0, none, none] ?hK ?hcd ?hb ?hl ?hbody
  case hK => intro P; rfl
  case hcd => intro P; kernel_rfl
  case hb => intro ws h; match ws, h with | [a0], _ => rfl
  case hl => rfl
  case hbody => exact (@sss_cons _ _ _ _ _ _ (@ss_asg _ _ _ _ _ _ _ (@ne_list _ _ _ _ _ (@nes_cons _ _ _ _ _ _ (@ne_int _ _ _ _ _) (@nes_cons _ _ _ _ _ _ (@ne_int _ _ _ _ _) (@nes_cons _ _ _ _ _ _ (@ne_int _ _ _ _ _) (@nes_cons _ _ _ _ _ _ (@ne_int _ _ _ _ _) (@nes_cons _ _ _ _ _ _ (@ne_int _ _ _ _ _) (@nes_cons _ _ _ _ _ _ (@ne_int _ _ _ _ _) (@nes_cons _ _ _ _ _ _ (@se_bin _ _ _ _ _ _ _ _ (@ne_int _ _ _ _ _) (@ne_int _ _ _ _ _)) (@nes_cons _ _ _ _ _ _ (@se_neg _ _ _ _ _ (@ne_int _ _ _ _ _)) (@nes_nil _ _) (fun _ => rfl)) (fun _ => rfl)) (fun _ => rfl)) (fun _ => rfl)) (fun _ => rfl)) (fun _ => rfl)) (fun _ => rfl)) (fun _ => rfl))) (@tg_cel _ _ _ _ 1 rfl rfl) (fun _ _ => rfl) (fun _ _ => rfl) (fun _ => rfl)) (@sss_cons _ _ _ _ _ _ (@ss_asg _ _ _ _ _ _ _ (@ne_typ _ _ _ _ _ _ _ _ _ _ sb_tuple g_tuple (@nes_cons _ _ _ _ _ _ (@se_comp _ _ 10 [0, 1] 2 _ _ _ _ _ _ _ _ _ _ _ _ _ [".0", "rank"] ["rim", "some"] (@si_rng _ _ _ _ _ _ _ g_range (@nes_cons _ _ _ _ _ _ (@se_bin _ _ _ _ _ _ _ _ (@ne_int _ _ _ _ _) (@se_callK _ _ _ _ _ _ _ _ _ _ (@SF.le 1 7 _ _ (f_law_notch) rfl) g_law_notch k_law_notch (@nes_cons _ _ _ _ _ _ (@ne_cell _ _ _ _ 0 rfl (.inl rfl) rfl) (@nes_cons _ _ _ _ _ _ (@ne_int _ _ _ _ _) (@nes_nil _ _) (fun _ => rfl)) (fun _ => rfl)) rfl rfl (fun _ => rfl) (fun _ => rfl))) (@nes_nil _ _) (fun _ => rfl)) rfl rfl (fun _ => rfl) (fun _ => rfl)) (@turn_one _ _ _ _ _ _) (@tg_loc _ _ _ _ 1 rfl (by decide +kernel) rfl) (@sif_nil _ _) (@scb_emit _ _ _ _ (@se_sub _ _ _ _ _ _ _ (@ne_cell _ _ _ _ 1 rfl (.inl rfl) rfl) (@se_callK _ _ _ _ _ _ _ _ _ _ (@SF.le 1 7 _ _ (f_law_notch) rfl) g_law_notch k_law_notch (@nes_cons _ _ _ _ _ _ (@ne_cell _ _ _ _ 0 rfl (.inl rfl) rfl) (@nes_cons _ _ _ _ _ _ (@ne_int _ _ _ _ _) (@nes_nil _ _) (fun _ => rfl)) (fun _ => rfl)) rfl rfl (fun _ => rfl) (fun _ => rfl)) (fun _ _ => rfl))) rfl (fun _ _ => rfl) rfl rfl) (@nes_nil _ _) (fun _ => rfl)) rfl rfl (fun _ => rfl) (fun _ => rfl)) (@tg_cel _ _ _ _ 2 rfl rfl) (fun _ _ => rfl) (fun _ _ => rfl) (fun _ => rfl)) (@sss_cons _ _ _ _ _ _ (@ss_asg _ _ _ _ _ _ _ (@ne_int _ _ _ _ _) (@tg_loc _ _ _ _ 0 rfl (by decide +kernel) rfl) (fun _ _ => rfl) (fun _ _ => rfl) (fun _ => rfl)) (@sss_cons _ _ _ _ _ _ (@ss_for _ _ _ 10 _ _ _ _ _ _ _ (@si_val _ _ _ _ (@ne_cell _ _ _ _ 2 rfl (.inl rfl) rfl)) (@tg_loc _ _ _ _ 1 rfl (by decide +kernel) rfl) (@sss_cons _ _ _ _ _ _ (@ss_asg _ _ _ _ _ _ _ (@se_bin _ _ _ _ _ _ _ _ (@ne_loc _ _ _ _ 0 rfl rfl rfl) (@se_if _ _ _ _ _ _ _ _ _ (@st_cmp _ _ _ _ _ _ _ _ (@ne_loc _ _ _ _ 1 rfl rfl rfl) (@ne_int _ _ _ _ _) rfl) (@ne_loc _ _ _ _ 1 rfl rfl rfl) (@ne_int _ _ _ _ _))) (@tg_loc _ _ _ _ 0 rfl (by decide +kernel) rfl) (fun _ _ => rfl) (fun _ _ => rfl) (fun _ => rfl)) (@nss_nil _ _)) rfl (fun _ _ => rfl)) (@sss_cons _ _ _ _ _ _ (@ss_asg _ _ _ _ _ _ _ (@se_heard _ 5 _ _ _ [2] _ _ _ _ _ ["sizes"] _ rfl (by decide : (389, 387) ∈ tabs) (@se_callK _ _ _ _ _ _ _ _ _ _ (@SF.le 5 5 _ _ (f_check_sizes) rfl) g_check_sizes k_check_sizes (@nes_cons _ _ _ _ _ _ (@ne_cell _ _ _ _ 0 rfl (.inr ⟨rfl, rfl⟩) rfl) (@nes_nil _ _) (fun _ => rfl)) rfl rfl (fun _ => rfl) (fun _ => rfl)) rfl rfl (fun _ => rfl) rfl rfl rfl (fun _ _ _ _ _ => rfl)) (@tg_loc _ _ _ _ 2 rfl (by decide +kernel) rfl) (fun _ _ => rfl) (fun _ _ => rfl) (fun _ => rfl)) (@sss_cons _ _ _ _ _ _ (@ss_if _ _ _ _ _ _ _ _ _ (@st_bool _ _ _ _ _ _ (@sts_or _ _ _ _ _ _ (@st_cmp _ _ _ _ _ _ _ _ (@se_neg _ _ _ _ _ (@ne_int _ _ _ _ _)) (@ne_cell _ _ _ _ 2 rfl (.inl rfl) rfl) rfl) (@sts_or _ _ _ _ _ _ (@st_cmp _ _ _ _ _ _ _ _ (@ne_loc _ _ _ _ 0 rfl rfl rfl) (@ne_int _ _ _ _ _) rfl) (@nts_or_nil _ _)))) (@sss_cons _ _ _ _ _ _ (@ss_ret _ _ _ _ _ (@se_and _ _ _ _ _ (@sbs_cons _ _ _ _ _ _ _ (@se_cmp _ _ _ _ _ _ _ _ (@ne_loc _ _ _ _ 2 rfl rfl rfl) (@ne_none _ _ _ _) rfl) (@sbs_one _ _ _ _ (@se_cmp _ _ _ _ _ _ _ _ (@se_sub _ _ _ _ _ _ _ (@ne_loc _ _ _ _ 2 rfl rfl rfl) (@ne_int _ _ _ _ _) (fun _ _ => rfl)) (@ne_str _ _ _ _ _ 0 rfl) rfl))))) (@nss_nil _ _)) (@nss_nil _ _)) (@sss_cons _ _ _ _ _ _ (@ss_ret _ _ _ _ _ (@se_cmp _ _ _ _ _ _ _ _ (@ne_loc _ _ _ _ 2 rfl rfl rfl) (@ne_none _ _ _ _) rfl)) (@nss_nil _ _))))))))
noncomputable def c_law_ones_right : CF := cfun 2 [none, none, none, none] [some 0, some 1, none, none] (cseq (ctr [false, false, false, false] (casg (cblt (escons (ccomp 10 [0] 2 false (irng (escons (cbin .Add (cint (.ofNat 1)) (ccall (escons (ccel 0) (escons (cint (.ofNat 2)) (esnil))) c_law_notch)) (esnil))) (gloc 1) (tyes) (cemit (cbin .Add (cint (.ofNat 1)) (ccall (escons (ccel 0) (escons (cint (.ofNat 3)) (esnil))) c_law_notch)))) (esnil)) b_tuple) (gloc 0))) (cseq (ctr [false, false, false, false] (casg (cblt (escons (ccomp 10 [0] 2 false (ival (cloc 0)) (gloc 1) (tyes) (cemit (cbin .Add (cint (.ofNat 1)) (ccall (escons (ccel 0) (escons (cloc 1) (esnil))) c_law_notch)))) (esnil)) b_tuple) (gloc 1))) (cseq (ctr [false, false, false, false] (casg (ccall (escons (cloc 0) (escons (cloc 1) (esnil))) c_offset_of) (gloc 2))) (cseq (ctr [false, false, true, false] (cif (tor (tcmp .Lt (cloc 2) (cint (.ofNat 0))) (tor (tcmp .NotEq (ccall (escons (cloc 0) (escons (cbin .Add (cloc 1) (ctup (escons (cint (.ofNat 1)) (esnil)))) (esnil))) c_offset_of) (cloc 2)) (tor (tcmp .NotEq (ccall (escons (cloc 0) (escons (cbin .Add (cloc 1) (ctup (escons (cint (.ofNat 1)) (escons (cint (.ofNat 1)) (esnil))))) (esnil))) c_offset_of) (cloc 2)) (corn)))) (cseq (cret (cbool false)) (snil)) (snil))) (cseq (ctr [true, true, true, false] (cif (tor (tcmp .NotEq (ccall (escons (cloc 0) (escons (cbin .Add (cloc 1) (ctup (escons (cint (.ofNat 2)) (esnil)))) (esnil))) c_offset_of) (cneg (cint (.ofNat 1)))) (tor (tcmp .NotEq (ccall (escons (cloc 0) (escons (cbin .Add (cloc 1) (ctup (escons (cint (.ofNat 1)) (escons (cint (.ofNat 2)) (esnil))))) (esnil))) c_offset_of) (cneg (cint (.ofNat 1)))) (corn))) (cseq (cret (cbool false)) (snil)) (snil))) (cseq (casg (ccall (escons (ccel 1) (escons (ctup (escons (cstr 6) (escons (cstr 13) (escons (ctup (esnil)) (esnil))))) (escons (ctup (escons (cint (.ofNat 3)) (esnil))) (escons (ccomp 10 [] 2 false (irng (escons (cint (.ofNat 3)) (esnil))) (gloc 1) (tyes) (cemit (ccall (escons (cloc 1) (esnil)) c_law_int))) (esnil))))) c_made) (gcel 3)) (cseq (ctr [true, true, true, false] (cif (tcmp .NotEq (ccall (escons (ccel 1) (escons (ccall (escons (ccel 1) (escons (ccel 3) (escons (clist (escons (ctup (escons (cint (.ofNat 2)) (escons (cint (.ofNat 0)) (escons (cint (.ofNat 3)) (esnil))))) (esnil))) (esnil)))) c_view_of) (esnil))) c_items_of) (cbin .Mult (clist (escons (ccall (escons (cint (.ofNat 1)) (esnil)) c_law_int) (esnil))) (cint (.ofNat 3)))) (cseq (cret (cbool false)) (snil)) (snil))) (cseq (ctr [true, true, true, false] (cif (tcmp .NotEq (csub (cheard [1, 0, 3] (ccall (escons (ccel 0) (escons (ccel 2) (escons (clist (escons (ctup (escons (cint (.ofNat 2)) (escons (cint (.ofNat 0)) (escons (cbin .Add (cint (.ofNat 4)) (ccall (escons (ccel 1) (escons (cbin .Pow (cint (.ofNat 10)) (cint (.ofNat 9))) (esnil))) c_law_notch)) (esnil))))) (esnil))) (esnil)))) c_view_of)) (cint (.ofNat 0))) (cstr 1)) (cseq (cret (cbool false)) (snil)) (snil))) (cseq (ctr [true, true, true, false] (casg (csub (clist (escons (cbin .Pow (cint (.ofNat 2)) (cint (.ofNat 70))) (escons (cbin .Pow (cint (.ofNat 2)) (cint (.ofNat 63))) (escons (cbin .Sub (cbin .Pow (cint (.ofNat 2)) (cint (.ofNat 63))) (cint (.ofNat 1))) (esnil))))) (cbin .Mod (ccall (escons (ccel 0) (escons (cint (.ofNat 9)) (esnil))) c_law_notch) (cint (.ofNat 3)))) (gcel 2))) (cseq (ctr [true, true, true, false] (casg (ctup (escons (cstr 1) (escons (ctup (escons (ccel 3) (escons (ctup (escons (cstr 8) (escons (ctup (escons (ctup (escons (cstr 4) (escons (cifx (tcmp .Lt (ccel 2) (cbin .Pow (cint (.ofNat 2)) (cint (.ofNat 63)))) (cstr 2) (cstr 3)) (escons (ccel 2) (esnil))))) (esnil))) (esnil)))) (esnil)))) (esnil)))) (gloc 3))) (cseq (cret (ccmp .Eq (cheard [2, 1, 3] (ccall (escons (ccel 1) (escons (ccel 2) (escons (ctup (escons (ccel 0) (esnil))) (esnil)))) c_item_at)) (cloc 3))) (snil))))))))))))
theorem g_law_ones_right : Glb "_law_ones_right" (.ref 395) := glb_of fun P => by kernel_rfl
theorem k_law_ones_right : ∀ P, keepIn (hk P) (.ref 395) = true := fun P => by kernel_rfl
theorem f_law_ones_right : SF 9 395 c_law_ones_right := by
  refine' sf_intro (b := 8) ["rim", "heap"] ["sizes", "indices", "place", "due"] ["rim", "heap", "far", "row"] [none, none, none, none] [some 0, some 1, none, none] ?hK ?hcd ?hb ?hl ?hbody
  case hK => intro P; rfl
  case hcd => intro P; kernel_rfl
  case hb => intro ws h; match ws, h with | [a0, a1], _ => rfl
  case hl => rfl
  case hbody => exact (@sss_cons _ _ _ _ _ _ (@ss_tr _ _ [false, false, false, false] _ _ (@ss_asg _ _ _ _ _ _ _ (@ne_typ _ _ _ _ _ _ _ _ _ _ sb_tuple g_tuple (@nes_cons _ _ _ _ _ _ (@se_comp _ _ 10 [0] 2 _ _ _ _ _ _ _ _ _ _ _ _ _ [".0", "rank"] ["rim"] (@si_rng _ _ _ _ _ _ _ g_range (@nes_cons _ _ _ _ _ _ (@se_bin _ _ _ _ _ _ _ _ (@ne_int _ _ _ _ _) (@se_callK _ _ _ _ _ _ _ _ _ _ (@SF.le 1 8 _ _ (f_law_notch) rfl) g_law_notch k_law_notch (@nes_cons _ _ _ _ _ _ (@ne_cell _ _ _ _ 0 rfl (.inl rfl) rfl) (@nes_cons _ _ _ _ _ _ (@ne_int _ _ _ _ _) (@nes_nil _ _) (fun _ => rfl)) (fun _ => rfl)) rfl rfl (fun _ => rfl) (fun _ => rfl))) (@nes_nil _ _) (fun _ => rfl)) rfl rfl (fun _ => rfl) (fun _ => rfl)) (@turn_one _ _ _ _ _ _) (@tg_loc _ _ _ _ 1 rfl (by decide +kernel) rfl) (@sif_nil _ _) (@scb_emit _ _ _ _ (@se_bin _ _ _ _ _ _ _ _ (@ne_int _ _ _ _ _) (@se_callK _ _ _ _ _ _ _ _ _ _ (@SF.le 1 8 _ _ (f_law_notch) rfl) g_law_notch k_law_notch (@nes_cons _ _ _ _ _ _ (@ne_cell _ _ _ _ 0 rfl (.inl rfl) rfl) (@nes_cons _ _ _ _ _ _ (@ne_int _ _ _ _ _) (@nes_nil _ _) (fun _ => rfl)) (fun _ => rfl)) rfl rfl (fun _ => rfl) (fun _ => rfl)))) rfl (fun _ _ => rfl) rfl rfl) (@nes_nil _ _) (fun _ => rfl)) rfl rfl (fun _ => rfl) (fun _ => rfl)) (@tg_loc _ _ _ _ 0 rfl (by decide +kernel) rfl) (fun _ _ => rfl) (fun _ _ => rfl) (fun _ => rfl))) (@sss_cons _ _ _ _ _ _ (@ss_tr _ _ [false, false, false, false] _ _ (@ss_asg _ _ _ _ _ _ _ (@ne_typ _ _ _ _ _ _ _ _ _ _ sb_tuple g_tuple (@nes_cons _ _ _ _ _ _ (@se_comp _ _ 10 [0] 2 _ _ _ _ _ _ _ _ _ _ _ _ _ [".0", "size"] ["rim"] (@si_val _ _ _ _ (@ne_loc _ _ _ _ 0 rfl rfl rfl)) (@turn_one _ _ _ _ _ _) (@tg_loc _ _ _ _ 1 rfl (by decide +kernel) rfl) (@sif_nil _ _) (@scb_emit _ _ _ _ (@se_bin _ _ _ _ _ _ _ _ (@ne_int _ _ _ _ _) (@se_callK _ _ _ _ _ _ _ _ _ _ (@SF.le 1 8 _ _ (f_law_notch) rfl) g_law_notch k_law_notch (@nes_cons _ _ _ _ _ _ (@ne_cell _ _ _ _ 0 rfl (.inl rfl) rfl) (@nes_cons _ _ _ _ _ _ (@ne_loc _ _ _ _ 1 rfl rfl rfl) (@nes_nil _ _) (fun _ => rfl)) (fun _ => rfl)) rfl rfl (fun _ => rfl) (fun _ => rfl)))) rfl (fun _ _ => rfl) rfl rfl) (@nes_nil _ _) (fun _ => rfl)) rfl rfl (fun _ => rfl) (fun _ => rfl)) (@tg_loc _ _ _ _ 1 rfl (by decide +kernel) rfl) (fun _ _ => rfl) (fun _ _ => rfl) (fun _ => rfl))) (@sss_cons _ _ _ _ _ _ (@ss_tr _ _ [false, false, false, false] _ _ (@ss_asg _ _ _ _ _ _ _ (@se_callK _ _ _ _ _ _ _ _ _ _ (@SF.le 2 8 _ _ (f_offset_of) rfl) g_offset_of k_offset_of (@nes_cons _ _ _ _ _ _ (@ne_loc _ _ _ _ 0 rfl rfl rfl) (@nes_cons _ _ _ _ _ _ (@ne_loc _ _ _ _ 1 rfl rfl rfl) (@nes_nil _ _) (fun _ => rfl)) (fun _ => rfl)) rfl rfl (fun _ => rfl) (fun _ => rfl)) (@tg_loc _ _ _ _ 2 rfl (by decide +kernel) rfl) (fun _ _ => rfl) (fun _ _ => rfl) (fun _ => rfl))) (@sss_cons _ _ _ _ _ _ (@ss_tr _ _ [false, false, true, false] _ _ (@ss_if _ _ _ _ _ _ _ _ _ (@st_bool _ _ _ _ _ _ (@sts_or _ _ _ _ _ _ (@st_cmp _ _ _ _ _ _ _ _ (@ne_loc _ _ _ _ 2 rfl rfl rfl) (@ne_int _ _ _ _ _) rfl) (@sts_or _ _ _ _ _ _ (@st_cmp _ _ _ _ _ _ _ _ (@se_callK _ _ _ _ _ _ _ _ _ _ (@SF.le 2 8 _ _ (f_offset_of) rfl) g_offset_of k_offset_of (@nes_cons _ _ _ _ _ _ (@ne_loc _ _ _ _ 0 rfl rfl rfl) (@nes_cons _ _ _ _ _ _ (@se_bin _ _ _ _ _ _ _ _ (@ne_loc _ _ _ _ 1 rfl rfl rfl) (@ne_tuple _ _ _ _ _ _ (@nes_cons _ _ _ _ _ _ (@ne_int _ _ _ _ _) (@nes_nil _ _) (fun _ => rfl)) (Nat.le_of_ble_eq_true rfl))) (@nes_nil _ _) (fun _ => rfl)) (fun _ => rfl)) rfl rfl (fun _ => rfl) (fun _ => rfl)) (@ne_loc _ _ _ _ 2 rfl rfl rfl) rfl) (@sts_or _ _ _ _ _ _ (@st_cmp _ _ _ _ _ _ _ _ (@se_callK _ _ _ _ _ _ _ _ _ _ (@SF.le 2 8 _ _ (f_offset_of) rfl) g_offset_of k_offset_of (@nes_cons _ _ _ _ _ _ (@ne_loc _ _ _ _ 0 rfl rfl rfl) (@nes_cons _ _ _ _ _ _ (@se_bin _ _ _ _ _ _ _ _ (@ne_loc _ _ _ _ 1 rfl rfl rfl) (@ne_tuple _ _ _ _ _ _ (@nes_cons _ _ _ _ _ _ (@ne_int _ _ _ _ _) (@nes_cons _ _ _ _ _ _ (@ne_int _ _ _ _ _) (@nes_nil _ _) (fun _ => rfl)) (fun _ => rfl)) (Nat.le_of_ble_eq_true rfl))) (@nes_nil _ _) (fun _ => rfl)) (fun _ => rfl)) rfl rfl (fun _ => rfl) (fun _ => rfl)) (@ne_loc _ _ _ _ 2 rfl rfl rfl) rfl) (@nts_or_nil _ _))))) (@sss_cons _ _ _ _ _ _ (@ss_ret _ _ _ _ _ (@ne_bool _ _ _ _ _)) (@nss_nil _ _)) (@nss_nil _ _))) (@sss_cons _ _ _ _ _ _ (@ss_tr _ _ [true, true, true, false] _ _ (@ss_if _ _ _ _ _ _ _ _ _ (@st_bool _ _ _ _ _ _ (@sts_or _ _ _ _ _ _ (@st_cmp _ _ _ _ _ _ _ _ (@se_callK _ _ _ _ _ _ _ _ _ _ (@SF.le 2 8 _ _ (f_offset_of) rfl) g_offset_of k_offset_of (@nes_cons _ _ _ _ _ _ (@ne_loc _ _ _ _ 0 rfl rfl rfl) (@nes_cons _ _ _ _ _ _ (@se_bin _ _ _ _ _ _ _ _ (@ne_loc _ _ _ _ 1 rfl rfl rfl) (@ne_tuple _ _ _ _ _ _ (@nes_cons _ _ _ _ _ _ (@ne_int _ _ _ _ _) (@nes_nil _ _) (fun _ => rfl)) (Nat.le_of_ble_eq_true rfl))) (@nes_nil _ _) (fun _ => rfl)) (fun _ => rfl)) rfl rfl (fun _ => rfl) (fun _ => rfl)) (@se_neg _ _ _ _ _ (@ne_int _ _ _ _ _)) rfl) (@sts_or _ _ _ _ _ _ (@st_cmp _ _ _ _ _ _ _ _ (@se_callK _ _ _ _ _ _ _ _ _ _ (@SF.le 2 8 _ _ (f_offset_of) rfl) g_offset_of k_offset_of (@nes_cons _ _ _ _ _ _ (@ne_loc _ _ _ _ 0 rfl rfl rfl) (@nes_cons _ _ _ _ _ _ (@se_bin _ _ _ _ _ _ _ _ (@ne_loc _ _ _ _ 1 rfl rfl rfl) (@ne_tuple _ _ _ _ _ _ (@nes_cons _ _ _ _ _ _ (@ne_int _ _ _ _ _) (@nes_cons _ _ _ _ _ _ (@ne_int _ _ _ _ _) (@nes_nil _ _) (fun _ => rfl)) (fun _ => rfl)) (Nat.le_of_ble_eq_true rfl))) (@nes_nil _ _) (fun _ => rfl)) (fun _ => rfl)) rfl rfl (fun _ => rfl) (fun _ => rfl)) (@se_neg _ _ _ _ _ (@ne_int _ _ _ _ _)) rfl) (@nts_or_nil _ _)))) (@sss_cons _ _ _ _ _ _ (@ss_ret _ _ _ _ _ (@ne_bool _ _ _ _ _)) (@nss_nil _ _)) (@nss_nil _ _))) (@sss_cons _ _ _ _ _ _ (@ss_asg _ _ _ _ _ _ _ (@se_callK _ _ _ _ _ _ _ _ _ _ (@SF.le 6 8 _ _ (f_made) rfl) g_made k_made (@nes_cons _ _ _ _ _ _ (@ne_cell _ _ _ _ 1 rfl (.inl rfl) rfl) (@nes_cons _ _ _ _ _ _ (@ne_tuple _ _ _ _ _ _ (@nes_cons _ _ _ _ _ _ (@ne_str _ _ _ _ _ 6 rfl) (@nes_cons _ _ _ _ _ _ (@ne_str _ _ _ _ _ 13 rfl) (@nes_cons _ _ _ _ _ _ (@ne_tuple _ _ _ _ _ _ (@nes_nil _ _) (Nat.le_of_ble_eq_true rfl)) (@nes_nil _ _) (fun _ => rfl)) (fun _ => rfl)) (fun _ => rfl)) (Nat.le_of_ble_eq_true rfl)) (@nes_cons _ _ _ _ _ _ (@ne_tuple _ _ _ _ _ _ (@nes_cons _ _ _ _ _ _ (@ne_int _ _ _ _ _) (@nes_nil _ _) (fun _ => rfl)) (Nat.le_of_ble_eq_true rfl)) (@nes_cons _ _ _ _ _ _ (@se_comp _ _ 10 [] 2 _ _ _ _ _ _ _ _ _ _ _ _ _ [".0", "at"] [] (@si_rng _ _ _ _ _ _ _ g_range (@nes_cons _ _ _ _ _ _ (@ne_int _ _ _ _ _) (@nes_nil _ _) (fun _ => rfl)) rfl rfl (fun _ => rfl) (fun _ => rfl)) (@turn_one _ _ _ _ _ _) (@tg_loc _ _ _ _ 1 rfl (by decide +kernel) rfl) (@sif_nil _ _) (@scb_emit _ _ _ _ (@se_callK _ _ _ _ _ _ _ _ _ _ (@SF.le 1 8 _ _ (f_law_int) rfl) g_law_int k_law_int (@nes_cons _ _ _ _ _ _ (@ne_loc _ _ _ _ 1 rfl rfl rfl) (@nes_nil _ _) (fun _ => rfl)) rfl rfl (fun _ => rfl) (fun _ => rfl))) rfl (fun _ _ => rfl) rfl rfl) (@nes_nil _ _) (fun _ => rfl)) (fun _ => rfl)) (fun _ => rfl)) (fun _ => rfl)) rfl rfl (fun _ => rfl) (fun _ => rfl)) (@tg_cel _ _ _ _ 3 rfl rfl) (fun _ _ => rfl) (fun _ _ => rfl) (fun _ => rfl)) (@sss_cons _ _ _ _ _ _ (@ss_tr _ _ [true, true, true, false] _ _ (@ss_if _ _ _ _ _ _ _ _ _ (@st_cmp _ _ _ _ _ _ _ _ (@se_callK _ _ _ _ _ _ _ _ _ _ (@SF.le 6 8 _ _ (f_items_of) rfl) g_items_of k_items_of (@nes_cons _ _ _ _ _ _ (@ne_cell _ _ _ _ 1 rfl (.inl rfl) rfl) (@nes_cons _ _ _ _ _ _ (@se_callK _ _ _ _ _ _ _ _ _ _ (@SF.le 6 8 _ _ (f_view_of) rfl) g_view_of k_view_of (@nes_cons _ _ _ _ _ _ (@ne_cell _ _ _ _ 1 rfl (.inl rfl) rfl) (@nes_cons _ _ _ _ _ _ (@ne_cell _ _ _ _ 3 rfl (.inl rfl) rfl) (@nes_cons _ _ _ _ _ _ (@ne_list _ _ _ _ _ (@nes_cons _ _ _ _ _ _ (@ne_tuple _ _ _ _ _ _ (@nes_cons _ _ _ _ _ _ (@ne_int _ _ _ _ _) (@nes_cons _ _ _ _ _ _ (@ne_int _ _ _ _ _) (@nes_cons _ _ _ _ _ _ (@ne_int _ _ _ _ _) (@nes_nil _ _) (fun _ => rfl)) (fun _ => rfl)) (fun _ => rfl)) (Nat.le_of_ble_eq_true rfl)) (@nes_nil _ _) (fun _ => rfl))) (@nes_nil _ _) (fun _ => rfl)) (fun _ => rfl)) (fun _ => rfl)) rfl rfl (fun _ => rfl) (fun _ => rfl)) (@nes_nil _ _) (fun _ => rfl)) (fun _ => rfl)) rfl rfl (fun _ => rfl) (fun _ => rfl)) (@se_bin _ _ _ _ _ _ _ _ (@ne_list _ _ _ _ _ (@nes_cons _ _ _ _ _ _ (@se_callK _ _ _ _ _ _ _ _ _ _ (@SF.le 1 8 _ _ (f_law_int) rfl) g_law_int k_law_int (@nes_cons _ _ _ _ _ _ (@ne_int _ _ _ _ _) (@nes_nil _ _) (fun _ => rfl)) rfl rfl (fun _ => rfl) (fun _ => rfl)) (@nes_nil _ _) (fun _ => rfl))) (@ne_int _ _ _ _ _)) rfl) (@sss_cons _ _ _ _ _ _ (@ss_ret _ _ _ _ _ (@ne_bool _ _ _ _ _)) (@nss_nil _ _)) (@nss_nil _ _))) (@sss_cons _ _ _ _ _ _ (@ss_tr _ _ [true, true, true, false] _ _ (@ss_if _ _ _ _ _ _ _ _ _ (@st_cmp _ _ _ _ _ _ _ _ (@se_sub _ _ _ _ _ _ _ (@se_heard _ 6 _ _ _ [1, 0, 3] _ _ _ _ _ ["heap", "rim", "row"] _ rfl (by decide : (394, 392) ∈ tabs) (@se_callK _ _ _ _ _ _ _ _ _ _ (@SF.le 6 6 _ _ (f_view_of) rfl) g_view_of k_view_of (@nes_cons _ _ _ _ _ _ (@ne_cell _ _ _ _ 0 rfl (.inr ⟨rfl, rfl⟩) rfl) (@nes_cons _ _ _ _ _ _ (@ne_cell _ _ _ _ 2 rfl (.inr ⟨rfl, rfl⟩) rfl) (@nes_cons _ _ _ _ _ _ (@ne_list _ _ _ _ _ (@nes_cons _ _ _ _ _ _ (@ne_tuple _ _ _ _ _ _ (@nes_cons _ _ _ _ _ _ (@ne_int _ _ _ _ _) (@nes_cons _ _ _ _ _ _ (@ne_int _ _ _ _ _) (@nes_cons _ _ _ _ _ _ (@se_bin _ _ _ _ _ _ _ _ (@ne_int _ _ _ _ _) (@se_callK _ _ _ _ _ _ _ _ _ _ (@SF.le 1 6 _ _ (f_law_notch) rfl) g_law_notch k_law_notch (@nes_cons _ _ _ _ _ _ (@ne_cell _ _ _ _ 1 rfl (.inr ⟨rfl, rfl⟩) rfl) (@nes_cons _ _ _ _ _ _ (@se_bin _ _ _ _ _ _ _ _ (@ne_int _ _ _ _ _) (@ne_int _ _ _ _ _)) (@nes_nil _ _) (fun _ => rfl)) (fun _ => rfl)) rfl rfl (fun _ => rfl) (fun _ => rfl))) (@nes_nil _ _) (fun _ => rfl)) (fun _ => rfl)) (fun _ => rfl)) (Nat.le_of_ble_eq_true rfl)) (@nes_nil _ _) (fun _ => rfl))) (@nes_nil _ _) (fun _ => rfl)) (fun _ => rfl)) (fun _ => rfl)) rfl rfl (fun _ => rfl) (fun _ => rfl)) rfl rfl (fun _ => rfl) rfl rfl rfl (fun _ _ _ _ _ => rfl)) (@ne_int _ _ _ _ _) (fun _ _ => rfl)) (@ne_str _ _ _ _ _ 1 rfl) rfl) (@sss_cons _ _ _ _ _ _ (@ss_ret _ _ _ _ _ (@ne_bool _ _ _ _ _)) (@nss_nil _ _)) (@nss_nil _ _))) (@sss_cons _ _ _ _ _ _ (@ss_tr _ _ [true, true, true, false] _ _ (@ss_asg _ _ _ _ _ _ _ (@se_sub _ _ _ _ _ _ _ (@ne_list _ _ _ _ _ (@nes_cons _ _ _ _ _ _ (@se_bin _ _ _ _ _ _ _ _ (@ne_int _ _ _ _ _) (@ne_int _ _ _ _ _)) (@nes_cons _ _ _ _ _ _ (@se_bin _ _ _ _ _ _ _ _ (@ne_int _ _ _ _ _) (@ne_int _ _ _ _ _)) (@nes_cons _ _ _ _ _ _ (@se_bin _ _ _ _ _ _ _ _ (@se_bin _ _ _ _ _ _ _ _ (@ne_int _ _ _ _ _) (@ne_int _ _ _ _ _)) (@ne_int _ _ _ _ _)) (@nes_nil _ _) (fun _ => rfl)) (fun _ => rfl)) (fun _ => rfl))) (@se_bin _ _ _ _ _ _ _ _ (@se_callK _ _ _ _ _ _ _ _ _ _ (@SF.le 1 8 _ _ (f_law_notch) rfl) g_law_notch k_law_notch (@nes_cons _ _ _ _ _ _ (@ne_cell _ _ _ _ 0 rfl (.inl rfl) rfl) (@nes_cons _ _ _ _ _ _ (@ne_int _ _ _ _ _) (@nes_nil _ _) (fun _ => rfl)) (fun _ => rfl)) rfl rfl (fun _ => rfl) (fun _ => rfl)) (@ne_int _ _ _ _ _)) (fun _ _ => rfl)) (@tg_cel _ _ _ _ 2 rfl rfl) (fun _ _ => rfl) (fun _ _ => rfl) (fun _ => rfl))) (@sss_cons _ _ _ _ _ _ (@ss_tr _ _ [true, true, true, false] _ _ (@ss_asg _ _ _ _ _ _ _ (@ne_tuple _ _ _ _ _ _ (@nes_cons _ _ _ _ _ _ (@ne_str _ _ _ _ _ 1 rfl) (@nes_cons _ _ _ _ _ _ (@ne_tuple _ _ _ _ _ _ (@nes_cons _ _ _ _ _ _ (@ne_cell _ _ _ _ 3 rfl (.inl rfl) rfl) (@nes_cons _ _ _ _ _ _ (@ne_tuple _ _ _ _ _ _ (@nes_cons _ _ _ _ _ _ (@ne_str _ _ _ _ _ 8 rfl) (@nes_cons _ _ _ _ _ _ (@ne_tuple _ _ _ _ _ _ (@nes_cons _ _ _ _ _ _ (@ne_tuple _ _ _ _ _ _ (@nes_cons _ _ _ _ _ _ (@ne_str _ _ _ _ _ 4 rfl) (@nes_cons _ _ _ _ _ _ (@se_if _ _ _ _ _ _ _ _ _ (@st_cmp _ _ _ _ _ _ _ _ (@ne_cell _ _ _ _ 2 rfl (.inl rfl) rfl) (@se_bin _ _ _ _ _ _ _ _ (@ne_int _ _ _ _ _) (@ne_int _ _ _ _ _)) rfl) (@ne_str _ _ _ _ _ 2 rfl) (@ne_str _ _ _ _ _ 3 rfl)) (@nes_cons _ _ _ _ _ _ (@ne_cell _ _ _ _ 2 rfl (.inl rfl) rfl) (@nes_nil _ _) (fun _ => rfl)) (fun _ => rfl)) (fun _ => rfl)) (Nat.le_of_ble_eq_true rfl)) (@nes_nil _ _) (fun _ => rfl)) (Nat.le_of_ble_eq_true rfl)) (@nes_nil _ _) (fun _ => rfl)) (fun _ => rfl)) (Nat.le_of_ble_eq_true rfl)) (@nes_nil _ _) (fun _ => rfl)) (fun _ => rfl)) (Nat.le_of_ble_eq_true rfl)) (@nes_nil _ _) (fun _ => rfl)) (fun _ => rfl)) (Nat.le_of_ble_eq_true rfl)) (@tg_loc _ _ _ _ 3 rfl (by decide +kernel) rfl) (fun _ _ => rfl) (fun _ _ => rfl) (fun _ => rfl))) (@sss_cons _ _ _ _ _ _ (@ss_ret _ _ _ _ _ (@se_cmp _ _ _ _ _ _ _ _ (@se_heard _ 6 _ _ _ [2, 1, 3] _ _ _ _ _ ["far", "heap", "row"] _ rfl (by decide : (394, 392) ∈ tabs) (@se_callK _ _ _ _ _ _ _ _ _ _ (@SF.le 6 6 _ _ (f_item_at) rfl) g_item_at k_item_at (@nes_cons _ _ _ _ _ _ (@ne_cell _ _ _ _ 1 rfl (.inr ⟨rfl, rfl⟩) rfl) (@nes_cons _ _ _ _ _ _ (@ne_cell _ _ _ _ 2 rfl (.inr ⟨rfl, rfl⟩) rfl) (@nes_cons _ _ _ _ _ _ (@ne_tuple _ _ _ _ _ _ (@nes_cons _ _ _ _ _ _ (@ne_cell _ _ _ _ 0 rfl (.inr ⟨rfl, rfl⟩) rfl) (@nes_nil _ _) (fun _ => rfl)) (Nat.le_of_ble_eq_true rfl)) (@nes_nil _ _) (fun _ => rfl)) (fun _ => rfl)) (fun _ => rfl)) rfl rfl (fun _ => rfl) (fun _ => rfl)) rfl rfl (fun _ => rfl) rfl rfl rfl (fun _ _ _ _ _ => rfl)) (@ne_loc _ _ _ _ 3 rfl rfl rfl) rfl)) (@nss_nil _ _))))))))))))
end Mine
open PySem PySem.W PyProof.Rows PySem.Calls PySem.Spec
set_option Elab.async false
set_option maxRecDepth 100000
set_option maxHeartbeats 1000000
set_option linter.unusedSimpArgs false
set_option linter.unusedVariables false
namespace Mine
noncomputable def lenF {α : Type} (l : List α) : Nat := List.rec (motive := fun _ => Nat) 0 (fun _ _ ih => Nat.add ih 1) l
theorem lenF_eq {α : Type} (l : List α) : lenF l = l.length := by
  induction l with
  | nil => rfl
  | cons a r ih => show lenF r + 1 = _; rw [ih]; rfl
noncomputable def appF {α : Type} (l r : List α) : List α := List.rec (motive := fun _ => List α) r (fun h _ ih => h :: ih) l
theorem appF_eq {α : Type} (l r : List α) : appF l r = l ++ r := by
  induction l with
  | nil => rfl
  | cons a t ih => show a :: appF t r = _; rw [ih]; rfl
noncomputable def setF {α : Type} (l : List α) (i : Nat) (v : α) : List α := List.rec (motive := fun _ => Nat → List α) (fun _ => []) (fun h t ih i => Nat.rec (motive := fun _ => List α) (v :: t) (fun j _ => h :: ih j) i) l i
theorem setF_eq {α : Type} (l : List α) (v : α) : ∀ i, setF l i v = l.set i v := by
  induction l with
  | nil => intro i; rfl
  | cons a t ih =>
    intro i
    cases i with
    | zero => rfl
    | succ i => show a :: setF t i v = _; rw [ih]; rfl
noncomputable def nthF {α : Type} (l : List α) (i : Nat) : Option α := List.rec (motive := fun _ => Nat → Option α) (fun _ => none) (fun o _ ih i => Nat.rec (motive := fun _ => Option α) (some o) (fun j _ => ih j) i) l i
theorem nthF_eq {α : Type} (l : List α) : ∀ i, nthF l i = nth l i := by
  induction l with
  | nil => intro i; cases i <;> rfl
  | cons a t ih =>
    intro i
    cases i with
    | zero => rfl
    | succ i => show nthF t i = nth t i; exact ih i
noncomputable def lgetF (l : Loc) (i : Nat) : Option V := List.rec (motive := fun _ => Nat → Option V) (fun _ => none) (fun o _ ih i => Nat.rec (motive := fun _ => Option V) o (fun j _ => ih j) i) l i
theorem lgetF_eq (l : Loc) : ∀ i, lgetF l i = lget l i := by
  induction l with
  | nil => intro i; cases i <;> rfl
  | cons a t ih =>
    intro i
    cases i with
    | zero => rfl
    | succ i => show lgetF t i = lget t i; exact ih i
noncomputable def lsetF (l : Loc) (i : Nat) (v : V) : Loc := List.rec (motive := fun _ => Nat → Loc) (fun _ => []) (fun h t ih i => Nat.rec (motive := fun _ => Loc) (some v :: t) (fun j _ => h :: ih j) i) l i
theorem lsetF_eq (l : Loc) (v : V) : ∀ i, lsetF l i v = lset l i v := by
  induction l with
  | nil => intro i; cases i <;> rfl
  | cons a t ih =>
    intro i
    cases i with
    | zero => rfl
    | succ i => show a :: lsetF t i v = _; rw [ih]; rfl
noncomputable def nonesF (n : Nat) : Loc := Nat.rec (motive := fun _ => Loc) [] (fun _ ih => none :: ih) n
theorem nonesF_eq (n : Nat) : nonesF n = nones n := by
  induction n with
  | zero => rfl
  | succ n ih => show none :: nonesF n = _; rw [ih]; rfl
noncomputable def selcF (ms cel : List Nat) : List Nat := List.rec (motive := fun _ => List Nat) [] (fun m _ ih => match nthF cel m with | some k => k :: ih | none => []) ms
theorem selcF_eq (ms cel : List Nat) : selcF ms cel = selc ms cel := by
  induction ms with
  | nil => rfl
  | cons a t ih =>
    show (match nthF cel a with | some k => k :: selcF t cel | none => []) = _
    rw [ih, nthF_eq]; rfl
noncomputable def pickF (vs : List V) (o : Option Nat) : Option V := match o with
  | none => none
  | some j => nthF vs j
theorem pickF_eq (vs : List V) (o : Option Nat) : pickF vs o = pick vs o := by
  cases o with
  | none => rfl
  | some j => exact nthF_eq vs j
noncomputable def picksF (vs : List V) (l : List (Option Nat)) : Loc := List.rec (motive := fun _ => Loc) [] (fun o _ ih => pickF vs o :: ih) l
theorem picksF_eq (vs : List V) (l : List (Option Nat)) : picksF vs l = picks vs l := by
  induction l with
  | nil => rfl
  | cons a t ih => show pickF vs a :: picksF vs t = _; rw [ih, pickF_eq]; rfl
noncomputable def pickcF (vs : List V) (l : List (Option Nat)) : List AO := List.rec (motive := fun _ => List AO) [] (fun o _ ih => .cell (pickF vs o) :: ih) l
theorem pickcF_eq (vs : List V) (l : List (Option Nat)) : pickcF vs l = pickc vs l := by
  induction l with
  | nil => rfl
  | cons a t ih => show AO.cell (pickF vs a) :: pickcF vs t = _; rw [ih, pickF_eq]; rfl
noncomputable def uptoF (n : Nat) (l : List (Option Nat)) : List Nat := List.rec (motive := fun _ => Nat → List Nat) (fun _ => []) (fun _ _ ih n => n :: ih (Nat.add n 1)) l n
theorem uptoF_eq (l : List (Option Nat)) : ∀ n, uptoF n l = upto n l := by
  induction l with
  | nil => intro n; rfl
  | cons a t ih => intro n; show n :: uptoF (n + 1) t = _; rw [ih]; rfl
noncomputable def flookF (l : List (Nat × V)) (i : Nat) : Option V := List.rec (motive := fun _ => Option V) none (fun p _ ih => match Nat.beq i p.1 with | true => some p.2 | false => ih) l
theorem flookF_eq (l : List (Nat × V)) (i : Nat) : flookF l i = flook l i := by
  induction l with
  | nil => rfl
  | cons a t ih =>
    show (match Nat.beq i a.1 with | true => some a.2 | false => flookF t i) = _
    rw [ih]; rfl
noncomputable def allNF (n : Nat) (f : Nat → Bool) : Bool := Nat.rec (motive := fun _ => Bool) true (fun n ih => match f n with | true => ih | false => false) n
theorem allNF_eq (n : Nat) (f : Nat → Bool) : allNF n f = allN n f := by
  induction n with
  | zero => rfl
  | succ n ih =>
    show (match f n with | true => allNF n f | false => false) = _
    rw [ih]; rfl
noncomputable def eqVF (a b : V) : Bool := match a with
  | .int i => (match b with | .int j => Z.eqB i j | b => eqV (.int i) b)
  | .str n => (match b with | .str m => Nat.beq n m | b => eqV (.str n) b)
  | a => eqV a b
theorem eqVF_eq (a b : V) : eqVF a b = eqV a b := by
  unfold eqVF
  split
  · split
    · simp [eqV]
    · rfl
  · split
    · simp [eqV]
    · rfl
  · rfl
noncomputable def okVF (n : Nat) (v : V) : Bool := match v with
  | .int _ => true
  | .none => true
  | .str m => Nat.blt m 18
  | v => okV n v
theorem okVF_eq (n : Nat) (v : V) : okVF n v = okV n v := by
  unfold okVF
  split
  · simp [okV]
  · simp [okV]
  · simp [okV]
  · rfl
noncomputable def binSF (op : Operator) (σ : List AO) (a b : V) : Option (V × List AO) := match a, b with
  | .int a, .int b => (opI op a b).map fun i => (.int i, σ)
  | .tup as, .tup bs => match op, as, bs with
    | .Add, x :: xs, y :: ys => if Nat.ble ((lenF (x :: xs)) + (lenF (y :: ys))) 1000 then some (.tup (appF (x :: xs) (y :: ys)), σ) else none
    | _, _, _ => none
  | .ref k, .int n => match op, nthF σ k with
    | .Mult, some (.lst (x :: xs)) => if Z.leB 1 n && Z.leB n 100 && Nat.ble (lenF (x :: xs)) 100 then some (.ref (lenF σ), appF σ [.lst (repV n.toNat (x :: xs))]) else none
    | _, _ => none
  | .int a, .big lo hi => match op with
    | .Add => if Z.leB (-1000) a && Z.leB a 1000 && Z.leB hi 1000000000000 then some (.big (lo + a) (hi + a), σ) else none
    | .Mult => if Z.eqB a 0 && Z.leB 0 lo then some (.int 0, σ) else none
    | _ => none
  | .big lo hi, .int a => match op with
    | .Sub => if Z.leB (-1000) a && Z.leB a 1000 && Z.leB hi 1000000000000 then some (.big (lo - a) (hi - a), σ) else none
    | _ => none
  | _, _ => none
theorem binSF_eq : @binSF = @binS := by
  first | rfl | (unfold binSF binS; simp only [lenF_eq, appF_eq, setF_eq, nthF_eq, lgetF_eq, lsetF_eq, nonesF_eq, selcF_eq, pickF_eq, picksF_eq, pickcF_eq, uptoF_eq, flookF_eq, allNF_eq, eqVF_eq, okVF_eq]; done) | (unfold binSF binS; simp only [lenF_eq, appF_eq, setF_eq, nthF_eq, lgetF_eq, lsetF_eq, nonesF_eq, selcF_eq, pickF_eq, picksF_eq, pickcF_eq, uptoF_eq, flookF_eq, allNF_eq, eqVF_eq, okVF_eq]; rfl) | (funext a1; unfold binSF binS; simp only [lenF_eq, appF_eq, setF_eq, nthF_eq, lgetF_eq, lsetF_eq, nonesF_eq, selcF_eq, pickF_eq, picksF_eq, pickcF_eq, uptoF_eq, flookF_eq, allNF_eq, eqVF_eq, okVF_eq]; done) | (funext a1; unfold binSF binS; simp only [lenF_eq, appF_eq, setF_eq, nthF_eq, lgetF_eq, lsetF_eq, nonesF_eq, selcF_eq, pickF_eq, picksF_eq, pickcF_eq, uptoF_eq, flookF_eq, allNF_eq, eqVF_eq, okVF_eq]; rfl) | (funext a1 a2; cases a2 <;> (unfold binSF binS; simp only [lenF_eq, appF_eq, setF_eq, nthF_eq, lgetF_eq, lsetF_eq, nonesF_eq, selcF_eq, pickF_eq, picksF_eq, pickcF_eq, uptoF_eq, flookF_eq, allNF_eq, eqVF_eq, okVF_eq]; try rfl))
noncomputable def cbinF (op : Operator) (cl cr : CE) : CE := fun loc cel σ k x => cl loc cel σ (fun a σ1 => cr loc cel σ1 (fun b σ2 => match binSF op σ2 a b with | some (v, σ3) => k v σ3 | none => false) x) x
theorem cbinF_eq : @cbinF = @cbin := by
  first | rfl | (unfold cbinF cbin; simp only [lenF_eq, appF_eq, setF_eq, nthF_eq, lgetF_eq, lsetF_eq, nonesF_eq, selcF_eq, pickF_eq, picksF_eq, pickcF_eq, uptoF_eq, flookF_eq, allNF_eq, eqVF_eq, okVF_eq, binSF_eq]; done) | (unfold cbinF cbin; simp only [lenF_eq, appF_eq, setF_eq, nthF_eq, lgetF_eq, lsetF_eq, nonesF_eq, selcF_eq, pickF_eq, picksF_eq, pickcF_eq, uptoF_eq, flookF_eq, allNF_eq, eqVF_eq, okVF_eq, binSF_eq]; rfl) | (funext a1; unfold cbinF cbin; simp only [lenF_eq, appF_eq, setF_eq, nthF_eq, lgetF_eq, lsetF_eq, nonesF_eq, selcF_eq, pickF_eq, picksF_eq, pickcF_eq, uptoF_eq, flookF_eq, allNF_eq, eqVF_eq, okVF_eq, binSF_eq]; done) | (funext a1; unfold cbinF cbin; simp only [lenF_eq, appF_eq, setF_eq, nthF_eq, lgetF_eq, lsetF_eq, nonesF_eq, selcF_eq, pickF_eq, picksF_eq, pickcF_eq, uptoF_eq, flookF_eq, allNF_eq, eqVF_eq, okVF_eq, binSF_eq]; rfl) | (funext a1 a2; cases a2 <;> (unfold cbinF cbin; simp only [lenF_eq, appF_eq, setF_eq, nthF_eq, lgetF_eq, lsetF_eq, nonesF_eq, selcF_eq, pickF_eq, picksF_eq, pickcF_eq, uptoF_eq, flookF_eq, allNF_eq, eqVF_eq, okVF_eq, binSF_eq]; try rfl))
noncomputable def cmpSF (op : CmpOp) (σ : List AO) (a b : V) : Option Bool := match op with
  | .Lt => (match a, b with | .int a, .int b => some (Z.ltB a b) | _, _ => none)
  | .LtE => (match a, b with
    | .int a, .int b => some (Z.leB a b)
    | .big lo hi, .int b => (if Z.ltB b lo then some false else none)
    | _, _ => none)
  | .Gt => (match a, b with
    | .int a, .int b => some (Z.ltB b a)
    | .big lo hi, .int b => (if Z.ltB b lo then some true else none)
    | _, _ => none)
  | .GtE => (match a, b with | .int a, .int b => some (Z.leB b a) | _, _ => none)
  | .Eq => (match a, b with
    | .ref k, .ref j => (match nthF σ k, nthF σ j with | some (.lst vs), some (.lst ws) => (if okVs 8 vs && okVs 8 ws then some (eqVs vs ws) else none) | _, _ => none)
    | a, b => if okVF 8 a && okVF 8 b then some (eqVF a b) else none)
  | .NotEq => (match a, b with
    | .ref k, .ref j => (match nthF σ k, nthF σ j with | some (.lst vs), some (.lst ws) => (if okVs 8 vs && okVs 8 ws then some (!eqVs vs ws) else none) | _, _ => none)
    | a, b => if okVF 8 a && okVF 8 b then some (!eqVF a b) else none)
  | .Is => (match b with
    | .none => (match a with | .none => some true | .opq => none | .exo _ => none | _ => some false)
    | _ => none)
  | .IsNot => (match b with
    | .none => (match a with | .none => some false | .opq => none | .exo _ => none | _ => some true)
    | _ => none)
  | .In => (match b with
    | .tup vs => if okVF 8 a && okVs 8 vs then some (vs.any fun v => eqVF v a) else none
    | .ref k => (match nthF σ k with | some (.lst vs) => (if okVF 8 a && okVs 8 vs then some (vs.any fun v => eqVF v a) else none) | _ => none)
    | _ => none)
  | .NotIn => none
theorem cmpSF_eq : @cmpSF = @cmpS := by
  first | rfl | (unfold cmpSF cmpS; simp only [lenF_eq, appF_eq, setF_eq, nthF_eq, lgetF_eq, lsetF_eq, nonesF_eq, selcF_eq, pickF_eq, picksF_eq, pickcF_eq, uptoF_eq, flookF_eq, allNF_eq, eqVF_eq, okVF_eq, binSF_eq, cbinF_eq]; done) | (unfold cmpSF cmpS; simp only [lenF_eq, appF_eq, setF_eq, nthF_eq, lgetF_eq, lsetF_eq, nonesF_eq, selcF_eq, pickF_eq, picksF_eq, pickcF_eq, uptoF_eq, flookF_eq, allNF_eq, eqVF_eq, okVF_eq, binSF_eq, cbinF_eq]; rfl) | (funext a1; unfold cmpSF cmpS; simp only [lenF_eq, appF_eq, setF_eq, nthF_eq, lgetF_eq, lsetF_eq, nonesF_eq, selcF_eq, pickF_eq, picksF_eq, pickcF_eq, uptoF_eq, flookF_eq, allNF_eq, eqVF_eq, okVF_eq, binSF_eq, cbinF_eq]; done) | (funext a1; unfold cmpSF cmpS; simp only [lenF_eq, appF_eq, setF_eq, nthF_eq, lgetF_eq, lsetF_eq, nonesF_eq, selcF_eq, pickF_eq, picksF_eq, pickcF_eq, uptoF_eq, flookF_eq, allNF_eq, eqVF_eq, okVF_eq, binSF_eq, cbinF_eq]; rfl) | (funext a1 a2; cases a2 <;> (unfold cmpSF cmpS; simp only [lenF_eq, appF_eq, setF_eq, nthF_eq, lgetF_eq, lsetF_eq, nonesF_eq, selcF_eq, pickF_eq, picksF_eq, pickcF_eq, uptoF_eq, flookF_eq, allNF_eq, eqVF_eq, okVF_eq, binSF_eq, cbinF_eq]; try rfl))
noncomputable def ccmpF (op : CmpOp) (cl cr : CE) : CE := fun loc cel σ k x => cl loc cel σ (fun a σ1 => cr loc cel σ1 (fun b σ2 => match cmpSF op σ2 a b with | some v => k (.bool v) σ2 | none => false) x) x
theorem ccmpF_eq : @ccmpF = @ccmp := by
  first | rfl | (unfold ccmpF ccmp; simp only [lenF_eq, appF_eq, setF_eq, nthF_eq, lgetF_eq, lsetF_eq, nonesF_eq, selcF_eq, pickF_eq, picksF_eq, pickcF_eq, uptoF_eq, flookF_eq, allNF_eq, eqVF_eq, okVF_eq, binSF_eq, cbinF_eq, cmpSF_eq]; done) | (unfold ccmpF ccmp; simp only [lenF_eq, appF_eq, setF_eq, nthF_eq, lgetF_eq, lsetF_eq, nonesF_eq, selcF_eq, pickF_eq, picksF_eq, pickcF_eq, uptoF_eq, flookF_eq, allNF_eq, eqVF_eq, okVF_eq, binSF_eq, cbinF_eq, cmpSF_eq]; rfl) | (funext a1; unfold ccmpF ccmp; simp only [lenF_eq, appF_eq, setF_eq, nthF_eq, lgetF_eq, lsetF_eq, nonesF_eq, selcF_eq, pickF_eq, picksF_eq, pickcF_eq, uptoF_eq, flookF_eq, allNF_eq, eqVF_eq, okVF_eq, binSF_eq, cbinF_eq, cmpSF_eq]; done) | (funext a1; unfold ccmpF ccmp; simp only [lenF_eq, appF_eq, setF_eq, nthF_eq, lgetF_eq, lsetF_eq, nonesF_eq, selcF_eq, pickF_eq, picksF_eq, pickcF_eq, uptoF_eq, flookF_eq, allNF_eq, eqVF_eq, okVF_eq, binSF_eq, cbinF_eq, cmpSF_eq]; rfl) | (funext a1 a2; cases a2 <;> (unfold ccmpF ccmp; simp only [lenF_eq, appF_eq, setF_eq, nthF_eq, lgetF_eq, lsetF_eq, nonesF_eq, selcF_eq, pickF_eq, picksF_eq, pickcF_eq, uptoF_eq, flookF_eq, allNF_eq, eqVF_eq, okVF_eq, binSF_eq, cbinF_eq, cmpSF_eq]; try rfl))
noncomputable def tcmpF (op : CmpOp) (cl cr : CE) : CT := fun loc cel σ k x => cl loc cel σ (fun a σ1 => cr loc cel σ1 (fun b σ2 => match cmpSF op σ2 a b with | some v => k v σ2 | none => false) x) x
theorem tcmpF_eq : @tcmpF = @tcmp := by
  first | rfl | (unfold tcmpF tcmp; simp only [lenF_eq, appF_eq, setF_eq, nthF_eq, lgetF_eq, lsetF_eq, nonesF_eq, selcF_eq, pickF_eq, picksF_eq, pickcF_eq, uptoF_eq, flookF_eq, allNF_eq, eqVF_eq, okVF_eq, binSF_eq, cbinF_eq, cmpSF_eq, ccmpF_eq]; done) | (unfold tcmpF tcmp; simp only [lenF_eq, appF_eq, setF_eq, nthF_eq, lgetF_eq, lsetF_eq, nonesF_eq, selcF_eq, pickF_eq, picksF_eq, pickcF_eq, uptoF_eq, flookF_eq, allNF_eq, eqVF_eq, okVF_eq, binSF_eq, cbinF_eq, cmpSF_eq, ccmpF_eq]; rfl) | (funext a1; unfold tcmpF tcmp; simp only [lenF_eq, appF_eq, setF_eq, nthF_eq, lgetF_eq, lsetF_eq, nonesF_eq, selcF_eq, pickF_eq, picksF_eq, pickcF_eq, uptoF_eq, flookF_eq, allNF_eq, eqVF_eq, okVF_eq, binSF_eq, cbinF_eq, cmpSF_eq, ccmpF_eq]; done) | (funext a1; unfold tcmpF tcmp; simp only [lenF_eq, appF_eq, setF_eq, nthF_eq, lgetF_eq, lsetF_eq, nonesF_eq, selcF_eq, pickF_eq, picksF_eq, pickcF_eq, uptoF_eq, flookF_eq, allNF_eq, eqVF_eq, okVF_eq, binSF_eq, cbinF_eq, cmpSF_eq, ccmpF_eq]; rfl) | (funext a1 a2; cases a2 <;> (unfold tcmpF tcmp; simp only [lenF_eq, appF_eq, setF_eq, nthF_eq, lgetF_eq, lsetF_eq, nonesF_eq, selcF_eq, pickF_eq, picksF_eq, pickcF_eq, uptoF_eq, flookF_eq, allNF_eq, eqVF_eq, okVF_eq, binSF_eq, cbinF_eq, cmpSF_eq, ccmpF_eq]; try rfl))
noncomputable def tcmp2F (op op2 : CmpOp) (cl cr cr2 : CE) : CT := fun loc cel σ k x => cl loc cel σ (fun a σ1 => cr loc cel σ1 (fun b σ2 => match cmpSF op σ2 a b with
  | some v => (match v with
    | true => cr2 loc cel σ2 (fun d σ3 => match cmpSF op2 σ3 b d with | some v => k v σ3 | none => false) x
    | false => k false σ2)
  | none => false) x) x
theorem tcmp2F_eq : @tcmp2F = @tcmp2 := by
  first | rfl | (unfold tcmp2F tcmp2; simp only [lenF_eq, appF_eq, setF_eq, nthF_eq, lgetF_eq, lsetF_eq, nonesF_eq, selcF_eq, pickF_eq, picksF_eq, pickcF_eq, uptoF_eq, flookF_eq, allNF_eq, eqVF_eq, okVF_eq, binSF_eq, cbinF_eq, cmpSF_eq, ccmpF_eq, tcmpF_eq]; done) | (unfold tcmp2F tcmp2; simp only [lenF_eq, appF_eq, setF_eq, nthF_eq, lgetF_eq, lsetF_eq, nonesF_eq, selcF_eq, pickF_eq, picksF_eq, pickcF_eq, uptoF_eq, flookF_eq, allNF_eq, eqVF_eq, okVF_eq, binSF_eq, cbinF_eq, cmpSF_eq, ccmpF_eq, tcmpF_eq]; rfl) | (funext a1; unfold tcmp2F tcmp2; simp only [lenF_eq, appF_eq, setF_eq, nthF_eq, lgetF_eq, lsetF_eq, nonesF_eq, selcF_eq, pickF_eq, picksF_eq, pickcF_eq, uptoF_eq, flookF_eq, allNF_eq, eqVF_eq, okVF_eq, binSF_eq, cbinF_eq, cmpSF_eq, ccmpF_eq, tcmpF_eq]; done) | (funext a1; unfold tcmp2F tcmp2; simp only [lenF_eq, appF_eq, setF_eq, nthF_eq, lgetF_eq, lsetF_eq, nonesF_eq, selcF_eq, pickF_eq, picksF_eq, pickcF_eq, uptoF_eq, flookF_eq, allNF_eq, eqVF_eq, okVF_eq, binSF_eq, cbinF_eq, cmpSF_eq, ccmpF_eq, tcmpF_eq]; rfl) | (funext a1 a2; cases a2 <;> (unfold tcmp2F tcmp2; simp only [lenF_eq, appF_eq, setF_eq, nthF_eq, lgetF_eq, lsetF_eq, nonesF_eq, selcF_eq, pickF_eq, picksF_eq, pickcF_eq, uptoF_eq, flookF_eq, allNF_eq, eqVF_eq, okVF_eq, binSF_eq, cbinF_eq, cmpSF_eq, ccmpF_eq, tcmpF_eq]; try rfl))
noncomputable def itemSF (σ : List AO) (o i : V) : Option V := match i with
  | .int i => (match o with
    | .tup vs => (match idxZ i (lenF vs) with | some k => nthF vs k | none => none)
    | .ref j => (match nthF σ j with
      | some (.lst vs) => (match idxZ i (lenF vs) with | some k => nthF vs k | none => none)
      | _ => none)
    | _ => none)
  | _ => none
theorem itemSF_eq : @itemSF = @itemS := by
  first | rfl | (unfold itemSF itemS; simp only [lenF_eq, appF_eq, setF_eq, nthF_eq, lgetF_eq, lsetF_eq, nonesF_eq, selcF_eq, pickF_eq, picksF_eq, pickcF_eq, uptoF_eq, flookF_eq, allNF_eq, eqVF_eq, okVF_eq, binSF_eq, cbinF_eq, cmpSF_eq, ccmpF_eq, tcmpF_eq, tcmp2F_eq]; done) | (unfold itemSF itemS; simp only [lenF_eq, appF_eq, setF_eq, nthF_eq, lgetF_eq, lsetF_eq, nonesF_eq, selcF_eq, pickF_eq, picksF_eq, pickcF_eq, uptoF_eq, flookF_eq, allNF_eq, eqVF_eq, okVF_eq, binSF_eq, cbinF_eq, cmpSF_eq, ccmpF_eq, tcmpF_eq, tcmp2F_eq]; rfl) | (funext a1; unfold itemSF itemS; simp only [lenF_eq, appF_eq, setF_eq, nthF_eq, lgetF_eq, lsetF_eq, nonesF_eq, selcF_eq, pickF_eq, picksF_eq, pickcF_eq, uptoF_eq, flookF_eq, allNF_eq, eqVF_eq, okVF_eq, binSF_eq, cbinF_eq, cmpSF_eq, ccmpF_eq, tcmpF_eq, tcmp2F_eq]; done) | (funext a1; unfold itemSF itemS; simp only [lenF_eq, appF_eq, setF_eq, nthF_eq, lgetF_eq, lsetF_eq, nonesF_eq, selcF_eq, pickF_eq, picksF_eq, pickcF_eq, uptoF_eq, flookF_eq, allNF_eq, eqVF_eq, okVF_eq, binSF_eq, cbinF_eq, cmpSF_eq, ccmpF_eq, tcmpF_eq, tcmp2F_eq]; rfl) | (funext a1 a2; cases a2 <;> (unfold itemSF itemS; simp only [lenF_eq, appF_eq, setF_eq, nthF_eq, lgetF_eq, lsetF_eq, nonesF_eq, selcF_eq, pickF_eq, picksF_eq, pickcF_eq, uptoF_eq, flookF_eq, allNF_eq, eqVF_eq, okVF_eq, binSF_eq, cbinF_eq, cmpSF_eq, ccmpF_eq, tcmpF_eq, tcmp2F_eq]; try rfl))
noncomputable def csubF (cv ci : CE) : CE := fun loc cel σ k x => cv loc cel σ (fun a σ1 => ci loc cel σ1 (fun i σ2 => match itemSF σ2 a i with | some v => k v σ2 | none => false) x) x
theorem csubF_eq : @csubF = @csub := by
  first | rfl | (unfold csubF csub; simp only [lenF_eq, appF_eq, setF_eq, nthF_eq, lgetF_eq, lsetF_eq, nonesF_eq, selcF_eq, pickF_eq, picksF_eq, pickcF_eq, uptoF_eq, flookF_eq, allNF_eq, eqVF_eq, okVF_eq, binSF_eq, cbinF_eq, cmpSF_eq, ccmpF_eq, tcmpF_eq, tcmp2F_eq, itemSF_eq]; done) | (unfold csubF csub; simp only [lenF_eq, appF_eq, setF_eq, nthF_eq, lgetF_eq, lsetF_eq, nonesF_eq, selcF_eq, pickF_eq, picksF_eq, pickcF_eq, uptoF_eq, flookF_eq, allNF_eq, eqVF_eq, okVF_eq, binSF_eq, cbinF_eq, cmpSF_eq, ccmpF_eq, tcmpF_eq, tcmp2F_eq, itemSF_eq]; rfl) | (funext a1; unfold csubF csub; simp only [lenF_eq, appF_eq, setF_eq, nthF_eq, lgetF_eq, lsetF_eq, nonesF_eq, selcF_eq, pickF_eq, picksF_eq, pickcF_eq, uptoF_eq, flookF_eq, allNF_eq, eqVF_eq, okVF_eq, binSF_eq, cbinF_eq, cmpSF_eq, ccmpF_eq, tcmpF_eq, tcmp2F_eq, itemSF_eq]; done) | (funext a1; unfold csubF csub; simp only [lenF_eq, appF_eq, setF_eq, nthF_eq, lgetF_eq, lsetF_eq, nonesF_eq, selcF_eq, pickF_eq, picksF_eq, pickcF_eq, uptoF_eq, flookF_eq, allNF_eq, eqVF_eq, okVF_eq, binSF_eq, cbinF_eq, cmpSF_eq, ccmpF_eq, tcmpF_eq, tcmp2F_eq, itemSF_eq]; rfl) | (funext a1 a2; cases a2 <;> (unfold csubF csub; simp only [lenF_eq, appF_eq, setF_eq, nthF_eq, lgetF_eq, lsetF_eq, nonesF_eq, selcF_eq, pickF_eq, picksF_eq, pickcF_eq, uptoF_eq, flookF_eq, allNF_eq, eqVF_eq, okVF_eq, binSF_eq, cbinF_eq, cmpSF_eq, ccmpF_eq, tcmpF_eq, tcmp2F_eq, itemSF_eq]; try rfl))
noncomputable def cbutF (cv ch : CE) : CE := fun loc cel σ k x => cv loc cel σ (fun a σ1 => ch loc cel σ1 (fun i σ2 => match a, i with
  | .tup vs, .int (.negSucc 0) => (if Nat.ble 2 (lenF vs) && Nat.ble (lenF vs) 1000 then k (.tup vs.dropLast) σ2 else false)
  | _, _ => false) x) x
theorem cbutF_eq : @cbutF = @cbut := by
  first | rfl | (unfold cbutF cbut; simp only [lenF_eq, appF_eq, setF_eq, nthF_eq, lgetF_eq, lsetF_eq, nonesF_eq, selcF_eq, pickF_eq, picksF_eq, pickcF_eq, uptoF_eq, flookF_eq, allNF_eq, eqVF_eq, okVF_eq, binSF_eq, cbinF_eq, cmpSF_eq, ccmpF_eq, tcmpF_eq, tcmp2F_eq, itemSF_eq, csubF_eq]; done) | (unfold cbutF cbut; simp only [lenF_eq, appF_eq, setF_eq, nthF_eq, lgetF_eq, lsetF_eq, nonesF_eq, selcF_eq, pickF_eq, picksF_eq, pickcF_eq, uptoF_eq, flookF_eq, allNF_eq, eqVF_eq, okVF_eq, binSF_eq, cbinF_eq, cmpSF_eq, ccmpF_eq, tcmpF_eq, tcmp2F_eq, itemSF_eq, csubF_eq]; rfl) | (funext a1; unfold cbutF cbut; simp only [lenF_eq, appF_eq, setF_eq, nthF_eq, lgetF_eq, lsetF_eq, nonesF_eq, selcF_eq, pickF_eq, picksF_eq, pickcF_eq, uptoF_eq, flookF_eq, allNF_eq, eqVF_eq, okVF_eq, binSF_eq, cbinF_eq, cmpSF_eq, ccmpF_eq, tcmpF_eq, tcmp2F_eq, itemSF_eq, csubF_eq]; done) | (funext a1; unfold cbutF cbut; simp only [lenF_eq, appF_eq, setF_eq, nthF_eq, lgetF_eq, lsetF_eq, nonesF_eq, selcF_eq, pickF_eq, picksF_eq, pickcF_eq, uptoF_eq, flookF_eq, allNF_eq, eqVF_eq, okVF_eq, binSF_eq, cbinF_eq, cmpSF_eq, ccmpF_eq, tcmpF_eq, tcmp2F_eq, itemSF_eq, csubF_eq]; rfl) | (funext a1 a2; cases a2 <;> (unfold cbutF cbut; simp only [lenF_eq, appF_eq, setF_eq, nthF_eq, lgetF_eq, lsetF_eq, nonesF_eq, selcF_eq, pickF_eq, picksF_eq, pickcF_eq, uptoF_eq, flookF_eq, allNF_eq, eqVF_eq, okVF_eq, binSF_eq, cbinF_eq, cmpSF_eq, ccmpF_eq, tcmpF_eq, tcmp2F_eq, itemSF_eq, csubF_eq]; try rfl))
noncomputable def icNextF (σ : List AO) : IC → Option (Option (V × IC))
  | .L k i => match nthF σ k with
    | some (.lst vs) => some (match nthF vs i with | some v => some (v, .L k (i + 1)) | none => none)
    | _ => none
  | .T vs i => some (match nthF vs i with | some v => some (v, .T vs (i + 1)) | none => none)
theorem icNextF_eq : @icNextF = @icNext := by
  first | rfl | (unfold icNextF icNext; simp only [lenF_eq, appF_eq, setF_eq, nthF_eq, lgetF_eq, lsetF_eq, nonesF_eq, selcF_eq, pickF_eq, picksF_eq, pickcF_eq, uptoF_eq, flookF_eq, allNF_eq, eqVF_eq, okVF_eq, binSF_eq, cbinF_eq, cmpSF_eq, ccmpF_eq, tcmpF_eq, tcmp2F_eq, itemSF_eq, csubF_eq, cbutF_eq]; done) | (unfold icNextF icNext; simp only [lenF_eq, appF_eq, setF_eq, nthF_eq, lgetF_eq, lsetF_eq, nonesF_eq, selcF_eq, pickF_eq, picksF_eq, pickcF_eq, uptoF_eq, flookF_eq, allNF_eq, eqVF_eq, okVF_eq, binSF_eq, cbinF_eq, cmpSF_eq, ccmpF_eq, tcmpF_eq, tcmp2F_eq, itemSF_eq, csubF_eq, cbutF_eq]; rfl) | (funext a1; unfold icNextF icNext; simp only [lenF_eq, appF_eq, setF_eq, nthF_eq, lgetF_eq, lsetF_eq, nonesF_eq, selcF_eq, pickF_eq, picksF_eq, pickcF_eq, uptoF_eq, flookF_eq, allNF_eq, eqVF_eq, okVF_eq, binSF_eq, cbinF_eq, cmpSF_eq, ccmpF_eq, tcmpF_eq, tcmp2F_eq, itemSF_eq, csubF_eq, cbutF_eq]; done) | (funext a1; unfold icNextF icNext; simp only [lenF_eq, appF_eq, setF_eq, nthF_eq, lgetF_eq, lsetF_eq, nonesF_eq, selcF_eq, pickF_eq, picksF_eq, pickcF_eq, uptoF_eq, flookF_eq, allNF_eq, eqVF_eq, okVF_eq, binSF_eq, cbinF_eq, cmpSF_eq, ccmpF_eq, tcmpF_eq, tcmp2F_eq, itemSF_eq, csubF_eq, cbutF_eq]; rfl) | (funext a1 a2; cases a2 <;> (unfold icNextF icNext; simp only [lenF_eq, appF_eq, setF_eq, nthF_eq, lgetF_eq, lsetF_eq, nonesF_eq, selcF_eq, pickF_eq, picksF_eq, pickcF_eq, uptoF_eq, flookF_eq, allNF_eq, eqVF_eq, okVF_eq, binSF_eq, cbinF_eq, cmpSF_eq, ccmpF_eq, tcmpF_eq, tcmp2F_eq, itemSF_eq, csubF_eq, cbutF_eq]; try rfl))
noncomputable def itNextF (σ : List AO) : IT → Option (Option (V × IT))
  | .C I => match icNextF σ I with
    | some (some (v, I')) => some (some (v, .C I'))
    | some none => some none
    | none => none
  | .R x n => match n with
    | 0 => some none
    | n + 1 => some (some (.int x, .R (x + 1) n))
  | .E k i => match icNextF σ (.L k i) with
    | some (some (v, _)) => some (some (.tup [.int i, v], .E k (i + 1)))
    | some none => some none
    | none => none
  | .Z2 I J => match icNextF σ I with
    | some (some (a, I')) => (match icNextF σ J with
      | some (some (b, J')) => some (some (.tup [a, b], .Z2 I' J'))
      | _ => none)
    | some none => some none
    | none => none
  | .Z3 I J K => match icNextF σ I with
    | some (some (a, I')) => (match icNextF σ J with
      | some (some (b, J')) => (match icNextF σ K with
        | some (some (c, K')) => some (some (.tup [a, b, c], .Z3 I' J' K'))
        | _ => none)
      | _ => none)
    | some none => some none
    | none => none
theorem itNextF_eq : @itNextF = @itNext := by
  first | rfl | (unfold itNextF itNext; simp only [lenF_eq, appF_eq, setF_eq, nthF_eq, lgetF_eq, lsetF_eq, nonesF_eq, selcF_eq, pickF_eq, picksF_eq, pickcF_eq, uptoF_eq, flookF_eq, allNF_eq, eqVF_eq, okVF_eq, binSF_eq, cbinF_eq, cmpSF_eq, ccmpF_eq, tcmpF_eq, tcmp2F_eq, itemSF_eq, csubF_eq, cbutF_eq, icNextF_eq]; done) | (unfold itNextF itNext; simp only [lenF_eq, appF_eq, setF_eq, nthF_eq, lgetF_eq, lsetF_eq, nonesF_eq, selcF_eq, pickF_eq, picksF_eq, pickcF_eq, uptoF_eq, flookF_eq, allNF_eq, eqVF_eq, okVF_eq, binSF_eq, cbinF_eq, cmpSF_eq, ccmpF_eq, tcmpF_eq, tcmp2F_eq, itemSF_eq, csubF_eq, cbutF_eq, icNextF_eq]; rfl) | (funext a1; unfold itNextF itNext; simp only [lenF_eq, appF_eq, setF_eq, nthF_eq, lgetF_eq, lsetF_eq, nonesF_eq, selcF_eq, pickF_eq, picksF_eq, pickcF_eq, uptoF_eq, flookF_eq, allNF_eq, eqVF_eq, okVF_eq, binSF_eq, cbinF_eq, cmpSF_eq, ccmpF_eq, tcmpF_eq, tcmp2F_eq, itemSF_eq, csubF_eq, cbutF_eq, icNextF_eq]; done) | (funext a1; unfold itNextF itNext; simp only [lenF_eq, appF_eq, setF_eq, nthF_eq, lgetF_eq, lsetF_eq, nonesF_eq, selcF_eq, pickF_eq, picksF_eq, pickcF_eq, uptoF_eq, flookF_eq, allNF_eq, eqVF_eq, okVF_eq, binSF_eq, cbinF_eq, cmpSF_eq, ccmpF_eq, tcmpF_eq, tcmp2F_eq, itemSF_eq, csubF_eq, cbutF_eq, icNextF_eq]; rfl) | (funext a1 a2; cases a2 <;> (unfold itNextF itNext; simp only [lenF_eq, appF_eq, setF_eq, nthF_eq, lgetF_eq, lsetF_eq, nonesF_eq, selcF_eq, pickF_eq, picksF_eq, pickcF_eq, uptoF_eq, flookF_eq, allNF_eq, eqVF_eq, okVF_eq, binSF_eq, cbinF_eq, cmpSF_eq, ccmpF_eq, tcmpF_eq, tcmp2F_eq, itemSF_eq, csubF_eq, cbutF_eq, icNextF_eq]; try rfl))
noncomputable def lforF (tt : Bool) (g : CG) (body : CS) (cel : List Nat) (n : KN) (k x : KV) (f : Nat) : IT → Loc → List AO → Bool := Nat.rec (motive := fun _ => IT → Loc → List AO → Bool) (fun _ _ _ => false) (fun _ ih I loc σ => match fitB I tt with
    | true => (match itNextF σ I with
      | some o => (match o with
        | some p => g p.1 loc cel σ (fun loc1 σ1 => body loc1 cel σ1 (fun loc2 σ2 => ih p.2 loc2 σ2) k x)
        | none => n loc σ)
      | none => false)
    | false => false) f
theorem lforF_eq (tt : Bool) (g : CG) (body : CS) (cel : List Nat) (n : KN) (k x : KV) (f : Nat) : lforF tt g body cel n k x f = lfor tt g body cel n k x f := by
  induction f with
  | zero => rfl
  | succ f ih =>
    funext I loc σ
    show (match fitB I tt with
    | true => (match itNextF σ I with
      | some o => (match o with
        | some p => g p.1 loc cel σ (fun loc1 σ1 => body loc1 cel σ1 (fun loc2 σ2 => lforF tt g body cel n k x f p.2 loc2 σ2) k x)
        | none => n loc σ)
      | none => false)
    | false => false) = _
    rw [ih, itNextF_eq]; rfl
noncomputable def lcompF (tt : Bool) (g : CG) (ct : CT) (body : CB) (acc : Nat) (cel : List Nat) (n : KN) (f : Nat) : IT → Loc → List AO → Bool := Nat.rec (motive := fun _ => IT → Loc → List AO → Bool) (fun _ _ _ => false) (fun _ ih I loc σ => match fitB I tt with
    | true => (match itNextF σ I with
      | some o => (match o with
        | some p => g p.1 loc cel σ (fun loc1 σ1 => ct loc1 cel σ1 (fun t σ2 => match t with
          | true => body acc loc1 cel σ2 (fun loc2 σ3 => ih p.2 loc2 σ3)
          | false => ih p.2 loc1 σ2) dead)
        | none => n loc σ)
      | none => false)
    | false => false) f
theorem lcompF_eq (tt : Bool) (g : CG) (ct : CT) (body : CB) (acc : Nat) (cel : List Nat) (n : KN) (f : Nat) : lcompF tt g ct body acc cel n f = lcomp tt g ct body acc cel n f := by
  induction f with
  | zero => rfl
  | succ f ih =>
    funext I loc σ
    show (match fitB I tt with
    | true => (match itNextF σ I with
      | some o => (match o with
        | some p => g p.1 loc cel σ (fun loc1 σ1 => ct loc1 cel σ1 (fun t σ2 => match t with
          | true => body acc loc1 cel σ2 (fun loc2 σ3 => lcompF tt g ct body acc cel n f p.2 loc2 σ3)
          | false => lcompF tt g ct body acc cel n f p.2 loc1 σ2) dead)
        | none => n loc σ)
      | none => false)
    | false => false) = _
    rw [ih, itNextF_eq]; rfl
noncomputable def icOfF (σ : List AO) (v : V) : Option IC := match v with
  | .tup vs => some (.T vs 0)
  | .ref k => match nthF σ k with | some (.lst _) => some (.L k 0) | _ => none
  | _ => none
theorem icOfF_eq : @icOfF = @icOf := by
  first | rfl | (unfold icOfF icOf; simp only [lenF_eq, appF_eq, setF_eq, nthF_eq, lgetF_eq, lsetF_eq, nonesF_eq, selcF_eq, pickF_eq, picksF_eq, pickcF_eq, uptoF_eq, flookF_eq, allNF_eq, eqVF_eq, okVF_eq, binSF_eq, cbinF_eq, cmpSF_eq, ccmpF_eq, tcmpF_eq, tcmp2F_eq, itemSF_eq, csubF_eq, cbutF_eq, icNextF_eq, itNextF_eq, lforF_eq, lcompF_eq]; done) | (unfold icOfF icOf; simp only [lenF_eq, appF_eq, setF_eq, nthF_eq, lgetF_eq, lsetF_eq, nonesF_eq, selcF_eq, pickF_eq, picksF_eq, pickcF_eq, uptoF_eq, flookF_eq, allNF_eq, eqVF_eq, okVF_eq, binSF_eq, cbinF_eq, cmpSF_eq, ccmpF_eq, tcmpF_eq, tcmp2F_eq, itemSF_eq, csubF_eq, cbutF_eq, icNextF_eq, itNextF_eq, lforF_eq, lcompF_eq]; rfl) | (funext a1; unfold icOfF icOf; simp only [lenF_eq, appF_eq, setF_eq, nthF_eq, lgetF_eq, lsetF_eq, nonesF_eq, selcF_eq, pickF_eq, picksF_eq, pickcF_eq, uptoF_eq, flookF_eq, allNF_eq, eqVF_eq, okVF_eq, binSF_eq, cbinF_eq, cmpSF_eq, ccmpF_eq, tcmpF_eq, tcmp2F_eq, itemSF_eq, csubF_eq, cbutF_eq, icNextF_eq, itNextF_eq, lforF_eq, lcompF_eq]; done) | (funext a1; unfold icOfF icOf; simp only [lenF_eq, appF_eq, setF_eq, nthF_eq, lgetF_eq, lsetF_eq, nonesF_eq, selcF_eq, pickF_eq, picksF_eq, pickcF_eq, uptoF_eq, flookF_eq, allNF_eq, eqVF_eq, okVF_eq, binSF_eq, cbinF_eq, cmpSF_eq, ccmpF_eq, tcmpF_eq, tcmp2F_eq, itemSF_eq, csubF_eq, cbutF_eq, icNextF_eq, itNextF_eq, lforF_eq, lcompF_eq]; rfl) | (funext a1 a2; cases a2 <;> (unfold icOfF icOf; simp only [lenF_eq, appF_eq, setF_eq, nthF_eq, lgetF_eq, lsetF_eq, nonesF_eq, selcF_eq, pickF_eq, picksF_eq, pickcF_eq, uptoF_eq, flookF_eq, allNF_eq, eqVF_eq, okVF_eq, binSF_eq, cbinF_eq, cmpSF_eq, ccmpF_eq, tcmpF_eq, tcmp2F_eq, itemSF_eq, csubF_eq, cbutF_eq, icNextF_eq, itNextF_eq, lforF_eq, lcompF_eq]; try rfl))
noncomputable def glocF (i : Nat) : CG := fun v loc _ σ n => n (lsetF loc i v) σ
theorem glocF_eq : @glocF = @gloc := by
  first | rfl | (unfold glocF gloc; simp only [lenF_eq, appF_eq, setF_eq, nthF_eq, lgetF_eq, lsetF_eq, nonesF_eq, selcF_eq, pickF_eq, picksF_eq, pickcF_eq, uptoF_eq, flookF_eq, allNF_eq, eqVF_eq, okVF_eq, binSF_eq, cbinF_eq, cmpSF_eq, ccmpF_eq, tcmpF_eq, tcmp2F_eq, itemSF_eq, csubF_eq, cbutF_eq, icNextF_eq, itNextF_eq, lforF_eq, lcompF_eq, icOfF_eq]; done) | (unfold glocF gloc; simp only [lenF_eq, appF_eq, setF_eq, nthF_eq, lgetF_eq, lsetF_eq, nonesF_eq, selcF_eq, pickF_eq, picksF_eq, pickcF_eq, uptoF_eq, flookF_eq, allNF_eq, eqVF_eq, okVF_eq, binSF_eq, cbinF_eq, cmpSF_eq, ccmpF_eq, tcmpF_eq, tcmp2F_eq, itemSF_eq, csubF_eq, cbutF_eq, icNextF_eq, itNextF_eq, lforF_eq, lcompF_eq, icOfF_eq]; rfl) | (funext a1; unfold glocF gloc; simp only [lenF_eq, appF_eq, setF_eq, nthF_eq, lgetF_eq, lsetF_eq, nonesF_eq, selcF_eq, pickF_eq, picksF_eq, pickcF_eq, uptoF_eq, flookF_eq, allNF_eq, eqVF_eq, okVF_eq, binSF_eq, cbinF_eq, cmpSF_eq, ccmpF_eq, tcmpF_eq, tcmp2F_eq, itemSF_eq, csubF_eq, cbutF_eq, icNextF_eq, itNextF_eq, lforF_eq, lcompF_eq, icOfF_eq]; done) | (funext a1; unfold glocF gloc; simp only [lenF_eq, appF_eq, setF_eq, nthF_eq, lgetF_eq, lsetF_eq, nonesF_eq, selcF_eq, pickF_eq, picksF_eq, pickcF_eq, uptoF_eq, flookF_eq, allNF_eq, eqVF_eq, okVF_eq, binSF_eq, cbinF_eq, cmpSF_eq, ccmpF_eq, tcmpF_eq, tcmp2F_eq, itemSF_eq, csubF_eq, cbutF_eq, icNextF_eq, itNextF_eq, lforF_eq, lcompF_eq, icOfF_eq]; rfl) | (funext a1 a2; cases a2 <;> (unfold glocF gloc; simp only [lenF_eq, appF_eq, setF_eq, nthF_eq, lgetF_eq, lsetF_eq, nonesF_eq, selcF_eq, pickF_eq, picksF_eq, pickcF_eq, uptoF_eq, flookF_eq, allNF_eq, eqVF_eq, okVF_eq, binSF_eq, cbinF_eq, cmpSF_eq, ccmpF_eq, tcmpF_eq, tcmp2F_eq, itemSF_eq, csubF_eq, cbutF_eq, icNextF_eq, itNextF_eq, lforF_eq, lcompF_eq, icOfF_eq]; try rfl))
noncomputable def isCellF (σ : List AO) (j : Nat) : Bool := match nthF σ j with | some (.cell _) => true | _ => false
theorem isCellF_eq : @isCellF = @isCell := by
  first | rfl | (unfold isCellF isCell; simp only [lenF_eq, appF_eq, setF_eq, nthF_eq, lgetF_eq, lsetF_eq, nonesF_eq, selcF_eq, pickF_eq, picksF_eq, pickcF_eq, uptoF_eq, flookF_eq, allNF_eq, eqVF_eq, okVF_eq, binSF_eq, cbinF_eq, cmpSF_eq, ccmpF_eq, tcmpF_eq, tcmp2F_eq, itemSF_eq, csubF_eq, cbutF_eq, icNextF_eq, itNextF_eq, lforF_eq, lcompF_eq, icOfF_eq, glocF_eq]; done) | (unfold isCellF isCell; simp only [lenF_eq, appF_eq, setF_eq, nthF_eq, lgetF_eq, lsetF_eq, nonesF_eq, selcF_eq, pickF_eq, picksF_eq, pickcF_eq, uptoF_eq, flookF_eq, allNF_eq, eqVF_eq, okVF_eq, binSF_eq, cbinF_eq, cmpSF_eq, ccmpF_eq, tcmpF_eq, tcmp2F_eq, itemSF_eq, csubF_eq, cbutF_eq, icNextF_eq, itNextF_eq, lforF_eq, lcompF_eq, icOfF_eq, glocF_eq]; rfl) | (funext a1; unfold isCellF isCell; simp only [lenF_eq, appF_eq, setF_eq, nthF_eq, lgetF_eq, lsetF_eq, nonesF_eq, selcF_eq, pickF_eq, picksF_eq, pickcF_eq, uptoF_eq, flookF_eq, allNF_eq, eqVF_eq, okVF_eq, binSF_eq, cbinF_eq, cmpSF_eq, ccmpF_eq, tcmpF_eq, tcmp2F_eq, itemSF_eq, csubF_eq, cbutF_eq, icNextF_eq, itNextF_eq, lforF_eq, lcompF_eq, icOfF_eq, glocF_eq]; done) | (funext a1; unfold isCellF isCell; simp only [lenF_eq, appF_eq, setF_eq, nthF_eq, lgetF_eq, lsetF_eq, nonesF_eq, selcF_eq, pickF_eq, picksF_eq, pickcF_eq, uptoF_eq, flookF_eq, allNF_eq, eqVF_eq, okVF_eq, binSF_eq, cbinF_eq, cmpSF_eq, ccmpF_eq, tcmpF_eq, tcmp2F_eq, itemSF_eq, csubF_eq, cbutF_eq, icNextF_eq, itNextF_eq, lforF_eq, lcompF_eq, icOfF_eq, glocF_eq]; rfl) | (funext a1 a2; cases a2 <;> (unfold isCellF isCell; simp only [lenF_eq, appF_eq, setF_eq, nthF_eq, lgetF_eq, lsetF_eq, nonesF_eq, selcF_eq, pickF_eq, picksF_eq, pickcF_eq, uptoF_eq, flookF_eq, allNF_eq, eqVF_eq, okVF_eq, binSF_eq, cbinF_eq, cmpSF_eq, ccmpF_eq, tcmpF_eq, tcmp2F_eq, itemSF_eq, csubF_eq, cbutF_eq, icNextF_eq, itNextF_eq, lforF_eq, lcompF_eq, icOfF_eq, glocF_eq]; try rfl))
noncomputable def gcelF (i : Nat) : CG := fun v loc cel σ n => match nthF cel i with | some j => (match isCellF σ j with | true => n loc (setF σ j (.cell (some v))) | false => false) | none => false
theorem gcelF_eq : @gcelF = @gcel := by
  first | rfl | (unfold gcelF gcel; simp only [lenF_eq, appF_eq, setF_eq, nthF_eq, lgetF_eq, lsetF_eq, nonesF_eq, selcF_eq, pickF_eq, picksF_eq, pickcF_eq, uptoF_eq, flookF_eq, allNF_eq, eqVF_eq, okVF_eq, binSF_eq, cbinF_eq, cmpSF_eq, ccmpF_eq, tcmpF_eq, tcmp2F_eq, itemSF_eq, csubF_eq, cbutF_eq, icNextF_eq, itNextF_eq, lforF_eq, lcompF_eq, icOfF_eq, glocF_eq, isCellF_eq]; done) | (unfold gcelF gcel; simp only [lenF_eq, appF_eq, setF_eq, nthF_eq, lgetF_eq, lsetF_eq, nonesF_eq, selcF_eq, pickF_eq, picksF_eq, pickcF_eq, uptoF_eq, flookF_eq, allNF_eq, eqVF_eq, okVF_eq, binSF_eq, cbinF_eq, cmpSF_eq, ccmpF_eq, tcmpF_eq, tcmp2F_eq, itemSF_eq, csubF_eq, cbutF_eq, icNextF_eq, itNextF_eq, lforF_eq, lcompF_eq, icOfF_eq, glocF_eq, isCellF_eq]; rfl) | (funext a1; unfold gcelF gcel; simp only [lenF_eq, appF_eq, setF_eq, nthF_eq, lgetF_eq, lsetF_eq, nonesF_eq, selcF_eq, pickF_eq, picksF_eq, pickcF_eq, uptoF_eq, flookF_eq, allNF_eq, eqVF_eq, okVF_eq, binSF_eq, cbinF_eq, cmpSF_eq, ccmpF_eq, tcmpF_eq, tcmp2F_eq, itemSF_eq, csubF_eq, cbutF_eq, icNextF_eq, itNextF_eq, lforF_eq, lcompF_eq, icOfF_eq, glocF_eq, isCellF_eq]; done) | (funext a1; unfold gcelF gcel; simp only [lenF_eq, appF_eq, setF_eq, nthF_eq, lgetF_eq, lsetF_eq, nonesF_eq, selcF_eq, pickF_eq, picksF_eq, pickcF_eq, uptoF_eq, flookF_eq, allNF_eq, eqVF_eq, okVF_eq, binSF_eq, cbinF_eq, cmpSF_eq, ccmpF_eq, tcmpF_eq, tcmp2F_eq, itemSF_eq, csubF_eq, cbutF_eq, icNextF_eq, itNextF_eq, lforF_eq, lcompF_eq, icOfF_eq, glocF_eq, isCellF_eq]; rfl) | (funext a1 a2; cases a2 <;> (unfold gcelF gcel; simp only [lenF_eq, appF_eq, setF_eq, nthF_eq, lgetF_eq, lsetF_eq, nonesF_eq, selcF_eq, pickF_eq, picksF_eq, pickcF_eq, uptoF_eq, flookF_eq, allNF_eq, eqVF_eq, okVF_eq, binSF_eq, cbinF_eq, cmpSF_eq, ccmpF_eq, tcmpF_eq, tcmp2F_eq, itemSF_eq, csubF_eq, cbutF_eq, icNextF_eq, itNextF_eq, lforF_eq, lcompF_eq, icOfF_eq, glocF_eq, isCellF_eq]; try rfl))
noncomputable def gtupF (k : Nat) (gs : CGs) : CG := fun v loc cel σ n => match v with | .tup vs => (match Nat.beq (lenF vs) k with | true => gs vs loc cel σ n | false => false) | _ => false
theorem gtupF_eq : @gtupF = @gtup := by
  first | rfl | (unfold gtupF gtup; simp only [lenF_eq, appF_eq, setF_eq, nthF_eq, lgetF_eq, lsetF_eq, nonesF_eq, selcF_eq, pickF_eq, picksF_eq, pickcF_eq, uptoF_eq, flookF_eq, allNF_eq, eqVF_eq, okVF_eq, binSF_eq, cbinF_eq, cmpSF_eq, ccmpF_eq, tcmpF_eq, tcmp2F_eq, itemSF_eq, csubF_eq, cbutF_eq, icNextF_eq, itNextF_eq, lforF_eq, lcompF_eq, icOfF_eq, glocF_eq, isCellF_eq, gcelF_eq]; done) | (unfold gtupF gtup; simp only [lenF_eq, appF_eq, setF_eq, nthF_eq, lgetF_eq, lsetF_eq, nonesF_eq, selcF_eq, pickF_eq, picksF_eq, pickcF_eq, uptoF_eq, flookF_eq, allNF_eq, eqVF_eq, okVF_eq, binSF_eq, cbinF_eq, cmpSF_eq, ccmpF_eq, tcmpF_eq, tcmp2F_eq, itemSF_eq, csubF_eq, cbutF_eq, icNextF_eq, itNextF_eq, lforF_eq, lcompF_eq, icOfF_eq, glocF_eq, isCellF_eq, gcelF_eq]; rfl) | (funext a1; unfold gtupF gtup; simp only [lenF_eq, appF_eq, setF_eq, nthF_eq, lgetF_eq, lsetF_eq, nonesF_eq, selcF_eq, pickF_eq, picksF_eq, pickcF_eq, uptoF_eq, flookF_eq, allNF_eq, eqVF_eq, okVF_eq, binSF_eq, cbinF_eq, cmpSF_eq, ccmpF_eq, tcmpF_eq, tcmp2F_eq, itemSF_eq, csubF_eq, cbutF_eq, icNextF_eq, itNextF_eq, lforF_eq, lcompF_eq, icOfF_eq, glocF_eq, isCellF_eq, gcelF_eq]; done) | (funext a1; unfold gtupF gtup; simp only [lenF_eq, appF_eq, setF_eq, nthF_eq, lgetF_eq, lsetF_eq, nonesF_eq, selcF_eq, pickF_eq, picksF_eq, pickcF_eq, uptoF_eq, flookF_eq, allNF_eq, eqVF_eq, okVF_eq, binSF_eq, cbinF_eq, cmpSF_eq, ccmpF_eq, tcmpF_eq, tcmp2F_eq, itemSF_eq, csubF_eq, cbutF_eq, icNextF_eq, itNextF_eq, lforF_eq, lcompF_eq, icOfF_eq, glocF_eq, isCellF_eq, gcelF_eq]; rfl) | (funext a1 a2; cases a2 <;> (unfold gtupF gtup; simp only [lenF_eq, appF_eq, setF_eq, nthF_eq, lgetF_eq, lsetF_eq, nonesF_eq, selcF_eq, pickF_eq, picksF_eq, pickcF_eq, uptoF_eq, flookF_eq, allNF_eq, eqVF_eq, okVF_eq, binSF_eq, cbinF_eq, cmpSF_eq, ccmpF_eq, tcmpF_eq, tcmp2F_eq, itemSF_eq, csubF_eq, cbutF_eq, icNextF_eq, itNextF_eq, lforF_eq, lcompF_eq, icOfF_eq, glocF_eq, isCellF_eq, gcelF_eq]; try rfl))
noncomputable def cforF (fuel : Nat) (tt : Bool) (ci : CI) (g : CG) (body : CS) : CS := fun loc cel σ n k x => ci loc cel σ (fun I σ1 => lforF tt g body cel n k x fuel I loc σ1) x
theorem cforF_eq : @cforF = @cfor := by
  first | rfl | (unfold cforF cfor; simp only [lenF_eq, appF_eq, setF_eq, nthF_eq, lgetF_eq, lsetF_eq, nonesF_eq, selcF_eq, pickF_eq, picksF_eq, pickcF_eq, uptoF_eq, flookF_eq, allNF_eq, eqVF_eq, okVF_eq, binSF_eq, cbinF_eq, cmpSF_eq, ccmpF_eq, tcmpF_eq, tcmp2F_eq, itemSF_eq, csubF_eq, cbutF_eq, icNextF_eq, itNextF_eq, lforF_eq, lcompF_eq, icOfF_eq, glocF_eq, isCellF_eq, gcelF_eq, gtupF_eq]; done) | (unfold cforF cfor; simp only [lenF_eq, appF_eq, setF_eq, nthF_eq, lgetF_eq, lsetF_eq, nonesF_eq, selcF_eq, pickF_eq, picksF_eq, pickcF_eq, uptoF_eq, flookF_eq, allNF_eq, eqVF_eq, okVF_eq, binSF_eq, cbinF_eq, cmpSF_eq, ccmpF_eq, tcmpF_eq, tcmp2F_eq, itemSF_eq, csubF_eq, cbutF_eq, icNextF_eq, itNextF_eq, lforF_eq, lcompF_eq, icOfF_eq, glocF_eq, isCellF_eq, gcelF_eq, gtupF_eq]; rfl) | (funext a1; unfold cforF cfor; simp only [lenF_eq, appF_eq, setF_eq, nthF_eq, lgetF_eq, lsetF_eq, nonesF_eq, selcF_eq, pickF_eq, picksF_eq, pickcF_eq, uptoF_eq, flookF_eq, allNF_eq, eqVF_eq, okVF_eq, binSF_eq, cbinF_eq, cmpSF_eq, ccmpF_eq, tcmpF_eq, tcmp2F_eq, itemSF_eq, csubF_eq, cbutF_eq, icNextF_eq, itNextF_eq, lforF_eq, lcompF_eq, icOfF_eq, glocF_eq, isCellF_eq, gcelF_eq, gtupF_eq]; done) | (funext a1; unfold cforF cfor; simp only [lenF_eq, appF_eq, setF_eq, nthF_eq, lgetF_eq, lsetF_eq, nonesF_eq, selcF_eq, pickF_eq, picksF_eq, pickcF_eq, uptoF_eq, flookF_eq, allNF_eq, eqVF_eq, okVF_eq, binSF_eq, cbinF_eq, cmpSF_eq, ccmpF_eq, tcmpF_eq, tcmp2F_eq, itemSF_eq, csubF_eq, cbutF_eq, icNextF_eq, itNextF_eq, lforF_eq, lcompF_eq, icOfF_eq, glocF_eq, isCellF_eq, gcelF_eq, gtupF_eq]; rfl) | (funext a1 a2; cases a2 <;> (unfold cforF cfor; simp only [lenF_eq, appF_eq, setF_eq, nthF_eq, lgetF_eq, lsetF_eq, nonesF_eq, selcF_eq, pickF_eq, picksF_eq, pickcF_eq, uptoF_eq, flookF_eq, allNF_eq, eqVF_eq, okVF_eq, binSF_eq, cbinF_eq, cmpSF_eq, ccmpF_eq, tcmpF_eq, tcmp2F_eq, itemSF_eq, csubF_eq, cbutF_eq, icNextF_eq, itNextF_eq, lforF_eq, lcompF_eq, icOfF_eq, glocF_eq, isCellF_eq, gcelF_eq, gtupF_eq]; try rfl))
noncomputable def lenVF (σ : List AO) (v : V) : Option Nat := match v with
  | .tup vs => some (lenF vs)
  | .ref k => (match nthF σ k with | some (.lst vs) => some (lenF vs) | _ => none)
  | _ => none
theorem lenVF_eq : @lenVF = @lenV := by
  first | rfl | (unfold lenVF lenV; simp only [lenF_eq, appF_eq, setF_eq, nthF_eq, lgetF_eq, lsetF_eq, nonesF_eq, selcF_eq, pickF_eq, picksF_eq, pickcF_eq, uptoF_eq, flookF_eq, allNF_eq, eqVF_eq, okVF_eq, binSF_eq, cbinF_eq, cmpSF_eq, ccmpF_eq, tcmpF_eq, tcmp2F_eq, itemSF_eq, csubF_eq, cbutF_eq, icNextF_eq, itNextF_eq, lforF_eq, lcompF_eq, icOfF_eq, glocF_eq, isCellF_eq, gcelF_eq, gtupF_eq, cforF_eq]; done) | (unfold lenVF lenV; simp only [lenF_eq, appF_eq, setF_eq, nthF_eq, lgetF_eq, lsetF_eq, nonesF_eq, selcF_eq, pickF_eq, picksF_eq, pickcF_eq, uptoF_eq, flookF_eq, allNF_eq, eqVF_eq, okVF_eq, binSF_eq, cbinF_eq, cmpSF_eq, ccmpF_eq, tcmpF_eq, tcmp2F_eq, itemSF_eq, csubF_eq, cbutF_eq, icNextF_eq, itNextF_eq, lforF_eq, lcompF_eq, icOfF_eq, glocF_eq, isCellF_eq, gcelF_eq, gtupF_eq, cforF_eq]; rfl) | (funext a1; unfold lenVF lenV; simp only [lenF_eq, appF_eq, setF_eq, nthF_eq, lgetF_eq, lsetF_eq, nonesF_eq, selcF_eq, pickF_eq, picksF_eq, pickcF_eq, uptoF_eq, flookF_eq, allNF_eq, eqVF_eq, okVF_eq, binSF_eq, cbinF_eq, cmpSF_eq, ccmpF_eq, tcmpF_eq, tcmp2F_eq, itemSF_eq, csubF_eq, cbutF_eq, icNextF_eq, itNextF_eq, lforF_eq, lcompF_eq, icOfF_eq, glocF_eq, isCellF_eq, gcelF_eq, gtupF_eq, cforF_eq]; done) | (funext a1; unfold lenVF lenV; simp only [lenF_eq, appF_eq, setF_eq, nthF_eq, lgetF_eq, lsetF_eq, nonesF_eq, selcF_eq, pickF_eq, picksF_eq, pickcF_eq, uptoF_eq, flookF_eq, allNF_eq, eqVF_eq, okVF_eq, binSF_eq, cbinF_eq, cmpSF_eq, ccmpF_eq, tcmpF_eq, tcmp2F_eq, itemSF_eq, csubF_eq, cbutF_eq, icNextF_eq, itNextF_eq, lforF_eq, lcompF_eq, icOfF_eq, glocF_eq, isCellF_eq, gcelF_eq, gtupF_eq, cforF_eq]; rfl) | (funext a1 a2; cases a2 <;> (unfold lenVF lenV; simp only [lenF_eq, appF_eq, setF_eq, nthF_eq, lgetF_eq, lsetF_eq, nonesF_eq, selcF_eq, pickF_eq, picksF_eq, pickcF_eq, uptoF_eq, flookF_eq, allNF_eq, eqVF_eq, okVF_eq, binSF_eq, cbinF_eq, cmpSF_eq, ccmpF_eq, tcmpF_eq, tcmp2F_eq, itemSF_eq, csubF_eq, cbutF_eq, icNextF_eq, itNextF_eq, lforF_eq, lcompF_eq, icOfF_eq, glocF_eq, isCellF_eq, gcelF_eq, gtupF_eq, cforF_eq]; try rfl))
noncomputable def b_lenF : CF := fun vs σ k _ => match vs with
  | [v] => (match lenVF σ v with | some n => (match Nat.ble n 100000 with | true => k (.int n) σ | false => false) | none => false)
  | _ => false
theorem b_lenF_eq : @b_lenF = @b_len := by
  first | rfl | (unfold b_lenF b_len; simp only [lenF_eq, appF_eq, setF_eq, nthF_eq, lgetF_eq, lsetF_eq, nonesF_eq, selcF_eq, pickF_eq, picksF_eq, pickcF_eq, uptoF_eq, flookF_eq, allNF_eq, eqVF_eq, okVF_eq, binSF_eq, cbinF_eq, cmpSF_eq, ccmpF_eq, tcmpF_eq, tcmp2F_eq, itemSF_eq, csubF_eq, cbutF_eq, icNextF_eq, itNextF_eq, lforF_eq, lcompF_eq, icOfF_eq, glocF_eq, isCellF_eq, gcelF_eq, gtupF_eq, cforF_eq, lenVF_eq]; done) | (unfold b_lenF b_len; simp only [lenF_eq, appF_eq, setF_eq, nthF_eq, lgetF_eq, lsetF_eq, nonesF_eq, selcF_eq, pickF_eq, picksF_eq, pickcF_eq, uptoF_eq, flookF_eq, allNF_eq, eqVF_eq, okVF_eq, binSF_eq, cbinF_eq, cmpSF_eq, ccmpF_eq, tcmpF_eq, tcmp2F_eq, itemSF_eq, csubF_eq, cbutF_eq, icNextF_eq, itNextF_eq, lforF_eq, lcompF_eq, icOfF_eq, glocF_eq, isCellF_eq, gcelF_eq, gtupF_eq, cforF_eq, lenVF_eq]; rfl) | (funext a1; unfold b_lenF b_len; simp only [lenF_eq, appF_eq, setF_eq, nthF_eq, lgetF_eq, lsetF_eq, nonesF_eq, selcF_eq, pickF_eq, picksF_eq, pickcF_eq, uptoF_eq, flookF_eq, allNF_eq, eqVF_eq, okVF_eq, binSF_eq, cbinF_eq, cmpSF_eq, ccmpF_eq, tcmpF_eq, tcmp2F_eq, itemSF_eq, csubF_eq, cbutF_eq, icNextF_eq, itNextF_eq, lforF_eq, lcompF_eq, icOfF_eq, glocF_eq, isCellF_eq, gcelF_eq, gtupF_eq, cforF_eq, lenVF_eq]; done) | (funext a1; unfold b_lenF b_len; simp only [lenF_eq, appF_eq, setF_eq, nthF_eq, lgetF_eq, lsetF_eq, nonesF_eq, selcF_eq, pickF_eq, picksF_eq, pickcF_eq, uptoF_eq, flookF_eq, allNF_eq, eqVF_eq, okVF_eq, binSF_eq, cbinF_eq, cmpSF_eq, ccmpF_eq, tcmpF_eq, tcmp2F_eq, itemSF_eq, csubF_eq, cbutF_eq, icNextF_eq, itNextF_eq, lforF_eq, lcompF_eq, icOfF_eq, glocF_eq, isCellF_eq, gcelF_eq, gtupF_eq, cforF_eq, lenVF_eq]; rfl) | (funext a1 a2; cases a2 <;> (unfold b_lenF b_len; simp only [lenF_eq, appF_eq, setF_eq, nthF_eq, lgetF_eq, lsetF_eq, nonesF_eq, selcF_eq, pickF_eq, picksF_eq, pickcF_eq, uptoF_eq, flookF_eq, allNF_eq, eqVF_eq, okVF_eq, binSF_eq, cbinF_eq, cmpSF_eq, ccmpF_eq, tcmpF_eq, tcmp2F_eq, itemSF_eq, csubF_eq, cbutF_eq, icNextF_eq, itNextF_eq, lforF_eq, lcompF_eq, icOfF_eq, glocF_eq, isCellF_eq, gcelF_eq, gtupF_eq, cforF_eq, lenVF_eq]; try rfl))
noncomputable def b_tupleF : CF := fun vs σ k _ => match vs with
  | [v] => (match v with
    | .tup us => k (.tup us) σ
    | .ref j => (match nthF σ j with | some (.lst us) => (match Nat.ble (lenF us) 1000 with | true => k (.tup us) σ | false => false) | _ => false)
    | _ => false)
  | _ => false
theorem b_tupleF_eq : @b_tupleF = @b_tuple := by
  first | rfl | (unfold b_tupleF b_tuple; simp only [lenF_eq, appF_eq, setF_eq, nthF_eq, lgetF_eq, lsetF_eq, nonesF_eq, selcF_eq, pickF_eq, picksF_eq, pickcF_eq, uptoF_eq, flookF_eq, allNF_eq, eqVF_eq, okVF_eq, binSF_eq, cbinF_eq, cmpSF_eq, ccmpF_eq, tcmpF_eq, tcmp2F_eq, itemSF_eq, csubF_eq, cbutF_eq, icNextF_eq, itNextF_eq, lforF_eq, lcompF_eq, icOfF_eq, glocF_eq, isCellF_eq, gcelF_eq, gtupF_eq, cforF_eq, lenVF_eq, b_lenF_eq]; done) | (unfold b_tupleF b_tuple; simp only [lenF_eq, appF_eq, setF_eq, nthF_eq, lgetF_eq, lsetF_eq, nonesF_eq, selcF_eq, pickF_eq, picksF_eq, pickcF_eq, uptoF_eq, flookF_eq, allNF_eq, eqVF_eq, okVF_eq, binSF_eq, cbinF_eq, cmpSF_eq, ccmpF_eq, tcmpF_eq, tcmp2F_eq, itemSF_eq, csubF_eq, cbutF_eq, icNextF_eq, itNextF_eq, lforF_eq, lcompF_eq, icOfF_eq, glocF_eq, isCellF_eq, gcelF_eq, gtupF_eq, cforF_eq, lenVF_eq, b_lenF_eq]; rfl) | (funext a1; unfold b_tupleF b_tuple; simp only [lenF_eq, appF_eq, setF_eq, nthF_eq, lgetF_eq, lsetF_eq, nonesF_eq, selcF_eq, pickF_eq, picksF_eq, pickcF_eq, uptoF_eq, flookF_eq, allNF_eq, eqVF_eq, okVF_eq, binSF_eq, cbinF_eq, cmpSF_eq, ccmpF_eq, tcmpF_eq, tcmp2F_eq, itemSF_eq, csubF_eq, cbutF_eq, icNextF_eq, itNextF_eq, lforF_eq, lcompF_eq, icOfF_eq, glocF_eq, isCellF_eq, gcelF_eq, gtupF_eq, cforF_eq, lenVF_eq, b_lenF_eq]; done) | (funext a1; unfold b_tupleF b_tuple; simp only [lenF_eq, appF_eq, setF_eq, nthF_eq, lgetF_eq, lsetF_eq, nonesF_eq, selcF_eq, pickF_eq, picksF_eq, pickcF_eq, uptoF_eq, flookF_eq, allNF_eq, eqVF_eq, okVF_eq, binSF_eq, cbinF_eq, cmpSF_eq, ccmpF_eq, tcmpF_eq, tcmp2F_eq, itemSF_eq, csubF_eq, cbutF_eq, icNextF_eq, itNextF_eq, lforF_eq, lcompF_eq, icOfF_eq, glocF_eq, isCellF_eq, gcelF_eq, gtupF_eq, cforF_eq, lenVF_eq, b_lenF_eq]; rfl) | (funext a1 a2; cases a2 <;> (unfold b_tupleF b_tuple; simp only [lenF_eq, appF_eq, setF_eq, nthF_eq, lgetF_eq, lsetF_eq, nonesF_eq, selcF_eq, pickF_eq, picksF_eq, pickcF_eq, uptoF_eq, flookF_eq, allNF_eq, eqVF_eq, okVF_eq, binSF_eq, cbinF_eq, cmpSF_eq, ccmpF_eq, tcmpF_eq, tcmp2F_eq, itemSF_eq, csubF_eq, cbutF_eq, icNextF_eq, itNextF_eq, lforF_eq, lcompF_eq, icOfF_eq, glocF_eq, isCellF_eq, gcelF_eq, gtupF_eq, cforF_eq, lenVF_eq, b_lenF_eq]; try rfl))
noncomputable def b_listF : CF := fun vs σ k _ => match vs with
  | [v] => (match v with
    | .tup us => (match Nat.ble (lenF us) 1000 with | true => k (.ref (lenF σ)) (appF σ [.lst us]) | false => false)
    | .ref j => (match nthF σ j with | some (.lst us) => (match Nat.ble (lenF us) 1000 with | true => k (.ref (lenF σ)) (appF σ [.lst us]) | false => false) | _ => false)
    | _ => false)
  | _ => false
theorem b_listF_eq : @b_listF = @b_list := by
  first | rfl | (unfold b_listF b_list; simp only [lenF_eq, appF_eq, setF_eq, nthF_eq, lgetF_eq, lsetF_eq, nonesF_eq, selcF_eq, pickF_eq, picksF_eq, pickcF_eq, uptoF_eq, flookF_eq, allNF_eq, eqVF_eq, okVF_eq, binSF_eq, cbinF_eq, cmpSF_eq, ccmpF_eq, tcmpF_eq, tcmp2F_eq, itemSF_eq, csubF_eq, cbutF_eq, icNextF_eq, itNextF_eq, lforF_eq, lcompF_eq, icOfF_eq, glocF_eq, isCellF_eq, gcelF_eq, gtupF_eq, cforF_eq, lenVF_eq, b_lenF_eq, b_tupleF_eq]; done) | (unfold b_listF b_list; simp only [lenF_eq, appF_eq, setF_eq, nthF_eq, lgetF_eq, lsetF_eq, nonesF_eq, selcF_eq, pickF_eq, picksF_eq, pickcF_eq, uptoF_eq, flookF_eq, allNF_eq, eqVF_eq, okVF_eq, binSF_eq, cbinF_eq, cmpSF_eq, ccmpF_eq, tcmpF_eq, tcmp2F_eq, itemSF_eq, csubF_eq, cbutF_eq, icNextF_eq, itNextF_eq, lforF_eq, lcompF_eq, icOfF_eq, glocF_eq, isCellF_eq, gcelF_eq, gtupF_eq, cforF_eq, lenVF_eq, b_lenF_eq, b_tupleF_eq]; rfl) | (funext a1; unfold b_listF b_list; simp only [lenF_eq, appF_eq, setF_eq, nthF_eq, lgetF_eq, lsetF_eq, nonesF_eq, selcF_eq, pickF_eq, picksF_eq, pickcF_eq, uptoF_eq, flookF_eq, allNF_eq, eqVF_eq, okVF_eq, binSF_eq, cbinF_eq, cmpSF_eq, ccmpF_eq, tcmpF_eq, tcmp2F_eq, itemSF_eq, csubF_eq, cbutF_eq, icNextF_eq, itNextF_eq, lforF_eq, lcompF_eq, icOfF_eq, glocF_eq, isCellF_eq, gcelF_eq, gtupF_eq, cforF_eq, lenVF_eq, b_lenF_eq, b_tupleF_eq]; done) | (funext a1; unfold b_listF b_list; simp only [lenF_eq, appF_eq, setF_eq, nthF_eq, lgetF_eq, lsetF_eq, nonesF_eq, selcF_eq, pickF_eq, picksF_eq, pickcF_eq, uptoF_eq, flookF_eq, allNF_eq, eqVF_eq, okVF_eq, binSF_eq, cbinF_eq, cmpSF_eq, ccmpF_eq, tcmpF_eq, tcmp2F_eq, itemSF_eq, csubF_eq, cbutF_eq, icNextF_eq, itNextF_eq, lforF_eq, lcompF_eq, icOfF_eq, glocF_eq, isCellF_eq, gcelF_eq, gtupF_eq, cforF_eq, lenVF_eq, b_lenF_eq, b_tupleF_eq]; rfl) | (funext a1 a2; cases a2 <;> (unfold b_listF b_list; simp only [lenF_eq, appF_eq, setF_eq, nthF_eq, lgetF_eq, lsetF_eq, nonesF_eq, selcF_eq, pickF_eq, picksF_eq, pickcF_eq, uptoF_eq, flookF_eq, allNF_eq, eqVF_eq, okVF_eq, binSF_eq, cbinF_eq, cmpSF_eq, ccmpF_eq, tcmpF_eq, tcmp2F_eq, itemSF_eq, csubF_eq, cbutF_eq, icNextF_eq, itNextF_eq, lforF_eq, lcompF_eq, icOfF_eq, glocF_eq, isCellF_eq, gcelF_eq, gtupF_eq, cforF_eq, lenVF_eq, b_lenF_eq, b_tupleF_eq]; try rfl))
noncomputable def ivalF (c : CE) : CI := fun loc cel σ k x => c loc cel σ (fun v σ1 => match icOfF σ1 v with | some I => k (.C I) σ1 | none => false) x
theorem ivalF_eq : @ivalF = @ival := by
  first | rfl | (unfold ivalF ival; simp only [lenF_eq, appF_eq, setF_eq, nthF_eq, lgetF_eq, lsetF_eq, nonesF_eq, selcF_eq, pickF_eq, picksF_eq, pickcF_eq, uptoF_eq, flookF_eq, allNF_eq, eqVF_eq, okVF_eq, binSF_eq, cbinF_eq, cmpSF_eq, ccmpF_eq, tcmpF_eq, tcmp2F_eq, itemSF_eq, csubF_eq, cbutF_eq, icNextF_eq, itNextF_eq, lforF_eq, lcompF_eq, icOfF_eq, glocF_eq, isCellF_eq, gcelF_eq, gtupF_eq, cforF_eq, lenVF_eq, b_lenF_eq, b_tupleF_eq, b_listF_eq]; done) | (unfold ivalF ival; simp only [lenF_eq, appF_eq, setF_eq, nthF_eq, lgetF_eq, lsetF_eq, nonesF_eq, selcF_eq, pickF_eq, picksF_eq, pickcF_eq, uptoF_eq, flookF_eq, allNF_eq, eqVF_eq, okVF_eq, binSF_eq, cbinF_eq, cmpSF_eq, ccmpF_eq, tcmpF_eq, tcmp2F_eq, itemSF_eq, csubF_eq, cbutF_eq, icNextF_eq, itNextF_eq, lforF_eq, lcompF_eq, icOfF_eq, glocF_eq, isCellF_eq, gcelF_eq, gtupF_eq, cforF_eq, lenVF_eq, b_lenF_eq, b_tupleF_eq, b_listF_eq]; rfl) | (funext a1; unfold ivalF ival; simp only [lenF_eq, appF_eq, setF_eq, nthF_eq, lgetF_eq, lsetF_eq, nonesF_eq, selcF_eq, pickF_eq, picksF_eq, pickcF_eq, uptoF_eq, flookF_eq, allNF_eq, eqVF_eq, okVF_eq, binSF_eq, cbinF_eq, cmpSF_eq, ccmpF_eq, tcmpF_eq, tcmp2F_eq, itemSF_eq, csubF_eq, cbutF_eq, icNextF_eq, itNextF_eq, lforF_eq, lcompF_eq, icOfF_eq, glocF_eq, isCellF_eq, gcelF_eq, gtupF_eq, cforF_eq, lenVF_eq, b_lenF_eq, b_tupleF_eq, b_listF_eq]; done) | (funext a1; unfold ivalF ival; simp only [lenF_eq, appF_eq, setF_eq, nthF_eq, lgetF_eq, lsetF_eq, nonesF_eq, selcF_eq, pickF_eq, picksF_eq, pickcF_eq, uptoF_eq, flookF_eq, allNF_eq, eqVF_eq, okVF_eq, binSF_eq, cbinF_eq, cmpSF_eq, ccmpF_eq, tcmpF_eq, tcmp2F_eq, itemSF_eq, csubF_eq, cbutF_eq, icNextF_eq, itNextF_eq, lforF_eq, lcompF_eq, icOfF_eq, glocF_eq, isCellF_eq, gcelF_eq, gtupF_eq, cforF_eq, lenVF_eq, b_lenF_eq, b_tupleF_eq, b_listF_eq]; rfl) | (funext a1 a2; cases a2 <;> (unfold ivalF ival; simp only [lenF_eq, appF_eq, setF_eq, nthF_eq, lgetF_eq, lsetF_eq, nonesF_eq, selcF_eq, pickF_eq, picksF_eq, pickcF_eq, uptoF_eq, flookF_eq, allNF_eq, eqVF_eq, okVF_eq, binSF_eq, cbinF_eq, cmpSF_eq, ccmpF_eq, tcmpF_eq, tcmp2F_eq, itemSF_eq, csubF_eq, cbutF_eq, icNextF_eq, itNextF_eq, lforF_eq, lcompF_eq, icOfF_eq, glocF_eq, isCellF_eq, gcelF_eq, gtupF_eq, cforF_eq, lenVF_eq, b_lenF_eq, b_tupleF_eq, b_listF_eq]; try rfl))
noncomputable def ienmF (cs : CEs) : CI := fun loc cel σ k x => cs loc cel σ (fun vs σ1 => match vs with
  | [v] => (match v with | .ref j => (match nthF σ1 j with | some (.lst _) => k (.E j 0) σ1 | _ => false) | _ => false)
  | _ => false) x
theorem ienmF_eq : @ienmF = @ienm := by
  first | rfl | (unfold ienmF ienm; simp only [lenF_eq, appF_eq, setF_eq, nthF_eq, lgetF_eq, lsetF_eq, nonesF_eq, selcF_eq, pickF_eq, picksF_eq, pickcF_eq, uptoF_eq, flookF_eq, allNF_eq, eqVF_eq, okVF_eq, binSF_eq, cbinF_eq, cmpSF_eq, ccmpF_eq, tcmpF_eq, tcmp2F_eq, itemSF_eq, csubF_eq, cbutF_eq, icNextF_eq, itNextF_eq, lforF_eq, lcompF_eq, icOfF_eq, glocF_eq, isCellF_eq, gcelF_eq, gtupF_eq, cforF_eq, lenVF_eq, b_lenF_eq, b_tupleF_eq, b_listF_eq, ivalF_eq]; done) | (unfold ienmF ienm; simp only [lenF_eq, appF_eq, setF_eq, nthF_eq, lgetF_eq, lsetF_eq, nonesF_eq, selcF_eq, pickF_eq, picksF_eq, pickcF_eq, uptoF_eq, flookF_eq, allNF_eq, eqVF_eq, okVF_eq, binSF_eq, cbinF_eq, cmpSF_eq, ccmpF_eq, tcmpF_eq, tcmp2F_eq, itemSF_eq, csubF_eq, cbutF_eq, icNextF_eq, itNextF_eq, lforF_eq, lcompF_eq, icOfF_eq, glocF_eq, isCellF_eq, gcelF_eq, gtupF_eq, cforF_eq, lenVF_eq, b_lenF_eq, b_tupleF_eq, b_listF_eq, ivalF_eq]; rfl) | (funext a1; unfold ienmF ienm; simp only [lenF_eq, appF_eq, setF_eq, nthF_eq, lgetF_eq, lsetF_eq, nonesF_eq, selcF_eq, pickF_eq, picksF_eq, pickcF_eq, uptoF_eq, flookF_eq, allNF_eq, eqVF_eq, okVF_eq, binSF_eq, cbinF_eq, cmpSF_eq, ccmpF_eq, tcmpF_eq, tcmp2F_eq, itemSF_eq, csubF_eq, cbutF_eq, icNextF_eq, itNextF_eq, lforF_eq, lcompF_eq, icOfF_eq, glocF_eq, isCellF_eq, gcelF_eq, gtupF_eq, cforF_eq, lenVF_eq, b_lenF_eq, b_tupleF_eq, b_listF_eq, ivalF_eq]; done) | (funext a1; unfold ienmF ienm; simp only [lenF_eq, appF_eq, setF_eq, nthF_eq, lgetF_eq, lsetF_eq, nonesF_eq, selcF_eq, pickF_eq, picksF_eq, pickcF_eq, uptoF_eq, flookF_eq, allNF_eq, eqVF_eq, okVF_eq, binSF_eq, cbinF_eq, cmpSF_eq, ccmpF_eq, tcmpF_eq, tcmp2F_eq, itemSF_eq, csubF_eq, cbutF_eq, icNextF_eq, itNextF_eq, lforF_eq, lcompF_eq, icOfF_eq, glocF_eq, isCellF_eq, gcelF_eq, gtupF_eq, cforF_eq, lenVF_eq, b_lenF_eq, b_tupleF_eq, b_listF_eq, ivalF_eq]; rfl) | (funext a1 a2; cases a2 <;> (unfold ienmF ienm; simp only [lenF_eq, appF_eq, setF_eq, nthF_eq, lgetF_eq, lsetF_eq, nonesF_eq, selcF_eq, pickF_eq, picksF_eq, pickcF_eq, uptoF_eq, flookF_eq, allNF_eq, eqVF_eq, okVF_eq, binSF_eq, cbinF_eq, cmpSF_eq, ccmpF_eq, tcmpF_eq, tcmp2F_eq, itemSF_eq, csubF_eq, cbutF_eq, icNextF_eq, itNextF_eq, lforF_eq, lcompF_eq, icOfF_eq, glocF_eq, isCellF_eq, gcelF_eq, gtupF_eq, cforF_eq, lenVF_eq, b_lenF_eq, b_tupleF_eq, b_listF_eq, ivalF_eq]; try rfl))
noncomputable def izip2F (cs : CEs) : CI := fun loc cel σ k x => cs loc cel σ (fun vs σ1 => match vs with
  | [u, v] => (match icOfF σ1 u with | some I => (match icOfF σ1 v with | some J => k (.Z2 I J) σ1 | none => false) | none => false)
  | _ => false) x
theorem izip2F_eq : @izip2F = @izip2 := by
  first | rfl | (unfold izip2F izip2; simp only [lenF_eq, appF_eq, setF_eq, nthF_eq, lgetF_eq, lsetF_eq, nonesF_eq, selcF_eq, pickF_eq, picksF_eq, pickcF_eq, uptoF_eq, flookF_eq, allNF_eq, eqVF_eq, okVF_eq, binSF_eq, cbinF_eq, cmpSF_eq, ccmpF_eq, tcmpF_eq, tcmp2F_eq, itemSF_eq, csubF_eq, cbutF_eq, icNextF_eq, itNextF_eq, lforF_eq, lcompF_eq, icOfF_eq, glocF_eq, isCellF_eq, gcelF_eq, gtupF_eq, cforF_eq, lenVF_eq, b_lenF_eq, b_tupleF_eq, b_listF_eq, ivalF_eq, ienmF_eq]; done) | (unfold izip2F izip2; simp only [lenF_eq, appF_eq, setF_eq, nthF_eq, lgetF_eq, lsetF_eq, nonesF_eq, selcF_eq, pickF_eq, picksF_eq, pickcF_eq, uptoF_eq, flookF_eq, allNF_eq, eqVF_eq, okVF_eq, binSF_eq, cbinF_eq, cmpSF_eq, ccmpF_eq, tcmpF_eq, tcmp2F_eq, itemSF_eq, csubF_eq, cbutF_eq, icNextF_eq, itNextF_eq, lforF_eq, lcompF_eq, icOfF_eq, glocF_eq, isCellF_eq, gcelF_eq, gtupF_eq, cforF_eq, lenVF_eq, b_lenF_eq, b_tupleF_eq, b_listF_eq, ivalF_eq, ienmF_eq]; rfl) | (funext a1; unfold izip2F izip2; simp only [lenF_eq, appF_eq, setF_eq, nthF_eq, lgetF_eq, lsetF_eq, nonesF_eq, selcF_eq, pickF_eq, picksF_eq, pickcF_eq, uptoF_eq, flookF_eq, allNF_eq, eqVF_eq, okVF_eq, binSF_eq, cbinF_eq, cmpSF_eq, ccmpF_eq, tcmpF_eq, tcmp2F_eq, itemSF_eq, csubF_eq, cbutF_eq, icNextF_eq, itNextF_eq, lforF_eq, lcompF_eq, icOfF_eq, glocF_eq, isCellF_eq, gcelF_eq, gtupF_eq, cforF_eq, lenVF_eq, b_lenF_eq, b_tupleF_eq, b_listF_eq, ivalF_eq, ienmF_eq]; done) | (funext a1; unfold izip2F izip2; simp only [lenF_eq, appF_eq, setF_eq, nthF_eq, lgetF_eq, lsetF_eq, nonesF_eq, selcF_eq, pickF_eq, picksF_eq, pickcF_eq, uptoF_eq, flookF_eq, allNF_eq, eqVF_eq, okVF_eq, binSF_eq, cbinF_eq, cmpSF_eq, ccmpF_eq, tcmpF_eq, tcmp2F_eq, itemSF_eq, csubF_eq, cbutF_eq, icNextF_eq, itNextF_eq, lforF_eq, lcompF_eq, icOfF_eq, glocF_eq, isCellF_eq, gcelF_eq, gtupF_eq, cforF_eq, lenVF_eq, b_lenF_eq, b_tupleF_eq, b_listF_eq, ivalF_eq, ienmF_eq]; rfl) | (funext a1 a2; cases a2 <;> (unfold izip2F izip2; simp only [lenF_eq, appF_eq, setF_eq, nthF_eq, lgetF_eq, lsetF_eq, nonesF_eq, selcF_eq, pickF_eq, picksF_eq, pickcF_eq, uptoF_eq, flookF_eq, allNF_eq, eqVF_eq, okVF_eq, binSF_eq, cbinF_eq, cmpSF_eq, ccmpF_eq, tcmpF_eq, tcmp2F_eq, itemSF_eq, csubF_eq, cbutF_eq, icNextF_eq, itNextF_eq, lforF_eq, lcompF_eq, icOfF_eq, glocF_eq, isCellF_eq, gcelF_eq, gtupF_eq, cforF_eq, lenVF_eq, b_lenF_eq, b_tupleF_eq, b_listF_eq, ivalF_eq, ienmF_eq]; try rfl))
noncomputable def izip3F (cs : CEs) : CI := fun loc cel σ k x => cs loc cel σ (fun vs σ1 => match vs with
  | [u, v, t] => (match icOfF σ1 u with | some I => (match icOfF σ1 v with | some J => (match icOfF σ1 t with | some K => k (.Z3 I J K) σ1 | none => false) | none => false) | none => false)
  | _ => false) x
theorem izip3F_eq : @izip3F = @izip3 := by
  first | rfl | (unfold izip3F izip3; simp only [lenF_eq, appF_eq, setF_eq, nthF_eq, lgetF_eq, lsetF_eq, nonesF_eq, selcF_eq, pickF_eq, picksF_eq, pickcF_eq, uptoF_eq, flookF_eq, allNF_eq, eqVF_eq, okVF_eq, binSF_eq, cbinF_eq, cmpSF_eq, ccmpF_eq, tcmpF_eq, tcmp2F_eq, itemSF_eq, csubF_eq, cbutF_eq, icNextF_eq, itNextF_eq, lforF_eq, lcompF_eq, icOfF_eq, glocF_eq, isCellF_eq, gcelF_eq, gtupF_eq, cforF_eq, lenVF_eq, b_lenF_eq, b_tupleF_eq, b_listF_eq, ivalF_eq, ienmF_eq, izip2F_eq]; done) | (unfold izip3F izip3; simp only [lenF_eq, appF_eq, setF_eq, nthF_eq, lgetF_eq, lsetF_eq, nonesF_eq, selcF_eq, pickF_eq, picksF_eq, pickcF_eq, uptoF_eq, flookF_eq, allNF_eq, eqVF_eq, okVF_eq, binSF_eq, cbinF_eq, cmpSF_eq, ccmpF_eq, tcmpF_eq, tcmp2F_eq, itemSF_eq, csubF_eq, cbutF_eq, icNextF_eq, itNextF_eq, lforF_eq, lcompF_eq, icOfF_eq, glocF_eq, isCellF_eq, gcelF_eq, gtupF_eq, cforF_eq, lenVF_eq, b_lenF_eq, b_tupleF_eq, b_listF_eq, ivalF_eq, ienmF_eq, izip2F_eq]; rfl) | (funext a1; unfold izip3F izip3; simp only [lenF_eq, appF_eq, setF_eq, nthF_eq, lgetF_eq, lsetF_eq, nonesF_eq, selcF_eq, pickF_eq, picksF_eq, pickcF_eq, uptoF_eq, flookF_eq, allNF_eq, eqVF_eq, okVF_eq, binSF_eq, cbinF_eq, cmpSF_eq, ccmpF_eq, tcmpF_eq, tcmp2F_eq, itemSF_eq, csubF_eq, cbutF_eq, icNextF_eq, itNextF_eq, lforF_eq, lcompF_eq, icOfF_eq, glocF_eq, isCellF_eq, gcelF_eq, gtupF_eq, cforF_eq, lenVF_eq, b_lenF_eq, b_tupleF_eq, b_listF_eq, ivalF_eq, ienmF_eq, izip2F_eq]; done) | (funext a1; unfold izip3F izip3; simp only [lenF_eq, appF_eq, setF_eq, nthF_eq, lgetF_eq, lsetF_eq, nonesF_eq, selcF_eq, pickF_eq, picksF_eq, pickcF_eq, uptoF_eq, flookF_eq, allNF_eq, eqVF_eq, okVF_eq, binSF_eq, cbinF_eq, cmpSF_eq, ccmpF_eq, tcmpF_eq, tcmp2F_eq, itemSF_eq, csubF_eq, cbutF_eq, icNextF_eq, itNextF_eq, lforF_eq, lcompF_eq, icOfF_eq, glocF_eq, isCellF_eq, gcelF_eq, gtupF_eq, cforF_eq, lenVF_eq, b_lenF_eq, b_tupleF_eq, b_listF_eq, ivalF_eq, ienmF_eq, izip2F_eq]; rfl) | (funext a1 a2; cases a2 <;> (unfold izip3F izip3; simp only [lenF_eq, appF_eq, setF_eq, nthF_eq, lgetF_eq, lsetF_eq, nonesF_eq, selcF_eq, pickF_eq, picksF_eq, pickcF_eq, uptoF_eq, flookF_eq, allNF_eq, eqVF_eq, okVF_eq, binSF_eq, cbinF_eq, cmpSF_eq, ccmpF_eq, tcmpF_eq, tcmp2F_eq, itemSF_eq, csubF_eq, cbutF_eq, icNextF_eq, itNextF_eq, lforF_eq, lcompF_eq, icOfF_eq, glocF_eq, isCellF_eq, gcelF_eq, gtupF_eq, cforF_eq, lenVF_eq, b_lenF_eq, b_tupleF_eq, b_listF_eq, ivalF_eq, ienmF_eq, izip2F_eq]; try rfl))
noncomputable def cfunF (n : Nat) (li ci : List (Option Nat)) (c : CS) : CF := fun vs σ k x => match Nat.beq (lenF vs) n with
  | true => c (picksF vs li) (uptoF (lenF σ) ci) (appF σ (pickcF vs ci)) (fun _ σ1 => k .none σ1) k x
  | false => false
theorem cfunF_eq : @cfunF = @cfun := by
  first | rfl | (unfold cfunF cfun; simp only [lenF_eq, appF_eq, setF_eq, nthF_eq, lgetF_eq, lsetF_eq, nonesF_eq, selcF_eq, pickF_eq, picksF_eq, pickcF_eq, uptoF_eq, flookF_eq, allNF_eq, eqVF_eq, okVF_eq, binSF_eq, cbinF_eq, cmpSF_eq, ccmpF_eq, tcmpF_eq, tcmp2F_eq, itemSF_eq, csubF_eq, cbutF_eq, icNextF_eq, itNextF_eq, lforF_eq, lcompF_eq, icOfF_eq, glocF_eq, isCellF_eq, gcelF_eq, gtupF_eq, cforF_eq, lenVF_eq, b_lenF_eq, b_tupleF_eq, b_listF_eq, ivalF_eq, ienmF_eq, izip2F_eq, izip3F_eq]; done) | (unfold cfunF cfun; simp only [lenF_eq, appF_eq, setF_eq, nthF_eq, lgetF_eq, lsetF_eq, nonesF_eq, selcF_eq, pickF_eq, picksF_eq, pickcF_eq, uptoF_eq, flookF_eq, allNF_eq, eqVF_eq, okVF_eq, binSF_eq, cbinF_eq, cmpSF_eq, ccmpF_eq, tcmpF_eq, tcmp2F_eq, itemSF_eq, csubF_eq, cbutF_eq, icNextF_eq, itNextF_eq, lforF_eq, lcompF_eq, icOfF_eq, glocF_eq, isCellF_eq, gcelF_eq, gtupF_eq, cforF_eq, lenVF_eq, b_lenF_eq, b_tupleF_eq, b_listF_eq, ivalF_eq, ienmF_eq, izip2F_eq, izip3F_eq]; rfl) | (funext a1; unfold cfunF cfun; simp only [lenF_eq, appF_eq, setF_eq, nthF_eq, lgetF_eq, lsetF_eq, nonesF_eq, selcF_eq, pickF_eq, picksF_eq, pickcF_eq, uptoF_eq, flookF_eq, allNF_eq, eqVF_eq, okVF_eq, binSF_eq, cbinF_eq, cmpSF_eq, ccmpF_eq, tcmpF_eq, tcmp2F_eq, itemSF_eq, csubF_eq, cbutF_eq, icNextF_eq, itNextF_eq, lforF_eq, lcompF_eq, icOfF_eq, glocF_eq, isCellF_eq, gcelF_eq, gtupF_eq, cforF_eq, lenVF_eq, b_lenF_eq, b_tupleF_eq, b_listF_eq, ivalF_eq, ienmF_eq, izip2F_eq, izip3F_eq]; done) | (funext a1; unfold cfunF cfun; simp only [lenF_eq, appF_eq, setF_eq, nthF_eq, lgetF_eq, lsetF_eq, nonesF_eq, selcF_eq, pickF_eq, picksF_eq, pickcF_eq, uptoF_eq, flookF_eq, allNF_eq, eqVF_eq, okVF_eq, binSF_eq, cbinF_eq, cmpSF_eq, ccmpF_eq, tcmpF_eq, tcmp2F_eq, itemSF_eq, csubF_eq, cbutF_eq, icNextF_eq, itNextF_eq, lforF_eq, lcompF_eq, icOfF_eq, glocF_eq, isCellF_eq, gcelF_eq, gtupF_eq, cforF_eq, lenVF_eq, b_lenF_eq, b_tupleF_eq, b_listF_eq, ivalF_eq, ienmF_eq, izip2F_eq, izip3F_eq]; rfl) | (funext a1 a2; cases a2 <;> (unfold cfunF cfun; simp only [lenF_eq, appF_eq, setF_eq, nthF_eq, lgetF_eq, lsetF_eq, nonesF_eq, selcF_eq, pickF_eq, picksF_eq, pickcF_eq, uptoF_eq, flookF_eq, allNF_eq, eqVF_eq, okVF_eq, binSF_eq, cbinF_eq, cmpSF_eq, ccmpF_eq, tcmpF_eq, tcmp2F_eq, itemSF_eq, csubF_eq, cbutF_eq, icNextF_eq, itNextF_eq, lforF_eq, lcompF_eq, icOfF_eq, glocF_eq, isCellF_eq, gcelF_eq, gtupF_eq, cforF_eq, lenVF_eq, b_lenF_eq, b_tupleF_eq, b_listF_eq, ivalF_eq, ienmF_eq, izip2F_eq, izip3F_eq]; try rfl))
noncomputable def cemitF (c : CE) : CB := fun acc loc cel σ n => c loc cel σ (fun v σ1 => match nthF σ1 acc with
  | some o => (match o with | .lst vs => (match Nat.ble (lenF vs) 1000 with | true => n loc (setF σ1 acc (.lst (appF vs [v]))) | false => false) | _ => false)
  | none => false) dead
theorem cemitF_eq : @cemitF = @cemit := by
  first | rfl | (unfold cemitF cemit; simp only [lenF_eq, appF_eq, setF_eq, nthF_eq, lgetF_eq, lsetF_eq, nonesF_eq, selcF_eq, pickF_eq, picksF_eq, pickcF_eq, uptoF_eq, flookF_eq, allNF_eq, eqVF_eq, okVF_eq, binSF_eq, cbinF_eq, cmpSF_eq, ccmpF_eq, tcmpF_eq, tcmp2F_eq, itemSF_eq, csubF_eq, cbutF_eq, icNextF_eq, itNextF_eq, lforF_eq, lcompF_eq, icOfF_eq, glocF_eq, isCellF_eq, gcelF_eq, gtupF_eq, cforF_eq, lenVF_eq, b_lenF_eq, b_tupleF_eq, b_listF_eq, ivalF_eq, ienmF_eq, izip2F_eq, izip3F_eq, cfunF_eq]; done) | (unfold cemitF cemit; simp only [lenF_eq, appF_eq, setF_eq, nthF_eq, lgetF_eq, lsetF_eq, nonesF_eq, selcF_eq, pickF_eq, picksF_eq, pickcF_eq, uptoF_eq, flookF_eq, allNF_eq, eqVF_eq, okVF_eq, binSF_eq, cbinF_eq, cmpSF_eq, ccmpF_eq, tcmpF_eq, tcmp2F_eq, itemSF_eq, csubF_eq, cbutF_eq, icNextF_eq, itNextF_eq, lforF_eq, lcompF_eq, icOfF_eq, glocF_eq, isCellF_eq, gcelF_eq, gtupF_eq, cforF_eq, lenVF_eq, b_lenF_eq, b_tupleF_eq, b_listF_eq, ivalF_eq, ienmF_eq, izip2F_eq, izip3F_eq, cfunF_eq]; rfl) | (funext a1; unfold cemitF cemit; simp only [lenF_eq, appF_eq, setF_eq, nthF_eq, lgetF_eq, lsetF_eq, nonesF_eq, selcF_eq, pickF_eq, picksF_eq, pickcF_eq, uptoF_eq, flookF_eq, allNF_eq, eqVF_eq, okVF_eq, binSF_eq, cbinF_eq, cmpSF_eq, ccmpF_eq, tcmpF_eq, tcmp2F_eq, itemSF_eq, csubF_eq, cbutF_eq, icNextF_eq, itNextF_eq, lforF_eq, lcompF_eq, icOfF_eq, glocF_eq, isCellF_eq, gcelF_eq, gtupF_eq, cforF_eq, lenVF_eq, b_lenF_eq, b_tupleF_eq, b_listF_eq, ivalF_eq, ienmF_eq, izip2F_eq, izip3F_eq, cfunF_eq]; done) | (funext a1; unfold cemitF cemit; simp only [lenF_eq, appF_eq, setF_eq, nthF_eq, lgetF_eq, lsetF_eq, nonesF_eq, selcF_eq, pickF_eq, picksF_eq, pickcF_eq, uptoF_eq, flookF_eq, allNF_eq, eqVF_eq, okVF_eq, binSF_eq, cbinF_eq, cmpSF_eq, ccmpF_eq, tcmpF_eq, tcmp2F_eq, itemSF_eq, csubF_eq, cbutF_eq, icNextF_eq, itNextF_eq, lforF_eq, lcompF_eq, icOfF_eq, glocF_eq, isCellF_eq, gcelF_eq, gtupF_eq, cforF_eq, lenVF_eq, b_lenF_eq, b_tupleF_eq, b_listF_eq, ivalF_eq, ienmF_eq, izip2F_eq, izip3F_eq, cfunF_eq]; rfl) | (funext a1 a2; cases a2 <;> (unfold cemitF cemit; simp only [lenF_eq, appF_eq, setF_eq, nthF_eq, lgetF_eq, lsetF_eq, nonesF_eq, selcF_eq, pickF_eq, picksF_eq, pickcF_eq, uptoF_eq, flookF_eq, allNF_eq, eqVF_eq, okVF_eq, binSF_eq, cbinF_eq, cmpSF_eq, ccmpF_eq, tcmpF_eq, tcmp2F_eq, itemSF_eq, csubF_eq, cbutF_eq, icNextF_eq, itNextF_eq, lforF_eq, lcompF_eq, icOfF_eq, glocF_eq, isCellF_eq, gcelF_eq, gtupF_eq, cforF_eq, lenVF_eq, b_lenF_eq, b_tupleF_eq, b_listF_eq, ivalF_eq, ienmF_eq, izip2F_eq, izip3F_eq, cfunF_eq]; try rfl))
noncomputable def cnestF (fuel : Nat) (tt : Bool) (ci : CI) (g : CG) (ct : CT) (body : CB) : CB := fun acc loc cel σ n => ci loc cel σ (fun I σ1 => lcompF tt g ct body acc cel n fuel I loc σ1) dead
theorem cnestF_eq : @cnestF = @cnest := by
  first | rfl | (unfold cnestF cnest; simp only [lenF_eq, appF_eq, setF_eq, nthF_eq, lgetF_eq, lsetF_eq, nonesF_eq, selcF_eq, pickF_eq, picksF_eq, pickcF_eq, uptoF_eq, flookF_eq, allNF_eq, eqVF_eq, okVF_eq, binSF_eq, cbinF_eq, cmpSF_eq, ccmpF_eq, tcmpF_eq, tcmp2F_eq, itemSF_eq, csubF_eq, cbutF_eq, icNextF_eq, itNextF_eq, lforF_eq, lcompF_eq, icOfF_eq, glocF_eq, isCellF_eq, gcelF_eq, gtupF_eq, cforF_eq, lenVF_eq, b_lenF_eq, b_tupleF_eq, b_listF_eq, ivalF_eq, ienmF_eq, izip2F_eq, izip3F_eq, cfunF_eq, cemitF_eq]; done) | (unfold cnestF cnest; simp only [lenF_eq, appF_eq, setF_eq, nthF_eq, lgetF_eq, lsetF_eq, nonesF_eq, selcF_eq, pickF_eq, picksF_eq, pickcF_eq, uptoF_eq, flookF_eq, allNF_eq, eqVF_eq, okVF_eq, binSF_eq, cbinF_eq, cmpSF_eq, ccmpF_eq, tcmpF_eq, tcmp2F_eq, itemSF_eq, csubF_eq, cbutF_eq, icNextF_eq, itNextF_eq, lforF_eq, lcompF_eq, icOfF_eq, glocF_eq, isCellF_eq, gcelF_eq, gtupF_eq, cforF_eq, lenVF_eq, b_lenF_eq, b_tupleF_eq, b_listF_eq, ivalF_eq, ienmF_eq, izip2F_eq, izip3F_eq, cfunF_eq, cemitF_eq]; rfl) | (funext a1; unfold cnestF cnest; simp only [lenF_eq, appF_eq, setF_eq, nthF_eq, lgetF_eq, lsetF_eq, nonesF_eq, selcF_eq, pickF_eq, picksF_eq, pickcF_eq, uptoF_eq, flookF_eq, allNF_eq, eqVF_eq, okVF_eq, binSF_eq, cbinF_eq, cmpSF_eq, ccmpF_eq, tcmpF_eq, tcmp2F_eq, itemSF_eq, csubF_eq, cbutF_eq, icNextF_eq, itNextF_eq, lforF_eq, lcompF_eq, icOfF_eq, glocF_eq, isCellF_eq, gcelF_eq, gtupF_eq, cforF_eq, lenVF_eq, b_lenF_eq, b_tupleF_eq, b_listF_eq, ivalF_eq, ienmF_eq, izip2F_eq, izip3F_eq, cfunF_eq, cemitF_eq]; done) | (funext a1; unfold cnestF cnest; simp only [lenF_eq, appF_eq, setF_eq, nthF_eq, lgetF_eq, lsetF_eq, nonesF_eq, selcF_eq, pickF_eq, picksF_eq, pickcF_eq, uptoF_eq, flookF_eq, allNF_eq, eqVF_eq, okVF_eq, binSF_eq, cbinF_eq, cmpSF_eq, ccmpF_eq, tcmpF_eq, tcmp2F_eq, itemSF_eq, csubF_eq, cbutF_eq, icNextF_eq, itNextF_eq, lforF_eq, lcompF_eq, icOfF_eq, glocF_eq, isCellF_eq, gcelF_eq, gtupF_eq, cforF_eq, lenVF_eq, b_lenF_eq, b_tupleF_eq, b_listF_eq, ivalF_eq, ienmF_eq, izip2F_eq, izip3F_eq, cfunF_eq, cemitF_eq]; rfl) | (funext a1 a2; cases a2 <;> (unfold cnestF cnest; simp only [lenF_eq, appF_eq, setF_eq, nthF_eq, lgetF_eq, lsetF_eq, nonesF_eq, selcF_eq, pickF_eq, picksF_eq, pickcF_eq, uptoF_eq, flookF_eq, allNF_eq, eqVF_eq, okVF_eq, binSF_eq, cbinF_eq, cmpSF_eq, ccmpF_eq, tcmpF_eq, tcmp2F_eq, itemSF_eq, csubF_eq, cbutF_eq, icNextF_eq, itNextF_eq, lforF_eq, lcompF_eq, icOfF_eq, glocF_eq, isCellF_eq, gcelF_eq, gtupF_eq, cforF_eq, lenVF_eq, b_lenF_eq, b_tupleF_eq, b_listF_eq, ivalF_eq, ienmF_eq, izip2F_eq, izip3F_eq, cfunF_eq, cemitF_eq]; try rfl))
noncomputable def lcomp0F (fuel : Nat) (ms : List Nat) (nl : Nat) (tt : Bool) (g : CG) (ct : CT) (body : CB) (cel : List Nat) (I : IT) (σ1 : List AO) (k : V → List AO → Bool) : Bool :=
  lcompF tt g ct body (lenF σ1) (selcF ms cel) (fun _ σ2 => k (.ref (lenF σ1)) σ2) fuel I (nonesF nl) (appF σ1 [.lst []])
theorem lcomp0F_eq : @lcomp0F = @lcomp0 := by
  first | rfl | (unfold lcomp0F lcomp0; simp only [lenF_eq, appF_eq, setF_eq, nthF_eq, lgetF_eq, lsetF_eq, nonesF_eq, selcF_eq, pickF_eq, picksF_eq, pickcF_eq, uptoF_eq, flookF_eq, allNF_eq, eqVF_eq, okVF_eq, binSF_eq, cbinF_eq, cmpSF_eq, ccmpF_eq, tcmpF_eq, tcmp2F_eq, itemSF_eq, csubF_eq, cbutF_eq, icNextF_eq, itNextF_eq, lforF_eq, lcompF_eq, icOfF_eq, glocF_eq, isCellF_eq, gcelF_eq, gtupF_eq, cforF_eq, lenVF_eq, b_lenF_eq, b_tupleF_eq, b_listF_eq, ivalF_eq, ienmF_eq, izip2F_eq, izip3F_eq, cfunF_eq, cemitF_eq, cnestF_eq]; done) | (unfold lcomp0F lcomp0; simp only [lenF_eq, appF_eq, setF_eq, nthF_eq, lgetF_eq, lsetF_eq, nonesF_eq, selcF_eq, pickF_eq, picksF_eq, pickcF_eq, uptoF_eq, flookF_eq, allNF_eq, eqVF_eq, okVF_eq, binSF_eq, cbinF_eq, cmpSF_eq, ccmpF_eq, tcmpF_eq, tcmp2F_eq, itemSF_eq, csubF_eq, cbutF_eq, icNextF_eq, itNextF_eq, lforF_eq, lcompF_eq, icOfF_eq, glocF_eq, isCellF_eq, gcelF_eq, gtupF_eq, cforF_eq, lenVF_eq, b_lenF_eq, b_tupleF_eq, b_listF_eq, ivalF_eq, ienmF_eq, izip2F_eq, izip3F_eq, cfunF_eq, cemitF_eq, cnestF_eq]; rfl) | (funext a1; unfold lcomp0F lcomp0; simp only [lenF_eq, appF_eq, setF_eq, nthF_eq, lgetF_eq, lsetF_eq, nonesF_eq, selcF_eq, pickF_eq, picksF_eq, pickcF_eq, uptoF_eq, flookF_eq, allNF_eq, eqVF_eq, okVF_eq, binSF_eq, cbinF_eq, cmpSF_eq, ccmpF_eq, tcmpF_eq, tcmp2F_eq, itemSF_eq, csubF_eq, cbutF_eq, icNextF_eq, itNextF_eq, lforF_eq, lcompF_eq, icOfF_eq, glocF_eq, isCellF_eq, gcelF_eq, gtupF_eq, cforF_eq, lenVF_eq, b_lenF_eq, b_tupleF_eq, b_listF_eq, ivalF_eq, ienmF_eq, izip2F_eq, izip3F_eq, cfunF_eq, cemitF_eq, cnestF_eq]; done) | (funext a1; unfold lcomp0F lcomp0; simp only [lenF_eq, appF_eq, setF_eq, nthF_eq, lgetF_eq, lsetF_eq, nonesF_eq, selcF_eq, pickF_eq, picksF_eq, pickcF_eq, uptoF_eq, flookF_eq, allNF_eq, eqVF_eq, okVF_eq, binSF_eq, cbinF_eq, cmpSF_eq, ccmpF_eq, tcmpF_eq, tcmp2F_eq, itemSF_eq, csubF_eq, cbutF_eq, icNextF_eq, itNextF_eq, lforF_eq, lcompF_eq, icOfF_eq, glocF_eq, isCellF_eq, gcelF_eq, gtupF_eq, cforF_eq, lenVF_eq, b_lenF_eq, b_tupleF_eq, b_listF_eq, ivalF_eq, ienmF_eq, izip2F_eq, izip3F_eq, cfunF_eq, cemitF_eq, cnestF_eq]; rfl) | (funext a1 a2; cases a2 <;> (unfold lcomp0F lcomp0; simp only [lenF_eq, appF_eq, setF_eq, nthF_eq, lgetF_eq, lsetF_eq, nonesF_eq, selcF_eq, pickF_eq, picksF_eq, pickcF_eq, uptoF_eq, flookF_eq, allNF_eq, eqVF_eq, okVF_eq, binSF_eq, cbinF_eq, cmpSF_eq, ccmpF_eq, tcmpF_eq, tcmp2F_eq, itemSF_eq, csubF_eq, cbutF_eq, icNextF_eq, itNextF_eq, lforF_eq, lcompF_eq, icOfF_eq, glocF_eq, isCellF_eq, gcelF_eq, gtupF_eq, cforF_eq, lenVF_eq, b_lenF_eq, b_tupleF_eq, b_listF_eq, ivalF_eq, ienmF_eq, izip2F_eq, izip3F_eq, cfunF_eq, cemitF_eq, cnestF_eq]; try rfl))
noncomputable def ccompF (fuel : Nat) (ms : List Nat) (nl : Nat) (tt : Bool) (ci : CI) (g : CG) (ct : CT) (body : CB) : CE := fun loc cel σ k x => match Nat.beq (lenF (selcF ms cel)) (lenF ms) with
  | true => ci loc cel σ (fun I σ1 => lcomp0F fuel ms nl tt g ct body cel I σ1 k) x
  | false => false
theorem ccompF_eq : @ccompF = @ccomp := by
  first | rfl | (unfold ccompF ccomp; simp only [lenF_eq, appF_eq, setF_eq, nthF_eq, lgetF_eq, lsetF_eq, nonesF_eq, selcF_eq, pickF_eq, picksF_eq, pickcF_eq, uptoF_eq, flookF_eq, allNF_eq, eqVF_eq, okVF_eq, binSF_eq, cbinF_eq, cmpSF_eq, ccmpF_eq, tcmpF_eq, tcmp2F_eq, itemSF_eq, csubF_eq, cbutF_eq, icNextF_eq, itNextF_eq, lforF_eq, lcompF_eq, icOfF_eq, glocF_eq, isCellF_eq, gcelF_eq, gtupF_eq, cforF_eq, lenVF_eq, b_lenF_eq, b_tupleF_eq, b_listF_eq, ivalF_eq, ienmF_eq, izip2F_eq, izip3F_eq, cfunF_eq, cemitF_eq, cnestF_eq, lcomp0F_eq]; done) | (unfold ccompF ccomp; simp only [lenF_eq, appF_eq, setF_eq, nthF_eq, lgetF_eq, lsetF_eq, nonesF_eq, selcF_eq, pickF_eq, picksF_eq, pickcF_eq, uptoF_eq, flookF_eq, allNF_eq, eqVF_eq, okVF_eq, binSF_eq, cbinF_eq, cmpSF_eq, ccmpF_eq, tcmpF_eq, tcmp2F_eq, itemSF_eq, csubF_eq, cbutF_eq, icNextF_eq, itNextF_eq, lforF_eq, lcompF_eq, icOfF_eq, glocF_eq, isCellF_eq, gcelF_eq, gtupF_eq, cforF_eq, lenVF_eq, b_lenF_eq, b_tupleF_eq, b_listF_eq, ivalF_eq, ienmF_eq, izip2F_eq, izip3F_eq, cfunF_eq, cemitF_eq, cnestF_eq, lcomp0F_eq]; rfl) | (funext a1; unfold ccompF ccomp; simp only [lenF_eq, appF_eq, setF_eq, nthF_eq, lgetF_eq, lsetF_eq, nonesF_eq, selcF_eq, pickF_eq, picksF_eq, pickcF_eq, uptoF_eq, flookF_eq, allNF_eq, eqVF_eq, okVF_eq, binSF_eq, cbinF_eq, cmpSF_eq, ccmpF_eq, tcmpF_eq, tcmp2F_eq, itemSF_eq, csubF_eq, cbutF_eq, icNextF_eq, itNextF_eq, lforF_eq, lcompF_eq, icOfF_eq, glocF_eq, isCellF_eq, gcelF_eq, gtupF_eq, cforF_eq, lenVF_eq, b_lenF_eq, b_tupleF_eq, b_listF_eq, ivalF_eq, ienmF_eq, izip2F_eq, izip3F_eq, cfunF_eq, cemitF_eq, cnestF_eq, lcomp0F_eq]; done) | (funext a1; unfold ccompF ccomp; simp only [lenF_eq, appF_eq, setF_eq, nthF_eq, lgetF_eq, lsetF_eq, nonesF_eq, selcF_eq, pickF_eq, picksF_eq, pickcF_eq, uptoF_eq, flookF_eq, allNF_eq, eqVF_eq, okVF_eq, binSF_eq, cbinF_eq, cmpSF_eq, ccmpF_eq, tcmpF_eq, tcmp2F_eq, itemSF_eq, csubF_eq, cbutF_eq, icNextF_eq, itNextF_eq, lforF_eq, lcompF_eq, icOfF_eq, glocF_eq, isCellF_eq, gcelF_eq, gtupF_eq, cforF_eq, lenVF_eq, b_lenF_eq, b_tupleF_eq, b_listF_eq, ivalF_eq, ienmF_eq, izip2F_eq, izip3F_eq, cfunF_eq, cemitF_eq, cnestF_eq, lcomp0F_eq]; rfl) | (funext a1 a2; cases a2 <;> (unfold ccompF ccomp; simp only [lenF_eq, appF_eq, setF_eq, nthF_eq, lgetF_eq, lsetF_eq, nonesF_eq, selcF_eq, pickF_eq, picksF_eq, pickcF_eq, uptoF_eq, flookF_eq, allNF_eq, eqVF_eq, okVF_eq, binSF_eq, cbinF_eq, cmpSF_eq, ccmpF_eq, tcmpF_eq, tcmp2F_eq, itemSF_eq, csubF_eq, cbutF_eq, icNextF_eq, itNextF_eq, lforF_eq, lcompF_eq, icOfF_eq, glocF_eq, isCellF_eq, gcelF_eq, gtupF_eq, cforF_eq, lenVF_eq, b_lenF_eq, b_tupleF_eq, b_listF_eq, ivalF_eq, ienmF_eq, izip2F_eq, izip3F_eq, cfunF_eq, cemitF_eq, cnestF_eq, lcomp0F_eq]; try rfl))
noncomputable def casgcF (fuel : Nat) (ms : List Nat) (nl : Nat) (tt : Bool) (ci : CI) (g : CG) (ct : CT) (body : CB) (gt : CG) : CS := fun loc cel σ n _ x => match Nat.beq (lenF (selcF ms cel)) (lenF ms) with
  | true => ci loc cel σ (fun I σ1 => lcomp0F fuel ms nl tt g ct body cel I σ1 (fun v σ2 => gt v loc cel σ2 n)) x
  | false => false
theorem casgcF_eq : @casgcF = @casgc := by
  first | rfl | (unfold casgcF casgc; simp only [lenF_eq, appF_eq, setF_eq, nthF_eq, lgetF_eq, lsetF_eq, nonesF_eq, selcF_eq, pickF_eq, picksF_eq, pickcF_eq, uptoF_eq, flookF_eq, allNF_eq, eqVF_eq, okVF_eq, binSF_eq, cbinF_eq, cmpSF_eq, ccmpF_eq, tcmpF_eq, tcmp2F_eq, itemSF_eq, csubF_eq, cbutF_eq, icNextF_eq, itNextF_eq, lforF_eq, lcompF_eq, icOfF_eq, glocF_eq, isCellF_eq, gcelF_eq, gtupF_eq, cforF_eq, lenVF_eq, b_lenF_eq, b_tupleF_eq, b_listF_eq, ivalF_eq, ienmF_eq, izip2F_eq, izip3F_eq, cfunF_eq, cemitF_eq, cnestF_eq, lcomp0F_eq, ccompF_eq]; done) | (unfold casgcF casgc; simp only [lenF_eq, appF_eq, setF_eq, nthF_eq, lgetF_eq, lsetF_eq, nonesF_eq, selcF_eq, pickF_eq, picksF_eq, pickcF_eq, uptoF_eq, flookF_eq, allNF_eq, eqVF_eq, okVF_eq, binSF_eq, cbinF_eq, cmpSF_eq, ccmpF_eq, tcmpF_eq, tcmp2F_eq, itemSF_eq, csubF_eq, cbutF_eq, icNextF_eq, itNextF_eq, lforF_eq, lcompF_eq, icOfF_eq, glocF_eq, isCellF_eq, gcelF_eq, gtupF_eq, cforF_eq, lenVF_eq, b_lenF_eq, b_tupleF_eq, b_listF_eq, ivalF_eq, ienmF_eq, izip2F_eq, izip3F_eq, cfunF_eq, cemitF_eq, cnestF_eq, lcomp0F_eq, ccompF_eq]; rfl) | (funext a1; unfold casgcF casgc; simp only [lenF_eq, appF_eq, setF_eq, nthF_eq, lgetF_eq, lsetF_eq, nonesF_eq, selcF_eq, pickF_eq, picksF_eq, pickcF_eq, uptoF_eq, flookF_eq, allNF_eq, eqVF_eq, okVF_eq, binSF_eq, cbinF_eq, cmpSF_eq, ccmpF_eq, tcmpF_eq, tcmp2F_eq, itemSF_eq, csubF_eq, cbutF_eq, icNextF_eq, itNextF_eq, lforF_eq, lcompF_eq, icOfF_eq, glocF_eq, isCellF_eq, gcelF_eq, gtupF_eq, cforF_eq, lenVF_eq, b_lenF_eq, b_tupleF_eq, b_listF_eq, ivalF_eq, ienmF_eq, izip2F_eq, izip3F_eq, cfunF_eq, cemitF_eq, cnestF_eq, lcomp0F_eq, ccompF_eq]; done) | (funext a1; unfold casgcF casgc; simp only [lenF_eq, appF_eq, setF_eq, nthF_eq, lgetF_eq, lsetF_eq, nonesF_eq, selcF_eq, pickF_eq, picksF_eq, pickcF_eq, uptoF_eq, flookF_eq, allNF_eq, eqVF_eq, okVF_eq, binSF_eq, cbinF_eq, cmpSF_eq, ccmpF_eq, tcmpF_eq, tcmp2F_eq, itemSF_eq, csubF_eq, cbutF_eq, icNextF_eq, itNextF_eq, lforF_eq, lcompF_eq, icOfF_eq, glocF_eq, isCellF_eq, gcelF_eq, gtupF_eq, cforF_eq, lenVF_eq, b_lenF_eq, b_tupleF_eq, b_listF_eq, ivalF_eq, ienmF_eq, izip2F_eq, izip3F_eq, cfunF_eq, cemitF_eq, cnestF_eq, lcomp0F_eq, ccompF_eq]; rfl) | (funext a1 a2; cases a2 <;> (unfold casgcF casgc; simp only [lenF_eq, appF_eq, setF_eq, nthF_eq, lgetF_eq, lsetF_eq, nonesF_eq, selcF_eq, pickF_eq, picksF_eq, pickcF_eq, uptoF_eq, flookF_eq, allNF_eq, eqVF_eq, okVF_eq, binSF_eq, cbinF_eq, cmpSF_eq, ccmpF_eq, tcmpF_eq, tcmp2F_eq, itemSF_eq, csubF_eq, cbutF_eq, icNextF_eq, itNextF_eq, lforF_eq, lcompF_eq, icOfF_eq, glocF_eq, isCellF_eq, gcelF_eq, gtupF_eq, cforF_eq, lenVF_eq, b_lenF_eq, b_tupleF_eq, b_listF_eq, ivalF_eq, ienmF_eq, izip2F_eq, izip3F_eq, cfunF_eq, cemitF_eq, cnestF_eq, lcomp0F_eq, ccompF_eq]; try rfl))
noncomputable def cattrF (C i : Nat) (cv : CE) : CE := fun loc cel σ k x => cv loc cel σ (fun a σ1 => match a with
  | .ins C' d => (match Nat.beq C' C with
    | true => (match nthF σ1 d with
      | some o => (match o with | .dct fs => (match flookF fs i with | some v => (match okH v with | true => k v σ1 | false => false) | none => false) | _ => false)
      | none => false)
    | false => false)
  | _ => false) x
theorem cattrF_eq : @cattrF = @cattr := by
  first | rfl | (unfold cattrF cattr; simp only [lenF_eq, appF_eq, setF_eq, nthF_eq, lgetF_eq, lsetF_eq, nonesF_eq, selcF_eq, pickF_eq, picksF_eq, pickcF_eq, uptoF_eq, flookF_eq, allNF_eq, eqVF_eq, okVF_eq, binSF_eq, cbinF_eq, cmpSF_eq, ccmpF_eq, tcmpF_eq, tcmp2F_eq, itemSF_eq, csubF_eq, cbutF_eq, icNextF_eq, itNextF_eq, lforF_eq, lcompF_eq, icOfF_eq, glocF_eq, isCellF_eq, gcelF_eq, gtupF_eq, cforF_eq, lenVF_eq, b_lenF_eq, b_tupleF_eq, b_listF_eq, ivalF_eq, ienmF_eq, izip2F_eq, izip3F_eq, cfunF_eq, cemitF_eq, cnestF_eq, lcomp0F_eq, ccompF_eq, casgcF_eq]; done) | (unfold cattrF cattr; simp only [lenF_eq, appF_eq, setF_eq, nthF_eq, lgetF_eq, lsetF_eq, nonesF_eq, selcF_eq, pickF_eq, picksF_eq, pickcF_eq, uptoF_eq, flookF_eq, allNF_eq, eqVF_eq, okVF_eq, binSF_eq, cbinF_eq, cmpSF_eq, ccmpF_eq, tcmpF_eq, tcmp2F_eq, itemSF_eq, csubF_eq, cbutF_eq, icNextF_eq, itNextF_eq, lforF_eq, lcompF_eq, icOfF_eq, glocF_eq, isCellF_eq, gcelF_eq, gtupF_eq, cforF_eq, lenVF_eq, b_lenF_eq, b_tupleF_eq, b_listF_eq, ivalF_eq, ienmF_eq, izip2F_eq, izip3F_eq, cfunF_eq, cemitF_eq, cnestF_eq, lcomp0F_eq, ccompF_eq, casgcF_eq]; rfl) | (funext a1; unfold cattrF cattr; simp only [lenF_eq, appF_eq, setF_eq, nthF_eq, lgetF_eq, lsetF_eq, nonesF_eq, selcF_eq, pickF_eq, picksF_eq, pickcF_eq, uptoF_eq, flookF_eq, allNF_eq, eqVF_eq, okVF_eq, binSF_eq, cbinF_eq, cmpSF_eq, ccmpF_eq, tcmpF_eq, tcmp2F_eq, itemSF_eq, csubF_eq, cbutF_eq, icNextF_eq, itNextF_eq, lforF_eq, lcompF_eq, icOfF_eq, glocF_eq, isCellF_eq, gcelF_eq, gtupF_eq, cforF_eq, lenVF_eq, b_lenF_eq, b_tupleF_eq, b_listF_eq, ivalF_eq, ienmF_eq, izip2F_eq, izip3F_eq, cfunF_eq, cemitF_eq, cnestF_eq, lcomp0F_eq, ccompF_eq, casgcF_eq]; done) | (funext a1; unfold cattrF cattr; simp only [lenF_eq, appF_eq, setF_eq, nthF_eq, lgetF_eq, lsetF_eq, nonesF_eq, selcF_eq, pickF_eq, picksF_eq, pickcF_eq, uptoF_eq, flookF_eq, allNF_eq, eqVF_eq, okVF_eq, binSF_eq, cbinF_eq, cmpSF_eq, ccmpF_eq, tcmpF_eq, tcmp2F_eq, itemSF_eq, csubF_eq, cbutF_eq, icNextF_eq, itNextF_eq, lforF_eq, lcompF_eq, icOfF_eq, glocF_eq, isCellF_eq, gcelF_eq, gtupF_eq, cforF_eq, lenVF_eq, b_lenF_eq, b_tupleF_eq, b_listF_eq, ivalF_eq, ienmF_eq, izip2F_eq, izip3F_eq, cfunF_eq, cemitF_eq, cnestF_eq, lcomp0F_eq, ccompF_eq, casgcF_eq]; rfl) | (funext a1 a2; cases a2 <;> (unfold cattrF cattr; simp only [lenF_eq, appF_eq, setF_eq, nthF_eq, lgetF_eq, lsetF_eq, nonesF_eq, selcF_eq, pickF_eq, picksF_eq, pickcF_eq, uptoF_eq, flookF_eq, allNF_eq, eqVF_eq, okVF_eq, binSF_eq, cbinF_eq, cmpSF_eq, ccmpF_eq, tcmpF_eq, tcmp2F_eq, itemSF_eq, csubF_eq, cbutF_eq, icNextF_eq, itNextF_eq, lforF_eq, lcompF_eq, icOfF_eq, glocF_eq, isCellF_eq, gcelF_eq, gtupF_eq, cforF_eq, lenVF_eq, b_lenF_eq, b_tupleF_eq, b_listF_eq, ivalF_eq, ienmF_eq, izip2F_eq, izip3F_eq, cfunF_eq, cemitF_eq, cnestF_eq, lcomp0F_eq, ccompF_eq, casgcF_eq]; try rfl))
noncomputable def cmethF (C : Nat) (co : CE) (cs : CEs) (c : CF) : CE := fun loc cel σ k x => co loc cel σ (fun a σ1 => match a with
  | .ins C' d => (match Nat.beq C' C with
    | true => (match nthF σ1 d with
      | some ob => (match ob with | .dct _ => cs loc cel σ1 (fun vs σ2 => c (a :: vs) σ2 k x) x | _ => false)
      | none => false)
    | false => false)
  | _ => false) x
theorem cmethF_eq : @cmethF = @cmeth := by
  first | rfl | (unfold cmethF cmeth; simp only [lenF_eq, appF_eq, setF_eq, nthF_eq, lgetF_eq, lsetF_eq, nonesF_eq, selcF_eq, pickF_eq, picksF_eq, pickcF_eq, uptoF_eq, flookF_eq, allNF_eq, eqVF_eq, okVF_eq, binSF_eq, cbinF_eq, cmpSF_eq, ccmpF_eq, tcmpF_eq, tcmp2F_eq, itemSF_eq, csubF_eq, cbutF_eq, icNextF_eq, itNextF_eq, lforF_eq, lcompF_eq, icOfF_eq, glocF_eq, isCellF_eq, gcelF_eq, gtupF_eq, cforF_eq, lenVF_eq, b_lenF_eq, b_tupleF_eq, b_listF_eq, ivalF_eq, ienmF_eq, izip2F_eq, izip3F_eq, cfunF_eq, cemitF_eq, cnestF_eq, lcomp0F_eq, ccompF_eq, casgcF_eq, cattrF_eq]; done) | (unfold cmethF cmeth; simp only [lenF_eq, appF_eq, setF_eq, nthF_eq, lgetF_eq, lsetF_eq, nonesF_eq, selcF_eq, pickF_eq, picksF_eq, pickcF_eq, uptoF_eq, flookF_eq, allNF_eq, eqVF_eq, okVF_eq, binSF_eq, cbinF_eq, cmpSF_eq, ccmpF_eq, tcmpF_eq, tcmp2F_eq, itemSF_eq, csubF_eq, cbutF_eq, icNextF_eq, itNextF_eq, lforF_eq, lcompF_eq, icOfF_eq, glocF_eq, isCellF_eq, gcelF_eq, gtupF_eq, cforF_eq, lenVF_eq, b_lenF_eq, b_tupleF_eq, b_listF_eq, ivalF_eq, ienmF_eq, izip2F_eq, izip3F_eq, cfunF_eq, cemitF_eq, cnestF_eq, lcomp0F_eq, ccompF_eq, casgcF_eq, cattrF_eq]; rfl) | (funext a1; unfold cmethF cmeth; simp only [lenF_eq, appF_eq, setF_eq, nthF_eq, lgetF_eq, lsetF_eq, nonesF_eq, selcF_eq, pickF_eq, picksF_eq, pickcF_eq, uptoF_eq, flookF_eq, allNF_eq, eqVF_eq, okVF_eq, binSF_eq, cbinF_eq, cmpSF_eq, ccmpF_eq, tcmpF_eq, tcmp2F_eq, itemSF_eq, csubF_eq, cbutF_eq, icNextF_eq, itNextF_eq, lforF_eq, lcompF_eq, icOfF_eq, glocF_eq, isCellF_eq, gcelF_eq, gtupF_eq, cforF_eq, lenVF_eq, b_lenF_eq, b_tupleF_eq, b_listF_eq, ivalF_eq, ienmF_eq, izip2F_eq, izip3F_eq, cfunF_eq, cemitF_eq, cnestF_eq, lcomp0F_eq, ccompF_eq, casgcF_eq, cattrF_eq]; done) | (funext a1; unfold cmethF cmeth; simp only [lenF_eq, appF_eq, setF_eq, nthF_eq, lgetF_eq, lsetF_eq, nonesF_eq, selcF_eq, pickF_eq, picksF_eq, pickcF_eq, uptoF_eq, flookF_eq, allNF_eq, eqVF_eq, okVF_eq, binSF_eq, cbinF_eq, cmpSF_eq, ccmpF_eq, tcmpF_eq, tcmp2F_eq, itemSF_eq, csubF_eq, cbutF_eq, icNextF_eq, itNextF_eq, lforF_eq, lcompF_eq, icOfF_eq, glocF_eq, isCellF_eq, gcelF_eq, gtupF_eq, cforF_eq, lenVF_eq, b_lenF_eq, b_tupleF_eq, b_listF_eq, ivalF_eq, ienmF_eq, izip2F_eq, izip3F_eq, cfunF_eq, cemitF_eq, cnestF_eq, lcomp0F_eq, ccompF_eq, casgcF_eq, cattrF_eq]; rfl) | (funext a1 a2; cases a2 <;> (unfold cmethF cmeth; simp only [lenF_eq, appF_eq, setF_eq, nthF_eq, lgetF_eq, lsetF_eq, nonesF_eq, selcF_eq, pickF_eq, picksF_eq, pickcF_eq, uptoF_eq, flookF_eq, allNF_eq, eqVF_eq, okVF_eq, binSF_eq, cbinF_eq, cmpSF_eq, ccmpF_eq, tcmpF_eq, tcmp2F_eq, itemSF_eq, csubF_eq, cbutF_eq, icNextF_eq, itNextF_eq, lforF_eq, lcompF_eq, icOfF_eq, glocF_eq, isCellF_eq, gcelF_eq, gtupF_eq, cforF_eq, lenVF_eq, b_lenF_eq, b_tupleF_eq, b_listF_eq, ivalF_eq, ienmF_eq, izip2F_eq, izip3F_eq, cfunF_eq, cemitF_eq, cnestF_eq, lcomp0F_eq, ccompF_eq, casgcF_eq, cattrF_eq]; try rfl))
noncomputable def cappF (co ce : CE) : CE := fun loc cel σ k x => co loc cel σ (fun a σ1 => match a with
  | .ref j => (match nthF σ1 j with
    | some ob => (match ob with
      | .lst _ => ce loc cel σ1 (fun v σ2 => match nthF σ2 j with
        | some ob => (match ob with | .lst vs => (match Nat.ble (lenF vs) 1000 with | true => k .none (setF σ2 j (.lst (appF vs [v]))) | false => false) | _ => false)
        | none => false) x
      | _ => false)
    | none => false)
  | _ => false) x
theorem cappF_eq : @cappF = @capp := by
  first | rfl | (unfold cappF capp; simp only [lenF_eq, appF_eq, setF_eq, nthF_eq, lgetF_eq, lsetF_eq, nonesF_eq, selcF_eq, pickF_eq, picksF_eq, pickcF_eq, uptoF_eq, flookF_eq, allNF_eq, eqVF_eq, okVF_eq, binSF_eq, cbinF_eq, cmpSF_eq, ccmpF_eq, tcmpF_eq, tcmp2F_eq, itemSF_eq, csubF_eq, cbutF_eq, icNextF_eq, itNextF_eq, lforF_eq, lcompF_eq, icOfF_eq, glocF_eq, isCellF_eq, gcelF_eq, gtupF_eq, cforF_eq, lenVF_eq, b_lenF_eq, b_tupleF_eq, b_listF_eq, ivalF_eq, ienmF_eq, izip2F_eq, izip3F_eq, cfunF_eq, cemitF_eq, cnestF_eq, lcomp0F_eq, ccompF_eq, casgcF_eq, cattrF_eq, cmethF_eq]; done) | (unfold cappF capp; simp only [lenF_eq, appF_eq, setF_eq, nthF_eq, lgetF_eq, lsetF_eq, nonesF_eq, selcF_eq, pickF_eq, picksF_eq, pickcF_eq, uptoF_eq, flookF_eq, allNF_eq, eqVF_eq, okVF_eq, binSF_eq, cbinF_eq, cmpSF_eq, ccmpF_eq, tcmpF_eq, tcmp2F_eq, itemSF_eq, csubF_eq, cbutF_eq, icNextF_eq, itNextF_eq, lforF_eq, lcompF_eq, icOfF_eq, glocF_eq, isCellF_eq, gcelF_eq, gtupF_eq, cforF_eq, lenVF_eq, b_lenF_eq, b_tupleF_eq, b_listF_eq, ivalF_eq, ienmF_eq, izip2F_eq, izip3F_eq, cfunF_eq, cemitF_eq, cnestF_eq, lcomp0F_eq, ccompF_eq, casgcF_eq, cattrF_eq, cmethF_eq]; rfl) | (funext a1; unfold cappF capp; simp only [lenF_eq, appF_eq, setF_eq, nthF_eq, lgetF_eq, lsetF_eq, nonesF_eq, selcF_eq, pickF_eq, picksF_eq, pickcF_eq, uptoF_eq, flookF_eq, allNF_eq, eqVF_eq, okVF_eq, binSF_eq, cbinF_eq, cmpSF_eq, ccmpF_eq, tcmpF_eq, tcmp2F_eq, itemSF_eq, csubF_eq, cbutF_eq, icNextF_eq, itNextF_eq, lforF_eq, lcompF_eq, icOfF_eq, glocF_eq, isCellF_eq, gcelF_eq, gtupF_eq, cforF_eq, lenVF_eq, b_lenF_eq, b_tupleF_eq, b_listF_eq, ivalF_eq, ienmF_eq, izip2F_eq, izip3F_eq, cfunF_eq, cemitF_eq, cnestF_eq, lcomp0F_eq, ccompF_eq, casgcF_eq, cattrF_eq, cmethF_eq]; done) | (funext a1; unfold cappF capp; simp only [lenF_eq, appF_eq, setF_eq, nthF_eq, lgetF_eq, lsetF_eq, nonesF_eq, selcF_eq, pickF_eq, picksF_eq, pickcF_eq, uptoF_eq, flookF_eq, allNF_eq, eqVF_eq, okVF_eq, binSF_eq, cbinF_eq, cmpSF_eq, ccmpF_eq, tcmpF_eq, tcmp2F_eq, itemSF_eq, csubF_eq, cbutF_eq, icNextF_eq, itNextF_eq, lforF_eq, lcompF_eq, icOfF_eq, glocF_eq, isCellF_eq, gcelF_eq, gtupF_eq, cforF_eq, lenVF_eq, b_lenF_eq, b_tupleF_eq, b_listF_eq, ivalF_eq, ienmF_eq, izip2F_eq, izip3F_eq, cfunF_eq, cemitF_eq, cnestF_eq, lcomp0F_eq, ccompF_eq, casgcF_eq, cattrF_eq, cmethF_eq]; rfl) | (funext a1 a2; cases a2 <;> (unfold cappF capp; simp only [lenF_eq, appF_eq, setF_eq, nthF_eq, lgetF_eq, lsetF_eq, nonesF_eq, selcF_eq, pickF_eq, picksF_eq, pickcF_eq, uptoF_eq, flookF_eq, allNF_eq, eqVF_eq, okVF_eq, binSF_eq, cbinF_eq, cmpSF_eq, ccmpF_eq, tcmpF_eq, tcmp2F_eq, itemSF_eq, csubF_eq, cbutF_eq, icNextF_eq, itNextF_eq, lforF_eq, lcompF_eq, icOfF_eq, glocF_eq, isCellF_eq, gcelF_eq, gtupF_eq, cforF_eq, lenVF_eq, b_lenF_eq, b_tupleF_eq, b_listF_eq, ivalF_eq, ienmF_eq, izip2F_eq, izip3F_eq, cfunF_eq, cemitF_eq, cnestF_eq, lcomp0F_eq, ccompF_eq, casgcF_eq, cattrF_eq, cmethF_eq]; try rfl))
noncomputable def cpopF (co : CE) : CE := fun loc cel σ k x => co loc cel σ (fun a σ1 => match a with
  | .ref j => (match nthF σ1 j with
    | some ob => (match ob with
      | .lst vs => (match nthF vs ((lenF vs) - 1) with | some v => (match Nat.ble (lenF vs) 1000 with | true => k v (setF σ1 j (.lst vs.dropLast)) | false => false) | none => false)
      | _ => false)
    | none => false)
  | _ => false) x
theorem cpopF_eq : @cpopF = @cpop := by
  first | rfl | (unfold cpopF cpop; simp only [lenF_eq, appF_eq, setF_eq, nthF_eq, lgetF_eq, lsetF_eq, nonesF_eq, selcF_eq, pickF_eq, picksF_eq, pickcF_eq, uptoF_eq, flookF_eq, allNF_eq, eqVF_eq, okVF_eq, binSF_eq, cbinF_eq, cmpSF_eq, ccmpF_eq, tcmpF_eq, tcmp2F_eq, itemSF_eq, csubF_eq, cbutF_eq, icNextF_eq, itNextF_eq, lforF_eq, lcompF_eq, icOfF_eq, glocF_eq, isCellF_eq, gcelF_eq, gtupF_eq, cforF_eq, lenVF_eq, b_lenF_eq, b_tupleF_eq, b_listF_eq, ivalF_eq, ienmF_eq, izip2F_eq, izip3F_eq, cfunF_eq, cemitF_eq, cnestF_eq, lcomp0F_eq, ccompF_eq, casgcF_eq, cattrF_eq, cmethF_eq, cappF_eq]; done) | (unfold cpopF cpop; simp only [lenF_eq, appF_eq, setF_eq, nthF_eq, lgetF_eq, lsetF_eq, nonesF_eq, selcF_eq, pickF_eq, picksF_eq, pickcF_eq, uptoF_eq, flookF_eq, allNF_eq, eqVF_eq, okVF_eq, binSF_eq, cbinF_eq, cmpSF_eq, ccmpF_eq, tcmpF_eq, tcmp2F_eq, itemSF_eq, csubF_eq, cbutF_eq, icNextF_eq, itNextF_eq, lforF_eq, lcompF_eq, icOfF_eq, glocF_eq, isCellF_eq, gcelF_eq, gtupF_eq, cforF_eq, lenVF_eq, b_lenF_eq, b_tupleF_eq, b_listF_eq, ivalF_eq, ienmF_eq, izip2F_eq, izip3F_eq, cfunF_eq, cemitF_eq, cnestF_eq, lcomp0F_eq, ccompF_eq, casgcF_eq, cattrF_eq, cmethF_eq, cappF_eq]; rfl) | (funext a1; unfold cpopF cpop; simp only [lenF_eq, appF_eq, setF_eq, nthF_eq, lgetF_eq, lsetF_eq, nonesF_eq, selcF_eq, pickF_eq, picksF_eq, pickcF_eq, uptoF_eq, flookF_eq, allNF_eq, eqVF_eq, okVF_eq, binSF_eq, cbinF_eq, cmpSF_eq, ccmpF_eq, tcmpF_eq, tcmp2F_eq, itemSF_eq, csubF_eq, cbutF_eq, icNextF_eq, itNextF_eq, lforF_eq, lcompF_eq, icOfF_eq, glocF_eq, isCellF_eq, gcelF_eq, gtupF_eq, cforF_eq, lenVF_eq, b_lenF_eq, b_tupleF_eq, b_listF_eq, ivalF_eq, ienmF_eq, izip2F_eq, izip3F_eq, cfunF_eq, cemitF_eq, cnestF_eq, lcomp0F_eq, ccompF_eq, casgcF_eq, cattrF_eq, cmethF_eq, cappF_eq]; done) | (funext a1; unfold cpopF cpop; simp only [lenF_eq, appF_eq, setF_eq, nthF_eq, lgetF_eq, lsetF_eq, nonesF_eq, selcF_eq, pickF_eq, picksF_eq, pickcF_eq, uptoF_eq, flookF_eq, allNF_eq, eqVF_eq, okVF_eq, binSF_eq, cbinF_eq, cmpSF_eq, ccmpF_eq, tcmpF_eq, tcmp2F_eq, itemSF_eq, csubF_eq, cbutF_eq, icNextF_eq, itNextF_eq, lforF_eq, lcompF_eq, icOfF_eq, glocF_eq, isCellF_eq, gcelF_eq, gtupF_eq, cforF_eq, lenVF_eq, b_lenF_eq, b_tupleF_eq, b_listF_eq, ivalF_eq, ienmF_eq, izip2F_eq, izip3F_eq, cfunF_eq, cemitF_eq, cnestF_eq, lcomp0F_eq, ccompF_eq, casgcF_eq, cattrF_eq, cmethF_eq, cappF_eq]; rfl) | (funext a1 a2; cases a2 <;> (unfold cpopF cpop; simp only [lenF_eq, appF_eq, setF_eq, nthF_eq, lgetF_eq, lsetF_eq, nonesF_eq, selcF_eq, pickF_eq, picksF_eq, pickcF_eq, uptoF_eq, flookF_eq, allNF_eq, eqVF_eq, okVF_eq, binSF_eq, cbinF_eq, cmpSF_eq, ccmpF_eq, tcmpF_eq, tcmp2F_eq, itemSF_eq, csubF_eq, cbutF_eq, icNextF_eq, itNextF_eq, lforF_eq, lcompF_eq, icOfF_eq, glocF_eq, isCellF_eq, gcelF_eq, gtupF_eq, cforF_eq, lenVF_eq, b_lenF_eq, b_tupleF_eq, b_listF_eq, ivalF_eq, ienmF_eq, izip2F_eq, izip3F_eq, cfunF_eq, cemitF_eq, cnestF_eq, lcomp0F_eq, ccompF_eq, casgcF_eq, cattrF_eq, cmethF_eq, cappF_eq]; try rfl))
noncomputable def gitemF (co ci : CE) : CG := fun v loc cel σ n => co loc cel σ (fun a σ1 => ci loc cel σ1 (fun x σ2 => match a with
  | .ref j => (match x with
    | .int z => (match nthF σ2 j with
      | some ob => (match ob with
        | .lst vs => (match idxZ z (lenF vs) with | some k => n loc (setF σ2 j (.lst (setF vs k v))) | none => false)
        | _ => false)
      | none => false)
    | _ => false)
  | _ => false) dead) dead
theorem gitemF_eq : @gitemF = @gitem := by
  first | rfl | (unfold gitemF gitem; simp only [lenF_eq, appF_eq, setF_eq, nthF_eq, lgetF_eq, lsetF_eq, nonesF_eq, selcF_eq, pickF_eq, picksF_eq, pickcF_eq, uptoF_eq, flookF_eq, allNF_eq, eqVF_eq, okVF_eq, binSF_eq, cbinF_eq, cmpSF_eq, ccmpF_eq, tcmpF_eq, tcmp2F_eq, itemSF_eq, csubF_eq, cbutF_eq, icNextF_eq, itNextF_eq, lforF_eq, lcompF_eq, icOfF_eq, glocF_eq, isCellF_eq, gcelF_eq, gtupF_eq, cforF_eq, lenVF_eq, b_lenF_eq, b_tupleF_eq, b_listF_eq, ivalF_eq, ienmF_eq, izip2F_eq, izip3F_eq, cfunF_eq, cemitF_eq, cnestF_eq, lcomp0F_eq, ccompF_eq, casgcF_eq, cattrF_eq, cmethF_eq, cappF_eq, cpopF_eq]; done) | (unfold gitemF gitem; simp only [lenF_eq, appF_eq, setF_eq, nthF_eq, lgetF_eq, lsetF_eq, nonesF_eq, selcF_eq, pickF_eq, picksF_eq, pickcF_eq, uptoF_eq, flookF_eq, allNF_eq, eqVF_eq, okVF_eq, binSF_eq, cbinF_eq, cmpSF_eq, ccmpF_eq, tcmpF_eq, tcmp2F_eq, itemSF_eq, csubF_eq, cbutF_eq, icNextF_eq, itNextF_eq, lforF_eq, lcompF_eq, icOfF_eq, glocF_eq, isCellF_eq, gcelF_eq, gtupF_eq, cforF_eq, lenVF_eq, b_lenF_eq, b_tupleF_eq, b_listF_eq, ivalF_eq, ienmF_eq, izip2F_eq, izip3F_eq, cfunF_eq, cemitF_eq, cnestF_eq, lcomp0F_eq, ccompF_eq, casgcF_eq, cattrF_eq, cmethF_eq, cappF_eq, cpopF_eq]; rfl) | (funext a1; unfold gitemF gitem; simp only [lenF_eq, appF_eq, setF_eq, nthF_eq, lgetF_eq, lsetF_eq, nonesF_eq, selcF_eq, pickF_eq, picksF_eq, pickcF_eq, uptoF_eq, flookF_eq, allNF_eq, eqVF_eq, okVF_eq, binSF_eq, cbinF_eq, cmpSF_eq, ccmpF_eq, tcmpF_eq, tcmp2F_eq, itemSF_eq, csubF_eq, cbutF_eq, icNextF_eq, itNextF_eq, lforF_eq, lcompF_eq, icOfF_eq, glocF_eq, isCellF_eq, gcelF_eq, gtupF_eq, cforF_eq, lenVF_eq, b_lenF_eq, b_tupleF_eq, b_listF_eq, ivalF_eq, ienmF_eq, izip2F_eq, izip3F_eq, cfunF_eq, cemitF_eq, cnestF_eq, lcomp0F_eq, ccompF_eq, casgcF_eq, cattrF_eq, cmethF_eq, cappF_eq, cpopF_eq]; done) | (funext a1; unfold gitemF gitem; simp only [lenF_eq, appF_eq, setF_eq, nthF_eq, lgetF_eq, lsetF_eq, nonesF_eq, selcF_eq, pickF_eq, picksF_eq, pickcF_eq, uptoF_eq, flookF_eq, allNF_eq, eqVF_eq, okVF_eq, binSF_eq, cbinF_eq, cmpSF_eq, ccmpF_eq, tcmpF_eq, tcmp2F_eq, itemSF_eq, csubF_eq, cbutF_eq, icNextF_eq, itNextF_eq, lforF_eq, lcompF_eq, icOfF_eq, glocF_eq, isCellF_eq, gcelF_eq, gtupF_eq, cforF_eq, lenVF_eq, b_lenF_eq, b_tupleF_eq, b_listF_eq, ivalF_eq, ienmF_eq, izip2F_eq, izip3F_eq, cfunF_eq, cemitF_eq, cnestF_eq, lcomp0F_eq, ccompF_eq, casgcF_eq, cattrF_eq, cmethF_eq, cappF_eq, cpopF_eq]; rfl) | (funext a1 a2; cases a2 <;> (unfold gitemF gitem; simp only [lenF_eq, appF_eq, setF_eq, nthF_eq, lgetF_eq, lsetF_eq, nonesF_eq, selcF_eq, pickF_eq, picksF_eq, pickcF_eq, uptoF_eq, flookF_eq, allNF_eq, eqVF_eq, okVF_eq, binSF_eq, cbinF_eq, cmpSF_eq, ccmpF_eq, tcmpF_eq, tcmp2F_eq, itemSF_eq, csubF_eq, cbutF_eq, icNextF_eq, itNextF_eq, lforF_eq, lcompF_eq, icOfF_eq, glocF_eq, isCellF_eq, gcelF_eq, gtupF_eq, cforF_eq, lenVF_eq, b_lenF_eq, b_tupleF_eq, b_listF_eq, ivalF_eq, ienmF_eq, izip2F_eq, izip3F_eq, cfunF_eq, cemitF_eq, cnestF_eq, lcomp0F_eq, ccompF_eq, casgcF_eq, cattrF_eq, cmethF_eq, cappF_eq, cpopF_eq]; try rfl))
noncomputable def gattrF (C i : Nat) (co : CE) : CG := fun v loc cel σ n => co loc cel σ (fun a σ1 => match a with
  | .ins C' d => (match Nat.beq C' C with
    | true => (match nthF σ1 d with
      | some ob => (match ob with
        | .dct fs => (match flookF fs i with
          | some _ => (match fs.all fun q => Nat.blt q.1 7 with | true => n loc (setF σ1 d (.dct (fset fs i v))) | false => false)
          | none => false)
        | _ => false)
      | none => false)
    | false => false)
  | _ => false) dead
theorem gattrF_eq : @gattrF = @gattr := by
  first | rfl | (unfold gattrF gattr; simp only [lenF_eq, appF_eq, setF_eq, nthF_eq, lgetF_eq, lsetF_eq, nonesF_eq, selcF_eq, pickF_eq, picksF_eq, pickcF_eq, uptoF_eq, flookF_eq, allNF_eq, eqVF_eq, okVF_eq, binSF_eq, cbinF_eq, cmpSF_eq, ccmpF_eq, tcmpF_eq, tcmp2F_eq, itemSF_eq, csubF_eq, cbutF_eq, icNextF_eq, itNextF_eq, lforF_eq, lcompF_eq, icOfF_eq, glocF_eq, isCellF_eq, gcelF_eq, gtupF_eq, cforF_eq, lenVF_eq, b_lenF_eq, b_tupleF_eq, b_listF_eq, ivalF_eq, ienmF_eq, izip2F_eq, izip3F_eq, cfunF_eq, cemitF_eq, cnestF_eq, lcomp0F_eq, ccompF_eq, casgcF_eq, cattrF_eq, cmethF_eq, cappF_eq, cpopF_eq, gitemF_eq]; done) | (unfold gattrF gattr; simp only [lenF_eq, appF_eq, setF_eq, nthF_eq, lgetF_eq, lsetF_eq, nonesF_eq, selcF_eq, pickF_eq, picksF_eq, pickcF_eq, uptoF_eq, flookF_eq, allNF_eq, eqVF_eq, okVF_eq, binSF_eq, cbinF_eq, cmpSF_eq, ccmpF_eq, tcmpF_eq, tcmp2F_eq, itemSF_eq, csubF_eq, cbutF_eq, icNextF_eq, itNextF_eq, lforF_eq, lcompF_eq, icOfF_eq, glocF_eq, isCellF_eq, gcelF_eq, gtupF_eq, cforF_eq, lenVF_eq, b_lenF_eq, b_tupleF_eq, b_listF_eq, ivalF_eq, ienmF_eq, izip2F_eq, izip3F_eq, cfunF_eq, cemitF_eq, cnestF_eq, lcomp0F_eq, ccompF_eq, casgcF_eq, cattrF_eq, cmethF_eq, cappF_eq, cpopF_eq, gitemF_eq]; rfl) | (funext a1; unfold gattrF gattr; simp only [lenF_eq, appF_eq, setF_eq, nthF_eq, lgetF_eq, lsetF_eq, nonesF_eq, selcF_eq, pickF_eq, picksF_eq, pickcF_eq, uptoF_eq, flookF_eq, allNF_eq, eqVF_eq, okVF_eq, binSF_eq, cbinF_eq, cmpSF_eq, ccmpF_eq, tcmpF_eq, tcmp2F_eq, itemSF_eq, csubF_eq, cbutF_eq, icNextF_eq, itNextF_eq, lforF_eq, lcompF_eq, icOfF_eq, glocF_eq, isCellF_eq, gcelF_eq, gtupF_eq, cforF_eq, lenVF_eq, b_lenF_eq, b_tupleF_eq, b_listF_eq, ivalF_eq, ienmF_eq, izip2F_eq, izip3F_eq, cfunF_eq, cemitF_eq, cnestF_eq, lcomp0F_eq, ccompF_eq, casgcF_eq, cattrF_eq, cmethF_eq, cappF_eq, cpopF_eq, gitemF_eq]; done) | (funext a1; unfold gattrF gattr; simp only [lenF_eq, appF_eq, setF_eq, nthF_eq, lgetF_eq, lsetF_eq, nonesF_eq, selcF_eq, pickF_eq, picksF_eq, pickcF_eq, uptoF_eq, flookF_eq, allNF_eq, eqVF_eq, okVF_eq, binSF_eq, cbinF_eq, cmpSF_eq, ccmpF_eq, tcmpF_eq, tcmp2F_eq, itemSF_eq, csubF_eq, cbutF_eq, icNextF_eq, itNextF_eq, lforF_eq, lcompF_eq, icOfF_eq, glocF_eq, isCellF_eq, gcelF_eq, gtupF_eq, cforF_eq, lenVF_eq, b_lenF_eq, b_tupleF_eq, b_listF_eq, ivalF_eq, ienmF_eq, izip2F_eq, izip3F_eq, cfunF_eq, cemitF_eq, cnestF_eq, lcomp0F_eq, ccompF_eq, casgcF_eq, cattrF_eq, cmethF_eq, cappF_eq, cpopF_eq, gitemF_eq]; rfl) | (funext a1 a2; cases a2 <;> (unfold gattrF gattr; simp only [lenF_eq, appF_eq, setF_eq, nthF_eq, lgetF_eq, lsetF_eq, nonesF_eq, selcF_eq, pickF_eq, picksF_eq, pickcF_eq, uptoF_eq, flookF_eq, allNF_eq, eqVF_eq, okVF_eq, binSF_eq, cbinF_eq, cmpSF_eq, ccmpF_eq, tcmpF_eq, tcmp2F_eq, itemSF_eq, csubF_eq, cbutF_eq, icNextF_eq, itNextF_eq, lforF_eq, lcompF_eq, icOfF_eq, glocF_eq, isCellF_eq, gcelF_eq, gtupF_eq, cforF_eq, lenVF_eq, b_lenF_eq, b_tupleF_eq, b_listF_eq, ivalF_eq, ienmF_eq, izip2F_eq, izip3F_eq, cfunF_eq, cemitF_eq, cnestF_eq, lcomp0F_eq, ccompF_eq, casgcF_eq, cattrF_eq, cmethF_eq, cappF_eq, cpopF_eq, gitemF_eq]; try rfl))
noncomputable def cfunxF (n : Nat) (li ci : List (Option Nat)) (c : CE) : CF := fun vs σ k x => match Nat.beq (lenF vs) n with
  | true => c (picksF vs li) (uptoF (lenF σ) ci) (appF σ (pickcF vs ci)) k x
  | false => false
theorem cfunxF_eq : @cfunxF = @cfunx := by
  first | rfl | (unfold cfunxF cfunx; simp only [lenF_eq, appF_eq, setF_eq, nthF_eq, lgetF_eq, lsetF_eq, nonesF_eq, selcF_eq, pickF_eq, picksF_eq, pickcF_eq, uptoF_eq, flookF_eq, allNF_eq, eqVF_eq, okVF_eq, binSF_eq, cbinF_eq, cmpSF_eq, ccmpF_eq, tcmpF_eq, tcmp2F_eq, itemSF_eq, csubF_eq, cbutF_eq, icNextF_eq, itNextF_eq, lforF_eq, lcompF_eq, icOfF_eq, glocF_eq, isCellF_eq, gcelF_eq, gtupF_eq, cforF_eq, lenVF_eq, b_lenF_eq, b_tupleF_eq, b_listF_eq, ivalF_eq, ienmF_eq, izip2F_eq, izip3F_eq, cfunF_eq, cemitF_eq, cnestF_eq, lcomp0F_eq, ccompF_eq, casgcF_eq, cattrF_eq, cmethF_eq, cappF_eq, cpopF_eq, gitemF_eq, gattrF_eq]; done) | (unfold cfunxF cfunx; simp only [lenF_eq, appF_eq, setF_eq, nthF_eq, lgetF_eq, lsetF_eq, nonesF_eq, selcF_eq, pickF_eq, picksF_eq, pickcF_eq, uptoF_eq, flookF_eq, allNF_eq, eqVF_eq, okVF_eq, binSF_eq, cbinF_eq, cmpSF_eq, ccmpF_eq, tcmpF_eq, tcmp2F_eq, itemSF_eq, csubF_eq, cbutF_eq, icNextF_eq, itNextF_eq, lforF_eq, lcompF_eq, icOfF_eq, glocF_eq, isCellF_eq, gcelF_eq, gtupF_eq, cforF_eq, lenVF_eq, b_lenF_eq, b_tupleF_eq, b_listF_eq, ivalF_eq, ienmF_eq, izip2F_eq, izip3F_eq, cfunF_eq, cemitF_eq, cnestF_eq, lcomp0F_eq, ccompF_eq, casgcF_eq, cattrF_eq, cmethF_eq, cappF_eq, cpopF_eq, gitemF_eq, gattrF_eq]; rfl) | (funext a1; unfold cfunxF cfunx; simp only [lenF_eq, appF_eq, setF_eq, nthF_eq, lgetF_eq, lsetF_eq, nonesF_eq, selcF_eq, pickF_eq, picksF_eq, pickcF_eq, uptoF_eq, flookF_eq, allNF_eq, eqVF_eq, okVF_eq, binSF_eq, cbinF_eq, cmpSF_eq, ccmpF_eq, tcmpF_eq, tcmp2F_eq, itemSF_eq, csubF_eq, cbutF_eq, icNextF_eq, itNextF_eq, lforF_eq, lcompF_eq, icOfF_eq, glocF_eq, isCellF_eq, gcelF_eq, gtupF_eq, cforF_eq, lenVF_eq, b_lenF_eq, b_tupleF_eq, b_listF_eq, ivalF_eq, ienmF_eq, izip2F_eq, izip3F_eq, cfunF_eq, cemitF_eq, cnestF_eq, lcomp0F_eq, ccompF_eq, casgcF_eq, cattrF_eq, cmethF_eq, cappF_eq, cpopF_eq, gitemF_eq, gattrF_eq]; done) | (funext a1; unfold cfunxF cfunx; simp only [lenF_eq, appF_eq, setF_eq, nthF_eq, lgetF_eq, lsetF_eq, nonesF_eq, selcF_eq, pickF_eq, picksF_eq, pickcF_eq, uptoF_eq, flookF_eq, allNF_eq, eqVF_eq, okVF_eq, binSF_eq, cbinF_eq, cmpSF_eq, ccmpF_eq, tcmpF_eq, tcmp2F_eq, itemSF_eq, csubF_eq, cbutF_eq, icNextF_eq, itNextF_eq, lforF_eq, lcompF_eq, icOfF_eq, glocF_eq, isCellF_eq, gcelF_eq, gtupF_eq, cforF_eq, lenVF_eq, b_lenF_eq, b_tupleF_eq, b_listF_eq, ivalF_eq, ienmF_eq, izip2F_eq, izip3F_eq, cfunF_eq, cemitF_eq, cnestF_eq, lcomp0F_eq, ccompF_eq, casgcF_eq, cattrF_eq, cmethF_eq, cappF_eq, cpopF_eq, gitemF_eq, gattrF_eq]; rfl) | (funext a1 a2; cases a2 <;> (unfold cfunxF cfunx; simp only [lenF_eq, appF_eq, setF_eq, nthF_eq, lgetF_eq, lsetF_eq, nonesF_eq, selcF_eq, pickF_eq, picksF_eq, pickcF_eq, uptoF_eq, flookF_eq, allNF_eq, eqVF_eq, okVF_eq, binSF_eq, cbinF_eq, cmpSF_eq, ccmpF_eq, tcmpF_eq, tcmp2F_eq, itemSF_eq, csubF_eq, cbutF_eq, icNextF_eq, itNextF_eq, lforF_eq, lcompF_eq, icOfF_eq, glocF_eq, isCellF_eq, gcelF_eq, gtupF_eq, cforF_eq, lenVF_eq, b_lenF_eq, b_tupleF_eq, b_listF_eq, ivalF_eq, ienmF_eq, izip2F_eq, izip3F_eq, cfunF_eq, cemitF_eq, cnestF_eq, lcomp0F_eq, ccompF_eq, casgcF_eq, cattrF_eq, cmethF_eq, cappF_eq, cpopF_eq, gitemF_eq, gattrF_eq]; try rfl))
noncomputable def cthingF : CF := fun vs σ k _ => match vs with
  | [a, b, c] => k (.ins 141 (lenF σ)) (appF σ [.dct [(0, a), (1, b), (2, c)]])
  | _ => false
theorem cthingF_eq : @cthingF = @cthing := by
  first | rfl | (unfold cthingF cthing; simp only [lenF_eq, appF_eq, setF_eq, nthF_eq, lgetF_eq, lsetF_eq, nonesF_eq, selcF_eq, pickF_eq, picksF_eq, pickcF_eq, uptoF_eq, flookF_eq, allNF_eq, eqVF_eq, okVF_eq, binSF_eq, cbinF_eq, cmpSF_eq, ccmpF_eq, tcmpF_eq, tcmp2F_eq, itemSF_eq, csubF_eq, cbutF_eq, icNextF_eq, itNextF_eq, lforF_eq, lcompF_eq, icOfF_eq, glocF_eq, isCellF_eq, gcelF_eq, gtupF_eq, cforF_eq, lenVF_eq, b_lenF_eq, b_tupleF_eq, b_listF_eq, ivalF_eq, ienmF_eq, izip2F_eq, izip3F_eq, cfunF_eq, cemitF_eq, cnestF_eq, lcomp0F_eq, ccompF_eq, casgcF_eq, cattrF_eq, cmethF_eq, cappF_eq, cpopF_eq, gitemF_eq, gattrF_eq, cfunxF_eq]; done) | (unfold cthingF cthing; simp only [lenF_eq, appF_eq, setF_eq, nthF_eq, lgetF_eq, lsetF_eq, nonesF_eq, selcF_eq, pickF_eq, picksF_eq, pickcF_eq, uptoF_eq, flookF_eq, allNF_eq, eqVF_eq, okVF_eq, binSF_eq, cbinF_eq, cmpSF_eq, ccmpF_eq, tcmpF_eq, tcmp2F_eq, itemSF_eq, csubF_eq, cbutF_eq, icNextF_eq, itNextF_eq, lforF_eq, lcompF_eq, icOfF_eq, glocF_eq, isCellF_eq, gcelF_eq, gtupF_eq, cforF_eq, lenVF_eq, b_lenF_eq, b_tupleF_eq, b_listF_eq, ivalF_eq, ienmF_eq, izip2F_eq, izip3F_eq, cfunF_eq, cemitF_eq, cnestF_eq, lcomp0F_eq, ccompF_eq, casgcF_eq, cattrF_eq, cmethF_eq, cappF_eq, cpopF_eq, gitemF_eq, gattrF_eq, cfunxF_eq]; rfl) | (funext a1; unfold cthingF cthing; simp only [lenF_eq, appF_eq, setF_eq, nthF_eq, lgetF_eq, lsetF_eq, nonesF_eq, selcF_eq, pickF_eq, picksF_eq, pickcF_eq, uptoF_eq, flookF_eq, allNF_eq, eqVF_eq, okVF_eq, binSF_eq, cbinF_eq, cmpSF_eq, ccmpF_eq, tcmpF_eq, tcmp2F_eq, itemSF_eq, csubF_eq, cbutF_eq, icNextF_eq, itNextF_eq, lforF_eq, lcompF_eq, icOfF_eq, glocF_eq, isCellF_eq, gcelF_eq, gtupF_eq, cforF_eq, lenVF_eq, b_lenF_eq, b_tupleF_eq, b_listF_eq, ivalF_eq, ienmF_eq, izip2F_eq, izip3F_eq, cfunF_eq, cemitF_eq, cnestF_eq, lcomp0F_eq, ccompF_eq, casgcF_eq, cattrF_eq, cmethF_eq, cappF_eq, cpopF_eq, gitemF_eq, gattrF_eq, cfunxF_eq]; done) | (funext a1; unfold cthingF cthing; simp only [lenF_eq, appF_eq, setF_eq, nthF_eq, lgetF_eq, lsetF_eq, nonesF_eq, selcF_eq, pickF_eq, picksF_eq, pickcF_eq, uptoF_eq, flookF_eq, allNF_eq, eqVF_eq, okVF_eq, binSF_eq, cbinF_eq, cmpSF_eq, ccmpF_eq, tcmpF_eq, tcmp2F_eq, itemSF_eq, csubF_eq, cbutF_eq, icNextF_eq, itNextF_eq, lforF_eq, lcompF_eq, icOfF_eq, glocF_eq, isCellF_eq, gcelF_eq, gtupF_eq, cforF_eq, lenVF_eq, b_lenF_eq, b_tupleF_eq, b_listF_eq, ivalF_eq, ienmF_eq, izip2F_eq, izip3F_eq, cfunF_eq, cemitF_eq, cnestF_eq, lcomp0F_eq, ccompF_eq, casgcF_eq, cattrF_eq, cmethF_eq, cappF_eq, cpopF_eq, gitemF_eq, gattrF_eq, cfunxF_eq]; rfl) | (funext a1 a2; cases a2 <;> (unfold cthingF cthing; simp only [lenF_eq, appF_eq, setF_eq, nthF_eq, lgetF_eq, lsetF_eq, nonesF_eq, selcF_eq, pickF_eq, picksF_eq, pickcF_eq, uptoF_eq, flookF_eq, allNF_eq, eqVF_eq, okVF_eq, binSF_eq, cbinF_eq, cmpSF_eq, ccmpF_eq, tcmpF_eq, tcmp2F_eq, itemSF_eq, csubF_eq, cbutF_eq, icNextF_eq, itNextF_eq, lforF_eq, lcompF_eq, icOfF_eq, glocF_eq, isCellF_eq, gcelF_eq, gtupF_eq, cforF_eq, lenVF_eq, b_lenF_eq, b_tupleF_eq, b_listF_eq, ivalF_eq, ienmF_eq, izip2F_eq, izip3F_eq, cfunF_eq, cemitF_eq, cnestF_eq, lcomp0F_eq, ccompF_eq, casgcF_eq, cattrF_eq, cmethF_eq, cappF_eq, cpopF_eq, gitemF_eq, gattrF_eq, cfunxF_eq]; try rfl))
noncomputable def cheapF : CF := fun vs σ k _ => match vs with
  | [] => k (.ins 197 (lenF (appF σ [AO.lst []]))) (appF (appF σ [AO.lst []]) [AO.dct [(3, .ref (lenF σ))]])
  | _ => false
theorem cheapF_eq : @cheapF = @cheap := by
  first | rfl | (unfold cheapF cheap; simp only [lenF_eq, appF_eq, setF_eq, nthF_eq, lgetF_eq, lsetF_eq, nonesF_eq, selcF_eq, pickF_eq, picksF_eq, pickcF_eq, uptoF_eq, flookF_eq, allNF_eq, eqVF_eq, okVF_eq, binSF_eq, cbinF_eq, cmpSF_eq, ccmpF_eq, tcmpF_eq, tcmp2F_eq, itemSF_eq, csubF_eq, cbutF_eq, icNextF_eq, itNextF_eq, lforF_eq, lcompF_eq, icOfF_eq, glocF_eq, isCellF_eq, gcelF_eq, gtupF_eq, cforF_eq, lenVF_eq, b_lenF_eq, b_tupleF_eq, b_listF_eq, ivalF_eq, ienmF_eq, izip2F_eq, izip3F_eq, cfunF_eq, cemitF_eq, cnestF_eq, lcomp0F_eq, ccompF_eq, casgcF_eq, cattrF_eq, cmethF_eq, cappF_eq, cpopF_eq, gitemF_eq, gattrF_eq, cfunxF_eq, cthingF_eq]; done) | (unfold cheapF cheap; simp only [lenF_eq, appF_eq, setF_eq, nthF_eq, lgetF_eq, lsetF_eq, nonesF_eq, selcF_eq, pickF_eq, picksF_eq, pickcF_eq, uptoF_eq, flookF_eq, allNF_eq, eqVF_eq, okVF_eq, binSF_eq, cbinF_eq, cmpSF_eq, ccmpF_eq, tcmpF_eq, tcmp2F_eq, itemSF_eq, csubF_eq, cbutF_eq, icNextF_eq, itNextF_eq, lforF_eq, lcompF_eq, icOfF_eq, glocF_eq, isCellF_eq, gcelF_eq, gtupF_eq, cforF_eq, lenVF_eq, b_lenF_eq, b_tupleF_eq, b_listF_eq, ivalF_eq, ienmF_eq, izip2F_eq, izip3F_eq, cfunF_eq, cemitF_eq, cnestF_eq, lcomp0F_eq, ccompF_eq, casgcF_eq, cattrF_eq, cmethF_eq, cappF_eq, cpopF_eq, gitemF_eq, gattrF_eq, cfunxF_eq, cthingF_eq]; rfl) | (funext a1; unfold cheapF cheap; simp only [lenF_eq, appF_eq, setF_eq, nthF_eq, lgetF_eq, lsetF_eq, nonesF_eq, selcF_eq, pickF_eq, picksF_eq, pickcF_eq, uptoF_eq, flookF_eq, allNF_eq, eqVF_eq, okVF_eq, binSF_eq, cbinF_eq, cmpSF_eq, ccmpF_eq, tcmpF_eq, tcmp2F_eq, itemSF_eq, csubF_eq, cbutF_eq, icNextF_eq, itNextF_eq, lforF_eq, lcompF_eq, icOfF_eq, glocF_eq, isCellF_eq, gcelF_eq, gtupF_eq, cforF_eq, lenVF_eq, b_lenF_eq, b_tupleF_eq, b_listF_eq, ivalF_eq, ienmF_eq, izip2F_eq, izip3F_eq, cfunF_eq, cemitF_eq, cnestF_eq, lcomp0F_eq, ccompF_eq, casgcF_eq, cattrF_eq, cmethF_eq, cappF_eq, cpopF_eq, gitemF_eq, gattrF_eq, cfunxF_eq, cthingF_eq]; done) | (funext a1; unfold cheapF cheap; simp only [lenF_eq, appF_eq, setF_eq, nthF_eq, lgetF_eq, lsetF_eq, nonesF_eq, selcF_eq, pickF_eq, picksF_eq, pickcF_eq, uptoF_eq, flookF_eq, allNF_eq, eqVF_eq, okVF_eq, binSF_eq, cbinF_eq, cmpSF_eq, ccmpF_eq, tcmpF_eq, tcmp2F_eq, itemSF_eq, csubF_eq, cbutF_eq, icNextF_eq, itNextF_eq, lforF_eq, lcompF_eq, icOfF_eq, glocF_eq, isCellF_eq, gcelF_eq, gtupF_eq, cforF_eq, lenVF_eq, b_lenF_eq, b_tupleF_eq, b_listF_eq, ivalF_eq, ienmF_eq, izip2F_eq, izip3F_eq, cfunF_eq, cemitF_eq, cnestF_eq, lcomp0F_eq, ccompF_eq, casgcF_eq, cattrF_eq, cmethF_eq, cappF_eq, cpopF_eq, gitemF_eq, gattrF_eq, cfunxF_eq, cthingF_eq]; rfl) | (funext a1 a2; cases a2 <;> (unfold cheapF cheap; simp only [lenF_eq, appF_eq, setF_eq, nthF_eq, lgetF_eq, lsetF_eq, nonesF_eq, selcF_eq, pickF_eq, picksF_eq, pickcF_eq, uptoF_eq, flookF_eq, allNF_eq, eqVF_eq, okVF_eq, binSF_eq, cbinF_eq, cmpSF_eq, ccmpF_eq, tcmpF_eq, tcmp2F_eq, itemSF_eq, csubF_eq, cbutF_eq, icNextF_eq, itNextF_eq, lforF_eq, lcompF_eq, icOfF_eq, glocF_eq, isCellF_eq, gcelF_eq, gtupF_eq, cforF_eq, lenVF_eq, b_lenF_eq, b_tupleF_eq, b_listF_eq, ivalF_eq, ienmF_eq, izip2F_eq, izip3F_eq, cfunF_eq, cemitF_eq, cnestF_eq, lcomp0F_eq, ccompF_eq, casgcF_eq, cattrF_eq, cmethF_eq, cappF_eq, cpopF_eq, gitemF_eq, gattrF_eq, cfunxF_eq, cthingF_eq]; try rfl))
noncomputable def cheardF (ms : List Nat) (c : CE) : CE := fun _ cel σ k _ => match Nat.beq (lenF (selcF ms cel)) (lenF ms) with
  | true => c [] (selcF ms cel) σ k (heardX k)
  | false => false
theorem cheardF_eq : @cheardF = @cheard := by
  first | rfl | (unfold cheardF cheard; simp only [lenF_eq, appF_eq, setF_eq, nthF_eq, lgetF_eq, lsetF_eq, nonesF_eq, selcF_eq, pickF_eq, picksF_eq, pickcF_eq, uptoF_eq, flookF_eq, allNF_eq, eqVF_eq, okVF_eq, binSF_eq, cbinF_eq, cmpSF_eq, ccmpF_eq, tcmpF_eq, tcmp2F_eq, itemSF_eq, csubF_eq, cbutF_eq, icNextF_eq, itNextF_eq, lforF_eq, lcompF_eq, icOfF_eq, glocF_eq, isCellF_eq, gcelF_eq, gtupF_eq, cforF_eq, lenVF_eq, b_lenF_eq, b_tupleF_eq, b_listF_eq, ivalF_eq, ienmF_eq, izip2F_eq, izip3F_eq, cfunF_eq, cemitF_eq, cnestF_eq, lcomp0F_eq, ccompF_eq, casgcF_eq, cattrF_eq, cmethF_eq, cappF_eq, cpopF_eq, gitemF_eq, gattrF_eq, cfunxF_eq, cthingF_eq, cheapF_eq]; done) | (unfold cheardF cheard; simp only [lenF_eq, appF_eq, setF_eq, nthF_eq, lgetF_eq, lsetF_eq, nonesF_eq, selcF_eq, pickF_eq, picksF_eq, pickcF_eq, uptoF_eq, flookF_eq, allNF_eq, eqVF_eq, okVF_eq, binSF_eq, cbinF_eq, cmpSF_eq, ccmpF_eq, tcmpF_eq, tcmp2F_eq, itemSF_eq, csubF_eq, cbutF_eq, icNextF_eq, itNextF_eq, lforF_eq, lcompF_eq, icOfF_eq, glocF_eq, isCellF_eq, gcelF_eq, gtupF_eq, cforF_eq, lenVF_eq, b_lenF_eq, b_tupleF_eq, b_listF_eq, ivalF_eq, ienmF_eq, izip2F_eq, izip3F_eq, cfunF_eq, cemitF_eq, cnestF_eq, lcomp0F_eq, ccompF_eq, casgcF_eq, cattrF_eq, cmethF_eq, cappF_eq, cpopF_eq, gitemF_eq, gattrF_eq, cfunxF_eq, cthingF_eq, cheapF_eq]; rfl) | (funext a1; unfold cheardF cheard; simp only [lenF_eq, appF_eq, setF_eq, nthF_eq, lgetF_eq, lsetF_eq, nonesF_eq, selcF_eq, pickF_eq, picksF_eq, pickcF_eq, uptoF_eq, flookF_eq, allNF_eq, eqVF_eq, okVF_eq, binSF_eq, cbinF_eq, cmpSF_eq, ccmpF_eq, tcmpF_eq, tcmp2F_eq, itemSF_eq, csubF_eq, cbutF_eq, icNextF_eq, itNextF_eq, lforF_eq, lcompF_eq, icOfF_eq, glocF_eq, isCellF_eq, gcelF_eq, gtupF_eq, cforF_eq, lenVF_eq, b_lenF_eq, b_tupleF_eq, b_listF_eq, ivalF_eq, ienmF_eq, izip2F_eq, izip3F_eq, cfunF_eq, cemitF_eq, cnestF_eq, lcomp0F_eq, ccompF_eq, casgcF_eq, cattrF_eq, cmethF_eq, cappF_eq, cpopF_eq, gitemF_eq, gattrF_eq, cfunxF_eq, cthingF_eq, cheapF_eq]; done) | (funext a1; unfold cheardF cheard; simp only [lenF_eq, appF_eq, setF_eq, nthF_eq, lgetF_eq, lsetF_eq, nonesF_eq, selcF_eq, pickF_eq, picksF_eq, pickcF_eq, uptoF_eq, flookF_eq, allNF_eq, eqVF_eq, okVF_eq, binSF_eq, cbinF_eq, cmpSF_eq, ccmpF_eq, tcmpF_eq, tcmp2F_eq, itemSF_eq, csubF_eq, cbutF_eq, icNextF_eq, itNextF_eq, lforF_eq, lcompF_eq, icOfF_eq, glocF_eq, isCellF_eq, gcelF_eq, gtupF_eq, cforF_eq, lenVF_eq, b_lenF_eq, b_tupleF_eq, b_listF_eq, ivalF_eq, ienmF_eq, izip2F_eq, izip3F_eq, cfunF_eq, cemitF_eq, cnestF_eq, lcomp0F_eq, ccompF_eq, casgcF_eq, cattrF_eq, cmethF_eq, cappF_eq, cpopF_eq, gitemF_eq, gattrF_eq, cfunxF_eq, cthingF_eq, cheapF_eq]; rfl) | (funext a1 a2; cases a2 <;> (unfold cheardF cheard; simp only [lenF_eq, appF_eq, setF_eq, nthF_eq, lgetF_eq, lsetF_eq, nonesF_eq, selcF_eq, pickF_eq, picksF_eq, pickcF_eq, uptoF_eq, flookF_eq, allNF_eq, eqVF_eq, okVF_eq, binSF_eq, cbinF_eq, cmpSF_eq, ccmpF_eq, tcmpF_eq, tcmp2F_eq, itemSF_eq, csubF_eq, cbutF_eq, icNextF_eq, itNextF_eq, lforF_eq, lcompF_eq, icOfF_eq, glocF_eq, isCellF_eq, gcelF_eq, gtupF_eq, cforF_eq, lenVF_eq, b_lenF_eq, b_tupleF_eq, b_listF_eq, ivalF_eq, ienmF_eq, izip2F_eq, izip3F_eq, cfunF_eq, cemitF_eq, cnestF_eq, lcomp0F_eq, ccompF_eq, casgcF_eq, cattrF_eq, cmethF_eq, cappF_eq, cpopF_eq, gitemF_eq, gattrF_eq, cfunxF_eq, cthingF_eq, cheapF_eq]; try rfl))
noncomputable def clocF (i : Nat) : CE := fun loc _ σ kk _ => match lgetF loc i with | some v => kk v σ | none => false
theorem clocF_eq : @clocF = @cloc := by
  first | rfl | (unfold clocF cloc; simp only [lenF_eq, appF_eq, setF_eq, nthF_eq, lgetF_eq, lsetF_eq, nonesF_eq, selcF_eq, pickF_eq, picksF_eq, pickcF_eq, uptoF_eq, flookF_eq, allNF_eq, eqVF_eq, okVF_eq, binSF_eq, cbinF_eq, cmpSF_eq, ccmpF_eq, tcmpF_eq, tcmp2F_eq, itemSF_eq, csubF_eq, cbutF_eq, icNextF_eq, itNextF_eq, lforF_eq, lcompF_eq, icOfF_eq, glocF_eq, isCellF_eq, gcelF_eq, gtupF_eq, cforF_eq, lenVF_eq, b_lenF_eq, b_tupleF_eq, b_listF_eq, ivalF_eq, ienmF_eq, izip2F_eq, izip3F_eq, cfunF_eq, cemitF_eq, cnestF_eq, lcomp0F_eq, ccompF_eq, casgcF_eq, cattrF_eq, cmethF_eq, cappF_eq, cpopF_eq, gitemF_eq, gattrF_eq, cfunxF_eq, cthingF_eq, cheapF_eq, cheardF_eq]; done) | (unfold clocF cloc; simp only [lenF_eq, appF_eq, setF_eq, nthF_eq, lgetF_eq, lsetF_eq, nonesF_eq, selcF_eq, pickF_eq, picksF_eq, pickcF_eq, uptoF_eq, flookF_eq, allNF_eq, eqVF_eq, okVF_eq, binSF_eq, cbinF_eq, cmpSF_eq, ccmpF_eq, tcmpF_eq, tcmp2F_eq, itemSF_eq, csubF_eq, cbutF_eq, icNextF_eq, itNextF_eq, lforF_eq, lcompF_eq, icOfF_eq, glocF_eq, isCellF_eq, gcelF_eq, gtupF_eq, cforF_eq, lenVF_eq, b_lenF_eq, b_tupleF_eq, b_listF_eq, ivalF_eq, ienmF_eq, izip2F_eq, izip3F_eq, cfunF_eq, cemitF_eq, cnestF_eq, lcomp0F_eq, ccompF_eq, casgcF_eq, cattrF_eq, cmethF_eq, cappF_eq, cpopF_eq, gitemF_eq, gattrF_eq, cfunxF_eq, cthingF_eq, cheapF_eq, cheardF_eq]; rfl) | (funext a1; unfold clocF cloc; simp only [lenF_eq, appF_eq, setF_eq, nthF_eq, lgetF_eq, lsetF_eq, nonesF_eq, selcF_eq, pickF_eq, picksF_eq, pickcF_eq, uptoF_eq, flookF_eq, allNF_eq, eqVF_eq, okVF_eq, binSF_eq, cbinF_eq, cmpSF_eq, ccmpF_eq, tcmpF_eq, tcmp2F_eq, itemSF_eq, csubF_eq, cbutF_eq, icNextF_eq, itNextF_eq, lforF_eq, lcompF_eq, icOfF_eq, glocF_eq, isCellF_eq, gcelF_eq, gtupF_eq, cforF_eq, lenVF_eq, b_lenF_eq, b_tupleF_eq, b_listF_eq, ivalF_eq, ienmF_eq, izip2F_eq, izip3F_eq, cfunF_eq, cemitF_eq, cnestF_eq, lcomp0F_eq, ccompF_eq, casgcF_eq, cattrF_eq, cmethF_eq, cappF_eq, cpopF_eq, gitemF_eq, gattrF_eq, cfunxF_eq, cthingF_eq, cheapF_eq, cheardF_eq]; done) | (funext a1; unfold clocF cloc; simp only [lenF_eq, appF_eq, setF_eq, nthF_eq, lgetF_eq, lsetF_eq, nonesF_eq, selcF_eq, pickF_eq, picksF_eq, pickcF_eq, uptoF_eq, flookF_eq, allNF_eq, eqVF_eq, okVF_eq, binSF_eq, cbinF_eq, cmpSF_eq, ccmpF_eq, tcmpF_eq, tcmp2F_eq, itemSF_eq, csubF_eq, cbutF_eq, icNextF_eq, itNextF_eq, lforF_eq, lcompF_eq, icOfF_eq, glocF_eq, isCellF_eq, gcelF_eq, gtupF_eq, cforF_eq, lenVF_eq, b_lenF_eq, b_tupleF_eq, b_listF_eq, ivalF_eq, ienmF_eq, izip2F_eq, izip3F_eq, cfunF_eq, cemitF_eq, cnestF_eq, lcomp0F_eq, ccompF_eq, casgcF_eq, cattrF_eq, cmethF_eq, cappF_eq, cpopF_eq, gitemF_eq, gattrF_eq, cfunxF_eq, cthingF_eq, cheapF_eq, cheardF_eq]; rfl) | (funext a1 a2; cases a2 <;> (unfold clocF cloc; simp only [lenF_eq, appF_eq, setF_eq, nthF_eq, lgetF_eq, lsetF_eq, nonesF_eq, selcF_eq, pickF_eq, picksF_eq, pickcF_eq, uptoF_eq, flookF_eq, allNF_eq, eqVF_eq, okVF_eq, binSF_eq, cbinF_eq, cmpSF_eq, ccmpF_eq, tcmpF_eq, tcmp2F_eq, itemSF_eq, csubF_eq, cbutF_eq, icNextF_eq, itNextF_eq, lforF_eq, lcompF_eq, icOfF_eq, glocF_eq, isCellF_eq, gcelF_eq, gtupF_eq, cforF_eq, lenVF_eq, b_lenF_eq, b_tupleF_eq, b_listF_eq, ivalF_eq, ienmF_eq, izip2F_eq, izip3F_eq, cfunF_eq, cemitF_eq, cnestF_eq, lcomp0F_eq, ccompF_eq, casgcF_eq, cattrF_eq, cmethF_eq, cappF_eq, cpopF_eq, gitemF_eq, gattrF_eq, cfunxF_eq, cthingF_eq, cheapF_eq, cheardF_eq]; try rfl))
noncomputable def ccelF (i : Nat) : CE := fun _ cel σ kk _ => match nthF cel i with | some j => (match nthF σ j with | some (.cell (some v)) => kk v σ | _ => false) | none => false
theorem ccelF_eq : @ccelF = @ccel := by
  first | rfl | (unfold ccelF ccel; simp only [lenF_eq, appF_eq, setF_eq, nthF_eq, lgetF_eq, lsetF_eq, nonesF_eq, selcF_eq, pickF_eq, picksF_eq, pickcF_eq, uptoF_eq, flookF_eq, allNF_eq, eqVF_eq, okVF_eq, binSF_eq, cbinF_eq, cmpSF_eq, ccmpF_eq, tcmpF_eq, tcmp2F_eq, itemSF_eq, csubF_eq, cbutF_eq, icNextF_eq, itNextF_eq, lforF_eq, lcompF_eq, icOfF_eq, glocF_eq, isCellF_eq, gcelF_eq, gtupF_eq, cforF_eq, lenVF_eq, b_lenF_eq, b_tupleF_eq, b_listF_eq, ivalF_eq, ienmF_eq, izip2F_eq, izip3F_eq, cfunF_eq, cemitF_eq, cnestF_eq, lcomp0F_eq, ccompF_eq, casgcF_eq, cattrF_eq, cmethF_eq, cappF_eq, cpopF_eq, gitemF_eq, gattrF_eq, cfunxF_eq, cthingF_eq, cheapF_eq, cheardF_eq, clocF_eq]; done) | (unfold ccelF ccel; simp only [lenF_eq, appF_eq, setF_eq, nthF_eq, lgetF_eq, lsetF_eq, nonesF_eq, selcF_eq, pickF_eq, picksF_eq, pickcF_eq, uptoF_eq, flookF_eq, allNF_eq, eqVF_eq, okVF_eq, binSF_eq, cbinF_eq, cmpSF_eq, ccmpF_eq, tcmpF_eq, tcmp2F_eq, itemSF_eq, csubF_eq, cbutF_eq, icNextF_eq, itNextF_eq, lforF_eq, lcompF_eq, icOfF_eq, glocF_eq, isCellF_eq, gcelF_eq, gtupF_eq, cforF_eq, lenVF_eq, b_lenF_eq, b_tupleF_eq, b_listF_eq, ivalF_eq, ienmF_eq, izip2F_eq, izip3F_eq, cfunF_eq, cemitF_eq, cnestF_eq, lcomp0F_eq, ccompF_eq, casgcF_eq, cattrF_eq, cmethF_eq, cappF_eq, cpopF_eq, gitemF_eq, gattrF_eq, cfunxF_eq, cthingF_eq, cheapF_eq, cheardF_eq, clocF_eq]; rfl) | (funext a1; unfold ccelF ccel; simp only [lenF_eq, appF_eq, setF_eq, nthF_eq, lgetF_eq, lsetF_eq, nonesF_eq, selcF_eq, pickF_eq, picksF_eq, pickcF_eq, uptoF_eq, flookF_eq, allNF_eq, eqVF_eq, okVF_eq, binSF_eq, cbinF_eq, cmpSF_eq, ccmpF_eq, tcmpF_eq, tcmp2F_eq, itemSF_eq, csubF_eq, cbutF_eq, icNextF_eq, itNextF_eq, lforF_eq, lcompF_eq, icOfF_eq, glocF_eq, isCellF_eq, gcelF_eq, gtupF_eq, cforF_eq, lenVF_eq, b_lenF_eq, b_tupleF_eq, b_listF_eq, ivalF_eq, ienmF_eq, izip2F_eq, izip3F_eq, cfunF_eq, cemitF_eq, cnestF_eq, lcomp0F_eq, ccompF_eq, casgcF_eq, cattrF_eq, cmethF_eq, cappF_eq, cpopF_eq, gitemF_eq, gattrF_eq, cfunxF_eq, cthingF_eq, cheapF_eq, cheardF_eq, clocF_eq]; done) | (funext a1; unfold ccelF ccel; simp only [lenF_eq, appF_eq, setF_eq, nthF_eq, lgetF_eq, lsetF_eq, nonesF_eq, selcF_eq, pickF_eq, picksF_eq, pickcF_eq, uptoF_eq, flookF_eq, allNF_eq, eqVF_eq, okVF_eq, binSF_eq, cbinF_eq, cmpSF_eq, ccmpF_eq, tcmpF_eq, tcmp2F_eq, itemSF_eq, csubF_eq, cbutF_eq, icNextF_eq, itNextF_eq, lforF_eq, lcompF_eq, icOfF_eq, glocF_eq, isCellF_eq, gcelF_eq, gtupF_eq, cforF_eq, lenVF_eq, b_lenF_eq, b_tupleF_eq, b_listF_eq, ivalF_eq, ienmF_eq, izip2F_eq, izip3F_eq, cfunF_eq, cemitF_eq, cnestF_eq, lcomp0F_eq, ccompF_eq, casgcF_eq, cattrF_eq, cmethF_eq, cappF_eq, cpopF_eq, gitemF_eq, gattrF_eq, cfunxF_eq, cthingF_eq, cheapF_eq, cheardF_eq, clocF_eq]; rfl) | (funext a1 a2; cases a2 <;> (unfold ccelF ccel; simp only [lenF_eq, appF_eq, setF_eq, nthF_eq, lgetF_eq, lsetF_eq, nonesF_eq, selcF_eq, pickF_eq, picksF_eq, pickcF_eq, uptoF_eq, flookF_eq, allNF_eq, eqVF_eq, okVF_eq, binSF_eq, cbinF_eq, cmpSF_eq, ccmpF_eq, tcmpF_eq, tcmp2F_eq, itemSF_eq, csubF_eq, cbutF_eq, icNextF_eq, itNextF_eq, lforF_eq, lcompF_eq, icOfF_eq, glocF_eq, isCellF_eq, gcelF_eq, gtupF_eq, cforF_eq, lenVF_eq, b_lenF_eq, b_tupleF_eq, b_listF_eq, ivalF_eq, ienmF_eq, izip2F_eq, izip3F_eq, cfunF_eq, cemitF_eq, cnestF_eq, lcomp0F_eq, ccompF_eq, casgcF_eq, cattrF_eq, cmethF_eq, cappF_eq, cpopF_eq, gitemF_eq, gattrF_eq, cfunxF_eq, cthingF_eq, cheapF_eq, cheardF_eq, clocF_eq]; try rfl))
noncomputable def ctupF (cs : CEs) : CE := fun loc cel σ k x => cs loc cel σ (fun vs σ1 => Nat.ble (lenF vs) 1000 && k (.tup vs) σ1) x
theorem ctupF_eq : @ctupF = @ctup := by
  first | rfl | (unfold ctupF ctup; simp only [lenF_eq, appF_eq, setF_eq, nthF_eq, lgetF_eq, lsetF_eq, nonesF_eq, selcF_eq, pickF_eq, picksF_eq, pickcF_eq, uptoF_eq, flookF_eq, allNF_eq, eqVF_eq, okVF_eq, binSF_eq, cbinF_eq, cmpSF_eq, ccmpF_eq, tcmpF_eq, tcmp2F_eq, itemSF_eq, csubF_eq, cbutF_eq, icNextF_eq, itNextF_eq, lforF_eq, lcompF_eq, icOfF_eq, glocF_eq, isCellF_eq, gcelF_eq, gtupF_eq, cforF_eq, lenVF_eq, b_lenF_eq, b_tupleF_eq, b_listF_eq, ivalF_eq, ienmF_eq, izip2F_eq, izip3F_eq, cfunF_eq, cemitF_eq, cnestF_eq, lcomp0F_eq, ccompF_eq, casgcF_eq, cattrF_eq, cmethF_eq, cappF_eq, cpopF_eq, gitemF_eq, gattrF_eq, cfunxF_eq, cthingF_eq, cheapF_eq, cheardF_eq, clocF_eq, ccelF_eq]; done) | (unfold ctupF ctup; simp only [lenF_eq, appF_eq, setF_eq, nthF_eq, lgetF_eq, lsetF_eq, nonesF_eq, selcF_eq, pickF_eq, picksF_eq, pickcF_eq, uptoF_eq, flookF_eq, allNF_eq, eqVF_eq, okVF_eq, binSF_eq, cbinF_eq, cmpSF_eq, ccmpF_eq, tcmpF_eq, tcmp2F_eq, itemSF_eq, csubF_eq, cbutF_eq, icNextF_eq, itNextF_eq, lforF_eq, lcompF_eq, icOfF_eq, glocF_eq, isCellF_eq, gcelF_eq, gtupF_eq, cforF_eq, lenVF_eq, b_lenF_eq, b_tupleF_eq, b_listF_eq, ivalF_eq, ienmF_eq, izip2F_eq, izip3F_eq, cfunF_eq, cemitF_eq, cnestF_eq, lcomp0F_eq, ccompF_eq, casgcF_eq, cattrF_eq, cmethF_eq, cappF_eq, cpopF_eq, gitemF_eq, gattrF_eq, cfunxF_eq, cthingF_eq, cheapF_eq, cheardF_eq, clocF_eq, ccelF_eq]; rfl) | (funext a1; unfold ctupF ctup; simp only [lenF_eq, appF_eq, setF_eq, nthF_eq, lgetF_eq, lsetF_eq, nonesF_eq, selcF_eq, pickF_eq, picksF_eq, pickcF_eq, uptoF_eq, flookF_eq, allNF_eq, eqVF_eq, okVF_eq, binSF_eq, cbinF_eq, cmpSF_eq, ccmpF_eq, tcmpF_eq, tcmp2F_eq, itemSF_eq, csubF_eq, cbutF_eq, icNextF_eq, itNextF_eq, lforF_eq, lcompF_eq, icOfF_eq, glocF_eq, isCellF_eq, gcelF_eq, gtupF_eq, cforF_eq, lenVF_eq, b_lenF_eq, b_tupleF_eq, b_listF_eq, ivalF_eq, ienmF_eq, izip2F_eq, izip3F_eq, cfunF_eq, cemitF_eq, cnestF_eq, lcomp0F_eq, ccompF_eq, casgcF_eq, cattrF_eq, cmethF_eq, cappF_eq, cpopF_eq, gitemF_eq, gattrF_eq, cfunxF_eq, cthingF_eq, cheapF_eq, cheardF_eq, clocF_eq, ccelF_eq]; done) | (funext a1; unfold ctupF ctup; simp only [lenF_eq, appF_eq, setF_eq, nthF_eq, lgetF_eq, lsetF_eq, nonesF_eq, selcF_eq, pickF_eq, picksF_eq, pickcF_eq, uptoF_eq, flookF_eq, allNF_eq, eqVF_eq, okVF_eq, binSF_eq, cbinF_eq, cmpSF_eq, ccmpF_eq, tcmpF_eq, tcmp2F_eq, itemSF_eq, csubF_eq, cbutF_eq, icNextF_eq, itNextF_eq, lforF_eq, lcompF_eq, icOfF_eq, glocF_eq, isCellF_eq, gcelF_eq, gtupF_eq, cforF_eq, lenVF_eq, b_lenF_eq, b_tupleF_eq, b_listF_eq, ivalF_eq, ienmF_eq, izip2F_eq, izip3F_eq, cfunF_eq, cemitF_eq, cnestF_eq, lcomp0F_eq, ccompF_eq, casgcF_eq, cattrF_eq, cmethF_eq, cappF_eq, cpopF_eq, gitemF_eq, gattrF_eq, cfunxF_eq, cthingF_eq, cheapF_eq, cheardF_eq, clocF_eq, ccelF_eq]; rfl) | (funext a1 a2; cases a2 <;> (unfold ctupF ctup; simp only [lenF_eq, appF_eq, setF_eq, nthF_eq, lgetF_eq, lsetF_eq, nonesF_eq, selcF_eq, pickF_eq, picksF_eq, pickcF_eq, uptoF_eq, flookF_eq, allNF_eq, eqVF_eq, okVF_eq, binSF_eq, cbinF_eq, cmpSF_eq, ccmpF_eq, tcmpF_eq, tcmp2F_eq, itemSF_eq, csubF_eq, cbutF_eq, icNextF_eq, itNextF_eq, lforF_eq, lcompF_eq, icOfF_eq, glocF_eq, isCellF_eq, gcelF_eq, gtupF_eq, cforF_eq, lenVF_eq, b_lenF_eq, b_tupleF_eq, b_listF_eq, ivalF_eq, ienmF_eq, izip2F_eq, izip3F_eq, cfunF_eq, cemitF_eq, cnestF_eq, lcomp0F_eq, ccompF_eq, casgcF_eq, cattrF_eq, cmethF_eq, cappF_eq, cpopF_eq, gitemF_eq, gattrF_eq, cfunxF_eq, cthingF_eq, cheapF_eq, cheardF_eq, clocF_eq, ccelF_eq]; try rfl))
noncomputable def clistF (cs : CEs) : CE := fun loc cel σ k x => cs loc cel σ (fun vs σ1 => Nat.ble (lenF vs) 1000 && k (.ref (lenF σ1)) (appF σ1 [.lst vs])) x
theorem clistF_eq : @clistF = @clist := by
  first | rfl | (unfold clistF clist; simp only [lenF_eq, appF_eq, setF_eq, nthF_eq, lgetF_eq, lsetF_eq, nonesF_eq, selcF_eq, pickF_eq, picksF_eq, pickcF_eq, uptoF_eq, flookF_eq, allNF_eq, eqVF_eq, okVF_eq, binSF_eq, cbinF_eq, cmpSF_eq, ccmpF_eq, tcmpF_eq, tcmp2F_eq, itemSF_eq, csubF_eq, cbutF_eq, icNextF_eq, itNextF_eq, lforF_eq, lcompF_eq, icOfF_eq, glocF_eq, isCellF_eq, gcelF_eq, gtupF_eq, cforF_eq, lenVF_eq, b_lenF_eq, b_tupleF_eq, b_listF_eq, ivalF_eq, ienmF_eq, izip2F_eq, izip3F_eq, cfunF_eq, cemitF_eq, cnestF_eq, lcomp0F_eq, ccompF_eq, casgcF_eq, cattrF_eq, cmethF_eq, cappF_eq, cpopF_eq, gitemF_eq, gattrF_eq, cfunxF_eq, cthingF_eq, cheapF_eq, cheardF_eq, clocF_eq, ccelF_eq, ctupF_eq]; done) | (unfold clistF clist; simp only [lenF_eq, appF_eq, setF_eq, nthF_eq, lgetF_eq, lsetF_eq, nonesF_eq, selcF_eq, pickF_eq, picksF_eq, pickcF_eq, uptoF_eq, flookF_eq, allNF_eq, eqVF_eq, okVF_eq, binSF_eq, cbinF_eq, cmpSF_eq, ccmpF_eq, tcmpF_eq, tcmp2F_eq, itemSF_eq, csubF_eq, cbutF_eq, icNextF_eq, itNextF_eq, lforF_eq, lcompF_eq, icOfF_eq, glocF_eq, isCellF_eq, gcelF_eq, gtupF_eq, cforF_eq, lenVF_eq, b_lenF_eq, b_tupleF_eq, b_listF_eq, ivalF_eq, ienmF_eq, izip2F_eq, izip3F_eq, cfunF_eq, cemitF_eq, cnestF_eq, lcomp0F_eq, ccompF_eq, casgcF_eq, cattrF_eq, cmethF_eq, cappF_eq, cpopF_eq, gitemF_eq, gattrF_eq, cfunxF_eq, cthingF_eq, cheapF_eq, cheardF_eq, clocF_eq, ccelF_eq, ctupF_eq]; rfl) | (funext a1; unfold clistF clist; simp only [lenF_eq, appF_eq, setF_eq, nthF_eq, lgetF_eq, lsetF_eq, nonesF_eq, selcF_eq, pickF_eq, picksF_eq, pickcF_eq, uptoF_eq, flookF_eq, allNF_eq, eqVF_eq, okVF_eq, binSF_eq, cbinF_eq, cmpSF_eq, ccmpF_eq, tcmpF_eq, tcmp2F_eq, itemSF_eq, csubF_eq, cbutF_eq, icNextF_eq, itNextF_eq, lforF_eq, lcompF_eq, icOfF_eq, glocF_eq, isCellF_eq, gcelF_eq, gtupF_eq, cforF_eq, lenVF_eq, b_lenF_eq, b_tupleF_eq, b_listF_eq, ivalF_eq, ienmF_eq, izip2F_eq, izip3F_eq, cfunF_eq, cemitF_eq, cnestF_eq, lcomp0F_eq, ccompF_eq, casgcF_eq, cattrF_eq, cmethF_eq, cappF_eq, cpopF_eq, gitemF_eq, gattrF_eq, cfunxF_eq, cthingF_eq, cheapF_eq, cheardF_eq, clocF_eq, ccelF_eq, ctupF_eq]; done) | (funext a1; unfold clistF clist; simp only [lenF_eq, appF_eq, setF_eq, nthF_eq, lgetF_eq, lsetF_eq, nonesF_eq, selcF_eq, pickF_eq, picksF_eq, pickcF_eq, uptoF_eq, flookF_eq, allNF_eq, eqVF_eq, okVF_eq, binSF_eq, cbinF_eq, cmpSF_eq, ccmpF_eq, tcmpF_eq, tcmp2F_eq, itemSF_eq, csubF_eq, cbutF_eq, icNextF_eq, itNextF_eq, lforF_eq, lcompF_eq, icOfF_eq, glocF_eq, isCellF_eq, gcelF_eq, gtupF_eq, cforF_eq, lenVF_eq, b_lenF_eq, b_tupleF_eq, b_listF_eq, ivalF_eq, ienmF_eq, izip2F_eq, izip3F_eq, cfunF_eq, cemitF_eq, cnestF_eq, lcomp0F_eq, ccompF_eq, casgcF_eq, cattrF_eq, cmethF_eq, cappF_eq, cpopF_eq, gitemF_eq, gattrF_eq, cfunxF_eq, cthingF_eq, cheapF_eq, cheardF_eq, clocF_eq, ccelF_eq, ctupF_eq]; rfl) | (funext a1 a2; cases a2 <;> (unfold clistF clist; simp only [lenF_eq, appF_eq, setF_eq, nthF_eq, lgetF_eq, lsetF_eq, nonesF_eq, selcF_eq, pickF_eq, picksF_eq, pickcF_eq, uptoF_eq, flookF_eq, allNF_eq, eqVF_eq, okVF_eq, binSF_eq, cbinF_eq, cmpSF_eq, ccmpF_eq, tcmpF_eq, tcmp2F_eq, itemSF_eq, csubF_eq, cbutF_eq, icNextF_eq, itNextF_eq, lforF_eq, lcompF_eq, icOfF_eq, glocF_eq, isCellF_eq, gcelF_eq, gtupF_eq, cforF_eq, lenVF_eq, b_lenF_eq, b_tupleF_eq, b_listF_eq, ivalF_eq, ienmF_eq, izip2F_eq, izip3F_eq, cfunF_eq, cemitF_eq, cnestF_eq, lcomp0F_eq, ccompF_eq, casgcF_eq, cattrF_eq, cmethF_eq, cappF_eq, cpopF_eq, gitemF_eq, gattrF_eq, cfunxF_eq, cthingF_eq, cheapF_eq, cheardF_eq, clocF_eq, ccelF_eq, ctupF_eq]; try rfl))
noncomputable def drawF (n : Nat) (k : V → Bool) : Bool := match Nat.ble n 16 with
  | true => allNF n fun i => k (.int (.ofNat i))
  | false => k (.big 0 (.ofNat n))
theorem drawF_eq : @drawF = @draw := by
  first | rfl | (unfold drawF draw; simp only [lenF_eq, appF_eq, setF_eq, nthF_eq, lgetF_eq, lsetF_eq, nonesF_eq, selcF_eq, pickF_eq, picksF_eq, pickcF_eq, uptoF_eq, flookF_eq, allNF_eq, eqVF_eq, okVF_eq, binSF_eq, cbinF_eq, cmpSF_eq, ccmpF_eq, tcmpF_eq, tcmp2F_eq, itemSF_eq, csubF_eq, cbutF_eq, icNextF_eq, itNextF_eq, lforF_eq, lcompF_eq, icOfF_eq, glocF_eq, isCellF_eq, gcelF_eq, gtupF_eq, cforF_eq, lenVF_eq, b_lenF_eq, b_tupleF_eq, b_listF_eq, ivalF_eq, ienmF_eq, izip2F_eq, izip3F_eq, cfunF_eq, cemitF_eq, cnestF_eq, lcomp0F_eq, ccompF_eq, casgcF_eq, cattrF_eq, cmethF_eq, cappF_eq, cpopF_eq, gitemF_eq, gattrF_eq, cfunxF_eq, cthingF_eq, cheapF_eq, cheardF_eq, clocF_eq, ccelF_eq, ctupF_eq, clistF_eq]; done) | (unfold drawF draw; simp only [lenF_eq, appF_eq, setF_eq, nthF_eq, lgetF_eq, lsetF_eq, nonesF_eq, selcF_eq, pickF_eq, picksF_eq, pickcF_eq, uptoF_eq, flookF_eq, allNF_eq, eqVF_eq, okVF_eq, binSF_eq, cbinF_eq, cmpSF_eq, ccmpF_eq, tcmpF_eq, tcmp2F_eq, itemSF_eq, csubF_eq, cbutF_eq, icNextF_eq, itNextF_eq, lforF_eq, lcompF_eq, icOfF_eq, glocF_eq, isCellF_eq, gcelF_eq, gtupF_eq, cforF_eq, lenVF_eq, b_lenF_eq, b_tupleF_eq, b_listF_eq, ivalF_eq, ienmF_eq, izip2F_eq, izip3F_eq, cfunF_eq, cemitF_eq, cnestF_eq, lcomp0F_eq, ccompF_eq, casgcF_eq, cattrF_eq, cmethF_eq, cappF_eq, cpopF_eq, gitemF_eq, gattrF_eq, cfunxF_eq, cthingF_eq, cheapF_eq, cheardF_eq, clocF_eq, ccelF_eq, ctupF_eq, clistF_eq]; rfl) | (funext a1; unfold drawF draw; simp only [lenF_eq, appF_eq, setF_eq, nthF_eq, lgetF_eq, lsetF_eq, nonesF_eq, selcF_eq, pickF_eq, picksF_eq, pickcF_eq, uptoF_eq, flookF_eq, allNF_eq, eqVF_eq, okVF_eq, binSF_eq, cbinF_eq, cmpSF_eq, ccmpF_eq, tcmpF_eq, tcmp2F_eq, itemSF_eq, csubF_eq, cbutF_eq, icNextF_eq, itNextF_eq, lforF_eq, lcompF_eq, icOfF_eq, glocF_eq, isCellF_eq, gcelF_eq, gtupF_eq, cforF_eq, lenVF_eq, b_lenF_eq, b_tupleF_eq, b_listF_eq, ivalF_eq, ienmF_eq, izip2F_eq, izip3F_eq, cfunF_eq, cemitF_eq, cnestF_eq, lcomp0F_eq, ccompF_eq, casgcF_eq, cattrF_eq, cmethF_eq, cappF_eq, cpopF_eq, gitemF_eq, gattrF_eq, cfunxF_eq, cthingF_eq, cheapF_eq, cheardF_eq, clocF_eq, ccelF_eq, ctupF_eq, clistF_eq]; done) | (funext a1; unfold drawF draw; simp only [lenF_eq, appF_eq, setF_eq, nthF_eq, lgetF_eq, lsetF_eq, nonesF_eq, selcF_eq, pickF_eq, picksF_eq, pickcF_eq, uptoF_eq, flookF_eq, allNF_eq, eqVF_eq, okVF_eq, binSF_eq, cbinF_eq, cmpSF_eq, ccmpF_eq, tcmpF_eq, tcmp2F_eq, itemSF_eq, csubF_eq, cbutF_eq, icNextF_eq, itNextF_eq, lforF_eq, lcompF_eq, icOfF_eq, glocF_eq, isCellF_eq, gcelF_eq, gtupF_eq, cforF_eq, lenVF_eq, b_lenF_eq, b_tupleF_eq, b_listF_eq, ivalF_eq, ienmF_eq, izip2F_eq, izip3F_eq, cfunF_eq, cemitF_eq, cnestF_eq, lcomp0F_eq, ccompF_eq, casgcF_eq, cattrF_eq, cmethF_eq, cappF_eq, cpopF_eq, gitemF_eq, gattrF_eq, cfunxF_eq, cthingF_eq, cheapF_eq, cheardF_eq, clocF_eq, ccelF_eq, ctupF_eq, clistF_eq]; rfl) | (funext a1 a2; cases a2 <;> (unfold drawF draw; simp only [lenF_eq, appF_eq, setF_eq, nthF_eq, lgetF_eq, lsetF_eq, nonesF_eq, selcF_eq, pickF_eq, picksF_eq, pickcF_eq, uptoF_eq, flookF_eq, allNF_eq, eqVF_eq, okVF_eq, binSF_eq, cbinF_eq, cmpSF_eq, ccmpF_eq, tcmpF_eq, tcmp2F_eq, itemSF_eq, csubF_eq, cbutF_eq, icNextF_eq, itNextF_eq, lforF_eq, lcompF_eq, icOfF_eq, glocF_eq, isCellF_eq, gcelF_eq, gtupF_eq, cforF_eq, lenVF_eq, b_lenF_eq, b_tupleF_eq, b_listF_eq, ivalF_eq, ienmF_eq, izip2F_eq, izip3F_eq, cfunF_eq, cemitF_eq, cnestF_eq, lcomp0F_eq, ccompF_eq, casgcF_eq, cattrF_eq, cmethF_eq, cappF_eq, cpopF_eq, gitemF_eq, gattrF_eq, cfunxF_eq, cthingF_eq, cheapF_eq, cheardF_eq, clocF_eq, ccelF_eq, ctupF_eq, clistF_eq]; try rfl))
noncomputable def c_law_notchF : CF := fun vs σ k _ => match vs with
  | [a, c] => (match a with
    | .ref j => (match nthF σ j with
      | some o => (match o with
        | .rim => (match c with
          | .int m => (match m with
            | .ofNat n => (match Nat.ble 1 n with
              | true => (match Nat.ble n 1000000000 with | true => drawF n fun v => k v σ | false => false)
              | false => false)
            | .negSucc _ => false)
          | _ => false)
        | _ => false)
      | none => false)
    | _ => false)
  | _ => false
theorem c_law_notchF_eq : @c_law_notchF = @c_law_notch := by
  first | rfl | (unfold c_law_notchF c_law_notch; simp only [lenF_eq, appF_eq, setF_eq, nthF_eq, lgetF_eq, lsetF_eq, nonesF_eq, selcF_eq, pickF_eq, picksF_eq, pickcF_eq, uptoF_eq, flookF_eq, allNF_eq, eqVF_eq, okVF_eq, binSF_eq, cbinF_eq, cmpSF_eq, ccmpF_eq, tcmpF_eq, tcmp2F_eq, itemSF_eq, csubF_eq, cbutF_eq, icNextF_eq, itNextF_eq, lforF_eq, lcompF_eq, icOfF_eq, glocF_eq, isCellF_eq, gcelF_eq, gtupF_eq, cforF_eq, lenVF_eq, b_lenF_eq, b_tupleF_eq, b_listF_eq, ivalF_eq, ienmF_eq, izip2F_eq, izip3F_eq, cfunF_eq, cemitF_eq, cnestF_eq, lcomp0F_eq, ccompF_eq, casgcF_eq, cattrF_eq, cmethF_eq, cappF_eq, cpopF_eq, gitemF_eq, gattrF_eq, cfunxF_eq, cthingF_eq, cheapF_eq, cheardF_eq, clocF_eq, ccelF_eq, ctupF_eq, clistF_eq, drawF_eq]; done) | (unfold c_law_notchF c_law_notch; simp only [lenF_eq, appF_eq, setF_eq, nthF_eq, lgetF_eq, lsetF_eq, nonesF_eq, selcF_eq, pickF_eq, picksF_eq, pickcF_eq, uptoF_eq, flookF_eq, allNF_eq, eqVF_eq, okVF_eq, binSF_eq, cbinF_eq, cmpSF_eq, ccmpF_eq, tcmpF_eq, tcmp2F_eq, itemSF_eq, csubF_eq, cbutF_eq, icNextF_eq, itNextF_eq, lforF_eq, lcompF_eq, icOfF_eq, glocF_eq, isCellF_eq, gcelF_eq, gtupF_eq, cforF_eq, lenVF_eq, b_lenF_eq, b_tupleF_eq, b_listF_eq, ivalF_eq, ienmF_eq, izip2F_eq, izip3F_eq, cfunF_eq, cemitF_eq, cnestF_eq, lcomp0F_eq, ccompF_eq, casgcF_eq, cattrF_eq, cmethF_eq, cappF_eq, cpopF_eq, gitemF_eq, gattrF_eq, cfunxF_eq, cthingF_eq, cheapF_eq, cheardF_eq, clocF_eq, ccelF_eq, ctupF_eq, clistF_eq, drawF_eq]; rfl) | (funext a1; unfold c_law_notchF c_law_notch; simp only [lenF_eq, appF_eq, setF_eq, nthF_eq, lgetF_eq, lsetF_eq, nonesF_eq, selcF_eq, pickF_eq, picksF_eq, pickcF_eq, uptoF_eq, flookF_eq, allNF_eq, eqVF_eq, okVF_eq, binSF_eq, cbinF_eq, cmpSF_eq, ccmpF_eq, tcmpF_eq, tcmp2F_eq, itemSF_eq, csubF_eq, cbutF_eq, icNextF_eq, itNextF_eq, lforF_eq, lcompF_eq, icOfF_eq, glocF_eq, isCellF_eq, gcelF_eq, gtupF_eq, cforF_eq, lenVF_eq, b_lenF_eq, b_tupleF_eq, b_listF_eq, ivalF_eq, ienmF_eq, izip2F_eq, izip3F_eq, cfunF_eq, cemitF_eq, cnestF_eq, lcomp0F_eq, ccompF_eq, casgcF_eq, cattrF_eq, cmethF_eq, cappF_eq, cpopF_eq, gitemF_eq, gattrF_eq, cfunxF_eq, cthingF_eq, cheapF_eq, cheardF_eq, clocF_eq, ccelF_eq, ctupF_eq, clistF_eq, drawF_eq]; done) | (funext a1; unfold c_law_notchF c_law_notch; simp only [lenF_eq, appF_eq, setF_eq, nthF_eq, lgetF_eq, lsetF_eq, nonesF_eq, selcF_eq, pickF_eq, picksF_eq, pickcF_eq, uptoF_eq, flookF_eq, allNF_eq, eqVF_eq, okVF_eq, binSF_eq, cbinF_eq, cmpSF_eq, ccmpF_eq, tcmpF_eq, tcmp2F_eq, itemSF_eq, csubF_eq, cbutF_eq, icNextF_eq, itNextF_eq, lforF_eq, lcompF_eq, icOfF_eq, glocF_eq, isCellF_eq, gcelF_eq, gtupF_eq, cforF_eq, lenVF_eq, b_lenF_eq, b_tupleF_eq, b_listF_eq, ivalF_eq, ienmF_eq, izip2F_eq, izip3F_eq, cfunF_eq, cemitF_eq, cnestF_eq, lcomp0F_eq, ccompF_eq, casgcF_eq, cattrF_eq, cmethF_eq, cappF_eq, cpopF_eq, gitemF_eq, gattrF_eq, cfunxF_eq, cthingF_eq, cheapF_eq, cheardF_eq, clocF_eq, ccelF_eq, ctupF_eq, clistF_eq, drawF_eq]; rfl) | (funext a1 a2; cases a2 <;> (unfold c_law_notchF c_law_notch; simp only [lenF_eq, appF_eq, setF_eq, nthF_eq, lgetF_eq, lsetF_eq, nonesF_eq, selcF_eq, pickF_eq, picksF_eq, pickcF_eq, uptoF_eq, flookF_eq, allNF_eq, eqVF_eq, okVF_eq, binSF_eq, cbinF_eq, cmpSF_eq, ccmpF_eq, tcmpF_eq, tcmp2F_eq, itemSF_eq, csubF_eq, cbutF_eq, icNextF_eq, itNextF_eq, lforF_eq, lcompF_eq, icOfF_eq, glocF_eq, isCellF_eq, gcelF_eq, gtupF_eq, cforF_eq, lenVF_eq, b_lenF_eq, b_tupleF_eq, b_listF_eq, ivalF_eq, ienmF_eq, izip2F_eq, izip3F_eq, cfunF_eq, cemitF_eq, cnestF_eq, lcomp0F_eq, ccompF_eq, casgcF_eq, cattrF_eq, cmethF_eq, cappF_eq, cpopF_eq, gitemF_eq, gattrF_eq, cfunxF_eq, cthingF_eq, cheapF_eq, cheardF_eq, clocF_eq, ccelF_eq, ctupF_eq, clistF_eq, drawF_eq]; try rfl))
end Mine
open PySem PySem.W PyProof.Rows PySem.Calls PySem.Spec
set_option Elab.async false
set_option maxRecDepth 100000
set_option maxHeartbeats 1000000
set_option linter.unusedSimpArgs false
set_option linter.unusedVariables false
namespace Mine
/-! what some calls come to -/
theorem nth_new (σ : List AO) (o : AO) : nth (σ ++ [o]) σ.length = some o := by rw [nth_eq]; simp
theorem set_new (σ : List AO) (o o' : AO) : (σ ++ [o]).set σ.length o' = σ ++ [o'] := by simp
theorem mulS {a b : Int} (h : smallI b = true) (σ : List AO) : binS .Mult σ (.int a) (.int b) = some (.int (a * b), σ) := by simp only [binS, opI, h, if_true]; rfl
theorem addS (a b : Int) (σ : List AO) : binS .Add σ (.int a) (.int b) = some (.int (a + b), σ) := rfl
theorem subS (a b : Int) (σ : List AO) : binS .Sub σ (.int a) (.int b) = some (.int (a - b), σ) := rfl
theorem leS (a b : Int) (σ : List AO) : cmpS .LtE σ (.int a) (.int b) = some (Z.leB a b) := rfl
theorem ltS (a b : Int) (σ : List AO) : cmpS .Lt σ (.int a) (.int b) = some (Z.ltB a b) := rfl

theorem cfun_one (li ci : List (Option Nat)) (c : CS) (a : V) (σ : List AO) (k x : KV) : cfun 1 li ci c [a] σ k x = c (picks [a] li) (upto σ.length ci) (σ ++ pickc [a] ci) (fun _ σ1 => k .none σ1) k x := rfl
theorem cfun_2 (li ci : List (Option Nat)) (c : CS) (a b : V) (σ : List AO) (k x : KV) : cfun 2 li ci c [a, b] σ k x = c (picks [a, b] li) (upto σ.length ci) (σ ++ pickc [a, b] ci) (fun _ σ1 => k .none σ1) k x := rfl
theorem cfun_3 (li ci : List (Option Nat)) (c : CS) (a b d : V) (σ : List AO) (k x : KV) : cfun 3 li ci c [a, b, d] σ k x = c (picks [a, b, d] li) (upto σ.length ci) (σ ++ pickc [a, b, d] ci) (fun _ σ1 => k .none σ1) k x := rfl
theorem s_strides_of {n : Int} (h : smallI n = true) (σ : List AO) (k x : KV) : c_strides_of [.tup [.int n]] σ k x = k (.tup [.int 1]) (σ ++ [.lst [.int 1]]) := by
  have hm := fun a => mulS (a := a) h
  have h1 : Nat.ble ([] : List V).length 1000 = true := rfl
  rw [c_strides_of, cfun_one]
  simp only [cseq, casgb, ctup, escons, clist, esnil, cint, gloc, lset, picks, pick, nth, upto, pickc, List.append_nil, cfor, ival, cloc, lget, icOf, snil]
  simp only [lfor, fitB, itNext, icNext, nth]
  simp only [cseq, cexp, capp, cloc, lget, lset, nth_new, h1, set_new, casg, cbin, hm, snil, gloc, cret, cblt, ccall, escons, esnil, b_tuple]
  rfl

theorem s_index_of {n o : Int} (h1 : Z.eqB n 0 = false) (h2 : Nat.blt n.natAbs 1073741824 = true) (σ : List AO) (k x : KV) : c_index_of [.tup [.int n], .int o] σ k x = k (.tup [.int (o.fmod n + 1)]) (σ ++ [.lst [.int (o.fmod n + 1)]]) := by
  have hM : ∀ (a : Int) (σ : List AO), binS .Mod σ (.int a) (.int n) = some (.int (a.fmod n), σ) := fun a σ => by simp only [binS, opI, h1]; rfl
  have hD : ∀ (a : Int) (σ : List AO), binS .FloorDiv σ (.int a) (.int n) = some (.int (a.fdiv n), σ) := fun a σ => by simp only [binS, opI, h1, h2]; rfl
  have e1 : Nat.ble ([] : List V).length 1000 = true := rfl
  rw [c_index_of, cfun_2]
  simp only [cseq, casg, clist, esnil, gloc, lset, picks, pick, nth, upto, pickc, List.append_nil, cfor, ival, cloc, lget, icOf, snil]
  simp only [lfor, fitB, itNext, icNext, nth]
  simp only [cseq, cexp, capp, cloc, cint, lget, lset, nth_new, e1, set_new, casg, cbin, hM, hD, addS, snil, gloc, cret, cblt, ccall, escons, esnil, b_tuple]
  rfl
theorem len1 (a : V) (σ : List AO) (k x : KV) : b_len [.tup [a]] σ k x = k (.int (.ofNat 1)) σ := rfl
theorem len3 (a b c : V) : Nat.beq [a, b, c].length 3 = true := rfl
theorem max11 (σ : List AO) (k x : KV) : b_max [.int (.ofNat 1), .int (.ofNat 1)] σ k x = k (.int (.ofNat 1)) σ := rfl
theorem gt11 (σ : List AO) : cmpS .Gt σ (.int (.ofNat 1)) (.int (.ofNat 1)) = some false := rfl
theorem eq11 (σ : List AO) : cmpS .Eq σ (.int (.ofNat 1)) (.int (.ofNat 1)) = some true := rfl
theorem ne11 (σ : List AO) : cmpS .NotEq σ (.int (.ofNat 1)) (.int (.ofNat 1)) = some false := rfl
theorem s_offset_of {n i : Int} (h : smallI n = true) (σ : List AO) (k x : KV) : c_offset_of [.tup [.int n], .tup [.int i]] σ k x = (match Z.leB 1 i with
    | true => (match Z.leB i n with
      | true => k (.int (0 + (i - 1) * 1)) (σ ++ [.lst [.int 1]])
      | false => k (.int (-(Int.ofNat 1))) (σ ++ [.lst [.int 1]]))
    | false => k (.int (-(Int.ofNat 1))) (σ ++ [.lst [.int 1]])) := by
  have hS := fun σ k x => s_strides_of h σ k x
  have hm : ∀ (a : Int) (σ : List AO), binS .Mult σ (.int a) (.int 1) = some (.int (a * 1), σ) := fun a σ => mulS (a := a) rfl σ
  rw [c_offset_of, cfun_2]
  simp only [cseq, cwhile, lwhile, tand, tcmp, cblt, ccall, escons, esnil, cloc, cint, picks, pick, nth, lget, upto, pickc, List.append_nil, len1, max11, gt11]
  simp only [cif, tand, tcmp, cblt, ccall, escons, esnil, cloc, cint, lget, len1, eq11, ne11, snil, casg, gloc, lset]
  simp only [cfor, izip3, ccall, escons, esnil, cloc, lget, hS, icOf]
  simp only [lfor, fitB, itNext, icNext, nth, gtup, gcons, gnil, gloc, lset, len3, cif, cseq, tnot, tcmp2, cloc, cint, lget, leS, snil, cret, cneg, casg, cbin]
  have e : Z.leB 1 i = Z.leB (Int.ofNat 1) i := rfl
  rw [e]
  cases Z.leB (Int.ofNat 1) i with
  | false => rfl
  | true => cases Z.leB i n <;> rfl
theorem it0 (a b c d e : V) (σ : List AO) : itemS σ (.tup [a, b, c, d, e]) (.int (.ofNat 0)) = some a := rfl
theorem it1 (a b c d e : V) (σ : List AO) : itemS σ (.tup [a, b, c, d, e]) (.int (.ofNat 1)) = some b := rfl
theorem it2 (a b c d e : V) (σ : List AO) : itemS σ (.tup [a, b, c, d, e]) (.int (.ofNat 2)) = some c := rfl
theorem it3 (a b c d e : V) (σ : List AO) : itemS σ (.tup [a, b, c, d, e]) (.int (.ofNat 3)) = some d := rfl
theorem it4 (a b c d e : V) (σ : List AO) : itemS σ (.tup [a, b, c, d, e]) (.int (.ofNat 4)) = some e := rfl
theorem eqs10 (σ : List AO) : cmpS .Eq σ (.str 10) (.str 10) = some true := rfl
theorem s_sizes_of (h a b c d : V) (σ : List AO) (k x : KV) : c_sizes_of [h, .tup [.str 10, a, b, c, d]] σ k x = k c σ := by
  rw [c_sizes_of, cfun_2]
  simp only [cseq, cret, cifx, tcmp, csub, cloc, cint, cstr, picks, pick, nth, lget, pickc, List.append_nil, it0, eqs10, it3]
theorem s_layout_of (h a b c d : V) (σ : List AO) (k x : KV) : c_layout_of [h, .tup [.str 10, a, b, c, d]] σ k x = k (.tup [b, d]) σ := by
  rw [c_layout_of, cfun_2]
  simp only [cseq, cret, cifx, tcmp, csub, cloc, cint, cstr, ctup, escons, esnil, picks, pick, nth, lget, pickc, List.append_nil, it0, eqs10, it2, it4]
  rfl
noncomputable def okN (n : Int) : Bool := smallI n && !Z.eqB n 0 && Nat.blt n.natAbs 1073741824
theorem okN_of {n : Int} (h : okN n = true) : smallI n = true ∧ Z.eqB n 0 = false ∧ Nat.blt n.natAbs 1073741824 = true := by
  unfold okN at h
  simp only [Bool.and_eq_true, Bool.not_eq_true'] at h
  exact ⟨h.1.1, h.1.2, h.2⟩
noncomputable abbrev pl (h v idx : V) (a b c d e f : Option V) : Loc := [some h, some v, some idx, a, b, c, d, e, f]
section
variable {h v idx c' : V} {a b c d e f : Option V} {cel : List Nat} {σ : List AO} {n : KN} {k x : KV} (rest : CS)
theorem p1 (cc : CF) : cseq (casg (ccall (escons (cloc 0) (escons (cloc 1) (esnil))) cc) (gloc 3)) rest (pl h v idx a b c d e f) cel σ n k x = cc [h, v] σ (fun q σ1 => rest (pl h v idx (some q) b c d e f) cel σ1 n k x) x := rfl
theorem p2 (cc : CF) {u : V} : cseq (casg (ccall (escons (cloc 3) (escons (cloc 2) (esnil))) cc) (gloc 4)) rest (pl h v idx (some u) b c d e f) cel σ n k x = cc [u, idx] σ (fun q σ1 => rest (pl h v idx (some u) (some q) c d e f) cel σ1 n k x) x := rfl
theorem p3 {o : Int} : cseq (cif (tcmp .Lt (cloc 4) (cint (.ofNat 0))) (cseq (cret (cneg (cint (.ofNat 1)))) (snil)) (snil)) rest (pl h v idx a (some (.int o)) c d e f) cel σ n k x = (match Z.ltB o (.ofNat 0) with | true => k (.int (-(Int.ofNat 1))) σ | false => rest (pl h v idx a (some (.int o)) c d e f) cel σ n k x) := by
  show (match Z.ltB o (.ofNat 0) with | true => _ | false => _) = _
  cases Z.ltB o (.ofNat 0) <;> rfl
theorem p4 (cc : CF) : cseq (casg (ccall (escons (cloc 0) (escons (cloc 1) (esnil))) cc) (gtup 2 (gcons (gloc 5) (gcons (gloc 6) (gnil))))) rest (pl h v idx a b c d e f) cel σ n k x = cc [h, v] σ (fun q σ1 => gtup 2 (gcons (gloc 5) (gcons (gloc 6) (gnil))) q (pl h v idx a b c d e f) cel σ1 (fun loc1 σ1 => rest loc1 cel σ1 n k x)) x := rfl
theorem p4b {y z : V} : gtup 2 (gcons (gloc 5) (gcons (gloc 6) (gnil))) (.tup [y, z]) (pl h v idx a b c d e f) cel σ n = n (pl h v idx a b (some y) (some z) e f) σ := rfl
theorem p5a (cc : CF) {m o p : V} {s : Int} : cseq (cfor 10 true (izip2 (escons (ccall (escons (cloc 3) (escons (cloc 4) (esnil))) cc) (escons (cloc 6) (esnil)))) (gtup 2 (gcons (gloc 7) (gcons (gloc 8) (gnil)))) (cseq (casg (cbin .Add (cloc 5) (cbin .Mult (cbin .Sub (cloc 7) (cint (.ofNat 1))) (cloc 8))) (gloc 5)) (snil))) rest
    (pl h v idx (some m) (some o) (some p) (some (.tup [.int s])) e f) cel σ n k x = cc [m, o] σ (fun q σ1 => (match icOf σ1 q with
    | some I => lfor true (gtup 2 (gcons (gloc 7) (gcons (gloc 8) (gnil)))) (cseq (casg (cbin .Add (cloc 5) (cbin .Mult (cbin .Sub (cloc 7) (cint (.ofNat 1))) (cloc 8))) (gloc 5)) (snil)) cel (fun loc1 σ1 => rest loc1 cel σ1 n k x) k x 10 (.Z2 I (.T [.int s] 0)) (pl h v idx (some m) (some o) (some p) (some (.tup [.int s])) e f) σ1
    | none => false)) x := rfl
theorem p5b {m o : V} {t s p : Int} : lfor true (gtup 2 (gcons (gloc 7) (gcons (gloc 8) (gnil)))) (cseq (casg (cbin .Add (cloc 5) (cbin .Mult (cbin .Sub (cloc 7) (cint (.ofNat 1))) (cloc 8))) (gloc 5)) (snil)) cel (fun loc1 σ1 => rest loc1 cel σ1 n k x) k x 10 (.Z2 (.T [.int t] 0) (.T [.int s] 0)) (pl h v idx (some m) (some o) (some (.int p)) (some (.tup [.int s])) e f) σ =
    (match binS .Mult σ (.int (t - 1)) (.int s) with
    | some (u, σ3) => (match binS .Add σ3 (.int p) u with
      | some (u, σ3) => rest (pl h v idx (some m) (some o) (some u) (some (.tup [.int s])) (some (.int t)) (some (.int s))) cel σ3 n k x
      | none => false)
    | none => false) := rfl
theorem p5 {m o s p : Int} (hm : okN m = true) (hs : smallI s = true) : cseq (cfor 10 true (izip2 (escons (ccall (escons (cloc 3) (escons (cloc 4) (esnil))) c_index_of) (escons (cloc 6) (esnil)))) (gtup 2 (gcons (gloc 7) (gcons (gloc 8) (gnil)))) (cseq (casg (cbin .Add (cloc 5) (cbin .Mult (cbin .Sub (cloc 7) (cint (.ofNat 1))) (cloc 8))) (gloc 5)) (snil))) rest
    (pl h v idx (some (.tup [.int m])) (some (.int o)) (some (.int p)) (some (.tup [.int s])) e f) cel σ n k x =
    rest (pl h v idx (some (.tup [.int m])) (some (.int o)) (some (.int (p + (o.fmod m + 1 - 1) * s))) (some (.tup [.int s])) (some (.int (o.fmod m + 1))) (some (.int s))) cel (σ ++ [.lst [.int (o.fmod m + 1)]]) n k x := by
  obtain ⟨h1, h2, h3⟩ := okN_of hm
  have hb : ∀ (a : Int) (σ : List AO), binS .Mult σ (.int a) (.int s) = some (.int (a * s), σ) := fun a σ => mulS (a := a) hs σ
  rw [p5a, s_index_of h2 h3]
  show lfor true _ _ _ _ _ _ 10 _ _ _ = _
  rw [p5b, hb]; rfl
theorem p6 : cseq (cret (cloc 5)) snil (pl h v idx a b (some c') d e f) cel σ n k x = k c' σ := rfl
end
theorem s_place {m s : Int} (hm : okN m = true) (hs : smallI s = true) (h a : V) (f i : Int) (σ : List AO) (k x : KV) : c_place_in_parent [h, .tup [.str 10, a, .int f, .tup [.int m], .tup [.int s]], .tup [.int i]] σ k x = (match Z.leB 1 i with
    | true => (match Z.leB i m with
      | true => k (.int (f + ((0 + (i - 1) * 1).fmod m + 1 - 1) * s)) ((σ ++ [.lst [.int 1]]) ++ [.lst [.int ((0 + (i - 1) * 1).fmod m + 1)]])
      | false => k (.int (-(Int.ofNat 1))) (σ ++ [.lst [.int 1]]))
    | false => k (.int (-(Int.ofNat 1))) (σ ++ [.lst [.int 1]])) := by
  obtain ⟨h1, h2, h3⟩ := okN_of hm
  have hneg : Z.ltB (-(Int.ofNat 1)) (.ofNat 0) = true := rfl
  have e0 : ∀ (v idx : V), picks [h, v, idx] [some 0, some 1, some 2, none, none, none, none, none, none] = pl h v idx none none none none none none := fun _ _ => rfl
  rw [c_place_in_parent, cfun_3, e0, p1, s_sizes_of, p2, s_offset_of h1]
  have e1 : ∀ (v idx : V) (σ : List AO), σ ++ pickc [h, v, idx] [] = σ := fun _ _ σ => List.append_nil σ
  rw [e1]
  cases q1 : Z.leB 1 i with
  | false => simp only []; rw [p3, hneg]
  | true =>
    simp only []
    cases q2 : Z.leB i m with
    | false => simp only []; rw [p3, hneg]
    | true =>
      have e3 : Z.ltB (0 + (i - 1) * 1) (.ofNat 0) = false := by
        have := (Z.leB_iff _ _).mp q1
        cases q : Z.ltB (0 + (i - 1) * 1) (.ofNat 0) with
        | false => rfl
        | true => have := (Z.ltB_iff _ _).mp q; have q2 : (0 + (i - 1) * 1 : Int) < 0 := this; omega
      simp only []
      rw [p3, e3]
      simp only []
      rw [p4, s_layout_of, p4b, p5 _ hm hs, p6]

/-! the thing that an array or a view is of -/
theorem s_object {hd t an : Nat} {fs : List (Nat × V)} {things : List V} {u : V} {σ : List AO} (h1 : nth σ hd = some (.dct fs)) (h2 : flook fs 3 = some (.ref t)) (h3 : nth σ t = some (.lst things)) (h4 : Nat.blt an things.length = true) (h5 : Nat.blt an 1000 = true) (h6 : Nat.ble things.length 100000 = true) (h7 : nth things an = some u) (k x : KV) :
    c_object [.ins 197 hd, .int (.ofNat an)] σ k x = k u σ := by
  have g1 : Nat.beq 197 197 = true := rfl
  have g2 : okH (.ref t) = true := rfl
  have g3 : ∀ n : Nat, cmpS .LtE σ (.int (.ofNat 0)) (.int (.ofNat n)) = some true := fun n => by
    show some (Z.leB (.ofNat 0) (.ofNat n)) = _
    rw [(Z.leB_iff (.ofNat 0) (.ofNat n)).mpr (Int.natCast_nonneg n)]
  have g4 : cmpS .Lt σ (.int (.ofNat an)) (.int ((things.length : Nat) : Int)) = some true := by
    have hlt : an < things.length := Nat.le_of_ble_eq_true h4
    show some (Z.ltB (.ofNat an) ((things.length : Nat) : Int)) = _
    rw [(Z.ltB_iff (.ofNat an) _).mpr (show ((an : Nat) : Int) < ((things.length : Nat) : Int) by omega)]
  have g5 : idxZ (.ofNat an) things.length = some an := by unfold idxZ; simp only [h4, h5]; rfl
  rw [c_object, cfun_2]
  simp only [cseq, cif, tnot, tcmp2, cint, cloc, cblt, ccall, escons, esnil, cattr, lget, picks, pick, nth, upto, pickc, List.append_nil, g1, h1, h2, g2, g3, b_len, lenV, h3, h6, g4, snil, cret, csub, itemS, g5, h7]
noncomputable def arrAddr (v : V) : Option Nat := match v with
  | .tup vs => (match vs with
    | [t, a] => (match t with | .str n => (match Nat.beq n 9 with | true => (match a with | .int i => (match i with | .ofNat m => some m | _ => none) | _ => none) | false => none) | _ => none)
    | [t, a, _, _, _] => (match t with | .str n => (match Nat.beq n 10 with | true => (match a with | .int i => (match i with | .ofNat m => some m | _ => none) | _ => none) | false => none) | _ => none)
    | _ => none)
  | _ => none
theorem arrAddr_of {v : V} {m : Nat} (h : arrAddr v = some m) : v = .tup [.str 9, .int (.ofNat m)] ∨ ∃ a b c, v = .tup [.str 10, .int (.ofNat m), a, b, c] := by
  unfold arrAddr at h
  split at h
  case h_2 => cases h
  split at h
  · split at h
    case h_2 => cases h
    split at h
    case h_2 => cases h
    rename_i q
    split at h
    case h_2 => cases h
    split at h
    case h_2 => cases h
    cases h
    rw [Nat.eq_of_beq_eq_true q]
    exact .inl rfl
  · split at h
    case h_2 => cases h
    split at h
    case h_2 => cases h
    rename_i q
    split at h
    case h_2 => cases h
    split at h
    case h_2 => cases h
    cases h
    rw [Nat.eq_of_beq_eq_true q]
    exact .inr ⟨_, _, _, rfl⟩
  · cases h
theorem pa1 (c1 c2 : CF) (h v : V) (σ : List AO) (k x : KV) : (cseq (cif (tnot (tval (ccall (escons (cloc 1) (esnil)) c1))) (cseq (sdead) (snil)) (snil)) (cseq (cret (cmeth 197 (cloc 0) (escons (csub (cloc 1) (cint (.ofNat 1))) (esnil)) c2)) (snil))) [some h, some v] [] σ (fun _ σ1 => k .none σ1) k x =
    c1 [v] σ (fun a σ1 => match truthV a with
      | some t => (match (match t with | true => false | false => true) with
        | true => false
        | false => cmeth 197 (cloc 0) (escons (csub (cloc 1) (cint (.ofNat 1))) (esnil)) c2 [some h, some v] [] σ1 k x)
      | none => false) x := rfl
theorem pa2 (c2 : CF) {hd : Nat} {fs : List (Nat × V)} {v i : V} {σ : List AO} {k x : KV} (h1 : nth σ hd = some (.dct fs)) (h2 : itemS σ v (.int (.ofNat 1)) = some i) : cmeth 197 (cloc 0) (escons (csub (cloc 1) (cint (.ofNat 1))) (esnil)) c2 [some (.ins 197 hd), some v] [] σ k x = c2 [.ins 197 hd, i] σ k x := by
  have g1 : Nat.beq 197 197 = true := rfl
  simp only [cmeth, cloc, lget, g1, h1, escons, csub, cint, h2, esnil]
theorem isa9 (a : V) (σ : List AO) (k x : KV) : c_is_array [.tup [.str 9, a]] σ k x = k (.bool true) σ := by
  rw [c_is_array, cfun_one, show σ ++ pickc _ [] = σ from List.append_nil σ]; rfl
theorem isa10 (a b c d : V) (σ : List AO) (k x : KV) : c_is_array [.tup [.str 10, a, b, c, d]] σ k x = k (.bool true) σ := by
  rw [c_is_array, cfun_one, show σ ++ pickc _ [] = σ from List.append_nil σ]; rfl
theorem s_parent_of {hd t an : Nat} {fs : List (Nat × V)} {things : List V} {u v : V} {σ : List AO} (hv : arrAddr v = some an) (h1 : nth σ hd = some (.dct fs)) (h2 : flook fs 3 = some (.ref t)) (h3 : nth σ t = some (.lst things)) (h4 : Nat.blt an things.length = true) (h5 : Nat.blt an 1000 = true) (h6 : Nat.ble things.length 100000 = true) (h7 : nth things an = some u) (k x : KV) :
    c_parent_of [.ins 197 hd, v] σ k x = k u σ := by
  have e0 : ∀ a b : V, picks [a, b] [some 0, some 1] = [some a, some b] := fun _ _ => rfl
  have e1 : σ ++ pickc [V.ins 197 hd, v] [] = σ := List.append_nil σ
  have e2 : upto σ.length [] = [] := rfl
  rw [c_parent_of, cfun_2, e0, e1, e2, pa1]
  rcases arrAddr_of hv with rfl | ⟨a, b, c, rfl⟩
  · rw [isa9]
    show cmeth 197 (cloc 0) (escons (csub (cloc 1) (cint (.ofNat 1))) (esnil)) c_object [some (.ins 197 hd), some (.tup [.str 9, .int (.ofNat an)])] [] σ k x = _
    rw [pa2 c_object h1 (i := .int (.ofNat an)) rfl, s_object h1 h2 h3 h4 h5 h6 h7]
  · rw [isa10]
    show cmeth 197 (cloc 0) (escons (csub (cloc 1) (cint (.ofNat 1))) (esnil)) c_object [some (.ins 197 hd), some (.tup [.str 10, .int (.ofNat an), a, b, c])] [] σ k x = _
    rw [pa2 c_object h1 (i := .int (.ofNat an)) rfl, s_object h1 h2 h3 h4 h5 h6 h7]

theorem nth_app {α : Type} {l r : List α} {j : Nat} {o : α} (h : nth l j = some o) : nth (l ++ r) j = some o := by
  rw [nth_eq] at h ⊢
  rw [List.getElem?_append_left (List.getElem?_eq_some_iff.mp h).1]; exact h
/-- the parts of a value -/
noncomputable def intO (v : V) : Option Int := match v with
  | .int n => some n
  | _ => none
noncomputable def strO (v : V) : Option Nat := match v with
  | .str n => some n
  | _ => none
noncomputable def tupO (v : V) : Option (List V) := match v with
  | .tup l => some l
  | _ => none
theorem intO_eq {v : V} {n : Int} (h : intO v = some n) : v = .int n := by
  cases v <;> first | (cases h; done) | (cases h; rfl)
theorem strO_eq {v : V} {n : Nat} (h : strO v = some n) : v = .str n := by
  cases v <;> first | (cases h; done) | (cases h; rfl)
theorem tupO_eq {v : V} {l : List V} (h : tupO v = some l) : v = .tup l := by
  cases v <;> first | (cases h; done) | (cases h; rfl)
noncomputable def oneL (l : List V) : Option V := match l with
  | [] => none
  | x :: r => (match r with | [] => some x | _ :: _ => none)
theorem oneL_eq {l : List V} {x : V} (h : oneL l = some x) : l = [x] := by
  match l, h with
  | [_], h => cases h; rfl
noncomputable def oneI (v : V) : Option Int := match tupO v with
  | some l => (match oneL l with | some x => intO x | none => none)
  | none => none
theorem oneI_eq {v : V} {n : Int} (h : oneI v = some n) : v = .tup [.int n] := by
  unfold oneI at h
  split at h
  · rename_i h1
    split at h
    · rename_i h2
      rw [tupO_eq h1, oneL_eq h2, intO_eq h]
    · cases h
  · cases h
noncomputable def twoL (l : List V) : Option (V × V) := match l with
  | [] => none
  | x :: r => (match oneL r with | some y => some (x, y) | none => none)
theorem twoL_eq {l : List V} {x y : V} (h : twoL l = some (x, y)) : l = [x, y] := by
  match l, h with
  | a :: r, h =>
    unfold twoL at h
    split at h
    · cases h
    · rename_i e
      split at h
      · rename_i h2
        cases h; cases e
        rw [oneL_eq h2]
      · cases h
noncomputable def threeL (l : List V) : Option (V × V × V) := match l with
  | [] => none
  | x :: r => (match twoL r with | some p => some (x, p) | none => none)
theorem threeL_eq {l : List V} {x y z : V} (h : threeL l = some (x, y, z)) : l = [x, y, z] := by
  match l, h with
  | a :: r, h =>
    unfold threeL at h
    split at h
    · cases h
    · rename_i e
      split at h
      · rename_i h2
        cases h; cases e
        rw [twoL_eq h2]
      · cases h
noncomputable def fourL (l : List V) : Option (V × V × V × V) := match l with
  | [] => none
  | x :: r => (match threeL r with | some p => some (x, p) | none => none)
theorem fourL_eq {l : List V} {x y z u : V} (h : fourL l = some (x, y, z, u)) : l = [x, y, z, u] := by
  match l, h with
  | a :: r, h =>
    unfold fourL at h
    split at h
    · cases h
    · rename_i e
      split at h
      · rename_i h2
        cases h; cases e
        rw [threeL_eq h2]
      · cases h
noncomputable def fiveO (v : V) : Option (Nat × V × V × V × V) := match tupO v with
  | some l => (match l with
    | [] => none
    | x :: r => (match strO x with
      | some t => (match fourL r with | some p => some (t, p) | none => none)
      | none => none))
  | none => none
theorem fiveO_eq {v : V} {t : Nat} {a b c d : V} (h : fiveO v = some (t, a, b, c, d)) : v = .tup [.str t, a, b, c, d] := by
  unfold fiveO at h
  split at h
  · rename_i h1
    split at h
    · cases h
    · split at h
      · rename_i h2
        split at h
        · rename_i h3
          cases h
          rw [tupO_eq h1, strO_eq h2, fourL_eq h3]
        · cases h
      · cases h
  · cases h
end Mine
open PySem PySem.W PyProof.Rows PySem.Calls PySem.Spec
set_option Elab.async false
set_option maxRecDepth 100000
set_option maxHeartbeats 1000000
set_option linter.unusedSimpArgs false
set_option linter.unusedVariables false
namespace Mine
noncomputable def cF_Thing : CF := cthingF
theorem e_Thing : cF_Thing = c_Thing := cthingF_eq
noncomputable def cF_Heap : CF := cheapF
theorem e_Heap : cF_Heap = c_Heap := cheapF_eq
noncomputable def cF_Thrown : CF := cthrown
theorem e_Thrown : cF_Thrown = c_Thrown := rfl
noncomputable def cF_law_notch : CF := c_law_notchF
theorem e_law_notch : cF_law_notch = c_law_notch := c_law_notchF_eq
noncomputable def cF_text_value : CF := cfunF 1 [some 0] [] (cseq (cret (ctupF (escons (cstr 5) (escons (cenc (clocF 0)) (esnil))))) (snil))
theorem e_text_value : cF_text_value = c_text_value := by
  unfold cF_text_value c_text_value
  simp only [cfunF_eq, clocF_eq, ctupF_eq]
noncomputable def cF_error_kind : CF := cfunF 1 [some 0] [] (cseq (cret (ctupF (escons (cstr 6) (escons (clocF 0) (escons (ctupF (esnil)) (esnil)))))) (snil))
theorem e_error_kind : cF_error_kind = c_error_kind := by
  unfold cF_error_kind c_error_kind
  simp only [cfunF_eq, clocF_eq, ctupF_eq]
noncomputable def cF_error_value : CF := cfunF 2 [some 0, some 1] [] (cseq (cret (ctupF (escons (cstr 7) (escons (ccall (escons (clocF 0) (esnil)) cF_error_kind) (escons (cblt (escons (clocF 1) (esnil)) b_tupleF) (esnil)))))) (snil))
theorem e_error_value : cF_error_value = c_error_value := by
  unfold cF_error_value c_error_value
  simp only [b_tupleF_eq, cfunF_eq, clocF_eq, ctupF_eq, e_error_kind]
noncomputable def cF_thrown : CF := cfunxF 2 [some 0, some 1] [] (ccall (escons (ccall (escons (clocF 0) (escons (clocF 1) (esnil))) cF_error_value) (esnil)) cF_Thrown)
theorem e_thrown : cF_thrown = c_thrown := by
  unfold cF_thrown c_thrown
  simp only [cfunxF_eq, clocF_eq, e_Thrown, e_error_value]
noncomputable def cF_thrown_text : CF := cfunxF 2 [some 0, some 1] [] (ccall (escons (ccall (escons (clocF 0) (escons (ctupF (escons (ccall (escons (clocF 1) (esnil)) cF_text_value) (esnil))) (esnil))) cF_error_value) (esnil)) cF_Thrown)
theorem e_thrown_text : cF_thrown_text = c_thrown_text := by
  unfold cF_thrown_text c_thrown_text
  simp only [cfunxF_eq, clocF_eq, ctupF_eq, e_Thrown, e_error_value, e_text_value]
noncomputable def cF_literal_int : CF := cfunF 1 [some 0, none] [] (cseq (casg (cifx (tcmp2F .LtE .Lt (cbinF .Sub (cint (.ofNat 0)) (cbinF .Pow (cint (.ofNat 2)) (cint (.ofNat 63)))) (clocF 0) (cbinF .Pow (cint (.ofNat 2)) (cint (.ofNat 63)))) (cstr 2) (cstr 3)) (glocF 1)) (cseq (cret (ctupF (escons (cstr 4) (escons (clocF 1) (escons (clocF 0) (esnil)))))) (snil)))
theorem e_literal_int : cF_literal_int = c_literal_int := by
  unfold cF_literal_int c_literal_int
  simp only [cbinF_eq, cfunF_eq, clocF_eq, ctupF_eq, glocF_eq, tcmp2F_eq]
noncomputable def cF_named : CF := cfunF 2 [some 0, some 1] [] (cseq (cret (ctupF (escons (cstr 6) (escons (clocF 0) (escons (cblt (escons (clocF 1) (esnil)) b_tupleF) (esnil)))))) (snil))
theorem e_named : cF_named = c_named := by
  unfold cF_named c_named
  simp only [b_tupleF_eq, cfunF_eq, clocF_eq, ctupF_eq]
noncomputable def cF_put : CF := cfunF 2 [some 0, some 1] [] (cseq (cexp (cappF (cattrF 197 3 (clocF 0)) (clocF 1))) (cseq (cret (cbinF .Sub (cblt (escons (cattrF 197 3 (clocF 0)) (esnil)) b_lenF) (cint (.ofNat 1)))) (snil)))
theorem e_put : cF_put = c_put := by
  unfold cF_put c_put
  simp only [b_lenF_eq, cappF_eq, cattrF_eq, cbinF_eq, cfunF_eq, clocF_eq]
noncomputable def cF_new_array : CF := cfunF 4 [some 0, some 1, some 2, some 3] [] (cseq (cret (cmethF 197 (clocF 0) (escons (ccall (escons (clocF 1) (escons (cblt (escons (clocF 3) (esnil)) b_listF) (escons (cblt (escons (clocF 2) (esnil)) b_tupleF) (esnil)))) cF_Thing) (esnil)) cF_put)) (snil))
theorem e_new_array : cF_new_array = c_new_array := by
  unfold cF_new_array c_new_array
  simp only [b_listF_eq, b_tupleF_eq, cfunF_eq, clocF_eq, cmethF_eq, e_Thing, e_put]
noncomputable def cF_object : CF := cfunF 2 [some 0, some 1] [] (cseq (cif (tnot (tcmp2F .LtE .Lt (cint (.ofNat 0)) (clocF 1) (cblt (escons (cattrF 197 3 (clocF 0)) (esnil)) b_lenF))) (cseq (sdead) (snil)) (snil)) (cseq (cret (csubF (cattrF 197 3 (clocF 0)) (clocF 1))) (snil)))
theorem e_object : cF_object = c_object := by
  unfold cF_object c_object
  simp only [b_lenF_eq, cattrF_eq, cfunF_eq, clocF_eq, csubF_eq, tcmp2F_eq]
noncomputable def cF_array_kind : CF := cfunF 2 [some 0, some 1] [] (cseq (cret (ccall (escons (cstr 12) (escons (ctupF (escons (clocF 0) (escons (ctupF (escons (cstr 11) (escons (clocF 1) (esnil)))) (esnil)))) (esnil))) cF_named)) (snil))
theorem e_array_kind : cF_array_kind = c_array_kind := by
  unfold cF_array_kind c_array_kind
  simp only [cfunF_eq, clocF_eq, ctupF_eq, e_named]
noncomputable def cF_many_of : CF := cfunF 1 [some 0, none, none] [] (cseq (casg (cint (.ofNat 1)) (glocF 1)) (cseq (cforF 10 false (ivalF (clocF 0)) (glocF 2) (cseq (casg (cbinF .Mult (clocF 1) (clocF 2)) (glocF 1)) (snil))) (cseq (cret (clocF 1)) (snil))))
theorem e_many_of : cF_many_of = c_many_of := by
  unfold cF_many_of c_many_of
  simp only [cbinF_eq, cforF_eq, cfunF_eq, clocF_eq, glocF_eq, ivalF_eq]
noncomputable def cG_strides_of : CF := cfunF 1 [some 0, none, none, none] [] (cseq (casgb (ctupF (escons (clistF (esnil)) (escons (cint (.ofNat 1)) (esnil)))) (glocF 1) (glocF 2)) (cseq (cforF 10 false (ivalF (clocF 0)) (glocF 3) (cseq (cexp (cappF (clocF 1) (clocF 2))) (cseq (casg (cbinF .Mult (clocF 2) (clocF 3)) (glocF 2)) (snil)))) (cseq (cret (cblt (escons (clocF 1) (esnil)) b_tupleF)) (snil))))
theorem eG_strides_of : cG_strides_of = c_strides_of := by
  unfold cG_strides_of c_strides_of
  simp only [b_tupleF_eq, cappF_eq, cbinF_eq, cforF_eq, cfunF_eq, clistF_eq, clocF_eq, ctupF_eq, glocF_eq, ivalF_eq]
noncomputable def cF_strides_of : CF := fun vs σ k x => match oneL vs with
  | some v => (match oneI v with
    | some n => (match smallI n with | true => k (.tup [.int 1]) (appF σ [.lst [.int 1]]) | false => cG_strides_of vs σ k x)
    | none => cG_strides_of vs σ k x)
  | none => cG_strides_of vs σ k x
theorem e_strides_of : cF_strides_of = c_strides_of := by
  funext vs σ k x
  unfold cF_strides_of
  split
  · rename_i h1
    split
    · rename_i h2
      split
      · rename_i h; rw [oneL_eq h1, oneI_eq h2, s_strides_of h, appF_eq]
      · rw [eG_strides_of]
    · rw [eG_strides_of]
  · rw [eG_strides_of]
noncomputable def cG_offset_of : CF := cfunF 2 [some 0, some 1, none, none, none, none] [] (cseq (cwhile 5 (tand (tcmpF .Gt (cblt (escons (clocF 1) (esnil)) b_lenF) (cblt (escons (cint (.ofNat 1)) (escons (cblt (escons (clocF 0) (esnil)) b_lenF) (esnil))) b_max)) (tand (tcmpF .Eq (csubF (clocF 1) (cneg (cint (.ofNat 1)))) (cint (.ofNat 1))) (candn))) (cseq (casg (cbutF (clocF 1) (cneg (cint (.ofNat 1)))) (glocF 1)) (snil))) (cseq (cif (tand (tcmpF .Eq (cblt (escons (clocF 1) (esnil)) b_lenF) (cint (.ofNat 1))) (tand (tcmpF .NotEq (cblt (escons (clocF 0) (esnil)) b_lenF) (cint (.ofNat 1))) (candn))) (cseq (cret (cifx (tcmp2F .LtE .LtE (cint (.ofNat 1)) (csubF (clocF 1) (cint (.ofNat 0))) (ccall (escons (clocF 0) (esnil)) cF_many_of)) (cbinF .Sub (csubF (clocF 1) (cint (.ofNat 0))) (cint (.ofNat 1))) (cneg (cint (.ofNat 1))))) (snil)) (snil)) (cseq (cif (tcmpF .NotEq (cblt (escons (clocF 1) (esnil)) b_lenF) (cblt (escons (clocF 0) (esnil)) b_lenF)) (cseq (cret (cneg (cint (.ofNat 1)))) (snil)) (snil)) (cseq (casg (cint (.ofNat 0)) (glocF 2)) (cseq (cforF 10 true (izip3F (escons (clocF 1) (escons (clocF 0) (escons (ccall (escons (clocF 0) (esnil)) cF_strides_of) (esnil))))) (gtupF 3 (gcons (glocF 3) (gcons (glocF 4) (gcons (glocF 5) (gnil))))) (cseq (cif (tnot (tcmp2F .LtE .LtE (cint (.ofNat 1)) (clocF 3) (clocF 4))) (cseq (cret (cneg (cint (.ofNat 1)))) (snil)) (snil)) (cseq (casg (cbinF .Add (clocF 2) (cbinF .Mult (cbinF .Sub (clocF 3) (cint (.ofNat 1))) (clocF 5))) (glocF 2)) (snil)))) (cseq (cret (clocF 2)) (snil)))))))
theorem eG_offset_of : cG_offset_of = c_offset_of := by
  unfold cG_offset_of c_offset_of
  simp only [b_lenF_eq, cbinF_eq, cbutF_eq, cforF_eq, cfunF_eq, clocF_eq, csubF_eq, glocF_eq, gtupF_eq, izip3F_eq, tcmpF_eq, tcmp2F_eq, e_many_of, e_strides_of]
noncomputable def cF_offset_of : CF := fun vs σ k x => match twoL vs with
  | some (v, w) => (match oneI v with
    | some n => (match oneI w with
      | some i => (match smallI n with
        | true => (match Z.leB 1 i with
          | true => (match Z.leB i n with
            | true => k (.int (0 + (i - 1) * 1)) (appF σ [.lst [.int 1]])
            | false => k (.int (-(Int.ofNat 1))) (appF σ [.lst [.int 1]]))
          | false => k (.int (-(Int.ofNat 1))) (appF σ [.lst [.int 1]]))
        | false => cG_offset_of vs σ k x)
      | none => cG_offset_of vs σ k x)
    | none => cG_offset_of vs σ k x)
  | none => cG_offset_of vs σ k x
theorem e_offset_of : cF_offset_of = c_offset_of := by
  funext vs σ k x
  unfold cF_offset_of
  split
  · rename_i h1
    split
    · rename_i h2
      split
      · rename_i h3
        split
        · rename_i h; rw [twoL_eq h1, oneI_eq h2, oneI_eq h3, s_offset_of h, appF_eq] <;> rfl
        · rw [eG_offset_of]
      · rw [eG_offset_of]
    · rw [eG_offset_of]
  · rw [eG_offset_of]
noncomputable def cG_index_of : CF := cfunF 2 [some 0, some 1, none, none] [] (cseq (casg (clistF (esnil)) (glocF 2)) (cseq (cforF 10 false (ivalF (clocF 0)) (glocF 3) (cseq (cexp (cappF (clocF 2) (cbinF .Add (cbinF .Mod (clocF 1) (clocF 3)) (cint (.ofNat 1))))) (cseq (casg (cbinF .FloorDiv (clocF 1) (clocF 3)) (glocF 1)) (snil)))) (cseq (cret (cblt (escons (clocF 2) (esnil)) b_tupleF)) (snil))))
theorem eG_index_of : cG_index_of = c_index_of := by
  unfold cG_index_of c_index_of
  simp only [b_tupleF_eq, cappF_eq, cbinF_eq, cforF_eq, cfunF_eq, clistF_eq, clocF_eq, glocF_eq, ivalF_eq]
noncomputable def cF_index_of : CF := fun vs σ k x => match twoL vs with
  | some (v, w) => (match oneI v with
    | some n => (match intO w with
      | some o => (match okN n with | true => k (.tup [.int (o.fmod n + 1)]) (appF σ [.lst [.int (o.fmod n + 1)]]) | false => cG_index_of vs σ k x)
      | none => cG_index_of vs σ k x)
    | none => cG_index_of vs σ k x)
  | none => cG_index_of vs σ k x
theorem e_index_of : cF_index_of = c_index_of := by
  funext vs σ k x
  unfold cF_index_of
  split
  · rename_i h1
    split
    · rename_i h2
      split
      · rename_i h3
        split
        · rename_i h; rw [twoL_eq h1, oneI_eq h2, intO_eq h3, s_index_of (okN_of h).2.1 (okN_of h).2.2, appF_eq]
        · rw [eG_index_of]
      · rw [eG_index_of]
    · rw [eG_index_of]
  · rw [eG_index_of]
noncomputable def cF_bounds_fault : CF := cfunxF 2 [some 0, some 1] [] (ccall (escons (cstr 1) (escons (ctupF (escons (clocF 0) (escons (ctupF (escons (cstr 8) (escons (cblt (escons (ccompF 10 [] 2 false (ivalF (clocF 1)) (glocF 1) (tyes) (cemitF (ccall (escons (clocF 1) (esnil)) cF_literal_int))) (esnil)) b_tupleF) (esnil)))) (esnil)))) (esnil))) cF_thrown)
theorem e_bounds_fault : cF_bounds_fault = c_bounds_fault := by
  unfold cF_bounds_fault c_bounds_fault
  simp only [b_tupleF_eq, ccompF_eq, cemitF_eq, cfunxF_eq, clocF_eq, ctupF_eq, glocF_eq, ivalF_eq, e_literal_int, e_thrown]
noncomputable def cF_check_sizes : CF := cfunF 1 [some 0] [] (cseq (cif (tor (tcmpF .NotEq (ccompF 10 [] 2 false (ivalF (clocF 0)) (glocF 1) (tcmpF .Lt (clocF 1) (cint (.ofNat 0))) (cemitF (clocF 1))) (clistF (esnil))) (tor (tcmpF .Gt (ccall (escons (ccompF 10 [] 2 false (ivalF (clocF 0)) (glocF 1) (tyes) (cemitF (cblt (escons (cint (.ofNat 1)) (escons (clocF 1) (esnil))) b_max))) (esnil)) cF_many_of) (cint (.ofNat 20000))) (corn))) (cseq (craise (ccall (escons (cstr 0) (escons (cstr 14) (esnil))) cF_thrown_text)) (snil)) (snil)) (snil))
theorem e_check_sizes : cF_check_sizes = c_check_sizes := by
  unfold cF_check_sizes c_check_sizes
  simp only [ccompF_eq, cemitF_eq, cfunF_eq, clistF_eq, clocF_eq, glocF_eq, ivalF_eq, tcmpF_eq, e_many_of, e_thrown_text]
noncomputable def cF_is_array : CF := cfunF 1 [some 0] [] (cseq (cret (ccmpF .In (csubF (clocF 0) (cint (.ofNat 0))) (ctupF (escons (cstr 9) (escons (cstr 10) (esnil)))))) (snil))
theorem e_is_array : cF_is_array = c_is_array := by
  unfold cF_is_array c_is_array
  simp only [ccmpF_eq, cfunF_eq, clocF_eq, csubF_eq, ctupF_eq]
noncomputable def cG_parent_of : CF := cfunF 2 [some 0, some 1] [] (cseq (cif (tnot (tval (ccall (escons (clocF 1) (esnil)) cF_is_array))) (cseq (sdead) (snil)) (snil)) (cseq (cret (cmethF 197 (clocF 0) (escons (csubF (clocF 1) (cint (.ofNat 1))) (esnil)) cF_object)) (snil)))
theorem eG_parent_of : cG_parent_of = c_parent_of := by
  unfold cG_parent_of c_parent_of
  simp only [cfunF_eq, clocF_eq, cmethF_eq, csubF_eq, e_is_array, e_object]
noncomputable def cF_parent_of : CF := fun vs σ k x => match vs with
  | [.ins C hd, v] => (match Nat.beq C 197 with
    | true => (match arrAddr v with
      | some an => (match nthF σ hd with
        | some (.dct fs) => (match flookF fs 3 with
          | some (.ref t) => (match nthF σ t with
            | some (.lst things) => (match Nat.blt an (lenF things) && (Nat.blt an 1000 && Nat.ble (lenF things) 100000) with
              | true => (match nthF things an with | some u => k u σ | none => cG_parent_of [.ins C hd, v] σ k x)
              | false => cG_parent_of [.ins C hd, v] σ k x)
            | _ => cG_parent_of [.ins C hd, v] σ k x)
          | _ => cG_parent_of [.ins C hd, v] σ k x)
        | _ => cG_parent_of [.ins C hd, v] σ k x)
      | none => cG_parent_of [.ins C hd, v] σ k x)
    | false => cG_parent_of [.ins C hd, v] σ k x)
  | vs => cG_parent_of vs σ k x
theorem e_parent_of : cF_parent_of = c_parent_of := by
  funext vs σ k x
  unfold cF_parent_of
  split
  · split
    · rename_i h0
      split
      · rename_i h1
        split
        · rename_i h2
          split
          · rename_i h3
            split
            · rename_i h4
              split
              · rename_i h5
                split
                · rename_i h6
                  simp only [Bool.and_eq_true, lenF_eq] at h5
                  rw [nthF_eq] at h2 h4 h6
                  rw [flookF_eq] at h3
                  rw [Nat.eq_of_beq_eq_true h0, s_parent_of h1 h2 h3 h4 h5.1 h5.2.1 h5.2.2 h6]
                · rw [eG_parent_of]
              · rw [eG_parent_of]
            · rw [eG_parent_of]
          · rw [eG_parent_of]
        · rw [eG_parent_of]
      · rw [eG_parent_of]
    · rw [eG_parent_of]
  · rw [eG_parent_of]
noncomputable def cG_sizes_of : CF := cfunF 2 [some 0, some 1] [] (cseq (cret (cifx (tcmpF .Eq (csubF (clocF 1) (cint (.ofNat 0))) (cstr 10)) (csubF (clocF 1) (cint (.ofNat 3))) (cattrF 141 2 (ccall (escons (clocF 0) (escons (clocF 1) (esnil))) cF_parent_of)))) (snil))
theorem eG_sizes_of : cG_sizes_of = c_sizes_of := by
  unfold cG_sizes_of c_sizes_of
  simp only [cattrF_eq, cfunF_eq, clocF_eq, csubF_eq, tcmpF_eq, e_parent_of]
noncomputable def cF_sizes_of : CF := fun vs σ k x => match twoL vs with
  | some (h, v) => (match fiveO v with
    | some (t, a, b, c, d) => (match Nat.beq t 10 with | true => k c σ | false => cG_sizes_of vs σ k x)
    | none => cG_sizes_of vs σ k x)
  | none => cG_sizes_of vs σ k x
theorem e_sizes_of : cF_sizes_of = c_sizes_of := by
  funext vs σ k x
  unfold cF_sizes_of
  split
  · rename_i h1
    split
    · rename_i h2
      split
      · rename_i h; rw [twoL_eq h1, fiveO_eq h2, Nat.eq_of_beq_eq_true h, s_sizes_of]
      · rw [eG_sizes_of]
    · rw [eG_sizes_of]
  · rw [eG_sizes_of]
noncomputable def cG_layout_of : CF := cfunF 2 [some 0, some 1] [] (cseq (cret (cifx (tcmpF .Eq (csubF (clocF 1) (cint (.ofNat 0))) (cstr 10)) (ctupF (escons (csubF (clocF 1) (cint (.ofNat 2))) (escons (csubF (clocF 1) (cint (.ofNat 4))) (esnil)))) (ctupF (escons (cint (.ofNat 0)) (escons (ccall (escons (ccall (escons (clocF 0) (escons (clocF 1) (esnil))) cF_sizes_of) (esnil)) cF_strides_of) (esnil)))))) (snil))
theorem eG_layout_of : cG_layout_of = c_layout_of := by
  unfold cG_layout_of c_layout_of
  simp only [cfunF_eq, clocF_eq, csubF_eq, ctupF_eq, tcmpF_eq, e_sizes_of, e_strides_of]
noncomputable def cF_layout_of : CF := fun vs σ k x => match twoL vs with
  | some (h, v) => (match fiveO v with
    | some (t, a, b, c, d) => (match Nat.beq t 10 with | true => k (.tup [b, d]) σ | false => cG_layout_of vs σ k x)
    | none => cG_layout_of vs σ k x)
  | none => cG_layout_of vs σ k x
theorem e_layout_of : cF_layout_of = c_layout_of := by
  funext vs σ k x
  unfold cF_layout_of
  split
  · rename_i h1
    split
    · rename_i h2
      split
      · rename_i h; rw [twoL_eq h1, fiveO_eq h2, Nat.eq_of_beq_eq_true h, s_layout_of]
      · rw [eG_layout_of]
    · rw [eG_layout_of]
  · rw [eG_layout_of]
noncomputable def cG_place_in_parent : CF := cfunF 3 [some 0, some 1, some 2, none, none, none, none, none, none] [] (cseq (casg (ccall (escons (clocF 0) (escons (clocF 1) (esnil))) cF_sizes_of) (glocF 3)) (cseq (casg (ccall (escons (clocF 3) (escons (clocF 2) (esnil))) cF_offset_of) (glocF 4)) (cseq (cif (tcmpF .Lt (clocF 4) (cint (.ofNat 0))) (cseq (cret (cneg (cint (.ofNat 1)))) (snil)) (snil)) (cseq (casg (ccall (escons (clocF 0) (escons (clocF 1) (esnil))) cF_layout_of) (gtupF 2 (gcons (glocF 5) (gcons (glocF 6) (gnil))))) (cseq (cforF 10 true (izip2F (escons (ccall (escons (clocF 3) (escons (clocF 4) (esnil))) cF_index_of) (escons (clocF 6) (esnil)))) (gtupF 2 (gcons (glocF 7) (gcons (glocF 8) (gnil)))) (cseq (casg (cbinF .Add (clocF 5) (cbinF .Mult (cbinF .Sub (clocF 7) (cint (.ofNat 1))) (clocF 8))) (glocF 5)) (snil))) (cseq (cret (clocF 5)) (snil)))))))
theorem eG_place_in_parent : cG_place_in_parent = c_place_in_parent := by
  unfold cG_place_in_parent c_place_in_parent
  simp only [cbinF_eq, cforF_eq, cfunF_eq, clocF_eq, glocF_eq, gtupF_eq, izip2F_eq, tcmpF_eq, e_index_of, e_layout_of, e_offset_of, e_sizes_of]
noncomputable def cF_place_in_parent : CF := fun vs σ k x => match threeL vs with
  | some (h, v, w) => (match fiveO v with
    | some (t, a, b, c, d) => (match intO b with
      | some f => (match oneI c with
        | some m => (match oneI d with
          | some s => (match oneI w with
            | some i => (match Nat.beq t 10 && (okN m && smallI s) with
              | true => (match Z.leB 1 i with
                | true => (match Z.leB i m with
                  | true => k (.int (f + ((0 + (i - 1) * 1).fmod m + 1 - 1) * s)) (appF σ [.lst [.int 1], .lst [.int ((0 + (i - 1) * 1).fmod m + 1)]])
                  | false => k (.int (-(Int.ofNat 1))) (appF σ [.lst [.int 1]]))
                | false => k (.int (-(Int.ofNat 1))) (appF σ [.lst [.int 1]]))
              | false => cG_place_in_parent vs σ k x)
            | none => cG_place_in_parent vs σ k x)
          | none => cG_place_in_parent vs σ k x)
        | none => cG_place_in_parent vs σ k x)
      | none => cG_place_in_parent vs σ k x)
    | none => cG_place_in_parent vs σ k x)
  | none => cG_place_in_parent vs σ k x
theorem e_place_in_parent : cF_place_in_parent = c_place_in_parent := by
  funext vs σ k x
  unfold cF_place_in_parent
  split
  · rename_i h1
    split
    · rename_i h2
      split
      · rename_i h3
        split
        · rename_i h4
          split
          · rename_i h5
            split
            · rename_i h6
              split
              · rename_i h
                simp only [Bool.and_eq_true] at h
                rw [threeL_eq h1, fiveO_eq h2, intO_eq h3, oneI_eq h4, oneI_eq h5, oneI_eq h6, Nat.eq_of_beq_eq_true h.1, s_place h.2.1 h.2.2, appF_eq, appF_eq, List.append_assoc] <;> rfl
              · rw [eG_place_in_parent]
            · rw [eG_place_in_parent]
          · rw [eG_place_in_parent]
        · rw [eG_place_in_parent]
      · rw [eG_place_in_parent]
    · rw [eG_place_in_parent]
  · rw [eG_place_in_parent]
noncomputable def cF_places_of : CF := cfunF 2 [some 0, some 1, none, none, none] [none, none] (cseq (casg (ccall (escons (clocF 0) (escons (clocF 1) (esnil))) cF_layout_of) (gtupF 2 (gcons (glocF 2) (gcons (glocF 3) (gnil))))) (cseq (casg (clistF (escons (clocF 2) (esnil))) (gcelF 0)) (cseq (cforF 10 true (izip2F (escons (ccall (escons (clocF 0) (escons (clocF 1) (esnil))) cF_sizes_of) (escons (clocF 3) (esnil)))) (gtupF 2 (gcons (glocF 4) (gcons (gcelF 1) (gnil)))) (cseq (casg (ccompF 10 [1, 0] 3 false (irng (escons (clocF 4) (esnil))) (glocF 1) (tyes) (cnestF 10 false (ivalF (ccelF 1)) (glocF 2) (tyes) (cemitF (cbinF .Add (clocF 2) (cbinF .Mult (ccelF 0) (clocF 1)))))) (gcelF 0)) (snil))) (cseq (cret (ccelF 0)) (snil)))))
theorem e_places_of : cF_places_of = c_places_of := by
  unfold cF_places_of c_places_of
  simp only [cbinF_eq, ccelF_eq, ccompF_eq, cemitF_eq, cforF_eq, cfunF_eq, clistF_eq, clocF_eq, cnestF_eq, gcelF_eq, glocF_eq, gtupF_eq, ivalF_eq, izip2F_eq, e_layout_of, e_sizes_of]
noncomputable def cF_items_of : CF := cfunF 2 [some 0, some 1, none, none, none] [none] (cseq (casg (ctupF (escons (cattrF 141 1 (ccall (escons (clocF 0) (escons (clocF 1) (esnil))) cF_parent_of)) (escons (ccall (escons (clocF 0) (escons (clocF 1) (esnil))) cF_places_of) (esnil)))) (gtupF 2 (gcons (gcelF 0) (gcons (glocF 2) (gnil))))) (cseq (cforF 10 true (ienmF (escons (clocF 2) (esnil))) (gtupF 2 (gcons (glocF 3) (gcons (glocF 4) (gnil)))) (cseq (cif (tcmpF .GtE (clocF 4) (cblt (escons (ccelF 0) (esnil)) b_lenF)) (cseq (craise (ccall (escons (clocF 1) (escons (ccall (escons (ccall (escons (clocF 0) (escons (clocF 1) (esnil))) cF_sizes_of) (escons (clocF 3) (esnil))) cF_index_of) (esnil))) cF_bounds_fault)) (snil)) (snil)) (snil))) (cseq (cret (ccompF 10 [0] 2 false (ivalF (clocF 2)) (glocF 1) (tyes) (cemitF (csubF (ccelF 0) (clocF 1))))) (snil))))
theorem e_items_of : cF_items_of = c_items_of := by
  unfold cF_items_of c_items_of
  simp only [b_lenF_eq, cattrF_eq, ccelF_eq, ccompF_eq, cemitF_eq, cforF_eq, cfunF_eq, clocF_eq, csubF_eq, ctupF_eq, gcelF_eq, glocF_eq, gtupF_eq, ienmF_eq, ivalF_eq, tcmpF_eq, e_bounds_fault, e_index_of, e_parent_of, e_places_of, e_sizes_of]
noncomputable def cF_item_at : CF := cfunF 3 [some 0, some 1, some 2, none, none] [] (cseq (casg (ccall (escons (clocF 0) (escons (clocF 1) (escons (clocF 2) (esnil)))) cF_place_in_parent) (glocF 3)) (cseq (cif (tnot (tcmp2F .LtE .Lt (cint (.ofNat 0)) (clocF 3) (cblt (escons (cattrF 141 1 (ccall (escons (clocF 0) (escons (clocF 1) (esnil))) cF_parent_of)) (esnil)) b_lenF))) (cseq (craise (ccall (escons (clocF 1) (escons (clocF 2) (esnil))) cF_bounds_fault)) (snil)) (snil)) (cseq (casg (csubF (cattrF 141 1 (ccall (escons (clocF 0) (escons (clocF 1) (esnil))) cF_parent_of)) (clocF 3)) (glocF 4)) (cseq (cif (tcmpF .Is (clocF 4) (cnone)) (cseq (sdead) (snil)) (snil)) (cseq (cret (clocF 4)) (snil))))))
theorem e_item_at : cF_item_at = c_item_at := by
  unfold cF_item_at c_item_at
  simp only [b_lenF_eq, cattrF_eq, cfunF_eq, clocF_eq, csubF_eq, glocF_eq, tcmpF_eq, tcmp2F_eq, e_bounds_fault, e_parent_of, e_place_in_parent]
noncomputable def cF_set_item : CF := cfunF 4 [some 0, some 1, some 2, some 3, none] [] (cseq (casg (ccall (escons (clocF 0) (escons (clocF 1) (escons (clocF 2) (esnil)))) cF_place_in_parent) (glocF 4)) (cseq (cif (tnot (tcmp2F .LtE .Lt (cint (.ofNat 0)) (clocF 4) (cblt (escons (cattrF 141 1 (ccall (escons (clocF 0) (escons (clocF 1) (esnil))) cF_parent_of)) (esnil)) b_lenF))) (cseq (craise (ccall (escons (clocF 1) (escons (clocF 2) (esnil))) cF_bounds_fault)) (snil)) (snil)) (cseq (casg (clocF 3) (gitemF (cattrF 141 1 (ccall (escons (clocF 0) (escons (clocF 1) (esnil))) cF_parent_of)) (clocF 4))) (snil))))
theorem e_set_item : cF_set_item = c_set_item := by
  unfold cF_set_item c_set_item
  simp only [b_lenF_eq, cattrF_eq, cfunF_eq, clocF_eq, gitemF_eq, glocF_eq, tcmp2F_eq, e_bounds_fault, e_parent_of, e_place_in_parent]
noncomputable def cF_made : CF := cfunF 4 [some 0, some 1, some 2, some 3] [] (cseq (cexp (ccall (escons (clocF 2) (esnil)) cF_check_sizes)) (cseq (cif (tcmpF .NotEq (ccall (escons (clocF 2) (esnil)) cF_many_of) (cblt (escons (clocF 3) (esnil)) b_lenF)) (cseq (sdead) (snil)) (snil)) (cseq (cret (ctupF (escons (cstr 9) (escons (cmethF 197 (clocF 0) (escons (ccall (escons (clocF 1) (escons (cblt (escons (clocF 2) (esnil)) b_lenF) (esnil))) cF_array_kind) (escons (clocF 2) (escons (clocF 3) (esnil)))) cF_new_array) (esnil))))) (snil))))
theorem e_made : cF_made = c_made := by
  unfold cF_made c_made
  simp only [b_lenF_eq, cfunF_eq, clocF_eq, cmethF_eq, ctupF_eq, tcmpF_eq, e_array_kind, e_check_sizes, e_many_of, e_new_array]
noncomputable def cF_need_row : CF := cfunF 2 [some 0, some 1] [] (cseq (cif (tor (tcmpF .NotEq (csubF (clocF 1) (cint (.ofNat 0))) (cstr 9)) (tor (tcmpF .NotEq (cblt (escons (cattrF 141 2 (ccall (escons (clocF 0) (escons (clocF 1) (esnil))) cF_parent_of)) (esnil)) b_lenF) (cint (.ofNat 1))) (corn))) (cseq (sdead) (snil)) (snil)) (cseq (cret (ccall (escons (clocF 0) (escons (clocF 1) (esnil))) cF_parent_of)) (snil)))
theorem e_need_row : cF_need_row = c_need_row := by
  unfold cF_need_row c_need_row
  simp only [b_lenF_eq, cattrF_eq, cfunF_eq, clocF_eq, csubF_eq, tcmpF_eq, e_parent_of]
noncomputable def cF_popped : CF := cfunF 2 [some 0, some 1, none, none] [] (cseq (casg (ccall (escons (clocF 0) (escons (clocF 1) (esnil))) cF_need_row) (glocF 2)) (cseq (cif (tcmpF .Eq (cattrF 141 1 (clocF 2)) (clistF (esnil))) (cseq (sdead) (snil)) (snil)) (cseq (casg (cpopF (cattrF 141 1 (clocF 2))) (glocF 3)) (cseq (casg (ctupF (escons (cblt (escons (cattrF 141 1 (clocF 2)) (esnil)) b_lenF) (esnil))) (gattrF 141 2 (clocF 2))) (cseq (cif (tcmpF .Is (clocF 3) (cnone)) (cseq (sdead) (snil)) (snil)) (cseq (cret (clocF 3)) (snil)))))))
theorem e_popped : cF_popped = c_popped := by
  unfold cF_popped c_popped
  simp only [b_lenF_eq, cattrF_eq, cfunF_eq, clistF_eq, clocF_eq, cpopF_eq, ctupF_eq, gattrF_eq, glocF_eq, tcmpF_eq, e_need_row]
noncomputable def cF_taken_row : CF := cfunF 2 [some 0, some 1, none, none, none, none] [] (cseq (cif (tcmpF .Is (clocF 0) (cnone)) (cseq (cret (ctupF (escons (cint (.ofNat 1)) (escons (cint (.ofNat 1)) (escons (clocF 1) (esnil)))))) (snil)) (snil)) (cseq (cif (tval (cisi (clocF 0))) (cseq (cret (cifx (tcmp2F .LtE .LtE (cint (.ofNat 1)) (clocF 0) (clocF 1)) (ctupF (escons (clocF 0) (escons (cint (.ofNat 1)) (escons (cnone) (esnil))))) (cnone))) (snil)) (snil)) (cseq (casg (clocF 0) (gtupF 3 (gcons (glocF 2) (gcons (glocF 3) (gcons (glocF 4) (gnil)))))) (cseq (cif (tcmpF .LtE (clocF 4) (cint (.ofNat 0))) (cseq (cret (ctupF (escons (cint (.ofNat 1)) (escons (clocF 3) (escons (cint (.ofNat 0)) (esnil)))))) (snil)) (snil)) (cseq (cif (tcmpF .Gt (clocF 4) (clocF 1)) (cseq (cret (cnone)) (snil)) (snil)) (cseq (casg (cbinF .Add (clocF 2) (cbinF .Mult (clocF 3) (cbinF .Sub (clocF 4) (cint (.ofNat 1))))) (glocF 5)) (cseq (cret (cifx (tand (tcmp2F .LtE .LtE (cint (.ofNat 1)) (clocF 2) (clocF 1)) (tand (tcmp2F .LtE .LtE (cint (.ofNat 1)) (clocF 5) (clocF 1)) (candn))) (ctupF (escons (clocF 2) (escons (clocF 3) (escons (clocF 4) (esnil))))) (cnone))) (snil))))))))
theorem e_taken_row : cF_taken_row = c_taken_row := by
  unfold cF_taken_row c_taken_row
  simp only [cbinF_eq, cfunF_eq, clocF_eq, ctupF_eq, glocF_eq, gtupF_eq, tcmpF_eq, tcmp2F_eq]
noncomputable def cF_edge_of : CF := cfunF 2 [some 0, some 1, none, none, none, none] [] (cseq (casg (clocF 0) (gtupF 3 (gcons (glocF 2) (gcons (glocF 3) (gcons (glocF 4) (gnil)))))) (cseq (casg (cbinF .Add (clocF 2) (cbinF .Mult (clocF 3) (cbinF .Sub (clocF 4) (cint (.ofNat 1))))) (glocF 5)) (cseq (cret (cifx (tand (tcmpF .Gt (clocF 4) (cint (.ofNat 0))) (tand (tcmp2F .LtE .LtE (cint (.ofNat 1)) (clocF 2) (clocF 1)) (tand (tnot (tcmp2F .LtE .LtE (cint (.ofNat 1)) (clocF 5) (clocF 1))) (candn)))) (clocF 5) (clocF 2))) (snil))))
theorem e_edge_of : cF_edge_of = c_edge_of := by
  unfold cF_edge_of c_edge_of
  simp only [cbinF_eq, cfunF_eq, clocF_eq, glocF_eq, gtupF_eq, tcmpF_eq, tcmp2F_eq]
noncomputable def cF_edge_indices : CF := cfunF 2 [some 0, some 1, none, none, none] [] (cseq (casg (clistF (esnil)) (glocF 2)) (cseq (cforF 10 true (izip2F (escons (clocF 0) (escons (clocF 1) (esnil)))) (gtupF 2 (gcons (glocF 3) (gcons (glocF 4) (gnil)))) (cseq (cif (tcmpF .Is (clocF 3) (cnone)) (cseq (cexp (cappF (clocF 2) (cint (.ofNat 1)))) (snil)) (cseq (cexp (cappF (clocF 2) (cifx (tval (cisi (clocF 3))) (clocF 3) (ccall (escons (clocF 3) (escons (clocF 4) (esnil))) cF_edge_of)))) (snil))) (snil))) (cseq (cret (clocF 2)) (snil))))
theorem e_edge_indices : cF_edge_indices = c_edge_indices := by
  unfold cF_edge_indices c_edge_indices
  simp only [cappF_eq, cforF_eq, cfunF_eq, clistF_eq, clocF_eq, glocF_eq, gtupF_eq, izip2F_eq, tcmpF_eq, e_edge_of]
noncomputable def cF_view_of : CF := cfunF 3 [some 0, some 1, some 2, none, none, none, none, none, none, none, none, none, none] [] (cseq (casg (ccall (escons (clocF 0) (escons (clocF 1) (esnil))) cF_sizes_of) (glocF 3)) (cseq (cif (tcmpF .NotEq (cblt (escons (clocF 2) (esnil)) b_lenF) (cblt (escons (clocF 3) (esnil)) b_lenF)) (cseq (sdead) (snil)) (snil)) (cseq (casgcF 10 [] 3 true (izip2F (escons (clocF 2) (escons (clocF 3) (esnil)))) (gtupF 2 (gcons (glocF 1) (gcons (glocF 2) (gnil)))) (tyes) (cemitF (ccall (escons (clocF 1) (escons (clocF 2) (esnil))) cF_taken_row)) (glocF 4)) (cseq (cif (tcmpF .In (cnone) (clocF 4)) (cseq (craise (ccall (escons (clocF 1) (escons (ccall (escons (clocF 2) (escons (clocF 3) (esnil))) cF_edge_indices) (esnil))) cF_bounds_fault)) (snil)) (snil)) (cseq (casg (ccall (escons (clocF 0) (escons (clocF 1) (esnil))) cF_layout_of) (gtupF 2 (gcons (glocF 5) (gcons (glocF 6) (gnil))))) (cseq (casgb (ctupF (escons (clistF (esnil)) (escons (clistF (esnil)) (esnil)))) (glocF 7) (glocF 8)) (cseq (cforF 10 true (izip2F (escons (clocF 4) (escons (clocF 6) (esnil)))) (gtupF 2 (gcons (gtupF 3 (gcons (glocF 9) (gcons (glocF 10) (gcons (glocF 11) (gnil))))) (gcons (glocF 12) (gnil)))) (cseq (casg (cbinF .Add (clocF 5) (cbinF .Mult (cbinF .Sub (clocF 9) (cint (.ofNat 1))) (clocF 12))) (glocF 5)) (cseq (cif (tcmpF .IsNot (clocF 11) (cnone)) (cseq (cexp (cappF (clocF 7) (clocF 11))) (cseq (cexp (cappF (clocF 8) (cbinF .Mult (clocF 10) (clocF 12)))) (snil))) (snil)) (snil)))) (cseq (cret (ctupF (escons (cstr 10) (escons (csubF (clocF 1) (cint (.ofNat 1))) (escons (clocF 5) (escons (cblt (escons (clocF 7) (esnil)) b_tupleF) (escons (cblt (escons (clocF 8) (esnil)) b_tupleF) (esnil)))))))) (snil)))))))))
theorem e_view_of : cF_view_of = c_view_of := by
  unfold cF_view_of c_view_of
  simp only [b_lenF_eq, b_tupleF_eq, cappF_eq, casgcF_eq, cbinF_eq, cemitF_eq, cforF_eq, cfunF_eq, clistF_eq, clocF_eq, csubF_eq, ctupF_eq, glocF_eq, gtupF_eq, izip2F_eq, tcmpF_eq, e_bounds_fault, e_edge_indices, e_layout_of, e_sizes_of, e_taken_row]
noncomputable def cF_law_int : CF := cfunF 1 [some 0] [] (cseq (cret (ctupF (escons (cstr 4) (escons (cstr 2) (escons (clocF 0) (esnil)))))) (snil))
theorem e_law_int : cF_law_int = c_law_int := by
  unfold cF_law_int c_law_int
  simp only [cfunF_eq, clocF_eq, ctupF_eq]
noncomputable def cF_law_shrunk_right : CF := cfunF 2 [some 0, none, none, none, none, none, none, none, none] [some 1, none, none, none, none, none, none] (cseq (casg (cbinF .Add (cint (.ofNat 1)) (ccall (escons (clocF 0) (escons (cint (.ofNat 6)) (esnil))) cF_law_notch)) (gcelF 1)) (cseq (casg (ccall (escons (ccelF 0) (escons (ctupF (escons (cstr 6) (escons (cstr 13) (escons (ctupF (esnil)) (esnil))))) (escons (ctupF (escons (ccelF 1) (esnil))) (escons (ccompF 10 [] 2 false (irng (escons (ccelF 1) (esnil))) (glocF 1) (tyes) (cemitF (ccall (escons (cbinF .Add (cint (.ofNat 10)) (clocF 1)) (esnil)) cF_law_int))) (esnil))))) cF_made) (glocF 1)) (cseq (ctr [false, false, false, false, false, false, false, false, false] (casg (ctupF (escons (cbinF .Add (cint (.ofNat 1)) (ccall (escons (clocF 0) (escons (ccelF 1) (esnil))) cF_law_notch)) (escons (csubF (clistF (escons (cint (.ofNat 1)) (escons (cint (.ofNat 2)) (escons (cneg (cint (.ofNat 1))) (escons (cneg (cint (.ofNat 2))) (esnil)))))) (ccall (escons (clocF 0) (escons (cint (.ofNat 4)) (esnil))) cF_law_notch)) (esnil)))) (gtupF 2 (gcons (gcelF 3) (gcons (gcelF 4) (gnil)))))) (cseq (casgcF 10 [3, 1, 4] 2 false (irng (escons (ccelF 1) (esnil))) (glocF 1) (tcmp2F .LtE .Lt (cint (.ofNat 0)) (cbinF .Add (cbinF .Sub (ccelF 0) (cint (.ofNat 1))) (cbinF .Mult (ccelF 2) (clocF 1))) (ccelF 1)) (cemitF (cbinF .Add (cbinF .Sub (ccelF 0) (cint (.ofNat 1))) (cbinF .Mult (ccelF 2) (clocF 1)))) (glocF 2)) (cseq (ctr [false, false, false, false, false, false, false, false, false] (casg (ccall (escons (ccelF 0) (escons (clocF 1) (escons (clistF (escons (ctupF (escons (ccelF 3) (escons (ccelF 4) (escons (cblt (escons (clocF 2) (esnil)) b_lenF) (esnil))))) (esnil))) (esnil)))) cF_view_of) (gcelF 6))) (cseq (ctr [true, false, false, false, false, false, false, false, false] (casg (cblt (escons (ccelF 1) (escons (ccall (escons (clocF 0) (escons (cint (.ofNat 4)) (esnil))) cF_law_notch) (esnil))) b_min) (glocF 3))) (cseq (ctr [true, true, false, false, true, false, false, false, false] (cforF 10 false (irng (escons (clocF 3) (esnil))) (glocF 4) (cseq (cexp (ccall (escons (ccelF 0) (escons (clocF 1) (esnil))) cF_popped)) (snil)))) (cseq (casg (clistF (esnil)) (glocF 5)) (cseq (ctr [true, true, true, true, true, false, true, true, false] (cforF 10 true (ienmF (escons (clocF 2) (esnil))) (gtupF 2 (gcons (gcelF 5) (gcons (gcelF 2) (gnil)))) (cseq (casg (ctupF (escons (cstr 1) (escons (ctupF (escons (ccelF 6) (escons (ctupF (escons (cstr 8) (escons (ctupF (escons (ccall (escons (cbinF .Add (ccelF 5) (cint (.ofNat 1))) (esnil)) cF_law_int) (esnil))) (esnil)))) (esnil)))) (esnil)))) (glocF 6)) (cseq (cexp (cappF (clocF 5) (cifx (tcmpF .Lt (ccelF 2) (cbinF .Sub (ccelF 1) (clocF 3))) (ccall (escons (cbinF .Add (cint (.ofNat 10)) (ccelF 2)) (esnil)) cF_law_int) (clocF 6)))) (cseq (cif (tcmpF .NotEq (cheardF [5, 0, 6] (ccall (escons (ccelF 1) (escons (ccelF 2) (escons (ctupF (escons (cbinF .Add (ccelF 0) (cint (.ofNat 1))) (esnil))) (esnil)))) cF_item_at)) (csubF (clocF 5) (cneg (cint (.ofNat 1))))) (cseq (cret (cbool false)) (snil)) (snil)) (cseq (casg (cheardF [5, 0, 2, 6] (ccall (escons (ccelF 1) (escons (ccelF 3) (escons (ctupF (escons (cbinF .Add (ccelF 0) (cint (.ofNat 1))) (esnil))) (escons (ccall (escons (cbinF .Add (cint (.ofNat 70)) (ccelF 2)) (esnil)) cF_law_int) (esnil))))) cF_set_item)) (glocF 7)) (cseq (cif (tcmpF .NotEq (clocF 7) (cifx (tcmpF .Lt (ccelF 2) (cbinF .Sub (ccelF 1) (clocF 3))) (cnone) (clocF 6))) (cseq (cret (cbool false)) (snil)) (snil)) (cseq (casg (cifx (tcmpF .Is (clocF 7) (cnone)) (ccall (escons (cbinF .Add (cint (.ofNat 70)) (ccelF 2)) (esnil)) cF_law_int) (clocF 6)) (gitemF (clocF 5) (cneg (cint (.ofNat 1))))) (cseq (ctr [false, false, false, false, false, false, false, false, false] (cif (tcmpF .NotEq (cheardF [5, 0, 6] (ccall (escons (ccelF 1) (escons (ccelF 2) (escons (ctupF (escons (cbinF .Add (ccelF 0) (cint (.ofNat 1))) (esnil))) (esnil)))) cF_item_at)) (csubF (clocF 5) (cneg (cint (.ofNat 1))))) (cseq (cret (cbool false)) (snil)) (snil))) (snil)))))))))) (cseq (casgcF 10 [] 2 false (ivalF (clocF 5)) (glocF 1) (tcmpF .Eq (csubF (clocF 1) (cint (.ofNat 0))) (cstr 1)) (cemitF (clocF 1)) (glocF 8)) (cseq (cret (ccmpF .Eq (cheardF [0, 6] (ccall (escons (ccelF 0) (escons (ccelF 1) (esnil))) cF_items_of)) (cifx (tcmpF .NotEq (clocF 8) (clistF (esnil))) (csubF (clocF 8) (cint (.ofNat 0))) (clocF 5)))) (snil))))))))))))
theorem e_law_shrunk_right : cF_law_shrunk_right = c_law_shrunk_right := by
  unfold cF_law_shrunk_right c_law_shrunk_right
  simp only [b_lenF_eq, c_law_notchF_eq, cappF_eq, casgcF_eq, cbinF_eq, ccelF_eq, ccmpF_eq, ccompF_eq, cemitF_eq, cforF_eq, cfunF_eq, cheardF_eq, clistF_eq, clocF_eq, csubF_eq, ctupF_eq, gcelF_eq, gitemF_eq, glocF_eq, gtupF_eq, ienmF_eq, ivalF_eq, tcmpF_eq, tcmp2F_eq, e_item_at, e_items_of, e_law_int, e_law_notch, e_made, e_popped, e_set_item, e_view_of]
noncomputable def cF_law_sizes_right : CF := cfunF 1 [none, none, none] [some 0, none, none] (cseq (casg (clistF (escons (cint (.ofNat 0)) (escons (cint (.ofNat 1)) (escons (cint (.ofNat 2)) (escons (cint (.ofNat 3)) (escons (cint (.ofNat 200)) (escons (cint (.ofNat 20000)) (escons (cbinF .Pow (cint (.ofNat 10)) (cint (.ofNat 12))) (escons (cneg (cint (.ofNat 1))) (esnil)))))))))) (gcelF 1)) (cseq (casg (cblt (escons (ccompF 10 [0, 1] 2 false (irng (escons (cbinF .Add (cint (.ofNat 1)) (ccall (escons (ccelF 0) (escons (cint (.ofNat 3)) (esnil))) cF_law_notch)) (esnil))) (glocF 1) (tyes) (cemitF (csubF (ccelF 1) (ccall (escons (ccelF 0) (escons (cint (.ofNat 8)) (esnil))) cF_law_notch)))) (esnil)) b_tupleF) (gcelF 2)) (cseq (casg (cint (.ofNat 1)) (glocF 0)) (cseq (cforF 10 false (ivalF (ccelF 2)) (glocF 1) (cseq (casg (cbinF .Mult (clocF 0) (cifx (tcmpF .Gt (clocF 1) (cint (.ofNat 0))) (clocF 1) (cint (.ofNat 1)))) (glocF 0)) (snil))) (cseq (casg (cheardF [2] (ccall (escons (ccelF 0) (esnil)) cF_check_sizes)) (glocF 2)) (cseq (cif (tor (tcmpF .In (cneg (cint (.ofNat 1))) (ccelF 2)) (tor (tcmpF .Gt (clocF 0) (cint (.ofNat 20000))) (corn))) (cseq (cret (candv (ccmpF .IsNot (clocF 2) (cnone)) (ccmpF .Eq (csubF (clocF 2) (cint (.ofNat 0))) (cstr 0)))) (snil)) (snil)) (cseq (cret (ccmpF .Is (clocF 2) (cnone))) (snil))))))))
theorem e_law_sizes_right : cF_law_sizes_right = c_law_sizes_right := by
  unfold cF_law_sizes_right c_law_sizes_right
  simp only [b_tupleF_eq, c_law_notchF_eq, cbinF_eq, ccelF_eq, ccmpF_eq, ccompF_eq, cemitF_eq, cforF_eq, cfunF_eq, cheardF_eq, clistF_eq, clocF_eq, csubF_eq, gcelF_eq, glocF_eq, ivalF_eq, tcmpF_eq, e_check_sizes, e_law_notch]
noncomputable def cF_law_ones_right : CF := cfunF 2 [none, none, none, none] [some 0, some 1, none, none] (cseq (ctr [false, false, false, false] (casg (cblt (escons (ccompF 10 [0] 2 false (irng (escons (cbinF .Add (cint (.ofNat 1)) (ccall (escons (ccelF 0) (escons (cint (.ofNat 2)) (esnil))) cF_law_notch)) (esnil))) (glocF 1) (tyes) (cemitF (cbinF .Add (cint (.ofNat 1)) (ccall (escons (ccelF 0) (escons (cint (.ofNat 3)) (esnil))) cF_law_notch)))) (esnil)) b_tupleF) (glocF 0))) (cseq (ctr [false, false, false, false] (casg (cblt (escons (ccompF 10 [0] 2 false (ivalF (clocF 0)) (glocF 1) (tyes) (cemitF (cbinF .Add (cint (.ofNat 1)) (ccall (escons (ccelF 0) (escons (clocF 1) (esnil))) cF_law_notch)))) (esnil)) b_tupleF) (glocF 1))) (cseq (ctr [false, false, false, false] (casg (ccall (escons (clocF 0) (escons (clocF 1) (esnil))) cF_offset_of) (glocF 2))) (cseq (ctr [false, false, true, false] (cif (tor (tcmpF .Lt (clocF 2) (cint (.ofNat 0))) (tor (tcmpF .NotEq (ccall (escons (clocF 0) (escons (cbinF .Add (clocF 1) (ctupF (escons (cint (.ofNat 1)) (esnil)))) (esnil))) cF_offset_of) (clocF 2)) (tor (tcmpF .NotEq (ccall (escons (clocF 0) (escons (cbinF .Add (clocF 1) (ctupF (escons (cint (.ofNat 1)) (escons (cint (.ofNat 1)) (esnil))))) (esnil))) cF_offset_of) (clocF 2)) (corn)))) (cseq (cret (cbool false)) (snil)) (snil))) (cseq (ctr [true, true, true, false] (cif (tor (tcmpF .NotEq (ccall (escons (clocF 0) (escons (cbinF .Add (clocF 1) (ctupF (escons (cint (.ofNat 2)) (esnil)))) (esnil))) cF_offset_of) (cneg (cint (.ofNat 1)))) (tor (tcmpF .NotEq (ccall (escons (clocF 0) (escons (cbinF .Add (clocF 1) (ctupF (escons (cint (.ofNat 1)) (escons (cint (.ofNat 2)) (esnil))))) (esnil))) cF_offset_of) (cneg (cint (.ofNat 1)))) (corn))) (cseq (cret (cbool false)) (snil)) (snil))) (cseq (casg (ccall (escons (ccelF 1) (escons (ctupF (escons (cstr 6) (escons (cstr 13) (escons (ctupF (esnil)) (esnil))))) (escons (ctupF (escons (cint (.ofNat 3)) (esnil))) (escons (ccompF 10 [] 2 false (irng (escons (cint (.ofNat 3)) (esnil))) (glocF 1) (tyes) (cemitF (ccall (escons (clocF 1) (esnil)) cF_law_int))) (esnil))))) cF_made) (gcelF 3)) (cseq (ctr [true, true, true, false] (cif (tcmpF .NotEq (ccall (escons (ccelF 1) (escons (ccall (escons (ccelF 1) (escons (ccelF 3) (escons (clistF (escons (ctupF (escons (cint (.ofNat 2)) (escons (cint (.ofNat 0)) (escons (cint (.ofNat 3)) (esnil))))) (esnil))) (esnil)))) cF_view_of) (esnil))) cF_items_of) (cbinF .Mult (clistF (escons (ccall (escons (cint (.ofNat 1)) (esnil)) cF_law_int) (esnil))) (cint (.ofNat 3)))) (cseq (cret (cbool false)) (snil)) (snil))) (cseq (ctr [true, true, true, false] (cif (tcmpF .NotEq (csubF (cheardF [1, 0, 3] (ccall (escons (ccelF 0) (escons (ccelF 2) (escons (clistF (escons (ctupF (escons (cint (.ofNat 2)) (escons (cint (.ofNat 0)) (escons (cbinF .Add (cint (.ofNat 4)) (ccall (escons (ccelF 1) (escons (cbinF .Pow (cint (.ofNat 10)) (cint (.ofNat 9))) (esnil))) cF_law_notch)) (esnil))))) (esnil))) (esnil)))) cF_view_of)) (cint (.ofNat 0))) (cstr 1)) (cseq (cret (cbool false)) (snil)) (snil))) (cseq (ctr [true, true, true, false] (casg (csubF (clistF (escons (cbinF .Pow (cint (.ofNat 2)) (cint (.ofNat 70))) (escons (cbinF .Pow (cint (.ofNat 2)) (cint (.ofNat 63))) (escons (cbinF .Sub (cbinF .Pow (cint (.ofNat 2)) (cint (.ofNat 63))) (cint (.ofNat 1))) (esnil))))) (cbinF .Mod (ccall (escons (ccelF 0) (escons (cint (.ofNat 9)) (esnil))) cF_law_notch) (cint (.ofNat 3)))) (gcelF 2))) (cseq (ctr [true, true, true, false] (casg (ctupF (escons (cstr 1) (escons (ctupF (escons (ccelF 3) (escons (ctupF (escons (cstr 8) (escons (ctupF (escons (ctupF (escons (cstr 4) (escons (cifx (tcmpF .Lt (ccelF 2) (cbinF .Pow (cint (.ofNat 2)) (cint (.ofNat 63)))) (cstr 2) (cstr 3)) (escons (ccelF 2) (esnil))))) (esnil))) (esnil)))) (esnil)))) (esnil)))) (glocF 3))) (cseq (cret (ccmpF .Eq (cheardF [2, 1, 3] (ccall (escons (ccelF 1) (escons (ccelF 2) (escons (ctupF (escons (ccelF 0) (esnil))) (esnil)))) cF_item_at)) (clocF 3))) (snil))))))))))))
theorem e_law_ones_right : cF_law_ones_right = c_law_ones_right := by
  unfold cF_law_ones_right c_law_ones_right
  simp only [b_tupleF_eq, c_law_notchF_eq, cbinF_eq, ccelF_eq, ccmpF_eq, ccompF_eq, cemitF_eq, cfunF_eq, cheardF_eq, clistF_eq, clocF_eq, csubF_eq, ctupF_eq, gcelF_eq, glocF_eq, ivalF_eq, tcmpF_eq, e_item_at, e_items_of, e_law_int, e_law_notch, e_made, e_offset_of, e_view_of]
end Mine
open PySem PySem.W PyProof.Rows PySem.Calls PySem.Spec
set_option Elab.async false
set_option maxRecDepth 100000
set_option maxHeartbeats 1000000
set_option linter.unusedSimpArgs false
set_option linter.unusedVariables false
namespace Mine

theorem g_law_rim : Glb "_law_rim" (.ref 359) := glb_of fun P => by kernel_rfl
theorem k_law_rim : ∀ P, keepIn (hk P) (.ref 359) = true := fun P => by kernel_rfl
noncomputable def c_rim : CS := cseq (casg (cifx (tcmp .GtE (cloc 1) (cint (.ofNat 0))) (cloc 1) (cbin .Sub (cint (.ofNat 23)) (cloc 1))) (gloc 2)) (cseq (cret (clist (escons (cifx (tcmp .GtE (cloc 2) (cbin .Pow (cint (.ofNat 10)) (cint (.ofNat 15)))) (cloc 2) (cint (.ofNat 0))) (escons (cbin .Mod (cbin .Add (cbin .Mult (cbin .Mod (cloc 2) (cint (.ofNat 999979))) (cint (.ofNat 311))) (cint (.ofNat 101))) (cint (.ofNat 65287))) (esnil))))) (snil))
section
variable {D : Dt} {Γ : Ctx} {b : Nat} {A : Around} {env : Env} {s : Shared} {G : St} {F : Fx} {loc : Loc} {cel : List Nat} {m : Str → Option Value} {rest : List (Addr × (Str → Option Value))} {sv : Addr} {ws : List Value} {ns : List Int}
/-- `edge = script[0] if len(script) > 0 else 0` -/
theorem rim_edge (hat : At D Γ b A env s G F loc cel) (hfr : F.fr = (env.locals, m) :: rest) (hv : m "script" = some (.ref sv)) (hs : D.base.IsList sv ws.toArray) (hI : IntsAre ws ns) (hz : ws.length ≤ 100) {x : Str} {q0 q1 q2 q3 q4 q5 q6 q7 q8 q9 q10 q11 : Pos} {k1 k2 k3 : Nat} {g : CG} {n : KN} {Q : Flow → Shared → Prop} {E : Value → Shared → Prop}
    (hk : Γ.names.lookup ("script" : Str) = some .local) (hkl : Γ.names.lookup ("len" : Str) = some .globalImplicit) (ht : TG Γ b (.Name x q0) g)
    (hc : ∀ e : Int, g (.int e) loc cel G.σ n = true) (hn : PN D Γ b A env cel F G s n (Q .next)) :
    wpAny (model prog D.w) A (exec (.Assign [.Name x q0] (.IfExp (.Compare (.Call (.Name "len" q1) [.Name "script" q2] [] q3) [.Gt] [.Constant (.int 0) k1 q4] q5) (.Subscript (.Name "script" q6) (.Constant (.int 0) k2 q7) q8) (.Constant (.int 0) k3 q9) q10) q11) env) Q E s := by
  have hl : ∀ {s' : Shared}, Wd D s'.heap G F → s'.heap.IsList sv ws.toArray := fun W => let ⟨o, ho, r⟩ := hs; ⟨o, W.keep _ _ ho, r⟩
  have fin : ∀ (e : Int) (t : Tok) (tk : Nat), wpAny (model prog D.w) A (assignAll (.int e t) ((assignEach [.Name x q0] env).map (·.2))) (fun _ => Q .next) E { s with toks := tk } := by
    intro e t tk
    have a1 := At.step (s' := { s with toks := tk }) hat hat.w (Le.refl _)
    exact ht a1 (.int e t) (hc e) (PN.step hn hat.fr1 (Le.refl _) ⟨rfl, rfl, rfl⟩)
  refine wpAny_Assign_stores ?_ rfl rfl
  refine wpAny_IfExp (wpAny_isTrue_Compare1 (Call_Name rfl (name_glob hat hkl rfl g_len (callWith_builtin1 (wpAny_items_cons (own_name hat hfr hv hk rfl (wpAny_items_nil ?_)) rfl) rfl rfl))) rfl)
  refine call_len_list (hl hat.w) (by rw [List.size_toArray]; omega) ?_
  refine wpAny_Constant_int ?_
  refine cmpS_ok (op := .Gt) (G := G) (F := F) (a := .int _) (b := .int _) rfl hat.w (units_ok hat.a) (.int _ _) (.int _ _) (wpAny_truthy_bool ?_)
  cases hI with
  | nil => exact wpAny_Constant_int (fin 0 _ _)
  | cons e t hr =>
    rename_i us ms
    have h1 : Z.ltB (.ofNat 0) (((Value.int e t :: us).toArray.size : Nat) : Int) = true := rfl
    have h2 : Z.ltB 0 (((Value.int e t :: us).toArray.size : Nat) : Int) = true := h1
    rw [h2]
    have a1 := At.step (s' := { s with toks := s.toks + 1 + 1 + 1 }) hat hat.w (Le.refl _)
    show wpAny _ _ (eval (.Subscript (.Name "script" q6) (.Constant (.int 0) k2 q7) q8) env) _ _ _
    rw [eval_Subscript]
    refine wpAny_bind (own_name a1 hfr hv hk rfl ?_)
    refine wpAny_bind (wpAny_holding (wpAny_Constant_int ?_))
    refine wpAny_bind (wpAny_standAt ?_)
    have hL := hl (s' := { s with toks := s.toks + 1 + 1 + 1 + 1 }) hat.w
    refine sub_tail (T := "list") hL.typeIs PySem.F.slot_list_getitem.lookup (wpAny_getItem_list hL (Int.le_refl 0) (by decide) rfl ?_) rfl
    exact fin e t _
end

theorem s_rim {body : List PySem.Stmt} {st : PySem.Stmt} (hb : dBody (dAt 44) = st :: body) : SSs ⟨[("script", .local), ("edge", .local), ("size", .local), ("len", .globalImplicit)], ["script", "edge", "size"], [], some (.ref 358)⟩ 0 body c_rim := by
  cases hb
  exact (@sss_cons _ _ _ _ _ _ (@ss_asg _ _ _ _ _ _ _ (@se_if _ _ _ _ _ _ _ _ _ (@st_cmp _ _ _ _ _ _ _ _ (@ne_loc _ _ _ _ 1 rfl rfl rfl) (@ne_int _ _ _ _ _) rfl) (@ne_loc _ _ _ _ 1 rfl rfl rfl) (@se_bin _ _ _ _ _ _ _ _ (@ne_int _ _ _ _ _) (@ne_loc _ _ _ _ 1 rfl rfl rfl))) (@tg_loc _ _ _ _ 2 rfl (by decide +kernel) rfl) (fun _ _ => rfl) (fun _ _ => rfl) (fun _ => rfl)) (@sss_cons _ _ _ _ _ _ (@ss_ret _ _ _ _ _ (@ne_list _ _ _ _ _ (@nes_cons _ _ _ _ _ _ (@se_if _ _ _ _ _ _ _ _ _ (@st_cmp _ _ _ _ _ _ _ _ (@ne_loc _ _ _ _ 2 rfl rfl rfl) (@se_bin _ _ _ _ _ _ _ _ (@ne_int _ _ _ _ _) (@ne_int _ _ _ _ _)) rfl) (@ne_loc _ _ _ _ 2 rfl rfl rfl) (@ne_int _ _ _ _ _)) (@nes_cons _ _ _ _ _ _ (@se_bin _ _ _ _ _ _ _ _ (@se_bin _ _ _ _ _ _ _ _ (@se_bin _ _ _ _ _ _ _ _ (@se_bin _ _ _ _ _ _ _ _ (@ne_loc _ _ _ _ 2 rfl rfl rfl) (@ne_int _ _ _ _ _)) (@ne_int _ _ _ _ _)) (@ne_int _ _ _ _ _)) (@ne_int _ _ _ _ _)) (@nes_nil _ _) (fun _ => rfl)) (fun _ => rfl)))) (@nss_nil _ _)))

theorem rim_tail {e : Int} {v0 v2 : Option V} {cel : List Nat} {σ : List AO} {n : KN} {k x : KV} (hk : ∀ a b : Int, 0 ≤ a → 0 ≤ b → b < 65287 → k (.ref σ.length) (σ ++ [.lst [.int a, .int b]]) = true) : c_rim [v0, some (.int e), v2] cel σ n k x = true := by
  have h1 : ∀ a : Int, ∀ σ : List AO, binS .Sub σ (.int (.ofNat 23)) (.int a) = some (.int (23 - a), σ) := fun a σ => rfl
  have h2 : ∀ σ : List AO, binS .Pow σ (.int (.ofNat 10)) (.int (.ofNat 15)) = some (.int (10 ^ 15), σ) := fun σ => rfl
  have h3 : ∀ a : Int, ∀ σ : List AO, binS .Mod σ (.int a) (.int (.ofNat 999979)) = some (.int (a.fmod 999979), σ) := fun a σ => rfl
  have h4 : ∀ a : Int, ∀ σ : List AO, binS .Mult σ (.int a) (.int (.ofNat 311)) = some (.int (a * 311), σ) := fun a σ => rfl
  have h5 : ∀ a : Int, ∀ σ : List AO, binS .Add σ (.int a) (.int (.ofNat 101)) = some (.int (a + 101), σ) := fun a σ => rfl
  have h6 : ∀ a : Int, ∀ σ : List AO, binS .Mod σ (.int a) (.int (.ofNat 65287)) = some (.int (a.fmod 65287), σ) := fun a σ => rfl
  have c1 : ∀ a b : Int, ∀ σ : List AO, cmpS .GtE σ (.int a) (.int b) = some (Z.leB b a) := fun a b σ => rfl
  have fin : ∀ d : Int, 0 ≤ d → (match Z.leB (10 ^ 15) d with
      | true => (Nat.ble 2 1000 && k (.ref σ.length) (σ ++ [.lst [.int d, .int ((d.fmod 999979 * 311 + 101).fmod 65287)]]))
      | false => (Nat.ble 2 1000 && k (.ref σ.length) (σ ++ [.lst [.int 0, .int ((d.fmod 999979 * 311 + 101).fmod 65287)]]))) = true := by
    intro d hd
    have g1 := Int.fmod_nonneg_of_pos (d.fmod 999979 * 311 + 101) (b := 65287) (by omega)
    have g2 := Int.fmod_lt_of_pos (d.fmod 999979 * 311 + 101) (b := 65287) (by omega)
    cases Z.leB (10 ^ 15) d with
    | true => exact Bool.and_eq_true_iff.mpr ⟨rfl, hk _ _ hd g1 g2⟩
    | false => exact Bool.and_eq_true_iff.mpr ⟨rfl, hk _ _ (Int.le_refl 0) g1 g2⟩
  simp only [c_rim, cseq, casg, cifx, tcmp, cloc, cint, cbin, cret, clist, escons, esnil, snil, gloc, lget, lset, c1, h1]
  cases h0 : Z.leB (.ofNat 0) e with
  | true =>
    have := fin e ((Z.leB_iff _ _).mp h0)
    simp only [h2, h3, h4, h5, h6, c1, lget]
    exact this
  | false =>
    have he : ¬ (0 ≤ e) := fun q => by rw [(Z.leB_iff (.ofNat 0) e).mpr q] at h0; cases h0
    have := fin (23 - e) (by omega)
    simp only [h2, h3, h4, h5, h6, c1, lget]
    exact this
theorem rim_call {D : Dt} {A : Around} {s : Shared} {G : St} {F : Fx} {sv : Addr} {ws : List Value} {ns : List Int} {Q E : Value → Shared → Prop} (ha : AOK A 1 F) (W : Wd D s.heap G F) (hs : D.base.IsList sv ws.toArray) (hI : IntsAre ws ns) (hz : ws.length ≤ 100)
    (hq : ∀ s' G' w, G'.σ = G.σ ++ [.rim] → Wd D s'.heap G' F → Le G G' → VR G' (.ref G.σ.length) w → Same s s' → Q w s') : wpAny (model prog D.w) A (call (.ref 359) [.ref sv]) Q E s := by
  refine' call_core (b := 0) (vs := [.opq]) (ws := [.ref sv]) (G := G) (F := F) ["script"] ["script", "edge", "size"] [] [some 0, none, none] [] ?hK ?hcd ?hl ha W (.cons (.opq _) .nil) rfl ?hb ?H
  case hK => intro P; rfl
  case hcd => intro P; kernel_rfl
  case hl => rfl
  case hb => rfl
  case H =>
    intro env1 s1 as hat L3 m3 hfr Q' E' q1 q2 q3
    let P : V → List AO → Prop := fun v σ' => v = .ref G.σ.length ∧ ∃ x y : Int, 0 ≤ x ∧ 0 ≤ y ∧ y < 65287 ∧ σ' = G.σ ++ [.lst [.int x, .int y]]
    let k1 : KV := fun v σ' => @decide (P v σ') (Classical.propDecidable _)
    have hk1 : ∀ v σ', k1 v σ' = true ↔ P v σ' := fun v σ' => by simp [k1]
    refine wpAny_execs_cons (rim_edge (n := fun loc σ => c_rim loc [] σ (fun _ _ => false) k1 dead) hat rfl rfl hs hI hz rfl rfl (tg_loc 1 rfl (by decide +kernel) rfl) (fun e => ?_) ?_)
    · show c_rim [some .opq, some (.int e), none] [] (G.σ ++ []) (fun _ _ => false) k1 dead = true
      rw [List.append_nil]
      exact rim_tail fun a b g1 g2 g3 => (hk1 _ _).mpr ⟨rfl, a, b, g1, g2, g3, rfl⟩
    · intro s2 G2 F2 loc2 c2 f2 a2 l2 m2
      refine s_rim rfl a2 c2 (fun _ _ _ _ c => by cases c) (fun v s3 G3 F3 w c3 f3 W3 l3 r3 m4 => ?_) (fun F3 f3 v s3 G3 e c3 => by cases c3)
      obtain ⟨rfl, x, y, g1, g2, g3, hσ⟩ := (hk1 _ _).mp c3
      obtain ⟨pr3, fr3, fe3⟩ := F3
      obtain ⟨e1, e2, L', m', m'', r', e3, e4⟩ := f2.trans f3
      simp only at e1 e2 e3 e4
      subst e1 e2 e4
      cases e3
      have W4 := Wd.popFr W3 (fe' := F.fe) fun e he => W.fe e he
      have hj : nth G3.σ G.σ.length = some (.lst [.int x, .int y]) := by rw [nth_eq, hσ]; simp
      have W5 := W4.rimOut hj g1 g2 g3
      refine q1 _ _ (hq s3 { G3 with σ := G3.σ.set G.σ.length .rim } w ?_ W5 ((L3.trans l2).trans ⟨l3.tl, l3.μ⟩) ?_ ((m3.trans m2).trans m4))
      · show G3.σ.set G.σ.length .rim = _
        rw [hσ]; simp
      · cases r3 with | ref hm => exact .ref hm
end Mine
open PySem PySem.W PyProof.Rows PySem.Calls PySem.Spec
set_option Elab.async false
set_option maxRecDepth 100000
set_option maxHeartbeats 1000000
set_option linter.unusedSimpArgs false
set_option linter.unusedVariables false
namespace Mine

noncomputable def c_lawfor : CS := cfor 10 true (ival (ctup (escons (ctup (escons (ctup (escons (cint (.ofNat 0)) (escons (cbin .Pow (cint (.ofNat 10)) (cint (.ofNat 12))) (esnil)))) (escons (cbool false) (esnil)))) (escons (ctup (escons (ctup (escons (cint (.ofNat 20000)) (escons (cint (.ofNat 0)) (esnil)))) (escons (cbool true) (esnil)))) (escons (ctup (escons (ctup (escons (cint (.ofNat 200)) (escons (cint (.ofNat 101)) (esnil)))) (escons (cbool false) (esnil)))) (escons (ctup (escons (ctup (escons (cint (.ofNat 200)) (escons (cint (.ofNat 100)) (esnil)))) (escons (cbool true) (esnil)))) (esnil))))))) (gtup 2 (gcons (gcel 0) (gcons (gloc 3) (gnil)))) (cseq (cif (tcmp .NotEq (ccmp .Is (cheard [0] (ccall (escons (ccel 0) (esnil)) c_check_sizes)) (cnone)) (cloc 3)) (cseq (cret (cbool false)) (snil)) (snil)) (snil))
noncomputable abbrev lawNames : List (Str × NameKind) := [("script", .local), ("rim", .local), ("heap", .local), ("is_let", .local), ("sizes", .cell), ("_law_rim", .globalImplicit), ("Heap", .globalImplicit), ("_law_heard", .globalImplicit), ("_law_shrunk_right", .globalImplicit), ("_law_sizes_right", .globalImplicit), ("_law_ones_right", .globalImplicit)]
noncomputable abbrev ΓL : Ctx := ⟨lawNames, ["script", "rim", "heap", "is_let"], ["sizes"], some (.ref 401)⟩
theorem s_lawfor {s1 st s3 : PySem.Stmt} (hb : dBody (dAt 51) = [s1, st, s3]) : SS ΓL 19 st c_lawfor := by
  cases hb
  exact (@ss_for _ _ _ 10 _ _ _ _ _ _ _ (@si_val _ _ _ _ (@ne_tuple _ _ _ _ _ _ (@nes_cons _ _ _ _ _ _ (@ne_tuple _ _ _ _ _ _ (@nes_cons _ _ _ _ _ _ (@ne_tuple _ _ _ _ _ _ (@nes_cons _ _ _ _ _ _ (@ne_int _ _ _ _ _) (@nes_cons _ _ _ _ _ _ (@se_bin _ _ _ _ _ _ _ _ (@ne_int _ _ _ _ _) (@ne_int _ _ _ _ _)) (@nes_nil _ _) (fun _ => rfl)) (fun _ => rfl)) (Nat.le_of_ble_eq_true rfl)) (@nes_cons _ _ _ _ _ _ (@ne_bool _ _ _ _ _) (@nes_nil _ _) (fun _ => rfl)) (fun _ => rfl)) (Nat.le_of_ble_eq_true rfl)) (@nes_cons _ _ _ _ _ _ (@ne_tuple _ _ _ _ _ _ (@nes_cons _ _ _ _ _ _ (@ne_tuple _ _ _ _ _ _ (@nes_cons _ _ _ _ _ _ (@ne_int _ _ _ _ _) (@nes_cons _ _ _ _ _ _ (@ne_int _ _ _ _ _) (@nes_nil _ _) (fun _ => rfl)) (fun _ => rfl)) (Nat.le_of_ble_eq_true rfl)) (@nes_cons _ _ _ _ _ _ (@ne_bool _ _ _ _ _) (@nes_nil _ _) (fun _ => rfl)) (fun _ => rfl)) (Nat.le_of_ble_eq_true rfl)) (@nes_cons _ _ _ _ _ _ (@ne_tuple _ _ _ _ _ _ (@nes_cons _ _ _ _ _ _ (@ne_tuple _ _ _ _ _ _ (@nes_cons _ _ _ _ _ _ (@ne_int _ _ _ _ _) (@nes_cons _ _ _ _ _ _ (@ne_int _ _ _ _ _) (@nes_nil _ _) (fun _ => rfl)) (fun _ => rfl)) (Nat.le_of_ble_eq_true rfl)) (@nes_cons _ _ _ _ _ _ (@ne_bool _ _ _ _ _) (@nes_nil _ _) (fun _ => rfl)) (fun _ => rfl)) (Nat.le_of_ble_eq_true rfl)) (@nes_cons _ _ _ _ _ _ (@ne_tuple _ _ _ _ _ _ (@nes_cons _ _ _ _ _ _ (@ne_tuple _ _ _ _ _ _ (@nes_cons _ _ _ _ _ _ (@ne_int _ _ _ _ _) (@nes_cons _ _ _ _ _ _ (@ne_int _ _ _ _ _) (@nes_nil _ _) (fun _ => rfl)) (fun _ => rfl)) (Nat.le_of_ble_eq_true rfl)) (@nes_cons _ _ _ _ _ _ (@ne_bool _ _ _ _ _) (@nes_nil _ _) (fun _ => rfl)) (fun _ => rfl)) (Nat.le_of_ble_eq_true rfl)) (@nes_nil _ _) (fun _ => rfl)) (fun _ => rfl)) (fun _ => rfl)) (fun _ => rfl)) (Nat.le_of_ble_eq_true rfl))) (@tg_tup _ _ _ _ _ _ _ (@tgs_cons _ _ _ _ _ _ (@tg_cel _ _ _ _ 0 rfl rfl) (@tgs_cons _ _ _ _ _ _ (@tg_loc _ _ _ _ 3 rfl (by decide +kernel) rfl) (@ntg_nil _ _) (fun _ => rfl)) (fun _ => rfl)) (fun _ => rfl) (fun _ => rfl)) (@sss_cons _ _ _ _ _ _ (@ss_if _ _ _ _ _ _ _ _ _ (@st_cmp _ _ _ _ _ _ _ _ (@se_cmp _ _ _ _ _ _ _ _ (@se_heard _ 17 _ _ _ [0] _ _ _ _ _ ["sizes"] _ rfl (by decide : (401, 397) ∈ tabs) (@se_callK _ _ _ _ _ _ _ _ _ _ (@SF.le 5 17 _ _ (f_check_sizes) rfl) g_check_sizes k_check_sizes (@nes_cons _ _ _ _ _ _ (@ne_cell _ _ _ _ 0 rfl (.inr ⟨rfl, rfl⟩) rfl) (@nes_nil _ _) (fun _ => rfl)) rfl rfl (fun _ => rfl) (fun _ => rfl)) rfl rfl (fun _ => rfl) rfl rfl rfl (fun _ _ _ _ _ => rfl)) (@ne_none _ _ _ _) rfl) (@ne_loc _ _ _ _ 3 rfl rfl rfl) rfl) (@sss_cons _ _ _ _ _ _ (@ss_ret _ _ _ _ _ (@ne_bool _ _ _ _ _)) (@nss_nil _ _)) (@nss_nil _ _)) (@nss_nil _ _)) rfl (fun _ _ => rfl))

section
variable {D : Dt} {Γ : Ctx} {b : Nat} {A : Around} {env : Env} {s : Shared} {G : St} {F : Fx} {loc : Loc} {cel : List Nat} {x y : Str} {g1 g2 : CG} {va vb : V} {n : KN} {Q : Flow → Shared → Prop} {E : Value → Shared → Prop}
/-- two names are bound to what a tuple's parts give -/
theorem asgb_at {ts : List PySem.Expr} {k : Nat} {q p : Pos} {value : PySem.Expr} (h : At D Γ b A env s G F loc cel)
    (he : ∀ Q' : Value → Shared → Prop, (∀ s1 G1 wa wb T, Wd D s1.heap G1 F → Le G G1 → Same s s1 → (T, tupObj [wa, wb]) ∈ G1.tl → VR G1 va wa → VR G1 vb wb → g2 vb loc cel G1.σ (fun loc2 σ2 => g1 va loc2 cel σ2 n) = true → Q' (.ref T) s1) → wpAny (model prog D.w) A (eval value env) Q' E s)
    (h1 : TB Γ b x g1) (h2 : TB Γ b y g2) (hs : swapsWithSole [.Tuple ts k q] value p.line env = pure false) (hw : swappedStores [.Tuple ts k q] value env = pure (some [x, y])) (hn : PN D Γ b A env cel F G s n (Q .next)) :
    wpAny (model prog D.w) A (exec (.Assign [.Tuple ts k q] value p) env) Q E s := by
  refine Assign_Tuple_swapped (he _ fun s1 G1 wa wb T w1 l1 m1 m ra rb c1 => ?_) hs hw
  have e : [x, y].length = (#[wa, wb] : Array Value).size := rfl
  rw [e]
  refine unpackItems_tuple (items := #[wa, wb]) h.a.h ⟨_, w1.tl _ m, rfl, _, rfl⟩ fun h' he' => ?_
  have a1 := h.step (s' := { s1 with heap := h' }) (w1.grow (extNew he')) l1
  show wpAny _ _ (assignInOrder [fun v => bindName env y v, fun v => bindName env x v] [wb, wa]) _ _ _
  refine wpAny_bind (wpAny_holding (h2 a1 rb c1 fun s2 G2 F2 loc2 c2 r2 a2 l2 m2 => ?_))
  refine wpAny_bind (wpAny_holding (h1 a2 (ra.mono l2) (n := n) c2 fun s3 G3 F3 loc3 c3 r3 a3 l3 m3 => ?_))
  exact wpAny_pure (hn _ _ _ _ c3 (r2.trans r3) a3 ((l1.trans l2).trans l3) (((m1.trans (show Same s1 { s1 with heap := h' } from ⟨rfl, rfl, rfl⟩)).trans m2).trans m3))
/-- one step of an «and» whose part is True -/
theorem and_true {p : Pos} {e e2 : PySem.Expr} {es : List PySem.Expr} {Q E : Value → Shared → Prop} {s : Shared} (h : wpAny (model prog D.w) A (eval e env) (fun w s1 => w = .bool true ∧ wpAny (model prog D.w) A (boolOp p .And (evalEach (e2 :: es) env)) Q E s1) E s) :
    wpAny (model prog D.w) A (boolOp p .And (evalEach (e :: e2 :: es) env)) Q E s := by
  show wpAny _ _ (do
    let v ← eval e env
    standAt p
    let t ← holding [v] (truthy v)
    match BoolOp.And, t with
    | .And, false | .Or, true => pure v
    | _, _ => boolOp p .And (evalEach (e2 :: es) env)) Q E s
  refine wpAny_bind (wpAny_mono h (fun w s1 h1 => ?_) fun _ _ z => z)
  obtain ⟨rfl, h1⟩ := h1
  exact wpAny_bind (wpAny_standAt (wpAny_bind (wpAny_holding (wpAny_truthy_bool h1))))
end

/-! the law's store between its parts -/
noncomputable def sstd (vs : List V) : List AO := [.cell (some .opq), .rim, .lst vs, .dct [(3, .ref 2)]]
noncomputable def isStd (n : Nat) (σ : List AO) : Bool := match σ with
  | o0 :: o1 :: o2 :: o3 :: _ => (match o0 with
    | .cell (some _) => (match o1 with
      | .rim => (match o2 with
        | .lst vs => (match Nat.beq (lenF vs) n with
          | true => (match o3 with
            | .dct fs => (match fs with
              | [p] => (match Nat.beq p.1 3 with
                | true => (match p.2 with | .ref j => Nat.beq j 2 | _ => false)
                | false => false)
              | _ => false)
            | _ => false)
          | false => false)
        | _ => false)
      | _ => false)
    | _ => false)
  | _ => false
theorem isStd_of {n : Nat} {σ : List AO} (h : isStd n σ = true) : ∃ v vs r, σ = .cell (some v) :: .rim :: .lst vs :: .dct [(3, .ref 2)] :: r ∧ vs.length = n := by
  unfold isStd at h
  split at h
  case h_2 => cases h
  split at h
  case h_2 => cases h
  split at h
  case h_2 => cases h
  split at h
  case h_2 => cases h
  split at h
  case h_2 => cases h
  rename_i hl
  split at h
  case h_2 => cases h
  split at h
  case h_2 => cases h
  rename_i p
  obtain ⟨p1, p2⟩ := p
  split at h
  case h_2 => cases h
  rename_i h3
  split at h
  case h_2 => cases h
  rename_i hj
  have h3 := Nat.eq_of_beq_eq_true h3
  have h := Nat.eq_of_beq_eq_true h
  simp only at h3 hj
  subst h3 hj h
  have hl := Nat.eq_of_beq_eq_true hl
  rw [lenF_eq] at hl
  exact ⟨_, _, _, rfl, hl⟩
noncomputable def opqs : List V → List V
  | [] => []
  | _ :: r => .opq :: opqs r
theorem VRs.opqs {G G' : St} : ∀ {vs : List V} {ws : List Value}, VRs G vs ws → VRs G' (Mine.opqs vs) ws
  | _, _, .nil => .nil
  | _, _, .cons _ r => .cons (.opq _) (VRs.opqs r)
theorem Wd.std {D : Dt} {h : Heap} {G : St} {F : Fx} {μ l : List Addr} {v : V} {vs : List V} {r : List AO} (W : Wd D h G F) (hμ : G.μ = μ ++ l) (hl : μ.length = 4) (hσ : G.σ = .cell (some v) :: .rim :: .lst vs :: .dct [(3, .ref 2)] :: r) :
    Wd D h { G with σ := sstd (opqs vs), μ := μ } F := by
  have hget : ∀ (k : Nat) (a : Addr), G.μ[k]? = some a → k < 4 → μ[k]? = some a := fun k a e hk => by rw [hμ, List.getElem?_append_left (by omega)] at e; exact e
  have sub : ∀ a, a ∈ dom { G with σ := sstd (opqs vs), μ := μ } F → a ∈ dom G F := fun a ha => by
    unfold dom at ha ⊢
    rw [hμ]
    simp only [List.mem_append] at ha ⊢
    rcases ha with h1 | h2 | h3
    · exact .inl h1
    · exact .inr (.inl (.inl h2))
    · exact .inr (.inr h3)
  refine ⟨W.keep, hl, ?_, fun a ha => W.new a (sub a ha), W.tl, W.pr, W.fr, ?_, W.fe, W.tab⟩
  · refine List.Nodup.sublist ?_ W.nd
    unfold dom
    rw [hμ]
    exact (List.Sublist.refl _).append ((List.sublist_append_left _ _).append (List.Sublist.refl _))
  · intro k o ho
    match k, ho with
    | 0, ho =>
      cases ho
      obtain ⟨a, h1, h2⟩ := W.ob 0 _ (by rw [hσ]; rfl)
      refine ⟨a, hget _ _ h1 (by omega), ?_⟩
      cases h2 with | cell g1 g2 => exact .cell g1 (.opq _)
    | 1, ho =>
      cases ho
      obtain ⟨a, h1, h2⟩ := W.ob 1 _ (by rw [hσ]; rfl)
      refine ⟨a, hget _ _ h1 (by omega), ?_⟩
      cases h2 with | rim g1 g2 g3 g4 => exact .rim g1 g2 g3 g4
    | 2, ho =>
      cases ho
      obtain ⟨a, h1, h2⟩ := W.ob 2 _ (by rw [hσ]; rfl)
      refine ⟨a, hget _ _ h1 (by omega), ?_⟩
      cases h2 with | lst g1 g2 => exact .lst g1 g2.opqs
    | 3, ho =>
      cases ho
      obtain ⟨a, h1, h2⟩ := W.ob 3 _ (by rw [hσ]; rfl)
      refine ⟨a, hget _ _ h1 (by omega), ?_⟩
      cases h2 with | dct g1 g2 g3 g4 =>
      refine .dct g1 g2 g3 fun x u e => ?_
      obtain ⟨w, q1, q2⟩ := g4 x u e
      refine ⟨w, q1, ?_⟩
      have hu : u = .ref 2 := by
        simp only [List.lookup_cons, List.lookup_nil] at e
        split at e
        · cases e; rfl
        · cases e
      subst hu
      cases q2 with | ref hm => exact .ref (hget _ _ hm (by omega))
    | k + 4, ho => simp [sstd] at ho
end Mine
open PySem PySem.W PyProof.Rows PySem.Calls PySem.Spec
set_option Elab.async false
set_option maxRecDepth 100000
set_option maxHeartbeats 1000000
set_option linter.unusedSimpArgs false
set_option linter.unusedVariables false
namespace Mine
noncomputable def isTrueV (v : V) : Bool := match v with | .bool b => (match b with | true => true | false => false) | _ => false
theorem isTrueV_of {v : V} (h : isTrueV v = true) : v = .bool true := by
  unfold isTrueV at h
  split at h
  · split at h
    · rfl
    · cases h
  · cases h
noncomputable def kStd (n : Nat) : KV := fun v σ => match isTrueV v with | true => isStd n σ | false => false
theorem kStd_of {n : Nat} {v : V} {σ : List AO} (h : kStd n v σ = true) : v = .bool true ∧ isStd n σ = true := by
  unfold kStd at h
  split at h
  · rename_i q; exact ⟨isTrueV_of q, h⟩
  · cases h
noncomputable def isLocL (loc : Loc) : Bool := match loc with
  | _ :: o1 :: o2 :: _ => (match o1 with
    | some v1 => (match v1 with
      | .ref j => (match Nat.beq j 1 with
        | true => (match o2 with
          | some v2 => (match v2 with
            | .ins c d => (match Nat.beq c 197 with | true => Nat.beq d 3 | false => false)
            | _ => false)
          | none => false)
        | false => false)
      | _ => false)
    | none => false)
  | _ => false
theorem isLocL_of {loc : Loc} (h : isLocL loc = true) : ∃ o r, loc = o :: some (.ref 1) :: some (.ins 197 3) :: r := by
  unfold isLocL at h
  split at h
  case h_2 => cases h
  split at h
  case h_2 => cases h
  split at h
  case h_2 => cases h
  split at h
  case h_2 => cases h
  rename_i hj
  split at h
  case h_2 => cases h
  split at h
  case h_2 => cases h
  split at h
  case h_2 => cases h
  rename_i hc
  have hj := Nat.eq_of_beq_eq_true hj
  have hc := Nat.eq_of_beq_eq_true hc
  have h := Nat.eq_of_beq_eq_true h
  subst hj hc h
  exact ⟨_, _, rfl⟩
noncomputable def nLaw : KN := fun loc σ => match isLocL loc with | true => isStd 0 σ | false => false
theorem opqs_len {n : Nat} {vs : List V} (h : vs.length = n) : opqs vs = opqs (List.replicate n .opq) := by
  induction vs generalizing n with
  | nil => subst h; rfl
  | cons a r ih => subst h; show V.opq :: opqs r = _; rw [ih rfl]; rfl
noncomputable abbrev G0 : St := ⟨[], [], []⟩
noncomputable abbrev F0 : Fx := ⟨[], [], []⟩
noncomputable abbrev locL : Loc := [none, some (.ref 1), some (.ins 197 3), none]
/-- back to the law's own store -/
theorem At.std {D : Dt} {b : Nat} {A : Around} {env : Env} {s : Shared} {G1 : St} {F : Fx} {loc : Loc} {n : Nat} {μ l : List Addr} (h : At D ΓL b A env s G1 F loc [0]) (hloc : isLocL loc = true) (hμ : G1.μ = μ ++ l) (hl : μ.length = 4) (hs : isStd n G1.σ = true) :
    At D ΓL b A env s { G1 with σ := sstd (opqs (List.replicate n .opq)), μ := μ } F locL [0] := by
  obtain ⟨v, vs, r, hσ, hn⟩ := isStd_of hs
  have W2 := h.w.std hμ hl hσ
  rw [opqs_len hn] at W2
  have hget : ∀ (k : Nat) (a : Addr), G1.μ[k]? = some a → k < 4 → μ[k]? = some a := fun k a e hk => by rw [hμ, List.getElem?_append_left (by omega)] at e; exact e
  obtain ⟨o, r0, rfl⟩ := isLocL_of hloc
  refine ⟨h.a, h.e, W2, ?_, ?_, h.f⟩
  · obtain ⟨m, rest, hf, hl⟩ := h.l
    refine ⟨m, rest, hf, fun i x v hi hv => ?_⟩
    match i, hv with
    | 1, hv =>
      obtain ⟨w, p, q⟩ := hl 1 x v hi hv
      cases hv
      cases q with | ref hm => exact ⟨_, p, .ref (hget _ _ hm (by omega))⟩
    | 2, hv =>
      obtain ⟨w, p, q⟩ := hl 2 x v hi hv
      cases hv
      cases q with | ins ht hm => exact ⟨_, p, .ins ht (hget _ _ hm (by omega))⟩
    | 0, hv => cases hv
    | 3, hv => cases hv
    | i + 4, hv => simp [lget, locL] at hv
  · intro i x k hi hk
    obtain ⟨a, p, q⟩ := h.c i x k hi hk
    refine ⟨a, p, hget _ _ q ?_⟩
    match i, hk with
    | 0, hk => cases hk; decide
    | i + 1, hk => simp at hk

noncomputable abbrev σ1 : List AO := [.cell none, .rim, .lst [], .dct [(3, .ref 2)]]
noncomputable abbrev loc1 : Loc := [some .opq, some (.ref 1), some (.ins 197 3), none]

theorem law_s1 {st1 st2 st3 : PySem.Stmt} (hb : dBody (dAt 51) = [st1, st2, st3]) {D : Dt} {A : Around} {env : Env} {s : Shared} {G : St} {F : Fx} {m : Str → Option Value} {rest : List (Addr × (Str → Option Value))} {sv : Addr} {ws : List Value} {ns : List Int} {Q : Flow → Shared → Prop} {E : Value → Shared → Prop}
    (hat : At D ΓL 19 A env s G F [some .opq, none, none, none] [0]) (hσ : G.σ = [.cell none]) (hfr : F.fr = (env.locals, m) :: rest) (hv : m "script" = some (.ref sv)) (hs : D.base.IsList sv ws.toArray) (hI : IntsAre ws ns) (hz : ws.length ≤ 100)
    (hn : ∀ s' G' F', Fr1 F F' → At D ΓL 19 A env s' G' F' loc1 [0] → G'.σ = σ1 → Le G G' → Same s s' → Q .next s') : wpAny (model prog D.w) A (exec st1 env) Q E s := by
  cases hb
  let P1 : Loc → List AO → Prop := fun loc σ => loc = loc1 ∧ σ = σ1
  let n1 : KN := fun loc σ => @decide (P1 loc σ) (Classical.propDecidable _)
  have hn1 : ∀ loc σ, n1 loc σ = true ↔ P1 loc σ := fun loc σ => by simp [n1]
  let P2 : V → List AO → Prop := fun v σ => v = .ins 197 3 ∧ σ = σ1
  let kh : KV := fun v σ => @decide (P2 v σ) (Classical.propDecidable _)
  have hkh : ∀ v σ, kh v σ = true ↔ P2 v σ := fun v σ => by simp [kh]
  refine asgb_at (va := .ref 1) (vb := .ins 197 3) (n := n1) hat ?he (tb_loc 1 rfl (by decide +kernel) rfl) (tb_loc 2 rfl (by decide +kernel) rfl) rfl (swap2 hat.e rfl rfl rfl rfl rfl rfl rfl) ?hn
  case he =>
    intro Q1 hQ1
    refine wpAny_Tuple (wpAny_items_cons (Call_Name rfl (name_glob hat rfl rfl g_law_rim ?_)) rfl)
    refine callWith_K (h₀ := D.base) D.K (k_law_rim _) (wpAny_items_cons (own_name hat hfr hv rfl rfl (wpAny_items_nil ⟨hat.w.K, ?_⟩)) rfl) rfl rfl
    refine rim_call (hat.a.down (k := 18)) hat.w hs hI hz fun s2 G2 w2 eσ W2 l2 r2 m2 => ?_
    have hH := @ne_call0 ΓL 19 ⟨274, 35, 274, 41⟩ ⟨274, 35, 274, 39⟩ "Heap" 197 c_Heap (@SF.le 2 19 _ _ f_Heap rfl) g_Heap k_Heap rfl rfl
    refine wpAny_items_cons (hH (hat.step W2 l2) (k := kh) (x := dead) ?_ (fun v s3 G3 w3 c3 W3 l3 r3 m4 => ?_) px_dead) rfl
    · rw [eσ, hσ]
      show kh _ _ = true
      exact (hkh _ _).mpr ⟨rfl, rfl⟩
    · obtain ⟨rfl, hσ3⟩ := (hkh _ _).mp c3
      refine wpAny_items_nil ⟨show 2 ≤ sizeLine from by decide +kernel, ?_⟩
      have W4 := W3.newT (tupObj [w2, w3])
      have L4 := Le.addT G3 (s3.heap.objs.size, tupObj [w2, w3])
      rw [hσ] at r2
      refine hQ1 _ _ w2 w3 _ W4 ((l2.trans l3).trans L4) ⟨(m2.trans m4).g, (m2.trans m4).d, (m2.trans m4).o⟩ (.head _) ((r2.mono l3).mono L4) (r3.mono L4) ?_
      exact (hn1 _ _).mpr ⟨rfl, hσ3⟩
  case hn =>
    intro s4 G4 F4 loc4 c4 f4 a4 l4 m5
    obtain ⟨rfl, hσ4⟩ := (hn1 _ _).mp c4
    exact hn s4 G4 F4 f4 a4 hσ4 l4 m5

theorem two_args (c : CF) (σ : List AO) (k x : KV) : ccall (escons (cloc 1) (escons (cloc 2) esnil)) c locL [0] σ k x = c [.ref 1, .ins 197 3] σ k x := rfl
theorem one_arg (c : CF) (σ : List AO) (k x : KV) : ccall (escons (cloc 1) esnil) c locL [0] σ k x = c [.ref 1] σ k x := rfl
theorem law_s3 {st1 st2 st3 : PySem.Stmt} (hb : dBody (dAt 51) = [st1, st2, st3]) {D : Dt} {A : Around} {env : Env} {s : Shared} {G : St} {F : Fx} {Q : Flow → Shared → Prop} {E : Value → Shared → Prop}
    (T1 : c_law_shrunk_right [.ref 1, .ins 197 3] (sstd []) (kStd 1) dead = true) (T2 : c_law_sizes_right [.ref 1] (sstd [.opq]) (kStd 1) dead = true)
    (T3 : c_law_ones_right [.ref 1, .ins 197 3] (sstd [.opq]) (fun v _ => isTrueV v) dead = true)
    (a6 : At D ΓL 19 A env s G F locL [0]) (hσ : G.σ = sstd []) (hq : ∀ s' G', Wd D s'.heap G' F → Same s s' → Q (.ret (.bool true)) s') : wpAny (model prog D.w) A (exec st3 env) Q E s := by
  cases hb
  have hμ4 : G.μ.length = 4 := by rw [a6.w.len, hσ]; rfl
  refine wpAny_Return_some ?_
  show wpAny _ _ (boolOp _ .And (evalEach [_, _, _] env)) _ _ _
  have H1 := fun (p q p1 p2 : Pos) => @se_callK ΓL 19 p q "_law_shrunk_right" 385 (.Name "rim" p1) [.Name "heap" p2] _ _ (@SF.le 9 19 _ _ f_law_shrunk_right rfl) g_law_shrunk_right k_law_shrunk_right (@nes_cons _ _ _ _ _ _ (@ne_loc _ _ p1 "rim" 1 rfl rfl rfl) (@nes_cons _ _ _ _ _ _ (@ne_loc _ _ p2 "heap" 2 rfl rfl rfl) (@nes_nil _ _) (fun _ => rfl)) (fun _ => rfl)) rfl rfl (fun _ => rfl) (fun _ => rfl)
  have H2 := fun (p q p1 : Pos) => @se_callK ΓL 19 p q "_law_sizes_right" 390 (.Name "rim" p1) [] _ _ (@SF.le 8 19 _ _ f_law_sizes_right rfl) g_law_sizes_right k_law_sizes_right (@nes_cons _ _ _ _ _ _ (@ne_loc _ _ p1 "rim" 1 rfl rfl rfl) (@nes_nil _ _) (fun _ => rfl)) rfl rfl (fun _ => rfl) (fun _ => rfl)
  have H3 := fun (p q p1 p2 : Pos) => @se_callK ΓL 19 p q "_law_ones_right" 395 (.Name "rim" p1) [.Name "heap" p2] _ _ (@SF.le 9 19 _ _ f_law_ones_right rfl) g_law_ones_right k_law_ones_right (@nes_cons _ _ _ _ _ _ (@ne_loc _ _ p1 "rim" 1 rfl rfl rfl) (@nes_cons _ _ _ _ _ _ (@ne_loc _ _ p2 "heap" 2 rfl rfl rfl) (@nes_nil _ _) (fun _ => rfl)) (fun _ => rfl)) rfl rfl (fun _ => rfl) (fun _ => rfl)
  have T1' : ccall (escons (cloc 1) (escons (cloc 2) esnil)) c_law_shrunk_right locL [0] G.σ (kStd 1) dead = true := by rw [two_args, hσ]; exact T1
  have T2' : ∀ {G9 : St}, G9.σ = sstd [.opq] → ccall (escons (cloc 1) esnil) c_law_sizes_right locL [0] G9.σ (kStd 1) dead = true := fun e => by rw [one_arg, e]; exact T2
  have T3' : ∀ {G9 : St}, G9.σ = sstd [.opq] → ccall (escons (cloc 1) (escons (cloc 2) esnil)) c_law_ones_right locL [0] G9.σ (fun v _ => isTrueV v) dead = true := fun e => by rw [two_args, e]; exact T3
  refine and_true (H1 _ _ _ _ a6 T1' (fun v s7 G7 w7 c7 W7 l7 r7 m7 => ?_) px_dead)
  obtain ⟨rfl, hs7⟩ := kStd_of c7
  cases r7
  refine ⟨rfl, ?_⟩
  obtain ⟨μ7, hμ7⟩ := l7.μ
  have a8 := (a6.step W7 l7).std rfl hμ7 hμ4 hs7
  refine and_true (H2 _ _ _ a8 (T2' rfl) (fun v s9 G9 w9 c9 W9 l9 r9 m9 => ?_) px_dead)
  obtain ⟨rfl, hs9⟩ := kStd_of c9
  cases r9
  refine ⟨rfl, ?_⟩
  obtain ⟨μ9, hμ9⟩ := l9.μ
  have a10 := (a8.step W9 l9).std rfl hμ9 hμ4 hs9
  show wpAny _ _ (eval _ env) _ _ _
  refine H3 _ _ _ _ a10 (T3' rfl) (fun v s11 G11 w11 c11 W11 l11 r11 m11 => ?_) px_dead
  have c11 := isTrueV_of c11
  subst c11
  cases r11
  exact hq s11 G11 W11 ((m7.trans m9).trans m11)

theorem law_run {D : Dt} {A : Around} {s : Shared} {sv : Addr} {ws : List Value} {ns : List Int} {Q E : Value → Shared → Prop}
    (T0 : c_lawfor loc1 [0] σ1 nLaw dead dead = true) (T1 : c_law_shrunk_right [.ref 1, .ins 197 3] (sstd []) (kStd 1) dead = true) (T2 : c_law_sizes_right [.ref 1] (sstd [.opq]) (kStd 1) dead = true)
    (T3 : c_law_ones_right [.ref 1, .ins 197 3] (sstd [.opq]) (fun v _ => isTrueV v) dead = true)
    (ha : AOK A 20 F0) (W : Wd D s.heap G0 F0) (hs : D.base.IsList sv ws.toArray) (hI : IntsAre ws ns) (hz : ws.length ≤ 100) (hq : ∀ s' G', Wd D s'.heap G' F0 → Same s s' → Q (.bool true) s') :
    wpAny (model prog D.w) A (call (.ref 402) [.ref sv]) Q E s := by
  obtain ⟨st1, st2, st3, hb⟩ : ∃ a b c, dBody (dAt 51) = [a, b, c] := ⟨_, _, _, rfl⟩
  refine' call_core (b := 19) (vs := [.opq]) (ws := [.ref sv]) (G := G0) (F := F0) ["script"] ["script", "rim", "heap", "is_let"] ["sizes"] [some 0, none, none, none] [none] ?hK ?hcd ?hl ha W (.cons (.opq _) .nil) rfl ?hb ?H
  case hK => intro P; rfl
  case hcd => intro P; kernel_rfl
  case hl => rfl
  case hb => rfl
  case H =>
    intro env s1 as hat L3 m3 hfr Q' E' q1 q2 q3
    rw [hb]
    refine wpAny_execs_cons (law_s1 hb hat rfl rfl rfl hs hI hz fun s4 G4 F4 f4 a4 hσ4 l4 m5 => ?_)
    have hμ4 : G4.μ.length = 4 := by rw [a4.w.len, hσ4]; rfl
    have T0' : c_lawfor loc1 [0] G4.σ nLaw dead dead = true := by rw [hσ4]; exact T0
    refine wpAny_execs_cons (s_lawfor hb a4 T0' ?_ (fun _ _ _ _ _ c => by cases c) (fun _ _ => px_dead))
    intro s5 G5 F5 loc5 c5 f5 a5 l5 m6
    have c5 : isLocL loc5 = true ∧ isStd 0 G5.σ = true := by
      unfold nLaw at c5
      split at c5
      · rename_i q; exact ⟨q, c5⟩
      · cases c5
    obtain ⟨μ5, hμ5⟩ := l5.μ
    have a6 := a5.std c5.1 hμ5 hμ4 c5.2
    refine wpAny_execs_cons (law_s3 hb T1 T2 T3 a6 rfl fun s11 G11 W11 m11 => ?_)
    obtain ⟨pr5, fr5, fe5⟩ := F5
    obtain ⟨e1, e2, L', m', m'', r', e3, e4⟩ := f4.trans f5
    simp only at e1 e2 e3 e4
    subst e1 e2 e4
    cases e3
    exact q1 _ _ (hq s11 G11 (Wd.popFr W11 (fe' := []) fun e he => by cases he) (((Same.trans (show Same s s1 from m3) m5).trans m6).trans m11))
end Mine
open PySem PySem.W PyProof.Rows PySem.Calls PySem.Spec
set_option Elab.async false
set_option maxRecDepth 100000
set_option maxHeartbeats 1000000
set_option linter.unusedSimpArgs false
set_option linter.unusedVariables false
namespace Mine
theorem hk_tabs (P : Params) : ∀ a ∈ hkTs, (hk P).lookup a = none := by
  intro a ha
  unfold hkTs at ha
  simp only [List.mem_cons, List.not_mem_nil, or_false] at ha
  rcases ha with rfl | rfl | rfl | rfl <;> rfl
theorem in_hide {P : Params} {h : Heap} (X : (hk P).In h) : (hk P).In (hideAll h hkTs) := fun a o e => hideAll_get hkTs (X a o e) fun ha => by rw [hk_tabs P a ha] at e; cases e
theorem ns_hide {h : Heap} {a : Addr} {m : Str → Option Value} (n : h.Ns a m) (ha : a ∉ hkTs) : (hideAll h hkTs).Ns a m := let ⟨o, es, ep, e, r⟩ := n; ⟨o, es, ep, hideAll_get hkTs e ha, r⟩
theorem code_hd {K : Frag} {h : Heap} {c P : Addr} {vs : Array Value} {d : Option Addr} {sl : Array (Option Value)} {file : Str} {tf flags tg : _} {inF : Bool} {text : _} {tt : Tok} (X : K.In h) (hc : K.lookup c = some ⟨.type "code", d, .fields vs, sl⟩) (h11 : vs[11]? = some (.ref P)) (h11' : vs.getD 11 .none = .ref P)
    (h18 : vs.getD 18 .none = .str file tf) (h7 : vs.getD 7 .none = .int flags tg) (h9 : vs.getD 9 .none = .bool inF) (h10 : vs.getD 10 .none = .int text tt) (hne : c ≠ P) : CodeHd h c P := fun h' ps k hP ht =>
  ⟨⟨_, vs, file, tf, flags, tg, inF, text, tt, _, k _ _ (X _ _ hc), rfl, h11', h18, h7, h9, h10, hP, rfl, ht, hne⟩, ⟨⟨_, vs, k _ _ (X _ _ hc), rfl, rfl, h11⟩, hP⟩⟩
theorem code_hds {P : Params} {h : Heap} (X : (hk P).In h) : ∀ p ∈ tabs, CodeHd h p.1 p.2 := by
  intro p hp
  unfold tabs at hp
  simp only [List.mem_cons, List.not_mem_nil, or_false] at hp
  rcases hp with rfl | rfl | rfl | rfl
  · exact code_hd X rfl rfl rfl rfl rfl rfl rfl (by decide)
  · exact code_hd X rfl rfl rfl rfl rfl rfl rfl (by decide)
  · exact code_hd X rfl rfl rfl rfl rfl rfl rfl (by decide)
  · exact code_hd X rfl rfl rfl rfl rfl rfl rfl (by decide)
theorem hk_law (P : Params) : nsIn (hk P) mainGlobals "law" = some (some (.ref 402)) := by kernel_rfl

theorem law_entry {p : Program} {loose : List Str} {mean : ExcName → Option Value} {mg mb : Str → Option Value} {w : World} {s : Shared} {fa sv : Addr} {ws : List Value} {ns : List Int}
    (T0 : c_lawfor loc1 [0] σ1 nLaw dead dead = true) (T1 : c_law_shrunk_right [.ref 1, .ins 197 3] (sstd []) (kStd 1) dead = true) (T2 : c_law_sizes_right [.ref 1] (sstd [.opq]) (kStd 1) dead = true)
    (T3 : c_law_ones_right [.ref 1, .ins 197 3] (sstd [.opq]) (fun v _ => isTrueV v) dead = true)
    (T : Top p loose mean mg mb s.heap) (Y : hkHook.says w s.heap) (hmg : mg "law" = some (.ref fa)) (hL : s.heap.IsList sv ws.toArray) (hI : IntsAre ws ns) (hz : ¬ (63 : Int) < (ns.length : Int)) :
    wpAny (model prog w) callerA (call (.ref fa) [.ref sv]) (fun v s' => v = .bool true ∧ OldK s.heap s'.heap ∧ s'.os = s.os ∧ s'.gens = s.gens) (fun _ _ => False) s := by
  have X : (hk w.params).In s.heap := Y.1
  have Xh := in_hide X
  have htab : ∀ P ∈ hkTs, s.heap.get? P = some (tabO #[]) := Y.2
  obtain ⟨bm, ob, b1, b2, b3, b4, b5, b6⟩ := T.bmain
  have hbT : bm ∉ hkTs := fun q => by
    rw [htab bm q] at b3; cases b3; cases b4
  have hbG : bm ≠ mainGlobals := fun q => by
    obtain ⟨o, es, ep, e, hd, _⟩ := T.g
    rw [q, e] at b3; cases b3; rw [hd] at b6; cases b6
  let D : Dt := {
    w := w, base := hideAll s.heap hkTs, mg := mg, mb := mb, K := Xh
    g := ns_hide T.g (by decide)
    b := ns_hide T.b (by decide)
    bi := T.builtins
    nl := let ⟨mc, h1, h2⟩ := T.nolimit; ⟨mc, ns_hide h1 (by decide), h2⟩
    bm := ⟨bm, ob, b1, b2, hbG, hideAll_get hkTs b3 hbT, b4, b5, b6⟩ }
  have hfa : fa = 402 := by
    have := mg_of D.K D.g (hk_law _)
    rw [show D.mg = mg from rfl, hmg] at this
    cases this; rfl
  subst hfa
  have hLT : sv ∉ hkTs := fun q => by
    obtain ⟨o, ho, hc, _⟩ := hL
    rw [htab sv q] at ho; cases ho; cases hc
  have hLb : D.base.IsList sv ws.toArray := let ⟨o, ho, r⟩ := hL; ⟨o, hideAll_get hkTs ho hLT, r⟩
  have htT : ∀ q ∈ tabs, q.2 ∈ hkTs := by decide
  have W : Wd D s.heap G0 F0 := by
    exact { keep := fun b o e => of_hideAll hkTs e, len := rfl, nd := .nil, new := (fun a ha => by cases ha), tl := (fun q hq => by cases hq), pr := (fun q hq => by cases hq), fr := (fun q hq => by cases hq), ob := (fun k o hk => by cases hk), fe := (fun e he => by cases he),
            tab := fun q hq => ⟨hideAll_none hkTs (htT q hq), code_hds Xh q hq, #[], htab _ (htT q hq), trivial, fun pos cv e => by cases e⟩ }
  have hex : ∀ b ∈ hkTs, ∃ q ∈ tabs, q.2 = b := by decide
  have ha : AOK callerA 20 F0 := ⟨rfl, by decide, by decide, rfl⟩
  have hl : ws.length ≤ 100 := by have := hI.length; omega
  refine law_run (D := D) T0 T1 T2 T3 ha W hLb hI hl fun s' G' W' m => ⟨rfl, ⟨fun b o e => ?_, fun b o e => ?_⟩, m.o, m.g⟩
  · by_cases hb : b ∈ hkTs
    · obtain ⟨q, hq, rfl⟩ := hex b hb
      rw [htab _ hb] at e
      cases e
      obtain ⟨_, hC, ps, h1, _⟩ := W'.tab q hq
      refine .inr (.inl ⟨((hC s.heap #[] (fun b o e => of_hideAll hkTs e) (htab _ hb) trivial).2).isCodeTable, rfl, #[], ps, rfl, ?_⟩)
      rw [h1]; simp
    · exact .inl (W'.keep _ _ (hideAll_get hkTs e hb))
  · by_cases hb : b ∈ hkTs
    · obtain ⟨q, hq, rfl⟩ := hex b hb
      obtain ⟨_, _, ps, h1, _⟩ := W'.tab q hq
      exact ⟨_, h1⟩
    · exact ⟨o, W'.keep _ _ (hideAll_get hkTs e hb)⟩
end Mine
open PySem PySem.W PyProof.Rows PySem.Calls PySem.Spec
set_option Elab.async false
set_option maxRecDepth 100000
set_option maxHeartbeats 1000000
set_option linter.unusedSimpArgs false
set_option linter.unusedVariables false
namespace Mine
noncomputable def r_shr : CS := (cseq (casg (ccall (escons (ccelF 0) (escons (ctupF (escons (cstr 6) (escons (cstr 13) (escons (ctupF (esnil)) (esnil))))) (escons (ctupF (escons (ccelF 1) (esnil))) (escons (ccompF 10 [] 2 false (irng (escons (ccelF 1) (esnil))) (glocF 1) (tyes) (cemitF (ccall (escons (cbinF .Add (cint (.ofNat 10)) (clocF 1)) (esnil)) cF_law_int))) (esnil))))) cF_made) (glocF 1)) (cseq (ctr [false, false, false, false, false, false, false, false, false] (casg (ctupF (escons (cbinF .Add (cint (.ofNat 1)) (ccall (escons (clocF 0) (escons (ccelF 1) (esnil))) cF_law_notch)) (escons (csubF (clistF (escons (cint (.ofNat 1)) (escons (cint (.ofNat 2)) (escons (cneg (cint (.ofNat 1))) (escons (cneg (cint (.ofNat 2))) (esnil)))))) (ccall (escons (clocF 0) (escons (cint (.ofNat 4)) (esnil))) cF_law_notch)) (esnil)))) (gtupF 2 (gcons (gcelF 3) (gcons (gcelF 4) (gnil)))))) (cseq (casgcF 10 [3, 1, 4] 2 false (irng (escons (ccelF 1) (esnil))) (glocF 1) (tcmp2F .LtE .Lt (cint (.ofNat 0)) (cbinF .Add (cbinF .Sub (ccelF 0) (cint (.ofNat 1))) (cbinF .Mult (ccelF 2) (clocF 1))) (ccelF 1)) (cemitF (cbinF .Add (cbinF .Sub (ccelF 0) (cint (.ofNat 1))) (cbinF .Mult (ccelF 2) (clocF 1)))) (glocF 2)) (cseq (ctr [false, false, false, false, false, false, false, false, false] (casg (ccall (escons (ccelF 0) (escons (clocF 1) (escons (clistF (escons (ctupF (escons (ccelF 3) (escons (ccelF 4) (escons (cblt (escons (clocF 2) (esnil)) b_lenF) (esnil))))) (esnil))) (esnil)))) cF_view_of) (gcelF 6))) (cseq (ctr [true, false, false, false, false, false, false, false, false] (casg (cblt (escons (ccelF 1) (escons (ccall (escons (clocF 0) (escons (cint (.ofNat 4)) (esnil))) cF_law_notch) (esnil))) b_min) (glocF 3))) (cseq (ctr [true, true, false, false, true, false, false, false, false] (cforF 10 false (irng (escons (clocF 3) (esnil))) (glocF 4) (cseq (cexp (ccall (escons (ccelF 0) (escons (clocF 1) (esnil))) cF_popped)) (snil)))) (cseq (casg (clistF (esnil)) (glocF 5)) (cseq (ctr [true, true, true, true, true, false, true, true, false] (cforF 10 true (ienmF (escons (clocF 2) (esnil))) (gtupF 2 (gcons (gcelF 5) (gcons (gcelF 2) (gnil)))) (cseq (casg (ctupF (escons (cstr 1) (escons (ctupF (escons (ccelF 6) (escons (ctupF (escons (cstr 8) (escons (ctupF (escons (ccall (escons (cbinF .Add (ccelF 5) (cint (.ofNat 1))) (esnil)) cF_law_int) (esnil))) (esnil)))) (esnil)))) (esnil)))) (glocF 6)) (cseq (cexp (cappF (clocF 5) (cifx (tcmpF .Lt (ccelF 2) (cbinF .Sub (ccelF 1) (clocF 3))) (ccall (escons (cbinF .Add (cint (.ofNat 10)) (ccelF 2)) (esnil)) cF_law_int) (clocF 6)))) (cseq (cif (tcmpF .NotEq (cheardF [5, 0, 6] (ccall (escons (ccelF 1) (escons (ccelF 2) (escons (ctupF (escons (cbinF .Add (ccelF 0) (cint (.ofNat 1))) (esnil))) (esnil)))) cF_item_at)) (csubF (clocF 5) (cneg (cint (.ofNat 1))))) (cseq (cret (cbool false)) (snil)) (snil)) (cseq (casg (cheardF [5, 0, 2, 6] (ccall (escons (ccelF 1) (escons (ccelF 3) (escons (ctupF (escons (cbinF .Add (ccelF 0) (cint (.ofNat 1))) (esnil))) (escons (ccall (escons (cbinF .Add (cint (.ofNat 70)) (ccelF 2)) (esnil)) cF_law_int) (esnil))))) cF_set_item)) (glocF 7)) (cseq (cif (tcmpF .NotEq (clocF 7) (cifx (tcmpF .Lt (ccelF 2) (cbinF .Sub (ccelF 1) (clocF 3))) (cnone) (clocF 6))) (cseq (cret (cbool false)) (snil)) (snil)) (cseq (casg (cifx (tcmpF .Is (clocF 7) (cnone)) (ccall (escons (cbinF .Add (cint (.ofNat 70)) (ccelF 2)) (esnil)) cF_law_int) (clocF 6)) (gitemF (clocF 5) (cneg (cint (.ofNat 1))))) (cseq (ctr [false, false, false, false, false, false, false, false, false] (cif (tcmpF .NotEq (cheardF [5, 0, 6] (ccall (escons (ccelF 1) (escons (ccelF 2) (escons (ctupF (escons (cbinF .Add (ccelF 0) (cint (.ofNat 1))) (esnil))) (esnil)))) cF_item_at)) (csubF (clocF 5) (cneg (cint (.ofNat 1))))) (cseq (cret (cbool false)) (snil)) (snil))) (snil)))))))))) (cseq (casgcF 10 [] 2 false (ivalF (clocF 5)) (glocF 1) (tcmpF .Eq (csubF (clocF 1) (cint (.ofNat 0))) (cstr 1)) (cemitF (clocF 1)) (glocF 8)) (cseq (cret (ccmpF .Eq (cheardF [0, 6] (ccall (escons (ccelF 0) (escons (ccelF 1) (esnil))) cF_items_of)) (cifx (tcmpF .NotEq (clocF 8) (clistF (esnil))) (csubF (clocF 8) (cint (.ofNat 0))) (clocF 5)))) (snil)))))))))))
noncomputable def c_shr (i : Nat) : CF := cfunF 2 [some 0, none, none, none, none, none, none, none, none] [some 1, none, none, none, none, none, none] (cseq (casg (cbinF .Add (cint (.ofNat 1)) (cint (.ofNat i))) (gcelF 1)) r_shr)

theorem allNF_of {f : Nat → Bool} : ∀ {n : Nat}, (∀ i, i < n → f i = true) → allNF n f = true
  | 0, _ => rfl
  | n + 1, h => by
    show (match f n with | true => allNF n f | false => false) = true
    rw [h n (Nat.lt_succ_self n)]
    exact allNF_of fun i hi => h i (Nat.lt_succ_of_lt hi)
theorem draw_of {n : Nat} {k : V → Bool} (hn : Nat.ble n 16 = true) (h : ∀ i, i < n → k (.int (.ofNat i)) = true) : drawF n k = true := by
  unfold drawF
  rw [hn]
  exact allNF_of h
theorem notch_of {n j : Nat} {σ : List AO} {k x : KV} (h1 : Nat.ble 1 n = true) (h2 : Nat.ble n 16 = true) (h3 : Nat.ble n 1000000000 = true) (hr : nthF σ j = some .rim) (h : ∀ i, i < n → k (.int (.ofNat i)) σ = true) : cF_law_notch [.ref j, .int (.ofNat n)] σ k x = true := by
  unfold cF_law_notch c_law_notchF
  simp only [hr, h1, h3]
  exact draw_of h2 h
theorem first_draw (rest : CS) {loc : Loc} {cel : List Nat} {σ : List AO} {n : KN} {k x : KV} {j m : Nat} {g : CG} (h1 : lgetF loc 0 = some (.ref j)) (h2 : nthF σ j = some .rim)
    (h : ∀ i, i < 6 → cseq (casg (cbinF .Add (cint (.ofNat 1)) (cint (.ofNat i))) g) rest loc cel σ n k x = true) :
    cseq (casg (cbinF .Add (cint (.ofNat 1)) (ccall (escons (clocF 0) (escons (cint (.ofNat 6)) (esnil))) cF_law_notch)) g) rest loc cel σ n k x = true := by
  simp only [cseq, casg, cbinF, ccall, escons, esnil, clocF, cint, h1] at h ⊢
  exact notch_of rfl rfl rfl h2 h
theorem cfun_two (li ci : List (Option Nat)) (c : CS) (a b : V) (σ : List AO) (k x : KV) : cfunF 2 li ci c [a, b] σ k x = c (picksF [a, b] li) (uptoF (lenF σ) ci) (appF σ (pickcF [a, b] ci)) (fun _ σ1 => k .none σ1) k x := rfl
theorem T1_split {k x : KV} (h : ∀ i, i < 6 → c_shr i [.ref 1, .ins 197 3] (sstd []) k x = true) : cF_law_shrunk_right [.ref 1, .ins 197 3] (sstd []) k x = true := by
  have e : cF_law_shrunk_right = cfunF 2 [some 0, none, none, none, none, none, none, none, none] [some 1, none, none, none, none, none, none] (cseq (casg (cbinF .Add (cint (.ofNat 1)) (ccall (escons (clocF 0) (escons (cint (.ofNat 6)) (esnil))) cF_law_notch)) (gcelF 1)) r_shr) := rfl
  rw [e, cfun_two]
  refine first_draw r_shr (j := 1) (m := 1) rfl rfl fun i hi => ?_
  have := h i hi
  unfold c_shr at this
  rw [cfun_two] at this
  exact this
end Mine
open PySem PySem.W PySem.Calls PyProof.Rows
set_option Elab.async false
set_option maxRecDepth 100000
namespace Mine
theorem T0 : c_lawfor loc1 [0] σ1 nLaw dead dead = true := by decide +kernel
theorem T2F : cF_law_sizes_right [.ref 1] (sstd [.opq]) (kStd 1) dead = true := by decide +kernel
theorem T2 : c_law_sizes_right [.ref 1] (sstd [.opq]) (kStd 1) dead = true := by rw [← e_law_sizes_right]; exact T2F
theorem T3F : cF_law_ones_right [.ref 1, .ins 197 3] (sstd [.opq]) (fun v _ => isTrueV v) dead = true := by decide +kernel
theorem T3 : c_law_ones_right [.ref 1, .ins 197 3] (sstd [.opq]) (fun v _ => isTrueV v) dead = true := by rw [← e_law_ones_right]; exact T3F
theorem T1a : c_shr 0 [.ref 1, .ins 197 3] (sstd []) (kStd 1) dead = true := by decide +kernel
theorem T1b : c_shr 1 [.ref 1, .ins 197 3] (sstd []) (kStd 1) dead = true := by decide +kernel
theorem T1c : c_shr 2 [.ref 1, .ins 197 3] (sstd []) (kStd 1) dead = true := by decide +kernel
theorem T1d : c_shr 3 [.ref 1, .ins 197 3] (sstd []) (kStd 1) dead = true := by decide +kernel
theorem T1e : c_shr 4 [.ref 1, .ins 197 3] (sstd []) (kStd 1) dead = true := by decide +kernel
theorem T1f : c_shr 5 [.ref 1, .ins 197 3] (sstd []) (kStd 1) dead = true := by decide +kernel
theorem T1 : c_law_shrunk_right [.ref 1, .ins 197 3] (sstd []) (kStd 1) dead = true := by
  rw [← e_law_shrunk_right]
  refine T1_split fun i hi => ?_
  match i, hi with
  | 0, _ => exact T1a
  | 1, _ => exact T1b
  | 2, _ => exact T1c
  | 3, _ => exact T1d
  | 4, _ => exact T1e
  | 5, _ => exact T1f
end Mine
theorem PySem.Challenge.cw_rg0193_01_holds : PySem.Challenge.rw_rg0193_01.Holds := by
  exact Mine.top fun T Y hmg hL hI hz => Mine.law_entry Mine.T0 Mine.T1 Mine.T2 Mine.T3 T Y hmg hL hI hz
