import PyProof.Rows.All
import Wide.All
import OpenK.AllK
import Wide.FinOn
import Lean
import PySem.Challenge.RW_pc0244_01
open PySem PySem.W PySem.Calls PyProof.Rows
set_option Elab.async false
set_option maxRecDepth 100000
set_option linter.unusedVariables false
set_option linter.unusedSimpArgs false
namespace Mine

/-! ## 0. the heap behind the top, written out (the defs' bodies, arguments and scopes are taken out of the row's program) -/
noncomputable def ce (n : Nat) : Stmt := PySem.Challenge.rw_pc0244_01.prog.main.body.getD n (.Pass default)
noncomputable def cB (c : Stmt) (n : Nat) : Stmt := match c with | .ClassDef _ _ _ b _ _ _ _ _ _ _ => b.getD n (.Pass default) | c => c
noncomputable def fA (c : Stmt) : Arguments := match c with | .FunctionDef _ a _ _ _ _ _ _ _ _ => a | _ => default
noncomputable def fB (c : Stmt) : List Stmt := match c with | .FunctionDef _ _ b _ _ _ _ _ _ _ => b | _ => []
noncomputable def fS (c : Stmt) : Scope := match c with | .FunctionDef _ _ _ _ _ _ s _ _ _ => s | _ => default
noncomputable def kE (P : Params) (x : String) (t : Nat) (v : Value) : DictEntry := ⟨PyData.keyHash P (Str.ofString x), .str (Str.ofString x) t, v⟩
noncomputable def Kt (P : Params) : Frag := [
(2, ⟨.none, .none, .dict #[kE P "type.__subclasses__.Exception.0" 222 (.int 32 0), kE P "type.__subclasses__.Exception.n" 223 (.int 1 0)] 2, #[]⟩),
(3, ⟨.type "dict", .none, .dict #[kE P "__name__" 165 (.str (.ofString "law_pc0244_01") 575), kE P "__doc__" 166 .none, kE P "__package__" 167 .none, kE P "__loader__" 168 (.builtin "__main__.__loader__#opaque"), kE P "__spec__" 169 .none, kE P "__annotations__" 170 (.ref 6), kE P "__builtins__" 171 (.ref 4), kE P "__file__" 173 (.str (.ofString "/claim/cut.py") 172), kE P "__cached__" 174 .none, kE P "Thrown" 225 (.ref 32), kE P "error" 232 (.ref 42), kE P "least" 238 (.ref 49), kE P "greatest" 244 (.ref 56), kE P "Ref" 277 (.ref 74), kE P "Absent" 306 (.ref 96), kE P "deref" 313 (.ref 107), kE P "hold" 320 (.ref 114), kE P "Arr" 433 (.ref 188), kE P "is_living" 441 (.ref 199), kE P "hash_of" 450 (.ref 206), kE P "link" 459 (.ref 213), kE P "unlink" 470 (.ref 220), kE P "chains" 478 (.ref 227), kE P "next_place" 486 (.ref 234), kE P "many_ahead" 492 (.ref 239), kE P "rehash" 498 (.ref 244), kE P "to_hash" 505 (.ref 251), kE P "takes_packed" 513 (.ref 258), kE P "add_packed" 522 (.ref 265), kE P "add_hashed" 532 (.ref 272), kE P "add" 541 (.ref 279), kE P "go_on" 554 (.ref 286), kE P "marked" 561 (.ref 293), kE P "copied" 568 (.ref 300), kE P "copy" 574 (.ref 305), kE P "_law_rows" 582 (.ref 312), kE P "_law_new" 589 (.ref 319), kE P "_law_living" 595 (.ref 324), kE P "_law_hash_form" 602 (.ref 331), kE P "_law_added" 613 (.ref 338), kE P "_law_put" 621 (.ref 345), kE P "_law_dropped" 627 (.ref 350), kE P "_law_hash" 637 (.ref 357), kE P "_law_chain" 646 (.ref 364), kE P "_law_chains_right" 652 (.ref 369), kE P "_law_form_right" 658 (.ref 374), kE P "_law_key" 666 (.ref 381), kE P "_law_deed" 680 (.ref 388), kE P "law" 686 (.ref 393)] 49, #[]⟩),
(15, ⟨.type "tuple", .none, .seq #[.type "Exception"] 0, #[]⟩),
(22, ⟨.type "tuple", .none, .seq #[.int 0 201, .none] 0, #[]⟩),
(23, ⟨.type "tuple", .none, .seq #[] 0, #[]⟩),
(25, ⟨.type "tuple", .none, .seq #[.str (.ofString "self") 205, .str (.ofString "name") 206, .str (.ofString "text") 207, .str (.ofString "code") 208, .str (.ofString "value") 209] 0, #[]⟩),
(26, ⟨.type "tuple", .none, .seq #[] 0, #[]⟩),
(28, ⟨.type "code", .none, .fields #[.str (.ofString "__init__") 202, .str (.ofString "Thrown.__init__") 203, .str (.ofString "/claim/cut.py") 204, .int 4 0, .int 5 0, .int 0 0, .int 0 0, .int 3 0, .ref 23, .bool .true, .int 181 0, .ref 24, .none, .ref 25, .ref 26, .ref 27, .int 210 0, .int 4 0, .str (.ofString "/claim/cut.py") 211], #[]⟩),
(29, ⟨.type "function", .none, .func ⟨(.ofString "__init__"), (.ofString "Thrown.__init__"), (fA (cB (ce 1) 0)), .stmts ((fB (cB (ce 1) 0))), (fS (cB (ce 1) 0)), 3, [], .ref 22, .none, .none, .str (.ofString "phpcore.faults") 187, .none, .ref 28, .none, 0⟩, #[]⟩),
(30, ⟨.type "tuple", .none, .seq #[.str (.ofString "code") 213, .str (.ofString "name") 214, .str (.ofString "previous") 215, .str (.ofString "text") 216, .str (.ofString "value") 217] 0, #[]⟩),
(31, ⟨.type "dict", .none, .dict #[kE P "__module__" 196 (.str (.ofString "phpcore.faults") 187), kE P "__firstlineno__" 200 (.int 2 199), kE P "__init__" 212 (.ref 29), kE P "__static_attributes__" 218 (.ref 30), kE P "__weakref__" 220 (.ref 33), kE P "__doc__" 221 .none] 3, #[]⟩),
(32, ⟨.type "type", .none, .cls ⟨(.ofString "Thrown"), [.type "Exception"], [.ref 32, .type "Exception", .type "BaseException", .type "object"], 31, (.ofString "Thrown"), .true, [], [], .false, .none, .false⟩, #[.some (.ref 15), .none, .some (.str (.ofString "Thrown") 189), .some (.str (.ofString "Thrown") 197), .some (.builtin "Exception.__new__"), .some (.bool .true)]⟩),
(33, ⟨.type "getset_descriptor", .none, .fields #[.str (.ofString "__weakref__") 219, .ref 32, .builtin "ExceptionGroup.__weakref__", .none], #[]⟩),
(36, ⟨.type "tuple", .none, .seq #[] 0, #[]⟩),
(38, ⟨.type "tuple", .none, .seq #[.str (.ofString "text") 229] 0, #[]⟩),
(39, ⟨.type "tuple", .none, .seq #[] 0, #[]⟩),
(41, ⟨.type "code", .none, .fields #[.str (.ofString "error") 226, .str (.ofString "error") 227, .str (.ofString "/claim/cut.py") 228, .int 11 0, .int 1 0, .int 0 0, .int 0 0, .int 3 0, .ref 36, .bool .true, .int 181 0, .ref 37, .none, .ref 38, .ref 39, .ref 40, .int 230 0, .int 11 0, .str (.ofString "/claim/cut.py") 231], #[]⟩),
(42, ⟨.type "function", .none, .func ⟨(.ofString "error"), (.ofString "error"), (fA (ce 2)), .stmts ((fB (ce 2))), (fS (ce 2)), 3, [], .none, .none, .none, .str (.ofString "phpcore.faults") 187, .none, .ref 41, .none, 0⟩, #[]⟩),
(43, ⟨.type "tuple", .none, .seq #[] 0, #[]⟩),
(45, ⟨.type "tuple", .none, .seq #[] 0, #[]⟩),
(46, ⟨.type "tuple", .none, .seq #[] 0, #[]⟩),
(48, ⟨.type "code", .none, .fields #[.str (.ofString "least") 233, .str (.ofString "least") 234, .str (.ofString "/claim/cut.py") 235, .int 13 0, .int 0 0, .int 0 0, .int 0 0, .int 3 0, .ref 43, .bool .true, .int 181 0, .ref 44, .none, .ref 45, .ref 46, .ref 47, .int 236 0, .int 13 0, .str (.ofString "/claim/cut.py") 237], #[]⟩),
(49, ⟨.type "function", .none, .func ⟨(.ofString "least"), (.ofString "least"), (fA (ce 30)), .stmts ((fB (ce 3))), (fS (ce 30)), 3, [], .none, .none, .none, .str (.ofString "phpcore.faults") 187, .none, .ref 48, .none, 0⟩, #[]⟩),
(50, ⟨.type "tuple", .none, .seq #[] 0, #[]⟩),
(52, ⟨.type "tuple", .none, .seq #[] 0, #[]⟩),
(53, ⟨.type "tuple", .none, .seq #[] 0, #[]⟩),
(55, ⟨.type "code", .none, .fields #[.str (.ofString "greatest") 239, .str (.ofString "greatest") 240, .str (.ofString "/claim/cut.py") 241, .int 15 0, .int 0 0, .int 0 0, .int 0 0, .int 3 0, .ref 50, .bool .true, .int 181 0, .ref 51, .none, .ref 52, .ref 53, .ref 54, .int 242 0, .int 15 0, .str (.ofString "/claim/cut.py") 243], #[]⟩),
(56, ⟨.type "function", .none, .func ⟨(.ofString "greatest"), (.ofString "greatest"), (fA (ce 30)), .stmts ((fB (ce 4))), (fS (ce 30)), 3, [], .none, .none, .none, .str (.ofString "phpcore.faults") 187, .none, .ref 55, .none, 0⟩, #[]⟩),
(64, ⟨.type "tuple", .none, .seq #[.none] 0, #[]⟩),
(65, ⟨.type "tuple", .none, .seq #[] 0, #[]⟩),
(67, ⟨.type "tuple", .none, .seq #[.str (.ofString "self") 262, .str (.ofString "value") 263] 0, #[]⟩),
(68, ⟨.type "tuple", .none, .seq #[] 0, #[]⟩),
(70, ⟨.type "code", .none, .fields #[.str (.ofString "__init__") 259, .str (.ofString "Ref.__init__") 260, .str (.ofString "/claim/cut.py") 261, .int 20 0, .int 2 0, .int 0 0, .int 0 0, .int 3 0, .ref 65, .bool .true, .int 181 0, .ref 66, .none, .ref 67, .ref 68, .ref 69, .int 264 0, .int 20 0, .str (.ofString "/claim/cut.py") 265], #[]⟩),
(71, ⟨.type "function", .none, .func ⟨(.ofString "__init__"), (.ofString "Ref.__init__"), (fA (cB (ce 6) 0)), .stmts ((fB (cB (ce 6) 0))), (fS (cB (ce 6) 0)), 3, [], .ref 64, .none, .none, .str (.ofString "phpcore.slots") 245, .none, .ref 70, .none, 0⟩, #[]⟩),
(72, ⟨.type "tuple", .none, .seq #[.str (.ofString "holders") 267, .str (.ofString "types") 268, .str (.ofString "value") 269] 0, #[]⟩),
(73, ⟨.type "dict", .none, .dict #[kE P "__module__" 254 (.str (.ofString "phpcore.slots") 245), kE P "__firstlineno__" 258 (.int 18 257), kE P "__init__" 266 (.ref 71), kE P "__static_attributes__" 270 (.ref 72), kE P "__dict__" 272 (.ref 75), kE P "__weakref__" 274 (.ref 76), kE P "__doc__" 275 .none] 4, #[]⟩),
(74, ⟨.type "type", .none, .cls ⟨(.ofString "Ref"), [.type "object"], [.ref 74, .type "object"], 73, (.ofString "Ref"), .true, [], [], .false, .none, .false⟩, #[.none, .none, .some (.str (.ofString "Ref") 247), .some (.str (.ofString "Ref") 255), .some (.builtin "object.__new__"), .some (.bool .true)]⟩),
(75, ⟨.type "getset_descriptor", .none, .fields #[.str (.ofString "__dict__") 271, .ref 74, .builtin "function.__dict__", .builtin "function.__dict__#set"], #[]⟩),
(76, ⟨.type "getset_descriptor", .none, .fields #[.str (.ofString "__weakref__") 273, .ref 74, .builtin "ExceptionGroup.__weakref__", .none], #[]⟩),
(86, ⟨.type "tuple", .none, .seq #[.bool .false] 0, #[]⟩),
(87, ⟨.type "tuple", .none, .seq #[] 0, #[]⟩),
(89, ⟨.type "tuple", .none, .seq #[.str (.ofString "self") 293, .str (.ofString "was_unset") 294] 0, #[]⟩),
(90, ⟨.type "tuple", .none, .seq #[] 0, #[]⟩),
(92, ⟨.type "code", .none, .fields #[.str (.ofString "__init__") 290, .str (.ofString "Absent.__init__") 291, .str (.ofString "/claim/cut.py") 292, .int 26 0, .int 2 0, .int 0 0, .int 0 0, .int 3 0, .ref 87, .bool .true, .int 181 0, .ref 88, .none, .ref 89, .ref 90, .ref 91, .int 295 0, .int 26 0, .str (.ofString "/claim/cut.py") 296], #[]⟩),
(93, ⟨.type "function", .none, .func ⟨(.ofString "__init__"), (.ofString "Absent.__init__"), (fA (cB (ce 7) 0)), .stmts ((fB (cB (ce 7) 0))), (fS (cB (ce 7) 0)), 3, [], .ref 86, .none, .none, .str (.ofString "phpcore.slots") 245, .none, .ref 92, .none, 0⟩, #[]⟩),
(94, ⟨.type "tuple", .none, .seq #[.str (.ofString "was_unset") 298] 0, #[]⟩),
(95, ⟨.type "dict", .none, .dict #[kE P "__module__" 285 (.str (.ofString "phpcore.slots") 245), kE P "__firstlineno__" 289 (.int 24 288), kE P "__init__" 297 (.ref 93), kE P "__static_attributes__" 299 (.ref 94), kE P "__dict__" 301 (.ref 97), kE P "__weakref__" 303 (.ref 98), kE P "__doc__" 304 .none] 4, #[]⟩),
(96, ⟨.type "type", .none, .cls ⟨(.ofString "Absent"), [.type "object"], [.ref 96, .type "object"], 95, (.ofString "Absent"), .true, [], [], .false, .none, .false⟩, #[.none, .none, .some (.str (.ofString "Absent") 278), .some (.str (.ofString "Absent") 286), .some (.builtin "object.__new__"), .some (.bool .true)]⟩),
(97, ⟨.type "getset_descriptor", .none, .fields #[.str (.ofString "__dict__") 300, .ref 96, .builtin "function.__dict__", .builtin "function.__dict__#set"], #[]⟩),
(98, ⟨.type "getset_descriptor", .none, .fields #[.str (.ofString "__weakref__") 302, .ref 96, .builtin "ExceptionGroup.__weakref__", .none], #[]⟩),
(101, ⟨.type "tuple", .none, .seq #[] 0, #[]⟩),
(103, ⟨.type "tuple", .none, .seq #[.str (.ofString "slot") 310] 0, #[]⟩),
(104, ⟨.type "tuple", .none, .seq #[] 0, #[]⟩),
(106, ⟨.type "code", .none, .fields #[.str (.ofString "deref") 307, .str (.ofString "deref") 308, .str (.ofString "/claim/cut.py") 309, .int 28 0, .int 1 0, .int 0 0, .int 0 0, .int 3 0, .ref 101, .bool .true, .int 181 0, .ref 102, .none, .ref 103, .ref 104, .ref 105, .int 311 0, .int 28 0, .str (.ofString "/claim/cut.py") 312], #[]⟩),
(107, ⟨.type "function", .none, .func ⟨(.ofString "deref"), (.ofString "deref"), (fA (ce 8)), .stmts ((fB (ce 8))), (fS (ce 8)), 3, [], .none, .none, .none, .str (.ofString "phpcore.slots") 245, .none, .ref 106, .none, 0⟩, #[]⟩),
(108, ⟨.type "tuple", .none, .seq #[] 0, #[]⟩),
(110, ⟨.type "tuple", .none, .seq #[.str (.ofString "ref") 317] 0, #[]⟩),
(111, ⟨.type "tuple", .none, .seq #[] 0, #[]⟩),
(113, ⟨.type "code", .none, .fields #[.str (.ofString "hold") 314, .str (.ofString "hold") 315, .str (.ofString "/claim/cut.py") 316, .int 34 0, .int 1 0, .int 0 0, .int 0 0, .int 3 0, .ref 108, .bool .true, .int 181 0, .ref 109, .none, .ref 110, .ref 111, .ref 112, .int 318 0, .int 34 0, .str (.ofString "/claim/cut.py") 319], #[]⟩),
(114, ⟨.type "function", .none, .func ⟨(.ofString "hold"), (.ofString "hold"), (fA (ce 9)), .stmts ((fB (ce 9))), (fS (ce 9)), 3, [], .none, .none, .none, .str (.ofString "phpcore.slots") 245, .none, .ref 113, .none, 0⟩, #[]⟩),
(122, ⟨.type "tuple", .none, .seq #[.int 8 335] 0, #[]⟩),
(123, ⟨.type "tuple", .none, .seq #[] 0, #[]⟩),
(125, ⟨.type "tuple", .none, .seq #[.str (.ofString "self") 339, .str (.ofString "size") 340] 0, #[]⟩),
(126, ⟨.type "tuple", .none, .seq #[] 0, #[]⟩),
(128, ⟨.type "code", .none, .fields #[.str (.ofString "__init__") 336, .str (.ofString "Arr.__init__") 337, .str (.ofString "/claim/cut.py") 338, .int 40 0, .int 2 0, .int 0 0, .int 0 0, .int 3 0, .ref 123, .bool .true, .int 181 0, .ref 124, .none, .ref 125, .ref 126, .ref 127, .int 341 0, .int 40 0, .str (.ofString "/claim/cut.py") 342], #[]⟩),
(129, ⟨.type "function", .none, .func ⟨(.ofString "__init__"), (.ofString "Arr.__init__"), (fA (cB (ce 11) 0)), .stmts ((fB (cB (ce 11) 0))), (fS (cB (ce 11) 0)), 3, [], .ref 122, .none, .none, .str (.ofString "phpcore.table") 321, .none, .ref 128, .none, 0⟩, #[]⟩),
(130, ⟨.type "tuple", .none, .seq #[] 0, #[]⟩),
(132, ⟨.type "tuple", .none, .seq #[.str (.ofString "self") 347, .str (.ofString "key") 348, .str (.ofString "place") 349] 0, #[]⟩),
(133, ⟨.type "tuple", .none, .seq #[] 0, #[]⟩),
(135, ⟨.type "code", .none, .fields #[.str (.ofString "find") 344, .str (.ofString "Arr.find") 345, .str (.ofString "/claim/cut.py") 346, .int 53 0, .int 2 0, .int 0 0, .int 0 0, .int 3 0, .ref 130, .bool .true, .int 181 0, .ref 131, .none, .ref 132, .ref 133, .ref 134, .int 350 0, .int 53 0, .str (.ofString "/claim/cut.py") 351], #[]⟩),
(136, ⟨.type "function", .none, .func ⟨(.ofString "find"), (.ofString "Arr.find"), (fA (cB (ce 11) 1)), .stmts ((fB (cB (ce 11) 1))), (fS (cB (ce 11) 1)), 3, [], .none, .none, .none, .str (.ofString "phpcore.table") 321, .none, .ref 135, .none, 0⟩, #[]⟩),
(137, ⟨.type "tuple", .none, .seq #[] 0, #[]⟩),
(139, ⟨.type "tuple", .none, .seq #[.str (.ofString "self") 356, .str (.ofString "key") 357] 0, #[]⟩),
(140, ⟨.type "tuple", .none, .seq #[] 0, #[]⟩),
(142, ⟨.type "code", .none, .fields #[.str (.ofString "has") 353, .str (.ofString "Arr.has") 354, .str (.ofString "/claim/cut.py") 355, .int 61 0, .int 2 0, .int 0 0, .int 0 0, .int 3 0, .ref 137, .bool .true, .int 181 0, .ref 138, .none, .ref 139, .ref 140, .ref 141, .int 358 0, .int 61 0, .str (.ofString "/claim/cut.py") 359], #[]⟩),
(143, ⟨.type "function", .none, .func ⟨(.ofString "has"), (.ofString "Arr.has"), (fA (cB (ce 11) 2)), .stmts ((fB (cB (ce 11) 2))), (fS (cB (ce 11) 2)), 3, [], .none, .none, .none, .str (.ofString "phpcore.table") 321, .none, .ref 142, .none, 0⟩, #[]⟩),
(144, ⟨.type "tuple", .none, .seq #[] 0, #[]⟩),
(146, ⟨.type "tuple", .none, .seq #[.str (.ofString "self") 364, .str (.ofString "key") 365, .str (.ofString "place") 366] 0, #[]⟩),
(147, ⟨.type "tuple", .none, .seq #[] 0, #[]⟩),
(149, ⟨.type "code", .none, .fields #[.str (.ofString "slot") 361, .str (.ofString "Arr.slot") 362, .str (.ofString "/claim/cut.py") 363, .int 64 0, .int 2 0, .int 0 0, .int 0 0, .int 3 0, .ref 144, .bool .true, .int 181 0, .ref 145, .none, .ref 146, .ref 147, .ref 148, .int 367 0, .int 64 0, .str (.ofString "/claim/cut.py") 368], #[]⟩),
(150, ⟨.type "function", .none, .func ⟨(.ofString "slot"), (.ofString "Arr.slot"), (fA (cB (ce 11) 3)), .stmts ((fB (cB (ce 11) 3))), (fS (cB (ce 11) 3)), 3, [], .none, .none, .none, .str (.ofString "phpcore.table") 321, .none, .ref 149, .none, 0⟩, #[]⟩),
(151, ⟨.type "tuple", .none, .seq #[] 0, #[]⟩),
(153, ⟨.type "tuple", .none, .seq #[.str (.ofString "self") 373, .str (.ofString "key") 374] 0, #[]⟩),
(154, ⟨.type "tuple", .none, .seq #[] 0, #[]⟩),
(156, ⟨.type "code", .none, .fields #[.str (.ofString "get") 370, .str (.ofString "Arr.get") 371, .str (.ofString "/claim/cut.py") 372, .int 68 0, .int 2 0, .int 0 0, .int 0 0, .int 3 0, .ref 151, .bool .true, .int 181 0, .ref 152, .none, .ref 153, .ref 154, .ref 155, .int 375 0, .int 68 0, .str (.ofString "/claim/cut.py") 376], #[]⟩),
(157, ⟨.type "function", .none, .func ⟨(.ofString "get"), (.ofString "Arr.get"), (fA (cB (ce 11) 4)), .stmts ((fB (cB (ce 11) 4))), (fS (cB (ce 11) 4)), 3, [], .none, .none, .none, .str (.ofString "phpcore.table") 321, .none, .ref 156, .none, 0⟩, #[]⟩),
(158, ⟨.type "tuple", .none, .seq #[] 0, #[]⟩),
(160, ⟨.type "tuple", .none, .seq #[.str (.ofString "self") 381, .str (.ofString "key") 382, .str (.ofString "slot") 383, .str (.ofString "place") 384] 0, #[]⟩),
(161, ⟨.type "tuple", .none, .seq #[] 0, #[]⟩),
(163, ⟨.type "code", .none, .fields #[.str (.ofString "put") 378, .str (.ofString "Arr.put") 379, .str (.ofString "/claim/cut.py") 380, .int 71 0, .int 3 0, .int 0 0, .int 0 0, .int 3 0, .ref 158, .bool .true, .int 181 0, .ref 159, .none, .ref 160, .ref 161, .ref 162, .int 385 0, .int 71 0, .str (.ofString "/claim/cut.py") 386], #[]⟩),
(164, ⟨.type "function", .none, .func ⟨(.ofString "put"), (.ofString "Arr.put"), (fA (cB (ce 11) 5)), .stmts ((fB (cB (ce 11) 5))), (fS (cB (ce 11) 5)), 3, [], .none, .none, .none, .str (.ofString "phpcore.table") 321, .none, .ref 163, .none, 0⟩, #[]⟩),
(165, ⟨.type "tuple", .none, .seq #[] 0, #[]⟩),
(167, ⟨.type "tuple", .none, .seq #[.str (.ofString "self") 391, .str (.ofString "slot") 392, .str (.ofString "key") 393] 0, #[]⟩),
(168, ⟨.type "tuple", .none, .seq #[] 0, #[]⟩),
(170, ⟨.type "code", .none, .fields #[.str (.ofString "append") 388, .str (.ofString "Arr.append") 389, .str (.ofString "/claim/cut.py") 390, .int 78 0, .int 2 0, .int 0 0, .int 0 0, .int 3 0, .ref 165, .bool .true, .int 181 0, .ref 166, .none, .ref 167, .ref 168, .ref 169, .int 394 0, .int 78 0, .str (.ofString "/claim/cut.py") 395], #[]⟩),
(171, ⟨.type "function", .none, .func ⟨(.ofString "append"), (.ofString "Arr.append"), (fA (cB (ce 11) 6)), .stmts ((fB (cB (ce 11) 6))), (fS (cB (ce 11) 6)), 3, [], .none, .none, .none, .str (.ofString "phpcore.table") 321, .none, .ref 170, .none, 0⟩, #[]⟩),
(172, ⟨.type "tuple", .none, .seq #[] 0, #[]⟩),
(174, ⟨.type "tuple", .none, .seq #[.str (.ofString "self") 400, .str (.ofString "key") 401, .str (.ofString "place") 402, .str (.ofString "slot") 403] 0, #[]⟩),
(175, ⟨.type "tuple", .none, .seq #[] 0, #[]⟩),
(177, ⟨.type "code", .none, .fields #[.str (.ofString "drop") 397, .str (.ofString "Arr.drop") 398, .str (.ofString "/claim/cut.py") 399, .int 85 0, .int 2 0, .int 0 0, .int 0 0, .int 3 0, .ref 172, .bool .true, .int 181 0, .ref 173, .none, .ref 174, .ref 175, .ref 176, .int 404 0, .int 85 0, .str (.ofString "/claim/cut.py") 405], #[]⟩),
(178, ⟨.type "function", .none, .func ⟨(.ofString "drop"), (.ofString "Arr.drop"), (fA (cB (ce 11) 7)), .stmts ((fB (cB (ce 11) 7))), (fS (cB (ce 11) 7)), 3, [], .none, .none, .none, .str (.ofString "phpcore.table") 321, .none, .ref 177, .none, 0⟩, #[]⟩),
(179, ⟨.type "tuple", .none, .seq #[] 0, #[]⟩),
(181, ⟨.type "tuple", .none, .seq #[.str (.ofString "self") 410, .str (.ofString "place") 411] 0, #[]⟩),
(182, ⟨.type "tuple", .none, .seq #[] 0, #[]⟩),
(184, ⟨.type "code", .none, .fields #[.str (.ofString "key_at") 407, .str (.ofString "Arr.key_at") 408, .str (.ofString "/claim/cut.py") 409, .int 98 0, .int 2 0, .int 0 0, .int 0 0, .int 3 0, .ref 179, .bool .true, .int 181 0, .ref 180, .none, .ref 181, .ref 182, .ref 183, .int 412 0, .int 98 0, .str (.ofString "/claim/cut.py") 413], #[]⟩),
(185, ⟨.type "function", .none, .func ⟨(.ofString "key_at"), (.ofString "Arr.key_at"), (fA (cB (ce 11) 8)), .stmts ((fB (cB (ce 11) 8))), (fS (cB (ce 11) 8)), 3, [], .none, .none, .none, .str (.ofString "phpcore.table") 321, .none, .ref 184, .none, 0⟩, #[]⟩),
(186, ⟨.type "tuple", .none, .seq #[.str (.ofString "at") 415, .str (.ofString "count") 416, .str (.ofString "heads") 417, .str (.ofString "is_packed") 418, .str (.ofString "is_shared") 419, .str (.ofString "keys") 420, .str (.ofString "next") 421, .str (.ofString "nexts") 422, .str (.ofString "size") 423, .str (.ofString "vals") 424, .str (.ofString "walks") 425] 0, #[]⟩),
(187, ⟨.type "dict", .none, .dict #[kE P "__module__" 330 (.str (.ofString "phpcore.table") 321), kE P "__firstlineno__" 334 (.int 38 333), kE P "__init__" 343 (.ref 129), kE P "find" 352 (.ref 136), kE P "has" 360 (.ref 143), kE P "slot" 369 (.ref 150), kE P "get" 377 (.ref 157), kE P "put" 387 (.ref 164), kE P "append" 396 (.ref 171), kE P "drop" 406 (.ref 178), kE P "key_at" 414 (.ref 185), kE P "__static_attributes__" 426 (.ref 186), kE P "__dict__" 428 (.ref 189), kE P "__weakref__" 430 (.ref 190), kE P "__doc__" 431 .none] 4, #[]⟩),
(188, ⟨.type "type", .none, .cls ⟨(.ofString "Arr"), [.type "object"], [.ref 188, .type "object"], 187, (.ofString "Arr"), .true, [], [], .false, .none, .false⟩, #[.none, .none, .some (.str (.ofString "Arr") 323), .some (.str (.ofString "Arr") 331), .some (.builtin "object.__new__"), .some (.bool .true)]⟩),
(189, ⟨.type "getset_descriptor", .none, .fields #[.str (.ofString "__dict__") 427, .ref 188, .builtin "function.__dict__", .builtin "function.__dict__#set"], #[]⟩),
(190, ⟨.type "getset_descriptor", .none, .fields #[.str (.ofString "__weakref__") 429, .ref 188, .builtin "ExceptionGroup.__weakref__", .none], #[]⟩),
(193, ⟨.type "tuple", .none, .seq #[] 0, #[]⟩),
(195, ⟨.type "tuple", .none, .seq #[.str (.ofString "arr") 437, .str (.ofString "place") 438] 0, #[]⟩),
(196, ⟨.type "tuple", .none, .seq #[] 0, #[]⟩),
(198, ⟨.type "code", .none, .fields #[.str (.ofString "is_living") 434, .str (.ofString "is_living") 435, .str (.ofString "/claim/cut.py") 436, .int 100 0, .int 2 0, .int 0 0, .int 0 0, .int 3 0, .ref 193, .bool .true, .int 181 0, .ref 194, .none, .ref 195, .ref 196, .ref 197, .int 439 0, .int 100 0, .str (.ofString "/claim/cut.py") 440], #[]⟩),
(199, ⟨.type "function", .none, .func ⟨(.ofString "is_living"), (.ofString "is_living"), (fA (ce 12)), .stmts ((fB (ce 12))), (fS (ce 12)), 3, [], .none, .none, .none, .str (.ofString "phpcore.table") 321, .none, .ref 198, .none, 0⟩, #[]⟩),
(200, ⟨.type "tuple", .none, .seq #[] 0, #[]⟩),
(202, ⟨.type "tuple", .none, .seq #[.str (.ofString "key") 445, .str (.ofString "found") 446, .str (.ofString "sign") 447] 0, #[]⟩),
(203, ⟨.type "tuple", .none, .seq #[] 0, #[]⟩),
(205, ⟨.type "code", .none, .fields #[.str (.ofString "hash_of") 442, .str (.ofString "hash_of") 443, .str (.ofString "/claim/cut.py") 444, .int 102 0, .int 1 0, .int 0 0, .int 0 0, .int 3 0, .ref 200, .bool .true, .int 181 0, .ref 201, .none, .ref 202, .ref 203, .ref 204, .int 448 0, .int 102 0, .str (.ofString "/claim/cut.py") 449], #[]⟩),
(206, ⟨.type "function", .none, .func ⟨(.ofString "hash_of"), (.ofString "hash_of"), (fA (ce 13)), .stmts ((fB (ce 13))), (fS (ce 13)), 3, [], .none, .none, .none, .str (.ofString "phpcore.table") 321, .none, .ref 205, .none, 0⟩, #[]⟩),
(207, ⟨.type "tuple", .none, .seq #[] 0, #[]⟩),
(209, ⟨.type "tuple", .none, .seq #[.str (.ofString "arr") 454, .str (.ofString "place") 455, .str (.ofString "chain") 456] 0, #[]⟩),
(210, ⟨.type "tuple", .none, .seq #[] 0, #[]⟩),
(212, ⟨.type "code", .none, .fields #[.str (.ofString "link") 451, .str (.ofString "link") 452, .str (.ofString "/claim/cut.py") 453, .int 109 0, .int 2 0, .int 0 0, .int 0 0, .int 3 0, .ref 207, .bool .true, .int 181 0, .ref 208, .none, .ref 209, .ref 210, .ref 211, .int 457 0, .int 109 0, .str (.ofString "/claim/cut.py") 458], #[]⟩),
(213, ⟨.type "function", .none, .func ⟨(.ofString "link"), (.ofString "link"), (fA (ce 14)), .stmts ((fB (ce 14))), (fS (ce 14)), 3, [], .none, .none, .none, .str (.ofString "phpcore.table") 321, .none, .ref 212, .none, 0⟩, #[]⟩),
(214, ⟨.type "tuple", .none, .seq #[] 0, #[]⟩),
(216, ⟨.type "tuple", .none, .seq #[.str (.ofString "arr") 463, .str (.ofString "place") 464, .str (.ofString "chain") 465, .str (.ofString "ahead") 466, .str (.ofString "here") 467] 0, #[]⟩),
(217, ⟨.type "tuple", .none, .seq #[] 0, #[]⟩),
(219, ⟨.type "code", .none, .fields #[.str (.ofString "unlink") 460, .str (.ofString "unlink") 461, .str (.ofString "/claim/cut.py") 462, .int 113 0, .int 2 0, .int 0 0, .int 0 0, .int 3 0, .ref 214, .bool .true, .int 181 0, .ref 215, .none, .ref 216, .ref 217, .ref 218, .int 468 0, .int 113 0, .str (.ofString "/claim/cut.py") 469], #[]⟩),
(220, ⟨.type "function", .none, .func ⟨(.ofString "unlink"), (.ofString "unlink"), (fA (ce 15)), .stmts ((fB (ce 15))), (fS (ce 15)), 3, [], .none, .none, .none, .str (.ofString "phpcore.table") 321, .none, .ref 219, .none, 0⟩, #[]⟩),
(221, ⟨.type "tuple", .none, .seq #[] 0, #[]⟩),
(223, ⟨.type "tuple", .none, .seq #[.str (.ofString "arr") 474, .str (.ofString "place") 475] 0, #[]⟩),
(224, ⟨.type "tuple", .none, .seq #[] 0, #[]⟩),
(226, ⟨.type "code", .none, .fields #[.str (.ofString "chains") 471, .str (.ofString "chains") 472, .str (.ofString "/claim/cut.py") 473, .int 124 0, .int 1 0, .int 0 0, .int 0 0, .int 3 0, .ref 221, .bool .true, .int 181 0, .ref 222, .none, .ref 223, .ref 224, .ref 225, .int 476 0, .int 124 0, .str (.ofString "/claim/cut.py") 477], #[]⟩),
(227, ⟨.type "function", .none, .func ⟨(.ofString "chains"), (.ofString "chains"), (fA (ce 16)), .stmts ((fB (ce 16))), (fS (ce 16)), 3, [], .none, .none, .none, .str (.ofString "phpcore.table") 321, .none, .ref 226, .none, 0⟩, #[]⟩),
(228, ⟨.type "tuple", .none, .seq #[] 0, #[]⟩),
(230, ⟨.type "tuple", .none, .seq #[.str (.ofString "arr") 482, .str (.ofString "place") 483] 0, #[]⟩),
(231, ⟨.type "tuple", .none, .seq #[] 0, #[]⟩),
(233, ⟨.type "code", .none, .fields #[.str (.ofString "next_place") 479, .str (.ofString "next_place") 480, .str (.ofString "/claim/cut.py") 481, .int 130 0, .int 2 0, .int 0 0, .int 0 0, .int 3 0, .ref 228, .bool .true, .int 181 0, .ref 229, .none, .ref 230, .ref 231, .ref 232, .int 484 0, .int 130 0, .str (.ofString "/claim/cut.py") 485], #[]⟩),
(234, ⟨.type "function", .none, .func ⟨(.ofString "next_place"), (.ofString "next_place"), (fA (ce 17)), .stmts ((fB (ce 17))), (fS (ce 17)), 3, [], .none, .none, .none, .str (.ofString "phpcore.table") 321, .none, .ref 233, .none, 0⟩, #[]⟩),
(235, ⟨.type "tuple", .none, .seq #[] 0, #[]⟩),
(238, ⟨.type "code", .none, .fields #[.str (.ofString "many_ahead") 487, .str (.ofString "many_ahead") 488, .str (.ofString "/claim/cut.py") 489, .int 134 0, .int 2 0, .int 0 0, .int 0 0, .int 3 0, .ref 235, .bool .true, .int 181 0, .ref 236, .none, .none, .none, .ref 237, .int 490 0, .int 134 0, .str (.ofString "/claim/cut.py") 491], #[]⟩),
(239, ⟨.type "function", .none, .func ⟨(.ofString "many_ahead"), (.ofString "many_ahead"), (fA (ce 18)), .stmts ((fB (ce 18))), (fS (ce 18)), 3, [], .none, .none, .none, .str (.ofString "phpcore.table") 321, .none, .ref 238, .none, 0⟩, #[]⟩),
(240, ⟨.type "tuple", .none, .seq #[] 0, #[]⟩),
(243, ⟨.type "code", .none, .fields #[.str (.ofString "rehash") 493, .str (.ofString "rehash") 494, .str (.ofString "/claim/cut.py") 495, .int 136 0, .int 1 0, .int 0 0, .int 0 0, .int 3 0, .ref 240, .bool .true, .int 181 0, .ref 241, .none, .none, .none, .ref 242, .int 496 0, .int 136 0, .str (.ofString "/claim/cut.py") 497], #[]⟩),
(244, ⟨.type "function", .none, .func ⟨(.ofString "rehash"), (.ofString "rehash"), (fA (ce 19)), .stmts ((fB (ce 19))), (fS (ce 19)), 3, [], .none, .none, .none, .str (.ofString "phpcore.table") 321, .none, .ref 243, .none, 0⟩, #[]⟩),
(245, ⟨.type "tuple", .none, .seq #[] 0, #[]⟩),
(247, ⟨.type "tuple", .none, .seq #[.str (.ofString "arr") 502] 0, #[]⟩),
(248, ⟨.type "tuple", .none, .seq #[] 0, #[]⟩),
(250, ⟨.type "code", .none, .fields #[.str (.ofString "to_hash") 499, .str (.ofString "to_hash") 500, .str (.ofString "/claim/cut.py") 501, .int 144 0, .int 1 0, .int 0 0, .int 0 0, .int 3 0, .ref 245, .bool .true, .int 181 0, .ref 246, .none, .ref 247, .ref 248, .ref 249, .int 503 0, .int 144 0, .str (.ofString "/claim/cut.py") 504], #[]⟩),
(251, ⟨.type "function", .none, .func ⟨(.ofString "to_hash"), (.ofString "to_hash"), (fA (ce 20)), .stmts ((fB (ce 20))), (fS (ce 20)), 3, [], .none, .none, .none, .str (.ofString "phpcore.table") 321, .none, .ref 250, .none, 0⟩, #[]⟩),
(252, ⟨.type "tuple", .none, .seq #[] 0, #[]⟩),
(254, ⟨.type "tuple", .none, .seq #[.str (.ofString "arr") 509, .str (.ofString "key") 510] 0, #[]⟩),
(255, ⟨.type "tuple", .none, .seq #[] 0, #[]⟩),
(257, ⟨.type "code", .none, .fields #[.str (.ofString "takes_packed") 506, .str (.ofString "takes_packed") 507, .str (.ofString "/claim/cut.py") 508, .int 148 0, .int 2 0, .int 0 0, .int 0 0, .int 3 0, .ref 252, .bool .true, .int 181 0, .ref 253, .none, .ref 254, .ref 255, .ref 256, .int 511 0, .int 148 0, .str (.ofString "/claim/cut.py") 512], #[]⟩),
(258, ⟨.type "function", .none, .func ⟨(.ofString "takes_packed"), (.ofString "takes_packed"), (fA (ce 21)), .stmts ((fB (ce 21))), (fS (ce 21)), 3, [], .none, .none, .none, .str (.ofString "phpcore.table") 321, .none, .ref 257, .none, 0⟩, #[]⟩),
(259, ⟨.type "tuple", .none, .seq #[] 0, #[]⟩),
(261, ⟨.type "tuple", .none, .seq #[.str (.ofString "arr") 517, .str (.ofString "key") 518, .str (.ofString "slot") 519] 0, #[]⟩),
(262, ⟨.type "tuple", .none, .seq #[] 0, #[]⟩),
(264, ⟨.type "code", .none, .fields #[.str (.ofString "add_packed") 514, .str (.ofString "add_packed") 515, .str (.ofString "/claim/cut.py") 516, .int 154 0, .int 3 0, .int 0 0, .int 0 0, .int 3 0, .ref 259, .bool .true, .int 181 0, .ref 260, .none, .ref 261, .ref 262, .ref 263, .int 520 0, .int 154 0, .str (.ofString "/claim/cut.py") 521], #[]⟩),
(265, ⟨.type "function", .none, .func ⟨(.ofString "add_packed"), (.ofString "add_packed"), (fA (ce 22)), .stmts ((fB (ce 22))), (fS (ce 22)), 3, [], .none, .none, .none, .str (.ofString "phpcore.table") 321, .none, .ref 264, .none, 0⟩, #[]⟩),
(266, ⟨.type "tuple", .none, .seq #[] 0, #[]⟩),
(268, ⟨.type "tuple", .none, .seq #[.str (.ofString "arr") 526, .str (.ofString "key") 527, .str (.ofString "slot") 528, .str (.ofString "used") 529] 0, #[]⟩),
(269, ⟨.type "tuple", .none, .seq #[] 0, #[]⟩),
(271, ⟨.type "code", .none, .fields #[.str (.ofString "add_hashed") 523, .str (.ofString "add_hashed") 524, .str (.ofString "/claim/cut.py") 525, .int 158 0, .int 3 0, .int 0 0, .int 0 0, .int 3 0, .ref 266, .bool .true, .int 181 0, .ref 267, .none, .ref 268, .ref 269, .ref 270, .int 530 0, .int 158 0, .str (.ofString "/claim/cut.py") 531], #[]⟩),
(272, ⟨.type "function", .none, .func ⟨(.ofString "add_hashed"), (.ofString "add_hashed"), (fA (ce 23)), .stmts ((fB (ce 23))), (fS (ce 23)), 3, [], .none, .none, .none, .str (.ofString "phpcore.table") 321, .none, .ref 271, .none, 0⟩, #[]⟩),
(273, ⟨.type "tuple", .none, .seq #[] 0, #[]⟩),
(275, ⟨.type "tuple", .none, .seq #[.str (.ofString "arr") 536, .str (.ofString "key") 537, .str (.ofString "slot") 538] 0, #[]⟩),
(276, ⟨.type "tuple", .none, .seq #[] 0, #[]⟩),
(278, ⟨.type "code", .none, .fields #[.str (.ofString "add") 533, .str (.ofString "add") 534, .str (.ofString "/claim/cut.py") 535, .int 170 0, .int 3 0, .int 0 0, .int 0 0, .int 3 0, .ref 273, .bool .true, .int 181 0, .ref 274, .none, .ref 275, .ref 276, .ref 277, .int 539 0, .int 170 0, .str (.ofString "/claim/cut.py") 540], #[]⟩),
(279, ⟨.type "function", .none, .func ⟨(.ofString "add"), (.ofString "add"), (fA (ce 24)), .stmts ((fB (ce 24))), (fS (ce 24)), 3, [], .none, .none, .none, .str (.ofString "phpcore.table") 321, .none, .ref 278, .none, 0⟩, #[]⟩),
(280, ⟨.type "tuple", .none, .seq #[] 0, #[]⟩),
(282, ⟨.type "tuple", .none, .seq #[.str (.ofString "arr") 545, .str (.ofString "place") 546, .str (.ofString "behind") 547, .str (.ofString "is_last") 548, .str (.ofString "used") 549, .str (.ofString "number") 550, .str (.ofString "there") 551] 0, #[]⟩),
(283, ⟨.type "tuple", .none, .seq #[] 0, #[]⟩),
(285, ⟨.type "code", .none, .fields #[.str (.ofString "go_on") 542, .str (.ofString "go_on") 543, .str (.ofString "/claim/cut.py") 544, .int 182 0, .int 2 0, .int 0 0, .int 0 0, .int 3 0, .ref 280, .bool .true, .int 181 0, .ref 281, .none, .ref 282, .ref 283, .ref 284, .int 552 0, .int 182 0, .str (.ofString "/claim/cut.py") 553], #[]⟩),
(286, ⟨.type "function", .none, .func ⟨(.ofString "go_on"), (.ofString "go_on"), (fA (ce 25)), .stmts ((fB (ce 25))), (fS (ce 25)), 3, [], .none, .none, .none, .str (.ofString "phpcore.table") 321, .none, .ref 285, .none, 0⟩, #[]⟩),
(287, ⟨.type "tuple", .none, .seq #[] 0, #[]⟩),
(289, ⟨.type "tuple", .none, .seq #[.str (.ofString "value") 558] 0, #[]⟩),
(290, ⟨.type "tuple", .none, .seq #[] 0, #[]⟩),
(292, ⟨.type "code", .none, .fields #[.str (.ofString "marked") 555, .str (.ofString "marked") 556, .str (.ofString "/claim/cut.py") 557, .int 195 0, .int 1 0, .int 0 0, .int 0 0, .int 3 0, .ref 287, .bool .true, .int 181 0, .ref 288, .none, .ref 289, .ref 290, .ref 291, .int 559 0, .int 195 0, .str (.ofString "/claim/cut.py") 560], #[]⟩),
(293, ⟨.type "function", .none, .func ⟨(.ofString "marked"), (.ofString "marked"), (fA (ce 26)), .stmts ((fB (ce 26))), (fS (ce 26)), 3, [], .none, .none, .none, .str (.ofString "phpcore.table") 321, .none, .ref 292, .none, 0⟩, #[]⟩),
(294, ⟨.type "tuple", .none, .seq #[] 0, #[]⟩),
(296, ⟨.type "tuple", .none, .seq #[.str (.ofString "slot") 565] 0, #[]⟩),
(297, ⟨.type "tuple", .none, .seq #[] 0, #[]⟩),
(299, ⟨.type "code", .none, .fields #[.str (.ofString "copied") 562, .str (.ofString "copied") 563, .str (.ofString "/claim/cut.py") 564, .int 199 0, .int 1 0, .int 0 0, .int 0 0, .int 3 0, .ref 294, .bool .true, .int 181 0, .ref 295, .none, .ref 296, .ref 297, .ref 298, .int 566 0, .int 199 0, .str (.ofString "/claim/cut.py") 567], #[]⟩),
(300, ⟨.type "function", .none, .func ⟨(.ofString "copied"), (.ofString "copied"), (fA (ce 27)), .stmts ((fB (ce 27))), (fS (ce 27)), 3, [], .none, .none, .none, .str (.ofString "phpcore.table") 321, .none, .ref 299, .none, 0⟩, #[]⟩),
(301, ⟨.type "tuple", .none, .seq #[] 0, #[]⟩),
(304, ⟨.type "code", .none, .fields #[.str (.ofString "copy") 569, .str (.ofString "copy") 570, .str (.ofString "/claim/cut.py") 571, .int 207 0, .int 1 0, .int 0 0, .int 0 0, .int 3 0, .ref 301, .bool .true, .int 181 0, .ref 302, .none, .none, .none, .ref 303, .int 572 0, .int 207 0, .str (.ofString "/claim/cut.py") 573], #[]⟩),
(305, ⟨.type "function", .none, .func ⟨(.ofString "copy"), (.ofString "copy"), (fA (ce 28)), .stmts ((fB (ce 28))), (fS (ce 28)), 3, [], .none, .none, .none, .str (.ofString "phpcore.table") 321, .none, .ref 304, .none, 0⟩, #[]⟩),
(306, ⟨.type "tuple", .none, .seq #[] 0, #[]⟩),
(308, ⟨.type "tuple", .none, .seq #[] 0, #[]⟩),
(309, ⟨.type "tuple", .none, .seq #[] 0, #[]⟩),
(311, ⟨.type "code", .none, .fields #[.str (.ofString "_law_rows") 577, .str (.ofString "_law_rows") 578, .str (.ofString "/claim/cut.py") 579, .int 220 0, .int 0 0, .int 0 0, .int 0 0, .int 3 0, .ref 306, .bool .true, .int 181 0, .ref 307, .none, .ref 308, .ref 309, .ref 310, .int 580 0, .int 220 0, .str (.ofString "/claim/cut.py") 581], #[]⟩),
(312, ⟨.type "function", .none, .func ⟨(.ofString "_law_rows"), (.ofString "_law_rows"), (fA (ce 30)), .stmts ((fB (ce 30))), (fS (ce 30)), 3, [], .none, .none, .none, .str (.ofString "law_pc0244_01") 575, .none, .ref 311, .none, 0⟩, #[]⟩),
(313, ⟨.type "tuple", .none, .seq #[] 0, #[]⟩),
(315, ⟨.type "tuple", .none, .seq #[.str (.ofString "size") 586] 0, #[]⟩),
(316, ⟨.type "tuple", .none, .seq #[] 0, #[]⟩),
(318, ⟨.type "code", .none, .fields #[.str (.ofString "_law_new") 583, .str (.ofString "_law_new") 584, .str (.ofString "/claim/cut.py") 585, .int 222 0, .int 1 0, .int 0 0, .int 0 0, .int 3 0, .ref 313, .bool .true, .int 181 0, .ref 314, .none, .ref 315, .ref 316, .ref 317, .int 587 0, .int 222 0, .str (.ofString "/claim/cut.py") 588], #[]⟩),
(319, ⟨.type "function", .none, .func ⟨(.ofString "_law_new"), (.ofString "_law_new"), (fA (ce 31)), .stmts ((fB (ce 31))), (fS (ce 31)), 3, [], .none, .none, .none, .str (.ofString "law_pc0244_01") 575, .none, .ref 318, .none, 0⟩, #[]⟩),
(320, ⟨.type "tuple", .none, .seq #[] 0, #[]⟩),
(323, ⟨.type "code", .none, .fields #[.str (.ofString "_law_living") 590, .str (.ofString "_law_living") 591, .str (.ofString "/claim/cut.py") 592, .int 224 0, .int 1 0, .int 0 0, .int 0 0, .int 3 0, .ref 320, .bool .true, .int 181 0, .ref 321, .none, .none, .none, .ref 322, .int 593 0, .int 224 0, .str (.ofString "/claim/cut.py") 594], #[]⟩),
(324, ⟨.type "function", .none, .func ⟨(.ofString "_law_living"), (.ofString "_law_living"), (fA (ce 32)), .stmts ((fB (ce 32))), (fS (ce 32)), 3, [], .none, .none, .none, .str (.ofString "law_pc0244_01") 575, .none, .ref 323, .none, 0⟩, #[]⟩),
(325, ⟨.type "tuple", .none, .seq #[] 0, #[]⟩),
(327, ⟨.type "tuple", .none, .seq #[.str (.ofString "form") 599] 0, #[]⟩),
(328, ⟨.type "tuple", .none, .seq #[] 0, #[]⟩),
(330, ⟨.type "code", .none, .fields #[.str (.ofString "_law_hash_form") 596, .str (.ofString "_law_hash_form") 597, .str (.ofString "/claim/cut.py") 598, .int 226 0, .int 1 0, .int 0 0, .int 0 0, .int 3 0, .ref 325, .bool .true, .int 181 0, .ref 326, .none, .ref 327, .ref 328, .ref 329, .int 600 0, .int 226 0, .str (.ofString "/claim/cut.py") 601], #[]⟩),
(331, ⟨.type "function", .none, .func ⟨(.ofString "_law_hash_form"), (.ofString "_law_hash_form"), (fA (ce 33)), .stmts ((fB (ce 33))), (fS (ce 33)), 3, [], .none, .none, .none, .str (.ofString "law_pc0244_01") 575, .none, .ref 330, .none, 0⟩, #[]⟩),
(332, ⟨.type "tuple", .none, .seq #[] 0, #[]⟩),
(334, ⟨.type "tuple", .none, .seq #[.str (.ofString "form") 606, .str (.ofString "key") 607, .str (.ofString "places") 608, .str (.ofString "living") 609, .str (.ofString "is_next") 610] 0, #[]⟩),
(335, ⟨.type "tuple", .none, .seq #[] 0, #[]⟩),
(337, ⟨.type "code", .none, .fields #[.str (.ofString "_law_added") 603, .str (.ofString "_law_added") 604, .str (.ofString "/claim/cut.py") 605, .int 231 0, .int 2 0, .int 0 0, .int 0 0, .int 3 0, .ref 332, .bool .true, .int 181 0, .ref 333, .none, .ref 334, .ref 335, .ref 336, .int 611 0, .int 231 0, .str (.ofString "/claim/cut.py") 612], #[]⟩),
(338, ⟨.type "function", .none, .func ⟨(.ofString "_law_added"), (.ofString "_law_added"), (fA (ce 34)), .stmts ((fB (ce 34))), (fS (ce 34)), 3, [], .none, .none, .none, .str (.ofString "law_pc0244_01") 575, .none, .ref 337, .none, 0⟩, #[]⟩),
(339, ⟨.type "tuple", .none, .seq #[] 0, #[]⟩),
(341, ⟨.type "tuple", .none, .seq #[.str (.ofString "form") 617, .str (.ofString "key") 618] 0, #[]⟩),
(342, ⟨.type "tuple", .none, .seq #[] 0, #[]⟩),
(344, ⟨.type "code", .none, .fields #[.str (.ofString "_law_put") 614, .str (.ofString "_law_put") 615, .str (.ofString "/claim/cut.py") 616, .int 247 0, .int 2 0, .int 0 0, .int 0 0, .int 3 0, .ref 339, .bool .true, .int 181 0, .ref 340, .none, .ref 341, .ref 342, .ref 343, .int 619 0, .int 247 0, .str (.ofString "/claim/cut.py") 620], #[]⟩),
(345, ⟨.type "function", .none, .func ⟨(.ofString "_law_put"), (.ofString "_law_put"), (fA (ce 35)), .stmts ((fB (ce 35))), (fS (ce 35)), 3, [], .none, .none, .none, .str (.ofString "law_pc0244_01") 575, .none, .ref 344, .none, 0⟩, #[]⟩),
(346, ⟨.type "tuple", .none, .seq #[] 0, #[]⟩),
(349, ⟨.type "code", .none, .fields #[.str (.ofString "_law_dropped") 622, .str (.ofString "_law_dropped") 623, .str (.ofString "/claim/cut.py") 624, .int 252 0, .int 2 0, .int 0 0, .int 0 0, .int 3 0, .ref 346, .bool .true, .int 181 0, .ref 347, .none, .none, .none, .ref 348, .int 625 0, .int 252 0, .str (.ofString "/claim/cut.py") 626], #[]⟩),
(350, ⟨.type "function", .none, .func ⟨(.ofString "_law_dropped"), (.ofString "_law_dropped"), (fA (ce 36)), .stmts ((fB (ce 36))), (fS (ce 36)), 3, [], .none, .none, .none, .str (.ofString "law_pc0244_01") 575, .none, .ref 349, .none, 0⟩, #[]⟩),
(351, ⟨.type "tuple", .none, .seq #[] 0, #[]⟩),
(353, ⟨.type "tuple", .none, .seq #[.str (.ofString "key") 631, .str (.ofString "told") 632, .str (.ofString "place") 633, .str (.ofString "sign") 634] 0, #[]⟩),
(354, ⟨.type "tuple", .none, .seq #[] 0, #[]⟩),
(356, ⟨.type "code", .none, .fields #[.str (.ofString "_law_hash") 628, .str (.ofString "_law_hash") 629, .str (.ofString "/claim/cut.py") 630, .int 259 0, .int 1 0, .int 0 0, .int 0 0, .int 3 0, .ref 351, .bool .true, .int 181 0, .ref 352, .none, .ref 353, .ref 354, .ref 355, .int 635 0, .int 259 0, .str (.ofString "/claim/cut.py") 636], #[]⟩),
(357, ⟨.type "function", .none, .func ⟨(.ofString "_law_hash"), (.ofString "_law_hash"), (fA (ce 37)), .stmts ((fB (ce 37))), (fS (ce 37)), 3, [], .none, .none, .none, .str (.ofString "law_pc0244_01") 575, .none, .ref 356, .none, 0⟩, #[]⟩),
(358, ⟨.type "tuple", .none, .seq #[] 0, #[]⟩),
(360, ⟨.type "tuple", .none, .seq #[.str (.ofString "arr") 641, .str (.ofString "head") 642, .str (.ofString "found") 643] 0, #[]⟩),
(361, ⟨.type "tuple", .none, .seq #[] 0, #[]⟩),
(363, ⟨.type "code", .none, .fields #[.str (.ofString "_law_chain") 638, .str (.ofString "_law_chain") 639, .str (.ofString "/claim/cut.py") 640, .int 266 0, .int 2 0, .int 0 0, .int 0 0, .int 3 0, .ref 358, .bool .true, .int 181 0, .ref 359, .none, .ref 360, .ref 361, .ref 362, .int 644 0, .int 266 0, .str (.ofString "/claim/cut.py") 645], #[]⟩),
(364, ⟨.type "function", .none, .func ⟨(.ofString "_law_chain"), (.ofString "_law_chain"), (fA (ce 38)), .stmts ((fB (ce 38))), (fS (ce 38)), 3, [], .none, .none, .none, .str (.ofString "law_pc0244_01") 575, .none, .ref 363, .none, 0⟩, #[]⟩),
(365, ⟨.type "tuple", .none, .seq #[] 0, #[]⟩),
(368, ⟨.type "code", .none, .fields #[.str (.ofString "_law_chains_right") 647, .str (.ofString "_law_chains_right") 648, .str (.ofString "/claim/cut.py") 649, .int 272 0, .int 2 0, .int 0 0, .int 0 0, .int 3 0, .ref 365, .bool .true, .int 181 0, .ref 366, .none, .none, .none, .ref 367, .int 650 0, .int 272 0, .str (.ofString "/claim/cut.py") 651], #[]⟩),
(369, ⟨.type "function", .none, .func ⟨(.ofString "_law_chains_right"), (.ofString "_law_chains_right"), (fA (ce 39)), .stmts ((fB (ce 39))), (fS (ce 39)), 3, [], .none, .none, .none, .str (.ofString "law_pc0244_01") 575, .none, .ref 368, .none, 0⟩, #[]⟩),
(370, ⟨.type "tuple", .none, .seq #[] 0, #[]⟩),
(373, ⟨.type "code", .none, .fields #[.str (.ofString "_law_form_right") 653, .str (.ofString "_law_form_right") 654, .str (.ofString "/claim/cut.py") 655, .int 281 0, .int 2 0, .int 0 0, .int 0 0, .int 3 0, .ref 370, .bool .true, .int 181 0, .ref 371, .none, .none, .none, .ref 372, .int 656 0, .int 281 0, .str (.ofString "/claim/cut.py") 657], #[]⟩),
(374, ⟨.type "function", .none, .func ⟨(.ofString "_law_form_right"), (.ofString "_law_form_right"), (fA (ce 40)), .stmts ((fB (ce 40))), (fS (ce 40)), 3, [], .none, .none, .none, .str (.ofString "law_pc0244_01") 575, .none, .ref 373, .none, 0⟩, #[]⟩),
(375, ⟨.type "tuple", .none, .seq #[] 0, #[]⟩),
(377, ⟨.type "tuple", .none, .seq #[.str (.ofString "rest") 662, .str (.ofString "which") 663] 0, #[]⟩),
(378, ⟨.type "tuple", .none, .seq #[] 0, #[]⟩),
(380, ⟨.type "code", .none, .fields #[.str (.ofString "_law_key") 659, .str (.ofString "_law_key") 660, .str (.ofString "/claim/cut.py") 661, .int 292 0, .int 1 0, .int 0 0, .int 0 0, .int 3 0, .ref 375, .bool .true, .int 181 0, .ref 376, .none, .ref 377, .ref 378, .ref 379, .int 664 0, .int 292 0, .str (.ofString "/claim/cut.py") 665], #[]⟩),
(381, ⟨.type "function", .none, .func ⟨(.ofString "_law_key"), (.ofString "_law_key"), (fA (ce 41)), .stmts ((fB (ce 41))), (fS (ce 41)), 3, [], .none, .none, .none, .str (.ofString "law_pc0244_01") 575, .none, .ref 380, .none, 0⟩, #[]⟩),
(382, ⟨.type "tuple", .none, .seq #[] 0, #[]⟩),
(384, ⟨.type "tuple", .none, .seq #[.str (.ofString "arr") 670, .str (.ofString "form") 671, .str (.ofString "number") 672, .str (.ofString "kind") 673, .str (.ofString "rest") 674, .str (.ofString "living") 675, .str (.ofString "key") 676, .str (.ofString "made") 677] 0, #[]⟩),
(385, ⟨.type "tuple", .none, .seq #[] 0, #[]⟩),
(387, ⟨.type "code", .none, .fields #[.str (.ofString "_law_deed") 667, .str (.ofString "_law_deed") 668, .str (.ofString "/claim/cut.py") 669, .int 297 0, .int 3 0, .int 0 0, .int 0 0, .int 3 0, .ref 382, .bool .true, .int 181 0, .ref 383, .none, .ref 384, .ref 385, .ref 386, .int 678 0, .int 297 0, .str (.ofString "/claim/cut.py") 679], #[]⟩),
(388, ⟨.type "function", .none, .func ⟨(.ofString "_law_deed"), (.ofString "_law_deed"), (fA (ce 42)), .stmts ((fB (ce 42))), (fS (ce 42)), 3, [], .none, .none, .none, .str (.ofString "law_pc0244_01") 575, .none, .ref 387, .none, 0⟩, #[]⟩),
(389, ⟨.type "tuple", .none, .seq #[] 0, #[]⟩),
(392, ⟨.type "code", .none, .fields #[.str (.ofString "law") 681, .str (.ofString "law") 682, .str (.ofString "/claim/cut.py") 683, .int 325 0, .int 1 0, .int 0 0, .int 0 0, .int 3 0, .ref 389, .bool .true, .int 181 0, .ref 390, .none, .none, .none, .ref 391, .int 684 0, .int 325 0, .str (.ofString "/claim/cut.py") 685], #[]⟩),
(393, ⟨.type "function", .none, .func ⟨(.ofString "law"), (.ofString "law"), (fA (ce 43)), .stmts ((fB (ce 43))), (fS (ce 43)), 3, [], .none, .none, .none, .str (.ofString "law_pc0244_01") 575, .none, .ref 392, .none, 0⟩, #[]⟩)]

noncomputable def Ks : List Nat := [2, 3, 15, 22, 23, 25, 26, 28, 29, 30, 31, 32, 33, 36, 38, 39, 41, 42, 43, 45, 46, 48, 49, 50, 52, 53, 55, 56, 64, 65, 67, 68, 70, 71, 72, 73, 74, 75, 76, 86, 87, 89, 90, 92, 93, 94, 95, 96, 97, 98, 101, 103, 104, 106, 107, 108, 110, 111, 113, 114, 122, 123, 125, 126, 128, 129, 130, 132, 133, 135, 136, 137, 139, 140, 142, 143, 144, 146, 147, 149, 150, 151, 153, 154, 156, 157, 158, 160, 161, 163, 164, 165, 167, 168, 170, 171, 172, 174, 175, 177, 178, 179, 181, 182, 184, 185, 186, 187, 188, 189, 190, 193, 195, 196, 198, 199, 200, 202, 203, 205, 206, 207, 209, 210, 212, 213, 214, 216, 217, 219, 220, 221, 223, 224, 226, 227, 228, 230, 231, 233, 234, 235, 238, 239, 240, 243, 244, 245, 247, 248, 250, 251, 252, 254, 255, 257, 258, 259, 261, 262, 264, 265, 266, 268, 269, 271, 272, 273, 275, 276, 278, 279, 280, 282, 283, 285, 286, 287, 289, 290, 292, 293, 294, 296, 297, 299, 300, 301, 304, 305, 306, 308, 309, 311, 312, 313, 315, 316, 318, 319, 320, 323, 324, 325, 327, 328, 330, 331, 332, 334, 335, 337, 338, 339, 341, 342, 344, 345, 346, 349, 350, 351, 353, 354, 356, 357, 358, 360, 361, 363, 364, 365, 368, 369, 370, 373, 374, 375, 377, 378, 380, 381, 382, 384, 385, 387, 388, 389, 392, 393]
theorem Ks_is : ∀ P, Ks = (Kt P).map (·.1) := fun _ => by kernel_rfl


/-! ## 1. owned parts of the heap -/
abbrev PH := Addr → Option Obj
noncomputable def PH.le (p q : PH) : Prop := ∀ a o, p a = some o → q a = some o
noncomputable def PH.dj (p q : PH) : Prop := ∀ a, p a = none ∨ q a = none
noncomputable def PH.un (p q : PH) : PH := fun a => match p a with | some o => some o | none => q a
noncomputable def PH.up (p : PH) (a : Addr) (o : Obj) : PH := fun b => if b = a then some o else p b
noncomputable def PH.nil : PH := fun _ => none
theorem PH.le_refl (p : PH) : p.le p := fun _ _ e => e
theorem PH.le.trans {p q r : PH} (x : p.le q) (y : q.le r) : p.le r := fun a o e => y a o (x a o e)
theorem PH.dj.symm {p q : PH} (x : p.dj q) : q.dj p := fun a => (x a).symm
theorem PH.le_unl (p q : PH) : p.le (p.un q) := fun a o e => by simp [PH.un, e]
theorem PH.le_unr {p q : PH} (d : p.dj q) : q.le (p.un q) := fun a o e => by
  rcases d a with h | h
  · simp [PH.un, h, e]
  · rw [h] at e; cases e
theorem PH.un_le {p q r : PH} (x : p.le r) (y : q.le r) : (p.un q).le r := fun a o e => by
  unfold PH.un at e
  split at e
  · rename_i h; exact x a o (h.trans e)
  · exact y a o e
theorem PH.dj_un {p q r : PH} (x : p.dj r) (y : q.dj r) : (p.un q).dj r := fun a => by
  rcases x a with h | h
  · rcases y a with h' | h'
    · left; simp [PH.un, h, h']
    · right; exact h'
  · right; exact h
theorem PH.dj.mono {p q p' q' : PH} (d : p.dj q) (x : p'.le p) (y : q'.le q) : p'.dj q' := fun a => by
  rcases d a with h | h
  · left
    cases e : p' a with
    | none => rfl
    | some o => rw [x a o e] at h; cases h
  · right
    cases e : q' a with
    | none => rfl
    | some o => rw [y a o e] at h; cases h
theorem PH.up_le {p q : PH} {a : Addr} {o : Obj} (x : p.le q) : (p.up a o).le (q.up a o) := fun b o' e => by
  unfold PH.up at e ⊢
  split at e
  · rename_i h; simp [h, e]
  · rename_i h; simp [h]; exact x b o' e
theorem PH.le_up {p q : PH} {a : Addr} {o : Obj} (x : p.le q) (h : p a = none) : p.le (q.up a o) := fun b o' e => by
  unfold PH.up
  split
  · rename_i hb; rw [hb] at e; rw [h] at e; cases e
  · exact x b o' e
theorem PH.dj_up {p q : PH} {a : Addr} {o : Obj} (d : p.dj q) (h : q a = none) : (p.up a o).dj q := fun b => by
  by_cases hb : b = a
  · right; rw [hb]; exact h
  · unfold PH.up; simp only [hb, if_false]; exact d b

abbrev Res := PH → Prop
noncomputable def Sp : List Res → PH → Prop
  | [], _ => True
  | r :: rs, p => ∃ p1 p2, PH.dj p1 p2 ∧ PH.le p1 p ∧ PH.le p2 p ∧ r p1 ∧ Sp rs p2
theorem Sp.mono : ∀ {rs : List Res} {p q : PH}, Sp rs p → p.le q → Sp rs q
  | [], _, _, _, _ => trivial
  | _ :: _, _, _, ⟨p1, p2, d, l1, l2, h1, h2⟩, l => ⟨p1, p2, d, l1.trans l, l2.trans l, h1, h2⟩
theorem Sp.get {r : Res} : ∀ {rs : List Res} {p : PH}, Sp rs p → r ∈ rs → ∃ q, q.le p ∧ r q
  | _ :: _, _, ⟨p1, p2, _, l1, l2, h1, h2⟩, hm => by
    rcases List.mem_cons.mp hm with rfl | hm
    · exact ⟨p1, l1, h1⟩
    · obtain ⟨q, lq, hq⟩ := Sp.get h2 hm
      exact ⟨q, lq.trans l2, hq⟩
theorem Sp.sw {a b : Res} {rs : List Res} {p : PH} : Sp (a :: b :: rs) p → Sp (b :: a :: rs) p := by
  rintro ⟨p1, p2, d, l1, l2, h1, q1, q2, d', m1, m2, h2, h3⟩
  refine ⟨q1, p1.un q2, ?_, m1.trans l2, PH.un_le l1 (m2.trans l2), h2, p1, q2, ?_, PH.le_unl _ _, PH.le_unr ?_, h1, h3⟩
  · exact (PH.dj_un (d.mono (PH.le_refl _) m1) d'.symm).symm
  · exact d.mono (PH.le_refl _) m2
  · exact d.mono (PH.le_refl _) m2
/-- two resources as one -/
noncomputable def Two (a b : Res) : Res := fun p => Sp [a, b] p
theorem Sp.join {a b : Res} {rs : List Res} {p : PH} : Sp (a :: b :: rs) p → Sp (Two a b :: rs) p := by
  rintro ⟨p1, p2, d, l1, l2, h1, q1, q2, d', m1, m2, h2, h3⟩
  exact ⟨p1.un q1, q2, PH.dj_un (d.mono (PH.le_refl _) m2) d', PH.un_le l1 (m1.trans l2), m2.trans l2, ⟨p1, q1, d.mono (PH.le_refl _) m1, PH.le_unl _ _, PH.le_unr (d.mono (PH.le_refl _) m1), h1, q1, PH.nil, (fun _ => .inr rfl), PH.le_refl _, (fun _ _ e => by cases e), h2, trivial⟩, h3⟩

/-- a finite part -/
noncomputable def lkp (led : List (Addr × Obj)) : PH := fun a => led.lookup a
noncomputable def setA (led : List (Addr × Obj)) (a : Addr) (o : Obj) : List (Addr × Obj) := (a, o) :: led.filter (fun q => q.1 != a)
theorem lookup_filter_ne {a b : Addr} (h : b ≠ a) : ∀ led : List (Addr × Obj), (led.filter (fun q => q.1 != a)).lookup b = led.lookup b
  | [] => rfl
  | (c, o) :: r => by
    by_cases hc : c = a
    · subst hc
      rw [List.filter_cons_of_neg (by simp), List.lookup_cons, lookup_filter_ne h r]
      simp [beq_eq_false_iff_ne.mpr h]
    · rw [List.filter_cons_of_pos (by simp [hc]), List.lookup_cons, List.lookup_cons, lookup_filter_ne h r]
theorem lkp_setA (led : List (Addr × Obj)) (a : Addr) (o : Obj) : lkp (setA led a o) = (lkp led).up a o := by
  funext b
  unfold lkp setA PH.up
  by_cases h : b = a
  · subst h; simp
  · rw [List.lookup_cons, lookup_filter_ne h]; simp [beq_eq_false_iff_ne.mpr h, h]
theorem mem_of_lkp {led : List (Addr × Obj)} {a : Addr} {o : Obj} (h : lkp led a = some o) : (a, o) ∈ led := by
  unfold lkp at h
  induction led with
  | nil => cases h
  | cons q r ih =>
    obtain ⟨b, ob⟩ := q
    rw [List.lookup_cons] at h
    cases e : (a == b) with
    | true => rw [e] at h; cases h; rw [beq_iff_eq.mp e]; exact .head _
    | false => rw [e] at h; exact .tail _ (ih h)
theorem lkp_none {led : List (Addr × Obj)} {a : Addr} (h : ∀ q ∈ led, q.1 ≠ a) : lkp led a = none := by
  cases e : lkp led a with
  | none => rfl
  | some o => exact absurd rfl (h _ (mem_of_lkp e))
theorem mem_setA {led : List (Addr × Obj)} {a : Addr} {o : Obj} {q : Addr × Obj} (h : q ∈ setA led a o) : q = (a, o) ∨ (q ∈ led ∧ q.1 ≠ a) := by
  rcases List.mem_cons.mp h with h | h
  · exact .inl h
  · obtain ⟨h1, h2⟩ := List.mem_filter.mp h
    exact .inr ⟨h1, by simpa using h2⟩
theorem nodup_setA {led : List (Addr × Obj)} {a : Addr} {o : Obj} (h : (led.map (·.1)).Nodup) : ((setA led a o).map (·.1)).Nodup := by
  unfold setA
  rw [List.map_cons, List.nodup_cons]
  refine ⟨fun hm => ?_, h.sublist ((List.filter_sublist).map _)⟩
  obtain ⟨q, hq, e⟩ := List.mem_map.mp hm
  have := (List.mem_filter.mp hq).2
  simp [e] at this

/-- the state: what is owned -/
structure St (H₀ : Heap) (o₀ : OsState) (rs : List Res) (s : Shared) : Prop where
  base : ∀ a o, H₀.get? a = some o → s.heap.get? a = some o
  own : ∃ led : List (Addr × Obj), (∀ q ∈ led, s.heap.get? q.1 = some q.2 ∧ H₀.get? q.1 = none) ∧ (led.map (·.1)).Nodup ∧ Sp rs (lkp led)
  gens : s.gens = #[]
  os : s.os = o₀
  big : H₀.objs.size ≤ s.heap.objs.size

namespace St
variable {H₀ : Heap} {o₀ : OsState} {rs : List Res} {s : Shared} {a b c : Res}
theorem tok (S : St H₀ o₀ rs s) (t : Nat) : St H₀ o₀ rs { s with toks := t } := ⟨S.base, S.own, S.gens, S.os, S.big⟩
theorem mapSp {rs' : List Res} (S : St H₀ o₀ rs s) (f : ∀ p, Sp rs p → Sp rs' p) : St H₀ o₀ rs' s := ⟨S.base, let ⟨p, x, y, z⟩ := S.own; ⟨p, x, y, f _ z⟩, S.gens, S.os, S.big⟩
theorem sw (S : St H₀ o₀ (a :: b :: rs) s) : St H₀ o₀ (b :: a :: rs) s := S.mapSp fun _ z => z.sw
theorem join (S : St H₀ o₀ (a :: b :: rs) s) : St H₀ o₀ (Two a b :: rs) s := S.mapSp fun _ => Sp.join
theorem drop (S : St H₀ o₀ (a :: rs) s) : St H₀ o₀ rs s := S.mapSp fun _ ⟨_, _, _, _, l, _, h⟩ => h.mono l
theorem drop1 (S : St H₀ o₀ (b :: a :: rs) s) : St H₀ o₀ (b :: rs) s := S.sw.drop
theorem conv (S : St H₀ o₀ (a :: rs) s) (f : ∀ p, a p → b p) : St H₀ o₀ (b :: rs) s := S.mapSp fun _ ⟨p1, p2, d, l1, l2, h1, h2⟩ => ⟨p1, p2, d, l1, l2, f _ h1, h2⟩
theorem ex {α : Type} {f : α → Res} (S : St H₀ o₀ ((fun p => ∃ x, f x p) :: rs) s) : ∃ x, St H₀ o₀ (f x :: rs) s := by
  obtain ⟨B, ⟨p, x, y, p1, p2, d, l1, l2, ⟨v, h1⟩, h2⟩, G, O, Z⟩ := S
  exact ⟨v, B, ⟨p, x, y, p1, p2, d, l1, l2, h1, h2⟩, G, O, Z⟩
theorem pure {P : Prop} (S : St H₀ o₀ ((fun p => P ∧ a p) :: rs) s) : P ∧ St H₀ o₀ (a :: rs) s := by
  obtain ⟨B, ⟨p, x, y, p1, p2, d, l1, l2, ⟨v, h1⟩, h2⟩, G, O, Z⟩ := S
  exact ⟨v, B, ⟨p, x, y, p1, p2, d, l1, l2, h1, h2⟩, G, O, Z⟩
theorem get (S : St H₀ o₀ rs s) (hm : a ∈ rs) : ∃ q : PH, (∀ x o, q x = some o → s.heap.get? x = some o) ∧ a q := by
  obtain ⟨B, ⟨p, x, y, z⟩, G, O, Z⟩ := S
  obtain ⟨q, l, hq⟩ := z.get hm
  exact ⟨q, fun b o e => (x _ (mem_of_lkp (l b o e))).1, hq⟩
theorem sw12 (S : St H₀ o₀ (a :: b :: c :: rs) s) : St H₀ o₀ (a :: c :: b :: rs) s := S.mapSp fun _ ⟨p1, p2, d, l1, l2, h1, h2⟩ => ⟨p1, p2, d, l1, l2, h1, h2.sw⟩
theorem sw2 (S : St H₀ o₀ (a :: b :: c :: rs) s) : St H₀ o₀ (c :: b :: a :: rs) s := S.sw.sw12.sw
theorem perm {rs' : List Res} (S : St H₀ o₀ rs s) (h : rs.Perm rs') : St H₀ o₀ rs' s := by
  refine S.mapSp ?_
  clear S
  intro p hp
  induction h generalizing p with
  | nil => exact hp
  | cons x _ ih => obtain ⟨p1, p2, d, l1, l2, h1, h2⟩ := hp; exact ⟨p1, p2, d, l1, l2, h1, ih _ h2⟩
  | swap x y l => exact hp.sw
  | trans _ _ ih1 ih2 => exact ih2 _ (ih1 _ hp)
/-- one owned object is changed in place -/
theorem focus (S : St H₀ o₀ (a :: rs) s) : ∃ q : PH, (∀ y o, q y = some o → s.heap.get? y = some o) ∧ a q ∧
    ∀ (r' : Res) (x : Addr) (o o' : Obj) (h' : Heap) (tk : Nat), q x = some o → h'.get? x = some o' → Heap.SameBut x s.heap h' → r' (q.up x o') → St H₀ o₀ (r' :: rs) { s with heap := h', toks := tk } := by
  obtain ⟨B, ⟨led, X, N, p1, p2, d, l1, l2, h1, h2⟩, G, O, Z⟩ := S
  refine ⟨p1, fun b o e => (X _ (mem_of_lkp (l1 b o e))).1, h1, fun r' x o o' h' tk e1 e2 hs hr => ?_⟩
  have n2 : p2 x = none := by rcases d x with q | q; exact absurd (q.symm.trans e1) (by simp); exact q
  have hx := X _ (mem_of_lkp (l1 x o e1))
  refine ⟨fun b ob eb => ?_, ⟨setA led x o', fun q hq => ?_, nodup_setA N, ?_⟩, G, O, by show _ ≤ h'.objs.size; rw [hs.1]; exact Z⟩
  · rw [hs.2 b (fun q => by rw [q, hx.2] at eb; cases eb)]; exact B b ob eb
  · rcases mem_setA hq with rfl | ⟨h3, h4⟩
    · exact ⟨e2, hx.2⟩
    · exact ⟨(hs.2 _ h4).trans (X _ h3).1, (X _ h3).2⟩
  · rw [lkp_setA]
    exact ⟨p1.up x o', p2, PH.dj_up d n2, PH.up_le l1, PH.le_up l2 n2, hr, h2⟩
theorem focus1 (S : St H₀ o₀ (c :: a :: rs) s) : ∃ q : PH, (∀ y o, q y = some o → s.heap.get? y = some o) ∧ a q ∧
    ∀ (r' : Res) (x : Addr) (o o' : Obj) (h' : Heap) (tk : Nat), q x = some o → h'.get? x = some o' → Heap.SameBut x s.heap h' → r' (q.up x o') → St H₀ o₀ (c :: r' :: rs) { s with heap := h', toks := tk } := by
  obtain ⟨q, h1, h2, h3⟩ := S.sw.focus
  exact ⟨q, h1, h2, fun r' x o o' h' tk e1 e2 hs hr => (h3 r' x o o' h' tk e1 e2 hs hr).sw⟩
/-- a new object -/
theorem push {r' : Res} {o : Obj} {tk : Nat} (S : St H₀ o₀ rs s) (hf : o.isFreed = false) (h : r' (PH.nil.up s.heap.objs.size o)) :
    St H₀ o₀ (r' :: rs) { s with heap := s.heap.push o, toks := tk } := by
  obtain ⟨B, ⟨led, X, N, h2⟩, G, O, Z⟩ := S
  have nl : ∀ q ∈ led, q.1 ≠ s.heap.objs.size := fun q hq e => absurd (Heap.lt_size (X q hq).1) (by rw [e]; exact Nat.lt_irrefl _)
  have n1 := lkp_none nl
  have n0 : H₀.get? s.heap.objs.size = none := by
    cases e : H₀.get? s.heap.objs.size with
    | none => rfl
    | some o' => exact absurd (Heap.lt_size (B _ _ e)) (Nat.lt_irrefl _)
  refine ⟨fun b ob eb => Heap.get?_push_of_some _ (B b ob eb), ⟨setA led s.heap.objs.size o, fun q hq => ?_, nodup_setA N, ?_⟩, G, O, by show _ ≤ (s.heap.push o).objs.size; rw [Heap.size_push]; exact Nat.le_succ_of_le Z⟩
  · rcases mem_setA hq with rfl | ⟨h3, h4⟩
    · exact ⟨Heap.get?_push_size _ hf, n0⟩
    · exact ⟨Heap.get?_push_of_some _ (X _ h3).1, (X _ h3).2⟩
  · rw [lkp_setA]
    exact ⟨PH.nil.up s.heap.objs.size o, lkp led, PH.dj_up (fun _ => .inl rfl) n1, PH.up_le (fun _ _ e => by cases e), PH.le_up (PH.le_refl _) n1, h, h2⟩
/-- the heap only grew -/
theorem grow {h' : Heap} {tk : Nat} (S : St H₀ o₀ rs s) (hk : ∀ b o, s.heap.get? b = some o → h'.get? b = some o) (hz : s.heap.objs.size ≤ h'.objs.size) : St H₀ o₀ rs { s with heap := h', toks := tk } :=
  ⟨fun b o e => hk b o (S.base b o e), let ⟨p, x, y, z⟩ := S.own; ⟨p, fun q hq => ⟨hk _ _ (x q hq).1, (x q hq).2⟩, y, z⟩, S.gens, S.os, Nat.le_trans S.big hz⟩
end St

/-! ## 2. the world that the run of the top left -/
structure Wd (w : World) (H₀ : Heap) : Prop where
  X : (Kt w.params).In H₀
  T : ∃ p loose mg mb, TopRead p loose mg mb H₀
noncomputable abbrev KK (w : World) : Frag := Kt w.params
/-- no way raises -/
abbrev Does (w : World) {α : Type} (A : Around) (t : Sem α) (Q : α → Shared → Prop) (s : Shared) : Prop :=
  wpAny (model PySem.Challenge.rw_pc0244_01.row.prog w) A t Q (fun _ _ => False) s
structure Rm (A : Around) (n : Nat) : Prop where
  d : A.depth + n < recursionLimit
  u : A.units + 8 * n < cLine
  h : A.handled = none
theorem Rm.lower {A : Around} {n k : Nat} (R : Rm A n) (h : k ≤ n) : Rm A k := ⟨by have := R.d; omega, by have := R.u; omega, R.h⟩
theorem Rm.deeper {A : Around} {n : Nat} {env : Env} (R : Rm A (n + 1)) : Rm (A.deeper env) n := ⟨by have := R.d; simp only [Around.deeper]; omega, by have := R.u; simp only [Around.deeper]; omega, R.h⟩
theorem Rm.in1 {A : Around} {n : Nat} (R : Rm A (n + 1)) : Rm A.in1 n := ⟨by have := R.d; simp; omega, by have := R.u; simp; omega, R.h⟩

section rules
variable {w : World} {H₀ : Heap} {o₀ : OsState} {A : Around} {s : Shared} {rs R : List Res} {env : Env}
theorem does_mono {α : Type} {t : Sem α} {Q Q' : α → Shared → Prop} (h : Does w A t Q s) (hQ : ∀ a s, Q a s → Q' a s) : Does w A t Q' s := wpAny_mono h hQ fun _ _ x => x
theorem Wd.inK (W : Wd w H₀) (S : St H₀ o₀ rs s) : (KK w).In s.heap := W.X.keeps S.base

/-! ### frames -/
noncomputable def ix (x : Str) : List Str → Nat
  | [] => 0
  | y :: r => if x = y then 0 else ix x r + 1
noncomputable def NsO (o : Obj) (m : Str → Option Value) : Prop := ∃ es ep, o.data = .dict es ep ∧ StrKeys es ∧ ∀ name, nsFind es name = m name
@[irreducible] noncomputable def FrR (H₀ : Heap) (L : Addr) (names : List Str) (vs : List (Option Value)) : Res := fun p => H₀.objs.size ≤ L ∧ ∃ o m, p L = some o ∧ NsO o m ∧ ∀ x v, vs[ix x names]? = some (some v) → m x = some v
@[irreducible] noncomputable def CellR (c : Addr) (v : Value) : Res := fun p => ∃ o, p c = some o ∧ o.data = .cell (some v)
theorem FrR_def {L : Addr} {names : List Str} {vs : List (Option Value)} {p : PH} : FrR H₀ L names vs p ↔ H₀.objs.size ≤ L ∧ ∃ o m, p L = some o ∧ NsO o m ∧ ∀ x v, vs[ix x names]? = some (some v) → m x = some v := by unfold FrR; exact Iff.rfl
theorem CellR_def {c : Addr} {v : Value} {p : PH} : CellR c v p ↔ ∃ o, p c = some o ∧ o.data = .cell (some v) := by unfold CellR; exact Iff.rfl
theorem ix_inj {x y : Str} : ∀ {names : List Str}, ix y names = ix x names → ix x names < names.length → y = x
  | [], _, h => by simp [ix] at h
  | z :: r, e, h => by
    unfold ix at e h
    by_cases h1 : y = z
    · by_cases h2 : x = z
      · rw [h1, h2]
      · simp [h1, h2] at e
    · by_cases h2 : x = z
      · simp [h1, h2] at e
      · simp only [h1, h2, if_false, List.length_cons] at e h
        exact ix_inj (names := r) (by omega) (by omega)

/-- the library's frame and ledger, out of the state, and back -/
theorem St.fn {L : Addr} {names : List Str} {vs : List (Option Value)} (S : St H₀ o₀ (FrR H₀ L names vs :: R) s) : ∃ m led, Fr H₀ L s.heap m ∧ News H₀ L s.heap led ∧
    (∀ h' tk, Fr H₀ L h' m → News H₀ L h' led → St H₀ o₀ (FrR H₀ L names vs :: R) { s with heap := h', toks := tk }) ∧
    (∀ h' tk (x : Addr) o (r' : Res), Fr H₀ L h' m → News H₀ L h' ((x, o) :: led) → (∀ q ∈ led, q.1 ≠ x) → r' (PH.nil.up x o) → St H₀ o₀ (r' :: FrR H₀ L names vs :: R) { s with heap := h', toks := tk }) := by
  obtain ⟨B, ⟨led, X, N, p1, p2, d, l1, l2, h1, h2⟩, G, O, Z⟩ := S
  obtain ⟨ha, oL, m, e1, ⟨es, ep, k1, k2, k3⟩, e3⟩ := FrR_def.mp h1
  have hL := X _ (mem_of_lkp (l1 _ _ e1))
  have n2 : p2 L = none := by rcases d L with q | q; exact absurd (q.symm.trans e1) (by simp); exact q
  have key : ∀ (h' : Heap), Fr H₀ L h' m → News H₀ L h' (led.filter (fun q => q.1 != L)) → ∃ oL', h'.get? L = some oL' ∧ FrR H₀ L names vs (p1.up L oL') ∧ H₀.objs.size ≤ h'.objs.size := fun h' F' N' => by
    obtain ⟨oL', es', ep', g1, g2, g3, g4⟩ := F'.ns
    exact ⟨oL', g1, FrR_def.mpr ⟨ha, oL', m, if_pos rfl, ⟨es', ep', g2, g3, g4⟩, e3⟩, Nat.le_of_lt (Nat.lt_of_le_of_lt F'.above (Heap.lt_size g1))⟩
  refine ⟨m, led.filter (fun q => q.1 != L), ⟨⟨oL, es, ep, hL.1, k1, k2, k3⟩, B, ha⟩, fun q hq => ?_, fun h' tk F' N' => ?_, fun h' tk x o r' F' N' hx hr => ?_⟩
  · obtain ⟨a1, a2⟩ := List.mem_filter.mp hq
    exact ⟨(X q a1).1, by simpa using a2, (X q a1).2⟩
  · obtain ⟨oL', g1, g2, g3⟩ := key h' F' N'
    refine ⟨fun b ob eb => F'.keep b ob eb, ⟨setA led L oL', fun q hq => ?_, nodup_setA N, ?_⟩, G, O, g3⟩
    · rcases mem_setA hq with rfl | ⟨a1, a2⟩
      · exact ⟨g1, hL.2⟩
      · exact ⟨(N' q (List.mem_filter.mpr ⟨a1, by simpa using a2⟩)).1, (X q a1).2⟩
    · rw [lkp_setA]
      exact ⟨p1.up L oL', p2, PH.dj_up d n2, PH.up_le l1, PH.le_up l2 n2, g2, h2⟩
  · obtain ⟨oL', g1, g2, g3⟩ := key h' F' (fun q hq => N' q (.tail _ hq))
    have hxL : x ≠ L := (N' (x, o) (.head _)).2.1
    have hx0 : H₀.get? x = none := (N' (x, o) (.head _)).2.2
    have hxl : lkp led x = none := lkp_none fun q hq e => by
      by_cases hq1 : q.1 = L
      · exact hxL (e.symm.trans hq1)
      · exact hx q (List.mem_filter.mpr ⟨hq, by simpa using hq1⟩) e
    have hx1 : ((lkp led).up L oL') x = none := by unfold PH.up; rw [if_neg hxL]; exact hxl
    refine ⟨fun b ob eb => F'.keep b ob eb, ⟨setA (setA led L oL') x o, fun q hq => ?_, nodup_setA (nodup_setA N), ?_⟩, G, O, g3⟩
    · rcases mem_setA hq with rfl | ⟨hq, a0⟩
      · exact ⟨(N' (x, o) (.head _)).1, hx0⟩
      rcases mem_setA hq with rfl | ⟨a1, a2⟩
      · exact ⟨g1, hL.2⟩
      · exact ⟨(N' q (.tail _ (List.mem_filter.mpr ⟨a1, by simpa using a2⟩))).1, (X q a1).2⟩
    · rw [lkp_setA, lkp_setA]
      refine ⟨PH.nil.up x o, (lkp led).up L oL', PH.dj_up (fun _ => .inl rfl) hx1, PH.up_le (fun _ _ e => by cases e), PH.le_up (PH.le_refl _) hx1, hr, ?_⟩
      exact ⟨p1.up L oL', p2, PH.dj_up d n2, PH.up_le l1, PH.le_up l2 n2, g2, h2⟩

theorem d_local {x : Str} {pos : Pos} {L : Addr} {names : List Str} {vs : List (Option Value)} {v : Value} {Q : Value → Shared → Prop} (S : St H₀ o₀ (FrR H₀ L names vs :: R) s) (hL : env.locals = L)
    (hv : vs[ix x names]? = some (some v)) (hk : env.scope.kind = .function) (hl : env.kindOf x = some .local) (h : Q v s) (hd : (x == ("__debug__" : Str)) = false) : Does w A (eval (.Name x pos) env) Q s := by
  obtain ⟨q, hq, hr⟩ := S.get (.head _)
  obtain ⟨ha, o, m, h1, h2, h3⟩ := FrR_def.mp hr
  exact wpAny_Name (wpAny_loadName_local hk hl (m := m) (by rw [hL]; obtain ⟨es, ep, a, b, c⟩ := h2; exact ⟨o, es, ep, hq _ _ h1, a, b, c⟩) (h3 x v hv) h) hd
theorem d_load {x : Str} {L : Addr} {names : List Str} {vs : List (Option Value)} {v : Value} {Q : Value → Shared → Prop} (S : St H₀ o₀ (FrR H₀ L names vs :: R) s) (hL : env.locals = L)
    (hv : vs[ix x names]? = some (some v)) (hk : env.scope.kind = .function) (hl : env.kindOf x = some .local) (h : Q v s) : Does w A (loadName env x) Q s := by
  obtain ⟨q, hq, hr⟩ := S.get (.head _)
  obtain ⟨ha, o, m, h1, h2, h3⟩ := FrR_def.mp hr
  exact wpAny_loadName_local hk hl (m := m) (by rw [hL]; obtain ⟨es, ep, a, b, c⟩ := h2; exact ⟨o, es, ep, hq _ _ h1, a, b, c⟩) (h3 x v hv) h
theorem d_store {x : Str} {L : Addr} {names : List Str} {vs : List (Option Value)} {v : Value} {Q : Unit → Shared → Prop} (S : St H₀ o₀ (FrR H₀ L names vs :: R) s) (hL : env.locals = L)
    (hx : ix x names < names.length) (hk : env.scope.kind = .function) (hl : env.kindOf x = some .local)
    (h : ∀ s', St H₀ o₀ (FrR H₀ L names (vs.set (ix x names) (some v)) :: R) s' → Q () s') : Does w A (storeName env x v) Q s := by
  subst hL
  obtain ⟨q, hq, hr, hf⟩ := S.focus
  obtain ⟨ha, o, m, h1, h2, h3⟩ := FrR_def.mp hr
  refine wpAny_storeName_local hl (m := m) (by obtain ⟨es, ep, a, b, c⟩ := h2; exact ⟨o, es, ep, hq _ _ h1, a, b, c⟩) (fun h' hn hs => h _ ?_) (by rw [hk]; rfl)
  obtain ⟨o', es', ep', ho', hd', hk', hm'⟩ := hn
  refine hf _ env.locals o o' h' _ h1 ho' hs (FrR_def.mpr ⟨ha, o', _, if_pos rfl, ⟨es', ep', hd', hk', hm'⟩, fun y u hu => ?_⟩)
  by_cases hy : y = x
  · subst hy
    rw [List.getElem?_set_self' ] at hu
    simp only [if_true]
    cases hv : vs[ix y names]? with
    | none => rw [hv] at hu; cases hu
    | some b => rw [hv] at hu; exact Option.some.inj hu
  · simp only [if_neg hy]
    rw [List.getElem?_set_ne (fun e => hy (ix_inj e.symm hx))] at hu
    exact h3 y u hu
end rules


/-! ## 3. the array object -/
structure Ad where
  d : Addr
  kl : Addr
  vl : Addr
  hl : Addr
  nl : Addr
  wl : Addr
  pk : Bool
  sz : Int
  ct : Int
  nx : Int
  at_ : Int
  sh : Bool
  zt : Tok
  ctt : Tok
  nxt : Tok
  att : Tok
  ks : List Value
  vs : List Value
  hs : List Value
  ns : List Value
noncomputable def enP (P : Params) (t : Tok) (x : Str) (v : Value) : DictEntry := ⟨PyData.keyHash P x, .str x t, v⟩
noncomputable def arrEs (P : Params) (tk : Nat → Tok) (a : Ad) : List DictEntry :=
  [enP P (tk 0) "is_packed" (.bool a.pk), enP P (tk 1) "keys" (.ref a.kl), enP P (tk 2) "vals" (.ref a.vl), enP P (tk 3) "heads" (.ref a.hl), enP P (tk 4) "nexts" (.ref a.nl),
   enP P (tk 5) "size" (.int a.sz a.zt), enP P (tk 6) "count" (.int a.ct a.ctt), enP P (tk 7) "next" (.int a.nx a.nxt), enP P (tk 8) "at" (.int a.at_ a.att), enP P (tk 9) "is_shared" (.bool a.sh), enP P (tk 10) "walks" (.ref a.wl)]
noncomputable def IsLs (o : Obj) (vs : List Value) : Prop := o.cls = .type "list" ∧ ∃ n, o = PySem.W.listOf vs.toArray n
noncomputable def LsO (p : PH) (l : Addr) (vs : List Value) : Prop := ∃ o, p l = some o ∧ IsLs o vs
@[irreducible] noncomputable def LsR (l : Addr) (vs : List Value) : Res := fun p => LsO p l vs
theorem LsR_def {l : Addr} {vs : List Value} {p : PH} : LsR l vs p ↔ LsO p l vs := by unfold LsR; exact Iff.rfl
noncomputable def AbsO (p : PH) (v : Value) : Prop := ∃ a o, v = .ref a ∧ p a = some o ∧ o.cls = .ref 96 ∧ notCls o = true
noncomputable def SlotO (p : PH) (v : Value) : Prop := (∃ i t, v = .int i t) ∨ AbsO p v
/-- the object's dict of walks: empty -/
noncomputable def WkO (p : PH) (l : Addr) : Prop := (∃ n, p l = some (dictOf [] n)) ∧ l ≠ sysModules
@[irreducible] noncomputable def ArrR (P : Params) (x : Addr) (a : Ad) : Res := fun p => p x = some (instObj 188 a.d) ∧ (∃ tk n, p a.d = some (dictOf (arrEs P tk a) n)) ∧ LsO p a.kl a.ks ∧ LsO p a.vl a.vs ∧ LsO p a.hl a.hs ∧ LsO p a.nl a.ns ∧
  WkO p a.wl ∧ (∀ v ∈ a.vs, SlotO p v) ∧ [a.kl, a.vl, a.hl, a.nl].Nodup
theorem ArrR_def {P : Params} {x : Addr} {a : Ad} {p : PH} : ArrR P x a p ↔ p x = some (instObj 188 a.d) ∧ (∃ tk n, p a.d = some (dictOf (arrEs P tk a) n)) ∧ LsO p a.kl a.ks ∧ LsO p a.vl a.vs ∧ LsO p a.hl a.hs ∧ LsO p a.nl a.ns ∧
  WkO p a.wl ∧ (∀ v ∈ a.vs, SlotO p v) ∧ [a.kl, a.vl, a.hl, a.nl].Nodup := by unfold ArrR; exact Iff.rfl

section facts
variable (P : Params)
theorem f188g (x : Str) (h : x ∈ (["is_packed", "keys", "vals", "heads", "nexts", "size", "count", "next", "at", "is_shared", "walks"] : List Str)) : plainGet (Kt P) 188 x = true ∧ findIn (Kt P) (.ref 188) x = some none ∧ takerIn (Kt P) 188 x = some none := by
  simp only [List.mem_cons, List.not_mem_nil, or_false] at h
  rcases h with rfl | rfl | rfl | rfl | rfl | rfl | rfl | rfl | rfl | rfl | rfl <;> exact ⟨by kernel_rfl, by kernel_rfl, by kernel_rfl⟩
theorem f188h : hasDictIn (Kt P) 188 = true := by kernel_rfl
theorem f188s : findIn (Kt P) (.ref 188) "__setattr__" = some (some (.builtin "object.__setattr__")) := by kernel_rfl
theorem f188p : plainOver (Kt P) 188 = true := by kernel_rfl
end facts

section rules
variable {w : World} {H₀ : Heap} {o₀ : OsState} {A : Around} {s : Shared} {rs R : List Res} {env : Env}

theorem instAt_of {x : Addr} {a : Ad} {p : PH} {h : Heap} (hq : ∀ b o, p b = some o → h.get? b = some o) (hr : ArrR w.params x a p) : ∃ tk n, InstAt h x (instObj 188 a.d) 188 (some (dictOf (arrEs w.params tk a) n)) ∧ p a.d = some (dictOf (arrEs w.params tk a) n) := by
  obtain ⟨h1, ⟨tk, n, h2⟩, _⟩ := ArrR_def.mp hr
  exact ⟨tk, n, ⟨hq _ _ h1, rfl, rfl, hq _ _ h2⟩, h2⟩

theorem d_attr {x : Addr} {a : Ad} {name : Str} {v : Value} {ex : Bool} {Q : Value → Shared → Prop} (W : Wd w H₀) (S : St H₀ o₀ rs s) (hm : ArrR w.params x a ∈ rs)
    (hn : name ∈ (["is_packed", "keys", "vals", "heads", "nexts", "size", "count", "next", "at", "is_shared", "walks"] : List Str)) (hg : ∀ tk, getL name (arrEs w.params tk a) = some (some v)) (hv : handedIn v = true)
    (h : ∀ s', St H₀ o₀ rs s' → Q v s') : Does w A (getAttr (.ref x) name ex) Q s := by
  obtain ⟨q, hq, hr⟩ := S.get hm
  obtain ⟨tk, n, I, _⟩ := instAt_of hq hr
  obtain ⟨f1, f2, _⟩ := f188g w.params name hn
  exact get_value (W.inK S) I (plainGet_of f1).1 (findObj_own (f188h _) f2 rfl (hg tk)) hv (h _ (S.tok _))

theorem setattr_raw {K : Frag} {x C dx : Addr} {ox : Obj} {es : List DictEntry} {n : Nat} {name : Str} {v : Value} {E : Value → Shared → Prop} {prog : Program} {Q : Unit → Shared → Prop} (X : K.In s.heap) (I : InstAt s.heap x ox C (some (dictOf es n))) (hd : ox.dict = some dx)
    (hs : findIn K (.ref C) "__setattr__" = some (some (.builtin "object.__setattr__"))) (hp : plainOver K C = true) (ht : takerIn K C name = some none) (hh : hasDictIn K C = true) (hl : (getL name es).isSome = true) (hz : es.length < 900)
    (h : Q () { s with heap := s.heap.update dx (Obj.putName name (PyData.keyHash w.params name) (.str name (s.toks + 1)) v), toks := s.toks + 2 }) : wpAny (model prog w) A (setAttr (.ref x) name v) Q E s := by
  refine set_plain X I hs (osa_open (s := { s with toks := s.toks + 1 }) X I hp ht fun b => ?_)
  obtain ⟨cd, hc, hcd⟩ := any_some hh
  obtain ⟨hx, hcl, hn, hdd⟩ := I
  obtain ⟨oc, odi, oda, osl⟩ := ox
  dsimp only at hcl hd
  subst hcl hd
  dsimp only at hdd
  have hst : aRefKeyMayBeTheName name es.toArray = false := by
    rw [aRefKeyMayBeTheName_at, ← Array.any_toList, ← Array.any_toList]
    unfold getL at hl
    split at hl
    · rename_i e he
      rw [List.any_eq_true.mpr ⟨e, List.mem_of_find?_eq_some he, List.find?_some he⟩]; rfl
    · split at hl
      · cases hl
      · rename_i z; rw [Bool.not_eq_true] at z; rw [z, Bool.and_false]
  have hnew : (s.heap.update dx (Obj.putName name (PyData.keyHash w.params name) (.str name (s.toks + 1)) v)).get? dx = some (dictOf (putL name (PyData.keyHash w.params name) (.str name (s.toks + 1)) v es) (putN name es n)) := by
    rw [← putName_dict]
    exact Heap.get?_update_self _ hdd (by rw [putName_dict]; rfl)
  have hlen : (putL name (PyData.keyHash w.params name) (.str name (s.toks + 1)) v es).length ≤ es.length + 1 := by
    clear hnew hst hl hdd hz
    induction es with
    | nil => simp [putL]
    | cons e r ih => unfold putL; split <;> simp <;> omega
  refine wpAny_bind (wpAny_pure (wpAny_bind (wpAny_bind (wpAny_loadPart hx (wpAny_bind (looks_clsIn X hc _ _ _ _ (fun _ _ e => e) ?_))))))
  rw [hcd]
  refine wpAny_pure (a := some dx) (wpAny_bind (wpAny_pure (wpAny_bind ?_)))
  unfold nsSet
  refine wpAny_bind (wpAny_bind (wpAny_askSetting (wpAny_pure (wpAny_bind (wpAny_mkText (wpAny_bind (wpAny_loadPart hdd ?_)))))))
  dsimp only
  rw [hst]
  refine wpAny_updatePart hdd (wpAny_bind (wpAny_lookBehind hnew (pastItsLine_dict (by rw [List.size_toArray, sizeLine_eq]; omega)) ?_))
  exact wpAny_pure h

theorem up_ne {p : PH} {a b : Addr} {o : Obj} (h : b ≠ a) : (p.up a o) b = p b := if_neg h
theorem up_self {p : PH} {a : Addr} {o : Obj} : (p.up a o) a = some o := if_pos rfl
theorem ne_cls {p : PH} {a b : Addr} {o o' : Obj} (h1 : p a = some o) (h2 : p b = some o') (h : o.cls ≠ o'.cls) : a ≠ b := fun e => by
  subst e; rw [h1] at h2; exact h (by rw [Option.some.inj h2])
theorem LsO.up {p : PH} {l a : Addr} {vs : List Value} {o : Obj} (h : LsO p l vs) (n : l ≠ a) : LsO (p.up a o) l vs := let ⟨ob, e, k⟩ := h; ⟨ob, (up_ne n).trans e, k⟩
theorem LsO.mono {p q : PH} {l : Addr} {vs : List Value} (h : LsO p l vs) (n : p.le q) : LsO q l vs := let ⟨ob, e, k⟩ := h; ⟨ob, n _ _ e, k⟩
theorem SlotO.up {p : PH} {a : Addr} {v : Value} {o ob : Obj} (h : SlotO p v) (e : p a = some ob) (hc : ob.cls ≠ .ref 96) : SlotO (p.up a o) v := by
  rcases h with h | ⟨b, o1, rfl, h1, h2, h3⟩
  · exact .inl h
  · exact .inr ⟨b, o1, rfl, (up_ne (ne_cls h1 e (by rw [h2]; exact Ne.symm hc))).trans h1, h2, h3⟩
theorem SlotO.mono {p q : PH} {v : Value} (h : SlotO p v) (n : p.le q) : SlotO q v := by
  rcases h with h | ⟨b, o1, rfl, h1, h2, h3⟩
  · exact .inl h
  · exact .inr ⟨b, o1, rfl, n _ _ h1, h2, h3⟩

/-- a list of the array's turned in place -/
inductive WhichL | k | v | h | n
@[reducible] noncomputable def Ad.l (a : Ad) : WhichL → Addr | .k => a.kl | .v => a.vl | .h => a.hl | .n => a.nl
@[reducible] noncomputable def Ad.lv (a : Ad) : WhichL → List Value | .k => a.ks | .v => a.vs | .h => a.hs | .n => a.ns
@[reducible] noncomputable def Ad.put (a : Ad) : WhichL → List Value → Ad | .k, u => { a with ks := u } | .v, u => { a with vs := u } | .h, u => { a with hs := u } | .n, u => { a with ns := u }
theorem arr_ls {P : Params} {x : Addr} {a : Ad} {p : PH} (h : ArrR P x a p) (c : WhichL) : LsO p (a.l c) (a.lv c) := by
  obtain ⟨h1, h2, h3, h4, h5, h6, h7, h8, h9⟩ := ArrR_def.mp h
  cases c <;> assumption
theorem arr_put {P : Params} {x : Addr} {a : Ad} {p : PH} (h : ArrR P x a p) (c : WhichL) {o : Obj} {u : List Value} (ho : IsLs o u) (hv : c = .v → ∀ v ∈ u, SlotO p v) : ArrR P x (a.put c u) (p.up (a.l c) o) := by
  obtain ⟨ob, eb, kb, _⟩ := arr_ls h c
  obtain ⟨h1, ⟨tk, n, h2⟩, h3, h4, h5, h6, h7, h8, h9⟩ := ArrR_def.mp h
  have n1 : x ≠ a.l c := ne_cls h1 eb (by rw [kb]; simp)
  have n2 : a.d ≠ a.l c := ne_cls h2 eb (by rw [kb]; simp)
  have n3 : a.wl ≠ a.l c := by
    obtain ⟨⟨_, h7⟩, _⟩ := h7
    exact ne_cls h7 eb (by rw [kb]; simp)
  have hs : ∀ v, SlotO p v → SlotO (p.up (a.l c) o) v := fun v q => q.up eb (by rw [kb]; simp)
  simp only [List.nodup_cons, List.mem_cons, List.not_mem_nil, or_false, not_or, not_false_eq_true, List.nodup_nil, and_true] at h9
  obtain ⟨⟨m1, m2, m3⟩, ⟨m4, m5⟩, m6⟩ := h9
  refine ArrR_def.mpr ?_
  cases c with
  | k => exact ⟨(up_ne n1).trans h1, ⟨tk, n, (up_ne n2).trans h2⟩, ⟨o, up_self, ho⟩, h4.up (Ne.symm m1), h5.up (Ne.symm m2), h6.up (Ne.symm m3), ⟨let ⟨n', e'⟩ := h7.1; ⟨n', (up_ne n3).trans e'⟩, h7.2⟩, fun v q => hs v (h8 v q), by simp [Ad.put, m1, m2, m3, m4, m5, m6]⟩
  | v => exact ⟨(up_ne n1).trans h1, ⟨tk, n, (up_ne n2).trans h2⟩, h3.up m1, ⟨o, up_self, ho⟩, h5.up (Ne.symm m4), h6.up (Ne.symm m5), ⟨let ⟨n', e'⟩ := h7.1; ⟨n', (up_ne n3).trans e'⟩, h7.2⟩, fun v q => hs v (hv rfl v q), by simp [Ad.put, m1, m2, m3, m4, m5, m6]⟩
  | h => exact ⟨(up_ne n1).trans h1, ⟨tk, n, (up_ne n2).trans h2⟩, h3.up m2, h4.up m4, ⟨o, up_self, ho⟩, h6.up (Ne.symm m6), ⟨let ⟨n', e'⟩ := h7.1; ⟨n', (up_ne n3).trans e'⟩, h7.2⟩, fun v q => hs v (h8 v q), by simp [Ad.put, m1, m2, m3, m4, m5, m6]⟩
  | n => exact ⟨(up_ne n1).trans h1, ⟨tk, n, (up_ne n2).trans h2⟩, h3.up m3, h4.up m5, h5.up m6, ⟨o, up_self, ho⟩, ⟨let ⟨n', e'⟩ := h7.1; ⟨n', (up_ne n3).trans e'⟩, h7.2⟩, fun v q => hs v (h8 v q), by simp [Ad.put, m1, m2, m3, m4, m5, m6]⟩

theorem isList_of {h : Heap} {o : Obj} {l : Addr} {vs : List Value} (e : h.get? l = some o) (k : IsLs o vs) : h.IsList l vs.toArray := by obtain ⟨_, n, rfl⟩ := k; exact ⟨_, e, rfl, n, rfl⟩
theorem isLs (vs : List Value) (n : Nat) : IsLs (PySem.W.listOf vs.toArray n) vs := ⟨rfl, n, rfl⟩
/-- which resource holds a list -/
noncomputable def LIn (rs : List Res) (l : Addr) (vs : List Value) : Prop := ∃ r ∈ rs, ∀ p, r p → LsO p l vs
theorem LIn.arr {P : Params} {x : Addr} {a : Ad} (c : WhichL) (h : ArrR P x a ∈ rs) : LIn rs (a.l c) (a.lv c) := ⟨_, h, fun _ q => arr_ls q c⟩
theorem LIn.keys {P : Params} {x l : Addr} {a : Ad} (h : ArrR P x a ∈ rs) (hl : l = a.kl) : LIn rs l a.ks := hl ▸ LIn.arr .k h
theorem LIn.vals {P : Params} {x l : Addr} {a : Ad} (h : ArrR P x a ∈ rs) (hl : l = a.vl) : LIn rs l a.vs := hl ▸ LIn.arr .v h
theorem LIn.heads {P : Params} {x l : Addr} {a : Ad} (h : ArrR P x a ∈ rs) (hl : l = a.hl) : LIn rs l a.hs := hl ▸ LIn.arr .h h
theorem LIn.nexts {P : Params} {x l : Addr} {a : Ad} (h : ArrR P x a ∈ rs) (hl : l = a.nl) : LIn rs l a.ns := hl ▸ LIn.arr .n h
theorem LIn.ls {l : Addr} {vs : List Value} (h : LsR l vs ∈ rs) : LIn rs l vs := ⟨_, h, fun _ q => LsR_def.mp q⟩
theorem St.isList {l : Addr} {vs : List Value} (S : St H₀ o₀ rs s) (h : LIn rs l vs) : s.heap.IsList l vs.toArray := by
  obtain ⟨r, hr, f⟩ := h
  obtain ⟨q, hq, k⟩ := S.get hr
  obtain ⟨o, e, k⟩ := f q k
  exact isList_of (hq _ _ e) k

theorem St.lsExact {l : Addr} {vs : List Value} (S : St H₀ o₀ rs s) (h : LIn rs l vs) : ∃ n, s.heap.get? l = some (PySem.W.listOf vs.toArray n) := by
  obtain ⟨r, hr, f⟩ := h
  obtain ⟨q, hq, k⟩ := S.get hr
  obtain ⟨o, e, _, n, rfl⟩ := f q k
  exact ⟨n, hq _ _ e⟩
theorem ArrR.mono {P : Params} {x : Addr} {a : Ad} {p q : PH} (h : ArrR P x a p) (l : p.le q) : ArrR P x a q := by
  obtain ⟨h1, ⟨tk, n, h2⟩, h3, h4, h5, h6, h7, h8, h9⟩ := ArrR_def.mp h
  exact ArrR_def.mpr ⟨l _ _ h1, ⟨tk, n, l _ _ h2⟩, h3.mono l, h4.mono l, h5.mono l, h6.mono l, ⟨let ⟨n', e'⟩ := h7.1; ⟨n', l _ _ e'⟩, h7.2⟩, fun v hv => (h8 v hv).mono l, h9⟩
@[irreducible] noncomputable def AbsR (b : Addr) : Res := fun p => AbsO p (.ref b)
theorem AbsR_def {b : Addr} {p : PH} : AbsR b p ↔ AbsO p (.ref b) := by unfold AbsR; exact Iff.rfl
/-- the array's list is set to another content -/
theorem St.arrUpX {fr r : Res} {x : Addr} {a : Ad} {P : Params} (c : WhichL) {u : List Value} {n : Nat} {h' : Heap} {tk : Nat} (S : St H₀ o₀ (fr :: r :: R) s) (hr : ∀ q, r q → ArrR P x a q) (hl : h'.get? (a.l c) = some (PySem.W.listOf u.toArray n)) (hs : Heap.SameBut (a.l c) s.heap h')
    (hv : c = .v → ∀ q, r q → ∀ v ∈ u, SlotO q v) : St H₀ o₀ (fr :: ArrR P x (a.put c u) :: R) { s with heap := h', toks := tk } := by
  obtain ⟨q, hq, k0, hf⟩ := S.focus1
  obtain ⟨o, e, k⟩ := arr_ls (hr q k0) c
  exact hf _ (a.l c) o _ h' tk e hl hs (arr_put (hr q k0) c (isLs u n) fun hc => hv hc q k0)
theorem St.arrUp {fr : Res} {x : Addr} {a : Ad} {P : Params} (c : WhichL) {u : List Value} {n : Nat} {h' : Heap} {tk : Nat} (S : St H₀ o₀ (fr :: ArrR P x a :: R) s) (hl : h'.get? (a.l c) = some (PySem.W.listOf u.toArray n)) (hs : Heap.SameBut (a.l c) s.heap h')
    (hv : c = .v → ∀ q, ArrR P x a q → ∀ v ∈ u, SlotO q v) : St H₀ o₀ (fr :: ArrR P x (a.put c u) :: R) { s with heap := h', toks := tk } := S.arrUpX c (fun _ k => k) hl hs hv
theorem St.arrAbs {fr : Res} {x b : Addr} {a : Ad} {P : Params} (S : St H₀ o₀ (fr :: ArrR P x a :: AbsR b :: R) s) : St H₀ o₀ (fr :: (fun p => ArrR P x a p ∧ AbsO p (.ref b)) :: R) s :=
  (S.sw.sw12.join.conv fun p ⟨p1, p2, d, l1, l2, k1, p3, p4, d', l3, l4, k2, _⟩ => ⟨k1.mono l1, let ⟨y, o, e1, e2, e3⟩ := AbsR_def.mp k2; ⟨y, o, e1, l2 _ _ (l3 _ _ e2), e3⟩⟩).sw
theorem St.lsUp {fr : Res} {l : Addr} {vs u : List Value} {n : Nat} {h' : Heap} {tk : Nat} (S : St H₀ o₀ (fr :: LsR l vs :: R) s) (hl : h'.get? l = some (PySem.W.listOf u.toArray n)) (hs : Heap.SameBut l s.heap h') : St H₀ o₀ (fr :: LsR l u :: R) { s with heap := h', toks := tk } := by
  obtain ⟨q, hq, hr, hf⟩ := S.focus1
  obtain ⟨o, e, k⟩ := LsR_def.mp hr
  exact hf _ l o _ h' tk e hl hs (LsR_def.mpr ⟨_, up_self, isLs u n⟩)

abbrev arrNames : List Str := ["is_packed", "keys", "vals", "heads", "nexts", "size", "count", "next", "at", "is_shared", "walks"]
@[reducible] noncomputable def Ad.rep (a : Ad) : WhichL → Addr → List Value → Ad | .k, l, u => { a with kl := l, ks := u } | .v, l, u => { a with vl := l, vs := u } | .h, l, u => { a with hl := l, hs := u } | .n, l, u => { a with nl := l, ns := u }
@[reducible] noncomputable def WhichL.nm : WhichL → Str | .k => "keys" | .v => "vals" | .h => "heads" | .n => "nexts"
theorem arr_getL (P : Params) (tk : Nat → Tok) (a : Ad) {name : Str} (hn : name ∈ arrNames) : (getL name (arrEs P tk a)).isSome = true := by
  simp only [List.mem_cons, List.not_mem_nil, or_false] at hn
  rcases hn with rfl | rfl | rfl | rfl | rfl | rfl | rfl | rfl | rfl | rfl | rfl <;> rfl
theorem setArr_core {fr r r' : Res} {x : Addr} {a : Ad} {name : Str} {v : Value} {Q : Unit → Shared → Prop} (W : Wd w H₀) (S : St H₀ o₀ (fr :: r :: R) s) (hn : name ∈ arrNames)
    (hr : ∀ q, r q → ∃ q0, PH.le q0 q ∧ ArrR w.params x a q0)
    (hr' : ∀ q tk n key, r q → q a.d = some (dictOf (arrEs w.params tk a) n) → r' (q.up a.d (dictOf (putL name (PyData.keyHash w.params name) key v (arrEs w.params tk a)) (putN name (arrEs w.params tk a) n))))
    (h : ∀ s', St H₀ o₀ (fr :: r' :: R) s' → Q () s') : Does w A (setAttr (.ref x) name v) Q s := by
  obtain ⟨q, hq, k, hf⟩ := S.focus1
  obtain ⟨q0, l0, k0⟩ := hr q k
  obtain ⟨tk, n, I, hd⟩ := instAt_of (fun b o e => hq _ _ (l0 b o e)) k0
  obtain ⟨_, _, f3⟩ := f188g w.params name hn
  have hd0 := l0 _ _ hd
  refine setattr_raw (W.inK S) I rfl (f188s _) (f188p _) f3 (f188h _) (arr_getL _ _ _ hn) (by simp [arrEs]) (h _ (hf _ a.d _ (dictOf (putL name (PyData.keyHash w.params name) (.str name (s.toks + 1)) v (arrEs w.params tk a)) (putN name (arrEs w.params tk a) n)) _ _ hd0 ?_ (Heap.SameBut.update ..) (hr' q tk n (.str name (s.toks + 1)) k hd0)))
  rw [← putName_dict]
  exact Heap.get?_update_self _ (hq _ _ hd0) (by rw [putName_dict]; rfl)

structure SameLs (a a' : Ad) : Prop where
  d : a'.d = a.d
  kl : a'.kl = a.kl
  vl : a'.vl = a.vl
  hl : a'.hl = a.hl
  nl : a'.nl = a.nl
  wl : a'.wl = a.wl
  ks : a'.ks = a.ks
  vs : a'.vs = a.vs
  hs : a'.hs = a.hs
  ns : a'.ns = a.ns
theorem d_setattr {fr : Res} {x : Addr} {a : Ad} (a' : Ad) {name : Str} {v : Value} {Q : Unit → Shared → Prop} (W : Wd w H₀) (S : St H₀ o₀ (fr :: ArrR w.params x a :: R) s) (hn : name ∈ arrNames)
    (hp : ∀ P tk key, putL name (PyData.keyHash P name) key v (arrEs P tk a) = arrEs P tk a') (e : SameLs a a')
    (h : ∀ s', St H₀ o₀ (fr :: ArrR w.params x a' :: R) s' → Q () s') : Does w A (setAttr (.ref x) name v) Q s := by
  refine setArr_core W S hn (fun q k => ⟨q, PH.le_refl _, k⟩) (fun q tk n key k hd => ?_) h
  rw [hp]
  obtain ⟨h1, -, ⟨k1, k2, k3⟩, ⟨v1, v2, v3⟩, ⟨g1, g2, g3⟩, ⟨n1, n2, n3⟩, h7, h8, h9⟩ := ArrR_def.mp k
  refine ArrR_def.mpr ?_
  rw [e.d, e.kl, e.vl, e.hl, e.nl, e.wl, e.ks, e.vs, e.hs, e.ns]
  have nd : ∀ {b : Addr} {o : Obj} {p : Prop}, q b = some o → o.cls ≠ .type "dict" → b ≠ a.d := fun h1 h2 => ne_cls h1 hd h2
  have hwd : a.wl ≠ a.d := fun e => by
    obtain ⟨⟨_, h7⟩, _⟩ := h7
    rw [e, hd] at h7
    simp [arrEs] at h7
  refine ⟨(up_ne (ne_cls h1 hd (by simp))).trans h1, ⟨tk, _, up_self⟩, LsO.up ⟨k1, k2, k3⟩ (ne_cls k2 hd (by rw [k3.1]; simp)), LsO.up ⟨v1, v2, v3⟩ (ne_cls v2 hd (by rw [v3.1]; simp)), LsO.up ⟨g1, g2, g3⟩ (ne_cls g2 hd (by rw [g3.1]; simp)), LsO.up ⟨n1, n2, n3⟩ (ne_cls n2 hd (by rw [n3.1]; simp)), ⟨let ⟨n', e'⟩ := h7.1; ⟨n', (up_ne hwd).trans e'⟩, h7.2⟩, fun v hv => (h8 v hv).up hd (by simp), h9⟩

theorem d_setlist {fr r2 : Res} {x : Addr} {a : Ad} (c : WhichL) {l : Addr} {u : List Value} {Q : Unit → Shared → Prop} (W : Wd w H₀) (S : St H₀ o₀ (fr :: ArrR w.params x a :: r2 :: R) s) (h2 : ∀ q, r2 q → LsO q l u)
    (hv : c = .v → ∀ q q', ArrR w.params x a q → r2 q' → ∀ v ∈ u, SlotO q v ∨ SlotO q' v)
    (h : ∀ s', St H₀ o₀ (fr :: ArrR w.params x (a.rep c l u) :: R) s' → Q () s') : Does w A (setAttr (.ref x) c.nm (.ref l)) Q s := by
  have S1 : St H₀ o₀ (fr :: Two (ArrR w.params x a) r2 :: R) s := S.sw.sw12.join.sw
  refine setArr_core (a := a) W S1 (by cases c <;> simp [WhichL.nm]) (fun q ⟨p1, p2, d, l1, l2, k1, k2⟩ => ⟨p1, l1, k1⟩) (fun q tk n key ⟨p1, p2, d, l1, l2, k1, p3, p4, d', l3, l4, k2, _⟩ hd => ?_) h
  obtain ⟨h1, ⟨tk1, m1, hd1⟩, kL, vL, gL, nL, h7, h8, h9⟩ := ArrR_def.mp k1
  have L2 := h2 _ k2
  have dd : PH.dj p1 p3 := d.mono (PH.le_refl _) l3
  have no : ∀ {b : Addr} {us : List Value}, LsO p1 b us → b ≠ l := fun ⟨o, e, _⟩ q => by
    obtain ⟨o', e', _⟩ := L2
    rcases dd _ with z | z
    · rw [e] at z; cases z
    · rw [q, e'] at z; cases z
  have up1 : ∀ {b : Addr} {us : List Value} {o : Obj}, LsO p1 b us → LsO (q.up a.d o) b us := fun h => by
    have ⟨ob, e, k⟩ := h
    exact (h.mono l1).up (ne_cls (l1 _ _ e) hd (by rw [k.1]; simp))
  have up2 : ∀ {o : Obj}, LsO (q.up a.d o) l u := by
    intro o
    have ⟨ob, e, k⟩ := L2
    exact (L2.mono (l3.trans l2)).up (ne_cls (l2 _ _ (l3 _ _ e)) hd (by rw [k.1]; simp))
  have hw : a.wl ≠ a.d := fun e => by
    obtain ⟨⟨_, h7⟩, _⟩ := h7
    rw [e, hd1] at h7
    simp [arrEs] at h7
  have hsl : ∀ {o : Obj}, ∀ v ∈ (a.rep c l u).vs, SlotO (q.up a.d o) v := by
    intro o v hm
    refine SlotO.up ?_ hd (by simp)
    cases c with
    | v => rcases hv rfl _ _ k1 k2 v hm with z | z
           · exact z.mono l1
           · exact z.mono (l3.trans l2)
    | k | h | n => exact (h8 v hm).mono l1
  have n2 := no kL
  have n3 := no vL
  have n4 := no gL
  have n5 := no nL
  simp only [List.nodup_cons, List.mem_cons, List.not_mem_nil, or_false, not_or, not_false_eq_true, List.nodup_nil, and_true] at h9
  obtain ⟨⟨m1, m2, m3⟩, ⟨m4, m5⟩, m6⟩ := h9
  refine ArrR_def.mpr ?_
  have base : (q.up a.d (dictOf (putL c.nm (PyData.keyHash w.params c.nm) key (.ref l) (arrEs w.params tk a)) (putN c.nm (arrEs w.params tk a) n))) x = some (instObj 188 a.d) := (up_ne (ne_cls (l1 _ _ h1) hd (by simp))).trans (l1 _ _ h1)
  have bw : WkO (q.up a.d (dictOf (putL c.nm (PyData.keyHash w.params c.nm) key (.ref l) (arrEs w.params tk a)) (putN c.nm (arrEs w.params tk a) n))) a.wl := ⟨let ⟨n', e'⟩ := h7.1; ⟨n', (up_ne hw).trans (l1 _ _ e')⟩, h7.2⟩
  have hs0 := @hsl (dictOf (putL c.nm (PyData.keyHash w.params c.nm) key (.ref l) (arrEs w.params tk a)) (putN c.nm (arrEs w.params tk a) n))
  cases c with
  | k => exact ⟨base, ⟨tk, _, up_self⟩, up2, up1 vL, up1 gL, up1 nL, bw, hs0, by simp [Ad.rep, Ne.symm n3, Ne.symm n4, Ne.symm n5, m4, m5, m6]⟩
  | v => exact ⟨base, ⟨tk, _, up_self⟩, up1 kL, up2, up1 gL, up1 nL, bw, hs0, by simp [Ad.rep, n2, Ne.symm n4, Ne.symm n5, m2, m3, m6]⟩
  | h => exact ⟨base, ⟨tk, _, up_self⟩, up1 kL, up1 vL, up2, up1 nL, bw, hs0, by simp [Ad.rep, n2, n3, Ne.symm n5, m1, m3, m5]⟩
  | n => exact ⟨base, ⟨tk, _, up_self⟩, up1 kL, up1 vL, up1 gL, up2, bw, hs0, by simp [Ad.rep, n2, n3, n4, m1, m2, m4]⟩

/-! ### lists read and turned -/
theorem d_len {l : Addr} {vs : List Value} {Q : Value → Shared → Prop} (S : St H₀ o₀ rs s) (hm : LIn rs l vs) (hz : vs.length < 2 ^ 63) (h : ∀ t s', St H₀ o₀ rs s' → Q (.int vs.length t) s') : Does w A (call (.builtin "len") [.ref l]) Q s := by
  refine len_list (S.isList hm) (by rw [List.size_toArray]; exact_mod_cast hz) ?_
  rw [List.size_toArray]
  exact h _ _ (S.tok _)
theorem d_item {value slice : PySem.Expr} {l : Addr} {vs : List Value} {k : Int} {t : Tok} {v : Value} {Q : Value → Shared → Prop} (S : St H₀ o₀ rs s) (hm : LIn rs l vs) (h0 : 0 ≤ k) (hz : k < 2 ^ 63) (hv : vs[k.toNat]? = some v) (h : Q v s)
    (hs : subscripted slice false (.ref l) (.int k t) = operate [.ref l, .int k t] (getItem (.ref l) (.int k t))) : Does w A (subscriptTail value slice (.ref l) (.int k t)) Q s :=
  tail_any (S.isList hm).typeIs slot_list_getitem.lookup (wpAny_getItem_list (S.isList hm) h0 hz (by simpa using hv) h) hs
theorem d_itemneg {value slice : PySem.Expr} {l : Addr} {vs : List Value} {t : Tok} {v : Value} {Q : Value → Shared → Prop} (S : St H₀ o₀ rs s) (hm : LIn rs l vs) (hv : vs.getLast? = some v) (h : Q v s)
    (hs : subscripted slice false (.ref l) (.int (-1) t) = operate [.ref l, .int (-1) t] (getItem (.ref l) (.int (-1) t))) : Does w A (subscriptTail value slice (.ref l) (.int (-1) t)) Q s :=
  have hne : vs ≠ [] := fun e => by rw [e] at hv; cases hv
  have hlen : 0 < vs.length := List.length_pos_iff.mpr hne
  tail_any (S.isList hm).typeIs slot_list_getitem.lookup (wpAny_getItem_list_neg (S.isList hm) (by decide) (by rw [List.size_toArray]; omega) (by decide) (by
    rw [List.size_toArray, show ((-1 : Int) + (vs.length : Int)).toNat = vs.length - 1 by omega]
    rw [List.getLast?_eq_getElem?] at hv
    simpa using hv) h) hs
theorem d_lmeth {name : Str} {id : String} {pl : Sem Bool} {l : Addr} {vs : List Value} {Q : Value × List Value → Shared → Prop} (S : St H₀ o₀ rs s) (hm : LIn rs l vs) (slot : Slot "list" name id) (hty : typeOf (.builtin id) = pure (.type "method_descriptor"))
    (h : Q (.builtin id, [.ref l]) s) : Does w A (getMethod (.ref l) name pl) Q s := by
  obtain ⟨n, e⟩ := S.lsExact hm
  exact getMethod_builtin ⟨_, e, rfl⟩ PySem.F.plainAttrs_list slot hty (fun a e' => by cases e'; exact ⟨_, e, rfl⟩) h
theorem mapSeq_at {h : Heap} {l : Addr} {vs us : List Value} {n : Nat} (e : h.get? l = some (PySem.W.listOf vs.toArray n)) (f : Array Value → Array Value) (hf : f vs.toArray = us.toArray) : ∃ n', (h.update l (Obj.mapSeq f)).get? l = some (PySem.W.listOf us.toArray n') := by
  have q := PySem.IsL.update e f
  rw [hf] at q
  exact ⟨_, q⟩
theorem d_append {fr r : Res} {x : Addr} {a : Ad} (c : WhichL) {v : Value} {Q : Value → Shared → Prop} (S : St H₀ o₀ (fr :: r :: R) s) (hr : ∀ q, r q → ArrR w.params x a q) (hv : c = .v → ∀ q, r q → SlotO q v) (hz : (a.lv c).length ≤ sizeLine)
    (h : ∀ s', St H₀ o₀ (fr :: ArrR w.params x (a.put c (a.lv c ++ [v])) :: R) s' → Q .none s') {l : Addr} (hl : l = a.l c := by rfl) : Does w A (call (.builtin "list.append") [.ref l, v]) Q s := by
  subst hl
  obtain ⟨n, e⟩ := S.lsExact (l := a.l c) (vs := a.lv c) ⟨r, .tail _ (.head _), fun q k => arr_ls (hr q k) c⟩
  refine append_at e (fun h' hs he => h _ (S.arrUpX (n := n + 1) (tk := s.toks) c hr (by rw [he]; simp) hs fun hc q k u hu => ?_)) (by rw [List.size_toArray]; exact hz)
  rcases List.mem_append.mp hu with hu | hu
  · subst hc; exact (ArrR_def.mp (hr q k)).2.2.2.2.2.2.2.1 u hu
  · rw [List.mem_singleton.mp hu]; exact hv hc q k
theorem d_appendL {fr : Res} {l : Addr} {vs : List Value} {v : Value} {Q : Value → Shared → Prop} (S : St H₀ o₀ (fr :: LsR l vs :: R) s) (hz : vs.length ≤ sizeLine)
    (h : ∀ s', St H₀ o₀ (fr :: LsR l (vs ++ [v]) :: R) s' → Q .none s') : Does w A (call (.builtin "list.append") [.ref l, v]) Q s := by
  obtain ⟨n, e⟩ := S.lsExact (LIn.ls (.tail _ (.head _)))
  exact append_at e (fun h' hs he => h _ (S.lsUp (n := n + 1) (tk := s.toks) (by rw [he]; simp) hs)) (by rw [List.size_toArray]; exact hz)
theorem d_setItem {fr r : Res} {x : Addr} {a : Ad} (c : WhichL) {k : Int} {t : Tok} {v : Value} {Q : Unit → Shared → Prop} (S : St H₀ o₀ (fr :: r :: R) s) (hr : ∀ q, r q → ArrR w.params x a q) (hv : c = .v → ∀ q, r q → SlotO q v) (h0 : 0 ≤ k) (hz : k < 2 ^ 63) (hk : k < (a.lv c).length)
    (h : ∀ s', St H₀ o₀ (fr :: ArrR w.params x (a.put c ((a.lv c).set k.toNat v)) :: R) s' → Q () s') {l : Addr} (hl : l = a.l c := by rfl) : Does w A (setItem (.ref l) (.int k t) v) Q s := by
  subst hl
  obtain ⟨n, e⟩ := S.lsExact (l := a.l c) (vs := a.lv c) ⟨r, .tail _ (.head _), fun q k => arr_ls (hr q k) c⟩
  obtain ⟨n', e'⟩ := mapSeq_at (us := (a.lv c).set k.toNat v) e (fun x => x.setIfInBounds k.toNat v) (by simp)
  refine ki_setAt e h0 hz (by rw [List.size_toArray]; exact hk) (h _ (S.arrUpX (tk := s.toks) c hr e' (Heap.SameBut.update ..) fun hc q k0 u hu => ?_))
  rcases List.mem_or_eq_of_mem_set hu with hu | hu
  · subst hc; exact (ArrR_def.mp (hr q k0)).2.2.2.2.2.2.2.1 u hu
  · rw [hu]; exact hv hc q k0
theorem d_pop {fr : Res} {x : Addr} {a : Ad} (c : WhichL) {us : List Value} {v : Value} {Q : Value → Shared → Prop} (S : St H₀ o₀ (fr :: ArrR w.params x a :: R) s) (hv : a.lv c = us ++ [v]) (hz : us.length < sizeLine)
    (h : ∀ s', St H₀ o₀ (fr :: ArrR w.params x (a.put c us) :: R) s' → Q v s') {l : Addr} (hl : l = a.l c := by rfl) : Does w A (call (.builtin "list.pop") [.ref l]) Q s := by
  subst hl
  obtain ⟨n, e⟩ := S.lsExact (LIn.arr c (.tail _ (.head _)))
  rw [hv] at e
  have hsz : (us ++ [v]).toArray.size = us.length + 1 := by simp
  have hy : (us ++ [v]).toArray[(us ++ [v]).toArray.size - 1]? = some v := by rw [hsz]; simp
  obtain ⟨n', e'⟩ := mapSeq_at (us := us) e (fun xs => xs.eraseIdxIfInBounds ((us ++ [v]).toArray.size - 1)) (by
    rw [hsz]
    have := kl_erase us [] v
    rw [List.append_nil] at this
    exact this)
  refine call_meets PySem.F.slot_list_pop ⟨_, e, rfl⟩ PySem.F.entry_list_pop (PySem.F.args_list_pop_1 _) (PySem.MeetsSeq.list_pop_last _ _ n v hy (by rw [hsz]; omega)) ⟨e, h _ (S.arrUp (tk := s.toks) c e' (Heap.SameBut.update ..) fun hc q k u hu => ?_)⟩
  subst hc
  exact (ArrR_def.mp k).2.2.2.2.2.2.2.1 u (by show u ∈ a.lv .v; rw [hv]; exact List.mem_append_left _ hu)
end rules


section rules
variable {w : World} {H₀ : Heap} {o₀ : OsState} {A : Around} {s : Shared} {rs R : List Res} {env : Env}

/-! ### names -/
theorem Wd.glob {x : Str} {v : Value} {pos : Pos} {Q : Value → Shared → Prop} (W : Wd w H₀) (S : St H₀ o₀ rs s) (e : nsIn (KK w) mainGlobals x = some (some v)) (h : Q v s)
    (hg : env.globals = mainGlobals) (hk : env.scope.kind = .function) (hx : env.kindOf x = some .globalImplicit) (hd : (x == ("__debug__" : Str)) = false) : Does w A (eval (.Name x pos) env) Q s := by
  obtain ⟨p, loose, mg, mb, T⟩ := W.T
  exact Name_function_global hk hx (loadGlobal_global (env := env) (by rw [hg]; exact T.g.keeps S.base) (mg_of W.X T.g e) h) hd
theorem Wd.bltn {x : Str} {v : Value} {pos : Pos} {Q : Value → Shared → Prop} (W : Wd w H₀) (S : St H₀ o₀ rs s) (e : nsIn (KK w) mainGlobals x = some none) (hb : bootBuiltins x = some v) (hn : x ≠ "__name__") (h : Q v s)
    (hg : env.globals = mainGlobals) (hbn : env.builtins = builtinsNs) (hk : env.scope.kind = .function) (hx : env.kindOf x = some .globalImplicit) (hd : (x == ("__debug__" : Str)) = false) : Does w A (eval (.Name x pos) env) Q s := by
  obtain ⟨p, loose, mg, mb, T⟩ := W.T
  exact Name_function_global hk hx (loadGlobal_builtin (env := env) (by rw [hg]; exact T.g.keeps S.base) (mg_none_of W.X T.g e) (by rw [hbn]; exact T.b.keeps S.base) ((T.builtins x hn).trans hb) h) hd
theorem d_cell {x : Str} {pos : Pos} {c : Addr} {v : Value} {Q : Value → Shared → Prop} (S : St H₀ o₀ rs s) (hm : CellR c v ∈ rs) (hc : env.cells.lookup x = some c)
    (hk : env.scope.kind = .function) (hl : env.kindOf x = some .cell) (h : Q v s) (hd : (x == ("__debug__" : Str)) = false) : Does w A (eval (.Name x pos) env) Q s := by
  obtain ⟨q, hq, hr⟩ := S.get hm
  obtain ⟨o, h1, h2⟩ := CellR_def.mp hr
  exact wpAny_Name (wpAny_loadName_cell hk hl hc ⟨o, hq _ _ h1, h2⟩ h) hd

/-! ### what is behind, as one letter -/
structure Po {α : Type} (Q K : α → Shared → Prop) : Prop where
  on : ∀ a s, Q a s → K a s
theorem p_on {α : Type} {Q K : α → Shared → Prop} {a : α} (H : Po Q K) (h : Q a s) : K a s := H.on a s h
theorem g_po {α : Type} {Q : α → Shared → Prop} {X : (α → Shared → Prop) → Prop} (h : ∀ K, Po Q K → X K) : ∀ K, Po Q K → X K := h
theorem d_po {α : Type} {t : Sem α} {Q : α → Shared → Prop} (h : ∀ K, Po Q K → Does w A t K s) : Does w A t Q s := h Q ⟨fun _ _ h => h⟩
/-! ### statements -/
inductive WlOk (I : Nat → Shared → Prop) (n : Nat) (s : Shared) : Prop
  | mk (m : Nat) (h : m < n) (i : I m s) : WlOk I n s
theorem d_while {test : Expr} {body orelse : List Stmt} {pos : Pos} {Q : Flow → Shared → Prop} (hA : A.handled = none) (I : Nat → Shared → Prop) (n : Nat) (h0 : I n s)
    (turn : ∀ n s, I n s → ∀ K : Flow → Shared → Prop, Po (fun f s₃ => match f with | .next => WlOk I n s₃ | .cont => WlOk I n s₃ | .brk => Q .next s₃ | .ret v => Q (.ret v) s₃) K → Does w A (isTrue test env (eval test env)) (fun b s₂ => if b = true then
      Does w A (execs body env) K s₂ else Does w A (execs orelse env) Q s₂) s) : Does w A (exec (.While test body orelse pos) env) Q s := by
  replace turn : ∀ n s, I n s → Does w A (isTrue test env (eval test env)) (fun b s₂ => if b = true then
      Does w A (execs body env) (fun f s₃ => match f with | .next => ∃ m, m < n ∧ I m s₃ | .cont => ∃ m, m < n ∧ I m s₃ | .brk => Q .next s₃ | .ret v => Q (.ret v) s₃) s₂
      else Does w A (execs orelse env) Q s₂) s := fun n s hI => turn n s hI _ ⟨fun f s h => by cases f with
        | next => exact let ⟨m, a, b⟩ := h; ⟨m, a, b⟩
        | cont => exact let ⟨m, a, b⟩ := h; ⟨m, a, b⟩
        | brk => exact h
        | ret v => exact h⟩
  refine wpAny_While (codeAny_whileLoop I (fun n s hI => ?_) n h0)
  refine wpAny_mono (turn n s hI) (fun b s₂ h => ?_) fun _ _ x => x.elim
  cases b with
  | true => exact wpAny_mono h (fun _ _ x => x) fun _ _ x => x.elim
  | false => exact wpAny_mono h (fun _ _ x => x) fun _ _ x => x.elim
theorem d_boolop {op : PySem.BoolOp} {values : List Expr} {pos : Pos} {Q : Value → Shared → Prop} (h : Does w A (boolOp pos op (evalEach values env)) Q s) : Does w A (eval (.BoolOp op values pos) env) Q s := h
theorem d_bool1 {op : PySem.BoolOp} {x : Sem Value} {pos : Pos} {Q : Value → Shared → Prop} (h : Does w A x Q s) : Does w A (boolOp pos op [x]) Q s := h
theorem d_boolL {op : PySem.BoolOp} {e : Expr} {pos : Pos} {Q : Value → Shared → Prop} (h : Does w A (eval e env) Q s) : Does w A (boolOp pos op (evalEach [e] env)) Q s := h
theorem d_boolAnd {e e2 : Expr} {r : List Expr} {pos : Pos} {Q : Value → Shared → Prop} (h : Does w A (eval e env) (fun v s₁ => Does w A (truthy v) (fun t s₂ => if t = true then Does w A (boolOp pos .And (evalEach (e2 :: r) env)) Q s₂ else Q v s₂) s₁) s) :
    Does w A (boolOp pos .And (evalEach (e :: e2 :: r) env)) Q s := by
  show Does w A (eval e env >>= fun v => standAt pos >>= fun _ => holding [v] (truthy v) >>= fun t => match PySem.BoolOp.And, t with | .And, false | .Or, true => Pure.pure v | _, _ => boolOp pos .And (evalEach (e2 :: r) env)) Q s
  refine wpAny_bind (wpAny_mono h (fun v s₁ h => wpAny_bind (wpAny_standAt (wpAny_bind (wpAny_holding (wpAny_mono h (fun t s₂ h => ?_) fun _ _ x => x))))) fun _ _ x => x)
  cases t with
  | true => exact h
  | false => exact wpAny_pure h
theorem d_boolOr {e e2 : Expr} {r : List Expr} {pos : Pos} {Q : Value → Shared → Prop} (h : Does w A (eval e env) (fun v s₁ => Does w A (truthy v) (fun t s₂ => if t = true then Q v s₂ else Does w A (boolOp pos .Or (evalEach (e2 :: r) env)) Q s₂) s₁) s) :
    Does w A (boolOp pos .Or (evalEach (e :: e2 :: r) env)) Q s := by
  show Does w A (eval e env >>= fun v => standAt pos >>= fun _ => holding [v] (truthy v) >>= fun t => match PySem.BoolOp.Or, t with | .And, false | .Or, true => Pure.pure v | _, _ => boolOp pos .Or (evalEach (e2 :: r) env)) Q s
  refine wpAny_bind (wpAny_mono h (fun v s₁ h => wpAny_bind (wpAny_standAt (wpAny_bind (wpAny_holding (wpAny_mono h (fun t s₂ h => ?_) fun _ _ x => x))))) fun _ _ x => x)
  cases t with
  | false => exact h
  | true => exact wpAny_pure h

theorem d_chainL {pos : Pos} {a : Value} {op : CmpOp} {r : Sem Value} {Q : Value → Shared → Prop} (h : Does w A r (fun b s₁ => Does w A (compareOp op a b) Q s₁) s) : Does w A (compareChain pos a [op] (r :: evalEach [] env)) Q s := chain_last h
theorem d_testL {pos : Pos} {a : Value} {op : CmpOp} {r : Sem Value} {Q : Bool → Shared → Prop} (h : Does w A r (fun b s₁ => Does w A (compareOp op a b) (fun c s₂ => Does w A (truthy c) Q s₂) s₁) s) : Does w A (testChain pos a [op] (r :: evalEach [] env)) Q s := by
  show wpAny _ A (holding [a] r >>= fun rv => standAt pos >>= fun _ => operate [a, rv] (compareOp op a rv) >>= fun c => holding [c] (truthy c)) _ _ s
  refine wpAny_bind (wpAny_holding (wpAny_mono h (fun b s₁ h₁ => wpAny_bind (wpAny_standAt (wpAny_bind (wpAny_operate' (wpAny_mono h₁ (fun c s₂ h₂ => wpAny_holding h₂) fun _ _ x => x))))) fun _ _ x => x))
theorem d_testN {pos : Pos} {a : Value} {op op' : CmpOp} {ops : List CmpOp} {r r' : Sem Value} {rs : List (Sem Value)} {Q : Bool → Shared → Prop}
    (h : Does w A r (fun b s₁ => Does w A (compareOp op a b) (fun c s₂ => Does w A (truthy c) (fun t s₃ => if t = true then Does w A (testChain pos b (op' :: ops) (r' :: rs)) Q s₃ else Q false s₃) s₂) s₁) s) :
    Does w A (testChain pos a (op :: op' :: ops) (r :: r' :: rs)) Q s := by
  show wpAny _ A (do
    let rv ← holding [a] r
    standAt pos
    let c ← holding [a, rv] (compareOp op a rv)
    release [a, rv] [c]
    if ← holding [c, rv] (truthy c) then testChain pos rv (op' :: ops) (r' :: rs) else Pure.pure false) _ _ s
  refine wpAny_bind (wpAny_holding (wpAny_mono h (fun b s₁ h₁ => wpAny_bind (wpAny_standAt (wpAny_bind (wpAny_holding (wpAny_mono h₁ (fun c s₂ h₂ =>
    wpAny_bind (wpAny_release' (wpAny_bind (wpAny_holding (wpAny_mono h₂ (fun t s₃ h₃ => ?_) fun _ _ x => x))))) fun _ _ x => x))))) fun _ _ x => x))
  cases t with
  | false => exact wpAny_pure h₃
  | true => exact h₃

/-! ### calls -/
/-- some state stands here -/
noncomputable def Cur (H₀ : Heap) (s : Shared) : Prop := ∀ a o, H₀.get? a = some o → s.heap.get? a = some o
theorem St.cur (S : St H₀ o₀ rs s) : Cur H₀ s := S.base
theorem d_callRef {id : Str} {p pos : Pos} {e : Expr} {es : List Expr} {f : Addr} {Q : Value → Shared → Prop} (W : Wd w H₀) (S : St H₀ o₀ rs s) (hg : nsIn (KK w) mainGlobals id = some (some (.ref f))) (hkp : keepIn (KK w) (.ref f) = true)
    (h : Does w A (spliced (backTo pos (starEach (e :: es) env))) (fun vs s₁ => Cur H₀ s₁ ∧ Does w A (call (.ref f) vs) Q s₁) s)
    (hgl : env.globals = mainGlobals) (hk : env.scope.kind = .function) (hx : env.kindOf id = some .globalImplicit) (hd : (id == ("__debug__" : Str)) = false)
    (he : starEach (e :: es) env = (false, eval e env) :: starEach es env) (hplain : (backTo pos (starEach es env)).any (·.1) = false) : Does w A (eval (.Call (.Name id p) (e :: es) [] pos) env) Q s := by
  refine wpAny_Call_Name_kw (W.glob S hg ?_ hgl hk hx hd)
  exact callWith_K (W.inK S) hkp (wpAny_mono h (fun vs s₁ h => ⟨W.X.keeps h.1, h.2⟩) fun _ _ x => x) he hplain
theorem d_callRef0 {id : Str} {p pos : Pos} {f : Addr} {Q : Value → Shared → Prop} (W : Wd w H₀) (S : St H₀ o₀ rs s) (hg : nsIn (KK w) mainGlobals id = some (some (.ref f))) (hkp : keepIn (KK w) (.ref f) = true)
    (h : Does w A (call (.ref f) []) Q s)
    (hgl : env.globals = mainGlobals) (hk : env.scope.kind = .function) (hx : env.kindOf id = some .globalImplicit) (hd : (id == ("__debug__" : Str)) = false) : Does w A (eval (.Call (.Name id p) [] [] pos) env) Q s := by
  refine wpAny_Call_Name_kw (W.glob S hg ?_ hgl hk hx hd)
  exact callWith_K0 (W.inK S) hkp h
theorem d_callB {id : Str} {i : String} {p pos : Pos} {e : Expr} {es : List Expr} {Q : Value → Shared → Prop} (W : Wd w H₀) (S : St H₀ o₀ rs s) (hg : nsIn (KK w) mainGlobals id = some none) (hb : bootBuiltins id = some (.builtin i)) (hn : id ≠ "__name__")
    (h : Does w A (spliced (backTo pos (starEach (e :: es) env))) (fun vs s₁ => Does w A (call (.builtin i) vs) Q s₁) s)
    (hgl : env.globals = mainGlobals) (hbn : env.builtins = builtinsNs) (hk : env.scope.kind = .function) (hx : env.kindOf id = some .globalImplicit) (hd : (id == ("__debug__" : Str)) = false)
    (he : starEach (e :: es) env = (false, eval e env) :: starEach es env) (hplain : (backTo pos (starEach es env)).any (·.1) = false) : Does w A (eval (.Call (.Name id p) (e :: es) [] pos) env) Q s := by
  refine wpAny_Call_Name_kw (W.bltn S hg hb hn ?_ hgl hbn hk hx hd)
  rw [he] at h ⊢
  exact callWith_builtin (by show (false || (backTo pos (starEach es env)).any (·.1)) = false; rw [hplain]; rfl) (evalArgs_plain h)

theorem d_args1 {pos : Pos} {e : Expr} {Q : List Value → Shared → Prop} (h : Does w A (eval e env) (fun v s₁ => Q [v] s₁) s) (he : starEach [e] env = (false, eval e env) :: starEach [] env) : Does w A (spliced (backTo pos (starEach [e] env))) Q s :=
  wpAny_items_cons (wpAny_mono h (fun v s₁ h => wpAny_items_nil h) fun _ _ x => x) he
theorem d_args2 {pos : Pos} {e e2 : Expr} {Q : List Value → Shared → Prop} (h : Does w A (eval e env) (fun v s₁ => Does w A (eval e2 env) (fun u s₂ => Q [v, u] s₂) s₁) s)
    (he : starEach [e, e2] env = (false, eval e env) :: starEach [e2] env) (he2 : starEach [e2] env = (false, eval e2 env) :: starEach [] env) : Does w A (spliced (backTo pos (starEach [e, e2] env))) Q s :=
  wpAny_items_cons (wpAny_mono h (fun v s₁ h => d_args1 h he2) fun _ _ x => x) he
theorem d_args3 {pos : Pos} {e e2 e3 : Expr} {Q : List Value → Shared → Prop} (h : Does w A (eval e env) (fun v s₁ => Does w A (eval e2 env) (fun u s₂ => Does w A (eval e3 env) (fun x s₃ => Q [v, u, x] s₃) s₂) s₁) s)
    (he : starEach [e, e2, e3] env = (false, eval e env) :: starEach [e2, e3] env) (he2 : starEach [e2, e3] env = (false, eval e2 env) :: starEach [e3] env) (he3 : starEach [e3] env = (false, eval e3 env) :: starEach [] env) : Does w A (spliced (backTo pos (starEach [e, e2, e3] env))) Q s :=
  wpAny_items_cons (wpAny_mono h (fun v s₁ h => d_args2 h he2 he3) fun _ _ x => x) he

/-! ### a function of the text is entered -/
theorem zip_lookup {ps : List Str} : ∀ {args : List Value} {x : Str} {v : Value} {ls : List Str} {us : List (Option Value)}, ps.Nodup → args.length = ps.length → (∀ u ∈ us, u = none) →
    (args.map some ++ us)[ix x (ps ++ ls)]? = some (some v) → (ps.zip args).reverse.lookup x = some v := by
  induction ps with
  | nil =>
    intro args x v ls us _ hl hu h
    have : args = [] := List.length_eq_zero_iff.mp hl
    subst this
    simp only [List.map_nil, List.nil_append] at h
    exact absurd (hu _ (List.mem_of_getElem? h)) (by simp)
  | cons y r ih =>
    intro args x v ls us hn hl hu h
    cases args with
    | nil => cases hl
    | cons b as =>
      rw [List.nodup_cons] at hn
      simp only [List.zip_cons_cons, List.reverse_cons]
      rw [List.lookup_append]
      simp only [List.cons_append, ix, List.map_cons] at h
      by_cases hx : x = y
      · subst hx
        simp only [if_true, List.getElem?_cons_zero, Option.some.injEq] at h
        have : (r.zip as).reverse.lookup x = none := by
          rw [List.lookup_eq_none_iff]
          intro q hq
          have := List.of_mem_zip (List.mem_reverse.mp hq)
          simp
          intro e
          exact hn.1 (e ▸ this.1)
        rw [this, h]
        simp
      · simp only [hx, if_false, List.getElem?_cons_succ] at h
        rw [ih hn.2 (by simpa using hl) hu h]
        rfl

theorem nf_fn {X : Option Obj} {name qual : Str} {params : Arguments} {body body' : List Stmt} {scope scope' : Scope} {oc : Value} {od an : Option Addr} {osl : Array (Option Value)} {dV kV doc pm cdv ct : Value}
    (h : X = some ⟨oc, od, .func (fnOf name qual params body scope dV kV doc pm an cdv ct), osl⟩) (hb : body = body') (hs : scope = scope') : X = some ⟨oc, od, .func (fnOf name qual params body' scope' dV kV doc pm an cdv ct), osl⟩ := by
  subst hb hs; exact h
theorem d_enterK {f : Addr} {oc : Value} {od an : Option Addr} {osl : Array (Option Value)} {name qual : Str} {params : Arguments} {body : List Stmt} {scope : Scope} {dV kV doc pm cdv ct : Value} {args vals : List Value} {n : Nat} {RR : Result → Shared → Prop}
    (ps ls : List Str) (W : Wd w H₀) (hR : Rm A (n + 1)) (S : St H₀ o₀ rs s)
    (ho : (KK w).lookup f = some ⟨oc, od, .func (fnOf name qual params body scope dV kV doc pm an cdv ct), osl⟩) (hcd : codeIn (KK w) cdv qual = true)
    (hbind : BindsTo s (fnOf name qual params body scope dV kV doc pm an cdv ct) ⟨args, []⟩ (ps.zip vals)) (hlen : vals.length = ps.length) (hps : ps.Nodup)
    (hloc : ∀ y ∈ ps, scope.names.lookup y = some .local)
    (h : ∀ L s', St H₀ o₀ (FrR H₀ L (ps ++ ls) (vals.map some ++ ls.map fun _ => none) :: rs) s' → Rm (A.deeper (envOf qual scope L f cdv)) n →
      Does w (A.deeper (envOf qual scope L f cdv)) (execs body (envOf qual scope L f cdv)) (fun fl s'' => RR (.ok (.ret (match fl with | .ret v => v | _ => .none))) s'') s')
    (hcell : ∀ x ∈ scope.names, x.2 ≠ .cell) (hco : scope.isCoroutine = false) (hgen : scope.isGenerator = false) (hk : scope.kind = .function) : codeAny (model PySem.Challenge.rw_pc0244_01.row.prog w) A (.call (.ref f) ⟨args, []⟩) RR s := by
  obtain ⟨p, loose, mg, mb, T⟩ := W.T
  refine codeAny_call_def (fd := fnOf name qual params body scope dV kV doc pm an cdv ct) (body := body) (binds := ps.zip vals) (by have := hR.d; omega) (W.inK S _ _ ho) rfl (T.nolimit.keeps S.base) (codeRec_of (W.inK S) hcd) rfl hbind hcell
    (fun x hx => hloc x.1 (List.of_mem_zip hx).1) (fun h₀ hns hkeep => ?_) hco hgen hk
  have hnew : ∀ q, s.heap.get? s.heap.objs.size ≠ some q := fun q e => absurd (Heap.lt_size e) (Nat.lt_irrefl _)
  refine wpAny_mono (h s.heap.objs.size { s with heap := h₀, toks := s.toks + (ps.zip vals).length } ?_ hR.deeper) (fun fl s'' z => z) fun _ _ x => x.elim
  obtain ⟨oL, es, ep, g1, g2, g3, g4⟩ := hns
  obtain ⟨B, ⟨led, X, N, h2⟩, G, O, Z⟩ := S
  have nl : ∀ q ∈ led, q.1 ≠ s.heap.objs.size := fun q hq e => absurd (Heap.lt_size (X q hq).1) (by rw [e]; exact Nat.lt_irrefl _)
  have n1 := lkp_none nl
  have n0 : H₀.get? s.heap.objs.size = none := by
    cases e : H₀.get? s.heap.objs.size with
    | none => rfl
    | some o' => exact absurd (Heap.lt_size (B _ _ e)) (Nat.lt_irrefl _)
  refine ⟨fun b ob eb => hkeep b ob (B b ob eb), ⟨setA led s.heap.objs.size oL, fun q hq => ?_, nodup_setA N, ?_⟩, G, O, Nat.le_trans Z (Nat.le_of_lt (Heap.lt_size g1))⟩
  · rcases mem_setA hq with rfl | ⟨h3, h4⟩
    · exact ⟨g1, n0⟩
    · exact ⟨hkeep _ _ (X _ h3).1, (X _ h3).2⟩
  · rw [lkp_setA]
    refine ⟨PH.nil.up s.heap.objs.size oL, lkp led, PH.dj_up (fun _ => .inl rfl) n1, PH.up_le (fun _ _ e => by cases e), PH.le_up (PH.le_refl _) n1, FrR_def.mpr ⟨Z, oL, _, up_self, ⟨es, ep, g2, g3, g4⟩, fun x v hv => ?_⟩, h2⟩
    exact zip_lookup hps hlen (by simp) hv
theorem d_enter {f : Addr} {oc : Value} {od an : Option Addr} {osl : Array (Option Value)} {name qual : Str} {params : Arguments} {body : List Stmt} {scope : Scope} {dV kV doc pm cdv ct : Value} {args vals : List Value} {n : Nat} {Q : Value → Shared → Prop}
    (ps ls : List Str) (W : Wd w H₀) (hR : Rm A (n + 1)) (S : St H₀ o₀ rs s)
    (ho : (KK w).lookup f = some ⟨oc, od, .func (fnOf name qual params body scope dV kV doc pm an cdv ct), osl⟩) (hcd : codeIn (KK w) cdv qual = true)
    (hbind : BindsTo s (fnOf name qual params body scope dV kV doc pm an cdv ct) ⟨args, []⟩ (ps.zip vals)) (hlen : vals.length = ps.length) (hps : ps.Nodup)
    (hloc : ∀ y ∈ ps, scope.names.lookup y = some .local)
    (h : ∀ L s', St H₀ o₀ (FrR H₀ L (ps ++ ls) (vals.map some ++ ls.map fun _ => none) :: rs) s' → Rm (A.deeper (envOf qual scope L f cdv)) n →
      Does w (A.deeper (envOf qual scope L f cdv)) (execs body (envOf qual scope L f cdv)) (fun fl s'' => Q (match fl with | .ret v => v | _ => .none) s'') s')
    (hcell : ∀ x ∈ scope.names, x.2 ≠ .cell) (hco : scope.isCoroutine = false) (hgen : scope.isGenerator = false) (hk : scope.kind = .function) : Does w A (call (.ref f) args) Q s :=
  wpAny_call (d_enterK ps ls W hR S ho hcd hbind hlen hps hloc (fun L s' S' hR' => h L s' S' hR') hcell hco hgen hk)
theorem d_fun {f : Addr} {oc : Value} {od an : Option Addr} {osl : Array (Option Value)} {name qual : Str} {params : Arguments} {body : List Stmt} {scope : Scope} {dV kV doc pm cdv ct : Value} {args : List Value} {n : Nat} {Q : Value → Shared → Prop}
    (ps ls : List Str) (W : Wd w H₀) (hR : Rm A (n + 1)) (S : St H₀ o₀ rs s)
    (ho : (KK w).lookup f = some ⟨oc, od, .func (fnOf name qual params body scope dV kV doc pm an cdv ct), osl⟩) (hcd : codeIn (KK w) cdv qual = true)
    (hbind : bindArgs (fnOf name qual params body scope dV kV doc pm an cdv ct) ⟨args, []⟩ = pure (ps.zip args)) (hlen : args.length = ps.length) (hps : ps.Nodup)
    (hloc : ∀ y ∈ ps, scope.names.lookup y = some .local) (hcell : ∀ x ∈ scope.names, x.2 ≠ .cell) (hco : scope.isCoroutine = false) (hgen : scope.isGenerator = false) (hk : scope.kind = .function)
    (h : ∀ L s', St H₀ o₀ (FrR H₀ L (ps ++ ls) (args.map some ++ ls.map fun _ => none) :: rs) s' → ∀ A', Rm A' n →
      Does w A' (execs body (envOf qual scope L f cdv)) (fun fl s'' => Q (match fl with | .ret v => v | _ => .none) s'') s') : Does w A (call (.ref f) args) Q s :=
  d_enter ps ls W hR S ho hcd (BindsTo.of_eq hbind) hlen hps hloc (fun L s' S hA => h L s' S _ hA) hcell hco hgen hk
end rules


section rules
variable {w : World} {H₀ : Heap} {o₀ : OsState} {A : Around} {s : Shared} {rs R : List Res} {env : Env}

theorem n96 (P : Params) : isNotIn (Kt P) "int" 96 = true := by kernel_rfl
theorem n74 (P : Params) : isNotIn (Kt P) "int" 74 = true := by kernel_rfl
theorem n188 (P : Params) : isNotIn (Kt P) "int" 188 = true := by kernel_rfl
theorem i96 (P : Params) : isIn (Kt P) (.ref 96) 96 = true := by kernel_rfl
theorem d_isiN {C : Addr} {n : Int} {u : Tok} {Q : Value → Shared → Prop} (W : Wd w H₀) (S : St H₀ o₀ rs s) (hC : isNotIn (KK w) "int" C = true) (h : ∀ s', St H₀ o₀ rs s' → Q (.bool false) s') : Does w A (call (.builtin "isinstance") [.int n u, .ref C]) Q s :=
  isn_call (P := fun _ => True) (W.inK S) (fun M => Looks.of_pure rfl) hC (by intro e; cases e) trivial int_cls (h _ (S.tok _))
theorem d_isiA {a : Addr} {Q : Value → Shared → Prop} (W : Wd w H₀) (S : St H₀ o₀ rs s) (hm : ∃ r ∈ rs, ∀ p, r p → AbsO p (.ref a)) (h : Q (.bool true) s) : Does w A (call (.builtin "isinstance") [.ref a, .ref 96]) Q s := by
  obtain ⟨r, hr, f⟩ := hm
  obtain ⟨q, hq, k⟩ := S.get hr
  obtain ⟨b, o, e, e1, e2, e3⟩ := f q k
  cases e
  exact isi_call (t := .ref 96) (W.inK S) (fun M => e2 ▸ (Looks.ld (hq _ _ e1)).andThen .now) (i96 _) (by intro e; cases e) h
theorem d_isiI {n : Int} {u : Tok} {Q : Value → Shared → Prop} (h : Q (.bool true) s) : Does w A (call (.builtin "isinstance") [.int n u, .type "int"]) Q s := IsiPair.int_int h
theorem d_isiS {n : Str} {u : Tok} {Q : Value → Shared → Prop} (S : St H₀ o₀ rs s) (h : ∀ s', St H₀ o₀ rs s' → Q (.bool false) s') : Does w A (call (.builtin "isinstance") [.str n u, .type "int"]) Q s := IsiPair.str_int (h _ (S.tok _))
/-- is it an Absent? of a value of the array's own -/
noncomputable def isAbs : Value → Bool | .ref _ => true | _ => false
theorem d_isiSlot {x : Addr} {a : Ad} {v : Value} {Q : Value → Shared → Prop} (W : Wd w H₀) (S : St H₀ o₀ rs s) (hm : ArrR w.params x a ∈ rs) (hv : v ∈ a.vs) (h : ∀ s', St H₀ o₀ rs s' → Q (.bool (isAbs v)) s') : Does w A (call (.builtin "isinstance") [v, .ref 96]) Q s := by
  obtain ⟨q, hq, k⟩ := S.get hm
  rcases (ArrR_def.mp k).2.2.2.2.2.2.2.1 v hv with ⟨i, t, rfl⟩ | ⟨b, o, rfl, e1, e2, e3⟩
  · exact d_isiN W S (n96 _) h
  · exact isi_call (t := .ref 96) (W.inK S) (fun M => e2 ▸ (Looks.ld (hq _ _ e1)).andThen .now) (i96 _) (by intro e; cases e) (h _ S)
/-! ints -/
theorem d_const {i : Int} {k} {pos : Pos} {Q : Value → Shared → Prop} (S : St H₀ o₀ rs s) (h : ∀ t s', St H₀ o₀ rs s' → Q (.int i t) s') : Does w A (eval (.Constant (.int i) k pos) env) Q s := wpAny_Constant_int (h _ _ (S.tok _))
theorem d_conststr {x : Str} {k} {pos : Pos} {Q : Value → Shared → Prop} (S : St H₀ o₀ rs s) (h : ∀ t s', St H₀ o₀ rs s' → Q (.str x t) s') : Does w A (eval (.Constant (.str x) k pos) env) Q s := wpAny_Constant_str (h _ _ (S.tok _))
theorem d_add {a b : Int} {t u : Tok} {Q : Value → Shared → Prop} (S : St H₀ o₀ rs s) (h : ∀ t s', St H₀ o₀ rs s' → Q (.int (a + b) t) s') : Does w A (binaryOp .Add (.int a t) (.int b u)) Q s := add_int (h _ _ (S.tok _))
theorem d_sub {a b : Int} {t u : Tok} {Q : Value → Shared → Prop} (S : St H₀ o₀ rs s) (h : ∀ t s', St H₀ o₀ rs s' → Q (.int (a - b) t) s') : Does w A (binaryOp .Sub (.int a t) (.int b u)) Q s := sub_int (h _ _ (S.tok _))
theorem d_mul {a b : Int} {t u : Tok} {Q : Value → Shared → Prop} (S : St H₀ o₀ rs s) (hb : IntMulOk a b) (h : ∀ t s', St H₀ o₀ rs s' → Q (.int (a * b) t) s') : Does w A (binaryOp .Mult (.int a t) (.int b u)) Q s := mul_int (h _ _ (S.tok _)) hb
theorem d_mod {a b : Int} {t u : Tok} {Q : Value → Shared → Prop} (S : St H₀ o₀ rs s) (hb : 0 < b) (h : ∀ t s', St H₀ o₀ rs s' → Q (.int (a % b) t) s') : Does w A (binaryOp .Mod (.int a t) (.int b u)) Q s := by
  refine mod_int' (by omega) ?_
  rw [Int.fmod_eq_emod_of_nonneg _ (by omega)]
  exact h _ _ (S.tok _)
theorem d_iadd {a b : Int} {t u : Tok} {Q : Value → Shared → Prop} (S : St H₀ o₀ rs s) (h : ∀ t s', St H₀ o₀ rs s' → Q (.int (a + b) t) s') : Does w A (inplaceOp .Add (.int a t) (.int b u)) Q s := iadd_int (h _ _ (S.tok _))
theorem d_isub {a b : Int} {t u : Tok} {Q : Value → Shared → Prop} (S : St H₀ o₀ rs s) (h : ∀ t s', St H₀ o₀ rs s' → Q (.int (a - b) t) s') : Does w A (inplaceOp .Sub (.int a t) (.int b u)) Q s := PyProof.Rows.isub_int (h _ _ (S.tok _))
theorem d_neg {a : Int} {t : Tok} {Q : Value → Shared → Prop} (S : St H₀ o₀ rs s) (h : ∀ t s', St H₀ o₀ rs s' → Q (.int (-a) t) s') : Does w A (unaryOp .USub (.int a t)) Q s := neg_int (h _ _ (S.tok _))
theorem d_ord {c : Nat} {u : Tok} {Q : Value → Shared → Prop} (S : St H₀ o₀ rs s) (h : ∀ t s', St H₀ o₀ rs s' → Q (.int c t) s') : Does w A (call (.builtin "ord") [.str ⟨#[c]⟩ u]) Q s := P.ord_of_char (h _ _ (S.tok _))
theorem d_min {L : Addr} {names : List Str} {vs : List (Option Value)} {a b : Int} {t u : Tok} {Q : Value → Shared → Prop} (hh : A.handled = none) (S : St H₀ o₀ (FrR H₀ L names vs :: R) s) (h : ∀ t s', St H₀ o₀ (FrR H₀ L names vs :: R) s' → Q (.int (min a b) t) s') : Does w A (call (.builtin "min") [.int a t, .int b u]) Q s := by
  obtain ⟨m, led, F, N, k1, k2⟩ := S.fn
  refine min_two_N hh F N fun h' tk F' N' => ?_
  have e : (if b < a then b else a) = min a b := by omega
  rw [e]
  exact h _ _ (k1 h' tk F' N')

theorem noPylong (a : Int) {b : Int} (hb : b.natAbs < 2 ^ 64) : Builtin.divisionGoesByPylong a b = false := by
  unfold Builtin.divisionGoesByPylong
  have : (if b == 0 then 0 else b.natAbs.log2 / 30 + 1) ≤ 300 := by
    split
    · omega
    · rename_i h
      have h0 : b.natAbs ≠ 0 := by simpa using h
      have : b.natAbs.log2 < 64 := (Nat.log2_lt h0).mpr hb
      omega
  simp only [Bool.and_eq_false_iff, decide_eq_false_iff_not]
  left; omega
theorem d_fdiv {a b : Int} {t u : Tok} {Q : Value → Shared → Prop} (S : St H₀ o₀ rs s) (hb : 0 < b) (hz : b < 2 ^ 63) (h : ∀ t s', St H₀ o₀ rs s' → Q (.int (a / b) t) s') : Does w A (binaryOp .FloorDiv (.int a t) (.int b u)) Q s := by
  refine floordiv_int (by omega) ?_ (.inl (noPylong a (by omega)))
  rw [Int.fdiv_eq_ediv_of_nonneg _ (by omega)]
  exact h _ _ (S.tok _)
theorem d_shr {a n : Int} {t u : Tok} {Q : Value → Shared → Prop} (S : St H₀ o₀ rs s) (hn : 0 ≤ n) (h : ∀ t s', St H₀ o₀ rs s' → Q (.int (a / 2 ^ n.toNat) t) s') : Does w A (binaryOp .RShift (.int a t) (.int n u)) Q s := by
  refine rshift_int hn ?_
  rw [Int.fdiv_eq_ediv_of_nonneg _ (Int.le_of_lt (Int.pow_pos (by decide)))]
  exact h _ _ (S.tok _)
theorem d_pow {a n : Int} {t u : Tok} {Q : Value → Shared → Prop} (S : St H₀ o₀ rs s) (hn : 0 ≤ n) (hz : ((Builtin.Int.intBits a : Nat) : Int) * n ≤ 2 ^ 27) (h : ∀ t s', St H₀ o₀ rs s' → Q (.int (a ^ n.toNat) t) s') : Does w A (binaryOp .Pow (.int a t) (.int n u)) Q s :=
  pow_int hn hz (h _ _ (S.tok _))
theorem d_or {a b : Int} {t u : Tok} {Q : Value → Shared → Prop} (S : St H₀ o₀ rs s) (h : ∀ t s', St H₀ o₀ rs s' → Q (.int (Builtin.bitOr a b) t) s') : Does w A (binaryOp .BitOr (.int a t) (.int b u)) Q s := or_int (h _ _ (S.tok _))
end rules

theorem G_error (P : Params) : nsIn (Kt P) mainGlobals "error" = some (some (.ref 42)) := by kernel_rfl
theorem KP_error (P : Params) : keepIn (Kt P) (.ref 42) = true := by kernel_rfl
theorem G_least (P : Params) : nsIn (Kt P) mainGlobals "least" = some (some (.ref 49)) := by kernel_rfl
theorem KP_least (P : Params) : keepIn (Kt P) (.ref 49) = true := by kernel_rfl
theorem G_greatest (P : Params) : nsIn (Kt P) mainGlobals "greatest" = some (some (.ref 56)) := by kernel_rfl
theorem KP_greatest (P : Params) : keepIn (Kt P) (.ref 56) = true := by kernel_rfl
theorem G_is_living (P : Params) : nsIn (Kt P) mainGlobals "is_living" = some (some (.ref 199)) := by kernel_rfl
theorem KP_is_living (P : Params) : keepIn (Kt P) (.ref 199) = true := by kernel_rfl
theorem G_hash_of (P : Params) : nsIn (Kt P) mainGlobals "hash_of" = some (some (.ref 206)) := by kernel_rfl
theorem KP_hash_of (P : Params) : keepIn (Kt P) (.ref 206) = true := by kernel_rfl
theorem G_link (P : Params) : nsIn (Kt P) mainGlobals "link" = some (some (.ref 213)) := by kernel_rfl
theorem KP_link (P : Params) : keepIn (Kt P) (.ref 213) = true := by kernel_rfl
theorem G_unlink (P : Params) : nsIn (Kt P) mainGlobals "unlink" = some (some (.ref 220)) := by kernel_rfl
theorem KP_unlink (P : Params) : keepIn (Kt P) (.ref 220) = true := by kernel_rfl
theorem G_chains (P : Params) : nsIn (Kt P) mainGlobals "chains" = some (some (.ref 227)) := by kernel_rfl
theorem KP_chains (P : Params) : keepIn (Kt P) (.ref 227) = true := by kernel_rfl
theorem G_next_place (P : Params) : nsIn (Kt P) mainGlobals "next_place" = some (some (.ref 234)) := by kernel_rfl
theorem KP_next_place (P : Params) : keepIn (Kt P) (.ref 234) = true := by kernel_rfl
theorem G_many_ahead (P : Params) : nsIn (Kt P) mainGlobals "many_ahead" = some (some (.ref 239)) := by kernel_rfl
theorem KP_many_ahead (P : Params) : keepIn (Kt P) (.ref 239) = true := by kernel_rfl
theorem G_rehash (P : Params) : nsIn (Kt P) mainGlobals "rehash" = some (some (.ref 244)) := by kernel_rfl
theorem KP_rehash (P : Params) : keepIn (Kt P) (.ref 244) = true := by kernel_rfl
theorem G_to_hash (P : Params) : nsIn (Kt P) mainGlobals "to_hash" = some (some (.ref 251)) := by kernel_rfl
theorem KP_to_hash (P : Params) : keepIn (Kt P) (.ref 251) = true := by kernel_rfl
theorem G_takes_packed (P : Params) : nsIn (Kt P) mainGlobals "takes_packed" = some (some (.ref 258)) := by kernel_rfl
theorem KP_takes_packed (P : Params) : keepIn (Kt P) (.ref 258) = true := by kernel_rfl
theorem G_add_packed (P : Params) : nsIn (Kt P) mainGlobals "add_packed" = some (some (.ref 265)) := by kernel_rfl
theorem KP_add_packed (P : Params) : keepIn (Kt P) (.ref 265) = true := by kernel_rfl
theorem G_add_hashed (P : Params) : nsIn (Kt P) mainGlobals "add_hashed" = some (some (.ref 272)) := by kernel_rfl
theorem KP_add_hashed (P : Params) : keepIn (Kt P) (.ref 272) = true := by kernel_rfl
theorem G_add (P : Params) : nsIn (Kt P) mainGlobals "add" = some (some (.ref 279)) := by kernel_rfl
theorem KP_add (P : Params) : keepIn (Kt P) (.ref 279) = true := by kernel_rfl
theorem G_go_on (P : Params) : nsIn (Kt P) mainGlobals "go_on" = some (some (.ref 286)) := by kernel_rfl
theorem KP_go_on (P : Params) : keepIn (Kt P) (.ref 286) = true := by kernel_rfl
theorem G_marked (P : Params) : nsIn (Kt P) mainGlobals "marked" = some (some (.ref 293)) := by kernel_rfl
theorem KP_marked (P : Params) : keepIn (Kt P) (.ref 293) = true := by kernel_rfl
theorem G_copied (P : Params) : nsIn (Kt P) mainGlobals "copied" = some (some (.ref 300)) := by kernel_rfl
theorem KP_copied (P : Params) : keepIn (Kt P) (.ref 300) = true := by kernel_rfl
theorem G_copy (P : Params) : nsIn (Kt P) mainGlobals "copy" = some (some (.ref 305)) := by kernel_rfl
theorem KP_copy (P : Params) : keepIn (Kt P) (.ref 305) = true := by kernel_rfl
theorem G_law_rows (P : Params) : nsIn (Kt P) mainGlobals "_law_rows" = some (some (.ref 312)) := by kernel_rfl
theorem KP_law_rows (P : Params) : keepIn (Kt P) (.ref 312) = true := by kernel_rfl
theorem G_law_new (P : Params) : nsIn (Kt P) mainGlobals "_law_new" = some (some (.ref 319)) := by kernel_rfl
theorem KP_law_new (P : Params) : keepIn (Kt P) (.ref 319) = true := by kernel_rfl
theorem G_law_living (P : Params) : nsIn (Kt P) mainGlobals "_law_living" = some (some (.ref 324)) := by kernel_rfl
theorem KP_law_living (P : Params) : keepIn (Kt P) (.ref 324) = true := by kernel_rfl
theorem G_law_hash_form (P : Params) : nsIn (Kt P) mainGlobals "_law_hash_form" = some (some (.ref 331)) := by kernel_rfl
theorem KP_law_hash_form (P : Params) : keepIn (Kt P) (.ref 331) = true := by kernel_rfl
theorem G_law_added (P : Params) : nsIn (Kt P) mainGlobals "_law_added" = some (some (.ref 338)) := by kernel_rfl
theorem KP_law_added (P : Params) : keepIn (Kt P) (.ref 338) = true := by kernel_rfl
theorem G_law_put (P : Params) : nsIn (Kt P) mainGlobals "_law_put" = some (some (.ref 345)) := by kernel_rfl
theorem KP_law_put (P : Params) : keepIn (Kt P) (.ref 345) = true := by kernel_rfl
theorem G_law_dropped (P : Params) : nsIn (Kt P) mainGlobals "_law_dropped" = some (some (.ref 350)) := by kernel_rfl
theorem KP_law_dropped (P : Params) : keepIn (Kt P) (.ref 350) = true := by kernel_rfl
theorem G_law_hash (P : Params) : nsIn (Kt P) mainGlobals "_law_hash" = some (some (.ref 357)) := by kernel_rfl
theorem KP_law_hash (P : Params) : keepIn (Kt P) (.ref 357) = true := by kernel_rfl
theorem G_law_chain (P : Params) : nsIn (Kt P) mainGlobals "_law_chain" = some (some (.ref 364)) := by kernel_rfl
theorem KP_law_chain (P : Params) : keepIn (Kt P) (.ref 364) = true := by kernel_rfl
theorem G_law_chains_right (P : Params) : nsIn (Kt P) mainGlobals "_law_chains_right" = some (some (.ref 369)) := by kernel_rfl
theorem KP_law_chains_right (P : Params) : keepIn (Kt P) (.ref 369) = true := by kernel_rfl
theorem G_law_form_right (P : Params) : nsIn (Kt P) mainGlobals "_law_form_right" = some (some (.ref 374)) := by kernel_rfl
theorem KP_law_form_right (P : Params) : keepIn (Kt P) (.ref 374) = true := by kernel_rfl
theorem G_law_key (P : Params) : nsIn (Kt P) mainGlobals "_law_key" = some (some (.ref 381)) := by kernel_rfl
theorem KP_law_key (P : Params) : keepIn (Kt P) (.ref 381) = true := by kernel_rfl
theorem G_law_deed (P : Params) : nsIn (Kt P) mainGlobals "_law_deed" = some (some (.ref 388)) := by kernel_rfl
theorem KP_law_deed (P : Params) : keepIn (Kt P) (.ref 388) = true := by kernel_rfl
theorem G_Arr (P : Params) : nsIn (Kt P) mainGlobals "Arr" = some (some (.ref 188)) := by kernel_rfl
theorem KP_Arr (P : Params) : keepIn (Kt P) (.ref 188) = true := by kernel_rfl
theorem G_Absent (P : Params) : nsIn (Kt P) mainGlobals "Absent" = some (some (.ref 96)) := by kernel_rfl
theorem KP_Absent (P : Params) : keepIn (Kt P) (.ref 96) = true := by kernel_rfl
theorem G_Ref (P : Params) : nsIn (Kt P) mainGlobals "Ref" = some (some (.ref 74)) := by kernel_rfl
theorem KP_Ref (P : Params) : keepIn (Kt P) (.ref 74) = true := by kernel_rfl
theorem KM_find (P : Params) : keepIn (Kt P) (.ref 136) = true := by kernel_rfl
theorem M_find (P : Params) : plainGet (Kt P) 188 "find" = true ∧ findIn (Kt P) (.ref 188) "find" = some (some (.ref 136)) ∧ typeIn (Kt P) (.ref 136) = some (.type "function") := ⟨by kernel_rfl, by kernel_rfl, by kernel_rfl⟩
theorem KM_has (P : Params) : keepIn (Kt P) (.ref 143) = true := by kernel_rfl
theorem M_has (P : Params) : plainGet (Kt P) 188 "has" = true ∧ findIn (Kt P) (.ref 188) "has" = some (some (.ref 143)) ∧ typeIn (Kt P) (.ref 143) = some (.type "function") := ⟨by kernel_rfl, by kernel_rfl, by kernel_rfl⟩
theorem KM_put (P : Params) : keepIn (Kt P) (.ref 164) = true := by kernel_rfl
theorem M_put (P : Params) : plainGet (Kt P) 188 "put" = true ∧ findIn (Kt P) (.ref 188) "put" = some (some (.ref 164)) ∧ typeIn (Kt P) (.ref 164) = some (.type "function") := ⟨by kernel_rfl, by kernel_rfl, by kernel_rfl⟩
theorem KM_append (P : Params) : keepIn (Kt P) (.ref 171) = true := by kernel_rfl
theorem M_append (P : Params) : plainGet (Kt P) 188 "append" = true ∧ findIn (Kt P) (.ref 188) "append" = some (some (.ref 171)) ∧ typeIn (Kt P) (.ref 171) = some (.type "function") := ⟨by kernel_rfl, by kernel_rfl, by kernel_rfl⟩
theorem KM_drop (P : Params) : keepIn (Kt P) (.ref 178) = true := by kernel_rfl
theorem M_drop (P : Params) : plainGet (Kt P) 188 "drop" = true ∧ findIn (Kt P) (.ref 188) "drop" = some (some (.ref 178)) ∧ typeIn (Kt P) (.ref 178) = some (.type "function") := ⟨by kernel_rfl, by kernel_rfl, by kernel_rfl⟩
theorem KM_key_at (P : Params) : keepIn (Kt P) (.ref 185) = true := by kernel_rfl
theorem M_key_at (P : Params) : plainGet (Kt P) 188 "key_at" = true ∧ findIn (Kt P) (.ref 188) "key_at" = some (some (.ref 185)) ∧ typeIn (Kt P) (.ref 185) = some (.type "function") := ⟨by kernel_rfl, by kernel_rfl, by kernel_rfl⟩
theorem GB_len (P : Params) : nsIn (Kt P) mainGlobals "len" = some none := by kernel_rfl
theorem BB_len : bootBuiltins "len" = some (.builtin "len") := by with_unfolding_all rfl
theorem GB_isinstance (P : Params) : nsIn (Kt P) mainGlobals "isinstance" = some none := by kernel_rfl
theorem BB_isinstance : bootBuiltins "isinstance" = some (.builtin "isinstance") := by with_unfolding_all rfl
theorem GB_min (P : Params) : nsIn (Kt P) mainGlobals "min" = some none := by kernel_rfl
theorem BB_min : bootBuiltins "min" = some (.builtin "min") := by with_unfolding_all rfl
theorem GB_sum (P : Params) : nsIn (Kt P) mainGlobals "sum" = some none := by kernel_rfl
theorem BB_sum : bootBuiltins "sum" = some (.builtin "sum") := by with_unfolding_all rfl
theorem GB_ord (P : Params) : nsIn (Kt P) mainGlobals "ord" = some none := by kernel_rfl
theorem BB_ord : bootBuiltins "ord" = some (.builtin "ord") := by with_unfolding_all rfl
theorem GB_range (P : Params) : nsIn (Kt P) mainGlobals "range" = some none := by kernel_rfl
theorem BB_range : bootBuiltins "range" = some (.type "range") := by with_unfolding_all rfl
theorem GB_list (P : Params) : nsIn (Kt P) mainGlobals "list" = some none := by kernel_rfl
theorem BB_list : bootBuiltins "list" = some (.type "list") := by with_unfolding_all rfl
theorem GB_dict (P : Params) : nsIn (Kt P) mainGlobals "dict" = some none := by kernel_rfl
theorem BB_dict : bootBuiltins "dict" = some (.type "dict") := by with_unfolding_all rfl
theorem GB_int (P : Params) : nsIn (Kt P) mainGlobals "int" = some none := by kernel_rfl
theorem BB_int : bootBuiltins "int" = some (.type "int") := by with_unfolding_all rfl
theorem GB_str (P : Params) : nsIn (Kt P) mainGlobals "str" = some none := by kernel_rfl
theorem BB_str : bootBuiltins "str" = some (.type "str") := by with_unfolding_all rfl
theorem GB_enumerate (P : Params) : nsIn (Kt P) mainGlobals "enumerate" = some none := by kernel_rfl
theorem BB_enumerate : bootBuiltins "enumerate" = some (.type "enumerate") := by with_unfolding_all rfl

section steps
variable {w : World} {H₀ : Heap} {o₀ : OsState} {A : Around} {s : Shared} {rs R : List Res} {env : Env}
theorem d_class {x : Str} {v : Value} {pos : Pos} {Q : Value → Shared → Prop} (W : Wd w H₀) (S : St H₀ o₀ rs s) (e : nsIn (KK w) mainGlobals x = some (some v)) (h : Q v s)
    (hg : env.globals = mainGlobals) (hk : env.scope.kind = .function) (hx : env.kindOf x = some .globalImplicit) (hd : (x == ("__debug__" : Str)) = false) : Does w A (eval (.Name x pos) env) Q s := W.glob S e h hg hk hx hd
theorem g_eval {e : Expr} {Q : Value → Shared → Prop} (h : Does w A (eval e env) Q s) : Does w A (eval e env) Q s := h
theorem g_name {x : Str} {pos : Pos} {Q : Value → Shared → Prop} (h : Does w A (eval (.Name x pos) env) Q s) : Does w A (eval (.Name x pos) env) Q s := h
theorem g_call {f : Expr} {es : List Expr} {ks : List Keyword} {pos : Pos} {Q : Value → Shared → Prop} (h : Does w A (eval (.Call f es ks pos) env) Q s) : Does w A (eval (.Call f es ks pos) env) Q s := h
theorem g_isTrue {e : Expr} {u : Sem Value} {Q : Bool → Shared → Prop} (h : Does w A (isTrue e env u) Q s) : Does w A (isTrue e env u) Q s := h
theorem g_cmp {op : CmpOp} {a b : Value} {Q : Value → Shared → Prop} (h : Does w A (compareOp op a b) Q s) : Does w A (compareOp op a b) Q s := h
theorem g_bin {op : Operator} {a b : Value} {Q : Value → Shared → Prop} (h : Does w A (binaryOp op a b) Q s) : Does w A (binaryOp op a b) Q s := h
theorem g_callv {f : Value} {vs : List Value} {Q : Value → Shared → Prop} (h : Does w A (call f vs) Q s) : Does w A (call f vs) Q s := h
theorem g_execs {l : List Stmt} {Q : Flow → Shared → Prop} (h : Does w A (execs l env) Q s) : Does w A (execs l env) Q s := h
theorem g_exec {l : Stmt} {Q : Flow → Shared → Prop} (h : Does w A (exec l env) Q s) : Does w A (exec l env) Q s := h
theorem g_bool {pos : Pos} {op : PySem.BoolOp} {l : List (Sem Value)} {Q : Value → Shared → Prop} (h : Does w A (boolOp pos op l) Q s) : Does w A (boolOp pos op l) Q s := h
theorem d_meth {x : Addr} {a : Ad} {name : Str} {f : Addr} {pl : Sem Bool} {Q : Value × List Value → Shared → Prop} (W : Wd w H₀) (S : St H₀ o₀ rs s) (hm : ArrR w.params x a ∈ rs)
    (hf : plainGet (KK w) 188 name = true ∧ findIn (KK w) (.ref 188) name = some (some (.ref f)) ∧ typeIn (KK w) (.ref f) = some (.type "function")) (hg : ∀ tk, getL name (arrEs w.params tk a) = some none)
    (h : Q (.ref f, [.ref x]) s) : Does w A (getMethod (.ref x) name pl) Q s := by
  obtain ⟨q, hq, hr⟩ := S.get hm
  obtain ⟨tk, n, I, _⟩ := instAt_of hq hr
  exact method_fn (W.inK S) I (plainGet_of hf.1).1 (plainGet_of hf.1).2 hf.2.1 hf.2.2 (by show (lookIn name (dictOf _ n)).map _ = _; rw [lookIn_dict, hg tk]; rfl) h
theorem d_callM {pos : Pos} {f : Addr} {first : List Value} {e : Expr} {es : List Expr} {Q : Value → Shared → Prop} (W : Wd w H₀) (S : St H₀ o₀ rs s) (hkp : keepIn (KK w) (.ref f) = true)
    (h : Does w A (spliced (backTo pos (starEach (e :: es) env))) (fun vs s₁ => Cur H₀ s₁ ∧ Does w A (call (.ref f) (first ++ vs)) Q s₁) s)
    (he : starEach (e :: es) env = (false, eval e env) :: starEach es env) (hplain : (backTo pos (starEach es env)).any (·.1) = false) : Does w A (callWith pos (.ref f) first (backTo pos (starEach (e :: es) env)) []) Q s :=
  callWith_K (W.inK S) hkp (wpAny_mono h (fun vs s₁ h => ⟨W.X.keeps h.1, h.2⟩) fun _ _ x => x) he hplain
theorem d_callM0 {pos : Pos} {f : Addr} {first : List Value} {Q : Value → Shared → Prop} (W : Wd w H₀) (S : St H₀ o₀ rs s) (hkp : keepIn (KK w) (.ref f) = true)
    (h : Does w A (call (.ref f) (first ++ [])) Q s) : Does w A (callWith pos (.ref f) first (backTo pos (starEach [] env)) []) Q s := callWith_K0 (W.inK S) hkp h
theorem d_callBM {pos : Pos} {i : String} {first : List Value} {e : Expr} {es : List Expr} {Q : Value → Shared → Prop}
    (h : Does w A (spliced (backTo pos (starEach (e :: es) env))) (fun vs s₁ => Does w A (call (.builtin i) (first ++ vs)) Q s₁) s)
    (he : starEach (e :: es) env = (false, eval e env) :: starEach es env) (hplain : (backTo pos (starEach es env)).any (·.1) = false) : Does w A (callWith pos (.builtin i) first (backTo pos (starEach (e :: es) env)) []) Q s := by
  rw [he] at h ⊢
  exact callWith_builtin (by show (false || (backTo pos (starEach es env)).any (·.1)) = false; rw [hplain]; rfl) (evalArgs_plain h)
theorem split_beq {a b : Int} {P Q : Prop} (ht : a = b → P) (hf : a ≠ b → Q) : if (a == b) = true then P else Q := by
  by_cases h : a = b
  · rw [if_pos (beq_iff_eq.mpr h)]; exact ht h
  · rw [if_neg (by simpa using h)]; exact hf h
theorem split_bne {a b : Int} {P Q : Prop} (ht : a ≠ b → P) (hf : a = b → Q) : if (a != b) = true then P else Q := by
  by_cases h : a = b
  · rw [if_neg (by simpa using h)]; exact hf h
  · rw [if_pos (by simpa using h)]; exact ht h
theorem split_not {b : Bool} {P Q : Prop} (ht : b = false → P) (hf : b = true → Q) : if (!b) = true then P else Q := by
  cases b
  · exact ht rfl
  · exact hf rfl
theorem ifT {P Q : Prop} (h : P) : if true = true then P else Q := by rw [if_pos rfl]; exact h
theorem ifF {P Q : Prop} (h : Q) : if false = true then P else Q := by rw [if_neg (by decide)]; exact h
end steps

section iters
variable {w : World} {H₀ : Heap} {o₀ : OsState} {A : Around} {s : Shared} {rs R : List Res} {env : Env}

/-! ## 5. iterators -/
noncomputable def Loc (I : Addr) (T : Heap → Prop) : Prop := ∀ h, T h → ∃ o, h.get? I = some o ∧ ∀ h2 : Heap, h2.get? I = some o → T h2
@[irreducible] noncomputable def ItR (I : Addr) (T : Heap → Prop) : Res := fun p => ∃ o, p I = some o ∧ ∀ h : Heap, h.get? I = some o → T h
theorem ItR_def {I : Addr} {T : Heap → Prop} {p : PH} : ItR I T p ↔ ∃ o, p I = some o ∧ ∀ h : Heap, h.get? I = some o → T h := by unfold ItR; exact Iff.rfl
theorem St.itr {I : Addr} {T : Heap → Prop} (S : St H₀ o₀ rs s) (hm : ItR I T ∈ rs) : T s.heap := by
  obtain ⟨q, hq, hr⟩ := S.get hm
  obtain ⟨o, e, f⟩ := ItR_def.mp hr
  exact f _ (hq _ _ e)
/-- an iterator at I of n items -/
structure Itr (w : World) (H₀ : Heap) (o₀ : OsState) (I : Addr) (n : Nat) (T : Nat → Heap → Prop) (P : Nat → Value → Prop) (need : List Res → Prop) : Prop where
  loc : ∀ i, Loc I (T i)
  walk : ∀ A : Around, A.handled = none → ∃ (fp : List Addr) (G : Heap → Prop), Walks PySem.Challenge.rw_pc0244_01.row.prog w A I fp [I] n P (fun i h => T i h ∧ G h) ∧ ∀ R s, need R → St H₀ o₀ R s → G s.heap

theorem St.forget {a : Res} {x : Addr} {h' : Heap} {tk : Nat} (S : St H₀ o₀ (a :: R) s) (ha : ∀ q : PH, a q → ∃ o, q x = some o) (hk : ∀ b o, b ≠ x → s.heap.get? b = some o → h'.get? b = some o) (hz : s.heap.objs.size ≤ h'.objs.size) : St H₀ o₀ R { s with heap := h', toks := tk } := by
  obtain ⟨B, ⟨led, X, N, p1, p2, d, l1, l2, h1, h2⟩, G, O, Z⟩ := S
  obtain ⟨o, e⟩ := ha p1 h1
  have n2 : p2 x = none := by rcases d x with q | q; exact absurd (q.symm.trans e) (by simp); exact q
  have hx := X _ (mem_of_lkp (l1 x o e))
  refine ⟨fun b ob eb => hk b ob (fun q => by rw [q, hx.2] at eb; cases eb) (B b ob eb), ⟨led.filter (fun q => q.1 != x), fun q hq => ?_, N.sublist ((List.filter_sublist).map _), ?_⟩, G, O, Nat.le_trans Z hz⟩
  · obtain ⟨a1, a2⟩ := List.mem_filter.mp hq
    exact ⟨hk _ _ (by simpa using a2) (X q a1).1, (X q a1).2⟩
  · refine h2.mono fun b ob eb => ?_
    have hb : b ≠ x := fun q => by rw [q, n2] at eb; cases eb
    unfold lkp
    rw [lookup_filter_ne hb]
    exact l2 b ob eb


theorem Itr.next {I : Addr} {n : Nat} {T : Nat → Heap → Prop} {P : Nat → Value → Prop} {need : List Res → Prop} (IT : Itr w H₀ o₀ I n T P need) (hA : A.handled = none) {i : Nat} {L : Addr} {names : List Str} {vs : List (Option Value)} {Q : Option Value → Shared → Prop}
    (hi : i ≤ n) (hn : need (ItR I (T i) :: FrR H₀ L names vs :: R)) (S : St H₀ o₀ (ItR I (T i) :: FrR H₀ L names vs :: R) s)
    (hitem : i < n → ∀ v s', P i v → St H₀ o₀ (ItR I (T (i + 1)) :: FrR H₀ L names vs :: R) s' → Q (some v) s')
    (hend : i = n → ∀ s', St H₀ o₀ (FrR H₀ L names vs :: R) s' → Q none s') : Does w A (pyNext (.ref I)) Q s := by
  obtain ⟨fp, G, W, hG⟩ := IT.walk A hA
  have g := hG _ _ hn S
  have t := S.itr (.head _)
  -- the frame tells that the heap does not shrink
  have big : ∀ h' : Heap, (∀ b o, b ∉ [I] → s.heap.get? b = some o → h'.get? b = some o) → H₀.objs.size ≤ h'.objs.size := by
    intro h' hk
    obtain ⟨q, hq, hr⟩ := S.sw.get (.head _)
    obtain ⟨ha, oL, m, e1, _⟩ := FrR_def.mp hr
    obtain ⟨q2, hq2, hr2⟩ := S.get (.head _)
    obtain ⟨o2, e2, _⟩ := ItR_def.mp hr2
    have hne : L ≠ I := by
      intro e
      obtain ⟨B, ⟨led, X, N, p1, p2, d, l1, l2, h1, p3, p4, d', l3, l4, h3, h4⟩, _⟩ := S
      obtain ⟨o5, e5, _⟩ := ItR_def.mp h1
      obtain ⟨_, o6, m6, e6, _⟩ := FrR_def.mp h3
      rcases d I with z | z
      · rw [e5] at z; cases z
      · have := l3 _ _ e6; rw [e, z] at this; cases this
    exact Nat.le_of_lt (Nat.lt_of_le_of_lt ha (Heap.lt_size (hk L oL (by simpa using hne) (hq _ _ e1))))
  rcases Nat.lt_or_ge i n with hlt | hge
  · refine W.item i s _ _ hlt ⟨t, g⟩ fun v h' tk hP st hk => hitem hlt v _ hP ?_
    obtain ⟨B, ⟨led, X, N, p1, p2, d, l1, l2, h1, h2⟩, Gn, O, Z⟩ := S
    obtain ⟨o, e, f⟩ := ItR_def.mp h1
    obtain ⟨o', e', f'⟩ := IT.loc _ _ st.1
    have n2 : p2 I = none := by rcases d I with q | q; exact absurd (q.symm.trans e) (by simp); exact q
    have hx := X _ (mem_of_lkp (l1 _ _ e))
    refine ⟨fun b ob eb => hk b ob (by simp only [List.mem_singleton]; intro q; rw [q, hx.2] at eb; cases eb) (B b ob eb), ⟨setA led I o', fun q hq => ?_, nodup_setA N, ?_⟩, Gn, O, big h' hk⟩
    · rcases mem_setA hq with rfl | ⟨h3, h4⟩
      · exact ⟨e', hx.2⟩
      · exact ⟨hk _ _ (by simpa using h4) (X _ h3).1, (X _ h3).2⟩
    · rw [lkp_setA]
      exact ⟨p1.up I o', p2, PH.dj_up d n2, PH.up_le l1, PH.le_up l2 n2, ItR_def.mpr ⟨o', up_self, f'⟩, h2⟩
  · have : i = n := by omega
    subst this
    refine W.done s _ _ ⟨t, g⟩ fun h' tk hk => hend rfl _ ?_
    obtain ⟨B, ⟨led, X, N, p1, p2, d, l1, l2, h1, h2⟩, Gn, O, Z⟩ := S
    obtain ⟨o, e, f⟩ := ItR_def.mp h1
    have n2 : p2 I = none := by rcases d I with q | q; exact absurd (q.symm.trans e) (by simp); exact q
    have hx := X _ (mem_of_lkp (l1 _ _ e))
    refine ⟨fun b ob eb => hk b ob (by simp only [List.mem_singleton]; intro q; rw [q, hx.2] at eb; cases eb) (B b ob eb), ⟨led.filter (fun q => q.1 != I), fun q hq => ?_, N.sublist ((List.filter_sublist).map _), ?_⟩, Gn, O, big h' hk⟩
    · obtain ⟨a1, a2⟩ := List.mem_filter.mp hq
      exact ⟨hk _ _ (by simpa using a2) (X q a1).1, (X q a1).2⟩
    · refine h2.mono fun b ob eb => ?_
      have hb : b ≠ I := fun q => by rw [q, n2] at eb; cases eb
      unfold lkp
      rw [lookup_filter_ne hb]
      exact l2 b ob eb

/-- over an owned list -/
theorem itr_list {I l : Addr} {vs : List Value} (hne : l ≠ I) : Itr w H₀ o₀ I vs.length (fun i h => h.IsListIter I l i) (fun i v => vs[i]? = some v) (fun R => LIn R l vs) where
  loc := fun i h ⟨o, e, r⟩ => ⟨o, e, fun h2 e2 => ⟨o, e2, r⟩⟩
  walk := fun A hA => ⟨[I, l], fun h => h.IsList l vs.toArray, by
    have := Walks.list (prog := PySem.Challenge.rw_pc0244_01.row.prog) (w := w) hA I l hne vs.toArray
    simpa using this, fun R s hn S => S.isList hn⟩
theorem itr_range {I : Addr} {a c : Int} {n : Nat} : Itr w H₀ o₀ I n (fun i h => IsRangeIter h I (a + (i : Nat) * c) ((n : Int) - (i : Nat)) c) (fun i v => ∃ t, v = .int (a + i * c) t) (fun _ => True) where
  loc := fun i h e => ⟨_, e, fun h2 e2 => e2⟩
  walk := fun A hA => ⟨[I], fun _ => True, by
    have W := Walks.range (prog := PySem.Challenge.rw_pc0244_01.row.prog) (w := w) hA I a c n
    exact ⟨W.sub, fun i h h' st hk => ⟨W.frame i h h' st.1 hk, trivial⟩, fun i s Q E hi st hQ => W.item i s Q E hi st.1 fun v h' tk hP st' hk => hQ v h' tk hP ⟨st', trivial⟩ hk, fun s Q E st hQ => W.done s Q E st.1 hQ, fun i s Q E st hQ => W.self i s Q E st.1 hQ⟩, fun _ _ _ _ => trivial⟩

theorem d_iter_list {l : Addr} {vs : List Value} {Q : Value → Shared → Prop} (S : St H₀ o₀ R s) (hm : LIn R l vs)
    (h : ∀ I s', Itr w H₀ o₀ I vs.length (fun i h => h.IsListIter I l i) (fun i v => vs[i]? = some v) (fun R => LIn R l vs) → St H₀ o₀ (ItR I (fun h => h.IsListIter I l 0) :: R) s' → Q (.ref I) s') : Does w A (pyIter (.ref l)) Q s := by
  have hl := S.isList hm
  have hne : l ≠ s.heap.objs.size := by obtain ⟨o, e, _⟩ := hl; exact Nat.ne_of_lt (Heap.lt_size e)
  refine wpAny_pyIter_list hl (h _ _ (itr_list hne) (S.push (tk := s.toks) rfl ?_))
  exact ItR_def.mpr ⟨_, up_self, fun h e => ⟨_, e, rfl, rfl⟩⟩
theorem d_iter_range {r : Addr} {a b c : Int} {t u v : Tok} {n : Nat} {Q : Value → Shared → Prop} (S : St H₀ o₀ R s) (hr : IsRange s.heap r a b c t u v) (hs : Builtin.Range.small a b c = true) (hn : Builtin.Range.rangeSize a b c = n)
    (h : ∀ I s', Itr w H₀ o₀ I n (fun i h => IsRangeIter h I (a + (i : Nat) * c) ((n : Int) - (i : Nat)) c) (fun i v => ∃ t, v = .int (a + i * c) t) (fun _ => True) → St H₀ o₀ (ItR I (fun h => IsRangeIter h I (a + (0 : Nat) * c) ((n : Int) - (0 : Nat)) c) :: R) s' → Q (.ref I) s') : Does w A (pyIter (.ref r)) Q s := by
  refine wpAny_pyIter_range hr hs (h _ _ itr_range (S.push (tk := s.toks) rfl ?_))
  refine ItR_def.mpr ⟨_, up_self, fun h e => ?_⟩
  show h.get? _ = some _
  rw [e, hn]
  simp

theorem itr_str {I : Addr} {x : Str} {t : Tok} (ty : String) (hty : ty = "str_ascii_iterator" ∨ ty = "str_iterator") : Itr w H₀ o₀ I x.cps.size (fun i h => h.IsStrIter I ty x t i) (SignAt x) (fun _ => True) where
  loc := fun i h ⟨o, e, r⟩ => ⟨o, e, fun h2 e2 => ⟨o, e2, r⟩⟩
  walk := fun A hA => ⟨[I], fun _ => True, by
    have W : Walks PySem.Challenge.rw_pc0244_01.row.prog w A I [I] [I] x.cps.size (SignAt x) (fun i h => h.IsStrIter I ty x t i) := by
      rcases hty with rfl | rfl
      · exact Walks.strAscii hA I x t
      · exact Walks.strWide hA I x t
    exact ⟨W.sub, fun i h h' st hk => ⟨W.frame i h h' st.1 hk, trivial⟩, fun i s Q E hi st hQ => W.item i s Q E hi st.1 fun v h' tk hP st' hk => hQ v h' tk hP ⟨st', trivial⟩ hk, fun s Q E st hQ => W.done s Q E st.1 hQ, fun i s Q E st hQ => W.self i s Q E st.1 hQ⟩, fun _ _ _ _ => trivial⟩
theorem d_iter_str {x : Str} {t : Tok} {Q : Value → Shared → Prop} (S : St H₀ o₀ R s)
    (h : ∀ I ty s', Itr w H₀ o₀ I x.cps.size (fun i h => h.IsStrIter I ty x t i) (SignAt x) (fun _ => True) → St H₀ o₀ (ItR I (fun h => h.IsStrIter I ty x t 0) :: R) s' → Q (.ref I) s') : Does w A (pyIter (.str x t)) Q s := by
  cases ha : x.cps.all (· < 128)
  · exact wpAny_pyIter_wide ha (h _ "str_iterator" _ (itr_str _ (.inr rfl)) (S.push (tk := s.toks) rfl (ItR_def.mpr ⟨_, up_self, fun h e => ⟨_, e, rfl, rfl⟩⟩)))
  · exact wpAny_pyIter_ascii ha (h _ "str_ascii_iterator" _ (itr_str _ (.inl rfl)) (S.push (tk := s.toks) rfl (ItR_def.mpr ⟨_, up_self, fun h e => ⟨_, e, rfl, rfl⟩⟩)))

/-! ### the for -/
noncomputable def ForAt (w : World) (A : Around) (env : Env) (target : Expr) (body : List Stmt) (Q : Flow → Shared → Prop) (it : Value) (s : Shared) : Prop :=
  codeAny (model PySem.Challenge.rw_pc0244_01.row.prog w) A (.forLoop target it body [] env) (fun r s' => match r with | .ok f => Q f s' | .error e => cameBackBy (model PySem.Challenge.rw_pc0244_01.row.prog w) A env (fun _ _ => False) e s') s
theorem d_for {target iter : Expr} {body : List Stmt} {pos : Pos} {Q : Flow → Shared → Prop} (h : Does w A (eval iter env) (fun x s₁ => Does w A (pyIter x) (fun it s₂ => ForAt w A env target body Q it s₂) s₁) s)
    (hs : ∀ x, foldedSetIterable iter env x = pure x) : Does w A (exec (.For target iter body [] pos) env) Q s := wpAny_For h hs
inductive FlOk (H₀ : Heap) (o₀ : OsState) (J : Nat → List (Option Value) → List Res → Prop) (i : Nat) (L : Addr) (names : List Str) (it : Res) (s : Shared) : Prop
  | mk (vs : List (Option Value)) (R : List Res) (h : J i vs R) (S : St H₀ o₀ (FrR H₀ L names vs :: it :: R) s) : FlOk H₀ o₀ J i L names it s
theorem d_forL {I : Addr} {n : Nat} {T : Nat → Heap → Prop} {P : Nat → Value → Prop} {need : List Res → Prop} {x : Str} {px : Pos} {body : List Stmt} {L : Addr} {names : List Str} {vs₀ : List (Option Value)} {Q : Flow → Shared → Prop}
    (J : Nat → List (Option Value) → List Res → Prop) (hA : A.handled = none) (IT : Itr w H₀ o₀ I n T P need) (S : St H₀ o₀ (ItR I (T 0) :: FrR H₀ L names vs₀ :: R) s) (h0 : J 0 vs₀ R)
    (hneed : ∀ i vs R, J i vs R → need (ItR I (T i) :: FrR H₀ L names vs :: R))
    (hL : env.locals = L) (hx : ix x names < names.length) (hk : env.scope.kind = .function) (hl : env.kindOf x = some .local)
    (turn : ∀ i v vs R s, i < n → P i v → J i vs R → St H₀ o₀ (FrR H₀ L names (vs.set (ix x names) (some v)) :: ItR I (T (i + 1)) :: R) s →
      ∀ K : Flow → Shared → Prop, Po (fun f s₃ => match f with | .next => FlOk H₀ o₀ J (i + 1) L names (ItR I (T (i + 1))) s₃ | .cont => FlOk H₀ o₀ J (i + 1) L names (ItR I (T (i + 1))) s₃ | .brk => Q .next s₃ | .ret v => Q (.ret v) s₃) K → Does w A (execs body env) K s)
    (done : ∀ vs R s, J n vs R → St H₀ o₀ (FrR H₀ L names vs :: R) s → Q .next s) : ForAt w A env (.Name x px) body Q (.ref I) s := by
  refine codeAny_forLoop (fun k s => ∃ i vs R, k = n - i ∧ i ≤ n ∧ J i vs R ∧ St H₀ o₀ (ItR I (T i) :: FrR H₀ L names vs :: R) s) (fun k s hI => ?_) n ⟨0, vs₀, R, by omega, by omega, h0, S⟩
  obtain ⟨i, vs, R, rfl, hi, hJ, S⟩ := hI
  refine wpAny_mono (E := fun _ _ => False) (IT.next hA hi (hneed i vs R hJ) S (Q := fun r s₁ => match r with
    | none => Does w A (execs [] env) (fun f s₃ => Q f s₃) s₁
    | some v => Does w A (assign (.Name x px) env v) (fun _ s₂ => Does w A (execs body env) (fun f s₃ => match f with
        | .next => ∃ m, m < n - i ∧ (∃ i vs R, m = n - i ∧ i ≤ n ∧ J i vs R ∧ St H₀ o₀ (ItR I (T i) :: FrR H₀ L names vs :: R) s₃)
        | .cont => ∃ m, m < n - i ∧ (∃ i vs R, m = n - i ∧ i ≤ n ∧ J i vs R ∧ St H₀ o₀ (ItR I (T i) :: FrR H₀ L names vs :: R) s₃)
        | .brk => Q .next s₃ | .ret v => Q (.ret v) s₃) s₂) s₁) (fun hlt v s' hP S' => ?_) (fun he s' S' => ?_)) (fun r s₁ z => ?_) (fun _ _ x => x.elim)
  · dsimp only
    show Does w A (standAt px >>= fun _ => bindName env x v) _ s'
    refine wpAny_bind (wpAny_standAt (wpAny_bindName ?_))
    refine d_store S'.sw hL hx hk hl fun s₂ S₂ => ?_
    refine turn i v vs R s₂ hlt hP hJ S₂ _ ⟨fun f s₃ z => ?_⟩
    cases f with
    | next => obtain ⟨vs', R', hJ', S₃⟩ := z; exact ⟨n - (i + 1), by omega, i + 1, vs', R', rfl, by omega, hJ', S₃.sw⟩
    | cont => obtain ⟨vs', R', hJ', S₃⟩ := z; exact ⟨n - (i + 1), by omega, i + 1, vs', R', rfl, by omega, hJ', S₃.sw⟩
    | brk => exact z
    | ret v => exact z
  · subst he
    exact wpAny_execs_nil (done vs R s' hJ S')
  · cases r with
    | none => exact wpAny_mono z (fun _ _ x => x) fun _ _ x => x.elim
    | some v => exact wpAny_mono z (fun _ _ z => wpAny_mono z (fun _ _ x => x) fun _ _ x => x.elim) fun _ _ x => x.elim

/-! ### the list comprehension -/
inductive TnOk (H₀ : Heap) (o₀ : OsState) (J : Nat → List Value → List Res → Prop) (i : Nat) (ys : List Value) (a b c d : Res) (s : Shared) : Prop
  | mk (R : List Res) (h : J i ys R) (S : St H₀ o₀ (a :: b :: c :: d :: R) s) : TnOk H₀ o₀ J i ys a b c d s
theorem d_if0 {f : Expr → Bool → Sem (ForInStep Bool)} {t : Sem Value} {Y : Value → Shared → Prop} {N : Unit → Shared → Prop} (h : ∀ K, Po Y K → ∀ K', Po N K' → (if true = true then Does w A t K s else K' () s)) :
    ∀ K, Po Y K → ∀ K', Po N K' → Does w A (forIn ([] : List Expr) true f) (fun ok s₃ => if ok = true then Does w A t K s₃ else K' () s₃) s := fun K hK K' hK' => wpAny_pure (h K hK K' hK')
theorem d_if1 {c : Expr} {g : Expr → Sem Bool} {t : Sem Value} {Y : Value → Shared → Prop} {N : Unit → Shared → Prop} (h : ∀ K, Po Y K → ∀ K', Po N K' → Does w A (g c) (fun ok s₃ => if ok = true then Does w A t K s₃ else K' () s₃) s) :
    ∀ K, Po Y K → ∀ K', Po N K' → Does w A (forIn [c] true fun c r => if r = true then do let ok ← g c; pure (ForInStep.yield ok) else pure (ForInStep.yield r)) (fun ok s₃ => if ok = true then Does w A t K s₃ else K' () s₃) s := by
  intro K hK K' hK'
  rw [List.forIn_cons]
  refine wpAny_bind ?_
  simp only [if_true]
  refine wpAny_bind (wpAny_mono (h K hK K' hK') (fun b s₁ z => wpAny_pure ?_) fun _ _ x => x)
  dsimp only
  rw [List.forIn_nil]
  exact wpAny_pure z

theorem comp_core {I : Addr} {n : Nat} {T : Nat → Heap → Prop} {P : Nat → Value → Prop} {need : List Res → Prop} {x : Str} {px pos : Pos} {elt iter : Expr} {ifs : List Expr} {scope : Scope} {cl : List (Str × Addr)} {L : Addr} {names : List Str} {lv : List (Option Value)} {RR : Value → Addr → Result → Shared → Prop}
    (J : Nat → List Value → List Res → Prop) (hA : A.handled = none) (IT : Itr w H₀ o₀ I n T P need) (S : St H₀ o₀ (ItR I (T 0) :: FrR H₀ L names lv :: R) s) (h0 : J 0 [] R)
    (hneed : ∀ i C D vs ys R, J i ys R → need (ItR I (T i) :: FrR H₀ C [x] vs :: LsR D ys :: FrR H₀ L names lv :: R)) (hz : n ≤ sizeLine) (hlen : ∀ i ys R, J i ys R → ys.length ≤ i)
    (hcell : ∀ y ∈ scope.names, y.2 ≠ .cell) (hkind : scope.kind = .function) (hx : scope.names.lookup x = some .local)
    (turn : ∀ i v C D ys R s, i < n → P i v → J i ys R → St H₀ o₀ (FrR H₀ C [x] [some v] :: ItR I (T (i + 1)) :: LsR D ys :: FrR H₀ L names lv :: R) s →
      Does w A (forIn ifs true fun c r => if r = true then do let ok ← isTrue c (compEnvC scope cl C env) (eval c (compEnvC scope cl C env)); pure (ForInStep.yield ok) else pure (ForInStep.yield r)) (fun ok s₃ =>
        if ok = true then Does w A (eval elt (compEnvC scope cl C env)) (fun y s₄ => ∃ R', J (i + 1) (ys ++ [y]) R' ∧ St H₀ o₀ (FrR H₀ C [x] [some v] :: ItR I (T (i + 1)) :: LsR D ys :: FrR H₀ L names lv :: R') s₄) s₃
        else ∃ R', J (i + 1) ys R' ∧ St H₀ o₀ (FrR H₀ C [x] [some v] :: ItR I (T (i + 1)) :: LsR D ys :: FrR H₀ L names lv :: R') s₃) s)
    (hRR : ∀ D C vs ys R s, J n ys R → St H₀ o₀ (FrR H₀ C [x] vs :: LsR D ys :: FrR H₀ L names lv :: R) s → RR (.ref D) C (.ok .next) s) :
    Does w A (newList []) (fun acc s₃ => Does w A (newFunctionEnv scope env.globals cl [] env.qual none .none (some env)) (fun cenv s₄ =>
      codeAny (model PySem.Challenge.rw_pc0244_01.row.prog w) A (.compStart (.ListComp elt [⟨.Name x px, iter, ifs, 0⟩] scope pos) 0 (.ref I) acc { cenv with scope := relabel scope env }) (RR acc cenv.locals) s₄) s₃) s := by
  refine wpAny_newObj_type ?_
  have S1 : St H₀ o₀ (LsR s.heap.objs.size [] :: ItR I (T 0) :: FrR H₀ L names lv :: R) { s with heap := s.heap.push { cls := .type "list", dict := none, data := .seq ([] : List Value).toArray } } := S.push (tk := s.toks) rfl (LsR_def.mpr ⟨_, up_self, isLs [] 0⟩)
  generalize s.heap.objs.size = D at S1 ⊢
  generalize hs1 : ({ s with heap := s.heap.push { cls := .type "list", dict := none, data := .seq ([] : List Value).toArray } } : Shared) = s1 at S1 ⊢
  clear hs1 S
  refine wpAny_newFunctionEnv hcell (by intro y hy; simp at hy) (fun h₁ hns₁ hsb₁ => ?_) hkind
  have S2 : St H₀ o₀ (FrR H₀ s1.heap.objs.size [x] [none] :: LsR D [] :: ItR I (T 0) :: FrR H₀ L names lv :: R) { s1 with heap := h₁, toks := s1.toks + ([] : List (Str × Value)).length } := by
    obtain ⟨oL, es, ep, g1, g2, g3, g4⟩ := hns₁
    obtain ⟨B, ⟨led, X, N, h2⟩, G, O, Z⟩ := S1
    have nl : ∀ q ∈ led, q.1 ≠ s1.heap.objs.size := fun q hq e => absurd (Heap.lt_size (X q hq).1) (by rw [e]; exact Nat.lt_irrefl _)
    have n1 := lkp_none nl
    have n0 : H₀.get? s1.heap.objs.size = none := by
      cases e : H₀.get? s1.heap.objs.size with
      | none => rfl
      | some o' => exact absurd (Heap.lt_size (B _ _ e)) (Nat.lt_irrefl _)
    have hkeep : ∀ b o, s1.heap.get? b = some o → h₁.get? b = some o := fun b o e => hsb₁.extBut b o (Nat.ne_of_lt (Heap.lt_size e)) (Heap.get?_push_of_some _ e)
    refine ⟨fun b ob eb => hkeep b ob (B b ob eb), ⟨setA led s1.heap.objs.size oL, fun q hq => ?_, nodup_setA N, ?_⟩, G, O, Nat.le_trans Z (Nat.le_of_lt (Heap.lt_size g1))⟩
    · rcases mem_setA hq with rfl | ⟨h3, h4⟩
      · exact ⟨g1, n0⟩
      · exact ⟨hkeep _ _ (X _ h3).1, (X _ h3).2⟩
    · rw [lkp_setA]
      refine ⟨PH.nil.up s1.heap.objs.size oL, lkp led, PH.dj_up (fun _ => .inl rfl) n1, PH.up_le (fun _ _ e => by cases e), PH.le_up (PH.le_refl _) n1, FrR_def.mpr ⟨Z, oL, _, up_self, ⟨es, ep, g2, g3, g4⟩, fun y v hv => ?_⟩, h2⟩
      exfalso
      have := List.mem_of_getElem? hv
      simp at this
  generalize s1.heap.objs.size = C at S2 ⊢
  generalize hs2 : ({ s1 with heap := h₁, toks := s1.toks + ([] : List (Str × Value)).length } : Shared) = s2 at S2 ⊢
  clear hs2 S1 hns₁ hsb₁
  have hxC : (compEnvC scope cl C env).kindOf x = some .local := lookup_relabel_local hx
  have hkC : (compEnvC scope cl C env).scope.kind = .function := hkind
  have loop : codeAny (model PySem.Challenge.rw_pc0244_01.row.prog w) A (.compLoop (.ListComp elt [⟨.Name x px, iter, ifs, 0⟩] scope pos) 0 (.ref I) (.ref D) (compEnvC scope cl C env)) (RR (.ref D) C) s2 := by
    refine codeAny_compLoop_tests (fun k s => ∃ i vs ys R, k = n - i ∧ i ≤ n ∧ J i ys R ∧ (vs = [none] ∨ ∃ v, vs = [some v]) ∧ St H₀ o₀ (ItR I (T i) :: FrR H₀ C [x] vs :: LsR D ys :: FrR H₀ L names lv :: R) s) (fun k s hI => ?_) n
      ⟨0, [none], [], R, by omega, by omega, h0, .inl rfl, S2.sw12.sw⟩
    obtain ⟨i, vs, ys, R, rfl, hi, hJ, hvs, S⟩ := hI
    refine wpAny_mono (E := fun _ _ => False) (IT.next hA hi (hneed i C D vs ys R hJ) S (Q := fun r s₁ => match r with
      | none => RR (.ref D) C (.ok .next) s₁
      | some v => Does w A (assign (.Name x px) (compEnvC scope cl C env) v) (fun _ s₂ =>
          Does w A (forIn ifs true fun c r => if r = true then do let ok ← isTrue c (compEnvC scope cl C env) (eval c (compEnvC scope cl C env)); pure (ForInStep.yield ok) else pure (ForInStep.yield r)) (fun ok s₃ =>
            if ok = true then Does w A (eval elt (compEnvC scope cl C env)) (fun y s₄ => Does w A (call (.builtin "list.append") [.ref D, y]) (fun _ s₅ => ∃ m, m < n - i ∧ (∃ i vs ys R, m = n - i ∧ i ≤ n ∧ J i ys R ∧ (vs = [none] ∨ ∃ v, vs = [some v]) ∧ St H₀ o₀ (ItR I (T i) :: FrR H₀ C [x] vs :: LsR D ys :: FrR H₀ L names lv :: R) s₅)) s₄) s₃
            else ∃ m, m < n - i ∧ (∃ i vs ys R, m = n - i ∧ i ≤ n ∧ J i ys R ∧ (vs = [none] ∨ ∃ v, vs = [some v]) ∧ St H₀ o₀ (ItR I (T i) :: FrR H₀ C [x] vs :: LsR D ys :: FrR H₀ L names lv :: R) s₃)) s₂) s₁) (fun hlt v s' hP S' => ?_) (fun he s' S' => ?_)) (fun r s₁ z => ?_) (fun _ _ x => x.elim)
    · dsimp only
      show Does w A (standAt px >>= fun _ => bindName (compEnvC scope cl C env) x v) _ s'
      refine wpAny_bind (wpAny_standAt (wpAny_bindName ?_))
      refine d_store (env := compEnvC scope cl C env) S'.sw rfl (by simp [ix]) hkC hxC fun s₂ S₂ => ?_
      have S₂' : St H₀ o₀ (FrR H₀ C [x] [some v] :: ItR I (T (i + 1)) :: LsR D ys :: FrR H₀ L names lv :: R) s₂ := by
        have : vs.set (ix x [x]) (some v) = [some v] := by rcases hvs with rfl | ⟨u, rfl⟩ <;> simp [ix]
        rw [this] at S₂; exact S₂
      refine does_mono (turn i v C D ys R s₂ hlt hP hJ S₂') fun ok s₃ z => ?_
      cases ok with
      | false => obtain ⟨R', hJ', S₃⟩ := z; exact ⟨n - (i + 1), by omega, i + 1, _, ys, R', rfl, by omega, hJ', .inr ⟨v, rfl⟩, S₃.sw⟩
      | true =>
        refine does_mono z fun y s₄ z => ?_
        obtain ⟨R', hJ', S₄⟩ := z
        refine d_appendL S₄.sw12 (by have := hlen i ys R hJ; omega) fun s₅ S₅ => ?_
        exact ⟨n - (i + 1), by omega, i + 1, _, _, R', rfl, by omega, hJ', .inr ⟨v, rfl⟩, S₅.sw12.sw⟩
    · subst he
      exact hRR D C vs ys R s' hJ S'
    · cases r with
      | none => exact z
      | some v =>
        refine wpAny_mono z (fun _ _ z => wpAny_mono z (fun ok s₃ z => ?_) fun _ _ x => x.elim) fun _ _ x => x.elim
        cases ok with
        | false => exact z
        | true => exact wpAny_mono z (fun _ _ z => wpAny_mono z (fun _ _ z => z) fun _ _ x => x.elim) fun _ _ x => x.elim
  refine codeAny_compStart_list loop ?_
  obtain ⟨fp, G, W, hG⟩ := IT.walk A hA
  have S3 := S2.sw12.sw
  exact W.self 0 _ _ _ ⟨S3.itr (.head _), hG _ _ (hneed 0 C D _ _ _ h0) S3⟩ loop

inductive CompAt (w : World) (H₀ : Heap) (o₀ : OsState) (A : Around) (env : Env) (scope : Scope) (cl : List (Str × Addr)) (x : Str) (ifs : List Expr) (elt : Expr) (fin : Addr → List (Str) → List (Option Value) → Addr → List Value → List Res → Shared → Prop) (it : Value) (s : Shared) : Prop
  | mk (I : Addr) (n : Nat) (T : Nat → Heap → Prop) (P : Nat → Value → Prop) (need : List Res → Prop) (L : Addr) (names : List Str) (lv : List (Option Value)) (R : List Res) (J : Nat → List Value → List Res → Prop)
    (e : it = .ref I) (IT : Itr w H₀ o₀ I n T P need) (S : St H₀ o₀ (ItR I (T 0) :: FrR H₀ L names lv :: R) s) (h0 : J 0 [] R)
    (hneed : ∀ i C D vs ys R, J i ys R → need (ItR I (T i) :: FrR H₀ C [x] vs :: LsR D ys :: FrR H₀ L names lv :: R)) (hz : n ≤ sizeLine) (hlen : ∀ i ys R, J i ys R → ys.length ≤ i)
    (turn : ∀ i v C D ys R s, i < n → P i v → J i ys R → St H₀ o₀ (FrR H₀ C [x] [some v] :: ItR I (T (i + 1)) :: LsR D ys :: FrR H₀ L names lv :: R) s →
      ∀ K : Value → Shared → Prop, Po (fun y s₄ => TnOk H₀ o₀ J (i + 1) (ys ++ [y]) (FrR H₀ C [x] [some v]) (ItR I (T (i + 1))) (LsR D ys) (FrR H₀ L names lv) s₄) K →
      ∀ K' : Unit → Shared → Prop, Po (fun _ s₃ => TnOk H₀ o₀ J (i + 1) ys (FrR H₀ C [x] [some v]) (ItR I (T (i + 1))) (LsR D ys) (FrR H₀ L names lv) s₃) K' →
      Does w A (forIn ifs true fun c r => if r = true then do let ok ← isTrue c (compEnvC scope cl C env) (eval c (compEnvC scope cl C env)); pure (ForInStep.yield ok) else pure (ForInStep.yield r)) (fun ok s₃ =>
        if ok = true then Does w A (eval elt (compEnvC scope cl C env)) K s₃ else K' () s₃) s)
    (done : ∀ D ys R s, J n ys R → St H₀ o₀ (FrR H₀ L names lv :: LsR D ys :: R) s → fin L names lv D ys R s) : CompAt w H₀ o₀ A env scope cl x ifs elt fin it s
theorem FrR.has {L : Addr} {names : List Str} {vs : List (Option Value)} : ∀ q : PH, FrR H₀ L names vs q → ∃ o, q L = some o := fun q h => let ⟨_, o, _, e, _⟩ := FrR_def.mp h; ⟨o, e⟩
theorem St.fns {L : Addr} {names : List Str} {vs : List (Option Value)} (S : St H₀ o₀ (FrR H₀ L names vs :: R) s) : ∃ m, s.heap.Ns L m := by
  obtain ⟨q, hq, hr⟩ := S.get (.head _)
  obtain ⟨_, o, m, e, ⟨es, ep, a, b, c⟩, _⟩ := FrR_def.mp hr
  exact ⟨m, o, es, ep, hq _ _ e, a, b, c⟩
theorem St.frOut {L : Addr} {names : List Str} {vs : List (Option Value)} {h' : Heap} (S : St H₀ o₀ (FrR H₀ L names vs :: R) s) (hs : Heap.SameBut L s.heap h') : St H₀ o₀ R { s with heap := h' } :=
  S.forget (tk := s.toks) (x := L) FrR.has (fun b o hb e => (hs.2 b hb).trans e) (Nat.le_of_eq hs.1.symm)
theorem d_comp {elt iter : Expr} {x : Str} {px : Pos} {ifs : List Expr} {scope : Scope} {cl : List (Str × Addr)} {pos : Pos} {Q : Value → Shared → Prop} (hA : A.handled = none)
    (hclos : closureFor scope env = pure cl) (hcell : ∀ y ∈ scope.names, y.2 ≠ .cell) (hkind : scope.kind = .function)
    (hnames : ∀ y ∈ scope.names, y.2 = .local → scope.names.lookup y.1 = some .local) (hx : scope.names.lookup x = some .local)
    (h : Does w A (eval iter env) (fun xv s₁ => Does w A (pyIter xv) (fun it s₂ => CompAt w H₀ o₀ A env scope cl x ifs elt (fun L names lv D ys R s => Q (.ref D) s) it s₂) s₁) s)
    (hs : ∀ x, foldedSetIterable iter env x = pure x) : Does w A (eval (.ListComp elt [⟨.Name x px, iter, ifs, 0⟩] scope pos) env) Q s := by
  show Does w A (eval (.ListComp elt [⟨.Name x px, iter, ifs, 0⟩] scope pos) env) Q s
  rw [eval_ListComp]
  refine wpAny_comprehension_free (use := none) rfl hs hclos hkind hnames (wpAny_mono h (fun xv s₁ h₁ => wpAny_mono h₁ (fun it s₂ h₂ => ?_) fun _ _ e => e) fun _ _ e => e)
  obtain ⟨I, n, T, P, need, L, names, lv, R, J, rfl, IT, S, h0, hneed, hz, hlen, turn, done⟩ := h₂
  refine comp_core (RR := fun acc C => compPost (model PySem.Challenge.rw_pc0244_01.row.prog w) A (fun _ _ => False) none Q acc C) J hA IT S h0 hneed hz hlen hcell hkind hx (fun i v C D ys R s hi hP hJ S => turn i v C D ys R s hi hP hJ S (fun y s₄ => ∃ R', J (i + 1) (ys ++ [y]) R' ∧ St H₀ o₀ (FrR H₀ C [x] [some v] :: ItR I (T (i + 1)) :: LsR D ys :: FrR H₀ L names lv :: R') s₄) ⟨fun y s z => let ⟨R, a, b⟩ := z; ⟨R, a, b⟩⟩ (fun _ s₃ => ∃ R', J (i + 1) ys R' ∧ St H₀ o₀ (FrR H₀ C [x] [some v] :: ItR I (T (i + 1)) :: LsR D ys :: FrR H₀ L names lv :: R') s₃) ⟨fun _ s z => let ⟨R, a, b⟩ := z; ⟨R, a, b⟩⟩) (fun D C vs ys R s hJ S => ?_)
  obtain ⟨m, hn⟩ := S.fns
  exact ⟨m, hn, fun h' hs' => done D ys R _ hJ (S.frOut hs').sw⟩
theorem d_compAssign {elt iter : Expr} {x y : Str} {px py : Pos} {ifs : List Expr} {scope : Scope} {cl : List (Str × Addr)} {pos spos : Pos} {Q : Flow → Shared → Prop} (hA : A.handled = none)
    (hsw : swapsWith (.ListComp elt [⟨.Name x px, iter, ifs, 0⟩] scope pos) (some (.Name y py)) spos.line env = pure true)
    (hclos : closureFor scope env = pure cl) (hcell : ∀ y ∈ scope.names, y.2 ≠ .cell) (hkind : scope.kind = .function)
    (hnames : ∀ y ∈ scope.names, y.2 = .local → scope.names.lookup y.1 = some .local) (hx : scope.names.lookup x = some .local) (hek : env.scope.kind = .function) (hy : env.kindOf y = some .local)
    (h : Does w A (eval iter env) (fun xv s₁ => Does w A (pyIter xv) (fun it s₂ => CompAt w H₀ o₀ A env scope cl x ifs elt (fun L names lv D ys R s => env.locals = L ∧ ix y names < names.length ∧ ∀ s', St H₀ o₀ (FrR H₀ L names (lv.set (ix y names) (some (.ref D))) :: LsR D ys :: R) s' → Q .next s') it s₂) s₁) s)
    (hs : ∀ x, foldedSetIterable iter env x = pure x) : Does w A (exec (.Assign [.Name y py] (.ListComp elt [⟨.Name x px, iter, ifs, 0⟩] scope pos) spos) env) Q s := by
  show Does w A (exec (.Assign [.Name y py] (.ListComp elt [⟨.Name x px, iter, ifs, 0⟩] scope pos) spos) env) Q s
  rw [exec_Assign_Name_used _ _ _ _ hsw]
  refine wpAny_bind (wpAny_standAt (wpAny_bind ?_))
  show wpAny _ A (do let _ ← comprehension (.ListComp elt [⟨.Name x px, iter, ifs, 0⟩] scope pos) scope env _ (newList []) false (eval iter env) (some (assign (.Name y py) env))) _ _ s
  refine wpAny_bind (wpAny_mono (wpAny_comprehension_free (use := some (assign (.Name y py) env)) (Q := fun _ s' => Q .next s') rfl hs hclos hkind hnames
    (wpAny_mono h (fun xv s₁ h₁ => wpAny_mono h₁ (fun it s₂ h₂ => ?_) fun _ _ e => e) fun _ _ e => e)) (fun _ s' hq => wpAny_pure (wpAny_pure hq)) fun _ _ e => e)
  obtain ⟨I, n, T, P, need, L, names, lv, R, J, rfl, IT, S, h0, hneed, hz, hlen, turn, done⟩ := h₂
  refine comp_core (RR := fun acc C => compPost (model PySem.Challenge.rw_pc0244_01.row.prog w) A (fun _ _ => False) (some (assign (.Name y py) env)) (fun _ s' => Q .next s') acc C) J hA IT S h0 hneed hz hlen hcell hkind hx (fun i v C D ys R s hi hP hJ S => turn i v C D ys R s hi hP hJ S (fun y s₄ => ∃ R', J (i + 1) (ys ++ [y]) R' ∧ St H₀ o₀ (FrR H₀ C [x] [some v] :: ItR I (T (i + 1)) :: LsR D ys :: FrR H₀ L names lv :: R') s₄) ⟨fun y s z => let ⟨R, a, b⟩ := z; ⟨R, a, b⟩⟩ (fun _ s₃ => ∃ R', J (i + 1) ys R' ∧ St H₀ o₀ (FrR H₀ C [x] [some v] :: ItR I (T (i + 1)) :: LsR D ys :: FrR H₀ L names lv :: R') s₃) ⟨fun _ s z => let ⟨R, a, b⟩ := z; ⟨R, a, b⟩⟩) (fun D C vs ys R s hJ S => ?_)
  have hS : St H₀ o₀ (FrR H₀ L names lv :: FrR H₀ C [x] vs :: LsR D ys :: R) s := S.sw12.sw
  obtain ⟨hL, hix, hfin⟩ := done D ys R s hJ hS.drop1
  show Does w A (standAt py >>= fun _ => bindName env y (.ref D)) _ s
  refine wpAny_bind (wpAny_standAt (wpAny_bindName ?_))
  refine d_store hS hL hix hek hy fun s' S' => ?_
  obtain ⟨m, hn⟩ := S'.sw.fns
  exact ⟨m, hn, fun h' hs' => hfin _ (S'.sw.frOut hs')⟩
end iters

section more
variable {w : World} {H₀ : Heap} {o₀ : OsState} {A : Around} {s : Shared} {rs R : List Res} {env : Env} {fr : Res}

/-! ### displays, products, ranges -/
theorem d_list {elts : List Expr} {pos : Pos} {Q : Value → Shared → Prop} (h : Does w A (spliced (backTo pos (starEach elts env))) (fun vs s₁ => Does w A (newList vs) Q s₁) s) : Does w A (eval (.List elts pos) env) Q s := List_ h
theorem d_newList {vs : List Value} {Q : Value → Shared → Prop} (S : St H₀ o₀ (fr :: R) s) (hz : vs.length ≤ sizeLine) (h : ∀ l s', St H₀ o₀ (fr :: LsR l vs :: R) s' → Q (.ref l) s') : Does w A (newList vs) Q s := by
  refine wpAny_newObj_type (h _ _ (S.push (tk := s.toks) rfl ?_).sw) (by show vs.toArray.size ≤ sizeLine; rw [List.size_toArray]; exact hz)
  exact LsR_def.mpr ⟨_, up_self, isLs vs 0⟩
theorem foldl_app (n : Nat) (v : Value) (acc : Array Value) : (List.replicate n #[v]).foldl (fun x1 x2 => x1 ++ x2) acc = (acc.toList ++ List.replicate n v).toArray := by
  induction n generalizing acc with
  | zero => simp
  | succ n ih => rw [List.replicate_succ, List.foldl_cons, ih]; simp [List.replicate_succ]
theorem d_mulList {L : Addr} {names : List Str} {lv : List (Option Value)} {l : Addr} {v : Value} {n : Int} {u : Tok} {Q : Value → Shared → Prop} (S : St H₀ o₀ (FrR H₀ L names lv :: LsR l [v] :: R) s) (hz : n ≤ 2 ^ 24) (hz0 : -2 ^ 63 ≤ n)
    (h : ∀ l' s', St H₀ o₀ (FrR H₀ L names lv :: LsR l' (List.replicate n.toNat v) :: R) s' → Q (.ref l') s') : Does w A (binaryOp .Mult (.ref l) (.int n u)) Q s := by
  obtain ⟨k, e⟩ := S.lsExact (LIn.ls (.tail _ (.head _)))
  obtain ⟨m, led, F, N, k1, k2⟩ := S.fn
  refine mul_list (k := k) F N e hz0 (by omega) (by simp only [List.size_toArray, List.length_cons, List.length_nil]; omega) fun h' F' N' => h _ _ (St.sw12 (k2 h' s.toks _ _ _ F' N' (fun q hq => Nat.ne_of_lt (Heap.lt_size (N q hq).1)) ?_).sw).drop1
  refine LsR_def.mpr ⟨_, up_self, rfl, 0, ?_⟩
  simp only [List.isEmpty_toArray, List.isEmpty_cons, Bool.false_eq_true, if_false]
  rw [foldl_app]
  rfl
theorem d_callT {id : Str} {T : String} {p pos : Pos} {e : Expr} {es : List Expr} {Q : Value → Shared → Prop} (W : Wd w H₀) (S : St H₀ o₀ rs s) (hg : nsIn (KK w) mainGlobals id = some none) (hb : bootBuiltins id = some (.type T)) (hn : id ≠ "__name__")
    (h : Does w A (spliced (backTo pos (starEach (e :: es) env))) (fun vs s₁ => Does w A (call (.type T) vs) Q s₁) s)
    (hgl : env.globals = mainGlobals) (hbn : env.builtins = builtinsNs) (hk : env.scope.kind = .function) (hx : env.kindOf id = some .globalImplicit) (hd : (id == ("__debug__" : Str)) = false)
    (he : starEach (e :: es) env = (false, eval e env) :: starEach es env) (hplain : (backTo pos (starEach es env)).any (·.1) = false) : Does w A (eval (.Call (.Name id p) (e :: es) [] pos) env) Q s := by
  refine wpAny_Call_Name_kw (W.bltn S hg hb hn ?_ hgl hbn hk hx hd)
  rw [he] at h ⊢
  exact callWith_of (P := fun _ => True) (by show ((false || (backTo pos (starEach es env)).any (·.1)) || false) = false; rw [hplain]; rfl) (fun h _ => ⟨.machine, .inr (.inl rfl), Looks.of_pure rfl⟩) (evalArgs_plain (wpAny_mono h (fun vs s₁ z => ⟨trivial, z⟩) fun _ _ x => x))
theorem d_range1 {n : Int} {t : Tok} {Q : Value → Shared → Prop} (S : St H₀ o₀ rs s) (h : ∀ r t u v s', IsRange s'.heap r 0 n 1 t u v → St H₀ o₀ rs s' → Q (.ref r) s') : Does w A (call (.type "range") [.int n t]) Q s :=
  call_range_1 (h _ _ _ _ _ (Heap.get?_push_size _ rfl) (S.grow (fun b o e => Heap.get?_push_of_some _ e) (by rw [Heap.size_push]; exact Nat.le_succ _)))
theorem d_range3 {a b c : Int} {t u v : Tok} {Q : Value → Shared → Prop} (S : St H₀ o₀ rs s) (hc : c ≠ 0) (hz : c.natAbs < 2 ^ 60) (h : ∀ r t u v s', IsRange s'.heap r a b c t u v → St H₀ o₀ rs s' → Q (.ref r) s') : Does w A (call (.type "range") [.int a t, .int b u, .int c v]) Q s :=
  call_range_3 hc (h _ _ _ _ _ (Heap.get?_push_size _ rfl) (S.grow (tk := s.toks) (fun b o e => Heap.get?_push_of_some _ e) (by rw [Heap.size_push]; exact Nat.le_succ _))) (.inl (noPylong _ (by omega)))
theorem range_size {n : Nat} : Builtin.Range.rangeSize 0 n 1 = n := by
  unfold Builtin.Range.rangeSize
  rcases Nat.eq_zero_or_pos n with rfl | hn
  · rfl
  · rw [if_pos (by decide), if_pos (by omega)]; omega
theorem range_sizeD {n : Nat} : Builtin.Range.rangeSize (n - 1) (-1) (-1) = n := by
  unfold Builtin.Range.rangeSize
  rcases Nat.eq_zero_or_pos n with rfl | hn
  · rfl
  · rw [if_neg (by decide), if_pos (by omega), show (- -1 : Int) = 1 from rfl, Int.ediv_one]; omega
theorem fitsLong {i : Int} (h0 : -2 ^ 63 ≤ i) (h1 : i < 2 ^ 63) : Builtin.Range.rangeFitsLong i = true := by
  unfold Builtin.Range.rangeFitsLong
  simp only [Bool.and_eq_true, decide_eq_true_eq]
  exact ⟨h0, h1⟩
theorem range_small {n : Nat} (hn : n < 2 ^ 30) : Builtin.Range.small 0 n 1 = true := by
  unfold Builtin.Range.small
  rw [range_size, fitsLong (by omega) (by omega), fitsLong (by omega) (by omega), fitsLong (by omega) (by omega), if_pos (by decide), fitsLong (by omega) (by omega)]
  simp
theorem range_smallD {n : Nat} (hn : n < 2 ^ 30) : Builtin.Range.small (n - 1) (-1) (-1) = true := by
  unfold Builtin.Range.small
  rw [range_sizeD, fitsLong (by omega) (by omega), fitsLong (by omega) (by omega), fitsLong (by omega) (by omega), if_neg (by decide), fitsLong (by omega) (by omega)]
  simp
theorem Itr.to {I : Addr} {n : Nat} {T : Nat → Heap → Prop} {P P' : Nat → Value → Prop} {need : List Res → Prop} (IT : Itr w H₀ o₀ I n T P need) (f : ∀ i v, P i v → P' i v) : Itr w H₀ o₀ I n T P' need where
  loc := IT.loc
  walk := fun A hA => by
    obtain ⟨fp, G, W, hG⟩ := IT.walk A hA
    exact ⟨fp, G, ⟨W.sub, W.frame, fun i s Q E hi st hQ => W.item i s Q E hi st fun v h' tk hP => hQ v h' tk (f i v hP), W.done, W.self⟩, hG⟩
theorem d_mulInt {L : Addr} {names : List Str} {lv : List (Option Value)} {l : Addr} {i n : Int} {t u : Tok} {Q : Value → Shared → Prop} (S : St H₀ o₀ (FrR H₀ L names lv :: LsR l [.int i t] :: R) s) (hz : n ≤ 2 ^ 24) (hz0 : -2 ^ 63 ≤ n)
    (h : ∀ l' t' s', St H₀ o₀ (FrR H₀ L names lv :: LsR l' (List.replicate n.toNat (.int i t')) :: R) s' → Q (.ref l') s') : Does w A (binaryOp .Mult (.ref l) (.int n u)) Q s := d_mulList S hz hz0 fun l' s' => h l' t s'
theorem d_iterR {r : Addr} {n : Nat} {t u v : Tok} {Q : Value → Shared → Prop} (S : St H₀ o₀ R s) (hr : IsRange s.heap r 0 n 1 t u v) (hn : n < 2 ^ 30)
    (h : ∀ I s', Itr w H₀ o₀ I n (fun i h => IsRangeIter h I (0 + (i : Nat) * 1) ((n : Int) - (i : Nat)) 1) (fun i v => ∃ t, v = .int (i : Nat) t) (fun _ => True) → St H₀ o₀ (ItR I (fun h => IsRangeIter h I (0 + (0 : Nat) * 1) ((n : Int) - (0 : Nat)) 1) :: R) s' → Q (.ref I) s') : Does w A (pyIter (.ref r)) Q s :=
  d_iter_range S hr (range_small hn) range_size fun I s' IT => h I s' (IT.to fun i v ⟨t, e⟩ => ⟨t, by rw [e, show (0 + (i : Int) * 1) = i by omega]⟩)
theorem d_iterRD {r : Addr} {n : Nat} {t u v : Tok} {Q : Value → Shared → Prop} (S : St H₀ o₀ R s) (hr : IsRange s.heap r (n - 1) (-1) (-1) t u v) (hn : n < 2 ^ 30)
    (h : ∀ I s', Itr w H₀ o₀ I n (fun i h => IsRangeIter h I ((n - 1 : Int) + (i : Nat) * (-1)) ((n : Int) - (i : Nat)) (-1)) (fun i v => ∃ t, v = .int ((n : Int) - 1 - (i : Nat)) t) (fun _ => True) → St H₀ o₀ (ItR I (fun h => IsRangeIter h I ((n - 1 : Int) + (0 : Nat) * (-1)) ((n : Int) - (0 : Nat)) (-1)) :: R) s' → Q (.ref I) s') : Does w A (pyIter (.ref r)) Q s :=
  d_iter_range S hr (range_smallD hn) range_sizeD fun I s' IT => h I s' (IT.to fun i v ⟨t, e⟩ => ⟨t, by rw [e, show ((n : Int) - 1 + (i : Int) * -1) = (n : Int) - 1 - i by omega]⟩)
end more


theorem Sp.app : ∀ {rs R : List Res} {p1 p2 p : PH}, Sp rs p1 → Sp R p2 → PH.dj p1 p2 → PH.le p1 p → PH.le p2 p → Sp (rs ++ R) p
  | [], _, _, _, _, _, h2, _, _, l2 => h2.mono l2
  | r :: rs, R, p1, p2, p, ⟨q1, q2, d, m1, m2, k1, k2⟩, h2, dd, l1, l2 => by
    have h3 : Sp (rs ++ R) (q2.un p2) := Sp.app k2 h2 (dd.mono m2 (PH.le_refl _)) (PH.le_unl _ _) (PH.le_unr (dd.mono m2 (PH.le_refl _)))
    refine ⟨q1, q2.un p2, ?_, m1.trans l1, PH.un_le (m2.trans l1) l2, k1, h3⟩
    exact (PH.dj_un d.symm (dd.mono m1 (PH.le_refl _)).symm).symm
theorem lkp_cons (a : Addr) (o : Obj) (led : List (Addr × Obj)) : lkp ((a, o) :: led) = (lkp led).up a o := by
  funext b
  unfold lkp PH.up
  by_cases h : b = a
  · subst h; simp
  · rw [List.lookup_cons]; simp [beq_eq_false_iff_ne.mpr h, h]
theorem Sp_lkp : ∀ {items : List (Addr × Obj × Res)}, (items.map (·.1)).Nodup → (∀ it ∈ items, it.2.2 (PH.nil.up it.1 it.2.1)) → Sp (items.map (·.2.2)) (lkp (items.map fun it => (it.1, it.2.1)))
  | [], _, _ => trivial
  | (a, o, r) :: items, hn, h => by
    rw [List.map_cons, List.nodup_cons] at hn
    have n1 : lkp (items.map fun it => (it.1, it.2.1)) a = none := lkp_none fun q hq e => by
      obtain ⟨it, hit, rfl⟩ := List.mem_map.mp hq
      exact hn.1 (List.mem_map.mpr ⟨it, hit, e⟩)
    rw [List.map_cons, List.map_cons, lkp_cons]
    exact ⟨PH.nil.up a o, lkp (items.map fun it => (it.1, it.2.1)), PH.dj_up (fun _ => .inl rfl) n1, PH.up_le (fun _ _ e => by cases e), PH.le_up (PH.le_refl _) n1, h _ (.head _), Sp_lkp hn.2 fun it hi => h it (.tail _ hi)⟩
section
variable {w : World} {H₀ : Heap} {o₀ : OsState} {A : Around} {s : Shared} {rs R : List Res} {env : Env}
theorem St.pushL {items : List (Addr × Obj × Res)} {h' : Heap} {tk : Nat} (S : St H₀ o₀ R s) (hk : ∀ b o, s.heap.get? b = some o → h'.get? b = some o) (hz : s.heap.objs.size ≤ h'.objs.size)
    (hit : ∀ it ∈ items, h'.get? it.1 = some it.2.1 ∧ s.heap.objs.size ≤ it.1 ∧ it.2.2 (PH.nil.up it.1 it.2.1)) (hn : (items.map (·.1)).Nodup) :
    St H₀ o₀ (items.map (·.2.2) ++ R) { s with heap := h', toks := tk } := by
  obtain ⟨B, ⟨led, X, N, h2⟩, G, O, Z⟩ := S
  have ltl : ∀ q ∈ led, q.1 < s.heap.objs.size := fun q hq => Heap.lt_size (X q hq).1
  have n0 : ∀ a, s.heap.objs.size ≤ a → H₀.get? a = none := fun a ha => by
    cases e : H₀.get? a with
    | none => rfl
    | some o' => exact absurd (Heap.lt_size (B _ _ e)) (Nat.not_lt.mpr ha)
  have dj : ∀ it ∈ items, ∀ q ∈ led, it.1 ≠ q.1 := fun it hi q hq e => absurd (ltl q hq) (Nat.not_lt.mpr (e ▸ (hit it hi).2.1))
  refine ⟨fun b ob eb => hk b ob (B b ob eb), ⟨items.map (fun it => (it.1, it.2.1)) ++ led, fun q hq => ?_, ?_, ?_⟩, G, O, Nat.le_trans Z hz⟩
  · rcases List.mem_append.mp hq with hq | hq
    · obtain ⟨it, hi, rfl⟩ := List.mem_map.mp hq
      exact ⟨(hit it hi).1, n0 _ (hit it hi).2.1⟩
    · exact ⟨hk _ _ (X q hq).1, (X q hq).2⟩
  · rw [List.map_append, List.map_map, List.nodup_append]
    refine ⟨hn, N, fun a ha b hb e => ?_⟩
    obtain ⟨it, hi, rfl⟩ := List.mem_map.mp ha
    obtain ⟨q, hq, rfl⟩ := List.mem_map.mp hb
    exact dj it hi q hq e
  · refine Sp.app (Sp_lkp hn fun it hi => (hit it hi).2.2) h2 (fun b => ?_) (fun b o e => ?_) (fun b o e => ?_)
    · by_cases hb : b < s.heap.objs.size
      · left; exact lkp_none fun q hq e => by
          obtain ⟨it, hi, rfl⟩ := List.mem_map.mp hq
          have e : it.1 = b := e
          exact absurd hb (Nat.not_lt.mpr (e ▸ (hit it hi).2.1))
      · right; exact lkp_none fun q hq e => hb (e ▸ ltl q hq)
    · unfold lkp at *
      rw [List.lookup_append, e]; rfl
    · unfold lkp at *
      have : (items.map fun it => (it.1, it.2.1)).lookup b = none := by
        rw [List.lookup_eq_none_iff]
        intro q hq
        obtain ⟨it, hi, rfl⟩ := List.mem_map.mp hq
        simp only [bne_iff_ne, ne_eq, beq_iff_eq, Bool.not_eq_true, beq_eq_false_iff_ne]
        exact Ne.symm (dj it hi (b, o) (mem_of_lkp e))
      rw [List.lookup_append, this, e]; rfl

theorem St.sw3 {a b c d : Res} (S : St H₀ o₀ (a :: b :: c :: d :: R) s) : St H₀ o₀ (d :: b :: c :: a :: R) s :=
  S.perm (((List.Perm.swap d c R).cons b |>.cons a).trans (((List.Perm.swap d b (c :: R)).cons a).trans ((List.Perm.swap d a (b :: c :: R)).trans ((((List.Perm.swap b a (c :: R))).trans ((List.Perm.swap c a R).cons b)).cons d))))
theorem St.sw4 {a b c d e : Res} (S : St H₀ o₀ (a :: b :: c :: d :: e :: R) s) : St H₀ o₀ (e :: b :: c :: d :: a :: R) s :=
  S.perm (((List.perm_middle (l₁ := [a, b, c, d]) (l₂ := R) (a := e))).trans (List.Perm.cons e (by simpa using (List.perm_middle (l₁ := [b, c, d]) (l₂ := R) (a := a)).symm)))
theorem St.sw5 {a b c d e f : Res} (S : St H₀ o₀ (a :: b :: c :: d :: e :: f :: R) s) : St H₀ o₀ (f :: b :: c :: d :: e :: a :: R) s :=
  S.perm (((List.perm_middle (l₁ := [a, b, c, d, e]) (l₂ := R) (a := f))).trans (List.Perm.cons f (by simpa using (List.perm_middle (l₁ := [b, c, d, e]) (l₂ := R) (a := a)).symm)))
theorem St.sw6 {a b c d e f g : Res} (S : St H₀ o₀ (a :: b :: c :: d :: e :: f :: g :: R) s) : St H₀ o₀ (g :: b :: c :: d :: e :: f :: a :: R) s :=
  S.perm (((List.perm_middle (l₁ := [a, b, c, d, e, f]) (l₂ := R) (a := g))).trans (List.Perm.cons g (by simpa using (List.perm_middle (l₁ := [b, c, d, e, f]) (l₂ := R) (a := a)).symm)))
theorem St.tlp {a : Res} {rs rs' : List Res} (S : St H₀ o₀ (a :: rs) s) (h : rs.Perm rs') : St H₀ o₀ (a :: rs') s := S.perm (h.cons a)
theorem St.sw13 {a b c d : Res} (S : St H₀ o₀ (a :: b :: c :: d :: R) s) : St H₀ o₀ (a :: d :: c :: b :: R) s := S.sw3.sw.sw3
theorem St.sw14 {a b c d e : Res} (S : St H₀ o₀ (a :: b :: c :: d :: e :: R) s) : St H₀ o₀ (a :: e :: c :: d :: b :: R) s := S.sw4.sw.sw4
theorem St.sw15 {a b c d e f : Res} (S : St H₀ o₀ (a :: b :: c :: d :: e :: f :: R) s) : St H₀ o₀ (a :: f :: c :: d :: e :: b :: R) s := S.sw5.sw.sw5
noncomputable def CellN (c : Addr) : Res := fun p => ∃ o, p c = some o ∧ o.data = .cell none
noncomputable def cellRes (c : Addr) : Option Value → Res | some v => CellR c v | none => CellN c
theorem cellRes_of {c : Addr} {ov : Option Value} {o : Obj} (h : o.data = .cell ov) : cellRes c ov (PH.nil.up c o) := by
  cases ov with
  | none => exact ⟨o, up_self, h⟩
  | some v => exact CellR_def.mpr ⟨o, up_self, h⟩
theorem bindL_else (k : Str → Option NameKind) : ∀ (b : List (Str × Value)) (m : Str → Option Value) (x : Str), b.reverse.lookup x = none → bindL k b m x = m x
  | [], _, _, _ => rfl
  | (n, u) :: r, m, x, h => by
    rw [List.reverse_cons, List.lookup_append] at h
    cases e : r.reverse.lookup x with
    | some v => rw [e] at h; cases h
    | none =>
      rw [e] at h
      have hx : x ≠ n := fun q => by subst q; simp at h
      unfold bindL
      rw [bindL_else k r _ x e]
      split <;> simp [hx]
theorem bindL_at (k : Str → Option NameKind) : ∀ (b : List (Str × Value)) (m : Str → Option Value) (x : Str) (v : Value), k x = some .local → b.reverse.lookup x = some v → bindL k b m x = some v
  | [], _, _, _, _, h => by cases h
  | (n, u) :: r, m, x, v, hk, h => by
    rw [List.reverse_cons, List.lookup_append] at h
    unfold bindL
    cases e : r.reverse.lookup x with
    | some v' => rw [e] at h; cases h; exact bindL_at k r _ x _ hk e
    | none =>
      rw [e] at h
      have hx : x = n := by
        cases hb : x == n with
        | true => exact beq_iff_eq.mp hb
        | false => simp [List.lookup, hb] at h
      subst hx
      simp [List.lookup] at h
      rw [bindL_else k r _ x e, if_pos hk]
      simp [h]
noncomputable def maskL (scope : Scope) (b : List (Str × Value)) : List (Option Value) := b.map fun q => match scope.names.lookup q.1 with | some .local => some q.2 | _ => none
theorem mask_lookup {scope : Scope} {ps : List Str} : ∀ {args : List Value} {x : Str} {v : Value} {ls : List Str} {us : List (Option Value)}, ps.Nodup → args.length = ps.length → (∀ u ∈ us, u = none) →
    (maskL scope (ps.zip args) ++ us)[ix x (ps ++ ls)]? = some (some v) → (ps.zip args).reverse.lookup x = some v ∧ scope.names.lookup x = some .local := by
  induction ps with
  | nil =>
    intro args x v ls us _ hl hu h
    simp only [maskL, List.zip_nil_left, List.map_nil, List.nil_append] at h
    exact absurd (hu _ (List.mem_of_getElem? h)) (by simp)
  | cons y r ih =>
    intro args x v ls us hn hl hu h
    cases args with
    | nil => cases hl
    | cons b as =>
      rw [List.nodup_cons] at hn
      simp only [List.zip_cons_cons, List.reverse_cons]
      rw [List.lookup_append]
      simp only [maskL, List.zip_cons_cons, List.cons_append, ix, List.map_cons] at h
      by_cases hx : x = y
      · subst hx
        simp only [if_true, List.getElem?_cons_zero, Option.some.injEq] at h
        have : (r.zip as).reverse.lookup x = none := by
          rw [List.lookup_eq_none_iff]
          intro q hq
          have := List.of_mem_zip (List.mem_reverse.mp hq)
          simp
          intro e
          exact hn.1 (e ▸ this.1)
        split at h
        · rename_i hk
          cases h
          exact ⟨by rw [this]; simp, hk⟩
        · cases h
      · simp only [hx, if_false, List.getElem?_cons_succ] at h
        obtain ⟨h1, h2⟩ := ih hn.2 (by simpa using hl) hu h
        exact ⟨by rw [h1]; rfl, h2⟩

theorem d_enterC {f : Addr} {oc : Value} {od an : Option Addr} {osl : Array (Option Value)} {name qual : Str} {params : Arguments} {body : List Stmt} {scope : Scope} {dV kV doc pm cdv ct : Value} {vals : List Value} {n : Nat} {Q : Value → Shared → Prop}
    (ps ls : List Str) (cells : Addr → List Res) (W : Wd w H₀) (hR : Rm A (n + 1)) (S : St H₀ o₀ rs s)
    (ho : (KK w).lookup f = some ⟨oc, od, .func (fnOf name qual params body scope dV kV doc pm an cdv ct), osl⟩) (hcd : codeIn (KK w) cdv qual = true)
    (hbind : BindsTo s (fnOf name qual params body scope dV kV doc pm an cdv ct) ⟨vals, []⟩ (ps.zip vals)) (hlen : vals.length = ps.length) (hps : ps.Nodup)
    (hkind : ∀ y ∈ ps, scope.names.lookup y = some .local ∨ (scope.names.lookup y = some .cell ∧ y ∈ (cellsFrom 0 scope.names []).map (·.1)))
    (hnd : ((cellsFrom 0 scope.names []).map (·.1)).Nodup)
    (hcells : ∀ L, (cellsFrom (L + 1) scope.names []).map (fun q => cellRes q.2 (bindC (envOfC qual scope L f cdv).kindOf (ps.zip vals) (fun _ => none) q.1)) = cells L)
    (h : ∀ L s', St H₀ o₀ (FrR H₀ L (ps ++ ls) (maskL scope (ps.zip vals) ++ ls.map fun _ => none) :: (cells L ++ rs)) s' → Rm (A.deeper (envOfC qual scope L f cdv)) n →
      Does w (A.deeper (envOfC qual scope L f cdv)) (execs body (envOfC qual scope L f cdv)) (fun fl s'' => Q (match fl with | .ret v => v | _ => .none) s'') s')
    (hco : scope.isCoroutine = false) (hgen : scope.isGenerator = false) (hk : scope.kind = .function) : Does w A (call (.ref f) vals) Q s := by
  obtain ⟨p, loose, mg, mb, T⟩ := W.T
  refine wpAny_call (codeAny_call_function (by have := hR.d; omega) (W.inK S _ _ ho) rfl hco hgen rfl (codeRec_of (W.inK S) hcd) (hbind _ _ _ _ ?_))
  have hkind' : ∀ x ∈ ps.zip vals, scope.names.lookup x.1 = some .local ∨ (scope.names.lookup x.1 = some .cell ∧ ((cellsFrom (s.heap.objs.size + 1) scope.names []).lookup x.1).isSome = true) := by
    intro x hx
    rcases hkind x.1 (List.of_mem_zip hx).1 with h1 | ⟨h1, h2⟩
    · exact .inl h1
    · refine .inr ⟨h1, ?_⟩
      rw [cellsFrom_names scope.names 0 (s.heap.objs.size + 1) [] [] rfl] at h2
      obtain ⟨q, hq, e⟩ := List.mem_map.mp h2
      rw [← e, List.lookup_isSome_iff]
      exact ⟨q, hq, by simp⟩
  refine wpAny_newFunctionEnv_cells hk hkind' fun env' he s' x => ?_
  subst he
  refine ⟨(T.nolimit.keeps S.base).keeps x.toInCall.keep, codeAny_func ?_⟩
  obtain ⟨h₁, tk, rfl, _⟩ := x.done
  have hk₁ := x.toInCall.keep
  have hnd' : ((cellsFrom (s.heap.objs.size + 1) scope.names []).map (·.1)).Nodup := cellsFrom_names scope.names 0 (s.heap.objs.size + 1) [] [] rfl ▸ hnd
  obtain ⟨oL, es, ep, g1, g2, g3, g4⟩ := x.toInCall.ns
  have Z := S.big
  have hcell : ∀ q ∈ cellsFrom (s.heap.objs.size + 1) scope.names [], h₁.IsCell q.2 (bindC (envOfC qual scope s.heap.objs.size f cdv).kindOf (ps.zip vals) (fun _ => none) q.1) := fun q hq => x.cell q.1 q.2 (lookup_of_mem_nodup hnd' hq)
  classical
  let items : List (Addr × Obj × Res) := (s.heap.objs.size, oL, FrR H₀ s.heap.objs.size (ps ++ ls) (maskL scope (ps.zip vals) ++ ls.map fun _ => none)) ::
    (cellsFrom (s.heap.objs.size + 1) scope.names []).map fun q => (q.2, (h₁.get? q.2).getD oL, cellRes q.2 (bindC (envOfC qual scope s.heap.objs.size f cdv).kindOf (ps.zip vals) (fun _ => none) q.1))
  have S' : St H₀ o₀ (items.map (·.2.2) ++ rs) { s with heap := h₁, toks := tk } := by
    refine S.pushL hk₁ (Nat.le_of_lt (Heap.lt_size g1)) (fun it hi => ?_) ?_
    · rcases List.mem_cons.mp hi with rfl | hi
      · refine ⟨g1, Nat.le_refl _, FrR_def.mpr ⟨Z, oL, _, up_self, ⟨es, ep, g2, g3, g4⟩, fun y v hv => ?_⟩⟩
        obtain ⟨h1, h2⟩ := mask_lookup (us := ls.map fun _ => none) hps hlen (by intro u hu; obtain ⟨_, _, rfl⟩ := List.mem_map.mp hu; rfl) hv
        exact bindL_at _ _ _ _ _ h2 h1
      · obtain ⟨q, hq, rfl⟩ := List.mem_map.mp hi
        obtain ⟨o, e1, e2⟩ := hcell q hq
        refine ⟨by show h₁.get? q.2 = some ((h₁.get? q.2).getD oL); rw [e1]; rfl, Nat.le_of_lt (x.above q.1 q.2 hq), ?_⟩
        show cellRes q.2 _ (PH.nil.up q.2 ((h₁.get? q.2).getD oL))
        rw [e1]
        exact cellRes_of e2
    · show (s.heap.objs.size :: _).Nodup
      rw [List.map_map, List.nodup_cons]
      refine ⟨fun hm => ?_, ?_⟩
      · obtain ⟨q, hq, e⟩ := List.mem_map.mp hm
        have := x.above q.1 q.2 hq
        have e : q.2 = s.heap.objs.size := e
        rw [e] at this
        exact absurd this (Nat.lt_irrefl _)
      · refine List.Pairwise.map _ (fun a b hab => hab) x.apart
  have e : items.map (·.2.2) ++ rs = FrR H₀ s.heap.objs.size (ps ++ ls) (maskL scope (ps.zip vals) ++ ls.map fun _ => none) :: (cells s.heap.objs.size ++ rs) := by
    rw [← hcells s.heap.objs.size]
    show _ :: (List.map _ (List.map _ _) ++ rs) = _
    rw [List.map_map]
    rfl
  rw [e] at S'
  exact wpAny_mono (h s.heap.objs.size _ S' hR.deeper) (fun fl s'' z => z) fun _ _ x => x.elim
theorem ifNT {P Q : Prop} (h : P) : if (!false) = true then P else Q := by simpa using h
theorem ifNF {P Q : Prop} (h : Q) : if (!true) = true then P else Q := by simpa using h
/-- plain positional parameters, some of them cells -/
theorem d_funC {f : Addr} {oc : Value} {od an : Option Addr} {osl : Array (Option Value)} {name qual : Str} {params : Arguments} {body : List Stmt} {scope : Scope} {dV kV doc pm cdv ct : Value} {vals : List Value} {n : Nat} {Q : Value → Shared → Prop}
    (ps ls : List Str) (cells : Addr → List Res) (W : Wd w H₀) (hR : Rm A (n + 1)) (S : St H₀ o₀ rs s)
    (ho : (KK w).lookup f = some ⟨oc, od, .func (fnOf name qual params body scope dV kV doc pm an cdv ct), osl⟩) (hcd : codeIn (KK w) cdv qual = true)
    (hbind : bindArgs (fnOf name qual params body scope dV kV doc pm an cdv ct) ⟨vals, []⟩ = pure (ps.zip vals)) (hlen : vals.length = ps.length) (hps : ps.Nodup)
    (hkind : ∀ y ∈ ps, scope.names.lookup y = some .local ∨ (scope.names.lookup y = some .cell ∧ y ∈ (cellsFrom 0 scope.names []).map (·.1)))
    (hnd : ((cellsFrom 0 scope.names []).map (·.1)).Nodup)
    (hcells : ∀ L, (cellsFrom (L + 1) scope.names []).map (fun q => cellRes q.2 (bindC (envOfC qual scope L f cdv).kindOf (ps.zip vals) (fun _ => none) q.1)) = cells L)
    (hco : scope.isCoroutine = false) (hgen : scope.isGenerator = false) (hk : scope.kind = .function)
    (h : ∀ L s', St H₀ o₀ (FrR H₀ L (ps ++ ls) (maskL scope (ps.zip vals) ++ ls.map fun _ => none) :: (cells L ++ rs)) s' → ∀ A', Rm A' n →
      Does w A' (execs body (envOfC qual scope L f cdv)) (fun fl s'' => Q (match fl with | .ret v => v | _ => .none) s'') s') : Does w A (call (.ref f) vals) Q s :=
  d_enterC ps ls cells W hR S ho hcd (BindsTo.of_eq hbind) hlen hps hkind hnd hcells (fun L s' S' hR' => h L s' S' _ hR') hco hgen hk
theorem d_free {x : Str} {pos : Pos} {c : Addr} {v : Value} {Q : Value → Shared → Prop} (S : St H₀ o₀ rs s) (hm : CellR c v ∈ rs) (hc : env.cells.lookup x = some c)
    (hk : env.scope.kind = .function) (hl : env.kindOf x = some .free) (h : Q v s) (hd : (x == ("__debug__" : Str)) = false) (hn : (x == ("__classdict__" : Str)) = false) : Does w A (eval (.Name x pos) env) Q s := by
  obtain ⟨q, hq, hr⟩ := S.get hm
  obtain ⟨o, h1, h2⟩ := CellR_def.mp hr
  exact wpAny_Name (wpAny_loadName_free hk hl hc ⟨o, hq _ _ h1, h2⟩ h hn) hd
theorem d_storeCell {x : Str} {c : Addr} {r : Res} {v : Value} {Q : Unit → Shared → Prop} (S : St H₀ o₀ (r :: R) s) (hr : ∀ q, r q → ∃ o ov, q c = some o ∧ o.data = .cell ov) (hc : env.cells.lookup x = some c)
    (hk : env.scope.kind = .function) (hl : env.kindOf x = some .cell) (h : ∀ s', St H₀ o₀ (CellR c v :: R) s' → Q () s') : Does w A (storeName env x v) Q s := by
  obtain ⟨q, hq, k, hf⟩ := S.focus
  obtain ⟨o, ov, h1, h2⟩ := hr q k
  refine wpAny_storeName_cell hk hl hc ⟨o, hq _ _ h1, h2⟩ fun h' hc' hs' => ?_
  obtain ⟨o', e1, e2⟩ := hc'
  exact h _ (hf _ c o o' h' s.toks h1 e1 hs' (CellR_def.mpr ⟨o', up_self, e2⟩))
end

section
variable {w : World} {H₀ : Heap} {o₀ : OsState} {A : Around} {s : Shared} {rs R : List Res} {env : Env} {fr : Res}
theorem Wd.low (W : Wd w H₀) : sysModules < H₀.objs.size := by
  obtain ⟨p, loose, mg, mb, T⟩ := W.T
  exact modules_low T.nolimit
theorem St.push1 {r' : Res} {o : Obj} {h' : Heap} {tk : Nat} (S : St H₀ o₀ (fr :: R) s) (hk : ∀ b o, s.heap.get? b = some o → h'.get? b = some o) (hit : h'.get? s.heap.objs.size = some o) (hr : r' (PH.nil.up s.heap.objs.size o)) :
    St H₀ o₀ (fr :: r' :: R) { s with heap := h', toks := tk } :=
  (S.pushL (items := [(s.heap.objs.size, o, r')]) hk (Nat.le_of_lt (Heap.lt_size hit)) (fun it hi => by rw [List.mem_singleton.mp hi]; exact ⟨hit, Nat.le_refl _, hr⟩) (by simp)).sw
theorem d_listD {a : Ad} {x : Addr} {Q : Value → Shared → Prop} (hA : A.handled = none) (S : St H₀ o₀ (fr :: R) s) (hm : ArrR w.params x a ∈ fr :: R)
    (h : ∀ l s', St H₀ o₀ (fr :: LsR l [] :: R) s' → Q (.ref l) s') : Does w A (call (.type "list") [.ref a.wl]) Q s := by
  obtain ⟨q, hq, hr⟩ := S.get hm
  obtain ⟨-, -, -, -, -, -, ⟨⟨n7, h7⟩, h7'⟩, -, -⟩ := ArrR_def.mp hr
  have hat : s.heap.DictAt (PySem.intKind PySem.Challenge.rw_pc0244_01.row.prog w) a.wl [] n7 := ⟨_, _, hq _ _ h7, ⟨rfl, rfl, rfl⟩, rfl, by intro i h; simp at h, Pairs.nil, List.nodup_nil⟩
  refine kdl_call (kdl_dict (by simpa using h7')) hA hat (by unfold sizeLine; simp) fun h' tk acc' c' hk hS hacc => ?_
  have e : acc' = #[] := Array.eq_empty_of_size_eq_zero hacc.1
  subst e
  exact h _ _ (S.push1 hk hS (LsR_def.mpr ⟨_, up_self, rfl, c', rfl⟩))
theorem d_listList {l : Addr} {vs : List Value} {Q : Value → Shared → Prop} (S : St H₀ o₀ (fr :: R) s) (hm : LIn (fr :: R) l vs) (hz : vs.length ≤ sizeLine)
    (h : ∀ l' s', St H₀ o₀ (fr :: LsR l' vs :: R) s' → Q (.ref l') s') : Does w A (call (.type "list") [.ref l]) Q s := by
  obtain ⟨n, e⟩ := S.lsExact hm
  refine call_list_seq l (T := "list") (.inl rfl) e rfl rfl (fun h' c' hk hS => ?_) (by rw [List.size_toArray]; exact hz)
  exact h _ _ (S.push1 (tk := s.toks) hk hS (LsR_def.mpr ⟨_, up_self, rfl, c', rfl⟩))
theorem d_listRange {r : Addr} {n : Nat} {t u v : Tok} {Q : Value → Shared → Prop} (hA : A.handled = none) (S : St H₀ o₀ (fr :: R) s) (hr : IsRange s.heap r 0 n 1 t u v) (hn : n ≤ 2 ^ 24)
    (h : ∀ l' vs s', vs.length = n → (∀ (i : Nat) v, vs[i]? = some v → ∃ t, v = .int (i : Int) t) → St H₀ o₀ (fr :: LsR l' vs :: R) s' → Q (.ref l') s') : Does w A (call (.type "list") [.ref r]) Q s := by
  refine call_list_range hA hr (range_small (by omega)) range_size hn fun h' tk acc' c' hk hS hacc => ?_
  refine h _ acc'.toList _ (by rw [Array.length_toList]; exact hacc.1) (fun i v e => ?_) (S.push1 hk hS (LsR_def.mpr ⟨_, up_self, rfl, c', by simp⟩))
  obtain ⟨t, e⟩ := hacc.2 i v (by rw [← Array.getElem?_toList]; exact e)
  exact ⟨t, by rw [e, show (0 + (i : Int) * 1) = i by omega]⟩
end

section
variable {w : World} {H₀ : Heap} {o₀ : OsState} {A : Around} {s : Shared} {rs R : List Res} {env : Env} {fr : Res}
theorem Rm.under {n : Nat} {C : Addr} {vals : List Value} (R : Rm A (n + 1)) : Rm (A.under (.builtin "type.__call__" ⟨.ref C :: vals, []⟩)) n :=
  ⟨by have := R.d; rw [depth_under_make]; omega, by have := R.u; have e : (A.under (.builtin "type.__call__" ⟨.ref C :: vals, []⟩)).units = A.units + 1 := rfl; omega, R.h⟩
/-- a bare object -/
noncomputable def InitR (x : Addr) (C d : Addr) (es : List DictEntry) : Res := fun p => p x = some (instObj C d) ∧ ∃ n, p d = some (dictOf es n)
noncomputable def DictE (d : Addr) : Res := fun p => WkO p d
theorem d_make {C fI : Addr} {vals : List Value} {Q : Value → Shared → Prop} (W : Wd w H₀) (S : St H₀ o₀ R s) (hm : makesIn (KK w) C = true)
    (hi : findIn (KK w) (.ref C) "__init__" = some (some (.ref fI))) (hf : typeIn (KK w) (.ref fI) = some (.type "function"))
    (h : ∀ x d s', St H₀ o₀ (InitR x C d [] :: R) s' → codeAny (model PySem.Challenge.rw_pc0244_01.row.prog w) (A.under (.builtin "type.__call__" ⟨.ref C :: vals, []⟩)) (.call (.ref fI) ⟨.ref x :: vals, []⟩)
      (fun r s'' => match r with | .ok (.ret v) => v = .none ∧ Q (.ref x) s'' | _ => False) s') : Does w A (call (.ref C) vals) Q s := by
  have S0 := S
  obtain ⟨hh, g, dr, t, os⟩ := s
  refine wpAny_call (make_core (makes_of (W.inK S) hm) (looks_findIn (W.inK S) hi) (fun self => bind_fn (W.inK S) self hf) (.inl rfl) ?_)
  have S' : St H₀ o₀ (InitR (hh.objs.size + 1) C hh.objs.size [] :: R) ⟨(hh.push emptyDict).push (instObj C hh.objs.size), g, dr, t, os⟩ := by
    have e1 : ((hh.push emptyDict).push (instObj C hh.objs.size)).get? hh.objs.size = some (dictOf [] 0) := Heap.get?_push_of_some _ (Heap.get?_push_size _ rfl)
    have e2 : ((hh.push emptyDict).push (instObj C hh.objs.size)).get? (hh.objs.size + 1) = some (instObj C hh.objs.size) := by
      have : ((hh.push emptyDict).push (instObj C hh.objs.size)).get? (hh.push emptyDict).objs.size = some (instObj C hh.objs.size) := Heap.get?_push_size _ rfl
      rwa [Heap.size_push] at this
    have P := S0.pushL (tk := t) (h' := (hh.push emptyDict).push (instObj C hh.objs.size)) (items := [(hh.objs.size + 1, instObj C hh.objs.size, fun p => p (hh.objs.size + 1) = some (instObj C hh.objs.size)), (hh.objs.size, dictOf [] 0, fun p => p hh.objs.size = some (dictOf [] 0))])
      (fun b o e => Heap.get?_push_of_some _ (Heap.get?_push_of_some _ e)) (by rw [Heap.size_push, Heap.size_push]; exact Nat.le_succ_of_le (Nat.le_succ _)) (fun it hi => by
        simp only [List.mem_cons, List.not_mem_nil, or_false] at hi
        rcases hi with rfl | rfl
        · exact ⟨e2, Nat.le_succ _, up_self⟩
        · exact ⟨e1, Nat.le_refl _, up_self⟩) (by simp)
    exact (St.join P).conv fun p ⟨p1, p2, d, l1, l2, k1, p3, p4, d', l3, l4, k2, _⟩ => ⟨l1 _ _ k1, 0, l2 _ _ (l3 _ _ k2)⟩
  refine codeAny_mono (h _ _ _ S') fun r s'' hr => ?_
  cases r with
  | error e => exact hr.elim
  | ok f =>
    cases f with
    | ret v => exact hr
    | _ => exact hr.elim
theorem d_setnew {x C d : Addr} {es : List DictEntry} {name : Str} {v : Value} {Q : Unit → Shared → Prop} (W : Wd w H₀) (S : St H₀ o₀ (fr :: InitR x C d es :: R) s)
    (hs : findIn (KK w) (.ref C) "__setattr__" = some (some (.builtin "object.__setattr__"))) (hp : plainOver (KK w) C = true) (ht : takerIn (KK w) C name = some none) (hh : hasDictIn (KK w) C = true) (hl : (getL name es).isSome = true) (hz : es.length < 900)
    (h : ∀ t s', St H₀ o₀ (fr :: InitR x C d (putL name (PyData.keyHash w.params name) (.str name t) v es) :: R) s' → Q () s') : Does w A (setAttr (.ref x) name v) Q s := by
  obtain ⟨q, hq, ⟨k1, n, k2⟩, hf⟩ := S.focus1
  have I : InstAt s.heap x (instObj C d) C (some (dictOf es n)) := ⟨hq _ _ k1, rfl, rfl, hq _ _ k2⟩
  have hne : x ≠ d := fun e => by
    rw [e, k2] at k1
    have := congrArg Obj.data (Option.some.inj k1)
    cases this
  refine setattr_raw (W.inK S) I rfl hs hp ht hh hl hz (h _ _ (hf _ d _ (dictOf (putL name (PyData.keyHash w.params name) (.str name (s.toks + 1)) v es) (putN name es n)) _ _ k2 ?_ (Heap.SameBut.update ..) ⟨(up_ne hne).trans k1, _, up_self⟩))
  rw [← putName_dict]
  exact Heap.get?_update_self _ (hq _ _ k2) (by rw [putName_dict]; rfl)
theorem d_dictNew {pos : Pos} {Q : Value → Shared → Prop} (W : Wd w H₀) (S : St H₀ o₀ (fr :: R) s) (h : ∀ d s', St H₀ o₀ (fr :: DictE d :: R) s' → Q (.ref d) s') : Does w A (eval (.Dict [] [] pos) env) Q s := by
  rw [eval_Dict_empty]
  refine wpAny_bind (wpAny_standAt ?_)
  refine wpAny_newObj_type (h _ _ (S.push1 (tk := s.toks) (fun b o e => Heap.get?_push_of_some _ e) (Heap.get?_push_size _ rfl) ⟨⟨0, up_self⟩, fun e => ?_⟩))
  have := W.low
  have := S.big
  rw [e] at this
  exact absurd (Nat.lt_of_lt_of_le ‹sysModules < _› this) (Nat.lt_irrefl _)
theorem dj_ne {p q : PH} {a b : Addr} {o o' : Obj} (d : PH.dj p q) (h1 : p a = some o) (h2 : q b = some o') : a ≠ b := fun e => by
  subst e
  rcases d a with z | z
  · rw [h1] at z; cases z
  · rw [h2] at z; cases z
theorem Sp.split : ∀ {l1 l2 : List Res} {p : PH}, Sp (l1 ++ l2) p → ∃ p1 p2, PH.dj p1 p2 ∧ PH.le p1 p ∧ PH.le p2 p ∧ Sp l1 p1 ∧ Sp l2 p2
  | [], l2, p, h => ⟨PH.nil, p, fun _ => .inl rfl, fun _ _ e => (by cases e), PH.le_refl _, trivial, h⟩
  | r :: l1, l2, p, ⟨a, b, d, la, lb, hr, h⟩ => by
    obtain ⟨b1, b2, d', l1', l2', s1, s2⟩ := Sp.split (l1 := l1) h
    exact ⟨a.un b1, b2, PH.dj_un (d.mono (PH.le_refl _) l2') d', PH.un_le la (l1'.trans lb), l2'.trans lb, ⟨a, b1, d.mono (PH.le_refl _) l1', PH.le_unl _ _, PH.le_unr (d.mono (PH.le_refl _) l1'), hr, s1⟩, s2⟩
theorem St.arrMake {P : Params} {x : Addr} {a : Ad} {tk : Nat → Tok} (S : St H₀ o₀ (InitR x 188 a.d (arrEs P tk a) :: DictE a.wl :: LsR a.nl a.ns :: LsR a.hl a.hs :: LsR a.vl a.vs :: LsR a.kl a.ks :: R) s) (hv : a.vs = []) : St H₀ o₀ (ArrR P x a :: R) s := by
  refine S.mapSp fun p h => ?_
  obtain ⟨u, v, d0, lu, lv, hu, hvR⟩ := Sp.split (l1 := [_, _, _, _, _, _]) h
  refine ⟨u, v, d0, lu, lv, ?_, hvR⟩
  obtain ⟨p1, q1, d1, m1, n1, ⟨i1, n, i2⟩, p2, q2, d2, m2, n2, ⟨w1, w2⟩, p3, q3, d3, m3, n3, h3, p4, q4, d4, m4, n4, h4, p5, q5, d5, m5, n5, h5, p6, q6, d6, m6, n6, h6, -⟩ := hu
  have l3 := LsR_def.mp h3
  have l4 := LsR_def.mp h4
  have l5 := LsR_def.mp h5
  have l6 := LsR_def.mp h6
  obtain ⟨o3, e3, -⟩ := id l3
  obtain ⟨o4, e4, -⟩ := id l4
  obtain ⟨o5, e5, -⟩ := id l5
  obtain ⟨o6, e6, -⟩ := id l6
  have b3 : p3.le u := m3.trans (n2.trans n1)
  have b4 : p4.le u := (m4.trans n3).trans (n2.trans n1)
  have b5 : p5.le u := ((m5.trans n4).trans n3).trans (n2.trans n1)
  have b6 : p6.le u := (((m6.trans n5).trans n4).trans n3).trans (n2.trans n1)
  have z34 := dj_ne d3 e3 (m4 _ _ e4)
  have z35 := dj_ne d3 e3 (n4 _ _ (m5 _ _ e5))
  have z36 := dj_ne d3 e3 (n4 _ _ (n5 _ _ (m6 _ _ e6)))
  have z45 := dj_ne d4 e4 (m5 _ _ e5)
  have z46 := dj_ne d4 e4 (n5 _ _ (m6 _ _ e6))
  have z56 := dj_ne d5 e5 (m6 _ _ e6)
  refine ArrR_def.mpr ⟨m1 _ _ i1, ⟨tk, n, m1 _ _ i2⟩, l6.mono b6, l5.mono b5, l4.mono b4, l3.mono b3, ⟨let ⟨n', e'⟩ := w1; ⟨n', n1 _ _ (m2 _ _ e')⟩, w2⟩, (fun y hy => by rw [hv] at hy; cases hy), ?_⟩
  simp [Ne.symm z34, Ne.symm z35, Ne.symm z36, Ne.symm z45, Ne.symm z46, Ne.symm z56]
theorem d_setwalks {x : Addr} {a : Ad} {l : Addr} {Q : Unit → Shared → Prop} (W : Wd w H₀) (S : St H₀ o₀ (fr :: DictE l :: ArrR w.params x a :: R) s)
    (h : ∀ s', St H₀ o₀ (fr :: ArrR w.params x { a with wl := l } :: R) s' → Q () s') : Does w A (setAttr (.ref x) "walks" (.ref l)) Q s := by
  have S1 : St H₀ o₀ (fr :: Two (ArrR w.params x a) (DictE l) :: R) s := S.sw12.sw.sw12.join.sw
  refine setArr_core (a := a) W S1 (by decide +kernel) (fun q ⟨p1, p2, d, l1, l2, k1, k2⟩ => ⟨p1, l1, k1⟩) (fun q tk n key ⟨p1, p2, d, l1, l2, k1, p3, p4, d', l3, l4, k2, _⟩ hd => ?_) h
  obtain ⟨h1, ⟨tk1, m1, hd1⟩, kL, vL, gL, nL, h7, h8, h9⟩ := ArrR_def.mp k1
  have up1 : ∀ {b : Addr} {us : List Value} {o : Obj}, LsO p1 b us → LsO (q.up a.d o) b us := fun h => by
    have ⟨ob, e, k⟩ := h
    exact (h.mono l1).up (ne_cls (l1 _ _ e) hd (by rw [k.1]; simp))
  obtain ⟨⟨n', e'⟩, k2'⟩ := k2
  have hld : l ≠ a.d := fun e => by
    have dd : PH.dj p1 p3 := d.mono (PH.le_refl _) l3
    exact dj_ne dd hd1 e' e.symm
  exact ArrR_def.mpr ⟨(up_ne (ne_cls (l1 _ _ h1) hd (by simp))).trans (l1 _ _ h1), ⟨tk, _, up_self⟩, up1 kL, up1 vL, up1 gL, up1 nL, ⟨⟨n', (up_ne hld).trans (l2 _ _ (l3 _ _ e'))⟩, k2'⟩, fun v hv => ((h8 v hv).mono l1).up hd (by simp), h9⟩
theorem d_dictCopy {a : Ad} {x : Addr} {Q : Value → Shared → Prop} (W : Wd w H₀) (S : St H₀ o₀ (fr :: R) s) (hm : ArrR w.params x a ∈ fr :: R)
    (h : ∀ l s', St H₀ o₀ (fr :: DictE l :: R) s' → Q (.ref l) s') : Does w A (call (.type "dict") [.ref a.wl]) Q s := by
  obtain ⟨q, hq, hr⟩ := S.get hm
  obtain ⟨-, -, -, -, -, -, ⟨⟨n7, h7⟩, h7'⟩, -, -⟩ := ArrR_def.mp hr
  have hof : s.heap.DictOf (PySem.intKind PySem.Challenge.rw_pc0244_01.row.prog w) a.wl [] := ⟨_, _, _, hq _ _ h7, ⟨rfl, rfl, rfl⟩, rfl, by intro i h; simp at h, Pairs.nil, List.nodup_nil⟩
  refine kt_call_dict (by simpa using h7') hof (by simp) fun h' hd hs => ?_
  obtain ⟨o, es, ep, e1, ⟨e2, e3, e4⟩, e5, _, hp, _⟩ := hd
  have hes : es = #[] := by
    have := hp.length
    exact Array.eq_empty_of_size_eq_zero (by simpa using this)
  subst hes
  have ho : o = dictOf [] ep := by
    obtain ⟨oc, od, oda, osl⟩ := o
    simp only at e2 e3 e4 e5
    subst e2 e3 e4 e5
    rfl
  subst ho
  refine h _ _ (S.push1 (tk := s.toks) (fun b o e => ?_) e1 ⟨⟨ep, up_self⟩, fun e => ?_⟩)
  · exact (hs.2 b (Nat.ne_of_lt (Heap.lt_size e))).trans (Heap.get?_push_of_some _ e)
  · have := W.low
    have := S.big
    rw [e] at this
    exact absurd (Nat.lt_of_lt_of_le ‹sysModules < _› this) (Nat.lt_irrefl _)
end


/-! ## 6. the pure array -/
inductive Key where
  | int (i : Int)
  | str (s : Str)
  deriving DecidableEq
noncomputable def kOf : Value → Option (Option Key) | .none => some none | .int i _ => some (some (.int i)) | .str s _ => some (some (.str s)) | _ => none
noncomputable def iOf : Value → Option Int | .int i _ => some i | _ => none
noncomputable def KVs (vs : List Value) (ks : List (Option Key)) : Prop := vs.map kOf = ks.map some
noncomputable def IV (vs : List Value) (is : List Int) : Prop := vs.map iOf = is.map some
/-- a value is a key -/
noncomputable def KV (v : Value) (k : Key) : Prop := kOf v = some (some k)
theorem KV.int {v : Value} {i : Int} (h : KV v (.int i)) : ∃ t, v = .int i t := by
  unfold KV kOf at h; split at h <;> simp_all
theorem KV.str {v : Value} {x : Str} (h : KV v (.str x)) : ∃ t, v = .str x t := by
  unfold KV kOf at h; split at h <;> simp_all
theorem kOf_none {v : Value} (h : kOf v = some none) : v = .none := by
  unfold kOf at h; split at h <;> simp_all
theorem iOf_some {v : Value} {i : Int} (h : iOf v = some i) : ∃ t, v = .int i t := by
  unfold iOf at h; split at h <;> simp_all
theorem IV.length {vs : List Value} {is : List Int} (h : IV vs is) : vs.length = is.length := by simpa using congrArg List.length h
theorem KVs.length {vs : List Value} {is : List (Option Key)} (h : KVs vs is) : vs.length = is.length := by simpa using congrArg List.length h
theorem IV.get {vs : List Value} {is : List Int} (h : IV vs is) {i : Nat} {n : Int} (e : is[i]? = some n) : ∃ t, vs[i]? = some (.int n t) := by
  have := congrArg (fun l => l[i]?) h
  simp only [List.getElem?_map, e, Option.map_some] at this
  cases q : vs[i]? with
  | none => rw [q] at this; cases this
  | some v => rw [q] at this; obtain ⟨t, rfl⟩ := iOf_some (Option.some.inj this); exact ⟨t, rfl⟩
theorem KVs.get {vs : List Value} {ks : List (Option Key)} (h : KVs vs ks) {i : Nat} {k : Option Key} (e : ks[i]? = some k) : ∃ v, vs[i]? = some v ∧ kOf v = some k := by
  have := congrArg (fun l => l[i]?) h
  simp only [List.getElem?_map, e, Option.map_some] at this
  cases q : vs[i]? with
  | none => rw [q] at this; cases this
  | some v => rw [q] at this; exact ⟨v, rfl, Option.some.inj this⟩
theorem IV.set {vs : List Value} {is : List Int} (h : IV vs is) (i : Nat) (n : Int) (t : Tok) : IV (vs.set i (.int n t)) (is.set i n) := by
  unfold IV at *; rw [List.map_set, List.map_set, h]; rfl
theorem KVs.set {vs : List Value} {ks : List (Option Key)} (h : KVs vs ks) (i : Nat) {v : Value} {k : Option Key} (e : kOf v = some k) : KVs (vs.set i v) (ks.set i k) := by
  unfold KVs at *; rw [List.map_set, List.map_set, h, e]
theorem IV.snoc {vs : List Value} {is : List Int} (h : IV vs is) (n : Int) (t : Tok) : IV (vs ++ [.int n t]) (is ++ [n]) := by
  unfold IV at *; rw [List.map_append, List.map_append, h]; rfl
theorem KVs.snoc {vs : List Value} {ks : List (Option Key)} (h : KVs vs ks) {v : Value} {k : Option Key} (e : kOf v = some k) : KVs (vs ++ [v]) (ks ++ [k]) := by
  unfold KVs at *; rw [List.map_append, List.map_append, h]; simp [e]

/-- the hash of a text, as the code reckons it -/
noncomputable def hashS (cs : List Nat) : Int := cs.foldl (fun (f : Int) (c : Nat) => (f * 33 + (c : Int)) % 2 ^ 64) 5381
noncomputable def hashK : Key → Int
  | .int i => i % 2 ^ 64
  | .str s => if hashS s.cps.toList < 2 ^ 63 then hashS s.cps.toList + 2 ^ 63 else hashS s.cps.toList
theorem hashS_bd (cs : List Nat) : 0 ≤ hashS cs ∧ hashS cs < 2 ^ 64 := by
  unfold hashS
  suffices ∀ (cs : List Nat) (a : Int), 0 ≤ a ∧ a < 2 ^ 64 → 0 ≤ cs.foldl (fun (f : Int) (c : Nat) => (f * 33 + (c : Int)) % 2 ^ 64) a ∧ cs.foldl (fun (f : Int) (c : Nat) => (f * 33 + (c : Int)) % 2 ^ 64) a < 2 ^ 64 from this cs 5381 (by decide)
  intro cs
  induction cs with
  | nil => intro a h; exact h
  | cons c r ih => intro a h; exact ih _ ⟨Int.emod_nonneg _ (by decide), Int.emod_lt_of_pos _ (by decide)⟩
theorem hashK_bd (k : Key) : 0 ≤ hashK k ∧ hashK k < 2 ^ 64 := by
  cases k with
  | int i => exact ⟨Int.emod_nonneg _ (by decide), Int.emod_lt_of_pos _ (by decide)⟩
  | str s =>
    have := hashS_bd s.cps.toList
    simp only [hashK]
    split <;> omega

structure Pm where
  pk : Bool
  keys : List (Option Key)
  lives : List Bool
  heads : List Int
  nexts : List Int
  size : Int
  count : Int
  next : Int
noncomputable def lives (a : Ad) : List Bool := a.vs.map fun v => !isAbs v
structure Arp (a : Ad) (m : Pm) : Prop where
  pk : a.pk = m.pk
  keys : KVs a.ks m.keys
  lives : lives a = m.lives
  heads : IV a.hs m.heads
  nexts : IV a.ns m.nexts
  size : a.sz = m.size
  count : a.ct = m.count
  next : a.nx = m.next
theorem Arp.vlen {a : Ad} {m : Pm} (h : Arp a m) : a.vs.length = m.lives.length := by rw [← h.lives]; simp [Mine.lives]
noncomputable def ch (m : Pm) (k : Key) : Nat := (hashK k % m.size).toNat
noncomputable def liveAt (m : Pm) (i : Int) : Bool := decide (0 ≤ i) && (m.lives[i.toNat]?).getD false

section
variable {w : World} {H₀ : Heap} {o₀ : OsState} {A : Around} {s : Shared} {rs R : List Res} {env : Env} {fr : Res}
theorem execs_append (l1 l2 : List Stmt) : execs (l1 ++ l2) env = (do match ← execs l1 env with | .next => execs l2 env | f => pure f) := by
  induction l1 with
  | nil => rw [List.nil_append, execs_nil, pure_bind]
  | cons x r ih =>
    rw [List.cons_append, execs_cons, execs_cons, bind_assoc]
    congr 1
    funext f
    cases f with
    | next => exact ih
    | _ => rfl
/-- the statements in two parts, with a condition between -/
theorem d_cut {l : List Stmt} (n : Nat) (Mid : Shared → Prop) {Q : Flow → Shared → Prop} (h1 : ∀ K : Flow → Shared → Prop, Po (fun f s' => f = .next ∧ Mid s') K → Does w A (execs (l.take n) env) K s) (h2 : ∀ s', Mid s' → Does w A (execs (l.drop n) env) Q s') : Does w A (execs l env) Q s := by
  rw [← List.take_append_drop n l, execs_append]
  refine wpAny_bind (h1 _ ⟨fun f s' h => ?_⟩)
  obtain ⟨rfl, hM⟩ := h
  exact h2 s' hM
theorem d_setsize {x : Addr} {a : Ad} {m : Pm} {n : Int} {t : Tok} {Q : Unit → Shared → Prop} (W : Wd w H₀) (hm : Arp a m) (S : St H₀ o₀ (fr :: ArrR w.params x a :: R) s)
    (h : ∀ a2 s', Arp a2 { m with size := n } → St H₀ o₀ (fr :: ArrR w.params x a2 :: R) s' → Q () s') : Does w A (setAttr (.ref x) "size" (.int n t)) Q s :=
  d_setattr (a := a) { a with sz := n, zt := t } W S (by decide +kernel) (by intro _ _ _; rfl) ⟨rfl, rfl, rfl, rfl, rfl, rfl, rfl, rfl, rfl, rfl⟩ (fun s' S' => h { a with sz := n, zt := t } s' { hm with size := rfl } S')
theorem d_setcount {x : Addr} {a : Ad} {m : Pm} {n : Int} {t : Tok} {Q : Unit → Shared → Prop} (W : Wd w H₀) (hm : Arp a m) (S : St H₀ o₀ (fr :: ArrR w.params x a :: R) s)
    (h : ∀ a2 s', Arp a2 { m with count := n } → St H₀ o₀ (fr :: ArrR w.params x a2 :: R) s' → Q () s') : Does w A (setAttr (.ref x) "count" (.int n t)) Q s :=
  d_setattr (a := a) { a with ct := n, ctt := t } W S (by decide +kernel) (by intro _ _ _; rfl) ⟨rfl, rfl, rfl, rfl, rfl, rfl, rfl, rfl, rfl, rfl⟩ (fun s' S' => h { a with ct := n, ctt := t } s' { hm with count := rfl } S')
theorem d_setnext {x : Addr} {a : Ad} {m : Pm} {n : Int} {t : Tok} {Q : Unit → Shared → Prop} (W : Wd w H₀) (hm : Arp a m) (S : St H₀ o₀ (fr :: ArrR w.params x a :: R) s)
    (h : ∀ a2 s', Arp a2 { m with next := n } → St H₀ o₀ (fr :: ArrR w.params x a2 :: R) s' → Q () s') : Does w A (setAttr (.ref x) "next" (.int n t)) Q s :=
  d_setattr (a := a) { a with nx := n, nxt := t } W S (by decide +kernel) (by intro _ _ _; rfl) ⟨rfl, rfl, rfl, rfl, rfl, rfl, rfl, rfl, rfl, rfl⟩ (fun s' S' => h { a with nx := n, nxt := t } s' { hm with next := rfl } S')
theorem d_setat {x : Addr} {a : Ad} {m : Pm} {n : Int} {t : Tok} {Q : Unit → Shared → Prop} (W : Wd w H₀) (hm : Arp a m) (S : St H₀ o₀ (fr :: ArrR w.params x a :: R) s)
    (h : ∀ a2 s', Arp a2 m → St H₀ o₀ (fr :: ArrR w.params x a2 :: R) s' → Q () s') : Does w A (setAttr (.ref x) "at" (.int n t)) Q s :=
  d_setattr (a := a) { a with at_ := n, att := t } W S (by decide +kernel) (by intro _ _ _; rfl) ⟨rfl, rfl, rfl, rfl, rfl, rfl, rfl, rfl, rfl, rfl⟩ (fun s' S' => h { a with at_ := n, att := t } s' { hm with } S')
theorem d_setpk {x : Addr} {a : Ad} {m : Pm} {b : Bool} {Q : Unit → Shared → Prop} (W : Wd w H₀) (hm : Arp a m) (S : St H₀ o₀ (fr :: ArrR w.params x a :: R) s)
    (h : ∀ a2 s', Arp a2 { m with pk := b } → St H₀ o₀ (fr :: ArrR w.params x a2 :: R) s' → Q () s') : Does w A (setAttr (.ref x) "is_packed" (.bool b)) Q s :=
  d_setattr (a := a) { a with pk := b } W S (by decide +kernel) (by intro _ _ _; rfl) ⟨rfl, rfl, rfl, rfl, rfl, rfl, rfl, rfl, rfl, rfl⟩ (fun s' S' => h { a with pk := b } s' { hm with pk := rfl } S')
theorem d_setkeys {r2 : Res} {x : Addr} {a : Ad} {m : Pm} {l : Addr} {u : List Value} {ks : List (Option Key)} {Q : Unit → Shared → Prop} (W : Wd w H₀) (hm : Arp a m) (S : St H₀ o₀ (fr :: r2 :: ArrR w.params x a :: R) s) (h2 : ∀ q, r2 q → LsO q l u) (hu : KVs u ks)
    (h : ∀ a2 s', Arp a2 { m with keys := ks } → St H₀ o₀ (fr :: ArrR w.params x a2 :: R) s' → Q () s') : Does w A (setAttr (.ref x) "keys" (.ref l)) Q s :=
  d_setlist (c := .k) W S.sw12 h2 (by intro hc; cases hc) (fun s' S' => h (a.rep .k l u) s' { hm with keys := hu } S')
theorem d_setvals {r2 : Res} {x : Addr} {a : Ad} {m : Pm} {l : Addr} {u : List Value} {Q : Unit → Shared → Prop} (W : Wd w H₀) (hm : Arp a m) (S : St H₀ o₀ (fr :: r2 :: ArrR w.params x a :: R) s) (h2 : ∀ q, r2 q → LsO q l u)
    (hv : ∀ q q', ArrR w.params x a q → r2 q' → ∀ v ∈ u, SlotO q v ∨ SlotO q' v)
    (h : ∀ a2 s', Arp a2 { m with lives := u.map fun v => !isAbs v } → St H₀ o₀ (fr :: ArrR w.params x a2 :: R) s' → Q () s') : Does w A (setAttr (.ref x) "vals" (.ref l)) Q s :=
  d_setlist (c := .v) W S.sw12 h2 (fun _ => hv) (fun s' S' => h (a.rep .v l u) s' { hm with lives := rfl } S')
theorem d_setkey {x : Addr} {a : Ad} {m : Pm} {k : Int} {t : Tok} {v : Value} {u : Option Key} {l : Addr} {Q : Unit → Shared → Prop} (hm : Arp a m) (S : St H₀ o₀ (fr :: ArrR w.params x a :: R) s) (hu : kOf v = some u) (h0 : 0 ≤ k) (hz : k < 2 ^ 63) (hk : k < m.keys.length)
    (h : ∀ a2 s', Arp a2 { m with keys := m.keys.set k.toNat u } → St H₀ o₀ (fr :: ArrR w.params x a2 :: R) s' → Q () s') (hl : l = a.kl := by rfl) : Does w A (setItem (.ref l) (.int k t) v) Q s :=
  d_setItem (c := .k) S (fun _ k => k) (by intro hc; cases hc) h0 hz (by show k < (a.ks.length : Int); rw [hm.keys.length]; exact hk) (fun s' S' => h (a.put .k (a.ks.set k.toNat v)) s' { hm with keys := hm.keys.set _ hu } S') hl
theorem SlotO.int (q : PH) (i : Int) (t : Tok) : SlotO q (.int i t) := .inl ⟨i, t, rfl⟩
theorem set_lives {a : Ad} {m : Pm} (hm : Arp a m) (i : Nat) (v : Value) : (a.vs.set i v).map (fun v => !isAbs v) = m.lives.set i (!isAbs v) := by
  rw [List.map_set, ← hm.lives]; rfl
theorem snoc_lives {a : Ad} {m : Pm} (hm : Arp a m) (v : Value) : (a.vs ++ [v]).map (fun v => !isAbs v) = m.lives ++ [!isAbs v] := by
  rw [List.map_append, ← hm.lives]; rfl
theorem d_setval {x : Addr} {a : Ad} {m : Pm} {k i : Int} {t u : Tok} {l : Addr} {Q : Unit → Shared → Prop} (hm : Arp a m) (S : St H₀ o₀ (fr :: ArrR w.params x a :: R) s) (h0 : 0 ≤ k) (hz : k < 2 ^ 63) (hk : k < m.lives.length)
    (h : ∀ a2 s', Arp a2 { m with lives := m.lives.set k.toNat true } → St H₀ o₀ (fr :: ArrR w.params x a2 :: R) s' → Q () s') (hl : l = a.vl := by rfl) : Does w A (setItem (.ref l) (.int k t) (.int i u)) Q s :=
  d_setItem (c := .v) S (fun _ k => k) (fun _ q _ => SlotO.int q i u) h0 hz (by show k < (a.vs.length : Int); rw [hm.vlen]; exact hk) (fun s' S' => h (a.put .v (a.vs.set k.toNat (.int i u))) s' { hm with lives := set_lives hm _ _ } S') hl
theorem d_setvalAbs {x b : Addr} {a : Ad} {m : Pm} {k : Int} {t : Tok} {l : Addr} {Q : Unit → Shared → Prop} (hm : Arp a m) (S : St H₀ o₀ (fr :: ArrR w.params x a :: AbsR b :: R) s) (h0 : 0 ≤ k) (hz : k < 2 ^ 63) (hk : k < m.lives.length)
    (h : ∀ a2 s', Arp a2 { m with lives := m.lives.set k.toNat false } → St H₀ o₀ (fr :: ArrR w.params x a2 :: R) s' → Q () s') (hl : l = a.vl := by rfl) : Does w A (setItem (.ref l) (.int k t) (.ref b)) Q s :=
  d_setItem (c := .v) S.arrAbs (fun _ k => k.1) (fun _ q k => .inr k.2) h0 hz (by show k < (a.vs.length : Int); rw [hm.vlen]; exact hk) (fun s' S' => h (a.put .v (a.vs.set k.toNat (.ref b))) s' { hm with lives := set_lives hm _ _ } S') hl
theorem d_addval {x : Addr} {a : Ad} {m : Pm} {i : Int} {u : Tok} {l : Addr} {Q : Value → Shared → Prop} (hm : Arp a m) (S : St H₀ o₀ (fr :: ArrR w.params x a :: R) s) (hz : m.lives.length ≤ sizeLine)
    (h : ∀ a2 s', Arp a2 { m with lives := m.lives ++ [true] } → St H₀ o₀ (fr :: ArrR w.params x a2 :: R) s' → Q .none s') (hl : l = a.vl := by rfl) : Does w A (call (.builtin "list.append") [.ref l, .int i u]) Q s :=
  d_append (c := .v) S (fun _ k => k) (fun _ q _ => SlotO.int q i u) (by show a.vs.length ≤ _; rw [hm.vlen]; exact hz) (fun s' S' => h (a.put .v (a.vs ++ [Value.int i u])) s' { hm with lives := snoc_lives hm (.int i u) } S') hl
theorem d_addvalAbs {x b : Addr} {a : Ad} {m : Pm} {l : Addr} {Q : Value → Shared → Prop} (hm : Arp a m) (S : St H₀ o₀ (fr :: ArrR w.params x a :: AbsR b :: R) s) (hz : m.lives.length ≤ sizeLine)
    (h : ∀ a2 s', Arp a2 { m with lives := m.lives ++ [false] } → St H₀ o₀ (fr :: ArrR w.params x a2 :: R) s' → Q .none s') (hl : l = a.vl := by rfl) : Does w A (call (.builtin "list.append") [.ref l, .ref b]) Q s :=
  d_append (c := .v) S.arrAbs (fun _ k => k.1) (fun _ q k => .inr k.2) (by show a.vs.length ≤ _; rw [hm.vlen]; exact hz) (fun s' S' => h (a.put .v (a.vs ++ [Value.ref b])) s' { hm with lives := snoc_lives hm (.ref b) } S') hl
theorem d_addkey {x : Addr} {a : Ad} {m : Pm} {v : Value} {u : Option Key} {l : Addr} {Q : Value → Shared → Prop} (hm : Arp a m) (S : St H₀ o₀ (fr :: ArrR w.params x a :: R) s) (hu : kOf v = some u) (hz : m.keys.length ≤ sizeLine)
    (h : ∀ a2 s', Arp a2 { m with keys := m.keys ++ [u] } → St H₀ o₀ (fr :: ArrR w.params x a2 :: R) s' → Q .none s') (hl : l = a.kl := by rfl) : Does w A (call (.builtin "list.append") [.ref l, v]) Q s :=
  d_append (c := .k) S (fun _ k => k) (by intro hc; cases hc) (by show a.ks.length ≤ _; rw [hm.keys.length]; exact hz) (fun s' S' => h (a.put .k (a.ks ++ [v])) s' { hm with keys := hm.keys.snoc hu } S') hl
theorem d_addnext {x : Addr} {a : Ad} {m : Pm} {i : Int} {u : Tok} {l : Addr} {Q : Value → Shared → Prop} (hm : Arp a m) (S : St H₀ o₀ (fr :: ArrR w.params x a :: R) s) (hz : m.nexts.length ≤ sizeLine)
    (h : ∀ a2 s', Arp a2 { m with nexts := m.nexts ++ [i] } → St H₀ o₀ (fr :: ArrR w.params x a2 :: R) s' → Q .none s') (hl : l = a.nl := by rfl) : Does w A (call (.builtin "list.append") [.ref l, .int i u]) Q s :=
  d_append (c := .n) S (fun _ k => k) (by intro hc; cases hc) (by show a.ns.length ≤ _; rw [hm.nexts.length]; exact hz) (fun s' S' => h (a.put .n (a.ns ++ [Value.int i u])) s' { hm with nexts := hm.nexts.snoc _ _ } S') hl
theorem snoc_of {α : Type} {l : List α} (h : l ≠ []) : ∃ u v, l = u ++ [v] := ⟨l.dropLast, l.getLast h, (List.dropLast_concat_getLast h).symm⟩
theorem d_popval {x : Addr} {a : Ad} {m : Pm} {ls : List Bool} {b : Bool} {l : Addr} {Q : Value → Shared → Prop} (hm : Arp a m) (S : St H₀ o₀ (fr :: ArrR w.params x a :: R) s) (hv : m.lives = ls ++ [b]) (hz : m.lives.length < sizeLine)
    (h : ∀ a2 v s', Arp a2 { m with lives := ls } → St H₀ o₀ (fr :: ArrR w.params x a2 :: R) s' → Q v s') (hl : l = a.vl := by rfl) : Does w A (call (.builtin "list.pop") [.ref l]) Q s := by
  have hn : a.vs ≠ [] := fun e => by have := hm.vlen; rw [e, hv] at this; simp at this
  obtain ⟨us, v, e⟩ := snoc_of hn
  have e2 := hm.vlen
  refine d_pop (c := .v) S e (by have : us.length < a.vs.length := by rw [e]; simp
                                 omega) (fun s' S' => h (a.put .v us) _ s' { hm with lives := ?_ } S') hl
  have e3 : a.vs.map (fun v => !isAbs v) = m.lives := hm.lives
  rw [e, hv, List.map_append] at e3
  exact (List.append_inj' e3 rfl).1
theorem d_popkey {x : Addr} {a : Ad} {m : Pm} {ks : List (Option Key)} {b : Option Key} {l : Addr} {Q : Value → Shared → Prop} (hm : Arp a m) (S : St H₀ o₀ (fr :: ArrR w.params x a :: R) s) (hv : m.keys = ks ++ [b]) (hz : m.keys.length < sizeLine)
    (h : ∀ a2 v s', Arp a2 { m with keys := ks } → St H₀ o₀ (fr :: ArrR w.params x a2 :: R) s' → Q v s') (hl : l = a.kl := by rfl) : Does w A (call (.builtin "list.pop") [.ref l]) Q s := by
  have hn : a.ks ≠ [] := fun e => by have := hm.keys.length; rw [e, hv] at this; simp at this
  obtain ⟨us, v, e⟩ := snoc_of hn
  have e2 := hm.keys.length
  refine d_pop (c := .k) S e (by have : us.length < a.ks.length := by rw [e]; simp
                                 omega) (fun s' S' => h (a.put .k us) _ s' { hm with keys := ?_ } S') hl
  have e3 : a.ks.map kOf = m.keys.map some := hm.keys
  rw [e, hv, List.map_append, List.map_append] at e3
  exact (List.append_inj' e3 rfl).1
theorem d_popnext {x : Addr} {a : Ad} {m : Pm} {ns : List Int} {b : Int} {l : Addr} {Q : Value → Shared → Prop} (hm : Arp a m) (S : St H₀ o₀ (fr :: ArrR w.params x a :: R) s) (hv : m.nexts = ns ++ [b]) (hz : m.nexts.length < sizeLine)
    (h : ∀ a2 v s', Arp a2 { m with nexts := ns } → St H₀ o₀ (fr :: ArrR w.params x a2 :: R) s' → Q v s') (hl : l = a.nl := by rfl) : Does w A (call (.builtin "list.pop") [.ref l]) Q s := by
  have hn : a.ns ≠ [] := fun e => by have := hm.nexts.length; rw [e, hv] at this; simp at this
  obtain ⟨us, v, e⟩ := snoc_of hn
  have e2 := hm.nexts.length
  refine d_pop (c := .n) S e (by have : us.length < a.ns.length := by rw [e]; simp
                                 omega) (fun s' S' => h (a.put .n us) _ s' { hm with nexts := ?_ } S') hl
  have e3 : a.ns.map iOf = m.nexts.map some := hm.nexts
  rw [e, hv, List.map_append, List.map_append] at e3
  exact (List.append_inj' e3 rfl).1
end

section
variable {w : World} {H₀ : Heap} {o₀ : OsState} {A : Around} {s : Shared} {rs R : List Res} {env : Env} {fr : Res}
/-! ### guards of the step lines -/
theorem g_getAttr {v : Value} {n : Str} {b : Bool} {Q : Value → Shared → Prop} (h : Does w A (getAttr v n b) Q s) : Does w A (getAttr v n b) Q s := h
theorem g_getMethod {v : Value} {n : Str} {b : Sem Bool} {Q : Value × List Value → Shared → Prop} (h : Does w A (getMethod v n b) Q s) : Does w A (getMethod v n b) Q s := h
theorem g_subT {e i : Expr} {a b : Value} {Q : Value → Shared → Prop} (h : Does w A (subscriptTail e i a b) Q s) : Does w A (subscriptTail e i a b) Q s := h
theorem g_newList {l : List Value} {Q : Value → Shared → Prop} (h : Does w A (newList l) Q s) : Does w A (newList l) Q s := h
theorem g_spliced {l : List (Bool × Sem Value)} {Q : List Value → Shared → Prop} (h : Does w A (spliced l) Q s) : Does w A (spliced l) Q s := h
theorem g_loadName {x : Str} {Q : Value → Shared → Prop} (h : Does w A (loadName env x) Q s) : Does w A (loadName env x) Q s := h
theorem g_storeName {x : Str} {v : Value} {Q : Unit → Shared → Prop} (h : Does w A (storeName env x v) Q s) : Does w A (storeName env x v) Q s := h
theorem g_callWith {pos : Pos} {f : Value} {l : List Value} {a : List (Bool × Sem Value)} {ks : List (Option Str × Sem Value)} {Q : Value → Shared → Prop} (h : Does w A (callWith pos f l a ks) Q s) : Does w A (callWith pos f l a ks) Q s := h
theorem g_unary {op : UnaryOp} {v : Value} {Q : Value → Shared → Prop} (h : Does w A (unaryOp op v) Q s) : Does w A (unaryOp op v) Q s := h
theorem g_inplace {op : Operator} {a b : Value} {Q : Value → Shared → Prop} (h : Does w A (inplaceOp op a b) Q s) : Does w A (inplaceOp op a b) Q s := h
theorem g_callBi {i : String} {vs : List Value} {Q : Value → Shared → Prop} (h : Does w A (call (.builtin i) vs) Q s) : Does w A (call (.builtin i) vs) Q s := h
theorem g_callTy {i : String} {vs : List Value} {Q : Value → Shared → Prop} (h : Does w A (call (.type i) vs) Q s) : Does w A (call (.type i) vs) Q s := h
/-! ### a statement, and what is behind it as one letter -/
structure Sq (w : World) (A : Around) (env : Env) (r : List Stmt) (Q K : Flow → Shared → Prop) : Prop where
  next : ∀ s', Does w A (execs r env) Q s' → K .next s'
  ret : ∀ v s', Q (.ret v) s' → K (.ret v) s'
  brk : ∀ s', Q .brk s' → K .brk s'
  cont : ∀ s', Q .cont s' → K .cont s'
theorem d_cons {st : Stmt} {r : List Stmt} {Q : Flow → Shared → Prop} (h : ∀ K, Sq w A env r Q K → Does w A (exec st env) K s) : Does w A (execs (st :: r) env) Q s :=
  wpAny_execs_cons (h (fun f s' => match f with | .next => Does w A (execs r env) Q s' | f => Q f s') ⟨fun _ h => h, fun _ _ h => h, fun _ h => h, fun _ h => h⟩)
theorem d_last {st : Stmt} {K : Flow → Shared → Prop} (h : Does w A (exec st env) K s) : Does w A (execs [st] env) K s :=
  wpAny_execs_cons (wpAny_mono h (fun f s' h => by cases f <;> first | exact wpAny_execs_nil h | exact h) fun _ _ x => x)
theorem k_next {r : List Stmt} {Q K : Flow → Shared → Prop} (H : Sq w A env r Q K) (h : Does w A (execs r env) Q s) : K .next s := H.next _ h
theorem k_ret {r : List Stmt} {Q K : Flow → Shared → Prop} {v : Value} (H : Sq w A env r Q K) (h : Q (.ret v) s) : K (.ret v) s := H.ret _ _ h
theorem k_brk {r : List Stmt} {Q K : Flow → Shared → Prop} (H : Sq w A env r Q K) (h : Q .brk s) : K .brk s := H.brk _ h
theorem k_cont {r : List Stmt} {Q K : Flow → Shared → Prop} (H : Sq w A env r Q K) (h : Q .cont s) : K .cont s := H.cont _ h
/-! ### step lemmas whose side conditions are shown by themselves -/
section
variable {x : Str} {pos p : Pos} {L : Addr} {names : List Str} {vs : List (Option Value)} {v : Value} {Q : Value → Shared → Prop} {e : Expr} {es : List Expr} {f : Addr} {i : String} {pl : Sem Bool} {l : Addr} {k : Int} {t : Tok} {value slice : Expr}
noncomputable def nmB (env : Env) (x : Str) (k : NameKind) : Bool := decide (env.scope.kind = .function) && decide (env.kindOf x = some k) && !(x == ("__debug__" : Str))
theorem nmB_k {x : Str} {k : NameKind} (h : nmB env x k = true) : env.scope.kind = .function := by simp only [nmB, Bool.and_eq_true, decide_eq_true_eq] at h; exact h.1.1
theorem nmB_x {x : Str} {k : NameKind} (h : nmB env x k = true) : env.kindOf x = some k := by simp only [nmB, Bool.and_eq_true, decide_eq_true_eq] at h; exact h.1.2
theorem nmB_d {x : Str} {k : NameKind} (h : nmB env x k = true) : (x == ("__debug__" : Str)) = false := by simp only [nmB, Bool.and_eq_true, Bool.not_eq_true'] at h; exact h.2
theorem q_local (h : Q v s) (S : St H₀ o₀ (FrR H₀ L names vs :: R) s := by assumption) (hL : env.locals = L := by with_unfolding_all rfl) (hv : vs[ix x names]? = some (some v) := by with_unfolding_all rfl) (hc : nmB env x .local = true := by kernel_rfl!) : Does w A (eval (.Name x pos) env) Q s := d_local S hL hv (nmB_k hc) (nmB_x hc) h (nmB_d hc)
theorem q_load (h : Q v s) (S : St H₀ o₀ (FrR H₀ L names vs :: R) s := by assumption) (hL : env.locals = L := by with_unfolding_all rfl) (hv : vs[ix x names]? = some (some v) := by with_unfolding_all rfl) (hc : nmB env x .local = true := by kernel_rfl!) :
    Does w A (loadName env x) Q s := d_load S hL hv (nmB_k hc) (nmB_x hc) h
theorem q_store {Q : Unit → Shared → Prop} (h : ∀ s', St H₀ o₀ (FrR H₀ L names (vs.set (ix x names) (some v)) :: R) s' → Q () s') (S : St H₀ o₀ (FrR H₀ L names vs :: R) s := by assumption) (hL : env.locals = L := by with_unfolding_all rfl)
    (hx : ix x names < names.length := by with_unfolding_all decide) (hc : nmB env x .local = true := by kernel_rfl!) : Does w A (storeName env x v) Q s := d_store S hL hx (nmB_k hc) (nmB_x hc) h
theorem q_class (e : nsIn (KK w) mainGlobals x = some (some v)) (h : Q v s) (W : Wd w H₀ := by assumption) (S : St H₀ o₀ rs s := by assumption) (hg : env.globals = mainGlobals := by with_unfolding_all rfl) (hc : nmB env x .globalImplicit = true := by kernel_rfl!) : Does w A (eval (.Name x pos) env) Q s := W.glob S e h hg (nmB_k hc) (nmB_x hc) (nmB_d hc)
theorem q_bltn (e : nsIn (KK w) mainGlobals x = some none) (hb : bootBuiltins x = some v) (h : Q v s) (W : Wd w H₀ := by assumption) (S : St H₀ o₀ rs s := by assumption) (hn : x ≠ "__name__" := by decide) (hg : env.globals = mainGlobals := by with_unfolding_all rfl) (hbn : env.builtins = builtinsNs := by with_unfolding_all rfl)
    (hc : nmB env x .globalImplicit = true := by kernel_rfl!) : Does w A (eval (.Name x pos) env) Q s := W.bltn S e hb hn h hg hbn (nmB_k hc) (nmB_x hc) (nmB_d hc)
theorem q_call (hg : nsIn (KK w) mainGlobals x = some (some (.ref f))) (hkp : keepIn (KK w) (.ref f) = true) (h : Does w A (spliced (backTo pos (starEach (e :: es) env))) (fun vs s₁ => Cur H₀ s₁ ∧ Does w A (call (.ref f) vs) Q s₁) s)
    (W : Wd w H₀ := by assumption) (S : St H₀ o₀ rs s := by assumption) (hgl : env.globals = mainGlobals := by with_unfolding_all rfl) (hc : nmB env x .globalImplicit = true := by kernel_rfl!)
    (he : starEach (e :: es) env = (false, eval e env) :: starEach es env := by with_unfolding_all rfl) (hp : (backTo pos (starEach es env)).any (·.1) = false := by with_unfolding_all rfl) : Does w A (eval (.Call (.Name x p) (e :: es) [] pos) env) Q s := d_callRef W S hg hkp h hgl (nmB_k hc) (nmB_x hc) (nmB_d hc) he hp
theorem q_call0 (hg : nsIn (KK w) mainGlobals x = some (some (.ref f))) (hkp : keepIn (KK w) (.ref f) = true) (h : Does w A (call (.ref f) []) Q s)
    (W : Wd w H₀ := by assumption) (S : St H₀ o₀ rs s := by assumption) (hgl : env.globals = mainGlobals := by with_unfolding_all rfl) (hc : nmB env x .globalImplicit = true := by kernel_rfl!) :
    Does w A (eval (.Call (.Name x p) [] [] pos) env) Q s := d_callRef0 W S hg hkp h hgl (nmB_k hc) (nmB_x hc) (nmB_d hc)
theorem q_callB (hg : nsIn (KK w) mainGlobals x = some none) (hb : bootBuiltins x = some (.builtin i)) (h : Does w A (spliced (backTo pos (starEach (e :: es) env))) (fun vs s₁ => Does w A (call (.builtin i) vs) Q s₁) s)
    (W : Wd w H₀ := by assumption) (S : St H₀ o₀ rs s := by assumption) (hn : x ≠ "__name__" := by decide) (hgl : env.globals = mainGlobals := by with_unfolding_all rfl) (hbn : env.builtins = builtinsNs := by with_unfolding_all rfl) (hc : nmB env x .globalImplicit = true := by kernel_rfl!) (he : starEach (e :: es) env = (false, eval e env) :: starEach es env := by with_unfolding_all rfl) (hp : (backTo pos (starEach es env)).any (·.1) = false := by with_unfolding_all rfl) :
    Does w A (eval (.Call (.Name x p) (e :: es) [] pos) env) Q s := d_callB W S hg hb hn h hgl hbn (nmB_k hc) (nmB_x hc) (nmB_d hc) he hp
theorem q_callT (hg : nsIn (KK w) mainGlobals x = some none) (hb : bootBuiltins x = some (.type i)) (h : Does w A (spliced (backTo pos (starEach (e :: es) env))) (fun vs s₁ => Does w A (call (.type i) vs) Q s₁) s)
    (W : Wd w H₀ := by assumption) (S : St H₀ o₀ rs s := by assumption) (hn : x ≠ "__name__" := by decide) (hgl : env.globals = mainGlobals := by with_unfolding_all rfl) (hbn : env.builtins = builtinsNs := by with_unfolding_all rfl) (hc : nmB env x .globalImplicit = true := by kernel_rfl!) (he : starEach (e :: es) env = (false, eval e env) :: starEach es env := by with_unfolding_all rfl) (hp : (backTo pos (starEach es env)).any (·.1) = false := by with_unfolding_all rfl) :
    Does w A (eval (.Call (.Name x p) (e :: es) [] pos) env) Q s := d_callT W S hg hb hn h hgl hbn (nmB_k hc) (nmB_x hc) (nmB_d hc) he hp
theorem q_args1 {Q : List Value → Shared → Prop} (h : Does w A (eval e env) (fun v s₁ => Q [v] s₁) s) (E : starEach [e] env = (false, eval e env) :: starEach [] env := by with_unfolding_all rfl) : Does w A (spliced (backTo pos (starEach [e] env))) Q s := d_args1 h E
theorem q_args2 {e2 : Expr} {Q : List Value → Shared → Prop} (h : Does w A (eval e env) (fun v s₁ => Does w A (eval e2 env) (fun u s₂ => Q [v, u] s₂) s₁) s)
    (E : starEach [e, e2] env = (false, eval e env) :: starEach [e2] env := by with_unfolding_all rfl) (E2 : starEach [e2] env = (false, eval e2 env) :: starEach [] env := by with_unfolding_all rfl) : Does w A (spliced (backTo pos (starEach [e, e2] env))) Q s := d_args2 h E E2
theorem q_args3 {e2 e3 : Expr} {Q : List Value → Shared → Prop} (h : Does w A (eval e env) (fun v s₁ => Does w A (eval e2 env) (fun u s₂ => Does w A (eval e3 env) (fun x s₃ => Q [v, u, x] s₃) s₂) s₁) s)
    (E : starEach [e, e2, e3] env = (false, eval e env) :: starEach [e2, e3] env := by with_unfolding_all rfl) (E2 : starEach [e2, e3] env = (false, eval e2 env) :: starEach [e3] env := by with_unfolding_all rfl)
    (E3 : starEach [e3] env = (false, eval e3 env) :: starEach [] env := by with_unfolding_all rfl) : Does w A (spliced (backTo pos (starEach [e, e2, e3] env))) Q s := d_args3 h E E2 E3
end
/-! ### keys compared -/
theorem str_beq (x y : Str) : (x.cps.toList == y.cps.toList) = (x == y) := by
  by_cases h : x = y
  · subst h; simp
  · have : x.cps.toList ≠ y.cps.toList := fun e => h (by
      cases x; cases y; simp at e; simpa using e)
    rw [beq_eq_false_iff_ne.mpr this, beq_eq_false_iff_ne.mpr h]
theorem key_int (i j : Int) : (some (Key.int i) == some (Key.int j)) = (i == j) := by
  by_cases h : i = j
  · subst h; simp
  · rw [beq_eq_false_iff_ne.mpr h, beq_eq_false_iff_ne.mpr (by simpa using h)]
theorem key_str (i j : Str) : (some (Key.str i) == some (Key.str j)) = (i == j) := by
  by_cases h : i = j
  · subst h; simp
  · rw [beq_eq_false_iff_ne.mpr h, beq_eq_false_iff_ne.mpr (by simpa using h)]
theorem d_eqK {v1 v2 : Value} {k1 : Option Key} {k2 : Key} {Q : Value → Shared → Prop} (h1 : kOf v1 = some k1) (h2 : KV v2 k2) (h : Q (.bool (k1 == some k2)) s) : Does w A (compareOp .Eq v1 v2) Q s := by
  cases k1 with
  | none =>
    obtain rfl := kOf_none h1
    cases k2 with
    | int j => obtain ⟨u, rfl⟩ := h2.int; exact SeqAt.RcAt.none_int j u _ w _ Q h
    | str y => obtain ⟨u, rfl⟩ := h2.str; exact SeqAt.RcAt.none_str y u _ w _ Q h
  | some k1 =>
    cases k1 with
    | int i =>
      obtain ⟨t, rfl⟩ := KV.int h1
      cases k2 with
      | int j => obtain ⟨u, rfl⟩ := h2.int; rw [key_int] at h; exact eq_int h
      | str y => obtain ⟨u, rfl⟩ := h2.str; exact EqMixed.eq_int_str (by rwa [show (some (Key.int i) == some (Key.str y)) = false from rfl] at h)
    | str x =>
      obtain ⟨t, rfl⟩ := KV.str h1
      cases k2 with
      | int j => obtain ⟨u, rfl⟩ := h2.int; exact EqMixed.eq_str_int (by rwa [show (some (Key.str x) == some (Key.int j)) = false from rfl] at h)
      | str y => obtain ⟨u, rfl⟩ := h2.str; rw [key_str, ← str_beq] at h; exact PySem.P.eq_str h
theorem d_neK {v1 v2 : Value} {k1 k2 : Key} {Q : Value → Shared → Prop} (h1 : KV v1 k1) (h2 : KV v2 k2) (h : Q (.bool (!(some k1 == some k2))) s) : Does w A (compareOp .NotEq v1 v2) Q s := by
  cases k1 with
  | int i =>
    obtain ⟨t, rfl⟩ := KV.int h1
    cases k2 with
    | int j => obtain ⟨u, rfl⟩ := h2.int; rw [key_int] at h; exact ne_int h
    | str y => obtain ⟨u, rfl⟩ := h2.str; exact EqMixed.ne_int_str (by rwa [show (some (Key.int i) == some (Key.str y)) = false from rfl] at h)
  | str x =>
    obtain ⟨t, rfl⟩ := KV.str h1
    cases k2 with
    | int j => obtain ⟨u, rfl⟩ := h2.int; exact EqMixed.ne_str_int (by rwa [show (some (Key.str x) == some (Key.int j)) = false from rfl] at h)
    | str y => obtain ⟨u, rfl⟩ := h2.str; rw [key_str, ← str_beq] at h; exact PySem.P.ne_str h
end

section
variable {w : World} {H₀ : Heap} {o₀ : OsState} {A : Around} {s : Shared} {rs R : List Res} {env : Env} {fr : Res}
theorem g_setItem {a b v : Value} {Q : Unit → Shared → Prop} (h : Does w A (setItem a b v) Q s) : Does w A (setItem a b v) Q s := h
/-! ## 7. the form -/
structure Fd where
  pk : Bool
  sz : Int
  szt : Tok
  pl : Addr
  nx : Value
noncomputable def kv4 (F : Fd) : List (Str × Value) := [("packed", .bool F.pk), ("size", .int F.sz F.szt), ("places", .ref F.pl), ("next", F.nx)]
@[irreducible] noncomputable def DicR (w : World) (f : Addr) (F : Fd) : Res := fun p => ∃ o, p f = some o ∧ o.IsDictOf (PySem.strKind PySem.Challenge.rw_pc0244_01.row.prog w) (kv4 F)
theorem DicR_def {f : Addr} {F : Fd} {p : PH} : DicR w f F p ↔ ∃ o, p f = some o ∧ o.IsDictOf (PySem.strKind PySem.Challenge.rw_pc0244_01.row.prog w) (kv4 F) := by unfold DicR; exact Iff.rfl
theorem St.dic {f : Addr} {F : Fd} (S : St H₀ o₀ rs s) (hm : DicR w f F ∈ rs) : s.heap.DictOf (PySem.strKind PySem.Challenge.rw_pc0244_01.row.prog w) f (kv4 F) := by
  obtain ⟨q, hq, hr⟩ := S.get hm
  obtain ⟨o, e, k⟩ := DicR_def.mp hr
  exact Heap.dictOf_iff.mpr ⟨o, hq _ _ e, k⟩
theorem d_fget {value slice : PySem.Expr} {f : Addr} {F : Fd} {k : Str} {t : Tok} {v : Value} {Q : Value → Shared → Prop} (S : St H₀ o₀ rs s) (hm : DicR w f F ∈ rs) (hv : valueAt (kv4 F) k = some v) (h : ∀ s', St H₀ o₀ rs s' → Q v s')
    (hs : subscripted slice false (.ref f) (.str k t) = operate [.ref f, .str k t] (getItem (.ref f) (.str k t))) : Does w A (subscriptTail value slice (.ref f) (.str k t)) Q s := by
  have D := S.dic hm
  exact tail_any D.typeIs PySem.F.slot_dict_getitem.lookup (wpAny_getItem_of (strKind_is _ _ _ _) D.mapOf hv (h _ (S.tok _))) hs
theorem d_fset {f : Addr} {F F' : Fd} {k : Str} {t : Tok} {v : Value} {Q : Unit → Shared → Prop} (S : St H₀ o₀ (fr :: DicR w f F :: R) s) (hv : stored (kv4 F) k v = kv4 F') (h : ∀ s', St H₀ o₀ (fr :: DicR w f F' :: R) s' → Q () s') : Does w A (setItem (.ref f) (.str k t) v) Q s := by
  obtain ⟨q, hq, hr, hf⟩ := S.focus1
  obtain ⟨o, e, k1⟩ := DicR_def.mp hr
  refine wpAny_setItem_pairs (strKind_is _ _ _ _) (Heap.dictOf_iff.mpr ⟨o, hq _ _ e, k1⟩) (fun h' hd hs => ?_) (by unfold sizeLine; simp [kv4])
  obtain ⟨o', e', k'⟩ := Heap.dictOf_iff.mp hd
  rw [hv] at k'
  exact h _ (hf _ f o o' h' _ e e' hs (DicR_def.mpr ⟨o', up_self, k'⟩))
noncomputable def DcR (w : World) (d : Addr) (kvs : List (Str × Value)) : Res := fun p => ∃ o, p d = some o ∧ o.IsDictOf (PySem.strKind PySem.Challenge.rw_pc0244_01.row.prog w) kvs
theorem d_dict {keys : List (Option Expr)} {values : List Expr} {pos : Pos} {Q : Value → Shared → Prop} (S : St H₀ o₀ (fr :: R) s)
    (hall : keys.all (·.isSome) = true) (hl : keys.length = values.length) (h0 : keys ≠ []) (hlen : keys.length ≤ 15)
    (h : ∀ d s', St H₀ o₀ (fr :: DcR w d [] :: R) s' → Does w A (evalPairs (pairTrees keys values env pos)) (fun vs s₁ => allStrKeys vs = true ∧ ((strPairs vs).map (·.1)).Nodup ∧ ∃ fr' R', St H₀ o₀ (fr' :: DcR w d [] :: R') s₁ ∧ ∀ s', St H₀ o₀ (fr' :: DcR w d (strPairs vs) :: R') s' → Q (.ref d) s') s') :
    Does w A (eval (.Dict keys values pos) env) Q s := by
  obtain ⟨o, ho, hd⟩ := Heap.dictOf_iff.mp (Heap.DictOf.new (knd := PySem.strKind PySem.Challenge.rw_pc0244_01.row.prog w) s.heap)
  refine wpAny_Dict_walk (knd := PySem.strKind PySem.Challenge.rw_pc0244_01.row.prog w) hall hl h0 hlen ?_
  refine wpAny_mono (h s.heap.objs.size _ (S.push1 (tk := s.toks) (fun b x e => Heap.get?_push_of_some _ e) ho ⟨o, up_self, hd⟩)) (fun vs s₁ hq => ?_) fun _ _ x => x
  obtain ⟨hk, hn, fr', R', S1, hQ⟩ := hq
  obtain ⟨q, hqq, ⟨o1, e1, k1⟩, hf⟩ := S1.focus1
  refine display_done_str hk hn (Heap.dictOf_iff.mpr ⟨o1, hqq _ _ e1, k1⟩) fun h' hm hs => ?_
  obtain ⟨o', e', k'⟩ := Heap.dictOf_iff.mp hm
  exact hQ _ (hf _ s.heap.objs.size o1 o' h' _ e1 e' hs ⟨o', up_self, k'⟩)
theorem d_pair {k v : Expr} {ks : List (Option Expr)} {vs : List Expr} {pos : Pos} {Q : List (Value × Value) → Shared → Prop}
    (h : Does w A (eval k env) (fun kv s₁ => Does w A (eval v env) (fun vv s₂ => Does w A (evalPairs (pairTrees ks vs env pos)) (fun r s₃ => Q ((kv, vv) :: r) s₃) s₂) s₁) s) :
    Does w A (evalPairs (pairTrees (some k :: ks) (v :: vs) env pos)) Q s := pairTrees_cons_walk h
theorem d_pair0 {pos : Pos} {Q : List (Value × Value) → Shared → Prop} (h : Q [] s) : Does w A (evalPairs (pairTrees [] [] env pos)) Q s := pairTrees_nil_walk h
/-- x, y = (e1, e2) -/
theorem d_pairAssign {x y : Str} {px py tp vp pos : Pos} {k1 k2 : Nat} {e1 e2 : Expr} {Q : Flow → Shared → Prop} (hA : A.handled = none)
    (h : Does w A (spliced (backTo vp (starEach [e1, e2] env))) (fun vs s₁ => ∃ v1 v2 L names lv R, vs = [v1, v2] ∧ St H₀ o₀ (FrR H₀ L names lv :: R) s₁ ∧ env.locals = L ∧ ix x names < names.length ∧ ix y names < names.length ∧
      ∀ s₃, St H₀ o₀ (FrR H₀ L names ((lv.set (ix y names) (some v2)).set (ix x names) (some v1)) :: R) s₃ → Q .next s₃) s)
    (hs : swapsWithSole [.Tuple [.Name x px, .Name y py] k1 tp] (.Tuple [e1, e2] k2 vp) pos.line env = pure false)
    (hw : swappedStores [.Tuple [.Name x px, .Name y py] k1 tp] (.Tuple [e1, e2] k2 vp) env = pure (some [x, y]))
    (hk : env.scope.kind = .function) (hx : env.kindOf x = some .local) (hy : env.kindOf y = some .local) :
    Does w A (exec (.Assign [.Tuple [.Name x px, .Name y py] k1 tp] (.Tuple [e1, e2] k2 vp) pos) env) Q s := by
  refine Assign_Tuple_swapped (Tuple_ (wpAny_mono h (fun vs s₁ z => ?_) fun _ _ e => e)) hs hw
  obtain ⟨v1, v2, L, names, lv, R, rfl, S, hL, hxn, hyn, hq⟩ := z
  refine wpAny_newTuple ?_ (by unfold sizeLine; simp)
  have hT : IsTup (s₁.heap.push { cls := .type "tuple", data := .seq [v1, v2].toArray }) s₁.heap.objs.size [v1, v2].toArray := ⟨{ cls := .type "tuple", data := .seq [v1, v2].toArray }, Heap.get?_push_size _ rfl, rfl, 0, rfl⟩
  rw [show ([x, y] : List Str).length = [v1, v2].toArray.size from rfl]
  refine unpackItems_tuple hA hT fun h' he => ?_
  rw [show ([v1, v2] : List Value).toArray.toList = [v1, v2] from rfl]
  have S' : St H₀ o₀ (FrR H₀ L names lv :: R) { s₁ with heap := h' } := by
    have hk : ∀ b o, s₁.heap.get? b = some o → h'.get? b = some o := fun b o e => he b o (by rw [Heap.size_push]; exact Nat.ne_of_lt (Nat.lt_succ_of_lt (Heap.lt_size e))) (Heap.get?_push_of_some _ e)
    have hz : s₁.heap.objs.size ≤ h'.objs.size := Nat.le_of_lt (Heap.lt_size (he _ _ (by rw [Heap.size_push]; exact Nat.ne_of_lt (Nat.lt_succ_self _)) (Heap.get?_push_size _ rfl)))
    exact S.grow (tk := s₁.toks) hk hz
  show wpAny _ A (assignInOrder [fun v => bindName env y v, fun v => bindName env x v] [v2, v1]) _ _ _
  refine assignInOrder_cons (wpAny_bindName (d_store S' hL hyn hk hy fun s2 S2 => ?_))
  exact assignInOrder_cons (wpAny_bindName (d_store S2 hL hxn hk hx fun s3 S3 => assignInOrder_nil (hq _ S3)))
theorem sizeSet (F : Fd) (n : Int) (t : Tok) : stored (kv4 F) "size" (.int n t) = kv4 { F with sz := n, szt := t } := by rfl
theorem packSet (F : Fd) (b : Bool) : stored (kv4 F) "packed" (.bool b) = kv4 { F with pk := b } := by rfl
theorem placeSet (F : Fd) (l : Addr) : stored (kv4 F) "places" (.ref l) = kv4 { F with pl := l } := by rfl
theorem nextSet (F : Fd) (v : Value) : stored (kv4 F) "next" v = kv4 { F with nx := v } := by rfl
theorem sizeGet (F : Fd) : valueAt (kv4 F) "size" = some (.int F.sz F.szt) := by rfl
theorem packGet (F : Fd) : valueAt (kv4 F) "packed" = some (.bool F.pk) := by rfl
theorem placeGet (F : Fd) : valueAt (kv4 F) "places" = some (.ref F.pl) := by rfl
theorem nextGet (F : Fd) : valueAt (kv4 F) "next" = some F.nx := by rfl
theorem d_addList {L : Addr} {names : List Str} {lv : List (Option Value)} {l1 l2 : Addr} {vs us : List Value} {Q : Value → Shared → Prop} (S : St H₀ o₀ (FrR H₀ L names lv :: R) s) (m1 : LIn (FrR H₀ L names lv :: R) l1 vs) (m2 : LIn (FrR H₀ L names lv :: R) l2 us)
    (hz : vs.length + us.length ≤ sizeLine) (h : ∀ l s', St H₀ o₀ (FrR H₀ L names lv :: LsR l (vs ++ us) :: R) s' → Q (.ref l) s') : Does w A (binaryOp .Add (.ref l1) (.ref l2)) Q s := by
  have i1 := S.isList m1
  have i2 := S.isList m2
  obtain ⟨m, led, F, N, k1, k2⟩ := S.fn
  refine add_arrays F N i1 i2 (fun h' F' N' => h _ _ (k2 h' s.toks _ _ _ F' N' (fun q hq => Nat.ne_of_lt (Heap.lt_size (N q hq).1)) ?_).sw) (by simpa using hz)
  exact LsR_def.mpr ⟨_, up_self, rfl, 0, rfl⟩
end

section
variable {w : World} {H₀ : Heap} {o₀ : OsState} {A : Around} {s : Shared} {rs R : List Res} {env : Env} {fr : Res}
/-! ## 8. lists compared -/
noncomputable def dOf : Option Key → PyData | none => .none | some (.int i) => .int i | some (.str x) => .str x
noncomputable def KOk (k : Option Key) : Prop := (dOf k).canLay0 = true
noncomputable def KsOk (ks : List (Option Key)) : Prop := ∀ k ∈ ks, KOk k
theorem KsOk.lay : ∀ {ks : List (Option Key)}, KsOk ks → PyData.canLayAll0 (ks.map dOf) = true
  | [], _ => by simp [PyData.canLayAll0]
  | k :: ks, h => by
    rw [List.map_cons, PyData.canLayAll0, Bool.and_eq_true]
    exact ⟨h k (.head _), KsOk.lay fun k' h' => h k' (.tail _ h')⟩
theorem dOf_depth (k : Option Key) : (dOf k).depth = 0 := by
  unfold dOf; split <;> simp [PyData.depth]
theorem dOfs_depth : ∀ ks : List (Option Key), PyData.depthAll (ks.map dOf) = 0
  | [] => by simp [PyData.depthAll]
  | k :: ks => by simp [PyData.depthAll, dOf_depth, dOfs_depth ks]
theorem dOf_eqv (a b : Option Key) : PyData.eqv (dOf a) (dOf b) = decide (a = b) := by
  unfold dOf
  split <;> split <;> simp [PyData.eqv]
  · rename_i i _ j
    by_cases h : i = j <;> simp [h]
  · rename_i i _ j
    by_cases h : i = j <;> simp [h]
theorem dOfs_eqv : ∀ a b : List (Option Key), PyData.eqvAll (a.map dOf) (b.map dOf) = decide (a = b)
  | [], [] => by simp [PyData.eqvAll]
  | [], _ :: _ => by simp [PyData.eqvAll]
  | _ :: _, [] => by simp [PyData.eqvAll]
  | x :: xs, y :: ys => by
    rw [List.map_cons, List.map_cons, PyData.eqvAll, dOf_eqv, dOfs_eqv xs ys]
    by_cases h : x = y <;> by_cases h' : xs = ys <;> simp [h, h']
theorem dOf_any (ks : List (Option Key)) (k : Option Key) : ((ks.map dOf).any fun y => PyData.eqv y (dOf k)) = decide (k ∈ ks) := by
  rw [Bool.eq_iff_iff, List.any_eq_true, decide_eq_true_eq]
  constructor
  · rintro ⟨y, hy, e⟩
    obtain ⟨x, hx, rfl⟩ := List.mem_map.mp hy
    rw [dOf_eqv, decide_eq_true_eq] at e
    exact e ▸ hx
  · intro h
    exact ⟨_, List.mem_map.mpr ⟨k, h, rfl⟩, by rw [dOf_eqv, decide_eq_true_eq]⟩
theorem reads_key {h : Heap} {v : Value} {k : Option Key} (e : kOf v = some k) : Reads h v (dOf k) [] := by
  unfold kOf at e
  split at e <;> simp at e <;> subst e
  · exact .none
  · exact .int _ _
  · exact .str _ _
theorem reads_keys {h : Heap} : ∀ {vs : List Value} {ks : List (Option Key)}, KVs vs ks → ReadsAll h vs (ks.map dOf) []
  | [], [], _ => .nil
  | [], _ :: _, e => by simp [KVs] at e
  | _ :: _, [], e => by simp [KVs] at e
  | v :: vs, k :: ks, e => by
    unfold KVs at e
    rw [List.map_cons, List.map_cons] at e
    exact ReadsAll.cons (as := []) (bs := []) (reads_key (List.cons.inj e).1) (reads_keys (List.cons.inj e).2)
theorem St.reads {l : Addr} {vs : List Value} {ds : List PyData} {as : List Addr} (S : St H₀ o₀ rs s) (hm : LIn rs l vs) (hr : ReadsAll s.heap vs ds as) : Reads s.heap (.ref l) (.list ds) (l :: as) := by
  obtain ⟨n, e⟩ := S.lsExact hm
  exact .list e rfl rfl (by simpa using hr)
theorem d_inK {l : Addr} {vs : List Value} {ks : List (Option Key)} {v : Value} {k : Option Key} {Q : Value → Shared → Prop} (hR : Rm A 1) (S : St H₀ o₀ rs s) (hm : LIn rs l vs) (hk : KVs vs ks) (hok : KsOk ks) (hv : kOf v = some k) (hko : KOk k)
    (h : Q (.bool (decide (k ∈ ks))) s) : Does w A (compareOp .In v (.ref l)) Q s := by
  refine SeqAt.in_list_reads (S.reads hm (reads_keys hk)) (reads_key hv) hok.lay hko ?_ (by rw [dOf_any]; exact h)
  rw [dOf_depth, Nat.min_zero]
  have := hR.u
  omega
theorem d_notInK {l : Addr} {vs : List Value} {ks : List (Option Key)} {v : Value} {k : Option Key} {Q : Value → Shared → Prop} (hR : Rm A 1) (S : St H₀ o₀ rs s) (hm : LIn rs l vs) (hk : KVs vs ks) (hok : KsOk ks) (hv : kOf v = some k) (hko : KOk k)
    (h : Q (.bool (!decide (k ∈ ks))) s) : Does w A (compareOp .NotIn v (.ref l)) Q s := by
  refine SeqAt.notIn_list_reads (S.reads hm (reads_keys hk)) (reads_key hv) hok.lay hko ?_ (by rw [dOf_any]; exact h)
  rw [dOf_depth, Nat.min_zero]
  have := hR.u
  omega
theorem d_eqD {l1 l2 : Addr} {vs us : List Value} {ds es : List PyData} {as bs : List Addr} {Q : Value → Shared → Prop} (hR : Rm A 1) (S : St H₀ o₀ rs s) (m1 : LIn rs l1 vs) (m2 : LIn rs l2 us) (r1 : ReadsAll s.heap vs ds as) (r2 : ReadsAll s.heap us es bs)
    (o1 : PyData.canLayAll0 ds = true) (o2 : PyData.canLayAll0 es = true) (hd : PyData.depthAll ds ≤ 6) (h : Q (.bool (PyData.eqvAll ds es)) s) : Does w A (compareOp .Eq (.ref l1) (.ref l2)) Q s := by
  refine SeqAt.compareEq_reads (S.reads m1 r1) (S.reads m2 r2) (by simpa [PyData.canLay0] using o1) (by simpa [PyData.canLay0] using o2) ?_ (by simpa [PyData.eqv] using h)
  have := hR.u
  refine Nat.lt_of_le_of_lt (Nat.add_le_add_left (Nat.min_le_left _ _) _) ?_
  simp only [PyData.depth]
  omega
theorem d_neD {l1 l2 : Addr} {vs us : List Value} {ds es : List PyData} {as bs : List Addr} {Q : Value → Shared → Prop} (hR : Rm A 1) (S : St H₀ o₀ rs s) (m1 : LIn rs l1 vs) (m2 : LIn rs l2 us) (r1 : ReadsAll s.heap vs ds as) (r2 : ReadsAll s.heap us es bs)
    (o1 : PyData.canLayAll0 ds = true) (o2 : PyData.canLayAll0 es = true) (hd : PyData.depthAll ds ≤ 6) (h : Q (.bool (!PyData.eqvAll ds es)) s) : Does w A (compareOp .NotEq (.ref l1) (.ref l2)) Q s := by
  refine SeqAt.compareNe_reads (S.reads m1 r1) (S.reads m2 r2) (by simpa [PyData.canLay0] using o1) (by simpa [PyData.canLay0] using o2) ?_ (by simpa [PyData.eqv] using h)
  have := hR.u
  refine Nat.lt_of_le_of_lt (Nat.add_le_add_left (Nat.min_le_left _ _) _) ?_
  simp only [PyData.depth]
  omega
theorem d_eqKs {l1 l2 : Addr} {vs us : List Value} {ks js : List (Option Key)} {Q : Value → Shared → Prop} (hR : Rm A 1) (S : St H₀ o₀ rs s) (m1 : LIn rs l1 vs) (m2 : LIn rs l2 us) (r1 : KVs vs ks) (r2 : KVs us js)
    (o1 : KsOk ks) (o2 : KsOk js) (h : Q (.bool (decide (ks = js))) s) : Does w A (compareOp .Eq (.ref l1) (.ref l2)) Q s :=
  d_eqD hR S m1 m2 (reads_keys r1) (reads_keys r2) o1.lay o2.lay (by rw [dOfs_depth]; omega) (by rw [dOfs_eqv]; exact h)
theorem d_neKs {l1 l2 : Addr} {vs us : List Value} {ks js : List (Option Key)} {Q : Value → Shared → Prop} (hR : Rm A 1) (S : St H₀ o₀ rs s) (m1 : LIn rs l1 vs) (m2 : LIn rs l2 us) (r1 : KVs vs ks) (r2 : KVs us js)
    (o1 : KsOk ks) (o2 : KsOk js) (h : Q (.bool (!decide (ks = js))) s) : Does w A (compareOp .NotEq (.ref l1) (.ref l2)) Q s :=
  d_neD hR S m1 m2 (reads_keys r1) (reads_keys r2) o1.lay o2.lay (by rw [dOfs_depth]; omega) (by rw [dOfs_eqv]; exact h)
/-! ## 9. slices -/
theorem d_slice {value : PySem.Expr} {lower upper : Option PySem.Expr} {p pos : Pos} {Q : Value → Shared → Prop} (S₀ : St H₀ o₀ rs s)
    (h : Does w A (eval value env) (fun o s₁ => Does w A (evalPart lower env) (fun vl s₂ => Does w A (evalPart upper env) (fun vu s₃ =>
      ∃ l vs lo hi fr R, o = .ref l ∧ St H₀ o₀ (fr :: R) s₃ ∧ LIn (fr :: R) l vs ∧ vs.length ≤ sizeLine ∧ IsPart vl lo ∧ IsPart vu hi ∧
        ∀ D s', St H₀ o₀ (fr :: LsR D (slicePick vs.toArray lo hi none).toList :: R) s' → Q (.ref D) s') s₂) s₁) s)
    (ht : ∀ o r, letTemporaryGo value o r = pure ()) : Does w A (eval (.Subscript value (.Slice lower upper none p) pos) env) Q s := by
  refine wpAny_Subscript_list_slice (wpAny_mono h (fun o s₁ h₁ => wpAny_mono h₁ (fun vl s₂ h₂ => wpAny_mono h₂ (fun vu s₃ h₃ => ?_) fun _ _ e => e) fun _ _ e => e) fun _ _ e => e) ht
  obtain ⟨l, vs, lo, hi, fr, R, rfl, S, hm, hz, pl, pu, hQ⟩ := h₃
  refine ⟨l, vs.toArray, lo, hi, rfl, S.isList hm, by simpa using hz, pl, pu, ?_⟩
  have S1 : St H₀ o₀ (fr :: R) { s₃ with heap := s₃.heap.push { cls := .type "slice", data := .fields #[vl, vu, .none] } } := S.grow (tk := s₃.toks) (fun b o e => Heap.get?_push_of_some _ e) (by rw [Heap.size_push]; exact Nat.le_succ _)
  have S2 := S1.push (r' := LsR (s₃.heap.objs.size + 1) (slicePick vs.toArray lo hi none).toList) (o := { cls := .type "list", data := .seq (slicePick vs.toArray lo hi none) }) (tk := s₃.toks) rfl ?_
  · exact hQ _ _ S2.sw
  · refine LsR_def.mpr ⟨_, by rw [Heap.size_push]; exact up_self, rfl, 0, rfl⟩
end

section
variable {w : World} {H₀ : Heap} {o₀ : OsState} {A : Around} {s : Shared} {rs R : List Res} {env : Env} {fr : Res}
/-! ## 10. enumerate -/
theorem PH.up_comm_le {p q : PH} {x y : Addr} {o1 o2 : Obj} (hxy : x ≠ y) (l : p.le q) (n : p x = none) : (p.up y o2).le ((q.up x o1).up y o2) := fun b o e => by
  unfold PH.up at e ⊢
  by_cases hb : b = y
  · simp only [hb, if_true] at e ⊢; exact e
  · simp only [hb, if_false] at e ⊢
    by_cases hx : b = x
    · rw [hx, n] at e; cases e
    · simp only [hx, if_false]; exact l b o e
theorem PH.up_up_le {p q : PH} {x y : Addr} {o1 o2 : Obj} (hxy : x ≠ y) (l : p.le q) (n : p y = none) : (p.up x o1).le ((q.up x o1).up y o2) := fun b o e => by
  unfold PH.up at e ⊢
  by_cases hb : b = y
  · have : ¬ b = x := fun q => hxy (q.symm.trans hb)
    simp only [this, if_false] at e
    rw [hb, n] at e; cases e
  · simp only [hb, if_false] at e ⊢
    by_cases hx : b = x
    · simp only [hx, if_true] at e ⊢; exact e
    · simp only [hx, if_false] at e ⊢; exact l b o e
theorem PH.dj_upr {p q : PH} {a : Addr} {o : Obj} (d : p.dj q) (h : p a = none) : p.dj (q.up a o) := (PH.dj_up d.symm h).symm
theorem St.set2 {x y L : Addr} {T1 T2 T1' T2' : Heap → Prop} {names : List Str} {vs : List (Option Value)} {h' : Heap} {tk : Nat} (S : St H₀ o₀ (ItR x T1 :: ItR y T2 :: FrR H₀ L names vs :: R) s)
    (hk : ∀ b o, b ∉ [x, y] → s.heap.get? b = some o → h'.get? b = some o) (t1 : T1' h') (c1 : Loc x T1') (t2 : T2' h') (c2 : Loc y T2') : St H₀ o₀ (ItR x T1' :: ItR y T2' :: FrR H₀ L names vs :: R) { s with heap := h', toks := tk } := by
  obtain ⟨B, ⟨led, X, N, p1, p2, d, l1, l2, h1, p3, p4, d', l3, l4, h3, p5, p6, d'', l5, l6, h5, h6⟩, G, O, Z⟩ := S
  obtain ⟨o1, e1, f1⟩ := ItR_def.mp h1
  obtain ⟨o2, e2, f2⟩ := ItR_def.mp h3
  obtain ⟨ha, oL, m, eL, hrest⟩ := FrR_def.mp h5
  obtain ⟨o1', g1, r1⟩ := c1 _ t1
  obtain ⟨o2', g2, r2⟩ := c2 _ t2
  have n2 : p2 x = none := by rcases d x with q | q; exact absurd (q.symm.trans e1) (by simp); exact q
  have n4 : p4 y = none := by rcases d' y with q | q; exact absurd (q.symm.trans e2) (by simp); exact q
  have n1 : p1 y = none := by rcases d y with q | q; exact q; have := l3 _ _ e2; rw [q] at this; cases this
  have n3x : p3 x = none := by cases e : p3 x with | none => rfl | some o => have := l3 _ _ e; rw [n2] at this; cases this
  have n4x : p4 x = none := by cases e : p4 x with | none => rfl | some o => have := l4 _ _ e; rw [n2] at this; cases this
  have hxy : x ≠ y := fun q => by rw [q, n1] at e1; cases e1
  have hx := X _ (mem_of_lkp (l1 x o1 e1))
  have hy := X _ (mem_of_lkp (l2 y o2 (l3 y o2 e2)))
  have hLx : L ≠ x := fun q => by have := l4 _ _ (l5 _ _ eL); rw [q, n2] at this; cases this
  have hLy : L ≠ y := fun q => by have := l5 _ _ eL; rw [q, n4] at this; cases this
  refine ⟨fun b ob eb => hk b ob (fun q => ?_) (B b ob eb), ⟨setA (setA led x o1') y o2', fun q hq => ?_, nodup_setA (nodup_setA N), ?_⟩, G, O, ?_⟩
  · rcases List.mem_cons.mp q with rfl | q
    · rw [hx.2] at eb; cases eb
    · rw [List.mem_singleton.mp q, hy.2] at eb; cases eb
  · rcases mem_setA hq with rfl | ⟨h7, h8⟩
    · exact ⟨g2, hy.2⟩
    · rcases mem_setA h7 with rfl | ⟨h9, h10⟩
      · exact ⟨g1, hx.2⟩
      · exact ⟨hk _ _ (by simp [h8, h10]) (X _ h9).1, (X _ h9).2⟩
  · rw [lkp_setA, lkp_setA]
    refine ⟨p1.up x o1', p2.up y o2', PH.dj_upr (PH.dj_up d n2) (by unfold PH.up; rw [if_neg (fun q => hxy q.symm)]; exact n1), PH.up_up_le hxy l1 n1, PH.up_comm_le hxy l2 n2, ItR_def.mpr ⟨o1', up_self, r1⟩,
      p3.up y o2', p4, PH.dj_up d' n4, PH.up_le l3, PH.le_up l4 n4, ItR_def.mpr ⟨o2', up_self, r2⟩, p5, p6, d'', l5, l6, h5, h6⟩
  · have hL := X _ (mem_of_lkp (l2 L oL (l4 L oL (l5 L oL eL))))
    exact Nat.le_of_lt (Nat.lt_of_le_of_lt ha (Heap.lt_size (hk L oL (by simp [hLx, hLy]) hL.1)))

theorem St.growF {L : Addr} {names : List Str} {vs : List (Option Value)} {h' : Heap} {tk : Nat} (S : St H₀ o₀ (FrR H₀ L names vs :: R) s) (hk : ∀ b o, s.heap.get? b = some o → h'.get? b = some o) : St H₀ o₀ (FrR H₀ L names vs :: R) { s with heap := h', toks := tk } := by
  have S' := S
  obtain ⟨q, hq, hr⟩ := S'.get (.head _)
  obtain ⟨ha, oL, m, eL, hrest⟩ := FrR_def.mp hr
  obtain ⟨B, ⟨led, X, N, h2⟩, G, O, Z⟩ := S
  exact ⟨fun b o y => hk b o (B b o y), ⟨led, fun q hq => ⟨hk _ _ (X q hq).1, (X q hq).2⟩, N, h2⟩, G, O, Nat.le_of_lt (Nat.lt_of_le_of_lt ha (Heap.lt_size (hk L oL (hq _ _ eL))))⟩
theorem St.forget2 {x y L : Addr} {T1 T2 : Heap → Prop} {names : List Str} {vs : List (Option Value)} {h' : Heap} {tk : Nat} (S : St H₀ o₀ (ItR x T1 :: ItR y T2 :: FrR H₀ L names vs :: R) s)
    (hk : ∀ b o, b ∉ [x, y] → s.heap.get? b = some o → h'.get? b = some o) : St H₀ o₀ (FrR H₀ L names vs :: R) { s with heap := h', toks := tk } := by
  obtain ⟨B, ⟨led, X, N, p1, p2, d, l1, l2, h1, p3, p4, d', l3, l4, h3, p5, p6, d'', l5, l6, h5, h6⟩, G, O, Z⟩ := S
  obtain ⟨o1, e1, f1⟩ := ItR_def.mp h1
  obtain ⟨o2, e2, f2⟩ := ItR_def.mp h3
  obtain ⟨ha, oL, m, eL, hrest⟩ := FrR_def.mp h5
  have n2 : p2 x = none := by rcases d x with q | q; exact absurd (q.symm.trans e1) (by simp); exact q
  have n4 : p4 y = none := by rcases d' y with q | q; exact absurd (q.symm.trans e2) (by simp); exact q
  have n4x : p4 x = none := by cases e : p4 x with | none => rfl | some o => have := l4 _ _ e; rw [n2] at this; cases this
  have hx := X _ (mem_of_lkp (l1 x o1 e1))
  have hy := X _ (mem_of_lkp (l2 y o2 (l3 y o2 e2)))
  have hLx : L ≠ x := fun q => by have := l5 _ _ eL; rw [q, n4x] at this; cases this
  have hLy : L ≠ y := fun q => by have := l5 _ _ eL; rw [q, n4] at this; cases this
  refine ⟨fun b ob eb => hk b ob (fun q => ?_) (B b ob eb), ⟨(led.filter (fun q => q.1 != x)).filter (fun q => q.1 != y), fun q hq => ?_, N.sublist (((List.filter_sublist).trans List.filter_sublist).map _), ?_⟩, G, O, ?_⟩
  · rcases List.mem_cons.mp q with rfl | q
    · rw [hx.2] at eb; cases eb
    · rw [List.mem_singleton.mp q, hy.2] at eb; cases eb
  · obtain ⟨a1, a2⟩ := List.mem_filter.mp hq
    obtain ⟨a3, a4⟩ := List.mem_filter.mp a1
    exact ⟨hk _ _ (by simp only [List.mem_cons, List.not_mem_nil, or_false, not_or]; exact ⟨by simpa using a4, by simpa using a2⟩) (X q a3).1, (X q a3).2⟩
  · refine Sp.mono (rs := FrR H₀ L names vs :: R) ⟨p5, p6, d'', l5, l6, h5, h6⟩ fun b ob eb => ?_
    have hbx : b ≠ x := fun q => by rw [q, n4x] at eb; cases eb
    have hby : b ≠ y := fun q => by rw [q, n4] at eb; cases eb
    unfold lkp
    rw [lookup_filter_ne hby, lookup_filter_ne hbx]
    exact l2 b ob (l4 b ob eb)
  · have hL := X _ (mem_of_lkp (l2 L oL (l4 L oL (l5 L oL eL))))
    exact Nat.le_of_lt (Nat.lt_of_le_of_lt ha (Heap.lt_size (hk L oL (by simp [hLx, hLy]) hL.1)))

noncomputable def En (e it : Addr) (i : Nat) : Heap → Prop := fun h => ∃ old, IsEnum h e it (i : Nat) old
theorem En.loc {e it : Addr} {i : Nat} : Loc e (En e it i) := fun h ⟨old, x⟩ => ⟨_, x, fun h2 y => ⟨old, y⟩⟩
structure Enm (w : World) (H₀ : Heap) (o₀ : OsState) (e it : Addr) (n : Nat) (T : Nat → Heap → Prop) (P : Nat → Value → Prop) (need : List Res → Prop) : Prop where
  loc : ∀ i, Loc it (T i)
  ne : e ≠ it
  walk : ∀ A : Around, A.handled = none → ∃ (fp : List Addr) (G : Heap → Prop), Draws PySem.Challenge.rw_pc0244_01.row.prog w A it fp n P (fun i h => T i h ∧ G h) ∧ it ∈ fp ∧ e ∉ fp ∧ ∀ R s, need R → St H₀ o₀ R s → G s.heap
theorem Enm.next {e it : Addr} {n : Nat} {T : Nat → Heap → Prop} {P : Nat → Value → Prop} {need : List Res → Prop} (EN : Enm w H₀ o₀ e it n T P need) (hA : A.handled = none) {i : Nat} {L : Addr} {names : List Str} {vs : List (Option Value)} {Q : Unit → Shared → Prop} {Qn : Shared → Prop}
    {elts : List Expr} {k} {pos : Pos} (hn2 : (assignEach elts env).length = 2) (hstar : (assignEach elts env).findIdx? (·.1) = none)
    (hi : i ≤ n) (hn : need (ItR e (En e it i) :: ItR it (T i) :: FrR H₀ L names vs :: R)) (S : St H₀ o₀ (ItR e (En e it i) :: ItR it (T i) :: FrR H₀ L names vs :: R) s)
    (hitem : i < n → ∀ t x s', P i x → St H₀ o₀ (FrR H₀ L names vs :: ItR e (En e it (i + 1)) :: ItR it (T (i + 1)) :: R) s' → Does w A (assignInOrder ((assignEach elts env).map (·.2)) [.int i t, x]) Q s')
    (hend : i = n → ∀ s', St H₀ o₀ (FrR H₀ L names vs :: R) s' → Qn s') :
    Does w A (pyNext (.ref e)) (fun r s₁ => match r with
      | none => Qn s₁
      | some v => Does w A (letOwnedTupleGo (.Tuple elts k pos) (.ref e) v) (fun _ s₁' => Does w A (assign (.Tuple elts k pos) env v) Q s₁') s₁) s := by
  obtain ⟨fp, G, D, hif, hef, hG⟩ := EN.walk A.in1 hA
  have W := WalksT.enumerateD D e EN.ne hef hif
  have g := hG _ _ hn S
  have t1 := S.itr (.head _)
  have t2 := S.sw.itr (.head _)
  rcases Nat.lt_or_ge i n with hlt | hge
  · refine W.item i s _ _ hlt ⟨t1, t2, g⟩ fun Tp vals h' tk hP hT hit hm hk => ?_
    obtain ⟨t, x, hPx, rfl⟩ := hP
    refine W.go elts k pos i Tp _ _ _ hm fun h'' st hk2 => ?_
    have hTw := W.apart i Tp h' hm
    have ht : h''.IsTuple Tp #[.int i t, x] := by
      obtain ⟨o, eo, r⟩ := hit
      exact ⟨o, hk2 _ _ hTw eo, r⟩
    refine wpAny_assign_Tuple hA ht hn2 hstar fun h3 he3 => ?_
    have S2 := S.set2 (tk := tk) (h' := h'') (T1' := En e it (i + 1)) (T2' := T (i + 1)) (fun b o hb y => hk2 b o hb (hk b o hb y)) (by obtain ⟨⟨old, z⟩, _⟩ := st; exact ⟨old, by simpa using z⟩) En.loc st.2.1 (EN.loc _)
    have S3 := (S2.sw12.sw).growF (h' := h3) (tk := tk) (fun b o y => he3 b o (Nat.ne_of_lt (Heap.lt_size y)) y)
    exact hitem hlt t x _ hPx S3
  · have : i = n := by omega
    subst this
    exact W.done s _ _ ⟨t1, t2, g⟩ fun h' tk hk => hend rfl _ (S.forget2 hk)
theorem d_assign2 {x y : Str} {px py : Pos} {a b : Value} {L : Addr} {names : List Str} {vs : List (Option Value)} {Q : Unit → Shared → Prop} (S : St H₀ o₀ (FrR H₀ L names vs :: R) s)
    (hL : env.locals = L) (hx : ix x names < names.length) (hy : ix y names < names.length) (hk : env.scope.kind = .function) (hlx : env.kindOf x = some .local) (hly : env.kindOf y = some .local)
    (h : ∀ s', St H₀ o₀ (FrR H₀ L names ((vs.set (ix x names) (some a)).set (ix y names) (some b)) :: R) s' → Q () s') : Does w A (assignInOrder ((assignEach [.Name x px, .Name y py] env).map (·.2)) [a, b]) Q s := by
  show Does w A (assignInOrder [fun v => assign (.Name x px) env v, fun v => assign (.Name y py) env v] [a, b]) Q s
  refine assignInOrder_cons ?_
  show Does w A (standAt px >>= fun _ => bindName env x a) _ s
  refine wpAny_bind (wpAny_standAt (wpAny_bindName (d_store S hL hx hk hlx fun s₂ S₂ => assignInOrder_cons ?_)))
  show Does w A (standAt py >>= fun _ => bindName env y b) _ s₂
  exact wpAny_bind (wpAny_standAt (wpAny_bindName (d_store S₂ hL hy hk hly fun s₃ S₃ => assignInOrder_nil (h _ S₃))))
theorem en_list {e it l : Addr} {vs : List Value} (hei : e ≠ it) (hl : l ≠ it) (hle : e ≠ l) : Enm w H₀ o₀ e it vs.length (fun i h => h.IsListIter it l i) (fun i v => vs[i]? = some v) (fun R => LIn R l vs) where
  loc := fun i h ⟨o, e, r⟩ => ⟨o, e, fun h2 e2 => ⟨o, e2, r⟩⟩
  ne := hei
  walk := fun A hA => ⟨[it, l], fun h => h.IsList l vs.toArray, by
    have := Draws.list (prog := PySem.Challenge.rw_pc0244_01.row.prog) (w := w) hA it l hl vs.toArray
    simpa using this, .head _, by simp [hei, hle], fun R s hn S => S.isList hn⟩
theorem en_str {e it : Addr} {x : Str} {t : Tok} (hei : e ≠ it) : Enm w H₀ o₀ e it x.cps.size (fun i h => h.IsStrIter it (strIterType x) x t i) (fun i v => ∃ c u, x.cps[i]? = some c ∧ v = .str ⟨#[c]⟩ u) (fun _ => True) where
  loc := fun i h ⟨o, e, r⟩ => ⟨o, e, fun h2 e2 => ⟨o, e2, r⟩⟩
  ne := hei
  walk := fun A hA => ⟨[it], fun _ => True, by
    have W : Draws PySem.Challenge.rw_pc0244_01.row.prog w A it [it] x.cps.size (fun i v => ∃ c u, x.cps[i]? = some c ∧ v = .str ⟨#[c]⟩ u) (fun i h => h.IsStrIter it (strIterType x) x t i) := by
      unfold strIterType
      split
      · exact Draws.strAscii hA it x t
      · exact Draws.strWide hA it x t
    exact ⟨fun i h st => W.live i h st.1, fun i h h' st hk => ⟨W.frame i h h' st.1 hk, trivial⟩, fun i s Q E hi st hQ => W.item i s Q E hi st.1 fun v h' tk hP st' hk => hQ v h' tk hP ⟨st', trivial⟩ hk, fun s Q E st hQ => W.done s Q E st.1 hQ⟩, .head _, by simp [hei], fun _ _ _ _ => trivial⟩
theorem St.push2 {x y : Addr} {T1 T2 : Heap → Prop} {h' : Heap} {tk : Nat} (S : St H₀ o₀ R s) (hx : @Eq Nat x (s.heap.objs.size + 1)) (hy : @Eq Nat y s.heap.objs.size) (hk : ∀ b o, s.heap.get? b = some o → h'.get? b = some o)
    (t1 : T1 h') (c1 : Loc x T1) (t2 : T2 h') (c2 : Loc y T2) (hz : s.heap.objs.size ≤ h'.objs.size) : St H₀ o₀ (ItR x T1 :: ItR y T2 :: R) { s with heap := h', toks := tk } := by
  obtain ⟨o1, g1, r1⟩ := c1 _ t1
  obtain ⟨o2, g2, r2⟩ := c2 _ t2
  obtain ⟨B, ⟨led, X, N, h2⟩, G, O, Z⟩ := S
  have nl : ∀ a : Nat, s.heap.objs.size ≤ a → lkp led a = none := fun a ha => lkp_none fun q hq e => absurd (Heap.lt_size (X q hq).1) (by rw [e]; exact Nat.not_lt.mpr ha)
  have n0 : ∀ a : Nat, s.heap.objs.size ≤ a → H₀.get? a = none := fun a ha => by
    cases e : H₀.get? a with
    | none => rfl
    | some o' => exact absurd (Heap.lt_size (B _ _ e)) (Nat.not_lt.mpr ha)
  have lx : @LE.le Nat _ s.heap.objs.size x := by omega
  have ly : @LE.le Nat _ s.heap.objs.size y := by omega
  have hxy : @Ne Nat x y := by omega
  have hxy : x ≠ y := hxy
  refine ⟨fun b ob eb => hk b ob (B b ob eb), ⟨setA (setA led y o2) x o1, fun q hq => ?_, nodup_setA (nodup_setA N), ?_⟩, G, O, Nat.le_trans Z hz⟩
  · rcases mem_setA hq with rfl | ⟨h7, h8⟩
    · exact ⟨g1, n0 _ lx⟩
    · rcases mem_setA h7 with rfl | ⟨h9, h10⟩
      · exact ⟨g2, n0 _ ly⟩
      · exact ⟨hk _ _ (X _ h9).1, (X _ h9).2⟩
  · rw [lkp_setA, lkp_setA]
    have ny := nl y ly
    have nx := nl x lx
    have nxu : ((lkp led).up y o2) x = none := by unfold PH.up; rw [if_neg hxy]; exact nx
    exact ⟨PH.nil.up x o1, (lkp led).up y o2, PH.dj_up (fun _ => .inl rfl) nxu, PH.up_le (fun _ _ e => by cases e), PH.le_up (PH.le_refl _) nxu, ItR_def.mpr ⟨o1, up_self, r1⟩,
      PH.nil.up y o2, lkp led, PH.dj_up (fun _ => .inl rfl) ny, PH.up_le (fun _ _ e => by cases e), PH.le_up (PH.le_refl _) ny, ItR_def.mpr ⟨o2, up_self, r2⟩, h2⟩
theorem d_enum_str {x : Str} {t : Tok} {Q : Value → Shared → Prop} (S : St H₀ o₀ R s)
    (h : ∀ e it s', Enm w H₀ o₀ e it x.cps.size (fun i h => h.IsStrIter it (strIterType x) x t i) (fun i v => ∃ c u, x.cps[i]? = some c ∧ v = .str ⟨#[c]⟩ u) (fun _ => True) →
      St H₀ o₀ (ItR e (En e it 0) :: ItR it (fun h => h.IsStrIter it (strIterType x) x t 0) :: R) s' → Q (.ref e) s') : Does w A (call (.type "enumerate") [.str x t]) Q s := by
  refine call_enumerate_str fun h' he hi hz hk => ?_
  exact h _ _ _ (en_str (Nat.ne_of_gt (Nat.lt_succ_self _))) (S.push2 (tk := s.toks) rfl rfl hk ⟨_, he⟩ En.loc hi (fun h ⟨o, e, r⟩ => ⟨o, e, fun h2 e2 => ⟨o, e2, r⟩⟩) (by rw [hz]; exact Nat.le_add_right _ _))
theorem d_enum_list {l : Addr} {vs : List Value} {Q : Value → Shared → Prop} (S : St H₀ o₀ R s) (hm : LIn R l vs)
    (h : ∀ e it s', Enm w H₀ o₀ e it vs.length (fun i h => h.IsListIter it l i) (fun i v => vs[i]? = some v) (fun R => LIn R l vs) →
      St H₀ o₀ (ItR e (En e it 0) :: ItR it (fun h => h.IsListIter it l 0) :: R) s' → Q (.ref e) s') : Does w A (call (.type "enumerate") [.ref l]) Q s := by
  have hl := S.isList hm
  have hlt : l < s.heap.objs.size := by obtain ⟨o, e, _⟩ := hl; exact Heap.lt_size e
  refine call_enumerate_list hl fun h' he hi hz hk => ?_
  exact h _ _ _ (en_list (Nat.ne_of_gt (Nat.lt_succ_self _)) (Nat.ne_of_lt hlt) (Nat.ne_of_gt (Nat.lt_succ_of_lt hlt))) (S.push2 (tk := s.toks) rfl rfl hk ⟨_, he⟩ En.loc hi (fun h ⟨o, e, r⟩ => ⟨o, e, fun h2 e2 => ⟨o, e2, r⟩⟩) (by rw [hz]; exact Nat.le_add_right _ _))
theorem d_iter_enum {e it : Addr} {i : Nat} {Q : Value → Shared → Prop} (S : St H₀ o₀ (ItR e (En e it i) :: R) s) (h : Q (.ref e) s) : Does w A (pyIter (.ref e)) Q s := by
  obtain ⟨old, x⟩ := S.itr (.head _)
  exact wpAny_pyIter_enum x h
inductive FeOk (H₀ : Heap) (o₀ : OsState) (J : Nat → List (Option Value) → List Res → Prop) (i : Nat) (L : Addr) (names : List Str) (a b : Res) (s : Shared) : Prop
  | mk (vs : List (Option Value)) (R : List Res) (h : J i vs R) (S : St H₀ o₀ (FrR H₀ L names vs :: a :: b :: R) s) : FeOk H₀ o₀ J i L names a b s
theorem d_forE {e it : Addr} {n : Nat} {T : Nat → Heap → Prop} {P : Nat → Value → Prop} {need : List Res → Prop} {x y : Str} {px py tp : Pos} {k} {body : List Stmt} {L : Addr} {names : List Str} {vs₀ : List (Option Value)} {Q : Flow → Shared → Prop}
    (J : Nat → List (Option Value) → List Res → Prop) (hA : A.handled = none) (EN : Enm w H₀ o₀ e it n T P need) (S : St H₀ o₀ (ItR e (En e it 0) :: ItR it (T 0) :: FrR H₀ L names vs₀ :: R) s) (h0 : J 0 vs₀ R)
    (hneed : ∀ i vs R, J i vs R → need (ItR e (En e it i) :: ItR it (T i) :: FrR H₀ L names vs :: R))
    (hL : env.locals = L) (hx : ix x names < names.length) (hy : ix y names < names.length) (hk : env.scope.kind = .function) (hlx : env.kindOf x = some .local) (hly : env.kindOf y = some .local)
    (turn : ∀ i t v vs R s, i < n → P i v → J i vs R → St H₀ o₀ (FrR H₀ L names ((vs.set (ix x names) (some (.int i t))).set (ix y names) (some v)) :: ItR e (En e it (i + 1)) :: ItR it (T (i + 1)) :: R) s →
      ∀ K : Flow → Shared → Prop, Po (fun f s₃ => match f with | .next => FeOk H₀ o₀ J (i + 1) L names (ItR e (En e it (i + 1))) (ItR it (T (i + 1))) s₃ | .cont => FeOk H₀ o₀ J (i + 1) L names (ItR e (En e it (i + 1))) (ItR it (T (i + 1))) s₃ | .brk => Q .next s₃ | .ret v => Q (.ret v) s₃) K → Does w A (execs body env) K s)
    (done : ∀ vs R s, J n vs R → St H₀ o₀ (FrR H₀ L names vs :: R) s → Q .next s) : ForAt w A env (.Tuple [.Name x px, .Name y py] k tp) body Q (.ref e) s := by
  refine codeAny_forLoop_any (fun k s => ∃ i vs R, k = n - i ∧ i ≤ n ∧ J i vs R ∧ St H₀ o₀ (ItR e (En e it i) :: ItR it (T i) :: FrR H₀ L names vs :: R) s) (fun k' s hI => ?_) n ⟨0, vs₀, R, by omega, by omega, h0, S⟩
  obtain ⟨i, vs, R, rfl, hi, hJ, S⟩ := hI
  refine wpAny_mono (E := fun _ _ => False) (EN.next (env := env) (elts := [.Name x px, .Name y py]) (k := k) (pos := tp) hA rfl rfl hi (hneed i vs R hJ) S (Qn := fun s₁ => Does w A (execs [] env) (fun f s₃ => Q f s₃) s₁)
    (Q := fun _ s₂ => Does w A (execs body env) (fun f s₃ => match f with
        | .next => ∃ m, m < n - i ∧ (∃ i vs R, m = n - i ∧ i ≤ n ∧ J i vs R ∧ St H₀ o₀ (ItR e (En e it i) :: ItR it (T i) :: FrR H₀ L names vs :: R) s₃)
        | .cont => ∃ m, m < n - i ∧ (∃ i vs R, m = n - i ∧ i ≤ n ∧ J i vs R ∧ St H₀ o₀ (ItR e (En e it i) :: ItR it (T i) :: FrR H₀ L names vs :: R) s₃)
        | .brk => Q .next s₃ | .ret v => Q (.ret v) s₃) s₂) (fun hlt t v s' hP S' => ?_) (fun he s' S' => ?_)) (fun r s₁ z => ?_) (fun _ _ x => x.elim)
  · refine d_assign2 S' hL hx hy hk hlx hly fun s₂ S₂ => ?_
    refine turn i t v vs R s₂ hlt hP hJ S₂ _ ⟨fun f s₃ z => ?_⟩
    cases f with
    | next => obtain ⟨vs', R', hJ', S₃⟩ := z; exact ⟨n - (i + 1), by omega, i + 1, vs', R', rfl, by omega, hJ', S₃.sw.sw12⟩
    | cont => obtain ⟨vs', R', hJ', S₃⟩ := z; exact ⟨n - (i + 1), by omega, i + 1, vs', R', rfl, by omega, hJ', S₃.sw.sw12⟩
    | brk => exact z
    | ret v => exact z
  · subst he
    exact wpAny_execs_nil (done vs R s' hJ S')
  · cases r with
    | none => exact wpAny_mono z (fun _ _ x => x) fun _ _ x => x.elim
    | some v => exact wpAny_mono z (fun _ _ z => wpAny_mono z (fun _ _ z => wpAny_mono z (fun f _ x => by cases f <;> exact x) fun _ _ x => x.elim) fun _ _ x => x.elim) fun _ _ x => x.elim
theorem d_lenS {x : Str} {t : Tok} {Q : Value → Shared → Prop} (S : St H₀ o₀ R s) (hz : x.cps.size < 2 ^ 63) (h : ∀ t s', St H₀ o₀ R s' → Q (.int x.cps.size t) s') : Does w A (call (.builtin "len") [.str x t]) Q s :=
  SBL.len (by show (x.cps.size : Int) < _; omega) (h _ _ (S.tok _))
end

section
variable {w : World} {H₀ : Heap} {o₀ : OsState} {A : Around} {s : Shared} {rs R : List Res} {env : Env} {fr : Res}
/-! ## 11. lists of lists -/
noncomputable def LLs (ls : List Addr) (vss : List (List Value)) : List Res := List.zipWith LsR ls vss
theorem LLs_mem : ∀ {ls : List Addr} {vss : List (List Value)} {c : Nat} {l : Addr} {vs : List Value}, ls[c]? = some l → vss[c]? = some vs → LsR l vs ∈ LLs ls vss := by
  intro ls vss c l vs h1 h2
  refine List.mem_iff_getElem?.mpr ⟨c, ?_⟩
  unfold LLs
  rw [List.getElem?_zipWith, h1, h2]
theorem LLs_perm : ∀ {ls : List Addr} {vss : List (List Value)} {c : Nat} {l : Addr} {vs : List Value}, ls[c]? = some l → vss[c]? = some vs → ∃ rest, (LLs ls vss).Perm (LsR l vs :: rest) ∧ ∀ us, (LsR l us :: rest).Perm (LLs ls (vss.set c us))
  | l' :: ls, v' :: vss, 0, l, vs, h1, h2 => by
    simp at h1 h2; subst h1 h2
    exact ⟨LLs ls vss, List.Perm.refl _, fun us => List.Perm.refl _⟩
  | l' :: ls, v' :: vss, c + 1, l, vs, h1, h2 => by
    obtain ⟨rest, p1, p2⟩ := LLs_perm (ls := ls) (vss := vss) (c := c) (by simpa using h1) (by simpa using h2)
    exact ⟨LsR l' v' :: rest, (p1.cons _).trans (List.Perm.swap ..), fun us => (List.Perm.swap ..).trans ((p2 us).cons _)⟩
theorem perm_app {F X Y R : List Res} (h : X.Perm Y) : (F ++ (X ++ R)).Perm (F ++ (Y ++ R)) := (h.append_right R).append_left F
theorem d_appendLL {ls : List Addr} {vss : List (List Value)} {c : Nat} {l : Addr} {vs : List Value} {v : Value} {Q : Value → Shared → Prop} (F : List Res) (S : St H₀ o₀ (fr :: (F ++ (LLs ls vss ++ R))) s) (h1 : ls[c]? = some l) (h2 : vss[c]? = some vs) (hz : vs.length ≤ sizeLine)
    (h : ∀ s', St H₀ o₀ (fr :: (F ++ (LLs ls (vss.set c (vs ++ [v])) ++ R))) s' → Q .none s') : Does w A (call (.builtin "list.append") [.ref l, v]) Q s := by
  obtain ⟨rest, p1, p2⟩ := LLs_perm h1 h2
  refine d_appendL (fr := fr) (R := F ++ (rest ++ R)) (S.tlp ((perm_app p1).trans ?_)) hz fun s' S' => h s' (S'.tlp (List.Perm.trans ?_ (perm_app (p2 _))))
  · exact List.perm_middle
  · exact List.perm_middle.symm
theorem St.snocLL {ls : List Addr} {vss : List (List Value)} {e : Addr} {vs : List Value} (F : List Res) (S : St H₀ o₀ (LsR e vs :: (F ++ (LLs ls vss ++ R))) s) (hl : ls.length = vss.length) : St H₀ o₀ (F ++ (LLs (ls ++ [e]) (vss ++ [vs]) ++ R)) s := by
  have e1 : LLs (ls ++ [e]) (vss ++ [vs]) = LLs ls vss ++ [LsR e vs] := by
    unfold LLs; rw [List.zipWith_append hl]; rfl
  rw [e1]
  refine S.perm ?_
  refine List.perm_middle.symm.trans (List.Perm.append_left F ?_)
  rw [List.append_assoc]
  exact List.perm_middle.symm
theorem St.sw7 {a b c d e f g i : Res} (S : St H₀ o₀ (a :: b :: c :: d :: e :: f :: g :: i :: R) s) : St H₀ o₀ (i :: b :: c :: d :: e :: f :: g :: a :: R) s :=
  S.perm (((List.perm_middle (l₁ := [a, b, c, d, e, f, g]) (l₂ := R) (a := i))).trans (List.Perm.cons i (by simpa using (List.perm_middle (l₁ := [b, c, d, e, f, g]) (l₂ := R) (a := a)).symm)))
theorem canLay_ints : ∀ is : List Int, PyData.canLayAll0 (is.map .int) = true
  | [] => rfl
  | i :: is => by rw [List.map_cons, PyData.canLayAll0, canLay_ints is]; rfl
theorem canLay_intss : ∀ iss : List (List Int), PyData.canLayAll0 (iss.map fun is => .list (is.map .int)) = true
  | [] => rfl
  | is :: iss => by rw [List.map_cons, PyData.canLayAll0, canLay_intss iss, PyData.canLay0, canLay_ints]; rfl
theorem depth_ints : ∀ is : List Int, PyData.depthAll (is.map .int) = 0
  | [] => by simp [PyData.depthAll]
  | i :: is => by simp [PyData.depthAll, PyData.depth, depth_ints is]
theorem depth_intss : ∀ iss : List (List Int), PyData.depthAll (iss.map fun is => .list (is.map .int)) ≤ 1
  | [] => by simp [PyData.depthAll]
  | is :: iss => by
    have := depth_intss iss
    simp only [List.map_cons, PyData.depthAll, PyData.depth, depth_ints]
    omega
theorem eqv_ints : ∀ is : List Int, PyData.eqvAll (is.map .int) (is.map .int) = true
  | [] => by simp [PyData.eqvAll]
  | i :: is => by simp [PyData.eqvAll, PyData.eqv, eqv_ints is]
theorem eqv_intss : ∀ iss : List (List Int), PyData.eqvAll (iss.map fun is => .list (is.map .int)) (iss.map fun is => .list (is.map .int)) = true
  | [] => by simp [PyData.eqvAll]
  | is :: iss => by
    have := eqv_intss iss
    simp only [List.map_cons, PyData.eqvAll, PyData.eqv, eqv_ints is, this, Bool.and_self]
theorem reads_ints {h : Heap} : ∀ {vs : List Value} {is : List Int}, IV vs is → ReadsAll h vs (is.map .int) []
  | [], [], _ => .nil
  | [], _ :: _, e => by simp [IV] at e
  | _ :: _, [], e => by simp [IV] at e
  | v :: vs, i :: is, e => by
    unfold IV at e
    rw [List.map_cons, List.map_cons] at e
    obtain ⟨t, rfl⟩ := iOf_some (List.cons.inj e).1
    exact ReadsAll.cons (as := []) (bs := []) (.int _ _) (reads_ints (List.cons.inj e).2)
noncomputable def IVs (vss : List (List Value)) (iss : List (List Int)) : Prop := vss.map (fun vs => vs.map iOf) = iss.map fun is => is.map some
theorem St.readsLL (S : St H₀ o₀ rs s) : ∀ {ls : List Addr} {vss : List (List Value)} {iss : List (List Int)}, ls.length = vss.length → IVs vss iss → (∀ r ∈ LLs ls vss, r ∈ rs) → ∃ as, ReadsAll s.heap (ls.map Value.ref) (iss.map fun is => .list (is.map .int)) as
  | [], [], [], _, _, _ => ⟨_, .nil⟩
  | [], [], _ :: _, _, e, _ => by simp [IVs] at e
  | [], _ :: _, _, e, _, _ => by simp at e
  | _ :: _, [], _, e, _, _ => by simp at e
  | _ :: _, _ :: _, [], _, e, _ => by simp [IVs] at e
  | l :: ls, vs :: vss, is :: iss, h1, h2, h3 => by
    unfold IVs at h2
    rw [List.map_cons, List.map_cons] at h2
    obtain ⟨as, hr⟩ := St.readsLL S (ls := ls) (vss := vss) (iss := iss) (by simpa using h1) (List.cons.inj h2).2 (fun r hr => h3 r (.tail _ hr))
    exact ⟨_, ReadsAll.cons (S.reads (LIn.ls (h3 _ (.head _))) (reads_ints (List.cons.inj h2).1)) hr⟩
/-! ## 12. the comprehension over an enumerate -/
theorem comp_coreP {e it : Addr} {n : Nat} {T : Nat → Heap → Prop} {P : Nat → Value → Prop} {need : List Res → Prop} {x y : Str} {px py tp pos : Pos} {kk} {elt iter : Expr} {scope : Scope} {cl : List (Str × Addr)} {L : Addr} {names : List Str} {lv : List (Option Value)} {RR : Value → Addr → Result → Shared → Prop}
    (J : Nat → List Value → List Res → Prop) (hA : A.handled = none) (EN : Enm w H₀ o₀ e it n T P need) (hxy : x ≠ y) (S : St H₀ o₀ (ItR e (En e it 0) :: ItR it (T 0) :: FrR H₀ L names lv :: R) s) (h0 : J 0 [] R)
    (hneed : ∀ i C D vs ys R, J i ys R → need (ItR e (En e it i) :: ItR it (T i) :: FrR H₀ C [x, y] vs :: LsR D ys :: FrR H₀ L names lv :: R)) (hz : n ≤ sizeLine) (hlen : ∀ i ys R, J i ys R → ys.length ≤ i)
    (hcell : ∀ y ∈ scope.names, y.2 ≠ .cell) (hkind : scope.kind = .function) (hx : scope.names.lookup x = some .local) (hy : scope.names.lookup y = some .local)
    (turn : ∀ i t v C D ys R s, i < n → P i v → J i ys R → St H₀ o₀ (FrR H₀ C [x, y] [some (.int i t), some v] :: ItR e (En e it (i + 1)) :: ItR it (T (i + 1)) :: LsR D ys :: FrR H₀ L names lv :: R) s →
      Does w A (eval elt (compEnvC scope cl C env)) (fun z s₄ => ∃ R', J (i + 1) (ys ++ [z]) R' ∧ St H₀ o₀ (FrR H₀ C [x, y] [some (.int i t), some v] :: ItR e (En e it (i + 1)) :: ItR it (T (i + 1)) :: LsR D ys :: FrR H₀ L names lv :: R') s₄) s)
    (hRR : ∀ D C vs ys R s, J n ys R → St H₀ o₀ (FrR H₀ C [x, y] vs :: LsR D ys :: FrR H₀ L names lv :: R) s → RR (.ref D) C (.ok .next) s) :
    Does w A (newList []) (fun acc s₃ => Does w A (newFunctionEnv scope env.globals cl [] env.qual none .none (some env)) (fun cenv s₄ =>
      codeAny (model PySem.Challenge.rw_pc0244_01.row.prog w) A (.compStart (.ListComp elt [⟨.Tuple [.Name x px, .Name y py] kk tp, iter, [], 0⟩] scope pos) 0 (.ref e) acc { cenv with scope := relabel scope env }) (RR acc cenv.locals) s₄) s₃) s := by
  refine wpAny_newObj_type ?_
  have S1 : St H₀ o₀ (LsR s.heap.objs.size [] :: ItR e (En e it 0) :: ItR it (T 0) :: FrR H₀ L names lv :: R) { s with heap := s.heap.push { cls := .type "list", dict := none, data := .seq ([] : List Value).toArray } } := S.push (tk := s.toks) rfl (LsR_def.mpr ⟨_, up_self, isLs [] 0⟩)
  generalize s.heap.objs.size = D at S1 ⊢
  generalize hs1 : ({ s with heap := s.heap.push { cls := .type "list", dict := none, data := .seq ([] : List Value).toArray } } : Shared) = s1 at S1 ⊢
  clear hs1 S
  refine wpAny_newFunctionEnv hcell (by intro y hy; simp at hy) (fun h₁ hns₁ hsb₁ => ?_) hkind
  have S2 : St H₀ o₀ (FrR H₀ s1.heap.objs.size [x, y] [none, none] :: LsR D [] :: ItR e (En e it 0) :: ItR it (T 0) :: FrR H₀ L names lv :: R) { s1 with heap := h₁, toks := s1.toks + ([] : List (Str × Value)).length } := by
    obtain ⟨oL, es, ep, g1, g2, g3, g4⟩ := hns₁
    obtain ⟨B, ⟨led, X, N, h2⟩, G, O, Z⟩ := S1
    have nl : ∀ q ∈ led, q.1 ≠ s1.heap.objs.size := fun q hq e => absurd (Heap.lt_size (X q hq).1) (by rw [e]; exact Nat.lt_irrefl _)
    have n1 := lkp_none nl
    have n0 : H₀.get? s1.heap.objs.size = none := by
      cases e : H₀.get? s1.heap.objs.size with
      | none => rfl
      | some o' => exact absurd (Heap.lt_size (B _ _ e)) (Nat.lt_irrefl _)
    have hkeep : ∀ b o, s1.heap.get? b = some o → h₁.get? b = some o := fun b o e => hsb₁.extBut b o (Nat.ne_of_lt (Heap.lt_size e)) (Heap.get?_push_of_some _ e)
    refine ⟨fun b ob eb => hkeep b ob (B b ob eb), ⟨setA led s1.heap.objs.size oL, fun q hq => ?_, nodup_setA N, ?_⟩, G, O, Nat.le_trans Z (Nat.le_of_lt (Heap.lt_size g1))⟩
    · rcases mem_setA hq with rfl | ⟨h3, h4⟩
      · exact ⟨g1, n0⟩
      · exact ⟨hkeep _ _ (X _ h3).1, (X _ h3).2⟩
    · rw [lkp_setA]
      refine ⟨PH.nil.up s1.heap.objs.size oL, lkp led, PH.dj_up (fun _ => .inl rfl) n1, PH.up_le (fun _ _ e => by cases e), PH.le_up (PH.le_refl _) n1, FrR_def.mpr ⟨Z, oL, _, up_self, ⟨es, ep, g2, g3, g4⟩, fun y v hv => ?_⟩, h2⟩
      exfalso
      have := List.mem_of_getElem? hv
      simp at this
  generalize s1.heap.objs.size = C at S2 ⊢
  generalize hs2 : ({ s1 with heap := h₁, toks := s1.toks + ([] : List (Str × Value)).length } : Shared) = s2 at S2 ⊢
  clear hs2 S1 hns₁ hsb₁
  have hxC : (compEnvC scope cl C env).kindOf x = some .local := lookup_relabel_local hx
  have hkC : (compEnvC scope cl C env).scope.kind = .function := hkind
  have hyC : (compEnvC scope cl C env).kindOf y = some .local := lookup_relabel_local hy
  have loop : codeAny (model PySem.Challenge.rw_pc0244_01.row.prog w) A (.compLoop (.ListComp elt [⟨.Tuple [.Name x px, .Name y py] kk tp, iter, [], 0⟩] scope pos) 0 (.ref e) (.ref D) (compEnvC scope cl C env)) (RR (.ref D) C) s2 := by
    refine LCp.codeAny_compLoop_pair (fun k s => ∃ i v1 v2 ys R, k = n - i ∧ i ≤ n ∧ J i ys R ∧ St H₀ o₀ (ItR e (En e it i) :: ItR it (T i) :: FrR H₀ C [x, y] [v1, v2] :: LsR D ys :: FrR H₀ L names lv :: R) s) (fun k s hI => ?_) n
      ⟨0, none, none, [], R, by omega, by omega, h0, S2.sw2.sw13⟩
    obtain ⟨i, v1, v2, ys, R, rfl, hi, hJ, S⟩ := hI
    refine wpAny_mono (E := fun _ _ => False) (EN.next (env := compEnvC scope cl C env) (elts := [.Name x px, .Name y py]) (k := kk) (pos := tp) hA rfl rfl hi (hneed i C D _ ys R hJ) S (Qn := fun s₁ => RR (.ref D) C (.ok .next) s₁)
      (Q := fun _ s₂ => Does w A (eval elt (compEnvC scope cl C env)) (fun z s₄ => Does w A (call (.builtin "list.append") [.ref D, z]) (fun _ s₅ => ∃ m, m < n - i ∧ (∃ i v1 v2 ys R, m = n - i ∧ i ≤ n ∧ J i ys R ∧ St H₀ o₀ (ItR e (En e it i) :: ItR it (T i) :: FrR H₀ C [x, y] [v1, v2] :: LsR D ys :: FrR H₀ L names lv :: R) s₅)) s₄) s₂) (fun hlt t v s' hP S' => ?_) (fun he s' S' => ?_)) (fun r s₁ z => ?_) (fun _ _ x => x.elim)
    · have e1 : ix x [x, y] = 0 := by simp [ix]
      have e2 : ix y [x, y] = 1 := by
        show (if y = x then 0 else ix y [y] + 1) = 1
        rw [if_neg (fun q => hxy q.symm)]
        simp [ix]
      refine d_assign2 (env := compEnvC scope cl C env) S' rfl (by simp [ix]) (by rw [e2]; exact Nat.lt_succ_self 1) hkC hxC hyC fun s₂ S₂ => ?_
      have S₂' : St H₀ o₀ (FrR H₀ C [x, y] [some (.int i t), some v] :: ItR e (En e it (i + 1)) :: ItR it (T (i + 1)) :: LsR D ys :: FrR H₀ L names lv :: R) s₂ := by
        rw [e1, e2] at S₂
        exact S₂
      refine does_mono (turn i t v C D ys R s₂ hlt hP hJ S₂') fun z s₄ hz => ?_
      obtain ⟨R', hJ', S₄⟩ := hz
      refine d_appendL S₄.sw13 (by have := hlen i ys R hJ; omega) fun s₅ S₅ => ?_
      exact ⟨n - (i + 1), by omega, i + 1, _, _, _, R', rfl, by omega, hJ', S₅.sw13.sw.sw12⟩
    · subst he
      exact hRR D C _ ys R s' hJ S'
    · cases r with
      | none => exact z
      | some v => exact wpAny_mono z (fun _ _ z => wpAny_mono z (fun _ _ z => wpAny_mono z (fun _ _ z => wpAny_mono z (fun _ _ z => z) fun _ _ x => x.elim) fun _ _ x => x.elim) fun _ _ x => x.elim) fun _ _ x => x.elim
  refine codeAny_compStart_list loop ?_
  obtain ⟨old, hx⟩ := (S2.sw2.sw13).itr (.head _)
  exact wpAny_pyIter_enum hx loop


end

section
variable {w : World} {H₀ : Heap} {o₀ : OsState} {A : Around} {s : Shared} {rs R : List Res} {env : Env} {fr : Res}
/-! ## 13. what the law itself needs -/
theorem IV.are : ∀ {vs : List Value} {is : List Int}, IV vs is → IntsAre vs is
  | [], [], _ => .nil
  | [], _ :: _, e => by simp [IV] at e
  | _ :: _, [], e => by simp [IV] at e
  | v :: vs, i :: is, e => by
    unfold IV at e
    rw [List.map_cons, List.map_cons] at e
    obtain ⟨t, rfl⟩ := iOf_some (List.cons.inj e).1
    exact .cons _ _ (IV.are (List.cons.inj e).2)
theorem IV.ofAre : ∀ {vs : List Value} {is : List Int}, IntsAre vs is → IV vs is
  | _, _, .nil => rfl
  | _, _, .cons n t h => by
    have := IV.ofAre h
    unfold IV at this ⊢
    rw [List.map_cons, List.map_cons, this]; rfl
theorem d_sum {L : Addr} {names : List Str} {lv : List (Option Value)} {l : Addr} {vs : List Value} {ns : List Int} {Q : Value → Shared → Prop} (hh : A.handled = none) (S : St H₀ o₀ (FrR H₀ L names lv :: R) s) (hm : LIn (FrR H₀ L names lv :: R) l vs) (hi : IV vs ns)
    (h : ∀ t s', St H₀ o₀ (FrR H₀ L names lv :: R) s' → Q (.int ns.sum t) s') : Does w A (call (.builtin "sum") [.ref l]) Q s := by
  have hl := S.isList hm
  obtain ⟨m, led, F, N, k1, k2⟩ := S.fn
  exact LSm.sum_ints F N hh hl hi.are fun h' tk t' F' N' => h _ _ (k1 h' tk F' N')
theorem d_sliceB {value : PySem.Expr} {lower upper : Option PySem.Expr} {p pos : Pos} {l : Addr} {vs : List Value} {Q : Value → Shared → Prop} (hB : H₀.IsList l vs.toArray) (hz : vs.length ≤ sizeLine)
    (h : Does w A (eval value env) (fun o s₁ => Does w A (evalPart lower env) (fun vl s₂ => Does w A (evalPart upper env) (fun vu s₃ =>
      ∃ lo hi fr R, o = .ref l ∧ St H₀ o₀ (fr :: R) s₃ ∧ IsPart vl lo ∧ IsPart vu hi ∧
        ∀ D s', St H₀ o₀ (fr :: LsR D (slicePick vs.toArray lo hi none).toList :: R) s' → Q (.ref D) s') s₂) s₁) s)
    (ht : ∀ o r, letTemporaryGo value o r = pure ()) : Does w A (eval (.Subscript value (.Slice lower upper none p) pos) env) Q s := by
  refine wpAny_Subscript_list_slice (wpAny_mono h (fun o s₁ h₁ => wpAny_mono h₁ (fun vl s₂ h₂ => wpAny_mono h₂ (fun vu s₃ h₃ => ?_) fun _ _ e => e) fun _ _ e => e) fun _ _ e => e) ht
  obtain ⟨lo, hi, fr, R, rfl, S, pl, pu, hQ⟩ := h₃
  have hl : s₃.heap.IsList l vs.toArray := by
    obtain ⟨o, e, r⟩ := hB
    exact ⟨o, S.base _ _ e, r⟩
  refine ⟨l, vs.toArray, lo, hi, rfl, hl, by simpa using hz, pl, pu, ?_⟩
  have S1 : St H₀ o₀ (fr :: R) { s₃ with heap := s₃.heap.push { cls := .type "slice", data := .fields #[vl, vu, .none] } } := S.grow (tk := s₃.toks) (fun b o e => Heap.get?_push_of_some _ e) (by rw [Heap.size_push]; exact Nat.le_succ _)
  have S2 := S1.push (r' := LsR (s₃.heap.objs.size + 1) (slicePick vs.toArray lo hi none).toList) (o := { cls := .type "list", data := .seq (slicePick vs.toArray lo hi none) }) (tk := s₃.toks) rfl ?_
  · exact hQ _ _ S2.sw
  · refine LsR_def.mpr ⟨_, by rw [Heap.size_push]; exact up_self, rfl, 0, rfl⟩
inductive TpOk (H₀ : Heap) (o₀ : OsState) (J : Nat → List Value → List Res → Prop) (i : Nat) (ys : List Value) (a b c d e : Res) (s : Shared) : Prop
  | mk (R : List Res) (h : J i ys R) (S : St H₀ o₀ (a :: b :: c :: d :: e :: R) s) : TpOk H₀ o₀ J i ys a b c d e s
inductive CompAtP (w : World) (H₀ : Heap) (o₀ : OsState) (A : Around) (env : Env) (scope : Scope) (cl : List (Str × Addr)) (x y : Str) (elt : Expr) (fin : Addr → List (Str) → List (Option Value) → Addr → List Value → List Res → Shared → Prop) (itv : Value) (s : Shared) : Prop
  | mk (e it : Addr) (n : Nat) (T : Nat → Heap → Prop) (P : Nat → Value → Prop) (need : List Res → Prop) (L : Addr) (names : List Str) (lv : List (Option Value)) (R : List Res) (J : Nat → List Value → List Res → Prop)
    (q : itv = .ref e) (EN : Enm w H₀ o₀ e it n T P need) (S : St H₀ o₀ (ItR e (En e it 0) :: ItR it (T 0) :: FrR H₀ L names lv :: R) s) (h0 : J 0 [] R)
    (hneed : ∀ i C D vs ys R, J i ys R → need (ItR e (En e it i) :: ItR it (T i) :: FrR H₀ C [x, y] vs :: LsR D ys :: FrR H₀ L names lv :: R)) (hz : n ≤ sizeLine) (hlen : ∀ i ys R, J i ys R → ys.length ≤ i)
    (turn : ∀ i t v C D ys R s, i < n → P i v → J i ys R → St H₀ o₀ (FrR H₀ C [x, y] [some (.int i t), some v] :: ItR e (En e it (i + 1)) :: ItR it (T (i + 1)) :: LsR D ys :: FrR H₀ L names lv :: R) s →
      ∀ K : Value → Shared → Prop, Po (fun z s₄ => TpOk H₀ o₀ J (i + 1) (ys ++ [z]) (FrR H₀ C [x, y] [some (.int i t), some v]) (ItR e (En e it (i + 1))) (ItR it (T (i + 1))) (LsR D ys) (FrR H₀ L names lv) s₄) K →
      Does w A (eval elt (compEnvC scope cl C env)) K s)
    (done : ∀ D ys R s, J n ys R → St H₀ o₀ (FrR H₀ L names lv :: LsR D ys :: R) s → fin L names lv D ys R s) : CompAtP w H₀ o₀ A env scope cl x y elt fin itv s
theorem d_compP {elt iter : Expr} {x y : Str} {px py tp : Pos} {kk} {scope : Scope} {cl : List (Str × Addr)} {pos : Pos} {Q : Value → Shared → Prop} (hA : A.handled = none) (hxy : x ≠ y)
    (hclos : closureFor scope env = pure cl) (hcell : ∀ y ∈ scope.names, y.2 ≠ .cell) (hkind : scope.kind = .function)
    (hnames : ∀ y ∈ scope.names, y.2 = .local → scope.names.lookup y.1 = some .local) (hx : scope.names.lookup x = some .local) (hy : scope.names.lookup y = some .local)
    (h : Does w A (eval iter env) (fun xv s₁ => Does w A (pyIter xv) (fun it s₂ => CompAtP w H₀ o₀ A env scope cl x y elt (fun L names lv D ys R s => Q (.ref D) s) it s₂) s₁) s)
    (hs : ∀ x, foldedSetIterable iter env x = pure x) : Does w A (eval (.ListComp elt [⟨.Tuple [.Name x px, .Name y py] kk tp, iter, [], 0⟩] scope pos) env) Q s := by
  show Does w A (eval (.ListComp elt [⟨.Tuple [.Name x px, .Name y py] kk tp, iter, [], 0⟩] scope pos) env) Q s
  rw [eval_ListComp]
  refine wpAny_comprehension_free (use := none) rfl hs hclos hkind hnames (wpAny_mono h (fun xv s₁ h₁ => wpAny_mono h₁ (fun it s₂ h₂ => ?_) fun _ _ e => e) fun _ _ e => e)
  obtain ⟨e, it, n, T, P, need, L, names, lv, R, J, rfl, EN, S, h0, hneed, hz, hlen, turn, done⟩ := h₂
  refine comp_coreP (RR := fun acc C => compPost (model PySem.Challenge.rw_pc0244_01.row.prog w) A (fun _ _ => False) none Q acc C) J hA EN hxy S h0 hneed hz hlen hcell hkind hx hy (fun i t v C D ys R s hi hP hJ S => turn i t v C D ys R s hi hP hJ S (fun z s₄ => ∃ R', J (i + 1) (ys ++ [z]) R' ∧ St H₀ o₀ (FrR H₀ C [x, y] [some (.int i t), some v] :: ItR e (En e it (i + 1)) :: ItR it (T (i + 1)) :: LsR D ys :: FrR H₀ L names lv :: R') s₄) ⟨fun z s h => let ⟨R, a, b⟩ := h; ⟨R, a, b⟩⟩) (fun D C vs ys R s hJ S => ?_)
  obtain ⟨m, hn⟩ := S.fns
  exact ⟨m, hn, fun h' hs' => done D ys R _ hJ (S.frOut hs').sw⟩
theorem same_fn {X : Option Obj} {name qual name' qual' : Str} {params params' : Arguments} {body body' : List Stmt} {scope scope' : Scope} {oc oc' : Value} {od od' an an' : Option Addr} {osl osl' : Array (Option Value)} {dV kV doc pm cdv ct dV' kV' doc' pm' cdv' ct' : Value}
    (h1 : X = some ⟨oc, od, .func (fnOf name qual params body scope dV kV doc pm an cdv ct), osl⟩) (h2 : X = some ⟨oc', od', .func (fnOf name' qual' params' body' scope' dV' kV' doc' pm' an' cdv' ct'), osl'⟩)
    {P : List Stmt → Scope → Str → Prop} (h : P body scope qual) : P body' scope' qual' := by
  rw [h1] at h2
  simp only [Option.some.injEq, Obj.mk.injEq, Data.func.injEq, fnOf] at h2
  obtain ⟨_, _, h3, _⟩ := h2
  injection h3 with e1 e2 e3 e4 e5
  injection e4 with e4
  subst e2 e4 e5
  exact h
end

set_option maxHeartbeats 4000000

section walks

set_option compiler.extract_closed false
local macro_rules | `(tactic| k_allIn) => `(tactic| first | assumption | exact G_error _ | exact G_least _ | exact G_greatest _ | exact G_is_living _ | exact G_hash_of _ | exact G_link _ | exact G_unlink _ | exact G_chains _ | exact G_next_place _ | exact G_many_ahead _ | exact G_rehash _ | exact G_to_hash _ | exact G_takes_packed _ | exact G_add_packed _ | exact G_add_hashed _ | exact G_add _ | exact G_go_on _ | exact G_marked _ | exact G_copied _ | exact G_copy _ | exact G_law_rows _ | exact G_law_new _ | exact G_law_living _ | exact G_law_hash_form _ | exact G_law_added _ | exact G_law_put _ | exact G_law_dropped _ | exact G_law_hash _ | exact G_law_chain _ | exact G_law_chains_right _ | exact G_law_form_right _ | exact G_law_key _ | exact G_law_deed _ | exact G_Arr _ | exact G_Absent _ | exact G_Ref _)
local macro_rules | `(tactic| k_ownIn) => `(tactic| first | assumption | exact KP_error _ | exact KP_least _ | exact KP_greatest _ | exact KP_is_living _ | exact KP_hash_of _ | exact KP_link _ | exact KP_unlink _ | exact KP_chains _ | exact KP_next_place _ | exact KP_many_ahead _ | exact KP_rehash _ | exact KP_to_hash _ | exact KP_takes_packed _ | exact KP_add_packed _ | exact KP_add_hashed _ | exact KP_add _ | exact KP_go_on _ | exact KP_marked _ | exact KP_copied _ | exact KP_copy _ | exact KP_law_rows _ | exact KP_law_new _ | exact KP_law_living _ | exact KP_law_hash_form _ | exact KP_law_added _ | exact KP_law_put _ | exact KP_law_dropped _ | exact KP_law_hash _ | exact KP_law_chain _ | exact KP_law_chains_right _ | exact KP_law_form_right _ | exact KP_law_key _ | exact KP_law_deed _ | exact KP_Arr _ | exact KP_Absent _ | exact KP_Ref _ | exact KM_find _ | exact KM_has _ | exact KM_put _ | exact KM_append _ | exact KM_drop _ | exact KM_key_at _)
local macro_rules | `(tactic| kst_mem) => `(tactic| first | assumption | omega | decide | (with_unfolding_all decide) | exact IntMulOk.of_right (by decide) | exact IntMulOk.of_left (by decide))
local macro_rules | `(tactic| k_memK) => `(tactic| first | exact List.mem_cons_self | exact List.mem_cons_of_mem _ List.mem_cons_self | exact List.mem_cons_of_mem _ (List.mem_cons_of_mem _ List.mem_cons_self) | exact List.mem_cons_of_mem _ (List.mem_cons_of_mem _ (List.mem_cons_of_mem _ List.mem_cons_self)) | exact List.mem_cons_of_mem _ (List.mem_cons_of_mem _ (List.mem_cons_of_mem _ (List.mem_cons_of_mem _ List.mem_cons_self))) | exact List.mem_cons_of_mem _ (List.mem_cons_of_mem _ (List.mem_cons_of_mem _ (List.mem_cons_of_mem _ (List.mem_cons_of_mem _ List.mem_cons_self)))) | exact List.mem_cons_of_mem _ (List.mem_cons_of_mem _ (List.mem_cons_of_mem _ (List.mem_cons_of_mem _ (List.mem_cons_of_mem _ (List.mem_cons_of_mem _ List.mem_cons_self))))) | exact List.mem_cons_of_mem _ (List.mem_cons_of_mem _ (List.mem_cons_of_mem _ (List.mem_cons_of_mem _ (List.mem_cons_of_mem _ (List.mem_cons_of_mem _ (List.mem_cons_of_mem _ List.mem_cons_self)))))) | exact List.mem_cons_of_mem _ (List.mem_cons_of_mem _ (List.mem_cons_of_mem _ (List.mem_cons_of_mem _ (List.mem_cons_of_mem _ (List.mem_cons_of_mem _ (List.mem_cons_of_mem _ (List.mem_cons_of_mem _ List.mem_cons_self))))))) | exact List.mem_cons_of_mem _ (List.mem_cons_of_mem _ (List.mem_cons_of_mem _ (List.mem_cons_of_mem _ (List.mem_cons_of_mem _ (List.mem_cons_of_mem _ (List.mem_cons_of_mem _ (List.mem_cons_of_mem _ (List.mem_cons_of_mem _ List.mem_cons_self)))))))) | assumption)
local macro_rules | `(tactic| tb_start) => `(tactic| first | assumption | exact LIn.vals (by k_memK) rfl | exact LIn.keys (by k_memK) rfl | exact LIn.heads (by k_memK) rfl | exact LIn.nexts (by k_memK) rfl | exact LIn.ls (by k_memK))
local macro_rules | `(tactic| tb_rel) => `(tactic| with_reducible first
    | (refine (?_ : Does _ _ (eval _ _) _ _); first
      | (refine (?_ : Does _ _ (eval (.Name _ _) _) _ _); first
      | refine q_local ?_
      | (refine' d_cell (by assumption) ?k1 ?k2 ?k3 ?k4 ?k5 ?k6; (case k2 => with_unfolding_all rfl); (case k1 => k_memK); (case k3 => kernel_rfl!); (case k4 => kernel_rfl!); (case k6 => decide +kernel))
      | (refine' d_free (by assumption) ?k1 ?k2 ?k3 ?k4 ?k5 ?k6 ?k7; (case k2 => with_unfolding_all rfl); (case k1 => k_memK); (case k3 => kernel_rfl!); (case k4 => kernel_rfl!); (case k6 => decide +kernel); (case k7 => decide +kernel))
      | refine q_class (by k_allIn) ?_
      | refine q_bltn (GB_int _) BB_int ?_)
      | refine Attribute_Name_ ?_
      | refine d_slice (by assumption) ?_ (by intro _ _; with_unfolding_all rfl)
      | refine Subscript_ ?_
      | (refine d_const (by assumption) ?_; intro _ _ _)
      | (refine (?_ : Does _ _ (eval (.Call _ _ _ _) _) _ _); first
      | refine q_call (by k_allIn) (by k_ownIn) ?_
      | refine q_call0 (by k_allIn) (by k_ownIn) ?_
      | refine q_callB (GB_len _) BB_len ?_
      | refine q_callB (GB_isinstance _) BB_isinstance ?_
      | refine q_callB (GB_min _) BB_min ?_
      | refine q_callB (GB_ord _) BB_ord ?_
      | refine q_callB (GB_sum _) BB_sum ?_
      | refine q_callT (GB_range _) BB_range ?_
      | refine q_callT (GB_list _) BB_list ?_
      | refine q_callT (GB_str _) BB_str ?_
      | refine q_callT (GB_dict _) BB_dict ?_
      | refine q_callT (GB_enumerate _) BB_enumerate ?_
      | refine MethodCall_ (pl := _) ?_ (by with_unfolding_all rfl))
      | refine wpAny_BinOp ?_
      | refine wpAny_Compare1 ?_
      | refine wpAny_UnaryOp ?_
      | refine d_boolop ?_
      | refine wpAny_IfExp ?_
      | refine d_list ?_
      | (refine d_dictNew (by assumption) (by assumption) ?_; intro _ _ _)
      | (refine d_conststr (by assumption) ?_; intro _ _ _)
      | refine wpAny_Constant_none ?_
      | refine wpAny_Constant_bool ?_
      | refine Compare_chain ?_)
    | (refine (?_ : Does _ _ (getAttr _ _ _) _ _); first
      | (refine' d_attr (by assumption) (by assumption) ?k1 ?k2 ?k3 ?k4 ?k5; (case k1 => k_memK); (case k2 => decide +kernel); (case k3 => (intro _; with_unfolding_all rfl)); (case k4 => with_unfolding_all rfl); intro _ _))
    | (refine (?_ : Does _ _ (subscriptTail _ _ _ _) _ _); first
      | refine d_item (by assumption) (by tb_start) (by kst_mem) (by kst_mem) (by assumption) ?_ (by with_unfolding_all rfl)
      | refine d_itemneg (by assumption) (by tb_start) (by assumption) ?_ (by with_unfolding_all rfl)
      | (refine d_fget (by assumption) (by k_memK) (packGet _) ?_ (by with_unfolding_all rfl); intro _ _)
      | (refine d_fget (by assumption) (by k_memK) (sizeGet _) ?_ (by with_unfolding_all rfl); intro _ _)
      | (refine d_fget (by assumption) (by k_memK) (placeGet _) ?_ (by with_unfolding_all rfl); intro _ _)
      | (refine d_fget (by assumption) (by k_memK) (nextGet _) ?_ (by with_unfolding_all rfl); intro _ _))
    | (refine (?_ : Does _ _ (setItem _ _ _) _ _); first
      | (refine d_fset (by assumption) (packSet _ _) ?_; intro _ _)
      | (refine d_fset (by assumption) (placeSet _ _) ?_; intro _ _)
      | (refine d_fset (by assumption) (nextSet _ _) ?_; intro _ _)
      | (refine d_fset (by assumption) (sizeSet _ _ _) ?_; intro _ _))
    | (refine (?_ : Does _ _ (isTrue _ _ _) _ _); first
      | refine wpAny_isTrue_Compare1 ?_
      | refine isTrue_not ?_
      | refine wpAny_isTrue_BoolOp ?_
      | refine isTrue_chain ?_ (by with_unfolding_all rfl)
      | refine isTrue_IfExp ?_
      | refine isTrue_plain ?_ (by with_unfolding_all rfl))
    | (refine (?_ : Does _ _ (compareOp _ _ _) _ _); first
      | refine d_neK (by assumption) (by assumption) ?_
      | refine d_eqK (by assumption) (by assumption) ?_
      | refine lt_int ?_
      | refine le_int ?_
      | refine gt_int ?_
      | refine ge_int ?_
      | refine eq_int ?_
      | refine ne_int ?_
      | refine is_none ?_
      | refine isNot_none ?_)
    | (refine (?_ : Does _ _ (binaryOp _ _ _) _ _); first
      | (refine d_add (by assumption) ?_; intro _ _ _)
      | (refine d_sub (by assumption) ?_; intro _ _ _)
      | (refine d_mod (by assumption) (by kst_mem) ?_; intro _ _ _)
      | (refine d_fdiv (by assumption) (by kst_mem) (by kst_mem) ?_; intro _ _ _)
      | (refine d_pow (by assumption) (by kst_mem) (by kst_mem) ?_; intro _ _ _)
      | (refine d_mul (by assumption) (by kst_mem) ?_; intro _ _ _)
      | (refine d_or (by assumption) ?_; intro _ _ _)
      | (refine d_shr (by assumption) (by kst_mem) ?_; intro _ _ _))
    | (refine (?_ : Does _ _ (call (.builtin _) _) _ _); first
      | (refine d_len (by assumption) (by tb_start) (by kst_mem) ?_; intro _ _ _)
      | (refine d_lenS (by assumption) (by kst_mem) ?_; intro _ _ _)
      | (refine d_min (Rm.h (by assumption)) (by assumption) ?_; intro _ _ _)
      | (refine d_ord (by assumption) ?_; intro _ _ _)
      | refine d_isiI ?_
      | (refine d_isiS (by assumption) ?_; intro _ _)
      | (refine d_isiN (by assumption) (by assumption) (n188 _) ?_; intro _ _)
      | (refine d_isiN (by assumption) (by assumption) (n96 _) ?_; intro _ _)
      | (refine d_isiN (by assumption) (by assumption) (n74 _) ?_; intro _ _)
      | (refine d_isiSlot (by assumption) (by assumption) (by k_memK) (by assumption) ?_; intro _ _))
    | (refine (?_ : Does _ _ (call (.type _) _) _ _); first
      | (refine' d_dictCopy (by assumption) (by assumption) ?k1 ?k5; (case k1 => k_memK); intro _ _ _)
      | (refine' d_listD (Rm.h (by assumption)) (by assumption) ?k1 ?k5; (case k1 => k_memK); intro _ _ _))
    | refine wpAny_truthy_bool ?_
    | (refine (?_ : Does _ _ (newList _) _ _); first
      | (refine d_newList (by assumption) (Nat.le_of_ble_eq_true (by kernel_rfl!)) ?_; intro _ _ _))
    | (refine (?_ : Does _ _ (spliced _) _ _); first
      | refine wpAny_items_nil ?_
      | refine q_args1 ?_
      | refine q_args2 ?_
      | refine q_args3 ?_
      | refine wpAny_items_cons ?_ (by with_unfolding_all rfl))
    | refine ⟨St.cur (by assumption), ?_⟩
    | (refine (?_ : Does _ _ (execs _ _) _ _); first
      | (refine d_cons ?_; intro _ _)
      | refine wpAny_execs_nil ?_)
    | (refine (?_ : Does _ _ (exec _ _) _ _); first
      | refine wpAny_Return_some ?_
      | refine wpAny_If ?_
      | refine wpAny_Return_none ?_
      | refine wpAny_Assign_Name ?_ (by with_unfolding_all rfl)
      | refine plainObj_wpAny_Assign_Attribute ?_ (by with_unfolding_all rfl)
      | refine wpAny_Assign_Subscript ?_ (by with_unfolding_all rfl)
      | refine wpAny_Expr_any ?_ (by kernel_rfl!) (by with_unfolding_all rfl)
      | refine d_for ?_ (by intro _; with_unfolding_all rfl)
      | refine wpAny_AugAssign_Name ?_
      | refine wpAny_AugAssign_AttributeAny ?_)
    | (refine g_po ?_; intro _ _)
    | refine p_on (by assumption) ?_
    | refine k_next (by assumption) ?_
    | refine k_ret (by assumption) ?_
    | refine k_brk (by assumption) ?_
    | refine k_cont (by assumption) ?_
    | (refine (?_ : Does _ _ (loadName _ _) _ _); first
      | refine q_load ?_)
    | (refine (?_ : Does _ _ (storeName _ _ _) _ _); first
      | (refine q_store ?_; intro _ _))
    | (refine (?_ : Does _ _ (unaryOp _ _) _ _); first
      | refine not_of ?_
      | (refine d_neg (by assumption) ?_; intro _ _ _))
    | (refine (?_ : Does _ _ (inplaceOp _ _ _) _ _); first
      | (refine d_iadd (by assumption) ?_; intro _ _ _)
      | (refine d_isub (by assumption) ?_; intro _ _ _))
    | refine wpAny_allTrue_And_cons ?_
    | refine wpAny_allTrue_Or_cons ?_
    | refine wpAny_allTrue_And_nil ?_
    | refine wpAny_allTrue_Or_nil ?_
    | (refine (?_ : Does _ _ (boolOp _ _ _) _ _); first
      | refine d_boolL ?_
      | refine d_boolAnd ?_
      | refine d_boolOr ?_
      | refine d_bool1 ?_)
    | refine chain_link ?_
    | refine d_chainL ?_
    | refine d_testL ?_
    | refine d_testN ?_
    | refine chain_last ?_
    | refine d_pair ?_
    | refine d_pair0 ?_
    | refine wpAny_evalPart_some ?_
    | refine wpAny_evalPart_none ?_
    | (refine (?_ : Does _ _ (getMethod _ _ _) _ _); first
      | (refine' d_meth (by assumption) (by assumption) ?k1 ?k2 ?k3 ?k5; (case k1 => k_memK); (case k2 => first | exact M_find _ | exact M_has _ | exact M_put _ | exact M_append _ | exact M_drop _ | exact M_key_at _); (case k3 => (intro _; with_unfolding_all rfl)))
      | (refine' d_lmeth (name := "append") (id := "list.append") (by assumption) ?k1 PySem.F.slot_list_append (by with_unfolding_all rfl) ?k5; (case k1 => tb_start))
      | (refine' d_lmeth (name := "pop") (id := "list.pop") (by assumption) ?k1 PySem.F.slot_list_pop (by with_unfolding_all rfl) ?k5; (case k1 => tb_start)))
    | (refine (?_ : Does _ _ (callWith _ _ _ _ _) _ _); first
      | refine d_callM (by assumption) (by assumption) (by k_ownIn) ?_ (by with_unfolding_all rfl) (by with_unfolding_all rfl)
      | refine d_callM0 (by assumption) (by assumption) (by k_ownIn) ?_
      | refine d_callBM ?_ (by with_unfolding_all rfl) (by with_unfolding_all rfl)
      | refine callWith_method0 ?_)
    | refine ifT ?_
    | refine ifF ?_
    | refine ifNT ?_
    | refine ifNF ?_
    | dsimp only)

section funs
variable {w : World} {H₀ : Heap} {o₀ : OsState} {A : Around} {s : Shared} {rs R : List Res} {env : Env}
theorem is_living_ {x : Addr} {a : Ad} {m : Pm} {i : Int} {t : Tok} {Q : Value → Shared → Prop} (W : Wd w H₀) (hR : Rm A 3) (S : St H₀ o₀ (ArrR w.params x a :: R) s) (hm : Arp a m) (hz : m.lives.length < 2 ^ 20)
    (h : ∀ s', St H₀ o₀ (ArrR w.params x a :: R) s' → Q (.bool (liveAt m i)) s') : Does w A (call (.ref 199) [.ref x, .int i t]) Q s := by
  have hz : a.vs.length < 2 ^ 20 := by rw [hm.vlen]; exact hz
  have hlv : m.lives = a.vs.map fun v => !isAbs v := hm.lives.symm
  refine d_fun (f := 199) ["arr", "place"] [] W hR S (nf_fn (by rfl) (by conv => lhs; whnf) (by conv => lhs; whnf)) (by kernel_rfl!) (by kernel_rfl!) rfl (by decide) (by decide +kernel) (by decide +kernel) rfl rfl rfl ?_
  intro L s' S A' hR
  (repeat' tb_rel)
  refine split_dec (fun h1 => ?_) (fun h1 => ?_)
  · (repeat' tb_rel)
    refine split_dec (fun h2 => ?_) (fun h2 => ?_)
    · have hlt : i.toNat < a.vs.length := by omega
      obtain ⟨v, hv⟩ : ∃ v, a.vs[i.toNat]? = some v := ⟨_, List.getElem?_eq_getElem hlt⟩
      have hmm := List.mem_of_getElem? hv
      (repeat' tb_rel)
      have S' := St.drop (by assumption)
      have := h _ S'
      simpa [liveAt, h1, hlv, hv] using this
    · (repeat' tb_rel)
      have S' := St.drop (by assumption)
      have := h _ S'
      have hn : a.vs[i.toNat]? = none := List.getElem?_eq_none (by omega)
      simpa [liveAt, hlv, hn, h2] using this
  · (repeat' tb_rel)
    rw [if_neg (by simpa using h1)]
    tb_rel
    have S' := St.drop (by assumption)
    have := h _ S'
    simpa [liveAt, h1] using this
end funs

section funs
variable {w : World} {H₀ : Heap} {o₀ : OsState} {A : Around} {s : Shared} {rs R : List Res} {env : Env}
theorem bitOr_top {f : Int} (h0 : 0 ≤ f) (h1 : f < 2 ^ 64) : Builtin.bitOr f (2 ^ 63) = if f < 2 ^ 63 then f + 2 ^ 63 else f := by
  rw [bitOr_and, bitAnd_pp h0 (by decide)]
  obtain ⟨n, rfl⟩ := Int.eq_ofNat_of_zero_le h0
  have hn : n < 2 ^ 64 := by omega
  have e : ((n : Int).toNat &&& ((2 : Int) ^ 63).toNat : Nat) = n &&& 2 ^ 63 := by rfl
  have e2 : n &&& 2 ^ 63 = if 2 ^ 63 ≤ n then 2 ^ 63 else 0 := by
    apply Nat.eq_of_testBit_eq
    intro i
    rw [Nat.testBit_and, Nat.testBit_two_pow]
    by_cases hi : 63 = i
    · subst hi
      have : n.testBit 63 = decide (2 ^ 63 ≤ n) := by
        rw [Nat.testBit_eq_decide_div_mod_eq]
        congr 1
        apply propext
        omega
      rw [this]
      by_cases hc : 2 ^ 63 ≤ n
      · rw [if_pos hc, Nat.testBit_two_pow]; simp [hc]
      · rw [if_neg hc]; simp [hc]
    · by_cases hc : 2 ^ 63 ≤ n
      · rw [if_pos hc, Nat.testBit_two_pow]; simp [hi]
      · rw [if_neg hc]; simp [hi]
  rw [e, e2]
  by_cases hc : 2 ^ 63 ≤ n
  · rw [if_pos hc, if_neg (by omega)]; omega
  · rw [if_neg hc, if_pos (by omega)]; omega
theorem hashS_snoc (cs : List Nat) (c : Nat) : hashS (cs ++ [c]) = (hashS cs * 33 + (c : Int)) % 2 ^ 64 := by
  unfold hashS; rw [List.foldl_append]; rfl
theorem hash_of_ {v : Value} {k : Key} {Q : Value → Shared → Prop} (W : Wd w H₀) (hR : Rm A 3) (S : St H₀ o₀ R s) (hv : KV v k)
    (h : ∀ t s', St H₀ o₀ R s' → Q (.int (hashK k) t) s') : Does w A (call (.ref 206) [v]) Q s := by
  refine d_fun (f := 206) ["key"] ["found", "sign"] W hR S (nf_fn (by rfl) (by conv => lhs; whnf) (by conv => lhs; whnf)) (by kernel_rfl!) (by kernel_rfl!) rfl (by decide) (by decide +kernel) (by decide +kernel) rfl rfl rfl ?_
  intro L s' S A' hR
  cases k with
  | int i =>
    obtain ⟨t, rfl⟩ := hv.int
    (repeat' tb_rel)
    exact h _ _ (St.drop (by assumption))
  | str x =>
    obtain ⟨t, rfl⟩ := hv.str
    (repeat' tb_rel)
    refine d_iter_str (by assumption) fun I ty s₁ IT S₁ => ?_
    refine d_forL (fun i vs R' => R' = R ∧ ∃ t1 u, vs = [some (.str x t), some (.int (hashS (x.cps.toList.take i)) t1), u]) hR.h IT S₁ ⟨rfl, _, _, rfl⟩ (fun _ _ _ _ => trivial) rfl (by decide) (by kernel_rfl!) (by kernel_rfl!) ?_ ?_
    · rintro i v vs R' s₂ hi ⟨c, u, hc, rfl⟩ ⟨rfl, t1, u1, rfl⟩ S₂
      have hb := hashS_bd (x.cps.toList.take i)
      (repeat' tb_rel)
      refine ⟨_, _, ?_, by assumption⟩
      refine And.intro rfl ?_
      apply Exists.intro
      apply Exists.intro
      have hts : x.cps.toList.take (i + 1) = x.cps.toList.take i ++ [c] := by
        rw [List.take_add_one, show x.cps.toList[i]? = some c by simpa using hc]; rfl
      rw [hts, hashS_snoc]
      rfl
    · rintro vs R' s₂ ⟨rfl, t1, u1, rfl⟩ S₂
      (repeat' tb_rel)
      have hb := hashS_bd x.cps.toList
      have e : x.cps.toList.take x.cps.size = x.cps.toList := List.take_of_length_le (by simp)
      rw [e, show (2 : Int) ^ Int.toNat 63 = 2 ^ 63 from rfl, bitOr_top hb.1 hb.2]
      exact h _ _ (St.drop (by assumption))
end funs

section funs
variable {w : World} {H₀ : Heap} {o₀ : OsState} {A : Around} {s : Shared} {rs R : List Res} {env : Env}
noncomputable def linkM (m : Pm) (p : Nat) (k : Key) : Pm := { m with nexts := m.nexts.set p ((m.heads[ch m k]?).getD 0), heads := m.heads.set (ch m k) p }
theorem ch_lt {m : Pm} {k : Key} (h : 0 < m.size) : ch m k < m.size.toNat := by
  unfold ch
  have := Int.emod_lt_of_pos (hashK k) h
  have := Int.emod_nonneg (hashK k) (by omega : m.size ≠ 0)
  omega
theorem ch_cast {m : Pm} {k : Key} (h : 0 < m.size) : ((ch m k : Nat) : Int) = hashK k % m.size := by
  unfold ch
  have := Int.emod_nonneg (hashK k) (by omega : m.size ≠ 0)
  omega
theorem link_ {x : Addr} {a : Ad} {m : Pm} {p : Nat} {t : Tok} {k : Key} {Q : Value → Shared → Prop} (W : Wd w H₀) (hR : Rm A 5) (S : St H₀ o₀ (ArrR w.params x a :: R) s) (hm : Arp a m)
    (hk : m.keys[p]? = some (some k)) (h0 : 0 < m.size) (hs : m.size < 2 ^ 20) (hh : m.heads.length = m.size.toNat) (hn : p < m.nexts.length) (hz : m.nexts.length < 2 ^ 20)
    (h : ∀ a' s', Arp a' (linkM m p k) → St H₀ o₀ (ArrR w.params x a' :: R) s' → Q .none s') : Does w A (call (.ref 213) [.ref x, .int p t]) Q s := by
  obtain ⟨v, hv, hkv⟩ := hm.keys.get hk
  have hsz : a.sz = m.size := hm.size
  have hc := ch_lt (k := k) h0
  have hcc := ch_cast (k := k) h0
  obtain ⟨hd, hhd⟩ : ∃ n, m.heads[ch m k]? = some n := ⟨_, List.getElem?_eq_getElem (by omega)⟩
  obtain ⟨th, hth⟩ := hm.heads.get hhd
  have hnl : a.ns.length = m.nexts.length := hm.nexts.length
  have hhl : a.hs.length = m.heads.length := hm.heads.length
  have hv' : a.ks[(p : Int).toNat]? = some v := hv
  have hcl : a.hs[(hashK k % a.sz).toNat]? = some (.int hd th) := by rw [hsz]; exact hth
  refine d_fun (f := 213) ["arr", "place"] ["chain"] W hR S (nf_fn (by rfl) (by conv => lhs; whnf) (by conv => lhs; whnf)) (by kernel_rfl!) (by kernel_rfl!) rfl (by decide) (by decide +kernel) (by decide +kernel) rfl rfl rfl ?_
  intro L s' S A' hR
  have hz0 : 0 < a.sz := by omega
  have hz1 : 0 ≤ hashK k % a.sz := by rw [hsz]; omega
  have hz2 : hashK k % a.sz < 2 ^ 63 := by rw [hsz]; omega
  have hp63 : (p : Int) < 2 ^ 63 := by omega
  (repeat' tb_rel)
  refine hash_of_ W (hR.lower (by omega)) (by assumption) hkv (fun t1 s1 S1 => ?_)
  (repeat' tb_rel)
  refine d_setItem (c := .n) (by assumption) (fun _ k => k) (by intro hc; cases hc) (by omega) (by omega) (by show (p : Int) < a.ns.length; omega) (fun s2 S2 => ?_)
  (repeat' tb_rel)
  refine d_setItem (c := .h) (by assumption) (fun _ k => k) (by intro hc; cases hc) (by omega) (by omega) (by show hashK k % a.sz < a.hs.length; rw [hsz]; omega) (fun s2 S2 => ?_)
  (repeat' tb_rel)
  refine h _ _ ?_ (St.drop (by assumption))
  have e1 := hm.nexts.set p hd th
  have e2 := hm.heads.set (ch m k) p t
  exact { hm with
    nexts := by simpa [linkM, hhd] using e1
    heads := by simpa [linkM, hsz, ch] using e2 }
end funs

section funs
variable {w : World} {H₀ : Heap} {o₀ : OsState} {A : Around} {s : Shared} {rs R : List Res} {env : Env}
/-- a chain: from the head h along the nexts -/
noncomputable def Chn (ns : List Int) : Int → List Nat → Prop
  | h, [] => h = -1
  | h, p :: l => h = (p : Int) ∧ ∃ n, ns[p]? = some n ∧ Chn ns n l
noncomputable def lastOr (l : List Nat) : Int := match l.getLast? with | none => -1 | some q => (q : Int)
noncomputable def unlinkM (m : Pm) (p c : Nat) (l1 : List Nat) : Pm := match l1.getLast? with
  | none => { m with heads := m.heads.set c ((m.nexts[p]?).getD 0) }
  | some q => { m with nexts := m.nexts.set q ((m.nexts[p]?).getD 0) }
theorem Chn.lt {ns : List Int} : ∀ {l : List Nat} {h : Int}, Chn ns h l → ∀ q ∈ l, q < ns.length
  | p :: l, h, ⟨_, n, hn, r⟩, q, hq => by
    rcases List.mem_cons.mp hq with rfl | hq
    · exact (List.getElem?_eq_some_iff.mp hn).1
    · exact r.lt q hq
theorem Chn.get {ns : List Int} {p : Nat} {l2 : List Nat} : ∀ {l1 : List Nat} {h : Int}, Chn ns h (l1 ++ p :: l2) → ∃ n, ns[p]? = some n
  | [], _, ⟨_, n, hn, _⟩ => ⟨n, hn⟩
  | _ :: _, _, ⟨_, _, _, r⟩ => Chn.get r
theorem unlink_ {x : Addr} {a : Ad} {m : Pm} {p : Nat} {t : Tok} {k : Key} {l1 l2 : List Nat} {hd : Int} {Q : Value → Shared → Prop} (W : Wd w H₀) (hR : Rm A 5) (S : St H₀ o₀ (ArrR w.params x a :: R) s) (hm : Arp a m)
    (hk : m.keys[p]? = some (some k)) (h0 : 0 < m.size) (hs : m.size < 2 ^ 20) (hz : m.nexts.length < 2 ^ 20) (hh : m.heads[ch m k]? = some hd) (hc : Chn m.nexts hd (l1 ++ p :: l2)) (hnd : p ∉ l1)
    (h : ∀ a' s', Arp a' (unlinkM m p (ch m k) l1) → St H₀ o₀ (ArrR w.params x a' :: R) s' → Q .none s') : Does w A (call (.ref 220) [.ref x, .int p t]) Q s := by
  obtain ⟨v, hv, hkv⟩ := hm.keys.get hk
  have hsz : a.sz = m.size := hm.size
  have hcl := ch_lt (k := k) h0
  have hcc := ch_cast (k := k) h0
  obtain ⟨th, hth⟩ := hm.heads.get hh
  have hnl : a.ns.length = m.nexts.length := hm.nexts.length
  have hhl : a.hs.length = m.heads.length := hm.heads.length
  have hhl2 := (List.getElem?_eq_some_iff.mp hh).1
  have hv' : a.ks[(p : Int).toNat]? = some v := hv
  have hcl : a.hs[(hashK k % a.sz).toNat]? = some (.int hd th) := by rw [hsz]; exact hth
  have hpl := hc.lt p (by simp)
  refine d_fun (f := 220) ["arr", "place"] ["chain", "ahead", "here"] W hR S (nf_fn (by rfl) (by conv => lhs; whnf) (by conv => lhs; whnf)) (by kernel_rfl!) (by kernel_rfl!) rfl (by decide) (by decide +kernel) (by decide +kernel) rfl rfl rfl ?_
  intro L s' S A' hR
  have hz0 : 0 < a.sz := by omega
  have hz1 : 0 ≤ hashK k % a.sz := by rw [hsz]; omega
  have hz2 : hashK k % a.sz < 2 ^ 63 := by rw [hsz]; omega
  have hz3 : hashK k % a.sz < a.hs.length := by rw [hsz]; omega
  have hp63 : (p : Int) < 2 ^ 63 := by omega
  (repeat' tb_rel)
  refine hash_of_ W (hR.lower (by omega)) (by assumption) hkv (fun t1 s1 S1 => ?_)
  (repeat' tb_rel)
  refine d_while hR.h (fun n s => ∃ l0 l1' hv t2 t3 t4, l1 = l0 ++ l1' ∧ n = l1'.length ∧ Chn m.nexts hv (l1' ++ p :: l2) ∧ St H₀ o₀ (FrR H₀ L ["arr", "place", "chain", "ahead", "here"]
    [some (.ref x), some (.int p t), some (.int (hashK k % a.sz) t2), some (.int (lastOr l0) t3), some (.int hv t4)] :: ArrR w.params x a :: R) s) l1.length
    ⟨[], l1, hd, _, _, _, rfl, rfl, hc, by assumption⟩ ?_
  rintro n s2 ⟨l0, l1', hv, t2, t3, t4, rfl, rfl, hch, S2⟩
  (repeat' tb_rel)
  refine split_bne (fun hne => ?_) (fun he => ?_)
  · cases l1' with
    | nil => exact absurd hch.1 hne
    | cons q r =>
      obtain ⟨rfl, n, hn, hr⟩ := hch
      obtain ⟨tn, htn⟩ := hm.nexts.get hn
      have htn' : a.ns[(q : Int).toNat]? = some (.int n tn) := htn
      have hq := (List.getElem?_eq_some_iff.mp hn).1
      have hq63 : (q : Int) < 2 ^ 63 := by omega
      (repeat' tb_rel)
      refine ⟨r.length, by simp, l0 ++ [q], r, n, ?_⟩
      have : lastOr (l0 ++ [q]) = q := by simp [lastOr]
      rw [this]
      exact ⟨_, _, _, by simp, rfl, hr, by assumption⟩
  · have hl1' : l1' = [] := by
      cases l1' with
      | nil => rfl
      | cons q r =>
        exfalso
        have : (q : Int) = p := hch.1.symm.trans he
        exact hnd (by rw [show p = q by omega]; simp)
    subst hl1'
    obtain ⟨n, hn⟩ := hc.get
    obtain ⟨tn, htn⟩ := hm.nexts.get hn
    have htn' : a.ns[(p : Int).toNat]? = some (.int n tn) := htn
    simp only [List.append_nil] at hc h hnd
    (repeat' tb_rel)
    refine split_dec (fun hlt => ?_) (fun hge => ?_)
    · have hl0 : l0.getLast? = none := by
        cases e : l0.getLast? with
        | none => rfl
        | some q => simp [lastOr, e] at hlt; omega
      (repeat' tb_rel)
      refine d_setItem (c := .h) (by assumption) (fun _ k => k) (by intro hc; cases hc) hz1 hz2 hz3 (fun s2 S2 => ?_)
      (repeat' tb_rel)
      refine h _ _ ?_ (St.drop (by assumption))
      have e2 := hm.heads.set (ch m k) n tn
      unfold unlinkM
      rw [hl0]
      exact { hm with heads := by simpa [hn, hsz, ch] using e2 }
    · obtain ⟨q, hq⟩ : ∃ q, l0.getLast? = some q := by
        cases e : l0.getLast? with
        | none => simp [lastOr, e] at hge
        | some q => exact ⟨q, rfl⟩
      have hlq : lastOr l0 = q := by simp [lastOr, hq]
      have hqm : q ∈ l0 := List.mem_of_getLast? hq
      have hql := hc.lt q (List.mem_append_left _ hqm)
      have hq63 : (q : Int) < 2 ^ 63 := by omega
      (repeat' tb_rel)
      refine d_setItem (c := .n) (by assumption) (fun _ k => k) (by intro hc; cases hc) (by rw [hlq]; omega) (by rw [hlq]; omega) (by rw [hlq]; show (q : Int) < a.ns.length; omega) (fun s2 S2 => ?_)
      (repeat' tb_rel)
      refine h _ _ ?_ (St.drop (by assumption))
      have e2 := hm.nexts.set q n tn
      unfold unlinkM
      rw [hq]
      exact { hm with nexts := by simpa [hn, hlq] using e2 }
end funs

section funs
variable {w : World} {H₀ : Heap} {o₀ : OsState} {A : Around} {s : Shared} {rs R : List Res} {env : Env}
noncomputable def linkAt (m : Pm) (p : Nat) : Pm := match m.keys[p]? with | some (some k) => linkM m p k | _ => m
noncomputable def chainStep (m : Pm) (p : Nat) : Pm := if (m.lives[p]?).getD false = true then linkAt m p else m
noncomputable def chains0 (m : Pm) : Pm := { m with heads := List.replicate m.size.toNat (-1), nexts := List.replicate m.lives.length (-1) }
noncomputable def chainsTo (m : Pm) (n : Nat) : Pm := (List.range n).foldl chainStep (chains0 m)
noncomputable def chainsM (m : Pm) : Pm := chainsTo m m.lives.length
theorem liveAt_some {m : Pm} {i : Nat} (h : i < m.lives.length) : m.lives[i]? = some (liveAt m i) := by simp [liveAt, h]
theorem IV.rep (n : Nat) (i : Int) (t : Tok) : IV (List.replicate n (.int i t)) (List.replicate n i) := by
  unfold IV; simp [iOf]
structure SameK (m m' : Pm) : Prop where
  pk : m'.pk = m.pk
  keys : m'.keys = m.keys
  lives : m'.lives = m.lives
  heads : m'.heads.length = m.size.toNat
  nexts : m'.nexts.length = m.lives.length
  size : m'.size = m.size
  count : m'.count = m.count
  next : m'.next = m.next
theorem chainsTo_same (m : Pm) (n : Nat) : SameK m (chainsTo m n) := by
  induction n with
  | zero => exact ⟨rfl, rfl, rfl, by simp [chainsTo, chains0], by simp [chainsTo, chains0], rfl, rfl, rfl⟩
  | succ n ih =>
    obtain ⟨h1, h2, h3, h4, h5, h6, h7, h8⟩ := ih
    have e : chainsTo m (n + 1) = chainStep (chainsTo m n) n := by unfold chainsTo; rw [List.range_succ, List.foldl_append]; rfl
    rw [e]
    unfold chainStep linkAt
    split
    · split
      · exact ⟨h1, h2, h3, by simp [linkM, h4], by simp [linkM, h5], h6, h7, h8⟩
      · exact ⟨h1, h2, h3, h4, h5, h6, h7, h8⟩
    · exact ⟨h1, h2, h3, h4, h5, h6, h7, h8⟩
theorem two_of {vs : List (Option Value)} {o : Option Value} (h0 : vs[0]? = some o) (h1 : vs.length = 2) : ∃ v1, vs = [o, v1] := by
  match vs, h0, h1 with
  | [_, v1], h0, _ => exact ⟨v1, by simpa using h0⟩
theorem chains_ {x : Addr} {a : Ad} {m : Pm} {Q : Value → Shared → Prop} (W : Wd w H₀) (hR : Rm A 6) (S : St H₀ o₀ (ArrR w.params x a :: R) s) (hm : Arp a m)
    (hk : ∀ p : Nat, m.lives[p]? = some true → ∃ k, m.keys[p]? = some (some k)) (h0 : 0 < m.size) (hs : m.size < 2 ^ 20) (hz : m.lives.length < 2 ^ 20)
    (h : ∀ a' s', Arp a' (chainsM m) → St H₀ o₀ (ArrR w.params x a' :: R) s' → Q .none s') : Does w A (call (.ref 227) [.ref x]) Q s := by
  have hvl := hm.vlen
  have hsz := hm.size
  refine d_fun (f := 227) ["arr"] ["place"] W hR S (nf_fn (by rfl) (by conv => lhs; whnf) (by conv => lhs; whnf)) (by kernel_rfl!) (by kernel_rfl!) rfl (by decide) (by decide +kernel) (by decide +kernel) rfl rfl rfl ?_
  intro L s' S A' hR
  (repeat' tb_rel)
  refine d_mulInt (by assumption) (by omega) (by omega) (fun l1 t1 s1 S1 => ?_)
  (repeat' tb_rel)
  refine d_setlist (c := .h) W (St.sw12 (by assumption)) (fun q k => LsR_def.mp k) (by intro hc; cases hc) (fun s2 S2 => ?_)
  have hm1 : Arp (a.rep .h l1 (List.replicate a.sz.toNat (.int (-1) t1))) { m with heads := List.replicate m.size.toNat (-1) } := { hm with heads := by rw [hsz]; exact IV.rep _ _ _ }
  revert S2 hm1
  generalize a.rep .h l1 _ = a1
  intro S2 hm1
  have hvl1 : a1.vs.length = m.lives.length := hm1.vlen
  (repeat' tb_rel)
  refine d_mulInt (by assumption) (by omega) (by omega) (fun l2 t2 s1 S1 => ?_)
  (repeat' tb_rel)
  refine d_setlist (c := .n) W (St.sw12 (by assumption)) (fun q k => LsR_def.mp k) (by intro hc; cases hc) (fun s2 S2 => ?_)
  have hm2 : Arp (a1.rep .n l2 (List.replicate (a1.vs.length : Int).toNat (.int (-1) t2))) (chains0 m) := { hm1 with nexts := by rw [hvl1]; exact IV.rep _ _ _ }
  revert S2 hm2
  generalize a1.rep .n l2 _ = a2
  intro S2 hm2
  have hvl2 : a2.vs.length = m.lives.length := hm2.vlen
  (repeat' tb_rel)
  refine d_range1 (by assumption) (fun r t3 t4 t5 s3 hr S3 => ?_)
  (repeat' tb_rel)
  refine d_iterR (by assumption) hr (by omega) (fun I s4 IT S4 => ?_)
  refine d_forL (fun i vs R1 => vs[0]? = some (some (.ref x)) ∧ vs.length = 2 ∧ ∃ a', Arp a' (chainsTo m i) ∧ R1 = ArrR w.params x a' :: R) hR.h IT S4 ⟨rfl, rfl, a2, hm2, rfl⟩ (fun _ _ _ _ => trivial) rfl (by decide +kernel) rfl (by kernel_rfl!) ?_ ?_
  · rintro i _ vs R1 s5 hi ⟨t6, rfl⟩ ⟨hv0, hv1, a3, hm3, rfl⟩ S5
    obtain ⟨v1, rfl⟩ := two_of hv0 hv1
    (repeat' tb_rel)
    refine is_living_ W (hR.lower (by omega)) (St.sw2 (by assumption)) hm3 (by rw [(chainsTo_same m i).lives]; omega) (fun s6 S6 => ?_)
    have S6 := S6.sw2
    have hse := chainsTo_same m i
    have e : chainsTo m (i + 1) = chainStep (chainsTo m i) i := by unfold chainsTo; rw [List.range_succ, List.foldl_append]; rfl
    have hi' : i < m.lives.length := by omega
    cases hl : liveAt (chainsTo m i) i with
    | true =>
      have hl' : m.lives[i]? = some true := by rw [← hse.lives, liveAt_some (by rw [hse.lives]; exact hi'), hl]
      obtain ⟨k, hk⟩ := hk i hl'
      (repeat' tb_rel)
      refine link_ W (hR.lower (by omega)) (St.sw2 (by assumption)) hm3 (by rw [hse.keys]; exact hk) (by rw [hse.size]; exact h0) (by rw [hse.size]; exact hs) (by rw [hse.heads, hse.size]) (by rw [hse.nexts]; exact hi') (by rw [hse.nexts]; exact hz) (fun a4 s7 hm4 S7 => ?_)
      have S7 := S7.sw2
      (repeat' tb_rel)
      refine ⟨_, _, ⟨rfl, rfl, a4, ?_, rfl⟩, by assumption⟩
      rw [e]
      simpa [chainStep, hse.lives, hl', linkAt, hse.keys, hk] using hm4
    | false =>
      have hl' : m.lives[i]? = some false := by rw [← hse.lives, liveAt_some (by rw [hse.lives]; exact hi'), hl]
      (repeat' tb_rel)
      refine ⟨_, _, ⟨rfl, rfl, a3, ?_, rfl⟩, by assumption⟩
      rw [e]
      simpa [chainStep, hse.lives, hl'] using hm3
  · rintro vs R1 s5 ⟨hv0, hv1, a3, hm3, rfl⟩ S5
    (repeat' tb_rel)
    exact h a3 _ (by rw [hvl2] at hm3; exact hm3) S5.drop
end funs

section funs
variable {w : World} {H₀ : Heap} {o₀ : OsState} {A : Around} {s : Shared} {rs R : List Res} {env : Env}
theorem next_place_ {x : Addr} {a : Ad} {m : Pm} {i : Int} {t : Tok} {Q : Value → Shared → Prop} (W : Wd w H₀) (hR : Rm A 4) (S : St H₀ o₀ (ArrR w.params x a :: R) s) (hm : Arp a m) (hz : m.lives.length < 2 ^ 20)
    (h : ∀ n t s', St H₀ o₀ (ArrR w.params x a :: R) s' → Q (.int n t) s') : Does w A (call (.ref 234) [.ref x, .int i t]) Q s := by
  have hvl := hm.vlen
  refine d_fun (f := 234) ["arr", "place"] [] W hR S (nf_fn (by rfl) (by conv => lhs; whnf) (by conv => lhs; whnf)) (by kernel_rfl!) (by kernel_rfl!) rfl (by decide) (by decide +kernel) (by decide +kernel) rfl rfl rfl ?_
  intro L s' S A' hR
  (repeat' tb_rel)
  refine d_while hR.h (fun n s => ∃ i t2, n = (a.vs.length - i : Int).toNat ∧ St H₀ o₀ (FrR H₀ L ["arr", "place"]
    [some (.ref x), some (.int i t2)] :: ArrR w.params x a :: R) s) (a.vs.length - i : Int).toNat
    ⟨i, _, rfl, by assumption⟩ ?_
  rintro n s2 ⟨i, t2, rfl, S2⟩
  (repeat' tb_rel)
  refine split_dec (fun hlt => ?_) (fun hge => ?_)
  · (repeat' tb_rel)
    refine is_living_ W (hR.lower (by omega)) (St.sw (by assumption)) hm hz (fun s6 S6 => ?_)
    have S6 := S6.sw
    cases liveAt m i
    · (repeat' tb_rel)
      exact ⟨(a.vs.length - (i + 1) : Int).toNat, by omega, i + 1, _, rfl, by assumption⟩
    · (repeat' tb_rel)
      exact h _ _ _ (St.drop (by assumption))
  · (repeat' tb_rel)
    exact h _ _ _ (St.drop (by assumption))
theorem many_ahead_ {l : Addr} {vs : List Value} {is : List Int} {i : Int} {t : Tok} {Q : Value → Shared → Prop} (W : Wd w H₀) (hR : Rm A 3) (S : St H₀ o₀ (LsR l vs :: R) s) (hv : IV vs is) (hz : vs.length < 2 ^ 20)
    (h : ∀ n t s', St H₀ o₀ (LsR l vs :: R) s' → Q (.int n t) s') : Does w A (call (.ref 239) [.ref l, .int i t]) Q s := by
  refine d_funC (f := 239) ["living", "place"] [] (fun L => [CellR (L + 1) (.int i t)]) W hR S (nf_fn (by rfl) (by conv => lhs; whnf) (by conv => lhs; whnf)) (by kernel_rfl!) (by kernel_rfl!) rfl (by decide) (by decide +kernel) (by decide +kernel) (by intro L; rfl) rfl rfl rfl ?_
  intro L s' S A' hR
  have S : St H₀ o₀ (FrR H₀ L ["living", "place"] [some (.ref l), none] :: CellR (L + 1) (.int i t) :: LsR l vs :: R) s' := S
  (repeat' tb_rel)
  refine d_comp (H₀ := H₀) (o₀ := o₀) hR.h (by rfl) (by decide +kernel) rfl (by decide +kernel) rfl ?_ (by intro _; with_unfolding_all rfl)
  (repeat' tb_rel)
  refine d_iter_list (by assumption) (by tb_start) (fun I s2 IT S2 => ?_)
  refine ⟨I, _, _, _, _, L, _, _, _, fun j ys R1 => ys.length ≤ j ∧ R1 = CellR (L + 1) (.int i t) :: LsR l vs :: R, rfl, IT, S2, ⟨by simp, rfl⟩, ?_, ?_, ?_, ?_, ?_⟩
  · rintro j C D vs1 ys R1 ⟨_, rfl⟩; exact LIn.ls (by k_memK)
  · unfold sizeLine; omega
  · rintro j ys R1 ⟨h1, _⟩; exact h1
  · rintro j v C D ys R1 s5 hj hP ⟨hy, rfl⟩ S5
    obtain ⟨n, hn⟩ : ∃ n, is[j]? = some n := ⟨_, List.getElem?_eq_getElem (by rw [← hv.length]; exact hj)⟩
    obtain ⟨tn, htn⟩ := hv.get hn
    obtain rfl : v = .int n tn := Option.some.inj (hP.symm.trans htn)
    refine d_if1 ?_
    (repeat' tb_rel)
    refine split_dec (fun hlt => ?_) (fun hge => ?_)
    · (repeat' tb_rel)
      exact ⟨_, ⟨by simp; omega, rfl⟩, by assumption⟩
    · (repeat' tb_rel)
      exact ⟨_, ⟨by omega, rfl⟩, by assumption⟩
  · rintro D ys R1 s5 ⟨hy, rfl⟩ S5
    (repeat' tb_rel)
    exact h _ _ _ (St.drop (St.drop (St.drop (by assumption))))
end funs

section funs
variable {w : World} {H₀ : Heap} {o₀ : OsState} {A : Around} {s : Shared} {rs R : List Res} {env : Env}
noncomputable def liveIdx (ls : List Bool) (n : Nat) : List Nat := (List.range n).filter fun i => (ls[i]?).getD false
noncomputable def allLive (m : Pm) : List Nat := liveIdx m.lives m.lives.length
noncomputable def packM (m : Pm) : Pm := { m with keys := (allLive m).map fun p => (m.keys[p]?).getD none, lives := List.replicate (allLive m).length true }
noncomputable def rehashM (m : Pm) : Pm := chainsM (packM m)
theorem liveIdx_succ (ls : List Bool) (n : Nat) : liveIdx ls (n + 1) = liveIdx ls n ++ if (ls[n]?).getD false = true then [n] else [] := by
  unfold liveIdx
  rw [List.range_succ, List.filter_append]
  cases h : (ls[n]?).getD false <;> simp [h]
theorem liveIdx_le (ls : List Bool) (n : Nat) : (liveIdx ls n).length ≤ n := by
  unfold liveIdx; exact Nat.le_trans (List.length_filter_le ..) (by simp)
theorem liveIdx_mem {ls : List Bool} {n p : Nat} (h : p ∈ liveIdx ls n) : p < n ∧ ls[p]? = some true := by
  unfold liveIdx at h
  obtain ⟨h1, h2⟩ := List.mem_filter.mp h
  refine ⟨List.mem_range.mp h1, ?_⟩
  cases e : ls[p]? with
  | none => rw [e] at h2; cases h2
  | some b => rw [e] at h2; simpa using h2
/-- a list of places -/
noncomputable def PV (vs : List Value) (ps : List Nat) : Prop := IV vs (ps.map fun p : Nat => (p : Int))
theorem rehash_ {x : Addr} {a : Ad} {m : Pm} {Q : Value → Shared → Prop} (W : Wd w H₀) (hR : Rm A 7) (S : St H₀ o₀ (ArrR w.params x a :: R) s) (hm : Arp a m)
    (hk : ∀ p : Nat, m.lives[p]? = some true → ∃ k, m.keys[p]? = some (some k)) (h0 : 0 < m.size) (hs : m.size < 2 ^ 20) (hz : m.lives.length < 2 ^ 20)
    (h : ∀ a' s', Arp a' (rehashM m) → St H₀ o₀ (ArrR w.params x a' :: R) s' → Q .none s') : Does w A (call (.ref 244) [.ref x]) Q s := by
  have hvl := hm.vlen
  refine d_funC (f := 244) ["arr"] ["living", "number"] (fun L => [CellR (L + 1) (.ref x)]) W hR S (nf_fn (by rfl) (by conv => lhs; whnf) (by conv => lhs; whnf)) (by kernel_rfl!) (by kernel_rfl!) rfl (by decide) (by decide +kernel) (by decide +kernel) (by intro L; rfl) rfl rfl rfl ?_
  intro L s' S A' hR
  have S : St H₀ o₀ (FrR H₀ L ["arr", "living", "number"] [none, none, none] :: CellR (L + 1) (.ref x) :: ArrR w.params x a :: R) s' := S
  (repeat' tb_rel)
  refine d_compAssign (H₀ := H₀) (o₀ := o₀) hR.h (by with_unfolding_all rfl) (by rfl) (by decide +kernel) rfl (by decide +kernel) rfl rfl (by kernel_rfl!) ?_ (by intro _; with_unfolding_all rfl)
  (repeat' tb_rel)
  refine d_range1 (by assumption) (fun r t3 t4 t5 s3 hr S3 => ?_)
  (repeat' tb_rel)
  refine d_iterR (by assumption) hr (by omega) (fun I s4 IT S4 => ?_)
  refine ⟨I, _, _, _, _, L, _, _, _, fun j ys R1 => PV ys (liveIdx m.lives j) ∧ R1 = CellR (L + 1) (.ref x) :: ArrR w.params x a :: R, rfl, IT, S4, ⟨rfl, rfl⟩, ?_, ?_, ?_, ?_, ?_⟩
  · intros; trivial
  · unfold sizeLine; omega
  · rintro j ys R1 ⟨h1, _⟩
    have := h1.length
    have := liveIdx_le m.lives j
    simp at *; omega
  · rintro j v C D ys R1 s5 hj ⟨t6, rfl⟩ ⟨hy, rfl⟩ S5
    refine d_if1 ?_
    (repeat' tb_rel)
    refine is_living_ W (hR.lower (by omega)) S5.sw5 hm hz (fun s6 S6 => ?_)
    have S6 := S6.sw5
    have e := liveAt_some (m := m) (i := j) (by omega)
    have e1 := liveIdx_succ m.lives j
    rw [e] at e1
    cases hl : liveAt m j
    · rw [hl] at e1
      (repeat' tb_rel)
      refine ⟨_, ⟨?_, rfl⟩, by assumption⟩
      rw [e1]; simpa using hy
    · rw [hl] at e1
      (repeat' tb_rel)
      refine ⟨_, ⟨?_, rfl⟩, by assumption⟩
      rw [e1]
      simpa [PV] using IV.snoc hy j t6
  · rintro D ys R1 s5 ⟨hy, rfl⟩ S5
    refine ⟨rfl, by decide +kernel, fun s6 S6 => ?_⟩
    rw [hvl] at hy
    have hyl : ys.length < 2 ^ 20 := by
      have := hy.length
      have := liveIdx_le m.lives m.lives.length
      simp at *; omega
    (repeat' tb_rel)
    refine many_ahead_ W (hR.lower (by omega)) (St.sw (by assumption)) hy hyl (fun n t7 s7 S7 => ?_)
    have S7 := S7.sw
    (repeat' tb_rel)
    refine d_setattr (a := a) { a with at_ := n, att := t7 } W (St.sw13 (by assumption)) (by decide +kernel) (by intro _ _ _; rfl) ⟨rfl, rfl, rfl, rfl, rfl, rfl, rfl, rfl, rfl, rfl⟩ (fun s8 S8 => ?_)
    have hm1 : Arp { a with at_ := n, att := t7 } m := { hm with }
    revert S8 hm1
    generalize { a with at_ := n, att := t7 } = a1
    intro S8 hm1
    (repeat' tb_rel)
    refine d_iter_list (by assumption) (LIn.ls (.tail _ (.head _))) (fun I2 s9 IT2 S9 => ?_)
    refine d_forL (fun i vs R1 => vs = [none, some (.ref D), none] ∧ R1 = _) hR.h IT2 S9 ⟨rfl, rfl⟩ (fun _ _ _ h => by obtain ⟨_, rfl⟩ := h; exact LIn.ls (.tail _ (.tail _ (.head _)))) rfl (by decide +kernel) rfl (by kernel_rfl!) (fun i v vs R2 s hi => absurd hi (by simp)) ?_
    rintro vs R1 s10 ⟨rfl, rfl⟩ S10
    have S10 := S10.drop1
    have hPV : ∀ {j : Nat} {v : Value}, ys[j]? = some v → ∃ p t, v = .int (p : Nat) t ∧ (allLive m)[j]? = some p := by
      intro j v e
      have e2 := congrArg (fun l => l[j]?) hy
      simp only [List.getElem?_map, e, Option.map_some] at e2
      cases q : (liveIdx m.lives m.lives.length)[j]? with
      | none => rw [q] at e2; cases e2
      | some p => rw [q] at e2; obtain ⟨t, rfl⟩ := iOf_some (Option.some.inj e2); exact ⟨p, t, rfl, q⟩
    (repeat' tb_rel)
    refine d_comp (H₀ := H₀) (o₀ := o₀) hR.h (by rfl) (by decide +kernel) rfl (by decide +kernel) rfl ?_ (by intro _; with_unfolding_all rfl)
    (repeat' tb_rel)
    refine d_iter_list (by assumption) (LIn.ls (by k_memK)) (fun I3 s11 IT3 S11 => ?_)
    refine ⟨I3, _, _, _, _, L, _, _, _, fun j zs R1 => zs.map some = ((allLive m).take j).map (fun p => a1.ks[p]?) ∧ R1 = ArrR w.params x a1 :: CellR (L + 1) (.ref x) :: LsR D ys :: R, rfl, IT3, S11, ⟨rfl, rfl⟩, ?_, ?_, ?_, ?_, ?_⟩
    · rintro j C E vs1 ys R1 ⟨_, rfl⟩; exact LIn.ls (by k_memK)
    · unfold sizeLine; omega
    · rintro j zs R1 ⟨h1, _⟩
      have := congrArg List.length h1
      simp at this; omega
    · rintro j v C E zs R1 s5 hj hP ⟨hz1, rfl⟩ S5
      obtain ⟨p, tp, rfl, hp⟩ := hPV hP
      have hpm := liveIdx_mem (List.mem_of_getElem? hp)
      obtain ⟨v, hv⟩ : ∃ v, a1.ks[p]? = some v := by
        obtain ⟨k, hk⟩ := hk p hpm.2
        obtain ⟨v, hv, _⟩ := hm1.keys.get hk
        exact ⟨v, hv⟩
      have hv' : a1.ks[(p : Int).toNat]? = some v := hv
      have hp63 : (p : Int) < 2 ^ 63 := by omega
      refine d_if0 ?_
      (repeat' tb_rel)
      refine ⟨_, ⟨?_, rfl⟩, by assumption⟩
      rw [List.take_add_one, hp, List.map_append, List.map_append, hz1]
      simp [hv]
    rintro E zs R1 s12 ⟨hz1, rfl⟩ S12
    rw [List.take_of_length_le (by have := hy.length; simp at this; unfold allLive; omega)] at hz1
    (repeat' tb_rel)
    have hzk : KVs zs (packM m).keys := by
      unfold KVs
      have e : ∀ l : List Nat, (∀ p ∈ l, m.lives[p]? = some true) → ∀ zs : List Value, zs.map some = l.map (fun p => a1.ks[p]?) → zs.map kOf = (l.map fun p => (m.keys[p]?).getD none).map some := by
        intro l
        induction l with
        | nil => intro _ zs h; simp at h; simp [h]
        | cons p r ih =>
          intro hl zs h
          cases zs with
          | nil => simp at h
          | cons z zr =>
            simp only [List.map_cons, List.cons.injEq] at h ⊢
            obtain ⟨k, hkp⟩ := hk p (hl p (.head _))
            obtain ⟨v, hv, hkv⟩ := hm1.keys.get hkp
            refine ⟨?_, ih (fun q hq => hl q (.tail _ hq)) zr h.2⟩
            rw [hv] at h
            rw [Option.some.inj h.1, hkv, hkp]; rfl
      exact e _ (fun p hp => (liveIdx_mem hp).2) zs hz1
    refine d_setlist (c := .k) W (St.sw12 (by assumption)) (fun q k => LsR_def.mp k) (by intro hc; cases hc) (fun s13 S13 => ?_)
    have hm2 : Arp (a1.rep .k E zs) { m with keys := (packM m).keys } := { hm1 with keys := hzk }
    revert S13 hm2
    generalize a1.rep .k E zs = a2
    intro S13 hm2
    (repeat' tb_rel)
    refine d_comp (H₀ := H₀) (o₀ := o₀) hR.h (by rfl) (by decide +kernel) rfl (by decide +kernel) rfl ?_ (by intro _; with_unfolding_all rfl)
    (repeat' tb_rel)
    refine d_iter_list (by assumption) (LIn.ls (by k_memK)) (fun I3 s11 IT3 S11 => ?_)
    refine ⟨I3, _, _, _, _, L, _, _, _, fun j ws R1 => ws.map some = ((allLive m).take j).map (fun p => a2.vs[p]?) ∧ R1 = ArrR w.params x a2 :: CellR (L + 1) (.ref x) :: LsR D ys :: R, rfl, IT3, S11, ⟨rfl, rfl⟩, ?_, ?_, ?_, ?_, ?_⟩
    · rintro j C G vs1 ys R1 ⟨_, rfl⟩; exact LIn.ls (by k_memK)
    · unfold sizeLine; omega
    · rintro j ws R1 ⟨h1, _⟩
      have := congrArg List.length h1
      simp at this; omega
    · rintro j v C G ws R1 s5 hj hP ⟨hw1, rfl⟩ S5
      obtain ⟨p, tp, rfl, hp⟩ := hPV hP
      have hpm := liveIdx_mem (List.mem_of_getElem? hp)
      obtain ⟨v, hv⟩ : ∃ v, a2.vs[p]? = some v := by
        have := hm2.vlen
        have h3 := hpm.1
        exact ⟨_, List.getElem?_eq_getElem (by rw [this]; exact h3)⟩
      have hv' : a2.vs[(p : Int).toNat]? = some v := hv
      have hp63 : (p : Int) < 2 ^ 63 := by omega
      refine d_if0 ?_
      (repeat' tb_rel)
      refine ⟨_, ⟨?_, rfl⟩, by assumption⟩
      rw [List.take_add_one, hp, List.map_append, List.map_append, hw1]
      simp [hv]
    rintro G ws R1 s12 ⟨hw1, rfl⟩ S12
    rw [List.take_of_length_le (by have := hy.length; simp at this; unfold allLive; omega)] at hw1
    (repeat' tb_rel)
    have hws : ∀ v ∈ ws, v ∈ a2.vs ∧ isAbs v = false := by
      intro v hv
      obtain ⟨j, hj⟩ := List.mem_iff_getElem?.mp hv
      have e := congrArg (fun l => l[j]?) hw1
      simp only [List.getElem?_map, hj, Option.map_some] at e
      cases q : (allLive m)[j]? with
      | none => rw [q] at e; cases e
      | some p =>
        rw [q] at e
        have e : a2.vs[p]? = some v := (Option.some.inj e).symm
        refine ⟨List.mem_of_getElem? e, ?_⟩
        have h1 := (liveIdx_mem (List.mem_of_getElem? q)).2
        have h2 : lives a2 = m.lives := hm2.lives
        rw [← h2] at h1
        simp only [lives, List.getElem?_map, e, Option.map_some, Option.some.injEq] at h1
        simpa using h1
    have hwl : ws.length = (allLive m).length := by simpa using congrArg List.length hw1
    refine d_setlist (c := .v) W (St.sw12 (by assumption)) (fun q k => LsR_def.mp k) (fun _ q q' k1 _ v hv => .inl ((ArrR_def.mp k1).2.2.2.2.2.2.2.1 v (hws v hv).1)) (fun s13 S13 => ?_)
    have hl3 : ws.map (fun v => !isAbs v) = List.replicate (allLive m).length true := by
      rw [List.eq_replicate_iff]
      refine ⟨by simpa using hwl, fun b hb => ?_⟩
      obtain ⟨v, hv, rfl⟩ := List.mem_map.mp hb
      rw [(hws v hv).2]; rfl
    have hm3 : Arp (a2.rep .v G ws) (packM m) := { hm2 with lives := hl3 }
    revert S13 hm3
    generalize a2.rep .v G ws = a3
    intro S13 hm3
    (repeat' tb_rel)
    have hal : (allLive m).length ≤ m.lives.length := liveIdx_le _ _
    refine chains_ W (hR.lower (by omega)) (St.sw (by assumption)) hm3 ?_ h0 hs (by simp [packM]; omega) (fun a4 s14 hm4 S14 => ?_)
    · intro p hp
      have hp : (List.replicate (allLive m).length true)[p]? = some true := hp
      have hlt : p < (allLive m).length := by simpa using (List.getElem?_eq_some_iff.mp hp).1
      obtain ⟨q, hq⟩ : ∃ q, (allLive m)[p]? = some q := ⟨_, List.getElem?_eq_getElem hlt⟩
      obtain ⟨k, hk⟩ := hk q (liveIdx_mem (List.mem_of_getElem? hq)).2
      exact ⟨k, by simp [packM, hq, hk]⟩
    · have S14 := S14.sw
      (repeat' tb_rel)
      exact h _ _ hm4 (St.drop1 (St.drop1 (St.drop (by assumption))))
end funs

section funs
variable {w : World} {H₀ : Heap} {o₀ : OsState} {A : Around} {s : Shared} {rs R : List Res} {env : Env}
theorem F96 (P : Params) : makesIn (Kt P) 96 = true ∧ findIn (Kt P) (.ref 96) "__init__" = some (some (.ref 93)) ∧ typeIn (Kt P) (.ref 93) = some (.type "function") ∧ findIn (Kt P) (.ref 96) "__setattr__" = some (some (.builtin "object.__setattr__")) ∧ plainOver (Kt P) 96 = true ∧ takerIn (Kt P) 96 "was_unset" = some none ∧ hasDictIn (Kt P) 96 = true :=
  ⟨by kernel_rfl, by kernel_rfl, by kernel_rfl, by kernel_rfl, by kernel_rfl, by kernel_rfl, by kernel_rfl⟩
theorem newAbs_ {Q : Value → Shared → Prop} (W : Wd w H₀) (hR : Rm A 3) (S : St H₀ o₀ R s)
    (h : ∀ b s', St H₀ o₀ (AbsR b :: R) s' → Q (.ref b) s') : Does w A (call (.ref 96) []) Q s := by
  obtain ⟨f1, f2, f3, f4, f5, f6, f7⟩ := F96 w.params
  refine d_make W S f1 f2 f3 (fun x d s' S' => ?_)
  refine d_enterK (f := 93) (vals := [.ref x, .bool false]) ["self", "was_unset"] [] W hR.under S' (nf_fn (by rfl) (by conv => lhs; whnf) (by conv => lhs; whnf)) (by kernel_rfl!) (binds_K (T := 86) (W.inK S') rfl (by rfl) rfl rfl rfl) rfl (by decide) (by decide +kernel) (fun L s2 S2 hR2 => ?_) (by decide +kernel) rfl rfl rfl
  (repeat' tb_rel)
  refine d_setnew W (by assumption) f4 f5 f6 f7 (by rfl) (by simp) (fun t s3 S3 => ?_)
  (repeat' tb_rel)
  exact ⟨rfl, h _ _ (S3.drop.conv fun p ⟨k1, n, k2⟩ => AbsR_def.mpr ⟨x, _, rfl, k1, rfl, rfl⟩)⟩
theorem least_ {Q : Value → Shared → Prop} (W : Wd w H₀) (hR : Rm A 2) (S : St H₀ o₀ R s) (h : ∀ t s', St H₀ o₀ R s' → Q (.int (-2 ^ 63) t) s') : Does w A (call (.ref 49) []) Q s := by
  refine d_fun (f := 49) [] [] W hR S (nf_fn (by rfl) (by conv => lhs; whnf) (by conv => lhs; whnf)) (by kernel_rfl!) (by kernel_rfl!) rfl (by decide) (by decide +kernel) (by decide +kernel) rfl rfl rfl ?_
  intro L s' S A' hR
  (repeat' tb_rel)
  exact h _ _ (St.drop (by assumption))
theorem greatest_ {Q : Value → Shared → Prop} (W : Wd w H₀) (hR : Rm A 2) (S : St H₀ o₀ R s) (h : ∀ t s', St H₀ o₀ R s' → Q (.int (2 ^ 63 - 1) t) s') : Does w A (call (.ref 56) []) Q s := by
  refine d_fun (f := 56) [] [] W hR S (nf_fn (by rfl) (by conv => lhs; whnf) (by conv => lhs; whnf)) (by kernel_rfl!) (by kernel_rfl!) rfl (by decide) (by decide +kernel) (by decide +kernel) rfl rfl rfl ?_
  intro L s' S A' hR
  (repeat' tb_rel)
  exact h _ _ (St.drop (by assumption))
theorem F188 (P : Params) : makesIn (Kt P) 188 = true ∧ findIn (Kt P) (.ref 188) "__init__" = some (some (.ref 129)) ∧ typeIn (Kt P) (.ref 129) = some (.type "function") :=
  ⟨by kernel_rfl, by kernel_rfl, by kernel_rfl⟩
noncomputable def newM (n : Int) : Pm := { pk := true, keys := [], lives := [], heads := [], nexts := [], size := n, count := 0, next := -2 ^ 63 }
theorem newArr_ {n : Int} {t : Tok} {Q : Value → Shared → Prop} (W : Wd w H₀) (hR : Rm A 5) (S : St H₀ o₀ R s)
    (h : ∀ x a s', Arp a (newM n) → St H₀ o₀ (ArrR w.params x a :: R) s' → Q (.ref x) s') : Does w A (call (.ref 188) [.int n t]) Q s := by
  obtain ⟨f1, f2, f3⟩ := F188 w.params
  have g := f188g w.params
  refine d_make W S f1 f2 f3 (fun x d s' S' => ?_)
  refine d_enterK (f := 129) (vals := [.ref x, .int n t]) ["self", "size"] [] W hR.under S' (nf_fn (by rfl) (by conv => lhs; whnf) (by conv => lhs; whnf)) (by kernel_rfl!) (binds_K (T := 122) (W.inK S') rfl (by rfl) rfl rfl rfl) rfl (by decide) (by decide +kernel) (fun L s2 S2 hR2 => ?_) (by decide +kernel) rfl rfl rfl
  (repeat' tb_rel)
  refine d_setnew W (by assumption) (f188s _) (f188p _) (g _ (by simp)).2.2 (f188h _) (by rfl) (by simp) (fun t0 s3 S3 => ?_)
  (repeat' tb_rel)
  refine d_setnew W (St.sw12 (by assumption)) (f188s _) (f188p _) (g _ (by simp)).2.2 (f188h _) (by rfl) (Nat.le_of_ble_eq_true (by kernel_rfl!)) (fun t1 s3 S3 => ?_)
  (repeat' tb_rel)
  refine d_setnew W (St.sw12 (by assumption)) (f188s _) (f188p _) (g _ (by simp)).2.2 (f188h _) (by rfl) (Nat.le_of_ble_eq_true (by kernel_rfl!)) (fun t2 s3 S3 => ?_)
  (repeat' tb_rel)
  refine d_setnew W (St.sw12 (by assumption)) (f188s _) (f188p _) (g _ (by simp)).2.2 (f188h _) (by rfl) (Nat.le_of_ble_eq_true (by kernel_rfl!)) (fun t3 s3 S3 => ?_)
  (repeat' tb_rel)
  refine d_setnew W (St.sw12 (by assumption)) (f188s _) (f188p _) (g _ (by simp)).2.2 (f188h _) (by rfl) (Nat.le_of_ble_eq_true (by kernel_rfl!)) (fun t4 s3 S3 => ?_)
  (repeat' tb_rel)
  refine d_setnew W (by assumption) (f188s _) (f188p _) (g _ (by simp)).2.2 (f188h _) (by rfl) (Nat.le_of_ble_eq_true (by kernel_rfl!)) (fun t5 s3 S3 => ?_)
  (repeat' tb_rel)
  refine d_setnew W (by assumption) (f188s _) (f188p _) (g _ (by simp)).2.2 (f188h _) (by rfl) (Nat.le_of_ble_eq_true (by kernel_rfl!)) (fun t6 s3 S3 => ?_)
  (repeat' tb_rel)
  refine least_ W (hR2.lower (by omega)) (by assumption) (fun t12 s4 S4 => ?_)
  (repeat' tb_rel)
  refine d_setnew W (by assumption) (f188s _) (f188p _) (g _ (by simp)).2.2 (f188h _) (by rfl) (Nat.le_of_ble_eq_true (by kernel_rfl!)) (fun t7 s3 S3 => ?_)
  (repeat' tb_rel)
  refine d_setnew W (by assumption) (f188s _) (f188p _) (g _ (by simp)).2.2 (f188h _) (by rfl) (Nat.le_of_ble_eq_true (by kernel_rfl!)) (fun t8 s3 S3 => ?_)
  (repeat' tb_rel)
  refine d_setnew W (by assumption) (f188s _) (f188p _) (g _ (by simp)).2.2 (f188h _) (by rfl) (Nat.le_of_ble_eq_true (by kernel_rfl!)) (fun t9 s3 S3 => ?_)
  (repeat' tb_rel)
  refine d_setnew W (St.sw12 (by assumption)) (f188s _) (f188p _) (g _ (by simp)).2.2 (f188h _) (by rfl) (Nat.le_of_ble_eq_true (by kernel_rfl!)) (fun t10 s3 S3 => ?_)
  (repeat' tb_rel)
  have S5 := S3.drop
  refine ⟨rfl, h x { d := d, kl := _, vl := _, hl := _, nl := _, wl := _, pk := true, sz := n, ct := 0, nx := -2 ^ 63, at_ := 0, sh := false, zt := t, ctt := _, nxt := t12, att := _, ks := [], vs := [], hs := [], ns := [] } s3 ?_
    (St.arrMake (tk := fun i => match i with | 0 => t0 | 1 => t1 | 2 => t2 | 3 => t3 | 4 => t4 | 5 => t5 | 6 => t6 | 7 => t7 | 8 => t8 | 9 => t9 | _ => t10) S5 rfl)⟩
  exact ⟨rfl, rfl, rfl, rfl, rfl, rfl, rfl, rfl⟩
end funs

section funs
variable {w : World} {H₀ : Heap} {o₀ : OsState} {A : Around} {s : Shared} {rs R : List Res} {env : Env}
noncomputable def numKeys (n : Nat) : List (Option Key) := (List.range n).map fun i => some (.int (i : Nat))
noncomputable def toHashM (m : Pm) : Pm := rehashM { m with keys := numKeys m.lives.length, pk := false }
theorem KVs.nums {vs : List Value} {n : Nat} (hl : vs.length = n) (h : ∀ (i : Nat) v, vs[i]? = some v → ∃ t, v = .int (i : Int) t) : KVs vs (numKeys n) := by
  unfold KVs numKeys
  apply List.ext_getElem?
  intro i
  rw [List.map_map, List.getElem?_map, List.getElem?_map]
  by_cases hi : i < n
  · have e : vs[i]? = some vs[i] := List.getElem?_eq_getElem (by omega)
    obtain ⟨t, ht⟩ := h i _ e
    rw [e, List.getElem?_range hi, ht]; rfl
  · rw [List.getElem?_eq_none (by omega), List.getElem?_eq_none (by simpa using hi)]; rfl
theorem numKeys_at {n p : Nat} (h : p < n) : (numKeys n)[p]? = some (some (.int p)) := by
  unfold numKeys
  rw [List.getElem?_map, List.getElem?_range h]; rfl
theorem to_hash_ {x : Addr} {a : Ad} {m : Pm} {Q : Value → Shared → Prop} (W : Wd w H₀) (hR : Rm A 9) (S : St H₀ o₀ (ArrR w.params x a :: R) s) (hm : Arp a m)
    (h0 : 0 < m.size) (hs : m.size < 2 ^ 20) (hz : m.lives.length < 2 ^ 20)
    (h : ∀ a' s', Arp a' (toHashM m) → St H₀ o₀ (ArrR w.params x a' :: R) s' → Q .none s') : Does w A (call (.ref 251) [.ref x]) Q s := by
  have hvl := hm.vlen
  refine d_fun (f := 251) ["arr"] [] W hR S (nf_fn (by rfl) (by conv => lhs; whnf) (by conv => lhs; whnf)) (by kernel_rfl!) (by kernel_rfl!) rfl (by decide) (by decide +kernel) (by decide +kernel) rfl rfl rfl ?_
  intro L s' S A' hR
  (repeat' tb_rel)
  refine d_range1 (by assumption) (fun r t3 t4 t5 s3 hr S3 => ?_)
  (repeat' tb_rel)
  refine d_listRange hR.h (by assumption) hr (by omega) (fun l vs s4 hvs1 hvs2 S4 => ?_)
  (repeat' tb_rel)
  refine d_setkeys W hm (by assumption) (fun q k => LsR_def.mp k) (by have := KVs.nums hvs1 hvs2; rw [hvl] at this; exact this) (fun a1 s5 hm1 S5 => ?_)
  (repeat' tb_rel)
  refine d_setpk W hm1 (by assumption) (fun a2 s8 hm2 S8 => ?_)
  (repeat' tb_rel)
  refine rehash_ W (hR.lower (by omega)) (St.sw (by assumption)) hm2 (fun p hp => ⟨_, numKeys_at (List.getElem?_eq_some_iff.mp hp).1⟩) h0 hs hz (fun a3 s9 hm3 S9 => ?_)
  have S9 := S9.sw
  (repeat' tb_rel)
  exact h _ _ hm3 (St.drop (by assumption))
abbrev grows (m : Pm) (i : Int) : Prop := m.size ≤ i ∧ i / 2 < m.size ∧ m.size / 2 < m.count
noncomputable def takesM (m : Pm) : Key → Pm × Bool
  | .str _ => (m, false)
  | .int i => if i < m.lives.length then (m, false) else if grows m i then ({ m with size := m.size * 2 }, decide (i < m.size * 2)) else (m, decide (i < m.size))
theorem takes_packed_ {x : Addr} {a : Ad} {m : Pm} {v : Value} {k : Key} {Q : Value → Shared → Prop} (W : Wd w H₀) (hR : Rm A 3) (S : St H₀ o₀ (ArrR w.params x a :: R) s) (hm : Arp a m) (hk : KV v k)
    (hs : m.size < 2 ^ 20) (hz : m.lives.length < 2 ^ 20)
    (h : ∀ a' s', Arp a' (takesM m k).1 → St H₀ o₀ (ArrR w.params x a' :: R) s' → Q (.bool (takesM m k).2) s') : Does w A (call (.ref 258) [.ref x, v]) Q s := by
  have hvl := hm.vlen
  have hsz := hm.size
  have hct := hm.count
  refine d_fun (f := 258) ["arr", "key"] [] W hR S (nf_fn (by rfl) (by conv => lhs; whnf) (by conv => lhs; whnf)) (by kernel_rfl!) (by kernel_rfl!) rfl (by decide) (by decide +kernel) (by decide +kernel) rfl rfl rfl ?_
  intro L s' S A' hR
  cases k with
  | str y =>
    obtain ⟨t, rfl⟩ := hk.str
    (repeat' tb_rel)
    exact h _ _ hm (St.drop (by assumption))
  | int i =>
    obtain ⟨t, rfl⟩ := hk.int
    (repeat' tb_rel)
    have hT : takesM m (.int i) = if i < m.lives.length then (m, false) else if grows m i then ({ m with size := m.size * 2 }, decide (i < m.size * 2)) else (m, decide (i < m.size)) := rfl
    rw [hT] at h
    refine split_dec (fun h1 => ?_) (fun h1 => ?_)
    · (repeat' tb_rel)
      rw [if_pos (by rw [← hvl]; exact h1)] at h
      exact h _ _ hm (St.drop (by assumption))
    · (repeat' tb_rel)
      rw [if_neg (by rw [← hvl]; exact h1)] at h
      have fin : ¬ grows m i → ∀ s2, St H₀ o₀ (ArrR w.params x a :: R) s2 → Q (.bool (decide (i < a.sz))) s2 := by
        intro hg s2 S2
        rw [if_neg hg] at h
        rw [hsz]
        exact h _ _ hm S2
      have e1 : (2 : Int) ^ (1 : Int).toNat = 2 := rfl
      refine split_dec (fun h2 => ?_) (fun h2 => ?_)
      · (repeat' tb_rel)
        refine split_dec (fun h3 => ?_) (fun h3 => ?_)
        · (repeat' tb_rel)
          refine split_dec (fun h4 => ?_) (fun h4 => ?_)
          · (repeat' tb_rel)
            have hg : grows m i := by
              rw [e1] at h3 h4
              rw [hsz] at h2 h3 h4; rw [hct] at h4
              exact ⟨by omega, h3, h4⟩
            rw [if_pos hg] at h
            refine d_setsize W hm (by assumption) (fun a2 s8 hm1 S8 => ?_)
            (repeat' tb_rel)
            have e : a2.sz = m.size * 2 := by rw [← hsz]; exact hm1.size
            rw [e]
            exact h _ _ { hm1 with size := e } (St.drop (by assumption))
          · (repeat' tb_rel)
            exact fin (fun hg => h4 (by rw [e1, hsz, hct]; exact hg.2.2)) _ (St.drop (by assumption))
        · (repeat' tb_rel)
          exact fin (fun hg => h3 (by rw [e1, hsz]; exact hg.2.1)) _ (St.drop (by assumption))
      · (repeat' tb_rel)
        exact fin (fun hg => h2 (by rw [hsz]; exact hg.1)) _ (St.drop (by assumption))
end funs

section funs
variable {w : World} {H₀ : Heap} {o₀ : OsState} {A : Around} {s : Shared} {rs R : List Res} {env : Env}
noncomputable def addPackedM (m : Pm) (i : Int) : Pm := { m with lives := m.lives ++ List.replicate (i - m.lives.length).toNat false ++ [true] }
theorem add_packed_ {x : Addr} {a : Ad} {m : Pm} {i j : Int} {t u : Tok} {Q : Value → Shared → Prop} (W : Wd w H₀) (hR : Rm A 5) (S : St H₀ o₀ (ArrR w.params x a :: R) s) (hm : Arp a m)
    (hz : m.lives.length < 2 ^ 20) (hi : i < 2 ^ 20)
    (h : ∀ a' s', Arp a' (addPackedM m i) → St H₀ o₀ (ArrR w.params x a' :: R) s' → Q .none s') : Does w A (call (.ref 265) [.ref x, .int i t, .int j u]) Q s := by
  refine d_fun (f := 265) ["arr", "key", "slot"] [] W hR S (nf_fn (by rfl) (by conv => lhs; whnf) (by conv => lhs; whnf)) (by kernel_rfl!) (by kernel_rfl!) rfl (by decide) (by decide +kernel) (by decide +kernel) rfl rfl rfl ?_
  intro L s' S A' hR
  (repeat' tb_rel)
  refine d_while hR.h (fun n s => ∃ a1 k, n + k = (i - m.lives.length).toNat ∧ Arp a1 { m with lives := m.lives ++ List.replicate k false } ∧ St H₀ o₀ (FrR H₀ L ["arr", "key", "slot"]
    [some (.ref x), some (.int i t), some (.int j u)] :: ArrR w.params x a1 :: R) s) (i - m.lives.length).toNat ⟨a, 0, rfl, by simpa using hm, by assumption⟩ ?_
  rintro n s2 ⟨a1, k, hn, hm1, S2⟩
  have hvl : a1.vs.length = m.lives.length + k := by rw [hm1.vlen]; simp
  have hsl : sizeLine = 2 ^ 24 := rfl
  (repeat' tb_rel)
  refine split_dec (fun hlt => ?_) (fun hge => ?_)
  · (repeat' tb_rel)
    refine newAbs_ W (hR.lower (by omega)) (by assumption) (fun b s3 S3 => ?_)
    refine d_addvalAbs hm1 S3.sw.sw12 (by simp; omega) (fun a2 s4 hm2 S4 => ?_)
    (repeat' tb_rel)
    refine ⟨n - 1, by omega, a2, k + 1, by omega, ?_, by assumption⟩
    rw [List.replicate_succ', ← List.append_assoc]
    exact hm2
  · (repeat' tb_rel)
    refine d_addval hm1 (by assumption) (by simp; omega) (fun a2 s4 hm2 S4 => ?_)
    (repeat' tb_rel)
    have hk : k = (i - m.lives.length).toNat := by omega
    subst hk
    exact h _ _ hm2 (St.drop (by assumption))
noncomputable def addHashedM (m : Pm) (k : Key) : Pm :=
  let m1 := if m.size ≤ m.lives.length then (if m.count + m.count / 32 < m.lives.length then rehashM m else chainsM { m with size := m.size * 2 }) else m
  linkM { m1 with keys := m1.keys ++ [some k], lives := m1.lives ++ [true], nexts := m1.nexts ++ [-1] } m1.lives.length k
structure HashOk (m : Pm) : Prop where
  klen : m.keys.length = m.lives.length
  nlen : m.nexts.length = m.lives.length
  hlen : m.heads.length = m.size.toNat
  keys : ∀ p : Nat, m.lives[p]? = some true → ∃ k, m.keys[p]? = some (some k)
  pos : 0 < m.size
  big : m.size < 2 ^ 18
  zbig : m.lives.length < 2 ^ 18
theorem chainsM_ok {m : Pm} (hk : m.keys.length = m.lives.length) (h : ∀ p : Nat, m.lives[p]? = some true → ∃ k, m.keys[p]? = some (some k)) (h0 : 0 < m.size) (hs : m.size < 2 ^ 18) (hz : m.lives.length < 2 ^ 18) : HashOk (chainsM m) := by
  have := chainsTo_same m m.lives.length
  obtain ⟨h1, h2, h3, h4, h5, h6, h7, h8⟩ := this
  exact ⟨by rw [chainsM, h2, h3, hk], by rw [chainsM, h5, h3], by rw [chainsM, h4, h6], by rw [chainsM, h2, h3]; exact h, by rw [chainsM, h6]; exact h0, by rw [chainsM, h6]; exact hs, by rw [chainsM, h3]; exact hz⟩
theorem packM_keys {m : Pm} (h : ∀ p : Nat, m.lives[p]? = some true → ∃ k, m.keys[p]? = some (some k)) : ∀ p : Nat, (packM m).lives[p]? = some true → ∃ k, (packM m).keys[p]? = some (some k) := by
  intro p hp
  have hp : (List.replicate (allLive m).length true)[p]? = some true := hp
  have hlt : p < (allLive m).length := by simpa using (List.getElem?_eq_some_iff.mp hp).1
  obtain ⟨q, hq⟩ : ∃ q, (allLive m)[p]? = some q := ⟨_, List.getElem?_eq_getElem hlt⟩
  obtain ⟨k, hk⟩ := h q (liveIdx_mem (List.mem_of_getElem? hq)).2
  exact ⟨k, by simp [packM, hq, hk]⟩
theorem rehashM_ok {m : Pm} (h : ∀ p : Nat, m.lives[p]? = some true → ∃ k, m.keys[p]? = some (some k)) (h0 : 0 < m.size) (hs : m.size < 2 ^ 18) (hz : m.lives.length < 2 ^ 18) : HashOk (rehashM m) :=
  chainsM_ok (by simp [packM]) (packM_keys h) h0 hs (by have : (allLive m).length ≤ m.lives.length := liveIdx_le _ _; simp [packM]; omega)
theorem add_hashed_ {x : Addr} {a : Ad} {m : Pm} {v : Value} {k : Key} {j : Int} {u : Tok} {Q : Value → Shared → Prop} (W : Wd w H₀) (hR : Rm A 9) (S : St H₀ o₀ (ArrR w.params x a :: R) s) (hm : Arp a m) (hk : KV v k)
    (H : HashOk m) (hs : m.size < 2 ^ 17)
    (h : ∀ a' s', Arp a' (addHashedM m k) → St H₀ o₀ (ArrR w.params x a' :: R) s' → Q .none s') : Does w A (call (.ref 272) [.ref x, v, .int j u]) Q s := by
  have hvl := hm.vlen
  have hsz := hm.size
  have hct := hm.count
  have hzb := H.zbig
  have hbg := H.big
  refine d_fun (f := 272) ["arr", "key", "slot"] ["used"] W hR S (nf_fn (by rfl) (by conv => lhs; whnf) (by conv => lhs; whnf)) (by kernel_rfl!) (by kernel_rfl!) rfl (by decide) (by decide +kernel) (by decide +kernel) rfl rfl rfl ?_
  intro L s' S A' hR
  refine d_cut 2 (fun s1 => ∃ a1 m1 lv, Arp a1 m1 ∧ HashOk m1 ∧ addHashedM m k = linkM { m1 with keys := m1.keys ++ [some k], lives := m1.lives ++ [true], nexts := m1.nexts ++ [-1] } m1.lives.length k ∧
    St H₀ o₀ (FrR H₀ L ["arr", "key", "slot", "used"] [some (.ref x), some v, some (.int j u), lv] :: ArrR w.params x a1 :: R) s1) ?_ ?_
  · dsimp only [List.take]
    (repeat' tb_rel)
    refine split_dec (fun h1 => ?_) (fun h1 => ?_)
    · (repeat' tb_rel)
      have e5 : (2 : Int) ^ (5 : Int).toNat = 32 := rfl
      rw [e5]
      refine split_dec (fun h2 => ?_) (fun h2 => ?_)
      · (repeat' tb_rel)
        refine rehash_ W (hR.lower (by omega)) (St.sw (by assumption)) hm H.keys H.pos (by omega) (by omega) (fun a1 s2 hm1 S2 => ?_)
        have S2 := S2.sw
        (repeat' tb_rel)
        refine ⟨rfl, a1, rehashM m, _, hm1, rehashM_ok H.keys H.pos H.big H.zbig, ?_, by assumption⟩
        have c1 : m.size ≤ m.lives.length := by rw [← hsz, ← hvl]; exact h1
        have c2 : m.count + m.count / 32 < m.lives.length := by rw [← hct, ← hvl]; exact h2
        unfold addHashedM
        rw [if_pos c1, if_pos c2]
      · (repeat' tb_rel)
        refine d_setsize W hm (by assumption) (fun a2 s8 hm1 S8 => ?_)
        (repeat' tb_rel)
        have hm1 : Arp a2 { m with size := m.size * 2 } := { hm1 with size := by rw [← hsz]; exact hm1.size }
        refine chains_ W (hR.lower (by omega)) (St.sw (by assumption)) hm1 H.keys (by have := H.pos; show 0 < m.size * 2; omega) (by show m.size * 2 < _; omega) (by show m.lives.length < _; omega) (fun a1 s2 hm2 S2 => ?_)
        have S2 := S2.sw
        (repeat' tb_rel)
        refine ⟨rfl, a1, chainsM { m with size := m.size * 2 }, _, hm2, chainsM_ok H.klen H.keys (by have := H.pos; show 0 < m.size * 2; omega) (by show m.size * 2 < _; omega) (by show m.lives.length < _; omega), ?_, by assumption⟩
        have c1 : m.size ≤ m.lives.length := by rw [← hsz, ← hvl]; exact h1
        have c2 : ¬ m.count + m.count / 32 < m.lives.length := by rw [← hct, ← hvl]; exact h2
        unfold addHashedM
        rw [if_pos c1, if_neg c2]
    · (repeat' tb_rel)
      refine ⟨rfl, a, m, _, hm, H, ?_, by assumption⟩
      have c1 : ¬ m.size ≤ m.lives.length := by rw [← hsz, ← hvl]; exact h1
      unfold addHashedM
      rw [if_neg c1]
  · dsimp only [List.drop]
    rintro s1 ⟨a1, m1, lv, hm1, H1, e, S1⟩
    rw [e] at h
    have hb1 := H1.zbig
    have hb2 := H1.big
    have hb3 := H1.pos
    have hb4 := H1.klen
    have hb5 := H1.nlen
    have hsl : sizeLine = 2 ^ 24 := rfl
    (repeat' tb_rel)
    refine d_addkey hm1 (by assumption) hk (by omega) (fun a2 s2 hm2 S2 => ?_)
    (repeat' tb_rel)
    refine d_addval hm2 (by assumption) (by show m1.lives.length ≤ _; omega) (fun a3 s3 hm3 S3 => ?_)
    (repeat' tb_rel)
    refine d_addnext hm3 (by assumption) (by show m1.nexts.length ≤ _; omega) (fun a4 s4 hm4 S4 => ?_)
    have hvl4 : a4.vs.length = m1.lives.length + 1 := by rw [hm4.vlen]; simp
    (repeat' tb_rel)
    rw [show (a4.vs.length : Int) - 1 = (m1.lives.length : Nat) by omega]
    refine link_ W (hR.lower (by omega)) (St.sw (by assumption)) hm4 (k := k) (by rw [← hb4]; simp) hb3 (by show m1.size < _; omega) (by show m1.heads.length = _; exact H1.hlen) (by simp; omega) (by simp; omega) (fun a5 s5 hm5 S5 => ?_)
    have S5 := S5.sw
    (repeat' tb_rel)
    exact h _ _ hm5 (St.drop (by assumption))
end funs

section funs
variable {w : World} {H₀ : Heap} {o₀ : OsState} {A : Around} {s : Shared} {rs R : List Res} {env : Env}
noncomputable def addA (m : Pm) (k : Key) : Pm :=
  if m.pk then (if (takesM m k).2 then (takesM m k).1 else toHashM (if (takesM m k).1.size ≤ m.lives.length then { (takesM m k).1 with size := (takesM m k).1.size * 2 } else (takesM m k).1)) else m
noncomputable def addB (m : Pm) (k : Key) : Pm := if m.pk then (match k with | .int i => addPackedM m i | .str _ => m) else addHashedM m k
noncomputable def addC (m : Pm) (k : Key) : Pm := match k with
  | .int i => if m.next ≤ i then { m with next := min (i + 1) (2 ^ 63 - 1) } else m
  | .str _ => m
noncomputable def addM (m : Pm) (k : Key) : Pm := addC { addB (addA m k) k with count := (addB (addA m k) k).count + 1 } k
structure ArrOk (m : Pm) : Prop where
  pos : 0 < m.size
  big : m.size < 2 ^ 15
  zbig : m.lives.length < 2 ^ 15
  hash : m.pk = false → HashOk m
theorem takesM_int (m : Pm) (i : Int) : takesM m (.int i) = if i < m.lives.length then (m, false) else if grows m i then ({ m with size := m.size * 2 }, decide (i < m.size * 2)) else (m, decide (i < m.size)) := rfl
theorem takesM_same (m : Pm) (k : Key) : (takesM m k).1 = m ∨ (takesM m k).1 = { m with size := m.size * 2 } := by
  cases k with
  | str _ => exact .inl rfl
  | int i =>
    rw [takesM_int]
    split
    · exact .inl rfl
    · split
      · exact .inr rfl
      · exact .inl rfl
theorem toHashM_ok {m : Pm} (h0 : 0 < m.size) (hs : m.size < 2 ^ 18) (hz : m.lives.length < 2 ^ 18) : HashOk (toHashM m) :=
  rehashM_ok (m := { m with keys := numKeys m.lives.length, pk := false }) (fun p hp => ⟨_, numKeys_at (List.getElem?_eq_some_iff.mp hp).1⟩) h0 hs hz
theorem toHashM_pk (m : Pm) : (toHashM m).pk = false := by unfold toHashM rehashM chainsM; exact (chainsTo_same _ _).pk
theorem toHashM_size (m : Pm) : (toHashM m).size = m.size := by unfold toHashM rehashM chainsM; exact (chainsTo_same _ _).size
theorem rehash_lives_le (m : Pm) : (rehashM m).lives.length ≤ m.lives.length := by
  have : (rehashM m).lives = (packM m).lives := (chainsTo_same _ _).lives
  rw [this]
  simp only [packM, List.length_replicate]
  exact liveIdx_le _ _
theorem addA_ok {m : Pm} (k : Key) (H : ArrOk m) : (addA m k).lives.length ≤ m.lives.length ∧ ((addA m k).pk = true → (takesM m k).2 = true ∧ addA m k = (takesM m k).1) ∧ ((addA m k).pk = false → HashOk (addA m k) ∧ (addA m k).size < 2 ^ 17) := by
  have hb1 := H.pos
  have hb2 := H.big
  have hb3 := H.zbig
  cases hp : m.pk
  · have e : addA m k = m := by unfold addA; rw [hp]; rfl
    rw [e, hp]
    exact ⟨Nat.le_refl _, by simp, fun _ => ⟨H.hash hp, by omega⟩⟩
  · have hT : (takesM m k).1.lives = m.lives ∧ (takesM m k).1.size ≤ m.size * 2 ∧ 0 < (takesM m k).1.size ∧ (takesM m k).1.pk = m.pk := by rcases takesM_same m k with e | e <;> rw [e] <;> simp <;> omega
    obtain ⟨hT1, hT2, hT3, hT4⟩ := hT
    cases hb : (takesM m k).2
    · have e : addA m k = toHashM (if (takesM m k).1.size ≤ m.lives.length then { (takesM m k).1 with size := (takesM m k).1.size * 2 } else (takesM m k).1) := by unfold addA; rw [hp, hb]; rfl
      rw [e]
      have hB : ∀ m2 : Pm, m2 = (if (takesM m k).1.size ≤ m.lives.length then { (takesM m k).1 with size := (takesM m k).1.size * 2 } else (takesM m k).1) → 0 < m2.size ∧ m2.size ≤ m.size * 4 ∧ m2.lives = m.lives := by
        rintro m2 rfl
        split
        · exact ⟨by show 0 < _ * 2; omega, by show _ * 2 ≤ _; omega, hT1⟩
        · exact ⟨hT3, by omega, hT1⟩
      generalize hm2e : (if (takesM m k).1.size ≤ m.lives.length then { (takesM m k).1 with size := (takesM m k).1.size * 2 } else (takesM m k).1) = m2
      obtain ⟨c1, c2, c3⟩ := hB m2 hm2e.symm
      refine ⟨?_, fun h => ?_, fun _ => ⟨toHashM_ok c1 (by omega) (by rw [c3]; omega), by rw [toHashM_size]; omega⟩⟩
      · have := rehash_lives_le { m2 with keys := numKeys m2.lives.length, pk := false }
        unfold toHashM
        rw [← c3]
        exact this
      · rw [toHashM_pk] at h; cases h
    · have e : addA m k = (takesM m k).1 := by unfold addA; rw [hp, hb]; rfl
      rw [e, hT4, hT1, hp]
      exact ⟨Nat.le_refl _, fun _ => ⟨rfl, rfl⟩, by simp⟩
set_option maxHeartbeats 1000000 in
theorem add_ {x : Addr} {a : Ad} {m : Pm} {v : Value} {k : Key} {j : Int} {u : Tok} {Q : Value → Shared → Prop} (W : Wd w H₀) (hR : Rm A 11) (S : St H₀ o₀ (ArrR w.params x a :: R) s) (hm : Arp a m) (hk : KV v k)
    (H : ArrOk m) (h : ∀ a' s', Arp a' (addM m k) → St H₀ o₀ (ArrR w.params x a' :: R) s' → Q .none s') : Does w A (call (.ref 279) [.ref x, v, .int j u]) Q s := by
  have hb1 := H.pos
  have hb2 := H.big
  have hb3 := H.zbig
  refine d_fun (f := 279) ["arr", "key", "slot"] [] W hR S (nf_fn (by rfl) (by conv => lhs; whnf) (by conv => lhs; whnf)) (by kernel_rfl!) (by kernel_rfl!) rfl (by decide) (by decide +kernel) (by decide +kernel) rfl rfl rfl ?_
  intro L s' S A' hR
  refine d_cut 1 (fun s1 => ∃ a1, Arp a1 (addA m k) ∧ St H₀ o₀ (FrR H₀ L ["arr", "key", "slot"] [some (.ref x), some v, some (.int j u)] :: ArrR w.params x a1 :: R) s1) ?_ ?_
  · dsimp only [List.take]
    have hpk := hm.pk
    (repeat' tb_rel)
    cases hp : m.pk
    · rw [hp] at hpk
      rw [hpk]
      (repeat' tb_rel)
      refine ⟨rfl, a, ?_, by assumption⟩
      unfold addA; rw [hp]; exact hm
    · rw [hp] at hpk
      rw [hpk]
      (repeat' tb_rel)
      refine takes_packed_ W (hR.lower (by omega)) (St.sw (by assumption)) hm hk (by omega) (by omega) (fun a1 s2 hm1 S2 => ?_)
      have S2 := S2.sw
      have hT : (takesM m k).1.lives = m.lives ∧ (takesM m k).1.size ≤ m.size * 2 ∧ 0 < (takesM m k).1.size := by rcases takesM_same m k with e | e <;> rw [e] <;> simp <;> omega
      obtain ⟨hT1, hT2, hT3⟩ := hT
      have hA : addA m k = (if (takesM m k).2 then (takesM m k).1 else toHashM (if (takesM m k).1.size ≤ m.lives.length then { (takesM m k).1 with size := (takesM m k).1.size * 2 } else (takesM m k).1)) := by unfold addA; rw [hp]; rfl
      cases hb : (takesM m k).2
      · rw [hb] at hA
        have hvl1 : a1.vs.length = m.lives.length := by rw [hm1.vlen, hT1]
        have hsz1 := hm1.size
        (repeat' ((fail_if_success (with_reducible refine g_execs ?_)); tb_rel))
        refine d_cut 1 (fun s1 => ∃ a2, Arp a2 (if (takesM m k).1.size ≤ m.lives.length then { (takesM m k).1 with size := (takesM m k).1.size * 2 } else (takesM m k).1) ∧ St H₀ o₀ (FrR H₀ L ["arr", "key", "slot"] [some (.ref x), some v, some (.int j u)] :: ArrR w.params x a2 :: R) s1) ?_ ?_
        · dsimp only [List.take]
          (repeat' tb_rel)
          refine split_dec (fun h1 => ?_) (fun h1 => ?_)
          · (repeat' tb_rel)
            refine d_setsize W hm1 (by assumption) (fun a2 s8 hm2 S8 => ?_)
            (repeat' tb_rel)
            refine ⟨rfl, a2, ?_, by assumption⟩
            rw [if_pos (by rw [← hsz1, ← hvl1]; exact h1)]
            exact { hm2 with size := by rw [← hsz1]; exact hm2.size }
          · (repeat' tb_rel)
            refine ⟨rfl, a1, ?_, by assumption⟩
            rw [if_neg (by rw [← hsz1, ← hvl1]; exact h1)]
            exact hm1
        · dsimp only [List.drop]
          rintro s3 ⟨a2, hm2, S3⟩
          have hB : ∀ m2 : Pm, m2 = (if (takesM m k).1.size ≤ m.lives.length then { (takesM m k).1 with size := (takesM m k).1.size * 2 } else (takesM m k).1) → 0 < m2.size ∧ m2.size ≤ m.size * 4 ∧ m2.lives = m.lives := by
            rintro m2 rfl
            split
            · exact ⟨by show 0 < _ * 2; omega, by show _ * 2 ≤ _; omega, hT1⟩
            · exact ⟨hT3, by omega, hT1⟩
          have hA2 : addA m k = toHashM (if (takesM m k).1.size ≤ m.lives.length then { (takesM m k).1 with size := (takesM m k).1.size * 2 } else (takesM m k).1) := hA
          generalize hm2e : (if (takesM m k).1.size ≤ m.lives.length then { (takesM m k).1 with size := (takesM m k).1.size * 2 } else (takesM m k).1) = m2 at hm2 hA2
          obtain ⟨c1, c2, c3⟩ := hB m2 hm2e.symm
          (repeat' tb_rel)
          refine to_hash_ W (hR.lower (by omega)) (St.sw (by assumption)) hm2 c1 (by omega) (by rw [c3]; omega) (fun a3 s4 hm3 S4 => ?_)
          have S4 := S4.sw
          (repeat' tb_rel)
          exact ⟨rfl, a3, by rw [hA2]; exact hm3, by assumption⟩
      · rw [hb] at hA
        (repeat' tb_rel)
        exact ⟨rfl, a1, by rw [hA]; exact hm1, by assumption⟩
  · dsimp only [List.drop]
    rintro s1 ⟨a1, hm1, S1⟩
    have hA := addA_ok k H
    obtain ⟨hA1, hA2, hA3⟩ := hA
    refine d_cut 1 (fun s1 => ∃ a2, Arp a2 (addB (addA m k) k) ∧ St H₀ o₀ (FrR H₀ L ["arr", "key", "slot"] [some (.ref x), some v, some (.int j u)] :: ArrR w.params x a2 :: R) s1) ?_ ?_
    · dsimp only [List.take]
      have hpk := hm1.pk
      (repeat' tb_rel)
      cases hp : (addA m k).pk
      · rw [hp] at hpk
        rw [hpk]
        obtain ⟨H2, H3⟩ := hA3 hp
        (repeat' tb_rel)
        refine add_hashed_ W (hR.lower (by omega)) (St.sw (by assumption)) hm1 hk H2 H3 (fun a2 s2 hm2 S2 => ?_)
        have S2 := S2.sw
        (repeat' tb_rel)
        refine ⟨rfl, a2, ?_, by assumption⟩
        unfold addB; rw [hp]; exact hm2
      · rw [hp] at hpk
        rw [hpk]
        obtain ⟨H2, H3⟩ := hA2 hp
        cases k with
        | str y => cases H2
        | int i =>
          obtain ⟨t, rfl⟩ := hk.int
          have hi : i < m.size * 2 := by
            rw [takesM_int] at H2
            split at H2
            · cases H2
            · split at H2 <;> have := of_decide_eq_true H2 <;> omega
          (repeat' tb_rel)
          refine add_packed_ W (hR.lower (by omega)) (St.sw (by assumption)) hm1 (by omega) (by omega) (fun a2 s2 hm2 S2 => ?_)
          have S2 := S2.sw
          (repeat' tb_rel)
          refine ⟨rfl, a2, ?_, by assumption⟩
          unfold addB; rw [hp]; exact hm2
    · dsimp only [List.drop]
      rintro s3 ⟨a2, hm2, S3⟩
      have hct := hm2.count
      refine d_cut 1 (fun s1 => ∃ a2, Arp a2 { addB (addA m k) k with count := (addB (addA m k) k).count + 1 } ∧ St H₀ o₀ (FrR H₀ L ["arr", "key", "slot"] [some (.ref x), some v, some (.int j u)] :: ArrR w.params x a2 :: R) s1) ?_ ?_
      · dsimp only [List.take]
        (repeat' tb_rel)
        refine d_setcount W hm2 (by assumption) (fun a2 s8 hm2 S8 => ?_)
        (repeat' tb_rel)
        exact ⟨rfl, a2, { hm2 with count := by rw [← hct]; exact hm2.count }, by assumption⟩
      · dsimp only [List.drop]
        rintro s4 ⟨a3, hm3, S4⟩
        have hM : addM m k = addC { addB (addA m k) k with count := (addB (addA m k) k).count + 1 } k := rfl
        rw [hM] at h
        generalize ({ addB (addA m k) k with count := (addB (addA m k) k).count + 1 } : Pm) = m3 at hm3 h
        have hnx := hm3.next
        cases k with
        | str y =>
          obtain ⟨t, rfl⟩ := hk.str
          (repeat' tb_rel)
          exact h _ _ hm3 (St.drop (by assumption))
        | int i =>
          obtain ⟨t, rfl⟩ := hk.int
          (repeat' tb_rel)
          refine split_dec (fun h1 => ?_) (fun h1 => ?_)
          · (repeat' tb_rel)
            refine greatest_ W (hR.lower (by omega)) (by assumption) (fun t2 s5 S5 => ?_)
            (repeat' tb_rel)
            refine d_setnext W hm3 (by assumption) (fun a4 s8 hm4 S8 => ?_)
            (repeat' tb_rel)
            refine h _ _ ?_ (St.drop (by assumption))
            unfold addC
            dsimp only
            rw [if_pos (by rw [← hnx]; exact h1)]
            exact hm4
          · (repeat' tb_rel)
            refine h _ _ ?_ (St.drop (by assumption))
            unfold addC
            dsimp only
            rw [if_neg (by rw [← hnx]; exact h1)]
            exact hm3
end funs

section funs
variable {w : World} {H₀ : Heap} {o₀ : OsState} {A : Around} {s : Shared} {rs R : List Res} {env : Env}
noncomputable def cutM (m : Pm) (j : Nat) : Pm := { m with lives := m.lives.take j, keys := if m.pk then m.keys else m.keys.take j, nexts := if m.pk then m.nexts else m.nexts.take j }
theorem cutM_full {m : Pm} (h : m.pk = false → m.keys.length = m.lives.length ∧ m.nexts.length = m.lives.length) : cutM m m.lives.length = m := by
  unfold cutM
  cases hp : m.pk
  · obtain ⟨h1, h2⟩ := h hp
    obtain ⟨pk, ks, ls, hs, ns, sz, ct, nx⟩ := m
    simp only at *
    subst hp
    have e1 : ks.take ls.length = ks := by rw [← h1]; exact List.take_length
    have e2 : ns.take ls.length = ns := by rw [← h2]; exact List.take_length
    simp [e1, e2]
  · obtain ⟨pk, ks, ls, hs, ns, sz, ct, nx⟩ := m
    simp only at *
    subst hp
    simp
noncomputable def Trim (m : Pm) (j : Nat) : Prop := j ≤ m.lives.length ∧ (∀ q : Nat, j ≤ q → q < m.lives.length → m.lives[q]? = some false) ∧ (j = 0 ∨ m.lives[j - 1]? = some true)
noncomputable def GoOn (m : Pm) (p : Nat) (m' : Pm) : Prop := (p + 1 ≠ m.lives.length ∧ m' = m) ∨ (p + 1 = m.lives.length ∧ ∃ j, Trim m j ∧ m' = cutM m j)
theorem d_forNone {l : Addr} {x : Str} {px : Pos} {body : List Stmt} {L : Addr} {names : List Str} {lv : List (Option Value)} {Q : Flow → Shared → Prop} (hA : A.handled = none) (S : St H₀ o₀ (FrR H₀ L names lv :: LsR l [] :: R) s)
    (hL : env.locals = L) (hx : ix x names < names.length) (hk : env.scope.kind = .function) (hl : env.kindOf x = some .local)
    (h : ∀ s', St H₀ o₀ (FrR H₀ L names lv :: LsR l [] :: R) s' → Q .next s') : Does w A (pyIter (.ref l)) (fun it s₂ => ForAt w A env (.Name x px) body Q it s₂) s := by
  refine d_iter_list S (LIn.ls (.tail _ (.head _))) (fun I s2 IT S2 => ?_)
  refine d_forL (fun i vs R1 => vs = lv ∧ R1 = LsR l [] :: R) hA IT S2 ⟨rfl, rfl⟩ (fun _ _ _ h => by obtain ⟨_, rfl⟩ := h; exact LIn.ls (.tail _ (.tail _ (.head _)))) hL hx hk hl (fun i v vs R2 s hi => absurd hi (by simp)) ?_
  rintro vs R1 s3 ⟨rfl, rfl⟩ S3
  exact h _ S3
set_option maxHeartbeats 1000000 in
theorem go_on_ {x : Addr} {a : Ad} {m : Pm} {p : Nat} {t : Tok} {Q : Value → Shared → Prop} (W : Wd w H₀) (hR : Rm A 5) (S : St H₀ o₀ (ArrR w.params x a :: R) s) (hm : Arp a m)
    (hz : m.lives.length < 2 ^ 20) (hl : m.pk = false → m.keys.length = m.lives.length ∧ m.nexts.length = m.lives.length)
    (h : ∀ a' m' s', GoOn m p m' → Arp a' m' → St H₀ o₀ (ArrR w.params x a' :: R) s' → Q .none s') : Does w A (call (.ref 286) [.ref x, .int p t]) Q s := by
  have hvl := hm.vlen
  refine d_fun (f := 286) ["arr", "place"] ["behind", "is_last", "used", "number", "there"] W hR S (nf_fn (by rfl) (by conv => lhs; whnf) (by conv => lhs; whnf)) (by kernel_rfl!) (by kernel_rfl!) rfl (by decide) (by decide +kernel) (by decide +kernel) rfl rfl rfl ?_
  intro L s' S A' hR
  (repeat' tb_rel)
  refine next_place_ W (hR.lower (by omega)) (St.sw (by assumption)) hm hz (fun n t1 s1 S1 => ?_)
  have S1 := S1.sw
  (repeat' tb_rel)
  refine does_mono (Q := fun f s' => f = .next ∧ ∃ a2 m2, GoOn m p m2 ∧ Arp a2 m2 ∧ St H₀ o₀ (FrR H₀ L ["arr", "place", "behind", "is_last", "used", "number", "there"]
    [some (.ref x), some (.int p t), some (.int n t1), some (.bool ((p : Int) == a.vs.length - 1)), none, none, none] :: ArrR w.params x a2 :: R) s') ?_ ?_
  · by_cases hp : (p : Int) = a.vs.length - 1
    · have hb : ((p : Int) == a.vs.length - 1) = true := beq_iff_eq.mpr hp
      rw [hb]
      rename_i Sx _ _
      rw [hb] at Sx
      have fin : ∀ {a1 : Ad} {j : Nat}, j ≤ m.lives.length → Arp a1 (cutM m j) → (∀ q : Nat, j ≤ q → q < m.lives.length → m.lives[q]? = some false) → (j = 0 ∨ m.lives[j - 1]? = some true) → GoOn m p (cutM m j) :=
        fun h1 h2 h3 h4 => .inr ⟨by omega, _, ⟨h1, h3, h4⟩, rfl⟩
      refine d_while hR.h (fun j s => ∃ a1, j ≤ m.lives.length ∧ Arp a1 (cutM m j) ∧ (∀ q : Nat, j ≤ q → q < m.lives.length → m.lives[q]? = some false) ∧ St H₀ o₀ (FrR H₀ L ["arr", "place", "behind", "is_last", "used", "number", "there"]
        [some (.ref x), some (.int p t), some (.int n t1), some (.bool true), none, none, none] :: ArrR w.params x a1 :: R) s) m.lives.length
        ⟨a, Nat.le_refl _, by rw [cutM_full hl]; exact hm, by intro q h1 h2; omega, by assumption⟩ ?_
      rintro j s2 ⟨a1, hj, hm1, hf, S2⟩
      have hvl1 : a1.vs.length = j := by rw [hm1.vlen]; simp [cutM]; omega
      have hpk1 : a1.pk = m.pk := hm1.pk
      (repeat' tb_rel)
      refine split_dec (fun h1 => ?_) (fun h1 => ?_)
      · have hn : a1.vs ≠ [] := fun e => by rw [e] at h1; simp at h1
        obtain ⟨us, v, e⟩ := snoc_of hn
        have hgl : a1.vs.getLast? = some v := by rw [e]; simp
        have hvm : v ∈ a1.vs := by rw [e]; simp
        have hlast : m.lives[j - 1]? = some (!isAbs v) := by
          have h3 : a1.vs.map (fun v => !isAbs v) = m.lives.take j := hm1.lives
          have h4 := congrArg (fun l => l[j - 1]?) h3
          simp only [e, List.map_append, List.map_cons, List.map_nil, List.getElem?_take] at h4
          rw [if_pos (by omega)] at h4
          rw [← h4]
          have h5 : us.length = j - 1 := by rw [e] at hvl1; simp at hvl1; omega
          rw [List.getElem?_append_right (by simp; omega)]
          simp [h5]
        (repeat' tb_rel)
        cases ha : isAbs v
        · rw [ha] at hlast
          (repeat' tb_rel)
          exact ⟨rfl, a1, _, fin hj hm1 hf (.inr hlast), hm1, by assumption⟩
        · rw [ha] at hlast
          obtain ⟨j, rfl⟩ : ∃ i, j = i + 1 := ⟨j - 1, by omega⟩
          simp only [Nat.add_sub_cancel, Bool.not_true] at hlast
          have hsl : sizeLine = 2 ^ 24 := rfl
          have hf' : ∀ q : Nat, j ≤ q → q < m.lives.length → m.lives[q]? = some false := fun q h2 h3 => by
            rcases Nat.eq_or_lt_of_le h2 with rfl | h4
            · exact hlast
            · exact hf q h4 h3
          (repeat' tb_rel)
          refine d_popval hm1 (by assumption) (ls := m.lives.take j) (b := false) (by show m.lives.take (j + 1) = _; rw [List.take_add_one, hlast]; rfl) (by show (m.lives.take (j + 1)).length < _; simp; omega) (fun a2 v2 s3 hm2 S3 => ?_)
          have hpk2 : a2.pk = m.pk := hm2.pk
          (repeat' tb_rel)
          cases hp : m.pk
          · rw [hp] at hpk2
            rw [hpk2]
            obtain ⟨hl1, hl2⟩ := hl hp
            obtain ⟨kk, hkk⟩ : ∃ k, m.keys[j]? = some k := ⟨_, List.getElem?_eq_getElem (by omega)⟩
            obtain ⟨nn, hnn⟩ : ∃ k, m.nexts[j]? = some k := ⟨_, List.getElem?_eq_getElem (by omega)⟩
            have ek : (cutM m (j + 1)).keys = m.keys.take j ++ [kk] := by show (if m.pk = true then _ else _) = _; rw [hp, if_neg (by decide), List.take_add_one, hkk]; rfl
            have en : (cutM m (j + 1)).nexts = m.nexts.take j ++ [nn] := by show (if m.pk = true then _ else _) = _; rw [hp, if_neg (by decide), List.take_add_one, hnn]; rfl
            (repeat' tb_rel)
            refine d_popkey hm2 (by assumption) (ks := m.keys.take j) (b := kk) ek (by show (cutM m (j + 1)).keys.length < _; rw [ek]; simp; omega) (fun a3 v3 s4 hm3 S4 => ?_)
            (repeat' tb_rel)
            refine d_popnext hm3 (by assumption) (ns := m.nexts.take j) (b := nn) en (by show (cutM m (j + 1)).nexts.length < _; rw [en]; simp; omega) (fun a4 v4 s5 hm4 S5 => ?_)
            (repeat' tb_rel)
            refine ⟨j, by omega, a4, by omega, ?_, hf', by assumption⟩
            exact { hm4 with keys := by show KVs a4.ks (if m.pk = true then _ else _); rw [hp, if_neg (by decide)]; exact hm4.keys, nexts := by show IV a4.ns (if m.pk = true then _ else _); rw [hp, if_neg (by decide)]; exact hm4.nexts }
          · rw [hp] at hpk2
            rw [hpk2]
            (repeat' tb_rel)
            refine ⟨j, by omega, a2, by omega, ?_, hf', by assumption⟩
            have ek : (cutM m (j + 1)).keys = (cutM m j).keys := by show (if m.pk = true then _ else _) = (if m.pk = true then _ else _); rw [hp, if_pos rfl, if_pos rfl]
            have en : (cutM m (j + 1)).nexts = (cutM m j).nexts := by show (if m.pk = true then _ else _) = (if m.pk = true then _ else _); rw [hp, if_pos rfl, if_pos rfl]
            exact { hm2 with keys := by rw [← ek]; exact hm2.keys, nexts := by rw [← en]; exact hm2.nexts }
      · (repeat' tb_rel)
        have hj0 : j = 0 := by omega
        exact ⟨rfl, a1, _, fin hj hm1 hf (.inl hj0), hm1, by assumption⟩
    · have hb : ((p : Int) == a.vs.length - 1) = false := beq_eq_false_iff_ne.mpr hp
      rw [hb]
      rename_i Sx _ _
      rw [hb] at Sx
      refine d_while hR.h (fun n0 s => St H₀ o₀ (FrR H₀ L ["arr", "place", "behind", "is_last", "used", "number", "there"]
        [some (.ref x), some (.int p t), some (.int n t1), some (.bool false), none, none, none] :: ArrR w.params x a :: R) s) 0 (by assumption) ?_
      intro n0 s2 S2
      (repeat' tb_rel)
      exact ⟨rfl, a, m, .inl ⟨by omega, rfl⟩, hm, by assumption⟩
  · rintro f s2 ⟨rfl, a2, m2, hG, hm2, S2⟩
    try dsimp only
    have hvl2 : a2.vs.length ≤ m.lives.length := by
      rw [hm2.vlen]
      rcases hG with ⟨_, rfl⟩ | ⟨_, j, hj, rfl⟩
      · omega
      · simp [cutM]; omega
    (repeat' tb_rel)
    refine split_beq (fun hne => ?_) (fun he => ?_)
    all_goals
      (repeat' tb_rel)
      refine d_setat W hm2 (by assumption) (fun a3 s8 hm3 S8 => ?_)
      (repeat' tb_rel)
      refine d_forNone hR.h (by assumption) rfl (by decide +kernel) rfl (by kernel_rfl!) (fun s9 S9 => ?_)
      (repeat' tb_rel)
      exact h _ _ _ hG hm3 (St.drop (St.drop (by assumption)))
end funs

section funs
variable {w : World} {H₀ : Heap} {o₀ : OsState} {A : Around} {s : Shared} {rs R : List Res} {env : Env}
noncomputable def findL (m : Pm) (k : Key) (l : List Nat) : Int := match l.find? (fun p => m.keys[p]? == some (some k)) with | some p => (p : Int) | none => -1
noncomputable def findP (m : Pm) (k : Key) : Int := match k with | .int i => if liveAt m i then i else -1 | .str _ => -1
set_option maxHeartbeats 1000000 in
theorem find_ {x : Addr} {a : Ad} {m : Pm} {v : Value} {k : Key} {hd : Int} {l : List Nat} {Q : Value → Shared → Prop} (W : Wd w H₀) (hR : Rm A 5) (S : St H₀ o₀ (ArrR w.params x a :: R) s) (hm : Arp a m) (hk : KV v k)
    (hz : m.lives.length < 2 ^ 20) (h0 : 0 < m.size) (hs : m.size < 2 ^ 20)
    (hh : m.pk = false → m.heads[ch m k]? = some hd ∧ Chn m.nexts hd l ∧ (∀ p ∈ l, p < 2 ^ 20 ∧ ∃ k', m.keys[p]? = some (some k')))
    (h : ∀ t s', St H₀ o₀ (ArrR w.params x a :: R) s' → Q (.int (if m.pk then findP m k else findL m k l) t) s') : Does w A (call (.ref 136) [.ref x, v]) Q s := by
  have hvl := hm.vlen
  have hpk := hm.pk
  have hsz := hm.size
  refine d_fun (f := 136) ["self", "key"] ["place"] W hR S (nf_fn (by rfl) (by conv => lhs; whnf) (by conv => lhs; whnf)) (by kernel_rfl!) (by kernel_rfl!) rfl (by decide) (by decide +kernel) (by decide +kernel) rfl rfl rfl ?_
  intro L s' S A' hR
  (repeat' tb_rel)
  cases hp : m.pk
  · rw [hp] at hpk h
    rw [hpk]
    obtain ⟨hh1, hh2, hh3⟩ := hh hp
    have h : ∀ t s', St H₀ o₀ (ArrR w.params x a :: R) s' → Q (.int (findL m k l) t) s' := h
    have hcl := ch_lt (k := k) h0
    obtain ⟨th, hth⟩ := hm.heads.get hh1
    have hcl : a.hs[(hashK k % a.sz).toNat]? = some (.int hd th) := by rw [hsz]; exact hth
    have hz0 : 0 < a.sz := by omega
    have hz1 : 0 ≤ hashK k % a.sz := by rw [hsz]; exact Int.emod_nonneg _ (by omega)
    have hz2 : hashK k % a.sz < 2 ^ 63 := by rw [hsz]; have := Int.emod_lt_of_pos (hashK k) h0; omega
    (repeat' tb_rel)
    refine hash_of_ W (hR.lower (by omega)) (by assumption) hk (fun t1 s1 S1 => ?_)
    (repeat' tb_rel)
    refine d_while hR.h (fun n s => ∃ l0 l' hv t2, l = l0 ++ l' ∧ n = l'.length ∧ findL m k l = findL m k l' ∧ Chn m.nexts hv l' ∧ St H₀ o₀ (FrR H₀ L ["self", "key", "place"]
      [some (.ref x), some v, some (.int hv t2)] :: ArrR w.params x a :: R) s) l.length ⟨[], l, hd, _, rfl, rfl, rfl, hh2, by assumption⟩ ?_
    rintro n s2 ⟨l0, l', hv, t2, rfl, rfl, hfl, hch, S2⟩
    (repeat' tb_rel)
    cases l' with
    | nil =>
      have e : hv = -1 := hch
      subst e
      refine split_dec (fun hc => absurd hc (by decide)) (fun _ => ?_)
      (repeat' tb_rel)
      have := h
      rw [hfl] at this
      exact this _ _ (St.drop (by assumption))
    | cons p r =>
      obtain ⟨rfl, n, hn, hr⟩ := hch
      obtain ⟨hp1, k', hk'⟩ := hh3 p (by simp)
      obtain ⟨v', hv', hkv'⟩ := hm.keys.get hk'
      obtain ⟨tn, htn⟩ := hm.nexts.get hn
      have hkv' : KV v' k' := hkv'
      have hv2 : a.ks[(p : Int).toNat]? = some v' := hv'
      have htn' : a.ns[(p : Int).toNat]? = some (.int n tn) := htn
      have hp63 : (p : Int) < 2 ^ 63 := by omega
      refine split_dec (fun _ => ?_) (fun hc => absurd (by omega) hc)
      (repeat' tb_rel)
      have hf0 : findL m k (p :: r) = if (some k' == some k) = true then (p : Int) else findL m k r := by
        have e0 : (m.keys[p]? == some (some k)) = (some k' == some k) := by
          rw [hk']
          by_cases e : k' = k
          · subst e; simp
          · rw [beq_eq_false_iff_ne.mpr (by simpa using e), beq_eq_false_iff_ne.mpr (by simpa using e)]
        unfold findL
        rw [List.find?_cons, e0]
        cases (some k' == some k) <;> rfl
      cases hc : (some k' == some k)
      · rw [hc] at hf0
        (repeat' tb_rel)
        refine ⟨r.length, by simp, l0 ++ [p], r, n, _, by simp, rfl, by rw [hfl, hf0]; rfl, hr, by assumption⟩
      · rw [hc] at hf0
        (repeat' tb_rel)
        have := h
        rw [hfl, hf0] at this
        exact this _ _ (St.drop (by assumption))
  · rw [hp] at hpk h
    rw [hpk]
    have h : ∀ t s', St H₀ o₀ (ArrR w.params x a :: R) s' → Q (.int (findP m k) t) s' := h
    cases k with
    | str y =>
      obtain ⟨t, rfl⟩ := hk.str
      (repeat' tb_rel)
      exact h _ _ (St.drop (by assumption))
    | int i =>
      obtain ⟨t, rfl⟩ := hk.int
      (repeat' tb_rel)
      refine is_living_ W (hR.lower (by omega)) (St.sw (by assumption)) hm hz (fun s6 S6 => ?_)
      have S6 := S6.sw
      have h : ∀ t s', St H₀ o₀ (ArrR w.params x a :: R) s' → Q (.int (if liveAt m i then i else -1) t) s' := h
      cases hl : liveAt m i
      · rw [hl] at h
        (repeat' tb_rel)
        exact h _ _ (St.drop (by assumption))
      · rw [hl] at h
        (repeat' tb_rel)
        exact h _ _ (St.drop (by assumption))
end funs

section funs
variable {w : World} {H₀ : Heap} {o₀ : OsState} {A : Around} {s : Shared} {rs R : List Res} {env : Env}
/-- what find needs -/
structure FindOk (m : Pm) (k : Key) (hd : Int) (l : List Nat) : Prop where
  z : m.lives.length < 2 ^ 20
  p : 0 < m.size
  s : m.size < 2 ^ 20
  h : m.pk = false → m.heads[ch m k]? = some hd ∧ Chn m.nexts hd l ∧ (∀ p ∈ l, p < 2 ^ 20 ∧ ∃ k', m.keys[p]? = some (some k'))
noncomputable def findR (m : Pm) (k : Key) (l : List Nat) : Int := if m.pk then findP m k else findL m k l
theorem set_same {α : Type} {l : List α} {i : Nat} {v : α} (h : l[i]? = some v) : l.set i v = l := by
  apply List.ext_getElem?
  intro j
  rw [List.getElem?_set]
  split
  · rename_i hi
    subst hi
    rw [h, if_pos (List.getElem?_eq_some_iff.mp h).1]
  · rfl
theorem put_ {x : Addr} {a : Ad} {m : Pm} {v : Value} {k : Key} {hd : Int} {l : List Nat} {j : Int} {u : Tok} {Q : Value → Shared → Prop} (W : Wd w H₀) (hR : Rm A 13) (S : St H₀ o₀ (ArrR w.params x a :: R) s) (hm : Arp a m) (hk : KV v k)
    (H : ArrOk m) (F : FindOk m k hd l) (hlive : 0 ≤ findR m k l → m.lives[(findR m k l).toNat]? = some true)
    (h : ∀ a' s', Arp a' (if 0 ≤ findR m k l then m else addM m k) → St H₀ o₀ (ArrR w.params x a' :: R) s' → Q .none s') : Does w A (call (.ref 164) [.ref x, v, .int j u]) Q s := by
  refine d_fun (f := 164) ["self", "key", "slot"] ["place"] W hR S (nf_fn (by rfl) (by conv => lhs; whnf) (by conv => lhs; whnf)) (by kernel_rfl!) (by kernel_rfl!) rfl (by decide) (by decide +kernel) (by decide +kernel) rfl rfl rfl ?_
  intro L s' S A' hR
  have hb := F.z
  (repeat' tb_rel)
  refine find_ W (hR.lower (by omega)) (St.sw (by assumption)) hm hk F.z F.p F.s F.h (fun t1 s1 S1 => ?_)
  have S1 := S1.sw
  rw [show (if m.pk = true then findP m k else findL m k l) = findR m k l from rfl] at *
  (repeat' tb_rel)
  refine split_dec (fun h1 => ?_) (fun h1 => ?_)
  · have hl := hlive h1
    rw [if_pos h1] at h
    have hlt := (List.getElem?_eq_some_iff.mp hl).1
    (repeat' tb_rel)
    refine d_setval hm (by assumption) h1 (by omega) (by omega) (fun a2 s2 hm2 S2 => ?_)
    (repeat' tb_rel)
    refine h _ _ ?_ (St.drop (by assumption))
    have e : m.lives.set (findR m k l).toNat true = m.lives := set_same hl
    rw [e] at hm2
    exact hm2
  · rw [if_neg h1] at h
    (repeat' tb_rel)
    refine add_ W (hR.lower (by omega)) (St.sw (by assumption)) hm hk H (fun a2 s2 hm2 S2 => ?_)
    have S2 := S2.sw
    (repeat' tb_rel)
    exact h _ _ hm2 (St.drop (by assumption))
theorem append_ {x : Addr} {a : Ad} {m : Pm} {j : Int} {u : Tok} {Q : Value → Shared → Prop} (W : Wd w H₀) (hR : Rm A 13) (S : St H₀ o₀ (ArrR w.params x a :: R) s) (hm : Arp a m)
    (H : ArrOk m) (hn : m.next < 2 ^ 62)
    (h : ∀ a' s' n t, Arp a' (addM m (.int (if m.next = -2 ^ 63 then 0 else m.next))) → St H₀ o₀ (ArrR w.params x a' :: R) s' → Q (.int n t) s') : Does w A (call (.ref 171) [.ref x, .int j u]) Q s := by
  have hnx := hm.next
  refine d_fun (f := 171) ["self", "slot"] ["key"] W hR S (nf_fn (by rfl) (by conv => lhs; whnf) (by conv => lhs; whnf)) (by kernel_rfl!) (by kernel_rfl!) rfl (by decide) (by decide +kernel) (by decide +kernel) rfl rfl rfl ?_
  intro L s' S A' hR
  refine d_cut 1 (fun s1 => ∃ t, St H₀ o₀ (FrR H₀ L ["self", "slot", "key"] [some (.ref x), some (.int j u), some (.int (if m.next = -2 ^ 63 then 0 else m.next) t)] :: ArrR w.params x a :: R) s1) ?_ ?_
  · dsimp only [List.take]
    (repeat' tb_rel)
    refine least_ W (hR.lower (by omega)) (by assumption) (fun t2 s5 S5 => ?_)
    (repeat' tb_rel)
    rw [hnx]
    refine split_beq (fun he => ?_) (fun hne => ?_)
    · (repeat' tb_rel)
      rw [if_pos he]
      exact ⟨rfl, _, by assumption⟩
    · (repeat' tb_rel)
      rw [if_neg hne, ← hnx]
      exact ⟨rfl, _, by assumption⟩
  · dsimp only [List.drop]
    rintro s1 ⟨t, S1⟩
    (repeat' tb_rel)
    refine greatest_ W (hR.lower (by omega)) (by assumption) (fun t2 s5 S5 => ?_)
    (repeat' tb_rel)
    refine split_beq (fun he => ?_) (fun hne => ?_)
    · exfalso; split at he <;> omega
    · (repeat' tb_rel)
      refine add_ W (hR.lower (by omega)) (St.sw (by assumption)) hm (k := .int (if m.next = -2 ^ 63 then 0 else m.next)) rfl H (fun a2 s2 hm2 S2 => ?_)
      have S2 := S2.sw
      (repeat' tb_rel)
      exact h _ _ _ _ hm2 (St.drop (by assumption))
theorem key_at_ {x : Addr} {a : Ad} {m : Pm} {p : Nat} {t : Tok} {k : Option Key} {Q : Value → Shared → Prop} (W : Wd w H₀) (hR : Rm A 2) (S : St H₀ o₀ (ArrR w.params x a :: R) s) (hm : Arp a m) (hz : p < 2 ^ 20)
    (hk : (if m.pk then some (some (.int p)) else m.keys[p]?) = some k)
    (h : ∀ v s', kOf v = some k → St H₀ o₀ (ArrR w.params x a :: R) s' → Q v s') : Does w A (call (.ref 185) [.ref x, .int p t]) Q s := by
  have hpk := hm.pk
  refine d_fun (f := 185) ["self", "place"] [] W hR S (nf_fn (by rfl) (by conv => lhs; whnf) (by conv => lhs; whnf)) (by kernel_rfl!) (by kernel_rfl!) rfl (by decide) (by decide +kernel) (by decide +kernel) rfl rfl rfl ?_
  intro L s' S A' hR
  have hp63 : (p : Int) < 2 ^ 63 := by omega
  (repeat' tb_rel)
  rw [hpk]
  cases hp : m.pk
  · rw [hp, if_neg (by decide)] at hk
    obtain ⟨v, hv, hkv⟩ := hm.keys.get hk
    have hv' : a.ks[(p : Int).toNat]? = some v := hv
    (repeat' tb_rel)
    exact h _ _ hkv (St.drop (by assumption))
  · rw [hp, if_pos rfl] at hk
    (repeat' tb_rel)
    exact h _ _ (by rw [← hk]; rfl) (St.drop (by assumption))
end funs

section funs
variable {w : World} {H₀ : Heap} {o₀ : OsState} {A : Around} {s : Shared} {rs R : List Res} {env : Env}
theorem unlinkM_same (m : Pm) (p c : Nat) (l1 : List Nat) : (unlinkM m p c l1).pk = m.pk ∧ (unlinkM m p c l1).keys = m.keys ∧ (unlinkM m p c l1).lives = m.lives ∧ (unlinkM m p c l1).size = m.size ∧ (unlinkM m p c l1).count = m.count ∧ (unlinkM m p c l1).next = m.next ∧ (unlinkM m p c l1).nexts.length = m.nexts.length ∧ (unlinkM m p c l1).heads.length = m.heads.length := by
  unfold unlinkM
  split <;> simp
noncomputable def unM (m : Pm) (k : Key) (p : Nat) (l1 : List Nat) : Pm := if m.pk then m else { unlinkM m p (ch m k) l1 with keys := m.keys.set p none }
noncomputable def holeM (m : Pm) (k : Key) (p : Nat) (l1 : List Nat) : Pm := { unM m k p l1 with lives := m.lives.set p false, count := m.count - 1 }
theorem findL_split {m : Pm} {k : Key} : ∀ {l : List Nat} {p : Nat}, findL m k l = (p : Int) → ∃ l1 l2, l = l1 ++ p :: l2 ∧ (∀ q ∈ l1, m.keys[q]? ≠ some (some k)) ∧ m.keys[p]? = some (some k)
  | [], p, h => by have h : (-1 : Int) = p := h; omega
  | q :: r, p, h => by
    unfold findL at h
    rw [List.find?_cons] at h
    cases e : (m.keys[q]? == some (some k)) with
    | true =>
      rw [e] at h
      have : q = p := by have h : (q : Int) = p := h; omega
      subst this
      exact ⟨[], r, rfl, by simp, by simpa using e⟩
    | false =>
      rw [e] at h
      obtain ⟨l1, l2, e1, e2, e3⟩ := findL_split (l := r) (p := p) h
      exact ⟨q :: l1, l2, by rw [e1]; rfl, fun z hz => by
        rcases List.mem_cons.mp hz with rfl | hz
        · simpa using e
        · exact e2 z hz, e3⟩
set_option maxHeartbeats 1000000 in
theorem drop_ {x : Addr} {a : Ad} {m : Pm} {v : Value} {k : Key} {hd : Int} {l : List Nat} {Q : Value → Shared → Prop} (W : Wd w H₀) (hR : Rm A 7) (S : St H₀ o₀ (ArrR w.params x a :: R) s) (hm : Arp a m) (hk : KV v k)
    (H : ArrOk m) (F : FindOk m k hd l) (hlive : 0 ≤ findR m k l → m.lives[(findR m k l).toNat]? = some true)
    (h0 : ∀ s', findR m k l < 0 → St H₀ o₀ (ArrR w.params x a :: R) s' → Q .none s')
    (h1 : ∀ a' p l1 l2 m' v s', findR m k l = (p : Nat) → (m.pk = false → l = l1 ++ p :: l2 ∧ (∀ q ∈ l1, m.keys[q]? ≠ some (some k)) ∧ m.keys[p]? = some (some k)) → GoOn (holeM m k p l1) p m' → Arp a' m' → St H₀ o₀ (ArrR w.params x a' :: R) s' → Q v s') :
    Does w A (call (.ref 178) [.ref x, v]) Q s := by
  refine d_fun (f := 178) ["self", "key"] ["place", "slot"] W hR S (nf_fn (by rfl) (by conv => lhs; whnf) (by conv => lhs; whnf)) (by kernel_rfl!) (by kernel_rfl!) rfl (by decide) (by decide +kernel) (by decide +kernel) rfl rfl rfl ?_
  intro L s' S A' hR
  have hb := F.z
  have hvl := hm.vlen
  have hpk := hm.pk
  (repeat' tb_rel)
  refine find_ W (hR.lower (by omega)) (St.sw (by assumption)) hm hk F.z F.p F.s F.h (fun t1 s1 S1 => ?_)
  have S1 := S1.sw
  rw [show (if m.pk = true then findP m k else findL m k l) = findR m k l from rfl] at *
  (repeat' tb_rel)
  refine split_dec (fun hn => ?_) (fun hn => ?_)
  · (repeat' tb_rel)
    exact h0 _ hn (St.drop (by assumption))
  · obtain ⟨p, hp⟩ : ∃ p : Nat, findR m k l = (p : Int) := ⟨(findR m k l).toNat, by omega⟩
    have hl := hlive (by omega)
    rw [hp] at hl
    have hl : m.lives[p]? = some true := hl
    have hlt := (List.getElem?_eq_some_iff.mp hl).1
    obtain ⟨sv, hsv⟩ : ∃ v, a.vs[p]? = some v := ⟨_, List.getElem?_eq_getElem (by omega)⟩
    have hsv' : a.vs[(findR m k l).toNat]? = some sv := by rw [hp]; exact hsv
    have hf0 : 0 ≤ findR m k l := by omega
    have hf63 : findR m k l < 2 ^ 63 := by omega
    have hfl : findR m k l < m.lives.length := by omega
    have hpc : m.pk = false → findL m k l = (p : Int) := fun hq => by rw [← hp]; unfold findR; rw [hq]; rfl
    simp only [hp] at *
    refine wpAny_execs_nil ?_
    refine k_next (by assumption) ?_
    refine d_cut 2 (fun s1 => ∃ a1 l1 l2, (m.pk = false → l = l1 ++ p :: l2 ∧ (∀ q ∈ l1, m.keys[q]? ≠ some (some k)) ∧ m.keys[p]? = some (some k)) ∧ Arp a1 (unM m k p l1) ∧
      St H₀ o₀ (FrR H₀ L ["self", "key", "place", "slot"] [some (.ref x), some v, some (.int p t1), some sv] :: ArrR w.params x a1 :: R) s1) ?_ ?_
    · dsimp only [List.take]
      (repeat' tb_rel)
      rw [hpk]
      cases hq : m.pk
      · have hfind : findL m k l = (p : Int) := hpc hq
        obtain ⟨l1, l2, e1, e2, e3⟩ := findL_split hfind
        obtain ⟨hh1, hh2, hh3⟩ := F.h hq
        subst e1
        have hok := H.hash hq
        (repeat' tb_rel)
        refine unlink_ W (hR.lower (by omega)) (St.sw (by assumption)) hm e3 F.p F.s (by rw [hok.nlen]; exact F.z) hh1 hh2 (fun hmem => e2 p hmem e3) (fun a1 s2 hm1 S2 => ?_)
        have S2 := S2.sw
        obtain ⟨u1, u2, u3, u4, u5, u6, u7, u8⟩ := unlinkM_same m p (ch m k) l1
        (repeat' tb_rel)
        refine d_setkey hm1 (by assumption) (v := .none) (u := none) rfl (by omega) (by omega) (by rw [u2, hok.klen]; omega) (fun a2 s3 hm2 S3 => ?_)
        (repeat' tb_rel)
        refine ⟨rfl, a2, l1, l2, fun _ => ⟨rfl, e2, e3⟩, ?_, by assumption⟩
        unfold unM
        rw [hq, if_neg (by decide)]
        rw [u2] at hm2
        exact hm2
      · (repeat' tb_rel)
        exact ⟨rfl, a, [], [], (fun h => by rw [hq] at h; cases h), (by unfold unM; rw [hq, if_pos rfl]; exact hm), by assumption⟩
    · dsimp only [List.drop]
      rintro s2 ⟨a1, l1, l2, hl12, hm1, S2⟩
      have hul : (unM m k p l1).lives = m.lives ∧ (unM m k p l1).pk = m.pk ∧ (unM m k p l1).count = m.count ∧ (m.pk = false → (unM m k p l1).keys.length = m.lives.length ∧ (unM m k p l1).nexts.length = m.lives.length) := by
        obtain ⟨u1, u2, u3, u4, u5, u6, u7, u8⟩ := unlinkM_same m p (ch m k) l1
        unfold unM
        cases hq : m.pk
        · have hok := H.hash hq
          rw [if_neg (by decide)]
          exact ⟨u3, u1.trans hq, u5, fun _ => ⟨by simpa using hok.klen, by show (unlinkM m p (ch m k) l1).nexts.length = _; rw [u7]; exact hok.nlen⟩⟩
        · rw [if_pos rfl]; exact ⟨rfl, hq, rfl, by simp⟩
      obtain ⟨q1, q2, q3, q4⟩ := hul
      (repeat' tb_rel)
      refine newAbs_ W (hR.lower (by omega)) (by assumption) (fun b s3 S3 => ?_)
      have S3 := S3.sw.sw12
      (repeat' tb_rel)
      refine d_setvalAbs hm1 (by assumption) (by omega) (by omega) (by rw [q1]; omega) (fun a2 s4 hm2 S4 => ?_)
      have hct := hm2.count
      (repeat' tb_rel)
      refine d_setcount W hm2 (by assumption) (fun a3 s5 hm3 S5 => ?_)
      have hm3 : Arp a3 (holeM m k p l1) := by
        have e : a2.ct - 1 = m.count - 1 := by rw [hct]; show (unM m k p l1).count - 1 = _; rw [q3]
        exact { hm3 with lives := by rw [hm3.lives]; show (unM m k p l1).lives.set p false = m.lives.set p false; rw [q1], count := by rw [hm3.count]; exact e }
      (repeat' tb_rel)
      refine go_on_ W (hR.lower (by omega)) (St.sw (by assumption)) hm3 (by show (m.lives.set p false).length < _; simp; omega) (fun hq => by
        have hq : m.pk = false := q2.symm.trans hq
        obtain ⟨z1, z2⟩ := q4 hq
        exact ⟨by show (unM m k p l1).keys.length = (m.lives.set p false).length; rw [z1]; simp, by show (unM m k p l1).nexts.length = (m.lives.set p false).length; rw [z2]; simp⟩) (fun a4 m4 s6 hG hm4 S6 => ?_)
      have S6 := S6.sw
      (repeat' tb_rel)
      exact h1 a4 p l1 l2 m4 sv _ rfl hl12 hG hm4 (St.drop (by assumption))
end funs

section funs
variable {w : World} {H₀ : Heap} {o₀ : OsState} {A : Around} {s : Shared} {rs R : List Res} {env : Env}
theorem marked_ {i : Int} {t : Tok} {Q : Value → Shared → Prop} (W : Wd w H₀) (hR : Rm A 2) (S : St H₀ o₀ R s) (h : ∀ s', St H₀ o₀ R s' → Q (.int i t) s') : Does w A (call (.ref 293) [.int i t]) Q s := by
  refine d_fun (f := 293) ["value"] [] W hR S (nf_fn (by rfl) (by conv => lhs; whnf) (by conv => lhs; whnf)) (by kernel_rfl!) (by kernel_rfl!) rfl (by decide) (by decide +kernel) (by decide +kernel) rfl rfl rfl ?_
  intro L s' S A' hR
  (repeat' tb_rel)
  exact h _ (St.drop (by assumption))
theorem copied_ {x : Addr} {a : Ad} {v : Value} {Q : Value → Shared → Prop} (W : Wd w H₀) (hR : Rm A 5) (S : St H₀ o₀ R s) (hm : ArrR w.params x a ∈ R) (hv : v ∈ a.vs)
    (h1 : ∀ i t s', v = .int i t → St H₀ o₀ R s' → Q v s') (h2 : ∀ b s', isAbs v = true → St H₀ o₀ (AbsR b :: R) s' → Q (.ref b) s') : Does w A (call (.ref 300) [v]) Q s := by
  obtain ⟨q, hq, hr⟩ := S.get hm
  have hs := (ArrR_def.mp hr).2.2.2.2.2.2.2.1 v hv
  refine d_fun (f := 300) ["slot"] [] W hR S (nf_fn (by rfl) (by conv => lhs; whnf) (by conv => lhs; whnf)) (by kernel_rfl!) (by kernel_rfl!) rfl (by decide) (by decide +kernel) (by decide +kernel) rfl rfl rfl ?_
  intro L s' S A' hR
  have hm : ArrR w.params x a ∈ FrR H₀ L ["slot"] [some v] :: R := .tail _ hm
  have S : St H₀ o₀ (FrR H₀ L ["slot"] [some v] :: R) s' := S
  rcases hs with ⟨i, t, rfl⟩ | ⟨b0, o, rfl, e1, e2, e3⟩
  · (repeat' tb_rel)
    refine marked_ W (hR.lower (by omega)) (by assumption) (fun s2 S2 => ?_)
    (repeat' tb_rel)
    exact h1 _ _ _ rfl (St.drop (by assumption))
  · (repeat' tb_rel)
    rw [show isAbs (.ref b0) = true from rfl]
    (repeat' tb_rel)
    refine newAbs_ W (hR.lower (by omega)) (by assumption) (fun b s3 S3 => ?_)
    (repeat' tb_rel)
    exact h2 _ _ rfl (St.drop (St.sw (by assumption)))
noncomputable def copyM (m : Pm) : Pm := let m1 : Pm := { pk := m.pk, keys := m.keys, lives := m.lives, heads := [], nexts := [], size := m.size, count := m.count, next := m.next }; if m.pk then m1 else rehashM m1
/-- slots of a list that is being made -/
noncomputable def AllSl (us : List Value) : Res := fun p => ∀ v ∈ us, SlotO p v
theorem St.allInt {us : List Value} {i : Int} {t : Tok} (S : St H₀ o₀ (AllSl us :: R) s) : St H₀ o₀ (AllSl (us ++ [.int i t]) :: R) s :=
  S.conv fun p h v hv => by
    rcases List.mem_append.mp hv with hv | hv
    · exact h v hv
    · rw [List.mem_singleton.mp hv]; exact SlotO.int p i t
theorem St.allAbs {us : List Value} {b : Addr} (S : St H₀ o₀ (AbsR b :: AllSl us :: R) s) : St H₀ o₀ (AllSl (us ++ [.ref b]) :: R) s :=
  S.join.conv fun p ⟨p1, p2, d, l1, l2, k1, p3, p4, d', l3, l4, k2, _⟩ v hv => by
    rcases List.mem_append.mp hv with hv | hv
    · exact (k2 v hv).mono (l3.trans l2)
    · rw [List.mem_singleton.mp hv]
      obtain ⟨y, o, e1, e2, e3⟩ := AbsR_def.mp k1
      exact .inr ⟨y, o, e1, l1 _ _ e2, e3⟩
theorem St.allNil (S : St H₀ o₀ R s) : St H₀ o₀ (AllSl [] :: R) s :=
  S.mapSp fun p h => ⟨PH.nil, p, fun _ => .inl rfl, fun _ _ e => (by cases e), PH.le_refl _, fun v hv => (by cases hv), h⟩
theorem d_setwalksP {x : Addr} {a : Ad} {m : Pm} {l : Addr} {fr : Res} {Q : Unit → Shared → Prop} (W : Wd w H₀) (hm : Arp a m) (S : St H₀ o₀ (fr :: DictE l :: ArrR w.params x a :: R) s)
    (h : ∀ a2 s', Arp a2 m → St H₀ o₀ (fr :: ArrR w.params x a2 :: R) s' → Q () s') : Does w A (setAttr (.ref x) "walks" (.ref l)) Q s :=
  d_setwalks W S (fun s' S' => h { a with wl := l } s' { hm with } S')
set_option maxHeartbeats 4000000 in
theorem copy_ {x : Addr} {a : Ad} {m : Pm} {Q : Value → Shared → Prop} (W : Wd w H₀) (hR : Rm A 9) (S : St H₀ o₀ (ArrR w.params x a :: R) s) (hm : Arp a m)
    (H : ArrOk m) (hkl : m.keys.length < 2 ^ 18)
    (h : ∀ y b s', Arp b (copyM m) → St H₀ o₀ (ArrR w.params y b :: ArrR w.params x a :: R) s' → Q (.ref y) s') : Does w A (call (.ref 305) [.ref x]) Q s := by
  have hvl := hm.vlen
  have hkl2 := hm.keys.length
  have hz := H.zbig
  refine d_fun (f := 305) ["arr"] ["made"] W hR S (nf_fn (by rfl) (by conv => lhs; whnf) (by conv => lhs; whnf)) (by kernel_rfl!) (by kernel_rfl!) rfl (by decide) (by decide +kernel) (by decide +kernel) rfl rfl rfl ?_
  intro L s' S A' hR
  (repeat' tb_rel)
  refine newArr_ W (hR.lower (by omega)) (by assumption) (fun y b s1 hb S1 => ?_)
  have S1 := S1.sw
  (repeat' tb_rel)
  refine d_setpk W hb (by assumption) (fun b1 s2 hb1 S2 => ?_)
  (repeat' tb_rel)
  refine d_listList (by assumption) (LIn.keys (a := a) (by k_memK) rfl) (by unfold sizeLine; omega) (fun l1 s3 S3 => ?_)
  (repeat' tb_rel)
  refine d_setkeys W hb1 (by assumption) (fun q k => LsR_def.mp k) hm.keys (fun b2 s4 hb2 S4 => ?_)
  (repeat' tb_rel)
  refine d_comp (H₀ := H₀) (o₀ := o₀) hR.h (by rfl) (by decide +kernel) rfl (by decide +kernel) rfl ?_ (by intro _; with_unfolding_all rfl)
  (repeat' tb_rel)
  refine d_iter_list (by assumption) (LIn.vals (a := a) (by k_memK) rfl) (fun I s5 IT S5 => ?_)
  refine ⟨I, _, _, _, _, L, _, _, _, fun j ys R1 => ys.map isAbs = (a.vs.take j).map isAbs ∧ R1 = AllSl ys :: ArrR w.params y b2 :: ArrR w.params x a :: R, rfl, IT, (St.allNil S5).sw.sw12, ⟨rfl, rfl⟩, ?_, ?_, ?_, ?_, ?_⟩
  · rintro j C D vs1 ys R1 ⟨_, rfl⟩; exact LIn.vals (a := a) (by k_memK) rfl
  · unfold sizeLine; omega
  · rintro j ys R1 ⟨h1, _⟩
    have := congrArg List.length h1
    simp at this; omega
  · rintro j v C D ys R1 s6 hj hP ⟨hy, rfl⟩ S6
    have hvm : v ∈ a.vs := List.mem_of_getElem? hP
    have hstep : (a.vs.take (j + 1)).map isAbs = ys.map isAbs ++ [isAbs v] := by
      rw [List.take_add_one, hP, List.map_append, hy]; rfl
    refine d_if0 ?_
    (repeat' tb_rel)
    refine copied_ (x := x) (a := a) W (hR.lower (by omega)) (by assumption) (by k_memK) hvm (fun i t s7 hv S7 => ?_) (fun b s7 hv S7 => ?_)
    · subst hv
      (repeat' tb_rel)
      refine ⟨_, ⟨?_, rfl⟩, S7.sw4.allInt.sw4⟩
      rw [hstep]; simp [isAbs]
    · (repeat' tb_rel)
      refine ⟨AllSl (ys ++ [.ref b]) :: ArrR w.params y b2 :: ArrR w.params x a :: R, ⟨?_, rfl⟩, ?_⟩
      · rw [hstep, hv]; simp [isAbs]
      · exact S7.sw15.allAbs.sw4
  · rintro D ys R1 s6 ⟨hy, rfl⟩ S6
    rw [List.take_of_length_le (Nat.le_refl _)] at hy
    (repeat' tb_rel)
    have S7 := S6.sw.sw12.join.sw
    refine d_setvals W hb2 S7 (fun q ⟨p1, p2, d, l1, l2, k1, _⟩ => (LsR_def.mp k1).mono l1) (fun q q' _ ⟨p1, p2, d, l1, l2, k1, p3, p4, d', l3, l4, k2, _⟩ v hv => .inr ((k2 v hv).mono (l3.trans l2))) (fun b3 s7 hb3 S8 => ?_)
    have hlv : ys.map (fun v => !isAbs v) = m.lives := by
      have e := congrArg (List.map fun b => !b) hy
      rw [List.map_map, List.map_map] at e
      rw [← hm.lives]; exact e
    (repeat' tb_rel)
    refine d_setcount W hb3 (by assumption) (fun b4 s8 hb4 S9 => ?_)
    (repeat' tb_rel)
    refine d_setnext W hb4 (by assumption) (fun b5 s9 hb5 S10 => ?_)
    (repeat' tb_rel)
    refine d_setat W hb5 (by assumption) (fun b6 s10 hb6 S11 => ?_)
    (repeat' tb_rel)
    refine d_setwalksP W hb6 (by assumption) (fun b7 s11 hb7 S12 => ?_)
    have hb7 : Arp b7 { pk := m.pk, keys := m.keys, lives := m.lives, heads := [], nexts := [], size := m.size, count := m.count, next := m.next } :=
      { hb7 with pk := by rw [← hm.pk]; exact hb7.pk, lives := by rw [← hlv]; exact hb7.lives, size := by rw [← hm.size]; exact hb7.size, count := by rw [← hm.count]; exact hb7.count, next := by rw [← hm.next]; exact hb7.next }
    have hpk7 : b7.pk = m.pk := hb7.pk
    (repeat' tb_rel)
    cases hp : m.pk
    · rw [hp] at hpk7
      rw [hpk7]
      (repeat' tb_rel)
      refine rehash_ W (hR.lower (by omega)) (St.sw (by assumption)) hb7 (H.hash hp).keys H.pos (by have := H.big; show m.size < _; omega) (by show m.lives.length < _; omega) (fun b8 s12 hb8 S13 => ?_)
      have S13 := S13.sw
      (repeat' tb_rel)
      refine h _ _ _ ?_ (St.drop (by assumption))
      unfold copyM
      rw [if_neg (by rw [hp]; decide)]
      exact hb8
    · rw [hp] at hpk7
      rw [hpk7]
      (repeat' tb_rel)
      refine h _ _ _ ?_ (St.drop (by assumption))
      unfold copyM
      rw [if_pos hp]
      exact hb7
end funs

section funs
variable {w : World} {H₀ : Heap} {o₀ : OsState} {A : Around} {s : Shared} {rs R : List Res} {env : Env}
structure Fm where
  pk : Bool
  size : Int
  places : List (Option Key)
  next : Option Int
noncomputable def nxOf : Value → Option (Option Int) | .none => some none | .int i _ => some (some i) | _ => none
structure For (F : Fd) (vs : List Value) (m : Fm) : Prop where
  pk : F.pk = m.pk
  size : F.sz = m.size
  places : KVs vs m.places
  next : nxOf F.nx = some m.next
theorem living_ {f : Addr} {F : Fd} {vs : List Value} {ks : List (Option Key)} {Q : Value → Shared → Prop} (W : Wd w H₀) (hR : Rm A 3) (S : St H₀ o₀ (DicR w f F :: R) s) (hm : LsR F.pl vs ∈ R) (hk : KVs vs ks) (hz : vs.length < 2 ^ 20)
    (h : ∀ l ys s', KVs ys (ks.filter Option.isSome) → St H₀ o₀ (LsR l ys :: DicR w f F :: R) s' → Q (.ref l) s') : Does w A (call (.ref 324) [.ref f]) Q s := by
  refine d_fun (f := 324) ["form"] [] W hR S (nf_fn (by rfl) (by conv => lhs; whnf) (by conv => lhs; whnf)) (by kernel_rfl!) (by kernel_rfl!) rfl (by decide) (by decide +kernel) (by decide +kernel) rfl rfl rfl ?_
  intro L s' S A' hR
  (repeat' tb_rel)
  refine d_comp (H₀ := H₀) (o₀ := o₀) hR.h (by rfl) (by decide +kernel) rfl (by decide +kernel) rfl ?_ (by intro _; with_unfolding_all rfl)
  (repeat' tb_rel)
  refine d_iter_list (by assumption) (LIn.ls (.tail _ (.tail _ hm))) (fun I s5 IT S5 => ?_)
  refine ⟨I, _, _, _, _, L, _, _, _, fun j ys R1 => KVs ys ((ks.take j).filter Option.isSome) ∧ ys.length ≤ j ∧ R1 = DicR w f F :: R, rfl, IT, S5, ⟨rfl, by simp, rfl⟩, ?_, ?_, ?_, ?_, ?_⟩
  · rintro j C D vs1 ys R1 ⟨_, _, rfl⟩; exact LIn.ls (.tail _ (.tail _ (.tail _ (.tail _ (.tail _ hm)))))
  · unfold sizeLine; omega
  · rintro j ys R1 ⟨_, h1, _⟩; exact h1
  · rintro j v C D ys R1 s6 hj hP ⟨hy, hyl, rfl⟩ S6
    obtain ⟨ko, hko⟩ : ∃ k, ks[j]? = some k := ⟨_, List.getElem?_eq_getElem (by rw [← hk.length]; exact hj)⟩
    obtain ⟨v', hv', hkv⟩ := hk.get hko
    obtain rfl : v' = v := Option.some.inj (hv'.symm.trans hP)
    have e : ks.take (j + 1) = ks.take j ++ [ko] := by rw [List.take_add_one, hko]; rfl
    refine d_if1 ?_
    (repeat' tb_rel)
    have e2 : (ks.take (j + 1)).filter Option.isSome = (ks.take j).filter Option.isSome ++ if ko.isSome = true then [ko] else [] := by
      rw [e, List.filter_append]
      cases ko <;> rfl
    cases ko with
    | none =>
      obtain rfl := kOf_none hkv
      rw [show (!(Value.none == Value.none)) = false from rfl]
      (repeat' tb_rel)
      exact ⟨_, ⟨by rw [e2]; simpa using hy, by omega, rfl⟩, by assumption⟩
    | some k =>
      have hne : (!(v' == Value.none)) = true := by
        cases k with
        | int i => obtain ⟨t, rfl⟩ := KV.int hkv; rfl
        | str x => obtain ⟨t, rfl⟩ := KV.str hkv; rfl
      rw [hne]
      (repeat' tb_rel)
      exact ⟨_, ⟨by rw [e2]; exact hy.snoc hkv, by simp; omega, rfl⟩, by assumption⟩
  · rintro D ys R1 s6 ⟨hy, hyl, rfl⟩ S6
    rw [List.take_of_length_le (by rw [hk.length]; exact Nat.le_refl _)] at hy
    (repeat' tb_rel)
    exact h _ _ _ hy (St.drop (by assumption))
theorem new_form_ {n : Int} {t : Tok} {Q : Value → Shared → Prop} (W : Wd w H₀) (hR : Rm A 2) (S : St H₀ o₀ R s)
    (h : ∀ f F s', F.pk = true → F.sz = n → F.nx = .none → St H₀ o₀ (DicR w f F :: LsR F.pl [] :: R) s' → Q (.ref f) s') : Does w A (call (.ref 319) [.int n t]) Q s := by
  refine d_fun (f := 319) ["size"] [] W hR S (nf_fn (by rfl) (by conv => lhs; whnf) (by conv => lhs; whnf)) (by kernel_rfl!) (by kernel_rfl!) rfl (by decide) (by decide +kernel) (by decide +kernel) rfl rfl rfl ?_
  intro L s' S A' hR
  (repeat' tb_rel)
  refine d_dict (by assumption) rfl rfl (by simp) (by decide) (fun d s1 S1 => ?_)
  (repeat' tb_rel)
  refine ⟨rfl, by show (["packed", "size", "places", "next"] : List Str).Nodup; decide +kernel, _, _, St.sw12 (by assumption), fun s2 S2 => ?_⟩
  refine k_ret (by assumption) ?_
  exact h d { pk := true, sz := n, szt := t, pl := _, nx := .none } _ rfl rfl rfl (S2.drop.conv fun p hp => DicR_def.mpr hp)
end funs

section funs
variable {w : World} {H₀ : Heap} {o₀ : OsState} {A : Around} {s : Shared} {rs R : List Res} {env : Env}
noncomputable def livK (l : List (Option Key)) : List (Option Key) := l.filter Option.isSome
noncomputable def hashF (m : Fm) : Fm := { m with pk := false, size := if m.pk = true ∧ m.size ≤ m.places.length then m.size * 2 else m.size, places := livK m.places }
theorem livK_le (l : List (Option Key)) : (livK l).length ≤ l.length := List.length_filter_le ..
theorem hash_form_ {f : Addr} {F : Fd} {vs : List Value} {m : Fm} {Q : Value → Shared → Prop} (W : Wd w H₀) (hR : Rm A 5) (S : St H₀ o₀ (DicR w f F :: LsR F.pl vs :: R) s) (hF : For F vs m) (hz : m.places.length < 2 ^ 20)
    (h : ∀ F' vs' s', For F' vs' (hashF m) → St H₀ o₀ (DicR w f F' :: LsR F'.pl vs' :: R) s' → Q .none s') : Does w A (call (.ref 331) [.ref f]) Q s := by
  have hzl : vs.length = m.places.length := hF.places.length
  refine d_fun (f := 331) ["form"] [] W hR S (nf_fn (by rfl) (by conv => lhs; whnf) (by conv => lhs; whnf)) (by kernel_rfl!) (by kernel_rfl!) rfl (by decide) (by decide +kernel) (by decide +kernel) rfl rfl rfl ?_
  intro L s' S A' hR
  refine d_cut 1 (fun s1 => ∃ F1 : Fd, F1.sz = (hashF m).size ∧ F1.pl = F.pl ∧ F1.nx = F.nx ∧ St H₀ o₀ (FrR H₀ L ["form"] [some (.ref f)] :: DicR w f F1 :: LsR F.pl vs :: R) s1) ?_ ?_
  · dsimp only [List.take]
    have hpk := hF.pk
    (repeat' tb_rel)
    cases hp : m.pk
    · rw [hp] at hpk
      rw [hpk]
      (repeat' tb_rel)
      exact ⟨rfl, F, by rw [hF.size]; simp [hashF, hp], rfl, rfl, by assumption⟩
    · rw [hp] at hpk
      rw [hpk]
      (repeat' tb_rel)
      refine split_dec (fun h1 => ?_) (fun h1 => ?_)
      · (repeat' tb_rel)
        refine ⟨rfl, { F with sz := F.sz * 2, szt := _ }, ?_, rfl, rfl, by assumption⟩
        have h2 : m.size ≤ m.places.length := by rw [← hF.size, ← hzl]; exact h1
        simp [hashF, hp, h2, hF.size]
      · (repeat' tb_rel)
        refine ⟨rfl, F, ?_, rfl, rfl, by assumption⟩
        have h2 : ¬ m.size ≤ m.places.length := by rw [← hF.size, ← hzl]; exact h1
        simp [hashF, hp, h2, hF.size]
  · dsimp only [List.drop]
    rintro s1 ⟨F1, e1, e2, e3, S1⟩
    (repeat' tb_rel)
    rename_i S2 _ _
    rw [← e2] at S2
    have S2 := S2.sw
    refine living_ W (hR.lower (by omega)) S2 (by k_memK) hF.places (by omega) (fun l ys s3 hy S3 => ?_)
    have S3 := S3.sw2
    (repeat' tb_rel)
    rename_i S4
    exact h { F1 with pk := false, pl := l } ys _ ⟨rfl, e1, hy, (congrArg nxOf e3).trans hF.next⟩ S4.drop.sw2.drop.sw
end funs

section funs
variable {w : World} {H₀ : Heap} {o₀ : OsState} {A : Around} {s : Shared} {rs R : List Res} {env : Env}
abbrev growsF (m : Fm) (i : Int) : Prop := m.size ≤ i ∧ i / 2 < m.size ∧ m.size / 2 < (livK m.places).length
noncomputable def grownF (m : Fm) (i : Int) : Fm := if growsF m i then { m with size := m.size * 2 } else m
noncomputable def slowF (m : Fm) (k : Key) : Fm := let m1 := hashF m; { m1 with places := m1.places ++ [some k] }
noncomputable def addedF (m : Fm) (k : Key) : Fm :=
  if m.pk then (match k with
    | .str _ => slowF m k
    | .int i => if m.places.length ≤ i then (if i < (grownF m i).size then { grownF m i with places := m.places ++ List.replicate (i - m.places.length).toNat none ++ [some k] } else slowF (grownF m i) k) else slowF m k)
  else if m.size ≤ m.places.length then
    (if (livK m.places).length + (livK m.places).length / 32 < m.places.length then { m with places := livK m.places ++ [some k] } else { m with size := m.size * 2, places := m.places ++ [some k] })
  else { m with places := m.places ++ [some k] }
theorem St.drop2 {a b c : Res} (S : St H₀ o₀ (a :: b :: c :: R) s) : St H₀ o₀ (a :: b :: R) s := S.sw12.drop1
theorem St.drop3 {a b c d : Res} (S : St H₀ o₀ (a :: b :: c :: d :: R) s) : St H₀ o₀ (a :: b :: c :: R) s := S.sw3.drop.sw2.sw12
theorem d_cutQ {l : List Stmt} (n : Nat) (Mid : Shared → Prop) {Q : Flow → Shared → Prop} (h1 : ∀ K : Flow → Shared → Prop, Po (fun f s' => match f with | .next => Mid s' | f => Q f s') K → Does w A (execs (l.take n) env) K s) (h2 : ∀ s', Mid s' → Does w A (execs (l.drop n) env) Q s') : Does w A (execs l env) Q s := by
  rw [← List.take_append_drop n l, execs_append]
  refine wpAny_bind (h1 _ ⟨fun f s' h => ?_⟩)
  cases f with
  | next => exact h2 s' h
  | _ => exact wpAny_pure h
theorem added_ {f : Addr} {F : Fd} {vs : List Value} {m : Fm} {v : Value} {k : Key} {Q : Value → Shared → Prop} (W : Wd w H₀) (hR : Rm A 7) (S : St H₀ o₀ (DicR w f F :: LsR F.pl vs :: R) s) (hF : For F vs m) (hk : KV v k)
    (hz : m.places.length < 2 ^ 18) (hs : m.size < 2 ^ 18) (hs0 : 0 ≤ m.size)
    (h : ∀ F' vs' s', For F' vs' (addedF m k) → St H₀ o₀ (DicR w f F' :: LsR F'.pl vs' :: R) s' → Q .none s') : Does w A (call (.ref 338) [.ref f, v]) Q s := by
  have hzl : vs.length = m.places.length := hF.places.length
  refine d_fun (f := 338) ["form", "key"] ["places", "living", "is_next"] W hR S (nf_fn (by rfl) (by conv => lhs; whnf) (by conv => lhs; whnf)) (by kernel_rfl!) (by kernel_rfl!) rfl (by decide) (by decide +kernel) (by decide +kernel) rfl rfl rfl ?_
  intro L s' S A' hR
  (repeat' tb_rel)
  refine d_pairAssign (H₀ := H₀) (o₀ := o₀) hR.h ?_ (by rfl) (by rfl) rfl (by kernel_rfl!) (by kernel_rfl!)
  (repeat' tb_rel)
  refine living_ W (hR.lower (by omega)) (St.sw (by assumption)) (by k_memK) hF.places (by omega) (fun l ys s3 hy S3 => ?_)
  have S3 := S3.sw2
  have hyl : ys.length = (livK m.places).length := hy.length
  have hyle := livK_le m.places
  (repeat' tb_rel)
  refine ⟨_, _, L, _, _, _, rfl, by assumption, rfl, by decide +kernel, by decide +kernel, fun s4 S4 => ?_⟩
  obtain ⟨tl, S4⟩ : ∃ tl, St H₀ o₀ (FrR H₀ L ["form", "key", "places", "living", "is_next"] [some (.ref f), some v, some (.ref F.pl), some (.int ys.length tl), none] :: DicR w f F :: LsR l ys :: LsR F.pl vs :: R) s4 := ⟨_, S4⟩
  have hpk := hF.pk
  have hsz := hF.size
  have hsl : sizeLine = 2 ^ 24 := rfl
  refine k_next (by assumption) ?_
  refine d_cutQ 1 (fun s1 => ∃ F1 vs1 b1 b2 b3 m1, addedF m k = { m1 with places := m1.places ++ [some k] } ∧ m1.places.length < 2 ^ 20 ∧ For F1 vs1 m1 ∧ St H₀ o₀ (FrR H₀ L ["form", "key", "places", "living", "is_next"] [some (.ref f), some v, b1, b2, b3] :: DicR w f F1 :: LsR F1.pl vs1 :: R) s1) ?_ ?_
  · dsimp only [List.take]
    (repeat' tb_rel)
    cases hp : m.pk
    · rw [hp] at hpk
      rw [hpk]
      (repeat' tb_rel)
      refine split_dec (fun h1 => ?_) (fun h1 => ?_)
      · have c1 : m.size ≤ m.places.length := by rw [← hsz, ← hzl]; exact h1
        (repeat' tb_rel)
        refine split_dec (fun h2 => ?_) (fun h2 => ?_)
        · have c2 : (livK m.places).length + (livK m.places).length / 32 < m.places.length := by rw [← hyl, ← hzl]; omega
          (repeat' tb_rel)
          refine living_ W (hR.lower (by omega)) (St.sw (by assumption)) (by k_memK) hF.places (by omega) (fun l2 ys2 s6 hy2 S6 => ?_)
          have S6 := S6.sw2
          (repeat' tb_rel)
          rename_i S7
          refine ⟨{ F with pl := l2 }, ys2, _, _, _, { m with places := livK m.places }, ?_, by show (livK m.places).length < _; omega, ⟨hF.pk, hF.size, hy2, hF.next⟩, S7.drop3.drop3⟩
          simp [addedF, hp, c1, c2]
        · have c2 : ¬ (livK m.places).length + (livK m.places).length / 32 < m.places.length := by rw [← hyl, ← hzl]; omega
          (repeat' tb_rel)
          rename_i S7
          refine ⟨{ F with sz := F.sz * 2, szt := _ }, vs, _, _, _, { m with size := m.size * 2 }, ?_, by show m.places.length < _; omega, ⟨hF.pk, by show F.sz * 2 = _; rw [hsz], hF.places, hF.next⟩, S7.drop2⟩
          simp [addedF, hp, c1, c2]
      · have c1 : ¬ m.size ≤ m.places.length := by rw [← hsz, ← hzl]; exact h1
        (repeat' tb_rel)
        rename_i S7
        refine ⟨F, vs, _, _, _, m, ?_, by omega, hF, S7.drop2⟩
        simp [addedF, hp, c1]
    · rw [hp] at hpk
      rw [hpk]
      tb_rel
      refine d_cutQ 2 (fun s6 => ∃ F1 m1 b, (match k with | .str _ => m1 = m ∧ b = false | .int i => if m.places.length ≤ i then m1 = grownF m i ∧ b = true else m1 = m ∧ b = false) ∧ m1.pk = true ∧ m1.places = m.places ∧ m1.size < 2 ^ 19 ∧ For F1 vs m1 ∧ F1.pl = F.pl ∧
        St H₀ o₀ (FrR H₀ L ["form", "key", "places", "living", "is_next"] [some (.ref f), some v, some (.ref F.pl), some (.int ys.length tl), some (.bool b)] :: DicR w f F1 :: LsR l ys :: LsR F.pl vs :: R) s6) ?_ ?_
      · dsimp only [List.take]
        cases k with
        | int i =>
          obtain ⟨t, rfl⟩ := KV.int hk
          (repeat' tb_rel)
          refine split_dec (fun h1 => ?_) (fun h1 => ?_)
          · have c1 : (m.places.length : Int) ≤ i := by rw [← hzl]; exact h1
            (repeat' tb_rel)
            refine split_dec (fun h2 => ?_) (fun h2 => ?_)
            · (repeat' tb_rel)
              refine split_dec (fun h3 => ?_) (fun h3 => ?_)
              · (repeat' tb_rel)
                refine split_dec (fun h4 => ?_) (fun h4 => ?_)
                · (repeat' tb_rel)
                  have g : growsF m i := ⟨by omega, by rw [← hsz]; omega, by rw [← hsz, ← hyl]; omega⟩
                  refine ⟨{ F with sz := F.sz * 2, szt := _ }, { m with size := m.size * 2 }, _, ?_, hp, rfl, by show m.size * 2 < _; omega, ⟨hF.pk, by show F.sz * 2 = _; rw [hsz], hF.places, hF.next⟩, rfl, by assumption⟩
                  simp [c1, grownF, g, h1]
                · (repeat' tb_rel)
                  have g : ¬ growsF m i := fun g => h4 (by have := g.2.2; rw [← hsz, ← hyl] at this; omega)
                  refine ⟨F, m, _, ?_, hp, rfl, by omega, hF, rfl, by assumption⟩
                  simp [c1, grownF, g, h1]
              · (repeat' tb_rel)
                have g : ¬ growsF m i := fun g => h3 (by have := g.2.1; rw [← hsz] at this; omega)
                refine ⟨F, m, _, ?_, hp, rfl, by omega, hF, rfl, by assumption⟩
                simp [c1, grownF, g, h1]
            · (repeat' tb_rel)
              have g : ¬ growsF m i := fun g => h2 (by have := g.1; rw [← hsz] at this; omega)
              refine ⟨F, m, _, ?_, hp, rfl, by omega, hF, rfl, by assumption⟩
              simp [c1, grownF, g, h1]
          · have c1 : ¬ (m.places.length : Int) ≤ i := by rw [← hzl]; exact h1
            (repeat' tb_rel)
            refine ⟨F, m, _, ?_, hp, rfl, by omega, hF, rfl, by assumption⟩
            simp [c1, h1]
        | str x =>
          obtain ⟨t, rfl⟩ := KV.str hk
          (repeat' tb_rel)
          exact ⟨F, m, false, ⟨rfl, rfl⟩, hp, rfl, by omega, hF, rfl, by assumption⟩
      · dsimp only [List.drop]
        rintro s6 ⟨F1, m1, b, hk1, hp1, hpl, hs1, hF1, hFp, S6⟩
        have hslow : addedF m k = slowF m1 k → ∀ s8, St H₀ o₀ (FrR H₀ L ["form", "key", "places", "living", "is_next"] [some (.ref f), some v, some (.ref F.pl), some (.int ys.length tl), some (.bool b)] :: DicR w f F1 :: LsR l ys :: LsR F.pl vs :: R) s8 → Does w A' (call (.ref 331) [.ref f]) (fun r s' => ∃ F1 vs1 b1 b2 b3 m1, addedF m k = { m1 with places := m1.places ++ [some k] } ∧ m1.places.length < 2 ^ 20 ∧ For F1 vs1 m1 ∧ St H₀ o₀ (FrR H₀ L ["form", "key", "places", "living", "is_next"] [some (.ref f), some v, b1, b2, b3] :: DicR w f F1 :: LsR F1.pl vs1 :: R) s') s8 := by
          intro e s8 S8
          rw [← hFp] at S8
          refine hash_form_ W (hR.lower (by omega)) (S8.drop2.sw.sw12) hF1 (by rw [hpl]; omega) (fun F2 vs2 s9 hF2 S9 => ?_)
          have S9 := S9.sw12.sw
          refine ⟨F2, vs2, _, _, _, hashF m1, e, ?_, hF2, S9⟩
          have := livK_le m1.places
          show (livK m1.places).length < _
          rw [hpl] at *; omega
        cases b with
        | true =>
          cases k with
          | str x => exact absurd hk1.2 (by simp)
          | int i =>
            dsimp only at hk1
            by_cases c1 : (m.places.length : Int) ≤ i
            · rw [if_pos c1] at hk1
              obtain ⟨rfl, -⟩ := hk1
              obtain ⟨t, rfl⟩ := KV.int hk
              have hsz1 := hF1.size
              (repeat' tb_rel)
              refine split_dec (fun h2 => ?_) (fun h2 => ?_)
              · (repeat' tb_rel)
                rename_i S7
                refine d_mulList S7 (by omega) (by omega) (fun l2 s8 S8 => ?_)
                (repeat' tb_rel)
                refine d_addList S8 (LIn.ls (l := F.pl) (vs := vs) (by k_memK)) (LIn.ls (by k_memK)) (by simp; omega) (fun l3 s9 S9 => ?_)
                (repeat' tb_rel)
                refine d_addList (by assumption) (LIn.ls (l := l3) (by k_memK)) (LIn.ls (vs := [Value.int i t]) (by k_memK)) (by simp; omega) (fun l4 s10 S10 => ?_)
                have S10 := S10.sw15
                (repeat' tb_rel)
                rename_i S11 _ _
                refine h { F1 with pl := l4 } ((vs ++ List.replicate (i - vs.length).toNat Value.none) ++ [Value.int i t]) _ ?_ S11.drop.drop1.drop1.drop1.drop2.drop2
                have hadd : addedF m (.int i) = { grownF m i with places := m.places ++ List.replicate (i - m.places.length).toNat none ++ [some (.int i)] } := by
                  simp only [addedF, hp, c1, if_true]
                  rw [if_pos (by rw [← hsz1]; exact h2)]
                rw [hadd]
                refine ⟨hF1.pk, hF1.size, ?_, hF1.next⟩
                refine KVs.snoc ?_ hk
                have hP := hF.places
                unfold KVs at hP ⊢
                simp only [List.map_append, hP, List.map_replicate, hzl]
                rfl
              · (repeat' tb_rel)
                refine wpAny_mono (hslow ?_ _ (by assumption)) ?_ fun _ _ x => x
                · simp only [addedF, hp, c1, if_true]
                  rw [if_neg (by rw [← hsz1]; exact h2)]
                · rintro r s' ⟨F2, vs2, b1, b2, b3, m2, e1, e2, e3, S9⟩
                  (repeat' tb_rel)
                  exact ⟨F2, vs2, b1, b2, b3, m2, e1, e2, e3, by assumption⟩
            · rw [if_neg c1] at hk1
              exact absurd hk1.2 (by simp)
        | false =>
          have e : addedF m k = slowF m1 k := by
            cases k with
            | str x => obtain ⟨rfl, -⟩ := hk1; simp [addedF, hp]
            | int i =>
              dsimp only at hk1
              by_cases c1 : (m.places.length : Int) ≤ i
              · rw [if_pos c1] at hk1; exact absurd hk1.2 (by simp)
              · rw [if_neg c1] at hk1; obtain ⟨rfl, -⟩ := hk1; simp [addedF, hp, c1]
          (repeat' tb_rel)
          refine wpAny_mono (hslow e _ (by assumption)) ?_ fun _ _ x => x
          rintro r s' ⟨F2, vs2, b1, b2, b3, m2, e1, e2, e3, S9⟩
          (repeat' tb_rel)
          exact ⟨F2, vs2, b1, b2, b3, m2, e1, e2, e3, by assumption⟩
  · dsimp only [List.drop]
    rintro s5 ⟨F1, vs1, b1, b2, b3, m1, e, hz1, hF1, S5⟩
    rw [e] at h
    have hzl1 : vs1.length = m1.places.length := hF1.places.length
    (repeat' tb_rel)
    refine d_addList (by assumption) (LIn.ls (l := F1.pl) (vs := vs1) (by k_memK)) (LIn.ls (vs := [v]) (by k_memK)) (by simp; omega) (fun l2 s6 S6 => ?_)
    have S6 := S6.sw13
    (repeat' tb_rel)
    rename_i S7
    refine h { F1 with pl := l2 } (vs1 ++ [v]) _ ⟨hF1.pk, hF1.size, hF1.places.snoc hk, hF1.next⟩ ?_
    exact S7.drop.drop1.sw12.drop1
end funs

section funs
variable {w : World} {H₀ : Heap} {o₀ : OsState} {A : Around} {s : Shared} {rs R : List Res} {env : Env}
noncomputable def nextF (n : Option Int) : Key → Option Int
  | .str _ => n
  | .int i => match n with | none => some (i + 1) | some b => if b ≤ i then some (i + 1) else some b
noncomputable def putF (m : Fm) (k : Key) : Fm := if some k ∈ livK m.places then m else { addedF m k with next := nextF m.next k }
theorem added_next (m : Fm) (k : Key) : (addedF m k).next = m.next := by
  unfold addedF
  have h1 : ∀ (m : Fm) (i : Int), (grownF m i).next = m.next := by intro m i; unfold grownF; split <;> rfl
  split
  · split
    · rfl
    · split
      · split
        · exact h1 _ _
        · exact h1 _ _
      · rfl
  · split
    · split <;> rfl
    · rfl
theorem livK_ok {ks : List (Option Key)} (h : KsOk ks) : KsOk (livK ks) := fun k hk => h k ((List.mem_filter.mp hk).1)
theorem nxOf_none {v : Value} (h : nxOf v = some none) : v = .none := by
  unfold nxOf at h; split at h <;> simp_all
theorem nxOf_some {v : Value} {i : Int} (h : nxOf v = some (some i)) : ∃ t, v = .int i t := by
  unfold nxOf at h; split at h <;> simp_all
theorem lput_ {f : Addr} {F : Fd} {vs : List Value} {m : Fm} {v : Value} {k : Key} {Q : Value → Shared → Prop} (W : Wd w H₀) (hR : Rm A 9) (S : St H₀ o₀ (DicR w f F :: LsR F.pl vs :: R) s) (hF : For F vs m) (hk : KV v k)
    (hz : m.places.length < 2 ^ 18) (hs : m.size < 2 ^ 18) (hs0 : 0 ≤ m.size) (hok : KsOk m.places) (hko : KOk (some k))
    (h : ∀ F' vs' s', For F' vs' (putF m k) → St H₀ o₀ (DicR w f F' :: LsR F'.pl vs' :: R) s' → Q .none s') : Does w A (call (.ref 345) [.ref f, v]) Q s := by
  refine d_fun (f := 345) ["form", "key"] [] W hR S (nf_fn (by rfl) (by conv => lhs; whnf) (by conv => lhs; whnf)) (by kernel_rfl!) (by kernel_rfl!) rfl (by decide) (by decide +kernel) (by decide +kernel) rfl rfl rfl ?_
  intro L s' S A' hR
  (repeat' tb_rel)
  refine living_ W (hR.lower (by omega)) (St.sw (by assumption)) (by k_memK) hF.places (by have := hF.places.length; omega) (fun l ys s3 hy S3 => ?_)
  have S3 := S3.sw2
  (repeat' tb_rel)
  refine d_notInK (hR.lower (by omega)) (by assumption) (LIn.ls (vs := ys) (by k_memK)) hy (livK_ok hok) hk hko ?_
  have S3 := S3.drop2
  by_cases hm : some k ∈ livK m.places
  · have hm' : some k ∈ List.filter Option.isSome m.places := hm
    rw [decide_eq_true hm']
    (repeat' tb_rel)
    refine h F vs _ ?_ S3.drop
    rw [putF, if_pos hm]; exact hF
  · have hm' : ¬ some k ∈ List.filter Option.isSome m.places := hm
    rw [decide_eq_false hm']
    (repeat' tb_rel)
    refine added_ W (hR.lower (by omega)) ((St.sw (S3)).sw12) hF hk hz hs hs0 (fun F1 vs1 s4 hF1 S4 => ?_)
    have hnx := hF1.next
    rw [added_next] at hnx
    have S4 := S4.sw2.sw12
    have hput : putF m k = { addedF m k with next := nextF m.next k } := by rw [putF, if_neg hm]
    have hput' : nextF m.next k = m.next → putF m k = addedF m k := fun e => by rw [hput, e, ← added_next m k]
    cases k with
    | str x =>
      obtain ⟨t, rfl⟩ := KV.str hk
      (repeat' tb_rel)
      refine h F1 vs1 _ ?_ (St.drop (by assumption))
      rw [hput' rfl]; exact hF1
    | int i =>
      obtain ⟨t, rfl⟩ := KV.int hk
      (repeat' tb_rel)
      cases hn : m.next with
      | none =>
        rw [hn] at hnx
        have e1 := nxOf_none hnx
        rw [e1, show (Value.none == Value.none) = true from rfl]
        (repeat' tb_rel)
        rename_i S6
        refine h { F1 with nx := _ } vs1 _ ?_ (St.drop S6)
        rw [hput, hn]
        exact ⟨hF1.pk, hF1.size, hF1.places, rfl⟩
      | some b =>
        rw [hn] at hnx
        obtain ⟨t1, e1⟩ := nxOf_some hnx
        rw [e1, show (Value.int b t1 == Value.none) = false from rfl]
        (repeat' tb_rel)
        rw [e1]
        (repeat' tb_rel)
        refine split_dec (fun h1 => ?_) (fun h1 => ?_)
        · (repeat' tb_rel)
          rename_i S6
          refine h { F1 with nx := _ } vs1 _ ?_ (St.drop S6)
          rw [hput, hn]
          refine ⟨hF1.pk, hF1.size, hF1.places, ?_⟩
          simp only [nextF, if_pos h1]
          rfl
        · (repeat' tb_rel)
          refine h F1 vs1 _ ?_ (St.drop (by assumption))
          rw [hput' (by rw [hn]; simp only [nextF, if_neg h1])]; exact hF1
end funs

section funs
variable {w : World} {H₀ : Heap} {o₀ : OsState} {A : Around} {s : Shared} {rs R : List Res} {env : Env}
noncomputable def holeK (k : Key) (o : Option Key) : Option Key := if o = some k then none else o
noncomputable def trimK : List (Option Key) → List (Option Key) := fun l => (l.reverse.dropWhile (fun o => o.isNone)).reverse
noncomputable def droppedF (m : Fm) (k : Key) : Fm := if some k ∈ livK m.places then { m with places := if m.places.getLast? = some (some k) then trimK (m.places.map (holeK k)) else m.places.map (holeK k) } else m
theorem trimK_nil : trimK [] = [] := rfl
theorem trimK_none (l : List (Option Key)) : trimK (l ++ [none]) = trimK l := by simp [trimK]
theorem trimK_some (l : List (Option Key)) (k : Key) : trimK (l ++ [some k]) = l ++ [some k] := by simp [trimK]
theorem snocK {l : List (Option Key)} (h : l ≠ []) : ∃ us v, l = us ++ [v] := ⟨l.dropLast, l.getLast h, (List.dropLast_concat_getLast h).symm⟩
theorem KVs.snocE {vs : List Value} {v : Value} {ks : List (Option Key)} (h : KVs (vs ++ [v]) ks) : ∃ us k, ks = us ++ [k] ∧ KVs vs us ∧ kOf v = some k := by
  have hl := h.length
  obtain ⟨us, k, rfl⟩ := snocK (l := ks) (by intro e; rw [e] at hl; simp at hl)
  unfold KVs at h
  rw [List.map_append, List.map_append] at h
  obtain ⟨h1, h2⟩ := List.append_inj h (by simp at hl ⊢; exact hl)
  exact ⟨us, k, rfl, h1, by simpa using h2⟩
theorem slice_init (us : List Value) (v : Value) : (slicePick (us ++ [v]).toArray none (some (-1)) none).toList = us := by
  rw [slicePick_plain]
  have e : clipAt (us ++ [v]).toArray.size (-1) = us.length := by
    unfold clipAt
    rw [if_pos (show (-1 : Int) < 0 by decide), List.size_toArray, show (-1 : Int) + ((us ++ [v]).length : Int) = us.length by simp; omega, Int.min_eq_left (by simp; omega), Int.max_eq_right (Int.natCast_nonneg _), Int.toNat_natCast]
  simp only [Option.elim, e]
  simp
theorem ldropped_ {f : Addr} {F : Fd} {vs : List Value} {m : Fm} {v : Value} {k : Key} {Q : Value → Shared → Prop} (W : Wd w H₀) (hR : Rm A 6) (S : St H₀ o₀ (DicR w f F :: LsR F.pl vs :: R) s) (hF : For F vs m) (hk : KV v k)
    (hz : m.places.length < 2 ^ 18) (hok : KsOk m.places) (hko : KOk (some k))
    (h : ∀ F' vs' s', For F' vs' (droppedF m k) → St H₀ o₀ (DicR w f F' :: LsR F'.pl vs' :: R) s' → Q .none s') : Does w A (call (.ref 350) [.ref f, v]) Q s := by
  have hzl := hF.places.length
  refine d_funC (f := 350) ["form", "key"] ["places"] (fun L => [CellR (L + 1) v]) W hR S (nf_fn (by rfl) (by conv => lhs; whnf) (by conv => lhs; whnf)) (by kernel_rfl!) (by kernel_rfl!) rfl (by decide) (by decide +kernel) (by decide +kernel) (by intro L; rfl) rfl rfl rfl ?_
  intro L s' S A' hR
  have S : St H₀ o₀ (FrR H₀ L ["form", "key", "places"] [some (.ref f), none, none] :: CellR (L + 1) v :: DicR w f F :: LsR F.pl vs :: R) s' := S
  (repeat' tb_rel)
  refine living_ W (hR.lower (by omega)) (S.sw2) (by k_memK) hF.places (by omega) (fun l ys s3 hy S3 => ?_)
  have S3 := S3.sw3
  refine d_inK (hR.lower (by omega)) S3 (LIn.ls (l := l) (vs := ys) (by k_memK)) hy (livK_ok hok) hk hko ?_
  have S3 := S3.sw3.drop.sw2.sw12
  by_cases hm : some k ∈ livK m.places
  · have hm' : some k ∈ List.filter Option.isSome m.places := hm
    rw [decide_eq_true hm']
    tb_rel
    tb_rel
    refine d_cut 1 (fun s4 => ∃ D ys, KVs ys (m.places.map (holeK k)) ∧ St H₀ o₀ (FrR H₀ L ["form", "key", "places"] [some (.ref f), none, some (.ref D)] :: DicR w f F :: CellR (L + 1) v :: LsR D ys :: LsR F.pl vs :: R) s4) ?_ ?_
    · dsimp only [List.take]
      tb_rel
      tb_rel
      refine d_compAssign (H₀ := H₀) (o₀ := o₀) hR.h (by with_unfolding_all rfl) (by rfl) (by decide +kernel) rfl (by decide +kernel) rfl rfl (by kernel_rfl!) ?_ (by intro _; with_unfolding_all rfl)
      (repeat' tb_rel)
      refine d_iter_list (by assumption) (LIn.ls (l := F.pl) (vs := vs) (by k_memK)) (fun I s5 IT S5 => ?_)
      refine ⟨I, _, _, _, _, L, _, _, _, fun j ys R1 => KVs ys ((m.places.take j).map (holeK k)) ∧ ys.length ≤ j ∧ R1 = DicR w f F :: CellR (L + 1) v :: LsR F.pl vs :: R, rfl, IT, S5, ⟨rfl, by simp, rfl⟩, ?_, ?_, ?_, ?_, ?_⟩
      · rintro j C D vs1 ys R1 ⟨_, _, rfl⟩; exact LIn.ls (by k_memK)
      · unfold sizeLine; omega
      · rintro j ys R1 ⟨_, h1, _⟩; exact h1
      · rintro j v' C D ys R1 s6 hj hP ⟨hy, hyl, rfl⟩ S6
        obtain ⟨ko, hko'⟩ : ∃ k, m.places[j]? = some k := ⟨_, List.getElem?_eq_getElem (by rw [← hzl]; exact hj)⟩
        obtain ⟨v'', hv', hkv⟩ := hF.places.get hko'
        obtain rfl : v'' = v' := Option.some.inj (hv'.symm.trans hP)
        have e : m.places.take (j + 1) = m.places.take j ++ [ko] := by rw [List.take_add_one, hko']; rfl
        refine d_if0 ?_
        (repeat' tb_rel)
        have e2 : (m.places.take (j + 1)).map (holeK k) = (m.places.take j).map (holeK k) ++ [holeK k ko] := by rw [e]; simp
        by_cases h1 : ko = some k
        · rw [beq_iff_eq.mpr h1]
          (repeat' tb_rel)
          refine ⟨_, ⟨?_, by simp; omega, rfl⟩, by assumption⟩
          rw [e2]
          exact hy.snoc (by rw [holeK, if_pos h1]; rfl)
        · rw [beq_eq_false_iff_ne.mpr h1]
          (repeat' tb_rel)
          refine ⟨_, ⟨?_, by simp; omega, rfl⟩, by assumption⟩
          rw [e2]
          exact hy.snoc (by rw [holeK, if_neg h1]; exact hkv)
      · rintro D ys R1 s6 ⟨hy, hyl, rfl⟩ S6
        rw [List.take_of_length_le (by rw [hzl]; exact Nat.le_refl _)] at hy
        refine ⟨rfl, by decide +kernel, fun s7 S7 => ?_⟩
        (repeat' tb_rel)
        exact ⟨rfl, D, ys, hy, S7.sw13.sw12⟩
    · dsimp only [List.drop]
      rintro s4 ⟨D, ys, hy, S4⟩
      refine d_cut 1 (fun s4 => ∃ D ys, KVs ys (if m.places.getLast? = some (some k) then trimK (m.places.map (holeK k)) else m.places.map (holeK k)) ∧ St H₀ o₀ (FrR H₀ L ["form", "key", "places"] [some (.ref f), none, some (.ref D)] :: DicR w f F :: CellR (L + 1) v :: LsR D ys :: LsR F.pl vs :: R) s4) ?_ ?_
      · dsimp only [List.take]
        have hne : m.places ≠ [] := fun e => by rw [e] at hm; simp [livK] at hm
        obtain ⟨pre, last, hpl⟩ := snocK hne
        have hvs : vs ≠ [] := fun e => by rw [e, hpl] at hzl; simp at hzl
        obtain ⟨vpre, vlast, hvl⟩ := snoc_of hvs
        have hgl : vs.getLast? = some vlast := by rw [hvl]; simp
        have hkl : kOf vlast = some last := by
          have hP := hF.places
          rw [hvl, hpl] at hP
          obtain ⟨us, k1, e1, -, e3⟩ := hP.snocE
          obtain ⟨-, e4⟩ := List.append_inj' e1 rfl
          rw [e3, (List.cons.inj e4).1]
        have hglk : m.places.getLast? = some last := by rw [hpl]; simp
        rw [hglk]
        (repeat' tb_rel)
        by_cases h1 : last = some k
        · have hlk : some last = some (some k) := by rw [h1]
          rw [beq_iff_eq.mpr h1]
          (repeat' tb_rel)
          refine d_while hR.h (fun n s => ∃ D ys us, us.length = n ∧ n ≤ m.places.length ∧ KVs ys us ∧ KsOk us ∧ trimK us = trimK (m.places.map (holeK k)) ∧ St H₀ o₀ (FrR H₀ L ["form", "key", "places"] [some (.ref f), none, some (.ref D)] :: DicR w f F :: CellR (L + 1) v :: LsR D ys :: LsR F.pl vs :: R) s) m.places.length ⟨D, ys, _, by simp, Nat.le_refl _, hy, ?_, rfl, by assumption⟩ ?_
          · intro o ho
            obtain ⟨o1, h2, rfl⟩ := List.mem_map.mp ho
            unfold holeK
            split
            · rfl
            · exact hok _ h2
          · rintro n s5 ⟨D1, ys1, us1, hn, hnl, hy1, hok1, htr, S5⟩
            (repeat' tb_rel)
            refine d_neKs (hR.lower (by omega)) (by assumption) (LIn.ls (vs := ys1) (by k_memK)) (LIn.ls (vs := []) (by k_memK)) hy1 (js := []) rfl hok1 (by intro k hk; cases hk) ?_
            by_cases hu : us1 = []
            · subst hu
              rw [show (!decide (([] : List (Option Key)) = [])) = false from rfl]
              (repeat' tb_rel)
              exact ⟨rfl, D1, ys1, by rw [if_pos hlk, ← htr]; exact hy1, St.drop1 (by assumption)⟩
            · rw [show (!decide (us1 = ([] : List (Option Key)))) = true by simp [hu]]
              obtain ⟨us2, k2, rfl⟩ := snocK hu
              have hl1 := hy1.length
              obtain ⟨ys2, v2, rfl⟩ := snoc_of (l := ys1) (by intro e; rw [e] at hl1; simp at hl1)
              obtain ⟨us3, k3, e3, hy3, hk3⟩ := hy1.snocE
              obtain ⟨rfl, e4⟩ := List.append_inj' e3 rfl
              obtain rfl := (List.cons.inj e4).1
              have hgl2 : (ys2 ++ [v2]).getLast? = some v2 := by simp
              have q1 : (us2 ++ [k2]).length = us2.length + 1 := by simp
              have q2 : (ys2 ++ [v2]).length = ys2.length + 1 := by simp
              (repeat' tb_rel)
              cases k2 with
              | some k2 =>
                have hvn : (v2 == Value.none) = false := by
                  cases k2 with
                  | int i => obtain ⟨t, rfl⟩ := KV.int hk3; rfl
                  | str x => obtain ⟨t, rfl⟩ := KV.str hk3; rfl
                rw [hvn]
                (repeat' tb_rel)
                refine ⟨rfl, D1, _, ?_, St.drop1 (by assumption)⟩
                rw [if_pos hlk, ← htr, trimK_some]; exact hy1
              | none =>
                obtain rfl := kOf_none hk3
                rw [show (Value.none == Value.none) = true from rfl]
                (repeat' tb_rel)
                refine ⟨D1, _, _, _, _, _, rfl, by assumption, LIn.ls (vs := ys2 ++ [Value.none]) (by k_memK), by unfold sizeLine; omega, .none, .int _ _, fun D2 s8 S8 => ?_⟩
                rw [slice_init] at S8
                (repeat' tb_rel)
                refine ⟨us2.length, ?_, D2, ys2, us2, rfl, by omega, hy3, fun k hk => hok1 k (List.mem_append_left _ hk), by rw [← htr, trimK_none], ?_⟩
                · omega
                · rename_i S9
                  exact S9.drop2.sw14.drop1
        · have hlk : ¬ some last = some (some k) := fun e => h1 (Option.some.inj e)
          rw [beq_eq_false_iff_ne.mpr h1]
          (repeat' tb_rel)
          exact ⟨rfl, D, ys, by rw [if_neg hlk]; exact hy, by assumption⟩
      · dsimp only [List.drop]
        rintro s4 ⟨D, ys, hy, S4⟩
        (repeat' tb_rel)
        rename_i S5
        refine h { F with pl := D } ys _ ?_ S5.drop.drop1.drop2
        rw [droppedF, if_pos hm]
        exact ⟨hF.pk, hF.size, hy, hF.next⟩
  · have hm' : ¬ some k ∈ List.filter Option.isSome m.places := hm
    rw [decide_eq_false hm']
    (repeat' tb_rel)
    refine h F vs _ ?_ S3.drop.drop1
    rw [droppedF, if_neg hm]; exact hF
end funs

section funs
variable {w : World} {H₀ : Heap} {o₀ : OsState} {A : Around} {s : Shared} {rs R : List Res} {env : Env}
noncomputable def horn (cs : List Nat) : Int := cs.foldl (fun (f : Int) (c : Nat) => f * 33 + (c : Int)) 5381
theorem horn_snoc (cs : List Nat) (c : Nat) : horn (cs ++ [c]) = horn cs * 33 + (c : Int) := by
  unfold horn; rw [List.foldl_append]; rfl
theorem horn_mod (cs : List Nat) : horn cs % 2 ^ 64 = hashS cs := by
  unfold horn hashS
  suffices ∀ (cs : List Nat) (a b : Int), a % 2 ^ 64 = b → cs.foldl (fun (f : Int) (c : Nat) => f * 33 + (c : Int)) a % 2 ^ 64 = cs.foldl (fun (f : Int) (c : Nat) => (f * 33 + (c : Int)) % 2 ^ 64) b from this cs 5381 5381 (by decide)
  intro cs
  induction cs with
  | nil => intro a b h; exact h
  | cons c r ih =>
    intro a b h
    refine ih _ _ ?_
    show (a * 33 + (c : Int)) % 2 ^ 64 = (b * 33 + (c : Int)) % 2 ^ 64
    omega
theorem lhash_ {v : Value} {k : Key} {Q : Value → Shared → Prop} (W : Wd w H₀) (hR : Rm A 3) (S : St H₀ o₀ R s) (hv : KV v k) (hsm : ∀ x, k = .str x → x.cps.size ≤ 8)
    (h : ∀ t s', St H₀ o₀ R s' → Q (.int (hashK k) t) s') : Does w A (call (.ref 357) [v]) Q s := by
  refine d_fun (f := 357) ["key"] ["told", "place", "sign"] W hR S (nf_fn (by rfl) (by conv => lhs; whnf) (by conv => lhs; whnf)) (by kernel_rfl!) (by kernel_rfl!) rfl (by decide) (by decide +kernel) (by decide +kernel) rfl rfl rfl ?_
  intro L s' S A' hR
  cases k with
  | int i =>
    obtain ⟨t, rfl⟩ := hv.int
    (repeat' tb_rel)
    exact h _ _ (St.drop (by assumption))
  | str x =>
    obtain ⟨t, rfl⟩ := hv.str
    have h8 := hsm x rfl
    have hb1 : ((Builtin.Int.intBits 33 : Nat) : Int) * (x.cps.size : Int) ≤ 2 ^ 27 := by
      show (6 : Int) * _ ≤ _
      omega
    (repeat' tb_rel)
    refine d_enum_str (by assumption) fun e it s₁ EN S₁ => ?_
    refine d_iter_enum S₁ ?_
    refine d_forE (fun i vs R' => R' = R ∧ ∃ z t1 u1 u2, z = horn (x.cps.toList.take i) * 33 ^ (x.cps.size - i) ∧ vs = [some (.str x t), some (.int z t1), u1, u2]) hR.h EN S₁ ⟨rfl, _, _, _, _, rfl, rfl⟩ (fun _ _ _ _ => trivial) rfl (by decide) (by decide) (by kernel_rfl!) (by kernel_rfl!) (by kernel_rfl!) ?_ ?_
    · rintro i ti v vs R' s₂ hi ⟨c, u, hc, rfl⟩ ⟨rfl, z, t1, u1, u2, hz, rfl⟩ S₂
      have hb2 : ((Builtin.Int.intBits 33 : Nat) : Int) * ((x.cps.size : Int) - 1 - (i : Int)) ≤ 2 ^ 27 := by
        show (6 : Int) * _ ≤ _
        omega
      have hm : IntMulOk (c : Int) (33 ^ ((x.cps.size : Int) - 1 - (i : Int)).toNat) := by
        refine IntMulOk.of_right (intBits_le_64 ?_ ?_)
        · have : (0 : Int) < 33 ^ ((x.cps.size : Int) - 1 - (i : Int)).toNat := Int.pow_pos (by decide)
          omega
        · have h1 : ((x.cps.size : Int) - 1 - (i : Int)).toNat ≤ 8 := by omega
          have h2 : (33 : Int) ^ ((x.cps.size : Int) - 1 - (i : Int)).toNat ≤ 33 ^ 8 := by
            exact_mod_cast Nat.pow_le_pow_right (by decide : 0 < 33) h1
          omega
      (repeat' tb_rel)
      refine ⟨_, _, ⟨rfl, _, _, _, _, ?_, rfl⟩, by assumption⟩
      have hts : x.cps.toList.take (i + 1) = x.cps.toList.take i ++ [c] := by
        rw [List.take_add_one, show x.cps.toList[i]? = some c by simpa using hc]; rfl
      rw [hz, hts, horn_snoc, show ((x.cps.size : Int) - 1 - (i : Int)).toNat = x.cps.size - (i + 1) by omega, show x.cps.size - i = (x.cps.size - (i + 1)) + 1 by omega, Int.pow_succ, Int.add_mul]
      congr 1
      rw [Int.mul_assoc, Int.mul_comm 33]
    · rintro vs R' s₂ ⟨rfl, z, t1, u1, u2, hz, rfl⟩ S₂
      have e : x.cps.toList.take x.cps.size = x.cps.toList := List.take_of_length_le (by simp)
      rw [e, Nat.sub_self, Int.pow_zero, Int.mul_one] at hz
      have hb := hashS_bd x.cps.toList
      have hzm : z % 2 ^ 64 = hashS x.cps.toList := by rw [hz]; exact horn_mod _
      (repeat' tb_rel)
      rw [show (2 : Int) ^ Int.toNat 64 = 2 ^ 64 from rfl, show (2 : Int) ^ Int.toNat 63 = 2 ^ 63 from rfl, hzm]
      refine split_dec (fun h1 => ?_) (fun h1 => ?_)
      · (repeat' tb_rel)
        rw [show (2 : Int) ^ Int.toNat 64 = 2 ^ 64 from rfl, hzm]
        have := h
        simp only [hashK, if_neg (show ¬ hashS x.cps.toList < 2 ^ 63 by omega)] at this
        exact this _ _ (St.drop (by assumption))
      · (repeat' tb_rel)
        rw [show (2 : Int) ^ Int.toNat 64 = 2 ^ 64 from rfl, show (2 : Int) ^ Int.toNat 63 = 2 ^ 63 from rfl, hzm]
        have := h
        simp only [hashK, if_pos (show hashS x.cps.toList < 2 ^ 63 by omega)] at this
        exact this _ _ (St.drop (by assumption))
end funs

section funs
variable {w : World} {H₀ : Heap} {o₀ : OsState} {A : Around} {s : Shared} {rs R : List Res} {env : Env}
theorem lchain_ {x : Addr} {a : Ad} {m : Pm} {hd : Int} {t : Tok} {l : List Nat} {Q : Value → Shared → Prop} (W : Wd w H₀) (hR : Rm A 3) (S : St H₀ o₀ (ArrR w.params x a :: R) s) (hm : Arp a m)
    (hc : Chn m.nexts hd l) (hl : l.length ≤ m.lives.length) (hz : m.lives.length < 2 ^ 20) (hz2 : m.nexts.length < 2 ^ 20)
    (h : ∀ d ys s', IV ys (l.map fun (p : Nat) => (p : Int)) → St H₀ o₀ (LsR d ys :: ArrR w.params x a :: R) s' → Q (.ref d) s') : Does w A (call (.ref 364) [.ref x, .int hd t]) Q s := by
  have hvl := hm.vlen
  refine d_fun (f := 364) ["arr", "head"] ["found"] W hR S (nf_fn (by rfl) (by conv => lhs; whnf) (by conv => lhs; whnf)) (by kernel_rfl!) (by kernel_rfl!) rfl (by decide) (by decide +kernel) (by decide +kernel) rfl rfl rfl ?_
  intro L s' S A' hR
  (repeat' tb_rel)
  rename_i d s1 S1 s2 S2 _ _
  refine d_while hR.h (fun n s => ∃ l0 l1 hv t1 ys, l = l0 ++ l1 ∧ n = l1.length ∧ Chn m.nexts hv l1 ∧ IV ys (l0.map fun (p : Nat) => (p : Int)) ∧ St H₀ o₀ (FrR H₀ L ["arr", "head", "found"]
    [some (.ref x), some (.int hv t1), some (.ref d)] :: LsR d ys :: ArrR w.params x a :: R) s) l.length
    ⟨[], l, hd, _, _, rfl, rfl, hc, (show IV [] [] from rfl), S2⟩ ?_
  rintro n s3 ⟨l0, l1, hv, t1, ys, rfl, rfl, hch, hys, S3⟩
  have hyl : ys.length = l0.length := by simpa using hys.length
  have hll : l0.length + l1.length ≤ m.lives.length := by simpa using hl
  (repeat' tb_rel)
  cases l1 with
  | nil =>
    obtain rfl : hv = -1 := hch
    rw [show ((-1 : Int) != -1) = false from rfl]
    (repeat' tb_rel)
    refine h d ys _ (by simpa using hys) (St.drop (by assumption))
  | cons q r =>
    obtain ⟨rfl, n, hn, hr⟩ := hch
    obtain ⟨tn, htn⟩ := hm.nexts.get hn
    have htn' : a.ns[(q : Int).toNat]? = some (.int n tn) := htn
    have hq := (List.getElem?_eq_some_iff.mp hn).1
    have hq63 : (q : Int) < 2 ^ 63 := by omega
    rw [show ((q : Int) != -1) = true from bne_iff_ne.mpr (by omega)]
    (repeat' tb_rel)
    rw [decide_eq_true (show (ys.length : Int) ≤ (a.vs.length : Int) by simp at hll; omega)]
    (repeat' tb_rel)
    refine d_appendL (by assumption) (by unfold sizeLine; omega) (fun s4 S4 => ?_)
    (repeat' tb_rel)
    refine ⟨r.length, by simp, l0 ++ [q], r, n, _, _, by simp, rfl, hr, ?_, by assumption⟩
    rw [List.map_append]
    exact hys.snoc _ _
end funs

section funs
variable {w : World} {H₀ : Heap} {o₀ : OsState} {A : Around} {s : Shared} {rs R : List Res} {env : Env}
theorem St.dropL : ∀ {X : List Res}, St H₀ o₀ (X ++ R) s → St H₀ o₀ R s
  | [], S => S
  | _ :: X, S => St.dropL (X := X) (St.drop S)
theorem St.dropLL {X : List Res} (F : List Res) (S : St H₀ o₀ (F ++ (X ++ R)) s) : St H₀ o₀ (F ++ R) s := by
  refine St.dropL (X := X) (S.perm ?_)
  rw [← List.append_assoc, ← List.append_assoc]
  exact List.perm_append_comm.append_right R
noncomputable def hitC (places : List (Option Key)) (size : Int) (c p : Nat) : Bool := match places[p]? with | some (some k) => (hashK k % size).toNat == c | _ => false
noncomputable def dueTo (places : List (Option Key)) (size : Int) (i c : Nat) : List Nat := ((List.range places.length).reverse.take i).filter (hitC places size c)
noncomputable def dueOf (places : List (Option Key)) (size : Int) (c : Nat) : List Nat := (List.range places.length).reverse.filter (hitC places size c)
theorem dueTo_all (places : List (Option Key)) (size : Int) (c : Nat) : dueTo places size places.length c = dueOf places size c := by
  unfold dueTo dueOf
  rw [List.take_of_length_le (by simp)]
theorem dueTo_step (places : List (Option Key)) (size : Int) (i c : Nat) (hi : i < places.length) : dueTo places size (i + 1) c = dueTo places size i c ++ if hitC places size c (places.length - 1 - i) = true then [places.length - 1 - i] else [] := by
  unfold dueTo
  have e : (List.range places.length).reverse[i]? = some (places.length - 1 - i) := by
    rw [List.getElem?_reverse (by simpa using hi), List.length_range, List.getElem?_range (by omega)]
  rw [List.take_add_one, e, List.filter_append]
  congr 1
  simp only [Option.toList, List.filter_cons, List.filter_nil]
theorem dueTo_len (places : List (Option Key)) (size : Int) (i c : Nat) : (dueTo places size i c).length ≤ places.length := by
  unfold dueTo
  refine Nat.le_trans (List.length_filter_le ..) ?_
  simp; omega
structure RightH (m : Pm) (fm : Fm) : Prop where
  keys : m.keys = fm.places
  heads : (m.heads.length : Int) = fm.size
  nexts : m.nexts.length = fm.places.length
  lives : m.lives.length = fm.places.length
  ok : KsOk fm.places
  sm : ∀ x : Str, some (Key.str x) ∈ fm.places → x.cps.size ≤ 8
  z : fm.places.length < 2 ^ 20
  z2 : fm.size < 2 ^ 20
  pos : 0 < fm.size
  chains : ∀ c : Nat, c < m.heads.length → ∃ hd, m.heads[c]? = some hd ∧ Chn m.nexts hd (dueOf fm.places fm.size c)
theorem lchains_ {x f : Addr} {a : Ad} {m : Pm} {F : Fd} {vs : List Value} {fm : Fm} {Q : Value → Shared → Prop} (W : Wd w H₀) (hR : Rm A 5) (S : St H₀ o₀ (ArrR w.params x a :: DicR w f F :: LsR F.pl vs :: R) s) (hm : Arp a m) (hF : For F vs fm) (H : RightH m fm)
    (h : ∀ s', St H₀ o₀ (ArrR w.params x a :: DicR w f F :: LsR F.pl vs :: R) s' → Q (.bool true) s') : Does w A (call (.ref 369) [.ref x, .ref f]) Q s := by
  have hvl := hm.vlen
  have hpl := hF.places.length
  have hhl := hm.heads.length
  have hnl := hm.nexts.length
  have hsz := hF.size
  have hz := H.z
  have hz2 := H.z2
  have h1 := H.keys
  have h2 := H.heads
  have h3 := H.nexts
  have h4 := H.lives
  have h5 := H.pos
  refine d_funC (f := 369) ["arr", "form"] ["places", "size", "due", "place"] (fun L => [CellR (L + 1) (.ref x)]) W hR S (nf_fn (by rfl) (by conv => lhs; whnf) (by conv => lhs; whnf)) (by kernel_rfl!) (by kernel_rfl!) rfl (by decide) (by decide +kernel) (by decide +kernel) (by intro L; rfl) rfl rfl rfl ?_
  intro L s' S A' hR
  have S : St H₀ o₀ (FrR H₀ L ["arr", "form", "places", "size", "due", "place"] [none, some (.ref f), none, none, none, none] :: CellR (L + 1) (.ref x) :: ArrR w.params x a :: DicR w f F :: LsR F.pl vs :: R) s' := S
  (repeat' tb_rel)
  refine d_pairAssign (H₀ := H₀) (o₀ := o₀) hR.h ?_ (by rfl) (by rfl) rfl (by kernel_rfl!) (by kernel_rfl!)
  (repeat' tb_rel)
  refine ⟨_, _, L, _, _, _, rfl, by assumption, rfl, by decide +kernel, by decide +kernel, fun s4 S4 => ?_⟩
  (repeat' tb_rel)
  refine d_neKs (hR.lower (by omega)) (by assumption) (LIn.keys (a := a) (by k_memK) rfl) (LIn.ls (vs := vs) (by k_memK)) hm.keys hF.places (by rw [h1]; exact H.ok) H.ok ?_
  rw [show (!decide (m.keys = fm.places)) = false by rw [h1]; simp]
  (repeat' tb_rel)
  refine split_bne (fun hne => absurd (show (a.hs.length : Int) = F.sz by omega) hne) (fun _ => ?_)
  (repeat' tb_rel)
  refine split_bne (fun hne => absurd (show (a.ns.length : Int) = vs.length by omega) hne) (fun _ => ?_)
  (repeat' tb_rel)
  obtain ⟨n, hn⟩ : ∃ n : Nat, F.sz = n := ⟨fm.size.toNat, by omega⟩
  refine d_compAssign (H₀ := H₀) (o₀ := o₀) hR.h (by with_unfolding_all rfl) (by rfl) (by decide +kernel) rfl (by decide +kernel) rfl rfl (by kernel_rfl!) ?_ (by intro _; with_unfolding_all rfl)
  (repeat' tb_rel)
  refine d_range1 (by assumption) (fun r t3 t4 t5 s5 hr S5 => ?_)
  (repeat' tb_rel)
  refine d_iterR (n := n) (by assumption) (by rw [← hn]; exact hr) (by omega) (fun I s6 IT S6 => ?_)
  refine ⟨I, _, _, _, _, L, _, _, _, fun j ys R1 => ∃ ls : List Addr, ls.length = j ∧ ys = ls.map Value.ref ∧ R1 = CellR (L + 1) (.ref x) :: ArrR w.params x a :: DicR w f F :: LsR F.pl vs :: (LLs ls (List.replicate j []) ++ R), rfl, IT, S6, ⟨[], rfl, rfl, rfl⟩, ?_, ?_, ?_, ?_, ?_⟩
  · intros; trivial
  · unfold sizeLine; omega
  · rintro j ys R1 ⟨ls, rfl, rfl, _⟩; simp
  · rintro j v C D ys R1 s7 hj hP ⟨ls, hl, rfl, rfl⟩ S7
    refine d_if0 ?_
    (repeat' tb_rel)
    rename_i l s8 S8
    refine ⟨_, ⟨ls ++ [l], by simp [hl], by simp, rfl⟩, ?_⟩
    rw [List.replicate_succ']
    exact St.snocLL [_, _, _, _, _, _, _, _] S8.sw (by simp [hl])
  rintro D ys R1 s7 ⟨ls, hls, rfl, rfl⟩ S7
  refine ⟨rfl, by decide +kernel, fun s8 S8 => ?_⟩
  (repeat' tb_rel)
  refine d_range3 (by assumption) (by decide) (by decide) (fun r2 t6 t7 t8 s9 hr2 S9 => ?_)
  (repeat' tb_rel)
  refine d_iterRD (n := vs.length) (by assumption) hr2 (by omega) (fun I2 s10 IT2 S10 => ?_)
  refine d_forL (fun i vs' R' => ∃ vss u, vss.length = n ∧ (∀ c, c < n → ∃ us, vss[c]? = some us ∧ IV us ((dueTo fm.places fm.size i c).map fun (p : Nat) => (p : Int))) ∧ vs' = [none, some (.ref f), some (.ref F.pl), some (.int F.sz F.szt), some (.ref D), u] ∧
    R' = LsR D (ls.map Value.ref) :: CellR (L + 1) (.ref x) :: ArrR w.params x a :: DicR w f F :: LsR F.pl vs :: (LLs ls vss ++ R)) hR.h IT2 S10 ⟨List.replicate n [], _, by simp, ?_, rfl, rfl⟩ (fun _ _ _ _ => trivial) rfl (by decide +kernel) rfl (by kernel_rfl!) ?_ ?_
  · intro c hc
    refine ⟨[], by simp [hc], ?_⟩
    simp [dueTo, IV]
  · rintro i v vs' R' s11 hi ⟨tp, rfl⟩ ⟨vss, u, hvss, hvs, rfl, rfl⟩ S11
    have hpi : ((vs.length : Int) - 1 - (i : Int)).toNat = vs.length - 1 - i := by omega
    obtain ⟨ko, hko⟩ : ∃ k, fm.places[vs.length - 1 - i]? = some k := ⟨_, List.getElem?_eq_getElem (by omega)⟩
    obtain ⟨v', hv', hkv⟩ := hF.places.get hko
    have hv2 : vs[((vs.length : Int) - 1 - (i : Int)).toNat]? = some v' := by rw [hpi]; exact hv'
    have hp0 : 0 ≤ (vs.length : Int) - 1 - (i : Int) := by omega
    have hp63 : (vs.length : Int) - 1 - (i : Int) < 2 ^ 63 := by omega
    (repeat' tb_rel)
    have hst := fun c => dueTo_step fm.places fm.size i c (by omega)
    rw [← hpl] at hst
    cases ko with
    | none =>
      obtain rfl := kOf_none hkv
      rw [show (!(Value.none == Value.none)) = false from rfl]
      (repeat' tb_rel)
      refine ⟨_, _, ⟨vss, _, hvss, fun c hc => ?_, rfl, rfl⟩, by assumption⟩
      rw [hst, if_neg (by simp [hitC, hko]), List.append_nil]
      exact hvs c hc
    | some k =>
      have hne : (!(v' == Value.none)) = true := by
        cases k with
        | int i => obtain ⟨t, rfl⟩ := KV.int hkv; rfl
        | str x => obtain ⟨t, rfl⟩ := KV.str hkv; rfl
      rw [hne]
      (repeat' tb_rel)
      have hzp : 0 < F.sz := by omega
      have hc0 : 0 ≤ hashK k % F.sz := Int.emod_nonneg _ (by omega)
      have hc1 : hashK k % F.sz < F.sz := Int.emod_lt_of_pos _ hzp
      have hc2 : hashK k % F.sz < 2 ^ 63 := by omega
      have hcn : (hashK k % F.sz).toNat < n := by omega
      obtain ⟨l, hl⟩ : ∃ l, ls[(hashK k % F.sz).toNat]? = some l := ⟨_, List.getElem?_eq_getElem (by omega)⟩
      have hl2 : (ls.map Value.ref)[(hashK k % F.sz).toNat]? = some (.ref l) := by rw [List.getElem?_map, hl]; rfl
      obtain ⟨us, hus, hiv⟩ := hvs _ hcn
      refine lhash_ W (hR.lower (by omega)) (by assumption) hkv (fun x' e => H.sm x' (by rw [← e]; exact List.mem_of_getElem? hko)) (fun t9 s12 S12 => ?_)
      (repeat' tb_rel)
      rename_i S13
      have hmem : LIn (FrR H₀ L ["arr", "form", "places", "size", "due", "place"] [none, some (.ref f), some (.ref F.pl), some (.int F.sz F.szt), some (.ref D), some (.int ((vs.length : Int) - 1 - (i : Int)) tp)] :: ItR I2 (fun h => IsRangeIter h I2 ((vs.length - 1 : Int) + ((i + 1 : Nat) : Nat) * (-1)) ((vs.length : Int) - ((i + 1 : Nat) : Nat)) (-1)) :: LsR D (ls.map Value.ref) :: CellR (L + 1) (.ref x) :: ArrR w.params x a :: DicR w f F :: LsR F.pl vs :: (LLs ls vss ++ R)) l us :=
        LIn.ls (.tail _ (.tail _ (.tail _ (.tail _ (.tail _ (.tail _ (.tail _ (List.mem_append_left _ (LLs_mem hl hus)))))))))
      refine d_lmeth (name := "append") (id := "list.append") S13 hmem PySem.F.slot_list_append (by with_unfolding_all rfl) ?_
      (repeat' tb_rel)
      have hul : us.length ≤ sizeLine := by
        have := hiv.length
        have h8 := dueTo_len fm.places fm.size i (hashK k % F.sz).toNat
        unfold sizeLine
        simp at this; omega
      refine d_appendLL [_, _, _, _, _, _] (by assumption) hl hus hul (fun s14 S14 => ?_)
      (repeat' tb_rel)
      refine ⟨_, _, ⟨vss.set (hashK k % F.sz).toNat (us ++ [.int ((vs.length : Int) - 1 - (i : Int)) tp]), _, by simp [hvss], fun c hc => ?_, rfl, rfl⟩, by assumption⟩
      rw [hst]
      by_cases hcc : c = (hashK k % F.sz).toNat
      · refine ⟨us ++ [.int ((vs.length : Int) - 1 - (i : Int)) tp], by rw [hcc, List.getElem?_set_self (by omega)], ?_⟩
        rw [if_pos (by simp [hitC, hko, hcc, hsz]), List.map_append, hcc]
        have := hiv.snoc ((vs.length : Int) - 1 - (i : Int)) tp
        rw [show (vs.length : Int) - 1 - (i : Int) = ((vs.length - 1 - i : Nat) : Int) by omega] at this ⊢
        exact this
      · obtain ⟨us', hus', hiv'⟩ := hvs c hc
        refine ⟨us', by rw [List.getElem?_set_ne (fun q => hcc q.symm)]; exact hus', ?_⟩
        rw [if_neg (by simp only [hitC, hko]; rw [← hsz]; simpa using fun q => hcc q.symm), List.append_nil]
        exact hiv'
  · rintro vs' R' s11 ⟨vss, u, hvss, hvs, rfl, rfl⟩ S11
    (repeat' tb_rel)
    refine d_comp (H₀ := H₀) (o₀ := o₀) hR.h (by rfl) (by decide +kernel) rfl (by decide +kernel) rfl ?_ (by intro _; with_unfolding_all rfl)
    (repeat' tb_rel)
    refine d_iter_list (by assumption) (LIn.heads (a := a) (by k_memK) rfl) (fun I3 s12 IT3 S12 => ?_)
    refine ⟨I3, _, _, _, _, L, _, _, _, fun j ys R1 => ∃ ls2 vs2, ls2.length = j ∧ vs2.length = j ∧ ys = ls2.map Value.ref ∧ IVs vs2 ((List.range j).map fun c => (dueOf fm.places fm.size c).map fun (p : Nat) => (p : Int)) ∧
      R1 = LsR D (ls.map Value.ref) :: CellR (L + 1) (.ref x) :: ArrR w.params x a :: DicR w f F :: LsR F.pl vs :: (LLs ls2 vs2 ++ (LLs ls vss ++ R)), rfl, IT3, S12, ⟨[], [], rfl, rfl, rfl, rfl, rfl⟩, ?_, ?_, ?_, ?_, ?_⟩
    · rintro j C D2 vs1 ys R1 ⟨ls2, vs2, _, _, _, _, rfl⟩; exact LIn.heads (a := a) (by k_memK) rfl
    · unfold sizeLine; omega
    · rintro j ys R1 ⟨ls2, vs2, h1, _, rfl, _, _⟩; simp [h1]
    · rintro j v C D2 ys R1 s13 hj hP ⟨ls2, vs2, hl1, hl2, rfl, hiv, rfl⟩ S13
      obtain ⟨hd, hhd, hch⟩ := H.chains j (by omega)
      obtain ⟨th, hth⟩ := hm.heads.get hhd
      obtain rfl : v = .int hd th := Option.some.inj (hP.symm.trans hth)
      have hdl := dueTo_len fm.places fm.size fm.places.length j
      rw [dueTo_all] at hdl
      refine d_if0 ?_
      (repeat' tb_rel)
      refine lchain_ W (hR.lower (by omega)) (St.sw6 (by assumption)) hm hch (by omega) (by omega) (by omega) (fun d ys2 s14 hys2 S14 => ?_)
      refine p_on (by assumption) ?_
      refine ⟨_, ⟨ls2 ++ [d], vs2 ++ [ys2], by simp [hl1], by simp [hl2], by simp, ?_, rfl⟩, ?_⟩
      · unfold IVs at hiv ⊢
        rw [List.map_append, hiv, List.range_succ, List.map_append, List.map_append]
        congr 1
        have := hys2
        unfold IV at this
        simpa using this
      · exact St.snocLL [_, _, _, _, _, _, _, _, _] S14.sw.sw7.sw (by rw [hl1, hl2])
    · rintro D2 ys R1 s13 ⟨ls2, vs2, hl1, hl2, rfl, hiv, rfl⟩ S13
      (repeat' tb_rel)
      obtain ⟨as, r1⟩ := S13.readsLL (ls := ls2) (vss := vs2) (by rw [hl1, hl2]) hiv (fun r hr => .tail _ (.tail _ (.tail _ (.tail _ (.tail _ (.tail _ (.tail _ (List.mem_append_left _ hr))))))))
      have hiv2 : IVs vss ((List.range a.hs.length).map fun c => (dueOf fm.places fm.size c).map fun (p : Nat) => (p : Int)) := by
        unfold IVs
        apply List.ext_getElem?
        intro c
        rw [List.getElem?_map, List.getElem?_map, List.getElem?_map]
        by_cases hc : c < n
        · obtain ⟨us, h1, h2⟩ := hvs c hc
          rw [List.getElem?_range (by omega), h1]
          rw [hpl, dueTo_all] at h2
          exact congrArg some h2
        · rw [List.getElem?_eq_none (by omega), List.getElem?_eq_none (by simp; omega)]
          rfl
      obtain ⟨bs, r2⟩ := S13.readsLL (ls := ls) (vss := vss) (by rw [hls, hvss]) hiv2 (fun r hr => .tail _ (.tail _ (.tail _ (.tail _ (.tail _ (.tail _ (.tail _ (List.mem_append_right _ (List.mem_append_left _ hr)))))))))
      refine d_eqD (hR.lower (by omega)) S13 (LIn.ls (vs := ls2.map Value.ref) (by k_memK)) (LIn.ls (vs := ls.map Value.ref) (by k_memK)) r1 r2 (canLay_intss _) (canLay_intss _) (Nat.le_trans (depth_intss _) (by decide)) ?_
      rw [eqv_intss]
      (repeat' tb_rel)
      exact h _ (St.dropLL [_, _, _] (St.dropLL [_, _, _] S13.drop.drop.drop.drop))
end funs

section funs
variable {w : World} {H₀ : Heap} {o₀ : OsState} {A : Around} {s : Shared} {rs R : List Res} {env : Env}
theorem canLay_bools : ∀ is : List Bool, PyData.canLayAll0 (is.map .bool) = true
  | [] => rfl
  | i :: is => by rw [List.map_cons, PyData.canLayAll0, canLay_bools is]; rfl
theorem depth_bools : ∀ is : List Bool, PyData.depthAll (is.map .bool) = 0
  | [] => by simp [PyData.depthAll]
  | i :: is => by simp [PyData.depthAll, PyData.depth, depth_bools is]
theorem eqv_bools : ∀ is : List Bool, PyData.eqvAll (is.map .bool) (is.map .bool) = true
  | [] => by simp [PyData.eqvAll]
  | i :: is => by simp [PyData.eqvAll, PyData.eqv, eqv_bools is]
theorem reads_bools {h : Heap} : ∀ is : List Bool, ReadsAll h (is.map Value.bool) (is.map .bool) []
  | [] => .nil
  | i :: is => ReadsAll.cons (as := []) (bs := []) (.bool _) (reads_bools is)
structure RightF (m : Pm) (fm : Fm) : Prop where
  pk : m.pk = fm.pk
  size : m.size = fm.size
  count : m.count = (livK fm.places).length
  lives : m.lives = fm.places.map Option.isSome
  at_ : ∀ (p : Nat) (k : Key), fm.places[p]? = some (some k) → (if m.pk = true then some (some (.int p)) else m.keys[p]?) = some (some k)
  ok : KsOk fm.places
  z : fm.places.length < 2 ^ 20
  pack : fm.pk = true → m.keys = [] ∧ m.heads = [] ∧ m.nexts = []
  hash : fm.pk = false → RightH m fm
theorem lright_ {x f : Addr} {a : Ad} {m : Pm} {F : Fd} {vs : List Value} {fm : Fm} {Q : Value → Shared → Prop} (W : Wd w H₀) (hR : Rm A 7) (S : St H₀ o₀ (ArrR w.params x a :: DicR w f F :: LsR F.pl vs :: R) s) (hm : Arp a m) (hF : For F vs fm) (H : RightF m fm)
    (h : ∀ s', St H₀ o₀ (ArrR w.params x a :: DicR w f F :: LsR F.pl vs :: R) s' → Q (.bool true) s') : Does w A (call (.ref 374) [.ref x, .ref f]) Q s := by
  have hvl := hm.vlen
  have hpl := hF.places.length
  have hsz := hF.size
  have hz := H.z
  have hll : m.lives.length = fm.places.length := by rw [H.lives]; simp
  have hpk : a.pk = F.pk := by rw [hm.pk, hF.pk]; exact H.pk
  have hsz : a.sz = F.sz := by rw [hm.size, hF.size]; exact H.size
  have hct : a.ct = (livK fm.places).length := by rw [hm.count]; exact H.count
  refine d_funC (f := 374) ["arr", "form"] [] (fun L => [CellN (L + 1 + 1), CellR (L + 1) (.ref x)]) W hR S (nf_fn (by rfl) (by conv => lhs; whnf) (by conv => lhs; whnf)) (by kernel_rfl!) (by kernel_rfl!) rfl (by decide) (by decide +kernel) (by decide +kernel) (by intro L; rfl) rfl rfl rfl ?_
  intro L s' S A' hR
  have S : St H₀ o₀ (FrR H₀ L ["arr", "form"] [none, some (.ref f)] :: CellN (L + 1 + 1) :: CellR (L + 1) (.ref x) :: ArrR w.params x a :: DicR w f F :: LsR F.pl vs :: R) s' := S
  (repeat' tb_rel)
  refine d_storeCell (c := L + 1 + 1) (St.sw (by assumption)) (fun q k => by obtain ⟨o, k1, k2⟩ := k; exact ⟨o, _, k1, k2⟩) (by kernel_rfl!) rfl (by kernel_rfl!) (fun s1 S1 => ?_)
  have S1 := S1.sw
  (repeat' tb_rel)
  refine ne_bool ?_
  rw [hpk, show (F.pk != F.pk) = false by simp]
  (repeat' tb_rel)
  rw [hsz, show (F.sz != F.sz) = false by simp]
  (repeat' tb_rel)
  refine living_ W (hR.lower (by omega)) (St.sw4 (by assumption)) (by k_memK) hF.places (by omega) (fun l ys s3 hy S3 => ?_)
  have S3 := S3.sw5
  have hyl : ys.length = (livK fm.places).length := hy.length
  have hyle := livK_le fm.places
  (repeat' tb_rel)
  rw [hct, hyl, show (((livK fm.places).length : Int) != ((livK fm.places).length : Int)) = false by simp]
  (repeat' tb_rel)
  refine d_comp (H₀ := H₀) (o₀ := o₀) hR.h (by rfl) (by decide +kernel) rfl (by decide +kernel) rfl ?_ (by intro _; with_unfolding_all rfl)
  (repeat' tb_rel)
  refine d_iter_list (by assumption) (LIn.vals (a := a) (by k_memK) rfl) (fun I s4 IT S4 => ?_)
  refine ⟨I, _, _, _, _, L, _, _, _, fun j zs R1 => zs = ((fm.places.take j).map fun k => !k.isSome).map Value.bool ∧ R1 = DicR w f F :: CellR (L + 1 + 1) (.ref F.pl) :: CellR (L + 1) (.ref x) :: ArrR w.params x a :: LsR l ys :: LsR F.pl vs :: R, rfl, IT, S4, ⟨rfl, rfl⟩, ?_, ?_, ?_, ?_, ?_⟩
  · rintro j C D2 vs1 ys R1 ⟨_, rfl⟩; exact LIn.vals (a := a) (by k_memK) rfl
  · unfold sizeLine; omega
  · rintro j ys R1 ⟨rfl, _⟩; simp; omega
  · rintro j v C D2 zs R1 s5 hj hP ⟨rfl, rfl⟩ S5
    have hvm : v ∈ a.vs := List.mem_of_getElem? hP
    obtain ⟨ko, hko⟩ : ∃ k, fm.places[j]? = some k := ⟨_, List.getElem?_eq_getElem (by omega)⟩
    have hab : isAbs v = !ko.isSome := by
      have e := hm.lives
      rw [H.lives] at e
      have e := congrArg (fun l => l[j]?) e
      simp only [lives, List.getElem?_map, hP, hko, Option.map_some, Option.some.injEq] at e
      rw [← e]; simp
    refine d_if0 ?_
    (repeat' tb_rel)
    refine ⟨_, ⟨?_, rfl⟩, by assumption⟩
    rw [List.take_add_one, hko, hab]
    simp
  rintro D1 zs R1 s5 ⟨rfl, rfl⟩ S5
  rw [List.take_of_length_le (by omega)] at S5
  (repeat' tb_rel)
  refine d_comp (H₀ := H₀) (o₀ := o₀) hR.h (by rfl) (by decide +kernel) rfl (by decide +kernel) rfl ?_ (by intro _; with_unfolding_all rfl)
  (repeat' tb_rel)
  refine d_iter_list (by assumption) (LIn.ls (vs := vs) (by k_memK)) (fun I2 s6 IT2 S6 => ?_)
  refine ⟨I2, _, _, _, _, L, _, _, _, fun j zs R1 => zs = ((fm.places.take j).map fun k => !k.isSome).map Value.bool ∧ R1 = LsR D1 ((fm.places.map fun k => !k.isSome).map Value.bool) :: DicR w f F :: CellR (L + 1 + 1) (.ref F.pl) :: CellR (L + 1) (.ref x) :: ArrR w.params x a :: LsR l ys :: LsR F.pl vs :: R, rfl, IT2, S6, ⟨rfl, rfl⟩, ?_, ?_, ?_, ?_, ?_⟩
  · rintro j C D2 vs1 ys R1 ⟨_, rfl⟩; exact LIn.ls (vs := vs) (by k_memK)
  · unfold sizeLine; omega
  · rintro j ys R1 ⟨rfl, _⟩; simp; omega
  · rintro j v C D2 zs R1 s7 hj hP ⟨rfl, rfl⟩ S7
    obtain ⟨ko, hko⟩ : ∃ k, fm.places[j]? = some k := ⟨_, List.getElem?_eq_getElem (by omega)⟩
    obtain ⟨v', hv', hkv⟩ := hF.places.get hko
    obtain rfl : v' = v := Option.some.inj (hv'.symm.trans hP)
    have hnn : (v' == Value.none) = !ko.isSome := by
      cases ko with
      | none => obtain rfl := kOf_none hkv; rfl
      | some k => cases k with
        | int i => obtain ⟨t, rfl⟩ := KV.int hkv; rfl
        | str x => obtain ⟨t, rfl⟩ := KV.str hkv; rfl
    refine d_if0 ?_
    (repeat' tb_rel)
    refine ⟨_, ⟨?_, rfl⟩, by assumption⟩
    rw [List.take_add_one, hko, hnn]
    simp
  rintro D2 zs R1 s7 ⟨rfl, rfl⟩ S7
  rw [List.take_of_length_le (by omega)] at S7
  refine d_neD (hR.lower (by omega)) S7 (LIn.ls (vs := ((fm.places.map fun k => !k.isSome).map Value.bool)) (.tail _ (.tail _ (.head _)))) (LIn.ls (vs := ((fm.places.map fun k => !k.isSome).map Value.bool)) (.tail _ (.head _))) (reads_bools _) (reads_bools _) (canLay_bools _) (canLay_bools _) (by rw [depth_bools]; omega) ?_
  rw [eqv_bools]
  have S7 := S7.drop1.drop1.sw5.drop.sw4
  (repeat' tb_rel)
  refine d_comp (H₀ := H₀) (o₀ := o₀) hR.h (by rfl) (by decide +kernel) rfl (by decide +kernel) rfl ?_ (by intro _; with_unfolding_all rfl)
  (repeat' tb_rel)
  refine d_range1 (by assumption) (fun r t3 t4 t5 s8 hr S8 => ?_)
  (repeat' tb_rel)
  refine d_iterR (n := vs.length) (by assumption) hr (by omega) (fun I3 s9 IT3 S9 => ?_)
  refine ⟨I3, _, _, _, _, L, _, _, _, fun j zs R1 => KVs zs (livK (fm.places.take j)) ∧ zs.length ≤ j ∧ R1 = CellR (L + 1 + 1) (.ref F.pl) :: CellR (L + 1) (.ref x) :: ArrR w.params x a :: DicR w f F :: LsR F.pl vs :: R, rfl, IT3, S9, ⟨rfl, by simp, rfl⟩, ?_, ?_, ?_, ?_, ?_⟩
  · intros; trivial
  · unfold sizeLine; omega
  · rintro j ys R1 ⟨_, h1, _⟩; exact h1
  · rintro j v C D3 zs R1 s10 hj ⟨tj, rfl⟩ ⟨hz1, hz2, rfl⟩ S10
    obtain ⟨ko, hko⟩ : ∃ k, fm.places[j]? = some k := ⟨_, List.getElem?_eq_getElem (by omega)⟩
    obtain ⟨v', hv', hkv⟩ := hF.places.get hko
    have hv2 : vs[((j : Nat) : Int).toNat]? = some v' := hv'
    have hj63 : ((j : Nat) : Int) < 2 ^ 63 := by omega
    have e2 : livK (fm.places.take (j + 1)) = livK (fm.places.take j) ++ if ko.isSome = true then [ko] else [] := by
      rw [List.take_add_one, hko]
      unfold livK
      rw [List.filter_append]
      cases ko <;> rfl
    refine d_if1 ?_
    (repeat' tb_rel)
    cases ko with
    | none =>
      obtain rfl := kOf_none hkv
      rw [show (!(Value.none == Value.none)) = false from rfl]
      (repeat' tb_rel)
      exact ⟨_, ⟨by rw [e2]; simpa using hz1, by omega, rfl⟩, by assumption⟩
    | some k =>
      have hne : (!(v' == Value.none)) = true := by
        cases k with
        | int i => obtain ⟨t, rfl⟩ := KV.int hkv; rfl
        | str x => obtain ⟨t, rfl⟩ := KV.str hkv; rfl
      rw [hne]
      (repeat' tb_rel)
      refine key_at_ W (hR.lower (by omega)) (St.sw6 (by assumption)) hm (by omega) (H.at_ j k hko) (fun v2 s11 hk2 S11 => ?_)
      have S11 := S11.sw6
      (repeat' tb_rel)
      exact ⟨_, ⟨by rw [e2]; exact hz1.snoc hk2, by simp; omega, rfl⟩, S11⟩
  rintro D3 zs R1 s10 ⟨hz1, hz2, rfl⟩ S10
  rw [List.take_of_length_le (by omega)] at hz1
  (repeat' tb_rel)
  refine living_ W (hR.lower (by omega)) (St.sw5 S10) (by k_memK) hF.places (by omega) (fun l2 ys2 s11 hy2 S11 => ?_)
  have S11 := S11.sw6
  refine d_neKs (hR.lower (by omega)) S11 (LIn.ls (vs := zs) (by k_memK)) (LIn.ls (vs := ys2) (by k_memK)) hz1 hy2 (livK_ok H.ok) (livK_ok H.ok) ?_
  rw [show (!decide (livK fm.places = List.filter Option.isSome fm.places)) = false by simp [livK]]
  have S11 := S11.sw6.drop.drop1.sw4
  have hFp := hF.pk
  (repeat' tb_rel)
  cases hp : fm.pk
  · rw [hp] at hFp
    rw [hFp]
    (repeat' tb_rel)
    refine lchains_ W (hR.lower (by omega)) (St.drop (St.drop (St.drop (by assumption)))) hm hF (H.hash hp) (fun s12 S12 => ?_)
    refine k_ret (by assumption) ?_
    exact h _ S12
  · rw [hp] at hFp
    rw [hFp]
    obtain ⟨q1, q2, q3⟩ := H.pack hp
    have ev : PyData.eqvAll [] [] = true := by simp [PyData.eqvAll]
    have k1 : a.ks = [] := List.eq_nil_of_length_eq_zero (by have := hm.keys.length; rw [q1] at this; simpa using this)
    have k2 : a.hs = [] := List.eq_nil_of_length_eq_zero (by have := hm.heads.length; rw [q2] at this; simpa using this)
    have k3 : a.ns = [] := List.eq_nil_of_length_eq_zero (by have := hm.nexts.length; rw [q3] at this; simpa using this)
    (repeat' tb_rel)
    rename_i S12
    refine d_eqD (ds := []) (es := []) (hR.lower (by omega)) S12 (LIn.keys (a := a) (by k_memK) rfl) (LIn.ls (vs := []) (by k_memK)) (by rw [k1]; exact .nil) .nil rfl rfl (by simp [PyData.depthAll]) ?_
    rw [ev]
    (repeat' tb_rel)
    rename_i S13
    refine d_eqD (ds := []) (es := []) (hR.lower (by omega)) S13 (LIn.heads (a := a) (by k_memK) rfl) (LIn.ls (vs := []) (by k_memK)) (by rw [k2]; exact .nil) .nil rfl rfl (by simp [PyData.depthAll]) ?_
    rw [ev]
    (repeat' tb_rel)
    rename_i S14
    refine d_eqD (ds := []) (es := []) (hR.lower (by omega)) S14 (LIn.nexts (a := a) (by k_memK) rfl) (LIn.ls (vs := []) (by k_memK)) (by rw [k3]; exact .nil) .nil rfl rfl (by simp [PyData.depthAll]) ?_
    rw [ev]
    (repeat' tb_rel)
    exact h _ S14.drop.drop.drop.drop.drop.drop
end funs

section funs
variable {w : World} {H₀ : Heap} {o₀ : OsState} {A : Around} {s : Shared} {rs R : List Res} {env : Env}
noncomputable def KGood : Key → Prop | .int i => -4 ≤ i ∧ i < 2 ^ 42 | .str x => x.cps.size ≤ 8 ∧ PyData.strOk x = true
noncomputable def KLow : Key → Prop | .int i => -4 ≤ i ∧ i < 2 ^ 41 | .str _ => True
theorem KGood.ok {k : Key} (h : KGood k) : KOk (some k) := by
  unfold KOk
  cases k with
  | int i => rfl
  | str x => show PyData.canLay0 (.str x) = true; rw [PyData.canLay0]; exact h.2
theorem d_itemAny {value slice : PySem.Expr} {l : Addr} {vs : List Value} {k : Int} {t : Tok} {Q : Value → Shared → Prop} (S : St H₀ o₀ rs s) (hm : LIn rs l vs) (h0 : 0 ≤ k) (hz : k < 2 ^ 63) (hl : k < vs.length) (h : ∀ v, vs[k.toNat]? = some v → Q v s)
    (hs : subscripted slice false (.ref l) (.int k t) = operate [.ref l, .int k t] (getItem (.ref l) (.int k t))) : Does w A (subscriptTail value slice (.ref l) (.int k t)) Q s := by
  have hv : vs[k.toNat]? = some (vs[k.toNat]'(by omega)) := List.getElem?_eq_getElem _
  exact d_item S hm h0 hz hv (h _ hv) hs
theorem kstr_good : ∀ n : Nat, n < 20 → (("k" : Str) ++ Str.ofString (toString (n : Int))).cps.size ≤ 8 ∧ PyData.strOk (("k" : Str) ++ Str.ofString (toString (n : Int))) = true := by decide +kernel
theorem lrows_ {Q : Value → Shared → Prop} (W : Wd w H₀) (hR : Rm A 2) (S : St H₀ o₀ R s)
    (h : ∀ d vs s', IV vs [0, 0, 0, 30, 0, 40, 19, 12, 278, 54, 411, 212, 26, 0, 0, 0, 0, 0, 0, 0, 4, 15, 3, 106] → St H₀ o₀ (LsR d vs :: R) s' → Q (.ref d) s') : Does w A (call (.ref 312) []) Q s := by
  refine d_fun (f := 312) [] [] W hR S (nf_fn (by rfl) (by conv => lhs; whnf) (by conv => lhs; whnf)) (by kernel_rfl!) (by kernel_rfl!) rfl (by decide) (by decide +kernel) (by decide +kernel) rfl rfl rfl ?_
  intro L s' S A' hR
  (repeat' tb_rel)
  rename_i S4
  refine h _ _ _ ?_ (St.drop S4)
  rfl
theorem lkey_ {n : Int} {t : Tok} {Q : Value → Shared → Prop} (W : Wd w H₀) (hR : Rm A 3) (S : St H₀ o₀ R s)
    (h : ∀ v k s', KV v k → KGood k → KLow k → St H₀ o₀ R s' → Q v s') : Does w A (call (.ref 381) [.int n t]) Q s := by
  refine d_fun (f := 381) ["rest"] ["which"] W hR S (nf_fn (by rfl) (by conv => lhs; whnf) (by conv => lhs; whnf)) (by kernel_rfl!) (by kernel_rfl!) rfl (by decide) (by decide +kernel) (by decide +kernel) rfl rfl rfl ?_
  intro L s' S A' hR
  (repeat' tb_rel)
  refine split_dec (fun h7 => ?_) (fun h7 => ?_)
  · (repeat' tb_rel)
    refine d_itemAny (by assumption) (LIn.ls (by k_memK)) (by omega) (by omega) (by simp; omega) (fun v hv => ?_) (by with_unfolding_all rfl)
    have hv2 : ∃ i t, v = .int i t ∧ 0 ≤ i ∧ i ≤ 33 := by
      have : n % 10 = 0 ∨ n % 10 = 1 ∨ n % 10 = 2 ∨ n % 10 = 3 ∨ n % 10 = 4 ∨ n % 10 = 5 ∨ n % 10 = 6 := by omega
      rcases this with e | e | e | e | e | e | e <;> (rw [e] at hv; exact ⟨_, _, (Option.some.inj hv).symm, by decide, by decide⟩)
    obtain ⟨i, ti, rfl, hi0, hi1⟩ := hv2
    (repeat' tb_rel)
    exact h _ (.int (i + n / 10 % 8)) _ rfl ⟨by omega, by omega⟩ ⟨by omega, by omega⟩ (St.drop (St.drop (by assumption)))
  · (repeat' tb_rel)
    have hn0 : 0 ≤ n / 10 % 20 := by omega
    have hn1 : n / 10 % 20 < 20 := by omega
    rename_i S4
    obtain ⟨m, hm⟩ : ∃ m : Nat, n / 10 % 20 = m := ⟨(n / 10 % 20).toNat, by omega⟩
    have hg := kstr_good m (by omega)
    have hlen : ("k" : Str).length + (Str.ofString (toString (m : Int))).length ≤ 8 := by rw [← strLen_append]; exact hg.1
    refine PySem.P.str_of_int ?_ ?_
    · rcases Nat.eq_zero_or_pos (n / 10 % 20).natAbs with h0 | h0
      · rw [h0]; decide
      · have : (n / 10 % 20).natAbs.log2 < 5 := (Nat.log2_lt (by omega)).mpr (by omega)
        omega
    rw [hm]
    refine SB.add (fun t' k => ?_) (Nat.le_trans hlen (by decide))
    have S5 := S4.tok k
    (repeat' tb_rel)
    refine d_itemAny (by assumption) (LIn.ls (by k_memK)) (by omega) (by omega) (by simp; omega) (fun v hv => ?_) (by with_unfolding_all rfl)
    have hv2 : ∃ k, KV v k ∧ KGood k ∧ KLow k := by
      have : n % 10 - 7 = 0 ∨ n % 10 - 7 = 1 ∨ n % 10 - 7 = 2 := by omega
      rcases this with e | e | e
      · rw [e] at hv
        refine ⟨.int (-1 - n / 10 % 3), ?_, ⟨by omega, by omega⟩, by omega, by omega⟩
        rw [← Option.some.inj hv]; rfl
      · rw [e] at hv
        refine ⟨.int (1000 + n / 10 % 2 ^ 40), ?_, ⟨by omega, by omega⟩, by omega, by omega⟩
        rw [← Option.some.inj hv]; rfl
      · rw [e] at hv
        refine ⟨.str _, ?_, hg, trivial⟩
        rw [← Option.some.inj hv]; rfl
    obtain ⟨k2, hk2, hkg, hkl⟩ := hv2
    (repeat' tb_rel)
    exact h _ k2 _ hk2 hkg hkl (St.drop (St.drop (by assumption)))
end funs

section plain
/-! ## plain 1: chains -/
noncomputable def dueN (ks : List (Option Key)) (size : Int) (n c : Nat) : List Nat := (List.range n).reverse.filter (hitC ks size c)
theorem dueN_len (ks : List (Option Key)) (size : Int) (c : Nat) : dueN ks size ks.length c = dueOf ks size c := rfl
theorem dueN_succ (ks : List (Option Key)) (size : Int) (n c : Nat) : dueN ks size (n + 1) c = (if hitC ks size c n = true then [n] else []) ++ dueN ks size n c := by
  unfold dueN
  rw [List.range_succ, List.reverse_append]
  simp only [List.reverse_cons, List.reverse_nil, List.nil_append, List.cons_append, List.filter_cons]
  split <;> simp
theorem mem_dueN {ks : List (Option Key)} {size : Int} {n c p : Nat} : p ∈ dueN ks size n c ↔ p < n ∧ hitC ks size c p = true := by
  unfold dueN
  rw [List.mem_filter, List.mem_reverse, List.mem_range]
theorem hitC_iff {ks : List (Option Key)} {size : Int} {c p : Nat} : hitC ks size c p = true ↔ ∃ k, ks[p]? = some (some k) ∧ (hashK k % size).toNat = c := by
  unfold hitC
  split
  · rename_i k e
    rw [e]
    simp
  · rename_i e
    constructor
    · intro h; cases h
    · rintro ⟨k, h, _⟩; exact absurd h (e k)
theorem mem_dueOf {ks : List (Option Key)} {size : Int} {c p : Nat} : p ∈ dueOf ks size c ↔ ∃ k, ks[p]? = some (some k) ∧ (hashK k % size).toNat = c := by
  rw [← dueN_len, mem_dueN, hitC_iff]
  constructor
  · rintro ⟨_, h⟩; exact h
  · rintro ⟨k, h, e⟩; exact ⟨(List.getElem?_eq_some_iff.mp h).1, k, h, e⟩
theorem Chn.setNe {ns : List Int} {p : Nat} {v : Int} : ∀ {l : List Nat} {h : Int}, p ∉ l → Chn ns h l → Chn (ns.set p v) h l
  | [], _, _, hc => hc
  | q :: l, h, hn, hc => by
    obtain ⟨e, n, h1, h2⟩ := hc
    refine ⟨e, n, ?_, Chn.setNe (fun hm => hn (.tail _ hm)) h2⟩
    rw [List.getElem?_set_ne (fun q => hn (by rw [q]; exact .head _))]
    exact h1
theorem Chn.app {ns xs : List Int} : ∀ {l : List Nat} {h : Int}, Chn ns h l → Chn (ns ++ xs) h l
  | [], _, hc => hc
  | q :: l, h, hc => by
    obtain ⟨e, n, h1, h2⟩ := hc
    refine ⟨e, n, ?_, Chn.app h2⟩
    rw [List.getElem?_append_left (List.getElem?_eq_some_iff.mp h1).1]
    exact h1
theorem Chn.take {ns : List Int} {j : Nat} : ∀ {l : List Nat} {h : Int}, (∀ q ∈ l, q < j) → Chn ns h l → Chn (ns.take j) h l
  | [], _, _, hc => hc
  | q :: l, h, hj, hc => by
    obtain ⟨e, n, h1, h2⟩ := hc
    refine ⟨e, n, ?_, Chn.take (fun q hq => hj q (.tail _ hq)) h2⟩
    rw [List.getElem?_take_of_lt (hj q (.head _))]
    exact h1
structure Hs (m : Pm) (ks : List (Option Key)) : Prop where
  keys : m.keys = ks
  lives : m.lives = ks.map Option.isSome
  heads : m.heads.length = m.size.toNat
  nexts : m.nexts.length = ks.length
  pos : 0 < m.size
  chains : ∀ c, c < m.size.toNat → ∃ hd, m.heads[c]? = some hd ∧ Chn m.nexts hd (dueOf ks m.size c)
theorem link_chains {m : Pm} {ks : List (Option Key)} {n : Nat} {k : Key} (hp : 0 < m.size) (hh : m.heads.length = m.size.toNat) (hn : n < m.nexts.length) (hk : ks[n]? = some (some k))
    (h : ∀ c, c < m.size.toNat → ∃ hd, m.heads[c]? = some hd ∧ Chn m.nexts hd (dueN ks m.size n c)) :
    ∀ c, c < m.size.toNat → ∃ hd, (linkM m n k).heads[c]? = some hd ∧ Chn (linkM m n k).nexts hd (dueN ks m.size (n + 1) c) := by
  intro c hc
  obtain ⟨hd, h1, h2⟩ := h c hc
  have hnm : ∀ c, n ∉ dueN ks m.size n c := fun c hm => absurd (mem_dueN.mp hm).1 (Nat.lt_irrefl _)
  rw [dueN_succ]
  by_cases e : c = ch m k
  · subst e
    rw [if_pos (show hitC ks m.size (ch m k) n = true from hitC_iff.mpr ⟨k, hk, rfl⟩)]
    refine ⟨(n : Int), ?_, rfl, hd, ?_, Chn.setNe (hnm _) h2⟩
    · show (m.heads.set (ch m k) (n : Int))[ch m k]? = _
      rw [List.getElem?_set_self (by omega)]
    · show (m.nexts.set n ((m.heads[ch m k]?).getD 0))[n]? = _
      rw [List.getElem?_set_self hn, h1]
      rfl
  · rw [if_neg (fun q => e (by obtain ⟨k', h3, h4⟩ := hitC_iff.mp q; rw [hk] at h3; cases h3; exact h4.symm)), List.nil_append]
    refine ⟨hd, ?_, Chn.setNe (hnm _) h2⟩
    show (m.heads.set (ch m k) (n : Int))[c]? = _
    rw [List.getElem?_set_ne (fun q => e q.symm)]
    exact h1
theorem chainsTo_succ (m : Pm) (n : Nat) : chainsTo m (n + 1) = chainStep (chainsTo m n) n := by unfold chainsTo; rw [List.range_succ, List.foldl_append]; rfl
theorem chainsTo_chains {m : Pm} {ks : List (Option Key)} (hk : m.keys = ks) (hl : m.lives = ks.map Option.isSome) (hp : 0 < m.size) : ∀ n, n ≤ ks.length →
    ∀ c, c < m.size.toNat → ∃ hd, (chainsTo m n).heads[c]? = some hd ∧ Chn (chainsTo m n).nexts hd (dueN ks m.size n c) := by
  intro n
  induction n with
  | zero =>
    intro _ c hc
    refine ⟨-1, ?_, rfl⟩
    show (List.replicate m.size.toNat (-1 : Int))[c]? = _
    rw [List.getElem?_replicate, if_pos hc]
  | succ n ih =>
    intro hn
    have ih := ih (by omega)
    obtain ⟨h1, h2, h3, h4, h5, h6, h7, h8⟩ := chainsTo_same m n
    rw [chainsTo_succ]
    have hln : (chainsTo m n).lives[n]? = some (ks[n]'(by omega)).isSome := by
      rw [h3, hl, List.getElem?_map, List.getElem?_eq_getElem (by omega)]; rfl
    have hkn : (chainsTo m n).keys[n]? = some (ks[n]'(by omega)) := by
      rw [h2, hk, List.getElem?_eq_getElem (by omega)]
    unfold chainStep linkAt
    rw [hln, hkn]
    cases e : ks[n]'(by omega) with
    | none =>
      simp only [Option.isSome_none, Option.getD_some, Bool.false_eq_true, if_false]
      intro c hc
      rw [dueN_succ, if_neg (fun q => by obtain ⟨k', h9, _⟩ := hitC_iff.mp q; rw [List.getElem?_eq_getElem (by omega), e] at h9; cases h9), List.nil_append]
      exact ih c hc
    | some k =>
      simp only [Option.isSome_some, Option.getD_some, if_true]
      have hL : ks.length = m.lives.length := by rw [hl]; simp
      have := link_chains (m := chainsTo m n) (ks := ks) (n := n) (k := k) (by rw [h6]; exact hp) (by rw [h4, h6]) (by rw [h5]; omega) (by rw [List.getElem?_eq_getElem (by omega), e]) (by rw [h6]; exact ih)
      rw [h6] at this
      exact this
theorem chainsM_hs {m : Pm} {ks : List (Option Key)} (hk : m.keys = ks) (hl : m.lives = ks.map Option.isSome) (hp : 0 < m.size) : Hs (chainsM m) ks := by
  have hL : m.lives.length = ks.length := by rw [hl]; simp
  have h := chainsTo_chains hk hl hp ks.length (Nat.le_refl _)
  obtain ⟨h1, h2, h3, h4, h5, h6, h7, h8⟩ := chainsTo_same m m.lives.length
  unfold chainsM
  refine ⟨by rw [h2, hk], by rw [h3, hl], by rw [h4, h6], by rw [h5, hL], by rw [h6]; exact hp, ?_⟩
  rw [h6, hL]
  exact h
theorem livK_idx {lv : List Bool} {ks : List (Option Key)} {f : Nat → Option Key} (hl : lv = ks.map Option.isSome) (hf : ∀ (p : Nat) k, ks[p]? = some (some k) → f p = some k) : ∀ n, n ≤ ks.length → (liveIdx lv n).map f = livK (ks.take n)
  | 0, _ => rfl
  | n + 1, hn => by
    rw [liveIdx_succ, List.map_append, livK_idx hl hf n (by omega), List.take_add_one]
    unfold livK
    rw [List.filter_append]
    congr 1
    rw [hl, List.getElem?_map]
    cases e : ks[n]? with
    | none => rfl
    | some o => cases o with
      | none => rfl
      | some k =>
        simp only [Option.map_some, Option.isSome_some, Option.getD_some, if_true, List.map_cons, List.map_nil, hf n k e]
        rfl
theorem livK_lives (ks : List (Option Key)) : (livK ks).map Option.isSome = List.replicate (livK ks).length true := by
  rw [List.eq_replicate_iff]
  refine ⟨by simp, fun b hb => ?_⟩
  obtain ⟨o, ho, rfl⟩ := List.mem_map.mp hb
  exact (List.mem_filter.mp ho).2
theorem packM_livK {m : Pm} {ks : List (Option Key)} (hl : m.lives = ks.map Option.isSome) (hk : ∀ (p : Nat) k, ks[p]? = some (some k) → m.keys[p]? = some (some k)) :
    (packM m).keys = livK ks ∧ (packM m).lives = (livK ks).map Option.isSome := by
  have hL : m.lives.length = ks.length := by rw [hl]; simp
  have h1 := livK_idx (f := fun p => (m.keys[p]?).getD none) hl (fun p k e => by rw [hk p k e]; rfl) ks.length (Nat.le_refl _)
  rw [List.take_of_length_le (Nat.le_refl _), ← hL] at h1
  refine ⟨h1, ?_⟩
  rw [livK_lives]
  show List.replicate (allLive m).length true = _
  have h2 := congrArg List.length h1
  rw [List.length_map] at h2
  unfold allLive
  rw [h2]
theorem rehashM_hs {m : Pm} {ks : List (Option Key)} (hl : m.lives = ks.map Option.isSome) (hk : ∀ (p : Nat) k, ks[p]? = some (some k) → m.keys[p]? = some (some k)) (hp : 0 < m.size) : Hs (rehashM m) (livK ks) := by
  obtain ⟨h1, h2⟩ := packM_livK hl hk
  exact chainsM_hs h1 h2 hp
theorem rehashM_same (m : Pm) : (rehashM m).pk = m.pk ∧ (rehashM m).size = m.size ∧ (rehashM m).count = m.count ∧ (rehashM m).next = m.next := by
  obtain ⟨h1, h2, h3, h4, h5, h6, h7, h8⟩ := chainsTo_same (packM m) (packM m).lives.length
  exact ⟨h1, h6, h7, h8⟩
theorem chainsM_same (m : Pm) : (chainsM m).pk = m.pk ∧ (chainsM m).size = m.size ∧ (chainsM m).count = m.count ∧ (chainsM m).next = m.next := by
  obtain ⟨h1, h2, h3, h4, h5, h6, h7, h8⟩ := chainsTo_same m m.lives.length
  exact ⟨h1, h6, h7, h8⟩
theorem dueOf_snoc_pre (ks : List (Option Key)) (o : Option Key) (size : Int) (c : Nat) : dueN (ks ++ [o]) size ks.length c = dueOf ks size c := by
  unfold dueN dueOf
  refine List.filter_congr fun p hp => ?_
  have hp : p < ks.length := by simpa using hp
  unfold hitC
  rw [List.getElem?_append_left hp]
theorem snoc_hs {m : Pm} {ks : List (Option Key)} (H : Hs m ks) (k : Key) : Hs (linkM { m with keys := m.keys ++ [some k], lives := m.lives ++ [true], nexts := m.nexts ++ [-1] } m.lives.length k) (ks ++ [some k]) := by
  have hL : m.lives.length = ks.length := by rw [H.lives]; simp
  have h := link_chains (m := { m with keys := m.keys ++ [some k], lives := m.lives ++ [true], nexts := m.nexts ++ [-1] }) (ks := ks ++ [some k]) (n := ks.length) (k := k) H.pos H.heads
    (by simp [H.nexts]) (by simp) (by
      intro c hc
      obtain ⟨hd, h1, h2⟩ := H.chains c hc
      refine ⟨hd, h1, ?_⟩
      rw [dueOf_snoc_pre]
      exact Chn.app h2)
  rw [hL]
  refine ⟨?_, ?_, ?_, ?_, H.pos, ?_⟩
  · show m.keys ++ [some k] = _; rw [H.keys]
  · show m.lives ++ [true] = _; rw [H.lives]; simp
  · show (m.heads.set _ _).length = _; rw [List.length_set]; exact H.heads
  · show ((m.nexts ++ [-1]).set _ _).length = _; rw [List.length_set]; simp [H.nexts]
  · intro c hc
    have h1 := h c hc
    rw [← dueN_len, show (ks ++ [some k]).length = ks.length + 1 by simp]
    exact h1
end plain

section plain
/-! ## plain 2: a key is added -/
theorem livK_app (a b : List (Option Key)) : livK (a ++ b) = livK a ++ livK b := by unfold livK; exact List.filter_append ..
theorem livK_livK (a : List (Option Key)) : livK (livK a) = livK a := by unfold livK; rw [List.filter_filter]; simp
theorem livK_one (k : Key) : livK [some k] = [some k] := rfl
theorem livK_nones (n : Nat) : livK (List.replicate n none) = [] := by
  unfold livK
  rw [List.filter_eq_nil_iff]
  intro o ho
  rw [(List.mem_replicate.mp ho).2]
  decide
theorem mem_livK {ks : List (Option Key)} {k : Key} : some k ∈ livK ks ↔ some k ∈ ks := by
  unfold livK; rw [List.mem_filter]; simp
theorem addHashed_hs {m : Pm} {fm : Fm} {k : Key} (H : Hs m fm.places) (hs : m.size = fm.size) (hc : m.count = (livK fm.places).length) (hp : fm.pk = false) (len : (fm.places.length : Int) ≤ fm.size) :
    Hs (addHashedM m k) (addedF fm k).places ∧ (addHashedM m k).size = (addedF fm k).size ∧ (addHashedM m k).pk = m.pk ∧ (addHashedM m k).count = m.count ∧ (addHashedM m k).next = m.next ∧ (addedF fm k).pk = false ∧
    livK (addedF fm k).places = livK fm.places ++ [some k] ∧ ((addedF fm k).places.length : Int) ≤ (addedF fm k).size ∧ ((addedF fm k).size = fm.size ∨ ((addedF fm k).size = fm.size * 2 ∧ fm.size ≤ (livK fm.places).length + (livK fm.places).length / 32)) := by
  have hL : m.lives.length = fm.places.length := by rw [H.lives]; simp
  have hpos := H.pos
  unfold addedF
  rw [if_neg (by rw [hp]; decide)]
  unfold addHashedM
  by_cases h1 : fm.size ≤ fm.places.length
  · rw [if_pos h1, if_pos (show m.size ≤ m.lives.length by omega)]
    by_cases h2 : (livK fm.places).length + (livK fm.places).length / 32 < fm.places.length
    · rw [if_pos h2, if_pos (show m.count + m.count / 32 < m.lives.length by omega)]
      have hr := rehashM_hs H.lives (fun p k e => by rw [H.keys]; exact e) H.pos
      obtain ⟨e1, e2, e3, e4⟩ := rehashM_same m
      have hz := snoc_hs hr k
      refine ⟨hz, ?_, e1, e3, e4, hp, ?_, ?_, .inl rfl⟩
      · show (rehashM m).size = fm.size; rw [e2, hs]
      · show livK (livK fm.places ++ [some k]) = _; rw [livK_app, livK_livK, livK_one]
      · show ((livK fm.places ++ [some k]).length : Int) ≤ fm.size
        simp only [List.length_append, List.length_cons, List.length_nil]
        omega
    · rw [if_neg h2, if_neg (show ¬ m.count + m.count / 32 < m.lives.length by omega)]
      have hr := chainsM_hs (m := { m with size := m.size * 2 }) H.keys H.lives (show 0 < m.size * 2 by omega)
      obtain ⟨e1, e2, e3, e4⟩ := chainsM_same { m with size := m.size * 2 }
      have hz := snoc_hs hr k
      refine ⟨hz, ?_, e1, e3, e4, hp, ?_, ?_, .inr ⟨rfl, by omega⟩⟩
      · show (chainsM { m with size := m.size * 2 }).size = fm.size * 2
        rw [e2, ← hs]
      · show livK (fm.places ++ [some k]) = _; rw [livK_app, livK_one]
      · show ((fm.places ++ [some k]).length : Int) ≤ fm.size * 2
        simp only [List.length_append, List.length_cons, List.length_nil]
        omega
  · rw [if_neg h1, if_neg (show ¬ m.size ≤ m.lives.length by omega)]
    have hz := snoc_hs H k
    refine ⟨hz, hs, rfl, rfl, rfl, hp, ?_, ?_, .inl rfl⟩
    · show livK (fm.places ++ [some k]) = _; rw [livK_app, livK_one]
    · show ((fm.places ++ [some k]).length : Int) ≤ fm.size
      simp only [List.length_append, List.length_cons, List.length_nil]
      omega
theorem toHashM_hs {m : Pm} {ks : List (Option Key)} (hl : m.lives = ks.map Option.isSome) (hk : ∀ (p : Nat) k, ks[p]? = some (some k) → k = .int p) (hp : 0 < m.size) : Hs (toHashM m) (livK ks) :=
  rehashM_hs (m := { m with keys := numKeys m.lives.length, pk := false }) hl (fun p k e => by
    rw [hk p k e]
    refine numKeys_at ?_
    show p < m.lives.length
    rw [hl, List.length_map]
    exact (List.getElem?_eq_some_iff.mp e).1) hp
theorem toHashM_same (m : Pm) : (toHashM m).pk = false ∧ (toHashM m).size = m.size ∧ (toHashM m).count = m.count ∧ (toHashM m).next = m.next :=
  rehashM_same { m with keys := numKeys m.lives.length, pk := false }
theorem slow_hs {m : Pm} {fm : Fm} {k : Key} (hl : m.lives = fm.places.map Option.isSome) (hs : m.size = fm.size) (hpos : 0 < fm.size) (len : (fm.places.length : Int) ≤ fm.size) (hp : fm.pk = true)
    (hpk : ∀ (p : Nat) k, fm.places[p]? = some (some k) → k = .int p) (hc : m.count = (livK fm.places).length) (M : Pm) (hM : M = toHashM (if m.size ≤ m.lives.length then { m with size := m.size * 2 } else m)) :
    M.pk = false ∧ Hs (addHashedM M k) (slowF fm k).places ∧ (addHashedM M k).size = (slowF fm k).size ∧ (addHashedM M k).pk = false ∧ (addHashedM M k).count = m.count ∧ (addHashedM M k).next = m.next ∧ (slowF fm k).pk = false ∧
    livK (slowF fm k).places = livK fm.places ++ [some k] ∧ ((slowF fm k).places.length : Int) ≤ (slowF fm k).size ∧ (slowF fm k).size ≤ fm.size * 2 ∧ 0 < (slowF fm k).size := by
  have hL : m.lives.length = fm.places.length := by rw [hl]; simp
  have hle := livK_le fm.places
  generalize hm2 : (if m.size ≤ m.lives.length then { m with size := m.size * 2 } else m) = m2 at hM
  have a1 : m2.lives = m.lives := by rw [← hm2]; split <;> rfl
  have a2 : m2.count = m.count := by rw [← hm2]; split <;> rfl
  have a3 : m2.next = m.next := by rw [← hm2]; split <;> rfl
  have a4 : m2.size = (hashF fm).size := by
    rw [← hm2]
    unfold hashF
    by_cases h1 : fm.size ≤ fm.places.length
    · rw [if_pos (show m.size ≤ m.lives.length by omega)]
      simp only [hp, h1, and_self, if_true]
      rw [hs]
    · rw [if_neg (show ¬ m.size ≤ m.lives.length by omega)]
      simp only [h1, and_false, if_false]
      exact hs
  have a5 : (fm.places.length : Int) ≤ (hashF fm).size ∧ (hashF fm).size ≤ fm.size * 2 ∧ 0 < (hashF fm).size ∧ ((livK fm.places).length : Int) < (hashF fm).size := by
    unfold hashF
    by_cases h1 : fm.size ≤ fm.places.length
    · simp only [hp, h1, and_self, if_true]; omega
    · simp only [h1, and_false, if_false]; omega
  obtain ⟨e1, e2, e3, e4⟩ := toHashM_same m2
  have hH := toHashM_hs (m := m2) (ks := fm.places) (by rw [a1, hl]) hpk (by rw [a4]; exact a5.2.2.1)
  subst hM
  have e5 : (hashF fm).places = livK fm.places := rfl
  have hadd : addedF (hashF fm) k = slowF fm k := by
    unfold addedF
    rw [if_neg (show ¬ (hashF fm).pk = true by unfold hashF; exact Bool.false_ne_true), if_neg (show ¬ (hashF fm).size ≤ (hashF fm).places.length by rw [e5]; omega)]
    rfl
  have h := addHashed_hs (m := toHashM m2) (fm := hashF fm) (k := k) hH (by rw [e2, a4]) (by rw [e3, a2, hc, e5, livK_livK]) rfl (by rw [e5]; omega)
  rw [hadd, e5, livK_livK] at h
  obtain ⟨b1, b2, b3, b4, b5, b6, b7, b8, b9⟩ := h
  exact ⟨e1, b1, b2, by rw [b3, e1], by rw [b4, e3, a2], by rw [b5, e4, a3], b6, b7, b8, a5.2.1, a5.2.2.1⟩
structure Iv0 (d : Nat) (m : Pm) (fm : Fm) : Prop where
  pk : m.pk = fm.pk
  size : m.size = fm.size
  lives : m.lives = fm.places.map Option.isSome
  pos : 0 < fm.size
  len : (fm.places.length : Int) ≤ fm.size
  pack : fm.pk = true → fm.size ≤ 8 + 4 * d ∧ m.keys = [] ∧ m.heads = [] ∧ m.nexts = [] ∧ ∀ (p : Nat) k, fm.places[p]? = some (some k) → k = .int p
  hash : fm.pk = false → fm.size ≤ 16 + 8 * d ∧ Hs m fm.places
theorem add_iv0 {d : Nat} {m : Pm} {fm : Fm} {k : Key} (H : Iv0 d m fm) (hc : m.count = (livK fm.places).length) (hd : (livK fm.places).length ≤ d) :
    Iv0 (d + 1) (addB (addA m k) k) (addedF fm k) ∧ livK (addedF fm k).places = livK fm.places ++ [some k] ∧ (addB (addA m k) k).count = m.count ∧ (addB (addA m k) k).next = m.next := by
  have hL : m.lives.length = fm.places.length := by rw [H.lives]; simp
  have hsz := H.size
  cases hp : fm.pk
  · have hmp : m.pk = false := by rw [H.pk, hp]
    obtain ⟨q1, q2⟩ := H.hash hp
    have e1 : addA m k = m := by unfold addA; rw [if_neg (by rw [hmp]; decide)]
    have e2 : addB m k = addHashedM m k := by unfold addB; rw [if_neg (by rw [hmp]; decide)]
    rw [e1, e2]
    obtain ⟨b1, b2, b3, b4, b5, b6, b7, b8, b9⟩ := addHashed_hs (k := k) q2 hsz hc hp H.len
    have hpos := H.pos
    refine ⟨⟨by rw [b3, hmp, b6], b2, b1.lives, ?_, b8, by rw [b6]; simp, fun _ => ⟨?_, b1⟩⟩, b7, b4, b5⟩
    · rcases b9 with e | ⟨e, _⟩ <;> rw [e] <;> omega
    · rcases b9 with e | ⟨e, h⟩ <;> rw [e] <;> omega
  · have hmp : m.pk = true := by rw [H.pk, hp]
    obtain ⟨q1, q2, q3, q4, q5⟩ := H.pack hp
    have slow : ∀ (m' : Pm) (fm' : Fm), m'.lives = m.lives → m'.size = fm'.size → m'.count = m.count → m'.next = m.next → fm'.places = fm.places → fm'.pk = true → 0 < fm'.size → ((fm.places.length : Int) ≤ fm'.size) → fm'.size ≤ 8 + 4 * (d + 1 : Nat) →
        addA m k = toHashM (if m'.size ≤ m.lives.length then { m' with size := m'.size * 2 } else m') → addedF fm k = slowF fm' k →
        Iv0 (d + 1) (addB (addA m k) k) (addedF fm k) ∧ livK (addedF fm k).places = livK fm.places ++ [some k] ∧ (addB (addA m k) k).count = m.count ∧ (addB (addA m k) k).next = m.next := by
      intro m' fm' h1 h2 h3 h4 h5 h6 h7 h8 h9 h10 h11
      rw [← h1] at h10
      obtain ⟨b0, b1, b2, b3, b4, b5, b6, b7, b8, b9, b10⟩ := slow_hs (m := m') (fm := fm') (k := k) (by rw [h1, h5, H.lives]) h2 h7 (by rw [h5]; exact h8) h6 (by rw [h5]; exact q5) (by rw [h3, h5, hc]) _ h10
      have e2 : addB (addA m k) k = addHashedM (addA m k) k := by unfold addB; rw [if_neg (by rw [b0]; decide)]
      rw [e2, h11]
      exact ⟨⟨by rw [b3, b6], b2, b1.lives, b10, b8, by rw [b6]; simp, fun _ => ⟨by omega, b1⟩⟩, by rw [b7, h5], by rw [b4, h3], by rw [b5, h4]⟩
    have eA : ∀ m' : Pm, takesM m k = (m', false) → addA m k = toHashM (if m'.size ≤ m.lives.length then { m' with size := m'.size * 2 } else m') := by
      intro m' e; unfold addA; rw [if_pos hmp, e]; rfl
    have hpos := H.pos
    have hlen := H.len
    cases k with
    | str x =>
      refine slow m fm rfl hsz rfl rfl rfl hp H.pos H.len (by omega) (eA m rfl) ?_
      unfold addedF; rw [if_pos hp]
    | int i =>
      have et := takesM_int m i
      by_cases h1 : i < (m.lives.length : Int)
      · rw [if_pos h1] at et
        refine slow m fm rfl hsz rfl rfl rfl hp H.pos H.len (by omega) (eA m et) ?_
        unfold addedF; rw [if_pos hp]; dsimp only; rw [if_neg (by omega)]
      · rw [if_neg h1] at et
        have hg : grows m i ↔ growsF fm i := by unfold grows growsF; rw [hsz, hc]
        -- the grown ones
        obtain ⟨m', et', g1, g2, g3, g4, g5, g6⟩ : ∃ m' : Pm, takesM m (.int i) = (m', decide (i < m'.size)) ∧ m'.size = (grownF fm i).size ∧ m' = { m with size := m'.size } ∧ (grownF fm i).places = fm.places ∧ (grownF fm i).pk = true ∧
            (fm.size ≤ (grownF fm i).size) ∧ (grownF fm i).size ≤ 8 + 4 * (d + 1 : Nat) := by
          by_cases hgr : grows m i
          · rw [if_pos hgr] at et
            have hgf := hg.mp hgr
            refine ⟨_, et, ?_, rfl, ?_, ?_, ?_, ?_⟩ <;> unfold grownF <;> rw [if_pos hgf]
            · show m.size * 2 = fm.size * 2; rw [hsz]
            · exact hp
            · show fm.size ≤ fm.size * 2; omega
            · obtain ⟨_, _, z⟩ := hgf
              show fm.size * 2 ≤ _
              omega
          · rw [if_neg hgr] at et
            have hgf : ¬ growsF fm i := fun q => hgr (hg.mpr q)
            refine ⟨_, et, ?_, rfl, ?_, ?_, ?_, ?_⟩ <;> unfold grownF <;> rw [if_neg hgf]
            · exact hsz
            · exact hp
            · omega
            · omega
        by_cases h2 : i < m'.size
        · have hadd : addedF fm (.int i) = { grownF fm i with places := fm.places ++ List.replicate (i - fm.places.length).toNat none ++ [some (.int i)] } := by
            unfold addedF; rw [if_pos hp]; dsimp only; rw [if_pos (by omega), if_pos (by omega)]
          rw [decide_eq_true h2] at et'
          have e1 : addA m (.int i) = m' := by unfold addA; rw [if_pos hmp, et']; rfl
          have hm'p : m'.pk = true := by rw [g2]; exact hmp
          have e2 : addB m' (.int i) = addPackedM m' i := by unfold addB; rw [if_pos hm'p]
          have hml : m'.lives = m.lives := by rw [g2]
          rw [e1, e2, hadd]
          refine ⟨⟨?_, g1, ?_, ?_, ?_, fun _ => ⟨g6, ?_, ?_, ?_, ?_⟩, ?_⟩, ?_, by show m'.count = _; rw [g2], by show m'.next = _; rw [g2]⟩
          · show m'.pk = (grownF fm i).pk; rw [hm'p, g4]
          · show m'.lives ++ List.replicate (i - m'.lives.length).toNat false ++ [true] = _
            rw [hml, hL, H.lives]
            simp
          · show 0 < (grownF fm i).size; omega
          · show ((fm.places ++ List.replicate (i - fm.places.length).toNat none ++ [some (Key.int i)]).length : Int) ≤ (grownF fm i).size
            simp only [List.length_append, List.length_cons, List.length_nil, List.length_replicate]
            omega
          · show m'.keys = []; rw [g2]; exact q2
          · show m'.heads = []; rw [g2]; exact q3
          · show m'.nexts = []; rw [g2]; exact q4
          · intro p k hk
            have hk : (fm.places ++ List.replicate (i - fm.places.length).toNat none ++ [some (Key.int i)])[p]? = some (some k) := hk
            rcases Nat.lt_or_ge p (fm.places ++ List.replicate (i - fm.places.length).toNat none).length with h3 | h3
            · rw [List.getElem?_append_left h3] at hk
              rcases Nat.lt_or_ge p fm.places.length with h4 | h4
              · rw [List.getElem?_append_left h4] at hk
                exact q5 p k hk
              · rw [List.getElem?_append_right h4, List.getElem?_replicate] at hk
                split at hk <;> simp at hk
            · rw [List.getElem?_append_right h3] at hk
              have h5 : p - (fm.places ++ List.replicate (i - fm.places.length).toNat none).length = 0 := by
                rcases Nat.eq_zero_or_pos (p - (fm.places ++ List.replicate (i - fm.places.length).toNat none).length) with z | z
                · exact z
                · rw [List.getElem?_eq_none (by simp at z ⊢; omega)] at hk; cases hk
              rw [h5] at hk
              have hk : Key.int i = k := by simpa using hk
              rw [← hk]
              simp only [List.length_append, List.length_replicate] at h3 h5
              congr 1
              omega
          · intro hf
            have hf : (grownF fm i).pk = false := hf
            rw [g4] at hf; cases hf
          · show livK (fm.places ++ List.replicate (i - fm.places.length).toNat none ++ [some (Key.int i)]) = _
            rw [livK_app, livK_app, livK_nones, livK_one, List.append_nil]
        · have hadd : addedF fm (.int i) = slowF (grownF fm i) (.int i) := by
            unfold addedF; rw [if_pos hp]; dsimp only; rw [if_pos (by omega), if_neg (by omega)]
          rw [decide_eq_false h2] at et'
          exact slow m' (grownF fm i) (by rw [g2]) g1 (by rw [g2]) (by rw [g2]) g3 g4 (by omega) (by omega) g6 (eA m' et') hadd
end plain

section plain
/-! ## plain 3: the invariant; a key found; a key put -/
noncomputable def nxv : Option Int → Int | none => -2 ^ 63 | some b => b
structure Iv (d : Nat) (m : Pm) (fm : Fm) : Prop where
  iv0 : Iv0 d m fm
  count : m.count = (livK fm.places).length
  next : m.next = nxv fm.next
  cnt : (livK fm.places).length ≤ d
  good : ∀ k, some k ∈ fm.places → KGood k
  nodup : (livK fm.places).Nodup
  nb : ∀ b, fm.next = some b → -4 ≤ b ∧ b ≤ 2 ^ 41 + d
  nlt : ∀ i, some (Key.int i) ∈ fm.places → ∃ b, fm.next = some b ∧ i < b
theorem Iv0.mono {d : Nat} {m : Pm} {fm : Fm} (H : Iv0 d m fm) : Iv0 (d + 1) m fm :=
  ⟨H.pk, H.size, H.lives, H.pos, H.len, fun h => by obtain ⟨h1, h2⟩ := H.pack h; exact ⟨by omega, h2⟩, fun h => by obtain ⟨h1, h2⟩ := H.hash h; exact ⟨by omega, h2⟩⟩
theorem Iv.mono {d : Nat} {m : Pm} {fm : Fm} (H : Iv d m fm) : Iv (d + 1) m fm :=
  ⟨H.iv0.mono, H.count, H.next, by have := H.cnt; omega, H.good, H.nodup, fun b h => by have := H.nb b h; omega, H.nlt⟩
theorem Iv0.cn {d : Nat} {m : Pm} {fm : Fm} {c n : Int} {n' : Option Int} (H : Iv0 d m fm) : Iv0 d { m with count := c, next := n } { fm with next := n' } :=
  ⟨H.pk, H.size, H.lives, H.pos, H.len, H.pack, fun h => by obtain ⟨h1, h2⟩ := H.hash h; exact ⟨h1, ⟨h2.keys, h2.lives, h2.heads, h2.nexts, h2.pos, h2.chains⟩⟩⟩
theorem Iv.small {d : Nat} {m : Pm} {fm : Fm} (H : Iv d m fm) (hd : d ≤ 100) : 0 < fm.size ∧ fm.size < 2 ^ 14 ∧ fm.places.length < 2 ^ 14 := by
  have h1 := H.iv0.pos
  have h2 := H.iv0.len
  cases hp : fm.pk
  · have := (H.iv0.hash hp).1; omega
  · have := (H.iv0.pack hp).1; omega
theorem Iv.ok {d : Nat} {m : Pm} {fm : Fm} (H : Iv d m fm) : KsOk fm.places := by
  intro k hk
  cases k with
  | none => rfl
  | some k => exact (H.good k hk).ok
theorem Iv.right {d : Nat} {m : Pm} {fm : Fm} (H : Iv d m fm) (hd : d ≤ 100) : RightF m fm := by
  obtain ⟨s1, s2, s3⟩ := H.small hd
  refine ⟨H.iv0.pk, H.iv0.size, H.count, H.iv0.lives, ?_, H.ok, by omega, ?_, ?_⟩
  · intro p k hk
    cases hp : fm.pk
    · rw [if_neg (by rw [H.iv0.pk, hp]; decide), (H.iv0.hash hp).2.keys]; exact hk
    · rw [if_pos (by rw [H.iv0.pk, hp]), (H.iv0.pack hp).2.2.2.2 p k hk]
  · intro hp
    obtain ⟨_, h1, h2, h3, _⟩ := H.iv0.pack hp
    exact ⟨h1, h2, h3⟩
  · intro hp
    obtain ⟨_, h⟩ := H.iv0.hash hp
    have hz := H.iv0.size
    have hh := h.heads
    have hc := h.chains
    rw [hz] at hc
    refine ⟨h.keys, by omega, h.nexts, by rw [h.lives]; simp, H.ok, ?_, by omega, by omega, s1, fun c hcl => hc c (by omega)⟩
    intro x hx
    exact (H.good _ hx).1
theorem Hs.live {m : Pm} {ks : List (Option Key)} (H : Hs m ks) : ∀ p : Nat, m.lives[p]? = some true → ∃ k, m.keys[p]? = some (some k) := by
  intro p hp
  rw [H.lives, List.getElem?_map] at hp
  rw [H.keys]
  cases e : ks[p]? with
  | none => rw [e] at hp; cases hp
  | some o => cases o with
    | none => rw [e] at hp; cases hp
    | some k => exact ⟨k, rfl⟩
theorem Iv.arrok {d : Nat} {m : Pm} {fm : Fm} (H : Iv d m fm) (hd : d ≤ 100) : ArrOk m := by
  obtain ⟨s1, s2, s3⟩ := H.small hd
  have hz := H.iv0.size
  have hL : m.lives.length = fm.places.length := by rw [H.iv0.lives]; simp
  refine ⟨by omega, by omega, by omega, fun hp => ?_⟩
  have h := (H.iv0.hash (by rw [← H.iv0.pk]; exact hp)).2
  exact ⟨by rw [h.keys, hL], by rw [h.nexts, hL], h.heads, h.live, h.pos, by omega, by omega⟩
theorem Iv.find {d : Nat} {m : Pm} {fm : Fm} (H : Iv d m fm) (hd : d ≤ 100) (k : Key) : ∃ hd l, FindOk m k hd l ∧ (some k ∈ livK fm.places → ∃ p : Nat, findR m k l = p ∧ fm.places[p]? = some (some k)) ∧ (some k ∉ livK fm.places → findR m k l < 0) ∧
    (fm.pk = false → l = dueOf fm.places fm.size (ch m k) ∧ m.heads[ch m k]? = some hd) := by
  obtain ⟨s1, s2, s3⟩ := H.small hd
  have hz := H.iv0.size
  have hL : m.lives.length = fm.places.length := by rw [H.iv0.lives]; simp
  cases hp : fm.pk
  · have hmp : m.pk = false := by rw [H.iv0.pk, hp]
    have h := (H.iv0.hash hp).2
    obtain ⟨hd', h1, h2⟩ := h.chains (ch m k) (ch_lt h.pos)
    rw [hz] at h2
    refine ⟨hd', _, ⟨by omega, by omega, by omega, fun _ => ⟨h1, h2, fun p hpm => ?_⟩⟩, ?_, ?_, fun _ => ⟨rfl, h1⟩⟩
    · obtain ⟨k', h3, _⟩ := mem_dueOf.mp hpm
      have := (List.getElem?_eq_some_iff.mp h3).1
      exact ⟨by omega, k', by rw [h.keys]; exact h3⟩
    · intro hm
      obtain ⟨p, hpp⟩ := List.mem_iff_getElem?.mp (mem_livK.mp hm)
      unfold findR findL
      rw [if_neg (by rw [hmp]; decide), h.keys]
      cases e : (dueOf fm.places fm.size (ch m k)).find? (fun p => fm.places[p]? == some (some k)) with
      | none =>
        have := List.find?_eq_none.mp e p (mem_dueOf.mpr ⟨k, hpp, by rw [← hz]; rfl⟩)
        rw [hpp] at this
        simp at this
      | some q =>
        have := List.find?_some e
        exact ⟨q, rfl, by simpa using this⟩
    · intro hm
      unfold findR findL
      rw [if_neg (by rw [hmp]; decide), h.keys]
      cases e : (dueOf fm.places fm.size (ch m k)).find? (fun p => fm.places[p]? == some (some k)) with
      | none => decide
      | some q =>
        exfalso
        have := List.find?_some e
        have : fm.places[q]? = some (some k) := by simpa using this
        exact hm (mem_livK.mpr (List.mem_of_getElem? this))
  · have hmp : m.pk = true := by rw [H.iv0.pk, hp]
    obtain ⟨_, _, _, _, q5⟩ := H.iv0.pack hp
    refine ⟨0, [], ⟨by omega, by omega, by omega, by rw [hmp]; simp⟩, ?_, ?_, by simp⟩
    · intro hm
      obtain ⟨p, hpp⟩ := List.mem_iff_getElem?.mp (mem_livK.mp hm)
      have hk := q5 p k hpp
      subst hk
      refine ⟨p, ?_, hpp⟩
      unfold findR findP
      rw [if_pos hmp]
      have : liveAt m (p : Nat) = true := by
        unfold liveAt
        rw [H.iv0.lives, List.getElem?_map, Int.toNat_natCast, hpp]
        simp
      dsimp only
      rw [if_pos this]
    · intro hm
      unfold findR findP
      rw [if_pos hmp]
      cases k with
      | str x => dsimp only; omega
      | int i =>
        dsimp only
        rw [if_neg]
        · omega
        · intro hl
          unfold liveAt at hl
          rw [Bool.and_eq_true, decide_eq_true_eq, H.iv0.lives, List.getElem?_map] at hl
          obtain ⟨hi, hl⟩ := hl
          cases e : fm.places[i.toNat]? with
          | none => rw [e] at hl; cases hl
          | some o => cases o with
            | none => rw [e] at hl; cases hl
            | some k' =>
              have := q5 _ _ e
              rw [show ((i.toNat : Nat) : Int) = i by omega] at this
              subst this
              exact hm (mem_livK.mpr (List.mem_of_getElem? e))
theorem Iv.add {d : Nat} {m : Pm} {fm : Fm} {k : Key} (H : Iv d m fm) (hd : d ≤ 100) (hg : KGood k) (hlow : ∀ i, k = .int i → i ≤ 2 ^ 41 + d) (hn : some k ∉ livK fm.places) : Iv (d + 1) (addM m k) (putF fm k) := by
  obtain ⟨h0, h1, h2, h3⟩ := add_iv0 (k := k) H.iv0 H.count H.cnt
  have hput : putF fm k = { addedF fm k with next := nextF fm.next k } := by rw [putF, if_neg hn]
  rw [hput]
  have hmem : ∀ k', some k' ∈ (addedF fm k).places → k' = k ∨ some k' ∈ fm.places := by
    intro k' hk'
    have := mem_livK.mpr hk'
    rw [h1] at this
    rcases List.mem_append.mp this with q | q
    · exact .inr (mem_livK.mp q)
    · left; simpa using q
  have hnx := H.next
  have hiv : ∀ n : Int, n = nxv (nextF fm.next k) → Iv (d + 1) { addB (addA m k) k with count := (addB (addA m k) k).count + 1, next := n } { addedF fm k with next := nextF fm.next k } := by
    intro n hnn
    refine ⟨h0.cn, ?_, hnn, ?_, ?_, ?_, ?_, ?_⟩
    · show (addB (addA m k) k).count + 1 = ((livK (addedF fm k).places).length : Nat)
      rw [h2, H.count, h1]
      simp
    · show (livK (addedF fm k).places).length ≤ d + 1
      rw [h1]
      have := H.cnt
      simp
      omega
    · intro k' hk'
      rcases hmem k' hk' with rfl | q
      · exact hg
      · exact H.good _ q
    · show (livK (addedF fm k).places).Nodup
      rw [h1, List.nodup_append]
      refine ⟨H.nodup, by simp, ?_⟩
      intro a ha b hb hab
      rw [List.mem_singleton.mp hb] at hab
      rw [hab] at ha
      exact hn ha
    · intro b hb
      have hb : nextF fm.next k = some b := hb
      cases k with
      | str x =>
        have := H.nb b hb
        omega
      | int i =>
        have hl := hlow i rfl
        have hg1 : -4 ≤ i := hg.1
        unfold nextF at hb
        cases hfn : fm.next with
        | none =>
          rw [hfn] at hb
          have hb : some (i + 1) = some b := hb
          cases hb
          omega
        | some b0 =>
          rw [hfn] at hb
          have := H.nb b0 hfn
          dsimp only at hb
          split at hb <;> (cases hb; omega)
    · intro i hi
      have old : some (Key.int i) ∈ fm.places → ∃ b, nextF fm.next k = some b ∧ i < b := by
        intro q
        obtain ⟨b, hb1, hb2⟩ := H.nlt i q
        cases k with
        | str x => exact ⟨b, hb1, hb2⟩
        | int j =>
          unfold nextF
          rw [hb1]
          dsimp only
          split
          · exact ⟨_, rfl, by omega⟩
          · exact ⟨_, rfl, hb2⟩
      rcases hmem _ hi with q | q
      · subst q
        show ∃ b, nextF fm.next (.int i) = some b ∧ i < b
        unfold nextF
        cases hfn : fm.next with
        | none => exact ⟨_, rfl, by omega⟩
        | some b0 =>
          dsimp only
          split
          · exact ⟨_, rfl, by omega⟩
          · exact ⟨_, rfl, by omega⟩
      · exact old q
  unfold addM addC
  cases k with
  | str x =>
    have := hiv (addB (addA m (.str x)) (.str x)).next (by rw [h3, hnx]; rfl)
    exact this
  | int i =>
    have hl := hlow i rfl
    dsimp only
    rw [h3, hnx]
    cases hfn : fm.next with
    | none =>
      have hg1 : -4 ≤ i := hg.1
      rw [if_pos (show nxv none ≤ i by simp only [nxv]; omega)]
      have := hiv (min (i + 1) (2 ^ 63 - 1)) (by rw [hfn]; show min (i + 1) (2 ^ 63 - 1) = i + 1; omega)
      rw [hfn] at this
      exact this
    | some b =>
      by_cases hb : b ≤ i
      · rw [if_pos (show nxv (some b) ≤ i from hb)]
        have := hiv (min (i + 1) (2 ^ 63 - 1)) (by rw [hfn]; unfold nextF; dsimp only; rw [if_pos hb]; show min (i + 1) (2 ^ 63 - 1) = i + 1; omega)
        rw [hfn] at this
        exact this
      · rw [if_neg (show ¬ nxv (some b) ≤ i from hb)]
        have := hiv (nxv (some b)) (by rw [hfn]; unfold nextF; dsimp only; rw [if_neg hb])
        rw [hfn] at this
        exact this
end plain

section plain
/-! ## plain 4: a key is dropped -/
theorem livK_uniq {k : Key} : ∀ {P : List (Option Key)} {p q : Nat}, (livK P).Nodup → P[p]? = some (some k) → P[q]? = some (some k) → p = q
  | [], p, q, _, h, _ => by simp at h
  | o :: r, p, q, hn, h1, h2 => by
    have hr : (livK r).Nodup := by
      unfold livK at hn ⊢
      rw [List.filter_cons] at hn
      split at hn
      · exact (List.nodup_cons.mp hn).2
      · exact hn
    have h0 : o = some k → some k ∉ r := by
      intro e hm
      subst e
      have : livK (some k :: r) = some k :: livK r := rfl
      rw [this] at hn
      exact (List.nodup_cons.mp hn).1 (mem_livK.mpr hm)
    cases p with
    | zero => cases q with
      | zero => rfl
      | succ q => exact absurd (List.mem_of_getElem? (by simpa using h2)) (h0 (by simpa using h1))
    | succ p => cases q with
      | zero => exact absurd (List.mem_of_getElem? (by simpa using h1)) (h0 (by simpa using h2))
      | succ q =>
        have h1 : r[p]? = some (some k) := by simpa using h1
        have h2 : r[q]? = some (some k) := by simpa using h2
        have := livK_uniq hr h1 h2
        omega
theorem hole_set {k : Key} {P : List (Option Key)} {p : Nat} (hn : (livK P).Nodup) (hp : P[p]? = some (some k)) : P.map (holeK k) = P.set p none := by
  apply List.ext_getElem?
  intro q
  rw [List.getElem?_map]
  by_cases e : q = p
  · subst e
    rw [List.getElem?_set_self (List.getElem?_eq_some_iff.mp hp).1, hp]
    simp [holeK]
  · rw [List.getElem?_set_ne (fun h => e h.symm)]
    cases h : P[q]? with
    | none => rfl
    | some o =>
      have : o ≠ some k := fun z => e (livK_uniq hn (by rw [z] at h; exact h) hp)
      simp [holeK, this]
theorem livK_hole (k : Key) (P : List (Option Key)) : livK (P.map (holeK k)) = (livK P).filter (fun o => o != some k) := by
  induction P with
  | nil => rfl
  | cons o r ih =>
    have e : ∀ (o : Option Key) (r : List (Option Key)), livK (o :: r) = (if o.isSome = true then [o] else []) ++ livK r := by
      intro o r; cases o <;> rfl
    rw [List.map_cons, e, e, ih, List.filter_append]
    congr 1
    cases o with
    | none => rfl
    | some k' =>
      by_cases h : k' = k
      · subst h; simp [holeK]
      · simp [holeK, h]
theorem hit_set {P : List (Option Key)} {size : Int} {c p q : Nat} : hitC (P.set p none) size c q = (hitC P size c q && decide (q ≠ p)) := by
  by_cases e : q = p
  · subst e
    rw [Bool.eq_iff_iff]
    constructor
    · intro h
      obtain ⟨k, h1, _⟩ := hitC_iff.mp h
      rw [List.getElem?_set] at h1
      simp at h1
    · simp
  · have : hitC (P.set p none) size c q = hitC P size c q := by
      unfold hitC; rw [List.getElem?_set_ne (fun h => e h.symm)]
    rw [this]; simp [e]
theorem due_set (P : List (Option Key)) (size : Int) (c p : Nat) : dueOf (P.set p none) size c = (dueOf P size c).filter (fun q => decide (q ≠ p)) := by
  unfold dueOf
  rw [List.length_set, List.filter_filter]
  exact List.filter_congr fun q _ => by rw [hit_set, Bool.and_comm]
theorem due_nodup (P : List (Option Key)) (size : Int) (c : Nat) : (dueOf P size c).Nodup := by
  unfold dueOf
  exact List.Pairwise.filter _ (List.pairwise_reverse.mpr (List.nodup_range.imp fun h => h.symm))
theorem Chn.unlink {ns : List Int} {p : Nat} {l2 : List Nat} {x : Int} (hx : ns[p]? = some x) : ∀ {l1 : List Nat} {h : Int} {q : Nat}, l1.getLast? = some q → (l1 ++ p :: l2).Nodup → Chn ns h (l1 ++ p :: l2) → Chn (ns.set q x) h (l1 ++ l2)
  | [], _, _, hl, _, _ => by cases hl
  | [a], h, q, hl, hn, hc => by
    have hl : a = q := by simpa using hl
    subst hl
    obtain ⟨e, n, h1, e2, n2, h2, h3⟩ := hc
    rw [hx] at h2
    cases h2
    have hn' : a ∉ p :: l2 := (List.nodup_cons.mp hn).1
    refine ⟨e, x, ?_, Chn.setNe (fun z => hn' (.tail _ z)) h3⟩
    rw [List.getElem?_set_self (List.getElem?_eq_some_iff.mp h1).1]
  | a :: b :: r, h, q, hl, hn, hc => by
    obtain ⟨e, n, h1, h2⟩ := hc
    have hl : (b :: r).getLast? = some q := by simpa [List.getLast?_cons_cons] using hl
    have hn2 := List.nodup_cons.mp hn
    have hq : q ∈ b :: r := List.mem_of_getLast? hl
    refine ⟨e, n, ?_, Chn.unlink hx hl hn2.2 h2⟩
    rw [List.getElem?_set_ne (fun z => hn2.1 (by rw [← z]; exact List.mem_append_left _ hq))]
    exact h1
theorem Chn.split {ns : List Int} {p : Nat} {l2 : List Nat} : ∀ {l1 : List Nat} {h : Int}, Chn ns h (l1 ++ p :: l2) → ∃ x, ns[p]? = some x ∧ Chn ns x l2
  | [], _, hc => by obtain ⟨_, n, h1, h2⟩ := hc; exact ⟨n, h1, h2⟩
  | _ :: _, _, hc => by obtain ⟨_, _, _, h2⟩ := hc; exact Chn.split h2
theorem unlink_hs {m : Pm} {P : List (Option Key)} {k : Key} {p : Nat} {l1 l2 : List Nat} (H : Hs m P) (hp : P[p]? = some (some k)) (hl : dueOf P m.size (ch m k) = l1 ++ p :: l2) (hmp : m.pk = false) :
    Hs (holeM m k p l1) (P.set p none) := by
  obtain ⟨u1, u2, u3, u4, u5, u6, u7, u8⟩ := unlinkM_same m p (ch m k) l1
  have eh : holeM m k p l1 = { unlinkM m p (ch m k) l1 with keys := m.keys.set p none, lives := m.lives.set p false, count := m.count - 1 } := by
    unfold holeM unM; rw [if_neg (by rw [hmp]; decide)]
  rw [eh]
  refine ⟨?_, ?_, ?_, ?_, ?_, ?_⟩
  · show m.keys.set p none = _; rw [H.keys]
  · show m.lives.set p false = _; rw [H.lives, List.map_set]; rfl
  · show (unlinkM m p (ch m k) l1).heads.length = (unlinkM m p (ch m k) l1).size.toNat; rw [u8, u4]; exact H.heads
  · show (unlinkM m p (ch m k) l1).nexts.length = _; rw [u7, List.length_set]; exact H.nexts
  · show 0 < (unlinkM m p (ch m k) l1).size; rw [u4]; exact H.pos
  · show ∀ c, c < (unlinkM m p (ch m k) l1).size.toNat → ∃ hd, (unlinkM m p (ch m k) l1).heads[c]? = some hd ∧ Chn (unlinkM m p (ch m k) l1).nexts hd (dueOf (P.set p none) (unlinkM m p (ch m k) l1).size c)
    rw [u4]
    intro c hc
    obtain ⟨hd, h1, h2⟩ := H.chains c hc
    rw [due_set]
    by_cases e : c = ch m k
    · subst e
      rw [hl] at h2 ⊢
      have hnd := due_nodup P m.size (ch m k)
      rw [hl] at hnd
      have hnd2 := List.nodup_append.mp hnd
      have hp1 : p ∉ l1 := fun z => hnd2.2.2 p z p (.head _) rfl
      have hp2 : p ∉ l2 := (List.nodup_cons.mp hnd2.2.1).1
      have ef : (l1 ++ p :: l2).filter (fun q => decide (q ≠ p)) = l1 ++ l2 := by
        rw [List.filter_append, List.filter_cons_of_neg (by simp)]
        rw [List.filter_eq_self.mpr (fun a ha => by simpa using fun z : a = p => hp1 (z ▸ ha)), List.filter_eq_self.mpr (fun a ha => by simpa using fun z : a = p => hp2 (z ▸ ha))]
      rw [ef]
      obtain ⟨x, hx, hx2⟩ := h2.split
      unfold unlinkM
      cases hg : l1.getLast? with
      | none =>
        have : l1 = [] := by simpa using hg
        subst this
        refine ⟨x, ?_, hx2⟩
        show (m.heads.set (ch m k) ((m.nexts[p]?).getD 0))[ch m k]? = _
        rw [List.getElem?_set_self (List.getElem?_eq_some_iff.mp h1).1, hx]; rfl
      | some q =>
        refine ⟨hd, h1, ?_⟩
        show Chn (m.nexts.set q ((m.nexts[p]?).getD 0)) hd (l1 ++ l2)
        rw [hx]
        exact Chn.unlink hx hg hnd h2
    · have hpn : p ∉ dueOf P m.size c := by
        intro z
        obtain ⟨k', z1, z2⟩ := mem_dueOf.mp z
        rw [hp] at z1
        cases z1
        exact e z2.symm
      rw [List.filter_eq_self.mpr (fun a ha => by simpa using fun z : a = p => hpn (z ▸ ha))]
      unfold unlinkM
      cases hg : l1.getLast? with
      | none =>
        refine ⟨hd, ?_, h2⟩
        show (m.heads.set (ch m k) ((m.nexts[p]?).getD 0))[c]? = _
        rw [List.getElem?_set_ne (fun z => e z.symm)]
        exact h1
      | some q =>
        refine ⟨hd, h1, ?_⟩
        show Chn (m.nexts.set q ((m.nexts[p]?).getD 0)) hd _
        refine Chn.setNe (fun z => ?_) h2
        have hq : q ∈ dueOf P m.size (ch m k) := by rw [hl]; exact List.mem_append_left _ (List.mem_of_getLast? hg)
        obtain ⟨k1, z1, z2⟩ := mem_dueOf.mp z
        obtain ⟨k2, z3, z4⟩ := mem_dueOf.mp hq
        rw [z1] at z3
        cases z3
        exact e (z2.symm.trans z4)
theorem due_take {Q : List (Option Key)} {size : Int} {c j : Nat} (hj : j ≤ Q.length) (hd : ∀ q, j ≤ q → q < Q.length → Q[q]? = some none) : dueOf (Q.take j) size c = dueOf Q size c := by
  have h1 : ∀ n, j + n ≤ Q.length → dueN Q size (j + n) c = dueN Q size j c := by
    intro n
    induction n with
    | zero => intro _; rfl
    | succ n ih =>
      intro hn
      rw [show j + (n + 1) = (j + n) + 1 by omega, dueN_succ, if_neg, List.nil_append]
      · exact ih (by omega)
      · intro z
        obtain ⟨k, z1, _⟩ := hitC_iff.mp z
        rw [hd (j + n) (by omega) (by omega)] at z1
        cases z1
  have h2 := h1 (Q.length - j) (by omega)
  rw [show j + (Q.length - j) = Q.length by omega, dueN_len] at h2
  rw [h2, ← dueN_len, show (Q.take j).length = j by simp; omega]
  unfold dueN
  refine List.filter_congr fun p hp => ?_
  have hp : p < j := by simpa using hp
  unfold hitC
  rw [List.getElem?_take_of_lt hp]
theorem cut_hs {M : Pm} {Q : List (Option Key)} {j : Nat} (H : Hs M Q) (hp : M.pk = false) (hj : j ≤ Q.length) (hd : ∀ q, j ≤ q → q < Q.length → Q[q]? = some none) : Hs (cutM M j) (Q.take j) := by
  unfold cutM
  rw [if_neg (by rw [hp]; decide), if_neg (by rw [hp]; decide)]
  refine ⟨?_, ?_, H.heads, ?_, H.pos, ?_⟩
  · show M.keys.take j = _; rw [H.keys]
  · show M.lives.take j = _; rw [H.lives, List.map_take]
  · show (M.nexts.take j).length = _; rw [List.length_take, List.length_take, H.nexts]
  · intro c hc
    obtain ⟨hd', h1, h2⟩ := H.chains c hc
    refine ⟨hd', h1, ?_⟩
    show Chn (M.nexts.take j) hd' (dueOf (Q.take j) M.size c)
    rw [due_take hj hd]
    refine Chn.take (fun q hq => ?_) h2
    obtain ⟨k, z1, _⟩ := mem_dueOf.mp hq
    rcases Nat.lt_or_ge q j with z | z
    · exact z
    · rw [hd q z (List.getElem?_eq_some_iff.mp z1).1] at z1; cases z1
theorem trimK_nones (a : List (Option Key)) : ∀ n, trimK (a ++ List.replicate n none) = trimK a
  | 0 => by simp
  | n + 1 => by rw [List.replicate_succ', ← List.append_assoc, trimK_none, trimK_nones a n]
theorem drop_nones {Q : List (Option Key)} {j : Nat} (hd : ∀ q, j ≤ q → q < Q.length → Q[q]? = some none) : Q.drop j = List.replicate (Q.length - j) none := by
  apply List.ext_getElem?
  intro i
  rw [List.getElem?_drop, List.getElem?_replicate]
  split
  · exact hd (j + i) (by omega) (by omega)
  · exact List.getElem?_eq_none (by omega)
theorem trimK_take {Q : List (Option Key)} {j : Nat} (hj : j ≤ Q.length) (hd : ∀ q, j ≤ q → q < Q.length → Q[q]? = some none) (h1 : j = 0 ∨ ∃ k, Q[j - 1]? = some (some k)) : trimK Q = Q.take j := by
  have e : Q = Q.take j ++ List.replicate (Q.length - j) none := by rw [← drop_nones hd, List.take_append_drop]
  rw [show trimK Q = trimK (Q.take j ++ List.replicate (Q.length - j) none) from congrArg trimK e, trimK_nones]
  rcases h1 with rfl | ⟨k, hk⟩
  · rfl
  · rcases Nat.eq_zero_or_pos j with z | z
    · subst z; rfl
    · have e2 : Q.take j = Q.take (j - 1) ++ [some k] := by
        rw [show j = (j - 1) + 1 by omega, List.take_add_one, show j - 1 + 1 - 1 = j - 1 by omega, hk]; rfl
      rw [e2, trimK_some]
theorem livK_take {Q : List (Option Key)} {j : Nat} (hd : ∀ q, j ≤ q → q < Q.length → Q[q]? = some none) : livK (Q.take j) = livK Q := by
  have e : livK (Q.take j ++ Q.drop j) = livK (Q.take j) := by rw [livK_app, drop_nones hd, livK_nones, List.append_nil]
  rw [List.take_append_drop] at e
  exact e.symm
theorem getLast_iff {P : List (Option Key)} {k : Key} {p : Nat} (hn : (livK P).Nodup) (hp : P[p]? = some (some k)) : P.getLast? = some (some k) ↔ p + 1 = P.length := by
  have hl := (List.getElem?_eq_some_iff.mp hp).1
  rw [List.getLast?_eq_getElem?]
  constructor
  · intro h
    have := livK_uniq hn h hp
    omega
  · intro h
    rw [show P.length - 1 = p by omega]
    exact hp
theorem Iv.drop {d : Nat} {m m' : Pm} {fm : Fm} {k : Key} {p : Nat} {l1 l2 : List Nat} (H : Iv d m fm) (hp : fm.places[p]? = some (some k)) (hl : m.pk = false → dueOf fm.places fm.size (ch m k) = l1 ++ p :: l2) (hg : GoOn (holeM m k p l1) p m') :
    Iv (d + 1) m' (droppedF fm k) := by
  have hmem : some k ∈ livK fm.places := mem_livK.mpr (List.mem_of_getElem? hp)
  have hset := hole_set H.nodup hp
  have hz := H.iv0.size
  have hpl := (List.getElem?_eq_some_iff.mp hp).1
  -- the array with a hole
  have hM : Iv0 d (holeM m k p l1) { fm with places := fm.places.map (holeK k) } ∧ (holeM m k p l1).count = m.count - 1 ∧ (holeM m k p l1).next = m.next := by
    rcases (by cases fm.pk <;> simp : fm.pk = false ∨ fm.pk = true) with hpk | hpk
    · have hmp : m.pk = false := by rw [H.iv0.pk, hpk]
      obtain ⟨h1, h2⟩ := H.iv0.hash hpk
      have h3 := unlink_hs h2 hp (by rw [hz]; exact hl hmp) hmp
      obtain ⟨u1, u2, u3, u4, u5, u6, u7, u8⟩ := unlinkM_same m p (ch m k) l1
      have eh : holeM m k p l1 = { unlinkM m p (ch m k) l1 with keys := m.keys.set p none, lives := m.lives.set p false, count := m.count - 1 } := by
        unfold holeM unM; rw [if_neg (by rw [hmp]; decide)]
      rw [← hset] at h3
      refine ⟨⟨?_, ?_, h3.lives, H.iv0.pos, ?_, ?_, fun _ => ⟨h1, h3⟩⟩, ?_, ?_⟩
      · rw [eh]; show (unlinkM m p (ch m k) l1).pk = fm.pk; rw [u1, H.iv0.pk]
      · rw [eh]; show (unlinkM m p (ch m k) l1).size = fm.size; rw [u4, hz]
      · show ((fm.places.map (holeK k)).length : Int) ≤ fm.size; rw [List.length_map]; exact H.iv0.len
      · intro z; have z : fm.pk = true := z; rw [hpk] at z; cases z
      · rw [eh]
      · rw [eh]; show (unlinkM m p (ch m k) l1).next = m.next; exact u6
    · have hmp : m.pk = true := by rw [H.iv0.pk, hpk]
      have eh : holeM m k p l1 = { m with lives := m.lives.set p false, count := m.count - 1 } := by
        unfold holeM unM; rw [if_pos hmp]
      obtain ⟨h1, h2, h3, h4, h5⟩ := H.iv0.pack hpk
      rw [eh]
      refine ⟨⟨H.iv0.pk, hz, ?_, H.iv0.pos, ?_, fun _ => ⟨h1, h2, h3, h4, ?_⟩, ?_⟩, rfl, rfl⟩
      · show m.lives.set p false = (fm.places.map (holeK k)).map Option.isSome
        rw [hset, List.map_set, H.iv0.lives]; rfl
      · show ((fm.places.map (holeK k)).length : Int) ≤ fm.size; rw [List.length_map]; exact H.iv0.len
      · intro q k' hq
        have hq : (fm.places.map (holeK k))[q]? = some (some k') := hq
        rw [hset, List.getElem?_set] at hq
        split at hq
        · cases hq
        · exact h5 q k' hq
      · intro z; have z : fm.pk = false := z; rw [hpk] at z; cases z
  obtain ⟨hM0, hMc, hMn⟩ := hM
  -- the end cut off
  have hLM : (holeM m k p l1).lives.length = fm.places.length := by rw [hM0.lives]; simp
  have hfin : ∃ ps, (droppedF fm k) = { fm with places := ps } ∧ Iv0 d m' { fm with places := ps } ∧ m'.count = m.count - 1 ∧ m'.next = m.next ∧ livK ps = livK (fm.places.map (holeK k)) := by
    have edr : droppedF fm k = { fm with places := if fm.places.getLast? = some (some k) then trimK (fm.places.map (holeK k)) else fm.places.map (holeK k) } := by
      unfold droppedF; rw [if_pos hmem]
    rcases hg with ⟨h1, rfl⟩ | ⟨h1, j, ⟨hj1, hj2, hj3⟩, rfl⟩
    · rw [hLM] at h1
      rw [if_neg (fun z => h1 ((getLast_iff H.nodup hp).mp z))] at edr
      exact ⟨_, edr, hM0, hMc, hMn, rfl⟩
    · rw [hLM] at h1 hj1 hj2
      rw [if_pos ((getLast_iff H.nodup hp).mpr h1)] at edr
      have hQ : (fm.places.map (holeK k)).length = fm.places.length := by simp
      have hlives := hM0.lives
      have hd : ∀ q, j ≤ q → q < (fm.places.map (holeK k)).length → (fm.places.map (holeK k))[q]? = some none := by
        intro q z1 z2
        have z3 := hj2 q z1 (by omega)
        rw [hlives] at z3
        have z3 : ((fm.places.map (holeK k)).map Option.isSome)[q]? = some false := z3
        rw [List.getElem?_map] at z3
        cases e : (fm.places.map (holeK k))[q]? with
        | none => rw [e] at z3; cases z3
        | some o => cases o with
          | none => rfl
          | some _ => rw [e] at z3; cases z3
      have hlast : j = 0 ∨ ∃ k', (fm.places.map (holeK k))[j - 1]? = some (some k') := by
        rcases hj3 with z | z
        · exact .inl z
        · right
          rw [hlives] at z
          have z : ((fm.places.map (holeK k)).map Option.isSome)[j - 1]? = some true := z
          rw [List.getElem?_map] at z
          cases e : (fm.places.map (holeK k))[j - 1]? with
          | none => rw [e] at z; cases z
          | some o => cases o with
            | none => rw [e] at z; cases z
            | some k' => exact ⟨k', rfl⟩
      rw [trimK_take (by omega) hd hlast] at edr
      refine ⟨_, edr, ⟨?_, ?_, ?_, hM0.pos, ?_, ?_, ?_⟩, hMc, hMn, livK_take hd⟩
      · exact hM0.pk
      · exact hM0.size
      · show (holeM m k p l1).lives.take j = ((fm.places.map (holeK k)).take j).map Option.isSome
        rw [hlives, List.map_take]
      · have := hM0.len
        have this : ((fm.places.map (holeK k)).length : Int) ≤ fm.size := this
        show (((fm.places.map (holeK k)).take j).length : Int) ≤ fm.size
        rw [List.length_take]
        omega
      · intro z
        obtain ⟨a1, a2, a3, a4, a5⟩ := hM0.pack z
        have hpkM : (holeM m k p l1).pk = true := by rw [hM0.pk]; exact z
        refine ⟨a1, ?_, a3, ?_, ?_⟩
        · show (if (holeM m k p l1).pk = true then (holeM m k p l1).keys else _) = []
          rw [if_pos hpkM]; exact a2
        · show (if (holeM m k p l1).pk = true then (holeM m k p l1).nexts else _) = []
          rw [if_pos hpkM]; exact a4
        · intro q k' hq
          have hq : ((fm.places.map (holeK k)).take j)[q]? = some (some k') := hq
          rw [List.getElem?_take] at hq
          split at hq
          · exact a5 q k' hq
          · cases hq
      · intro z
        obtain ⟨a1, a2⟩ := hM0.hash z
        exact ⟨a1, cut_hs a2 (by rw [hM0.pk]; exact z) (by omega) hd⟩
  obtain ⟨ps, e1, e2, e3, e4, e5⟩ := hfin
  rw [e1]
  rw [livK_hole] at e5
  have e6 : livK ps = (livK fm.places).erase (some k) := by rw [e5, List.Nodup.erase_eq_filter H.nodup]
  have hsub : ∀ k', some k' ∈ ps → some k' ∈ fm.places := by
    intro k' hk'
    have := mem_livK.mpr hk'
    rw [e6] at this
    exact mem_livK.mp (List.mem_of_mem_erase this)
  have hlen : (livK ps).length + 1 = (livK fm.places).length := by
    rw [e6, List.length_erase_of_mem hmem]
    have := List.length_pos_of_mem hmem
    omega
  refine Iv.mono ⟨e2, ?_, ?_, ?_, fun k' hk' => H.good k' (hsub k' hk'), ?_, H.nb, fun i hi => H.nlt i (hsub _ hi)⟩
  · show m'.count = ((livK ps).length : Nat)
    rw [e3, H.count]; omega
  · rw [e4, H.next]
  · show (livK ps).length ≤ d
    have := H.cnt; omega
  · show (livK ps).Nodup
    rw [e6]; exact H.nodup.erase _
end plain

section plain
/-! ## plain 5: to_hash, rehash, copy, new -/
theorem Iv.same {d : Nat} {m m' : Pm} {fm fm' : Fm} (H : Iv d m fm) (h0 : Iv0 (d + 1) m' fm') (hc : m'.count = m.count) (hn : m'.next = m.next) (hn' : fm'.next = fm.next) (hp : livK fm'.places = livK fm.places) : Iv (d + 1) m' fm' := by
  have hsub : ∀ k, some k ∈ fm'.places → some k ∈ fm.places := fun k hk => by
    have := mem_livK.mpr hk
    rw [hp] at this
    exact mem_livK.mp this
  refine ⟨h0, by rw [hc, H.count, hp], by rw [hn, H.next, hn'], by rw [hp]; have := H.cnt; omega, fun k hk => H.good k (hsub k hk), by rw [hp]; exact H.nodup, ?_, ?_⟩
  · intro b hb
    rw [hn'] at hb
    have := H.nb b hb
    omega
  · intro i hi
    rw [hn']
    exact H.nlt i (hsub _ hi)
theorem Iv.toHash {d : Nat} {m : Pm} {fm : Fm} (H : Iv d m fm) (hp : fm.pk = true) : Iv (d + 1) (toHashM m) { fm with pk := false, places := livK fm.places } := by
  obtain ⟨h1, h2, h3, h4, h5⟩ := H.iv0.pack hp
  obtain ⟨e1, e2, e3, e4⟩ := toHashM_same m
  have hs := toHashM_hs H.iv0.lives h5 (by rw [H.iv0.size]; exact H.iv0.pos)
  refine H.same ⟨e1, by rw [e2]; exact H.iv0.size, hs.lives, H.iv0.pos, ?_, ?_, fun _ => ⟨?_, hs⟩⟩ e3 e4 rfl (livK_livK _)
  · have := H.iv0.len
    have := livK_le fm.places
    show ((livK fm.places).length : Int) ≤ fm.size
    omega
  · intro z; cases z
  · show fm.size ≤ _
    omega
theorem rehash_iv {d : Nat} {m m1 : Pm} {fm : Fm} (H : Iv d m fm) (hp : fm.pk = false) (a1 : m1.pk = m.pk) (a2 : m1.keys = m.keys) (a3 : m1.lives = m.lives) (a4 : m1.size = m.size) (a5 : m1.count = m.count) (a6 : m1.next = m.next) :
    Iv (d + 1) (rehashM m1) { fm with places := livK fm.places } := by
  obtain ⟨h1, h2⟩ := H.iv0.hash hp
  obtain ⟨e1, e2, e3, e4⟩ := rehashM_same m1
  have hs := rehashM_hs (m := m1) (ks := fm.places) (by rw [a3]; exact h2.lives) (fun p k e => by rw [a2, h2.keys]; exact e) (by rw [a4]; exact h2.pos)
  refine H.same ⟨by rw [e1, a1]; exact H.iv0.pk, by rw [e2, a4]; exact H.iv0.size, hs.lives, H.iv0.pos, ?_, ?_, fun _ => ⟨?_, hs⟩⟩ (by rw [e3, a5]) (by rw [e4, a6]) rfl (livK_livK _)
  · have := H.iv0.len
    have := livK_le fm.places
    show ((livK fm.places).length : Int) ≤ fm.size
    omega
  · intro z
    have z : fm.pk = true := z
    rw [hp] at z; cases z
  · show fm.size ≤ _
    omega
theorem Iv.rehash {d : Nat} {m : Pm} {fm : Fm} (H : Iv d m fm) (hp : fm.pk = false) : Iv (d + 1) (rehashM m) { fm with places := livK fm.places } :=
  rehash_iv H hp rfl rfl rfl rfl rfl rfl
theorem Iv.copyH {d : Nat} {m : Pm} {fm : Fm} (H : Iv d m fm) (hp : fm.pk = false) : Iv (d + 1) (copyM m) { fm with places := livK fm.places } := by
  have e : copyM m = rehashM { pk := m.pk, keys := m.keys, lives := m.lives, heads := [], nexts := [], size := m.size, count := m.count, next := m.next } := by
    unfold copyM; rw [if_neg (by rw [H.iv0.pk, hp]; decide)]
  rw [e]
  exact rehash_iv H hp rfl rfl rfl rfl rfl rfl
theorem Iv.copyP {d : Nat} {m : Pm} {fm : Fm} (H : Iv d m fm) (hp : fm.pk = true) : Iv (d + 1) (copyM m) fm := by
  have e : copyM m = { pk := m.pk, keys := m.keys, lives := m.lives, heads := [], nexts := [], size := m.size, count := m.count, next := m.next } := by
    unfold copyM; rw [if_pos (by rw [H.iv0.pk, hp])]
  rw [e]
  obtain ⟨h1, h2, h3, h4, h5⟩ := H.iv0.pack hp
  exact H.same ⟨H.iv0.pk, H.iv0.size, H.iv0.lives, H.iv0.pos, H.iv0.len, fun _ => ⟨by omega, h2, rfl, rfl, h5⟩, fun z => by rw [hp] at z; cases z⟩ rfl rfl rfl rfl
theorem Iv.new {m : Pm} {fm : Fm} (n : Int) (h0 : 0 < n) (h8 : n ≤ 8) (hm : m = { pk := true, keys := [], lives := [], heads := [], nexts := [], size := n, count := 0, next := -2 ^ 63 }) (hf : fm = { pk := true, size := n, places := [], next := none }) : Iv 0 m fm := by
  subst hm hf
  refine ⟨⟨rfl, rfl, rfl, h0, ?_, fun _ => ⟨?_, rfl, rfl, rfl, ?_⟩, fun z => by cases z⟩, rfl, rfl, Nat.le_refl _, ?_, ?_, ?_, ?_⟩
  · show ((0 : Nat) : Int) ≤ n; omega
  · show n ≤ _; omega
  · intro p k hk; simp at hk
  · intro k hk; cases hk
  · exact List.nodup_nil
  · intro b hb; cases hb
  · intro i hi; cases hi
theorem Iv.putAny {d : Nat} {m : Pm} {fm : Fm} {k : Key} (H : Iv d m fm) (hd : d ≤ 100) (hg : KGood k) (hlow : ∀ i, k = .int i → i ≤ 2 ^ 41 + d) (r : Int) (h1 : some k ∈ livK fm.places → 0 ≤ r) (h2 : some k ∉ livK fm.places → r < 0) :
    Iv (d + 1) (if 0 ≤ r then m else addM m k) (putF fm k) := by
  by_cases hm : some k ∈ livK fm.places
  · rw [if_pos (h1 hm), putF, if_pos hm]
    exact H.mono
  · rw [if_neg (by have := h2 hm; omega)]
    exact H.add hd hg hlow hm
theorem Iv.appendAny {d : Nat} {m : Pm} {fm : Fm} (H : Iv d m fm) (hd : d ≤ 100) : ∃ i : Int, (if m.next = -2 ^ 63 then 0 else m.next) = i ∧ i = (match fm.next with | none => 0 | some b => b) ∧ KGood (.int i) ∧ Iv (d + 1) (addM m (.int i)) (putF fm (.int i)) := by
  have hnx := H.next
  cases hn : fm.next with
  | none =>
    rw [hn] at hnx
    refine ⟨0, by rw [if_pos (show m.next = -2 ^ 63 from hnx)], rfl, ⟨by decide, by decide⟩, H.add hd ⟨by decide, by decide⟩ (fun i e => by cases e; omega) (fun z => ?_)⟩
    obtain ⟨b, hb, _⟩ := H.nlt 0 (mem_livK.mp z)
    rw [hn] at hb; cases hb
  | some b =>
    rw [hn] at hnx
    have hnx : m.next = b := hnx
    have hb := H.nb b hn
    have hg : KGood (.int b) := ⟨by omega, by omega⟩
    refine ⟨b, by rw [hnx, if_neg (by omega)], rfl, hg, H.add hd hg (fun i e => by cases e; omega) (fun z => ?_)⟩
    obtain ⟨b', hb', hlt⟩ := H.nlt b (mem_livK.mp z)
    rw [hn] at hb'
    cases hb'
    omega
end plain

section funs
variable {w : World} {H₀ : Heap} {o₀ : OsState} {A : Around} {s : Shared} {rs R : List Res} {env : Env}
theorem KVs.memK {vs : List Value} {ks : List (Option Key)} (h : KVs (vs) (livK ks)) {i : Nat} {v : Value} (e : vs[i]? = some v) : ∃ k, KV v k ∧ some k ∈ ks := by
  have hi := (List.getElem?_eq_some_iff.mp e).1
  have hl := h.length
  obtain ⟨o, ho⟩ : ∃ o, (livK ks)[i]? = some o := ⟨_, List.getElem?_eq_getElem (by omega)⟩
  obtain ⟨v', hv', hk⟩ := h.get ho
  obtain rfl : v' = v := Option.some.inj (hv'.symm.trans e)
  have hm := List.mem_of_getElem? ho
  have hs := (List.mem_filter.mp hm).2
  cases o with
  | none => cases hs
  | some k => exact ⟨k, hk, mem_livK.mp hm⟩
theorem ldeed_ {x f : Addr} {a : Ad} {m : Pm} {F : Fd} {vs : List Value} {fm : Fm} {d : Nat} {n : Int} {t : Tok} {Q : Value → Shared → Prop} (W : Wd w H₀) (hR : Rm A 15) (S : St H₀ o₀ (ArrR w.params x a :: DicR w f F :: LsR F.pl vs :: R) s) (hm : Arp a m) (hF : For F vs fm) (H : Iv d m fm) (hd : d ≤ 99)
    (h : ∀ y a' m' F' vs' fm' s', Iv (d + 1) m' fm' → Arp a' m' → For F' vs' fm' → St H₀ o₀ (ArrR w.params y a' :: DicR w f F' :: LsR F'.pl vs' :: R) s' → Q (.ref y) s') : Does w A (call (.ref 388) [.ref x, .ref f, .int n t]) Q s := by
  have hpl := hF.places.length
  obtain ⟨sm1, sm2, sm3⟩ := H.small (by omega)
  refine d_fun (f := 388) ["arr", "form", "number"] ["kind", "rest", "living", "key", "made"] W hR S (nf_fn (by rfl) (by conv => lhs; whnf) (by conv => lhs; whnf)) (by kernel_rfl!) (by kernel_rfl!) rfl (by decide) (by decide +kernel) (by decide +kernel) rfl rfl rfl ?_
  intro L s' S A' hR
  (repeat' tb_rel)
  refine d_pairAssign (H₀ := H₀) (o₀ := o₀) hR.h ?_ (by rfl) (by rfl) rfl (by kernel_rfl!) (by kernel_rfl!)
  (repeat' tb_rel)
  refine ⟨_, _, L, _, _, _, rfl, by assumption, rfl, by decide +kernel, by decide +kernel, fun s4 S4 => ?_⟩
  (repeat' tb_rel)
  refine living_ W (hR.lower (by omega)) (St.sw2 (by assumption)) (by k_memK) hF.places (by omega) (fun l ys s5 hy S5 => ?_)
  have S5 := S5.sw3
  tb_rel
  rename_i s6 S6
  obtain ⟨t1, t2, tn, S6⟩ : ∃ t1 t2 tn, St H₀ o₀ (FrR H₀ L ["arr", "form", "number", "kind", "rest", "living", "key", "made"] [some (.ref x), some (.ref f), some (.int n tn), some (.int (n % 7) t1), some (.int (n / 7) t2), some (.ref l), none, none] :: DicR w f F :: ArrR w.params x a :: LsR l ys :: LsR F.pl vs :: R) s6 := ⟨_, _, _, S6⟩
  have hyl : ys.length = (livK fm.places).length := hy.length
  have hyle := livK_le fm.places
  refine k_next (by assumption) ?_
  refine d_cut 1 (fun s1 => ∃ v k, KV v k ∧ KGood k ∧ ((n % 7 = 1) ∨ KLow k) ∧ St H₀ o₀ (FrR H₀ L ["arr", "form", "number", "kind", "rest", "living", "key", "made"] [some (.ref x), some (.ref f), some (.int n tn), some (.int (n % 7) t1), some (.int (n / 7) t2), some (.ref l), some v, none] :: DicR w f F :: ArrR w.params x a :: LsR l ys :: LsR F.pl vs :: R) s1) ?_ ?_
  · dsimp only [List.take]
    (repeat' tb_rel)
    refine split_beq (fun h1 => ?_) (fun h1 => ?_)
    · (repeat' tb_rel)
      rename_i le s8 S8
      refine d_neKs (hR.lower (by omega)) S8 (LIn.ls (l := l) (vs := ys) (by k_memK)) (LIn.ls (l := le) (vs := []) (by k_memK)) hy (js := []) rfl (livK_ok H.ok) (by intro k hk; cases hk) ?_
      have S8 := S8.drop1
      by_cases he : livK fm.places = []
      · have he' : List.filter Option.isSome fm.places = [] := he
        rw [show (!decide (List.filter Option.isSome fm.places = [])) = false by rw [decide_eq_true he']; rfl]
        (repeat' tb_rel)
        refine lkey_ W (hR.lower (by omega)) S8 (fun v k s9 h2 h3 h4 S9 => ?_)
        (repeat' tb_rel)
        exact ⟨rfl, v, k, h2, h3, .inr h4, by assumption⟩
      · have he' : ¬ List.filter Option.isSome fm.places = [] := he
        rw [show (!decide (List.filter Option.isSome fm.places = [])) = true by rw [decide_eq_false he']; rfl]
        have hpos : 0 < ys.length := by rw [hyl]; exact List.length_pos_iff.mpr he
        have hposI : (0 : Int) < ys.length := by omega
        (repeat' tb_rel)
        have hm0 : 0 ≤ n / 7 % (ys.length : Int) := Int.emod_nonneg _ (by omega)
        have hm1 : n / 7 % (ys.length : Int) < ys.length := Int.emod_lt_of_pos _ hposI
        refine d_itemAny (by assumption) (LIn.ls (vs := ys) (by k_memK)) hm0 (by omega) hm1 (fun v hv => ?_) (by with_unfolding_all rfl)
        obtain ⟨k, hk1, hk2⟩ := KVs.memK hy hv
        (repeat' tb_rel)
        exact ⟨rfl, v, k, hk1, H.good k hk2, .inl h1, by assumption⟩
    · (repeat' tb_rel)
      refine lkey_ W (hR.lower (by omega)) (by assumption) (fun v k s9 h2 h3 h4 S9 => ?_)
      (repeat' tb_rel)
      exact ⟨rfl, v, k, h2, h3, .inr h4, by assumption⟩
  · dsimp only [List.drop]
    rintro s7 ⟨v, k, hkv, hkg, hkl, S7⟩
    have S7 := S7.drop3
    obtain ⟨hd', l', FO, c1, c2, c3⟩ := H.find (by omega) k
    have hlive : 0 ≤ findR m k l' → m.lives[(findR m k l').toNat]? = some true := by
      intro h0
      by_cases hmem : some k ∈ livK fm.places
      · obtain ⟨p, e1, e2⟩ := c1 hmem
        rw [e1, Int.toNat_natCast, H.iv0.lives, List.getElem?_map, e2]; rfl
      · have := c2 hmem; omega
    (repeat' tb_rel)
    refine split_beq (fun h0 => ?_) (fun h0 => ?_)
    · (repeat' tb_rel)
      obtain ⟨i, hi1, hi2, hi3, hi4⟩ := H.appendAny (by omega)
      refine append_ W (hR.lower (by omega)) (St.sw2 (by assumption)) hm (H.arrok (by omega)) (by rw [H.next]; cases e : fm.next with | none => decide | some b => have := H.nb b e; show b < 2 ^ 62; omega) (fun a2 s8 i2 t8 hm2 S8 => ?_)
      rw [hi1] at hm2
      have S8 := S8.sw2
      have hnx := hF.next
      (repeat' tb_rel)
      have put : ∀ (vk : Value) (s9 : Shared) {QQ : Value → Shared → Prop}, KV vk (.int i) → St H₀ o₀ (FrR H₀ L ["arr", "form", "number", "kind", "rest", "living", "key", "made"] [some (.ref x), some (.ref f), some (.int n tn), some (.int (n % 7) t1), some (.int (n / 7) t2), some (.ref l), some v, none] :: DicR w f F :: ArrR w.params x a2 :: LsR F.pl vs :: R) s9 →
          (∀ F' vs' s10, For F' vs' (putF fm (.int i)) → St H₀ o₀ (FrR H₀ L ["arr", "form", "number", "kind", "rest", "living", "key", "made"] [some (.ref x), some (.ref f), some (.int n tn), some (.int (n % 7) t1), some (.int (n / 7) t2), some (.ref l), some v, none] :: DicR w f F' :: ArrR w.params x a2 :: LsR F'.pl vs' :: R) s10 → QQ .none s10) → Does w A' (call (.ref 345) [.ref f, vk]) QQ s9 := by
        intro vk s9 QQ hvk S9 hq
        refine lput_ W (hR.lower (by omega)) (St.sw13 (St.sw S9)) hF hvk (by omega) (by omega) (by omega) H.ok hi3.ok (fun F' vs' s10 hF' S10 => ?_)
        exact hq F' vs' s10 hF' S10.sw3.sw13
      cases hn : fm.next with
      | none =>
        rw [hn] at hnx hi2
        rw [nxOf_none hnx, show (Value.none == Value.none) = true from rfl]
        (repeat' tb_rel)
        refine put _ _ (by rw [hi2]; rfl) (by assumption) (fun F' vs' s10 hF' S10 => ?_)
        (repeat' tb_rel)
        exact h x a2 _ F' vs' _ _ hi4 hm2 hF' S10.drop.sw
      | some b =>
        rw [hn] at hnx hi2
        obtain ⟨t9, e9⟩ := nxOf_some hnx
        rw [e9, show (Value.int b t9 == Value.none) = false from rfl]
        (repeat' tb_rel)
        refine put _ _ (by rw [hi2, e9]; rfl) (by assumption) (fun F' vs' s10 hF' S10 => ?_)
        (repeat' tb_rel)
        exact h x a2 _ F' vs' _ _ hi4 hm2 hF' S10.drop.sw
    have hsz := H.iv0.size
    have hL7 : m.lives.length = fm.places.length := by rw [H.iv0.lives]; simp
    have hkl2 : m.keys.length < 2 ^ 18 := by
      cases hp : fm.pk
      · rw [(H.iv0.hash hp).2.keys]; omega
      · rw [(H.iv0.pack hp).2.1]; decide
    (repeat' tb_rel)
    refine split_beq (fun h1 => ?_) (fun h1 => ?_)
    · (repeat' tb_rel)
      refine drop_ W (hR.lower (by omega)) (St.sw2 (by assumption)) hm hkv (H.arrok (by omega)) FO hlive (fun s8 hneg S8 => ?_) (fun a2 p l1 l2 m2 v2 s8 e1 e2 e3 hm2 S8 => ?_)
      · have hnm : some k ∉ livK fm.places := fun q => by obtain ⟨p, e1, _⟩ := c1 q; omega
        have S8 := S8.sw2
        have e0 : droppedF fm k = fm := by unfold droppedF; rw [if_neg hnm]
        (repeat' tb_rel)
        refine ldropped_ W (hR.lower (by omega)) (St.sw13 (St.sw (by assumption))) hF hkv (by omega) H.ok hkg.ok (fun F' vs' s10 hF' S10 => ?_)
        rw [e0] at hF'
        have S10 := S10.sw3.sw13
        (repeat' tb_rel)
        exact h x a m F' vs' _ _ H.mono hm hF' S10.drop.sw
      · have hpp : fm.places[p]? = some (some k) := by
          by_cases hmem : some k ∈ livK fm.places
          · obtain ⟨p', f1, f2⟩ := c1 hmem
            rw [show p = p' by omega]; exact f2
          · have := c2 hmem; omega
        have hIv : Iv (d + 1) m2 (droppedF fm k) := H.drop (l1 := l1) (l2 := l2) hpp (fun hmp => by
          obtain ⟨q1, _, _⟩ := e2 hmp
          rw [← (c3 (by rw [← H.iv0.pk]; exact hmp)).1]
          exact q1) e3
        have S8 := S8.sw2
        (repeat' tb_rel)
        refine ldropped_ W (hR.lower (by omega)) (St.sw13 (St.sw (by assumption))) hF hkv (by omega) H.ok hkg.ok (fun F' vs' s10 hF' S10 => ?_)
        have S10 := S10.sw3.sw13
        (repeat' tb_rel)
        exact h x a2 m2 F' vs' _ _ hIv hm2 hF' S10.drop.sw
    (repeat' tb_rel)
    refine split_beq (fun h2 => ?_) (fun h2 => ?_)
    · (repeat' tb_rel)
      refine drop_ W (hR.lower (by omega)) (St.sw2 (by assumption)) hm hkv (H.arrok (by omega)) FO hlive (fun s8 hneg S8 => ?_) (fun a2 p l1 l2 m2 v2 s8 e1 e2 e3 hm2 S8 => ?_)
      · have hnm : some k ∉ livK fm.places := fun q => by obtain ⟨p, e1, _⟩ := c1 q; omega
        have S8 := S8.sw2
        have e0 : droppedF fm k = fm := by unfold droppedF; rw [if_neg hnm]
        (repeat' tb_rel)
        refine ldropped_ W (hR.lower (by omega)) (St.sw13 (St.sw (by assumption))) hF hkv (by omega) H.ok hkg.ok (fun F' vs' s10 hF' S10 => ?_)
        rw [e0] at hF'
        have S10 := S10.sw3.sw13
        (repeat' tb_rel)
        exact h x a m F' vs' _ _ H.mono hm hF' S10.drop.sw
      · have hpp : fm.places[p]? = some (some k) := by
          by_cases hmem : some k ∈ livK fm.places
          · obtain ⟨p', f1, f2⟩ := c1 hmem
            rw [show p = p' by omega]; exact f2
          · have := c2 hmem; omega
        have hIv : Iv (d + 1) m2 (droppedF fm k) := H.drop (l1 := l1) (l2 := l2) hpp (fun hmp => by
          obtain ⟨q1, _, _⟩ := e2 hmp
          rw [← (c3 (by rw [← H.iv0.pk]; exact hmp)).1]
          exact q1) e3
        have S8 := S8.sw2
        (repeat' tb_rel)
        refine ldropped_ W (hR.lower (by omega)) (St.sw13 (St.sw (by assumption))) hF hkv (by omega) H.ok hkg.ok (fun F' vs' s10 hF' S10 => ?_)
        have S10 := S10.sw3.sw13
        (repeat' tb_rel)
        exact h x a2 m2 F' vs' _ _ hIv hm2 hF' S10.drop.sw
    have hIvP : Iv (d + 1) (if 0 ≤ findR m k l' then m else addM m k) (putF fm k) := by
      refine H.putAny (by omega) hkg (fun i e => ?_) _ (fun q => ?_) c2
      · subst e
        rcases hkl with q | q
        · exact absurd q h1
        · have := q.2; omega
      · obtain ⟨p, e1, _⟩ := c1 q; omega
    (repeat' tb_rel)
    refine split_beq (fun h3 => ?_) (fun h3 => ?_)
    · (repeat' tb_rel)
      refine split_beq (fun h4 => ?_) (fun h4 => ?_)
      · (repeat' tb_rel)
        have hFp := hF.pk
        cases hp : fm.pk
        · rw [hp] at hFp
          rw [hFp]
          (repeat' tb_rel)
          refine rehash_ W (hR.lower (by omega)) (St.sw2 (by assumption)) hm (H.iv0.hash hp).2.live (by rw [hsz]; omega) (by rw [hsz]; omega) (by omega) (fun a2 s8 hm2 S8 => ?_)
          have S8 := S8.sw2
          (repeat' tb_rel)
          refine living_ W (hR.lower (by omega)) (St.sw (by assumption)) (by k_memK) hF.places (by omega) (fun l2 ys2 s9 hy2 S9 => ?_)
          have S9 := S9.sw2
          (repeat' tb_rel)
          rename_i S10 _ _
          exact h x a2 _ { F with pl := l2 } ys2 _ _ (H.rehash hp) hm2 ⟨by rw [hF.pk], hF.size, hy2, hF.next⟩ S10.drop.sw2.sw12.drop3
        · rw [hp] at hFp
          rw [hFp]
          (repeat' tb_rel)
          refine to_hash_ W (hR.lower (by omega)) (St.sw2 (by assumption)) hm (by rw [hsz]; omega) (by rw [hsz]; omega) (by omega) (fun a2 s8 hm2 S8 => ?_)
          have S8 := S8.sw2
          (repeat' tb_rel)
          refine living_ W (hR.lower (by omega)) (St.sw (by assumption)) (by k_memK) hF.places (by omega) (fun l2 ys2 s9 hy2 S9 => ?_)
          have S9 := S9.sw2
          (repeat' tb_rel)
          rename_i S10 _ _
          exact h x a2 _ { F with pk := false, pl := l2 } ys2 _ _ (H.toHash hp) hm2 ⟨rfl, hF.size, hy2, hF.next⟩ S10.drop.sw2.sw12.drop3
      · (repeat' tb_rel)
        refine split_beq (fun h5 => absurd h5 (by omega)) (fun h5 => ?_)
        (repeat' tb_rel)
        refine put_ W (hR.lower (by omega)) (St.sw2 (by assumption)) hm hkv (H.arrok (by omega)) FO hlive (fun a2 s8 hm2 S8 => ?_)
        have S8 := S8.sw2
        (repeat' tb_rel)
        refine lput_ W (hR.lower (by omega)) (St.sw13 (St.sw (by assumption))) hF hkv (by omega) (by omega) (by omega) H.ok hkg.ok (fun F' vs' s10 hF' S10 => ?_)
        have S10 := S10.sw3.sw13
        (repeat' tb_rel)
        exact h x a2 _ F' vs' _ _ hIvP hm2 hF' S10.drop.sw
    · (repeat' tb_rel)
      refine split_beq (fun h4 => ?_) (fun h4 => ?_)
      · (repeat' tb_rel)
        refine split_beq (fun h5 => ?_) (fun h5 => ?_)
        · (repeat' tb_rel)
          refine copy_ W (hR.lower (by omega)) (St.sw2 (by assumption)) hm (H.arrok (by omega)) hkl2 (fun y b s8 hb S8 => ?_)
          have S8 := S8.sw3
          (repeat' tb_rel)
          refine lright_ W (hR.lower (by omega)) (St.sw (St.sw2 (St.sw4 (by assumption)))) hm hF (H.right (by omega)) (fun s9 S9 => ?_)
          have S9 := S9.sw4
          (repeat' tb_rel)
          have hFp := hF.pk
          cases hp : fm.pk
          · rw [hp] at hFp
            rw [hFp]
            (repeat' tb_rel)
            refine living_ W (hR.lower (by omega)) (St.sw (by assumption)) (by k_memK) hF.places (by omega) (fun l2 ys2 s11 hy2 S11 => ?_)
            have S11 := S11.sw2
            (repeat' tb_rel)
            rename_i S10 _ _
            exact h y b _ { F with pl := l2 } ys2 _ _ (H.copyH hp) hb ⟨by rw [hF.pk], hF.size, hy2, hF.next⟩ S10.drop.sw3.sw13.drop2.drop3
          · rw [hp] at hFp
            rw [hFp]
            (repeat' tb_rel)
            rename_i S10 _ _
            exact h y b _ F vs _ _ (H.copyP hp) hb hF S10.drop.sw2.sw12.drop3
        · (repeat' tb_rel)
          refine put_ W (hR.lower (by omega)) (St.sw2 (by assumption)) hm hkv (H.arrok (by omega)) FO hlive (fun a2 s8 hm2 S8 => ?_)
          have S8 := S8.sw2
          (repeat' tb_rel)
          refine lput_ W (hR.lower (by omega)) (St.sw13 (St.sw (by assumption))) hF hkv (by omega) (by omega) (by omega) H.ok hkg.ok (fun F' vs' s10 hF' S10 => ?_)
          have S10 := S10.sw3.sw13
          (repeat' tb_rel)
          exact h x a2 _ F' vs' _ _ hIvP hm2 hF' S10.drop.sw
      · (repeat' tb_rel)
        refine put_ W (hR.lower (by omega)) (St.sw2 (by assumption)) hm hkv (H.arrok (by omega)) FO hlive (fun a2 s8 hm2 S8 => ?_)
        have S8 := S8.sw2
        (repeat' tb_rel)
        refine lput_ W (hR.lower (by omega)) (St.sw13 (St.sw (by assumption))) hF hkv (by omega) (by omega) (by omega) H.ok hkg.ok (fun F' vs' s10 hF' S10 => ?_)
        have S10 := S10.sw3.sw13
        (repeat' tb_rel)
        exact h x a2 _ F' vs' _ _ hIvP hm2 hF' S10.drop.sw
end funs

section funs
variable {w : World} {H₀ : Heap} {o₀ : OsState} {A : Around} {s : Shared} {rs R : List Res} {env : Env}
theorem slice_take (us : List Value) (n : Nat) : (slicePick us.toArray none (some (n : Int)) none).toList = us.take n := by
  rw [slicePick_plain]
  have e : clipAt us.toArray.size (n : Int) = min n us.length := by
    unfold clipAt
    rw [if_neg (Int.not_lt.mpr (Int.natCast_nonneg n)), List.size_toArray, show min (n : Int) (us.length : Int) = ((min n us.length : Nat) : Int) by omega, Int.max_eq_right (Int.natCast_nonneg _), Int.toNat_natCast]
  simp only [Option.elim, e]
  simp
theorem slice_drop (us : List Value) (n : Nat) : (slicePick us.toArray (some (n : Int)) none none).toList = us.drop n := by
  rw [slicePick_plain]
  have e : clipAt us.toArray.size (n : Int) = min n us.length := by
    unfold clipAt
    simp only [List.size_toArray]
    omega
  simp only [Option.elim, e]
  rcases Nat.le_total n us.length with h | h
  · rw [Nat.min_eq_left h, List.take_of_length_le (by simp)]
  · rw [Nat.min_eq_right h, List.drop_of_length_le h]; simp
theorem lbody_ {name' qual' : Str} {params' : Arguments} {body' : List Stmt} {scope' : Scope} {oc' : Value} {od' an' : Option Addr} {osl' : Array (Option Value)} {dV' kV' doc' pm' cdv' ct' : Value} {fa L sl : Addr} {cd : Value} {vs : List Value} {is : List Int} {Q : Flow → Shared → Prop}
    (W : Wd w H₀) (hR : Rm A 17) (ho' : (KK w).lookup 393 = some ⟨oc', od', .func (fnOf name' qual' params' body' scope' dV' kV' doc' pm' an' cdv' ct'), osl'⟩)
    (hB : H₀.IsList sl vs.toArray) (hiv : IV vs is) (hz : is.length ≤ 63)
    (S : St H₀ o₀ (FrR H₀ L ["script", "rows", "deeds", "size", "arr", "form", "number"] [none, none, none, none, none, none, none] :: CellR (L + 1) (.ref sl) :: R) s)
    (h : ∀ s', (∀ b o, H₀.get? b = some o → s'.heap.get? b = some o) → s'.gens = #[] → s'.os = o₀ → Q (.ret (.bool true)) s') : Does w A (execs body' (envOfC qual' scope' L fa cd)) Q s := by
  have hvl := hiv.length
  refine same_fn (P := fun body scope qual => Does w A (execs body (envOfC qual scope L fa cd)) Q s) (nf_fn (by rfl) (by conv => lhs; whnf) (by conv => lhs; whnf)) ho' ?_
  tb_rel
  tb_rel
  refine d_sliceB (o₀ := o₀) hB (by unfold sizeLine; omega) ?_ (by intro _ _; with_unfolding_all rfl)
  (repeat' tb_rel)
  refine ⟨none, some 30, _, _, rfl, by assumption, .none, .int _ _, fun D s2 S2 => ?_⟩
  rw [show (slicePick vs.toArray none (some 30) none).toList = vs.take 30 from slice_take vs 30] at S2
  refine d_storeCell (c := L + 1) (St.sw2 S2) (fun q k => by obtain ⟨o, k1, k2⟩ := CellR_def.mp k; exact ⟨o, _, k1, k2⟩) (by kernel_rfl!) rfl (by kernel_rfl!) (fun s3 S3 => ?_)
  have S3 := S3.sw2
  have hiv2 : IV (vs.take 30) (is.take 30) := by
    unfold IV at hiv ⊢
    rw [List.map_take, List.map_take, hiv]
  have hl2 : (is.take 30).length ≤ 30 := by simp; omega
  have hll : (vs.take 30).length = (is.take 30).length := hiv2.length
  revert S3 hiv2 hl2 hll
  generalize vs.take 30 = us
  generalize is.take 30 = js
  intro S3 hiv2 hl2 hll
  (repeat' tb_rel)
  refine lrows_ W (hR.lower (by omega)) (by assumption) (fun rw vr s4 hvr S4 => ?_)
  have S4 := S4.sw
  (repeat' tb_rel)
  have hrl := hvr.length
  simp only [List.length_cons, List.length_nil] at hrl
  refine d_compP (H₀ := H₀) (o₀ := o₀) hR.h (by decide) (by rfl) (by decide +kernel) rfl (by decide +kernel) rfl rfl ?_ (by intro _; with_unfolding_all rfl)
  (repeat' tb_rel)
  refine d_enum_list (by assumption) (LIn.ls (vs := vr) (by k_memK)) (fun e it s6 EN S6 => ?_)
  (repeat' tb_rel)
  refine d_iter_enum S6 ?_
  refine ⟨e, it, _, _, _, _, L, _, _, _, fun j ys R1 => (∃ ns, IV ys ns ∧ ns.length = j) ∧ R1 = LsR rw vr :: LsR D us :: CellR (L + 1) (.ref D) :: R, rfl, EN, S6, ⟨⟨[], rfl, rfl⟩, rfl⟩, ?_, ?_, ?_, ?_, ?_⟩
  · rintro j C D2 vs1 ys R1 ⟨_, rfl⟩; exact LIn.ls (vs := vr) (by k_memK)
  · unfold sizeLine; omega
  · rintro j ys R1 ⟨⟨ns, h1, h2⟩, _⟩
    have := h1.length; omega
  · rintro j t v C D2 ys R1 s7 hj hP ⟨⟨ns, h1, h2⟩, rfl⟩ S7
    obtain ⟨i, hi⟩ : ∃ i, ([0, 0, 0, 30, 0, 40, 19, 12, 278, 54, 411, 212, 26, 0, 0, 0, 0, 0, 0, 0, 4, 15, 3, 106] : List Int)[j]? = some i := ⟨_, List.getElem?_eq_getElem (by simpa [hrl] using hj)⟩
    obtain ⟨ti, hti⟩ := hvr.get hi
    obtain rfl : v = .int i ti := Option.some.inj (hP.symm.trans hti)
    (repeat' tb_rel)
    refine split_dec (fun h3 => ?_) (fun h3 => ?_)
    · obtain ⟨z, hz3⟩ : ∃ z, js[j]? = some z := ⟨_, List.getElem?_eq_getElem (by omega)⟩
      obtain ⟨tz, htz⟩ := hiv2.get hz3
      have htz2 : us[((j : Nat) : Int).toNat]? = some (.int z tz) := htz
      have hj63 : ((j : Nat) : Int) < 2 ^ 63 := by omega
      (repeat' tb_rel)
      exact ⟨_, ⟨⟨ns ++ [i + z], h1.snoc _ _, by simp [h2]⟩, rfl⟩, by assumption⟩
    · (repeat' tb_rel)
      exact ⟨_, ⟨⟨ns ++ [i + 0], h1.snoc _ _, by simp [h2]⟩, rfl⟩, by assumption⟩
  rintro D2 ys R1 s7 ⟨⟨ns, hns, hnl⟩, rfl⟩ S7
  have hyl := hns.length
  (repeat' tb_rel)
  refine ⟨D, us, _, _, _, _, rfl, by assumption, LIn.ls (vs := us) (by k_memK), by unfold sizeLine; omega, .int _ _, .none, fun D3 s8 S8 => ?_⟩
  rw [show (slicePick us.toArray (some (vr.length : Int)) none none).toList = us.drop vr.length from slice_drop us vr.length] at S8
  have hdl : (us.drop vr.length).length ≤ 6 := by rw [List.length_drop]; omega
  have hdi : IV (us.drop vr.length) (js.drop vr.length) := by
    unfold IV at hiv2 ⊢
    rw [List.map_drop, List.map_drop, hiv2]
  refine d_addList S8 (LIn.ls (l := D2) (vs := ys) (by k_memK)) (LIn.ls (l := D3) (vs := us.drop vr.length) (by k_memK)) (by unfold sizeLine; omega) (fun D4 s9 S9 => ?_)
  have hdeeds : IV (ys ++ us.drop vr.length) (ns ++ js.drop vr.length) := by
    unfold IV at hns hdi ⊢
    rw [List.map_append, List.map_append, hns, hdi]
  have hdl2 : (ys ++ us.drop vr.length).length ≤ 30 := by rw [List.length_append]; omega
  revert S9 hdeeds hdl2
  generalize ys ++ us.drop vr.length = ds
  generalize ns ++ js.drop vr.length = es
  intro S9 hdeeds hdl2
  (repeat' tb_rel)
  refine d_sum hR.h (by assumption) (LIn.ls (l := D) (vs := us) (by k_memK)) hiv2 (fun t1 s10 S10 => ?_)
  (repeat' tb_rel)
  refine d_itemAny (by assumption) (LIn.ls (by k_memK)) (by omega) (by omega) (by simp; omega) (fun v hv => ?_) (by with_unfolding_all rfl)
  have hv2 : ∃ i t, v = .int i t ∧ 0 < i ∧ i ≤ 8 := by
    have : js.sum % 3 = 0 ∨ js.sum % 3 = 1 ∨ js.sum % 3 = 2 := by omega
    rcases this with e | e | e <;> (rw [e] at hv; exact ⟨_, _, (Option.some.inj hv).symm, by decide, by decide⟩)
  obtain ⟨sz, tsz, rfl, hs0, hs8⟩ := hv2
  (repeat' tb_rel)
  refine d_pairAssign (H₀ := H₀) (o₀ := o₀) hR.h ?_ (by rfl) (by rfl) rfl (by kernel_rfl!) (by kernel_rfl!)
  (repeat' tb_rel)
  refine newArr_ W (hR.lower (by omega)) (by assumption) (fun x a s11 ha S11 => ?_)
  have S11 := S11.sw
  (repeat' tb_rel)
  refine new_form_ W (hR.lower (by omega)) (by assumption) (fun f F s12 hf1 hf2 hf3 S12 => ?_)
  have S12 := S12.sw2
  (repeat' tb_rel)
  refine ⟨_, _, L, _, _, _, rfl, by assumption, rfl, by decide +kernel, by decide +kernel, fun s13 S13 => ?_⟩
  obtain ⟨rest, tz, S13, hD4⟩ : ∃ rest tz, St H₀ o₀ (FrR H₀ L ["script", "rows", "deeds", "size", "arr", "form", "number"] [none, some (.ref rw), some (.ref D4), some (.int sz tz), some (.ref x), some (.ref f), none] :: ArrR w.params x a :: DicR w f F :: LsR F.pl [] :: rest) s13 ∧ LsR D4 ds ∈ rest :=
    ⟨_, _, S13.sw13, by k_memK⟩
  have hFor : For F [] { pk := true, size := sz, places := [], next := none } := ⟨hf1, hf2, rfl, by rw [hf3]; rfl⟩
  have hIv : Iv 0 (newM sz) { pk := true, size := sz, places := [], next := none } := Iv.new sz hs0 hs8 rfl rfl
  (repeat' tb_rel)
  refine d_iter_list (by assumption) (LIn.ls (l := D4) (vs := ds) (.tail _ (.tail _ (.tail _ (.tail _ hD4))))) (fun I s14 IT S14 => ?_)
  refine d_forL (fun i vs' R' => ∃ y a m F' vs2 fm u, vs' = [none, some (.ref rw), some (.ref D4), some (.int sz tz), some (.ref y), some (.ref f), u] ∧ Iv i m fm ∧ Arp a m ∧ For F' vs2 fm ∧ R' = ArrR w.params y a :: DicR w f F' :: LsR F'.pl vs2 :: rest)
    hR.h IT S14 ⟨x, a, _, F, [], _, _, rfl, hIv, ha, hFor, rfl⟩ ?_ rfl (by decide +kernel) rfl (by kernel_rfl!) ?_ ?_
  · rintro i vs' R' ⟨y, a, m, F', vs2, fm, u, rfl, _, _, _, rfl⟩
    exact LIn.ls (l := D4) (vs := ds) (.tail _ (.tail _ (.tail _ (.tail _ (.tail _ hD4)))))
  · rintro i v vs' R' s15 hi hP ⟨y, a, m, F', vs2, fm, u, rfl, hI, hm, hF, rfl⟩ S15
    obtain ⟨n, hn⟩ : ∃ n, es[i]? = some n := ⟨_, List.getElem?_eq_getElem (by rw [← hdeeds.length]; exact hi)⟩
    obtain ⟨tn, htn⟩ := hdeeds.get hn
    obtain rfl : v = .int n tn := Option.some.inj (hP.symm.trans htn)
    (repeat' tb_rel)
    refine ldeed_ W (hR.lower (by omega)) (St.sw13 (St.sw2 (St.sw4 (by assumption)))) hm hF hI (by omega) (fun y2 a2 m2 F2 vs3 fm2 s16 hI2 hm2 hF2 S16 => ?_)
    have S16 := S16.sw4
    (repeat' tb_rel)
    rw [show (Value.ref y2 == Value.none) = false from rfl]
    (repeat' tb_rel)
    refine lright_ W (hR.lower (by omega)) (St.sw4 (by assumption)) hm2 hF2 (hI2.right (by omega)) (fun s17 S17 => ?_)
    have S17 := S17.sw4
    (repeat' tb_rel)
    exact ⟨_, _, ⟨y2, a2, m2, F2, vs3, fm2, _, rfl, hI2, hm2, hF2, rfl⟩, S17.sw13.sw2.sw4.sw2⟩
  · rintro vs' R' s15 ⟨y, a, m, F', vs2, fm, u, rfl, hI, hm, hF, rfl⟩ S15
    (repeat' tb_rel)
    exact h _ S15.base S15.gens S15.os
end funs

end walks

/-! names that the head's line finds taken, so that it lays no twins of its own constants: its proof of a twin grows with the square of the constants in it -/
theorem fin.tw10070804522480449196 : True := trivial
theorem fin.tw10098057777631523497 : True := trivial
theorem fin.tw10147658903529517814 : True := trivial
theorem fin.tw10196768644732416780 : True := trivial
theorem fin.tw10329872625359487480 : True := trivial
theorem fin.tw10383673109516279431 : True := trivial
theorem fin.tw10391319463526535247 : True := trivial
theorem fin.tw10511823565363050587 : True := trivial
theorem fin.tw10580198807604790814 : True := trivial
theorem fin.tw10670670849535407177 : True := trivial
theorem fin.tw1080700006314346644 : True := trivial
theorem fin.tw10807920368746810246 : True := trivial
theorem fin.tw10829458402184033698 : True := trivial
theorem fin.tw10852849658779182186 : True := trivial
theorem fin.tw10875463905939285979 : True := trivial
theorem fin.tw10891054232620793217 : True := trivial
theorem fin.tw10895054467252067526 : True := trivial
theorem fin.tw10907391636593693970 : True := trivial
theorem fin.tw10925335251469727208 : True := trivial
theorem fin.tw10936777179133785780 : True := trivial
theorem fin.tw11039862389202566683 : True := trivial
theorem fin.tw11040825799340251285 : True := trivial
theorem fin.tw11112386831996348380 : True := trivial
theorem fin.tw11151619158091525091 : True := trivial
theorem fin.tw11154830654865731599 : True := trivial
theorem fin.tw11293339424137598113 : True := trivial
theorem fin.tw11298980531735778240 : True := trivial
theorem fin.tw11392279219771409646 : True := trivial
theorem fin.tw11414674201277728305 : True := trivial
theorem fin.tw11454252539852477091 : True := trivial
theorem fin.tw11466478281803324712 : True := trivial
theorem fin.tw11575174756993882273 : True := trivial
theorem fin.tw11587955951900863698 : True := trivial
theorem fin.tw11615019562542576733 : True := trivial
theorem fin.tw11897717083992391400 : True := trivial
theorem fin.tw11953781441336167498 : True := trivial
theorem fin.tw12105171945263650130 : True := trivial
theorem fin.tw12118000046449163591 : True := trivial
theorem fin.tw12135189313929291683 : True := trivial
theorem fin.tw12141802397888321627 : True := trivial
theorem fin.tw12180539936304867106 : True := trivial
theorem fin.tw12221555665107904926 : True := trivial
theorem fin.tw12237877928780879103 : True := trivial
theorem fin.tw12284014389350100970 : True := trivial
theorem fin.tw12291753297600562012 : True := trivial
theorem fin.tw12409915417874342407 : True := trivial
theorem fin.tw12448240930570709186 : True := trivial
theorem fin.tw12464766053444552404 : True := trivial
theorem fin.tw1249118550022496774 : True := trivial
theorem fin.tw12494888245299231016 : True := trivial
theorem fin.tw1252854909445205041 : True := trivial
theorem fin.tw12557769604369416430 : True := trivial
theorem fin.tw12567809125941998234 : True := trivial
theorem fin.tw12629903358213643309 : True := trivial
theorem fin.tw12649782002744950493 : True := trivial
theorem fin.tw12696600883282566439 : True := trivial
theorem fin.tw12711679700452659978 : True := trivial
theorem fin.tw12740692763255036000 : True := trivial
theorem fin.tw12754828620847295776 : True := trivial
theorem fin.tw12829507556594621215 : True := trivial
theorem fin.tw12833947400113492166 : True := trivial
theorem fin.tw12876064707754696378 : True := trivial
theorem fin.tw12946824338688289833 : True := trivial
theorem fin.tw12962497063298326498 : True := trivial
theorem fin.tw12996517811204074000 : True := trivial
theorem fin.tw13021059552284102479 : True := trivial
theorem fin.tw13066358836101814915 : True := trivial
theorem fin.tw13093503161671486093 : True := trivial
theorem fin.tw13177410634674063896 : True := trivial
theorem fin.tw13294311002278339166 : True := trivial
theorem fin.tw13337293482115323266 : True := trivial
theorem fin.tw13360279666012451719 : True := trivial
theorem fin.tw13383306551100868464 : True := trivial
theorem fin.tw13423622936843584764 : True := trivial
theorem fin.tw13467322939085005891 : True := trivial
theorem fin.tw13516622038369049944 : True := trivial
theorem fin.tw13724452099449386491 : True := trivial
theorem fin.tw13790858721211988464 : True := trivial
theorem fin.tw13815853411582834384 : True := trivial
theorem fin.tw13870153662132920491 : True := trivial
theorem fin.tw13898374239775968522 : True := trivial
theorem fin.tw13925877587632400325 : True := trivial
theorem fin.tw13929302177132474383 : True := trivial
theorem fin.tw14075178694198228753 : True := trivial
theorem fin.tw14109310954907245088 : True := trivial
theorem fin.tw14139026862911339306 : True := trivial
theorem fin.tw14166196953294261902 : True := trivial
theorem fin.tw14210890002308233579 : True := trivial
theorem fin.tw14245171486683049214 : True := trivial
theorem fin.tw14347400895652799225 : True := trivial
theorem fin.tw14431720936831517352 : True := trivial
theorem fin.tw14517287926952318261 : True := trivial
theorem fin.tw14560573928864763818 : True := trivial
theorem fin.tw14568449535678555946 : True := trivial
theorem fin.tw14578271805448956485 : True := trivial
theorem fin.tw14679806638718605512 : True := trivial
theorem fin.tw14728723275428758510 : True := trivial
theorem fin.tw14814673180317915700 : True := trivial
theorem fin.tw14838103818555229697 : True := trivial
theorem fin.tw14856888987745899463 : True := trivial
theorem fin.tw14913746390764597971 : True := trivial
theorem fin.tw15149952090015108872 : True := trivial
theorem fin.tw15201286185872193147 : True := trivial
theorem fin.tw15309079848183770524 : True := trivial
theorem fin.tw15344004072050561172 : True := trivial
theorem fin.tw15346081049422159697 : True := trivial
theorem fin.tw1535588207084551279 : True := trivial
theorem fin.tw15373703851562958014 : True := trivial
theorem fin.tw15399907426655090358 : True := trivial
theorem fin.tw1544503264643628384 : True := trivial
theorem fin.tw15533503492667675913 : True := trivial
theorem fin.tw15564276425815640635 : True := trivial
theorem fin.tw15566928917628492161 : True := trivial
theorem fin.tw1560641971993327685 : True := trivial
theorem fin.tw15621619335703214680 : True := trivial
theorem fin.tw15688172546075569117 : True := trivial
theorem fin.tw15741700470354863883 : True := trivial
theorem fin.tw15815952407149668801 : True := trivial
theorem fin.tw15832999045522443761 : True := trivial
theorem fin.tw15989303212955285315 : True := trivial
theorem fin.tw16103849850496634939 : True := trivial
theorem fin.tw16109372258727991565 : True := trivial
theorem fin.tw16115155874713506467 : True := trivial
theorem fin.tw1613116972386908190 : True := trivial
theorem fin.tw16137067943136122067 : True := trivial
theorem fin.tw16175276709679454751 : True := trivial
theorem fin.tw16196181902256332553 : True := trivial
theorem fin.tw16205109500356779066 : True := trivial
theorem fin.tw16229209127682248589 : True := trivial
theorem fin.tw16237762584071213788 : True := trivial
theorem fin.tw1625080806587739848 : True := trivial
theorem fin.tw16252508478716706905 : True := trivial
theorem fin.tw16256441300576474876 : True := trivial
theorem fin.tw16275787546110486726 : True := trivial
theorem fin.tw16307707646766795581 : True := trivial
theorem fin.tw1635022588487117616 : True := trivial
theorem fin.tw16401934584784274106 : True := trivial
theorem fin.tw16407147864228438881 : True := trivial
theorem fin.tw16496857829328116044 : True := trivial
theorem fin.tw16510490156224867327 : True := trivial
theorem fin.tw16530489862217454893 : True := trivial
theorem fin.tw16570786720924097770 : True := trivial
theorem fin.tw16656299143469825513 : True := trivial
theorem fin.tw1666694428299288667 : True := trivial
theorem fin.tw16889484823980962733 : True := trivial
theorem fin.tw16906536467411238026 : True := trivial
theorem fin.tw16934629359412608497 : True := trivial
theorem fin.tw16958243865122950064 : True := trivial
theorem fin.tw17041991840579044601 : True := trivial
theorem fin.tw17123178472405020103 : True := trivial
theorem fin.tw17130245016438642246 : True := trivial
theorem fin.tw17164383140453370395 : True := trivial
theorem fin.tw17197158672614542318 : True := trivial
theorem fin.tw17204297501091165112 : True := trivial
theorem fin.tw17260493314774615805 : True := trivial
theorem fin.tw17362494058136835672 : True := trivial
theorem fin.tw17416127249078093707 : True := trivial
theorem fin.tw17430205856086898164 : True := trivial
theorem fin.tw17449020081951674710 : True := trivial
theorem fin.tw17570709534508481193 : True := trivial
theorem fin.tw17628183408451194143 : True := trivial
theorem fin.tw17656766251404061198 : True := trivial
theorem fin.tw17662344363894024548 : True := trivial
theorem fin.tw17698704350827878285 : True := trivial
theorem fin.tw17717364068325071970 : True := trivial
theorem fin.tw17719728818120068181 : True := trivial
theorem fin.tw17784850919643140607 : True := trivial
theorem fin.tw17801579834951734752 : True := trivial
theorem fin.tw17821466097196317003 : True := trivial
theorem fin.tw17861066769153400444 : True := trivial
theorem fin.tw17896612028031085017 : True := trivial
theorem fin.tw17971676594858020690 : True := trivial
theorem fin.tw17974384156558142227 : True := trivial
theorem fin.tw18082680734076937219 : True := trivial
theorem fin.tw18105285910621931680 : True := trivial
theorem fin.tw18105942590061964161 : True := trivial
theorem fin.tw1819255440876223710 : True := trivial
theorem fin.tw18195182924450695511 : True := trivial
theorem fin.tw18230178534529381785 : True := trivial
theorem fin.tw18295790063311454060 : True := trivial
theorem fin.tw18373065035072037172 : True := trivial
theorem fin.tw18387650150990424433 : True := trivial
theorem fin.tw1887099378405440850 : True := trivial
theorem fin.tw1921391257341544841 : True := trivial
theorem fin.tw1951045429614898598 : True := trivial
theorem fin.tw1976505206021243879 : True := trivial
theorem fin.tw2086631506510373192 : True := trivial
theorem fin.tw216489041496292469 : True := trivial
theorem fin.tw2304379251839397102 : True := trivial
theorem fin.tw2305881189932309285 : True := trivial
theorem fin.tw2321816554428607280 : True := trivial
theorem fin.tw2367325634123391141 : True := trivial
theorem fin.tw2407141182789545092 : True := trivial
theorem fin.tw2415902012162501839 : True := trivial
theorem fin.tw2462912638960843985 : True := trivial
theorem fin.tw251868834278440796 : True := trivial
theorem fin.tw2537931557510868981 : True := trivial
theorem fin.tw2608567993692976607 : True := trivial
theorem fin.tw2617349483901765261 : True := trivial
theorem fin.tw2656788454239962097 : True := trivial
theorem fin.tw2752091986183467555 : True := trivial
theorem fin.tw2775396313129547428 : True := trivial
theorem fin.tw2866121171748074186 : True := trivial
theorem fin.tw2910385600587045654 : True := trivial
theorem fin.tw3004984022683251337 : True := trivial
theorem fin.tw3028926083550364057 : True := trivial
theorem fin.tw3105451386036433885 : True := trivial
theorem fin.tw3112429581023547943 : True := trivial
theorem fin.tw3125960719983571848 : True := trivial
theorem fin.tw3173534031939492945 : True := trivial
theorem fin.tw3199103547748192838 : True := trivial
theorem fin.tw3222278782482380304 : True := trivial
theorem fin.tw3263211703599914710 : True := trivial
theorem fin.tw3268265519342814607 : True := trivial
theorem fin.tw3314143786362844604 : True := trivial
theorem fin.tw333583748066197110 : True := trivial
theorem fin.tw3343445320678177929 : True := trivial
theorem fin.tw3404873503106905745 : True := trivial
theorem fin.tw3456623496861543869 : True := trivial
theorem fin.tw3459265974087741279 : True := trivial
theorem fin.tw3599858809825778643 : True := trivial
theorem fin.tw3683778510129048087 : True := trivial
theorem fin.tw3720082855494527481 : True := trivial
theorem fin.tw3810338749695602999 : True := trivial
theorem fin.tw3810570522144960214 : True := trivial
theorem fin.tw3812028171767442716 : True := trivial
theorem fin.tw3837020019201816242 : True := trivial
theorem fin.tw3955986520655104412 : True := trivial
theorem fin.tw3974152918291533672 : True := trivial
theorem fin.tw3975253019698251321 : True := trivial
theorem fin.tw3998398428148030388 : True := trivial
theorem fin.tw4040260094072895976 : True := trivial
theorem fin.tw4123507419511740495 : True := trivial
theorem fin.tw4162185377826839926 : True := trivial
theorem fin.tw4170516301191304579 : True := trivial
theorem fin.tw4171678462856256454 : True := trivial
theorem fin.tw4209717502836232480 : True := trivial
theorem fin.tw4218790737952374519 : True := trivial
theorem fin.tw4265850918314828415 : True := trivial
theorem fin.tw428092273266315144 : True := trivial
theorem fin.tw4312942655851389009 : True := trivial
theorem fin.tw4326780796455107134 : True := trivial
theorem fin.tw4443050520305737185 : True := trivial
theorem fin.tw452842511749404161 : True := trivial
theorem fin.tw4570111826955561243 : True := trivial
theorem fin.tw4598667867955821814 : True := trivial
theorem fin.tw4640724917100965312 : True := trivial
theorem fin.tw4684940682943077961 : True := trivial
theorem fin.tw4719063310657182621 : True := trivial
theorem fin.tw4754365596532378047 : True := trivial
theorem fin.tw4768634762848416435 : True := trivial
theorem fin.tw4769821431679368130 : True := trivial
theorem fin.tw4788878847521262168 : True := trivial
theorem fin.tw480829909506669009 : True := trivial
theorem fin.tw4868334931027891882 : True := trivial
theorem fin.tw4878226113927451544 : True := trivial
theorem fin.tw4879674094562380441 : True := trivial
theorem fin.tw4898026214463823928 : True := trivial
theorem fin.tw4928979718650693569 : True := trivial
theorem fin.tw5011121235533021005 : True := trivial
theorem fin.tw5071919506433949198 : True := trivial
theorem fin.tw5073790198343104882 : True := trivial
theorem fin.tw5098551885099359569 : True := trivial
theorem fin.tw5102460946473063141 : True := trivial
theorem fin.tw5115476493328737885 : True := trivial
theorem fin.tw5293390819737331289 : True := trivial
theorem fin.tw5320702786494000081 : True := trivial
theorem fin.tw5402249366112354979 : True := trivial
theorem fin.tw544173102793226557 : True := trivial
theorem fin.tw5486226609284752418 : True := trivial
theorem fin.tw5525790119320062773 : True := trivial
theorem fin.tw5647864574477489665 : True := trivial
theorem fin.tw5678346346211369953 : True := trivial
theorem fin.tw5680927227877331926 : True := trivial
theorem fin.tw5776136370200156792 : True := trivial
theorem fin.tw5805905742469029177 : True := trivial
theorem fin.tw5897612983314593646 : True := trivial
theorem fin.tw6058378993454661626 : True := trivial
theorem fin.tw6068950659093879613 : True := trivial
theorem fin.tw6081921254191324426 : True := trivial
theorem fin.tw612862322836996645 : True := trivial
theorem fin.tw6144012678527597917 : True := trivial
theorem fin.tw6207176494656529804 : True := trivial
theorem fin.tw6232080684201472732 : True := trivial
theorem fin.tw6323506392446703087 : True := trivial
theorem fin.tw6435670951450185984 : True := trivial
theorem fin.tw6449190631224713292 : True := trivial
theorem fin.tw6454446336052903152 : True := trivial
theorem fin.tw6515953530934532768 : True := trivial
theorem fin.tw6566618420281934 : True := trivial
theorem fin.tw6567050819087999508 : True := trivial
theorem fin.tw6608422661564810045 : True := trivial
theorem fin.tw6634307039904815820 : True := trivial
theorem fin.tw6650461044873433052 : True := trivial
theorem fin.tw6667815254911646788 : True := trivial
theorem fin.tw670465573061467203 : True := trivial
theorem fin.tw6707113841082798463 : True := trivial
theorem fin.tw6712194924023145494 : True := trivial
theorem fin.tw6718411051458867188 : True := trivial
theorem fin.tw6766378078585498003 : True := trivial
theorem fin.tw6766580051018981234 : True := trivial
theorem fin.tw6968583824967984638 : True := trivial
theorem fin.tw7000300075881102575 : True := trivial
theorem fin.tw7055459427971326715 : True := trivial
theorem fin.tw7249652514872940865 : True := trivial
theorem fin.tw7282745182861764756 : True := trivial
theorem fin.tw7380833856163905736 : True := trivial
theorem fin.tw7415010568414044599 : True := trivial
theorem fin.tw757079261281740938 : True := trivial
theorem fin.tw7613857476909055813 : True := trivial
theorem fin.tw7675655780812522254 : True := trivial
theorem fin.tw7684487725183542926 : True := trivial
theorem fin.tw7779959011674639804 : True := trivial
theorem fin.tw7803649310394182010 : True := trivial
theorem fin.tw7830629276484211593 : True := trivial
theorem fin.tw783483362715066742 : True := trivial
theorem fin.tw7845872953664198349 : True := trivial
theorem fin.tw7976502392129159676 : True := trivial
theorem fin.tw7995362448368537469 : True := trivial
theorem fin.tw8018989035897545986 : True := trivial
theorem fin.tw8025084765662995669 : True := trivial
theorem fin.tw803859442106103436 : True := trivial
theorem fin.tw807531904560671035 : True := trivial
theorem fin.tw8269367382603917829 : True := trivial
theorem fin.tw828056024939588000 : True := trivial
theorem fin.tw8289400949097046189 : True := trivial
theorem fin.tw8383268338085895543 : True := trivial
theorem fin.tw8399098705505230059 : True := trivial
theorem fin.tw8416529770105884409 : True := trivial
theorem fin.tw846297522682114974 : True := trivial
theorem fin.tw8559517257967667466 : True := trivial
theorem fin.tw8577089030196625639 : True := trivial
theorem fin.tw8590288500278120515 : True := trivial
theorem fin.tw8656503046869711584 : True := trivial
theorem fin.tw8668149382578428375 : True := trivial
theorem fin.tw876206183137641144 : True := trivial
theorem fin.tw888132650186811988 : True := trivial
theorem fin.tw891787732878383699 : True := trivial
theorem fin.tw8919302590299486024 : True := trivial
theorem fin.tw8947099994592609211 : True := trivial
theorem fin.tw895571856199123645 : True := trivial
theorem fin.tw9001875181463519149 : True := trivial
theorem fin.tw9113340658982188547 : True := trivial
theorem fin.tw9218923581257491847 : True := trivial
theorem fin.tw9324835427924229859 : True := trivial
theorem fin.tw9357874355931990178 : True := trivial
theorem fin.tw9363291351745731410 : True := trivial
theorem fin.tw9387745189664136937 : True := trivial
theorem fin.tw9544026089342320630 : True := trivial
theorem fin.tw9722632081671974098 : True := trivial
theorem fin.tw9725021084223525626 : True := trivial
theorem fin.tw9735714214384596553 : True := trivial
theorem fin.tw9746214513668125432 : True := trivial
theorem fin.tw9746901515087519452 : True := trivial
theorem fin.tw9806666330580929782 : True := trivial
theorem fin.tw982560976839675504 : True := trivial
theorem fin.tw9828147506342744091 : True := trivial
theorem fin.tw9913140749668108558 : True := trivial
theorem fin.tw999798209818781672 : True := trivial
theorem fin.tw2382477479694899181 : True := trivial
theorem fin.tw11613453401541781385 : True := trivial
theorem fin.tw17767653310865944628 : True := trivial

theorem start_St {s : Shared} {h₁ : Heap} {tk : Nat} {m : Str → Option Value} {cl : Obj} {sl : Addr} (F : Fr s.heap s.heap.objs.size h₁ m) (hg : s.gens = #[]) (hc : h₁.get? (s.heap.objs.size + 1) = some cl) (hd : cl.data = .cell (some (.ref sl))) :
    St s.heap s.os (FrR s.heap s.heap.objs.size ["script", "rows", "deeds", "size", "arr", "form", "number"] [none, none, none, none, none, none, none] :: CellR (s.heap.objs.size + 1) (.ref sl) :: []) { s with heap := h₁, toks := tk } := by
  obtain ⟨⟨oL, es, ep, g1, g2, g3, g4⟩, hk, ha⟩ := F
  have fresh : ∀ a : Nat, s.heap.objs.size ≤ a → s.heap.get? a = none := fun a ha => by
    cases e : s.heap.get? a with
    | none => rfl
    | some o' => exact absurd (Heap.lt_size e) (Nat.not_lt.mpr ha)
  have hne : (s.heap.objs.size + 1 : Nat) ≠ s.heap.objs.size := Nat.succ_ne_self _
  refine ⟨hk, ⟨[(s.heap.objs.size, oL), (s.heap.objs.size + 1, cl)], ?_, ?_, ?_⟩, hg, rfl, Nat.le_of_lt (Heap.lt_size g1)⟩
  · intro q hq
    rcases List.mem_cons.mp hq with rfl | hq
    · exact ⟨g1, fresh _ (Nat.le_refl _)⟩
    · rw [List.mem_singleton.mp hq]
      exact ⟨hc, fresh _ (Nat.le_succ _)⟩
  · simp
  · have e1 : lkp [((s.heap.objs.size : Addr), oL), (s.heap.objs.size + 1, cl)] = (lkp [((s.heap.objs.size + 1 : Addr), cl)]).up s.heap.objs.size oL := lkp_cons ..
    have e2 : lkp [((s.heap.objs.size + 1 : Addr), cl)] = (lkp []).up (s.heap.objs.size + 1) cl := lkp_cons ..
    have n1 : (lkp [((s.heap.objs.size + 1 : Addr), cl)]) s.heap.objs.size = none := lkp_none (by intro q hq; rw [List.mem_singleton.mp hq]; exact hne)
    rw [e1]
    refine ⟨PH.nil.up s.heap.objs.size oL, _, PH.dj_up (fun _ => .inl rfl) n1, PH.up_le (fun _ _ e => by cases e), PH.le_up (PH.le_refl _) n1, FrR_def.mpr ⟨ha, oL, _, up_self, ⟨es, ep, g2, g3, g4⟩, fun y v hv => ?_⟩, ?_⟩
    · exfalso
      have := List.mem_of_getElem? hv
      simp at this
    · rw [e2]
      exact ⟨PH.nil.up (s.heap.objs.size + 1) cl, PH.nil, (fun _ => .inr rfl), PH.up_le (fun _ _ e => by cases e), (fun _ _ e => by cases e), CellR_def.mpr ⟨cl, up_self, hd⟩, trivial⟩
theorem start_Rm {env : Env} : Rm (callerA.deeper env) 17 := ⟨by show callerA.depth + 1 + 17 < recursionLimit; decide, by show callerA.units + _ + 8 * 17 < cLine; decide, rfl⟩
set_option Elab.async true
set_option maxHeartbeats 8000000 in
theorem fin : PySem.Challenge.rw_pc0244_01.Holds := by
  w_on
  o_law
  o_head (kHook Kt Ks Ks_is)
  case hw => w_witness2
  k_go0
  rename_i w s₀ s₁ mg mb G Y fa o pm doc ho hg KX X V GL T B TE TW w10 w9 M w8 w7 hcd is hs hlay0 hL1 hr1 hl2 w5 w4 sl vs w1 hL ra ww r0 hI hr hc1 hc2 K0 hD h₁ tk₁ F cl hcl N0 X0
  refine PySem.wpAny_mono (E := fun _ _ => False) (Q := fun fl s' => fl = .ret (.bool true) ∧ (∀ b o, s₁.heap.get? b = some o → s'.heap.get? b = some o) ∧ s'.gens = #[] ∧ s'.os = s₁.os) ?_ (fun fl s' hq => ?_) (fun _ _ x => x.elim)
  · refine lbody_ (H₀ := s₁.heap) (o₀ := s₁.os) (L := s₁.heap.objs.size) (sl := sl) (vs := vs) (is := is) ⟨KX, _, _, _, _, topRead_of T⟩ start_Rm (by rfl) hL (IV.ofAre hI) (by omega) (start_St F hg (N0 _ (.head _)).1 ?_) (fun s' k1 k2 k3 => ⟨rfl, k1, k2, k3⟩)
    rw [hcl]
    rfl
  · obtain ⟨rfl, k1, k2, k3⟩ := hq
    refine ⟨.inl ⟨.bool true, .bool true, [], rfl, ?_, .bool true, ?_, unshared_nil⟩, k1, k3, k2⟩
    · refine raisesW_false ?_
      wrow_none_raised
    · wrow_post
set_option Elab.async false

end Mine

theorem PySem.Challenge.cw_pc0244_01_holds : PySem.Challenge.rw_pc0244_01.Holds :=
  Mine.fin
