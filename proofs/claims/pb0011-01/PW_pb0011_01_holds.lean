import PyProof.Rows.All
import Wide.All
import OpenK.AllK
import Wide.FinOn
import PyProof.StrLawsReplace
import Lean
import PySem.Challenge.RW_pb0011_01
open PySem PySem.W PyProof.Rows
set_option Elab.async false
set_option maxRecDepth 100000
set_option maxHeartbeats 8000000
namespace Mine
local macro_rules | `(tactic| walk_at $s:str) => `(tactic| k_extra $s)
-- Kd
/-- a statement of a list -/
noncomputable def nth : List Stmt → Nat → Stmt
  | [], _ => .Pass ⟨0, 0, 0, 0⟩
  | s :: _, 0 => s
  | _ :: r, n + 1 => nth r n
noncomputable def classBody : Stmt → List Stmt
  | .ClassDef _ _ _ b _ _ _ _ _ _ _ => b
  | _ => []
abbrev src : List Stmt := PySem.Challenge.pw_pb0011_01.main.body
/-- the object that the top makes of a def -/
noncomputable def fnObj {s : Stmt} {n : Str} {a : Arguments} {b : List Stmt} {ds : List PySem.Expr} {ret : Option PySem.Expr} {tp : List TypeParam} {sc : Scope} {tsc : Option Scope} {bd : Str} {ps : Pos}
    (_ : s = .FunctionDef n a b ds ret tp sc tsc bd ps) (q : Str) (code : Addr) (m : Value) : Obj :=
  { cls := .type "function", data := .func (fnOf n q a b sc .none .none .none m none (.ref code) .none) }
noncomputable def k2 (P : Params) : Obj := { cls := .none, data := .dict #[⟨PyData.keyHash P "type.__subclasses__.Exception.0", .str "type.__subclasses__.Exception.0" 214, .int 31 0⟩, ⟨PyData.keyHash P "type.__subclasses__.Exception.n", .str "type.__subclasses__.Exception.n" 215, .int 1 0⟩] 2 }
noncomputable def k3 (P : Params) : Obj := { cls := .type "dict", data := .dict #[⟨PyData.keyHash P "__name__", .str "__name__" 165, .str "law_pb0011_01" 438⟩, ⟨PyData.keyHash P "__doc__", .str "__doc__" 166, .none⟩, ⟨PyData.keyHash P "__package__", .str "__package__" 167, .none⟩, ⟨PyData.keyHash P "__loader__", .str "__loader__" 168, .builtin "__main__.__loader__#opaque"⟩, ⟨PyData.keyHash P "__spec__", .str "__spec__" 169, .none⟩, ⟨PyData.keyHash P "__annotations__", .str "__annotations__" 170, .ref 6⟩, ⟨PyData.keyHash P "__builtins__", .str "__builtins__" 171, .ref 4⟩, ⟨PyData.keyHash P "__file__", .str "__file__" 173, .str "/claim/cut.py" 172⟩, ⟨PyData.keyHash P "__cached__", .str "__cached__" 174, .none⟩, ⟨PyData.keyHash P "AdaError", .str "AdaError" 217, .ref 31⟩, ⟨PyData.keyHash P "AdaRaise", .str "AdaRaise" 246, .ref 51⟩, ⟨PyData.keyHash P "FIGURES", .str "FIGURES" 250, .str "0123456789abcdef" 249⟩, ⟨PyData.keyHash P "MOST_BASE", .str "MOST_BASE" 252, .int 16 251⟩, ⟨PyData.keyHash P "MOST_FIGURES", .str "MOST_FIGURES" 254, .int 400 253⟩, ⟨PyData.keyHash P "refuse", .str "refuse" 261, .ref 60⟩, ⟨PyData.keyHash P "in_bounds", .str "in_bounds" 270, .ref 67⟩, ⟨PyData.keyHash P "check_base", .str "check_base" 278, .ref 74⟩, ⟨PyData.keyHash P "rounded_quotient", .str "rounded_quotient" 287, .ref 81⟩, ⟨PyData.keyHash P "small_letter", .str "small_letter" 294, .ref 88⟩, ⟨PyData.keyHash P "figures_at", .str "figures_at" 306, .ref 95⟩, ⟨PyData.keyHash P "exponent_at", .str "exponent_at" 317, .ref 102⟩, ⟨PyData.keyHash P "literal_at", .str "literal_at" 330, .ref 109⟩, ⟨PyData.keyHash P "number_in", .str "number_in" 341, .ref 116⟩, ⟨PyData.keyHash P "real_in", .str "real_in" 347, .ref 121⟩, ⟨PyData.keyHash P "fixed_value", .str "fixed_value" 358, .ref 128⟩, ⟨PyData.keyHash P "value_of_text", .str "value_of_text" 364, .ref 133⟩, ⟨PyData.keyHash P "Type", .str "Type" 416, .ref 150⟩, ⟨PyData.keyHash P "int_type", .str "int_type" 426, .ref 161⟩, ⟨PyData.keyHash P "fixed_type", .str "fixed_type" 437, .ref 168⟩, ⟨PyData.keyHash P "_law_pieces", .str "_law_pieces" 456, .ref 169⟩, ⟨PyData.keyHash P "_law_figures", .str "_law_figures" 458, .str "0123456789abcdef" 457⟩, ⟨PyData.keyHash P "_law_take", .str "_law_take" 467, .ref 176⟩, ⟨PyData.keyHash P "_law_spelt", .str "_law_spelt" 476, .ref 183⟩, ⟨PyData.keyHash P "_law_text", .str "_law_text" 482, .ref 188⟩, ⟨PyData.keyHash P "_law_worth", .str "_law_worth" 494, .ref 195⟩, ⟨PyData.keyHash P "_law_literal", .str "_law_literal" 509, .ref 202⟩, ⟨PyData.keyHash P "_law_signed", .str "_law_signed" 517, .ref 209⟩, ⟨PyData.keyHash P "_law_fixed", .str "_law_fixed" 532, .ref 216⟩, ⟨PyData.keyHash P "_law_read", .str "_law_read" 540, .ref 223⟩, ⟨PyData.keyHash P "law", .str "law" 562, .ref 230⟩] 40 }
noncomputable def k15 : Obj := { cls := .type "tuple", data := .seq #[.type "Exception"] 0 }
noncomputable def k22 : Obj := { cls := .type "tuple", data := .seq #[] 0 }
noncomputable def k24 : Obj := { cls := .type "tuple", data := .seq #[.str "self" 204, .str "text" 205] 0 }
noncomputable def k25 : Obj := { cls := .type "tuple", data := .seq #[] 0 }
noncomputable def k27 : Obj := { cls := .type "code", data := .fields #[.str "__init__" 201, .str "AdaError.__init__" 202, .str "/claim/cut.py" 203, .int 4 0, .int 2 0, .int 0 0, .int 0 0, .int 3 0, .ref 22, .bool true, .int 181 0, .ref 23, .none, .ref 24, .ref 25, .ref 26, .int 206 0, .int 4 0, .str "/claim/cut.py" 207] }
noncomputable def k28 : Obj := fnObj (s := nth (classBody (nth src 1)) 0) rfl "AdaError.__init__" 27 (.str "adacore.errors" 187)
noncomputable def k29 : Obj := { cls := .type "tuple", data := .seq #[.str "text" 209] 0 }
noncomputable def k30 (P : Params) : Obj := { cls := .type "dict", data := .dict #[⟨PyData.keyHash P "__module__", .str "__module__" 196, .str "adacore.errors" 187⟩, ⟨PyData.keyHash P "__firstlineno__", .str "__firstlineno__" 200, .int 2 199⟩, ⟨PyData.keyHash P "__init__", .str "__init__" 208, .ref 28⟩, ⟨PyData.keyHash P "__static_attributes__", .str "__static_attributes__" 210, .ref 29⟩, ⟨PyData.keyHash P "__weakref__", .str "__weakref__" 212, .ref 32⟩, ⟨PyData.keyHash P "__doc__", .str "__doc__" 213, .none⟩] 3 }
noncomputable def k31 : Obj := { cls := .type "type", data := .cls { name := "AdaError", bases := [.type "Exception"], mro := [.ref 31, .type "Exception", .type "BaseException", .type "object"], ns := 30, qualname := "AdaError", hasDict := true, subclasses := [.ref 51], abstract := false }, slots := #[some (.ref 15), none, some (.str "AdaError" 189), some (.str "AdaError" 197), some (.builtin "Exception.__new__"), some (.bool true)] }
noncomputable def k32 : Obj := { cls := .type "getset_descriptor", data := .fields #[.str "__weakref__" 211, .ref 31, .builtin "ExceptionGroup.__weakref__", .none] }
noncomputable def k35 : Obj := { cls := .type "tuple", data := .seq #[.ref 31] 0 }
noncomputable def k42 : Obj := { cls := .type "tuple", data := .seq #[] 0 }
noncomputable def k44 : Obj := { cls := .type "tuple", data := .seq #[.str "self" 233, .str "name" 234, .str "line" 235, .str "text" 236] 0 }
noncomputable def k45 : Obj := { cls := .type "tuple", data := .seq #[] 0 }
noncomputable def k47 : Obj := { cls := .type "code", data := .fields #[.str "__init__" 230, .str "AdaRaise.__init__" 231, .str "/claim/cut.py" 232, .int 9 0, .int 4 0, .int 0 0, .int 0 0, .int 3 0, .ref 42, .bool true, .int 181 0, .ref 43, .none, .ref 44, .ref 45, .ref 46, .int 237 0, .int 9 0, .str "/claim/cut.py" 238] }
noncomputable def k48 : Obj := fnObj (s := nth (classBody (nth src 2)) 0) rfl "AdaRaise.__init__" 47 (.str "adacore.errors" 187)
noncomputable def k49 : Obj := { cls := .type "tuple", data := .seq #[.str "line" 240, .str "name" 241, .str "word" 242] 0 }
noncomputable def k50 (P : Params) : Obj := { cls := .type "dict", data := .dict #[⟨PyData.keyHash P "__module__", .str "__module__" 225, .str "adacore.errors" 187⟩, ⟨PyData.keyHash P "__firstlineno__", .str "__firstlineno__" 229, .int 7 228⟩, ⟨PyData.keyHash P "__init__", .str "__init__" 239, .ref 48⟩, ⟨PyData.keyHash P "__static_attributes__", .str "__static_attributes__" 243, .ref 49⟩, ⟨PyData.keyHash P "__doc__", .str "__doc__" 244, .none⟩] 2 }
noncomputable def k51 : Obj := { cls := .type "type", data := .cls { name := "AdaRaise", bases := [.ref 31], mro := [.ref 51, .ref 31, .type "Exception", .type "BaseException", .type "object"], ns := 50, qualname := "AdaRaise", hasDict := true, subclasses := [], abstract := false }, slots := #[some (.ref 35), none, some (.str "AdaRaise" 218), some (.str "AdaRaise" 226), some (.builtin "Exception.__new__"), some (.bool true)] }
noncomputable def k54 : Obj := { cls := .type "tuple", data := .seq #[] 0 }
noncomputable def k56 : Obj := { cls := .type "tuple", data := .seq #[.str "text" 258] 0 }
noncomputable def k57 : Obj := { cls := .type "tuple", data := .seq #[] 0 }
noncomputable def k59 : Obj := { cls := .type "code", data := .fields #[.str "refuse" 255, .str "refuse" 256, .str "/claim/cut.py" 257, .int 18 0, .int 1 0, .int 0 0, .int 0 0, .int 3 0, .ref 54, .bool true, .int 181 0, .ref 55, .none, .ref 56, .ref 57, .ref 58, .int 259 0, .int 18 0, .str "/claim/cut.py" 260] }
noncomputable def k60 : Obj := fnObj (s := nth src 7) rfl "refuse" 59 (.str "adacore.scalars" 247)
noncomputable def k61 : Obj := { cls := .type "tuple", data := .seq #[] 0 }
noncomputable def k63 : Obj := { cls := .type "tuple", data := .seq #[.str "value" 265, .str "low" 266, .str "high" 267] 0 }
noncomputable def k64 : Obj := { cls := .type "tuple", data := .seq #[] 0 }
noncomputable def k66 : Obj := { cls := .type "code", data := .fields #[.str "in_bounds" 262, .str "in_bounds" 263, .str "/claim/cut.py" 264, .int 20 0, .int 3 0, .int 0 0, .int 0 0, .int 3 0, .ref 61, .bool true, .int 181 0, .ref 62, .none, .ref 63, .ref 64, .ref 65, .int 268 0, .int 20 0, .str "/claim/cut.py" 269] }
noncomputable def k67 : Obj := fnObj (s := nth src 8) rfl "in_bounds" 66 (.str "adacore.scalars" 247)
noncomputable def k68 : Obj := { cls := .type "tuple", data := .seq #[] 0 }
noncomputable def k70 : Obj := { cls := .type "tuple", data := .seq #[.str "t" 274, .str "value" 275] 0 }
noncomputable def k71 : Obj := { cls := .type "tuple", data := .seq #[] 0 }
noncomputable def k73 : Obj := { cls := .type "code", data := .fields #[.str "check_base" 271, .str "check_base" 272, .str "/claim/cut.py" 273, .int 22 0, .int 2 0, .int 0 0, .int 0 0, .int 3 0, .ref 68, .bool true, .int 181 0, .ref 69, .none, .ref 70, .ref 71, .ref 72, .int 276 0, .int 22 0, .str "/claim/cut.py" 277] }
noncomputable def k74 : Obj := fnObj (s := nth src 9) rfl "check_base" 73 (.str "adacore.scalars" 247)
noncomputable def k75 : Obj := { cls := .type "tuple", data := .seq #[] 0 }
noncomputable def k77 : Obj := { cls := .type "tuple", data := .seq #[.str "num" 282, .str "den" 283, .str "q" 284] 0 }
noncomputable def k78 : Obj := { cls := .type "tuple", data := .seq #[] 0 }
noncomputable def k80 : Obj := { cls := .type "code", data := .fields #[.str "rounded_quotient" 279, .str "rounded_quotient" 280, .str "/claim/cut.py" 281, .int 26 0, .int 2 0, .int 0 0, .int 0 0, .int 3 0, .ref 75, .bool true, .int 181 0, .ref 76, .none, .ref 77, .ref 78, .ref 79, .int 285 0, .int 26 0, .str "/claim/cut.py" 286] }
noncomputable def k81 : Obj := fnObj (s := nth src 10) rfl "rounded_quotient" 80 (.str "adacore.scalars" 247)
noncomputable def k82 : Obj := { cls := .type "tuple", data := .seq #[] 0 }
noncomputable def k84 : Obj := { cls := .type "tuple", data := .seq #[.str "sign" 291] 0 }
noncomputable def k85 : Obj := { cls := .type "tuple", data := .seq #[] 0 }
noncomputable def k87 : Obj := { cls := .type "code", data := .fields #[.str "small_letter" 288, .str "small_letter" 289, .str "/claim/cut.py" 290, .int 31 0, .int 1 0, .int 0 0, .int 0 0, .int 3 0, .ref 82, .bool true, .int 181 0, .ref 83, .none, .ref 84, .ref 85, .ref 86, .int 292 0, .int 31 0, .str "/claim/cut.py" 293] }
noncomputable def k88 : Obj := fnObj (s := nth src 11) rfl "small_letter" 87 (.str "adacore.scalars" 247)
noncomputable def k89 : Obj := { cls := .type "tuple", data := .seq #[] 0 }
noncomputable def k91 : Obj := { cls := .type "tuple", data := .seq #[.str "text" 298, .str "at" 299, .str "base" 300, .str "number" 301, .str "end" 302, .str "worth" 303] 0 }
noncomputable def k92 : Obj := { cls := .type "tuple", data := .seq #[] 0 }
noncomputable def k94 : Obj := { cls := .type "code", data := .fields #[.str "figures_at" 295, .str "figures_at" 296, .str "/claim/cut.py" 297, .int 35 0, .int 3 0, .int 0 0, .int 0 0, .int 3 0, .ref 89, .bool true, .int 181 0, .ref 90, .none, .ref 91, .ref 92, .ref 93, .int 304 0, .int 35 0, .str "/claim/cut.py" 305] }
noncomputable def k95 : Obj := fnObj (s := nth src 12) rfl "figures_at" 94 (.str "adacore.scalars" 247)
noncomputable def k96 : Obj := { cls := .type "tuple", data := .seq #[] 0 }
noncomputable def k98 : Obj := { cls := .type "tuple", data := .seq #[.str "text" 310, .str "at" 311, .str "begin" 312, .str "number" 313, .str "end" 314] 0 }
noncomputable def k99 : Obj := { cls := .type "tuple", data := .seq #[] 0 }
noncomputable def k101 : Obj := { cls := .type "code", data := .fields #[.str "exponent_at" 307, .str "exponent_at" 308, .str "/claim/cut.py" 309, .int 49 0, .int 2 0, .int 0 0, .int 0 0, .int 3 0, .ref 96, .bool true, .int 181 0, .ref 97, .none, .ref 98, .ref 99, .ref 100, .int 315 0, .int 49 0, .str "/claim/cut.py" 316] }
noncomputable def k102 : Obj := fnObj (s := nth src 13) rfl "exponent_at" 101 (.str "adacore.scalars" 247)
noncomputable def k103 : Obj := { cls := .type "tuple", data := .seq #[] 0 }
noncomputable def k105 : Obj := { cls := .type "tuple", data := .seq #[.str "text" 321, .str "at" 322, .str "number" 323, .str "end" 324, .str "base" 325, .str "begin" 326, .str "exponent" 327] 0 }
noncomputable def k106 : Obj := { cls := .type "tuple", data := .seq #[] 0 }
noncomputable def k108 : Obj := { cls := .type "code", data := .fields #[.str "literal_at" 318, .str "literal_at" 319, .str "/claim/cut.py" 320, .int 59 0, .int 2 0, .int 0 0, .int 0 0, .int 3 0, .ref 103, .bool true, .int 181 0, .ref 104, .none, .ref 105, .ref 106, .ref 107, .int 328 0, .int 59 0, .str "/claim/cut.py" 329] }
noncomputable def k109 : Obj := fnObj (s := nth src 14) rfl "literal_at" 108 (.str "adacore.scalars" 247)
noncomputable def k110 : Obj := { cls := .type "tuple", data := .seq #[] 0 }
noncomputable def k112 : Obj := { cls := .type "tuple", data := .seq #[.str "text" 334, .str "sign" 335, .str "at" 336, .str "number" 337, .str "end" 338] 0 }
noncomputable def k113 : Obj := { cls := .type "tuple", data := .seq #[] 0 }
noncomputable def k115 : Obj := { cls := .type "code", data := .fields #[.str "number_in" 331, .str "number_in" 332, .str "/claim/cut.py" 333, .int 75 0, .int 1 0, .int 0 0, .int 0 0, .int 3 0, .ref 110, .bool true, .int 181 0, .ref 111, .none, .ref 112, .ref 113, .ref 114, .int 339 0, .int 75 0, .str "/claim/cut.py" 340] }
noncomputable def k116 : Obj := fnObj (s := nth src 15) rfl "number_in" 115 (.str "adacore.scalars" 247)
noncomputable def k117 : Obj := { cls := .type "tuple", data := .seq #[] 0 }
noncomputable def k120 : Obj := { cls := .type "code", data := .fields #[.str "real_in" 342, .str "real_in" 343, .str "/claim/cut.py" 344, .int 84 0, .int 1 0, .int 0 0, .int 0 0, .int 3 0, .ref 117, .bool true, .int 181 0, .ref 118, .none, .none, .none, .ref 119, .int 345 0, .int 84 0, .str "/claim/cut.py" 346] }
noncomputable def k121 : Obj := fnObj (s := nth src 16) rfl "real_in" 120 (.str "adacore.scalars" 247)
noncomputable def k122 : Obj := { cls := .type "tuple", data := .seq #[] 0 }
noncomputable def k124 : Obj := { cls := .type "tuple", data := .seq #[.str "t" 351, .str "text" 352, .str "is_real" 353, .str "num" 354, .str "den" 355] 0 }
noncomputable def k125 : Obj := { cls := .type "tuple", data := .seq #[] 0 }
noncomputable def k127 : Obj := { cls := .type "code", data := .fields #[.str "fixed_value" 348, .str "fixed_value" 349, .str "/claim/cut.py" 350, .int 97 0, .int 2 0, .int 0 0, .int 0 0, .int 3 0, .ref 122, .bool true, .int 181 0, .ref 123, .none, .ref 124, .ref 125, .ref 126, .int 356 0, .int 97 0, .str "/claim/cut.py" 357] }
noncomputable def k128 : Obj := fnObj (s := nth src 17) rfl "fixed_value" 127 (.str "adacore.scalars" 247)
noncomputable def k129 : Obj := { cls := .type "tuple", data := .seq #[] 0 }
noncomputable def k132 : Obj := { cls := .type "code", data := .fields #[.str "value_of_text" 359, .str "value_of_text" 360, .str "/claim/cut.py" 361, .int 102 0, .int 2 0, .int 0 0, .int 0 0, .int 3 0, .ref 129, .bool true, .int 181 0, .ref 130, .none, .none, .none, .ref 131, .int 362 0, .int 102 0, .str "/claim/cut.py" 363] }
noncomputable def k133 : Obj := fnObj (s := nth src 18) rfl "value_of_text" 132 (.str "adacore.scalars" 247)
noncomputable def k141 : Obj := { cls := .type "tuple", data := .seq #[] 0 }
noncomputable def k143 : Obj := { cls := .type "tuple", data := .seq #[.str "self" 382, .str "kind" 383, .str "name" 384] 0 }
noncomputable def k144 : Obj := { cls := .type "tuple", data := .seq #[] 0 }
noncomputable def k146 : Obj := { cls := .type "code", data := .fields #[.str "__init__" 379, .str "Type.__init__" 380, .str "/claim/cut.py" 381, .int 119 0, .int 3 0, .int 0 0, .int 0 0, .int 3 0, .ref 141, .bool true, .int 181 0, .ref 142, .none, .ref 143, .ref 144, .ref 145, .int 385 0, .int 119 0, .str "/claim/cut.py" 386] }
noncomputable def k147 : Obj := fnObj (s := nth (classBody (nth src 20)) 0) rfl "Type.__init__" 146 (.str "adacore.types" 365)
noncomputable def k148 : Obj := { cls := .type "tuple", data := .seq #[.str "component" 388, .str "components" 389, .str "designated" 390, .str "discriminants" 391, .str "high" 392, .str "index" 393, .str "is_constrained" 394, .str "is_limited" 395, .str "is_private" 396, .str "is_tagged" 397, .str "kind" 398, .str "literals" 399, .str "low" 400, .str "modulus" 401, .str "name" 402, .str "number" 403, .str "operations" 404, .str "parent" 405, .str "small" 406, .str "variant" 407, .str "wide" 408] 0 }
noncomputable def k149 (P : Params) : Obj := { cls := .type "dict", data := .dict #[⟨PyData.keyHash P "__module__", .str "__module__" 374, .str "adacore.types" 365⟩, ⟨PyData.keyHash P "__firstlineno__", .str "__firstlineno__" 378, .int 117 377⟩, ⟨PyData.keyHash P "__init__", .str "__init__" 387, .ref 147⟩, ⟨PyData.keyHash P "__static_attributes__", .str "__static_attributes__" 409, .ref 148⟩, ⟨PyData.keyHash P "__dict__", .str "__dict__" 411, .ref 151⟩, ⟨PyData.keyHash P "__weakref__", .str "__weakref__" 413, .ref 152⟩, ⟨PyData.keyHash P "__doc__", .str "__doc__" 414, .none⟩] 4 }
noncomputable def k150 : Obj := { cls := .type "type", data := .cls { name := "Type", bases := [.type "object"], mro := [.ref 150, .type "object"], ns := 149, qualname := "Type", hasDict := true, subclasses := [], abstract := false }, slots := #[none, none, some (.str "Type" 367), some (.str "Type" 375), some (.builtin "object.__new__"), some (.bool true)] }
noncomputable def k151 : Obj := { cls := .type "getset_descriptor", data := .fields #[.str "__dict__" 410, .ref 150, .builtin "function.__dict__", .builtin "function.__dict__#set"] }
noncomputable def k152 : Obj := { cls := .type "getset_descriptor", data := .fields #[.str "__weakref__" 412, .ref 150, .builtin "ExceptionGroup.__weakref__", .none] }
noncomputable def k155 : Obj := { cls := .type "tuple", data := .seq #[] 0 }
noncomputable def k157 : Obj := { cls := .type "tuple", data := .seq #[.str "name" 420, .str "low" 421, .str "high" 422, .str "made" 423] 0 }
noncomputable def k158 : Obj := { cls := .type "tuple", data := .seq #[] 0 }
noncomputable def k160 : Obj := { cls := .type "code", data := .fields #[.str "int_type" 417, .str "int_type" 418, .str "/claim/cut.py" 419, .int 141 0, .int 3 0, .int 0 0, .int 0 0, .int 3 0, .ref 155, .bool true, .int 181 0, .ref 156, .none, .ref 157, .ref 158, .ref 159, .int 424 0, .int 141 0, .str "/claim/cut.py" 425] }
noncomputable def k161 : Obj := fnObj (s := nth src 21) rfl "int_type" 160 (.str "adacore.types" 365)
noncomputable def k162 : Obj := { cls := .type "tuple", data := .seq #[] 0 }
noncomputable def k164 : Obj := { cls := .type "tuple", data := .seq #[.str "name" 430, .str "small" 431, .str "low" 432, .str "high" 433, .str "made" 434] 0 }
noncomputable def k165 : Obj := { cls := .type "tuple", data := .seq #[] 0 }
noncomputable def k167 : Obj := { cls := .type "code", data := .fields #[.str "fixed_type" 427, .str "fixed_type" 428, .str "/claim/cut.py" 429, .int 146 0, .int 4 0, .int 0 0, .int 0 0, .int 3 0, .ref 162, .bool true, .int 181 0, .ref 163, .none, .ref 164, .ref 165, .ref 166, .int 435 0, .int 146 0, .str "/claim/cut.py" 436] }
noncomputable def k168 : Obj := fnObj (s := nth src 22) rfl "fixed_type" 167 (.str "adacore.types" 365)
noncomputable def k169 : Obj := { cls := .type "list", data := .seq #[.str "0" 440, .str "1" 441, .str "7" 442, .str "12" 443, .str "_" 444, .str "#" 445, .str "16#" 446, .str "2#" 447, .str "e" 448, .str "E" 449, .str "+" 450, .str "-" 451, .str "." 452, .str " " 453, .str "f" 454, .str "A" 455] 0 }
noncomputable def k170 : Obj := { cls := .type "tuple", data := .seq #[] 0 }
noncomputable def k172 : Obj := { cls := .type "tuple", data := .seq #[.str "pen" 462, .str "many" 463, .str "at" 464] 0 }
noncomputable def k173 : Obj := { cls := .type "tuple", data := .seq #[] 0 }
noncomputable def k175 : Obj := { cls := .type "code", data := .fields #[.str "_law_take" 459, .str "_law_take" 460, .str "/claim/cut.py" 461, .int 155 0, .int 2 0, .int 0 0, .int 0 0, .int 3 0, .ref 170, .bool true, .int 181 0, .ref 171, .none, .ref 172, .ref 173, .ref 174, .int 465 0, .int 155 0, .str "/claim/cut.py" 466] }
noncomputable def k176 : Obj := fnObj (s := nth src 26) rfl "_law_take" 175 (.str "law_pb0011_01" 438)
noncomputable def k177 : Obj := { cls := .type "tuple", data := .seq #[] 0 }
noncomputable def k179 : Obj := { cls := .type "tuple", data := .seq #[.str "n" 471, .str "base" 472, .str "text" 473] 0 }
noncomputable def k180 : Obj := { cls := .type "tuple", data := .seq #[] 0 }
noncomputable def k182 : Obj := { cls := .type "code", data := .fields #[.str "_law_spelt" 468, .str "_law_spelt" 469, .str "/claim/cut.py" 470, .int 159 0, .int 2 0, .int 0 0, .int 0 0, .int 3 0, .ref 177, .bool true, .int 181 0, .ref 178, .none, .ref 179, .ref 180, .ref 181, .int 474 0, .int 159 0, .str "/claim/cut.py" 475] }
noncomputable def k183 : Obj := fnObj (s := nth src 27) rfl "_law_spelt" 182 (.str "law_pb0011_01" 438)
noncomputable def k184 : Obj := { cls := .type "tuple", data := .seq #[] 0 }
noncomputable def k187 : Obj := { cls := .type "code", data := .fields #[.str "_law_text" 477, .str "_law_text" 478, .str "/claim/cut.py" 479, .int 165 0, .int 1 0, .int 0 0, .int 0 0, .int 3 0, .ref 184, .bool true, .int 181 0, .ref 185, .none, .none, .none, .ref 186, .int 480 0, .int 165 0, .str "/claim/cut.py" 481] }
noncomputable def k188 : Obj := fnObj (s := nth src 28) rfl "_law_text" 187 (.str "law_pb0011_01" 438)
noncomputable def k189 : Obj := { cls := .type "tuple", data := .seq #[] 0 }
noncomputable def k191 : Obj := { cls := .type "tuple", data := .seq #[.str "text" 486, .str "base" 487, .str "total" 488, .str "part" 489, .str "sign" 490, .str "worth" 491] 0 }
noncomputable def k192 : Obj := { cls := .type "tuple", data := .seq #[] 0 }
noncomputable def k194 : Obj := { cls := .type "code", data := .fields #[.str "_law_worth" 483, .str "_law_worth" 484, .str "/claim/cut.py" 485, .int 179 0, .int 2 0, .int 0 0, .int 0 0, .int 3 0, .ref 189, .bool true, .int 181 0, .ref 190, .none, .ref 191, .ref 192, .ref 193, .int 492 0, .int 179 0, .str "/claim/cut.py" 493] }
noncomputable def k195 : Obj := fnObj (s := nth src 29) rfl "_law_worth" 194 (.str "law_pb0011_01" 438)
noncomputable def k196 : Obj := { cls := .type "tuple", data := .seq #[] 0 }
noncomputable def k198 : Obj := { cls := .type "tuple", data := .seq #[.str "text" 498, .str "base" 499, .str "body" 500, .str "mark" 501, .str "behind" 502, .str "head" 503, .str "rest" 504, .str "number" 505, .str "power" 506] 0 }
noncomputable def k199 : Obj := { cls := .type "tuple", data := .seq #[] 0 }
noncomputable def k201 : Obj := { cls := .type "code", data := .fields #[.str "_law_literal" 495, .str "_law_literal" 496, .str "/claim/cut.py" 497, .int 190 0, .int 1 0, .int 0 0, .int 0 0, .int 3 0, .ref 196, .bool true, .int 181 0, .ref 197, .none, .ref 198, .ref 199, .ref 200, .int 507 0, .int 190 0, .str "/claim/cut.py" 508] }
noncomputable def k202 : Obj := fnObj (s := nth src 30) rfl "_law_literal" 201 (.str "law_pb0011_01" 438)
noncomputable def k203 : Obj := { cls := .type "tuple", data := .seq #[] 0 }
noncomputable def k205 : Obj := { cls := .type "tuple", data := .seq #[.str "text" 513, .str "inner" 514] 0 }
noncomputable def k206 : Obj := { cls := .type "tuple", data := .seq #[] 0 }
noncomputable def k208 : Obj := { cls := .type "code", data := .fields #[.str "_law_signed" 510, .str "_law_signed" 511, .str "/claim/cut.py" 512, .int 206 0, .int 1 0, .int 0 0, .int 0 0, .int 3 0, .ref 203, .bool true, .int 181 0, .ref 204, .none, .ref 205, .ref 206, .ref 207, .int 515 0, .int 206 0, .str "/claim/cut.py" 516] }
noncomputable def k209 : Obj := fnObj (s := nth src 31) rfl "_law_signed" 208 (.str "law_pb0011_01" 438)
noncomputable def k210 : Obj := { cls := .type "tuple", data := .seq #[] 0 }
noncomputable def k212 : Obj := { cls := .type "tuple", data := .seq #[.str "text" 521, .str "sign" 522, .str "rest" 523, .str "head" 524, .str "mark" 525, .str "tail" 526, .str "whole" 527, .str "part" 528, .str "bottom" 529] 0 }
noncomputable def k213 : Obj := { cls := .type "tuple", data := .seq #[] 0 }
noncomputable def k215 : Obj := { cls := .type "code", data := .fields #[.str "_law_fixed" 518, .str "_law_fixed" 519, .str "/claim/cut.py" 520, .int 211 0, .int 1 0, .int 0 0, .int 0 0, .int 3 0, .ref 210, .bool true, .int 181 0, .ref 211, .none, .ref 212, .ref 213, .ref 214, .int 530 0, .int 211 0, .str "/claim/cut.py" 531] }
noncomputable def k216 : Obj := fnObj (s := nth src 32) rfl "_law_fixed" 215 (.str "law_pb0011_01" 438)
noncomputable def k217 : Obj := { cls := .type "tuple", data := .seq #[] 0 }
noncomputable def k219 : Obj := { cls := .type "tuple", data := .seq #[.str "t" 536, .str "text" 537] 0 }
noncomputable def k220 : Obj := { cls := .type "tuple", data := .seq #[] 0 }
noncomputable def k222 : Obj := { cls := .type "code", data := .fields #[.str "_law_read" 533, .str "_law_read" 534, .str "/claim/cut.py" 535, .int 220 0, .int 2 0, .int 0 0, .int 0 0, .int 3 0, .ref 217, .bool true, .int 181 0, .ref 218, .none, .ref 219, .ref 220, .ref 221, .int 538 0, .int 220 0, .str "/claim/cut.py" 539] }
noncomputable def k223 : Obj := fnObj (s := nth src 33) rfl "_law_read" 222 (.str "law_pb0011_01" 438)
noncomputable def k224 : Obj := { cls := .type "tuple", data := .seq #[] 0 }
noncomputable def k226 : Obj := { cls := .type "tuple", data := .seq #[.str "script" 544, .str "pen" 545, .str "half" 546, .str "whole" 547, .str "text" 548, .str "sign" 549, .str "rest" 550, .str "number" 551, .str "due" 552, .str "small" 553, .str "fixed" 554, .str "spots" 555, .str "spot" 556, .str "pair" 557, .str "top" 558, .str "bottom" 559] 0 }
noncomputable def k227 : Obj := { cls := .type "tuple", data := .seq #[] 0 }
noncomputable def k229 : Obj := { cls := .type "code", data := .fields #[.str "law" 541, .str "law" 542, .str "/claim/cut.py" 543, .int 225 0, .int 1 0, .int 0 0, .int 0 0, .int 3 0, .ref 224, .bool true, .int 181 0, .ref 225, .none, .ref 226, .ref 227, .ref 228, .int 560 0, .int 225 0, .str "/claim/cut.py" 561] }
noncomputable def k230 : Obj := fnObj (s := nth src 34) rfl "law" 229 (.str "law_pb0011_01" 438)
/-- the heap behind the top, as far as the law comes to it -/
noncomputable def heapK : Params → Frag := fun P => (nat_lit 2, k2 P) :: (nat_lit 3, k3 P) :: (nat_lit 15, k15) :: (nat_lit 22, k22) :: (nat_lit 24, k24) :: (nat_lit 25, k25) :: (nat_lit 27, k27) :: (nat_lit 28, k28) :: (nat_lit 29, k29) :: (nat_lit 30, k30 P) :: (nat_lit 31, k31) :: (nat_lit 32, k32) :: (nat_lit 35, k35) :: (nat_lit 42, k42) :: (nat_lit 44, k44) :: (nat_lit 45, k45) :: (nat_lit 47, k47) :: (nat_lit 48, k48) :: (nat_lit 49, k49) :: (nat_lit 50, k50 P) :: (nat_lit 51, k51) :: (nat_lit 54, k54) :: (nat_lit 56, k56) :: (nat_lit 57, k57) :: (nat_lit 59, k59) :: (nat_lit 60, k60) :: (nat_lit 61, k61) :: (nat_lit 63, k63) :: (nat_lit 64, k64) :: (nat_lit 66, k66) :: (nat_lit 67, k67) :: (nat_lit 68, k68) :: (nat_lit 70, k70) :: (nat_lit 71, k71) :: (nat_lit 73, k73) :: (nat_lit 74, k74) :: (nat_lit 75, k75) :: (nat_lit 77, k77) :: (nat_lit 78, k78) :: (nat_lit 80, k80) :: (nat_lit 81, k81) :: (nat_lit 82, k82) :: (nat_lit 84, k84) :: (nat_lit 85, k85) :: (nat_lit 87, k87) :: (nat_lit 88, k88) :: (nat_lit 89, k89) :: (nat_lit 91, k91) :: (nat_lit 92, k92) :: (nat_lit 94, k94) :: (nat_lit 95, k95) :: (nat_lit 96, k96) :: (nat_lit 98, k98) :: (nat_lit 99, k99) :: (nat_lit 101, k101) :: (nat_lit 102, k102) :: (nat_lit 103, k103) :: (nat_lit 105, k105) :: (nat_lit 106, k106) :: (nat_lit 108, k108) :: (nat_lit 109, k109) :: (nat_lit 110, k110) :: (nat_lit 112, k112) :: (nat_lit 113, k113) :: (nat_lit 115, k115) :: (nat_lit 116, k116) :: (nat_lit 117, k117) :: (nat_lit 120, k120) :: (nat_lit 121, k121) :: (nat_lit 122, k122) :: (nat_lit 124, k124) :: (nat_lit 125, k125) :: (nat_lit 127, k127) :: (nat_lit 128, k128) :: (nat_lit 129, k129) :: (nat_lit 132, k132) :: (nat_lit 133, k133) :: (nat_lit 141, k141) :: (nat_lit 143, k143) :: (nat_lit 144, k144) :: (nat_lit 146, k146) :: (nat_lit 147, k147) :: (nat_lit 148, k148) :: (nat_lit 149, k149 P) :: (nat_lit 150, k150) :: (nat_lit 151, k151) :: (nat_lit 152, k152) :: (nat_lit 155, k155) :: (nat_lit 157, k157) :: (nat_lit 158, k158) :: (nat_lit 160, k160) :: (nat_lit 161, k161) :: (nat_lit 162, k162) :: (nat_lit 164, k164) :: (nat_lit 165, k165) :: (nat_lit 167, k167) :: (nat_lit 168, k168) :: (nat_lit 169, k169) :: (nat_lit 170, k170) :: (nat_lit 172, k172) :: (nat_lit 173, k173) :: (nat_lit 175, k175) :: (nat_lit 176, k176) :: (nat_lit 177, k177) :: (nat_lit 179, k179) :: (nat_lit 180, k180) :: (nat_lit 182, k182) :: (nat_lit 183, k183) :: (nat_lit 184, k184) :: (nat_lit 187, k187) :: (nat_lit 188, k188) :: (nat_lit 189, k189) :: (nat_lit 191, k191) :: (nat_lit 192, k192) :: (nat_lit 194, k194) :: (nat_lit 195, k195) :: (nat_lit 196, k196) :: (nat_lit 198, k198) :: (nat_lit 199, k199) :: (nat_lit 201, k201) :: (nat_lit 202, k202) :: (nat_lit 203, k203) :: (nat_lit 205, k205) :: (nat_lit 206, k206) :: (nat_lit 208, k208) :: (nat_lit 209, k209) :: (nat_lit 210, k210) :: (nat_lit 212, k212) :: (nat_lit 213, k213) :: (nat_lit 215, k215) :: (nat_lit 216, k216) :: (nat_lit 217, k217) :: (nat_lit 219, k219) :: (nat_lit 220, k220) :: (nat_lit 222, k222) :: (nat_lit 223, k223) :: (nat_lit 224, k224) :: (nat_lit 226, k226) :: (nat_lit 227, k227) :: (nat_lit 229, k229) :: (nat_lit 230, k230) :: []
noncomputable def asK : List Addr := [2, 3, 15, 22, 24, 25, 27, 28, 29, 30, 31, 32, 35, 42, 44, 45, 47, 48, 49, 50, 51, 54, 56, 57, 59, 60, 61, 63, 64, 66, 67, 68, 70, 71, 73, 74, 75, 77, 78, 80, 81, 82, 84, 85, 87, 88, 89, 91, 92, 94, 95, 96, 98, 99, 101, 102, 103, 105, 106, 108, 109, 110, 112, 113, 115, 116, 117, 120, 121, 122, 124, 125, 127, 128, 129, 132, 133, 141, 143, 144, 146, 147, 148, 149, 150, 151, 152, 155, 157, 158, 160, 161, 162, 164, 165, 167, 168, 169, 170, 172, 173, 175, 176, 177, 179, 180, 182, 183, 184, 187, 188, 189, 191, 192, 194, 195, 196, 198, 199, 201, 202, 203, 205, 206, 208, 209, 210, 212, 213, 215, 216, 217, 219, 220, 222, 223, 224, 226, 227, 229, 230]
theorem asK_ok : ∀ P, asK = (heapK P).map (·.1) := fun _ => by kernel_rfl
/-- a statement, its parts read off -/
noncomputable def stF {s : Stmt} {n : Str} {a : Arguments} {b : List Stmt} {ds : List PySem.Expr} {ret : Option PySem.Expr} {tp : List TypeParam} {sc : Scope} {tsc : Option Scope} {bd : Str} {ps : Pos} (_ : s = .FunctionDef n a b ds ret tp sc tsc bd ps) : Stmt := .FunctionDef n a b ds ret tp sc tsc bd ps
noncomputable def stC {s : Stmt} {n : Str} {ba : List PySem.Expr} {kw : List Keyword} {b : List Stmt} {ds : List PySem.Expr} {tp : List TypeParam} {sc : Scope} {tsc : Option Scope} {bd : Str} {sa : List Str} {ps : Pos} (_ : s = .ClassDef n ba kw b ds tp sc tsc bd sa ps) : Stmt := .ClassDef n ba kw b ds tp sc tsc bd sa ps
noncomputable def stA {s : Stmt} {ts : List PySem.Expr} {v : PySem.Expr} {ps : Pos} (_ : s = .Assign ts v ps) : Stmt := .Assign ts v ps
/-- the program's view: the statements that bind -/
noncomputable def viewK : Program := { PySem.Challenge.pw_pb0011_01 with main := { PySem.Challenge.pw_pb0011_01.main with body := [stC (s := nth src 1) rfl, stC (s := nth src 2) rfl, stA (s := nth src 4) rfl, stA (s := nth src 5) rfl, stA (s := nth src 6) rfl, stF (s := nth src 7) rfl, stF (s := nth src 8) rfl, stF (s := nth src 9) rfl, stF (s := nth src 10) rfl, stF (s := nth src 11) rfl, stF (s := nth src 12) rfl, stF (s := nth src 13) rfl, stF (s := nth src 14) rfl, stF (s := nth src 15) rfl, stF (s := nth src 16) rfl, stF (s := nth src 17) rfl, stF (s := nth src 18) rfl, stC (s := nth src 20) rfl, stF (s := nth src 21) rfl, stF (s := nth src 22) rfl, stA (s := nth src 24) rfl, stA (s := nth src 25) rfl, stF (s := nth src 26) rfl, stF (s := nth src 27) rfl, stF (s := nth src 28) rfl, stF (s := nth src 29) rfl, stF (s := nth src 30) rfl, stF (s := nth src 31) rfl, stF (s := nth src 32) rfl, stF (s := nth src 33) rfl, stF (s := nth src 34) rfl] } }
abbrev rowK : RowW := OpenRow.toRowW PySem.Challenge.rw_pb0011_01.row
noncomputable abbrev hookK : Hook := kHook heapK asK asK_ok
theorem law_said : OpenLaw.wellSaid PySem.Challenge.rw_pb0011_01 = true := by
  unfold OpenLaw.wellSaid OpenRow.wellSaid
  repeat' (with_reducible refine look_both ?_ ?_)
  all_goals try (unfold OpenRow.partSaid looksOpen; repeat' (with_reducible refine look_both ?_ ?_))
  all_goals decide +kernel
theorem left_all : LeftO rowK.prog viewK [Str.ofString "_law_pieces"] (fun s => xlAt viewK [] s && recOk (RowW.records rowK) s) (Hook.obs hookK) (Hook.val hookK) 3232 := by
  intro w
  kernel_rfl
-- Ke
theorem hd_of {n : Str} {a : Arguments} {b : List Stmt} {ds : List PySem.Expr} {ret : Option PySem.Expr} {tp : List TypeParam} {sc : Scope} {tsc : Option Scope} {bd : Str} {ps : Pos} (_ : nth src 34 = .FunctionDef n a b ds ret tp sc tsc bd ps)
    (e1 : defOf viewK (RowW.name rowK) = some (⟨n, a, b, sc, ps⟩, [])) (e2 : (RowW.prog rowK).theDef (RowW.name rowK) = some (a, b, sc)) (e3 : kwWritten? a.kwonlyargs a.kw_defaults = some [])
    (walk : WalkO viewK [Str.ofString "_law_pieces"] (XL viewK []) (Hook.says hookK) rowK ⟨n, a, b, sc, ps⟩ [] fun f vs => PySem.call f vs) : PySem.Challenge.rw_pb0011_01.Holds := by
  refine holds_law law_said fun said => ?_
  refine holds_open (q := viewK) (loose := [Str.ofString "_law_pieces"]) (Xt := fun s => xlAt viewK [] s && recOk (RowW.records rowK) s) (XP := XL viewK []) (Yf := Hook.obs hookK) (Ya := Hook.val hookK) (YP := Hook.says hookK) (N := 3232) left_all (Hook.of hookK) (Hook.keeps hookK) (fun s e => xl_of s (Bool.and_eq_true_iff.mp e).1) XL.keeps e1 e2 e3 (fun s e => recFacts_of (Bool.and_eq_true_iff.mp e).2) (by rfl) said (by decide +kernel) ⟨rfl, rfl, rfl, rfl, rfl, by decide +kernel⟩ ?hw walk
  case hw => w_witness2
-- B0
def Spec (w : World) (f : Addr) (vs : List Value) (news : List (Addr × Obj)) (k : Nat) (Ok : Value → List (Addr × Obj) → Prop) : Prop :=
  ∀ (mean : ExcName → Option Value) (mg mb : Str → Option Value) (dp un : Nat) (gd : Option (List Code)) (cn : Str) (cs : Scope) (a : Addr) (ccd : Value) (cl : List (Str × Addr)) (outer : List Env) (A₀ : Around) (base h₀ : Heap) (L : Addr) (m : Str → Option Value) (s : Shared) (Q E : Value → Shared → Prop),
    Below A₀ base outer h₀ → Fr h₀ L s.heap m → (heapK w.params).In h₀ → News h₀ L s.heap news → Top viewK (looseW viewK [Str.ofString "_law_pieces"]) mean mg mb h₀ → cs.kind = .function →
    dp + k < recursionLimit → un + 8 * k < cLine →
    (∀ v news' h' tk', Ok v news' → Fr h₀ L h' m → News h₀ L h' news' → Q v { s with heap := h', toks := tk' }) →
    wpAny (model PySem.Challenge.rw_pb0011_01.row.prog w) (ktrTop dp un gd cn cs L a ccd cl outer) (call (.ref f) vs) Q E s
/-- a call's end, hidden from the walk -/
def Done (Q : Value → Shared → Prop) (v : Value) (s : Shared) : Prop := Q v s
theorem done_in {M : Model} {A : Around} {t : Sem Value} {Q E : Value → Shared → Prop} {s : Shared} (h : wpAny M A t (fun v s' => Done Q v s') E s) : wpAny M A t Q E s := h
abbrev T2o (r : Int) (t1 : Tok) (q : Int) (t2 : Tok) (c : Nat) : Obj := { cls := .type "tuple", data := .seq #[.int r t1, .int q t2] c }
def RetT2 (r q : Int) (news : List (Addr × Obj)) (v : Value) (n : List (Addr × Obj)) : Prop :=
  ∃ D t1 t2 c, v = .ref D ∧ (D, T2o r t1 q t2 c) :: news = n ∧ ∀ p ∈ news, p.1 < D
theorem ret_T2 {Q : Value → Shared → Prop} {h₀ : Heap} {L : Addr} {m : Str → Option Value} {s : Shared} {news : List (Addr × Obj)} {r q : Int}
    (hret : ∀ v news' h' tk', RetT2 r q news v news' → Fr h₀ L h' m → News h₀ L h' news' → Q v { s with heap := h', toks := tk' })
    {D : Addr} {h' : Heap} {tk' : Nat} {r' q' : Int} {t1 t2 : Tok} {c : Nat} {news' : List (Addr × Obj)} (N : News h₀ L h' ((D, T2o r' t1 q' t2 c) :: news')) (F : Fr h₀ L h' m) (l : ∀ p ∈ news', p.1 < D) (hs : ∀ p ∈ news, p ∈ news') (e : (r, q) = (r', q')) :
    Q (.ref D) { s with heap := h', toks := tk' } := by
  cases e
  exact hret _ _ _ _ ⟨D, t1, t2, c, rfl, rfl, fun p hp => l p (hs p hp)⟩ F fun p hp => N p (by
    rcases List.mem_cons.mp hp with rfl | h
    · exact .head _
    · exact .tail _ (hs p h))
theorem allLt_all {d : Addr} {l : List (Addr × Obj)} (h : AllLt d l) : ∀ p ∈ l, p.1 < d := by
  induction l with
  | nil => intro p hp; cases hp
  | cons x r ih =>
    intro p hp
    rcases List.mem_cons.mp hp with rfl | hp
    · exact h.1
    · exact ih h.2 p hp
theorem lt1 {d : Addr} {l : List (Addr × Obj)} (h : AllLt d l) : ∀ p ∈ l, p.1 < d := allLt_all h
theorem lt2 {d a : Addr} {o : Obj} {l : List (Addr × Obj)} (h : a < d ∧ AllLt d l) : ∀ p ∈ (a, o) :: l, p.1 < d := allLt_all (l := (a, o) :: l) h
theorem lt3 {d a b : Addr} {o o' : Obj} {l : List (Addr × Obj)} (h : a < d ∧ b < d ∧ AllLt d l) : ∀ p ∈ (a, o) :: (b, o') :: l, p.1 < d := allLt_all (l := (a, o) :: (b, o') :: l) h
theorem lt4 {d a b c : Addr} {o o' o₂ : Obj} {l : List (Addr × Obj)} (h : a < d ∧ b < d ∧ c < d ∧ AllLt d l) : ∀ p ∈ (a, o) :: (b, o') :: (c, o₂) :: l, p.1 < d := allLt_all (l := (a, o) :: (b, o') :: (c, o₂) :: l) h
theorem sub0 (l : List (Addr × Obj)) : ∀ p ∈ l, p ∈ l := fun _ h => h
theorem sub1 {l l' : List (Addr × Obj)} {a : Addr × Obj} (h : ∀ p ∈ l, p ∈ l') : ∀ p ∈ l, p ∈ a :: l' := fun p q => .tail _ (h p q)
theorem Spec.mono {w : World} {f : Addr} {vs : List Value} {news : List (Addr × Obj)} {k : Nat} {Ok Ok' : Value → List (Addr × Obj) → Prop} (S : Spec w f vs news k Ok) (h : ∀ v n, Ok v n → Ok' v n) : Spec w f vs news k Ok' :=
  fun mean mg mb dp un gd cn cs a ccd cl outer A₀ base h₀ L m s Q E B F X N T hk hd hu hret =>
    S mean mg mb dp un gd cn cs a ccd cl outer A₀ base h₀ L m s Q E B F X N T hk hd hu fun v n h' tk ok => hret v n h' tk (h v n ok)
theorem use_spec {w : World} {f : Addr} {vs : List Value} {news : List (Addr × Obj)} {k : Nat} {Ok : Value → List (Addr × Obj) → Prop} (S : Spec w f vs news k Ok)
    {mean : ExcName → Option Value} {mg mb : Str → Option Value} {dp un : Nat} {gd : Option (List Code)} {cn : Str} {cs : Scope} {a : Addr} {ccd : Value} {cl : List (Str × Addr)} {outer : List Env} {A₀ : Around} {base h₀ : Heap} {L : Addr} {m : Str → Option Value} {s : Shared} {Q E : Value → Shared → Prop}
    (B : Below A₀ base outer h₀) (F : Fr h₀ L s.heap m) (X : (heapK w.params).In h₀) (N : News h₀ L s.heap news) (T : Top viewK (looseW viewK [Str.ofString "_law_pieces"]) mean mg mb h₀) (hk : cs.kind = .function)
    (hd : dp + k < recursionLimit) (hu : un + 8 * k < cLine) (hret : ∀ v news' h' tk', Ok v news' → Fr h₀ L h' m → News h₀ L h' news' → Q v { s with heap := h', toks := tk' }) :
    wpAny (model PySem.Challenge.rw_pb0011_01.row.prog w) (ktrTop dp un gd cn cs L a ccd cl outer) (call (.ref f) vs) Q E s :=
  S mean mg mb dp un gd cn cs a ccd cl outer A₀ base h₀ L m s Q E B F X N T hk hd hu hret
-- P0
section
def lowc (c : Nat) : Nat := if 65 ≤ c ∧ c ≤ 90 then c + 32 else c
def lowS (x : Str) : Str := ⟨(x.cps.toList.map lowc).toArray⟩
/-- what a sign is worth (lowered first) -/
def wl (c : Nat) : Int := if 48 ≤ c ∧ c ≤ 57 then (c : Int) - 48 else if 97 ≤ c ∧ c ≤ 102 then (c : Int) - 87 else -1
def wd (c : Nat) : Int := wl (lowc c)
abbrev FIG : Str := Str.ofString "0123456789abcdef"
theorem find_fig : ∀ c, c < 128 → Txt.find (Str.ofString "0123456789abcdef") ⟨#[c]⟩ = wl c := by decide +kernel
def Ascii (x : Str) : Prop := ∀ c ∈ x.cps.toList, c < 128
def Good (x : Str) : Prop := x.length ≤ 400 ∧ Ascii x
theorem lowc_lt {c : Nat} (h : c < 128) : lowc c < 128 := by unfold lowc; split <;> omega
theorem item_ch {x : Str} {i : Int} (h0 : 0 ≤ i) (h1 : i < x.length) : ∃ c, Txt.item x i = ⟨#[c]⟩ ∧ x.cps.toList.drop i.toNat = c :: x.cps.toList.drop (i.toNat + 1) ∧ c ∈ x.cps.toList := by
  have hn : i.toNat < x.cps.toList.length := by
    have : x.length = x.cps.toList.length := by simp [Str.length]
    omega
  refine ⟨x.cps.toList[i.toNat], ?_, List.drop_eq_getElem_cons hn, List.getElem_mem hn⟩
  rw [item_meets ⟨h0, h1⟩]
  congr 2
  have : i.toNat < x.cps.size := by simpa using hn
  simp [Array.getD, this]
theorem find_item {c : Nat} (h : c < 128) : Txt.find (Str.ofString "0123456789abcdef") (lowS ⟨#[c]⟩) = wd c := find_fig _ (lowc_lt h)
theorem under_eq (c : Nat) : (({ cps := #[c] } : Str) == Str.ofString "_") = (c == 95) := by
  rw [show Str.ofString "_" = ⟨#[95]⟩ from by decide +kernel]
  rw [Bool.eq_iff_iff]
  simp
/-- the scan of figures_at from a place -/
def figRun (b at_ : Int) : Bool → Int → Int → List Nat → Int × Int
  | _, n, e, [] => (n, e)
  | mv, n, e, [c] => if (mv && c == 95) = true then (n, e) else if 0 ≤ wd c ∧ wd c < b then ((if 0 > n then 0 else n) * b + wd c, e + 1) else (n, e)
  | mv, n, e, c :: d :: r =>
    if (mv && c == 95) = true then
      (if 0 ≤ wd d ∧ wd d < b then figRun b at_ true ((if 0 > n then 0 else n) * b + wd d) (e + 2) r else (-1, at_))
    else if 0 ≤ wd c ∧ wd c < b then figRun b at_ true ((if 0 > n then 0 else n) * b + wd c) (e + 1) (d :: r) else (n, e)
@[irreducible] def figAt (x : Str) (at_ b : Int) : Int × Int := figRun b at_ false (-1) at_ (x.cps.toList.drop at_.toNat)
theorem figAt_def (x : Str) (at_ b : Int) : figAt x at_ b = figRun b at_ false (-1) at_ (x.cps.toList.drop at_.toNat) := by unfold figAt; rfl
def FigW (x : Str) (at_ b n e : Int) : Prop := figRun b at_ (decide (at_ < e)) n e (x.cps.toList.drop e.toNat) = figAt x at_ b ∧ (at_ < e → (Txt.item x (e - 1) == Str.ofString "_") = false)
theorem fig_start (x : Str) (at_ b : Int) : FigW x at_ b (-1) at_ := ⟨by rw [decide_eq_false (by omega), figAt_def], fun h => by omega⟩
theorem fig_skip {x : Str} {at_ b n e : Int} (hx : Ascii x) (h0 : 0 ≤ at_) (W : FigW x at_ b n e) (he : at_ < e) (hu : (Txt.item x e == Str.ofString "_") = true) (h1 : e + 1 < x.length)
    (hf : ¬ Txt.find (Str.ofString "0123456789abcdef") (lowS (Txt.item x (e + 1))) < 0) (hb : ¬ b ≤ Txt.find (Str.ofString "0123456789abcdef") (lowS (Txt.item x (e + 1)))) :
    FigW x at_ b ((if 0 > n then 0 else n) * b + Txt.find (Str.ofString "0123456789abcdef") (lowS (Txt.item x (e + 1)))) (e + 1 + 1) := by
  obtain ⟨c, hc, hd, _⟩ := item_ch (x := x) (i := e) (by omega) (by omega)
  obtain ⟨d, hc', hd', hm'⟩ := item_ch (x := x) (i := e + 1) (by omega) (by omega)
  have hn : (e + 1).toNat = e.toNat + 1 := by omega
  have hn' : (e + 1 + 1).toNat = e.toNat + 1 + 1 := by omega
  rw [hn] at hd'
  rw [hc'] at hf hb ⊢
  rw [find_item (hx d hm')] at hf hb ⊢
  rw [hc, under_eq] at hu
  have W1 := W.1
  rw [hd, hd', decide_eq_true he, figRun, if_pos (by rw [hu]; rfl), if_pos ⟨by omega, by omega⟩] at W1
  refine ⟨?_, fun _ => ?_⟩
  · rw [decide_eq_true (by omega), hn', show e + 1 + 1 = e + 2 by omega]
    exact W1
  · rw [show e + 1 + 1 - 1 = e + 1 by omega, hc', under_eq]
    cases q : d == 95 with
    | false => rfl
    | true =>
      rw [beq_iff_eq.mp q] at hf
      exact absurd (by decide : wd 95 < 0) hf
theorem figRun_digit {b at_ : Int} {mv : Bool} {n e : Int} {c : Nat} {r : List Nat} (hu : (mv && c == 95) = false) (h : 0 ≤ wd c ∧ wd c < b) :
    figRun b at_ mv n e (c :: r) = figRun b at_ true ((if 0 > n then 0 else n) * b + wd c) (e + 1) r := by
  cases r with
  | nil => simp only [figRun, hu, if_pos h, Bool.false_eq_true, if_false]
  | cons d r => rw [figRun, if_neg (by rw [hu]; decide), if_pos h]
theorem figRun_stop {b at_ : Int} {mv : Bool} {n e : Int} {c : Nat} {r : List Nat} (hu : (mv && c == 95) = false) (h : ¬ (0 ≤ wd c ∧ wd c < b)) :
    figRun b at_ mv n e (c :: r) = (n, e) := by
  cases r with
  | nil => rw [figRun, if_neg (by rw [hu]; decide), if_neg h]
  | cons d r => rw [figRun, if_neg (by rw [hu]; decide), if_neg h]
theorem fig_step {x : Str} {at_ b n e : Int} (hx : Ascii x) (h0 : 0 ≤ at_) (he : at_ ≤ e) (W : FigW x at_ b n e) (h1 : e < x.length)
    (hf : ¬ Txt.find (Str.ofString "0123456789abcdef") (lowS (Txt.item x e)) < 0) (hb : ¬ b ≤ Txt.find (Str.ofString "0123456789abcdef") (lowS (Txt.item x e))) :
    FigW x at_ b ((if 0 > n then 0 else n) * b + Txt.find (Str.ofString "0123456789abcdef") (lowS (Txt.item x e))) (e + 1) := by
  obtain ⟨c, hc, hd, hm⟩ := item_ch (x := x) (i := e) (by omega) (by omega)
  have hn : (e + 1).toNat = e.toNat + 1 := by omega
  rw [hc] at hf hb ⊢
  rw [find_item (hx c hm)] at hf hb ⊢
  have hu : (c == 95) = false := by
    cases q : c == 95 with
    | false => rfl
    | true =>
      rw [beq_iff_eq.mp q] at hf
      exact absurd (by decide : wd 95 < 0) hf
  have W1 := W.1
  rw [hd, figRun_digit (by rw [hu, Bool.and_false]) ⟨by omega, by omega⟩] at W1
  refine ⟨?_, fun _ => ?_⟩
  · rw [decide_eq_true (by omega), hn]
    exact W1
  · rw [show e + 1 - 1 = e by omega, hc, under_eq, hu]
theorem fig_end {x : Str} {at_ b n e : Int} (W : FigW x at_ b n e) (h0 : 0 ≤ e) (h1 : ¬ e < x.length) : figAt x at_ b = (n, e) := by
  have W1 := W.1
  rw [List.drop_eq_nil_of_le (by simp only [Str.length] at h1; simp; omega), figRun] at W1
  exact W1.symm
theorem fig_fail {x : Str} {at_ b n e : Int} (hx : Ascii x) (h0 : 0 ≤ at_) (W : FigW x at_ b n e) (he : at_ < e) (hu : (Txt.item x e == Str.ofString "_") = true) (h1 : e + 1 < x.length)
    (hf : Txt.find (Str.ofString "0123456789abcdef") (lowS (Txt.item x (e + 1))) < 0 ∨ b ≤ Txt.find (Str.ofString "0123456789abcdef") (lowS (Txt.item x (e + 1)))) :
    figAt x at_ b = (-1, at_) := by
  obtain ⟨c, hc, hd, _⟩ := item_ch (x := x) (i := e) (by omega) (by omega)
  obtain ⟨d, hc', hd', hm'⟩ := item_ch (x := x) (i := e + 1) (by omega) (by omega)
  have hn : (e + 1).toNat = e.toNat + 1 := by omega
  rw [hn] at hd'
  rw [hc', find_item (hx d hm')] at hf
  rw [hc, under_eq] at hu
  have W1 := W.1
  rw [hd, hd', decide_eq_true he, figRun, if_pos (by rw [hu]; rfl), if_neg (by omega)] at W1
  exact W1.symm
/-- the scan stops at e: no figure there; a low line there only at the text's end or ahead of the first figure -/
theorem fig_stop {x : Str} {at_ b n e : Int} (hx : Ascii x) (h0 : 0 ≤ at_) (he : at_ ≤ e) (W : FigW x at_ b n e) (h1 : e < x.length)
    (hf : Txt.find (Str.ofString "0123456789abcdef") (lowS (Txt.item x e)) < 0 ∨ b ≤ Txt.find (Str.ofString "0123456789abcdef") (lowS (Txt.item x e)))
    (hu : (Txt.item x e == Str.ofString "_") = false ∨ ¬ at_ < e ∨ ¬ e + 1 < x.length) :
    figAt x at_ b = (n, e) := by
  obtain ⟨c, hc, hd, hm⟩ := item_ch (x := x) (i := e) (by omega) (by omega)
  rw [hc, find_item (hx c hm)] at hf
  rw [hc, under_eq] at hu
  have W1 := W.1
  rw [hd] at W1
  rcases hu with hu | hu | hu
  · rw [figRun_stop (by rw [hu, Bool.and_false]) (by omega)] at W1
    exact W1.symm
  · rw [decide_eq_false hu, figRun_stop rfl (by omega)] at W1
    exact W1.symm
  · rw [List.drop_eq_nil_of_le (by simp only [Str.length] at hu h1; simp; omega), figRun, if_neg (fun (q : 0 ≤ wd c ∧ wd c < b) => by omega)] at W1
    split at W1 <;> exact W1.symm
def FigP (x : Str) (at_ b n e : Int) : Prop := at_ ≤ e ∧ (e ≤ at_ ∨ e ≤ x.length) ∧ FigW x at_ b n e
theorem figP_start (x : Str) (at_ b : Int) : at_ ≤ at_ ∧ (at_ ≤ at_ ∨ at_ ≤ x.length) ∧ FigW x at_ b (-1) at_ := ⟨Int.le_refl _, .inl (Int.le_refl _), fig_start _ _ _⟩
theorem figP_skip {x : Str} {at_ b n e : Int} (hx : Ascii x) (h0 : 0 ≤ at_) (W : FigW x at_ b n e) (he : at_ < e) (hu : (Txt.item x e == Str.ofString "_") = true) (h1 : e + 1 < x.length)
    (hf : ¬ Txt.find (Str.ofString "0123456789abcdef") (lowS (Txt.item x (e + 1))) < 0) (hb : ¬ b ≤ Txt.find (Str.ofString "0123456789abcdef") (lowS (Txt.item x (e + 1)))) :
    at_ ≤ e + 1 + 1 ∧ (e + 1 + 1 ≤ at_ ∨ e + 1 + 1 ≤ x.length) ∧ FigW x at_ b ((if 0 > n then 0 else n) * b + Txt.find (Str.ofString "0123456789abcdef") (lowS (Txt.item x (e + 1)))) (e + 1 + 1) :=
  ⟨by clear hf hb; omega, by clear hf hb; omega, fig_skip hx h0 W he hu h1 hf hb⟩
theorem figP_step {x : Str} {at_ b n e : Int} (hx : Ascii x) (h0 : 0 ≤ at_) (he : at_ ≤ e) (W : FigW x at_ b n e) (h1 : e < x.length)
    (hf : ¬ Txt.find (Str.ofString "0123456789abcdef") (lowS (Txt.item x e)) < 0) (hb : ¬ b ≤ Txt.find (Str.ofString "0123456789abcdef") (lowS (Txt.item x e))) :
    at_ ≤ e + 1 ∧ (e + 1 ≤ at_ ∨ e + 1 ≤ x.length) ∧ FigW x at_ b ((if 0 > n then 0 else n) * b + Txt.find (Str.ofString "0123456789abcdef") (lowS (Txt.item x e))) (e + 1) :=
  ⟨by clear hf hb; omega, by clear hf hb; omega, fig_step hx h0 he W h1 hf hb⟩
theorem figP_end {x : Str} {at_ b n e : Int} (h0 : 0 ≤ at_) (he : at_ ≤ e) (W : FigW x at_ b n e) (h1 : ¬ e < x.length) : figAt x at_ b = (n, e) := fig_end W (by omega) h1
theorem fig_absurd {P : Prop} {x : Str} {at_ b n e : Int} (W : FigW x at_ b n e) (he : at_ < e) (hu : (Txt.item x (e - 1) == Str.ofString "_") = true) : P := by
  rw [W.2 he] at hu; cases hu
theorem fig_absurd2 {P : Prop} {x : Str} {e : Int} (h : (Txt.item x e == Str.ofString "_") = true) (hu : (Txt.item x (e + 1 - 1) == Str.ofString "_") = false) : P := by
  rw [show e + 1 - 1 = e by omega, h] at hu; cases hu
theorem fig_absurd3 {P : Prop} {x : Str} {at_ b n e : Int} (W : FigW x at_ b n e) (he : at_ < e) (hu : (Txt.item x (e - 1) != Str.ofString "_") = false) : P := by
  rw [bne, W.2 he] at hu; cases hu
section
open PySem.Builtin PySem.Builtin.Str
theorem clip_min {n : Nat} {i j : Int} (h0 : 0 ≤ i) (h1 : 0 ≤ j) : strSliceIndices (some i) (some j) 1 n = strSliceIndices (some (min i n)) (some (min j n)) 1 n := by
  have a0 : ¬ i < 0 := by omega
  have a1 : ¬ j < 0 := by omega
  have a2 : ¬ min i (n : Int) < 0 := by omega
  have a3 : ¬ min j (n : Int) < 0 := by omega
  have h2 : (1 : Int) > 0 := by decide
  simp only [strSliceIndices, a0, a1, a2, a3, h2, if_false, if_true]
  congr 1 <;> omega
theorem slice_gen {x : Str} {i j : Int} (h0 : 0 ≤ i) (h1 : i ≤ j) : Txt.slice x (some i) (some j) = ⟨((x.cps.toList.drop i.toNat).take (j - i).toNat).toArray⟩ := by
  have e : Txt.slice x (some i) (some j) = Txt.slice x (some (min i x.length)) (some (min j x.length)) := by
    unfold Txt.slice
    rw [clip_min h0 (by omega)]
  have hl : x.length = x.cps.toList.length := by simp [Str.length]
  rw [e, beq_iff_eq.mp (slice_closes (x := x) (i := min i x.length) (j := min j x.length) ⟨by omega, by omega, by omega⟩)]
  congr 2
  by_cases hi : i ≤ x.length
  · rw [show (min i (x.length : Int)).toNat = i.toNat by omega]
    by_cases hj : j ≤ x.length
    · rw [show (min j (x.length : Int) - min i (x.length : Int)).toNat = (j - i).toNat by omega]
    · rw [List.take_of_length_le (i := (j - i).toNat) (by rw [List.length_drop]; omega), List.take_of_length_le (by rw [List.length_drop]; omega)]
  · rw [List.drop_eq_nil_of_le (as := x.cps.toList) (i := i.toNat) (by omega), List.drop_eq_nil_of_le (by omega), List.take_nil, List.take_nil]
end
/-- the sign at a place, if there is one -/
def sg (x : Str) (i : Int) : Option Nat := x.cps.toList[i.toNat]?
theorem slice_one {x : Str} {i : Int} (h0 : 0 ≤ i) : Txt.slice x (some i) (some (i + 1)) = ⟨((sg x i).toList).toArray⟩ := by
  rw [slice_gen h0 (by omega), show (i + 1 - i).toNat = 1 by omega]
  congr 2
  unfold sg
  cases h : x.cps.toList[i.toNat]? with
  | none => rw [List.drop_eq_nil_of_le (List.getElem?_eq_none_iff.mp h)]; rfl
  | some c =>
    obtain ⟨hn, e⟩ := List.getElem?_eq_some_iff.mp h
    rw [List.drop_eq_getElem_cons hn, e]; rfl
theorem slice_one_len {x : Str} {i : Int} (h0 : 0 ≤ i) : (Txt.slice x (some i) (some (i + 1))).length ≤ 1 := by
  rw [slice_one h0]
  cases sg x i <;> simp [Str.length]
theorem slice_first_eq (x : Str) : Txt.slice x none (some 1) = Txt.slice x (some 0) (some 1) := rfl
theorem opt_eq (o : Option Nat) (c : Nat) : (({ cps := o.toList.toArray } : Str) == ⟨#[c]⟩) = (o == some c) := by
  cases o with
  | none => rfl
  | some d => rw [Bool.eq_iff_iff]; simp
theorem slice_is {x : Str} {i : Int} (h0 : 0 ≤ i) {y : Str} {c : Nat} (hy : y = ⟨#[c]⟩) : (Txt.slice x (some i) (some (i + 1)) == y) = (sg x i == some c) := by
  rw [slice_one h0, hy, opt_eq]
theorem low_slice_is {x : Str} {i : Int} (h0 : 0 ≤ i) {y : Str} {c : Nat} (hy : y = ⟨#[c]⟩) : (lowS (Txt.slice x (some i) (some (i + 1))) == y) = ((sg x i).map lowc == some c) := by
  rw [slice_one h0, hy]
  rw [show lowS ⟨((sg x i).toList).toArray⟩ = ⟨(((sg x i).map lowc).toList).toArray⟩ by unfold lowS; cases sg x i <;> rfl, opt_eq]
end
-- P1
theorem figRun_rng (b at_ : Int) : ∀ (k : Nat) (l : List Nat), l.length ≤ k → ∀ (mv : Bool) (n e : Int), (figRun b at_ mv n e l).2 = at_ ∨ (e ≤ (figRun b at_ mv n e l).2 ∧ (figRun b at_ mv n e l).2 ≤ e + l.length) := by
  intro k
  induction k with
  | zero =>
    intro l hl mv n e
    cases l with
    | nil => right; simp only [figRun, List.length_nil]; omega
    | cons c r => simp at hl
  | succ k ih =>
    intro l hl mv n e
    match l with
    | [] => right; simp only [figRun, List.length_nil]; omega
    | [c] =>
      right
      simp only [figRun, List.length_cons, List.length_nil]
      split
      · dsimp only; omega
      · split <;> dsimp only <;> omega
    | c :: d :: r =>
      have h1 := ih r (by simp only [List.length_cons] at hl; omega)
      have h2 := ih (d :: r) (by simp only [List.length_cons] at hl ⊢; omega)
      simp only [figRun, List.length_cons] at *
      split
      · split
        · rcases h1 true ((if 0 > n then 0 else n) * b + wd d) (e + 2) with h | h
          · exact .inl h
          · right; omega
        · exact .inl rfl
      · split
        · rcases h2 true ((if 0 > n then 0 else n) * b + wd c) (e + 1) with h | h
          · exact .inl h
          · right; omega
        · right; dsimp only; omega
theorem figAt_rng {x : Str} {at_ b : Int} (h0 : 0 ≤ at_) : at_ ≤ (figAt x at_ b).2 ∧ ((figAt x at_ b).2 ≤ at_ ∨ (figAt x at_ b).2 ≤ x.length) := by
  rw [figAt_def]
  have h := figRun_rng b at_ _ (x.cps.toList.drop at_.toNat) (Nat.le_refl _) false (-1) at_
  have hl : x.length = x.cps.toList.length := by simp [Str.length]
  rcases h with h | ⟨h1, h2⟩
  · omega
  · rw [List.length_drop] at h2
    omega
/-- what comes of exponent_at -/
def expB (x : Str) (at_ : Int) : Int := if sg x (at_ + 1) = some 43 then at_ + 1 + 1 else at_ + 1
@[irreducible] def expAt (x : Str) (at_ : Int) : Int × Int :=
  if (sg x at_).map lowc = some 101 then
    (if (figAt x (expB x at_) 10).2 = expB x at_ ∨ 400 < (figAt x (expB x at_) 10).1 then (-1, at_) else figAt x (expB x at_) 10)
  else (0, at_)
theorem step_lt {a b w : Int} {k : Nat} (ha : a < 16 ^ k) (hb0 : 0 ≤ b) (hb : b ≤ 16) (hw : w < b) : (if 0 > a then 0 else a) * b + w < 16 ^ (k + 1) := by
  have h1 : (if 0 > a then 0 else a) ≤ (16 : Int) ^ k - 1 := by
    have : (0 : Int) < 16 ^ k := Int.pow_pos (by decide)
    split <;> omega
  have h2 := Int.mul_le_mul_of_nonneg_right h1 hb0
  have h4 : ((16 : Int) ^ k) * b ≤ 16 ^ k * 16 := Int.mul_le_mul_of_nonneg_left hb (by have : (0 : Int) < 16 ^ k := Int.pow_pos (by decide); omega)
  rw [Int.pow_succ]
  rw [Int.sub_mul] at h2
  omega
theorem step_ge {a b w : Int} (hb0 : 0 ≤ b) (hw : 0 ≤ w) : -1 ≤ (if 0 > a then 0 else a) * b + w := by
  have h1 : 0 ≤ (if 0 > a then 0 else a) := by split <;> omega
  have := Int.mul_nonneg h1 hb0
  omega
theorem pow16_le {k j : Nat} (h : k ≤ j) : (16 : Int) ^ k ≤ 16 ^ j := by
  obtain ⟨d, rfl⟩ := Nat.exists_eq_add_of_le h
  rw [Int.pow_add]
  have h1 : (1 : Int) ≤ 16 ^ d := by have : (0 : Int) < 16 ^ d := Int.pow_pos (by decide); omega
  have h2 : (0 : Int) ≤ 16 ^ k := by have : (0 : Int) < 16 ^ k := Int.pow_pos (by decide); omega
  have := Int.mul_le_mul_of_nonneg_left h1 h2
  omega
theorem figRun_num {b at_ : Int} (hb0 : 2 ≤ b) (hb : b ≤ 16) : ∀ (k : Nat) (l : List Nat), l.length ≤ k → ∀ (mv : Bool) (n e : Int) (j : Nat), -1 ≤ n → n < 16 ^ j →
    -1 ≤ (figRun b at_ mv n e l).1 ∧ (figRun b at_ mv n e l).1 < 16 ^ (j + l.length) := by
  intro k
  induction k with
  | zero =>
    intro l hl mv n e j h0 h1
    cases l with
    | nil => simpa only [figRun, List.length_nil, Nat.add_zero] using ⟨h0, h1⟩
    | cons c r => simp at hl
  | succ k ih =>
    intro l hl mv n e j h0 h1
    have up : ∀ i, n < 16 ^ (j + i) := fun i => Int.lt_of_lt_of_le h1 (pow16_le (Nat.le_add_right _ _))
    have neg : ∀ i, (-1 : Int) < 16 ^ i := fun i => by have : (0 : Int) < 16 ^ i := Int.pow_pos (by decide); omega
    match l with
    | [] => simpa only [figRun, List.length_nil, Nat.add_zero] using ⟨h0, h1⟩
    | [c] =>
      simp only [figRun, List.length_cons, List.length_nil]
      split
      · exact ⟨h0, up _⟩
      · split
        · rename_i hw
          exact ⟨step_ge (by omega) hw.1, step_lt h1 (by omega) hb hw.2⟩
        · exact ⟨h0, up _⟩
    | c :: d :: r =>
      have g1 := ih r (by simp only [List.length_cons] at hl; omega)
      have g2 := ih (d :: r) (by simp only [List.length_cons] at hl ⊢; omega)
      simp only [figRun, List.length_cons] at g2 ⊢
      split
      · split
        · rename_i hw
          have := g1 true _ (e + 2) (j + 1) (step_ge (a := n) (b := b) (by omega) hw.1) (step_lt h1 (by omega) hb hw.2)
          exact ⟨this.1, Int.lt_of_lt_of_le this.2 (pow16_le (by omega))⟩
        · exact ⟨Int.le_refl _, neg _⟩
      · split
        · rename_i hw
          have := g2 true _ (e + 1) (j + 1) (step_ge (a := n) (b := b) (by omega) hw.1) (step_lt h1 (by omega) hb hw.2)
          exact ⟨this.1, Int.lt_of_lt_of_le this.2 (pow16_le (by omega))⟩
        · exact ⟨h0, up _⟩
theorem figAt_num {x : Str} {at_ b : Int} (hx : x.length ≤ 400) (hb0 : 2 ≤ b) (hb : b ≤ 16) : -1 ≤ (figAt x at_ b).1 ∧ (figAt x at_ b).1 < 16 ^ 400 := by
  rw [figAt_def]
  have h := figRun_num (at_ := at_) hb0 hb _ (x.cps.toList.drop at_.toNat) (Nat.le_refl _) false (-1) at_ 0 (Int.le_refl _) (by decide)
  have hl : x.length = x.cps.toList.length := by simp [Str.length]
  refine ⟨h.1, Int.lt_of_lt_of_le h.2 (pow16_le ?_)⟩
  rw [List.length_drop]
  omega
theorem bits16 {a : Int} {k : Nat} (h0 : -1 ≤ a) (h : a < 16 ^ k) : Builtin.Int.intBits a ≤ 4 * k + 1 := by
  refine PyProof.Rows.intBits_le ?_
  have e : (16 : Int) ^ k = ((2 ^ (4 * k) : Nat) : Int) := by
    rw [Nat.pow_mul]; simp
  rw [e] at h
  have e2 : 2 ^ (4 * k + 1) = 2 ^ (4 * k) * 2 := Nat.pow_succ ..
  have e3 : 0 < 2 ^ (4 * k) := Nat.pow_pos (by decide)
  rw [e2]
  generalize 2 ^ (4 * k) = M at *
  omega
theorem figAt_bits {x : Str} {at_ b : Int} (hx : x.length ≤ 400) (hb0 : 2 ≤ b) (hb : b ≤ 16) : Builtin.Int.intBits (figAt x at_ b).1 ≤ 1601 :=
  bits16 (k := 400) (figAt_num hx hb0 hb).1 (figAt_num hx hb0 hb).2
theorem expAt_rng {x : Str} {at_ : Int} (h0 : 0 ≤ at_) : at_ ≤ (expAt x at_).2 ∧ ((expAt x at_).2 ≤ at_ + 2 ∨ (expAt x at_).2 ≤ x.length) ∧ (expAt x at_).1 ≤ 400 := by
  unfold expAt
  have hb : expB x at_ = at_ + 1 + 1 ∨ expB x at_ = at_ + 1 := by unfold expB; split <;> simp
  have := figAt_rng (x := x) (at_ := expB x at_) (b := 10) (by omega)
  split
  · split
    · exact ⟨Int.le_refl _, .inl (by omega), by show (-1 : Int) ≤ 400; decide⟩
    · exact ⟨by omega, by omega, by omega⟩
  · exact ⟨Int.le_refl _, .inl (by omega), by show (0 : Int) ≤ 400; decide⟩
theorem exp_no {x : Str} {at_ : Int} (h0 : 0 ≤ at_) (h : (lowS (Txt.slice x (some at_) (some (at_ + 1))) != Str.ofString "e") = true) : expAt x at_ = (0, at_) := by
  unfold expAt
  rw [bne, low_slice_is h0 (c := 101) (by decide +kernel)] at h
  rw [if_neg (fun q => by rw [q] at h; exact absurd h (by decide))]
theorem exp_b1 {x : Str} {at_ : Int} (h0 : 0 ≤ at_) (h : (Txt.slice x (some (at_ + 1)) (some (at_ + 1 + 1)) == Str.ofString "+") = true) : expB x at_ = at_ + 1 + 1 := by
  rw [slice_is (by omega) (c := 43) (by decide +kernel)] at h
  unfold expB
  rw [if_pos (by simpa using h)]
theorem exp_b2 {x : Str} {at_ : Int} (h0 : 0 ≤ at_) (h : (Txt.slice x (some (at_ + 1)) (some (at_ + 1 + 1)) == Str.ofString "+") = false) : expB x at_ = at_ + 1 := by
  rw [slice_is (by omega) (c := 43) (by decide +kernel)] at h
  unfold expB
  rw [if_neg (by simpa using h)]
theorem exp_bad {x : Str} {at_ B : Int} (h0 : 0 ≤ at_) (he : (lowS (Txt.slice x (some at_) (some (at_ + 1))) != Str.ofString "e") = false) (hB : expB x at_ = B) (h : (figAt x B 10).2 = B ∨ 400 < (figAt x B 10).1) : expAt x at_ = (-1, at_) := by
  rw [bne, low_slice_is h0 (c := 101) (by decide +kernel)] at he
  unfold expAt
  rw [if_pos (by simpa using he), hB, if_pos h]
theorem exp_good {x : Str} {at_ B : Int} (h0 : 0 ≤ at_) (he : (lowS (Txt.slice x (some at_) (some (at_ + 1))) != Str.ofString "e") = false) (hB : expB x at_ = B) (h : (figAt x B 10).2 ≠ B) (h' : ¬ 400 < (figAt x B 10).1) : expAt x at_ = ((figAt x B 10).1, (figAt x B 10).2) := by
  rw [bne, low_slice_is h0 (c := 101) (by decide +kernel)] at he
  unfold expAt
  rw [if_pos (by simpa using he), hB, if_neg (fun q => q.elim h h')]
/-- what comes of literal_at -/
def litFin (x : Str) (at_ n b e : Int) : Int × Int :=
  if n < 0 ∨ (expAt x e).1 < 0 then (-1, at_) else (n * b ^ (expAt x e).1.toNat, (expAt x e).2)
@[irreducible] def litAt (x : Str) (at_ : Int) : Int × Int :=
  if 0 ≤ (figAt x at_ 10).1 ∧ sg x (figAt x at_ 10).2 = some 35 then
    (if (figAt x at_ 10).1 < 2 ∨ 16 < (figAt x at_ 10).1 then (-1, at_)
     else if (figAt x ((figAt x at_ 10).2 + 1) (figAt x at_ 10).1).2 = (figAt x at_ 10).2 + 1 ∨ sg x (figAt x ((figAt x at_ 10).2 + 1) (figAt x at_ 10).1).2 ≠ some 35 then (-1, at_)
     else litFin x at_ (figAt x ((figAt x at_ 10).2 + 1) (figAt x at_ 10).1).1 (figAt x at_ 10).1 ((figAt x ((figAt x at_ 10).2 + 1) (figAt x at_ 10).1).2 + 1))
  else litFin x at_ (figAt x at_ 10).1 10 (figAt x at_ 10).2
/-- the size of an int, hidden from the walk's looks -/
@[irreducible] def Bits (k : Int) : Prop := Builtin.Int.intBits k ≤ 1601
theorem Bits.of {k : Int} (h : Builtin.Int.intBits k ≤ 1601) : Bits k := by unfold Bits; exact h
theorem Bits.out {k : Int} (h : Bits k) : Builtin.Int.intBits k ≤ 1601 := by unfold Bits at h; exact h
theorem lit_mul {n b k : Int} (hn : Bits n) (hb : ¬ b < 2) (hb' : ¬ 16 < b) (hk : k ≤ 400) : IntMulOk n (b ^ k.toNat) := by
  have h1 : Builtin.Int.intBits b ≤ 5 := PyProof.Rows.intBits_le (by omega)
  have h2 := intBits_pow_le h1 k.toNat
  exact mulOk_of_bits hn.out h2 (by omega)
theorem sl_is {x : Str} {i : Int} (h0 : 0 ≤ i) (h : (Txt.slice x (some i) (some (i + 1)) == Str.ofString "#") = true) : sg x i = some 35 := by
  rw [slice_is h0 (c := 35) (by decide +kernel)] at h; simpa using h
theorem sl_isnt {x : Str} {i : Int} (h0 : 0 ≤ i) (h : (Txt.slice x (some i) (some (i + 1)) == Str.ofString "#") = false) : sg x i ≠ some 35 := by
  rw [slice_is h0 (c := 35) (by decide +kernel)] at h; simpa using h
theorem sl_ne {x : Str} {i : Int} (h0 : 0 ≤ i) (h : (Txt.slice x (some i) (some (i + 1)) != Str.ofString "#") = true) : sg x i ≠ some 35 := by
  rw [bne, slice_is h0 (c := 35) (by decide +kernel)] at h; simpa using h
theorem sl_nne {x : Str} {i : Int} (h0 : 0 ≤ i) (h : (Txt.slice x (some i) (some (i + 1)) != Str.ofString "#") = false) : sg x i = some 35 := by
  rw [bne, slice_is h0 (c := 35) (by decide +kernel)] at h; simpa using h
theorem fin_bad {x : Str} {at_ n b e : Int} (h : n < 0 ∨ (expAt x e).1 < 0) : litFin x at_ n b e = (-1, at_) := by unfold litFin; rw [if_pos h]
theorem fin_ok {x : Str} {at_ n b e : Int} (h : ¬ n < 0) (h' : ¬ (expAt x e).1 < 0) : litFin x at_ n b e = (n * b ^ (expAt x e).1.toNat, (expAt x e).2) := by unfold litFin; rw [if_neg (fun q => q.elim h h')]
theorem lit_base {x : Str} {at_ : Int} (h0 : 0 ≤ at_) (c1 : 0 ≤ (figAt x at_ 10).1) (c2 : (Txt.slice x (some (figAt x at_ 10).2) (some ((figAt x at_ 10).2 + 1)) == Str.ofString "#") = true) (h : (figAt x at_ 10).1 < 2 ∨ 16 < (figAt x at_ 10).1) : litAt x at_ = (-1, at_) := by
  have := (figAt_rng (x := x) (at_ := at_) (b := 10) h0).1
  unfold litAt
  rw [if_pos ⟨c1, sl_is (by omega) c2⟩, if_pos h]
theorem lit_based {x : Str} {at_ : Int} (h0 : 0 ≤ at_) (c1 : 0 ≤ (figAt x at_ 10).1) (c2 : (Txt.slice x (some (figAt x at_ 10).2) (some ((figAt x at_ 10).2 + 1)) == Str.ofString "#") = true) (h : ¬ (figAt x at_ 10).1 < 2) (h' : ¬ 16 < (figAt x at_ 10).1) :
    litAt x at_ = (if (figAt x ((figAt x at_ 10).2 + 1) (figAt x at_ 10).1).2 = (figAt x at_ 10).2 + 1 ∨ sg x (figAt x ((figAt x at_ 10).2 + 1) (figAt x at_ 10).1).2 ≠ some 35 then (-1, at_)
     else litFin x at_ (figAt x ((figAt x at_ 10).2 + 1) (figAt x at_ 10).1).1 (figAt x at_ 10).1 ((figAt x ((figAt x at_ 10).2 + 1) (figAt x at_ 10).1).2 + 1)) := by
  have := (figAt_rng (x := x) (at_ := at_) (b := 10) h0).1
  unfold litAt
  rw [if_pos ⟨c1, sl_is (by omega) c2⟩, if_neg (fun q => q.elim h h')]
theorem lit_b1 {x : Str} {at_ : Int} (h0 : 0 ≤ at_) (c1 : 0 ≤ (figAt x at_ 10).1) (c2 : (Txt.slice x (some (figAt x at_ 10).2) (some ((figAt x at_ 10).2 + 1)) == Str.ofString "#") = true) (h : ¬ (figAt x at_ 10).1 < 2) (h' : ¬ 16 < (figAt x at_ 10).1)
    (d : (figAt x ((figAt x at_ 10).2 + 1) (figAt x at_ 10).1).2 = (figAt x at_ 10).2 + 1) : litAt x at_ = (-1, at_) := by
  rw [lit_based h0 c1 c2 h h', if_pos (.inl d)]
theorem lit_b2 {x : Str} {at_ : Int} (h0 : 0 ≤ at_) (c1 : 0 ≤ (figAt x at_ 10).1) (c2 : (Txt.slice x (some (figAt x at_ 10).2) (some ((figAt x at_ 10).2 + 1)) == Str.ofString "#") = true) (h : ¬ (figAt x at_ 10).1 < 2) (h' : ¬ 16 < (figAt x at_ 10).1)
    (d : (Txt.slice x (some (figAt x ((figAt x at_ 10).2 + 1) (figAt x at_ 10).1).2) (some ((figAt x ((figAt x at_ 10).2 + 1) (figAt x at_ 10).1).2 + 1)) != Str.ofString "#") = true) : litAt x at_ = (-1, at_) := by
  have r1 := (figAt_rng (x := x) (at_ := at_) (b := 10) h0).1
  have r2 := (figAt_rng (x := x) (at_ := (figAt x at_ 10).2 + 1) (b := (figAt x at_ 10).1) (by omega)).1
  rw [lit_based h0 c1 c2 h h', if_pos (.inr (sl_ne (by omega) d))]
theorem lit_b3 {x : Str} {at_ : Int} (h0 : 0 ≤ at_) (c1 : 0 ≤ (figAt x at_ 10).1) (c2 : (Txt.slice x (some (figAt x at_ 10).2) (some ((figAt x at_ 10).2 + 1)) == Str.ofString "#") = true) (h : ¬ (figAt x at_ 10).1 < 2) (h' : ¬ 16 < (figAt x at_ 10).1)
    (d : (figAt x ((figAt x at_ 10).2 + 1) (figAt x at_ 10).1).2 ≠ (figAt x at_ 10).2 + 1)
    (d' : (Txt.slice x (some (figAt x ((figAt x at_ 10).2 + 1) (figAt x at_ 10).1).2) (some ((figAt x ((figAt x at_ 10).2 + 1) (figAt x at_ 10).1).2 + 1)) != Str.ofString "#") = false) {r : Int × Int}
    (e : litFin x at_ (figAt x ((figAt x at_ 10).2 + 1) (figAt x at_ 10).1).1 (figAt x at_ 10).1 ((figAt x ((figAt x at_ 10).2 + 1) (figAt x at_ 10).1).2 + 1) = r) : litAt x at_ = r := by
  have r1 := (figAt_rng (x := x) (at_ := at_) (b := 10) h0).1
  have r2 := (figAt_rng (x := x) (at_ := (figAt x at_ 10).2 + 1) (b := (figAt x at_ 10).1) (by omega)).1
  rw [lit_based h0 c1 c2 h h', if_neg (fun q => q.elim d (fun q => q (sl_nne (by omega) d'))), e]
theorem lit_p1 {x : Str} {at_ : Int} (c1 : ¬ 0 ≤ (figAt x at_ 10).1) {r : Int × Int} (e : litFin x at_ (figAt x at_ 10).1 10 (figAt x at_ 10).2 = r) : litAt x at_ = r := by
  unfold litAt
  rw [if_neg (fun q => c1 q.1), e]
theorem lit_p2 {x : Str} {at_ : Int} (h0 : 0 ≤ at_) (c2 : (Txt.slice x (some (figAt x at_ 10).2) (some ((figAt x at_ 10).2 + 1)) == Str.ofString "#") = false) {r : Int × Int} (e : litFin x at_ (figAt x at_ 10).1 10 (figAt x at_ 10).2 = r) : litAt x at_ = r := by
  have r1 := (figAt_rng (x := x) (at_ := at_) (b := 10) h0).1
  unfold litAt
  rw [if_neg (fun q => sl_isnt (by omega) c2 q.2), e]
-- C1
theorem lines_C1 : True := by
  k_with_none
  w_top off
  k_with "call builtin:chr" => refine chr_of_range (by omega) (chr_hi (by assumption)) ?_
  trivial
theorem eqS {x y : Str} {t : Tok} (e : y = x) : ∃ t', Value.str y t = .str x t' := ⟨t, e ▸ rfl⟩
theorem str_cases {x : Str} (hx : x.length ≤ 1) : x = ⟨#[]⟩ ∨ ∃ c, x = ⟨#[c]⟩ := by
  rcases x with ⟨a⟩
  rcases a with ⟨l⟩
  match l, hx with
  | [], _ => exact .inl rfl
  | [c], _ => exact .inr ⟨c, rfl⟩
  | _ :: _ :: _, h => simp [Str.length] at h
theorem nlt_A (c : Nat) : ({ cps := #[c] } : Str).cps.toList < (Str.ofString "A").cps.toList ↔ c < 65 := by
  rw [show (Str.ofString "A").cps.toList = [65] from by decide +kernel]
  show [c] < [65] ↔ _
  rw [List.cons_lt_cons_iff]
  constructor
  · rintro (h | ⟨_, h⟩)
    · exact h
    · exact absurd h (by decide)
  · exact .inl
theorem nlt_Z (c : Nat) : (Str.ofString "Z").cps.toList < ({ cps := #[c] } : Str).cps.toList ↔ 90 < c := by
  rw [show (Str.ofString "Z").cps.toList = [90] from by decide +kernel]
  show [90] < [c] ↔ _
  rw [List.cons_lt_cons_iff]
  constructor
  · rintro (h | ⟨_, h⟩)
    · exact h
    · exact absurd h (by decide)
  · exact .inl
theorem lowS_one_id {c : Nat} (h : c < 65 ∨ 90 < c) : lowS ⟨#[c]⟩ = ⟨#[c]⟩ := by
  show ({ cps := #[lowc c] } : Str) = _
  unfold lowc
  rw [if_neg (by omega)]
theorem lowS_one_up {c : Nat} (h : ¬ c < 65) (h' : ¬ 90 < c) : lowS ⟨#[c]⟩ = ⟨#[c + 32]⟩ := by
  show ({ cps := #[lowc c] } : Str) = _
  unfold lowc
  rw [if_pos (by omega)]
theorem lowS_up' {c : Nat} (h : ¬ ({ cps := #[c] } : Str).cps.toList < (Str.ofString "A").cps.toList) (h' : ¬ (Str.ofString "Z").cps.toList < ({ cps := #[c] } : Str).cps.toList) : lowS ⟨#[c]⟩ = ⟨#[((c : Int) + 32).toNat]⟩ := by
  rw [lowS_one_up (fun q => h ((nlt_A c).mpr q)) (fun q => h' ((nlt_Z c).mpr q))]
  congr 3
theorem chr_hi {c : Nat} (h' : ¬ (Str.ofString "Z").cps.toList < ({ cps := #[c] } : Str).cps.toList) : (c : Int) + 32 ≤ 1114111 := by
  have : ¬ 90 < c := fun q => h' ((nlt_Z c).mpr q)
  omega
theorem spec_small_letter (w : World) (x : Str) (t : Tok) (news : List (Addr × Obj)) (hx : x.length ≤ 1) :
   Spec w 88 [.str x t] news 1 (fun v n => news = n ∧ ∃ t', v = .str (lowS x) t') := by
  unfold Spec
  k_fill
  rcases str_cases hx with rfl | ⟨c, rfl⟩
  all_goals (
    intros
    rename_i hret
    refine wpAny_call ?_
    k_dflt cell_enter
    k_steps)
  all_goals (refine hret _ _ _ _ ⟨rfl, eqS ?_⟩ ?_ ?_; rotate_left; k_asm; k_asm)
  · rfl
  · exact (lowS_one_id (.inl ((nlt_A _).mp (by assumption)))).symm
  · exact (lowS_one_id (.inr ((nlt_Z _).mp (by assumption)))).symm
  · exact (lowS_up' (by assumption) (by assumption)).symm
-- X2
section
variable {M : Model} {A : Around} {E : Value → Shared → Prop} {h : Heap} {g : Array GenState} {d : Drawn} {t : Nat} {os : OsState}
variable {nm q : Str} {C N : Addr} {bs bm bmB : List Value} {hdct : Bool} {sn : List Str} {sub : List Value} {ab : Bool} {col : Option Bool} {dd : Option Addr} {k0 k1 k2 k3 k5 : Option Value} {B newId initId : String}
/-- the check of __new__'s call, whatever stands between the class and its built-in base -/
theorem check_newA (F : ExcBaseFacts B newId initId bmB) (hB : bm.contains (.type B) = true) {rest : List Value} {Q : Unit → Shared → Prop} (hC : h.get? C = some (excClassObj nm q C N bs bm hdct sn sub ab col dd k0 k1 k2 k3 k5 newId))
    (hq : Q () ⟨h, g, d, t, os⟩) : wpAny M A (checkBuiltinCall newId ⟨.ref C :: rest, []⟩) Q E ⟨h, g, d, t, os⟩ := by
  have hcont : (Value.ref C :: bm).contains (.type B) = true := by rw [List.contains_cons, hB, Bool.or_true]
  have hstar := F.noStar
  simp only [checkBuiltinCall, F.newKind, F.newSplit, F.newRow]
  repeat (first | refine wpAny_loadPart_at hC ?_ | (refine wpAny_isSubtype_exc hC ?_; rw [hcont]) | refine wpAny_staticBase_exc hC ?_ | refine wpAny_madeBy_exc hC ?_ | simp only [bne_self_eq_false, Bool.false_eq_true, if_false] | wp_step)
  exact hq
end
section
variable {prog : Program} {w : World} {A : Around} {R : Result → Shared → Prop} {h : Heap} {g : Array GenState} {d : Drawn} {t : Nat} {os : OsState}
variable {nm q : Str} {C N : Addr} {bs bm bmB : List Value} {hdct : Bool} {sn : List Str} {sub : List Value} {ab : Bool} {col : Option Bool} {dd : Option Addr} {k0 k1 k2 k3 k5 : Option Value} {B newId initId : String}
theorem exc_newA (F : ExcBaseFacts B newId initId bmB) (hB : bm.contains (.type B) = true) (hAt : bm.contains (.type "AttributeError") = false) (hNa : bm.contains (.type "NameError") = false) {rest : List Value}
    (hC : h.get? C = some (excClassObj nm q C N bs bm hdct sn sub ab col dd k0 k1 k2 k3 k5 newId))
    (hq : R (.ok (.ret (.ref (h.objs.size + 1)))) ⟨(h.push { cls := .type "tuple", data := .seq rest.toArray }).push
      { cls := .ref C, data := .fields #[.ref h.objs.size, .none, .none, .none, .bool false, .none] }, g, d, t, os⟩) (hrest : rest.length ≤ sizeLine) :
    codeAny (model prog w) A (.builtin newId ⟨.ref C :: rest, []⟩) R ⟨h, g, d, t, os⟩ := by
  have hends := F.ends
  have hcB : (Value.ref C :: bm).contains (.type B) = true := by rw [List.contains_cons, hB, Bool.or_true]
  have hcA : (Value.ref C :: bm).contains (.type "AttributeError") = false := by rw [List.contains_cons, hAt]; rfl
  have hcN : (Value.ref C :: bm).contains (.type "NameError") = false := by rw [List.contains_cons, hNa]; rfl
  refine codeAny_builtinAt F.entry ?_
  unfold Builtin.«BaseException.__new__»
  refine PySem.wpAt_bind ?_
  show PySem.wpAt _ _ _ (stack >>= _) _ _ _
  refine PySem.wpAt_bind (PySem.wpAt_stack fun p below => PySem.wpAt_of_wpAny ?_)
  wp_walk
  refine PySem.wpAt_of_wpAny ?_
  rw [F.owner]
  repeat (first | with_reducible refine wpAny_madeHere_exc F.canon hC ?_ | with_reducible refine wpAny_loadPart_at hC ?_ | (with_reducible refine wpAny_isSubtype_exc hC ?_; first | rw [hcB] | rw [hcA] | rw [hcN]) | wp_step)
  show R _ _
  rw [Heap.size_push]
  exact hq
end
section
variable {prog : Program} {w : World} {A : Around} {E : Value → Shared → Prop} {h : Heap} {g : Array GenState} {d : Drawn} {t : Nat} {os : OsState}
variable {nm q : Str} {C N : Addr} {bs bm bmB : List Value} {hdct : Bool} {sn : List Str} {sub : List Value} {ab : Bool} {col : Option Bool} {dd : Option Addr} {k0 k1 k2 k3 k5 : Option Value} {B newId initId : String}
theorem lookup_own {name : Str} {v : Value} {mN : Str → Option Value} {Q : Option Value → Shared → Prop} {M : Model}
    (hC : h.get? C = some (excClassObj nm q C N bs bm hdct sn sub ab col dd k0 k1 k2 k3 k5 newId)) (hn : h.Ns N mN) (hv : mN name = some v)
    (hq : Q (some v) ⟨h, g, d, t, os⟩) : wpAny M A (typeLookup (.ref C) name) Q E ⟨h, g, d, t, os⟩ := by
  rw [typeLookup_eq]
  refine wpAny_bind (wpAny_mroOf_exc hC ?_)
  rw [lookupAlong_cons]
  refine wpAny_bind (wpAny_classOwn_exc hC hn ?_)
  rw [hv]
  exact wpAny_pure hq
theorem type_call_initA (F : ExcBaseFacts B newId initId bmB) (hB : bm.contains (.type B) = true) (hAt : bm.contains (.type "AttributeError") = false) (hNa : bm.contains (.type "NameError") = false) {rest : List Value} {fI : Addr} {oI : Obj} {Q : PySem.Fin → Shared → Prop}
    (hC : h.get? C = some (excClassObj nm q C N bs bm hdct sn sub ab col dd k0 k1 k2 k3 k5 newId)) (hi : Looks (model prog w) h (typeLookup (.ref C) "__init__") (some (.ref fI)))
    (hfI : h.get? fI = some oI) (hfc : oI.cls = .type "function")
    (hq : ∀ h' e, Heap.MadeExcOf h h' e (.ref C) rest →
      wpAny (model prog w) A (call (.ref fI) (.ref e :: rest)) (fun r s' => r = .none ∧ Q (.done (.ret (.ref e))) s') E ⟨h', g, d, t, os⟩) (hrest : rest.length ≤ sizeLine) :
    wpAny (model prog w) A (Builtin.«type.__call__» ⟨.ref C :: rest, []⟩) Q E ⟨h, g, d, t, os⟩ := by
  repeat (first | with_reducible refine wpAny_loadPart_at hC ?_ | with_reducible refine wpAny_madeBy_exc hC ?_ | wp_step)
  refine codeAny_call_builtin_code (Code.quiet_builtin _ F.quiet) (check_newA F hB hC ?_)
  refine exc_newA F hB hAt hNa hC ?_ hrest
  show wpAny _ _ _ _ _ _
  have up : ∀ {b : Addr} {o : Obj}, h.get? b = some o → ((h.push { cls := .type "tuple", data := .seq rest.toArray }).push { cls := .ref C, data := .fields #[.ref h.objs.size, .none, .none, .none, .bool false, .none] }).get? b = some o :=
    fun e => Heap.get?_push_of_some _ (Heap.get?_push_of_some _ e)
  have hC₁ := up hC
  have hfI₁ := up hfI
  have hget : ((h.push { cls := .type "tuple", data := .seq rest.toArray }).push
      { cls := .ref C, data := .fields #[.ref h.objs.size, .none, .none, .none, .bool false, .none] }).get? (h.objs.size + 1) = some
      { cls := .ref C, data := .fields #[.ref h.objs.size, .none, .none, .none, .bool false, .none] } := by heap_get
  have hcC : (Value.ref C :: bm).contains (.ref C) = true := by simp
  unfold isInstance
  repeat (first | with_reducible refine wpAny_loadPart_at hget ?_ | (with_reducible refine wpAny_isSubtype_exc hC₁ ?_; rw [hcC]) | wp_step)
  show wpAny _ _ (typeLookup (.ref C) _) _ _ _
  refine (hi.keeps fun b o e => up e).here ?_
  refine wpAny_holding (wpAny_bind ?_)
  unfold bindSpecial
  refine wpAny_bind (wpAny_typeOf (T := "function") ⟨_, hfI₁, hfc⟩ ?_)
  rw [if_pos (by decide)]
  refine wpAny_pure (wpAny_bind (wpAny_mono (hq _ (h.objs.size + 1) ⟨fun b o hb => up hb, Heap.get?_none_of_le (Nat.le_succ _), h.objs.size, hget, Heap.get?_none_of_le (Nat.le_refl _), ?_⟩) (fun r s' hr => ?_) fun _ _ x => x))
  · exact Heap.get?_push_of_some _ (Heap.get?_push_at rfl rfl)
  · obtain ⟨rfl, hQ⟩ := hr
    wp_walk
    exact hQ
theorem call_initA (F : ExcBaseFacts B newId initId bmB) (hB : bm.contains (.type B) = true) (hAt : bm.contains (.type "AttributeError") = false) (hNa : bm.contains (.type "NameError") = false) {rest : List Value} {fI : Addr} {oI : Obj} {Q : Value → Shared → Prop}
    (hC : h.get? C = some (excClassObj nm q C N bs bm hdct sn sub ab col dd k0 k1 k2 k3 k5 newId)) (hi : Looks (model prog w) h (typeLookup (.ref C) "__init__") (some (.ref fI)))
    (hfI : h.get? fI = some oI) (hfc : oI.cls = .type "function")
    (hq : ∀ h' e, Heap.MadeExcOf h h' e (.ref C) rest →
      wpAny (model prog w) (A.under (.builtin "type.__call__" ⟨.ref C :: rest, []⟩)) (call (.ref fI) (.ref e :: rest)) (fun r s' => r = .none ∧ Q (.ref e) s') E ⟨h', g, d, t, os⟩) (hrest : rest.length ≤ sizeLine) :
    wpAny (model prog w) A (call (.ref C) rest) Q E ⟨h, g, d, t, os⟩ := by
  have f1 := tc_lookup
  have f2 := tc_bind (.ref C)
  have hT : (⟨h, g, d, t, os⟩ : Shared).TypeIs (.ref C) "type" := ⟨_, hC, rfl⟩
  refine wpAny_call (codeAny_of_tree ?_)
  show wpAny _ _ (callAny (.ref C) _) _ _ _
  repeat (any_goals (first | assumption | with_reducible refine wpAny_loadPart_at hC ?_ | wp_step))
  refine ⟨rfl, ?_⟩
  refine codeAny_call_builtin_at (Code.quiet_builtin _ (by decide +kernel)) entry_typeCall (wpAny_check_type_call_sub hC (type_call_initA F hB hAt hNa hC hi hfI hfc (fun h' e hm => ?_) hrest))
  exact hq h' e hm
end
-- X3
section
open PySem.Calls Builtin Builtin.ObjectAttr
theorem meta_Exc : typeOf (.type "Exception") = pure (.type "type") := by kernel_rfl
abbrev excD (C : Addr) (dd : Option Addr) (t : Addr) : Obj := { cls := .ref C, dict := dd, data := .fields #[.ref t, .none, .none, .none, .bool false, .none] }
def RaiseOk (C : Addr) (E : Value → Shared → Prop) (v : Value) (s₁ : Shared) : Prop :=
  ∃ e od t nm q N bs bm hdct sn sub ab col dd k0 k1 k2 k3 k5 newId, v = .ref e ∧ bm.contains (.type "BaseException") = true ∧ s₁.heap.get? C = some (excClassObj nm q C N bs bm hdct sn sub ab col dd k0 k1 k2 k3 k5 newId) ∧
    s₁.heap.get? e = some (excD C od t) ∧ E (.ref e) s₁
section
variable {M : Model} {A : Around} {E : Value → Shared → Prop} {s : Shared} {env : Env} {C : Addr}
theorem raiseStmt_own {x : Sem Value} {Q : Flow → Shared → Prop} (hh : A.handled = none) (h : wpAny M A x (fun v s₁ => RaiseOk C E v s₁) E s) : wpAny M A (raiseStmt env (some x) none) Q E s := by
  unfold raiseStmt
  refine wpAny_bind (wpAny_mono h (fun v s₁ h₁ => ?_) fun _ _ x => x)
  obtain ⟨e, od, t, nm, q, N, bs, bm, hdct, sn, sub, ab, col, dd, k0, k1, k2, k3, k5, newId, rfl, hb, hC, he, hE⟩ := h₁
  have hcB : (Value.ref C :: bm).contains (.type "BaseException") = true := by rw [List.contains_cons, hb, Bool.or_true]
  obtain ⟨hp, g, d, tk, os⟩ := s₁
  repeat (first | with_reducible refine wpAny_loadPart_at he ?_ | with_reducible refine wpAny_loadPart_at hC ?_ | (with_reducible refine wpAny_isSubtype_exc hC ?_; rw [hcB]) | wp_step)
  exact wpAny_raiseNew_none hh hE
end
section
variable {prog : Program} {w : World} {A : Around} {E : Value → Shared → Prop} {s : Shared} {env : Env} {C : Addr}
theorem Raise_own_call {x : Str} {np cpos pos : Pos} {args : List PySem.Expr} {Q : Flow → Shared → Prop} (hh : A.handled = none)
    (h : wpAny (model prog w) A (eval (.Call (.Name x np) args [] cpos) env) (fun v s₁ => RaiseOk C E v s₁) E s) :
    wpAny (model prog w) A (exec (.Raise (some (.Call (.Name x np) args [] cpos)) none pos) env) Q E s := by
  rw [arm_exec_Raise]
  first
    | exact wpAny_bind (wpAny_standAt (raiseStmt_own hh (wpAny_bind (wpAny_mono h (fun v s₃ h₃ => wpAny_bind (wpAny_standAt (wpAny_pure h₃))) fun _ _ x => x))))
    | (simp only [evalOpt, Option.map]; exact wpAny_bind (wpAny_standAt (raiseStmt_own hh (wpAny_bind (wpAny_mono h (fun v s₃ h₃ => wpAny_bind (wpAny_standAt (wpAny_pure h₃))) fun _ _ x => x)))))
end
section
variable {M : Model} {A : Around} {E : Value → Shared → Prop} {s' : Shared} {base g h : Heap} {outer : List Env} {L a e t C : Addr} {od : Option Addr} {m : Str → Option Value} {name : Str} {scope : Scope} {cd : Value} {Q : Unit → Shared → Prop} {news : List (Addr × Obj)}
/-- the first frame is left with an exception that the ledger holds -/
theorem leave_ownS (K : Below A base outer g) (F : Fr g L s'.heap m) (N : News g L s'.heap ((e, excD C od t) :: news)) (hne : ∀ p ∈ news, p.1 ≠ e)
    (hQ : ∀ h', RaisedSN base g outer e (.ref C) news h' → g.UpToSlots h' → Q () { s' with heap := h' }) (hk : scope.kind = .function := by rfl) :
    wpAny M (A.deeper (envOf name scope L a cd)) (leaving (envOf name scope L a cd) (.ref e)) Q E s' := by
  have Ne := N (e, excD C od t) (.head _)
  have hLe : L ∉ [e] := fun q => Ne.2.1 (List.mem_singleton.mp q).symm
  have F' : Fr g L (hideAll s'.heap [e]) m := by
    refine ⟨?_, fun b o q => hideAll_get _ (F.keep b o q) fun hm => ?_, F.above⟩
    · obtain ⟨oL, es, ep, hL, r⟩ := F.ns
      exact ⟨oL, es, ep, hideAll_get _ hL hLe, r⟩
    · have := Ne.2.2
      rw [← List.mem_singleton.mp hm, q] at this
      cases this
  have N' : News g L (hideAll s'.heap [e]) news := fun p hp => ⟨hideAll_get _ (N p (.tail _ hp)).1 fun hm => hne p hp (List.mem_singleton.mp hm), (N p (.tail _ hp)).2⟩
  have keeps : ∀ b o, (hideAll s'.heap [e]).get? b = some o → s'.heap.get? b = some o := fun b o q => of_hideAll _ q
  have new : (hideAll s'.heap [e]).get? e = none := hideAll_none _ (.head _)
  have K' := K.push (name := name) (a := a) (cd := cd) F' hk
  have hin : ∀ env ∈ (envOf name scope L a cd :: outer), ∀ b, env.frame = some b → b ∈ (envOf name scope L a cd :: outer).filterMap (·.frame) := fun env he b hb => List.mem_filterMap.mpr ⟨env, he, hb⟩
  have st : base.StaysIn (hideAll (hideAll s'.heap [e]) ((envOf name scope L a cd :: outer).filterMap (·.frame))) := fun b o q => hideAll_get _ (K'.stays b o q) fun hm => by
    rw [(K'.frames.mem hm).1] at q; cases q
  have sg : ∀ b o, g.get? b = some o → b ∉ outer.filterMap (·.frame) → (hideAll (hideAll s'.heap [e]) ((envOf name scope L a cd :: outer).filterMap (·.frame))).get? b = some o := fun b o q nm => hideAll_get _ (F'.keep b o q) fun hm => by
    rcases kts_mem hm with z | z
    · rw [z, kts_self F'] at q
      cases q
    · exact nm z
  have hl : ∀ q ∈ news, (hideAll (hideAll s'.heap [e]) ((envOf name scope L a cd :: outer).filterMap (·.frame))).get? q.1 = some q.2 ∧ g.get? q.1 = none ∧ base.get? q.1 = none := fun q hq => by
    refine ⟨hideAll_get _ (N' q hq).1 fun hm => ?_, (N' q hq).2.2, fresh_of_stays K.stays (N' q hq).2.2⟩
    obtain ⟨env, he, hf⟩ := List.mem_filterMap.mp hm
    rcases List.mem_cons.mp he with rfl | he
    · exact (N' q hq).2.1 (Option.some.inj hf).symm
    · obtain ⟨o, ho, _⟩ := (K.frames.mem (List.mem_filterMap.mpr ⟨env, he, hf⟩)).2
      rw [(N' q hq).2.2] at ho; cases ho
  have hen : (hideAll (hideAll s'.heap [e]) ((envOf name scope L a cd :: outer).filterMap (·.frame))).get? e = none := by
    cases q : (hideAll (hideAll s'.heap [e]) ((envOf name scope L a cd :: outer).filterMap (·.frame))).get? e with
    | none => rfl
    | some o => have := of_hideAll _ q; rw [new] at this; cases this
  refine wpAny_leaving_firstW (a0 := .ref t) K'.stack ((funFrames_hide K'.frames hin).of_keeps fun b o hb _ => ⟨o, keeps b o hb, rfl⟩) rfl Ne.1 (fun b o hb => keeps b o (of_hideAll _ hb)) hen rfl rfl rfl fun h' hL => ?_
  obtain ⟨k1, ⟨_, _, k2⟩, k3, k4⟩ := hL
  exact hQ h' ⟨_, .ref t, st, sg, hl, k1, hen, k2, k3⟩ (((Heap.UpToSlots.of_keeps F'.keep).trans (Heap.UpToSlots.of_keeps keeps)).trans k4)
end
section
variable {prog : Program} {w : World} {A₀ : Around} {E : Value → Shared → Prop} {s' : Shared} {base g g₀ G : Heap} {outer : List Env} {L a e C : Addr} {m : Str → Option Value} {name : Str} {scope : Scope} {cd : Value}
  {b₀ : Stmt} {suite : List Stmt} {pos np : Pos} {rest : List ExceptHandler} {Q : Flow → Shared → Prop} {news : List (Addr × Obj)} {KF : Frag}
  {p : Program} {loose : List Str} {mean : ExcName → Option Value} {mg mb : Str → Option Value} {x : Str}
/-- an own exception of the ledger's kind is caught in a called frame by its own class's name -/
theorem caught_own (R : RaisedSN base G (envOf name scope L a cd :: outer) e (.ref C) news s'.heap) (F : Fr g L G m) (K : Below A₀ base outer g) (hsm : G.UpToSlots s'.heap) (XB : KF.In base) (TB : Top p loose mean mg mb base)
    (D : KtsDicts (outer.filterMap (·.frame)) g) (T0 : KtsTurn (outer.filterMap (·.frame)) g₀ g)
    (ex : nsIn KF mainGlobals x = some (some (.ref C))) (q : ktsIn KF C "BaseException" = true)
    (k : ∀ h' g', KtsTurn (outer.filterMap (·.frame)) g₀ g' → Fr g' L h' m → News g' L h' news → Below A₀ base outer g' → KF.In g' → Top p loose mean mg mb g' → KtsDicts (outer.filterMap (·.frame)) g' →
      wpAny (model prog w) ((A₀.deeper (envOf name scope L a cd)).mark (some (.ref e))) (execs (b₀ :: suite) (envOf name scope L a cd)) Q E { s' with heap := h' })
    (hk : scope.kind = .function := by rfl) (hx : (envOf name scope L a cd).kindOf x = some .globalImplicit := by rfl) (hd : (x == ("__debug__" : Str)) = false := by decide)
    (hE : PassesOwnAt (model prog w) ((A₀.deeper (envOf name scope L a cd)).mark (some (.ref e))) (A₀.deeper (envOf name scope L a cd)) (envOf name scope L a cd) E := by passes_own) :
    wpAny (model prog w) (A₀.deeper (envOf name scope L a cd)) (noteFrame (.ref e) (envOf name scope L a cd))
      (fun _ s₂ => wpAny (model prog w) (A₀.deeper (envOf name scope L a cd)) (setFlight (.ref e) none) (fun _ s₃ =>
        wpAny (model prog w) (A₀.deeper (envOf name scope L a cd)) (handleBy (.ref e) (envOf name scope L a cd) (.ExceptHandler (some (.Name x np)) none (b₀ :: suite) pos :: rest)) Q E s₃) E s₂) E s' := by
  obtain ⟨B, a0, hB, hBG, hl, hfl⟩ := R
  have hL : B.get? L = none := by
    obtain ⟨_, ⟨L', _, hf, hn', _⟩, _⟩ := hfl.2.2.1
    obtain rfl : L = L' := Option.some.inj hf
    exact hn'
  refine wpAny_looks_onW (Around.frames_deeper K.stack) rfl hfl fun h₄ hheld₄ hsm₄ => ?_
  refine wpAny_landsW hheld₄ fun h₅ hheld hsm₅' => ?_
  have hsm₅ := hsm₄.trans hsm₅'
  obtain ⟨g₅, T₅, F₅, K₅⟩ := kts_ground K F hBG hheld.1 (hsm.trans hsm₅)
  have X₅ : KF.In g₅ := XB.keeps K₅.stays
  have P₅ : TopRead p loose mg mb g₅ := topRead_of (TB.keeps K₅.stays)
  obtain ⟨ob, hob, hobc⟩ := hheld.there
  obtain ⟨nm, q', N, bs, bm, hdct, sn, sub, ab, col, dd, k0, k1, k2, k3, k5, newId, hC, hbase, hbT⟩ := kts_cls X₅ q
  have hC₅ := F₅.keep _ _ hC
  refine wpAny_handleBy_cons (codeAny_handlers_test (name_K F₅ X₅ P₅ ex ?_ hk hx hd)) (by intro q; cases q)
  refine wpAny_excMatches_sub_self hC₅ hob hobc hbase (codeAny_handlers_suite ?_)
  refine lands_againW hheld fun h₆ hfl₆ hsm₆ => ?_
  obtain ⟨g₆, T₆, F₆, K₆⟩ := kts_ground K F hBG hfl₆.1 ((hsm.trans hsm₅).trans hsm₆)
  have Nl : News g₆ L h₆ news := fun q hq => ⟨hfl₆.1 _ _ (hl q hq).1, (fun z => by have := (hl q hq).1; rw [z, hL] at this; cases this), T₆.none_ _ (kts_none F.keep (hl q hq).2.1)⟩
  exact wpAny_passesOwnAt hE (k h₆ g₆ (T0.trans T₆) F₆ Nl K₆ (XB.keeps K₆.stays) (TB.keeps K₆.stays) (D.turn T₆))
end
end
-- X4
section
open PySem.Calls Builtin Builtin.ObjectAttr
def excOver : List Value → Bool
  | .ref _ :: r => excOver r
  | l => l == [.type "Exception", .type "BaseException", .type "object"]
theorem refuse_exc (self : Value) : ∀ {l : List Value}, excOver l = true → refuseLoop self "__setattr__" l = pure ()
  | [], e => by cases e
  | v :: r, e => by
    by_cases hv : ∃ c, v = .ref c
    · obtain ⟨c, rfl⟩ := hv
      rw [refuseLoop_ref]; exact refuse_exc self (by simpa [excOver] using e)
    · have : (v :: r) = [.type "Exception", .type "BaseException", .type "object"] := by
        cases v <;> first | exact absurd ⟨_, rfl⟩ hv | simpa [excOver] using e
      rw [this]; exact PySem.F.store_Exception.passes self
/-- a dict of few names -/
def DictN (od : Obj) (k : Nat) : Prop := ∃ (mA : Str → Option Value) (ns : List Str), (∀ (h : Heap) dx, h.get? dx = some od → h.Ns1 dx mA) ∧ Within mA ns ∧ ns.length ≤ k
section
variable {prog : Program} {w : World} {A : Around} {E : Value → Shared → Prop} {h : Heap} {g : Array GenState} {d : Drawn} {t : Nat} {os : OsState} {C N : Addr} {bs bm bmB : List Value} {sn : List Str} {sub : List Value} {ab : Bool} {col : Option Bool} {dd : Option Addr} {k0 k1 k2 k3 k5 : Option Value} {B newId initId : String} {nm q : Str}
theorem check_initA (F : ExcBaseFacts B newId initId bmB) (hB : bm.contains (.type B) = true) {hdct : Bool} {M : Model} {e : Addr} {oe : Obj} {rest : List Value} {Q : Unit → Shared → Prop}
    (hC : h.get? C = some (excClassObj nm q C N bs bm hdct sn sub ab col dd k0 k1 k2 k3 k5 newId)) (he : h.get? e = some oe) (hcls : oe.cls = .ref C) (hq : Q () ⟨h, g, d, t, os⟩) :
    wpAny M A (checkBuiltinCall initId ⟨.ref e :: rest, []⟩) Q E ⟨h, g, d, t, os⟩ := by
  have hcB : (Value.ref C :: bm).contains (.type B) = true := by rw [List.contains_cons, hB, Bool.or_true]
  have hshort := F.noStar
  simp only [checkBuiltinCall, F.initKind, F.initSplit, F.initRow]
  repeat (first | (with_reducible refine wpAny_loadPart_at he ?_; rw [hcls]) | with_reducible refine wpAny_loadPart_at hC ?_ | (with_reducible refine wpAny_isSubtype_exc hC ?_; rw [hcB]) | wp_step)
  refine wpAny_onRaise ?_
  rw [show ∀ (a b : String) (n : Nat), Bind.check ⟨.positional, "*", B, .self, [⟨"args", .varPos, false⟩]⟩ a b n (List.map (fun x => x.fst) ({ pos := Value.ref e :: rest } : Args).kw) = pure () from
    fun a b n => check_star_args _ _ _ _ _ _]
  exact wpAny_pure hq
theorem init_callA (F : ExcBaseFacts B newId initId bmB) (hB : bm.contains (.type B) = true) {hdct : Bool} {e t₀ : Addr} {od : Option Addr} {rest : List Value} {Q : Value → Shared → Prop}
    (hC : h.get? C = some (excClassObj nm q C N bs bm hdct sn sub ab col dd k0 k1 k2 k3 k5 newId)) (he : h.get? e = some (excD C od t₀)) (hl : rest.length ≤ sizeLine)
    (hq : Q .none ⟨(h.push { cls := .type "tuple", data := .seq rest.toArray }).update e (Obj.mapFields (·.setIfInBounds 0 (.ref h.objs.size))), g, d, t, os⟩) :
    wpAny (model prog w) A (call (.builtin initId) (.ref e :: rest)) Q E ⟨h, g, d, t, os⟩ := by
  refine wpAny_call (codeAny_call_builtin F.init.plain F.initEntry (check_initA F hB hC he rfl ?_))
  wp_walk
  exact hq
end
end
-- X5
section
open PySem.Calls Builtin Builtin.ObjectAttr
theorem news_ne {g h : Heap} {L e : Addr} {o : Obj} {news : List (Addr × Obj)} (N : News g L h ((e, o) :: news)) : h.get? e = some o ∧ e ≠ L ∧ g.get? e = none := N (e, o) (.head _)
section
variable {prog : Program} {w : World} {A : Around} {E : Value → Shared → Prop} {s : Shared} {K : Frag} {C L e t : Addr} {m : Str → Option Value} {g : Heap} {news : List (Addr × Obj)}
theorem init_N {B newId initId : String} {bmB bm : List Value} {od : Option Addr} {rest : List Value} {Q : Value → Shared → Prop} (F : Fr g L s.heap m) (N : News g L s.heap ((e, excD C od t) :: news)) (hne : ∀ p ∈ news, p.1 ≠ e)
    (FB : ExcBaseFacts B newId initId bmB) (hB : bm.contains (.type B) = true)
    (hC : ∃ nm q N bs hdct sn sub ab col dd k0 k1 k2 k3 k5, g.get? C = some (excClassObj nm q C N bs bm hdct sn sub ab col dd k0 k1 k2 k3 k5 newId)) (hl : rest.length ≤ sizeLine)
    (k : ∀ t' h', Fr g L h' m → News g L h' ((e, excD C od t') :: news) → Q .none { s with heap := h' }) :
    wpAny (model prog w) A (call (.builtin initId) (.ref e :: rest)) Q E s := by
  obtain ⟨nm, q, ns, bs, hdct, sn, sub, ab, col, dd, k0, k1, k2, k3, k5, hC⟩ := hC
  obtain ⟨h, gs, d, tk, os⟩ := s
  have Ne := news_ne N
  refine init_callA FB hB (F.keep _ _ hC) Ne.1 hl ?_
  have N₁ := N.pushKeep { cls := .type "tuple", data := .seq rest.toArray }
  have F₁ := F.push { cls := .type "tuple", data := .seq rest.toArray }
  obtain ⟨F₂, N₂⟩ := news_upd (pre := []) (f := Obj.mapFields (·.setIfInBounds 0 (.ref h.objs.size))) (o' := excD C od h.objs.size) F₁ N₁ (fun _ hp => nomatch hp) hne rfl rfl
  exact k _ _ F₂ N₂
end
theorem dictN_of {h : Heap} {dx : Addr} {mA : Str → Option Value} {ns : List Str} {k : Nat} (x : h.Ns1 dx mA) (w : Within mA ns) (l : ns.length ≤ k) : ∃ od, h.get? dx = some od ∧ DictN od k := by
  obtain ⟨o, es, ep, e, r⟩ := x
  exact ⟨o, e, mA, ns, fun h' dx' e' => ⟨o, es, ep, e', r⟩, w, l⟩
def excCls (K : Frag) (C : Addr) : Bool := (clsIn K C).any fun cd => excOver cd.mro && cd.hasDict && cd.mro.contains (.type "object")
section
variable {prog : Program} {w : World} {A : Around} {R : Result → Shared → Prop} {s : Shared} {K : Frag} {C x : Addr}
theorem osa_exc {ox : Obj} {name : Str} {tk : Tok} {v : Value} (X : K.In s.heap) (hx : s.heap.get? x = some ox) (hcl : ox.cls = .ref C) (q : excCls K C = true) (hf : findIn K (.ref C) name = some none)
    (h : wpAny (model prog w) A.in1 (storeInOwnDict (.ref x) (.ref C) (.str name tk) name v false)
      (fun fin s' => match fin with | .done f => R (.ok f) s' | .again c' => c'.quiet = true ∧ codeAny (model prog w) A c' R s') (fun e s' => R (.error e) s') s) :
    codeAny (model prog w) A (.call (.builtin "object.__setattr__") ⟨[.ref x, .str name tk, v], []⟩) R s := by
  have SF := PySem.F.store_object
  obtain ⟨cd, hc, ho⟩ := any_some q
  simp only [Bool.and_eq_true] at ho
  obtain ⟨⟨ho, hd⟩, hob⟩ := ho
  have ne : cd.mro.isEmpty = false := by cases q : cd.mro with | nil => rw [q] at ho; cases ho | cons _ _ => rfl
  have ty : Looks (model prog w) s.heap (typeOf (.ref x)) (.ref C) := (Looks.ld hx).andThen (by rw [hcl]; exact .now)
  have sub : Looks (model prog w) s.heap (isInstance (.ref x) (.type "object")) true := ty.andThen (looks_mroIn X (by unfold mroIn; rw [hc, Option.bind_some, if_neg (by rw [ne]; decide), hob]))
  refine codeAny_call_builtin SF.slot.plain SF.entry (@check_slot (model prog w) _ _ s "object.__setattr__" "object" "__setattr__" (.ref x) [.str name tk, v] [] _ SF.kind SF.split sub (SF.args (.ref x) (.str name tk) v) ?_)
  have hm : Looks (model prog w) s.heap (mroOf (.ref C)) cd.mro := (looks_clsIn X hc).andThen .now
  have L3 : Looks (model prog w) s.heap (storeTaker? none) none := .now
  rw [osa_eq, refuse_eq]
  refine wpAny_bind (wpAny_bind (ty.here (wpAny_bind (hm.here ?_))))
  rw [refuse_exc _ ho]
  exact wpAny_pure (wpAny_bind (ty.here (wpAny_bind ((looks_findIn X hf).here (wpAny_bind (L3.here h))))))
end
section
variable {prog : Program} {w : World} {A : Around} {E : Value → Shared → Prop} {s : Shared} {K : Frag} {C L e t dx : Addr} {od : Obj} {m : Str → Option Value} {g : Heap} {news : List (Addr × Obj)} {name : Str} {v : Value} {k : Nat}
theorem set_exc {ox : Obj} {Q : Unit → Shared → Prop} (X : K.In s.heap) (hx : s.heap.get? e = some ox) (hcl : ox.cls = .ref C) (hs : findIn K (.ref C) "__setattr__" = some (some (.builtin "object.__setattr__")))
    (h : codeAny (model prog w) A (.call (.builtin "object.__setattr__") ⟨[.ref e, .str name s.toks, v], []⟩) (fun r s' => match r with | .ok (.ret _) => Q () s' | .ok _ => False | .error e => E e s') { s with toks := s.toks + 1 }) :
    wpAny (model prog w) A (setAttr (.ref e) name v) Q E s := by
  have ty : Looks (model prog w) s.heap (typeOf (.ref e)) (.ref C) := (Looks.ld hx).andThen (by rw [hcl]; exact .now)
  refine wpAny_bind (wpAny_mkText (wpAny_bind (wpAny_bind (wpAny_bind (ty _ _ _ _ (fun _ _ e => e) (looks_findIn X hs _ _ _ _ (fun _ _ e => e) (wpAny_holding ?_)))))))
  rw [PySem.F.store_object.slot.bind]
  refine wpAny_bind (wpAny_pure (wpAny_bind (wpAny_call (codeAny_mono h fun r s' z => ?_))))
  rcases r with e | (v | _ | _ | _) <;> first | exact z | exact wpAny_pure (wpAny_pure z)
theorem store_exc {A : Around} {dx : Addr} {tk : Tok} {Q : PySem.Fin → Shared → Prop} (F : Fr g L s.heap m) (N : News g L s.heap ((e, excD C (some dx) t) :: (dx, od) :: news)) (hd : DictN od k) (hde : dx ≠ e) (hdn : ∀ p ∈ news, p.1 ≠ dx) (hk : k + 1 ≤ 1000)
    (q : ∀ h' tk' od', Fr g L h' m → News g L h' ((e, excD C (some dx) t) :: (dx, od') :: news) → DictN od' (k + 1) → Q (.done (.ret .none)) { s with heap := h', toks := tk' }) :
    wpAny (model prog w) A (storeInDict dx (.str name tk) name v) Q E s := by
  obtain ⟨mA, ns, hns, hw, hl⟩ := hd
  obtain ⟨hh, gs, d, tks, os⟩ := s
  have Nd := N (dx, od) (.tail _ (.head _))
  unfold storeInDict newKeyGuard
  refine wpAny_bind (wpAny_pure (wpAny_bind (wpAny_nsSet1 (hns _ _ Nd.1) fun h' hn' hs => ?_)))
  obtain ⟨oD, esD, epD, hoD, hdD, hcD⟩ := hn'.count (Within.cons name v hw)
  refine wpAny_bind (wpAny_lookBehind hoD (by rw [hdD]; exact pastItsLine_dict (Nat.le_trans hcD (by rw [List.length_cons, sizeLine_eq]; omega))) ?_)
  wp_walk
  obtain ⟨od', e', hd'⟩ := dictN_of hn' (Within.cons name v hw) (k := k + 1) (by rw [List.length_cons]; omega)
  refine q h' _ od' ⟨?_, fun b o q => (hs.2 b fun z => ?_).trans (F.keep b o q), F.above⟩ (fun p hp => ?_) hd'
  · obtain ⟨oL, es, ep, hL, r⟩ := F.ns
    exact ⟨oL, es, ep, (hs.2 L (Ne.symm Nd.2.1)).trans hL, r⟩
  · have := Nd.2.2; rw [← z, q] at this; cases this
  · rcases List.mem_cons.mp hp with rfl | hp
    · exact ⟨(hs.2 e (Ne.symm hde)).trans (N _ (.head _)).1, (N _ (.head _)).2⟩
    · rcases List.mem_cons.mp hp with rfl | hp
      · exact ⟨e', Nd.2⟩
      · exact ⟨(hs.2 _ (hdn p hp)).trans (N p (.tail _ (.tail _ hp))).1, (N p (.tail _ (.tail _ hp))).2⟩
theorem set_exc1 {Q : Unit → Shared → Prop} (F : Fr g L s.heap m) (X₀ : K.In g) (N : News g L s.heap ((e, excD C (some dx) t) :: (dx, od) :: news)) (hd : DictN od k) (hde : dx ≠ e) (hdn : ∀ p ∈ news, p.1 ≠ dx) (hk : k + 1 ≤ 1000)
    (hs : findIn K (.ref C) "__setattr__" = some (some (.builtin "object.__setattr__"))) (q : excCls K C = true) (hf : findIn K (.ref C) name = some none)
    (h : ∀ h' tk' od', Fr g L h' m → News g L h' ((e, excD C (some dx) t) :: (dx, od') :: news) → DictN od' (k + 1) → Q () { s with heap := h', toks := tk' }) :
    wpAny (model prog w) A (setAttr (.ref e) name v) Q E s := by
  have X := X₀.keeps F.keep
  have Ne := (news_ne N).1
  refine set_exc X Ne rfl hs (osa_exc (s := { s with toks := s.toks + 1 }) X Ne rfl q hf ?_)
  obtain ⟨cd, hc, ho⟩ := any_some q
  simp only [Bool.and_eq_true] at ho
  obtain ⟨hh, gs, d, tks, os⟩ := s
  refine wpAny_bind (wpAny_pure (wpAny_bind (wpAny_bind (wpAny_loadPart_at Ne (wpAny_bind ((looks_clsIn X hc).at ?_))))))
  rw [ho.1.2]
  refine wpAny_pure (a := some dx) ?_
  exact store_exc (s := ⟨hh, gs, d, tks + 1, os⟩) F N hd hde hdn hk fun h' tk' od' F' N' d' => h h' tk' od' F' N' d'
theorem dictN_nil : DictN emptyDict 0 := ⟨fun _ => none, [], fun h dx e => Heap.Ns1.of_empty ⟨_, #[], _, e, rfl, fun e he => absurd he (by simp), fun _ => rfl⟩, Within.nil, Nat.le_refl _⟩
theorem set_exc0 {Q : Unit → Shared → Prop} (F : Fr g L s.heap m) (X₀ : K.In g) (N : News g L s.heap ((e, excD C none t) :: news)) (hne : ∀ p ∈ news, p.1 ≠ e)
    (hs : findIn K (.ref C) "__setattr__" = some (some (.builtin "object.__setattr__"))) (q : excCls K C = true) (hf : findIn K (.ref C) name = some none)
    (h : ∀ h' tk' dx od', Fr g L h' m → News g L h' ((e, excD C (some dx) t) :: (dx, od') :: news) → DictN od' 1 → dx ≠ e → (∀ p ∈ news, p.1 ≠ dx) → Q () { s with heap := h', toks := tk' }) :
    wpAny (model prog w) A (setAttr (.ref e) name v) Q E s := by
  have X := X₀.keeps F.keep
  have Ne := (news_ne N).1
  refine set_exc X Ne rfl hs (osa_exc (s := { s with toks := s.toks + 1 }) X Ne rfl q hf ?_)
  obtain ⟨cd, hc, ho⟩ := any_some q
  simp only [Bool.and_eq_true] at ho
  obtain ⟨hh, gs, d, tks, os⟩ := s
  refine wpAny_bind (wpAny_pure (wpAny_bind (wpAny_bind (wpAny_loadPart_at Ne (wpAny_bind ((looks_clsIn X hc).at ?_))))))
  rw [ho.1.2]
  show wpAny _ _ (alloc _ >>= _) _ _ _
  refine wpAny_bind (wpAny_alloc' ?_)
  have F₁ := F.push emptyDict
  have N₁ := N.push F emptyDict
  have hlt : ∀ p ∈ ((e, excD C none t) :: news), p.1 ≠ hh.objs.size := fun p hp => Nat.ne_of_lt (Heap.lt_size (N p hp).1)
  have N₁' : News g L (hh.push emptyDict) ((e, excD C none t) :: (hh.objs.size, emptyDict) :: news) := fun p hp => N₁ p (by
    rcases List.mem_cons.mp hp with rfl | hp
    · exact .tail _ (.head _)
    · rcases List.mem_cons.mp hp with rfl | hp
      · exact .head _
      · exact .tail _ (.tail _ hp))
  have hde : hh.objs.size ≠ e := (hlt _ (.head _)).symm
  obtain ⟨F₂, N₂⟩ := news_upd (pre := []) (f := fun o => { cls := o.cls, dict := some hh.objs.size, data := o.data, slots := o.slots }) (o' := excD C (some hh.objs.size) t) F₁ N₁' (fun _ hp => nomatch hp)
    (fun p hp => by
      rcases List.mem_cons.mp hp with rfl | hp
      · exact hde
      · exact hne p hp) rfl rfl
  refine wpAny_bind (wpAny_update' (N₁' _ (.head _)).1 ?_)
  refine wpAny_pure (a := some hh.objs.size) ?_
  exact store_exc (s := ⟨_, gs, d, tks + 1, os⟩) F₂ N₂ dictN_nil hde (fun p hp => hlt p (.tail _ hp)) (by omega) fun h' tk' od' F' N' d' => h h' tk' _ od' F' N' d' hde fun p hp => hlt p (.tail _ hp)
end
end
-- X6
abbrev bm51 : List Value := [.ref 31, .type "Exception", .type "BaseException", .type "object"]
theorem cls51 (p) : ∃ nm q N bs hdct sn sub ab col dd k0 k1 k2 k3 k5, (heapK p).lookup 51 = some (excClassObj nm q 51 N bs bm51 hdct sn sub ab col dd k0 k1 k2 k3 k5 "Exception.__new__") :=
  ⟨_, _, _, _, _, _, _, _, _, _, _, _, _, _, _, rfl⟩
theorem at51 {p} {h : Heap} (X : (heapK p).In h) : ∃ nm q N bs hdct sn sub ab col dd k0 k1 k2 k3 k5, h.get? 51 = some (excClassObj nm q 51 N bs bm51 hdct sn sub ab col dd k0 k1 k2 k3 k5 "Exception.__new__") := by
  obtain ⟨nm, q, N, bs, hdct, sn, sub, ab, col, dd, k0, k1, k2, k3, k5, e⟩ := cls51 p
  exact ⟨nm, q, N, bs, hdct, sn, sub, ab, col, dd, k0, k1, k2, k3, k5, X _ _ e⟩
theorem excCls51 (p) : excCls (heapK p) 51 = true := rfl
theorem kts51 (p) : ktsIn (heapK p) 51 "BaseException" = true := rfl
-- X7
section
variable {w : World} {A : Around} {E : Value → Shared → Prop} {s : Shared} {L : Addr} {m : Str → Option Value} {g : Heap} {news : List (Addr × Obj)}
theorem make51 {rest : List Value} {Q : Value → Shared → Prop} (F : Fr g L s.heap m) (X₀ : (heapK w.params).In g) (N : News g L s.heap news) (hf : findIn (heapK w.params) (.ref 51) "__init__" = some (some (.ref 48))) (hl : rest.length ≤ sizeLine)
    (k : ∀ e t h', Fr g L h' m → News g L h' ((e, excD 51 none t) :: news) → (∀ p ∈ news, p.1 ≠ e) →
      wpAny (model PySem.Challenge.rw_pb0011_01.row.prog w) (A.under (.builtin "type.__call__" ⟨.ref 51 :: rest, []⟩)) (call (.ref 48) (.ref e :: rest)) (fun r s' => r = .none ∧ Q (.ref e) s') E { s with heap := h' }) :
    wpAny (model PySem.Challenge.rw_pb0011_01.row.prog w) A (call (.ref 51) rest) Q E s := by
  have X := X₀.keeps F.keep
  obtain ⟨nm, q, ns, bs, hdct, sn, sub, ab, col, dd, k0, k1, k2, k3, k5, hC⟩ := at51 X
  obtain ⟨o48, h48, c48⟩ : ∃ o, s.heap.get? 48 = some o ∧ o.cls = .type "function" := by
    obtain ⟨o, e⟩ : ∃ o, (heapK w.params).lookup 48 = some o ∧ o.cls = .type "function" := ⟨_, rfl, rfl⟩
    exact ⟨o, X _ _ e.1, e.2⟩
  obtain ⟨h, gs, d, t, os⟩ := s
  refine call_initA PySem.F.excBase_Exception rfl rfl rfl hC (looks_findIn X hf) h48 c48 (fun h' e hm => ?_) hl
  obtain ⟨tt, he, htn, ht⟩ := hm.there
  refine k e tt h' (F.keeps hm.keeps) (fun p hp => ?_) fun p hp z => by
    have := (N p hp).1
    rw [z, hm.new] at this; cases this
  rcases List.mem_cons.mp hp with rfl | hp
  · refine ⟨he, fun z => ?_, ?_⟩
    · obtain ⟨oL, _, _, hL, _⟩ := F.ns
      have e1 := hm.new
      rw [show e = L from z, hL] at e1; cases e1
    · cases q : g.get? e with
      | none => rfl
      | some o => have := F.keep _ _ q; rw [hm.new] at this; cases this
  · exact ⟨hm.keeps _ _ (N p hp).1, (N p hp).2⟩
end
theorem raiseOk51 {p} {g : Heap} {L e t : Addr} {od : Option Addr} {m : Str → Option Value} {s : Shared} {E : Value → Shared → Prop} {news : List (Addr × Obj)} (F : Fr g L s.heap m) (X₀ : (heapK p).In g) (N : News g L s.heap ((e, excD 51 od t) :: news)) (hE : E (.ref e) s) :
    RaiseOk 51 E (.ref e) s := by
  obtain ⟨nm, q, ns, bs, hdct, sn, sub, ab, col, dd, k0, k1, k2, k3, k5, hC⟩ := at51 (X₀.keeps F.keep)
  exact ⟨e, od, t, nm, q, ns, bs, bm51, hdct, sn, sub, ab, col, dd, k0, k1, k2, k3, k5, _, rfl, rfl, hC, (news_ne N).1, hE⟩
theorem news_skip {g h : Heap} {L : Addr} {a b : Addr × Obj} {news : List (Addr × Obj)} (N : News g L h (a :: b :: news)) : News g L h (a :: news) := fun p hp => N p (by
  rcases List.mem_cons.mp hp with rfl | hp
  · exact .head _
  · exact .tail _ (.tail _ hp))
theorem w_tc (C : Addr) (vs : List Value) (kw : List (Str × Value)) : (Code.builtin "type.__call__" ⟨.ref C :: vs, kw⟩).weight = 1 := rfl
theorem u_tc (C : Addr) (vs : List Value) (kw : List (Str × Value)) : (Code.builtin "type.__call__" ⟨.ref C :: vs, kw⟩).cUnits = 1 := rfl
/-- a def that may raise AdaRaise -/
def SpecX (w : World) (f : Addr) (vs : List Value) (news : List (Addr × Obj)) (k : Nat) (Ok : Value → List (Addr × Obj) → Prop) (Bad : Prop) : Prop :=
  ∀ (mean : ExcName → Option Value) (mg mb : Str → Option Value) (dp un : Nat) (gd : Option (List Code)) (cn : Str) (cs : Scope) (a : Addr) (ccd : Value) (cl : List (Str × Addr)) (outer : List Env) (A₀ : Around) (base h₀ : Heap) (L : Addr) (m : Str → Option Value) (s : Shared) (Q E : Value → Shared → Prop),
    Below A₀ base outer h₀ → Fr h₀ L s.heap m → (heapK w.params).In h₀ → News h₀ L s.heap news → Top viewK (looseW viewK [Str.ofString "_law_pieces"]) mean mg mb h₀ → cs.kind = .function →
    dp + k < recursionLimit → un + 8 * k < cLine →
    (∀ v news' h' tk', Ok v news' → Fr h₀ L h' m → News h₀ L h' news' → Q v { s with heap := h', toks := tk' }) →
    (Bad → ∀ e g h' tk', Fr h₀ L g m → RaisedSN base g (envX cn cs L a ccd cl :: outer) e (.ref 51) news h' → g.UpToSlots h' → E (.ref e) { s with heap := h', toks := tk' }) →
    wpAny (model PySem.Challenge.rw_pb0011_01.row.prog w) (ktrTop dp un gd cn cs L a ccd cl outer) (call (.ref f) vs) Q E s
theorem use_specX {w : World} {f : Addr} {vs : List Value} {news : List (Addr × Obj)} {k : Nat} {Ok : Value → List (Addr × Obj) → Prop} {Bad : Prop} (S : SpecX w f vs news k Ok Bad)
    {mean : ExcName → Option Value} {mg mb : Str → Option Value} {dp un : Nat} {gd : Option (List Code)} {cn : Str} {cs : Scope} {a : Addr} {ccd : Value} {cl : List (Str × Addr)} {outer : List Env} {A₀ : Around} {base h₀ : Heap} {L : Addr} {m : Str → Option Value} {s : Shared} {Q E : Value → Shared → Prop}
    (B : Below A₀ base outer h₀) (F : Fr h₀ L s.heap m) (X : (heapK w.params).In h₀) (N : News h₀ L s.heap news) (T : Top viewK (looseW viewK [Str.ofString "_law_pieces"]) mean mg mb h₀) (hk : cs.kind = .function)
    (hd : dp + k < recursionLimit) (hu : un + 8 * k < cLine) (hret : ∀ v news' h' tk', Ok v news' → Fr h₀ L h' m → News h₀ L h' news' → Q v { s with heap := h', toks := tk' })
    (hexc : Bad → ∀ e g h' tk', Fr h₀ L g m → RaisedSN base g (envX cn cs L a ccd cl :: outer) e (.ref 51) news h' → g.UpToSlots h' → E (.ref e) { s with heap := h', toks := tk' }) :
    wpAny (model PySem.Challenge.rw_pb0011_01.row.prog w) (ktrTop dp un gd cn cs L a ccd cl outer) (call (.ref f) vs) Q E s :=
  S mean mg mb dp un gd cn cs a ccd cl outer A₀ base h₀ L m s Q E B F X N T hk hd hu hret hexc
-- P2
theorem bits_m1 : Builtin.Int.intBits (-1) ≤ 4000 := intBits_le (k := 4000) (by show 1 < 2 ^ 4000; exact Nat.one_lt_two_pow (by decide))
theorem fin_bits {x : Str} {at_ n b e : Int} (hn : Builtin.Int.intBits n ≤ 1601) (hb : ¬ b < 2) (hb' : ¬ 16 < b) (he : 0 ≤ e) : Builtin.Int.intBits (litFin x at_ n b e).1 ≤ 4000 := by
  have h0 := (expAt_rng (x := x) he).2.2
  unfold litFin
  split
  · exact bits_m1
  · have h1 : Builtin.Int.intBits b ≤ 5 := PyProof.Rows.intBits_le (by omega)
    have h2 := intBits_pow_le h1 (expAt x e).1.toNat
    exact Nat.le_trans (intBits_mul_le hn h2) (by omega)
theorem litAt_bits {x : Str} {at_ : Int} (hx : x.length ≤ 400) (h0 : 0 ≤ at_) : Builtin.Int.intBits (litAt x at_).1 ≤ 4000 := by
  have r1 := (figAt_rng (x := x) (at_ := at_) (b := 10) h0).1
  have r2 := (figAt_rng (x := x) (at_ := (figAt x at_ 10).2 + 1) (b := (figAt x at_ 10).1) (by omega)).1
  unfold litAt
  split
  · split
    · exact bits_m1
    · rename_i h
      split
      · exact bits_m1
      · exact fin_bits (figAt_bits hx (by omega) (by omega)) (fun q => h (.inl q)) (fun q => h (.inr q)) (by omega)
  · exact fin_bits (figAt_bits hx (by decide) (by decide)) (by decide) (by decide) (by omega)
theorem first_in {x y : Str} (h : (Txt.slice x none (some 1) == y) = true) (hy : y.length = 1) : (0 : Int) < x.length := by
  have h1 := beq_iff_eq.mp h
  have h2 := Txt.slice_le x none (some 1)
  rw [h1, hy] at h2
  omega
theorem item0_lo (x : Str) : -(x.length : Int) ≤ 0 := by omega
def sgnOf (x : Str) : Int × Int := if sg x 0 = some 45 then (-1, 1) else if sg x 0 = some 43 then (1, 1) else (1, 0)
def numIn (x : Str) : Bool × Int := (decide ((sgnOf x).2 < (litAt x (sgnOf x).2).2 ∧ (litAt x (sgnOf x).2).2 = x.length), (sgnOf x).1 * (litAt x (sgnOf x).2).1)
theorem first_is {x y : Str} {c : Nat} (hy : y = ⟨#[c]⟩) : (Txt.slice x none (some 1) == y) = (sg x 0 == some c) := by
  rw [slice_first_eq]
  exact slice_is (i := 0) (by decide) hy
theorem item0_is {x y : Str} {c : Nat} (hx : (0 : Int) < x.length) (hy : y = ⟨#[c]⟩) : (Txt.item x 0 == y) = (sg x 0 == some c) := by
  obtain ⟨d, h1, h2, _⟩ := item_ch (x := x) (i := 0) (by decide) hx
  have h3 : sg x 0 = some d := by
    unfold sg
    rw [← List.head?_drop, h2]; rfl
  rw [h1, hy, h3, Bool.eq_iff_iff]; simp
theorem sgn_m {x : Str} (h : (Txt.slice x none (some 1) == Str.ofString "-") = true) : sgnOf x = (-1, 1) := by
  rw [first_is (c := 45) (by decide +kernel)] at h
  unfold sgnOf; rw [if_pos (by simpa using h)]
theorem sgn_p {x : Str} (h : (Txt.slice x none (some 1) == Str.ofString "-") = false) (h' : (Txt.slice x none (some 1) == Str.ofString "+") = true) : sgnOf x = (1, 1) := by
  rw [first_is (c := 45) (by decide +kernel)] at h
  rw [first_is (c := 43) (by decide +kernel)] at h'
  unfold sgnOf; rw [if_neg (by simpa using h), if_pos (by simpa using h')]
theorem sgn_n {x : Str} (h : (Txt.slice x none (some 1) == Str.ofString "-") = false) (h' : (Txt.slice x none (some 1) == Str.ofString "+") = false) : sgnOf x = (1, 0) := by
  rw [first_is (c := 45) (by decide +kernel)] at h
  rw [first_is (c := 43) (by decide +kernel)] at h'
  unfold sgnOf; rw [if_neg (by simpa using h), if_neg (by simpa using h')]
theorem item_m {P : Prop} {x : Str} (h : (Txt.slice x none (some 1) == Str.ofString "-") = true) (h' : (Txt.item x 0 == Str.ofString "-") = false) : P := by
  have hx := first_in h (by decide +kernel)
  rw [first_is (c := 45) (by decide +kernel)] at h
  rw [item0_is hx (c := 45) (by decide +kernel), h] at h'
  cases h'
theorem item_p {P : Prop} {x : Str} (h : (Txt.slice x none (some 1) == Str.ofString "-") = false) (h₂ : (Txt.slice x none (some 1) == Str.ofString "+") = true) (h' : (Txt.item x 0 == Str.ofString "-") = true) : P := by
  have hx := first_in h₂ (by decide +kernel)
  rw [first_is (c := 45) (by decide +kernel)] at h
  rw [item0_is hx (c := 45) (by decide +kernel), h] at h'
  cases h'
theorem num_yes {x : Str} {sn at_ : Int} (e : sgnOf x = (sn, at_)) (h : at_ < (litAt x at_).2) : numIn x = ((litAt x at_).2 == (x.length : Int), sn * (litAt x at_).1) := by
  unfold numIn
  rw [e]
  refine Prod.ext ?_ rfl
  rw [Bool.eq_iff_iff]
  simp [h]
theorem num_no {x : Str} {sn at_ : Int} (e : sgnOf x = (sn, at_)) (h : ¬ at_ < (litAt x at_).2) : numIn x = (decide (at_ < (litAt x at_).2), sn * (litAt x at_).1) := by
  unfold numIn
  rw [e]
  refine Prod.ext ?_ rfl
  rw [Bool.eq_iff_iff]
  simp [h]
@[irreducible] def Bits4 (k : Int) : Prop := Builtin.Int.intBits k ≤ 4000
theorem Bits4.of {k : Int} (h : Builtin.Int.intBits k ≤ 4000) : Bits4 k := by unfold Bits4; exact h
theorem Bits4.out {k : Int} (h : Bits4 k) : Builtin.Int.intBits k ≤ 4000 := by unfold Bits4 at h; exact h
-- P3
def wSigns (b : Int) : Int → List Nat → Option Int
  | tot, [] => some tot
  | tot, c :: r => if 0 ≤ wl c ∧ wl c < b then wSigns b (tot * b + wl c) r else none
def wParts (b : Int) : Int → List (List Nat) → Option Int
  | tot, [] => some tot
  | tot, p :: r => if p = [] then none else (wSigns b tot p).bind fun t => wParts b t r
def cl (x : Str) : List Nat := x.cps.toList
@[irreducible] def worthF (x : Str) (b : Int) : Option Int := wParts b 0 ((Txt.split x (Str.ofString "_")).map cl)
theorem wSigns_snoc {b : Int} {c : Nat} : ∀ {pre : List Nat} {t a : Int}, wSigns b t pre = some a → wSigns b t (pre ++ [c]) = if 0 ≤ wl c ∧ wl c < b then some (a * b + wl c) else none
  | [], t, a, h => by
    rw [wSigns] at h
    cases h
    rw [List.nil_append, wSigns]
    split <;> rfl
  | d :: r, t, a, h => by
    rw [wSigns] at h
    rw [List.cons_append, wSigns]
    split at h
    · rename_i hd
      rw [if_pos hd]
      exact wSigns_snoc h
    · cases h
theorem wSigns_bad {b : Int} {c : Nat} {post : List Nat} (hc : ¬ (0 ≤ wl c ∧ wl c < b)) : ∀ {pre : List Nat} {t : Int}, wSigns b t (pre ++ c :: post) = none
  | [], t => by rw [List.nil_append, wSigns, if_neg hc]
  | d :: r, t => by
    rw [List.cons_append, wSigns]
    split
    · exact wSigns_bad hc
    · rfl
theorem wParts_snoc {b : Int} {p : List Nat} : ∀ {pre : List (List Nat)} {t a : Int}, wParts b t pre = some a → wParts b t (pre ++ [p]) = if p = [] then none else wSigns b a p
  | [], t, a, h => by
    rw [wParts] at h
    cases h
    rw [List.nil_append, wParts]
    split
    · rfl
    · cases wSigns b t p <;> rfl
  | d :: r, t, a, h => by
    rw [wParts] at h
    rw [List.cons_append, wParts]
    split at h
    · cases h
    · rename_i hd
      rw [if_neg hd]
      cases hq : wSigns b t d with
      | none => rw [hq] at h; cases h
      | some q => rw [hq] at h; exact wParts_snoc h
theorem wParts_bad {b : Int} {p : List Nat} {post : List (List Nat)} : ∀ {pre : List (List Nat)} {t a : Int}, wParts b t pre = some a → (p = [] ∨ wSigns b a p = none) → wParts b t (pre ++ p :: post) = none
  | [], t, a, h, hb => by
    rw [wParts] at h
    cases h
    rw [List.nil_append, wParts]
    rcases hb with hb | hb
    · rw [if_pos hb]
    · rw [hb]
      split <;> rfl
  | d :: r, t, a, h, hb => by
    rw [wParts] at h
    rw [List.cons_append, wParts]
    split at h
    · cases h
    · rename_i hd
      rw [if_neg hd]
      cases hq : wSigns b t d with
      | none => rfl
      | some q => rw [hq] at h; exact wParts_bad h hb
/-- the word of the outer loop -/
def WorthW (x : Str) (b : Int) (i : Nat) (a : Int) : Prop := wParts b 0 (((Txt.split x (Str.ofString "_")).map cl).take i) = some a
theorem worth_start (x : Str) (b : Int) : WorthW x b 0 0 := by unfold WorthW; rw [List.take_zero, wParts]
theorem worth_done {x : Str} {b a : Int} (h : WorthW x b (Txt.split x (Str.ofString "_")).length a) : worthF x b = some a := by
  unfold WorthW at h
  unfold worthF
  rwa [List.take_of_length_le (by simp)] at h
theorem take_at {α : Type} {l : List α} {i : Nat} {p : α} (h : l[i]? = some p) : l = l.take i ++ p :: l.drop (i + 1) := by
  obtain ⟨hi, e⟩ := List.getElem?_eq_some_iff.mp h
  have := (List.take_append_drop i l).symm
  rw [List.drop_eq_getElem_cons hi, e] at this
  exact this
theorem worth_step {x p : Str} {b a a' : Int} {i : Nat} (h : WorthW x b i a) (hp : (Txt.split x (Str.ofString "_"))[i]? = some p) (hne : (p == Str.ofString "") = false) (hs : wSigns b a (cl p) = some a') : WorthW x b (i + 1) a' := by
  unfold WorthW at *
  have hp' : ((Txt.split x (Str.ofString "_")).map cl)[i]? = some (cl p) := by rw [List.getElem?_map, hp]; rfl
  rw [List.take_add_one, hp']
  show wParts b 0 (_ ++ [cl p]) = _
  rw [wParts_snoc h, if_neg ?_, hs]
  intro q
  have : p = Str.ofString "" := by
    have e : p.cps = #[] := Array.toList_inj.mp q
    rw [show Str.ofString "" = ⟨#[]⟩ from by decide +kernel]
    cases p; cases e; rfl
  rw [this] at hne
  simp at hne
theorem worth_empty {x p : Str} {b a : Int} {i : Nat} (h : WorthW x b i a) (hp : (Txt.split x (Str.ofString "_"))[i]? = some p) (he : (p == Str.ofString "") = true) : worthF x b = none := by
  have hp' : ((Txt.split x (Str.ofString "_")).map cl)[i]? = some (cl p) := by rw [List.getElem?_map, hp]; rfl
  unfold worthF
  rw [take_at hp']
  refine wParts_bad h (.inl ?_)
  rw [beq_iff_eq.mp he]; decide +kernel
theorem worth_bad {x p : Str} {b a : Int} {i n : Nat} {pre post : List Nat} (h : WorthW x b i a) (hp : (Txt.split x (Str.ofString "_"))[i]? = some p) (e : cl p = pre ++ n :: post) (hbad : wl n < 0 ∨ b ≤ wl n) : worthF x b = none := by
  have hp' : ((Txt.split x (Str.ofString "_")).map cl)[i]? = some (cl p) := by rw [List.getElem?_map, hp]; rfl
  unfold worthF
  rw [take_at hp']
  refine wParts_bad h (.inr ?_)
  rw [e]
  exact wSigns_bad (by omega)
theorem join_mem {y : Str} : ∀ {l : List Str} {p : Str}, p ∈ l → ∀ c ∈ cl p, c ∈ cl (Str.join y l)
  | [a], p, h, c, hc => by
    rw [List.mem_singleton.mp h] at hc; exact hc
  | a :: b :: r, p, h, c, hc => by
    have e : cl (Str.join y (a :: b :: r)) = cl a ++ cl y ++ cl (Str.join y (b :: r)) := by
      unfold cl
      show (a ++ y ++ Str.join y (b :: r)).cps.toList = _
      simp [Str.cps_append]
    rw [e]
    rcases List.mem_cons.mp h with rfl | h
    · simp [hc]
    · have := join_mem (y := y) h c hc
      simp [this]
theorem split_ascii {x y p : Str} (hx : Ascii x) (h : p ∈ Txt.split x y) : Ascii p := by
  intro c hc
  have := join_mem (y := y) h c hc
  rw [PySem.StrLaws.join_split] at this
  exact hx c this
theorem find_sign {x y p : Str} {i : Nat} {n : Nat} {pre post : List Nat} (hx : Ascii x) (hp : (Txt.split x y)[i]? = some p) (e : cl p = pre ++ n :: post) : Txt.find (Str.ofString "0123456789abcdef") ⟨#[n]⟩ = wl n := by
  refine find_fig n (split_ascii hx (List.mem_of_getElem? hp) n ?_)
  show n ∈ cl p
  rw [e]; simp
theorem worth_bad2 {x p : Str} {b a : Int} {i n : Nat} {pre post : List Nat} (hx : Ascii x) (h : WorthW x b i a) (hp : (Txt.split x (Str.ofString "_"))[i]? = some p) (e : cl p = pre ++ n :: post)
    (hbad : Txt.find (Str.ofString "0123456789abcdef") ⟨#[n]⟩ < 0 ∨ b ≤ Txt.find (Str.ofString "0123456789abcdef") ⟨#[n]⟩) : worthF x b = none := by
  rw [find_sign hx hp e] at hbad
  exact worth_bad h hp e hbad
theorem sign_step {x p : Str} {b a a' : Int} {i n : Nat} {pre post : List Nat} (hx : Ascii x) (hp : (Txt.split x (Str.ofString "_"))[i]? = some p) (e : cl p = pre ++ n :: post) (h : wSigns b a pre = some a')
    (h1 : ¬ Txt.find (Str.ofString "0123456789abcdef") ⟨#[n]⟩ < 0) (h2 : ¬ b ≤ Txt.find (Str.ofString "0123456789abcdef") ⟨#[n]⟩) :
    wSigns b a (pre ++ [n]) = some (a' * b + Txt.find (Str.ofString "0123456789abcdef") ⟨#[n]⟩) := by
  rw [find_sign hx hp e] at h1 h2 ⊢
  rw [wSigns_snoc h, if_pos ⟨by omega, by omega⟩]
theorem wSigns_bd {b : Int} (hb0 : 2 ≤ b) (hb : b ≤ 16) : ∀ {l : List Nat} {t a : Int} {j : Nat}, 0 ≤ t → t < 16 ^ j → wSigns b t l = some a → 0 ≤ a ∧ a < 16 ^ (j + l.length)
  | [], t, a, j, h0, h1, h => by rw [wSigns] at h; cases h; exact ⟨h0, h1⟩
  | c :: r, t, a, j, h0, h1, h => by
    rw [wSigns] at h
    split at h
    · rename_i hc
      have e : (if 0 > t then 0 else t) = t := by rw [if_neg (by omega)]
      have s1 := step_lt (a := t) (b := b) (w := wl c) h1 (by omega) hb hc.2
      rw [e] at s1
      have s0 : 0 ≤ t * b + wl c := by have := Int.mul_nonneg h0 (show 0 ≤ b by omega); omega
      have := wSigns_bd hb0 hb s0 s1 h
      rw [List.length_cons, show j + (r.length + 1) = j + 1 + r.length by omega]
      exact this
    · cases h
theorem wParts_bd {b : Int} (hb0 : 2 ≤ b) (hb : b ≤ 16) : ∀ {l : List (List Nat)} {t a : Int} {j : Nat}, 0 ≤ t → t < 16 ^ j → wParts b t l = some a → 0 ≤ a ∧ a < 16 ^ (j + (l.map List.length).sum)
  | [], t, a, j, h0, h1, h => by rw [wParts] at h; cases h; exact ⟨h0, by simpa using h1⟩
  | p :: r, t, a, j, h0, h1, h => by
    rw [wParts] at h
    split at h
    · cases h
    · cases hq : wSigns b t p with
      | none => rw [hq] at h; cases h
      | some q =>
        rw [hq] at h
        have h2 := wSigns_bd hb0 hb h0 h1 hq
        have h3 := wParts_bd hb0 hb h2.1 h2.2 h
        rw [List.map_cons, List.sum_cons, ← Nat.add_assoc]
        exact h3
theorem join_sum {y : Str} : ∀ (l : List Str), (l.map fun p => (cl p).length).sum ≤ (cl (Str.join y l)).length
  | [] => Nat.zero_le _
  | [a] => by show (cl a).length + 0 ≤ (cl a).length; omega
  | a :: b :: r => by
    have e : cl (Str.join y (a :: b :: r)) = cl a ++ cl y ++ cl (Str.join y (b :: r)) := by
      unfold cl
      show (a ++ y ++ Str.join y (b :: r)).cps.toList = _
      simp [Str.cps_append]
    rw [e, List.map_cons, List.sum_cons, List.length_append, List.length_append]
    have := join_sum (y := y) (b :: r)
    omega
theorem worth_bits {x : Str} {b k : Int} (hx : x.length ≤ 400) (hb0 : 2 ≤ b) (hb : b ≤ 16) (h : worthF x b = some k) : 0 ≤ k ∧ Builtin.Int.intBits k ≤ 1601 := by
  unfold worthF at h
  have h1 := wParts_bd hb0 hb (j := 0) (Int.le_refl 0) (by decide) h
  have h2 := join_sum (y := Str.ofString "_") (Txt.split x (Str.ofString "_"))
  rw [PySem.StrLaws.join_split] at h2
  have h3 : (cl x).length = x.length := by simp [cl, Str.length]
  rw [List.map_map] at h1
  refine ⟨h1.1, bits16 (k := 400) (by omega) (Int.lt_of_lt_of_le h1.2 (pow16_le ?_))⟩
  have h4 : (List.map (List.length ∘ cl) (Txt.split x (Str.ofString "_"))).sum = (List.map (fun p => (cl p).length) (Txt.split x (Str.ofString "_"))).sum := rfl
  omega
-- P4
theorem good_sub {x y : Str} (h : Good x) (hl : y.length ≤ x.length) (hs : ∀ c ∈ y.cps.toList, c ∈ x.cps.toList) : Good y := ⟨Nat.le_trans hl h.1, fun c hc => h.2 c (hs c hc)⟩
theorem strSub_mem {x : Str} {i j : Nat} : ∀ c ∈ (Builtin.Str.strSub x i j).cps.toList, c ∈ x.cps.toList := by
  intro c hc
  rw [PySem.StrLaws.strSub_toList] at hc
  exact List.mem_of_mem_drop (List.mem_of_mem_take hc)
theorem good_strip {x : Str} (h : Good x) : Good (Txt.stripChars x (Str.ofString " ")) := by
  refine good_sub h (len_stripChars x _) ?_
  unfold Txt.stripChars Txt.stripBy
  split
  · exact fun _ h => h
  · exact strSub_mem
theorem good_slice {x : Str} (h : Good x) (l u : Option Int) : Good (Txt.slice x l u) := by
  refine good_sub h (Txt.slice_le x l u) ?_
  unfold Txt.slice
  split
  · exact fun _ h => h
  · intro c hc
    obtain ⟨i, _, hi⟩ := List.mem_filterMap.mp (by simpa using hc : c ∈ List.filterMap _ _)
    exact Array.mem_toList_iff.mpr (Array.mem_of_getElem? hi)
theorem part_mem (x y : Str) : (∀ c ∈ (Txt.partition x y).1.cps.toList, c ∈ x.cps.toList) ∧ (∀ c ∈ (Txt.partition x y).2.2.cps.toList, c ∈ x.cps.toList) ∧ (Txt.partition x y).1.length + (Txt.partition x y).2.1.length + (Txt.partition x y).2.2.length = x.length := by
  have e := PySem.StrLaws.partition_sum x y
  have e' : x.cps.toList = (Txt.partition x y).1.cps.toList ++ (Txt.partition x y).2.1.cps.toList ++ (Txt.partition x y).2.2.cps.toList := by
    conv => lhs; rw [← e]
    simp only [Str.cps_append, Array.toList_append]
  refine ⟨fun c hc => ?_, fun c hc => ?_, ?_⟩
  · rw [e']; simp [hc]
  · rw [e']; simp [hc]
  · have := congrArg Str.length e
    simpa only [Str.length_append] using this
theorem good_part1 {x : Str} (h : Good x) (y : Str) : Good (Txt.partition x y).1 := good_sub h (by have := (part_mem x y).2.2; omega) (part_mem x y).1
theorem good_part3 {x : Str} (h : Good x) (y : Str) : Good (Txt.partition x y).2.2 := good_sub h (by have := (part_mem x y).2.2; omega) (part_mem x y).2.1
theorem lower_one : ∀ c, c < 128 → Unicode.lowerOf c = [lowc c] := by decide +kernel
theorem flat_one {g : Nat → Nat → Array Nat} {f : Nat → Nat} : ∀ (l : List Nat) (k : Nat), (∀ i c, l[i]? = some c → g (k + i) c = #[f c]) → ((l.mapIdx fun i c => g (k + i) c).map Array.toList).flatten = l.map f
  | [], _, _ => rfl
  | c :: r, k, h => by
    have h0 := h 0 c rfl
    have hr := flat_one (g := g) (f := f) r (k + 1) (fun i d hd => by rw [Nat.add_right_comm, Nat.add_assoc]; exact h (i + 1) d hd)
    rw [List.mapIdx_cons, List.map_cons, List.flatten_cons, h0, List.map_cons]
    have e : (fun i => g (k + (i + 1))) = fun i => g (k + 1 + i) := by funext i; rw [Nat.add_right_comm, Nat.add_assoc]
    show [f c] ++ _ = _
    rw [e, hr]; rfl
theorem lower_low {x : Str} (h : Ascii x) : Txt.lower x = lowS x := by
  unfold Txt.lower lowS
  congr 1
  apply Array.toList_inj.mp
  unfold placed
  rw [Array.toList_flatten, Array.toList_mapIdx]
  have := flat_one (g := fun i _ => (Unicode.lowerAt x.cps i).toArray) (f := lowc) x.cps.toList 0 (fun i c hc => by
    have hc' : x.cps[i]? = some c := by simpa using hc
    have hm : c < 128 := h c (List.mem_of_getElem? hc)
    rw [Nat.zero_add]
    unfold Unicode.lowerAt
    rw [hc']
    have hne : (c == 0x3A3) = false := by simp; omega
    simp only [hne, Bool.false_and, Bool.false_eq_true, if_false]
    rw [lower_one c hm])
  simp only [Nat.zero_add] at this
  rw [this]
theorem good_low {x : Str} (h : Good x) : Good (lowS x) := by
  refine ⟨?_, ?_⟩
  · have : (lowS x).length = x.length := by simp [lowS, Str.length]
    rw [this]; exact h.1
  · intro c hc
    have : c ∈ x.cps.toList.map lowc := by simpa [lowS] using hc
    obtain ⟨d, hd, rfl⟩ := List.mem_map.mp this
    exact lowc_lt (h.2 d hd)
theorem good_lower {x : Str} (h : Good x) : Good (Txt.lower x) := by rw [lower_low h.2]; exact good_low h
def inner (x : Str) : Str := lowS (Txt.stripChars x (Str.ofString " "))
@[irreducible] def signedF (x : Str) : Int × Str := ((sgnOf (inner x)).1, if (sgnOf (inner x)).2 = 1 then Txt.slice (inner x) (some 1) none else inner x)
theorem signed_of {x y z : Str} {s : Int} (e1 : y = Txt.stripChars x (Str.ofString " ")) (e2 : z = lowS y) (e : sgnOf z = (s, 1)) : signedF x = (s, Txt.slice z (some 1) none) := by
  subst e1; subst e2
  unfold signedF
  show ((sgnOf (inner x)).1, _) = _
  have : sgnOf (inner x) = (s, 1) := e
  rw [this]; rfl
theorem signed_of0 {x y z : Str} {s : Int} (e1 : y = Txt.stripChars x (Str.ofString " ")) (e2 : z = lowS y) (e : sgnOf z = (s, 0)) : signedF x = (s, z) := by
  subst e1; subst e2
  unfold signedF
  have : sgnOf (inner x) = (s, 0) := e
  rw [this]; rfl
theorem good_signed {x : Str} (h : Good x) : Good (signedF x).2 := by
  have hi : Good (inner x) := good_low (good_strip h)
  unfold signedF
  show Good (if _ then _ else _)
  split
  · exact good_slice hi _ _
  · exact hi
-- P5
def isS (x : Str) (s : String) : Bool := x == Str.ofString s
def litExp (k b : Int) : Option Int → Option Int
  | none => none
  | some p => if 400 < p then none else some (k * b ^ p.toNat)
def litTail (w : Option Int) (mark behind : Str) (b : Int) : Option Int :=
  match w with
  | none => none
  | some k => if (mark == Str.ofString "") = true then some k else
    litExp k b (worthF (if (Txt.slice behind none (some 1) == Str.ofString "+") = true then Txt.slice behind (some 1) none else behind) 10)
@[irreducible] def literalF (x : Str) : Option Int :=
  if (Builtin.Str.occurrences x (Str.ofString "#") 0 x.length 1).isEmpty = true then
    litTail (worthF (Txt.partition x (Str.ofString "e")).1 10) (Txt.partition x (Str.ofString "e")).2.1 (Txt.partition x (Str.ofString "e")).2.2 10
  else
    match worthF (Txt.partition x (Str.ofString "#")).1 10 with
    | none => none
    | some b =>
      if b < 2 ∨ 16 < b ∨ ((Txt.partition (Txt.partition x (Str.ofString "#")).2.2 (Str.ofString "#")).2.1 == Str.ofString "") = true ∨
          (((Txt.partition (Txt.partition x (Str.ofString "#")).2.2 (Str.ofString "#")).2.2 != Str.ofString "") = true ∧ (Txt.item (Txt.partition (Txt.partition x (Str.ofString "#")).2.2 (Str.ofString "#")).2.2 0 != Str.ofString "e") = true) then none
      else litTail (worthF (Txt.partition (Txt.partition x (Str.ofString "#")).2.2 (Str.ofString "#")).1 b) (Txt.slice (Txt.partition (Txt.partition x (Str.ofString "#")).2.2 (Str.ofString "#")).2.2 none (some 1)) (Txt.slice (Txt.partition (Txt.partition x (Str.ofString "#")).2.2 (Str.ofString "#")).2.2 (some 1) none) b
section
variable {w : Option Int} {mark behind : Str} {b k p : Int}
theorem tail_none (h : w = none) : litTail w mark behind b = none := by rw [h]; rfl
theorem tail_plain (h : w = some k) (hm : (mark == Str.ofString "") = true) : litTail w mark behind b = some k := by
  rw [h]; unfold litTail; simp only [hm, if_true]
theorem tail_p {r : Option Int} (h : w = some k) (hm : (mark == Str.ofString "") = false) (hs : (Txt.slice behind none (some 1) == Str.ofString "+") = true) (hp : worthF (Txt.slice behind (some 1) none) 10 = r) :
    litTail w mark behind b = litExp k b r := by
  subst hp; rw [h]; unfold litTail; simp only [hm, hs, if_true, Bool.false_eq_true, if_false]
theorem tail_n {r : Option Int} (h : w = some k) (hm : (mark == Str.ofString "") = false) (hs : (Txt.slice behind none (some 1) == Str.ofString "+") = false) (hp : worthF behind 10 = r) :
    litTail w mark behind b = litExp k b r := by
  subst hp; rw [h]; unfold litTail; simp only [hm, hs, Bool.false_eq_true, if_false]
theorem tail_p0 (h : w = some k) (hm : (mark == Str.ofString "") = false) (hs : (Txt.slice behind none (some 1) == Str.ofString "+") = true) (hp : worthF (Txt.slice behind (some 1) none) 10 = none) : litTail w mark behind b = none := tail_p h hm hs hp
theorem tail_p1 (h : w = some k) (hm : (mark == Str.ofString "") = false) (hs : (Txt.slice behind none (some 1) == Str.ofString "+") = true) (hp : worthF (Txt.slice behind (some 1) none) 10 = some p) (h4 : 400 < p) : litTail w mark behind b = none := by
  rw [tail_p h hm hs hp]; simp only [litExp, if_pos h4]
theorem tail_p2 (h : w = some k) (hm : (mark == Str.ofString "") = false) (hs : (Txt.slice behind none (some 1) == Str.ofString "+") = true) (hp : worthF (Txt.slice behind (some 1) none) 10 = some p) (h4 : ¬ 400 < p) : litTail w mark behind b = some (k * b ^ p.toNat) := by
  rw [tail_p h hm hs hp]; simp only [litExp, if_neg h4]
theorem tail_n0 (h : w = some k) (hm : (mark == Str.ofString "") = false) (hs : (Txt.slice behind none (some 1) == Str.ofString "+") = false) (hp : worthF behind 10 = none) : litTail w mark behind b = none := tail_n h hm hs hp
theorem tail_n1 (h : w = some k) (hm : (mark == Str.ofString "") = false) (hs : (Txt.slice behind none (some 1) == Str.ofString "+") = false) (hp : worthF behind 10 = some p) (h4 : 400 < p) : litTail w mark behind b = none := by
  rw [tail_n h hm hs hp]; simp only [litExp, if_pos h4]
theorem tail_n2 (h : w = some k) (hm : (mark == Str.ofString "") = false) (hs : (Txt.slice behind none (some 1) == Str.ofString "+") = false) (hp : worthF behind 10 = some p) (h4 : ¬ 400 < p) : litTail w mark behind b = some (k * b ^ p.toNat) := by
  rw [tail_n h hm hs hp]; simp only [litExp, if_neg h4]
end
section
variable {x a c m hd rs bd m2 bh : Str} {bs : Int} {r : Option Int}
theorem litF_plain (ho : (Builtin.Str.occurrences x (Str.ofString "#") 0 x.length 1).isEmpty = true) (e : (a, m, c) = Txt.partition x (Str.ofString "e")) (t : litTail (worthF a 10) m c 10 = r) : literalF x = r := by
  unfold literalF
  rw [if_pos ho, ← e]; exact t
theorem litF_head (ho : (Builtin.Str.occurrences x (Str.ofString "#") 0 x.length 1).isEmpty = false) (e : (hd, m, rs) = Txt.partition x (Str.ofString "#")) (h : worthF hd 10 = none) : literalF x = none := by
  unfold literalF
  rw [if_neg (by rw [ho]; decide), ← e]
  simp only [h]
theorem litF_bad (ho : (Builtin.Str.occurrences x (Str.ofString "#") 0 x.length 1).isEmpty = false) (e : (hd, m, rs) = Txt.partition x (Str.ofString "#")) (e2 : (bd, m2, bh) = Txt.partition rs (Str.ofString "#")) (h : worthF hd 10 = some bs)
    (hb : bs < 2 ∨ 16 < bs ∨ (m2 == Str.ofString "") = true ∨ ((bh != Str.ofString "") = true ∧ (Txt.item bh 0 != Str.ofString "e") = true)) : literalF x = none := by
  unfold literalF
  rw [if_neg (by rw [ho]; decide), ← e]
  simp only [h]
  rw [← e2, if_pos hb]
theorem litF_ok (ho : (Builtin.Str.occurrences x (Str.ofString "#") 0 x.length 1).isEmpty = false) (e : (hd, m, rs) = Txt.partition x (Str.ofString "#")) (e2 : (bd, m2, bh) = Txt.partition rs (Str.ofString "#")) (h : worthF hd 10 = some bs)
    (h2 : ¬ bs < 2) (h16 : ¬ 16 < bs) (hm : (m2 == Str.ofString "") = false) (hb : (bh != Str.ofString "") = false ∨ (Txt.item bh 0 != Str.ofString "e") = false)
    (t : litTail (worthF bd bs) (Txt.slice bh none (some 1)) (Txt.slice bh (some 1) none) bs = r) : literalF x = r := by
  unfold literalF
  rw [if_neg (by rw [ho]; decide), ← e]
  simp only [h]
  rw [← e2, if_neg]
  · exact t
  · rintro (q | q | q | ⟨q, q'⟩)
    · exact h2 q
    · exact h16 q
    · rw [hm] at q; cases q
    · rcases hb with hb | hb
      · rw [hb] at q; cases q
      · rw [hb] at q'; cases q'
end
-- P6
theorem join_shrink {y z : Str} (h : z.length ≤ y.length) : ∀ l : List Str, (Str.join z l).length ≤ (Str.join y l).length
  | [] => Nat.le_refl _
  | [a] => Nat.le_refl _
  | a :: b :: r => by
    show (a ++ z ++ Str.join z (b :: r)).length ≤ (a ++ y ++ Str.join y (b :: r)).length
    have := join_shrink h (b :: r)
    simp only [Str.length_append]
    omega
theorem join_chars {z : Str} : ∀ (l : List Str), ∀ c ∈ cl (Str.join z l), c ∈ cl z ∨ ∃ p ∈ l, c ∈ cl p
  | [], c, hc => by simp [cl, Str.join, Str.empty] at hc
  | [a], c, hc => .inr ⟨a, by simp, hc⟩
  | a :: b :: r, c, hc => by
    have e : cl (Str.join z (a :: b :: r)) = cl a ++ cl z ++ cl (Str.join z (b :: r)) := by
      unfold cl
      show (a ++ z ++ Str.join z (b :: r)).cps.toList = _
      simp [Str.cps_append]
    rw [e] at hc
    rcases List.mem_append.mp hc with hc | hc
    · rcases List.mem_append.mp hc with hc | hc
      · exact .inr ⟨a, by simp, hc⟩
      · exact .inl hc
    · rcases join_chars (b :: r) c hc with q | ⟨p, hp, q⟩
      · exact .inl q
      · exact .inr ⟨p, List.mem_cons_of_mem _ hp, q⟩
theorem good_replace {x z : Str} {c : Nat} (h : Good x) (hz : z.length ≤ 1) (hza : Ascii z) : Good (Txt.replace x ⟨#[c]⟩ z) := by
  rw [PySem.StrLaws.replace_one]
  refine ⟨?_, ?_⟩
  · have h1 := join_shrink (y := ⟨#[c]⟩) (z := z) (by show z.length ≤ 1; exact hz) (Txt.split x ⟨#[c]⟩)
    rw [PySem.StrLaws.join_split] at h1
    have := h.1
    omega
  · intro d hd
    rcases join_chars _ d hd with q | ⟨p, hp, q⟩
    · exact hza d q
    · exact split_ascii h.2 hp d q
theorem under_str : Str.ofString "_" = ⟨#[95]⟩ := by decide +kernel
theorem hash_str : Str.ofString "#" = ⟨#[35]⟩ := by decide +kernel
theorem good_strike {x : Str} (h : Good x) : Good (Txt.replace x (Str.ofString "_") (Str.ofString "")) := by
  rw [under_str]
  exact good_replace h (by decide +kernel) (by unfold Ascii; decide +kernel)
theorem good_dots {x : Str} (h : Good x) : Good (Txt.replace x (Str.ofString "#") (Str.ofString ".")) := by
  rw [hash_str]
  exact good_replace h (by decide +kernel) (by unfold Ascii; decide +kernel)
-- P7
theorem sgn_cases (x : Str) : (sgnOf x).1 = -1 ∨ (sgnOf x).1 = 1 := by
  unfold sgnOf
  split
  · exact .inl rfl
  · split <;> exact .inr rfl
theorem sgn_mul_ok (x : Str) (b : Int) : IntMulOk (signedF x).1 b := by
  refine IntMulOk.of_left (intBits_le_64 ?_ ?_) <;> (unfold signedF; rcases sgn_cases (inner x) with h | h <;> simp only [h] <;> decide)
def fixTail (s : Int) (w p : Option Int) (n : Nat) : Option (Int × Int) :=
  match w, p with
  | some w, some p => some (s * (w * 10 ^ n + p), 10 ^ n)
  | _, _ => none
@[irreducible] def fixedF (x : Str) : Option (Int × Int) :=
  if ((Txt.partition (signedF x).2 (Str.ofString ".")).2.1 == Str.ofString "") = true then none
  else fixTail (signedF x).1 (worthF (Txt.partition (signedF x).2 (Str.ofString ".")).1 10) (worthF (Txt.partition (signedF x).2 (Str.ofString ".")).2.2 10) (Txt.replace (Txt.partition (signedF x).2 (Str.ofString ".")).2.2 (Str.ofString "_") (Str.ofString "")).length
section
variable {x a b c : Str} {w p : Int} {n : Nat}
theorem fix_nomark (e : (a, b, c) = Txt.partition (signedF x).2 (Str.ofString ".")) (h : (b == Str.ofString "") = true) : fixedF x = none := by
  unfold fixedF; rw [← e, if_pos h]
theorem fix_now (e : (a, b, c) = Txt.partition (signedF x).2 (Str.ofString ".")) (h : worthF a 10 = none) : fixedF x = none := by
  unfold fixedF; rw [← e]; dsimp only; rw [h]; split <;> rfl
theorem fix_nop (e : (a, b, c) = Txt.partition (signedF x).2 (Str.ofString ".")) (h : worthF c 10 = none) : fixedF x = none := by
  unfold fixedF; rw [← e]; dsimp only; rw [h]; split
  · rfl
  · cases worthF a 10 <;> rfl
theorem fix_yes (e : (a, b, c) = Txt.partition (signedF x).2 (Str.ofString ".")) (hb : (b == Str.ofString "") = false) (h : worthF a 10 = some w) (h' : worthF c 10 = some p) (hn : n = (Txt.replace c (Str.ofString "_") (Str.ofString "")).length) :
    fixedF x = some ((signedF x).1 * (w * 10 ^ ((n : Int)).toNat + p), 10 ^ ((n : Int)).toNat) := by
  unfold fixedF; rw [← e]; dsimp only; rw [h, h', if_neg (by rw [hb]; decide), ← hn]; rfl
end
-- P8
/-- the figures behind the point: how many signs that are no low line -/
def dgs (x : Str) (i : Int) : Nat := ((x.cps.toList.drop i.toNat).filter (· != 95)).length
def sgAt (x : Str) : Int := if sg x 0 = some 45 ∨ sg x 0 = some 43 then 1 else 0
def realFin (x : Str) (at_ : Int) : Bool × Int × Int :=
  if (figAt x at_ 10).1 < 0 ∨ (figAt x ((figAt x at_ 10).2 + 1) 10).1 < 0 ∨ (Txt.slice x (some (figAt x at_ 10).2) (some ((figAt x at_ 10).2 + 1)) != Str.ofString ".") = true ∨ (figAt x ((figAt x at_ 10).2 + 1) 10).2 < x.length then (false, 0, 1)
  else (true, (if (Txt.item x 0 == Str.ofString "-") = true then -((figAt x at_ 10).1 * 10 ^ dgs x ((figAt x at_ 10).2 + 1) + (figAt x ((figAt x at_ 10).2 + 1) 10).1)
      else (figAt x at_ 10).1 * 10 ^ dgs x ((figAt x at_ 10).2 + 1) + (figAt x ((figAt x at_ 10).2 + 1) 10).1), 10 ^ dgs x ((figAt x at_ 10).2 + 1))
@[irreducible] def realIn (x : Str) : Bool × Int × Int := realFin x (sgnOf x).2
theorem signs_filter (y : Str) : (List.filter (fun a => a != Str.ofString "_") (signs y)).length = (y.cps.toList.filter (· != 95)).length := by
  unfold signs
  rw [List.filter_map, List.length_map]
  congr 1
  apply List.filter_congr
  intro c _
  show (({ cps := #[c] } : Str) != Str.ofString "_") = (c != 95)
  rw [bne, under_eq]; rfl
theorem dgs_eq {x : Str} {i : Int} (h0 : 0 ≤ i) : (List.filter (fun a => a != Str.ofString "_") (signs (Txt.slice x (some i) none))).length = dgs x i := by
  rw [signs_filter]
  unfold dgs
  by_cases h : i ≤ x.length
  · rw [slice_from_eq h0 h rfl]
    have e : x.length = x.cps.toList.length := by simp [Str.length]
    show ((((x.cps.toList.drop i.toNat).take (x.length - i).toNat).toArray.toList).filter _).length = _
    rw [List.take_of_length_le (by rw [List.length_drop]; omega)]
  · rw [slice_beyond (by omega), List.drop_eq_nil_of_le (by have e : x.length = x.cps.toList.length := by simp [Str.length]
                                                            omega)]
    rfl
section
variable {x : Str} {sn at_ : Int} {n : Nat}
theorem real_bad (e : sgnOf x = (sn, at_)) (h : (figAt x at_ 10).1 < 0 ∨ (figAt x ((figAt x at_ 10).2 + 1) 10).1 < 0 ∨ (Txt.slice x (some (figAt x at_ 10).2) (some ((figAt x at_ 10).2 + 1)) != Str.ofString ".") = true ∨ (figAt x ((figAt x at_ 10).2 + 1) 10).2 < x.length) : realIn x = (false, 0, 1) := by
  unfold realIn realFin; rw [e]; exact if_pos h
theorem real_ok (e : sgnOf x = (sn, at_)) (h1 : ¬ (figAt x at_ 10).1 < 0) (h2 : ¬ (figAt x ((figAt x at_ 10).2 + 1) 10).1 < 0) (h3 : (Txt.slice x (some (figAt x at_ 10).2) (some ((figAt x at_ 10).2 + 1)) != Str.ofString ".") = false) (h4 : ¬ (figAt x ((figAt x at_ 10).2 + 1) 10).2 < x.length)
    (h0 : at_ ≤ (figAt x at_ 10).2) (hn : n = (List.filter (fun a => a != Str.ofString "_") (signs (Txt.slice x (some ((figAt x at_ 10).2 + 1)) none))).length) :
    realIn x = (true, (if (Txt.item x 0 == Str.ofString "-") = true then -((figAt x at_ 10).1 * 10 ^ ((n : Int)).toNat + (figAt x ((figAt x at_ 10).2 + 1) 10).1) else (figAt x at_ 10).1 * 10 ^ ((n : Int)).toNat + (figAt x ((figAt x at_ 10).2 + 1) 10).1), 10 ^ ((n : Int)).toNat) := by
  have ha : 0 ≤ at_ := by
    have : at_ = (sgnOf x).2 := by rw [e]
    rw [this]; unfold sgnOf; split
    · decide
    · split <;> decide
  unfold realIn realFin; rw [e]
  rw [dgs_eq (by omega)] at hn
  show (if _ then _ else _) = _
  rw [if_neg, ← hn]
  · rfl
  · rintro (q | q | q | q)
    · exact h1 q
    · exact h2 q
    · rw [h3] at q; cases q
    · exact h4 q
theorem real_m (e : sgnOf x = (sn, at_)) (h1 : ¬ (figAt x at_ 10).1 < 0) (h2 : ¬ (figAt x ((figAt x at_ 10).2 + 1) 10).1 < 0) (h3 : (Txt.slice x (some (figAt x at_ 10).2) (some ((figAt x at_ 10).2 + 1)) != Str.ofString ".") = false) (h4 : ¬ (figAt x ((figAt x at_ 10).2 + 1) 10).2 < x.length)
    (h0 : at_ ≤ (figAt x at_ 10).2) (hn : n = (List.filter (fun a => a != Str.ofString "_") (signs (Txt.slice x (some ((figAt x at_ 10).2 + 1)) none))).length) (hi : (Txt.item x 0 == Str.ofString "-") = true) :
    realIn x = (true, -((figAt x at_ 10).1 * 10 ^ ((n : Int)).toNat + (figAt x ((figAt x at_ 10).2 + 1) 10).1), 10 ^ ((n : Int)).toNat) := by
  rw [real_ok e h1 h2 h3 h4 h0 hn, if_pos hi]
theorem real_p (e : sgnOf x = (sn, at_)) (h1 : ¬ (figAt x at_ 10).1 < 0) (h2 : ¬ (figAt x ((figAt x at_ 10).2 + 1) 10).1 < 0) (h3 : (Txt.slice x (some (figAt x at_ 10).2) (some ((figAt x at_ 10).2 + 1)) != Str.ofString ".") = false) (h4 : ¬ (figAt x ((figAt x at_ 10).2 + 1) 10).2 < x.length)
    (h0 : at_ ≤ (figAt x at_ 10).2) (hn : n = (List.filter (fun a => a != Str.ofString "_") (signs (Txt.slice x (some ((figAt x at_ 10).2 + 1)) none))).length) (hi : (Txt.item x 0 == Str.ofString "-") = false) :
    realIn x = (true, (figAt x at_ 10).1 * 10 ^ ((n : Int)).toNat + (figAt x ((figAt x at_ 10).2 + 1) 10).1, 10 ^ ((n : Int)).toNat) := by
  rw [real_ok e h1 h2 h3 h4 h0 hn, if_neg (by rw [hi]; decide)]
theorem dot_in {i : Int} (h0 : 0 ≤ i) (h : (Txt.slice x (some i) (some (i + 1)) != Str.ofString ".") = false) : (0 : Int) < x.length := by
  rw [bne, slice_is h0 (c := 46) (by decide +kernel)] at h
  have h' : sg x i = some 46 := by simpa using h
  unfold sg at h'
  obtain ⟨hn, _⟩ := List.getElem?_eq_some_iff.mp h'
  have e : x.length = x.cps.toList.length := by simp [Str.length]
  omega
end
-- P9
theorem dgs_le {x : Str} (hx : x.length ≤ 400) (i : Int) : dgs x i ≤ 400 := by
  unfold dgs
  have e : x.length = x.cps.toList.length := by simp [Str.length]
  refine Nat.le_trans (List.length_filter_le _ _) ?_
  rw [List.length_drop]; omega
theorem realIn_den {x : Str} (hx : x.length ≤ 400) : 0 < (realIn x).2.2 ∧ Builtin.Int.intBits (realIn x).2.2 ≤ 1601 := by
  unfold realIn realFin
  split
  · exact ⟨by decide, intBits_le (k := 1601) (by show 1 < 2 ^ 1601; exact Nat.one_lt_two_pow (by decide))⟩
  · refine ⟨Int.pow_pos (by decide), ?_⟩
    have h1 : Builtin.Int.intBits (10 : Int) ≤ 4 := PyProof.Rows.intBits_le (by decide)
    have h2 := intBits_pow_le h1 (dgs x ((figAt x (sgnOf x).2 10).2 + 1))
    have := dgs_le hx ((figAt x (sgnOf x).2 10).2 + 1)
    exact Nat.le_trans h2 (by omega)
theorem den_pos {x : Str} {a : Int} (hx : x.length ≤ 400) (h0 : 0 < a) : 0 < (realIn x).2.2 * a := Int.mul_pos (realIn_den hx).1 h0
theorem den_bits {x : Str} {a : Int} (hx : x.length ≤ 400) (h0 : 0 < a) (h1 : a ≤ 10) : Bits4 ((realIn x).2.2 * a) :=
  .of (Nat.le_trans (intBits_mul_le (realIn_den hx).2 (PyProof.Rows.intBits_le (k := 4) (by omega))) (by decide))
theorem small_mul {a b : Int} (h0 : 0 < b) (h1 : b ≤ 10) : IntMulOk a b := IntMulOk.of_right (intBits_le_64 (by omega) (by omega))
-- B7
theorem sub_two {α : Type} {a b : α} {l big : List α} (ha : a ∈ big) (hb : b ∈ big) (hl : ∀ p ∈ l, p ∈ big) : ∀ p ∈ a :: b :: l, p ∈ big := fun p hp => by
  rcases List.mem_cons.mp hp with rfl | hp
  · exact ha
  · rcases List.mem_cons.mp hp with rfl | hp
    · exact hb
    · exact hl p hp
theorem sub_all {α : Type} (l : List α) : ∀ p ∈ l, p ∈ l := fun _ h => h
theorem news_sub {h₀ h : Heap} {L : Addr} {l big : List (Addr × Obj)} (N : News h₀ L h big) (hs : ∀ p ∈ l, p ∈ big) : News h₀ L h l := fun p hp => N p (hs p hp)
theorem raised_sub {base G h : Heap} {l : List Env} {e : Addr} {cls : Value} {n n' : List (Addr × Obj)} (R : RaisedSN base G l e cls n h) (hs : ∀ p ∈ n', p ∈ n) : RaisedSN base G l e cls n' h := by
  obtain ⟨B, a0, hB, hG, hl, hf⟩ := R
  exact ⟨B, a0, hB, hG, fun q hq => hl q (hs q hq), hf⟩
/-- an int, or AdaRaise -/
def RetOk (r : Option Int) (news : List (Addr × Obj)) (v : Value) (n : List (Addr × Obj)) : Prop := news = n ∧ ∃ k t, r = some k ∧ v = .int k t
theorem retOk {Q : Value → Shared → Prop} {h₀ h' : Heap} {L : Addr} {m : Str → Option Value} {s : Shared} {news big : List (Addr × Obj)} {r : Option Int} {tk' : Nat}
    (hret : ∀ v news' h' tk', RetOk r news v news' → Fr h₀ L h' m → News h₀ L h' news' → Q v { s with heap := h', toks := tk' }) {k : Int} {t : Tok}
    (N : News h₀ L h' big) (F : Fr h₀ L h' m) (hs : ∀ p ∈ news, p ∈ big) (e : r = some k) : Q (.int k t) { s with heap := h', toks := tk' } :=
  hret _ _ _ _ ⟨rfl, k, t, e, rfl⟩ F fun p hp => N p (hs p hp)
theorem hexc_of {Bad : Prop} {h₀ g h' base : Heap} {L e : Addr} {m : Str → Option Value} {outer : List Env} {news big : List (Addr × Obj)} {s : Shared} {E : Value → Shared → Prop} {tk' : Nat}
    (hexc : Bad → ∀ e g h' tk', Fr h₀ L g m → RaisedSN base g outer e (.ref 51) news h' → g.UpToSlots h' → E (.ref e) { s with heap := h', toks := tk' })
    (F : Fr h₀ L g m) (R : RaisedSN base g outer e (.ref 51) big h') (U : g.UpToSlots h') (hs : ∀ p ∈ news, p ∈ big) (b : Bad) : E (.ref e) { s with heap := h', toks := tk' } :=
  hexc b _ _ _ _ F (raised_sub R hs) U
-- B15
theorem fr_map {h₀ h : Heap} {L : Addr} {m m' : Str → Option Value} (F : Fr h₀ L h m) (e : ∀ y, m y = m' y) : Fr h₀ L h m' := (funext e) ▸ F
/-- the end of one statement, hidden from the walk -/
def StEnd (Q : Flow → Shared → Prop) (Mid : Shared → Prop) (fl : Flow) (s' : Shared) : Prop := match fl with | .ret v => Q (.ret v) s' | .next => Mid s' | _ => False
theorem seq_cut {prog : Program} {w : World} {A : Around} {env : Env} {st : Stmt} {rest : List Stmt} {s : Shared} {E : Value → Shared → Prop} {Q : Flow → Shared → Prop} (Mid : Shared → Prop)
    (h1 : wpAny (model prog w) A (exec st env) (fun fl s' => StEnd Q Mid fl s') E s) (h2 : ∀ s', Mid s' → wpAny (model prog w) A (execs rest env) Q E s') : wpAny (model prog w) A (execs (st :: rest) env) Q E s := by
  rw [arm_execs_cons]
  refine wpAny_bind (wpAny_mono h1 (fun fl s' q => ?_) fun _ _ e => e)
  cases fl with
  | next => exact h2 s' q
  | ret v => exact wpAny_pure q
  | brk => exact q.elim
  | cont => exact q.elim
def MidG {α : Type} (g : Heap) (L : Addr) (mapf : α → Str → Option Value) (nf : α → List (Addr × Obj)) (V : α → Prop) (s s' : Shared) : Prop :=
  ∃ a h' tk, s' = { s with heap := h', toks := tk } ∧ V a ∧ Fr g L h' (mapf a) ∧ News g L h' (nf a)
theorem seq_g {prog : Program} {w : World} {A : Around} {env : Env} {st : Stmt} {body : List Stmt} {s : Shared} {E : Value → Shared → Prop} {Q : Flow → Shared → Prop} {g : Heap} {L : Addr} {m : Str → Option Value} {α : Type}
    (mapf : (Str → Option Value) → α → Str → Option Value) (nf : α → List (Addr × Obj)) (V : α → Prop) (_F : Fr g L s.heap m)
    (h1 : wpAny (model prog w) A (exec st env) (fun fl s' => StEnd Q (MidG g L (mapf m) nf V s) fl s') E s)
    (h2 : ∀ a h' tk, V a → Fr g L h' (mapf m a) → News g L h' (nf a) → wpAny (model prog w) A (execs body env) Q E { s with heap := h', toks := tk }) :
    wpAny (model prog w) A (execs (st :: body) env) Q E s :=
  seq_cut _ h1 fun s' hM => by obtain ⟨a, h', tk, e, hV, F', N'⟩ := hM; subst e; exact h2 a h' tk hV F' N'
theorem midG {α : Type} {g : Heap} {L : Addr} {m : α → Str → Option Value} {nf : α → List (Addr × Obj)} {V : α → Prop} {m₁ : Str → Option Value} {s : Shared} {h' : Heap} {tk : Nat} {Q : Flow → Shared → Prop}
    (a : α) (F : Fr g L h' m₁) (N : News g L h' (nf a)) (e : ∀ y, m₁ y = m a y) (hV : V a) : StEnd Q (MidG g L m nf V s) .next { s with heap := h', toks := tk } :=
  ⟨a, h', tk, rfl, hV, fr_map F e, N⟩
theorem execs_app {env : Env} : ∀ (pre rest : List Stmt), execs (pre ++ rest) env = execs pre env >>= fun f => match f with | .next => execs rest env | f => pure f
  | [], rest => by
    show execs rest env = pure Flow.next >>= _
    simp
  | st :: pre, rest => by
    show execs (st :: (pre ++ rest)) env = _
    rw [arm_execs_cons, arm_execs_cons, bind_assoc]
    congr 1
    funext f
    cases f with
    | next => exact execs_app pre rest
    | ret v => simp
    | brk => simp
    | cont => simp
section
variable {prog : Program} {w : World} {A : Around} {env : Env} {s : Shared} {E : Value → Shared → Prop} {Q : Flow → Shared → Prop}
theorem pre_cut (pre : List Stmt) {rest : List Stmt} (Mid : Shared → Prop)
    (h1 : wpAny (model prog w) A (execs pre env) (fun fl s' => StEnd Q Mid fl s') E s) (h2 : ∀ s', Mid s' → wpAny (model prog w) A (execs rest env) Q E s') : wpAny (model prog w) A (execs (pre ++ rest) env) Q E s := by
  rw [execs_app]
  refine wpAny_bind (wpAny_mono h1 (fun fl s' q => ?_) fun _ _ e => e)
  cases fl with
  | next => exact h2 s' q
  | ret v => exact wpAny_pure q
  | brk => exact q.elim
  | cont => exact q.elim
theorem seq_3 {st1 st2 st3 : Stmt} {body : List Stmt} {g : Heap} {L : Addr} {m : Str → Option Value} {α : Type}
    (mapf : (Str → Option Value) → α → Str → Option Value) (nf : α → List (Addr × Obj)) (V : α → Prop) (_F : Fr g L s.heap m)
    (h1 : wpAny (model prog w) A (execs [st1, st2, st3] env) (fun fl s' => StEnd Q (MidG g L (mapf m) nf V s) fl s') E s)
    (h2 : ∀ a h' tk, V a → Fr g L h' (mapf m a) → News g L h' (nf a) → wpAny (model prog w) A (execs body env) Q E { s with heap := h', toks := tk }) :
    wpAny (model prog w) A (execs (st1 :: st2 :: st3 :: body) env) Q E s :=
  pre_cut [st1, st2, st3] _ h1 fun s' hM => by obtain ⟨a, h', tk, e, hV, F', N'⟩ := hM; subst e; exact h2 a h' tk hV F' N'
theorem seq_2 {st1 st2 : Stmt} {body : List Stmt} {g : Heap} {L : Addr} {m : Str → Option Value} {α : Type}
    (mapf : (Str → Option Value) → α → Str → Option Value) (nf : α → List (Addr × Obj)) (V : α → Prop) (_F : Fr g L s.heap m)
    (h1 : wpAny (model prog w) A (execs [st1, st2] env) (fun fl s' => StEnd Q (MidG g L (mapf m) nf V s) fl s') E s)
    (h2 : ∀ a h' tk, V a → Fr g L h' (mapf m a) → News g L h' (nf a) → wpAny (model prog w) A (execs body env) Q E { s with heap := h', toks := tk }) :
    wpAny (model prog w) A (execs (st1 :: st2 :: body) env) Q E s :=
  pre_cut [st1, st2] _ h1 fun s' h => by obtain ⟨a, h', tk, e, hV, F', N'⟩ := h; subst e; exact h2 a h' tk hV F' N'
end
theorem map_dbl {m : Str → Option Value} {x : Str} {u v : Option Value} : ∀ y, (if y = x then v else if y = x then u else m y) = if y = x then v else m y := fun y => by
  by_cases h : y = x
  · rw [if_pos h, if_pos h]
  · rw [if_neg h, if_neg h, if_neg h]
theorem same_map {m : Str → Option Value} {x : Str} {v : Value} (e : m x = some v) : ∀ y, m y = if y = x then some v else m y := fun y => by
  by_cases h : y = x
  · rw [if_pos h, h, e]
  · rw [if_neg h]
theorem seq_gN {prog : Program} {w : World} {A : Around} {env : Env} {st : Stmt} {body : List Stmt} {s : Shared} {E : Value → Shared → Prop} {Q : Flow → Shared → Prop} {g : Heap} {L : Addr} {m : Str → Option Value} {α : Type} {l : List (Addr × Obj)}
    (mapf : (Str → Option Value) → α → Str → Option Value) (V : α → Prop) (_F : Fr g L s.heap m) (_N : News g L s.heap l)
    (h1 : wpAny (model prog w) A (exec st env) (fun fl s' => StEnd Q (MidG g L (mapf m) (fun _ => l) V s) fl s') E s)
    (h2 : ∀ a h' tk, V a → Fr g L h' (mapf m a) → News g L h' l → wpAny (model prog w) A (execs body env) Q E { s with heap := h', toks := tk }) :
    wpAny (model prog w) A (execs (st :: body) env) Q E s := seq_g mapf (fun _ => l) V _F h1 h2
theorem map_two {m : Str → Option Value} {x z : Str} (hne : x ≠ z) {v u w o : Option Value} : ∀ y, (if y = z then w else if y = x then v else if y = x then u else if y = z then o else m y) = if y = x then v else if y = z then w else m y := fun y => by
  by_cases h : y = z
  · rw [if_pos h, if_neg (fun q => hne (q.symm.trans h)), if_pos h]
  · rw [if_neg h, if_neg h, if_neg h]; exact map_dbl (m := m) y
theorem sgn_at01 {x : Str} {sn a : Int} (h : sgnOf x = (sn, a)) : 0 ≤ a ∧ a ≤ 1 := by
  unfold sgnOf at h
  split at h
  · cases h; decide
  · split at h <;> cases h <;> decide
-- P10
def Spelt (x : Str) : Prop := x.length ≤ 17 ∧ Ascii x
@[irreducible] def SpW (n : Int) (x : Str) : Prop := n * 2 ^ x.length < 2 ^ 17 ∧ x.length ≤ 17 ∧ Ascii x
theorem SpW.len {n : Int} {x : Str} (h : SpW n x) : x.length ≤ 17 := by unfold SpW at h; exact h.2.1
theorem SpW.asc {n : Int} {x : Str} (h : SpW n x) : Ascii x := by unfold SpW at h; exact h.2.2
theorem sp_start {n : Int} (h0 : 0 ≤ n) (h1 : n < 70000) : 0 ≤ n ∧ SpW n (Str.ofString "") := by
  unfold SpW
  refine ⟨h0, ?_, by decide +kernel, ?_⟩
  · rw [show (Str.ofString "").length = 0 from by decide +kernel]; omega
  · unfold Ascii; decide +kernel
theorem item_fig {i : Int} (h0 : 0 ≤ i) (h1 : i < 16) : (Txt.item (Str.ofString "0123456789abcdef") i).length = 1 ∧ Ascii (Txt.item (Str.ofString "0123456789abcdef") i) := by
  obtain ⟨c, hc, _, hm⟩ := item_ch (x := Str.ofString "0123456789abcdef") (i := i) h0 (by rw [show (Str.ofString "0123456789abcdef").length = 16 from by decide +kernel]; omega)
  have ha : ∀ c ∈ (Str.ofString "0123456789abcdef").cps.toList, c < 128 := by decide +kernel
  rw [hc]
  refine ⟨rfl, ?_⟩
  intro d hd
  have : d = c := by simpa using hd
  subst this
  exact ha _ hm
theorem fmod_rng {a b : Int} (h0 : 2 ≤ b) (h1 : b ≤ 16) : 0 ≤ a.fmod b ∧ a.fmod b < 16 := ⟨Int.fmod_nonneg_of_pos _ (by omega), Int.lt_of_lt_of_le (Int.fmod_lt_of_pos _ (by omega)) h1⟩
theorem fdiv_half {n b : Int} (h0 : 0 ≤ n) (hb : 2 ≤ b) : 0 ≤ n.fdiv b ∧ n.fdiv b * 2 ≤ n := by
  rw [Int.fdiv_eq_ediv_of_nonneg _ (by omega)]
  have h1 : 0 ≤ n / b := Int.ediv_nonneg h0 (by omega)
  refine ⟨h1, ?_⟩
  have h2 : n / b * b ≤ n := Int.ediv_mul_le _ (by omega)
  have h3 : n / b * 2 ≤ n / b * b := Int.mul_le_mul_of_nonneg_left hb h1
  omega
theorem sp_step {n b : Int} {x : Str} (h0 : 0 ≤ n) (b0 : 2 ≤ b) (b1 : b ≤ 16) (h : SpW n x) (hc : 0 < n ∨ (x == Str.ofString "") = true) :
    0 ≤ n.fdiv b ∧ SpW (n.fdiv b) (Txt.item (Str.ofString "0123456789abcdef") (n.fmod b) ++ x) := by
  obtain ⟨f0, f1⟩ := fdiv_half h0 b0
  obtain ⟨g0, g1⟩ := item_fig (fmod_rng (a := n) b0 b1).1 (fmod_rng b0 b1).2
  have hx : x.length < 17 := by
    rcases hc with hc | hc
    · unfold SpW at h
      rcases Nat.lt_or_ge x.length 17 with q | q
      · exact q
      · exfalso
        have e : x.length = 17 := by omega
        rw [e] at h
        have := h.1
        omega
    · rw [beq_iff_eq.mp hc, show (Str.ofString "").length = 0 from by decide +kernel]; omega
  unfold SpW at h ⊢
  refine ⟨f0, ?_, ?_, ?_⟩
  · rw [Str.length_append, g0, Nat.add_comm, Int.pow_succ]
    have hp : (0 : Int) ≤ 2 ^ x.length := Int.pow_nonneg (by decide)
    have := Int.mul_le_mul_of_nonneg_right f1 hp
    have h1 := h.1
    have e : n.fdiv b * (2 ^ x.length * 2) = n.fdiv b * 2 * 2 ^ x.length := by
      rw [Int.mul_comm (2 ^ x.length) 2, Int.mul_assoc]
    omega
  · rw [Str.length_append, g0]; omega
  · intro c hc
    rw [Str.cps_append, Array.toList_append] at hc
    rcases List.mem_append.mp hc with hc | hc
    · exact g1 c hc
    · exact h.2.2 c hc
def spM (n : Int) (x : Str) : Nat := n.toNat + (if (x == Str.ofString "") = true then 1 else 0)
theorem cons_ne {y x : Str} (h : y.length = 1) : ((y ++ x) == Str.ofString "") = false := by
  cases q : (y ++ x) == Str.ofString "" with
  | false => rfl
  | true =>
    have := congrArg Str.length (beq_iff_eq.mp q)
    rw [Str.length_append, h, show (Str.ofString "").length = 0 from by decide +kernel] at this
    omega
theorem sp_meas {n b : Int} {x : Str} (h0 : 0 ≤ n) (b0 : 2 ≤ b) (b1 : b ≤ 16) (hc : 0 < n ∨ (x == Str.ofString "") = true) :
    spM (n.fdiv b) (Txt.item (Str.ofString "0123456789abcdef") (n.fmod b) ++ x) < spM n x := by
  obtain ⟨f0, f1⟩ := fdiv_half h0 b0
  obtain ⟨g0, _⟩ := item_fig (fmod_rng (a := n) b0 b1).1 (fmod_rng b0 b1).2
  unfold spM
  rw [cons_ne g0, if_neg (by decide)]
  rcases hc with hc | hc
  · split <;> omega
  · rw [if_pos hc]; omega
theorem fig_lo {n b : Int} (b0 : 2 ≤ b) (b1 : b ≤ 16) : -((Str.ofString "0123456789abcdef").length : Int) ≤ n.fmod b := by
  have := (fmod_rng (a := n) b0 b1).1
  omega
theorem fig_hi {n b : Int} (b0 : 2 ≤ b) (b1 : b ≤ 16) : n.fmod b < ((Str.ofString "0123456789abcdef").length : Int) := by
  rw [show (Str.ofString "0123456789abcdef").length = 16 from by decide +kernel]
  exact (fmod_rng b0 b1).2
theorem fig_len {n b : Int} (b0 : 2 ≤ b) (b1 : b ≤ 16) : (Txt.item (Str.ofString "0123456789abcdef") (n.fmod b)).length = 1 := (item_fig (fmod_rng (a := n) b0 b1).1 (fmod_rng b0 b1).2).1
open PySem.Builtin in
theorem fig_fits {n b : Int} (b0 : 2 ≤ b) (b1 : b ≤ 16) : fitsSsize (n.fmod b) = true := by
  have := fmod_rng (a := n) b0 b1
  unfold fitsSsize
  rw [decide_eq_false (show ¬ n.fmod b < -(2 ^ 63 : Int) by omega), decide_eq_false (show ¬ n.fmod b ≥ 2 ^ 63 by omega)]
  rfl
theorem fig_add {n b : Int} {x : Str} (b0 : 2 ≤ b) (b1 : b ≤ 16) (h : SpW n x) : (Txt.item (Str.ofString "0123456789abcdef") (n.fmod b)).length + x.length ≤ sizeLine := by
  rw [fig_len b0 b1, sizeLine_eq]
  have := h.len
  omega
theorem sp_done {n : Int} {x : Str} (h : SpW n x) : Spelt x := ⟨h.len, h.asc⟩
-- B8
theorem news_rot1 {h₀ h : Heap} {L : Addr} {a p q : Addr × Obj} {l : List (Addr × Obj)} (N : News h₀ L h (a :: p :: q :: l)) : News h₀ L h (p :: q :: a :: l) := fun x hx => N x (by
  simp only [List.mem_cons] at hx ⊢
  rcases hx with hx | hx | hx | hx <;> simp only [hx, true_or, or_true])
theorem news_rot3 {h₀ h : Heap} {L : Addr} {a b c p q : Addr × Obj} {l : List (Addr × Obj)} (N : News h₀ L h (a :: b :: c :: p :: q :: l)) : News h₀ L h (p :: q :: a :: b :: c :: l) := fun x hx => N x (by
  simp only [List.mem_cons] at hx ⊢
  rcases hx with hx | hx | hx | hx | hx | hx <;> simp only [hx, true_or, or_true])
theorem ne_more {P a : Addr} {o : Obj} {s : Addr × Obj} {l : List (Addr × Obj)} (hn : ∀ p ∈ s :: l, p.1 ≠ P) (ha : a ≠ P) : ∀ p ∈ s :: (a, o) :: l, p.1 ≠ P := fun p hp => by
  rcases List.mem_cons.mp hp with rfl | hp
  · exact hn _ (.head _)
  · rcases List.mem_cons.mp hp with rfl | hp
    · exact ha
    · exact hn p (.tail _ hp)
/-- the state between two statements of the law's text -/
def MidT (g : Heap) (L : Addr) (m : Str → Option Value) (P S : Addr) (c : Nat) (rest : List (Addr × Obj)) (lo hi : Int) (s s' : Shared) : Prop :=
  ∃ h' tk r' t', s' = { s with heap := h', toks := tk } ∧ Fr g L h' m ∧ News g L h' ((P, listOf #[.ref S, .int r' t'] c) :: rest) ∧ (lo ≤ r' ∧ r' ≤ hi)
theorem midT {g : Heap} {L : Addr} {m m₁ : Str → Option Value} {P S : Addr} {c : Nat} {rest : List (Addr × Obj)} {lo hi : Int} {s : Shared} {h' : Heap} {tk : Nat} {r' : Int} {t' : Tok}
    (F : Fr g L h' m₁) (N : News g L h' ((P, listOf #[.ref S, .int r' t'] c) :: rest)) (l : lo ≤ r') (l' : r' ≤ hi) (e : ∀ y, m₁ y = m y) : MidT g L m P S c rest lo hi s { s with heap := h', toks := tk } :=
  ⟨h', tk, r', t', rfl, fr_map F e, N, l, l'⟩
def MidV {α : Type} (g : Heap) (L : Addr) (m : α → Str → Option Value) (V : α → Prop) (P S : Addr) (c : Nat) (rest : List (Addr × Obj)) (lo hi : Int) (s s' : Shared) : Prop :=
  ∃ a, V a ∧ MidT g L (m a) P S c rest lo hi s s'
theorem seq_v {prog : Program} {w : World} {A : Around} {env : Env} {st : Stmt} {body : List Stmt} {s : Shared} {E : Value → Shared → Prop} {Q : Flow → Shared → Prop} {g : Heap} {L P S : Addr} {c : Nat} {r : Int} {t : Tok} {rest : List (Addr × Obj)} {m : Str → Option Value} {α : Type}
    (mapf : (Str → Option Value) → α → Str → Option Value) (V : α → Prop) (k : Int) (F : Fr g L s.heap m) (N : News g L s.heap ((P, listOf #[.ref S, .int r t] c) :: rest))
    (h1 : wpAny (model prog w) A (exec st env) (fun fl s' => StEnd Q (MidV g L (mapf m) V P S c rest r (r + k) s) fl s') E s)
    (h2 : ∀ a h' tk r' t', V a → Fr g L h' (mapf m a) → News g L h' ((P, listOf #[.ref S, .int r' t'] c) :: rest) → r ≤ r' → r' ≤ r + k → wpAny (model prog w) A (execs body env) Q E { s with heap := h', toks := tk }) :
    wpAny (model prog w) A (execs (st :: body) env) Q E s :=
  seq_cut _ h1 fun s' hM => by obtain ⟨a, hV, h', tk, r', t', e, F', N', l⟩ := hM; subst e; exact h2 a h' tk r' t' hV F' N' l.1 l.2
theorem midV {α : Type} {g : Heap} {L : Addr} {m : α → Str → Option Value} {V : α → Prop} {m₁ : Str → Option Value} {P S : Addr} {c : Nat} {rest : List (Addr × Obj)} {lo hi : Int} {s : Shared} {h' : Heap} {tk : Nat} {r' : Int} {t' : Tok} {Q : Flow → Shared → Prop}
    (a : α) (F : Fr g L h' m₁) (N : News g L h' ((P, listOf #[.ref S, .int r' t'] c) :: rest)) (hV : V a) (l : lo ≤ r') (l' : r' ≤ hi) (e : ∀ y, m₁ y = m a y) : StEnd Q (MidV g L m V P S c rest lo hi s) .next { s with heap := h', toks := tk } :=
  ⟨a, hV, midT F N l l' e⟩
-- B9
def Piece (z : Str) : Prop := z.length ≤ 3 ∧ Ascii z
theorem strs_snoc {y : Str} {t : Tok} : ∀ {vs : List Value} {ys : List Str}, StrsAre vs ys → StrsAre (vs ++ [.str y t]) (ys ++ [y])
  | _, _, .nil => .cons y t .nil
  | _, _, .cons z u r => .cons z u (strs_snoc r)
section
variable {prog : Program} {w : World} {A : Around} {h₀ : Heap} {L P S : Addr} {m : Str → Option Value} {env : Env} {elt : PySem.Expr} {x : Str} {scope : Scope} {cl : List (Str × Addr)} {s : Shared} {Pp : Nat → Value → Prop} {Fin : List Value → List (Addr × Obj) → Prop} {rest : List (Addr × Obj)} {c : Nat}
theorem comp_pen {n : Nat} (r₀ : Int) (t₀ : Tok)
    (turn : ∀ (i : Nat) t I oI C oC D m₂ ys h tk (E' : Value → Shared → Prop) v, i < n → LCg.NsObj oC m₂ → m₂ x = some v → Fr h₀ L h m → News h₀ L h ((I, oI) :: (C, oC) :: (D, LCg.lst ys) :: (P, listOf #[.ref S, .int (r₀ + i) t] c) :: rest) →
      LCg.Off3 I C D ((P, listOf #[.ref S, .int (r₀ + i) t] c) :: rest) → ((@Ne Nat I C) ∧ (@Ne Nat I D) ∧ (@Ne Nat C D)) →
      wpAny (model prog w) A (eval elt (compEnvC scope cl C env)) (LCg.CompEnd h₀ L m { s with heap := h, toks := tk } I oI C oC D (LCg.lst ys) (fun _ => True)
        (fun y news' => ∃ z tz t', y = .str z tz ∧ Piece z ∧ news' = ((P, listOf #[.ref S, .int (r₀ + i + 1) t'] c) :: rest))) E' { s with heap := h, toks := tk })
    (fin : ∀ ys zs t', StrsAre ys zs → zs.length = n → (∀ z ∈ zs, Piece z) → Fin ys ((P, listOf #[.ref S, .int (r₀ + n) t'] c) :: rest)) :
    LCg.CompRest prog w A h₀ L m env elt x scope cl s (fun _ => True) Pp Fin n 0 [] ((P, listOf #[.ref S, .int r₀ t₀] c) :: rest) := by
  have key : ∀ (j i : Nat) (ys : List Value) (zs : List Str) (t : Tok), i + j = n → zs.length = i → (∀ z ∈ zs, Piece z) → StrsAre ys zs →
      LCg.CompRest prog w A h₀ L m env elt x scope cl s (fun _ => True) Pp Fin j i ys ((P, listOf #[.ref S, .int (r₀ + i) t] c) :: rest) := by
    intro j
    induction j with
    | zero =>
      intro i ys zs t hi hl hz hs
      have e : i = n := by omega
      subst e
      exact LCg.CompRest.zero (fin ys zs t hs hl hz)
    | succ j ih =>
      intro i ys zs t hi hl hz hs
      refine LCg.CompRest.succ ?_
      intro v I oI C oC D m₂ h tk E' hv hC hx F N off ne
      refine wpAny_mono (turn i t I oI C oC D m₂ ys h tk E' v (by omega) hC hx F N off ne) (fun y s₂ hq => ?_) fun _ _ e => e
      obtain ⟨h', tk', nw, e, F', N', off', hS, z, tz, t', rfl, hP, rfl⟩ := hq
      refine ⟨h', tk', _, e, F', N', off', hS, ?_⟩
      have := ih (i + 1) (ys ++ [.str z tz]) (zs ++ [z]) t' (by omega) (by rw [List.length_append, hl]; rfl) (fun q hq => by
        rcases List.mem_append.mp hq with hq | hq
        · exact hz q hq
        · rw [List.mem_singleton.mp hq]; exact hP) (strs_snoc hs)
      rw [show r₀ + ((i + 1 : Nat) : Int) = r₀ + i + 1 by omega] at this
      exact this
  have := key n 0 [] [] t₀ (by omega) rfl (fun _ h => nomatch h) .nil
  rwa [show r₀ + ((0 : Nat) : Int) = r₀ by omega] at this
end
theorem pieces_join : ∀ {zs : List Str}, (∀ z ∈ zs, Piece z) → (Txt.join (Str.ofString "") zs).length ≤ 3 * zs.length ∧ Ascii (Txt.join (Str.ofString "") zs) := by
  have e0 : (Str.ofString "").length = 0 := by decide +kernel
  have e1 : (Str.ofString "").cps.toList = [] := by decide +kernel
  have h : ∀ zs : List Str, (∀ z ∈ zs, Piece z) → (Str.join (Str.ofString "") zs).length ≤ 3 * zs.length ∧ Ascii (Str.join (Str.ofString "") zs) := by
    intro zs
    induction zs with
    | nil => intro _; exact ⟨Nat.le_refl _, by intro c hc; exact absurd hc (by simp [Str.join, Str.empty])⟩
    | cons a r ih =>
      intro hz
      have ha := hz a (.head _)
      cases r with
      | nil => exact ⟨by show a.length ≤ 3 * 1; exact ha.1, ha.2⟩
      | cons b r =>
        have hr := ih fun z hz' => hz z (.tail _ hz')
        refine ⟨?_, ?_⟩
        · show (a ++ Str.ofString "" ++ Str.join (Str.ofString "") (b :: r)).length ≤ _
          rw [Str.length_append, Str.length_append, e0]
          have := ha.1
          have := hr.1
          simp only [List.length_cons] at *
          omega
        · intro c hc
          have hc' : c ∈ (a ++ Str.ofString "" ++ Str.join (Str.ofString "") (b :: r)).cps.toList := hc
          rw [Str.cps_append, Str.cps_append, Array.toList_append, Array.toList_append, e1, List.append_nil] at hc'
          rcases List.mem_append.mp hc' with hc' | hc'
          · exact ha.2 c hc'
          · exact hr.2 c hc'
  intro zs hz
  rw [show Txt.join (Str.ofString "") zs = Str.join (Str.ofString "") zs from beq_iff_eq.mp (join_plain_closes _ _)]
  exact h zs hz
theorem pieces_sum : ∀ {zs : List Str}, (∀ z ∈ zs, Piece z) → (zs.map (·.length)).sum ≤ 3 * zs.length
  | [], _ => Nat.le_refl _
  | a :: r, h => by
    have h1 := (h a (.head _)).1
    have h2 := pieces_sum (zs := r) fun z hz => h z (.tail _ hz)
    rw [List.map_cons, List.sum_cons, List.length_cons]
    omega
section
variable {prog : Program} {w : World} {A : Around} {E : Value → Shared → Prop} {s : Shared} {Q : Value → Shared → Prop}
theorem join_pieces {D : Addr} {ys : List Value} {zs : List Str} {t : Tok} {n : Nat} (hl : s.heap.IsList D ys.toArray) (hs : StrsAre ys zs) (hn : zs.length = n) (hz : ∀ z ∈ zs, Piece z) (hb : n ≤ 16)
    (h : ∀ y t' k, y.length ≤ 48 → Ascii y → Q (.str y t') { s with toks := k }) : wpAny (model prog w) A (call (.builtin "str.join") [.str (Str.ofString "") t, .ref D]) Q E s := by
  have hj := pieces_join hz
  have hs' := pieces_sum hz
  refine join_list hl (by simpa using hs) ?_ fun t' k => h _ t' k (by omega) hj.2
  rw [show (Str.ofString "").length = 0 from by decide +kernel]
  omega
end
theorem ne_more3 {P I C D : Addr} {o oI oC oD : Obj} {s : Addr × Obj} {l r : List (Addr × Obj)} (hn : ∀ p ∈ s :: l, p.1 ≠ P) (off : LCg.Off3 I C D ((P, o) :: r)) : ∀ p ∈ s :: (I, oI) :: (C, oC) :: (D, oD) :: l, p.1 ≠ P := fun p hp => by
  rcases List.mem_cons.mp hp with rfl | hp
  · exact hn _ (.head _)
  · rcases List.mem_cons.mp hp with rfl | hp
    · exact Ne.symm off.1.1
    · rcases List.mem_cons.mp hp with rfl | hp
      · exact Ne.symm off.1.2.1
      · rcases List.mem_cons.mp hp with rfl | hp
        · exact Ne.symm off.1.2.2
        · exact hn p (.tail _ hp)
-- P11
/-- a text of plain signs, no longer than k -/
def TX (x : Str) (k : Nat) : Prop := x.length ≤ k ∧ Ascii x
theorem TX.mono {x : Str} {k l : Nat} (h : TX x k) (hk : k ≤ l) : TX x l := ⟨Nat.le_trans h.1 hk, h.2⟩
theorem TX.good {x : Str} {k : Nat} (h : TX x k) (hk : k ≤ 400) : Good x := ⟨Nat.le_trans h.1 hk, h.2⟩
theorem TX.line {x : Str} {k : Nat} (h : TX x k) (hk : k ≤ 1000) : x.length ≤ sizeLine := by rw [sizeLine_eq]; have := h.1; omega
theorem tx_slice {x : Str} {k : Nat} (h : TX x k) (l u : Option Int) : TX (Txt.slice x l u) k := by
  refine ⟨Nat.le_trans (Txt.slice_le x l u) h.1, ?_⟩
  unfold Txt.slice
  split
  · exact h.2
  · intro c hc
    obtain ⟨i, _, hi⟩ := List.mem_filterMap.mp (by simpa using hc : c ∈ List.filterMap _ _)
    exact h.2 c (Array.mem_toList_iff.mpr (Array.mem_of_getElem? hi))
theorem tx_app {x y : Str} {a b : Nat} (h : TX x a) (h' : TX y b) : TX (x ++ y) (a + b) := by
  refine ⟨by rw [Str.length_append]; have := h.1; have := h'.1; omega, fun c hc => ?_⟩
  rw [Str.cps_append, Array.toList_append] at hc
  rcases List.mem_append.mp hc with hc | hc
  · exact h.2 c hc
  · exact h'.2 c hc
theorem tx_lit {x : Str} (h : (x.cps.toList.all fun c => decide (c < 128)) = true) : TX x x.length := ⟨Nat.le_refl _, fun c hc => by simpa using List.all_eq_true.mp h c hc⟩
theorem upper_one : ∀ c, c < 128 → Unicode.upperOf c = [if 97 ≤ c ∧ c ≤ 122 then c - 32 else c] := by decide +kernel
theorem tx_upper {x : Str} {k : Nat} (h : TX x k) : TX (Txt.upper x) k := by
  have e : (Txt.upper x).cps.toList = x.cps.toList.map fun c => if 97 ≤ c ∧ c ≤ 122 then c - 32 else c := by
    unfold Txt.upper placed
    rw [Array.toList_flatten, Array.toList_mapIdx]
    have := flat_one (g := fun _ c => (Unicode.upperOf c).toArray) (f := fun c => if 97 ≤ c ∧ c ≤ 122 then c - 32 else c) x.cps.toList 0 (fun i c hc => by
      rw [upper_one c (h.2 c (List.mem_of_getElem? hc))])
    simpa only [Nat.zero_add] using this
  have el : (Txt.upper x).length = x.length := by
    have := congrArg List.length e
    simpa [Str.length] using this
  refine ⟨el ▸ h.1, fun c hc => ?_⟩
  rw [e] at hc
  obtain ⟨d, hd, rfl⟩ := List.mem_map.mp hc
  have := h.2 d hd
  split <;> omega
def txOk (k : Nat) (z : Str) : Bool := decide (z.length ≤ k) && z.cps.toList.all fun c => decide (c < 128)
theorem txOk_of {k : Nat} {z : Str} (h : txOk k z = true) : TX z k := by
  unfold txOk at h
  rw [Bool.and_eq_true] at h
  exact ⟨by simpa using h.1, fun c hc => by simpa using List.all_eq_true.mp h.2 c hc⟩
theorem str_ok : ∀ n : Nat, n ≤ 16 → txOk 2 (Str.ofString (toString (n : Int))) = true := by decide +kernel
theorem tx_str {b : Int} (h0 : 2 ≤ b) (h1 : b ≤ 16) : TX (Str.ofString (toString b)) 2 := by
  obtain ⟨n, rfl⟩ : ∃ n : Nat, b = n := ⟨b.toNat, by omega⟩
  exact txOk_of (str_ok n (by omega))
theorem tx_getD {k : Nat} : ∀ {l : List Str} (_ : l.all (txOk k) = true) (n : Nat), TX (l.getD n Str.empty) k
  | [], _, n => ⟨by simp [Str.empty, Str.length], fun c hc => absurd hc (by simp [Str.empty])⟩
  | a :: r, h, 0 => txOk_of (List.all_eq_true.mp h a (.head _))
  | a :: r, h, n + 1 => by rw [List.getD_cons_succ]; exact tx_getD (by rw [List.all_cons, Bool.and_eq_true] at h; exact h.2) n
theorem tx_mul {q : Int} {N : Nat} (h1 : q ≤ N) : TX (Txt.mul (Str.ofString " ") q) N := by
  have e : Str.ofString " " = ⟨#[32]⟩ := by decide +kernel
  refine ⟨len_mul_one (c := 32) e h1, fun c hc => ?_⟩
  rw [e, mul_one_list] at hc
  rw [(List.mem_replicate.mp hc).2]
  decide
theorem Spelt.tx {x : Str} (h : Spelt x) : TX x 17 := h
-- B10
section
variable {prog : Program} {w : World} {A : Around} {E : Value → Shared → Prop} {s : Shared} {x y : Str} {t u : Tok} {a b : Nat} {Q : Value → Shared → Prop}
theorem add_tx (h1 : TX x a) (h2 : TX y b) (hab : a + b ≤ 1000) (h : ∀ z t' k, TX z (a + b) → Q (.str z t') { s with toks := k }) : wpAny (model prog w) A (binaryOp .Add (.str x t) (.str y u)) Q E s :=
  PyProof.Rows.add_str (fun t' k => h _ t' k (tx_app h1 h2)) (by rw [sizeLine_eq]; have := h1.1; have := h2.1; omega)
theorem len_tx (h1 : TX x a) (ha : a ≤ 1000) (h : ∀ (n : Nat) t' k, n ≤ a → Q (.int (n : Int) t') { s with toks := k }) : wpAny (model prog w) A (call (.builtin "len") [.str x t]) Q E s := by
  have := h1.1
  exact SBL.len (by omega) (h x.length _ _ this)
theorem mul_tx {q : Int} (N : Nat) (h0 : 0 ≤ q) (h1 : q ≤ N) (hN : N ≤ 1000) (h : ∀ z t' k, TX z N → Q (.str z t') { s with toks := k }) : wpAny (model prog w) A (binaryOp .Mult (.str (Str.ofString " ") t) (.int q u)) Q E s :=
  SB.mul (mulOk_of 1 N (by decide +kernel) h1 (by omega) (by omega) (by omega)) fun t' k => h _ t' k (tx_mul h1)
theorem upper_tx (h1 : TX x a) (ha : a ≤ 1000) (h : ∀ z t' k, TX z a → Q (.str z t') { s with toks := k }) : wpAny (model prog w) A (call (.builtin "str.upper") [.str x t]) Q E s :=
  SCL.upper (by have := h1.1; omega) fun _ => h _ _ _ (tx_upper h1)
theorem str_tx {q : Int} (h0 : 2 ≤ q) (h1 : q ≤ 16) (h : ∀ z t' k, TX z 2 → Q (.str z t') { s with toks := k }) : wpAny (model prog w) A (call (.type "str") [.int q t]) Q E s :=
  PySem.P.str_of_int (shown (N := 2 ^ 1920) (by omega) (by omega) (Int.le_refl _)) (h _ _ _ (tx_str h0 h1))
end
theorem ne_moreL {P a : Addr} {o : Obj} {s : Addr × Obj} {l : List (Addr × Obj)} {R : Prop} (hn : ∀ p ∈ s :: l, p.1 ≠ P) (ha : P < a ∧ R) : ∀ p ∈ s :: (a, o) :: l, p.1 ≠ P := ne_more hn (Nat.ne_of_gt ha.1)
theorem spelt_tx {y : Str} (h : Spelt y) : TX y 17 := h
theorem same_map2 {m : Str → Option Value} {x z : Str} {v : Value} (e : m x = some v) : ∀ y, m y = if y = x then some v else if y = z then m z else m y := fun y => by
  by_cases h : y = x
  · rw [if_pos h, h, e]
  · rw [if_neg h]
    by_cases h' : y = z
    · rw [if_pos h', h']
    · rw [if_neg h']
section
variable {prog : Program} {w : World} {A : Around} {E : Value → Shared → Prop} {s : Shared} {Q : Value → Shared → Prop}
theorem item_tx {value slice : PySem.Expr} {l : Addr} {vs : List Value} {zs : List Str} {q : Int} {u : Tok} (hl : s.heap.IsList l vs.toArray) (hs : StrsAre vs zs) (hz : zs.all (txOk 4) = true) (h0 : 0 ≤ q) (h1 : q < zs.length) (hn : zs.length ≤ 100)
    (h : ∀ z t, TX z 4 → Q (.str z t) s) (hsub : subscripted slice false (.ref l) (.int q u) = operate [.ref l, .int q u] (getItem (.ref l) (.int q u)) := by with_unfolding_all rfl) :
    wpAny (model prog w) A (subscriptTail value slice (.ref l) (.int q u)) Q E s := by
  have hlen := hs.len_eq
  obtain ⟨v, hv⟩ : ∃ v, vs[q.toNat]? = some v := ⟨vs[q.toNat]'(by omega), List.getElem?_eq_getElem (by omega)⟩
  obtain ⟨p, t, rfl, hp⟩ := StrsAre.item hs _ v hv
  exact tail_any hl.typeIs slot_list_getitem.lookup (wpAny_getItem_list hl h0 (by omega) (by simpa using hv) (h p t (txOk_of (List.all_eq_true.mp hz p (List.mem_of_getElem? hp))))) hsub
end
theorem news_tail8 {h₀ h : Heap} {L : Addr} {p q a : Addr × Obj} {l : List (Addr × Obj)} (N : News h₀ L h (p :: q :: a :: l)) : News h₀ L h (p :: q :: l) := fun x hx => N x (by
  simp only [List.mem_cons] at hx ⊢
  rcases hx with hx | hx | hx <;> simp only [hx, true_or, or_true])
theorem news_tail9 {h₀ h : Heap} {L : Addr} {a p q b : Addr × Obj} {l : List (Addr × Obj)} (N : News h₀ L h (a :: p :: q :: b :: l)) : News h₀ L h (p :: q :: l) := fun x hx => N x (by
  simp only [List.mem_cons] at hx ⊢
  rcases hx with hx | hx | hx <;> simp only [hx, true_or, or_true])
theorem piece_get {l : List Str} (h : l.all (txOk 3) = true) (n : Nat) : Piece (l.getD n Str.empty) := tx_getD h n
theorem comp_end9 {h₀ h' : Heap} {L P S I C D : Addr} {m : Str → Option Value} {s₁ : Shared} {oI oC oD : Obj} {c tk : Nat} {r r' : Int} {t u tz : Tok} {q : Addr × Obj} {rest : List (Addr × Obj)} {z : Str}
    (off : LCg.Off3 I C D ((P, listOf #[.ref S, .int r t] c) :: q :: rest)) (F : Fr h₀ L h' m) (N : News h₀ L h' ((P, listOf #[.ref S, .int r' u] c) :: q :: (I, oI) :: (C, oC) :: (D, oD) :: rest)) (hp : Piece z) :
    LCg.CompEnd h₀ L m s₁ I oI C oC D oD (fun _ => True) (fun y news' => ∃ z tz t', y = .str z tz ∧ Piece z ∧ news' = ((P, listOf #[.ref S, .int r' t'] c) :: q :: rest)) (.str z tz) { s₁ with heap := h', toks := tk } := by
  refine LCg.CompEnd.intro F N ((P, listOf #[.ref S, .int r' u] c) :: q :: rest) (fun p h => ?_) off trivial ⟨z, tz, u, rfl, hp, rfl⟩
  simp only [List.mem_cons] at h ⊢
  rcases h with h | h | h | h | h | h <;> simp only [h, true_or, or_true]
-- B1
abbrev BIo (b : Bool) (q : Int) (t : Tok) (c : Nat) : Obj := { cls := .type "tuple", data := .seq #[.bool b, .int q t] c }
def RetBI (b : Bool) (q : Int) (news : List (Addr × Obj)) (v : Value) (n : List (Addr × Obj)) : Prop :=
  ∃ D t c, v = .ref D ∧ (D, BIo b q t c) :: news = n ∧ ∀ p ∈ news, p.1 < D
theorem ret_BI {Q : Value → Shared → Prop} {h₀ : Heap} {L : Addr} {m : Str → Option Value} {s : Shared} {news : List (Addr × Obj)} {b : Bool} {q : Int}
    (hret : ∀ v news' h' tk', RetBI b q news v news' → Fr h₀ L h' m → News h₀ L h' news' → Q v { s with heap := h', toks := tk' })
    {D : Addr} {h' : Heap} {tk' : Nat} {b' : Bool} {q' : Int} {t : Tok} {c : Nat} {news' : List (Addr × Obj)} (N : News h₀ L h' ((D, BIo b' q' t c) :: news')) (F : Fr h₀ L h' m) (l : ∀ p ∈ news', p.1 < D) (hs : ∀ p ∈ news, p ∈ news') (e : (b, q) = (b', q')) :
    Q (.ref D) { s with heap := h', toks := tk' } := by
  cases e
  exact hret _ _ _ _ ⟨D, t, c, rfl, rfl, fun p hp => l p (hs p hp)⟩ F fun p hp => N p (by
    rcases List.mem_cons.mp hp with rfl | h
    · exact .head _
    · exact .tail _ (hs p h))
-- B2
/-- the end of a turn of a loop over a list of texts that changes one int -/
def StrEnd (h₀ : Heap) (L : Addr) (x y : Str) (stored : List Str) (m₀ : Str → Option Value) (need : List (Addr × Obj)) (W : Int → Prop) (s₁ s₂ : Shared) : Prop :=
  ∃ h' tk m' news' a t, s₂ = { s₁ with heap := h', toks := tk } ∧ Fr h₀ L h' m' ∧ News h₀ L h' news' ∧ (∀ p ∈ need, p ∈ news') ∧ m' y = some (.int a t) ∧
    (∀ z, z ≠ x → z ≠ y → stored.contains z = false → m' z = m₀ z) ∧ W a
def StrPost (h₀ : Heap) (L : Addr) (x y : Str) (stored : List Str) (m₀ : Str → Option Value) (need : List (Addr × Obj)) (W : Int → Prop) (s₁ : Shared) (Q : Flow → Shared → Prop) (f : Flow) (s₂ : Shared) : Prop :=
  match f with
  | .ret v => Q (.ret v) s₂
  | .brk => Q .next s₂
  | _ => StrEnd h₀ L x y stored m₀ need W s₁ s₂
theorem strEnd_intro {h₀ : Heap} {L : Addr} {x y : Str} {stored : List Str} {m₀ m' : Str → Option Value} {need news' : List (Addr × Obj)} {W : Int → Prop} {s₁ : Shared} {h' : Heap} {tk : Nat} {a : Int} {t : Tok}
    (F : Fr h₀ L h' m') (N : News h₀ L h' news') (hn : ∀ p ∈ need, p ∈ news') (hy : m' y = some (.int a t)) (hs : ∀ z, z ≠ x → z ≠ y → stored.contains z = false → m' z = m₀ z) (hw : W a) :
    StrEnd h₀ L x y stored m₀ need W s₁ { s₁ with heap := h', toks := tk } := ⟨h', tk, m', news', a, t, rfl, F, N, hn, hy, hs, hw⟩
section
variable {prog : Program} {w : World} {A : Around} {E : Value → Shared → Prop} {s : Shared} {env : Env} {h₀ : Heap} {x : Str} {body : List Stmt} {Q : Flow → Shared → Prop}
theorem strs_map {x y : Str} {stored : List Str} {m₁ m₀ : Str → Option Value} {v : Value} {a : Int} {t : Tok} (hy : m₁ y = some (.int a t)) (hm : ∀ z, z ≠ x → z ≠ y → stored.contains z = false → m₁ z = m₀ z) :
    (fun z => if z = x then some v else m₁ z) = fun z => if z = x then some v else if z = y then some (.int a t) else if stored.contains z then m₁ z else m₀ z := by
  funext z
  by_cases h1 : z = x
  · simp only [if_pos h1]
  · simp only [if_neg h1]
    by_cases h2 : z = y
    · subst h2; simp only [if_true, hy]
    · simp only [if_neg h2]
      cases h3 : stored.contains z with
      | true => simp
      | false => simp only [Bool.false_eq_true, if_false]; exact hm z h1 h2 h3
theorem strs_done {x y : Str} {stored : List Str} {m₁ m₀ : Str → Option Value} {a : Int} {t : Tok} (hyx : y ≠ x) (hy : m₁ y = some (.int a t)) (hm : ∀ z, z ≠ x → z ≠ y → stored.contains z = false → m₁ z = m₀ z) :
    (fun z => if z = x then m₁ z else if z = y then some (.int a t) else if stored.contains z then m₁ z else m₀ z) = m₁ := by
  funext z
  by_cases h1 : z = x
  · simp only [if_pos h1]
  · simp only [if_neg h1]
    by_cases h2 : z = y
    · subst h2; simp only [if_true, hy]
    · simp only [if_neg h2]
      cases h3 : stored.contains z with
      | true => simp
      | false => simp only [Bool.false_eq_true, if_false]; exact (hm z h1 h2 h3).symm
theorem loop_strs {l : Addr} {vs : List Value} {parts : List Str} {nn : Nat} {m₀ : Str → Option Value} {news : List (Addr × Obj)} (y : Str) (stored : List Str) (W : Nat → Int → Prop) {a₀ : Int} {t₀ : Tok}
    (hh : A.handled = none) (hl : (l, listOf vs.toArray nn) ∈ news) (hi : StrsAre vs parts) (F : Fr h₀ env.locals s.heap m₀) (N : News h₀ env.locals s.heap news) (hy : m₀ y = some (.int a₀ t₀)) (hw : W 0 a₀) (hyx : y ≠ x)
    (turn : ∀ i p t a ta (u : Str → Option Value) h tk own, parts[i]? = some p → W i a →
      Fr h₀ env.locals h (fun z => if z = x then some (.str p t) else if z = y then some (.int a ta) else if stored.contains z then u z else m₀ z) → News h₀ env.locals h (news ++ own) →
      wpAny (model prog w) A (execs body env) (StrPost h₀ env.locals x y stored m₀ (news ++ own) (W (i + 1)) { s with heap := h, toks := tk } Q) E { s with heap := h, toks := tk })
    (done : ∀ a ta (u : Str → Option Value) h tk, W parts.length a → Fr h₀ env.locals h (fun z => if z = x then u z else if z = y then some (.int a ta) else if stored.contains z then u z else m₀ z) → News h₀ env.locals h news → Q .next { s with heap := h, toks := tk }) :
    wpAny (model prog w) A (pyIter (.ref l)) (fun it s₂ => LoopAtV prog w A h₀ env x body Q E it s₂) E s := by
  refine kdl_iter (fun i m nx => nx = news ∧ ∃ a t, m y = some (.int a t) ∧ (∀ z, z ≠ x → z ≠ y → stored.contains z = false → m z = m₀ z) ∧ W i a) hh hl F N ⟨rfl, a₀, t₀, hy, fun _ _ _ _ => rfl, hw⟩ ?_ ?_
  · rintro i v m₁ nx h tk own hv hoff _ ⟨rfl, a, ta, hy₁, hm, hW⟩ F₁ N₁
    obtain ⟨p, t, rfl, hp⟩ := StrsAre.item hi i v hv
    rw [strs_map hy₁ hm] at F₁
    refine wpAny_mono (turn i p t a ta m₁ h tk own hp hW F₁ N₁) (fun f s₂ q => ?_) fun _ _ e => e
    have fin : StrEnd h₀ env.locals x y stored m₀ (nx ++ own) (W (i + 1)) { s with heap := h, toks := tk } s₂ →
        InvEndG h₀ env.locals (fun m' n' => (l, listOf vs.toArray nn) ∈ n' ∧ n' = nx ∧ ∃ a t, m' y = some (.int a t) ∧ (∀ z, z ≠ x → z ≠ y → stored.contains z = false → m' z = m₀ z) ∧ W (i + 1) a) own { s with heap := h, toks := tk } s₂ := by
      rintro ⟨h', tk', m', news', a', t', e, F', N', hn, h1, h2, h3⟩
      exact ⟨h', tk', m', news', nx, e, F', N', fun p hp => hn p (List.mem_append_left _ hp), fun p hp => hn p (List.mem_append_right _ hp), hoff, hl, rfl, a', t', h1, h2, h3⟩
    cases f with
    | ret v => exact q
    | brk => exact q
    | next => exact fin q
    | cont => exact fin q
  · rintro m₁ nx h tk ⟨rfl, a, ta, hy₁, hm, hW⟩ F₁ N₁
    rw [hi.len_eq] at hW
    refine done a ta m₁ h tk hW ?_ N₁
    rw [strs_done hyx hy₁ hm]
    exact F₁
end
-- B3
def RetO (r : Option Int) (news : List (Addr × Obj)) (v : Value) (n : List (Addr × Obj)) : Prop :=
  news = n ∧ match r with
    | none => v = .none
    | some k => ∃ t, v = .int k t
section
variable {Q : Value → Shared → Prop} {h₀ h' : Heap} {L : Addr} {m : Str → Option Value} {s : Shared} {news big : List (Addr × Obj)} {r : Option Int} {tk' : Nat}
theorem ret_none (hret : ∀ v news' h' tk', RetO r news v news' → Fr h₀ L h' m → News h₀ L h' news' → Q v { s with heap := h', toks := tk' })
    (N : News h₀ L h' big) (F : Fr h₀ L h' m) (hs : ∀ p ∈ news, p ∈ big) (e : r = none) : Q .none { s with heap := h', toks := tk' } :=
  hret _ _ _ _ ⟨rfl, by rw [e]⟩ F fun p hp => N p (hs p hp)
theorem ret_some (hret : ∀ v news' h' tk', RetO r news v news' → Fr h₀ L h' m → News h₀ L h' news' → Q v { s with heap := h', toks := tk' })
    {k : Int} {t : Tok} (N : News h₀ L h' big) (F : Fr h₀ L h' m) (hs : ∀ p ∈ news, p ∈ big) (e : r = some k) : Q (.int k t) { s with heap := h', toks := tk' } :=
  hret _ _ _ _ ⟨rfl, by rw [e]; exact ⟨t, rfl⟩⟩ F fun p hp => N p (hs p hp)
end
theorem strsAre_of {vs : List Value} {l y : List Str} (e : l = y) (h : StrsAre vs l) : StrsAre vs y := e ▸ h
-- B4
abbrev ISo (r : Int) (t : Tok) (y : Str) (u : Tok) (c : Nat) : Obj := { cls := .type "tuple", data := .seq #[.int r t, .str y u] c }
def RetIS (r : Int) (y : Str) (news : List (Addr × Obj)) (v : Value) (n : List (Addr × Obj)) : Prop :=
  ∃ D t u c, v = .ref D ∧ (D, ISo r t y u c) :: news = n ∧ ∀ p ∈ news, p.1 < D
theorem ret_IS {Q : Value → Shared → Prop} {h₀ : Heap} {L : Addr} {m : Str → Option Value} {s : Shared} {news : List (Addr × Obj)} {r : Int} {y : Str}
    (hret : ∀ v news' h' tk', RetIS r y news v news' → Fr h₀ L h' m → News h₀ L h' news' → Q v { s with heap := h', toks := tk' })
    {D : Addr} {h' : Heap} {tk' : Nat} {r' : Int} {y' : Str} {t u : Tok} {c : Nat} {news' : List (Addr × Obj)} (N : News h₀ L h' ((D, ISo r' t y' u c) :: news')) (F : Fr h₀ L h' m) (l : ∀ p ∈ news', p.1 < D) (hs : ∀ p ∈ news, p ∈ news') (e : (r, y) = (r', y')) :
    Q (.ref D) { s with heap := h', toks := tk' } := by
  cases e
  exact hret _ _ _ _ ⟨D, t, u, c, rfl, rfl, fun p hp => l p (hs p hp)⟩ F fun p hp => N p (by
    rcases List.mem_cons.mp hp with rfl | h
    · exact .head _
    · exact .tail _ (hs p h))
abbrev BIIo (b : Bool) (r : Int) (t : Tok) (q : Int) (u : Tok) (c : Nat) : Obj := { cls := .type "tuple", data := .seq #[.bool b, .int r t, .int q u] c }
def RetBII (x : Bool × Int × Int) (news : List (Addr × Obj)) (v : Value) (n : List (Addr × Obj)) : Prop :=
  ∃ D t u c, v = .ref D ∧ (D, BIIo x.1 x.2.1 t x.2.2 u c) :: news = n ∧ ∀ p ∈ news, p.1 < D
theorem ret_BII {Q : Value → Shared → Prop} {h₀ : Heap} {L : Addr} {m : Str → Option Value} {s : Shared} {news : List (Addr × Obj)} {x : Bool × Int × Int}
    (hret : ∀ v news' h' tk', RetBII x news v news' → Fr h₀ L h' m → News h₀ L h' news' → Q v { s with heap := h', toks := tk' })
    {D : Addr} {h' : Heap} {tk' : Nat} {b : Bool} {r q : Int} {t u : Tok} {c : Nat} {news' : List (Addr × Obj)} (N : News h₀ L h' ((D, BIIo b r t q u c) :: news')) (F : Fr h₀ L h' m) (l : ∀ p ∈ news', p.1 < D) (hs : ∀ p ∈ news, p ∈ news') (e : x = (b, r, q)) :
    Q (.ref D) { s with heap := h', toks := tk' } := by
  cases e
  exact hret _ _ _ _ ⟨D, t, u, c, rfl, rfl, fun p hp => l p (hs p hp)⟩ F fun p hp => N p (by
    rcases List.mem_cons.mp hp with rfl | h
    · exact .head _
    · exact .tail _ (hs p h))
section
variable {prog : Program} {w : World} {A : Around} {E : Value → Shared → Prop} {s : Shared} {x : Str} {t u : Tok} {Q : Value → Shared → Prop} {h₀ : Heap} {L : Addr} {m : Str → Option Value} {news : List (Addr × Obj)}
theorem line_of_good (hg : Good x) : x.length ≤ sizeLine := by rw [sizeLine_eq]; have := hg.1; omega
theorem strip_gen (hg : Good x) (h : ∀ y t' k, y = Txt.stripChars x (Str.ofString " ") → Good y → y.length ≤ 400 → Q (.str y t') { s with toks := k }) :
    wpAny (model prog w) A (call (.builtin "str.strip") [.str x t, .str (Str.ofString " ") u]) Q E s :=
  SCL.stripChars (hsz := line_of_good hg) fun t' k _ => h _ t' k rfl (good_strip hg) (good_strip hg).1
theorem lower_gen (hg : Good x) (h : ∀ y t' k, y = lowS x → Good y → y.length ≤ 400 → Q (.str y t') { s with toks := k }) :
    wpAny (model prog w) A (call (.builtin "str.lower") [.str x t]) Q E s :=
  SCL.lower (by have := hg.1; omega) fun _ => h _ _ _ (lower_low hg.2) (good_lower hg) (good_lower hg).1
theorem part_gen {y : Str} (hg : Good x) (F : Fr h₀ L s.heap m) (N : News h₀ L s.heap news) (hy : (y.length == 0) = false)
    (h : ∀ a b c D ta tb tc h' k, (a, b, c) = Txt.partition x y → Good a → a.length ≤ 400 → Good c → c.length ≤ 400 → b.length ≤ 400 → Fr h₀ L h' m → News h₀ L h' ((D, { cls := .type "tuple", data := .seq #[.str a ta, .str b tb, .str c tc] }) :: news) → (∀ q ∈ news, q.1 < D) →
      Q (.ref D) { s with heap := h', toks := k }) :
    wpAny (model prog w) A (call (.builtin "str.partition") [.str x t, .str y u]) Q E s :=
  partitionN (hsz := line_of_good hg) F N hy fun ta tb tc h' k F' N' =>
    h (Txt.partition x y).1 (Txt.partition x y).2.1 (Txt.partition x y).2.2 _ ta tb tc h' k rfl (good_part1 hg y) (good_part1 hg y).1 (good_part3 hg y) (good_part3 hg y).1 (by have := (part_mem x y).2.2; have := hg.1; omega) F' N' fun q hq => Heap.lt_size (N q hq).1
end
theorem retO_cases {r : Option Int} {news n : List (Addr × Obj)} {v : Value} (h : RetO r news v n) : (news = n ∧ r = none ∧ v = .none) ∨ (∃ k t, news = n ∧ r = some k ∧ v = .int k t) := by
  obtain ⟨e, h⟩ := h
  cases r with
  | none => exact .inl ⟨e, rfl, h⟩
  | some k => obtain ⟨t, rfl⟩ := h; exact .inr ⟨k, t, e, rfl, rfl⟩
theorem retO_cases2 {r : Option Int} {news n : List (Addr × Obj)} {v : Value} (h : RetO r news v n) (f : ∀ k, r = some k → 0 ≤ k ∧ Bits k) : (news = n ∧ r = none ∧ v = .none) ∨ (∃ k t, news = n ∧ r = some k ∧ v = .int k t ∧ 0 ≤ k ∧ Bits k) := by
  obtain ⟨e, h⟩ := h
  cases r with
  | none => exact .inl ⟨e, rfl, h⟩
  | some k => obtain ⟨t, rfl⟩ := h; exact .inr ⟨k, t, e, rfl, rfl, f k rfl⟩
-- B11
/-- a value that is None or an int -/
def OV (r : Option Int) (v : Value) : Prop := (r = none ∧ v = .none) ∨ ∃ k t, r = some k ∧ v = .int k t
theorem retO_ov {r : Option Int} {news n : List (Addr × Obj)} {v : Value} (h : RetO r news v n) : news = n ∧ OV r v := by
  rcases retO_cases h with ⟨e, q, e'⟩ | ⟨k, t, e, q, e'⟩
  · exact ⟨e, .inl ⟨q, e'⟩⟩
  · exact ⟨e, .inr ⟨k, t, q, e'⟩⟩
-- P12
/-- what the law asks of the whole type -/
def dueInt (x : Str) (H : Int) : Option Int :=
  match literalF (signedF x).2 with
  | none => none
  | some k => if 0 - H ≤ (signedF x).1 * k ∧ (signedF x).1 * k < H then some ((signedF x).1 * k) else none
def dueQ (n d a b : Int) : Int := ((if n < 0 then -n else n) * b).fdiv (d * a)
def dueR (n d a b : Int) : Int := if (dueQ n d a b + 1) * (d * a) - (if n < 0 then -n else n) * b ≤ (if n < 0 then -n else n) * b - dueQ n d a b * (d * a) then dueQ n d a b + 1 else dueQ n d a b
def dueS (n d a b : Int) : Int := if n < 0 then 0 - dueR n d a b else dueR n d a b
/-- what the law asks of the fixed type -/
def dueFix (r : Option (Int × Int)) (a b H : Int) : Option Int :=
  match r with
  | none => none
  | some p => if 0 - H ≤ dueS p.1 p.2 a b ∧ dueS p.1 p.2 a b ≤ H then some (dueS p.1 p.2 a b) else none
theorem half_rng {q : Int} (h0 : 0 ≤ q) (h1 : q < 57) : 1 ≤ (2 : Int) ^ (7 + q).toNat ∧ (2 : Int) ^ (7 + q).toNat ≤ 2 ^ 63 := by
  obtain ⟨n, rfl⟩ : ∃ n : Nat, q = n := ⟨q.toNat, by omega⟩
  have e : (7 + (n : Int)).toNat = 7 + n := by omega
  rw [e]
  have h2 : 7 + n ≤ 63 := by omega
  have h3 : (2 : Nat) ^ (7 + n) ≤ 2 ^ 63 := Nat.pow_le_pow_right (by decide) h2
  have h4 : 0 < (2 : Nat) ^ (7 + n) := Nat.pow_pos (by decide)
  have e2 : (2 : Int) ^ (7 + n) = ((2 ^ (7 + n) : Nat) : Int) := by simp
  rw [e2]
  omega
-- D2
theorem lines_D2 : True := by
  k_with_none
  w_top off
  k_with "mine sides" => (
        (case k1 => first | k_asm | fail "mine: the frames below")
        (case k2 => first | k_asm | fail "mine: the frame")
        (case k3 => first | k_asm | fail "mine: the written part")
        (case k4 => first | k_asm | fail "mine: the ledger")
        (case k5 => first | k_asm | fail "mine: the top's facts")
        (case kK => first | exact rfl | assumption | fail "mine: the caller is no def")
        (case kd => first | ktr_room | fail "mine: the frames' room")
        (case ku => first | ktr_units | fail "mine: the C units"))
  k_with "mine one" => first | assumption | exact slice_one_len (by walk_at "mine num") | omega
  k_with "mine num" => first | assumption | decide | omega
  k_with "call ref" => (k_here; (with_reducible show wpAny _ _ (call (Value.ref 88) _) _ _ _); k_dflt (refine' use_spec (spec_small_letter _ _ _ _ ?kp) ?k1 ?k2 ?k3 ?k4 ?k5 ?kK ?kd ?ku ?_); (case kp => walk_at "mine one"); walk_at "mine sides"; intro v9 n9 h9 tk9 ok9 F9 N9; (obtain ⟨e9, t9, e9'⟩ := ok9); subst e9; subst e9'; (try dsimp only); (try k_fold))
  k_with "mine tup" => (intro v9 n9 h9 tk9 ok9 F9 N9; (obtain ⟨⟨D9, t9, u9, c9, e9, e9', l9⟩, f9⟩ := ok9); subst e9; subst e9'; (try k_lt l9); (obtain ⟨f7, f8, f9⟩ := f9); (try dsimp only); (try k_fold))
  k_with "mine l" => first | assumption | exact lt1 (by assumption) | exact lt2 (by assumption) | exact lt3 (by assumption) | exact lt4 (by assumption)
  k_with "mine sub" => first | exact sub0 _ | exact sub1 (sub0 _) | exact sub1 (sub1 (sub0 _)) | exact sub1 (sub1 (sub1 (sub0 _))) | exact sub1 (sub1 (sub1 (sub1 (sub0 _))))
  k_with "getMethod type:Exception" => (k_here; refine' method_type ?F ?X ?m (by decide +kernel) ?e ?h ?_; (case F => k_asm); (case X => k_asm); (case m => exact meta_Exc); (case e => k_dflt k_is); (case h => k_handed))
  k_with "call builtin:Exception.__init__" => (k_here; k_dflt (refine' init_N ?F ?N ?ne PySem.F.excBase_Exception ?hB (at51 ?X) ?l ?_; (case F => k_asm); (case N => k_asm); (case ne => assumption); (case hB => rfl); (case X => k_asm); (case l => size_fits); k_whole); intro t9 h9 F9 N9)
  k_with "setAttr ref" => (k_here; k_dflt (first
      | (refine' set_exc0 ?F ?X ?N ?ne ?hs (excCls51 _) ?hf ?_; (case F => k_asm); (case X => k_asm); (case N => k_asm); (case ne => assumption); (case hs => k_is); (case hf => k_is); k_whole; intro h9 tk9 dx9 od9 F9 N9 d9 e9 l9)
      | (refine' set_exc1 ?F ?X ?N ?d ?de ?dn ?k ?hs (excCls51 _) ?hf ?_; (case F => k_asm); (case X => k_asm); (case N => k_asm); (case d => assumption); (case de => assumption); (case dn => assumption); (case k => decide); (case hs => k_is); (case hf => k_is); k_whole; intro h9 tk9 od9 F9 N9 d9)))
  k_with "call ref" => (k_here; (with_reducible show wpAny _ _ (call (Value.ref 28) _) _ _ _); k_dflt (refine' use_spec (spec_e_init _ _ _ _ _ _ ?p1) ?k1 ?k2 ?k3 ?k4 ?k5 ?kK ?kd ?ku ?_); (case p1 => assumption); walk_at "mine sides"; intro v9 n9 h9 tk9 ok9 F9 N9; (obtain ⟨e9, t9, dx9, od9, e9', d9, g9, l9⟩ := ok9); subst e9; subst e9'; (try dsimp only); (try k_fold))
  trivial
theorem spec_e_init (w : World) (e tt : Addr) (x : Str) (t : Tok) (news : List (Addr × Obj)) (hne : ∀ p ∈ news, p.1 ≠ e)  :
   Spec w 28 [.ref e, .str x t] ((e, excD 51 none tt) :: news) 2 (fun v n => v = .none ∧ ∃ t' dx od, n = ((e, excD 51 (some dx) t') :: (dx, od) :: news) ∧ DictN od 1 ∧ dx ≠ e ∧ ∀ p ∈ news, p.1 ≠ dx) := by
  unfold Spec
  k_fill
  intros
  rename_i hret
  refine done_in ?_
  refine wpAny_call ?_
  k_dflt cell_enter
  k_steps
  all_goals (try dsimp only [Done])
  exact hret _ _ _ _ ⟨rfl, _, _, _, rfl, by assumption, by assumption, by assumption⟩ (by k_asm) (by k_asm)
theorem spec_r_init (w : World) (e tt : Addr) (n x : Str) (l : Int) (t t₁ t₂ : Tok) (news : List (Addr × Obj)) (hne : ∀ p ∈ news, p.1 ≠ e)  :
   Spec w 48 [.ref e, .str n t₁, .int l t₂, .str x t] ((e, excD 51 none tt) :: news) 3 (fun v n => v = .none ∧ ∃ t' dx od, n = ((e, excD 51 (some dx) t') :: (dx, od) :: news) ∧ DictN od 4 ∧ dx ≠ e ∧ ∀ p ∈ news, p.1 ≠ dx) := by
  unfold Spec
  k_fill
  intros
  rename_i hret
  refine done_in ?_
  refine wpAny_call ?_
  k_dflt cell_enter
  k_steps
  all_goals (try dsimp only [Done])
  exact hret _ _ _ _ ⟨rfl, _, _, _, rfl, by assumption, by assumption, by assumption⟩ (by k_asm) (by k_asm)
-- R1
theorem lines_R1 : True := by
  k_with_none
  w_top off
  k_with "mine sides" => (
        (case k1 => first | k_asm | fail "mine: the frames below")
        (case k2 => first | k_asm | fail "mine: the frame")
        (case k3 => first | k_asm | fail "mine: the written part")
        (case k4 => first | k_asm | fail "mine: the ledger")
        (case k5 => first | k_asm | fail "mine: the top's facts")
        (case kK => first | exact rfl | assumption | fail "mine: the caller is no def")
        (case kd => first | ktr_room | fail "mine: the frames' room")
        (case ku => first | ktr_units | fail "mine: the C units"))
  k_with "mine one" => first | assumption | exact slice_one_len (by walk_at "mine num") | omega
  k_with "mine num" => first | assumption | decide | omega
  k_with "call ref" => (k_here; (with_reducible show wpAny _ _ (call (Value.ref 88) _) _ _ _); k_dflt (refine' use_spec (spec_small_letter _ _ _ _ ?kp) ?k1 ?k2 ?k3 ?k4 ?k5 ?kK ?kd ?ku ?_); (case kp => walk_at "mine one"); walk_at "mine sides"; intro v9 n9 h9 tk9 ok9 F9 N9; (obtain ⟨e9, t9, e9'⟩ := ok9); subst e9; subst e9'; (try dsimp only); (try k_fold))
  k_with "mine tup" => (intro v9 n9 h9 tk9 ok9 F9 N9; (obtain ⟨⟨D9, t9, u9, c9, e9, e9', l9⟩, f9⟩ := ok9); subst e9; subst e9'; (try k_lt l9); (obtain ⟨f7, f8, f9⟩ := f9); (try dsimp only); (try k_fold))
  k_with "mine l" => first | assumption | exact lt1 (by assumption) | exact lt2 (by assumption) | exact lt3 (by assumption) | exact lt4 (by assumption)
  k_with "mine sub" => first | exact sub0 _ | exact sub1 (sub0 _) | exact sub1 (sub1 (sub0 _)) | exact sub1 (sub1 (sub1 (sub0 _))) | exact sub1 (sub1 (sub1 (sub1 (sub0 _))))
  k_with "getMethod type:Exception" => (k_here; refine' method_type ?F ?X ?m (by decide +kernel) ?e ?h ?_; (case F => k_asm); (case X => k_asm); (case m => exact meta_Exc); (case e => k_dflt k_is); (case h => k_handed))
  k_with "call builtin:Exception.__init__" => (k_here; k_dflt (refine' init_N ?F ?N ?ne PySem.F.excBase_Exception ?hB (at51 ?X) ?l ?_; (case F => k_asm); (case N => k_asm); (case ne => assumption); (case hB => rfl); (case X => k_asm); (case l => size_fits); k_whole); intro t9 h9 F9 N9)
  k_with "setAttr ref" => (k_here; k_dflt (first
      | (refine' set_exc0 ?F ?X ?N ?ne ?hs (excCls51 _) ?hf ?_; (case F => k_asm); (case X => k_asm); (case N => k_asm); (case ne => assumption); (case hs => k_is); (case hf => k_is); k_whole; intro h9 tk9 dx9 od9 F9 N9 d9 e9 l9)
      | (refine' set_exc1 ?F ?X ?N ?d ?de ?dn ?k ?hs (excCls51 _) ?hf ?_; (case F => k_asm); (case X => k_asm); (case N => k_asm); (case d => assumption); (case de => assumption); (case dn => assumption); (case k => decide); (case hs => k_is); (case hf => k_is); k_whole; intro h9 tk9 od9 F9 N9 d9)))
  k_with "exec Raise some none" => (k_here; k_dflt (refine' Raise_own_call (C := 51) ?hh ?_; (case hh => rfl); k_whole))
  k_with "call ref" => (k_here; (with_reducible show wpAny _ _ (call (Value.ref 51) _) _ _ _); k_dflt (refine' make51 ?F ?X ?N ?f ?l ?_; (case F => k_asm); (case X => k_asm); (case N => k_asm); (case f => k_is); (case l => size_fits); k_whole); intro e9 t9 h9 F9 N9 ne9)
  k_with "call ref" => (k_here; (with_reducible show wpAny _ _ (call (Value.ref 48) _) _ _ _); k_dflt (refine' use_spec (spec_r_init _ _ _ _ _ _ _ _ _ _ ?p1) ?k1 ?k2 ?k3 ?k4 ?k5 ?kK ?kd ?ku ?_); (case p1 => assumption); (case kd => (simp only [w_tc]; ktr_room)); (case ku => (simp only [u_tc]; ktr_units)); (case k1 => k_asm); (case k2 => k_asm); (case k3 => k_asm); (case k4 => k_asm); (case k5 => k_asm); (case kK => exact rfl); intro v9 n9 h9 tk9 ok9 F9 N9; (obtain ⟨e9, t9, dx9, od9, e9', d9, g9, l9⟩ := ok9); subst e9; subst e9'; (refine ⟨rfl, ?_⟩); (try dsimp only); (try k_fold))
  trivial
theorem spec_refuse (w : World) (x : Str) (t : Tok) (news : List (Addr × Obj)) :
   SpecX w 60 [.str x t] news 5 (fun _ _ => False) True := by
  unfold SpecX
  k_fill
  intros
  rename_i hret hexc
  refine done_in ?_
  refine wpAny_call ?_
  k_dflt cell_enter
  k_steps
  all_goals (try dsimp only [Done])
  k_dflt (refine raiseOk51 (by k_asm) (by k_asm) (by k_asm) ?_)
  k_dflt (refine leave_ownS (by assumption) (by k_asm) (news_skip (by k_asm)) (by assumption) (fun h' R U => ?_))
  exact hexc trivial _ _ _ _ (by assumption) R U
-- P13
/-- where the first if of a turn of figures_at leaves the end -/
def SkipV (x : Str) (at_ e e' : Int) : Prop :=
  (e' = e + 1 ∧ at_ < e ∧ (Txt.item x e == Str.ofString "_") = true ∧ e + 1 < x.length) ∨
  (e' = e ∧ ((Txt.item x e == Str.ofString "_") = false ∨ ¬ at_ < e ∨ ¬ e + 1 < x.length))
def SkipW {x : Str} {at_ b n e : Int} (_ : FigW x at_ b n e) (e' : Int) : Prop := SkipV x at_ e e'
theorem SkipV.rng {x : Str} {at_ e e' : Int} (V : SkipV x at_ e e') (h : e < x.length) : e ≤ e' ∧ e' < x.length := by
  rcases V with ⟨rfl, _, _, h⟩ | ⟨rfl, _⟩
  · exact ⟨Int.le_of_lt (Int.lt_add_one_of_le (Int.le_refl _)), h⟩
  · exact ⟨Int.le_refl _, h⟩
theorem skip_rng {x : Str} {at_ b n e e' : Int} {W : FigW x at_ b n e} (V : SkipW W e') (h : e < x.length) : e ≤ e' ∧ e' < x.length := SkipV.rng V h
section
variable {x : Str} {at_ b n e e' : Int}
theorem skip_yes (W : FigW x at_ b n e) (hu : (Txt.item x e == Str.ofString "_") = true) (he : at_ < e) (h1 : e + 1 < x.length) : SkipW W (e + 1) := .inl ⟨rfl, he, hu, h1⟩
theorem skip_n1 (W : FigW x at_ b n e) (hu : (Txt.item x e == Str.ofString "_") = false) : SkipW W e := .inr ⟨rfl, .inl hu⟩
theorem skip_n2 (W : FigW x at_ b n e) (he : ¬ at_ < e) : SkipW W e := .inr ⟨rfl, .inr (.inl he)⟩
theorem skip_n3 (W : FigW x at_ b n e) (h1 : ¬ e + 1 < x.length) : SkipW W e := .inr ⟨rfl, .inr (.inr h1)⟩
theorem skip_no (W : FigW x at_ b n e) (he : at_ < e) (hu : (Txt.item x (e - 1) != Str.ofString "_") = false) : SkipW W e := fig_absurd3 W he hu
theorem skip_step (hx : Ascii x) (h0 : 0 ≤ at_) (he : at_ ≤ e) (W : FigW x at_ b n e) (h1 : e < x.length) (V : SkipW W e')
    (hf : ¬ Txt.find (Str.ofString "0123456789abcdef") (lowS (Txt.item x e')) < 0) (hb : ¬ b ≤ Txt.find (Str.ofString "0123456789abcdef") (lowS (Txt.item x e'))) :
    at_ ≤ e' + 1 ∧ (e' + 1 ≤ at_ ∨ e' + 1 ≤ x.length) ∧ FigW x at_ b ((if 0 > n then 0 else n) * b + Txt.find (Str.ofString "0123456789abcdef") (lowS (Txt.item x e'))) (e' + 1) := by
  rcases V with ⟨rfl, ha, hu, h2⟩ | ⟨rfl, _⟩
  · exact figP_skip hx h0 W ha hu h2 hf hb
  · exact figP_step hx h0 he W h1 hf hb
/-- a break, the sign ahead of the end a low line -/
theorem skip_brk1 (hx : Ascii x) (h0 : 0 ≤ at_) (W : FigW x at_ b n e) (V : SkipW W e')
    (hf : Txt.find (Str.ofString "0123456789abcdef") (lowS (Txt.item x e')) < 0 ∨ b ≤ Txt.find (Str.ofString "0123456789abcdef") (lowS (Txt.item x e'))) (ha' : at_ < e') (hu' : (Txt.item x (e' - 1) == Str.ofString "_") = true) : figAt x at_ b = (-1, at_) := by
  rcases V with ⟨rfl, ha, hu, h2⟩ | ⟨rfl, _⟩
  · exact fig_fail hx h0 W ha hu h2 hf
  · exact fig_absurd W ha' hu'
theorem skip_brk2 (hx : Ascii x) (h0 : 0 ≤ at_) (he : at_ ≤ e) (W : FigW x at_ b n e) (h1 : e < x.length) (V : SkipW W e')
    (hf : Txt.find (Str.ofString "0123456789abcdef") (lowS (Txt.item x e')) < 0 ∨ b ≤ Txt.find (Str.ofString "0123456789abcdef") (lowS (Txt.item x e'))) (hu' : (Txt.item x (e' - 1) == Str.ofString "_") = false ∨ ¬ at_ < e') : figAt x at_ b = (n, e') := by
  rcases V with ⟨rfl, ha, hu, h2⟩ | ⟨rfl, h3⟩
  · rcases hu' with hu' | hu'
    · exact fig_absurd2 hu hu'
    · exact absurd (Int.lt_add_one_of_le (Int.le_of_lt ha)) hu'
  · exact fig_stop hx h0 he W h1 hf h3
end
-- C2
theorem lines_C2 : True := by
  k_with_none
  w_top off
  k_with "mine sides" => (
        (case k1 => first | k_asm | fail "mine: the frames below")
        (case k2 => first | k_asm | fail "mine: the frame")
        (case k3 => first | k_asm | fail "mine: the written part")
        (case k4 => first | k_asm | fail "mine: the ledger")
        (case k5 => first | k_asm | fail "mine: the top's facts")
        (case kK => first | exact rfl | assumption | fail "mine: the caller is no def")
        (case kd => first | ktr_room | fail "mine: the frames' room")
        (case ku => first | ktr_units | fail "mine: the C units"))
  k_with "mine one" => first | assumption | exact slice_one_len (by walk_at "mine num") | omega
  k_with "mine num" => first | assumption | decide | omega
  k_with "call ref" => (k_here; (with_reducible show wpAny _ _ (call (Value.ref 88) _) _ _ _); k_dflt (refine' use_spec (spec_small_letter _ _ _ _ ?kp) ?k1 ?k2 ?k3 ?k4 ?k5 ?kK ?kd ?ku ?_); (case kp => walk_at "mine one"); walk_at "mine sides"; intro v9 n9 h9 tk9 ok9 F9 N9; (obtain ⟨e9, t9, e9'⟩ := ok9); subst e9; subst e9'; (try dsimp only); (try k_fold))
  k_with "mine tup" => (intro v9 n9 h9 tk9 ok9 F9 N9; (obtain ⟨⟨D9, t9, u9, c9, e9, e9', l9⟩, f9⟩ := ok9); subst e9; subst e9'; (try k_lt l9); (obtain ⟨f7, f8, f9⟩ := f9); (try dsimp only); (try k_fold))
  k_with "mine l" => first | assumption | exact lt1 (by assumption) | exact lt2 (by assumption) | exact lt3 (by assumption) | exact lt4 (by assumption)
  k_with "mine sub" => first | exact sub0 _ | exact sub1 (sub0 _) | exact sub1 (sub1 (sub0 _)) | exact sub1 (sub1 (sub1 (sub0 _))) | exact sub1 (sub1 (sub1 (sub1 (sub0 _))))
  trivial
theorem spec_figures_at (w : World) (x : Str) (at_ base : Int) (t ta tb : Tok) (news : List (Addr × Obj)) (hg : Good x) (ha : 0 ≤ at_) (ha' : at_ ≤ 2000) (hb : 2 ≤ base) (hb' : base ≤ 16) :
   Spec w 95 [.str x t, .int at_ ta, .int base tb] news 2 (RetT2 (figAt x at_ base).1 (figAt x at_ base).2 news) := by
  unfold Spec
  k_fill
  have hx := hg.1
  have hA := hg.2
  intros
  rename_i hret
  refine done_in ?_
  refine wpAny_call ?_
  k_dflt cell_enter
  k_with "exec While Compare cons nil" => k_while (fun _ n e => at_ ≤ e ∧ (e ≤ at_ ∨ e ≤ x.length) ∧ FigW x at_ base n e) (fun _ n e => ((x.length : Int) + 1 - e).toNat) "number" "end"
  k_with "state" => with_reducible first
    | exact figP_start _ _ _
    | exact skip_step (by assumption) ha (by assumption) (by assumption) (by assumption) (by assumption) (by assumption) (by assumption)
   
  k_with "execs cons" => ((with_reducible show wpAny _ _ (execs (Stmt.If (PySem.Expr.BoolOp PySem.BoolOp.And [_, _, _, _] _) _ _ _ :: _) _) _ _ _); (with_reducible rename FigW _ _ _ _ _ => W9); (with_reducible rename News _ _ _ _ => lN9); (with_reducible rename Fr _ _ _ _ => lF9); focus ((k_dflt (refine' seq_gN (α := Int × Tok) (fun m a y => if y = Str.ofString "end" then some (.int a.1 a.2) else m y) (fun a => SkipW W9 a.1) lF9 lN9 ?_ ?_)); rotate_left; (rintro ⟨e9, t9⟩ h9 tk9 V9 F9 N9); (dsimp only at V9 F9); (have r9 := skip_rng V9 (by with_reducible assumption)); (have r8 := r9.1); (have r7 := r9.2); (clear lF9 lN9); rotate_left))
  k_with "StEnd" => first
    | exact midG ⟨_, _⟩ (by k_asm) (by k_asm) (fun _ => rfl) (skip_yes _ (by with_reducible assumption) (by with_reducible assumption) (by with_reducible assumption))
    | exact midG ⟨_, _⟩ (by k_asm) (by k_asm) (same_map rfl) (skip_n1 _ (by with_reducible assumption))
    | exact midG ⟨_, _⟩ (by k_asm) (by k_asm) (same_map rfl) (skip_n2 _ (by with_reducible assumption))
    | exact midG ⟨_, _⟩ (by k_asm) (by k_asm) (same_map rfl) (skip_n3 _ (by with_reducible assumption))
    | exact midG ⟨_, _⟩ (by k_asm) (by k_asm) (same_map rfl) (skip_no _ (by with_reducible assumption) (by with_reducible assumption))
   
  k_steps
  all_goals (try dsimp only [Done])
  all_goals (refine ret_T2 hret (by k_asm) (by k_asm) (by assumption) (sub0 _) ?_)
  all_goals with_reducible first
    | exact figP_end ha (by assumption) (by assumption) (by assumption)
    | exact skip_brk1 (by assumption) ha (by assumption) (by assumption) (.inl (by assumption)) (by assumption) (by assumption)
    | exact skip_brk1 (by assumption) ha (by assumption) (by assumption) (.inr (by assumption)) (by assumption) (by assumption)
    | exact skip_brk2 (by assumption) ha (by assumption) (by assumption) (by assumption) (by assumption) (.inl (by assumption)) (.inl (by assumption))
    | exact skip_brk2 (by assumption) ha (by assumption) (by assumption) (by assumption) (by assumption) (.inl (by assumption)) (.inr (by assumption))
    | exact skip_brk2 (by assumption) ha (by assumption) (by assumption) (by assumption) (by assumption) (.inr (by assumption)) (.inl (by assumption))
    | exact skip_brk2 (by assumption) ha (by assumption) (by assumption) (by assumption) (by assumption) (.inr (by assumption)) (.inr (by assumption))
    | exact fig_absurd (by assumption) (by assumption) (by assumption)
theorem spec_fig (w : World) (x : Str) (at_ base : Int) (t ta tb : Tok) (news : List (Addr × Obj)) (hg : Good x) (ha : 0 ≤ at_) (ha' : at_ ≤ 2000) (hb : 2 ≤ base) (hb' : base ≤ 16) :
   Spec w 95 [.str x t, .int at_ ta, .int base tb] news 2 (fun v n => RetT2 (figAt x at_ base).1 (figAt x at_ base).2 news v n ∧ at_ ≤ (figAt x at_ base).2 ∧ ((figAt x at_ base).2 ≤ at_ ∨ (figAt x at_ base).2 ≤ x.length) ∧ Bits (figAt x at_ base).1) :=
  (spec_figures_at w x at_ base t ta tb news hg ha ha' hb hb').mono fun _ _ h => ⟨h, (figAt_rng ha).1, (figAt_rng ha).2, .of (figAt_bits hg.1 hb hb')⟩
-- C3
theorem lines_C3 : True := by
  k_with_none
  w_top off
  k_with "mine sides" => (
        (case k1 => first | k_asm | fail "mine: the frames below")
        (case k2 => first | k_asm | fail "mine: the frame")
        (case k3 => first | k_asm | fail "mine: the written part")
        (case k4 => first | k_asm | fail "mine: the ledger")
        (case k5 => first | k_asm | fail "mine: the top's facts")
        (case kK => first | exact rfl | assumption | fail "mine: the caller is no def")
        (case kd => first | ktr_room | fail "mine: the frames' room")
        (case ku => first | ktr_units | fail "mine: the C units"))
  k_with "mine one" => first | assumption | exact slice_one_len (by walk_at "mine num") | omega
  k_with "mine num" => first | assumption | decide | omega
  k_with "call ref" => (k_here; (with_reducible show wpAny _ _ (call (Value.ref 88) _) _ _ _); k_dflt (refine' use_spec (spec_small_letter _ _ _ _ ?kp) ?k1 ?k2 ?k3 ?k4 ?k5 ?kK ?kd ?ku ?_); (case kp => walk_at "mine one"); walk_at "mine sides"; intro v9 n9 h9 tk9 ok9 F9 N9; (obtain ⟨e9, t9, e9'⟩ := ok9); subst e9; subst e9'; (try dsimp only); (try k_fold))
  k_with "mine tup" => (intro v9 n9 h9 tk9 ok9 F9 N9; (obtain ⟨⟨D9, t9, u9, c9, e9, e9', l9⟩, f9⟩ := ok9); subst e9; subst e9'; (try k_lt l9); (obtain ⟨f7, f8, f9⟩ := f9); (try dsimp only); (try k_fold))
  k_with "call ref" => (k_here; (with_reducible show wpAny _ _ (call (Value.ref 95) _) _ _ _); k_dflt (refine' use_spec (spec_fig _ _ _ _ _ _ _ _ ?p1 ?p2 ?p3 ?p4 ?p5) ?k1 ?k2 ?k3 ?k4 ?k5 ?kK ?kd ?ku ?_); (case p1 => assumption); (case p2 => walk_at "mine num"); (case p3 => walk_at "mine num"); (case p4 => walk_at "mine num"); (case p5 => walk_at "mine num"); walk_at "mine sides"; walk_at "mine tup")
  k_with "mine l" => first | assumption | exact lt1 (by assumption) | exact lt2 (by assumption) | exact lt3 (by assumption) | exact lt4 (by assumption)
  k_with "mine sub" => first | exact sub0 _ | exact sub1 (sub0 _) | exact sub1 (sub1 (sub0 _)) | exact sub1 (sub1 (sub1 (sub0 _))) | exact sub1 (sub1 (sub1 (sub1 (sub0 _))))
  trivial
theorem spec_exponent_at (w : World) (x : Str) (at_ : Int) (t ta : Tok) (news : List (Addr × Obj)) (hg : Good x) (ha : 0 ≤ at_) (ha' : at_ ≤ 1000) :
   Spec w 102 [.str x t, .int at_ ta] news 3 (RetT2 (expAt x at_).1 (expAt x at_).2 news) := by
  unfold Spec
  k_fill
  have hx := hg.1
  intros
  rename_i hret
  refine done_in ?_
  refine wpAny_call ?_
  k_dflt cell_enter
  k_steps
  all_goals (try dsimp only [Done])
  all_goals (refine ret_T2 hret (by k_asm) (by k_asm) (by walk_at "mine l") (by first | exact sub0 _ | exact sub1 (sub0 _)) ?_)
  all_goals with_reducible first
    | exact exp_no ha (by assumption)
    | exact exp_bad ha (by assumption) (exp_b1 ha (by assumption)) (.inl (by assumption))
    | exact exp_bad ha (by assumption) (exp_b1 ha (by assumption)) (.inr (by assumption))
    | exact exp_bad ha (by assumption) (exp_b2 ha (by assumption)) (.inl (by assumption))
    | exact exp_bad ha (by assumption) (exp_b2 ha (by assumption)) (.inr (by assumption))
    | exact exp_good ha (by assumption) (exp_b1 ha (by assumption)) (by assumption) (by assumption)
    | exact exp_good ha (by assumption) (exp_b2 ha (by assumption)) (by assumption) (by assumption)
theorem spec_exp (w : World) (x : Str) (at_ : Int) (t ta : Tok) (news : List (Addr × Obj)) (hg : Good x) (ha : 0 ≤ at_) (ha' : at_ ≤ 1000) :
   Spec w 102 [.str x t, .int at_ ta] news 3 (fun v n => RetT2 (expAt x at_).1 (expAt x at_).2 news v n ∧ at_ ≤ (expAt x at_).2 ∧ ((expAt x at_).2 ≤ at_ + 2 ∨ (expAt x at_).2 ≤ x.length) ∧ (expAt x at_).1 ≤ 400) :=
  (spec_exponent_at w x at_ t ta news hg ha ha').mono fun _ _ h => ⟨h, expAt_rng ha⟩
-- C4
theorem lines_C4 : True := by
  k_with_none
  w_top off
  k_with "mine sides" => (
        (case k1 => first | k_asm | fail "mine: the frames below")
        (case k2 => first | k_asm | fail "mine: the frame")
        (case k3 => first | k_asm | fail "mine: the written part")
        (case k4 => first | k_asm | fail "mine: the ledger")
        (case k5 => first | k_asm | fail "mine: the top's facts")
        (case kK => first | exact rfl | assumption | fail "mine: the caller is no def")
        (case kd => first | ktr_room | fail "mine: the frames' room")
        (case ku => first | ktr_units | fail "mine: the C units"))
  k_with "mine one" => first | assumption | exact slice_one_len (by walk_at "mine num") | omega
  k_with "mine num" => first | assumption | decide | omega
  k_with "call ref" => (k_here; (with_reducible show wpAny _ _ (call (Value.ref 88) _) _ _ _); k_dflt (refine' use_spec (spec_small_letter _ _ _ _ ?kp) ?k1 ?k2 ?k3 ?k4 ?k5 ?kK ?kd ?ku ?_); (case kp => walk_at "mine one"); walk_at "mine sides"; intro v9 n9 h9 tk9 ok9 F9 N9; (obtain ⟨e9, t9, e9'⟩ := ok9); subst e9; subst e9'; (try dsimp only); (try k_fold))
  k_with "mine tup" => (intro v9 n9 h9 tk9 ok9 F9 N9; (obtain ⟨⟨D9, t9, u9, c9, e9, e9', l9⟩, f9⟩ := ok9); subst e9; subst e9'; (try k_lt l9); (obtain ⟨f7, f8, f9⟩ := f9); (try dsimp only); (try k_fold))
  k_with "call ref" => (k_here; (with_reducible show wpAny _ _ (call (Value.ref 95) _) _ _ _); k_dflt (refine' use_spec (spec_fig _ _ _ _ _ _ _ _ ?p1 ?p2 ?p3 ?p4 ?p5) ?k1 ?k2 ?k3 ?k4 ?k5 ?kK ?kd ?ku ?_); (case p1 => assumption); (case p2 => walk_at "mine num"); (case p3 => walk_at "mine num"); (case p4 => walk_at "mine num"); (case p5 => walk_at "mine num"); walk_at "mine sides"; walk_at "mine tup")
  k_with "mine l" => first | assumption | exact lt1 (by assumption) | exact lt2 (by assumption) | exact lt3 (by assumption) | exact lt4 (by assumption)
  k_with "mine sub" => first | exact sub0 _ | exact sub1 (sub0 _) | exact sub1 (sub1 (sub0 _)) | exact sub1 (sub1 (sub1 (sub0 _))) | exact sub1 (sub1 (sub1 (sub1 (sub0 _))))
  k_with "call ref" => (k_here; (with_reducible show wpAny _ _ (call (Value.ref 102) _) _ _ _); k_dflt (refine' use_spec (spec_exp _ _ _ _ _ _ ?p1 ?p2 ?p3) ?k1 ?k2 ?k3 ?k4 ?k5 ?kK ?kd ?ku ?_); (case p1 => assumption); (case p2 => walk_at "mine num"); (case p3 => walk_at "mine num"); walk_at "mine sides"; walk_at "mine tup")
  k_with "binaryOp Mult int int" => refine mul_int ?_ (lit_mul (by with_reducible assumption) (by first | decide | with_reducible assumption) (by first | decide | with_reducible assumption) (by with_reducible assumption))
  k_with "mine sub" => first | exact sub0 _ | exact sub1 (sub0 _) | exact sub1 (sub1 (sub0 _)) | exact sub1 (sub1 (sub1 (sub0 _))) | exact sub1 (sub1 (sub1 (sub1 (sub0 _))))
  k_with "subscriptTail Name Constant str int" => (refine item_str (by decide) (item0_lo _) (first_in (by with_reducible assumption) (by decide +kernel)) ?_; intro _)
  trivial
theorem spec_literal_at (w : World) (x : Str) (at_ : Int) (t ta : Tok) (news : List (Addr × Obj)) (hg : Good x) (ha : 0 ≤ at_) (ha' : at_ ≤ 400) :
   Spec w 109 [.str x t, .int at_ ta] news 4 (RetT2 (litAt x at_).1 (litAt x at_).2 news) := by
  unfold Spec
  k_fill
  have hx := hg.1
  intros
  rename_i hret
  refine done_in ?_
  refine wpAny_call ?_
  k_dflt cell_enter
  k_steps
  all_goals (try dsimp only [Done])
  all_goals (refine ret_T2 hret (by k_asm) (by k_asm) (by walk_at "mine l") (by first | exact sub0 _ | exact sub1 (sub0 _) | exact sub1 (sub1 (sub0 _)) | exact sub1 (sub1 (sub1 (sub0 _)))) ?_)
  all_goals with_reducible first
    | exact lit_base ha (by assumption) (by assumption) (.inl (by assumption))
    | exact lit_base ha (by assumption) (by assumption) (.inr (by assumption))
    | exact lit_b1 ha (by assumption) (by assumption) (by assumption) (by assumption) (by assumption)
    | exact lit_b2 ha (by assumption) (by assumption) (by assumption) (by assumption) (by assumption)
    | exact lit_b3 ha (by assumption) (by assumption) (by assumption) (by assumption) (by assumption) (by assumption) (fin_bad (.inl (by assumption)))
    | exact lit_b3 ha (by assumption) (by assumption) (by assumption) (by assumption) (by assumption) (by assumption) (fin_bad (.inr (by assumption)))
    | exact lit_b3 ha (by assumption) (by assumption) (by assumption) (by assumption) (by assumption) (by assumption) (fin_ok (by assumption) (by assumption))
    | exact lit_p1 (by assumption) (fin_bad (.inl (by assumption)))
    | exact lit_p1 (by assumption) (fin_bad (.inr (by assumption)))
    | exact lit_p1 (by assumption) (fin_ok (by assumption) (by assumption))
    | exact lit_p2 ha (by assumption) (fin_bad (.inl (by assumption)))
    | exact lit_p2 ha (by assumption) (fin_bad (.inr (by assumption)))
    | exact lit_p2 ha (by assumption) (fin_ok (by assumption) (by assumption))
    | exact lit_p2 ha (by assumption) (fin_ok (Int.not_lt.mpr (by assumption)) (by assumption))
    | exact lit_p1 (by assumption) (fin_bad (.inl (Int.not_le.mp (by assumption))))
theorem spec_lit (w : World) (x : Str) (at_ : Int) (t ta : Tok) (news : List (Addr × Obj)) (hg : Good x) (ha : 0 ≤ at_) (ha' : at_ ≤ 400) :
   Spec w 109 [.str x t, .int at_ ta] news 4 (fun v n => RetT2 (litAt x at_).1 (litAt x at_).2 news v n ∧ True ∧ True ∧ Bits4 (litAt x at_).1) :=
  (spec_literal_at w x at_ t ta news hg ha ha').mono fun _ _ h => ⟨h, trivial, trivial, .of (litAt_bits hg.1 ha)⟩
-- L1
theorem lines_L1 : True := by
  k_with_none
  w_top off
  k_with "mine sides" => (
        (case k1 => first | k_asm | fail "mine: the frames below")
        (case k2 => first | k_asm | fail "mine: the frame")
        (case k3 => first | k_asm | fail "mine: the written part")
        (case k4 => first | k_asm | fail "mine: the ledger")
        (case k5 => first | k_asm | fail "mine: the top's facts")
        (case kK => first | exact rfl | assumption | fail "mine: the caller is no def")
        (case kd => first | ktr_room | fail "mine: the frames' room")
        (case ku => first | ktr_units | fail "mine: the C units"))
  k_with "mine one" => first | assumption | exact slice_one_len (by walk_at "mine num") | omega
  k_with "mine num" => first | assumption | decide | omega
  k_with "call ref" => (k_here; (with_reducible show wpAny _ _ (call (Value.ref 88) _) _ _ _); k_dflt (refine' use_spec (spec_small_letter _ _ _ _ ?kp) ?k1 ?k2 ?k3 ?k4 ?k5 ?kK ?kd ?ku ?_); (case kp => walk_at "mine one"); walk_at "mine sides"; intro v9 n9 h9 tk9 ok9 F9 N9; (obtain ⟨e9, t9, e9'⟩ := ok9); subst e9; subst e9'; (try dsimp only); (try k_fold))
  k_with "mine tup" => (intro v9 n9 h9 tk9 ok9 F9 N9; (obtain ⟨⟨D9, t9, u9, c9, e9, e9', l9⟩, f9⟩ := ok9); subst e9; subst e9'; (try k_lt l9); (obtain ⟨f7, f8, f9⟩ := f9); (try dsimp only); (try k_fold))
  k_with "call ref" => (k_here; (with_reducible show wpAny _ _ (call (Value.ref 95) _) _ _ _); k_dflt (refine' use_spec (spec_fig _ _ _ _ _ _ _ _ ?p1 ?p2 ?p3 ?p4 ?p5) ?k1 ?k2 ?k3 ?k4 ?k5 ?kK ?kd ?ku ?_); (case p1 => assumption); (case p2 => walk_at "mine num"); (case p3 => walk_at "mine num"); (case p4 => walk_at "mine num"); (case p5 => walk_at "mine num"); walk_at "mine sides"; walk_at "mine tup")
  k_with "mine l" => first | assumption | exact lt1 (by assumption) | exact lt2 (by assumption) | exact lt3 (by assumption) | exact lt4 (by assumption)
  k_with "mine sub" => first | exact sub0 _ | exact sub1 (sub0 _) | exact sub1 (sub1 (sub0 _)) | exact sub1 (sub1 (sub1 (sub0 _))) | exact sub1 (sub1 (sub1 (sub1 (sub0 _))))
  trivial
theorem loop_signs {prog : Program} {w : World} {A : Around} {E : Value → Shared → Prop} {s : Shared} {env : Env} {h₀ : Heap} {x : Str} {body : List Stmt} {Q : Flow → Shared → Prop}
    {xt : Str} {tx : Tok} {m₀ : Str → Option Value} {news : List (Addr × Obj)} (y : Str) (stored : List Str) (b : Int) {a₀ : Int} {t₀ : Tok}
    (hh : A.handled = none) (F : Fr h₀ env.locals s.heap m₀) (N : News h₀ env.locals s.heap news) (hy : m₀ y = some (.int a₀ t₀)) (hyx : y ≠ x)
    (turn : ∀ (pre post : List Nat) (n : Nat) t a ta (u : Str → Option Value) h tk own, cl xt = pre ++ n :: post → wSigns b a₀ pre = some a →
      Fr h₀ env.locals h (fun z => if z = x then some (.str ⟨#[n]⟩ t) else if z = y then some (.int a ta) else if stored.contains z then u z else m₀ z) → News h₀ env.locals h (news ++ own) →
      wpAny (model prog w) A (execs body env) (StrPost h₀ env.locals x y stored m₀ (news ++ own) (fun a' => wSigns b a₀ (pre ++ [n]) = some a') { s with heap := h, toks := tk } Q) E { s with heap := h, toks := tk })
    (done : ∀ a ta (u : Str → Option Value) h tk, wSigns b a₀ (cl xt) = some a → Fr h₀ env.locals h (fun z => if z = x then u z else if z = y then some (.int a ta) else if stored.contains z then u z else m₀ z) → News h₀ env.locals h news → Q .next { s with heap := h, toks := tk }) :
    wpAny (model prog w) A (pyIter (.str xt tx)) (fun it s₂ => LoopAtV prog w A h₀ env x body Q E it s₂) E s := by
  refine KStt.kst_text (σ := Int × Tok) (fun _ => news) (fun c => [(y, .int c.1 c.2)]) (fun _ => True) stored (fun pre c => wSigns b a₀ (pre.map Int.toNat) = some c.1) (a₀, t₀) hh F N trivial (by simpa using hy) rfl ?_ ?_
  · rintro ⟨a, ta⟩ pre post n t u h tk own e hoff - hp F₁ N₁
    have e' : cl xt = pre.map Int.toNat ++ n :: post.map Int.toNat := by
      have := congrArg (List.map Int.toNat) e
      unfold KStt.codes at this
      rw [List.map_map, List.map_append, List.map_cons] at this
      refine Eq.trans ?_ this
      exact ((List.map_congr_left (g := _root_.id) fun c _ => Int.toNat_natCast c).trans (List.map_id _)).symm
    refine wpAny_mono (turn (pre.map Int.toNat) (post.map Int.toNat) n t a ta u h tk own e' hp F₁ N₁) (fun f s₂ q => ?_) fun _ _ e => e
    have fin : StrEnd h₀ env.locals x y stored m₀ (news ++ own) (fun a' => wSigns b a₀ (pre.map Int.toNat ++ [n]) = some a') { s with heap := h, toks := tk } s₂ →
        InvEndN h₀ env.locals (KstS (fun _ : Int × Tok => news) (fun c => [(y, .int c.1 c.2)]) (fun _ => True) x stored m₀ (fun pre c => wSigns b a₀ (pre.map Int.toNat) = some c.1) (pre ++ [(n : Int)])) own (news.map (·.1)) { s with heap := h, toks := tk } s₂ := by
      rintro ⟨h', tk', m', news', a', t', e, F', N', hn, h1, h2, h3⟩
      refine ⟨h', tk', m', news', news, e, F', N', fun p hp => hn p (List.mem_append_left _ hp), fun p hp => hn p (List.mem_append_right _ hp), rfl, (a', t'), rfl, trivial, by simpa using h1, fun z hz1 hz2 hz3 => h2 z hz1 (hz2 _ (.head _)) hz3, ?_⟩
      simpa using h3
    cases f with
    | ret v => exact q
    | brk => exact q
    | next => exact fin q
    | cont => exact fin q
  · rintro ⟨a, ta⟩ u h tk - hp F₁ N₁
    refine done a ta u h tk ?_ F₁ N₁
    have e : (KStt.codes xt).map Int.toNat = cl xt := by
      unfold KStt.codes
      rw [List.map_map]
      exact (List.map_congr_left (g := _root_.id) fun c _ => Int.toNat_natCast c).trans (List.map_id _)
    rw [← e]
    exact hp
-- L2
theorem lines_L2 : True := by
  k_with_none
  w_top off
  k_with "mine sides" => (
        (case k1 => first | k_asm | fail "mine: the frames below")
        (case k2 => first | k_asm | fail "mine: the frame")
        (case k3 => first | k_asm | fail "mine: the written part")
        (case k4 => first | k_asm | fail "mine: the ledger")
        (case k5 => first | k_asm | fail "mine: the top's facts")
        (case kK => first | exact rfl | assumption | fail "mine: the caller is no def")
        (case kd => first | ktr_room | fail "mine: the frames' room")
        (case ku => first | ktr_units | fail "mine: the C units"))
  k_with "mine one" => first | assumption | exact slice_one_len (by walk_at "mine num") | omega
  k_with "mine num" => first | assumption | decide | omega
  k_with "call ref" => (k_here; (with_reducible show wpAny _ _ (call (Value.ref 88) _) _ _ _); k_dflt (refine' use_spec (spec_small_letter _ _ _ _ ?kp) ?k1 ?k2 ?k3 ?k4 ?k5 ?kK ?kd ?ku ?_); (case kp => walk_at "mine one"); walk_at "mine sides"; intro v9 n9 h9 tk9 ok9 F9 N9; (obtain ⟨e9, t9, e9'⟩ := ok9); subst e9; subst e9'; (try dsimp only); (try k_fold))
  k_with "mine tup" => (intro v9 n9 h9 tk9 ok9 F9 N9; (obtain ⟨⟨D9, t9, u9, c9, e9, e9', l9⟩, f9⟩ := ok9); subst e9; subst e9'; (try k_lt l9); (obtain ⟨f7, f8, f9⟩ := f9); (try dsimp only); (try k_fold))
  k_with "call ref" => (k_here; (with_reducible show wpAny _ _ (call (Value.ref 95) _) _ _ _); k_dflt (refine' use_spec (spec_fig _ _ _ _ _ _ _ _ ?p1 ?p2 ?p3 ?p4 ?p5) ?k1 ?k2 ?k3 ?k4 ?k5 ?kK ?kd ?ku ?_); (case p1 => assumption); (case p2 => walk_at "mine num"); (case p3 => walk_at "mine num"); (case p4 => walk_at "mine num"); (case p5 => walk_at "mine num"); walk_at "mine sides"; walk_at "mine tup")
  k_with "mine l" => first | assumption | exact lt1 (by assumption) | exact lt2 (by assumption) | exact lt3 (by assumption) | exact lt4 (by assumption)
  k_with "mine sub" => first | exact sub0 _ | exact sub1 (sub0 _) | exact sub1 (sub1 (sub0 _)) | exact sub1 (sub1 (sub1 (sub0 _))) | exact sub1 (sub1 (sub1 (sub1 (sub0 _))))
  k_with "StrPost" => (dsimp only [StrPost])
  k_with "StrEnd" => (refine strEnd_intro (by k_asm) (by k_asm) ?hn ?hy ?hs ?hw; (case hn => first | exact fun _ h => h | kst_in | walk_at "mine sub2"); (case hy => exact rfl); (case hs => ksw_same); (case hw => walk_at "mine W"))
  k_with "mine sub2" => (intro p hp; (simp only [List.mem_cons, List.mem_append] at hp ⊢); first | (simp only [hp, true_or, or_true]; done) | (rcases hp with hp | hp <;> simp only [hp, true_or, or_true]; done))
  trivial
theorem spec_worth (w : World) (x : Str) (base : Int) (t tb : Tok) (news : List (Addr × Obj)) (hg : Good x) (hb : 2 ≤ base) (hb' : base ≤ 16) :
   Spec w 195 [.str x t, .int base tb] news 2 (RetO (worthF x base) news) := by
  unfold Spec
  k_fill
  have hx := hg.1
  have hA := hg.2
  intros
  rename_i hret
  refine done_in ?_
  refine wpAny_call ?_
  k_dflt cell_enter
  k_with "pyIter ref" => (k_here; (rename Fr _ _ _ _ => lF'); (rename News _ _ _ _ => lN'); k_dflt (refine' loop_strs (nn := 0) (parts := Txt.split x (Str.ofString "_")) (Str.ofString "total") [Str.ofString "sign", Str.ofString "worth"] (WorthW x base) ?k0 ?k1 ?k2 lF' lN' ?k5 ?k6 ?k7 (fun i p t a ta u h tk own hp hW F9 N9 => ?_) (fun a ta u h tk hW F9 N9 => ?_); (case k0 => rfl); (case k1 => exact List.Mem.head _); (case k2 => exact strsAre_of (by assumption) (by assumption)); (case k5 => exact rfl); (case k6 => exact worth_start _ _); (case k7 => decide +kernel)); (all_goals (try clear lF' lN')); (all_goals (try k_fold)))
  k_with "pyIter str" => (k_here; (rename Fr _ _ _ _ => lF'); (rename News _ _ _ _ => lN'); k_dflt (refine' loop_signs (Str.ofString "total") [Str.ofString "worth"] base ?k0 lF' lN' ?k5 ?k7 (fun pre post n t a ta u h tk own hp hW F9 N9 => ?_) (fun a ta u h tk hW F9 N9 => ?_); (case k0 => rfl); (case k5 => exact rfl); (case k7 => decide +kernel)); (all_goals (try clear lF' lN')); (all_goals (try k_fold)))
  k_steps
  all_goals (try dsimp only [Done])
  · exact ret_none hret (by k_asm) (by k_asm) (by walk_at "mine sub2") (worth_empty hW hp (by assumption))
  · exact ret_none hret (by k_asm) (by k_asm) (by walk_at "mine sub2") (worth_bad2 hA (by assumption) (by assumption) hp (.inl (by with_reducible assumption)))
  · exact ret_none hret (by k_asm) (by k_asm) (by walk_at "mine sub2") (worth_bad2 hA (by assumption) (by assumption) hp (.inr (by with_reducible assumption)))
  · refine strEnd_intro (by k_asm) (by k_asm) ?_ rfl ?_ (sign_step hA (by assumption) hp hW (by with_reducible assumption) (by with_reducible assumption))
    · first | exact fun _ h => h | kst_in
    · intro z h1 h2 h3; (simp only [List.contains_cons, List.contains_nil, Bool.or_false, Bool.or_eq_false_iff, beq_eq_false_iff_ne, ne_eq] at h3); simp [h1, h2, h3]
  · refine strEnd_intro (by k_asm) (by k_asm) ?_ rfl ?_ (worth_step (by assumption) (by assumption) (by assumption) hW)
    · first | exact fun _ h => h | kst_in
    · intro z h1 h2 h3; (simp only [List.contains_cons, List.contains_nil, Bool.or_false, Bool.or_eq_false_iff, beq_eq_false_iff_ne, ne_eq] at h3); simp [h1, h2, h3]
  · exact ret_some hret (by k_asm) (by k_asm) (by walk_at "mine sub2") (worth_done hW)
theorem spec_worthB (w : World) (x : Str) (base : Int) (t tb : Tok) (news : List (Addr × Obj)) (hg : Good x) (hb : 2 ≤ base) (hb' : base ≤ 16) :
   Spec w 195 [.str x t, .int base tb] news 2 (fun v n => RetO (worthF x base) news v n ∧ ∀ k, worthF x base = some k → 0 ≤ k ∧ Bits k) :=
  (spec_worth w x base t tb news hg hb hb').mono fun _ _ h => ⟨h, fun _ q => ⟨(worth_bits hg.1 hb hb' q).1, .of (worth_bits hg.1 hb hb' q).2⟩⟩
-- M1
theorem lines_M1 : True := by
  k_with_none
  w_top off
  k_with "mine sides" => (
        (case k1 => first | k_asm | fail "mine: the frames below")
        (case k2 => first | k_asm | fail "mine: the frame")
        (case k3 => first | k_asm | fail "mine: the written part")
        (case k4 => first | k_asm | fail "mine: the ledger")
        (case k5 => first | k_asm | fail "mine: the top's facts")
        (case kK => first | exact rfl | assumption | fail "mine: the caller is no def")
        (case kd => first | ktr_room | fail "mine: the frames' room")
        (case ku => first | ktr_units | fail "mine: the C units"))
  k_with "mine one" => first | assumption | exact slice_one_len (by walk_at "mine num") | omega
  k_with "mine num" => first | assumption | decide | omega
  k_with "call ref" => (k_here; (with_reducible show wpAny _ _ (call (Value.ref 88) _) _ _ _); k_dflt (refine' use_spec (spec_small_letter _ _ _ _ ?kp) ?k1 ?k2 ?k3 ?k4 ?k5 ?kK ?kd ?ku ?_); (case kp => walk_at "mine one"); walk_at "mine sides"; intro v9 n9 h9 tk9 ok9 F9 N9; (obtain ⟨e9, t9, e9'⟩ := ok9); subst e9; subst e9'; (try dsimp only); (try k_fold))
  k_with "mine tup" => (intro v9 n9 h9 tk9 ok9 F9 N9; (obtain ⟨⟨D9, t9, u9, c9, e9, e9', l9⟩, f9⟩ := ok9); subst e9; subst e9'; (try k_lt l9); (obtain ⟨f7, f8, f9⟩ := f9); (try dsimp only); (try k_fold))
  k_with "call ref" => (k_here; (with_reducible show wpAny _ _ (call (Value.ref 95) _) _ _ _); k_dflt (refine' use_spec (spec_fig _ _ _ _ _ _ _ _ ?p1 ?p2 ?p3 ?p4 ?p5) ?k1 ?k2 ?k3 ?k4 ?k5 ?kK ?kd ?ku ?_); (case p1 => assumption); (case p2 => walk_at "mine num"); (case p3 => walk_at "mine num"); (case p4 => walk_at "mine num"); (case p5 => walk_at "mine num"); walk_at "mine sides"; walk_at "mine tup")
  k_with "mine l" => first | assumption | exact lt1 (by assumption) | exact lt2 (by assumption) | exact lt3 (by assumption) | exact lt4 (by assumption)
  k_with "mine sub" => first | exact sub0 _ | exact sub1 (sub0 _) | exact sub1 (sub1 (sub0 _)) | exact sub1 (sub1 (sub1 (sub0 _))) | exact sub1 (sub1 (sub1 (sub1 (sub0 _))))
  k_with "call builtin:str.strip" => (k_here; (with_reducible show wpAny _ _ (call (Value.builtin "str.strip") [Value.str _ _, Value.str _ _]) _ _ _); k_dflt (refine strip_gen (by with_reducible assumption) ?_); intro y9 t9 k9 e9 g9 l9)
  k_with "call builtin:str.lower" => (k_here; (with_reducible show wpAny _ _ (call (Value.builtin "str.lower") [Value.str _ _]) _ _ _); k_dflt (refine lower_gen (by with_reducible assumption) ?_); intro y9 t9 k9 e9 g9 l9)
  k_with "call builtin:str.partition" => (k_here; (with_reducible show wpAny _ _ (call (Value.builtin "str.partition") [Value.str _ _, Value.str _ _]) _ _ _); k_dflt (refine part_gen (by with_reducible assumption) (by k_asm) (by k_asm) (by decide +kernel) ?_); intro a9 b9 c9 D9 ta9 tb9 tc9 h9 k9 e9 ga9 la9 gc9 lc9 lb9 F9 N9 l9; (try k_lt l9))
  k_with "subscriptTail Name Constant str int" => (refine item_str (by decide) (item0_lo _) (first_in (by with_reducible assumption) (by decide +kernel)) ?_; intro _)
  trivial
theorem spec_signed0 (w : World) (x : Str) (t : Tok) (news : List (Addr × Obj)) (hg : Good x) :
   Spec w 209 [.str x t] news 1 (RetIS (signedF x).1 (signedF x).2 news) := by
  unfold Spec
  k_fill
  intros
  rename_i hret
  refine done_in ?_
  refine wpAny_call ?_
  k_dflt cell_enter
  k_steps
  all_goals (try dsimp only [Done])
  all_goals with_reducible first
    | exact item_m (by assumption) (by assumption)
    | exact item_p (by assumption) (by assumption) (by assumption)
    | skip
  all_goals (refine ret_IS hret (by k_asm) (by k_asm) (by walk_at "mine l") (by walk_at "mine sub") ?_)
  all_goals with_reducible first
    | exact signed_of (by assumption) (by assumption) (sgn_m (by assumption))
    | exact signed_of (by assumption) (by assumption) (sgn_p (by assumption) (by assumption))
    | exact signed_of0 (by assumption) (by assumption) (sgn_n (by assumption) (by assumption))
theorem spec_signed (w : World) (x : Str) (t : Tok) (news : List (Addr × Obj)) (hg : Good x) :
   Spec w 209 [.str x t] news 1 (fun v n => RetIS (signedF x).1 (signedF x).2 news v n ∧ Good (signedF x).2) :=
  (spec_signed0 w x t news hg).mono fun _ _ h => ⟨h, good_signed hg⟩
-- B5
section
variable {prog : Program} {w : World} {A : Around} {E : Value → Shared → Prop} {s : Shared} {x : Str} {t : Tok} {Q : Value → Shared → Prop}
theorem len_gen (hg : Good x) (h : ∀ (n : Nat) t' k, n = x.length → (n : Int) ≤ 400 → Q (.int (n : Int) t') { s with toks := k }) :
    wpAny (model prog w) A (call (.builtin "len") [.str x t]) Q E s := by
  have := hg.1
  exact SBL.len (by omega) (h x.length _ _ rfl (by omega))
end
def RetOT (r : Option (Int × Int)) (news : List (Addr × Obj)) (v : Value) (n : List (Addr × Obj)) : Prop :=
  match r with
  | none => v = .none ∧ news = n
  | some p => RetT2 p.1 p.2 news v n
section
variable {Q : Value → Shared → Prop} {h₀ h' : Heap} {L : Addr} {m : Str → Option Value} {s : Shared} {news big : List (Addr × Obj)} {r : Option (Int × Int)} {tk' : Nat}
theorem retOT_none (hret : ∀ v news' h' tk', RetOT r news v news' → Fr h₀ L h' m → News h₀ L h' news' → Q v { s with heap := h', toks := tk' })
    (N : News h₀ L h' big) (F : Fr h₀ L h' m) (hs : ∀ p ∈ news, p ∈ big) (e : r = none) : Q .none { s with heap := h', toks := tk' } := by
  subst e
  exact hret _ _ _ _ ⟨rfl, rfl⟩ F fun p hp => N p (hs p hp)
theorem retOT_some (hret : ∀ v news' h' tk', RetOT r news v news' → Fr h₀ L h' m → News h₀ L h' news' → Q v { s with heap := h', toks := tk' })
    {D : Addr} {a b : Int} {t1 t2 : Tok} {c : Nat} {news' : List (Addr × Obj)} (N : News h₀ L h' ((D, T2o a t1 b t2 c) :: news')) (F : Fr h₀ L h' m) (l : ∀ p ∈ news', p.1 < D) (hs : ∀ p ∈ news, p ∈ news') (e : r = some (a, b)) :
    Q (.ref D) { s with heap := h', toks := tk' } := by
  subst e
  exact ret_T2 (r := a) (q := b) hret N F l hs rfl
end
-- M3
theorem lines_M3 : True := by
  k_with_none
  w_top off
  k_with "mine sides" => (
        (case k1 => first | k_asm | fail "mine: the frames below")
        (case k2 => first | k_asm | fail "mine: the frame")
        (case k3 => first | k_asm | fail "mine: the written part")
        (case k4 => first | k_asm | fail "mine: the ledger")
        (case k5 => first | k_asm | fail "mine: the top's facts")
        (case kK => first | exact rfl | assumption | fail "mine: the caller is no def")
        (case kd => first | ktr_room | fail "mine: the frames' room")
        (case ku => first | ktr_units | fail "mine: the C units"))
  k_with "mine one" => first | assumption | exact slice_one_len (by walk_at "mine num") | omega
  k_with "mine num" => first | assumption | decide | omega
  k_with "call ref" => (k_here; (with_reducible show wpAny _ _ (call (Value.ref 88) _) _ _ _); k_dflt (refine' use_spec (spec_small_letter _ _ _ _ ?kp) ?k1 ?k2 ?k3 ?k4 ?k5 ?kK ?kd ?ku ?_); (case kp => walk_at "mine one"); walk_at "mine sides"; intro v9 n9 h9 tk9 ok9 F9 N9; (obtain ⟨e9, t9, e9'⟩ := ok9); subst e9; subst e9'; (try dsimp only); (try k_fold))
  k_with "mine tup" => (intro v9 n9 h9 tk9 ok9 F9 N9; (obtain ⟨⟨D9, t9, u9, c9, e9, e9', l9⟩, f9⟩ := ok9); subst e9; subst e9'; (try k_lt l9); (obtain ⟨f7, f8, f9⟩ := f9); (try dsimp only); (try k_fold))
  k_with "call ref" => (k_here; (with_reducible show wpAny _ _ (call (Value.ref 95) _) _ _ _); k_dflt (refine' use_spec (spec_fig _ _ _ _ _ _ _ _ ?p1 ?p2 ?p3 ?p4 ?p5) ?k1 ?k2 ?k3 ?k4 ?k5 ?kK ?kd ?ku ?_); (case p1 => assumption); (case p2 => walk_at "mine num"); (case p3 => walk_at "mine num"); (case p4 => walk_at "mine num"); (case p5 => walk_at "mine num"); walk_at "mine sides"; walk_at "mine tup")
  k_with "mine l" => first | assumption | exact lt1 (by assumption) | exact lt2 (by assumption) | exact lt3 (by assumption) | exact lt4 (by assumption)
  k_with "mine sub" => first | exact sub0 _ | exact sub1 (sub0 _) | exact sub1 (sub1 (sub0 _)) | exact sub1 (sub1 (sub1 (sub0 _))) | exact sub1 (sub1 (sub1 (sub1 (sub0 _))))
  k_with "call ref" => (k_here; (with_reducible show wpAny _ _ (call (Value.ref 102) _) _ _ _); k_dflt (refine' use_spec (spec_exp _ _ _ _ _ _ ?p1 ?p2 ?p3) ?k1 ?k2 ?k3 ?k4 ?k5 ?kK ?kd ?ku ?_); (case p1 => assumption); (case p2 => walk_at "mine num"); (case p3 => walk_at "mine num"); walk_at "mine sides"; walk_at "mine tup")
  k_with "binaryOp Mult int int" => refine mul_int ?_ (lit_mul (by with_reducible assumption) (by first | decide | with_reducible assumption) (by first | decide | with_reducible assumption) (by first | with_reducible assumption | exact Int.not_lt.mp (by with_reducible assumption)))
  k_with "mine sub" => first | exact sub0 _ | exact sub1 (sub0 _) | exact sub1 (sub1 (sub0 _)) | exact sub1 (sub1 (sub1 (sub0 _))) | exact sub1 (sub1 (sub1 (sub1 (sub0 _))))
  k_with "subscriptTail Name Constant str int" => (refine item_str (by decide) (item0_lo _) (first_in (by with_reducible assumption) (by decide +kernel)) ?_; intro _)
  k_with "call builtin:str.strip" => (k_here; (with_reducible show wpAny _ _ (call (Value.builtin "str.strip") [Value.str _ _, Value.str _ _]) _ _ _); k_dflt (refine strip_gen (by with_reducible assumption) ?_); intro y9 t9 k9 e9 g9 l9)
  k_with "call builtin:str.lower" => (k_here; (with_reducible show wpAny _ _ (call (Value.builtin "str.lower") [Value.str _ _]) _ _ _); k_dflt (refine lower_gen (by with_reducible assumption) ?_); intro y9 t9 k9 e9 g9 l9)
  k_with "call builtin:str.partition" => (k_here; (with_reducible show wpAny _ _ (call (Value.builtin "str.partition") [Value.str _ _, Value.str _ _]) _ _ _); k_dflt (refine part_gen (by with_reducible assumption) (by k_asm) (by k_asm) (by decide +kernel) ?_); intro a9 b9 c9 D9 ta9 tb9 tc9 h9 k9 e9 ga9 la9 gc9 lc9 lb9 F9 N9 l9; (try k_lt l9))
  k_with "subscriptTail Name Constant str int" => (refine item_str (by decide) (item0_lo _) (first_in (by with_reducible assumption) (by decide +kernel)) ?_; intro _)
  k_with "mine good" => first | with_reducible assumption | exact good_slice (by with_reducible assumption) _ _ | exact good_slice (good_slice (by with_reducible assumption) _ _) _ _
  k_with "call ref" => (k_here; (with_reducible show wpAny _ _ (call (Value.ref 195) _) _ _ _); k_dflt (refine' use_spec (spec_worthB _ _ _ _ _ _ ?p1 ?p2 ?p3) ?k1 ?k2 ?k3 ?k4 ?k5 ?kK ?kd ?ku ?_); (case p1 => walk_at "mine good"); (case p2 => walk_at "mine num"); (case p3 => walk_at "mine num"); walk_at "mine sides"; intro v9 n9 h9 tk9 ok9 F9 N9; (rcases retO_cases2 ok9.1 ok9.2 with ⟨e9, q9, r9⟩ | ⟨k9, t9, e9, q9, r9, f7, f8⟩); all_goals (clear ok9; subst e9; subst r9; (try dsimp only); (try k_fold)))
  k_with "call ref" => (k_here; (with_reducible show wpAny _ _ (call (Value.ref 209) _) _ _ _); k_dflt (refine' use_spec (spec_signed _ _ _ _ ?p1) ?k1 ?k2 ?k3 ?k4 ?k5 ?kK ?kd ?ku ?_); (case p1 => walk_at "mine good"); walk_at "mine sides"; intro v9 n9 h9 tk9 ok9 F9 N9; (obtain ⟨⟨D9, t9, u9, c9, e9, e9', l9⟩, g9⟩ := ok9); subst e9; subst e9'; (try k_lt l9); (try dsimp only); (try k_fold))
  k_with "call builtin:len" => (k_here; (with_reducible show wpAny _ _ (call (Value.builtin "len") [Value.str (Txt.replace _ _ _) _]) _ _ _); k_dflt (refine len_gen (good_strike (by with_reducible assumption)) ?_); intro n9 t9 k9 e9 l9)
  k_with "binaryOp Mult int int" => ((with_reducible show wpAny _ _ (binaryOp _ (Value.int (Prod.fst (signedF _)) _) _) _ _ _); refine mul_int ?_ (sgn_mul_ok _ _))
  trivial
theorem spec_fixed (w : World) (x : Str) (t : Tok) (news : List (Addr × Obj)) (hg : Good x) :
   Spec w 216 [.str x t] news 3 (RetOT (fixedF x) news) := by
  unfold Spec
  k_fill
  intros
  rename_i hret
  refine done_in ?_
  refine wpAny_call ?_
  k_dflt cell_enter
  k_steps
  all_goals (try dsimp only [Done])
  all_goals first
    | (refine retOT_none hret (by k_asm) (by k_asm) (by walk_at "mine sub") ?_)
    | (refine retOT_some hret (by k_asm) (by k_asm) (by walk_at "mine l") (by walk_at "mine sub") ?_)
  all_goals with_reducible first
    | exact fix_nomark (by assumption) (by assumption)
    | exact fix_now (by assumption) (by assumption)
    | exact fix_nop (by assumption) (by assumption)
    | exact fix_yes (by assumption) (by assumption) (by assumption) (by assumption) (by assumption)
-- B6
section
variable {prog : Program} {w : World} {A : Around} {E : Value → Shared → Prop} {s : Shared} {x y : Str} {t : Tok} {Q : Value → Shared → Prop}
theorem len_signs {l : Addr} {ys : List Value} {p : Str → Bool} (hl : s.heap.IsList l ys.toArray) (hc : CarriedAll ys (List.map PyData.str (List.filter p (signs y)))) (hg : Good y)
    (h : ∀ (n : Nat) t' k, n = (List.filter p (signs y)).length → (n : Int) ≤ 400 → Q (.int (n : Int) t') { s with toks := k }) :
    wpAny (model prog w) A (call (.builtin "len") [.ref l]) Q E s := by
  have h1 : (List.filter p (signs y)).length ≤ 400 := Nat.le_trans (List.length_filter_le _ _) (by rw [signs_length]; exact hg.1)
  refine len_list_made hl hc (by rw [List.length_map]; omega) ?_
  rw [List.length_map]
  exact h _ _ _ rfl (by omega)
end
theorem news_lt {h₀ h : Heap} {L : Addr} {news : List (Addr × Obj)} (N : News h₀ L h news) : ∀ p ∈ news, p.1 < h.objs.size := fun p hp => Heap.lt_size (N p hp).1
theorem dot_in2 {x : Str} {a i : Int} (h : (Txt.slice x (some i) (some (i + 1)) != Str.ofString ".") = false) (f : a ≤ i) (b : 0 ≤ a) : (0 : Int) < x.length := dot_in (Int.le_trans b f) h
-- E1
theorem lines_E1 : True := by
  k_with_none
  w_top off
  k_with "mine sides" => (
        (case k1 => first | k_asm | fail "mine: the frames below")
        (case k2 => first | k_asm | fail "mine: the frame")
        (case k3 => first | k_asm | fail "mine: the written part")
        (case k4 => first | k_asm | fail "mine: the ledger")
        (case k5 => first | k_asm | fail "mine: the top's facts")
        (case kK => first | exact rfl | assumption | fail "mine: the caller is no def")
        (case kd => first | ktr_room | fail "mine: the frames' room")
        (case ku => first | ktr_units | fail "mine: the C units"))
  k_with "mine one" => first | assumption | exact slice_one_len (by walk_at "mine num") | omega
  k_with "mine num" => first | assumption | decide | omega
  k_with "call ref" => (k_here; (with_reducible show wpAny _ _ (call (Value.ref 88) _) _ _ _); k_dflt (refine' use_spec (spec_small_letter _ _ _ _ ?kp) ?k1 ?k2 ?k3 ?k4 ?k5 ?kK ?kd ?ku ?_); (case kp => walk_at "mine one"); walk_at "mine sides"; intro v9 n9 h9 tk9 ok9 F9 N9; (obtain ⟨e9, t9, e9'⟩ := ok9); subst e9; subst e9'; (try dsimp only); (try k_fold))
  k_with "mine tup" => (intro v9 n9 h9 tk9 ok9 F9 N9; (obtain ⟨⟨D9, t9, u9, c9, e9, e9', l9⟩, f9⟩ := ok9); subst e9; subst e9'; (try k_lt l9); (obtain ⟨f7, f8, f9⟩ := f9); (try dsimp only); (try k_fold))
  k_with "call ref" => (k_here; (with_reducible show wpAny _ _ (call (Value.ref 95) _) _ _ _); k_dflt (refine' use_spec (spec_fig _ _ _ _ _ _ _ _ ?p1 ?p2 ?p3 ?p4 ?p5) ?k1 ?k2 ?k3 ?k4 ?k5 ?kK ?kd ?ku ?_); (case p1 => assumption); (case p2 => walk_at "mine num"); (case p3 => walk_at "mine num"); (case p4 => walk_at "mine num"); (case p5 => walk_at "mine num"); walk_at "mine sides"; walk_at "mine tup")
  k_with "mine l" => first | assumption | exact lt1 (by assumption) | exact lt2 (by assumption) | exact lt3 (by assumption) | exact lt4 (by assumption)
  k_with "mine sub" => first | exact sub0 _ | exact sub1 (sub0 _) | exact sub1 (sub1 (sub0 _)) | exact sub1 (sub1 (sub1 (sub0 _))) | exact sub1 (sub1 (sub1 (sub1 (sub0 _))))
  k_with "binaryOp FloorDiv int int" => refine floordiv_int (two_ne (by with_reducible assumption)) ?_ (.inl (rq_room (by with_reducible assumption) (by with_reducible assumption)))
  trivial
theorem two_ne {d : Int} (h : 0 < d) : 2 * d ≠ 0 := by omega
def rqF (num den : Int) : Int := if num < 0 then -(Int.fdiv (2 * (if num < 0 then -num else num) + den) (2 * den)) else Int.fdiv (2 * (if num < 0 then -num else num) + den) (2 * den)
theorem rq_neg {num den : Int} (h : num < 0) : rqF num den = -(Int.fdiv (2 * (if num < 0 then -num else num) + den) (2 * den)) := by unfold rqF; rw [if_pos h]
theorem rq_pos {num den : Int} (h : ¬ num < 0) : rqF num den = Int.fdiv (2 * (if num < 0 then -num else num) + den) (2 * den) := by unfold rqF; rw [if_neg h]
theorem rq_room {a den : Int} (h0 : 0 < den) (h : Bits4 den) : Builtin.divisionGoesByPylong a (2 * den) = false := by
  refine PyProof.noPylong_of_log2 ?_
  have h1 := intBits_le_iff.mp h.out
  refine Nat.lt_of_lt_of_le ((Nat.log2_lt (by omega)).mpr (?_ : _ < 2 ^ 4001)) (by decide)
  rw [Nat.pow_succ]
  generalize 2 ^ 4000 = M at *
  omega
theorem spec_rq (w : World) (num den : Int) (t u : Tok) (news : List (Addr × Obj)) (hd : 0 < den) (hb : Bits4 den) :
   Spec w 81 [.int num t, .int den u] news 1 (RetO (some (rqF num den)) news) := by
  unfold Spec
  k_fill
  intros
  rename_i hret
  refine done_in ?_
  refine wpAny_call ?_
  k_dflt cell_enter
  k_steps
  all_goals (try dsimp only [Done])
  all_goals (refine ret_some hret (by k_asm) (by k_asm) (sub0 _) ?_)
  all_goals with_reducible first
    | exact congrArg some (rq_neg (by assumption))
    | exact congrArg some (rq_pos (by assumption))
-- E3
theorem lines_E3 : True := by
  k_with_none
  w_top off
  k_with "mine sides" => (
        (case k1 => first | k_asm | fail "mine: the frames below")
        (case k2 => first | k_asm | fail "mine: the frame")
        (case k3 => first | k_asm | fail "mine: the written part")
        (case k4 => first | k_asm | fail "mine: the ledger")
        (case k5 => first | k_asm | fail "mine: the top's facts")
        (case kK => first | exact rfl | assumption | fail "mine: the caller is no def")
        (case kd => first | ktr_room | fail "mine: the frames' room")
        (case ku => first | ktr_units | fail "mine: the C units"))
  k_with "mine one" => first | assumption | exact slice_one_len (by walk_at "mine num") | omega
  k_with "mine num" => first | assumption | decide | omega
  k_with "call ref" => (k_here; (with_reducible show wpAny _ _ (call (Value.ref 88) _) _ _ _); k_dflt (refine' use_spec (spec_small_letter _ _ _ _ ?kp) ?k1 ?k2 ?k3 ?k4 ?k5 ?kK ?kd ?ku ?_); (case kp => walk_at "mine one"); walk_at "mine sides"; intro v9 n9 h9 tk9 ok9 F9 N9; (obtain ⟨e9, t9, e9'⟩ := ok9); subst e9; subst e9'; (try dsimp only); (try k_fold))
  k_with "mine tup" => (intro v9 n9 h9 tk9 ok9 F9 N9; (obtain ⟨⟨D9, t9, u9, c9, e9, e9', l9⟩, f9⟩ := ok9); subst e9; subst e9'; (try k_lt l9); (obtain ⟨f7, f8, f9⟩ := f9); (try dsimp only); (try k_fold))
  k_with "call ref" => (k_here; (with_reducible show wpAny _ _ (call (Value.ref 95) _) _ _ _); k_dflt (refine' use_spec (spec_fig _ _ _ _ _ _ _ _ ?p1 ?p2 ?p3 ?p4 ?p5) ?k1 ?k2 ?k3 ?k4 ?k5 ?kK ?kd ?ku ?_); (case p1 => assumption); (case p2 => walk_at "mine num"); (case p3 => walk_at "mine num"); (case p4 => walk_at "mine num"); (case p5 => walk_at "mine num"); walk_at "mine sides"; walk_at "mine tup")
  k_with "mine l" => first | assumption | exact lt1 (by assumption) | exact lt2 (by assumption) | exact lt3 (by assumption) | exact lt4 (by assumption)
  k_with "mine sub" => first | exact sub0 _ | exact sub1 (sub0 _) | exact sub1 (sub1 (sub0 _)) | exact sub1 (sub1 (sub1 (sub0 _))) | exact sub1 (sub1 (sub1 (sub1 (sub0 _))))
  trivial
def RetB (b : Bool) (news : List (Addr × Obj)) (v : Value) (n : List (Addr × Obj)) : Prop := news = n ∧ v = .bool b
theorem ret_B {Q : Value → Shared → Prop} {h₀ h' : Heap} {L : Addr} {m : Str → Option Value} {s : Shared} {news big : List (Addr × Obj)} {b b' : Bool} {tk' : Nat} (hret : ∀ v news' h' tk', RetB b news v news' → Fr h₀ L h' m → News h₀ L h' news' → Q v { s with heap := h', toks := tk' })
    (N : News h₀ L h' big) (F : Fr h₀ L h' m) (hs : ∀ p ∈ news, p ∈ big) (e : b = b') : Q (.bool b') { s with heap := h', toks := tk' } :=
  hret _ _ _ _ ⟨rfl, by rw [e]⟩ F fun p hp => N p (hs p hp)
theorem spec_in_bounds (w : World) (v lo hi : Int) (t u r : Tok) (news : List (Addr × Obj)) :
   Spec w 67 [.int v t, .int lo u, .int hi r] news 1 (RetB (decide (lo ≤ v ∧ v ≤ hi)) news) := by
  unfold Spec
  k_fill
  intros
  rename_i hret
  refine done_in ?_
  refine wpAny_call ?_
  k_dflt cell_enter
  k_steps
  all_goals (try dsimp only [Done])
  all_goals (refine ret_B hret (by k_asm) (by k_asm) (sub0 _) ?_)
  all_goals first
    | (refine decide_eq_decide.mpr ?_; constructor <;> intro hh <;> first | (exact hh.2) | (exact ⟨by assumption, hh⟩) | omega)
-- X8
theorem str_beq_ne {a b : Str} (h : a ≠ b) : (a == b) = false := by
  rw [Bool.eq_false_iff]; intro q; exact h (eq_of_beq q)
theorem isStr_str (n m : Str) (t : Tok) : (Value.str n t).isStr m = (n == m) := rfl
theorem isStr_eq {v : Value} {n : Str} (h : v.isStr n = true) : ∃ t, v = .str n t := by
  cases v with
  | str x t => exact ⟨t, by rw [isStr_str] at h; rw [eq_of_beq h]⟩
  | _ => cases h
/-- what a name stands for, found -/
theorem getL_find {n : Str} {es : List DictEntry} {v : Value} : getL n es = some (some v) ↔ ∃ e, es.find? (·.key.isStr n) = some e ∧ e.val = v := by
  unfold getL
  cases h : es.find? (·.key.isStr n) with
  | none =>
    dsimp only
    constructor
    · intro q; split at q <;> cases q
    · rintro ⟨e, q, _⟩; cases q
  | some e =>
    dsimp only
    constructor
    · intro q; cases q; exact ⟨e, rfl, rfl⟩
    · rintro ⟨e', q, rfl⟩; cases q; rfl
theorem put_same {n : Str} {h : Int} {tk : Tok} {v : Value} : ∀ es : List DictEntry, getL n (putL n h (.str n tk) v es) = some (some v)
  | [] => by
    refine getL_find.mpr ⟨⟨h, .str n tk, v⟩, ?_, rfl⟩
    rw [putL, List.find?_cons_of_pos (by rw [isStr_str]; exact beq_self_eq_true n)]
  | e :: r => by
    rw [putL]
    split
    · rename_i hk
      exact getL_find.mpr ⟨⟨e.hash, e.key, v⟩, List.find?_cons_of_pos hk, rfl⟩
    · rename_i hk
      obtain ⟨e', h1, h2⟩ := getL_find.mp (put_same (n := n) (h := h) (tk := tk) (v := v) r)
      exact getL_find.mpr ⟨e', (List.find?_cons_of_neg (p := fun (x : DictEntry) => x.key.isStr n) hk).trans h1, h2⟩
theorem put_other {n m : Str} {h : Int} {tk : Tok} {v u : Value} (hne : m ≠ n) : ∀ {es : List DictEntry}, getL m es = some (some u) → getL m (putL n h (.str n tk) v es) = some (some u)
  | [], q => by obtain ⟨e, q, _⟩ := getL_find.mp q; cases q
  | e :: r, q => by
    obtain ⟨e', h1, h2⟩ := getL_find.mp q
    rw [putL]
    by_cases hm : e.key.isStr m = true
    · rw [List.find?_cons_of_pos (p := fun (x : DictEntry) => x.key.isStr m) hm] at h1
      cases h1
      obtain ⟨t, ht⟩ := isStr_eq hm
      have hn : ¬ e.key.isStr n = true := by rw [ht, isStr_str, str_beq_ne hne]; decide
      rw [if_neg hn]
      exact getL_find.mpr ⟨e, List.find?_cons_of_pos hm, h2⟩
    · rw [List.find?_cons_of_neg (p := fun (x : DictEntry) => x.key.isStr m) hm] at h1
      have q' : getL m r = some (some u) := getL_find.mpr ⟨e', h1, h2⟩
      split
      · exact getL_find.mpr ⟨e', (List.find?_cons_of_neg (a := (⟨e.hash, e.key, v⟩ : DictEntry)) (p := fun (x : DictEntry) => x.key.isStr m) hm).trans h1, h2⟩
      · obtain ⟨e2, h3, h4⟩ := getL_find.mp (put_other (h := h) (tk := tk) (v := v) hne q')
        exact getL_find.mpr ⟨e2, (List.find?_cons_of_neg (p := fun (x : DictEntry) => x.key.isStr m) hm).trans h3, h4⟩
theorem put_len {n : Str} {h : Int} {k v : Value} : ∀ es : List DictEntry, (putL n h k v es).length ≤ es.length + 1
  | [] => Nat.le_refl _
  | e :: r => by
    rw [putL]
    split
    · exact Nat.le_succ _
    · exact Nat.succ_le_succ (put_len r)
/-- what is known of a type's own dict behind __init__ -/
def TyD (kd : Str) (j : Nat) (es : List DictEntry) : Prop :=
  (∃ t, getL "kind" es = some (some (.str kd t))) ∧ (∃ v, getL "low" es = some (some v)) ∧ (∃ v, getL "high" es = some (some v)) ∧ (∃ v, getL "small" es = some (some v)) ∧ es.length ≤ j
theorem has_put {n m : Str} {h : Int} {tk : Tok} {v : Value} {es : List DictEntry} (hm : ∃ u, getL m es = some (some u)) : ∃ u, getL m (putL n h (.str n tk) v es) = some (some u) := by
  by_cases e : m = n
  · subst e; exact ⟨v, put_same es⟩
  · obtain ⟨u, hu⟩ := hm; exact ⟨u, put_other e hu⟩
theorem TyD.put {kd n : Str} {j : Nat} {h : Int} {tk : Tok} {v : Value} {es : List DictEntry} (hn : Str.ofString "kind" ≠ n) (d : TyD kd j es) : TyD kd (j + 1) (putL n h (.str n tk) v es) :=
  ⟨⟨d.1.choose, put_other hn d.1.choose_spec⟩, has_put d.2.1, has_put d.2.2.1, has_put d.2.2.2.1, Nat.le_trans (put_len es) (Nat.succ_le_succ d.2.2.2.2)⟩
theorem some_of {n : Str} {es : List DictEntry} (h : ∃ v, getL n es = some (some v)) : (getL n es).isSome = true := by
  obtain ⟨v, e⟩ := h; rw [e]; rfl
-- X9
theorem len1 {n1 : Str} {h1 : Int} {k1 v1 : Value} {es : List DictEntry} (h : es.length ≤ 100) : (putL n1 h1 k1 v1 es).length ≤ 101 := Nat.le_trans (put_len es) (Nat.succ_le_succ h)
theorem len2 {n1 n2 : Str} {h1 h2 : Int} {k1 v1 k2 v2 : Value} {es : List DictEntry} (h : es.length ≤ 100) : (putL n2 h2 k2 v2 (putL n1 h1 k1 v1 es)).length ≤ 102 := Nat.le_trans (put_len _) (Nat.succ_le_succ (len1 h))
theorem len3 {n1 n2 n3 : Str} {h1 h2 h3 : Int} {k1 v1 k2 v2 k3 v3 : Value} {es : List DictEntry} (h : es.length ≤ 100) : (putL n3 h3 k3 v3 (putL n2 h2 k2 v2 (putL n1 h1 k1 v1 es))).length ≤ 103 := Nat.le_trans (put_len _) (Nat.succ_le_succ (len2 h))
theorem to1000 {j k : Nat} (h : k ≤ j) (hj : j ≤ 1000) : k ≤ 1000 := Nat.le_trans h hj
theorem kl : Str.ofString "kind" ≠ Str.ofString "low" := by decide +kernel
theorem kh : Str.ofString "kind" ≠ Str.ofString "high" := by decide +kernel
theorem ks : Str.ofString "kind" ≠ Str.ofString "small" := by decide +kernel
theorem lh : Str.ofString "low" ≠ Str.ofString "high" := by decide +kernel
theorem sl : Str.ofString "small" ≠ Str.ofString "low" := by decide +kernel
theorem sh : Str.ofString "small" ≠ Str.ofString "high" := by decide +kernel
-- E6
section
local macro_rules | `(tactic| k_room) => `(tactic| ktr_room)
theorem lines_E6 : True := by
  k_with_none
  w_top off
  k_with "mine sides" => (
        (case k1 => first | k_asm | fail "mine: the frames below")
        (case k2 => first | k_asm | fail "mine: the frame")
        (case k3 => first | k_asm | fail "mine: the written part")
        (case k4 => first | k_asm | fail "mine: the ledger")
        (case k5 => first | k_asm | fail "mine: the top's facts")
        (case kK => first | exact rfl | assumption | fail "mine: the caller is no def")
        (case kd => first | ktr_room | fail "mine: the frames' room")
        (case ku => first | ktr_units | fail "mine: the C units"))
  k_with "mine one" => first | assumption | exact slice_one_len (by walk_at "mine num") | omega
  k_with "mine num" => first | assumption | decide | omega
  k_with "call ref" => (k_here; (with_reducible show wpAny _ _ (call (Value.ref 88) _) _ _ _); k_dflt (refine' use_spec (spec_small_letter _ _ _ _ ?kp) ?k1 ?k2 ?k3 ?k4 ?k5 ?kK ?kd ?ku ?_); (case kp => walk_at "mine one"); walk_at "mine sides"; intro v9 n9 h9 tk9 ok9 F9 N9; (obtain ⟨e9, t9, e9'⟩ := ok9); subst e9; subst e9'; (try dsimp only); (try k_fold))
  k_with "mine tup" => (intro v9 n9 h9 tk9 ok9 F9 N9; (obtain ⟨⟨D9, t9, u9, c9, e9, e9', l9⟩, f9⟩ := ok9); subst e9; subst e9'; (try k_lt l9); (obtain ⟨f7, f8, f9⟩ := f9); (try dsimp only); (try k_fold))
  k_with "mine l" => first | assumption | exact lt1 (by assumption) | exact lt2 (by assumption) | exact lt3 (by assumption) | exact lt4 (by assumption)
  k_with "mine sub" => first | exact sub0 _ | exact sub1 (sub0 _) | exact sub1 (sub1 (sub0 _)) | exact sub1 (sub1 (sub1 (sub0 _))) | exact sub1 (sub1 (sub1 (sub1 (sub0 _))))
  trivial
def TypOf (kd : Str) (lo hi : Int) (news : List (Addr × Obj)) (v : Value) (n : List (Addr × Obj)) : Prop :=
  ∃ x dx es k t1 t2 t3, v = .ref x ∧ n = ((x, instObj 150 dx) :: (dx, dictOf es k) :: news) ∧ getL "kind" es = some (some (.str kd t1)) ∧ getL "low" es = some (some (.int lo t2)) ∧ getL "high" es = some (some (.int hi t3)) ∧ (∀ p ∈ news, p.1 < dx) ∧ dx < x
theorem ret_typ {Q : Value → Shared → Prop} {h₀ : Heap} {L : Addr} {m : Str → Option Value} {s : Shared} {news big : List (Addr × Obj)} {kd : Str} {lo hi : Int} {x dx : Addr} {es : List DictEntry} {k : Nat} {t1 t2 t3 : Tok} {h' : Heap} {tk' : Nat}
    (hret : ∀ v news' h' tk', TypOf kd lo hi news v news' → Fr h₀ L h' m → News h₀ L h' news' → Q v { s with heap := h', toks := tk' })
    (N : News h₀ L h' big) (F : Fr h₀ L h' m) (hx : (x, instObj 150 dx) ∈ big) (hdx : (dx, dictOf es k) ∈ big) (hs : ∀ p ∈ news, p ∈ big)
    (e1 : getL "kind" es = some (some (.str kd t1))) (e2 : getL "low" es = some (some (.int lo t2))) (e3 : getL "high" es = some (some (.int hi t3))) (l1 : ∀ p ∈ news, p.1 < dx) (l2 : dx < x) : Q (.ref x) { s with heap := h', toks := tk' } :=
  hret _ _ _ _ ⟨x, dx, es, k, t1, t2, t3, rfl, rfl, e1, e2, e3, l1, l2⟩ F fun p hp => by
    rcases List.mem_cons.mp hp with rfl | hp
    · exact N _ hx
    · rcases List.mem_cons.mp hp with rfl | hp
      · exact N _ hdx
      · exact N _ (hs _ hp)
def FixOf (kd : Str) (lo hi : Int) (D : Addr) (news : List (Addr × Obj)) (v : Value) (n : List (Addr × Obj)) : Prop :=
  ∃ x dx es k t1 t2 t3, v = .ref x ∧ n = ((x, instObj 150 dx) :: (dx, dictOf es k) :: news) ∧ getL "kind" es = some (some (.str kd t1)) ∧ getL "low" es = some (some (.int lo t2)) ∧ getL "high" es = some (some (.int hi t3)) ∧ getL "small" es = some (some (.ref D)) ∧ (∀ p ∈ news, p.1 < dx) ∧ dx < x
theorem ret_fix {Q : Value → Shared → Prop} {h₀ : Heap} {L D : Addr} {m : Str → Option Value} {s : Shared} {news big : List (Addr × Obj)} {kd : Str} {lo hi : Int} {x dx : Addr} {es : List DictEntry} {k : Nat} {t1 t2 t3 : Tok} {h' : Heap} {tk' : Nat}
    (hret : ∀ v news' h' tk', FixOf kd lo hi D news v news' → Fr h₀ L h' m → News h₀ L h' news' → Q v { s with heap := h', toks := tk' })
    (N : News h₀ L h' big) (F : Fr h₀ L h' m) (hx : (x, instObj 150 dx) ∈ big) (hdx : (dx, dictOf es k) ∈ big) (hs : ∀ p ∈ news, p ∈ big)
    (e1 : getL "kind" es = some (some (.str kd t1))) (e2 : getL "low" es = some (some (.int lo t2))) (e3 : getL "high" es = some (some (.int hi t3))) (e4 : getL "small" es = some (some (.ref D))) (l1 : ∀ p ∈ news, p.1 < dx) (l2 : dx < x) : Q (.ref x) { s with heap := h', toks := tk' } :=
  hret _ _ _ _ ⟨x, dx, es, k, t1, t2, t3, rfl, rfl, e1, e2, e3, e4, l1, l2⟩ F fun p hp => by
    rcases List.mem_cons.mp hp with rfl | hp
    · exact N _ hx
    · rcases List.mem_cons.mp hp with rfl | hp
      · exact N _ hdx
      · exact N _ (hs _ hp)
theorem ini_obj {x dx : Addr} {es : List DictEntry} {k : Nat} {kd : Str} {t1 t2 t3 : Tok} {v1 v2 v3 : Value} (e1 : getL "kind" es = some (some (.str kd t1))) (e2 : getL "low" es = some (some v1)) (e3 : getL "high" es = some (some v2)) (e4 : getL "small" es = some (some v3)) (hz : es.length ≤ 100) : TyD kd 100 es :=
  ⟨⟨t1, e1⟩, ⟨v1, e2⟩, ⟨v2, e3⟩, ⟨v3, e4⟩, hz⟩
def TypIni (kd : Str) (news : List (Addr × Obj)) (v : Value) (n : List (Addr × Obj)) : Prop :=
  ∃ x dx es k, v = .ref x ∧ n = ((x, instObj 150 dx) :: (dx, dictOf es k) :: news) ∧ TyD kd 100 es ∧ (∀ p ∈ news, p.1 < dx) ∧ dx < x
theorem ret_ini {Q : Value → Shared → Prop} {h₀ : Heap} {L : Addr} {m : Str → Option Value} {s : Shared} {news big : List (Addr × Obj)} {kd : Str} {x dx : Addr} {es : List DictEntry} {k : Nat} {t1 : Tok} {v1 v2 v3 : Value} {h' : Heap} {tk' : Nat}
    (hret : ∀ v news' h' tk', TypIni kd news v news' → Fr h₀ L h' m → News h₀ L h' news' → Q v { s with heap := h', toks := tk' })
    (N : News h₀ L h' big) (F : Fr h₀ L h' m) (hx : (x, instObj 150 dx) ∈ big) (hdx : (dx, dictOf es k) ∈ big) (hs : ∀ p ∈ news, p ∈ big)
    (e1 : getL "kind" es = some (some (.str kd t1))) (e2 : getL "low" es = some (some v1)) (e3 : getL "high" es = some (some v2)) (e4 : getL "small" es = some (some v3)) (hz : es.length ≤ 100) (l1 : ∀ p ∈ news, p.1 < dx) (l2 : dx < x) : Q (.ref x) { s with heap := h', toks := tk' } :=
  hret _ _ _ _ ⟨x, dx, es, k, rfl, rfl, ⟨⟨t1, e1⟩, ⟨v1, e2⟩, ⟨v2, e3⟩, ⟨v3, e4⟩, hz⟩, l1, l2⟩ F fun p hp => by
    rcases List.mem_cons.mp hp with rfl | hp
    · exact N _ hx
    · rcases List.mem_cons.mp hp with rfl | hp
      · exact N _ hdx
      · exact N _ (hs _ hp)
theorem spec_type (w : World) (x y : Str) (t u : Tok) (news : List (Addr × Obj)) :
   Spec w 150 [.str x t, .str y u] news 3 (TypIni x news) := by
  unfold Spec
  k_fill
  intros
  rename_i hret
  refine done_in ?_
  k_dflt (refine' call_cls ?k1 ?k2 ?k3 ?k4 ?k5 ?k6 ?_; (case k1 => k_asm); (case k2 => k_asm); (case k3 => k_asm); (case k4 => k_is); (case k5 => k_is); (case k6 => k_is); k_whole; intro x' d' h' F' N' l1 l2; (try k_lt l1); (try k_lt2 l2); (try k_sweep); cell_enter)
  k_steps
  all_goals (try dsimp only [Done])
  all_goals (k_dflt (refine' ret_ini hret (by k_asm) (by k_asm) ?m1 ?m2 ?m3 ?g1 ?g2 ?g3 ?g4 ?g5 ?a1 ?a2))
  case m1 => repeat (first | with_reducible exact List.mem_cons_self | with_reducible refine List.mem_cons_of_mem _ ?_)
  case m2 => repeat (first | with_reducible exact List.mem_cons_self | with_reducible refine List.mem_cons_of_mem _ ?_)
  case g1 => rfl
  case g2 => rfl
  case g3 => rfl
  case g4 => rfl
  case g5 => exact Nat.le_of_ble_eq_true rfl
  case m3 => (intro p hp; simp [hp])
  case a1 => assumption
  case a2 => assumption
end
-- E2
section
local macro_rules | `(tactic| k_room) => `(tactic| ktr_room)
theorem lines_E2 : True := by
  k_with_none
  w_top off
  k_with "mine sides" => (
        (case k1 => first | k_asm | fail "mine: the frames below")
        (case k2 => first | k_asm | fail "mine: the frame")
        (case k3 => first | k_asm | fail "mine: the written part")
        (case k4 => first | k_asm | fail "mine: the ledger")
        (case k5 => first | k_asm | fail "mine: the top's facts")
        (case kK => first | exact rfl | assumption | fail "mine: the caller is no def")
        (case kd => first | ktr_room | fail "mine: the frames' room")
        (case ku => first | ktr_units | fail "mine: the C units"))
  k_with "mine one" => first | assumption | exact slice_one_len (by walk_at "mine num") | omega
  k_with "mine num" => first | assumption | decide | omega
  k_with "call ref" => (k_here; (with_reducible show wpAny _ _ (call (Value.ref 88) _) _ _ _); k_dflt (refine' use_spec (spec_small_letter _ _ _ _ ?kp) ?k1 ?k2 ?k3 ?k4 ?k5 ?kK ?kd ?ku ?_); (case kp => walk_at "mine one"); walk_at "mine sides"; intro v9 n9 h9 tk9 ok9 F9 N9; (obtain ⟨e9, t9, e9'⟩ := ok9); subst e9; subst e9'; (try dsimp only); (try k_fold))
  k_with "mine tup" => (intro v9 n9 h9 tk9 ok9 F9 N9; (obtain ⟨⟨D9, t9, u9, c9, e9, e9', l9⟩, f9⟩ := ok9); subst e9; subst e9'; (try k_lt l9); (obtain ⟨f7, f8, f9⟩ := f9); (try dsimp only); (try k_fold))
  k_with "mine l" => first | assumption | exact lt1 (by assumption) | exact lt2 (by assumption) | exact lt3 (by assumption) | exact lt4 (by assumption)
  k_with "mine sub" => first | exact sub0 _ | exact sub1 (sub0 _) | exact sub1 (sub1 (sub0 _)) | exact sub1 (sub1 (sub1 (sub0 _))) | exact sub1 (sub1 (sub1 (sub1 (sub0 _))))
  k_with "call ref" => (k_here; (with_reducible show wpAny _ _ (call (Value.ref 150) _) _ _ _); focus (k_dflt (refine' use_spec (spec_type _ _ _ _ _ _) ?k1 ?k2 ?k3 ?k4 ?k5 ?kK ?kd ?ku ?_); walk_at "mine sides"; intro v9 n9 h9 tk9 ok9 F9 N9; (unfold TypIni TyD at ok9); (obtain ⟨x9, dx9, es9, k9, e9, e9', ⟨⟨t9, d1⟩, d2, d3, d4, d5⟩, l9, m9⟩ := ok9); subst e9; subst e9'; (replace m9 := ltN m9); (have l8 := l9); (try k_lt l8); (try dsimp only); (try k_fold)))
  k_with "setAttr ref" => (k_here; k_dflt (refine' set_dict ?k1 ?k2 ?k3 ?k4 ?k5 ?k6 ?k7 ?k8 ?k9 ?k10 ?k11 ?k12 ?k13 ?_; (case k1 => k_asm); (case k2 => k_asm); (case k3 => k_asm); (case k4 => k_inst); (case k5 => exact rfl); (case k6 => k_is); (case k7 => k_is); (case k8 => k_is); (case k9 => k_is); (case k10 => with_reducible first | exact some_of (by assumption) | exact some_of (has_put (by assumption)) | exact some_of (has_put (has_put (by assumption)))); (case k11 => exact rfl); (case k12 => k_upd); (case k13 => with_reducible first | exact to1000 (len1 (by assumption)) (by decide) | exact to1000 (len2 (by assumption)) (by decide) | exact to1000 (len3 (by assumption)) (by decide)); intro h' F' N'; (try k_sweep)))
  trivial
theorem spec_int_type (w : World) (lo hi : Int) (x : Str) (t u v : Tok) (news : List (Addr × Obj)) :
   Spec w 161 [.str x t, .int lo u, .int hi v] news 4 (TypOf "int" lo hi news) := by
  unfold Spec
  k_fill
  intros
  rename_i hret
  refine done_in ?_
  refine wpAny_call ?_
  k_dflt cell_enter
  k_steps
  all_goals (try dsimp only [Done])
  all_goals (k_dflt (refine' ret_typ hret (by k_asm) (by k_asm) ?m1 ?m2 ?m3 ?g1 ?g2 ?g3 ?a1 ?a2))
  case m1 => repeat (first | with_reducible exact List.mem_cons_self | with_reducible refine List.mem_cons_of_mem _ ?_)
  case m2 => repeat (first | with_reducible exact List.mem_cons_self | with_reducible refine List.mem_cons_of_mem _ ?_)
  case g1 => exact put_other kh (put_other kl (by assumption))
  case g2 => exact put_other lh (put_same _)
  case g3 => exact put_same _
  case m3 => (intro p hp; simp [hp])
  case a1 => assumption
  case a2 => assumption
theorem spec_fixed_type (w : World) (lo hi : Int) (x : Str) (D : Addr) (t u v : Tok) (news : List (Addr × Obj)) :
   Spec w 168 [.str x t, .ref D, .int lo u, .int hi v] news 4 (FixOf "fixed" lo hi D news) := by
  unfold Spec
  k_fill
  intros
  rename_i hret
  refine done_in ?_
  refine wpAny_call ?_
  k_dflt cell_enter
  k_steps
  all_goals (try dsimp only [Done])
  all_goals (k_dflt (refine' ret_fix hret (by k_asm) (by k_asm) ?m1 ?m2 ?m3 ?g1 ?g2 ?g3 ?g4 ?a1 ?a2))
  case m1 => repeat (first | with_reducible exact List.mem_cons_self | with_reducible refine List.mem_cons_of_mem _ ?_)
  case m2 => repeat (first | with_reducible exact List.mem_cons_self | with_reducible refine List.mem_cons_of_mem _ ?_)
  case g1 => exact put_other kh (put_other kl (put_other ks (by assumption)))
  case g2 => exact put_other lh (put_same _)
  case g3 => exact put_same _
  case g4 => exact put_other sh (put_other sl (put_same _))
  case m3 => (intro p hp; simp [hp])
  case a1 => assumption
  case a2 => assumption
end
-- R2
theorem lines_R2 : True := by
  k_with_none
  w_top off
  k_with "mine sides" => (
        (case k1 => first | k_asm | fail "mine: the frames below")
        (case k2 => first | k_asm | fail "mine: the frame")
        (case k3 => first | k_asm | fail "mine: the written part")
        (case k4 => first | k_asm | fail "mine: the ledger")
        (case k5 => first | k_asm | fail "mine: the top's facts")
        (case kK => first | exact rfl | assumption | fail "mine: the caller is no def")
        (case kd => first | ktr_room | fail "mine: the frames' room")
        (case ku => first | ktr_units | fail "mine: the C units"))
  k_with "mine one" => first | assumption | exact slice_one_len (by walk_at "mine num") | omega
  k_with "mine num" => first | assumption | decide | omega
  k_with "call ref" => (k_here; (with_reducible show wpAny _ _ (call (Value.ref 88) _) _ _ _); k_dflt (refine' use_spec (spec_small_letter _ _ _ _ ?kp) ?k1 ?k2 ?k3 ?k4 ?k5 ?kK ?kd ?ku ?_); (case kp => walk_at "mine one"); walk_at "mine sides"; intro v9 n9 h9 tk9 ok9 F9 N9; (obtain ⟨e9, t9, e9'⟩ := ok9); subst e9; subst e9'; (try dsimp only); (try k_fold))
  k_with "mine tup" => (intro v9 n9 h9 tk9 ok9 F9 N9; (obtain ⟨⟨D9, t9, u9, c9, e9, e9', l9⟩, f9⟩ := ok9); subst e9; subst e9'; (try k_lt l9); (obtain ⟨f7, f8, f9⟩ := f9); (try dsimp only); (try k_fold))
  k_with "mine l" => first | assumption | exact lt1 (by assumption) | exact lt2 (by assumption) | exact lt3 (by assumption) | exact lt4 (by assumption)
  k_with "mine sub" => first | exact sub0 _ | exact sub1 (sub0 _) | exact sub1 (sub1 (sub0 _)) | exact sub1 (sub1 (sub1 (sub0 _))) | exact sub1 (sub1 (sub1 (sub1 (sub0 _))))
  k_with "getMethod type:Exception" => (k_here; refine' method_type ?F ?X ?m (by decide +kernel) ?e ?h ?_; (case F => k_asm); (case X => k_asm); (case m => exact meta_Exc); (case e => k_dflt k_is); (case h => k_handed))
  k_with "call builtin:Exception.__init__" => (k_here; k_dflt (refine' init_N ?F ?N ?ne PySem.F.excBase_Exception ?hB (at51 ?X) ?l ?_; (case F => k_asm); (case N => k_asm); (case ne => assumption); (case hB => rfl); (case X => k_asm); (case l => size_fits); k_whole); intro t9 h9 F9 N9)
  k_with "setAttr ref" => (k_here; k_dflt (first
      | (refine' set_exc0 ?F ?X ?N ?ne ?hs (excCls51 _) ?hf ?_; (case F => k_asm); (case X => k_asm); (case N => k_asm); (case ne => assumption); (case hs => k_is); (case hf => k_is); k_whole; intro h9 tk9 dx9 od9 F9 N9 d9 e9 l9)
      | (refine' set_exc1 ?F ?X ?N ?d ?de ?dn ?k ?hs (excCls51 _) ?hf ?_; (case F => k_asm); (case X => k_asm); (case N => k_asm); (case d => assumption); (case de => assumption); (case dn => assumption); (case k => decide); (case hs => k_is); (case hf => k_is); k_whole; intro h9 tk9 od9 F9 N9 d9)))
  k_with "getAttr ref" => (k_here; k_dflt (refine' get_own ?k1 ?k2 ?k3 ?k4 ?k5 ?k6 ?k7 ?k8 ?k9 ?_; (case k1 => k_asm); (case k2 => k_asm); (case k3 => k_inst); (case k4 => k_is); (case k5 => k_is); (case k6 => k_is); (case k7 => k_is); (case k8 => with_reducible assumption); (case k9 => k_handed); k_whole))
  k_with "leaving ref" => (k_here; k_dflt (refine' leave_onSN ?k1 ?k2 ?k3 ?k4 ?_; (case k3 => assumption); (case k2 => assumption); (case k1 => assumption); (case k4 => assumption); k_whole; intro h' S' R' U'; (try dsimp only at S' R' U' ⊢)))
  k_with "call ref" => (k_here; (with_reducible show wpAny _ _ (call (Value.ref 60) _) _ _ _); k_dflt (refine' use_specX (spec_refuse _ _ _ _) ?k1 ?k2 ?k3 ?k4 ?k5 ?kK ?kd ?ku ?hr ?_); (case hr => exact fun _ _ _ _ ok => ok.elim); walk_at "mine sides"; intro _ e9 g9 h9 tk9 F9 R9 U9; (try dsimp only); (try k_fold))
  k_with "call ref" => (k_here; (with_reducible show wpAny _ _ (call (Value.ref 67) _) _ _ _); k_dflt (refine' use_spec (spec_in_bounds _ _ _ _ _ _ _ _) ?k1 ?k2 ?k3 ?k4 ?k5 ?kK ?kd ?ku ?_); walk_at "mine sides"; intro v9 n9 h9 tk9 ok9 F9 N9; (obtain ⟨e9, e9'⟩ := ok9); subst e9; subst e9'; (try dsimp only); (try k_fold))
  trivial
theorem spec_check_base (w : World) (x dx : Addr) (es : List DictEntry) (k : Nat) (lo hi v : Int) (t1 t2 t : Tok) (news : List (Addr × Obj))
   (e1 : getL "low" es = some (some (.int lo t1))) (e2 : getL "high" es = some (some (.int hi t2))) :
   SpecX w 74 [.ref x, .int v t] ((x, instObj 150 dx) :: (dx, dictOf es k) :: news) 6 (fun v' n => ((x, instObj 150 dx) :: (dx, dictOf es k) :: news) = n ∧ (lo ≤ v ∧ v ≤ hi) ∧ v' = .int v t) (¬ (lo ≤ v ∧ v ≤ hi)) := by
  unfold SpecX
  k_fill
  intros
  rename_i hret hexc
  refine done_in ?_
  refine wpAny_call ?_
  k_dflt cell_enter
  k_steps
  all_goals (try dsimp only [Done])
  all_goals first
    | exact hret _ _ _ _ ⟨rfl, by assumption, rfl⟩ (by k_asm) (by k_asm)
    | exact hexc (by assumption) _ _ _ _ (by assumption) (by assumption) (by assumption)
-- C6
theorem lines_C6 : True := by
  k_with_none
  w_top off
  k_with "mine sides" => (
        (case k1 => first | k_asm | fail "mine: the frames below")
        (case k2 => first | k_asm | fail "mine: the frame")
        (case k3 => first | k_asm | fail "mine: the written part")
        (case k4 => first | k_asm | fail "mine: the ledger")
        (case k5 => first | k_asm | fail "mine: the top's facts")
        (case kK => first | exact rfl | assumption | fail "mine: the caller is no def")
        (case kd => first | ktr_room | fail "mine: the frames' room")
        (case ku => first | ktr_units | fail "mine: the C units"))
  k_with "mine one" => first | assumption | exact slice_one_len (by walk_at "mine num") | omega
  k_with "mine num" => first | assumption | decide | omega
  k_with "call ref" => (k_here; (with_reducible show wpAny _ _ (call (Value.ref 88) _) _ _ _); k_dflt (refine' use_spec (spec_small_letter _ _ _ _ ?kp) ?k1 ?k2 ?k3 ?k4 ?k5 ?kK ?kd ?ku ?_); (case kp => walk_at "mine one"); walk_at "mine sides"; intro v9 n9 h9 tk9 ok9 F9 N9; (obtain ⟨e9, t9, e9'⟩ := ok9); subst e9; subst e9'; (try dsimp only); (try k_fold))
  k_with "mine tup" => (intro v9 n9 h9 tk9 ok9 F9 N9; (obtain ⟨⟨D9, t9, u9, c9, e9, e9', l9⟩, f9⟩ := ok9); subst e9; subst e9'; (try k_lt l9); (obtain ⟨f7, f8, f9⟩ := f9); (try dsimp only); (try k_fold))
  k_with "call ref" => (k_here; (with_reducible show wpAny _ _ (call (Value.ref 95) _) _ _ _); k_dflt (refine' use_spec (spec_fig _ _ _ _ _ _ _ _ ?p1 ?p2 ?p3 ?p4 ?p5) ?k1 ?k2 ?k3 ?k4 ?k5 ?kK ?kd ?ku ?_); (case p1 => assumption); (case p2 => walk_at "mine num"); (case p3 => walk_at "mine num"); (case p4 => walk_at "mine num"); (case p5 => walk_at "mine num"); walk_at "mine sides"; walk_at "mine tup")
  k_with "mine l" => first | assumption | exact lt1 (by assumption) | exact lt2 (by assumption) | exact lt3 (by assumption) | exact lt4 (by assumption)
  k_with "mine sub" => first | exact sub0 _ | exact sub1 (sub0 _) | exact sub1 (sub1 (sub0 _)) | exact sub1 (sub1 (sub1 (sub0 _))) | exact sub1 (sub1 (sub1 (sub1 (sub0 _))))
  k_with "call ref" => (k_here; (with_reducible show wpAny _ _ (call (Value.ref 102) _) _ _ _); k_dflt (refine' use_spec (spec_exp _ _ _ _ _ _ ?p1 ?p2 ?p3) ?k1 ?k2 ?k3 ?k4 ?k5 ?kK ?kd ?ku ?_); (case p1 => assumption); (case p2 => walk_at "mine num"); (case p3 => walk_at "mine num"); walk_at "mine sides"; walk_at "mine tup")
  k_with "binaryOp Mult int int" => refine mul_int ?_ (lit_mul (by with_reducible assumption) (by first | decide | with_reducible assumption) (by first | decide | with_reducible assumption) (by first | with_reducible assumption | exact Int.not_lt.mp (by with_reducible assumption)))
  k_with "mine sub" => first | exact sub0 _ | exact sub1 (sub0 _) | exact sub1 (sub1 (sub0 _)) | exact sub1 (sub1 (sub1 (sub0 _))) | exact sub1 (sub1 (sub1 (sub1 (sub0 _))))
  k_with "subscriptTail Name Constant str int" => (refine item_str (by decide) (item0_lo _) (first_in (by with_reducible assumption) (by decide +kernel)) ?_; intro _)
  k_with "subscriptTail Name Constant str int" => (refine item_str (by decide) (item0_lo _) (dot_in (by with_reducible assumption) (by with_reducible assumption)) ?_; intro _)
  k_with "subscriptTail Name Constant str int" => (refine item_str (by decide) (item0_lo _) (first_in (by with_reducible assumption) (by decide +kernel)) ?_; intro _)
  k_with "call builtin:len" => (k_here; (with_reducible show wpAny _ _ (call (Value.builtin "len") [Value.ref _]) _ _ _); k_dflt (refine len_signs (by with_reducible assumption) (by with_reducible assumption) (good_slice (by with_reducible assumption) _ _) ?_); intro n9 t9 k9 e9 l9)
  k_with "mine l" => first | assumption | exact lt1 (by assumption) | exact lt2 (by assumption) | exact lt3 (by assumption) | exact lt4 (by assumption) | exact news_lt (by assumption)
  k_with "subscriptTail Name Constant str int" => (refine item_str (by decide) (item0_lo _) (dot_in2 (by with_reducible assumption) (by with_reducible assumption) (by with_reducible assumption)) ?_; intro _)
  trivial
theorem spec_real_in (w : World) (x : Str) (t : Tok) (news : List (Addr × Obj)) (hg : Good x) :
   Spec w 121 [.str x t] news 5 (RetBII (realIn x) news) := by
  unfold Spec
  k_fill
  have hx := hg.1
  intros
  rename_i hret
  refine done_in ?_
  refine wpAny_call ?_
  k_dflt cell_enter
  k_dflt (refine' seq_2 (α := Int × Tok) (fun m a y => if y = Str.ofString "at" then some (.int a.1 a.2) else m y) (fun _ => news) (fun a => ∃ sn, sgnOf x = (sn, a.1)) ?F ?sa1 ?sb1; (case F => k_asm))
  case sa1 =>
    k_steps
    all_goals first
      | exact midG ⟨_, _⟩ (by k_asm) (by k_asm) map_dbl ⟨_, sgn_m (by with_reducible assumption)⟩
      | exact midG ⟨_, _⟩ (by k_asm) (by k_asm) map_dbl ⟨_, sgn_p (by with_reducible assumption) (by with_reducible assumption)⟩
      | exact midG ⟨_, _⟩ (by k_asm) (by k_asm) (fun _ => rfl) ⟨_, sgn_n (by with_reducible assumption) (by with_reducible assumption)⟩
  rintro ⟨at1, tt1⟩ h1 tk1 V1 F1 N1
  dsimp only at V1 F1 N1
  obtain ⟨sn1, V1⟩ := V1
  have b1 := (sgn_at01 V1).1
  have b2 := (sgn_at01 V1).2
  k_steps
  all_goals (try dsimp only [Done])
  all_goals first | (refine ret_BII hret (by k_asm) (by k_asm) (by walk_at "mine l") (by walk_at "mine sub") ?_)
  all_goals with_reducible first
    | exact real_bad V1 (.inl (by assumption))
    | exact real_bad V1 (.inr (.inl (by assumption)))
    | exact real_bad V1 (.inr (.inr (.inl (by assumption))))
    | exact real_bad V1 (.inr (.inr (.inr (by assumption))))
    | exact real_m V1 (by assumption) (by assumption) (by assumption) (by assumption) (by assumption) (by assumption) (by assumption)
    | exact real_p V1 (by assumption) (by assumption) (by assumption) (by assumption) (by assumption) (by assumption) (by assumption)
-- R3
theorem lines_R3 : True := by
  k_with_none
  w_top off
  k_with "mine sides" => (
        (case k1 => first | k_asm | fail "mine: the frames below")
        (case k2 => first | k_asm | fail "mine: the frame")
        (case k3 => first | k_asm | fail "mine: the written part")
        (case k4 => first | k_asm | fail "mine: the ledger")
        (case k5 => first | k_asm | fail "mine: the top's facts")
        (case kK => first | exact rfl | assumption | fail "mine: the caller is no def")
        (case kd => first | ktr_room | fail "mine: the frames' room")
        (case ku => first | ktr_units | fail "mine: the C units"))
  k_with "mine one" => first | assumption | exact slice_one_len (by walk_at "mine num") | omega
  k_with "mine num" => first | assumption | decide | omega
  k_with "call ref" => (k_here; (with_reducible show wpAny _ _ (call (Value.ref 88) _) _ _ _); k_dflt (refine' use_spec (spec_small_letter _ _ _ _ ?kp) ?k1 ?k2 ?k3 ?k4 ?k5 ?kK ?kd ?ku ?_); (case kp => walk_at "mine one"); walk_at "mine sides"; intro v9 n9 h9 tk9 ok9 F9 N9; (obtain ⟨e9, t9, e9'⟩ := ok9); subst e9; subst e9'; (try dsimp only); (try k_fold))
  k_with "mine tup" => (intro v9 n9 h9 tk9 ok9 F9 N9; (obtain ⟨⟨D9, t9, u9, c9, e9, e9', l9⟩, f9⟩ := ok9); subst e9; subst e9'; (try k_lt l9); (obtain ⟨f7, f8, f9⟩ := f9); (try dsimp only); (try k_fold))
  k_with "mine l" => first | assumption | exact lt1 (by assumption) | exact lt2 (by assumption) | exact lt3 (by assumption) | exact lt4 (by assumption)
  k_with "mine sub" => first | exact sub0 _ | exact sub1 (sub0 _) | exact sub1 (sub1 (sub0 _)) | exact sub1 (sub1 (sub1 (sub0 _))) | exact sub1 (sub1 (sub1 (sub1 (sub0 _))))
  k_with "getMethod type:Exception" => (k_here; refine' method_type ?F ?X ?m (by decide +kernel) ?e ?h ?_; (case F => k_asm); (case X => k_asm); (case m => exact meta_Exc); (case e => k_dflt k_is); (case h => k_handed))
  k_with "call builtin:Exception.__init__" => (k_here; k_dflt (refine' init_N ?F ?N ?ne PySem.F.excBase_Exception ?hB (at51 ?X) ?l ?_; (case F => k_asm); (case N => k_asm); (case ne => assumption); (case hB => rfl); (case X => k_asm); (case l => size_fits); k_whole); intro t9 h9 F9 N9)
  k_with "setAttr ref" => (k_here; k_dflt (first
      | (refine' set_exc0 ?F ?X ?N ?ne ?hs (excCls51 _) ?hf ?_; (case F => k_asm); (case X => k_asm); (case N => k_asm); (case ne => assumption); (case hs => k_is); (case hf => k_is); k_whole; intro h9 tk9 dx9 od9 F9 N9 d9 e9 l9)
      | (refine' set_exc1 ?F ?X ?N ?d ?de ?dn ?k ?hs (excCls51 _) ?hf ?_; (case F => k_asm); (case X => k_asm); (case N => k_asm); (case d => assumption); (case de => assumption); (case dn => assumption); (case k => decide); (case hs => k_is); (case hf => k_is); k_whole; intro h9 tk9 od9 F9 N9 d9)))
  k_with "getAttr ref" => (k_here; k_dflt (refine' get_own ?k1 ?k2 ?k3 ?k4 ?k5 ?k6 ?k7 ?k8 ?k9 ?_; (case k1 => k_asm); (case k2 => k_asm); (case k3 => k_inst); (case k4 => k_is); (case k5 => k_is); (case k6 => k_is); (case k7 => k_is); (case k8 => with_reducible assumption); (case k9 => k_handed); k_whole))
  k_with "leaving ref" => (k_here; k_dflt (refine' leave_onSN ?k1 ?k2 ?k3 ?k4 ?_; (case k3 => assumption); (case k2 => assumption); (case k1 => assumption); (case k4 => assumption); k_whole; intro h' S' R' U'; (try dsimp only at S' R' U' ⊢)))
  k_with "call ref" => (k_here; (with_reducible show wpAny _ _ (call (Value.ref 60) _) _ _ _); k_dflt (refine' use_specX (spec_refuse _ _ _ _) ?k1 ?k2 ?k3 ?k4 ?k5 ?kK ?kd ?ku ?hr ?_); (case hr => exact fun _ _ _ _ ok => ok.elim); walk_at "mine sides"; intro _ e9 g9 h9 tk9 F9 R9 U9; (try dsimp only); (try k_fold))
  k_with "call ref" => (k_here; (with_reducible show wpAny _ _ (call (Value.ref 67) _) _ _ _); k_dflt (refine' use_spec (spec_in_bounds _ _ _ _ _ _ _ _) ?k1 ?k2 ?k3 ?k4 ?k5 ?kK ?kd ?ku ?_); walk_at "mine sides"; intro v9 n9 h9 tk9 ok9 F9 N9; (obtain ⟨e9, e9'⟩ := ok9); subst e9; subst e9'; (try dsimp only); (try k_fold))
  k_with "mine mem" => repeat (first | with_reducible exact List.mem_cons_self | with_reducible refine List.mem_cons_of_mem _ ?_)
  k_with "mine sidesT" => (
        (case k1 => first | k_asm | fail "mine: the frames below")
        (case k2 => first | k_asm | fail "mine: the frame")
        (case k3 => first | k_asm | fail "mine: the written part")
        (case k4 => first | (refine' news_sub ?n1 (sub_two ?n2 ?n3 (sub_all _)); (case n1 => k_asm); (case n2 => walk_at "mine mem"); (case n3 => walk_at "mine mem")) | fail "mine: the ledger")
        (case k5 => first | k_asm | fail "mine: the top's facts")
        (case kK => first | exact rfl | assumption | fail "mine: the caller is no def")
        (case kd => first | ktr_room | fail "mine: the frames' room")
        (case ku => first | ktr_units | fail "mine: the C units"))
  k_with "binaryOp Mult int int" => refine mul_int ?_ (small_mul (by with_reducible assumption) (by with_reducible assumption))
  k_with "call ref" => (k_here; (with_reducible show wpAny _ _ (call (Value.ref 121) _) _ _ _); k_dflt (refine' use_spec (spec_real_in _ _ _ _ ?p1) ?k1 ?k2 ?k3 ?k4 ?k5 ?kK ?kd ?ku ?_); (case p1 => assumption); walk_at "mine sides"; intro v9 n9 h9 tk9 ok9 F9 N9; (obtain ⟨D9, t9, u9, c9, e9, e9', l9⟩ := ok9); subst e9; subst e9'; (try k_lt l9); (try dsimp only); (try k_fold))
  k_with "call ref" => (k_here; (with_reducible show wpAny _ _ (call (Value.ref 81) _) _ _ _); k_dflt (refine' use_spec (spec_rq _ _ _ _ _ _ ?p1 ?p2) ?k1 ?k2 ?k3 ?k4 ?k5 ?kK ?kd ?ku ?_); (case p1 => exact den_pos (by assumption) (by assumption)); (case p2 => exact den_bits (by assumption) (by assumption) (by assumption)); walk_at "mine sides"; intro v9 n9 h9 tk9 ok9 F9 N9; (obtain ⟨e9', t9, e9⟩ := ok9); subst e9; subst e9'; (try dsimp only); (try k_fold))
  k_with "call ref" => (k_here; (with_reducible show wpAny _ _ (call (Value.ref 74) _) _ _ _); focus (k_dflt (refine' use_specX (spec_check_base _ _ _ _ _ _ _ _ _ _ _ _ ?p1 ?p2) ?k1 ?k2 ?k3 ?k4 ?k5 ?kK ?kd ?ku ?hR ?hX); (case p1 => assumption); (case p2 => assumption); walk_at "mine sidesT"; (case' hR => (intro v9 n9 h9 tk9 ok9 F9 N9; (obtain ⟨e9', r9, e9⟩ := ok9); subst e9; subst e9'; (try dsimp only); (try k_fold))); (case' hX => (intro b9 e9 g9 h9 tk9 F9 R9 U9; (try dsimp only); (try k_fold)))))
  trivial
def fixVal (x : Str) (a b lo hi : Int) : Option Int :=
  if (realIn x).1 = true then (if lo ≤ rqF ((realIn x).2.1 * b) ((realIn x).2.2 * a) ∧ rqF ((realIn x).2.1 * b) ((realIn x).2.2 * a) ≤ hi then some (rqF ((realIn x).2.1 * b) ((realIn x).2.2 * a)) else none) else none
theorem fix_no {x : Str} {a b lo hi : Int} (h : (realIn x).1 = false) : fixVal x a b lo hi = none := by unfold fixVal; rw [if_neg (by rw [h]; decide)]
theorem fix_out {x : Str} {a b lo hi : Int} (h : ¬ (lo ≤ rqF ((realIn x).2.1 * b) ((realIn x).2.2 * a) ∧ rqF ((realIn x).2.1 * b) ((realIn x).2.2 * a) ≤ hi)) : fixVal x a b lo hi = none := by
  unfold fixVal
  rw [if_neg h]
  split <;> rfl
theorem fix_in {x : Str} {a b lo hi : Int} (h0 : (realIn x).1 = true) (h : lo ≤ rqF ((realIn x).2.1 * b) ((realIn x).2.2 * a) ∧ rqF ((realIn x).2.1 * b) ((realIn x).2.2 * a) ≤ hi) : fixVal x a b lo hi = some (rqF ((realIn x).2.1 * b) ((realIn x).2.2 * a)) := by
  unfold fixVal
  rw [if_pos h0, if_pos h]
theorem spec_fixed_value (w : World) (x dx D : Addr) (es : List DictEntry) (k c : Nat) (y : Str) (lo hi a b : Int) (t1 t2 t3 t4 t : Tok) (news : List (Addr × Obj)) (hg : Good y)
   (e1 : getL "low" es = some (some (.int lo t1))) (e2 : getL "high" es = some (some (.int hi t2))) (e3 : getL "small" es = some (some (.ref D))) (a0 : 0 < a) (a1 : a ≤ 10) (b0 : 0 < b) (b1 : b ≤ 10) :
   SpecX w 128 [.ref x, .str y t] ((x, instObj 150 dx) :: (dx, dictOf es k) :: (D, T2o a t3 b t4 c) :: news) 8 (RetOk (fixVal y a b lo hi) ((x, instObj 150 dx) :: (dx, dictOf es k) :: (D, T2o a t3 b t4 c) :: news)) (fixVal y a b lo hi = none) := by
  unfold SpecX
  k_fill
  have hx := hg.1
  intros
  rename_i hret hexc
  refine done_in ?_
  refine wpAny_call ?_
  k_dflt cell_enter
  k_steps
  all_goals (try dsimp only [Done])
  all_goals first
    | exact retOk hret (by k_asm) (by k_asm) (by intro p hp; simp only [List.mem_cons] at hp ⊢; simp only [hp, or_true]) (fix_in (by assumption) (by assumption))
    | exact hexc_of hexc (by assumption) (by assumption) (by assumption) (by intro p hp; simp only [List.mem_cons] at hp ⊢; simp only [hp, or_true]) (fix_no (by assumption))
    | exact hexc_of hexc (by assumption) (by assumption) (by assumption) (by intro p hp; simp only [List.mem_cons] at hp ⊢; simp only [hp, or_true]) (fix_out (by assumption))
-- C5
theorem lines_C5 : True := by
  k_with_none
  w_top off
  k_with "mine sides" => (
        (case k1 => first | k_asm | fail "mine: the frames below")
        (case k2 => first | k_asm | fail "mine: the frame")
        (case k3 => first | k_asm | fail "mine: the written part")
        (case k4 => first | k_asm | fail "mine: the ledger")
        (case k5 => first | k_asm | fail "mine: the top's facts")
        (case kK => first | exact rfl | assumption | fail "mine: the caller is no def")
        (case kd => first | ktr_room | fail "mine: the frames' room")
        (case ku => first | ktr_units | fail "mine: the C units"))
  k_with "mine one" => first | assumption | exact slice_one_len (by walk_at "mine num") | omega
  k_with "mine num" => first | assumption | decide | omega
  k_with "call ref" => (k_here; (with_reducible show wpAny _ _ (call (Value.ref 88) _) _ _ _); k_dflt (refine' use_spec (spec_small_letter _ _ _ _ ?kp) ?k1 ?k2 ?k3 ?k4 ?k5 ?kK ?kd ?ku ?_); (case kp => walk_at "mine one"); walk_at "mine sides"; intro v9 n9 h9 tk9 ok9 F9 N9; (obtain ⟨e9, t9, e9'⟩ := ok9); subst e9; subst e9'; (try dsimp only); (try k_fold))
  k_with "mine tup" => (intro v9 n9 h9 tk9 ok9 F9 N9; (obtain ⟨⟨D9, t9, u9, c9, e9, e9', l9⟩, f9⟩ := ok9); subst e9; subst e9'; (try k_lt l9); (obtain ⟨f7, f8, f9⟩ := f9); (try dsimp only); (try k_fold))
  k_with "call ref" => (k_here; (with_reducible show wpAny _ _ (call (Value.ref 95) _) _ _ _); k_dflt (refine' use_spec (spec_fig _ _ _ _ _ _ _ _ ?p1 ?p2 ?p3 ?p4 ?p5) ?k1 ?k2 ?k3 ?k4 ?k5 ?kK ?kd ?ku ?_); (case p1 => assumption); (case p2 => walk_at "mine num"); (case p3 => walk_at "mine num"); (case p4 => walk_at "mine num"); (case p5 => walk_at "mine num"); walk_at "mine sides"; walk_at "mine tup")
  k_with "mine l" => first | assumption | exact lt1 (by assumption) | exact lt2 (by assumption) | exact lt3 (by assumption) | exact lt4 (by assumption)
  k_with "mine sub" => first | exact sub0 _ | exact sub1 (sub0 _) | exact sub1 (sub1 (sub0 _)) | exact sub1 (sub1 (sub1 (sub0 _))) | exact sub1 (sub1 (sub1 (sub1 (sub0 _))))
  k_with "call ref" => (k_here; (with_reducible show wpAny _ _ (call (Value.ref 102) _) _ _ _); k_dflt (refine' use_spec (spec_exp _ _ _ _ _ _ ?p1 ?p2 ?p3) ?k1 ?k2 ?k3 ?k4 ?k5 ?kK ?kd ?ku ?_); (case p1 => assumption); (case p2 => walk_at "mine num"); (case p3 => walk_at "mine num"); walk_at "mine sides"; walk_at "mine tup")
  k_with "binaryOp Mult int int" => refine mul_int ?_ (lit_mul (by with_reducible assumption) (by first | decide | with_reducible assumption) (by first | decide | with_reducible assumption) (by first | with_reducible assumption | exact Int.not_lt.mp (by with_reducible assumption)))
  k_with "mine sub" => first | exact sub0 _ | exact sub1 (sub0 _) | exact sub1 (sub1 (sub0 _)) | exact sub1 (sub1 (sub1 (sub0 _))) | exact sub1 (sub1 (sub1 (sub1 (sub0 _))))
  k_with "subscriptTail Name Constant str int" => (refine item_str (by decide) (item0_lo _) (first_in (by with_reducible assumption) (by decide +kernel)) ?_; intro _)
  k_with "call ref" => (k_here; (with_reducible show wpAny _ _ (call (Value.ref 109) _) _ _ _); k_dflt (refine' use_spec (spec_lit _ _ _ _ _ _ ?p1 ?p2 ?p3) ?k1 ?k2 ?k3 ?k4 ?k5 ?kK ?kd ?ku ?_); (case p1 => assumption); (case p2 => walk_at "mine num"); (case p3 => walk_at "mine num"); walk_at "mine sides"; walk_at "mine tup")
  trivial
theorem sgnOf_ok {x : Str} {s a : Int} (h : sgnOf x = (s, a)) (b : Int) : IntMulOk s b := by
  have hs : s = (sgnOf x).1 := by rw [h]
  refine IntMulOk.of_left (intBits_le_64 ?_ ?_) <;> (rcases sgn_cases x with e | e <;> rw [hs, e] <;> decide)
theorem at_sign : Str.ofString "at" ≠ Str.ofString "sign" := by decide +kernel
theorem spec_number_in (w : World) (x : Str) (t : Tok) (news : List (Addr × Obj)) (hg : Good x) :
   Spec w 116 [.str x t] news 5 (RetBI (numIn x).1 (numIn x).2 news) := by
  unfold Spec
  k_fill
  have hx := hg.1
  intros
  rename_i hret
  refine done_in ?_
  refine wpAny_call ?_
  k_dflt cell_enter
  k_with "binaryOp Mult int int" => refine mul_int ?_ (sgnOf_ok (by with_reducible assumption) _)
  k_dflt (refine' seq_3 (α := Int × Tok × Int × Tok) (fun m a y => if y = Str.ofString "at" then some (.int a.1 a.2.1) else if y = Str.ofString "sign" then some (.int a.2.2.1 a.2.2.2) else m y) (fun _ => news) (fun a => sgnOf x = (a.2.2.1, a.1)) ?F ?sa1 ?sb1; (case F => k_asm))
  case sa1 =>
    k_steps
    all_goals with_reducible first
      | exact item_m (by assumption) (by assumption)
      | exact item_p (by assumption) (by assumption) (by assumption)
      | skip
    all_goals first
      | exact midG ⟨_, _, _, _⟩ (by k_asm) (by k_asm) (map_two at_sign) (sgn_m (by with_reducible assumption))
      | exact midG ⟨_, _, _, _⟩ (by k_asm) (by k_asm) map_dbl (sgn_p (by with_reducible assumption) (by with_reducible assumption))
      | exact midG ⟨_, _, _, _⟩ (by k_asm) (by k_asm) (fun _ => rfl) (sgn_n (by with_reducible assumption) (by with_reducible assumption))
  rintro ⟨at1, ta1, sn1, ts1⟩ h1 tk1 V1 F1 N1
  dsimp only at V1 F1 N1
  have b1 := (sgn_at01 V1).1
  have b2 := (sgn_at01 V1).2
  k_steps
  all_goals (try dsimp only [Done])
  all_goals (refine ret_BI hret (by k_asm) (by k_asm) (by walk_at "mine l") (by walk_at "mine sub") ?_)
  all_goals with_reducible first
    | exact num_yes V1 (by assumption)
    | exact num_no V1 (by assumption)
-- R4
theorem lines_R4 : True := by
  k_with_none
  w_top off
  k_with "mine sides" => (
        (case k1 => first | k_asm | fail "mine: the frames below")
        (case k2 => first | k_asm | fail "mine: the frame")
        (case k3 => first | k_asm | fail "mine: the written part")
        (case k4 => first | k_asm | fail "mine: the ledger")
        (case k5 => first | k_asm | fail "mine: the top's facts")
        (case kK => first | exact rfl | assumption | fail "mine: the caller is no def")
        (case kd => first | ktr_room | fail "mine: the frames' room")
        (case ku => first | ktr_units | fail "mine: the C units"))
  k_with "mine one" => first | assumption | exact slice_one_len (by walk_at "mine num") | omega
  k_with "mine num" => first | assumption | decide | omega
  k_with "call ref" => (k_here; (with_reducible show wpAny _ _ (call (Value.ref 88) _) _ _ _); k_dflt (refine' use_spec (spec_small_letter _ _ _ _ ?kp) ?k1 ?k2 ?k3 ?k4 ?k5 ?kK ?kd ?ku ?_); (case kp => walk_at "mine one"); walk_at "mine sides"; intro v9 n9 h9 tk9 ok9 F9 N9; (obtain ⟨e9, t9, e9'⟩ := ok9); subst e9; subst e9'; (try dsimp only); (try k_fold))
  k_with "mine tup" => (intro v9 n9 h9 tk9 ok9 F9 N9; (obtain ⟨⟨D9, t9, u9, c9, e9, e9', l9⟩, f9⟩ := ok9); subst e9; subst e9'; (try k_lt l9); (obtain ⟨f7, f8, f9⟩ := f9); (try dsimp only); (try k_fold))
  k_with "mine l" => first | assumption | exact lt1 (by assumption) | exact lt2 (by assumption) | exact lt3 (by assumption) | exact lt4 (by assumption)
  k_with "mine sub" => first | exact sub0 _ | exact sub1 (sub0 _) | exact sub1 (sub1 (sub0 _)) | exact sub1 (sub1 (sub1 (sub0 _))) | exact sub1 (sub1 (sub1 (sub1 (sub0 _))))
  k_with "call ref" => (k_here; (with_reducible show wpAny _ _ (call (Value.ref 109) _) _ _ _); k_dflt (refine' use_spec (spec_lit _ _ _ _ _ _ ?p1 ?p2 ?p3) ?k1 ?k2 ?k3 ?k4 ?k5 ?kK ?kd ?ku ?_); (case p1 => assumption); (case p2 => walk_at "mine num"); (case p3 => walk_at "mine num"); walk_at "mine sides"; walk_at "mine tup")
  k_with "call builtin:str.strip" => (k_here; (with_reducible show wpAny _ _ (call (Value.builtin "str.strip") [Value.str _ _, Value.str _ _]) _ _ _); k_dflt (refine strip_gen (by with_reducible assumption) ?_); intro y9 t9 k9 e9 g9 l9)
  k_with "call builtin:str.lower" => (k_here; (with_reducible show wpAny _ _ (call (Value.builtin "str.lower") [Value.str _ _]) _ _ _); k_dflt (refine lower_gen (by with_reducible assumption) ?_); intro y9 t9 k9 e9 g9 l9)
  k_with "call builtin:str.partition" => (k_here; (with_reducible show wpAny _ _ (call (Value.builtin "str.partition") [Value.str _ _, Value.str _ _]) _ _ _); k_dflt (refine part_gen (by with_reducible assumption) (by k_asm) (by k_asm) (by decide +kernel) ?_); intro a9 b9 c9 D9 ta9 tb9 tc9 h9 k9 e9 ga9 la9 gc9 lc9 lb9 F9 N9 l9; (try k_lt l9))
  k_with "subscriptTail Name Constant str int" => (refine item_str (by decide) (item0_lo _) (first_in (by with_reducible assumption) (by decide +kernel)) ?_; intro _)
  k_with "getMethod type:Exception" => (k_here; refine' method_type ?F ?X ?m (by decide +kernel) ?e ?h ?_; (case F => k_asm); (case X => k_asm); (case m => exact meta_Exc); (case e => k_dflt k_is); (case h => k_handed))
  k_with "call builtin:Exception.__init__" => (k_here; k_dflt (refine' init_N ?F ?N ?ne PySem.F.excBase_Exception ?hB (at51 ?X) ?l ?_; (case F => k_asm); (case N => k_asm); (case ne => assumption); (case hB => rfl); (case X => k_asm); (case l => size_fits); k_whole); intro t9 h9 F9 N9)
  k_with "setAttr ref" => (k_here; k_dflt (first
      | (refine' set_exc0 ?F ?X ?N ?ne ?hs (excCls51 _) ?hf ?_; (case F => k_asm); (case X => k_asm); (case N => k_asm); (case ne => assumption); (case hs => k_is); (case hf => k_is); k_whole; intro h9 tk9 dx9 od9 F9 N9 d9 e9 l9)
      | (refine' set_exc1 ?F ?X ?N ?d ?de ?dn ?k ?hs (excCls51 _) ?hf ?_; (case F => k_asm); (case X => k_asm); (case N => k_asm); (case d => assumption); (case de => assumption); (case dn => assumption); (case k => decide); (case hs => k_is); (case hf => k_is); k_whole; intro h9 tk9 od9 F9 N9 d9)))
  k_with "getAttr ref" => (k_here; k_dflt (refine' get_own ?k1 ?k2 ?k3 ?k4 ?k5 ?k6 ?k7 ?k8 ?k9 ?_; (case k1 => k_asm); (case k2 => k_asm); (case k3 => k_inst); (case k4 => k_is); (case k5 => k_is); (case k6 => k_is); (case k7 => k_is); (case k8 => with_reducible assumption); (case k9 => k_handed); k_whole))
  k_with "leaving ref" => (k_here; k_dflt (refine' leave_onSN ?k1 ?k2 ?k3 ?k4 ?_; (case k3 => assumption); (case k2 => assumption); (case k1 => assumption); (case k4 => assumption); k_whole; intro h' S' R' U'; (try dsimp only at S' R' U' ⊢)))
  k_with "call ref" => (k_here; (with_reducible show wpAny _ _ (call (Value.ref 60) _) _ _ _); k_dflt (refine' use_specX (spec_refuse _ _ _ _) ?k1 ?k2 ?k3 ?k4 ?k5 ?kK ?kd ?ku ?hr ?_); (case hr => exact fun _ _ _ _ ok => ok.elim); walk_at "mine sides"; intro _ e9 g9 h9 tk9 F9 R9 U9; (try dsimp only); (try k_fold))
  k_with "call ref" => (k_here; (with_reducible show wpAny _ _ (call (Value.ref 67) _) _ _ _); k_dflt (refine' use_spec (spec_in_bounds _ _ _ _ _ _ _ _) ?k1 ?k2 ?k3 ?k4 ?k5 ?kK ?kd ?ku ?_); walk_at "mine sides"; intro v9 n9 h9 tk9 ok9 F9 N9; (obtain ⟨e9, e9'⟩ := ok9); subst e9; subst e9'; (try dsimp only); (try k_fold))
  k_with "mine mem" => repeat (first | with_reducible exact List.mem_cons_self | with_reducible refine List.mem_cons_of_mem _ ?_)
  k_with "mine sidesT" => (
        (case k1 => first | k_asm | fail "mine: the frames below")
        (case k2 => first | k_asm | fail "mine: the frame")
        (case k3 => first | k_asm | fail "mine: the written part")
        (case k4 => first | (refine' news_sub ?n1 (sub_two ?n2 ?n3 (sub_all _)); (case n1 => k_asm); (case n2 => walk_at "mine mem"); (case n3 => walk_at "mine mem")) | fail "mine: the ledger")
        (case k5 => first | k_asm | fail "mine: the top's facts")
        (case kK => first | exact rfl | assumption | fail "mine: the caller is no def")
        (case kd => first | ktr_room | fail "mine: the frames' room")
        (case ku => first | ktr_units | fail "mine: the C units"))
  k_with "binaryOp Mult int int" => refine mul_int ?_ (small_mul (by with_reducible assumption) (by with_reducible assumption))
  k_with "call ref" => (k_here; (with_reducible show wpAny _ _ (call (Value.ref 121) _) _ _ _); k_dflt (refine' use_spec (spec_real_in _ _ _ _ ?p1) ?k1 ?k2 ?k3 ?k4 ?k5 ?kK ?kd ?ku ?_); (case p1 => assumption); walk_at "mine sides"; intro v9 n9 h9 tk9 ok9 F9 N9; (obtain ⟨D9, t9, u9, c9, e9, e9', l9⟩ := ok9); subst e9; subst e9'; (try k_lt l9); (try dsimp only); (try k_fold))
  k_with "call ref" => (k_here; (with_reducible show wpAny _ _ (call (Value.ref 81) _) _ _ _); k_dflt (refine' use_spec (spec_rq _ _ _ _ _ _ ?p1 ?p2) ?k1 ?k2 ?k3 ?k4 ?k5 ?kK ?kd ?ku ?_); (case p1 => exact den_pos (by assumption) (by assumption)); (case p2 => exact den_bits (by assumption) (by assumption) (by assumption)); walk_at "mine sides"; intro v9 n9 h9 tk9 ok9 F9 N9; (obtain ⟨e9', t9, e9⟩ := ok9); subst e9; subst e9'; (try dsimp only); (try k_fold))
  k_with "call ref" => (k_here; (with_reducible show wpAny _ _ (call (Value.ref 74) _) _ _ _); focus (k_dflt (refine' use_specX (spec_check_base _ _ _ _ _ _ _ _ _ _ _ _ ?p1 ?p2) ?k1 ?k2 ?k3 ?k4 ?k5 ?kK ?kd ?ku ?hR ?hX); (case p1 => assumption); (case p2 => assumption); walk_at "mine sidesT"; (case' hR => (intro v9 n9 h9 tk9 ok9 F9 N9; (obtain ⟨e9', r9, e9⟩ := ok9); subst e9; subst e9'; (try dsimp only); (try k_fold))); (case' hX => (intro b9 e9 g9 h9 tk9 F9 R9 U9; (try dsimp only); (try k_fold)))))
  k_with "call ref" => (k_here; (with_reducible show wpAny _ _ (call (Value.ref 116) _) _ _ _); k_dflt (refine' use_spec (spec_number_in _ _ _ _ ?p1) ?k1 ?k2 ?k3 ?k4 ?k5 ?kK ?kd ?ku ?_); (case p1 => assumption); walk_at "mine sides"; intro v9 n9 h9 tk9 ok9 F9 N9; (obtain ⟨D9, t9, c9, e9, e9', l9⟩ := ok9); subst e9; subst e9'; (try k_lt l9); (try dsimp only); (try k_fold))
  k_with "call ref" => (k_here; (with_reducible show wpAny _ _ (call (Value.ref 128) _) _ _ _); focus (k_dflt (refine' use_specX (spec_fixed_value _ _ _ _ _ _ _ _ _ _ _ _ _ _ _ _ _ _ ?p1 ?p2 ?p3 ?p4 ?p5 ?p6 ?p7 ?p8) ?k1 ?k2 ?k3 ?k4 ?k5 ?kK ?kd ?ku ?hR ?hX); (case p1 => assumption); (case p2 => assumption); (case p3 => assumption); (case p4 => assumption); walk_at "mine sides"; (case p5 => assumption); (case p6 => assumption); (case p7 => assumption); (case p8 => assumption); (case' hR => (intro v9 n9 h9 tk9 ok9 F9 N9; (obtain ⟨e9', k9, t9, r9, e9⟩ := ok9); subst e9; subst e9'; (try dsimp only); (try k_fold))); (case' hX => (intro b9 e9 g9 h9 tk9 F9 R9 U9; (try dsimp only); (try k_fold)))))
  trivial
def intVal (x : Str) (lo hi : Int) : Option Int := if (numIn x).1 = true then (if lo ≤ (numIn x).2 ∧ (numIn x).2 ≤ hi then some (numIn x).2 else none) else none
theorem int_no {x z : Str} {lo hi : Int} (e : z = x) (h : (numIn z).1 = false) : intVal x lo hi = none := by subst e; unfold intVal; rw [if_neg (by rw [h]; decide)]
theorem int_out {x z : Str} {lo hi : Int} (e : z = x) (h : ¬ (lo ≤ (numIn z).2 ∧ (numIn z).2 ≤ hi)) : intVal x lo hi = none := by
  subst e
  unfold intVal
  rw [if_neg h]
  split <;> rfl
theorem int_in {x z : Str} {lo hi : Int} (e : z = x) (h0 : (numIn z).1 = true) (h : lo ≤ (numIn z).2 ∧ (numIn z).2 ≤ hi) : intVal x lo hi = some (numIn z).2 := by
  subst e
  unfold intVal
  rw [if_pos h0, if_pos h]
theorem fixv_some {x z : Str} {a b lo hi k : Int} (e : z = x) (h : fixVal z a b lo hi = some k) : fixVal x a b lo hi = some k := e ▸ h
theorem fixv_none {x z : Str} {a b lo hi : Int} (e : z = x) (h : fixVal z a b lo hi = none) : fixVal x a b lo hi = none := e ▸ h
theorem spec_value_int (w : World) (x dx : Addr) (es : List DictEntry) (k : Nat) (y : Str) (lo hi : Int) (t1 t2 t3 t : Tok) (news : List (Addr × Obj)) (hg : Good y)
   (e0 : getL "kind" es = some (some (.str "int" t3))) (e1 : getL "low" es = some (some (.int lo t1))) (e2 : getL "high" es = some (some (.int hi t2))) :
   SpecX w 133 [.ref x, .str y t] ((x, instObj 150 dx) :: (dx, dictOf es k) :: news) 9 (RetOk (intVal (Txt.stripChars y (Str.ofString " ")) lo hi) ((x, instObj 150 dx) :: (dx, dictOf es k) :: news)) (intVal (Txt.stripChars y (Str.ofString " ")) lo hi = none) := by
  unfold SpecX
  k_fill
  have hx := hg.1
  intros
  rename_i hret hexc
  refine done_in ?_
  refine wpAny_call ?_
  k_dflt cell_enter
  k_steps
  all_goals (try dsimp only [Done])
  all_goals first
    | exact retOk hret (by k_asm) (by k_asm) (by intro p hp; simp only [List.mem_cons] at hp ⊢; simp only [hp, or_true]) (int_in (by with_reducible assumption) (by assumption) (by assumption))
    | exact hexc_of hexc (by assumption) (by assumption) (by assumption) (by intro p hp; simp only [List.mem_cons] at hp ⊢; simp only [hp, or_true]) (int_no (by with_reducible assumption) (by assumption))
    | exact hexc_of hexc (by assumption) (by assumption) (by assumption) (by intro p hp; simp only [List.mem_cons] at hp ⊢; simp only [hp, or_true]) (int_out (by with_reducible assumption) (by assumption))
theorem spec_value_fixed (w : World) (x dx D : Addr) (es : List DictEntry) (k c : Nat) (y : Str) (lo hi a b : Int) (t0 t1 t2 t3 t4 t : Tok) (news : List (Addr × Obj)) (hg : Good y)
   (e0 : getL "kind" es = some (some (.str "fixed" t0))) (e1 : getL "low" es = some (some (.int lo t1))) (e2 : getL "high" es = some (some (.int hi t2))) (e3 : getL "small" es = some (some (.ref D))) (a0 : 0 < a) (a1 : a ≤ 10) (b0 : 0 < b) (b1 : b ≤ 10) :
   SpecX w 133 [.ref x, .str y t] ((x, instObj 150 dx) :: (dx, dictOf es k) :: (D, T2o a t3 b t4 c) :: news) 9 (RetOk (fixVal (Txt.stripChars y (Str.ofString " ")) a b lo hi) ((x, instObj 150 dx) :: (dx, dictOf es k) :: (D, T2o a t3 b t4 c) :: news)) (fixVal (Txt.stripChars y (Str.ofString " ")) a b lo hi = none) := by
  unfold SpecX
  k_fill
  have hx := hg.1
  intros
  rename_i hret hexc
  refine done_in ?_
  refine wpAny_call ?_
  k_dflt cell_enter
  k_steps
  all_goals (try dsimp only [Done])
  all_goals first
    | exact retOk hret (by k_asm) (by k_asm) (by intro p hp; exact hp) (fixv_some (by with_reducible assumption) (by assumption))
    | exact hexc_of hexc (by assumption) (by assumption) (by assumption) (by intro p hp; exact hp) (fixv_none (by with_reducible assumption) (by assumption))
-- R5
section
local macro_rules | `(tactic| k_room) => `(tactic| ktr_room)
theorem lines_R5 : True := by
  k_with_none
  w_top off
  k_with "mine sides" => (
        (case k1 => first | k_asm | fail "mine: the frames below")
        (case k2 => first | k_asm | fail "mine: the frame")
        (case k3 => first | k_asm | fail "mine: the written part")
        (case k4 => first | k_asm | fail "mine: the ledger")
        (case k5 => first | k_asm | fail "mine: the top's facts")
        (case kK => first | exact rfl | assumption | fail "mine: the caller is no def")
        (case kd => first | ktr_room | fail "mine: the frames' room")
        (case ku => first | ktr_units | fail "mine: the C units"))
  k_with "mine one" => first | assumption | exact slice_one_len (by walk_at "mine num") | omega
  k_with "mine num" => first | assumption | decide | omega
  k_with "call ref" => (k_here; (with_reducible show wpAny _ _ (call (Value.ref 88) _) _ _ _); k_dflt (refine' use_spec (spec_small_letter _ _ _ _ ?kp) ?k1 ?k2 ?k3 ?k4 ?k5 ?kK ?kd ?ku ?_); (case kp => walk_at "mine one"); walk_at "mine sides"; intro v9 n9 h9 tk9 ok9 F9 N9; (obtain ⟨e9, t9, e9'⟩ := ok9); subst e9; subst e9'; (try dsimp only); (try k_fold))
  k_with "mine tup" => (intro v9 n9 h9 tk9 ok9 F9 N9; (obtain ⟨⟨D9, t9, u9, c9, e9, e9', l9⟩, f9⟩ := ok9); subst e9; subst e9'; (try k_lt l9); (obtain ⟨f7, f8, f9⟩ := f9); (try dsimp only); (try k_fold))
  k_with "mine l" => first | assumption | exact lt1 (by assumption) | exact lt2 (by assumption) | exact lt3 (by assumption) | exact lt4 (by assumption)
  k_with "mine sub" => first | exact sub0 _ | exact sub1 (sub0 _) | exact sub1 (sub1 (sub0 _)) | exact sub1 (sub1 (sub1 (sub0 _))) | exact sub1 (sub1 (sub1 (sub1 (sub0 _))))
  k_with "getMethod type:Exception" => (k_here; refine' method_type ?F ?X ?m (by decide +kernel) ?e ?h ?_; (case F => k_asm); (case X => k_asm); (case m => exact meta_Exc); (case e => k_dflt k_is); (case h => k_handed))
  k_with "call builtin:Exception.__init__" => (k_here; k_dflt (refine' init_N ?F ?N ?ne PySem.F.excBase_Exception ?hB (at51 ?X) ?l ?_; (case F => k_asm); (case N => k_asm); (case ne => assumption); (case hB => rfl); (case X => k_asm); (case l => size_fits); k_whole); intro t9 h9 F9 N9)
  k_with "setAttr ref" => (k_here; k_dflt (first
      | (refine' set_exc0 ?F ?X ?N ?ne ?hs (excCls51 _) ?hf ?_; (case F => k_asm); (case X => k_asm); (case N => k_asm); (case ne => assumption); (case hs => k_is); (case hf => k_is); k_whole; intro h9 tk9 dx9 od9 F9 N9 d9 e9 l9)
      | (refine' set_exc1 ?F ?X ?N ?d ?de ?dn ?k ?hs (excCls51 _) ?hf ?_; (case F => k_asm); (case X => k_asm); (case N => k_asm); (case d => assumption); (case de => assumption); (case dn => assumption); (case k => decide); (case hs => k_is); (case hf => k_is); k_whole; intro h9 tk9 od9 F9 N9 d9)))
  k_with "getAttr ref" => (k_here; k_dflt (refine' get_own ?k1 ?k2 ?k3 ?k4 ?k5 ?k6 ?k7 ?k8 ?k9 ?_; (case k1 => k_asm); (case k2 => k_asm); (case k3 => k_inst); (case k4 => k_is); (case k5 => k_is); (case k6 => k_is); (case k7 => k_is); (case k8 => with_reducible assumption); (case k9 => k_handed); k_whole))
  k_with "leaving ref" => (k_here; k_dflt (refine' leave_onSN ?k1 ?k2 ?k3 ?k4 ?_; (case k3 => assumption); (case k2 => assumption); (case k1 => assumption); (case k4 => assumption); k_whole; intro h' S' R' U'; (try dsimp only at S' R' U' ⊢)))
  k_with "call ref" => (k_here; (with_reducible show wpAny _ _ (call (Value.ref 60) _) _ _ _); k_dflt (refine' use_specX (spec_refuse _ _ _ _) ?k1 ?k2 ?k3 ?k4 ?k5 ?kK ?kd ?ku ?hr ?_); (case hr => exact fun _ _ _ _ ok => ok.elim); walk_at "mine sides"; intro _ e9 g9 h9 tk9 F9 R9 U9; (try dsimp only); (try k_fold))
  k_with "call ref" => (k_here; (with_reducible show wpAny _ _ (call (Value.ref 67) _) _ _ _); k_dflt (refine' use_spec (spec_in_bounds _ _ _ _ _ _ _ _) ?k1 ?k2 ?k3 ?k4 ?k5 ?kK ?kd ?ku ?_); walk_at "mine sides"; intro v9 n9 h9 tk9 ok9 F9 N9; (obtain ⟨e9, e9'⟩ := ok9); subst e9; subst e9'; (try dsimp only); (try k_fold))
  k_with "noteFrame ref" => (k_here; k_dflt (refine' caught_own ?R ?F ?K ?U ?XB ?TB ?D ?T0 ?ex (kts51 _) ?_; (case R => assumption); (case F => assumption); (case K => assumption); (case U => assumption); (case XB => assumption); (case TB => assumption); (case D => assumption); (case T0 => first | assumption | exact KtsTurn.refl); (case ex => k_is); k_whole); intro h' g' T' F' N' K' X' P' D'; (try k_lift K'); (try k_sweep))
  k_with "call ref" => (k_here; (with_reducible show wpAny _ _ (call (Value.ref 133) _) _ _ _); focus (k_dflt (refine' use_specX (spec_value_int _ _ _ _ _ _ _ _ _ _ _ _ _ ?p1 ?p2 ?p3 ?p4) ?k1 ?k2 ?k3 ?k4 ?k5 ?kK ?kd ?ku ?hR ?hX); (case p1 => assumption); (case p2 => assumption); (case p3 => assumption); (case p4 => assumption); walk_at "mine sides"; (case' hR => (intro v9 n9 h9 tk9 ok9 F9 N9; (unfold RetOk at ok9); (obtain ⟨e9', k9, t9, r9, e9⟩ := ok9); subst e9; subst e9'; (try dsimp only); (try k_fold))); (case' hX => (intro b9 e9 g9 h9 tk9 F9 R9 U9; (try dsimp only); (try k_fold)))))
  k_with "call ref" => (k_here; (with_reducible show wpAny _ _ (call (Value.ref 133) _) _ _ _); focus (k_dflt (refine' use_specX (spec_value_fixed _ _ _ _ _ _ _ _ _ _ _ _ _ _ _ _ _ _ _ ?p1 ?p2 ?p3 ?p4 ?p5 ?p6 ?p7 ?p8 ?p9) ?k1 ?k2 ?k3 ?k4 ?k5 ?kK ?kd ?ku ?hR ?hX); (case p1 => assumption); (case p2 => assumption); (case p3 => assumption); (case p4 => assumption); (case p5 => assumption); walk_at "mine sides"; (case p6 => assumption); (case p7 => assumption); (case p8 => assumption); (case p9 => assumption); (case' hR => (intro v9 n9 h9 tk9 ok9 F9 N9; (unfold RetOk at ok9); (obtain ⟨e9', k9, t9, r9, e9⟩ := ok9); subst e9; subst e9'; (try dsimp only); (try k_fold))); (case' hX => (intro b9 e9 g9 h9 tk9 F9 R9 U9; (try dsimp only); (try k_fold)))))
  trivial
/-- a def that the law itself calls, and that may catch -/
def SpecR (w : World) (f : Addr) (vs : List Value) (news : List (Addr × Obj)) (k : Nat) (Ok : Value → List (Addr × Obj) → Prop) : Prop :=
  ∀ (mean : ExcName → Option Value) (mg mb : Str → Option Value) (dp un : Nat) (gd : Option (List Code)) (cn : Str) (cs : Scope) (a : Addr) (ccd : Value) (A₀ : Around) (h₀ : Heap) (L : Addr) (m : Str → Option Value) (s : Shared) (Q E : Value → Shared → Prop),
    Below A₀ h₀ [] h₀ → Fr h₀ L s.heap m → (heapK w.params).In h₀ → News h₀ L s.heap news → Top viewK (looseW viewK [Str.ofString "_law_pieces"]) mean mg mb h₀ → cs.kind = .function →
    dp + k < recursionLimit → un + 8 * k < cLine →
    (∀ v news' h' tk', Ok v news' → Fr h₀ L h' m → News h₀ L h' news' → Q v { s with heap := h', toks := tk' }) →
    wpAny (model PySem.Challenge.rw_pb0011_01.row.prog w) (ktrTop dp un gd cn cs L a ccd [] []) (call (.ref f) vs) Q E s
theorem spec_read_int (w : World) (x dx : Addr) (es : List DictEntry) (k : Nat) (y : Str) (lo hi : Int) (t1 t2 t3 t : Tok) (news : List (Addr × Obj)) (hg : Good y)
   (e0 : getL "kind" es = some (some (.str "int" t3))) (e1 : getL "low" es = some (some (.int lo t1))) (e2 : getL "high" es = some (some (.int hi t2))) :
   SpecR w 223 [.ref x, .str y t] ((x, instObj 150 dx) :: (dx, dictOf es k) :: news) 10 (RetO (intVal (Txt.stripChars y (Str.ofString " ")) lo hi) ((x, instObj 150 dx) :: (dx, dictOf es k) :: news)) := by
  unfold SpecR
  k_fill
  intros
  rename_i hret
  refine done_in ?_
  refine wpAny_call ?_
  k_dflt (refine' code_defS0 ?k1 ?k2 ?k3 ?k4 ?k5 ?kA ?k6 ?k7 ?k8 ?k9 ?kB ?_ ?cK ?c2 ?c3 ?c4 ?c5; (case kA => exact rfl); (case k2 => k_asm); (case k1 => k_asm); (case k3 => k_asm); (case k4 => k_asm); (case k5 => k_asm); (case k6 => k_is); (case k7 => k_is); (case k8 => ktr_room); (case k9 => exact BindsTo.of_eq rfl); (case kB => exact locs rfl); (case cK => assumption); (case c2 => exact rfl); (case c3 => exact rfl); (case c4 => exact rfl); (case c5 => decide); k_whole; intro g' L' h' FG' F' N' B' X' T' D'; (try dsimp only); (try k_lift B'); (try k_fold))
  rename Below _ _ _ _ => B'
  rename KtsDicts _ _ => D'
  k_dflt (replace B' : Below _ _ [envX _ _ _ _ _ []] _ := B')
  k_steps
  all_goals (try dsimp only [Done])
  all_goals first
    | exact ret_none hret (by k_asm) (by k_asm) (sub0 _) (by with_reducible assumption)
    | exact ret_some hret (by k_asm) (by k_asm) (sub0 _) (by with_reducible assumption)
theorem spec_read_fixed (w : World) (x dx D : Addr) (es : List DictEntry) (k c : Nat) (y : Str) (lo hi a b : Int) (t0 t1 t2 t3 t4 t : Tok) (news : List (Addr × Obj)) (hg : Good y)
   (e0 : getL "kind" es = some (some (.str "fixed" t0))) (e1 : getL "low" es = some (some (.int lo t1))) (e2 : getL "high" es = some (some (.int hi t2))) (e3 : getL "small" es = some (some (.ref D))) (a0 : 0 < a) (a1 : a ≤ 10) (b0 : 0 < b) (b1 : b ≤ 10) :
   SpecR w 223 [.ref x, .str y t] ((x, instObj 150 dx) :: (dx, dictOf es k) :: (D, T2o a t3 b t4 c) :: news) 10 (RetO (fixVal (Txt.stripChars y (Str.ofString " ")) a b lo hi) ((x, instObj 150 dx) :: (dx, dictOf es k) :: (D, T2o a t3 b t4 c) :: news)) := by
  unfold SpecR
  k_fill
  intros
  rename_i hret
  refine done_in ?_
  refine wpAny_call ?_
  k_dflt (refine' code_defS0 ?k1 ?k2 ?k3 ?k4 ?k5 ?kA ?k6 ?k7 ?k8 ?k9 ?kB ?_ ?cK ?c2 ?c3 ?c4 ?c5; (case kA => exact rfl); (case k2 => k_asm); (case k1 => k_asm); (case k3 => k_asm); (case k4 => k_asm); (case k5 => k_asm); (case k6 => k_is); (case k7 => k_is); (case k8 => ktr_room); (case k9 => exact BindsTo.of_eq rfl); (case kB => exact locs rfl); (case cK => assumption); (case c2 => exact rfl); (case c3 => exact rfl); (case c4 => exact rfl); (case c5 => decide); k_whole; intro g' L' h' FG' F' N' B' X' T' D'; (try dsimp only); (try k_lift B'); (try k_fold))
  rename Below _ _ _ _ => B'
  rename KtsDicts _ _ => D'
  k_dflt (replace B' : Below _ _ [envX _ _ _ _ _ []] _ := B')
  k_steps
  all_goals (try dsimp only [Done])
  all_goals first
    | exact ret_none hret (by k_asm) (by k_asm) (sub0 _) (by with_reducible assumption)
    | exact ret_some hret (by k_asm) (by k_asm) (sub0 _) (by with_reducible assumption)
end
-- B12
/-- the end of a turn over the law's texts -/
def SpEnd (h₀ : Heap) (L : Addr) (x : Str) (stored : List Str) (m₀ : Str → Option Value) (need : List (Addr × Obj)) (s₁ s₂ : Shared) : Prop :=
  ∃ h' tk m' news', s₂ = { s₁ with heap := h', toks := tk } ∧ Fr h₀ L h' m' ∧ News h₀ L h' news' ∧ (∀ p ∈ need, p ∈ news') ∧ ∀ z, z ≠ x → stored.contains z = false → m' z = m₀ z
def SpPost (h₀ : Heap) (L : Addr) (x : Str) (stored : List Str) (m₀ : Str → Option Value) (need : List (Addr × Obj)) (s₁ : Shared) (Q : Flow → Shared → Prop) (f : Flow) (s₂ : Shared) : Prop :=
  match f with
  | .ret v => Q (.ret v) s₂
  | .brk => Q .next s₂
  | _ => SpEnd h₀ L x stored m₀ need s₁ s₂
theorem spEnd_intro {h₀ : Heap} {L : Addr} {x : Str} {stored : List Str} {m₀ m' : Str → Option Value} {need news' : List (Addr × Obj)} {s₁ : Shared} {h' : Heap} {tk : Nat}
    (F : Fr h₀ L h' m') (N : News h₀ L h' news') (hn : ∀ p ∈ need, p ∈ news') (hs : ∀ z, z ≠ x → stored.contains z = false → m' z = m₀ z) :
    SpEnd h₀ L x stored m₀ need s₁ { s₁ with heap := h', toks := tk } := ⟨h', tk, m', news', rfl, F, N, hn, hs⟩
section
variable {prog : Program} {w : World} {A : Around} {E : Value → Shared → Prop} {s : Shared} {env : Env} {h₀ : Heap} {x : Str} {body : List Stmt} {Q : Flow → Shared → Prop}
theorem spots_map {stored : List Str} {m₁ m₀ : Str → Option Value} {v : Value} (hm : ∀ z, z ≠ x → stored.contains z = false → m₁ z = m₀ z) :
    (fun z => if z = x then some v else m₁ z) = fun z => if z = x then some v else if stored.contains z then m₁ z else m₀ z := by
  funext z
  by_cases h1 : z = x
  · simp only [if_pos h1]
  · simp only [if_neg h1]
    cases h3 : stored.contains z with
    | true => simp
    | false => simp only [Bool.false_eq_true, if_false]; exact hm z h1 h3
theorem spots_done {stored : List Str} {m₁ m₀ : Str → Option Value} (hm : ∀ z, z ≠ x → stored.contains z = false → m₁ z = m₀ z) :
    m₁ = fun z => if z = x then m₁ z else if stored.contains z then m₁ z else m₀ z := by
  funext z
  by_cases h1 : z = x
  · simp only [if_pos h1]
  · simp only [if_neg h1]
    cases h3 : stored.contains z with
    | true => simp
    | false => simp only [Bool.false_eq_true, if_false]; exact hm z h1 h3
theorem loop_spots {l : Addr} {vs : List Value} {parts : List Str} {nn : Nat} {m₀ : Str → Option Value} {news : List (Addr × Obj)} (stored : List Str)
    (hh : A.handled = none) (hl : (l, listOf vs.toArray nn) ∈ news) (hi : StrsAre vs parts) (F : Fr h₀ env.locals s.heap m₀) (N : News h₀ env.locals s.heap news)
    (turn : ∀ p t (u : Str → Option Value) h tk own, p ∈ parts →
      Fr h₀ env.locals h (fun z => if z = x then some (.str p t) else if stored.contains z then u z else m₀ z) → News h₀ env.locals h (news ++ own) →
      wpAny (model prog w) A (execs body env) (SpPost h₀ env.locals x stored m₀ (news ++ own) { s with heap := h, toks := tk } Q) E { s with heap := h, toks := tk })
    (done : ∀ (u : Str → Option Value) h tk, Fr h₀ env.locals h (fun z => if z = x then u z else if stored.contains z then u z else m₀ z) → News h₀ env.locals h news → Q .next { s with heap := h, toks := tk }) :
    wpAny (model prog w) A (pyIter (.ref l)) (fun it s₂ => LoopAtV prog w A h₀ env x body Q E it s₂) E s := by
  refine kdl_iter (fun i m nx => nx = news ∧ ∀ z, z ≠ x → stored.contains z = false → m z = m₀ z) hh hl F N ⟨rfl, fun _ _ _ => rfl⟩ ?_ ?_
  · rintro i v m₁ nx h tk own hv hoff _ ⟨rfl, hm⟩ F₁ N₁
    obtain ⟨p, t, rfl, hp⟩ := StrsAre.item hi i v hv
    rw [spots_map hm] at F₁
    refine wpAny_mono (turn p t m₁ h tk own (List.mem_of_getElem? hp) F₁ N₁) (fun f s₂ q => ?_) fun _ _ e => e
    have fin : SpEnd h₀ env.locals x stored m₀ (nx ++ own) { s with heap := h, toks := tk } s₂ →
        InvEndG h₀ env.locals (fun m' n' => (l, listOf vs.toArray nn) ∈ n' ∧ n' = nx ∧ ∀ z, z ≠ x → stored.contains z = false → m' z = m₀ z) own { s with heap := h, toks := tk } s₂ := by
      rintro ⟨h', tk', m', news', e, F', N', hn, h2⟩
      exact ⟨h', tk', m', news', nx, e, F', N', fun p hp => hn p (List.mem_append_left _ hp), fun p hp => hn p (List.mem_append_right _ hp), hoff, hl, rfl, h2⟩
    cases f with
    | ret v => exact q
    | brk => exact q
    | next => exact fin q
    | cont => exact fin q
  · rintro m₁ nx h tk ⟨rfl, hm⟩ F₁ N₁
    refine done m₁ h tk ?_ N₁
    rw [← spots_done hm]
    exact F₁
end
theorem sub_three {α : Type} {a b c : α} {l big : List α} (ha : a ∈ big) (hb : b ∈ big) (hc : c ∈ big) (hl : ∀ p ∈ l, p ∈ big) : ∀ p ∈ a :: b :: c :: l, p ∈ big := fun p hp => by
  rcases List.mem_cons.mp hp with rfl | hp
  · exact ha
  · exact sub_two hb hc hl p hp
theorem news_rot2 {h₀ h : Heap} {L : Addr} {a b p q : Addr × Obj} {l : List (Addr × Obj)} (N : News h₀ L h (a :: b :: p :: q :: l)) : News h₀ L h (p :: q :: a :: b :: l) := fun x hx => N x (by
  simp only [List.mem_cons] at hx ⊢
  rcases hx with hx | hx | hx | hx | hx <;> simp only [hx, true_or, or_true])
/-- the int that the law has read, against the one that is due -/
theorem ret_due {r d : Option Int} {news n : List (Addr × Obj)} {v : Value} (h : RetO r news v n) (e : r = d) : (d = none → news = n ∧ v = .none) ∧ ∀ k, d = some k → news = n ∧ ∃ t, v = .int k t := by
  subst e
  rcases retO_cases h with ⟨e, q, e'⟩ | ⟨k, t, e, q, e'⟩
  · exact ⟨fun _ => ⟨e, e'⟩, fun k hk => by rw [q] at hk; cases hk⟩
  · exact ⟨fun hk => (by rw [q] at hk; cases hk), fun k' hk => by rw [q] at hk; cases hk; exact ⟨e, t, e'⟩⟩
theorem use_specR {w : World} {f : Addr} {vs : List Value} {news : List (Addr × Obj)} {k : Nat} {Ok : Value → List (Addr × Obj) → Prop} (S : SpecR w f vs news k Ok)
    {mean : ExcName → Option Value} {mg mb : Str → Option Value} {dp un : Nat} {gd : Option (List Code)} {cn : Str} {cs : Scope} {a : Addr} {ccd : Value} {A₀ : Around} {h₀ : Heap} {L : Addr} {m : Str → Option Value} {s : Shared} {Q E : Value → Shared → Prop}
    (B : Below A₀ h₀ [] h₀) (F : Fr h₀ L s.heap m) (X : (heapK w.params).In h₀) (N : News h₀ L s.heap news) (T : Top viewK (looseW viewK [Str.ofString "_law_pieces"]) mean mg mb h₀) (hk : cs.kind = .function)
    (hd : dp + k < recursionLimit) (hu : un + 8 * k < cLine) (hret : ∀ v news' h' tk', Ok v news' → Fr h₀ L h' m → News h₀ L h' news' → Q v { s with heap := h', toks := tk' }) :
    wpAny (model PySem.Challenge.rw_pb0011_01.row.prog w) (ktrTop dp un gd cn cs L a ccd [] []) (call (.ref f) vs) Q E s :=
  S mean mg mb dp un gd cn cs a ccd A₀ h₀ L m s Q E B F X N T hk hd hu hret
theorem lt_head {P d : Addr} {o : Obj} {l : List (Addr × Obj)} (h : ∀ p ∈ (P, o) :: l, p.1 < d) : P < d := h _ (.head _)
theorem news_drop {h₀ h : Heap} {L : Addr} {a : Addr × Obj} {l : List (Addr × Obj)} (N : News h₀ L h (a :: l)) : News h₀ L h l := fun p hp => N p (.tail _ hp)
-- Z2
/-- a figure of the base -/
abbrev Dg (b : Int) (c : Nat) : Prop := 0 ≤ wl c ∧ wl c < b
theorem wl_under : wl 95 = -1 := by decide
theorem dg_under (b : Int) : ¬ Dg b 95 := fun h => absurd h.1 (by decide)
/-- figures with single low lines between them, behind a first figure: to the list's end -/
def runD (b : Int) : Int → List Nat → Option Int
  | n, [] => some n
  | n, [c] => if Dg b c then some (n * b + wl c) else none
  | n, c :: d :: r => if c = 95 then (if Dg b d then runD b (n * b + wl d) r else none) else if Dg b c then runD b (n * b + wl c) (d :: r) else none
def worthL (b : Int) : List Nat → Option Int
  | [] => none
  | c :: r => if Dg b c then runD b (wl c) r else none
/-- the same, up to where they stop: none where a low line stands wrong -/
def figD (b : Int) : Int → List Nat → Option (Int × List Nat)
  | n, [] => some (n, [])
  | n, [c] => if Dg b c then some (n * b + wl c, []) else some (n, [c])
  | n, c :: d :: r => if c = 95 then (if Dg b d then figD b (n * b + wl d) r else none) else if Dg b c then figD b (n * b + wl c) (d :: r) else some (n, c :: d :: r)
def figL (b : Int) : List Nat → Option (Int × List Nat)
  | [] => none
  | c :: r => if Dg b c then figD b (wl c) r else none
/-- what may stand behind a run -/
def Stop (b : Int) (r : List Nat) : Prop := r = [] ∨ ∃ t q, r = t :: q ∧ ¬ Dg b t ∧ t ≠ 95
theorem figD_ok {b : Int} {tail : List Nat} (ht : Stop b tail) : ∀ (k : Nat) (l : List Nat), l.length ≤ k → ∀ (n v : Int), runD b n l = some v → figD b n (l ++ tail) = some (v, tail)
  | k, [], _, n, v, h => by
    rw [runD] at h; cases h
    rcases ht with rfl | ⟨t, q, rfl, h1, h2⟩
    · rfl
    · cases q with
      | nil => simp only [List.nil_append, figD, if_neg h1]
      | cons d q => simp only [List.nil_append, figD, if_neg h1, if_neg h2]
  | k, [c], hk, n, v, h => by
    rw [runD] at h
    split at h
    · rename_i hc
      cases h
      have h95 : c ≠ 95 := fun e => dg_under b (e ▸ hc)
      cases htl : tail with
      | nil => simp only [List.append_nil, figD, if_pos hc]
      | cons d q =>
        show figD b n (c :: d :: q) = _
        rw [figD, if_neg h95, if_pos hc]
        have := figD_ok (b := b) ht 0 [] (Nat.le_refl _) (n * b + wl c) (n * b + wl c) rfl
        rw [htl] at this
        exact this
    · cases h
  | k, c :: d :: r, hk, n, v, h => by
    rw [runD] at h
    match k, hk with
    | k + 1, hk =>
    split at h
    · rename_i hc
      split at h
      · rename_i hd
        show figD b n (c :: d :: (r ++ tail)) = _
        rw [figD, if_pos hc, if_pos hd]
        exact figD_ok ht k r (by simp only [List.length_cons] at hk; omega) _ _ h
      · cases h
    · rename_i h95
      split at h
      · rename_i hc
        show figD b n (c :: d :: (r ++ tail)) = _
        rw [figD, if_neg h95, if_pos hc]
        exact figD_ok ht k (d :: r) (by simp only [List.length_cons] at hk ⊢; omega) _ _ h
      · cases h
theorem figD_inv {b : Int} : ∀ (k : Nat) (l : List Nat), l.length ≤ k → ∀ (n v : Int) (r : List Nat), figD b n l = some (v, r) →
    ∃ body, l = body ++ r ∧ runD b n body = some v ∧ (r = [95] ∨ Stop b r)
  | k, [], _, n, v, r, h => by
    rw [figD] at h; cases h
    exact ⟨[], rfl, rfl, .inr (.inl rfl)⟩
  | k, [c], hk, n, v, r, h => by
    rw [figD] at h
    split at h
    · rename_i hc
      cases h
      exact ⟨[c], rfl, by rw [runD, if_pos hc], .inr (.inl rfl)⟩
    · rename_i hc
      cases h
      refine ⟨[], rfl, rfl, ?_⟩
      by_cases h95 : c = 95
      · exact .inl (by rw [h95])
      · exact .inr (.inr ⟨c, [], rfl, hc, h95⟩)
  | k, c :: d :: q, hk, n, v, r, h => by
    rw [figD] at h
    match k, hk with
    | k + 1, hk =>
    split at h
    · rename_i hc
      split at h
      · rename_i hd
        obtain ⟨body, e, hb, hs⟩ := figD_inv k q (by simp only [List.length_cons] at hk; omega) _ _ _ h
        exact ⟨c :: d :: body, by rw [e]; rfl, by rw [runD, if_pos hc, if_pos hd]; exact hb, hs⟩
      · cases h
    · rename_i h95
      split at h
      · rename_i hc
        obtain ⟨body, e, hb, hs⟩ := figD_inv k (d :: q) (by simp only [List.length_cons] at hk ⊢; omega) _ _ _ h
        refine ⟨c :: body, by rw [e]; rfl, ?_, hs⟩
        cases body with
        | nil => rw [runD] at hb; cases hb; rw [runD, if_pos hc]
        | cons d' body =>
          rw [runD, if_neg h95, if_pos hc]; exact hb
      · rename_i hc
        cases h
        exact ⟨[], rfl, rfl, .inr (.inr ⟨c, d :: q, rfl, hc, h95⟩)⟩
theorem runD_all {b : Int} : ∀ (k : Nat) (l : List Nat), l.length ≤ k → ∀ (n v : Int), runD b n l = some v → ∀ c ∈ l, c = 95 ∨ Dg b c
  | k, [], _, _, _, _, c, hc => nomatch hc
  | k, [c], _, n, v, h, x, hx => by
    rw [runD] at h
    split at h
    · rename_i hc; rw [List.mem_singleton.mp hx]; exact .inr hc
    · cases h
  | k, c :: d :: r, hk, n, v, h, x, hx => by
    rw [runD] at h
    match k, hk with
    | k + 1, hk =>
    split at h
    · rename_i hc
      split at h
      · rename_i hd
        rcases List.mem_cons.mp hx with rfl | hx
        · exact .inl hc
        · rcases List.mem_cons.mp hx with rfl | hx
          · exact .inr hd
          · exact runD_all k r (by simp only [List.length_cons] at hk; omega) _ _ h x hx
      · cases h
    · split at h
      · rename_i hc
        rcases List.mem_cons.mp hx with rfl | hx
        · exact .inr hc
        · exact runD_all k (d :: r) (by simp only [List.length_cons] at hk ⊢; omega) _ _ h x hx
      · cases h
theorem worthL_all {b : Int} {l : List Nat} {v : Int} (h : worthL b l = some v) : ∀ c ∈ l, c = 95 ∨ Dg b c := by
  cases l with
  | nil => cases h
  | cons c r =>
    rw [worthL] at h
    split at h
    · rename_i hc
      intro x hx
      rcases List.mem_cons.mp hx with rfl | hx
      · exact .inr hc
      · exact runD_all _ r (Nat.le_refl _) _ _ h x hx
    · cases h
theorem worthL_free {b : Int} {l : List Nat} {v : Int} (h : worthL b l = some v) {c : Nat} (h1 : c ≠ 95) (h2 : ¬ Dg b c) : c ∉ l := fun hc => (worthL_all h c hc).elim h1 h2
theorem figL_ok {b : Int} {l tail : List Nat} {v : Int} (h : worthL b l = some v) (ht : Stop b tail) : figL b (l ++ tail) = some (v, tail) := by
  cases l with
  | nil => cases h
  | cons c r =>
    rw [worthL] at h
    split at h
    · rename_i hc
      show figL b (c :: (r ++ tail)) = _
      rw [figL, if_pos hc]
      exact figD_ok ht _ r (Nat.le_refl _) _ _ h
    · cases h
theorem figL_inv {b : Int} {l r : List Nat} {v : Int} (h : figL b l = some (v, r)) : ∃ body, l = body ++ r ∧ worthL b body = some v ∧ (r = [95] ∨ Stop b r) := by
  cases l with
  | nil => cases h
  | cons c q =>
    rw [figL] at h
    split at h
    · rename_i hc
      obtain ⟨body, e, hb, hs⟩ := figD_inv _ q (Nat.le_refl _) _ _ _ h
      exact ⟨c :: body, by rw [e]; rfl, by rw [worthL, if_pos hc]; exact hb, hs⟩
    · cases h
theorem figL_short {b : Int} {l r : List Nat} {v : Int} (h : figL b l = some (v, r)) : r.length < l.length := by
  obtain ⟨body, e, hb, _⟩ := figL_inv h
  cases body with
  | nil => cases hb
  | cons c q => rw [e]; simp only [List.length_cons, List.length_append, List.cons_append]; omega
theorem figL_whole {b : Int} {l : List Nat} {v : Int} : figL b l = some (v, []) ↔ worthL b l = some v := by
  constructor
  · intro h
    obtain ⟨body, e, hb, _⟩ := figL_inv h
    rw [List.append_nil] at e; rw [e]; exact hb
  · intro h
    have := figL_ok h (tail := []) (.inl rfl)
    rwa [List.append_nil] at this
/-- a first sign that is not in the front part -/
theorem first_cut {c : Nat} : ∀ {a b x y : List Nat}, a ++ c :: x = b ++ c :: y → c ∉ a → c ∉ b → a = b ∧ x = y
  | [], [], x, y, h, _, _ => by simpa using h
  | [], d :: b, x, y, h, _, hb => by
    simp only [List.nil_append, List.cons_append, List.cons.injEq] at h
    exact absurd (by rw [h.1]; exact List.mem_cons_self) hb
  | d :: a, [], x, y, h, ha, _ => by
    simp only [List.nil_append, List.cons_append, List.cons.injEq] at h
    exact absurd (by rw [← h.1]; exact List.mem_cons_self) ha
  | d :: a, e :: b, x, y, h, ha, hb => by
    simp only [List.cons_append, List.cons.injEq] at h
    have := first_cut h.2 (fun q => ha (List.mem_cons_of_mem _ q)) (fun q => hb (List.mem_cons_of_mem _ q))
    exact ⟨by rw [h.1, this.1], this.2⟩
def plus : List Nat → List Nat
  | 43 :: r => r
  | r => r
theorem plus_le (l : List Nat) : (plus l).length ≤ l.length := by
  unfold plus
  split
  · simp
  · exact Nat.le_refl _
theorem plus_mem {l : List Nat} {c : Nat} (hc : c ≠ 43) (h : c ∈ l) : c ∈ plus l := by
  unfold plus
  split
  · rcases List.mem_cons.mp h with q | q
    · exact absurd q hc
    · exact q
  · exact h
def expoL (n b : Int) (r : List Nat) : Option (Int × List Nat) :=
  match r with
  | 101 :: r1 => match figL 10 (plus r1) with
    | none => none
    | some (k, r2) => if 400 < k then none else some (n * b ^ k.toNat, r2)
  | _ => some (n, r)
def litL (l : List Nat) : Option (Int × List Nat) :=
  match figL 10 l with
  | none => none
  | some (n, r) =>
    match r with
    | 35 :: r1 => if n < 2 ∨ 16 < n then none else
      match figL n r1 with
      | some (m, 35 :: r3) => expoL m n r3
      | _ => none
    | _ => expoL n 10 r
/-- all of the text is read -/
def allOf : Option (Int × List Nat) → Option Int
  | some (v, []) => some v
  | _ => none
/-- a cut at the first c -/
def Cut (c : Nat) (l a : List Nat) (r : Option (List Nat)) : Prop := c ∉ a ∧ l = match r with | none => a | some q => a ++ c :: q
def powL (k b : Int) : Option Int → Option Int
  | none => none
  | some p => if 400 < p then none else some (k * b ^ p.toNat)
/-- the law's tail: number, then what stands behind the e -/
def tailL (w : Option Int) (b : Int) (r : Option (List Nat)) : Option Int :=
  match w with
  | none => none
  | some k => match r with
    | none => some k
    | some q => powL k b (worthL 10 (plus q))
theorem expo_nil (n b : Int) : expoL n b [] = some (n, []) := rfl
theorem expo_e (n b : Int) (q : List Nat) : allOf (expoL n b (101 :: q)) = powL n b (worthL 10 (plus q)) := by
  show allOf (match figL 10 (plus q) with | none => none | some (k, r2) => if 400 < k then none else some (n * b ^ k.toNat, r2)) = _
  cases hf : figL 10 (plus q) with
  | none =>
    cases hw : worthL 10 (plus q) with
    | none => rfl
    | some v => rw [figL_whole.mpr hw] at hf; cases hf
  | some p =>
    obtain ⟨k, r2⟩ := p
    dsimp only
    cases r2 with
    | nil =>
      rw [figL_whole.mp hf]
      unfold powL
      dsimp only
      split <;> rfl
    | cons t r2 =>
      have hw : worthL 10 (plus q) = none := by
        cases hw : worthL 10 (plus q) with
        | none => rfl
        | some v => rw [figL_whole.mpr hw] at hf; cases hf
      rw [hw]
      split <;> rfl
theorem expo_other {n b : Int} {t : Nat} {q : List Nat} (h : t ≠ 101) : allOf (expoL n b (t :: q)) = none := by
  unfold expoL
  split
  · rename_i e; cases e; exact absurd rfl h
  · rfl
theorem dg_no {b : Int} {c : Nat} (h : wl c < 0) : ¬ Dg b c := fun q => by have := q.1; omega
theorem dg_e : ¬ Dg 10 101 := by decide
/-- the literal with no # -/
theorem lit_plain {l a : List Nat} {r : Option (List Nat)} (h35 : 35 ∉ l) (hc : Cut 101 l a r) : allOf (litL l) = tailL (worthL 10 a) 10 r := by
  obtain ⟨ha, hl⟩ := hc
  have hst : ∀ q, Stop 10 (101 :: q) := fun q => .inr ⟨101, q, rfl, dg_e, by decide⟩
  have hplain : ∀ n s, s ≠ [] ∧ (∀ q, s ≠ 35 :: q) → figL 10 l = some (n, s) → litL l = expoL n 10 s := by
    intro n s hs hf
    unfold litL
    rw [hf]
    dsimp only
    split
    · rename_i r1; exact absurd rfl (hs.2 r1)
    · rfl
  cases hw : worthL 10 a with
  | some v =>
    cases r with
    | none =>
      dsimp only at hl
      subst hl
      have hf := figL_whole.mpr hw
      unfold litL
      rw [hf]; rfl
    | some q =>
      dsimp only at hl
      have hf : figL 10 l = some (v, 101 :: q) := by rw [hl]; exact figL_ok hw (hst q)
      rw [hplain v (101 :: q) ⟨by simp, fun q' e => by cases e⟩ hf, expo_e]
      rfl
  | none =>
    show _ = none
    cases hf : figL 10 l with
    | none => unfold litL; rw [hf]; rfl
    | some p =>
      obtain ⟨n, s⟩ := p
      obtain ⟨body, e, hb, hs⟩ := figL_inv hf
      have hbe : 101 ∉ body := worthL_free hb (by decide) dg_e
      rcases hs with rfl | rfl | ⟨t, q, rfl, ht, h95⟩
      · rw [hplain n [95] ⟨by simp, fun q' e => by cases e⟩ hf]
        exact expo_other (by decide)
      · rw [List.append_nil] at e
        subst e
        cases r with
        | none => dsimp only at hl; subst hl; rw [hw] at hb; cases hb
        | some q => dsimp only at hl; exact absurd (by rw [hl]; simp) hbe
      · have t35 : t ≠ 35 := fun q' => h35 (by rw [e, q']; simp)
        rw [hplain n (t :: q) ⟨by simp, fun q' e => by cases e; exact t35 rfl⟩ hf]
        by_cases ht1 : t = 101
        · subst ht1
          cases r with
          | none => dsimp only at hl; exact absurd (by rw [← hl, e]; simp) ha
          | some q' =>
            dsimp only at hl
            obtain ⟨e1, _⟩ := first_cut (e.symm.trans hl) hbe ha
            rw [← e1, hb] at hw; cases hw
        · exact expo_other ht1
def headE : List Nat → Option (List Nat)
  | [] => none
  | _ :: r => some r
/-- the literal with a # -/
theorem lit_hash {l hd rest : List Nat} (hc : 35 ∉ hd) (hl : l = hd ++ 35 :: rest) :
    (∀ B, worthL 10 hd = some B → B < 2 ∨ 16 < B → allOf (litL l) = none) ∧
    (worthL 10 hd = none → allOf (litL l) = none) ∧
    (∀ B, worthL 10 hd = some B → ¬ (B < 2 ∨ 16 < B) →
      (35 ∉ rest → allOf (litL l) = none) ∧
      (∀ body bh, 35 ∉ body → rest = body ++ 35 :: bh →
        (∀ t q, bh = t :: q → t ≠ 101 → allOf (litL l) = none) ∧ ((∀ t q, bh = t :: q → t = 101) → allOf (litL l) = tailL (worthL B body) B (headE bh)))) := by
  have n35 : ∀ b, ¬ Dg b 35 := fun b => dg_no (by decide)
  have hst : ∀ b q, Stop b (35 :: q) := fun b q => .inr ⟨35, q, rfl, n35 b, by decide⟩
  have hfig : ∀ B, worthL 10 hd = some B → figL 10 l = some (B, 35 :: rest) := fun B h => by rw [hl]; exact figL_ok h (hst _ _)
  refine ⟨fun B h hB => ?_, fun h => ?_, fun B h hB => ?_⟩
  · unfold litL
    rw [hfig B h]
    show allOf (if B < 2 ∨ 16 < B then none else _) = none
    rw [if_pos hB]; rfl
  · cases hf : figL 10 l with
    | none => unfold litL; rw [hf]; rfl
    | some p =>
      obtain ⟨n, s⟩ := p
      obtain ⟨body, e, hb, hs⟩ := figL_inv hf
      have hb35 : 35 ∉ body := worthL_free hb (by decide) (n35 _)
      rcases hs with rfl | rfl | ⟨t, q, rfl, ht, h95⟩
      · unfold litL
        rw [hf]
        exact expo_other (by decide)
      · rw [List.append_nil] at e
        exact absurd (by rw [← e, hl]; simp) hb35
      · by_cases t35 : t = 35
        · subst t35
          obtain ⟨e1, _⟩ := first_cut (e.symm.trans hl) hb35 hc
          rw [← e1, hb] at h; cases h
        · have hlit : litL l = expoL n 10 (t :: q) := by
            unfold litL
            rw [hf]
            dsimp only
            split
            · rename_i e; cases e; exact absurd rfl t35
            · rfl
          rw [hlit]
          by_cases ht1 : t = 101
          · subst ht1
            rw [expo_e]
            have h35q : 35 ∈ q := by
              have : 35 ∈ l := by rw [hl]; simp
              rw [e] at this
              rcases List.mem_append.mp this with q' | q'
              · exact absurd q' hb35
              · rcases List.mem_cons.mp q' with q' | q'
                · cases q'
                · exact q'
            cases hw : worthL 10 (plus q) with
            | none => rfl
            | some v => exact absurd (plus_mem (by decide) h35q) (worthL_free hw (by decide) (n35 _))
          · exact expo_other ht1
  · have hlit : litL l = match figL B rest with | some (m, 35 :: r3) => expoL m B r3 | _ => none := by
      unfold litL
      rw [hfig B h]
      show (if B < 2 ∨ 16 < B then none else _) = _
      rw [if_neg hB]
    refine ⟨fun hr => ?_, fun body bh hb hr => ?_⟩
    · rw [hlit]
      split
      · rename_i m r3 hf
        obtain ⟨body, e, _, _⟩ := figL_inv hf
        exact absurd (by rw [e]; simp) hr
      · rfl
    · have hlit2 : ∀ m, worthL B body = some m → litL l = expoL m B bh := fun m hm => by
        rw [hlit, hr, figL_ok hm (hst _ _)]; rfl
      have hno : worthL B body = none → allOf (litL l) = none := fun hm => by
        rw [hlit]
        split
        · rename_i m r3 hf
          obtain ⟨b', e, hb', _⟩ := figL_inv hf
          obtain ⟨e1, _⟩ := first_cut (e.symm.trans hr) (worthL_free hb' (by decide) (n35 _)) hb
          rw [← e1, hb'] at hm; cases hm
        · rfl
      refine ⟨fun t q e ht => ?_, fun ht => ?_⟩
      · cases hm : worthL B body with
        | none => exact hno hm
        | some m => rw [hlit2 m hm, e]; exact expo_other ht
      · cases hm : worthL B body with
        | none => exact hno hm
        | some m =>
          rw [hlit2 m hm]
          cases bh with
          | nil => rfl
          | cons t q => rw [ht t q rfl, expo_e]; rfl
/-- the text with a point -/
def realL (l : List Nat) : Option (Int × Int × List Nat) :=
  match figL 10 l with
  | some (w, 46 :: r1) => match figL 10 r1 with
    | some (k, []) => some (w, k, r1)
    | _ => none
  | _ => none
theorem real_cut {l hd tl : List Nat} (hc : 46 ∉ hd) (hl : l = hd ++ 46 :: tl) : realL l = match worthL 10 hd, worthL 10 tl with | some w, some k => some (w, k, tl) | _, _ => none := by
  have n46 : ¬ Dg 10 46 := dg_no (by decide)
  have hst : ∀ q, Stop 10 (46 :: q) := fun q => .inr ⟨46, q, rfl, n46, by decide⟩
  cases hw : worthL 10 hd with
  | some w =>
    have hf : figL 10 l = some (w, 46 :: tl) := by rw [hl]; exact figL_ok hw (hst _)
    have h2 : realL l = match figL 10 tl with | some (k, []) => some (w, k, tl) | _ => none := by
      unfold realL
      rw [hf]
      rfl
    rw [h2]
    cases hk : worthL 10 tl with
    | some k => rw [figL_whole.mpr hk]
    | none =>
      split
      · rename_i k hq; rw [figL_whole.mp hq] at hk; cases hk
      · rfl
  | none =>
    dsimp only
    unfold realL
    split
    · rename_i w r1 hf
      obtain ⟨body, e, hb, _⟩ := figL_inv hf
      obtain ⟨e1, _⟩ := first_cut (e.symm.trans hl) (worthL_free hb (by decide) n46) hc
      rw [← e1, hb] at hw; cases hw
    · rfl
theorem real_nocut {l : List Nat} (hc : 46 ∉ l) : realL l = none := by
  unfold realL
  split
  · rename_i w r1 hf
    obtain ⟨body, e, _, _⟩ := figL_inv hf
    exact absurd (by rw [e]; simp) hc
  · rfl
-- Z3
def worthT (b t : Int) : List Nat → Option Int
  | [] => none
  | c :: r => if Dg b c then runD b (t * b + wl c) r else none
theorem worthT_zero (b : Int) (l : List Nat) : worthT b 0 l = worthL b l := by
  cases l with
  | nil => rfl
  | cons c r => rw [worthT, worthL, Int.zero_mul, Int.zero_add]
theorem runD_signs {b : Int} : ∀ {p : List Nat} {n : Int}, 95 ∉ p → runD b n p = wSigns b n p
  | [], n, _ => rfl
  | [c], n, _ => by rw [runD, wSigns]; rfl
  | c :: d :: r, n, h => by
    have hc : c ≠ 95 := fun e => h (by rw [e]; exact List.mem_cons_self)
    rw [runD, if_neg hc, wSigns]
    split
    · exact runD_signs fun q => h (List.mem_cons_of_mem _ q)
    · rfl
theorem runD_join {b : Int} {q : List Nat} : ∀ {p : List Nat} {n : Int}, 95 ∉ p → runD b n (p ++ 95 :: q) = (wSigns b n p).bind fun m => worthT b m q
  | [], n, _ => by
    rw [List.nil_append, wSigns]
    cases q with
    | nil => rw [runD, if_neg (dg_under b)]; rfl
    | cons d r => rw [runD, if_pos rfl]; rfl
  | c :: p, n, h => by
    have hc : c ≠ 95 := fun e => h (by rw [e]; exact List.mem_cons_self)
    have ih := runD_join (b := b) (q := q) (p := p) (n := n * b + wl c) fun q => h (List.mem_cons_of_mem _ q)
    have e : ∃ d r, p ++ 95 :: q = d :: r := by
      cases p with
      | nil => exact ⟨95, q, rfl⟩
      | cons d r => exact ⟨d, r ++ 95 :: q, rfl⟩
    obtain ⟨d, r, e⟩ := e
    rw [List.cons_append, e, runD, if_neg hc, wSigns, ← e]
    split
    · exact ih
    · rfl
def joinL : List (List Nat) → List Nat
  | [] => []
  | [a] => a
  | a :: b :: r => a ++ 95 :: joinL (b :: r)
theorem wParts_join {b : Int} : ∀ {ps : List (List Nat)} {t : Int}, ps ≠ [] → (∀ p ∈ ps, 95 ∉ p) → wParts b t ps = worthT b t (joinL ps)
  | [], t, h, _ => absurd rfl h
  | [p], t, _, hf => by
    have hp := hf p (.head _)
    rw [wParts]
    show _ = worthT b t p
    cases p with
    | nil => rw [if_pos rfl]; rfl
    | cons c r =>
      rw [if_neg (by simp), wSigns, worthT]
      split
      · rw [runD_signs fun q => hp (List.mem_cons_of_mem _ q)]
        cases wSigns b (t * b + wl c) r <;> rfl
      · rfl
  | p :: p' :: r, t, _, hf => by
    have hp := hf p (.head _)
    have ih := fun m => wParts_join (b := b) (ps := p' :: r) (t := m) (by simp) fun q hq => hf q (List.mem_cons_of_mem _ hq)
    rw [wParts]
    show _ = worthT b t (p ++ 95 :: joinL (p' :: r))
    cases p with
    | nil => rw [if_pos rfl, List.nil_append, worthT, if_neg (dg_under b)]
    | cons c q =>
      rw [if_neg (by simp), List.cons_append, worthT, wSigns]
      split
      · rw [runD_join fun q => hp (List.mem_cons_of_mem _ q)]
        congr 1
        funext m
        exact ih m
      · rfl
theorem cl_app (x y : Str) : cl (x ++ y) = cl x ++ cl y := by unfold cl; simp [Str.cps_append]
theorem cl_join : ∀ l : List Str, cl (Str.join ⟨#[95]⟩ l) = joinL (l.map cl)
  | [] => rfl
  | [a] => rfl
  | a :: b :: r => by
    show cl (a ++ ⟨#[95]⟩ ++ Str.join ⟨#[95]⟩ (b :: r)) = cl a ++ 95 :: joinL ((b :: r).map cl)
    rw [cl_app, cl_app, cl_join (b :: r)]
    show cl a ++ [95] ++ _ = _
    simp
theorem worth_list (x : Str) (b : Int) : worthF x b = worthL b (cl x) := by
  unfold worthF
  rw [under_str, wParts_join, worthT_zero, ← cl_join, PySem.StrLaws.join_split]
  · have h := split_pos x ⟨#[95]⟩
    intro q
    have : (List.map cl (Txt.split x ⟨#[95]⟩)).length = 0 := by rw [q]; rfl
    rw [List.length_map] at this
    omega
  · intro p hp
    obtain ⟨z, hz, rfl⟩ := List.mem_map.mp hp
    exact PySem.StrLaws.split_free x 95 z hz
theorem cl_ext {x y : Str} (h : cl x = cl y) : x = y := by
  cases x; cases y
  have := Array.toList_inj.mp h
  cases this; rfl
theorem empty_str : Str.ofString "" = ⟨#[]⟩ := by decide +kernel
theorem is_empty {x : Str} : (x == Str.ofString "") = true ↔ cl x = [] := by
  rw [empty_str, beq_iff_eq]
  constructor
  · intro h; rw [h]; rfl
  · intro h; exact cl_ext h
/-- how a text is cut at its first c -/
theorem part_list (x : Str) (c : Nat) : (c ∉ cl x ∧ Txt.partition x ⟨#[c]⟩ = (x, ⟨#[]⟩, ⟨#[]⟩)) ∨
    (∃ a q, Txt.partition x ⟨#[c]⟩ = (a, ⟨#[c]⟩, q) ∧ cl x = cl a ++ c :: cl q ∧ c ∉ cl a) := by
  have hs := PySem.StrLaws.partition_sum x ⟨#[c]⟩
  rcases PySem.StrLaws.occ_head x ⟨#[c]⟩ 1 (Nat.le_refl 1) with ⟨h0, hn⟩ | ⟨i, r, h0, hi, hn⟩
  · left
    refine ⟨fun hm => ?_, by unfold Txt.partition; rw [h0]; rfl⟩
    obtain ⟨j, hj⟩ := List.getElem?_of_mem hm
    exact hn j ((PySem.StrLaws.subAt_one x c j).mpr hj)
  · right
    have e : Txt.partition x ⟨#[c]⟩ = (Builtin.Str.strSub x 0 i, ⟨#[c]⟩, Builtin.Str.strSub x (i + 1) x.length) := by unfold Txt.partition; rw [h0]; rfl
    rw [e] at hs
    refine ⟨_, _, e, ?_, ?_⟩
    · have := congrArg cl hs
      rw [cl_app, cl_app] at this
      rw [← this]
      show _ ++ [c] ++ _ = _
      simp
    · intro hm
      have hm' : c ∈ (x.cps.toList.drop 0).take (i - 0) := by
        have := PySem.StrLaws.strSub_toList x 0 i
        unfold cl at hm; rwa [this] at hm
      rw [List.drop_zero, Nat.sub_zero] at hm'
      obtain ⟨k, hk⟩ := List.getElem?_of_mem hm'
      have hki : k < i := by
        have := (List.getElem?_eq_some_iff.mp hk).1
        rw [List.length_take] at this; omega
      rw [List.getElem?_take_of_lt hki] at hk
      exact hn k hki ((PySem.StrLaws.subAt_one x c k).mpr hk)
theorem e_str : Str.ofString "e" = ⟨#[101]⟩ := by decide +kernel
theorem dot_str : Str.ofString "." = ⟨#[46]⟩ := by decide +kernel
theorem plus_str : Str.ofString "+" = ⟨#[43]⟩ := by decide +kernel
theorem cl_first (x : Str) : cl (Txt.slice x none (some 1)) = (cl x).take 1 := by
  rw [slice_first_eq, slice_gen (by decide) (by decide)]
  rfl
theorem cl_rest (x : Str) : cl (Txt.slice x (some 1) none) = (cl x).drop 1 := by
  have e : x.length = (cl x).length := by simp [cl, Str.length]
  by_cases h : 1 ≤ x.length
  · rw [slice_from_eq (by decide) (by omega) rfl]
    show (((cl x).drop 1).take ((x.length : Int) - 1).toNat) = _
    rw [List.take_of_length_le (by rw [List.length_drop]; omega)]
  · rw [slice_beyond (by omega)]
    rw [List.drop_eq_nil_of_le (by omega)]; rfl
theorem first_plus (x : Str) : (Txt.slice x none (some 1) == Str.ofString "+") = true ↔ (cl x).head? = some 43 := by
  rw [plus_str, beq_iff_eq]
  constructor
  · intro h
    have := cl_first x
    rw [h] at this
    cases hx : cl x with
    | nil => rw [hx] at this; cases this
    | cons c r => rw [hx] at this; cases this; rfl
  · intro h
    apply cl_ext
    rw [cl_first]
    cases hx : cl x with
    | nil => rw [hx] at h; cases h
    | cons c r => rw [hx] at h; cases h; rfl
theorem plus_list (x : Str) : cl (if (Txt.slice x none (some 1) == Str.ofString "+") = true then Txt.slice x (some 1) none else x) = plus (cl x) := by
  split
  · rename_i h
    rw [cl_rest]
    have := (first_plus x).mp h
    cases hx : cl x with
    | nil => rw [hx] at this; cases this
    | cons c r => rw [hx] at this; cases this; rfl
  · rename_i h
    have hn : (cl x).head? ≠ some 43 := fun q => h ((first_plus x).mpr q)
    cases hx : cl x with
    | nil => rfl
    | cons c r =>
      unfold plus
      split
      · rename_i e; cases e; rw [hx] at hn; exact absurd rfl hn
      · rfl
theorem litExp_pow (k b : Int) (r : Option Int) : litExp k b r = powL k b r := by cases r <;> rfl
/-- the law's tail on lists -/
theorem tail_list (w : Option Int) (mark behind : Str) (b : Int) : litTail w mark behind b = tailL w b (if cl mark = [] then none else some (cl behind)) := by
  cases w with
  | none => rfl
  | some k =>
    show (if (mark == Str.ofString "") = true then some k else _) = _
    by_cases h : cl mark = []
    · rw [if_pos (is_empty.mpr h), if_pos h]; rfl
    · rw [if_neg (fun q => h (is_empty.mp q)), if_neg h, litExp_pow, worth_list, plus_list]; rfl
theorem lit_core (x : Str) : literalF x = allOf (litL (cl x)) := by
  unfold literalF
  have hocc := empty_one x 35
  rw [hash_str]
  by_cases h35 : 35 ∈ cl x
  · have h35' : 35 ∈ x.cps.toList := h35
    rw [hocc, if_neg (by simp [h35'])]
    rcases part_list x 35 with ⟨hn, _⟩ | ⟨hd, rest, e, hl, hc⟩
    · exact absurd h35 hn
    · rw [e]
      have hh := lit_hash (l := cl x) (hd := cl hd) (rest := cl rest) hc hl
      dsimp only
      rw [worth_list]
      cases hw : worthL 10 (cl hd) with
      | none => exact (hh.2.1 hw).symm
      | some B =>
        dsimp only
        by_cases hB : B < 2 ∨ 16 < B
        · rw [if_pos (by rcases hB with q | q <;> simp [q])]
          exact (hh.1 B hw hB).symm
        · have h3 := hh.2.2 B hw hB
          rcases part_list rest 35 with ⟨hn, e2⟩ | ⟨bd, bh, e2, hl2, hc2⟩
          · rw [e2]
            dsimp only
            rw [if_pos (.inr (.inr (.inl (by decide +kernel))))]
            exact (h3.1 hn).symm
          · rw [e2]
            dsimp only
            have h4 := h3.2 (cl bd) (cl bh) hc2 hl2
            have hm : ((({ cps := #[35] } : Str) == Str.ofString "") = true) ↔ False := ⟨fun q => absurd (is_empty.mp q) (by decide), False.elim⟩
            cases hb : cl bh with
            | nil =>
              have hbe : (bh != Str.ofString "") = false := by
                have := is_empty.mpr hb
                rw [bne, this]; rfl
              rw [if_neg (by rw [hm, hbe]; rintro (q | q | q | ⟨q, _⟩) <;> simp_all), tail_list, cl_first, hb, worth_list]
              rw [h4.2 (fun t q e => by rw [hb] at e; cases e), hb]
              rfl
            | cons t q =>
              have hbe : (bh != Str.ofString "") = true := by
                rw [bne]
                cases h : bh == Str.ofString "" with
                | false => rfl
                | true => have := is_empty.mp h; rw [hb] at this; cases this
              have hlen : (0 : Int) < bh.length := by
                have : bh.length = (cl bh).length := by simp [cl, Str.length]
                rw [this, hb]; simp only [List.length_cons]; omega
              have hit : Txt.item bh 0 = ⟨#[t]⟩ := by
                obtain ⟨c, h1, h2, _⟩ := item_ch (x := bh) (i := 0) (by decide) hlen
                rw [h1]
                have h2' : cl bh = c :: (cl bh).drop 1 := h2
                rw [hb] at h2'
                cases h2'; rfl
              by_cases ht : t = 101
              · have hie : (Txt.item bh 0 != Str.ofString "e") = false := by rw [hit, e_str, ht]; decide
                rw [if_neg (by rw [hm, hie]; rintro (q | q | q | ⟨_, q⟩) <;> simp_all), tail_list, cl_first, cl_rest, hb, worth_list]
                rw [h4.2 (fun t' q' e => by rw [hb] at e; cases e; exact ht), hb]
                rfl
              · have hie : (Txt.item bh 0 != Str.ofString "e") = true := by
                  rw [hit, e_str, bne]
                  have : ((⟨#[t]⟩ : Str) == ⟨#[101]⟩) = false := by
                    rw [Bool.eq_false_iff]; intro h; have := eq_of_beq h; simp at this; exact ht this
                  rw [this]; rfl
                rw [if_pos (.inr (.inr (.inr ⟨hbe, hie⟩)))]
                exact (h4.1 t q hb ht).symm
  · have h35' : 35 ∉ x.cps.toList := h35
    rw [hocc, if_pos (by simp [h35']), tail_list, e_str]
    rcases part_list x 101 with ⟨hn, e⟩ | ⟨a, q, e, hl, hc⟩
    · rw [e]
      rw [lit_plain h35 (a := cl x) (r := none) ⟨hn, rfl⟩, worth_list]; rfl
    · rw [e]
      rw [lit_plain h35 (a := cl a) (r := some (cl q)) ⟨hc, hl⟩, worth_list]; rfl
-- Z4
theorem lowc_eq {c k : Nat} (h : k < 65 ∨ (90 < k ∧ k < 97) ∨ 122 < k) : lowc c = k ↔ c = k := by unfold lowc; split <;> omega
theorem low95 (c : Nat) : lowc c = 95 ↔ c = 95 := lowc_eq (by decide)
theorem under_and {c : Nat} : ((true && c == 95) = true) ↔ lowc c = 95 := by rw [low95]; simp
theorem sc_nonneg {n b w : Int} (hn : 0 ≤ n) (hb : 0 ≤ b) (hw : 0 ≤ w) : 0 ≤ n * b + w := by have := Int.mul_nonneg hn hb; omega
theorem if_keep {n : Int} (hn : 0 ≤ n) : (if 0 > n then 0 else n) = n := if_neg (by omega)
def figOut (at_ e : Int) : Option (Int × List Nat) → Int × Int
  | none => (-1, at_)
  | some (m, r) => (m, e - r.length)
theorem figRun_figD {b at_ : Int} (hb : 0 ≤ b) : ∀ (k : Nat) (l : List Nat), l.length ≤ k → ∀ (n e : Int), 0 ≤ n → figRun b at_ true n e l = figOut at_ (e + l.length) (figD b n (l.map lowc))
  | k, [], _, n, e, _ => by
    rw [figRun, List.map_nil, figD]
    show (n, e) = (n, e + 0 - 0)
    rw [Int.add_zero, Int.sub_zero]
  | k, [c], _, n, e, hn => by
    rw [figRun, if_keep hn]
    show _ = figOut at_ (e + 1) (figD b n [lowc c])
    rw [figD]
    by_cases h95 : lowc c = 95
    · rw [if_pos (under_and.mpr h95), if_neg (h95 ▸ dg_under b)]
      show (n, e) = (n, e + 1 - 1)
      rw [Int.add_sub_cancel]
    · rw [if_neg (fun q => h95 (under_and.mp q))]
      show (if Dg b (lowc c) then (n * b + wl (lowc c), e + 1) else (n, e)) = _
      split
      · show _ = (n * b + wl (lowc c), e + 1 - 0)
        rw [Int.sub_zero]
      · show (n, e) = (n, e + 1 - 1)
        rw [Int.add_sub_cancel]
  | k, c :: d :: r, hk, n, e, hn => by
    match k, hk with
    | k + 1, hk =>
    rw [figRun, if_keep hn, List.map_cons, List.map_cons, figD]
    by_cases h95 : lowc c = 95
    · rw [if_pos (under_and.mpr h95), if_pos h95]
      show (if Dg b (lowc d) then figRun b at_ true (n * b + wl (lowc d)) (e + 2) r else (-1, at_)) = _
      split
      · rename_i hd
        rw [figRun_figD hb k r (by simp only [List.length_cons] at hk; omega) _ _ (sc_nonneg hn hb hd.1)]
        congr 1
        simp only [List.length_cons]; omega
      · rfl
    · rw [if_neg (fun q => h95 (under_and.mp q)), if_neg h95]
      show (if Dg b (lowc c) then figRun b at_ true (n * b + wl (lowc c)) (e + 1) (d :: r) else (n, e)) = _
      split
      · rename_i hd
        rw [figRun_figD hb k (d :: r) (by simp only [List.length_cons] at hk ⊢; omega) _ _ (sc_nonneg hn hb hd.1)]
        show figOut at_ _ _ = figOut at_ _ _
        congr 1
        simp only [List.length_cons]; omega
      · show (n, e) = (n, e + ((c :: d :: r).length : Nat) - ((lowc c :: lowc d :: r.map lowc).length : Nat))
        simp only [List.length_cons, List.length_map]
        rw [Int.add_sub_cancel]
theorem figRun_figL {b at_ : Int} (hb : 0 ≤ b) (l : List Nat) : figRun b at_ false (-1) at_ l = figOut at_ (at_ + l.length) (figL b (l.map lowc)) := by
  have z : (if (0 : Int) > -1 then (0 : Int) else -1) * b = 0 := by rw [if_pos (by decide), Int.zero_mul]
  match l with
  | [] => rfl
  | [c] =>
    rw [figRun, if_neg (by simp), z, Int.zero_add]
    show (if Dg b (lowc c) then (wl (lowc c), at_ + 1) else (-1, at_)) = figOut at_ (at_ + 1) (figL b [lowc c])
    rw [figL]
    split
    · show _ = (wl (lowc c), at_ + 1 - 0)
      rw [Int.sub_zero]
    · rfl
  | c :: d :: r =>
    rw [figRun, if_neg (by simp), z, Int.zero_add]
    show (if Dg b (lowc c) then figRun b at_ true (wl (lowc c)) (at_ + 1) (d :: r) else (-1, at_)) = figOut at_ _ (figL b (lowc c :: (d :: r).map lowc))
    rw [figL]
    split
    · rename_i hd
      rw [figRun_figD hb _ (d :: r) (Nat.le_refl _) _ _ hd.1]
      congr 1
      simp only [List.length_cons]; omega
    · rfl
/-- the lowered signs of a text -/
def ll (x : Str) : List Nat := (cl x).map lowc
def pos (x : Str) (l : List Nat) : Int := (x.length : Int) - l.length
def Suf (x : Str) (l : List Nat) : Prop := ∃ pre, ll x = pre ++ l
theorem ll_len (x : Str) : (ll x).length = x.length := by simp [ll, cl, Str.length]
theorem Suf.app {x : Str} {a l : List Nat} (h : Suf x (a ++ l)) : Suf x l := by
  obtain ⟨pre, e⟩ := h
  exact ⟨pre ++ a, by rw [e, List.append_assoc]⟩
theorem Suf.tail {x : Str} {c : Nat} {l : List Nat} (h : Suf x (c :: l)) : Suf x l := Suf.app (a := [c]) h
theorem Suf.le {x : Str} {l : List Nat} (h : Suf x l) : l.length ≤ x.length := by
  obtain ⟨pre, e⟩ := h
  rw [← ll_len, e, List.length_append]; omega
theorem Suf.pos0 {x : Str} {l : List Nat} (h : Suf x l) : 0 ≤ pos x l := by have := h.le; unfold pos; omega
theorem Suf.drop {x : Str} {l : List Nat} (h : Suf x l) : (x.cps.toList.drop (pos x l).toNat).map lowc = l ∧ (x.cps.toList.drop (pos x l).toNat).length = l.length := by
  have hl := h.le
  obtain ⟨pre, e⟩ := h
  have e2 : (pos x l).toNat = pre.length := by
    have := ll_len x
    rw [e, List.length_append] at this
    unfold pos; omega
  have e3 : (x.cps.toList.drop (pos x l).toNat).map lowc = l := by
    rw [List.map_drop]
    show (ll x).drop _ = l
    rw [e, e2, List.drop_left]
  refine ⟨e3, ?_⟩
  have := congrArg List.length e3
  rwa [List.length_map] at this
theorem pos_next (x : Str) (c : Nat) (l : List Nat) : pos x (c :: l) + 1 = pos x l := by unfold pos; simp only [List.length_cons]; omega
theorem Suf.sg {x : Str} {l : List Nat} (h : Suf x l) : (sg x (pos x l)).map lowc = l.head? := by
  unfold Mine.sg
  rw [← List.head?_drop, ← List.head?_map, h.drop.1]
theorem sg_is {x : Str} {l : List Nat} {k : Nat} (h : Suf x l) (hk : k < 65 ∨ (90 < k ∧ k < 97) ∨ 122 < k) : Mine.sg x (pos x l) = some k ↔ l.head? = some k := by
  rw [← h.sg]
  cases Mine.sg x (pos x l) with
  | none => simp
  | some c => simp [lowc_eq hk]
theorem fig_list {x : Str} {l : List Nat} {b : Int} (h : Suf x l) (hb : 0 ≤ b) : figAt x (pos x l) b = match figL b l with | none => (-1, pos x l) | some (m, r) => (m, pos x r) := by
  rw [figAt_def, figRun_figL hb, h.drop.1, h.drop.2]
  cases figL b l with
  | none => rfl
  | some p =>
    obtain ⟨m, r⟩ := p
    show (m, pos x l + l.length - r.length) = (m, pos x r)
    unfold pos
    congr 1
    omega
theorem fig_suf {x : Str} {l r : List Nat} {b m : Int} (h : Suf x l) (hf : figL b l = some (m, r)) : Suf x r := by
  obtain ⟨body, e, _⟩ := figL_inv hf
  rw [e] at h
  exact h.app
theorem fig_nonneg {l r : List Nat} {b m : Int} (hb : 0 ≤ b) (hf : figL b l = some (m, r)) : 0 ≤ m := by
  have key : ∀ (k : Nat) (l : List Nat), l.length ≤ k → ∀ (n v : Int), 0 ≤ n → runD b n l = some v → 0 ≤ v := by
    intro k
    induction k with
    | zero =>
      intro l hk n v hn h
      cases l with
      | nil => rw [runD] at h; cases h; exact hn
      | cons c r => simp at hk
    | succ k ih =>
      intro l hk n v hn h
      match l with
      | [] => rw [runD] at h; cases h; exact hn
      | [c] =>
        rw [runD] at h
        split at h
        · rename_i hc; cases h; exact sc_nonneg hn hb hc.1
        · cases h
      | c :: d :: r =>
        rw [runD] at h
        split at h
        · split at h
          · rename_i hd
            exact ih r (by simp only [List.length_cons] at hk; omega) _ _ (sc_nonneg hn hb hd.1) h
          · cases h
        · split at h
          · rename_i hd
            exact ih (d :: r) (by simp only [List.length_cons] at hk ⊢; omega) _ _ (sc_nonneg hn hb hd.1) h
          · cases h
  obtain ⟨body, _, hw, _⟩ := figL_inv hf
  cases body with
  | nil => cases hw
  | cons c q =>
    rw [worthL] at hw
    split at hw
    · rename_i hc; exact key _ q (Nat.le_refl _) _ _ hc.1 hw
    · cases hw
theorem plus_suf {x : Str} {l : List Nat} (h : Suf x l) : Suf x (plus l) := by
  unfold plus
  split
  · exact h.tail
  · exact h
theorem expB_list {x : Str} {l : List Nat} (c : Nat) (h : Suf x (c :: l)) : expB x (pos x (c :: l)) = pos x (plus l) := by
  unfold expB
  rw [pos_next]
  have e := sg_is (k := 43) h.tail (by decide)
  by_cases hp : l.head? = some 43
  · rw [if_pos (e.mpr hp)]
    cases l with
    | nil => cases hp
    | cons d r =>
      cases hp
      rw [pos_next]; rfl
  · rw [if_neg (fun q => hp (e.mp q))]
    congr 1
    unfold plus
    split
    · rename_i r; exact absurd rfl hp
    · rfl
def expL (l : List Nat) : Option (Int × List Nat) :=
  match l with
  | 101 :: r => match figL 10 (plus r) with
    | none => none
    | some (k, r2) => if 400 < k then none else some (k, r2)
  | l => some (0, l)
theorem exp_list {x : Str} {l : List Nat} (h : Suf x l) : expAt x (pos x l) = match expL l with | none => (-1, pos x l) | some (k, r) => (k, pos x r) := by
  unfold expAt
  rw [h.sg]
  by_cases he : l.head? = some 101
  · rw [if_pos he]
    cases l with
    | nil => cases he
    | cons c l =>
      cases he
      rw [expB_list 101 h]
      have hs := plus_suf h.tail
      rw [fig_list hs (by decide)]
      show _ = match (match figL 10 (plus l) with | none => none | some (k, r2) => if 400 < k then none else some (k, r2)) with | none => (-1, pos x (101 :: l)) | some (k, r) => (k, pos x r)
      cases hf : figL 10 (plus l) with
      | none => dsimp only; rw [if_pos (.inl rfl)]
      | some p =>
        obtain ⟨k, r2⟩ := p
        dsimp only
        have hsh := figL_short hf
        have hne : pos x r2 ≠ pos x (plus l) := by unfold pos; omega
        by_cases h4 : 400 < k
        · rw [if_pos (.inr h4), if_pos h4]
        · rw [if_neg (fun q => q.elim hne h4), if_neg h4]
  · rw [if_neg he]
    unfold expL
    split
    · rename_i e
      exfalso
      revert e
      split
      · intro _; exact he rfl
      · intro q; cases q
    · rename_i k r e
      revert e
      split
      · exact absurd rfl he
      · intro q; cases q; rfl
theorem exp_suf {x : Str} {l r : List Nat} {k : Int} (h : Suf x l) (e : expL l = some (k, r)) : Suf x r ∧ r.length ≤ l.length ∧ 0 ≤ k := by
  unfold expL at e
  split at e
  · rename_i q
    split at e
    · cases e
    · rename_i k' r2 hf
      split at e
      · cases e
      · cases e
        have hp := plus_le q
        have := figL_short hf
        exact ⟨fig_suf (plus_suf h.tail) hf, by simp only [List.length_cons]; omega, fig_nonneg (by decide) hf⟩
  · cases e
    exact ⟨h, Nat.le_refl _, Int.le_refl 0⟩
theorem expL_other {r : List Nat} (h : r.head? ≠ some 101) : expL r = some (0, r) := by
  unfold expL
  split
  · exact absurd rfl h
  · rfl
theorem expoL_other {n b : Int} {r : List Nat} (h : r.head? ≠ some 101) : expoL n b r = some (n, r) := by
  unfold expoL
  split
  · exact absurd rfl h
  · rfl
theorem expo_exp (n b : Int) (r : List Nat) : expoL n b r = match expL r with | none => none | some (k, q) => some (n * b ^ k.toNat, q) := by
  by_cases h : r.head? = some 101
  · cases r with
    | nil => cases h
    | cons c r1 =>
      cases h
      show (match figL 10 (plus r1) with | none => none | some (k, r2) => if 400 < k then none else some (n * b ^ k.toNat, r2)) = match (match figL 10 (plus r1) with | none => none | some (k, r2) => if 400 < k then none else some (k, r2)) with | none => none | some (k, q) => some (n * b ^ k.toNat, q)
      cases figL 10 (plus r1) with
      | none => rfl
      | some p =>
        obtain ⟨k, r2⟩ := p
        dsimp only
        split <;> rfl
  · rw [expL_other h, expoL_other h]
    show _ = some (n * b ^ (0 : Int).toNat, _)
    rw [show (0 : Int).toNat = 0 from rfl, Int.pow_zero, Int.mul_one]
theorem fin_list {x : Str} {at_ n b : Int} {r : List Nat} (h : Suf x r) (hn : 0 ≤ n) : litFin x at_ n b (pos x r) = match expoL n b r with | none => (-1, at_) | some (v, q) => (v, pos x q) := by
  unfold litFin
  rw [exp_list h, expo_exp]
  cases he : expL r with
  | none => dsimp only; rw [if_pos (.inr (by decide))]
  | some p =>
    obtain ⟨k, q⟩ := p
    dsimp only
    have := (exp_suf h he).2.2
    rw [if_neg (by omega)]
theorem lit_list {x : Str} {l : List Nat} (h : Suf x l) : litAt x (pos x l) = match litL l with | none => (-1, pos x l) | some (v, r) => (v, pos x r) := by
  unfold litAt
  rw [fig_list h (by decide)]
  cases hf : figL 10 l with
  | none =>
    dsimp only
    rw [if_neg (fun q => absurd q.1 (by decide))]
    unfold litFin
    rw [if_pos (.inl (by decide))]
    unfold litL
    rw [hf]
  | some p =>
    obtain ⟨n, r⟩ := p
    dsimp only
    have hs := fig_suf h hf
    have hn := fig_nonneg (by decide) hf
    by_cases h35 : r.head? = some 35
    · rw [if_pos ⟨hn, (sg_is hs (by decide)).mpr h35⟩]
      cases r with
      | nil => cases h35
      | cons c r1 =>
        cases h35
        have hlit : litL l = if n < 2 ∨ 16 < n then none else match figL n r1 with | some (m, 35 :: r3) => expoL m n r3 | _ => none := by
          unfold litL; rw [hf]; rfl
        rw [hlit]
        by_cases hB : n < 2 ∨ 16 < n
        · rw [if_pos hB, if_pos hB]
        · rw [if_neg hB, if_neg hB, pos_next, fig_list hs.tail hn]
          cases hf2 : figL n r1 with
          | none => dsimp only; rw [if_pos (.inl rfl)]
          | some p2 =>
            obtain ⟨m, r2⟩ := p2
            dsimp only
            have hsh := figL_short hf2
            have hs2 := fig_suf hs.tail hf2
            have hne : pos x r2 ≠ pos x r1 := by unfold pos; omega
            by_cases h2 : r2.head? = some 35
            · rw [if_neg (fun q => q.elim hne fun q => q ((sg_is hs2 (by decide)).mpr h2))]
              cases r2 with
              | nil => cases h2
              | cons c r3 =>
                cases h2
                rw [pos_next]
                exact fin_list hs2.tail (fig_nonneg hn hf2)
            · rw [if_pos (.inr (fun q => h2 ((sg_is hs2 (by decide)).mp q)))]
              cases r2 with
              | nil => rfl
              | cons c r3 =>
                have hc : c ≠ 35 := fun q => h2 (by rw [q]; rfl)
                have hm : (match some (m, c :: r3) with | some (m, 35 :: r3) => expoL m n r3 | _ => none) = none := by
                  split
                  · rename_i e; cases e; exact absurd rfl hc
                  · rfl
                skip
                rw [hm]
    · rw [if_neg (fun q => h35 ((sg_is hs (by decide)).mp q.2))]
      have hlit : litL l = expoL n 10 r := by
        unfold litL; rw [hf]
        dsimp only
        split
        · exact absurd rfl h35
        · rfl
      rw [hlit]
      exact fin_list hs hn
-- Z5
/-- the sign of a text and what is behind it -/
def restL (z : Str) : List Nat := if (sgnOf z).2 = 1 then (ll z).drop 1 else ll z
theorem cl_low (z : Str) : cl (lowS z) = ll z := rfl
theorem sg_low (z : Str) (i : Int) : sg (lowS z) i = (sg z i).map lowc := by
  unfold sg
  show ((z.cps.toList.map lowc))[i.toNat]? = _
  rw [List.getElem?_map]
theorem sgn_low (z : Str) : sgnOf (lowS z) = sgnOf z := by
  unfold sgnOf
  rw [sg_low]
  have h : ∀ k, (k < 65 ∨ (90 < k ∧ k < 97) ∨ 122 < k) → ((sg z 0).map lowc = some k ↔ sg z 0 = some k) := fun k hk => by
    cases sg z 0 with
    | none => simp
    | some c => simp [lowc_eq hk]
  by_cases h1 : sg z 0 = some 45
  · rw [if_pos h1, if_pos ((h 45 (by decide)).mpr h1)]
  · rw [if_neg h1, if_neg (fun q => h1 ((h 45 (by decide)).mp q))]
    by_cases h2 : sg z 0 = some 43
    · rw [if_pos h2, if_pos ((h 43 (by decide)).mpr h2)]
    · rw [if_neg h2, if_neg (fun q => h2 ((h 43 (by decide)).mp q))]
theorem signed_list (x : Str) : (signedF x).1 = (sgnOf (Txt.stripChars x (Str.ofString " "))).1 ∧ cl (signedF x).2 = restL (Txt.stripChars x (Str.ofString " ")) := by
  unfold signedF inner restL
  rw [sgn_low]
  refine ⟨rfl, ?_⟩
  show cl (if _ then _ else _) = _
  split
  · rw [cl_rest, cl_low]
  · rw [cl_low]
theorem sgn_at (z : Str) : (sgnOf z).2 = 0 ∨ ((sgnOf z).2 = 1 ∧ (cl z) ≠ []) := by
  unfold sgnOf
  have h : ∀ k, sg z 0 = some k → cl z ≠ [] := fun k hk q => by
    unfold sg at hk
    rw [show z.cps.toList = [] from q] at hk
    cases hk
  split
  · rename_i hk; exact .inr ⟨rfl, h _ hk⟩
  · split
    · rename_i hk; exact .inr ⟨rfl, h _ hk⟩
    · exact .inl rfl
theorem rest_suf (z : Str) : Suf z (restL z) ∧ (sgnOf z).2 = pos z (restL z) := by
  unfold restL
  rcases sgn_at z with h | ⟨h, hn⟩
  · rw [h, if_neg (by decide)]
    refine ⟨⟨[], rfl⟩, ?_⟩
    unfold pos; rw [ll_len]; omega
  · rw [h, if_pos rfl]
    refine ⟨⟨(ll z).take 1, (List.take_append_drop 1 _).symm⟩, ?_⟩
    have h1 : (ll z).length ≠ 0 := fun q => hn (by
      have : (cl z).length = 0 := by simpa [ll] using q
      exact List.length_eq_zero_iff.mp this)
    unfold pos
    rw [List.length_drop]
    have := ll_len z
    omega
theorem lit_short {l r : List Nat} {v : Int} (h : litL l = some (v, r)) : r.length < l.length := by
  unfold litL at h
  split at h
  · cases h
  · rename_i n r1 hf
    have h1 := figL_short hf
    have he : ∀ m b q, expoL m b q = some (v, r) → r.length ≤ q.length := fun m b q e => by
      unfold expoL at e
      split at e
      · rename_i q1
        split at e
        · cases e
        · rename_i k q2 hq
          have h2 := figL_short hq
          have h3 := plus_le q1
          split at e
          · cases e
          · cases e; simp only [List.length_cons]; omega
      · cases e; exact Nat.le_refl _
    split at h
    · rename_i r2
      split at h
      · cases h
      · split at h
        · rename_i m r3 hf2
          have h2 := figL_short hf2
          have h3 := he _ _ _ h
          simp only [List.length_cons] at *
          omega
        · cases h
    · have := he _ _ _ h
      omega
theorem num_list (z : Str) : match allOf (litL (restL z)) with | none => (numIn z).1 = false | some v => numIn z = (true, (sgnOf z).1 * v) := by
  obtain ⟨hs, hp⟩ := rest_suf z
  unfold numIn
  rw [hp, lit_list hs]
  cases hl : litL (restL z) with
  | none =>
    show decide _ = false
    rw [decide_eq_false]
    dsimp only
    omega
  | some p =>
    obtain ⟨v, r⟩ := p
    have h1 := lit_short hl
    have h2 := hs.le
    cases r with
    | nil =>
      show (_, _) = _
      have : decide (pos z (restL z) < pos z [] ∧ pos z [] = (z.length : Int)) = true := by
        rw [decide_eq_true]
        unfold pos
        simp only [List.length_nil] at h1 ⊢
        omega
      dsimp only
      rw [this]
    | cons c r =>
      show decide _ = false
      rw [decide_eq_false]
      dsimp only
      unfold pos
      simp only [List.length_cons]
      omega
theorem plainA {x : Str} (_hg : Good x) (H : Int) : intVal (Txt.stripChars x (Str.ofString " ")) (0 - H) (H - 1) = dueInt x H := by
  unfold intVal dueInt
  have h := num_list (Txt.stripChars x (Str.ofString " "))
  obtain ⟨e1, e2⟩ := signed_list x
  rw [lit_core, e1, e2]
  cases hv : allOf (litL (restL (Txt.stripChars x (Str.ofString " ")))) with
  | none =>
    rw [hv] at h
    dsimp only at h
    rw [if_neg (by rw [h]; decide)]
  | some v =>
    rw [hv] at h
    dsimp only at h ⊢
    rw [h]
    dsimp only
    rw [if_pos rfl]
    generalize (sgnOf (Txt.stripChars x (Str.ofString " "))).1 * v = k
    by_cases hk : 0 - H ≤ k ∧ k < H
    · rw [if_pos hk, if_pos (by omega)]
    · rw [if_neg hk, if_neg (by omega)]
-- Z6
/-- the signs of a text that are no low line -/
def nLow (l : List Nat) : List Nat := l.filter (· != 95)
theorem nLow_app (a b : List Nat) : nLow (a ++ b) = nLow a ++ nLow b := List.filter_append ..
theorem nLow_free {l : List Nat} (h : 95 ∉ l) : nLow l = l := by
  unfold nLow
  rw [List.filter_eq_self]
  intro c hc
  show (c != 95) = true
  rw [bne_iff_ne]
  exact fun q => h (q ▸ hc)
theorem nLow_low : ∀ l : List Nat, (nLow (l.map lowc)).length = (nLow l).length
  | [] => rfl
  | c :: r => by
    have ih := nLow_low r
    unfold nLow at *
    rw [List.map_cons, List.filter_cons, List.filter_cons]
    by_cases h : c = 95
    · subst h
      rw [if_neg (by decide), if_neg (by decide)]; exact ih
    · rw [if_pos (by rw [bne_iff_ne]; exact fun q => h ((low95 c).mp q)), if_pos (by rw [bne_iff_ne]; exact h), List.length_cons, List.length_cons, ih]
theorem join_nLow : ∀ ps : List (List Nat), (∀ p ∈ ps, 95 ∉ p) → nLow (joinL ps) = ps.flatten
  | [], _ => rfl
  | [a], h => by
    show nLow a = a ++ []
    rw [List.append_nil, nLow_free (h a (.head _))]
  | a :: b :: r, h => by
    show nLow (a ++ 95 :: joinL (b :: r)) = a ++ (b :: r).flatten
    rw [nLow_app, nLow_free (h a (.head _)), ← join_nLow (b :: r) fun p hp => h p (.tail _ hp)]
    rfl
theorem cl_joinE : ∀ l : List Str, cl (Str.join (Str.ofString "") l) = (l.map cl).flatten
  | [] => rfl
  | [a] => by show cl a = cl a ++ []; rw [List.append_nil]
  | a :: b :: r => by
    show cl (a ++ Str.ofString "" ++ Str.join (Str.ofString "") (b :: r)) = cl a ++ ((b :: r).map cl).flatten
    rw [cl_app, cl_app, cl_joinE (b :: r), empty_str]
    show cl a ++ [] ++ _ = _
    rw [List.append_nil]
theorem replace_len (x : Str) : (Txt.replace x (Str.ofString "_") (Str.ofString "")).length = (nLow (cl x)).length := by
  have e : ∀ y : Str, y.length = (cl y).length := fun y => by simp [cl, Str.length]
  rw [e, under_str, PySem.StrLaws.replace_one, cl_joinE]
  have h : cl x = joinL ((Txt.split x ⟨#[95]⟩).map cl) := by rw [← cl_join, PySem.StrLaws.join_split]
  have h2 := join_nLow ((Txt.split x ⟨#[95]⟩).map cl) (by
    intro p hp
    obtain ⟨z, hz, rfl⟩ := List.mem_map.mp hp
    exact PySem.StrLaws.split_free x 95 z hz)
  rw [← h] at h2
  rw [h2]
/-- the law's reading of the fixed text, on lists -/
theorem fixed_list (x : Str) : fixedF x = match realL (restL (Txt.stripChars x (Str.ofString " "))) with
    | none => none
    | some (w, k, tl) => some ((sgnOf (Txt.stripChars x (Str.ofString " "))).1 * (w * 10 ^ (nLow tl).length + k), 10 ^ (nLow tl).length) := by
  obtain ⟨e1, e2⟩ := signed_list x
  unfold fixedF
  rw [← e1, ← e2, dot_str]
  rcases part_list (signedF x).2 46 with ⟨hn, e⟩ | ⟨a, q, e, hl, hc⟩
  · rw [e, real_nocut hn, if_pos (by show ((({ cps := #[] } : Str) == Str.ofString "") = true); decide +kernel)]
  · rw [e, real_cut hc hl, if_neg (by show ¬ ((({ cps := #[46] } : Str) == Str.ofString "") = true); decide +kernel)]
    dsimp only
    rw [worth_list, worth_list, replace_len]
    cases worthL 10 (cl a) with
    | none => rfl
    | some w =>
      cases worthL 10 (cl q) with
      | none => rfl
      | some k => rfl
theorem dgs_list {z : Str} {l : List Nat} (h : Suf z l) : dgs z (pos z l) = (nLow l).length := by
  unfold dgs
  have e := h.drop.1
  show (nLow (z.cps.toList.drop (pos z l).toNat)).length = _
  rw [← nLow_low, e]
theorem slice_dot {z : Str} {l : List Nat} (h : Suf z l) : (Txt.slice z (some (pos z l)) (some (pos z l + 1)) != Str.ofString ".") = true ↔ l.head? ≠ some 46 := by
  rw [bne, dot_str, slice_is h.pos0 rfl]
  have e := sg_is (k := 46) h (by decide)
  by_cases hs : Mine.sg z (pos z l) = some 46
  · rw [hs]
    have := e.mp hs
    simp [this]
  · have h2 : ¬ l.head? = some 46 := fun q => hs (e.mpr q)
    have h3 : (Mine.sg z (pos z l) == some 46) = false := by
      rw [Bool.eq_false_iff]; intro q; exact hs (eq_of_beq q)
    rw [h3]
    simp [h2]
theorem minus_list {z : Str} (hl : (0 : Int) < z.length) : ((Txt.item z 0 == Str.ofString "-") = true) ↔ (sgnOf z).1 = -1 := by
  rw [item0_is hl (c := 45) (by decide +kernel)]
  unfold sgnOf
  by_cases h : Mine.sg z 0 = some 45
  · rw [if_pos h, h]; simp
  · rw [if_neg h]
    have h3 : (Mine.sg z 0 == some 45) = false := by
      rw [Bool.eq_false_iff]; intro q; exact h (eq_of_beq q)
    rw [h3]
    split <;> simp
theorem realL_no {l : List Nat} (h : figL 10 l = none) : realL l = none := by unfold realL; rw [h]
theorem realL_odd {l r : List Nat} {w : Int} (h : figL 10 l = some (w, r)) (hd : r.head? ≠ some 46) : realL l = none := by
  unfold realL; rw [h]
  split
  · rename_i e; cases e; exact absurd rfl hd
  · rfl
theorem realL_no2 {l r : List Nat} {w : Int} (h : figL 10 l = some (w, 46 :: r)) (h2 : figL 10 r = none) : realL l = none := by
  unfold realL; rw [h]
  show (match figL 10 r with | some (k, []) => some (w, k, r) | _ => none) = none
  rw [h2]
theorem realL_more {l r r2 : List Nat} {w k : Int} {t : Nat} (h : figL 10 l = some (w, 46 :: r)) (h2 : figL 10 r = some (k, t :: r2)) : realL l = none := by
  unfold realL; rw [h]
  show (match figL 10 r with | some (k, []) => some (w, k, r) | _ => none) = none
  rw [h2]
theorem realL_yes {l r : List Nat} {w k : Int} (h : figL 10 l = some (w, 46 :: r)) (h2 : figL 10 r = some (k, [])) : realL l = some (w, k, r) := by
  unfold realL; rw [h]
  show (match figL 10 r with | some (k, []) => some (w, k, r) | _ => none) = _
  rw [h2]
theorem real_list (z : Str) : match realL (restL z) with
    | none => (realIn z).1 = false
    | some (w, k, tl) => realIn z = (true, (sgnOf z).1 * (w * 10 ^ (nLow tl).length + k), 10 ^ (nLow tl).length) := by
  obtain ⟨hs, hp⟩ := rest_suf z
  unfold realIn
  rw [hp]
  unfold realFin
  rw [fig_list hs (by decide)]
  cases hf : figL 10 (restL z) with
  | none => rw [realL_no hf]; dsimp only; rw [if_pos (.inl (by decide))]
  | some p =>
    obtain ⟨w, r⟩ := p
    have hr := fig_suf hs hf
    have hw := fig_nonneg (by decide) hf
    have hle := hr.le
    by_cases hd : r.head? = some 46
    · cases r with
      | nil => cases hd
      | cons c r1 =>
        cases hd
        cases hf2 : figL 10 r1 with
        | none =>
          rw [realL_no2 hf hf2]
          dsimp only
          rw [pos_next, fig_list hr.tail (by decide), hf2]
          dsimp only
          rw [if_pos (.inr (.inl (by decide)))]
        | some p2 =>
          obtain ⟨k, r2⟩ := p2
          have hk := fig_nonneg (by decide) hf2
          cases r2 with
          | cons t r2 =>
            rw [realL_more hf hf2]
            dsimp only
            rw [pos_next, fig_list hr.tail (by decide), hf2]
            dsimp only
            rw [if_pos (.inr (.inr (.inr (by unfold pos; simp only [List.length_cons]; omega))))]
          | nil =>
            rw [realL_yes hf hf2]
            dsimp only
            rw [pos_next, fig_list hr.tail (by decide), hf2]
            dsimp only
            have hl0 : (0 : Int) < z.length := by simp only [List.length_cons] at hle; omega
            rw [if_neg, dgs_list hr.tail]
            · refine Prod.ext rfl (Prod.ext ?_ rfl)
              dsimp only
              have hm := minus_list hl0
              by_cases hq : (sgnOf z).1 = -1
              · rw [if_pos (hm.mpr hq), hq]; omega
              · have h1 : (sgnOf z).1 = 1 := (sgn_cases z).resolve_left hq
                rw [if_neg (fun q => hq (hm.mp q)), h1, Int.one_mul]
            · rintro (q | q | q | q)
              · omega
              · omega
              · have := (slice_dot hr).mp
                rw [pos_next] at this
                exact this q rfl
              · unfold pos at q
                simp only [List.length_nil] at q
                omega
    · rw [realL_odd hf hd]
      dsimp only
      rw [if_pos (.inr (.inr (.inl ((slice_dot hr).mpr hd))))]
/-- rounding half up, both ways of saying it -/
theorem round_eq {T D : Int} (hD : 0 < D) : Int.fdiv (2 * T + D) (2 * D) = if (Int.fdiv T D + 1) * D - T ≤ T - Int.fdiv T D * D then Int.fdiv T D + 1 else Int.fdiv T D := by
  rw [Int.fdiv_eq_ediv_of_nonneg _ (by omega), Int.fdiv_eq_ediv_of_nonneg _ (by omega)]
  have h1 := Int.emod_add_mul_ediv T D
  have h2 := Int.emod_nonneg T (show D ≠ 0 by omega)
  have h3 := Int.emod_lt_of_pos T hD
  generalize T / D = q at *
  generalize T % D = r at *
  have e1 : (q + 1) * D - T = D - r := by rw [Int.add_mul, Int.one_mul, Int.mul_comm q D]; omega
  have e2 : T - q * D = r := by rw [Int.mul_comm q D]; omega
  rw [e1, e2]
  have e3 : 2 * T + D = (2 * r + D) + q * (2 * D) := by
    have : q * (2 * D) = 2 * (D * q) := by rw [Int.mul_left_comm, Int.mul_comm q D]
    rw [this]; omega
  rw [e3, Int.add_mul_ediv_right _ _ (by omega)]
  by_cases h : D - r ≤ r
  · rw [if_pos h]
    have : (2 * r + D) / (2 * D) = 1 := by
      apply Int.le_antisymm
      · exact Int.le_of_lt_add_one (Int.ediv_lt_of_lt_mul (by omega) (by omega))
      · exact Int.le_ediv_of_mul_le (by omega) (by omega)
    omega
  · rw [if_neg h, Int.ediv_eq_zero_of_lt (by omega) (by omega), Int.zero_add]
theorem rq_due {n d a b : Int} (hd : 0 < d) (ha : 0 < a) (hb : 0 < b) : rqF (n * b) (d * a) = dueS n d a b := by
  have hD : 0 < d * a := Int.mul_pos hd ha
  unfold rqF dueS dueR dueQ
  have hs : (n * b < 0) ↔ n < 0 := by
    constructor
    · intro h
      apply Decidable.byContradiction
      intro q
      have := Int.mul_nonneg (show 0 ≤ n by omega) (show 0 ≤ b by omega)
      omega
    · intro h; exact Int.mul_neg_of_neg_of_pos h hb
  by_cases hn : n < 0
  · rw [if_pos (hs.mpr hn), if_pos (hs.mpr hn), if_pos hn, if_pos hn, ← Int.neg_mul, round_eq hD]
    omega
  · rw [if_neg (fun q => hn (hs.mp q)), if_neg (fun q => hn (hs.mp q)), if_neg hn, if_neg hn, round_eq hD]
theorem plainB {x : Str} (_hg : Good x) {a b : Int} (a0 : 0 < a) (b0 : 0 < b) (H : Int) : fixVal (Txt.stripChars x (Str.ofString " ")) a b (0 - H) H = dueFix (fixedF x) a b H := by
  unfold fixVal dueFix
  have h := real_list (Txt.stripChars x (Str.ofString " "))
  rw [fixed_list]
  cases hv : realL (restL (Txt.stripChars x (Str.ofString " "))) with
  | none =>
    rw [hv] at h
    dsimp only at h
    rw [if_neg (by rw [h]; decide)]
  | some v =>
    obtain ⟨w, k, tl⟩ := v
    rw [hv] at h
    dsimp only at h ⊢
    rw [h]
    dsimp only
    rw [if_pos rfl, rq_due (Int.pow_pos (by decide)) a0 b0]
theorem fixed_bits {x : Str} (hg : Good x) {n d : Int} (h : fixedF x = some (n, d)) : 0 < d ∧ Builtin.Int.intBits d ≤ 1601 ∧ Builtin.Int.intBits n ≤ 4000 := by
  have gr := good_signed hg
  have g1 := good_part1 gr (Str.ofString ".")
  have g3 := good_part3 gr (Str.ofString ".")
  unfold fixedF at h
  split at h
  · cases h
  · unfold fixTail at h
    split at h
    · rename_i w p hw hp
      simp only [Option.some.injEq, Prod.mk.injEq] at h
      obtain ⟨hn, hd⟩ := h
      have hl : (Txt.replace (Txt.partition (signedF x).2 (Str.ofString ".")).2.2 (Str.ofString "_") (Str.ofString "")).length ≤ 400 := by
        rw [replace_len]
        refine Nat.le_trans (List.length_filter_le _ _) ?_
        have := g3.1
        have e : (cl (Txt.partition (signedF x).2 (Str.ofString ".")).2.2).length = (Txt.partition (signedF x).2 (Str.ofString ".")).2.2.length := by simp [cl, Str.length]
        omega
      rw [← hn, ← hd]
      generalize (Txt.replace (Txt.partition (signedF x).2 (Str.ofString ".")).2.2 (Str.ofString "_") (Str.ofString "")).length = m at *
      have h10 : Builtin.Int.intBits (10 : Int) ≤ 4 := PyProof.Rows.intBits_le (by decide)
      have h2 := intBits_pow_le h10 m
      have bw := worth_bits g1.1 (by decide) (by decide) hw
      have bp := worth_bits g3.1 (by decide) (by decide) hp
      refine ⟨Int.pow_pos (by decide), Nat.le_trans h2 (by omega), ?_⟩
      have hs : Builtin.Int.intBits (signedF x).1 ≤ 1 := by
        refine PyProof.Rows.intBits_le ?_
        unfold signedF
        rcases sgn_cases (inner x) with h | h <;> simp only [h] <;> decide
      have h3 := intBits_add_le (intBits_mul_le bw.2 h2) bp.2
      have h4 := intBits_mul_le hs h3
      exact Nat.le_trans h4 (by omega)
    · cases h
-- T2
theorem lines_T2 : True := by
  k_with_none
  w_top off
  k_with "mine sides" => (
        (case k1 => first | k_asm | fail "mine: the frames below")
        (case k2 => first | k_asm | fail "mine: the frame")
        (case k3 => first | k_asm | fail "mine: the written part")
        (case k4 => first | k_asm | fail "mine: the ledger")
        (case k5 => first | k_asm | fail "mine: the top's facts")
        (case kK => first | exact rfl | assumption | fail "mine: the caller is no def")
        (case kd => first | ktr_room | fail "mine: the frames' room")
        (case ku => first | ktr_units | fail "mine: the C units"))
  k_with "mine one" => first | assumption | exact slice_one_len (by walk_at "mine num") | omega
  k_with "mine num" => first | assumption | decide | omega
  k_with "call ref" => (k_here; (with_reducible show wpAny _ _ (call (Value.ref 88) _) _ _ _); k_dflt (refine' use_spec (spec_small_letter _ _ _ _ ?kp) ?k1 ?k2 ?k3 ?k4 ?k5 ?kK ?kd ?ku ?_); (case kp => walk_at "mine one"); walk_at "mine sides"; intro v9 n9 h9 tk9 ok9 F9 N9; (obtain ⟨e9, t9, e9'⟩ := ok9); subst e9; subst e9'; (try dsimp only); (try k_fold))
  k_with "mine tup" => (intro v9 n9 h9 tk9 ok9 F9 N9; (obtain ⟨⟨D9, t9, u9, c9, e9, e9', l9⟩, f9⟩ := ok9); subst e9; subst e9'; (try k_lt l9); (obtain ⟨f7, f8, f9⟩ := f9); (try dsimp only); (try k_fold))
  k_with "mine l" => first | assumption | exact lt1 (by assumption) | exact lt2 (by assumption) | exact lt3 (by assumption) | exact lt4 (by assumption)
  k_with "mine sub" => first | exact sub0 _ | exact sub1 (sub0 _) | exact sub1 (sub1 (sub0 _)) | exact sub1 (sub1 (sub1 (sub0 _))) | exact sub1 (sub1 (sub1 (sub1 (sub0 _))))
  k_with "setItem ref int" => (k_here; k_dflt (refine' ki_set ?F ?N ?a ?b ?e ?U ?_; (case F => k_asm); (case N => k_asm); (case U => exact Upd.head (by assumption)); (case a => decide); (case b => decide); (case e => rfl)); intro h' F' N'; (try dsimp only [List.nil_append, List.cons_append] at N'))
  k_with "subscriptTail Name BinOp str int" => (k_here; k_dflt (refine item_str (fig_fits (by assumption) (by assumption)) (fig_lo (by assumption) (by assumption)) (fig_hi (by assumption) (by assumption)) ?_); intro _)
  k_with "binaryOp Add str str" => (k_here; k_dflt (refine PyProof.Rows.add_str ?_ (fig_add (by assumption) (by assumption) (by assumption))); intro _ _)
  trivial
theorem spec_spelt (w : World) (n base : Int) (tn tb : Tok) (news : List (Addr × Obj)) (h0 : 0 ≤ n) (h1 : n < 70000) (b0 : 2 ≤ base) (b1 : base ≤ 16) :
   Spec w 183 [.int n tn, .int base tb] news 2 (fun v m => news = m ∧ ∃ y t, v = .str y t ∧ Spelt y) := by
  unfold Spec
  k_fill
  intros
  rename_i hret
  refine done_in ?_
  refine wpAny_call ?_
  k_dflt cell_enter
  k_with "exec While BoolOp cons nil" => k_while (fun _ n x => 0 ≤ n ∧ SpW n x) (fun _ n x => spM n x) "n" "text"
  k_with "state" => with_reducible first | exact sp_start h0 h1 | exact sp_step (by assumption) b0 b1 (by assumption) (.inl (by assumption)) | exact sp_step (by assumption) b0 b1 (by assumption) (.inr (by assumption))
  k_with "measure" => with_reducible first | exact sp_meas (by assumption) b0 b1 (.inl (by assumption)) | exact sp_meas (by assumption) b0 b1 (.inr (by assumption))
  k_steps
  all_goals (try dsimp only [Done])
  all_goals exact hret _ _ _ _ ⟨rfl, _, _, rfl, sp_done (by assumption)⟩ (by k_asm) (by k_asm)
-- T1
theorem lines_T1 : True := by
  k_with_none
  w_top off
  k_with "mine sides" => (
        (case k1 => first | k_asm | fail "mine: the frames below")
        (case k2 => first | k_asm | fail "mine: the frame")
        (case k3 => first | k_asm | fail "mine: the written part")
        (case k4 => first | k_asm | fail "mine: the ledger")
        (case k5 => first | k_asm | fail "mine: the top's facts")
        (case kK => first | exact rfl | assumption | fail "mine: the caller is no def")
        (case kd => first | ktr_room | fail "mine: the frames' room")
        (case ku => first | ktr_units | fail "mine: the C units"))
  k_with "mine one" => first | assumption | exact slice_one_len (by walk_at "mine num") | omega
  k_with "mine num" => first | assumption | decide | omega
  k_with "call ref" => (k_here; (with_reducible show wpAny _ _ (call (Value.ref 88) _) _ _ _); k_dflt (refine' use_spec (spec_small_letter _ _ _ _ ?kp) ?k1 ?k2 ?k3 ?k4 ?k5 ?kK ?kd ?ku ?_); (case kp => walk_at "mine one"); walk_at "mine sides"; intro v9 n9 h9 tk9 ok9 F9 N9; (obtain ⟨e9, t9, e9'⟩ := ok9); subst e9; subst e9'; (try dsimp only); (try k_fold))
  k_with "mine tup" => (intro v9 n9 h9 tk9 ok9 F9 N9; (obtain ⟨⟨D9, t9, u9, c9, e9, e9', l9⟩, f9⟩ := ok9); subst e9; subst e9'; (try k_lt l9); (obtain ⟨f7, f8, f9⟩ := f9); (try dsimp only); (try k_fold))
  k_with "mine l" => first | assumption | exact lt1 (by assumption) | exact lt2 (by assumption) | exact lt3 (by assumption) | exact lt4 (by assumption)
  k_with "mine sub" => first | exact sub0 _ | exact sub1 (sub0 _) | exact sub1 (sub1 (sub0 _)) | exact sub1 (sub1 (sub1 (sub0 _))) | exact sub1 (sub1 (sub1 (sub1 (sub0 _))))
  k_with "setItem ref int" => (k_here; k_dflt (refine' ki_set ?F ?N ?a ?b ?e ?U ?_; (case F => k_asm); (case N => k_asm); (case U => exact Upd.head (by assumption)); (case a => decide); (case b => decide); (case e => rfl)); intro h' F' N'; (try dsimp only [List.nil_append, List.cons_append] at N'))
  trivial
abbrev penO (S : Addr) (r : Int) (t : Tok) (c : Nat) : Obj := listOf #[.ref S, .int r t] c
def Took (P S : Addr) (r many : Int) (c : Nat) (rest : List (Addr × Obj)) (v : Value) (n : List (Addr × Obj)) : Prop :=
  ∃ q t t', v = .int q t ∧ (0 ≤ q ∧ q < many) ∧ ((P, penO S (r + 1) t' c) :: rest) = n
theorem spec_take (w : World) (P S : Addr) (ws : List Value) (ns : List Int) (k c : Nat) (r many : Int) (tr tm : Tok) (news : List (Addr × Obj)) (hI : IntsAre ws ns) (hl : ns.length ≤ 40) (h0 : 0 ≤ r) (h1 : r ≤ 1000) (m0 : 0 < many) (m1 : many ≤ 100000) (hn : ∀ p ∈ ((S, listOf ws.toArray k) :: news), p.1 ≠ P) :
   Spec w 176 [.ref P, .int many tm] ((P, penO S r tr c) :: (S, listOf ws.toArray k) :: news) 2 (Took P S r many c ((S, listOf ws.toArray k) :: news)) := by
  unfold Spec
  k_fill
  intros
  rename_i hret
  refine done_in ?_
  refine wpAny_call ?_
  k_dflt cell_enter
  k_steps
  all_goals (try dsimp only [Done])
  all_goals exact hret _ _ _ _ ⟨_, _, _, rfl, ⟨Int.fmod_nonneg_of_pos _ m0, Int.fmod_lt_of_pos _ m0⟩, rfl⟩ (by k_asm) (by k_asm)
-- T3
theorem lines_T3 : True := by
  k_with_none
  w_top off
  k_with "mine sides" => (
        (case k1 => first | k_asm | fail "mine: the frames below")
        (case k2 => first | k_asm | fail "mine: the frame")
        (case k3 => first | k_asm | fail "mine: the written part")
        (case k4 => first | k_asm | fail "mine: the ledger")
        (case k5 => first | k_asm | fail "mine: the top's facts")
        (case kK => first | exact rfl | assumption | fail "mine: the caller is no def")
        (case kd => first | ktr_room | fail "mine: the frames' room")
        (case ku => first | ktr_units | fail "mine: the C units"))
  k_with "mine one" => first | assumption | exact slice_one_len (by walk_at "mine num") | omega
  k_with "mine num" => first | assumption | decide | omega
  k_with "call ref" => (k_here; (with_reducible show wpAny _ _ (call (Value.ref 88) _) _ _ _); k_dflt (refine' use_spec (spec_small_letter _ _ _ _ ?kp) ?k1 ?k2 ?k3 ?k4 ?k5 ?kK ?kd ?ku ?_); (case kp => walk_at "mine one"); walk_at "mine sides"; intro v9 n9 h9 tk9 ok9 F9 N9; (obtain ⟨e9, t9, e9'⟩ := ok9); subst e9; subst e9'; (try dsimp only); (try k_fold))
  k_with "mine tup" => (intro v9 n9 h9 tk9 ok9 F9 N9; (obtain ⟨⟨D9, t9, u9, c9, e9, e9', l9⟩, f9⟩ := ok9); subst e9; subst e9'; (try k_lt l9); (obtain ⟨f7, f8, f9⟩ := f9); (try dsimp only); (try k_fold))
  k_with "mine l" => first | assumption | exact lt1 (by assumption) | exact lt2 (by assumption) | exact lt3 (by assumption) | exact lt4 (by assumption)
  k_with "mine sub" => first | exact sub0 _ | exact sub1 (sub0 _) | exact sub1 (sub1 (sub0 _)) | exact sub1 (sub1 (sub1 (sub0 _))) | exact sub1 (sub1 (sub1 (sub1 (sub0 _))))
  k_with "setItem ref int" => (k_here; k_dflt (refine' ki_set ?F ?N ?a ?b ?e ?U ?_; (case F => k_asm); (case N => k_asm); (case U => exact Upd.head (by assumption)); (case a => decide); (case b => decide); (case e => rfl)); intro h' F' N'; (try dsimp only [List.nil_append, List.cons_append] at N'))
  k_with "mine take" => (intro v9 n9 h9 tk9 ok9 F9 N9; (unfold Took at ok9); (obtain ⟨q9, t9, u9, e9, r9, e9'⟩ := ok9); subst e9; subst e9'; (try dsimp only); (try k_fold))
  k_with "mine sides9" => (
        (case k1 => first | k_asm | fail "mine: the frames below")
        (case k2 => first | k_asm | fail "mine: the frame")
        (case k3 => first | k_asm | fail "mine: the written part")
        (case k5 => first | k_asm | fail "mine: the top's facts")
        (case kK => first | exact rfl | assumption | fail "mine: the caller is no def")
        (case kd => first | ktr_room | fail "mine: the frames' room")
        (case ku => first | ktr_units | fail "mine: the C units"))
  k_with "call ref" => (k_here; (with_reducible show wpAny _ _ (call (Value.ref 176) _) _ _ _); focus (k_dflt (refine' use_spec (spec_take _ _ _ _ _ _ _ _ _ _ _ _ ?p1 ?p2 ?p3 ?p4 ?p5 ?p6 ?p7) ?k1 ?k2 ?k3 ?k4 ?k5 ?kK ?kd ?ku ?_); (case k4 => k_asm); (case p1 => assumption); (case p2 => assumption); (case p3 => omega); (case p4 => omega); (case p5 => first | decide | omega); (case p6 => first | decide | omega); (case p7 => assumption); walk_at "mine sides9"; walk_at "mine take"))
  k_with "CompSrc" => (k_here; k_dflt (refine' LCg.CompSrc.range (by rfl) (by k_asm) (by k_asm) (by assumption) (by first | decide | exact small_one (by decide) (by decide) (by omega) (by omega)) (rangeSize_nat _ _) (by rw [PySem.sizeLine_eq]; omega) ?_); (intro g9); k_dflt (refine' comp_pen _ _ ?_ ?_))
  k_with "call ref" => (k_here; (with_reducible show wpAny _ _ (call (Value.ref 176) _) _ _ _); (with_reducible rename InElt _ _ => ie9); focus (k_dflt (refine' use_spec (spec_take _ _ _ _ _ _ _ _ _ _ _ _ ?p1 ?p2 ?p3 ?p4 ?p5 ?p6 ?p7) ?k1 ?k2 ?k3 ?k4 ?k5 ?kK ?kd ?ku ?_); (case k4 => exact news_rot3 (by k_asm)); (case p1 => assumption); (case p2 => assumption); (case p3 => omega); (case p4 => omega); (case p5 => first | decide | omega); (case p6 => first | decide | omega); (case p7 => exact ne_more3 (by assumption) (by assumption)); walk_at "mine sides9"; walk_at "mine take"))
  k_with "call builtin:str.join" => (k_here; (with_reducible show wpAny _ _ (call (Value.builtin "str.join") [Value.str _ _, Value.ref _]) _ _ _); k_dflt (refine join_pieces (News.isList (by k_asm) (.head _)) (by assumption) (by assumption) (by assumption) (by omega) ?_); intro y9 t9 k9 l9 a9)
  k_with "mine tx" => first | with_reducible assumption | exact tx_slice (by with_reducible assumption) _ _ | exact tx_getD (k := 4) (by decide +kernel) _ | exact tx_lit (by decide +kernel)
  k_with "binaryOp Add str str" => (k_here; (with_reducible show wpAny _ _ (binaryOp Operator.Add (Value.str _ _) (Value.str _ _)) _ _ _); k_dflt (refine' add_tx ?taa ?tab ?tac ?_; (case taa => walk_at "mine tx"); (case tab => walk_at "mine tx"); (case tac => decide +kernel)); intro z9 t9 k9 x9)
  k_with "call builtin:len" => (k_here; (with_reducible show wpAny _ _ (call (Value.builtin "len") [Value.str _ _]) _ _ _); k_dflt (refine' len_tx ?tla ?tlc ?_; (case tla => walk_at "mine tx"); (case tlc => decide +kernel)); intro n9 t9 k9 l9)
  k_with "call builtin:str.upper" => (k_here; (with_reducible show wpAny _ _ (call (Value.builtin "str.upper") [Value.str _ _]) _ _ _); k_dflt (refine' upper_tx ?tua ?tuc ?_; (case tua => walk_at "mine tx"); (case tuc => decide +kernel)); intro z9 t9 k9 x9)
  k_with "call type:str" => (k_here; (with_reducible show wpAny _ _ (call (Value.type "str") [Value.int _ _]) _ _ _); k_dflt (refine' str_tx ?tsa ?tsc ?_; (case tsa => omega); (case tsc => omega)); intro z9 t9 k9 x9)
  k_with "binaryOp Mult str int" => (k_here; (with_reducible show wpAny _ _ (binaryOp Operator.Mult (Value.str _ _) (Value.int _ _)) _ _ _); k_dflt (refine' mul_tx 2 ?tma ?tmb ?tmc ?_; (case tma => omega); (case tmb => omega); (case tmc => decide)); intro z9 t9 k9 x9)
  k_with "call ref" => (k_here; (with_reducible show wpAny _ _ (call (Value.ref 183) _) _ _ _); focus (k_dflt (refine' use_spec (spec_spelt _ _ _ _ _ _ ?p1 ?p2 ?p3 ?p4) ?k1 ?k2 ?k3 ?k4 ?k5 ?kK ?kd ?ku ?_); (case k4 => k_asm); (case p1 => omega); (case p2 => omega); (case p3 => omega); (case p4 => omega); walk_at "mine sides9"; intro v9 n9 h9 tk9 ok9 F9 N9; (obtain ⟨e9', y9, t9, e9, s9⟩ := ok9); (replace s9 := spelt_tx s9); subst e9; subst e9'; (try dsimp only); (try k_fold)))
  k_with "call ref" => (k_here; (with_reducible show wpAny _ _ (call (Value.ref 176) _) _ _ _); focus (k_dflt (refine' use_spec (spec_take _ _ _ _ _ _ _ _ _ _ _ _ ?p1 ?p2 ?p3 ?p4 ?p5 ?p6 ?p7) ?k1 ?k2 ?k3 ?k4 ?k5 ?kK ?kd ?ku ?_); (case k4 => exact news_rot1 (by k_asm)); (case p1 => assumption); (case p2 => assumption); (case p3 => omega); (case p4 => omega); (case p5 => first | decide | omega); (case p6 => first | decide | omega); (case p7 => first | exact ne_moreL (by assumption) (by assumption) | exact ne_moreL (ne_moreL (by assumption) (by assumption)) (by assumption)); walk_at "mine sides9"; walk_at "mine take"))
  k_with "mine mid" => first | k_asm | exact news_tail8 (by k_asm) | exact news_tail8 (news_tail8 (by k_asm))
  k_with "subscriptTail Name Slice str ref" => ((with_reducible show wpAny _ _ (subscriptTail _ (Expr.Slice none (some _) none _) _ _) _ _ _); (with_reducible rename Fr _ _ _ _ => F'); (with_reducible rename News _ _ _ _ => N'); (refine slice_strN_ns (hsz := ?hsz) (s := ⟨_, _, _, _, _⟩) F' N' ?_); (case hsz => exact TX.line (by with_reducible assumption) (by decide +kernel)); intro _ _ _ _ _)
  k_with "subscriptTail Name Slice str ref" => ((with_reducible show wpAny _ _ (subscriptTail _ (Expr.Slice (some _) none none _) _ _) _ _ _); (with_reducible rename Fr _ _ _ _ => F'); (with_reducible rename News _ _ _ _ => N'); (refine slice_strN_sn (hsz := ?hsz) (s := ⟨_, _, _, _, _⟩) F' N' ?_); (case hsz => exact TX.line (by with_reducible assumption) (by decide +kernel)); intro _ _ _ _ _)
  k_with "mine strs" => first | exact PyProof.Rows.StrsAre.nil | (refine' PyProof.Rows.StrsAre.cons _ _ ?st; (case st => walk_at "mine strs"))
  k_with "subscriptTail" => (k_here; (with_reducible show wpAny _ _ (subscriptTail _ _ (Value.ref _) (Value.int _ _)) _ _ _); k_dflt (refine' item_tx ?til ?tis ?tiz ?tia ?tib ?tic ?_ ?tie; (case til => (refine' News.isList ?tiln ?tilm; (case tiln => k_asm); (case tilm => exact List.Mem.tail _ (List.Mem.tail _ (List.Mem.head _))))); (case tis => walk_at "mine strs"); (case tiz => decide +kernel); (case tia => omega); (case tib => (show (_ : Int) < _; simp only [List.length_cons, List.length_nil]; omega)); (case tic => decide); (case tie => with_unfolding_all rfl)); intro z9 t9 x9)
  trivial
/-- a text made by the law: short, plain signs -/
def Text9 (x : Str) (k : Nat) : Prop := x.length ≤ k ∧ Ascii x
theorem ret_text {Q : Value → Shared → Prop} {h₀ h' : Heap} {L P S : Addr} {m : Str → Option Value} {s : Shared} {c : Nat} {rest : List (Addr × Obj)} {r r' : Int} {t' tz : Tok} {y : Str} {tk' : Nat}
    (hret : ∀ v news' h' tk', (∃ y t r' t', v = .str y t ∧ Text9 y 120 ∧ (r ≤ r' ∧ r' ≤ r + 40) ∧ news' = ((P, penO S r' t' c) :: rest)) → Fr h₀ L h' m → News h₀ L h' news' → Q v { s with heap := h', toks := tk' })
    (F : Fr h₀ L h' m) (N : News h₀ L h' ((P, penO S r' t' c) :: rest)) (hl : y.length ≤ 120) (ha : Ascii y) (l1 : r ≤ r') (l2 : r' ≤ r + 40) : Q (.str y tz) { s with heap := h', toks := tk' } :=
  hret _ _ _ _ ⟨y, tz, r', t', rfl, ⟨hl, ha⟩, ⟨l1, l2⟩, rfl⟩ F N
theorem spec_text (w : World) (P S : Addr) (ws : List Value) (ns : List Int) (k c : Nat) (r : Int) (tr : Tok) (news : List (Addr × Obj)) (hI : IntsAre ws ns) (hl : ns.length ≤ 40) (h0 : 0 ≤ r) (h1 : r ≤ 900) (hn : ∀ p ∈ ((S, listOf ws.toArray k) :: news), p.1 ≠ P) :
   Spec w 188 [.ref P] ((P, penO S r tr c) :: (S, listOf ws.toArray k) :: news) 6 (fun v n => ∃ y t r' t', v = .str y t ∧ Text9 y 120 ∧ (r ≤ r' ∧ r' ≤ r + 40) ∧ n = ((P, penO S r' t' c) :: (S, listOf ws.toArray k) :: news)) := by
  unfold Spec
  k_fill
  intros
  rename_i hret
  refine done_in ?_
  refine wpAny_call ?_
  k_dflt (refine' code_defC ?k1 ?k2 ?k3 ?k4 ?k5 ?kA ?kF ?kK ?k6 ?k7 ?k8 ?k9 ?kB ?kD ?_ ?c2 ?c3 ?c4; (case kA => exact rfl); (case kF => exact rfl); (case kK => assumption); (case k1 => k_asm); (case k2 => k_asm); (case k3 => k_asm); (case k4 => k_asm); (case k5 => k_asm); (case k6 => k_is); (case k7 => k_is); (case k8 => ktr_room); (case k9 => exact BindsTo.of_eq rfl); (case kB => exact rfl); (case kD => decide +kernel); (case c2 => exact rfl); (case c3 => exact rfl); (case c4 => exact rfl); k_whole; intro g' L' h' tk' cells' FG' F' N' Y' B' X' T' l1; (try k_lt l1); k_cells Y'; (try simp only [List.cons_append, List.nil_append] at N'); (try dsimp only))
  rename News g' L' h' _ => N'
  replace N' := news_rot1 N'
  rename Obj => o9
  have hn' := ne_more hn (a := L' + 1) (o := o9) (by rename _ ∧ _ ∧ AllLt _ _ => l9; exact Nat.ne_of_gt (Nat.lt_succ_of_lt l9.1))
  k_dflt (refine' seq_v (α := Unit) (fun m _ => m) (fun _ => True) 1 ?F ?N ?sa1 ?sb1; (case F => k_asm); (case N => k_asm))
  case sa1 =>
    k_steps
    · exact comp_end9 (by assumption) (by k_asm) (by k_asm) (piece_get (by decide +kernel) _)
    · dsimp only [StEnd]
      k_steps
      dsimp only [Done]
      exact ret_text hret (by k_asm) (news_tail9 (by k_asm)) (Nat.le_trans (by assumption) (by decide)) (by assumption) (by omega) (by omega)
    · exact midV () (by k_asm) (by k_asm) trivial (by omega) (by omega) (fun _ => rfl)
  case sb1 =>
    intro u2 h2 tk2 r2 t2 V2 F2 N2 a2 b2
    dsimp only at F2
    k_dflt (refine' seq_v (α := Int × Tok) (fun m a y => if y = Str.ofString "base" then some (.int a.1 a.2) else m y) (fun a => 2 ≤ a.1 ∧ a.1 ≤ 16) 2 ?F ?N ?sa2 ?sb2; (case F => k_asm); (case N => k_asm))
    case sa2 =>
      k_steps
      all_goals first
        | exact midV ⟨_, _⟩ (by k_asm) (by k_asm) ⟨by omega, by omega⟩ (by omega) (by omega) (fun _ => rfl)
    rintro ⟨b3, t3⟩ h3 tk3 r3 u3 V3 F3 N3 a3 c3
    dsimp only at V3 F3
    k_dflt (refine' seq_v (α := Str × Tok) (fun m a y => if y = Str.ofString "figures" then some (.str a.1 a.2) else m y) (fun a => TX a.1 17) 1 ?F ?N ?sa3 ?sb3; (case F => k_asm); (case N => k_asm))
    case sa3 =>
      k_steps
      all_goals first
        | exact midV ⟨_, _⟩ (by k_asm) (by k_asm) (by with_reducible assumption) (by omega) (by omega) (fun _ => rfl)
    rintro ⟨f4, t4⟩ h4 tk4 r4 u4 V4 F4 N4 a4 c4
    dsimp only at V4 F4
    k_dflt (refine' seq_v (α := Str × Tok) (fun m a y => if y = Str.ofString "figures" then some (.str a.1 a.2) else m y) (fun a => TX a.1 35) 1 ?F ?N ?sa4 ?sb4; (case F => k_asm); (case N => k_asm))
    case sa4 =>
      k_steps
      all_goals first
        | exact midV ⟨_, _⟩ (by k_asm) (by k_asm) (TX.mono (by with_reducible assumption) (by decide +kernel)) (by omega) (by omega) (fun _ => rfl)
        | exact midV ⟨_, _⟩ (by k_asm) (by k_asm) (TX.mono V4 (by decide +kernel)) (by omega) (by omega) (same_map rfl)
    rintro ⟨f5, t5⟩ h5 tk5 r5 u5 V5 F5 N5 a5 c5
    dsimp only at V5 F5
    k_dflt (refine' seq_v (α := Str × Tok) (fun m a y => if y = Str.ofString "text" then some (.str a.1 a.2) else m y) (fun a => TX a.1 40) 0 ?F ?N ?sa5 ?sb5; (case F => k_asm); (case N => k_asm))
    case sa5 =>
      k_steps
      all_goals first
        | exact midV ⟨_, _⟩ (by k_asm) (by k_asm) (TX.mono (by with_reducible assumption) (by decide +kernel)) (by omega) (by omega) (fun _ => rfl)
    rintro ⟨f6, t6⟩ h6 tk6 r6 u6 V6 F6 N6 a6 c6
    dsimp only at V6 F6
    k_dflt (refine' seq_v (α := Str × Tok) (fun m a y => if y = Str.ofString "text" then some (.str a.1 a.2) else m y) (fun a => TX a.1 48) 2 ?F ?N ?sa6 ?sb6; (case F => k_asm); (case N => k_asm))
    case sa6 =>
      k_steps
      all_goals first
        | exact midV ⟨_, _⟩ (by k_asm) (by walk_at "mine mid") (TX.mono (by with_reducible assumption) (by decide +kernel)) (by omega) (by omega) (fun _ => rfl)
    rintro ⟨f7, t7⟩ h7 tk7 r7 u7 V7 F7 N7 a7 c7
    dsimp only at V7 F7
    k_dflt (refine' seq_v (α := Str × Tok) (fun m a y => if y = Str.ofString "text" then some (.str a.1 a.2) else m y) (fun a => TX a.1 48) 1 ?F ?N ?sa7 ?sb7; (case F => k_asm); (case N => k_asm))
    case sa7 =>
      k_steps
      all_goals first
        | exact midV ⟨_, _⟩ (by k_asm) (by walk_at "mine mid") (TX.mono (by with_reducible assumption) (by decide +kernel)) (by omega) (by omega) (fun _ => rfl)
    rintro ⟨f8, t8⟩ h8 tk8 r8 u8 V8 F8 N8 a8 c8
    dsimp only at V8 F8
    k_dflt (refine' seq_v (α := Str × Tok × Option Value) (fun m a y => if y = Str.ofString "text" then some (.str a.1 a.2.1) else if y = Str.ofString "at" then a.2.2 else m y) (fun a => TX a.1 100) 4 ?F ?N ?sa8 ?sb8; (case F => k_asm); (case N => k_asm))
    case sa8 =>
      k_steps
      all_goals first
        | exact midV ⟨_, _, _⟩ (by k_asm) (by walk_at "mine mid") (TX.mono (by with_reducible assumption) (by decide +kernel)) (by omega) (by omega) (fun _ => rfl)
        | exact midV ⟨_, _, _⟩ (by k_asm) (by walk_at "mine mid") (TX.mono V8 (by decide +kernel)) (by omega) (by omega) (same_map2 rfl)
    rintro ⟨f9, t9, v9⟩ h9 tk9 r9 u9 V9 F9 N9 a9 c9
    dsimp only at V9 F9
    k_steps
    dsimp only [Done]
    rename TX _ _ => z9
    exact ret_text hret (by k_asm) (news_tail8 (by k_asm)) (Nat.le_trans z9.1 (by decide +kernel)) z9.2 (by omega) (by omega)
-- M2
theorem lines_M2 : True := by
  k_with_none
  w_top off
  k_with "mine sides" => (
        (case k1 => first | k_asm | fail "mine: the frames below")
        (case k2 => first | k_asm | fail "mine: the frame")
        (case k3 => first | k_asm | fail "mine: the written part")
        (case k4 => first | k_asm | fail "mine: the ledger")
        (case k5 => first | k_asm | fail "mine: the top's facts")
        (case kK => first | exact rfl | assumption | fail "mine: the caller is no def")
        (case kd => first | ktr_room | fail "mine: the frames' room")
        (case ku => first | ktr_units | fail "mine: the C units"))
  k_with "mine one" => first | assumption | exact slice_one_len (by walk_at "mine num") | omega
  k_with "mine num" => first | assumption | decide | omega
  k_with "call ref" => (k_here; (with_reducible show wpAny _ _ (call (Value.ref 88) _) _ _ _); k_dflt (refine' use_spec (spec_small_letter _ _ _ _ ?kp) ?k1 ?k2 ?k3 ?k4 ?k5 ?kK ?kd ?ku ?_); (case kp => walk_at "mine one"); walk_at "mine sides"; intro v9 n9 h9 tk9 ok9 F9 N9; (obtain ⟨e9, t9, e9'⟩ := ok9); subst e9; subst e9'; (try dsimp only); (try k_fold))
  k_with "mine tup" => (intro v9 n9 h9 tk9 ok9 F9 N9; (obtain ⟨⟨D9, t9, u9, c9, e9, e9', l9⟩, f9⟩ := ok9); subst e9; subst e9'; (try k_lt l9); (obtain ⟨f7, f8, f9⟩ := f9); (try dsimp only); (try k_fold))
  k_with "call ref" => (k_here; (with_reducible show wpAny _ _ (call (Value.ref 95) _) _ _ _); k_dflt (refine' use_spec (spec_fig _ _ _ _ _ _ _ _ ?p1 ?p2 ?p3 ?p4 ?p5) ?k1 ?k2 ?k3 ?k4 ?k5 ?kK ?kd ?ku ?_); (case p1 => assumption); (case p2 => walk_at "mine num"); (case p3 => walk_at "mine num"); (case p4 => walk_at "mine num"); (case p5 => walk_at "mine num"); walk_at "mine sides"; walk_at "mine tup")
  k_with "mine l" => first | assumption | exact lt1 (by assumption) | exact lt2 (by assumption) | exact lt3 (by assumption) | exact lt4 (by assumption)
  k_with "mine sub" => first | exact sub0 _ | exact sub1 (sub0 _) | exact sub1 (sub1 (sub0 _)) | exact sub1 (sub1 (sub1 (sub0 _))) | exact sub1 (sub1 (sub1 (sub1 (sub0 _))))
  k_with "call ref" => (k_here; (with_reducible show wpAny _ _ (call (Value.ref 102) _) _ _ _); k_dflt (refine' use_spec (spec_exp _ _ _ _ _ _ ?p1 ?p2 ?p3) ?k1 ?k2 ?k3 ?k4 ?k5 ?kK ?kd ?ku ?_); (case p1 => assumption); (case p2 => walk_at "mine num"); (case p3 => walk_at "mine num"); walk_at "mine sides"; walk_at "mine tup")
  k_with "binaryOp Mult int int" => refine mul_int ?_ (lit_mul (by with_reducible assumption) (by first | decide | with_reducible assumption) (by first | decide | with_reducible assumption) (by first | with_reducible assumption | exact Int.not_lt.mp (by with_reducible assumption)))
  k_with "mine sub" => first | exact sub0 _ | exact sub1 (sub0 _) | exact sub1 (sub1 (sub0 _)) | exact sub1 (sub1 (sub1 (sub0 _))) | exact sub1 (sub1 (sub1 (sub1 (sub0 _))))
  k_with "subscriptTail Name Constant str int" => (refine item_str (by decide) (item0_lo _) (first_in (by with_reducible assumption) (by decide +kernel)) ?_; intro _)
  k_with "call builtin:str.strip" => (k_here; (with_reducible show wpAny _ _ (call (Value.builtin "str.strip") [Value.str _ _, Value.str _ _]) _ _ _); k_dflt (refine strip_gen (by with_reducible assumption) ?_); intro y9 t9 k9 e9 g9 l9)
  k_with "call builtin:str.lower" => (k_here; (with_reducible show wpAny _ _ (call (Value.builtin "str.lower") [Value.str _ _]) _ _ _); k_dflt (refine lower_gen (by with_reducible assumption) ?_); intro y9 t9 k9 e9 g9 l9)
  k_with "call builtin:str.partition" => (k_here; (with_reducible show wpAny _ _ (call (Value.builtin "str.partition") [Value.str _ _, Value.str _ _]) _ _ _); k_dflt (refine part_gen (by with_reducible assumption) (by k_asm) (by k_asm) (by decide +kernel) ?_); intro a9 b9 c9 D9 ta9 tb9 tc9 h9 k9 e9 ga9 la9 gc9 lc9 lb9 F9 N9 l9; (try k_lt l9))
  k_with "subscriptTail Name Constant str int" => (refine item_str (by decide) (item0_lo _) (first_in (by with_reducible assumption) (by decide +kernel)) ?_; intro _)
  k_with "mine good" => first | with_reducible assumption | exact good_slice (by with_reducible assumption) _ _ | exact good_slice (good_slice (by with_reducible assumption) _ _) _ _
  k_with "call ref" => (k_here; (with_reducible show wpAny _ _ (call (Value.ref 195) _) _ _ _); k_dflt (refine' use_spec (spec_worthB _ _ _ _ _ _ ?p1 ?p2 ?p3) ?k1 ?k2 ?k3 ?k4 ?k5 ?kK ?kd ?ku ?_); (case p1 => walk_at "mine good"); (case p2 => walk_at "mine num"); (case p3 => walk_at "mine num"); walk_at "mine sides"; intro v9 n9 h9 tk9 ok9 F9 N9; (rcases retO_cases2 ok9.1 ok9.2 with ⟨e9, q9, r9⟩ | ⟨k9, t9, e9, q9, r9, f7, f8⟩); all_goals (clear ok9; subst e9; subst r9; (try dsimp only); (try k_fold)))
  trivial
theorem spec_literal (w : World) (x : Str) (t : Tok) (news : List (Addr × Obj)) (hg : Good x) :
   Spec w 202 [.str x t] news 3 (RetO (literalF x) news) := by
  unfold Spec
  k_fill
  intros
  rename_i hret
  refine done_in ?_
  refine wpAny_call ?_
  k_dflt cell_enter
  k_steps
  all_goals (try dsimp only [Done])
  all_goals first
    | (refine ret_none hret (by k_asm) (by k_asm) (by walk_at "mine sub") ?_)
    | (refine ret_some hret (by k_asm) (by k_asm) (by walk_at "mine sub") ?_)
  all_goals with_reducible first
    | (refine litF_plain (by assumption) (by assumption) ?_; first
      | exact tail_none (by assumption)
      | exact tail_plain (by assumption) (by assumption)
      | exact tail_p0 (by assumption) (by assumption) (by assumption) (by assumption)
      | exact tail_n0 (by assumption) (by assumption) (by assumption) (by assumption)
      | exact tail_p1 (by assumption) (by assumption) (by assumption) (by assumption) (by assumption)
      | exact tail_n1 (by assumption) (by assumption) (by assumption) (by assumption) (by assumption)
      | exact tail_p2 (by assumption) (by assumption) (by assumption) (by assumption) (by assumption)
      | exact tail_n2 (by assumption) (by assumption) (by assumption) (by assumption) (by assumption))
    | exact litF_head (by assumption) (by assumption) (by assumption)
    | exact litF_bad (by assumption) (by assumption) (by assumption) (by assumption) (.inl (by assumption))
    | exact litF_bad (by assumption) (by assumption) (by assumption) (by assumption) (.inr (.inl (by assumption)))
    | exact litF_bad (by assumption) (by assumption) (by assumption) (by assumption) (.inr (.inr (.inl (by assumption))))
    | exact litF_bad (by assumption) (by assumption) (by assumption) (by assumption) (.inr (.inr (.inr ⟨by assumption, by assumption⟩)))
    | ((first | (refine litF_ok (by assumption) (by assumption) (by assumption) (by assumption) (by assumption) (by assumption) (by assumption) (.inl (by assumption)) ?_) | (refine litF_ok (by assumption) (by assumption) (by assumption) (by assumption) (by assumption) (by assumption) (by assumption) (.inr (by assumption)) ?_)); first
      | exact tail_none (by assumption)
      | exact tail_plain (by assumption) (by assumption)
      | exact tail_p0 (by assumption) (by assumption) (by assumption) (by assumption)
      | exact tail_n0 (by assumption) (by assumption) (by assumption) (by assumption)
      | exact tail_p1 (by assumption) (by assumption) (by assumption) (by assumption) (by assumption)
      | exact tail_n1 (by assumption) (by assumption) (by assumption) (by assumption) (by assumption)
      | exact tail_p2 (by assumption) (by assumption) (by assumption) (by assumption) (by assumption)
      | exact tail_n2 (by assumption) (by assumption) (by assumption) (by assumption) (by assumption))
-- B13
theorem text9_tx {x : Str} {k : Nat} (h : Text9 x k) : TX x k := h
theorem ret_dueN {r d : Option Int} {news n : List (Addr × Obj)} {v : Value} (h : RetO r news v n) (e : r = d) (e' : d = none) : ∃ _ : Tok, news = n ∧ v = .none :=
  ⟨0, (ret_due h e).1 e'⟩
theorem ret_dueS {r d : Option Int} {k : Int} {news n : List (Addr × Obj)} {v : Value} (h : RetO r news v n) (e : r = d) (e' : d = some k) : ∃ t : Tok, news = n ∧ v = .int k t := by
  obtain ⟨q, t, q'⟩ := (ret_due h e).2 _ e'
  exact ⟨t, q, q'⟩
theorem ne_absurd {P : Prop} {k : Int} (h : k ≠ k) : P := absurd rfl h
theorem due_none {x : Str} {H : Int} (h : literalF (signedF x).2 = none) : OV (dueInt x H) .none := by
  unfold dueInt; rw [h]; exact .inl ⟨rfl, rfl⟩
theorem due_in {x : Str} {H k : Int} {t : Tok} (h : literalF (signedF x).2 = some k) (a1 : 0 - H ≤ (signedF x).1 * k) (a2 : (signedF x).1 * k < H) : OV (dueInt x H) (.int ((signedF x).1 * k) t) := by
  unfold dueInt; rw [h]
  dsimp only
  rw [if_pos ⟨a1, a2⟩]; exact .inr ⟨_, _, rfl, rfl⟩
theorem due_lo {x : Str} {H k : Int} (h : literalF (signedF x).2 = some k) (a1 : ¬ 0 - H ≤ (signedF x).1 * k) : OV (dueInt x H) .none := by
  unfold dueInt; rw [h]
  dsimp only
  rw [if_neg (fun q => a1 q.1)]; exact .inl ⟨rfl, rfl⟩
theorem due_hi {x : Str} {H k : Int} (h : literalF (signedF x).2 = some k) (a1 : ¬ (signedF x).1 * k < H) : OV (dueInt x H) .none := by
  unfold dueInt; rw [h]
  dsimp only
  rw [if_neg (fun q => a1 q.2)]; exact .inl ⟨rfl, rfl⟩
theorem news_rot5 {h₀ h : Heap} {L : Addr} {a b c d e p q : Addr × Obj} {l : List (Addr × Obj)} (N : News h₀ L h (a :: b :: c :: d :: e :: p :: q :: l)) : News h₀ L h (p :: q :: a :: b :: c :: d :: e :: l) := fun x hx => N x (by
  simp only [List.mem_cons] at hx ⊢
  rcases hx with hx | hx | hx | hx | hx | hx | hx | hx <;> simp only [hx, true_or, or_true])
theorem ne_more5 {P D1 D2 D3 D4 l5 : Addr} {o1 o2 o3 o4 o5 : Obj} {s : Addr × Obj} {l : List (Addr × Obj)} {R1 R2 R3 R4 R5 : Prop} (hn : ∀ p ∈ s :: l, p.1 ≠ P)
    (h1 : P < D1 ∧ R1) (h2 : D1 < D2 ∧ R2) (h3 : D2 < D3 ∧ R3) (h4 : D3 < D4 ∧ R4) (h5 : D4 < l5 ∧ R5) :
    ∀ p ∈ s :: (l5, o5) :: (D4, o4) :: (D3, o3) :: (D2, o2) :: (D1, o1) :: l, p.1 ≠ P := by
  have p2 := Nat.lt_trans h1.1 h2.1
  have p3 := Nat.lt_trans p2 h3.1
  have p4 := Nat.lt_trans p3 h4.1
  have p5 := Nat.lt_trans p4 h5.1
  exact ne_more (ne_more (ne_more (ne_more (ne_more hn (Nat.ne_of_gt h1.1)) (Nat.ne_of_gt p2)) (Nat.ne_of_gt p3)) (Nat.ne_of_gt p4)) (Nat.ne_of_gt p5)
section
variable {prog : Program} {w : World} {A : Around} {E : Value → Shared → Prop} {s : Shared} {Q : Value → Shared → Prop}
theorem item_small {value slice : PySem.Expr} {g : Heap} {L l P D1 D2 D3 D4 : Addr} {n c1 c2 c3 c4 : Nat} {v1 v2 v3 v4 w1 w2 w3 w4 : Tok} {pp ss : Addr × Obj} {rest : List (Addr × Obj)} {q : Int} {u : Tok} {R1 R2 R3 R4 : Prop}
    (N : News g L s.heap (pp :: ss :: (l, listOf #[.ref D1, .ref D2, .ref D3, .ref D4] n) :: (D4, T2o 5 v4 2 w4 c4) :: (D3, T2o 1 v3 3 w3 c3) :: (D2, T2o 1 v2 10 w2 c2) :: (D1, T2o 1 v1 1 w1 c1) :: rest))
    (h1 : P < D1 ∧ R1) (h2 : D1 < D2 ∧ R2) (h3 : D2 < D3 ∧ R3) (h4 : D3 < D4 ∧ R4) (h0 : 0 ≤ q) (hq : q < 4)
    (h : ∀ D a b t t' c, News g L s.heap [pp, ss, (D, T2o a t b t' c)] → P < D → (0 < a ∧ a ≤ 10 ∧ 0 < b ∧ b ≤ 10) → Q (.ref D) s) (hsub : subscripted slice false (.ref l) (.int q u) = operate [.ref l, .int q u] (getItem (.ref l) (.int q u)) := by with_unfolding_all rfl) :
    wpAny (model prog w) A (subscriptTail value slice (.ref l) (.int q u)) Q E s := by
  have p2 := Nat.lt_trans h1.1 h2.1
  have p3 := Nat.lt_trans p2 h3.1
  have p4 := Nat.lt_trans p3 h4.1
  have hl : s.heap.IsList l #[.ref D1, .ref D2, .ref D3, .ref D4] := News.isList N (.tail _ (.tail _ (.head _)))
  have three : ∀ r, r ∈ (pp :: ss :: (l, listOf #[.ref D1, .ref D2, .ref D3, .ref D4] n) :: (D4, T2o 5 v4 2 w4 c4) :: (D3, T2o 1 v3 3 w3 c3) :: (D2, T2o 1 v2 10 w2 c2) :: (D1, T2o 1 v1 1 w1 c1) :: rest) → News g L s.heap [pp, ss, r] := fun r hr => news_sub N fun z hz => by
    rcases List.mem_cons.mp hz with rfl | hz
    · exact List.mem_cons_self
    · rcases List.mem_cons.mp hz with rfl | hz
      · exact List.mem_cons_of_mem _ List.mem_cons_self
      · rw [List.mem_singleton.mp hz]; exact hr
  have hc : q = 0 ∨ q = 1 ∨ q = 2 ∨ q = 3 := by omega
  rcases hc with rfl | rfl | rfl | rfl
  · exact tail_any hl.typeIs slot_list_getitem.lookup (wpAny_getItem_list hl (by decide) (by decide) rfl (h D1 1 1 v1 w1 c1 (three _ (.tail _ (.tail _ (.tail _ (.tail _ (.tail _ (.tail _ (.head _)))))))) h1.1 (by decide))) hsub
  · exact tail_any hl.typeIs slot_list_getitem.lookup (wpAny_getItem_list hl (by decide) (by decide) rfl (h D2 1 10 v2 w2 c2 (three _ (.tail _ (.tail _ (.tail _ (.tail _ (.tail _ (.head _))))))) p2 (by decide))) hsub
  · exact tail_any hl.typeIs slot_list_getitem.lookup (wpAny_getItem_list hl (by decide) (by decide) rfl (h D3 1 3 v3 w3 c3 (three _ (.tail _ (.tail _ (.tail _ (.tail _ (.head _)))))) p3 (by decide))) hsub
  · exact tail_any hl.typeIs slot_list_getitem.lookup (wpAny_getItem_list hl (by decide) (by decide) rfl (h D4 5 2 v4 w4 c4 (three _ (.tail _ (.tail _ (.tail _ (.head _))))) p4 (by decide))) hsub
end
/-- the law's fifth step: the fixed type's small -/
def SmallMid (g : Heap) (L : Addr) (m : Str → Option Value) (P S : Addr) (o : Obj) (r : Int) (s s' : Shared) : Prop :=
  ∃ D a b ta tb c u h' tk, s' = { s with heap := h', toks := tk } ∧ (P < D ∧ 0 < a ∧ a ≤ 10 ∧ 0 < b ∧ b ≤ 10) ∧ Fr g L h' (fun y => if y = Str.ofString "small" then some (.ref D) else m y) ∧ News g L h' [(P, penO S r u 0), (S, o), (D, T2o a ta b tb c)]
theorem seq_small {prog : Program} {w : World} {A : Around} {env : Env} {st : Stmt} {body : List Stmt} {s : Shared} {E : Value → Shared → Prop} {Q : Flow → Shared → Prop} {g : Heap} {L : Addr} {m : Str → Option Value} (P S : Addr) (o : Obj) (r : Int)
    (_F : Fr g L s.heap m)
    (h1 : wpAny (model prog w) A (exec st env) (fun fl s' => StEnd Q (SmallMid g L m P S o r s) fl s') E s)
    (h2 : ∀ D a b ta tb c u h' tk, P < D → 0 < a → a ≤ 10 → 0 < b → b ≤ 10 → Fr g L h' (fun y => if y = Str.ofString "small" then some (.ref D) else m y) → News g L h' [(P, penO S r u 0), (S, o), (D, T2o a ta b tb c)] → wpAny (model prog w) A (execs body env) Q E { s with heap := h', toks := tk }) :
    wpAny (model prog w) A (execs (st :: body) env) Q E s :=
  seq_cut _ h1 fun s' hM => by obtain ⟨D, a, b, ta, tb, c, u, h', tk, e, ⟨l, a0, a1, b0, b1⟩, F', N'⟩ := hM; subst e; exact h2 D a b ta tb c u h' tk l a0 a1 b0 b1 F' N'
theorem small_end {g : Heap} {L : Addr} {m m₁ : Str → Option Value} {P S D : Addr} {o : Obj} {r a b : Int} {ta tb u : Tok} {c : Nat} {s : Shared} {h' : Heap} {tk : Nat} {Q : Flow → Shared → Prop}
    (F : Fr g L h' m₁) (N : News g L h' [(P, penO S r u 0), (S, o), (D, T2o a ta b tb c)]) (e : ∀ y, m₁ y = if y = Str.ofString "small" then some (.ref D) else m y) (l : P < D) (q : 0 < a ∧ a ≤ 10 ∧ 0 < b ∧ b ≤ 10) : StEnd Q (SmallMid g L m P S o r s) .next { s with heap := h', toks := tk } :=
  ⟨D, a, b, ta, tb, c, u, h', tk, rfl, ⟨l, q⟩, fr_map F e, N⟩
-- B14
def swp (c : Nat) : Nat := if c = 35 then 46 else c
theorem swp_lt {c : Nat} (h : c < 128) : swp c < 128 := by unfold swp; split <;> omega
theorem swp_free : ∀ {l : List Nat}, 35 ∉ l → l.map swp = l
  | [], _ => rfl
  | c :: r, h => by
    rw [List.map_cons, swp_free fun q => h (.tail _ q)]
    have : c ≠ 35 := fun q => h (q ▸ .head _)
    unfold swp; rw [if_neg this]
theorem join_swp : ∀ ps : List Str, (∀ p ∈ ps, 35 ∉ p.cps.toList) → (Str.join ⟨#[46]⟩ ps).cps.toList = (Str.join ⟨#[35]⟩ ps).cps.toList.map swp
  | [], _ => rfl
  | [a], h => (swp_free (h a (.head _))).symm
  | a :: b :: r, h => by
    show (a ++ ⟨#[46]⟩ ++ Str.join ⟨#[46]⟩ (b :: r)).cps.toList = (a ++ ⟨#[35]⟩ ++ Str.join ⟨#[35]⟩ (b :: r)).cps.toList.map swp
    simp only [Str.cps_append, Array.toList_append, List.map_append]
    rw [join_swp (b :: r) fun p hp => h p (.tail _ hp), swp_free (h a (.head _))]
    rfl
theorem tx_dots {x : Str} {k : Nat} (h : TX x k) : TX (Txt.replace x (Str.ofString "#") (Str.ofString ".")) k := by
  have e : (Txt.replace x (Str.ofString "#") (Str.ofString ".")).cps.toList = x.cps.toList.map swp := by
    rw [show Str.ofString "#" = ⟨#[35]⟩ from by decide +kernel, show Str.ofString "." = ⟨#[46]⟩ from by decide +kernel, PySem.StrLaws.replace_one, join_swp _ (PySem.StrLaws.split_free x 35), PySem.StrLaws.join_split]
  refine ⟨?_, fun c hc => ?_⟩
  · have := congrArg List.length e
    rw [List.length_map] at this
    have e1 : ∀ y : Str, y.length = y.cps.toList.length := fun y => by simp [Str.length]
    rw [e1, this, ← e1]; exact h.1
  · rw [e] at hc
    obtain ⟨d, hd, rfl⟩ := List.mem_map.mp hc
    exact swp_lt (h.2 d hd)
section
variable {prog : Program} {w : World} {A : Around} {E : Value → Shared → Prop} {s : Shared} {x y z : Str} {t u v : Tok} {a : Nat} {Q : Value → Shared → Prop}
theorem dots_tx (hu : 0 < u) (hv : u < v) (h1 : TX x a) (ha : a ≤ 1000) (h : ∀ z t' k, TX z a → Q (.str z t') { s with toks := k }) :
    wpAny (model prog w) A (call (.builtin "str.replace") [.str x t, .str (Str.ofString "#") u, .str (Str.ofString ".") v]) Q E s :=
  SC.replaceW (Nat.ne_of_gt hu) (Nat.ne_of_gt (Nat.lt_trans hu hv)) (Nat.ne_of_lt hv) (by decide +kernel) (by have := h1.1; omega) (by decide +kernel) fun _ _ => h _ _ _ (tx_dots h1)
end
/-- what is known of a fixed text's pair, hidden from the walk -/
@[irreducible] def FB (n d : Int) : Prop := 0 < d ∧ Builtin.Int.intBits d ≤ 1601 ∧ Builtin.Int.intBits n ≤ 4000
theorem FB.out {n d : Int} (h : FB n d) : 0 < d ∧ Builtin.Int.intBits d ≤ 1601 ∧ Builtin.Int.intBits n ≤ 4000 := by unfold FB at h; exact h
theorem FB.of {n d : Int} (h : 0 < d ∧ Builtin.Int.intBits d ≤ 1601 ∧ Builtin.Int.intBits n ≤ 4000) : FB n d := by unfold FB; exact h
theorem retOT_cases {x : Str} {news m : List (Addr × Obj)} {v : Value} (hg : Good x) (h : RetOT (fixedF x) news v m) :
    (fixedF x = none ∧ v = .none ∧ news = m) ∨ ∃ n d D t1 t2 c, fixedF x = some (n, d) ∧ FB n d ∧ v = .ref D ∧ (D, T2o n t1 d t2 c) :: news = m ∧ ∀ p ∈ news, p.1 < D := by
  unfold RetOT at h
  cases hf : fixedF x with
  | none => rw [hf] at h; exact .inl ⟨rfl, h.1, h.2⟩
  | some p =>
    rw [hf] at h
    obtain ⟨D, t1, t2, c, e, e', l⟩ := h
    exact .inr ⟨p.1, p.2, D, t1, t2, c, rfl, .of (fixed_bits hg hf), e, e', l⟩
section
variable {n d a b : Int}
theorem top_ok (b0 : 0 < b) (b1 : b ≤ 10) (x : Int) : IntMulOk x b := small_mul b0 b1
theorem bot_pos (h : FB n d) (a0 : 0 < a) : d * a ≠ 0 := Int.ne_of_gt (Int.mul_pos h.out.1 a0)
theorem bot_bits (h : FB n d) (a0 : 0 < a) (a1 : a ≤ 10) : Builtin.Int.intBits (d * a) ≤ 1605 := intBits_mul_le h.out.2.1 (PyProof.Rows.intBits_le (k := 4) (by omega))
theorem bot_room (h : FB n d) (a0 : 0 < a) (a1 : a ≤ 10) (x : Int) : Builtin.divisionGoesByPylong x (d * a) = false := by
  refine PyProof.noPylong_of_log2 ?_
  have h1 := intBits_le_iff.mp (bot_bits h a0 a1)
  have h0 := Int.mul_pos h.out.1 a0
  exact Nat.lt_of_lt_of_le ((Nat.log2_lt (by omega)).mpr h1) (by decide)
theorem abs_bits (h : FB n d) : Builtin.Int.intBits (if n < 0 then -n else n) ≤ 4000 := by
  split
  · exact intBits_neg_le h.out.2.2
  · exact h.out.2.2
theorem quo_bits (h : FB n d) (a0 : 0 < a) (b0 : 0 < b) (b1 : b ≤ 10) : Builtin.Int.intBits (Int.fdiv ((if n < 0 then -n else n) * b) (d * a)) ≤ 4004 := by
  have h1 := intBits_mul_le (abs_bits h) (PyProof.Rows.intBits_le (k := 4) (a := b) (by omega))
  have h0 := Int.mul_pos h.out.1 a0
  have hT : 0 ≤ (if n < 0 then -n else n) * b := Int.mul_nonneg (by split <;> omega) (by omega)
  generalize (if n < 0 then -n else n) * b = T at *
  generalize d * a = D at *
  rw [Int.fdiv_eq_ediv_of_nonneg _ (by omega)]
  have h3 := Int.ediv_nonneg hT (show 0 ≤ D by omega)
  have h4 := Int.ediv_le_self D hT
  have h5 : (T / D).natAbs ≤ T.natAbs := by omega
  exact intBits_le_iff.mpr (Nat.lt_of_le_of_lt h5 (intBits_le_iff.mp h1))
theorem qd_ok (h : FB n d) (a0 : 0 < a) (a1 : a ≤ 10) (b0 : 0 < b) (b1 : b ≤ 10) : IntMulOk (Int.fdiv ((if n < 0 then -n else n) * b) (d * a)) (d * a) :=
  mulOk_of_bits (quo_bits h a0 b0 b1) (bot_bits h a0 a1) (by decide)
theorem qd1_ok (h : FB n d) (a0 : 0 < a) (a1 : a ≤ 10) (b0 : 0 < b) (b1 : b ≤ 10) : IntMulOk (Int.fdiv ((if n < 0 then -n else n) * b) (d * a) + 1) (d * a) :=
  mulOk_of_bits (intBits_add_le (quo_bits h a0 b0 b1) (PyProof.Rows.intBits_le (k := 4) (a := 1) (by decide))) (bot_bits h a0 a1) (by decide)
theorem eS1 (c : (Int.fdiv ((if n < 0 then -n else n) * b) (d * a) + 1) * (d * a) - (if n < 0 then -n else n) * b ≤ (if n < 0 then -n else n) * b - Int.fdiv ((if n < 0 then -n else n) * b) (d * a) * (d * a)) (s : n < 0) :
    0 - (Int.fdiv ((if n < 0 then -n else n) * b) (d * a) + 1) = dueS n d a b := by
  have e : dueR n d a b = _ := if_pos c
  have e2 : dueS n d a b = 0 - dueR n d a b := if_pos s
  rw [e2, e]; rfl
theorem eS2 (c : (Int.fdiv ((if n < 0 then -n else n) * b) (d * a) + 1) * (d * a) - (if n < 0 then -n else n) * b ≤ (if n < 0 then -n else n) * b - Int.fdiv ((if n < 0 then -n else n) * b) (d * a) * (d * a)) (s : ¬ n < 0) :
    Int.fdiv ((if n < 0 then -n else n) * b) (d * a) + 1 = dueS n d a b := by
  have e : dueR n d a b = _ := if_pos c
  have e2 : dueS n d a b = dueR n d a b := if_neg s
  rw [e2, e]; rfl
theorem eS3 (c : ¬ (Int.fdiv ((if n < 0 then -n else n) * b) (d * a) + 1) * (d * a) - (if n < 0 then -n else n) * b ≤ (if n < 0 then -n else n) * b - Int.fdiv ((if n < 0 then -n else n) * b) (d * a) * (d * a)) (s : n < 0) :
    0 - Int.fdiv ((if n < 0 then -n else n) * b) (d * a) = dueS n d a b := by
  have e : dueR n d a b = _ := if_neg c
  have e2 : dueS n d a b = 0 - dueR n d a b := if_pos s
  rw [e2, e]; rfl
theorem eS4 (c : ¬ (Int.fdiv ((if n < 0 then -n else n) * b) (d * a) + 1) * (d * a) - (if n < 0 then -n else n) * b ≤ (if n < 0 then -n else n) * b - Int.fdiv ((if n < 0 then -n else n) * b) (d * a) * (d * a)) (s : ¬ n < 0) :
    Int.fdiv ((if n < 0 then -n else n) * b) (d * a) = dueS n d a b := by
  have e : dueR n d a b = _ := if_neg c
  have e2 : dueS n d a b = dueR n d a b := if_neg s
  rw [e2, e]; rfl
variable {x : Str} {H k : Int} {t : Tok}
theorem fdue_none (h : fixedF x = none) : OV (dueFix (fixedF x) a b H) .none := by rw [h]; exact .inl ⟨rfl, rfl⟩
theorem fdue_in (h : fixedF x = some (n, d)) (e : k = dueS n d a b) (lo : 0 - H ≤ k) (hi : k ≤ H) : OV (dueFix (fixedF x) a b H) (.int k t) := by
  rw [h]; subst e
  unfold dueFix
  dsimp only
  rw [if_pos ⟨lo, hi⟩]; exact .inr ⟨_, _, rfl, rfl⟩
theorem fdue_lo (h : fixedF x = some (n, d)) (e : k = dueS n d a b) (lo : ¬ 0 - H ≤ k) : OV (dueFix (fixedF x) a b H) .none := by
  rw [h]; subst e
  unfold dueFix
  dsimp only
  rw [if_neg fun q => lo q.1]; exact .inl ⟨rfl, rfl⟩
theorem fdue_hi (h : fixedF x = some (n, d)) (e : k = dueS n d a b) (hi : ¬ k ≤ H) : OV (dueFix (fixedF x) a b H) .none := by
  rw [h]; subst e
  unfold dueFix
  dsimp only
  rw [if_neg fun q => hi q.2]; exact .inl ⟨rfl, rfl⟩
end
/-- the map at the end of the three statements -/
theorem map_rest {m₁ m : Str → Option Value} {x : Str} {v : Value} {stored : List Str} (hx : m₁ x = some v) (h : ∀ y, y ≠ x → stored.contains y = false → m₁ y = m y) : ∀ y, m₁ y = if y = x then some v else if stored.contains y then m₁ y else m y := fun y => by
  by_cases h1 : y = x
  · rw [if_pos h1, h1, hx]
  · rw [if_neg h1]
    cases h2 : stored.contains y with
    | true => rfl
    | false => rw [if_neg (by decide)]; exact h y h1 h2
/-- a cut that keeps as well that the count of tokens is not 0 -/
def MidGp {α : Type} (g : Heap) (L : Addr) (mapf : α → Str → Option Value) (nf : α → List (Addr × Obj)) (V : α → Prop) (s s' : Shared) : Prop :=
  ∃ a h' tk, s' = { s with heap := h', toks := tk } ∧ V a ∧ Fr g L h' (mapf a) ∧ News g L h' (nf a) ∧ 0 < tk
theorem seq_gp {prog : Program} {w : World} {A : Around} {env : Env} {st : Stmt} {body : List Stmt} {s : Shared} {E : Value → Shared → Prop} {Q : Flow → Shared → Prop} {g : Heap} {L : Addr} {m : Str → Option Value} {α : Type}
    (mapf : (Str → Option Value) → α → Str → Option Value) (nf : α → List (Addr × Obj)) (V : α → Prop) (_F : Fr g L s.heap m)
    (h1 : wpAny (model prog w) A (exec st env) (fun fl s' => StEnd Q (MidGp g L (mapf m) nf V s) fl s') E s)
    (h2 : ∀ a h' tk, V a → Fr g L h' (mapf m a) → News g L h' (nf a) → 0 < tk → wpAny (model prog w) A (execs body env) Q E { s with heap := h', toks := tk }) :
    wpAny (model prog w) A (execs (st :: body) env) Q E s :=
  seq_cut _ h1 fun s' hM => by obtain ⟨a, h', tk, e, hV, F', N', p⟩ := hM; subst e; exact h2 a h' tk hV F' N' p
theorem midGp {α : Type} {g : Heap} {L : Addr} {m : α → Str → Option Value} {nf : α → List (Addr × Obj)} {V : α → Prop} {m₁ : Str → Option Value} {s : Shared} {h' : Heap} {tk : Nat} {Q : Flow → Shared → Prop}
    (a : α) (F : Fr g L h' m₁) (N : News g L h' (nf a)) (e : ∀ y, m₁ y = m a y) (hV : V a) (p : 0 < tk) : StEnd Q (MidGp g L m nf V s) .next { s with heap := h', toks := tk } :=
  ⟨a, h', tk, rfl, hV, fr_map F e, N, p⟩
theorem news_spots {h₀ h : Heap} {L : Addr} {a p q b c d : Addr × Obj} {l : List (Addr × Obj)} (N : News h₀ L h (a :: p :: q :: b :: c :: d :: l)) : News h₀ L h [a, b, c, d] := fun x hx => N x (by
  simp only [List.mem_cons, List.not_mem_nil, or_false] at hx ⊢
  rcases hx with hx | hx | hx | hx <;> simp only [hx, true_or, or_true])
theorem good_three {x y z : Str} (h1 : Good x) (h2 : Good y) (h3 : Good z) : ∀ q ∈ [x, y, z], Good q := fun q hq => by
  simp only [List.mem_cons, List.not_mem_nil, or_false] at hq
  rcases hq with rfl | rfl | rfl
  · exact h1
  · exact h2
  · exact h3
/-- a goal that the walk leaves alone -/
def Hold (p : Prop) : Prop := p
theorem hold_out {p : Prop} (h : Hold p) : p := h
theorem hold_in {p : Prop} (h : p) : Hold p := h
theorem news_as {g h₁ h : Heap} {L L' : Addr} {l₁ l : List (Addr × Obj)} (_ : News g L h₁ l₁) (N : News g L' h l) (e : L' = L) : News g L h l := e ▸ N
theorem fr_as {g h₁ h : Heap} {L L' : Addr} {m₁ m : Str → Option Value} (_ : Fr g L h₁ m₁) (F : Fr g L' h m) (e : L' = L) : Fr g L h m := e ▸ F
theorem midR {g : Heap} {L : Addr} {x : Str} {stored : List Str} {m₁ m : Str → Option Value} {W : Value → Prop} {nf : List (Addr × Obj)} {s : Shared} {h' : Heap} {tk : Nat} {Q : Flow → Shared → Prop} (v : Value)
    (F : Fr g L h' m₁) (N : News g L h' nf) (hx : m₁ x = some v) (h : ∀ y, y ≠ x → stored.contains y = false → m₁ y = m y) (hV : W v) :
    StEnd Q (MidG g L (fun (z : Value × (Str → Option Value)) y => if y = x then some z.1 else if stored.contains y then z.2 y else m y) (fun _ => nf) (fun z => W z.1) s) .next { s with heap := h', toks := tk } :=
  midG (v, m₁) F N (map_rest hx h) hV
theorem spEnd_at {h₀ : Heap} {L L' : Addr} {x : Str} {stored : List Str} {m₀ m' : Str → Option Value} {need news' : List (Addr × Obj)} {s₁ : Shared} {h' : Heap} {tk : Nat}
    (F : Fr h₀ L h' m') (N : News h₀ L h' news') (e : L' = L) (hn : ∀ p ∈ need, p ∈ news') (hs : ∀ z, z ≠ x → stored.contains z = false → m' z = m₀ z) :
    SpEnd h₀ L' x stored m₀ need s₁ { s₁ with heap := h', toks := tk } := by subst e; exact spEnd_intro F N hn hs
-- T4
theorem lines_T4 : True := by
  k_with_none
  w_top off
  k_with "mine sides" => (
        (case k1 => first | k_asm | fail "mine: the frames below")
        (case k2 => first | k_asm | fail "mine: the frame")
        (case k3 => first | k_asm | fail "mine: the written part")
        (case k4 => first | k_asm | fail "mine: the ledger")
        (case k5 => first | k_asm | fail "mine: the top's facts")
        (case kK => first | exact rfl | assumption | fail "mine: the caller is no def")
        (case kd => first | ktr_room | fail "mine: the frames' room")
        (case ku => first | ktr_units | fail "mine: the C units"))
  k_with "mine one" => first | assumption | exact slice_one_len (by walk_at "mine num") | omega
  k_with "mine num" => first | assumption | decide | omega
  k_with "call ref" => (k_here; (with_reducible show wpAny _ _ (call (Value.ref 88) _) _ _ _); k_dflt (refine' use_spec (spec_small_letter _ _ _ _ ?kp) ?k1 ?k2 ?k3 ?k4 ?k5 ?kK ?kd ?ku ?_); (case kp => walk_at "mine one"); walk_at "mine sides"; intro v9 n9 h9 tk9 ok9 F9 N9; (obtain ⟨e9, t9, e9'⟩ := ok9); subst e9; subst e9'; (try dsimp only); (try k_fold))
  k_with "mine tup" => (intro v9 n9 h9 tk9 ok9 F9 N9; (obtain ⟨⟨D9, t9, u9, c9, e9, e9', l9⟩, f9⟩ := ok9); subst e9; subst e9'; (try k_lt l9); (obtain ⟨f7, f8, f9⟩ := f9); (try dsimp only); (try k_fold))
  k_with "mine l" => first | assumption | exact lt1 (by assumption) | exact lt2 (by assumption) | exact lt3 (by assumption) | exact lt4 (by assumption)
  k_with "mine sub" => first | exact sub0 _ | exact sub1 (sub0 _) | exact sub1 (sub1 (sub0 _)) | exact sub1 (sub1 (sub1 (sub0 _))) | exact sub1 (sub1 (sub1 (sub1 (sub0 _))))
  k_with "mine take" => (intro v9 n9 h9 tk9 ok9 F9 N9; (unfold Took at ok9); (obtain ⟨q9, t9, u9, e9, r9, e9'⟩ := ok9); subst e9; subst e9'; (try dsimp only); (try k_fold))
  k_with "mine sides9" => (
        (case k1 => first | k_asm | fail "mine: the frames below")
        (case k2 => first | k_asm | fail "mine: the frame")
        (case k3 => first | k_asm | fail "mine: the written part")
        (case k5 => first | k_asm | fail "mine: the top's facts")
        (case kK => first | exact rfl | assumption | fail "mine: the caller is no def")
        (case kd => first | ktr_room | fail "mine: the frames' room")
        (case ku => first | ktr_units | fail "mine: the C units"))
  k_with "call ref" => (k_here; (with_reducible show wpAny _ _ (call (Value.ref 176) _) _ _ _); focus (k_dflt (refine' use_spec (spec_take _ _ _ _ _ _ _ _ _ _ _ _ ?p1 ?p2 ?p3 ?p4 ?p5 ?p6 ?p7) ?k1 ?k2 ?k3 ?k4 ?k5 ?kK ?kd ?ku ?_); (case k4 => k_asm); (case p1 => assumption); (case p2 => assumption); (case p3 => omega); (case p4 => omega); (case p5 => first | decide | omega); (case p6 => first | decide | omega); (case p7 => assumption); walk_at "mine sides9"; walk_at "mine take"))
  k_with "CompSrc" => (k_here; k_dflt (refine' LCg.CompSrc.range (by rfl) (by k_asm) (by k_asm) (by assumption) (by first | decide | exact small_one (by decide) (by decide) (by omega) (by omega)) (rangeSize_nat _ _) (by rw [PySem.sizeLine_eq]; omega) ?_); (intro g9); k_dflt (refine' comp_pen _ _ ?_ ?_))
  k_with "call ref" => (k_here; (with_reducible show wpAny _ _ (call (Value.ref 176) _) _ _ _); (with_reducible rename InElt _ _ => ie9); focus (k_dflt (refine' use_spec (spec_take _ _ _ _ _ _ _ _ _ _ _ _ ?p1 ?p2 ?p3 ?p4 ?p5 ?p6 ?p7) ?k1 ?k2 ?k3 ?k4 ?k5 ?kK ?kd ?ku ?_); (case k4 => exact news_rot3 (by k_asm)); (case p1 => assumption); (case p2 => assumption); (case p3 => omega); (case p4 => omega); (case p5 => first | decide | omega); (case p6 => first | decide | omega); (case p7 => exact ne_more3 (by assumption) (by assumption)); walk_at "mine sides9"; walk_at "mine take"))
  k_with "call builtin:str.join" => (k_here; (with_reducible show wpAny _ _ (call (Value.builtin "str.join") [Value.str _ _, Value.ref _]) _ _ _); k_dflt (refine join_pieces (News.isList (by k_asm) (.head _)) (by assumption) (by assumption) (by assumption) (by omega) ?_); intro y9 t9 k9 l9 a9)
  k_with "mine mem" => repeat (first | with_reducible exact List.mem_cons_self | with_reducible refine List.mem_cons_of_mem _ ?_)
  k_with "mine sidesT" => (
        (case k1 => first | k_asm | fail "mine: the frames below")
        (case k2 => first | k_asm | fail "mine: the frame")
        (case k3 => first | k_asm | fail "mine: the written part")
        (case k4 => first | (refine' news_sub ?n1 (sub_two ?n2 ?n3 (sub_all _)); (case n1 => k_asm); (case n2 => walk_at "mine mem"); (case n3 => walk_at "mine mem")) | fail "mine: the ledger")
        (case k5 => first | k_asm | fail "mine: the top's facts")
        (case kK => first | exact rfl | assumption | fail "mine: the caller is no def")
        (case kd => first | ktr_room | fail "mine: the frames' room")
        (case ku => first | ktr_units | fail "mine: the C units"))
  k_with "call ref" => (k_here; (with_reducible show wpAny _ _ (call (Value.ref 161) _) _ _ _); focus (k_dflt (refine' use_spec (spec_int_type _ _ _ _ _ _ _ _) ?k1 ?k2 ?k3 ?k4 ?k5 ?kK ?kd ?ku ?_); (case k4 => k_asm); walk_at "mine sides9"; intro v9 n9 h9 tk9 ok9 F9 N9; (unfold TypOf at ok9); (obtain ⟨x9, dx9, es9, k9, t9, t8, t7, e9, e9', g1, g2, g3, l9, m9⟩ := ok9); subst e9; subst e9'; (try dsimp only); (try k_fold)))
  k_with "call ref" => (k_here; (with_reducible show wpAny _ _ (call (Value.ref 168) _) _ _ _); focus (k_dflt (refine' use_spec (spec_fixed_type _ _ _ _ _ _ _ _ _) ?k1 ?k2 ?k3 ?k4 ?k5 ?kK ?kd ?ku ?_); (case k4 => k_asm); walk_at "mine sides9"; intro v9 n9 h9 tk9 ok9 F9 N9; (unfold FixOf at ok9); (obtain ⟨x9, dx9, es9, k9, t9, t8, t7, e9, e9', g1, g2, g3, g4, l9, m9⟩ := ok9); subst e9; subst e9'; (try dsimp only); (try k_fold)))
  k_with "call ref" => (k_here; (with_reducible show wpAny _ _ (call (Value.ref 188) _) _ _ _); focus (k_dflt (refine' use_spec (spec_text _ _ _ _ _ _ _ _ _ _ ?p1 ?p2 ?p3 ?p4 ?p5) ?k1 ?k2 ?k3 ?k4 ?k5 ?kK ?kd ?ku ?_); (case k4 => k_asm); (case p1 => assumption); (case p2 => assumption); (case p3 => omega); (case p4 => omega); (case p5 => assumption); walk_at "mine sides9"; intro v9 n9 h9 tk9 ok9 F9 N9; (obtain ⟨y9, t9, r9, u9, e9, x9, s9, e9'⟩ := ok9); (replace x9 := text9_tx x9); subst e9; subst e9'; (try dsimp only); (try k_fold)))
  k_with "call ref" => (k_here; (with_reducible show wpAny _ _ (call (Value.ref 209) _) _ _ _); focus (k_dflt (refine' use_spec (spec_signed _ _ _ _ ?p1) ?k1 ?k2 ?k3 ?k4 ?k5 ?kK ?kd ?ku ?_); (case k4 => k_asm); (case p1 => assumption); walk_at "mine sides9"; intro v9 n9 h9 tk9 ok9 F9 N9; (unfold RetIS at ok9); (obtain ⟨⟨D9, t9, u9, c9, e9, e9', l9⟩, g9⟩ := ok9); subst e9; subst e9'; (try k_lt l9); (try dsimp only); (try k_fold)))
  k_with "call ref" => (k_here; (with_reducible show wpAny _ _ (call (Value.ref 202) _) _ _ _); focus (k_dflt (refine' use_spec (spec_literal _ _ _ _ ?p1) ?k1 ?k2 ?k3 ?k4 ?k5 ?kK ?kd ?ku ?_); (case k4 => k_asm); (case p1 => assumption); walk_at "mine sides9"; intro v9 n9 h9 tk9 ok9 F9 N9; (obtain ⟨e9', o9⟩ := retO_ov ok9); clear ok9; subst e9'; (try dsimp only); (try k_fold)))
  k_with "binaryOp Mult int int" => ((with_reducible show wpAny _ _ (binaryOp _ (Value.int (Prod.fst (signedF _)) _) _) _ _ _); refine mul_int ?_ (sgn_mul_ok _ _))
  k_with "call ref" => (k_here; (with_reducible show wpAny _ _ (call (Value.ref 223) _) _ _ _); focus (k_dflt (refine' use_specR (spec_read_int _ _ _ _ _ _ _ _ _ _ _ _ _ ?p1 ?p2 ?p3 ?p4) ?k1 ?k2 ?k3 ?k4 ?k5 ?kK ?kd ?ku ?_); (case p1 => assumption); (case p2 => assumption); (case p3 => assumption); (case p4 => assumption); walk_at "mine sidesT"; intro v9 n9 h9 tk9 ok9 F9 N9; (first | (have rd9 := ret_dueN ok9 (by with_reducible assumption) (by with_reducible assumption)) | (have rd9 := ret_dueS ok9 (by with_reducible assumption) (by with_reducible assumption))); clear ok9; (obtain ⟨t9, e9', e9⟩ := rd9); subst e9; subst e9'; (try dsimp only); (try k_fold)))
  k_with "call ref" => (k_here; (with_reducible show wpAny _ _ (call (Value.ref 176) _) _ _ _); focus (k_dflt (refine' use_spec (spec_take _ _ _ _ _ _ _ _ _ _ _ _ ?p1 ?p2 ?p3 ?p4 ?p5 ?p6 ?p7) ?k1 ?k2 ?k3 ?k4 ?k5 ?kK ?kd ?ku ?_); (case k4 => exact news_rot5 (by k_asm)); (case p1 => assumption); (case p2 => assumption); (case p3 => omega); (case p4 => omega); (case p5 => first | decide | omega); (case p6 => first | decide | omega); (case p7 => exact ne_more5 (by assumption) (by assumption) (by assumption) (by assumption) (by assumption) (by assumption)); walk_at "mine sides9"; walk_at "mine take"))
  k_with "subscriptTail" => (k_here; (with_reducible show wpAny _ _ (subscriptTail _ _ (Value.ref _) (Value.int _ _)) _ _ _); focus ((with_reducible rename News _ _ _ _ => N8); k_dflt (refine' item_small N8 ?qh1 ?qh2 ?qh3 ?qh4 ?qz0 ?qz1 ?_ ?qe; (case qh1 => assumption); (case qh2 => assumption); (case qh3 => assumption); (case qh4 => assumption); (case qz0 => omega); (case qz1 => omega); (case qe => with_unfolding_all rfl)); intro D9 a9 b9 t9 u9 c9 N9 l9 r9; clear N8))
  k_with "mine tx" => first | with_reducible assumption | exact tx_lit (by decide +kernel)
  k_with "binaryOp Add str str" => (k_here; (with_reducible show wpAny _ _ (binaryOp Operator.Add (Value.str _ _) (Value.str _ _)) _ _ _); k_dflt (refine' add_tx ?taa ?tab ?tac ?_; (case taa => walk_at "mine tx"); (case tab => walk_at "mine tx"); (case tac => decide +kernel)); intro z9 t9 k9 x9)
  k_with "call ref" => (k_here; (with_reducible show wpAny _ _ (call (Value.ref 183) _) _ _ _); focus (k_dflt (refine' use_spec (spec_spelt _ _ _ _ _ _ ?p1 ?p2 ?p3 ?p4) ?k1 ?k2 ?k3 ?k4 ?k5 ?kK ?kd ?ku ?_); (case k4 => k_asm); (case p1 => omega); (case p2 => omega); (case p3 => omega); (case p4 => omega); walk_at "mine sides9"; intro v9 n9 h9 tk9 ok9 F9 N9; (obtain ⟨e9', y9, t9, e9, s9⟩ := ok9); (replace s9 := spelt_tx s9); subst e9; subst e9'; (try dsimp only); (try k_fold)))
  k_with "call builtin:str.replace" => (k_here; (with_reducible show wpAny _ _ (call (Value.builtin "str.replace") [Value.str _ _, Value.str _ _, Value.str _ _]) _ _ _); k_dflt (refine' dots_tx ?tda ?tdb ?tdc ?tdd ?_; (case tda => assumption); (case tdb => exact Nat.lt_succ_self _); (case tdc => with_reducible assumption); (case tdd => decide +kernel)); intro z9 t9 k9 x9)
  k_with "call ref" => (k_here; (with_reducible show wpAny _ _ (call (Value.ref 216) _) _ _ _); focus (k_dflt (refine' use_spec (spec_fixed _ _ _ _ ?p1) ?k1 ?k2 ?k3 ?k4 ?k5 ?kK ?kd ?ku ?_); (case k4 => k_asm); (case p1 => assumption); walk_at "mine sides9"; intro v9 n9 h9 tk9 ok9 F9 N9; (rcases retOT_cases (by assumption) ok9 with ⟨q9, e9, e9'⟩ | ⟨fn9, fd9, D9, t9, u9, c9, q9, b9, e9, e9', l9⟩); all_goals (clear ok9; subst e9; subst e9'; (try k_lt l9); (try dsimp only); (try k_fold))))
  k_with "binaryOp Mult int int" => first
      | refine mul_int ?_ (top_ok (by with_reducible assumption) (by with_reducible assumption) _)
      | refine mul_int ?_ (qd_ok (by with_reducible assumption) (by with_reducible assumption) (by with_reducible assumption) (by with_reducible assumption) (by with_reducible assumption))
      | refine mul_int ?_ (qd1_ok (by with_reducible assumption) (by with_reducible assumption) (by with_reducible assumption) (by with_reducible assumption) (by with_reducible assumption))
  k_with "binaryOp FloorDiv int int" => refine floordiv_int (bot_pos (by with_reducible assumption) (by with_reducible assumption)) ?_ (.inl (bot_room (by with_reducible assumption) (by with_reducible assumption) (by with_reducible assumption) _))
  k_with "mine eS" => with_reducible first
      | exact eS1 (by assumption) (by assumption) | exact eS2 (by assumption) (by assumption) | exact eS3 (by assumption) (by assumption) | exact eS4 (by assumption) (by assumption)
  k_with "mine sidesF" => (
        (case k1 => first | k_asm | fail "mine: the frames below")
        (case k2 => first | k_asm | fail "mine: the frame")
        (case k3 => first | k_asm | fail "mine: the written part")
        (case k4 => first | (refine' news_sub ?n1 (sub_three ?n2 ?n3 ?n4 (sub_all _)); (case n1 => k_asm); (case n2 => walk_at "mine mem"); (case n3 => walk_at "mine mem"); (case n4 => walk_at "mine mem")) | fail "mine: the ledger")
        (case k5 => first | k_asm | fail "mine: the top's facts")
        (case kK => first | exact rfl | assumption | fail "mine: the caller is no def")
        (case kd => first | ktr_room | fail "mine: the frames' room")
        (case ku => first | ktr_units | fail "mine: the C units"))
  k_with "call ref" => (k_here; (with_reducible show wpAny _ _ (call (Value.ref 223) _) _ _ _); (with_reducible rename fixVal _ _ _ _ _ = _ => hpl9); focus (k_dflt (refine' use_specR (spec_read_fixed _ _ _ _ _ _ _ _ _ _ _ _ _ _ _ _ _ _ _ ?p1 ?p2 ?p3 ?p4 ?p5 ?p6 ?p7 ?p8 ?p9) ?k1 ?k2 ?k3 ?k4 ?k5 ?kK ?kd ?ku ?_); (case p1 => assumption); (case p2 => assumption); (case p3 => assumption); (case p4 => assumption); (case p5 => assumption); walk_at "mine sidesF"; (case p6 => assumption); (case p7 => assumption); (case p8 => assumption); (case p9 => assumption); intro v9 n9 h9 tk9 ok9 F9 N9; (first | (have rd9 := ret_dueN ok9 hpl9 (by with_reducible assumption)) | (have rd9 := ret_dueS ok9 hpl9 (by with_reducible assumption))); clear ok9; (obtain ⟨t9, e9', e9⟩ := rd9); subst e9; subst e9'; (try dsimp only); (try k_fold)))
  k_with "SpPost" => (dsimp only [SpPost])
  k_with "ite" => (k_here; k_openite; first
      | (refine ite_pos (by with_reducible assumption) ?_)
      | (refine ite_neg (by with_reducible assumption) ?_)
      | (refine ite_isFalse (by with_reducible assumption) ?_)
      | (with_reducible refine split_ine ?_ ?_ <;> intro _) | (with_reducible refine split_ieq ?_ ?_ <;> intro _) | (with_reducible refine split_not ?_)
      | (refine split_dec ?_ ?_ <;> intro _) | (refine split_bool ?_ ?_ <;> intro _))
  trivial
theorem law_t : PySem.Challenge.rw_pb0011_01.Holds := by
  refine hd_of rfl (by kernel_rfl) (by kernel_rfl) (by kernel_rfl) ?_
  show WalkO viewK [Str.ofString "_law_pieces"] (XL viewK []) (Hook.says (kHook heapK asK asK_ok)) (OpenRow.toRowW PySem.Challenge.rw_pb0011_01.row) _ _ _
  k_fill
  intro w s₀ s₁ mg mb G Y fa o pm cd doc dV kV ho hd hcd hD hmg hg args vals as hpre hlay hrd hwl hlo
  have KX := kIn_of Y
  have X := (Ground.X G).1
  have V := (Ground.X G).2
  w_nolog (have GL := glob_more (Ground.glob G (by decide +kernel) (by decide +kernel)) V)
  refine Ground.open G ?_
  intro T B D TE TW
  try (refine guard_noD D (by decide +kernel) ?_; clear D)
  obtain ⟨_, _, M⟩ := bmod_of_top T
  have TA := at_of_top T
  try (obtain ⟨_, _, he, B0⟩ := based_of_top T rfl hmg ho hd; have he' : cd = _ := he; subst he'; clear he)
  clear hmg
  wrow_args hpre hlay hrd hwl hlo
  all_goals (
    first | refine callC_kw (enter_call ?_) | refine enter_call ?_ | refine callC_kw (enter_callW ?_) | refine enter_callW ?_ | w_how
    w_top off
    try refine codeAny_mono ?_ (fun _ _ g => GoodW.toG g)
    have K0 := below_caller (Top.heap T)
    w_call any ho hd hcd hD T F
    clear hd TA
    k_drop
    skip)
  (all_goals try k_fold)
  dsimp only
  k_dflt (refine' seq_g (α := Addr × Addr × Tok × List Value × List Int) (fun m a y => if y = Str.ofString "pen" then some (.ref a.1) else m y) (fun a => [(a.1, penO a.2.1 0 a.2.2.1 0), (a.2.1, listOf a.2.2.2.1.toArray 0)]) (fun a => IntsAre a.2.2.2.1 a.2.2.2.2 ∧ a.2.2.2.2.length ≤ 40 ∧ a.2.1 < a.1) ?F ?sa1 ?sb1; (case F => k_asm))
  case sa1 =>
    k_steps
    exact midG ⟨_, _, _, _, _⟩ (by k_asm) (by k_asm) (fun _ => rfl) ⟨by assumption, by dsimp only; omega, by assumption⟩
  rintro ⟨P, S, t1, ws, ns⟩ h1 tk1 V1 F1 N1
  dsimp only at V1 F1 N1
  obtain ⟨hI1, hl1, hS1⟩ := V1
  have hn1 : ∀ p ∈ [(S, listOf ws.toArray 0)], p.1 ≠ P := fun p hp => by rw [List.mem_singleton.mp hp]; exact Nat.ne_of_lt hS1
  have hr1 : (0 : Int) ≤ 0 := Int.le_refl 0
  k_dflt (refine' seq_g (α := Int × Tok × Tok) (fun m a y => if y = Str.ofString "half" then some (.int a.1 a.2.1) else m y) (fun a => [(P, penO S (0 + 1) a.2.2 0), (S, listOf ws.toArray 0)]) (fun a => 1 ≤ a.1 ∧ a.1 ≤ 2 ^ 63) ?F ?sa2 ?sb2; (case F => k_asm))
  case sa2 =>
    k_steps
    rename (0 : Int) ≤ _ ∧ _ < (57 : Int) => q57
    exact midG ⟨_, _, _⟩ (by k_asm) (by k_asm) (fun _ => rfl) (half_rng q57.1 q57.2)
  rintro ⟨H, t2, u2⟩ h2 tk2 V2 F2 N2
  dsimp only at V2 F2 N2
  k_dflt (refine' seq_g (α := Addr × Addr × List DictEntry × Nat) (fun m a y => if y = Str.ofString "whole" then some (.ref a.1) else m y) (fun a => (P, penO S (0 + 1) u2 0) :: (S, listOf ws.toArray 0) :: [(a.1, instObj 150 a.2.1), (a.2.1, dictOf a.2.2.1 a.2.2.2)]) (fun a => (∃ t, getL "kind" a.2.2.1 = some (some (.str "int" t))) ∧ (∃ t, getL "low" a.2.2.1 = some (some (.int (0 - H) t))) ∧ (∃ t, getL "high" a.2.2.1 = some (some (.int (H - 1) t))) ∧ P < a.2.1 ∧ P < a.1) ?F ?sa3 ?sb3; (case F => k_asm))
  case sa3 =>
    k_steps
    exact midG ⟨_, _, _, _⟩ (by k_asm) (news_rot2 (by k_asm)) (fun _ => rfl) ⟨⟨_, by assumption⟩, ⟨_, by assumption⟩, ⟨_, by assumption⟩, lt_head (by assumption), Nat.lt_trans (lt_head (by assumption)) (by assumption)⟩
  rintro ⟨x3, dx3, es3, k3⟩ h3 tk3 V3 F3 N3
  dsimp only at V3 F3 N3
  obtain ⟨⟨t31, g31⟩, ⟨t32, g32⟩, ⟨t33, g33⟩, l31, l32⟩ := V3
  have hn3 := ne_more (o := instObj 150 dx3) (ne_more (o := dictOf es3 k3) hn1 (Nat.ne_of_gt l31)) (Nat.ne_of_gt l32)
  k_dflt (refine' seq_g (α := Str × Tok × Int × Tok) (fun m a y => if y = Str.ofString "text" then some (.str a.1 a.2.1) else m y) (fun a => (P, penO S a.2.2.1 a.2.2.2 0) :: (S, listOf ws.toArray 0) :: [(x3, instObj 150 dx3), (dx3, dictOf es3 k3)]) (fun a => TX a.1 120 ∧ 0 ≤ a.2.2.1 ∧ a.2.2.1 ≤ 100) ?F ?sa4 ?sb4; (case F => k_asm))
  case sa4 =>
    k_steps
    exact midG ⟨_, _, _, _⟩ (by k_asm) (by k_asm) (fun _ => rfl) ⟨by assumption, by dsimp only; omega, by dsimp only; omega⟩
  rintro ⟨x, tx, r4, u4⟩ h4 tk4 V4 F4 N4
  dsimp only at V4 F4 N4
  obtain ⟨X4, r40, r41⟩ := V4
  have G4 : Good x := X4.good (by decide)
  k_dflt (refine' seq_g (α := Tok × Tok) (fun m a y => if y = Str.ofString "rest" then some (.str (signedF x).2 a.2) else if y = Str.ofString "sign" then some (.int (signedF x).1 a.1) else m y) (fun a => (P, penO S r4 u4 0) :: (S, listOf ws.toArray 0) :: [(x3, instObj 150 dx3), (dx3, dictOf es3 k3)]) (fun a => True) ?F ?sa5 ?sb5; (case F => k_asm))
  case sa5 =>
    k_steps
    exact midG ⟨_, _⟩ (by k_asm) (news_drop (by k_asm)) (fun _ => rfl) trivial
  rintro ⟨ts5, tr5⟩ h5 tk5 V5 F5 N5
  dsimp only at V5 F5 N5
  have G5 : Good (signedF x).2 := good_signed G4
  k_dflt (refine' seq_g (α := Value) (fun m a y => if y = Str.ofString "number" then some a else m y) (fun a => (P, penO S r4 u4 0) :: (S, listOf ws.toArray 0) :: [(x3, instObj 150 dx3), (dx3, dictOf es3 k3)]) (fun a => OV (literalF (signedF x).2) a) ?F ?sa6 ?sb6; (case F => k_asm))
  case sa6 =>
    k_steps
    exact midG _ (by k_asm) (by k_asm) (fun _ => rfl) (by assumption)
  rintro nv h6 tk6 V6 F6 N6
  try dsimp only at V6 F6 N6
  k_dflt (refine' seq_g (α := Value) (fun m a y => if y = Str.ofString "due" then some a else m y) (fun a => (P, penO S r4 u4 0) :: (S, listOf ws.toArray 0) :: [(x3, instObj 150 dx3), (dx3, dictOf es3 k3)]) (fun a => OV (dueInt x H) a) ?F ?sa7 ?sb7; (case F => k_asm))
  case sa7 =>
    rcases V6 with ⟨hN, rfl⟩ | ⟨kn, tn, hN, rfl⟩
    all_goals k_steps
    all_goals first
      | exact midG _ (by k_asm) (by k_asm) (fun _ => rfl) (due_none (by with_reducible assumption))
      | exact midG _ (by k_asm) (by k_asm) (fun _ => rfl) (due_in (by with_reducible assumption) (by with_reducible assumption) (by with_reducible assumption))
      | exact midG _ (by k_asm) (by k_asm) (fun _ => rfl) (due_lo (by with_reducible assumption) (by with_reducible assumption))
      | exact midG _ (by k_asm) (by k_asm) (fun _ => rfl) (due_hi (by with_reducible assumption) (by with_reducible assumption))
  rintro dv h7 tk7 V7 F7 N7
  try dsimp only at V7 F7 N7
  have hpl := plainA G4 H
  k_dflt (refine' seq_g (α := Unit) (fun m a => m) (fun a => (P, penO S r4 u4 0) :: (S, listOf ws.toArray 0) :: [(x3, instObj 150 dx3), (dx3, dictOf es3 k3)]) (fun a => True) ?F ?sa8 ?sb8; (case F => k_asm))
  case sa8 =>
    rcases V7 with ⟨hN, rfl⟩ | ⟨kn, tn, hN, rfl⟩
    all_goals k_steps
    all_goals first
      | exact midG () (by k_asm) (news_drop (news_drop (by k_asm))) (fun _ => rfl) trivial
      | exact ne_absurd (by with_reducible assumption)
  rintro _ h8 tk8 _ F8 N8
  try dsimp only at F8 N8
  with_reducible refine' seq_small P S (listOf ws.toArray 0) (r4 + 1) ?F ?sa9 ?sb9
  case F => k_asm
  case sa9 =>
    k_steps
    rename 0 < _ ∧ _ ≤ 10 ∧ 0 < _ ∧ _ ≤ 10 => r9
    rename P < _ => l9
    exact small_end (by k_asm) (by k_asm) (fun _ => rfl) l9 r9
  rintro D a b ta9 tb9 c9 u9 h9 tk9 l9 a0 a1 b0 b1 F9 N9
  try dsimp only at F9 N9
  have hn9 := ne_more (P := P) (s := (S, listOf ws.toArray 0)) (a := D) (o := T2o a ta9 b tb9 c9) (l := []) hn1 (Nat.ne_of_gt l9)
  k_dflt (refine' seq_gp (α := Addr × Addr × List DictEntry × Nat) (fun m a y => if y = Str.ofString "fixed" then some (.ref a.1) else m y) (fun z => (P, penO S (r4 + 1) u9 0) :: (S, listOf ws.toArray 0) :: [(z.1, instObj 150 z.2.1), (z.2.1, dictOf z.2.2.1 z.2.2.2), (D, T2o a ta9 b tb9 c9)]) (fun z => (∃ t, getL "kind" z.2.2.1 = some (some (.str "fixed" t))) ∧ (∃ t, getL "low" z.2.2.1 = some (some (.int (0 - H) t))) ∧ (∃ t, getL "high" z.2.2.1 = some (some (.int H t))) ∧ getL "small" z.2.2.1 = some (some (.ref D)) ∧ P < z.2.1 ∧ P < z.1) ?F ?sa10 ?sb10; (case F => k_asm))
  case sa10 =>
    k_steps
    exact midGp ⟨_, _, _, _⟩ (by k_asm) (news_rot2 (by k_asm)) (fun _ => rfl) ⟨⟨_, by assumption⟩, ⟨_, by assumption⟩, ⟨_, by assumption⟩, by assumption, lt_head (by assumption), Nat.lt_trans (lt_head (by assumption)) (by assumption)⟩ (Nat.succ_pos _)
  rintro ⟨x10, dx10, es10, k10⟩ h10 tk10 V10 F10 N10 p10
  dsimp only at V10 F10 N10
  obtain ⟨⟨t101, g101⟩, ⟨t102, g102⟩, ⟨t103, g103⟩, g104, l101, l102⟩ := V10
  have hn10 := ne_more (o := instObj 150 dx10) (ne_more (o := dictOf es10 k10) hn9 (Nat.ne_of_gt l101)) (Nat.ne_of_gt l102)
  have L4 : x.length ≤ 120 := X4.1
  k_dflt (refine' seq_g (α := Addr × Nat × List Value × List Str) (fun m a y => if y = Str.ofString "spots" then some (.ref a.1) else m y) (fun z => (z.1, listOf z.2.2.1.toArray z.2.1) :: [(x10, instObj 150 dx10), (dx10, dictOf es10 k10), (D, T2o a ta9 b tb9 c9)]) (fun z => StrsAre z.2.2.1 z.2.2.2 ∧ ∀ q ∈ z.2.2.2, Good q) ?F ?sa11 ?sb11; (case F => k_asm))
  case sa11 =>
    k_steps
    exact midG ⟨_, _, _, _⟩ (by k_asm) (news_spots (by k_asm)) (fun _ => rfl) ⟨.cons _ _ (.cons _ _ (.cons _ _ .nil)), good_three G4 (TX.good (by with_reducible assumption) (by decide)) (TX.good (by with_reducible assumption) (by decide))⟩
  rintro ⟨l11, n11, ws11, zs11⟩ h11 tk11 V11 F11 N11
  dsimp only at V11 F11 N11
  obtain ⟨S11, G11⟩ := V11
  clear hn9 hn10 hpl
  have NK := N11
  have FK := F11
  k_with "pyIter ref" => (k_here; (rename Fr _ _ _ _ => lF'); (rename News _ _ _ _ => lN'); k_dflt (refine' loop_spots (nn := n11) (parts := zs11) [Str.ofString "pair", Str.ofString "due", Str.ofString "top", Str.ofString "bottom"] ?k0 ?k1 S11 lF' lN' (fun p t u h tk own hp F9 N9 => hold_out ?_) (fun u h tk F9 N9 => ?_); (case k0 => rfl); (case k1 => exact List.Mem.head _)); (all_goals (try clear lF' lN')); (all_goals (try k_fold)))
  k_steps
  all_goals (try dsimp only [Done])
  refine hold_in ?_
  have Gp : Good p := G11 p hp
  simp only [List.cons_append, List.nil_append] at N9
  replace N9 := news_as N11 N9 rfl
  replace F9 := fr_as F11 F9 rfl
  clear hp S11 G11 N11 F11
  k_dflt (refine' seq_3 (α := Value × (Str → Option Value)) (fun m z y => if y = Str.ofString "due" then some z.1 else if [Str.ofString "pair", Str.ofString "top", Str.ofString "bottom"].contains y then z.2 y else m y) (fun z => (l11, listOf ws11.toArray n11) :: (x10, instObj 150 dx10) :: (dx10, dictOf es10 k10) :: (D, T2o a ta9 b tb9 c9) :: own) (fun z => OV (dueFix (fixedF p) a b H) z.1) ?F ?sa12 ?sb12; (case F => k_asm))
  case sa12 =>
    k_steps
    all_goals refine midR _ (by k_asm) ?_ rfl ?_ ?_
    all_goals first
      | k_asm
      | exact news_drop (by k_asm)
      | exact news_drop (news_drop (by k_asm))
      | (intro y h1 h3; (simp only [List.contains_cons, List.contains_nil, Bool.or_false, Bool.or_eq_false_iff, beq_eq_false_iff_ne, ne_eq] at h3); simp [h1, h3]; done)
      | exact fdue_none (by with_reducible assumption)
      | (refine fdue_in (by with_reducible assumption) ?_ (by with_reducible assumption) (by with_reducible assumption); walk_at "mine eS")
      | (refine fdue_lo (by with_reducible assumption) ?_ (by with_reducible assumption); walk_at "mine eS")
      | (refine fdue_hi (by with_reducible assumption) ?_ (by with_reducible assumption); walk_at "mine eS")
  rintro ⟨v12, u12⟩ h12 tk12 V12 F12 N12
  dsimp only at V12 F12 N12
  have hpl := plainB Gp a0 b0 H
  rcases V12 with ⟨hN, rfl⟩ | ⟨kn, tn, hN, rfl⟩
  all_goals k_steps
  all_goals refine spEnd_at (by k_asm) (by k_asm) (by exact rfl) (by exact fun _ h => .tail _ (.tail _ (.tail _ h))) ?_
  all_goals (intro y h1 h3; (simp only [List.contains_cons, List.contains_nil, Bool.or_false, Bool.or_eq_false_iff, beq_eq_false_iff_ne, ne_eq] at h3); simp [h1, h3])
end Mine
theorem PySem.Challenge.cw_pb0011_01_holds : PySem.Challenge.rw_pb0011_01.Holds := by
  exact Mine.law_t
