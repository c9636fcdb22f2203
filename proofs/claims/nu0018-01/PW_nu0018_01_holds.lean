import PyProof.Rows.All
import Wide.All
import OpenK.AllK
import Wide.FinOn
import PySem.Challenge.RW_nu0018_01
open PySem PySem.W PySem.Calls PyProof.Rows PySem.Spec
set_option Elab.async false
set_option linter.unusedVariables false
set_option maxRecDepth 100000
set_option maxHeartbeats 8000000
namespace Mine
/-- a def of the program, by its path: its parameters, body and scope -/
def defAt? (p : Program) : List Nat → Option (Arguments × List Stmt × Scope)
  | [i] => match p.main.body[i]? with
    | some (.FunctionDef _ a b _ _ _ s _ _ _) => some (a, b, s)
    | _ => none
  | [i, j] => match p.main.body[i]? with
    | some (.ClassDef _ _ _ b _ _ _ _ _ _ _) => (match b[j]? with
      | some (.FunctionDef _ a b _ _ _ s _ _ _) => some (a, b, s)
      | _ => none)
    | _ => none
  | _ => none
noncomputable def F28 : {x : Arguments × List Stmt × Scope // defAt? PySem.Challenge.pw_nu0018_01 [1, 0] = some x} := ⟨_, rfl⟩
noncomputable def F53 : {x : Arguments × List Stmt × Scope // defAt? PySem.Challenge.pw_nu0018_01 [4] = some x} := ⟨_, rfl⟩
noncomputable def F61 : {x : Arguments × List Stmt × Scope // defAt? PySem.Challenge.pw_nu0018_01 [5] = some x} := ⟨_, rfl⟩
noncomputable def F68 : {x : Arguments × List Stmt × Scope // defAt? PySem.Challenge.pw_nu0018_01 [6] = some x} := ⟨_, rfl⟩
noncomputable def F75 : {x : Arguments × List Stmt × Scope // defAt? PySem.Challenge.pw_nu0018_01 [7] = some x} := ⟨_, rfl⟩
noncomputable def F89 : {x : Arguments × List Stmt × Scope // defAt? PySem.Challenge.pw_nu0018_01 [9, 0] = some x} := ⟨_, rfl⟩
noncomputable def F96 : {x : Arguments × List Stmt × Scope // defAt? PySem.Challenge.pw_nu0018_01 [9, 1] = some x} := ⟨_, rfl⟩
noncomputable def F110 : {x : Arguments × List Stmt × Scope // defAt? PySem.Challenge.pw_nu0018_01 [10] = some x} := ⟨_, rfl⟩
noncomputable def F117 : {x : Arguments × List Stmt × Scope // defAt? PySem.Challenge.pw_nu0018_01 [11] = some x} := ⟨_, rfl⟩
noncomputable def F124 : {x : Arguments × List Stmt × Scope // defAt? PySem.Challenge.pw_nu0018_01 [12] = some x} := ⟨_, rfl⟩
noncomputable def F138 : {x : Arguments × List Stmt × Scope // defAt? PySem.Challenge.pw_nu0018_01 [13, 0] = some x} := ⟨_, rfl⟩
noncomputable def F145 : {x : Arguments × List Stmt × Scope // defAt? PySem.Challenge.pw_nu0018_01 [13, 1] = some x} := ⟨_, rfl⟩
noncomputable def F152 : {x : Arguments × List Stmt × Scope // defAt? PySem.Challenge.pw_nu0018_01 [13, 2] = some x} := ⟨_, rfl⟩
noncomputable def F159 : {x : Arguments × List Stmt × Scope // defAt? PySem.Challenge.pw_nu0018_01 [13, 3] = some x} := ⟨_, rfl⟩
noncomputable def F164 : {x : Arguments × List Stmt × Scope // defAt? PySem.Challenge.pw_nu0018_01 [13, 4] = some x} := ⟨_, rfl⟩
noncomputable def F171 : {x : Arguments × List Stmt × Scope // defAt? PySem.Challenge.pw_nu0018_01 [13, 5] = some x} := ⟨_, rfl⟩
noncomputable def F178 : {x : Arguments × List Stmt × Scope // defAt? PySem.Challenge.pw_nu0018_01 [13, 6] = some x} := ⟨_, rfl⟩
noncomputable def F185 : {x : Arguments × List Stmt × Scope // defAt? PySem.Challenge.pw_nu0018_01 [13, 7] = some x} := ⟨_, rfl⟩
noncomputable def F192 : {x : Arguments × List Stmt × Scope // defAt? PySem.Challenge.pw_nu0018_01 [13, 8] = some x} := ⟨_, rfl⟩
noncomputable def F213 : {x : Arguments × List Stmt × Scope // defAt? PySem.Challenge.pw_nu0018_01 [15, 0] = some x} := ⟨_, rfl⟩
noncomputable def F220 : {x : Arguments × List Stmt × Scope // defAt? PySem.Challenge.pw_nu0018_01 [15, 1] = some x} := ⟨_, rfl⟩
noncomputable def F227 : {x : Arguments × List Stmt × Scope // defAt? PySem.Challenge.pw_nu0018_01 [15, 2] = some x} := ⟨_, rfl⟩
noncomputable def F234 : {x : Arguments × List Stmt × Scope // defAt? PySem.Challenge.pw_nu0018_01 [15, 3] = some x} := ⟨_, rfl⟩
noncomputable def F248 : {x : Arguments × List Stmt × Scope // defAt? PySem.Challenge.pw_nu0018_01 [16] = some x} := ⟨_, rfl⟩
noncomputable def F255 : {x : Arguments × List Stmt × Scope // defAt? PySem.Challenge.pw_nu0018_01 [17] = some x} := ⟨_, rfl⟩
noncomputable def F263 : {x : Arguments × List Stmt × Scope // defAt? PySem.Challenge.pw_nu0018_01 [18] = some x} := ⟨_, rfl⟩
noncomputable def F270 : {x : Arguments × List Stmt × Scope // defAt? PySem.Challenge.pw_nu0018_01 [20] = some x} := ⟨_, rfl⟩
noncomputable def F277 : {x : Arguments × List Stmt × Scope // defAt? PySem.Challenge.pw_nu0018_01 [21] = some x} := ⟨_, rfl⟩
noncomputable def F282 : {x : Arguments × List Stmt × Scope // defAt? PySem.Challenge.pw_nu0018_01 [22] = some x} := ⟨_, rfl⟩
noncomputable def F287 : {x : Arguments × List Stmt × Scope // defAt? PySem.Challenge.pw_nu0018_01 [23] = some x} := ⟨_, rfl⟩
noncomputable def F294 : {x : Arguments × List Stmt × Scope // defAt? PySem.Challenge.pw_nu0018_01 [24] = some x} := ⟨_, rfl⟩
noncomputable def F299 : {x : Arguments × List Stmt × Scope // defAt? PySem.Challenge.pw_nu0018_01 [25] = some x} := ⟨_, rfl⟩
noncomputable def F306 : {x : Arguments × List Stmt × Scope // defAt? PySem.Challenge.pw_nu0018_01 [26] = some x} := ⟨_, rfl⟩
noncomputable def F311 : {x : Arguments × List Stmt × Scope // defAt? PySem.Challenge.pw_nu0018_01 [27] = some x} := ⟨_, rfl⟩
noncomputable def hd.heap_39 (P : Params) : Frag := [
  (nat_lit 2, ⟨.none, none, .dict #[⟨PyData.keyHash P (.ofString "type.__subclasses__.Exception.0"), .str (.ofString "type.__subclasses__.Exception.0") 214, .int 31 0⟩, ⟨PyData.keyHash P (.ofString "type.__subclasses__.Exception.n"), .str (.ofString "type.__subclasses__.Exception.n") 215, .int 1 0⟩] 2, #[]⟩),
  (nat_lit 3, ⟨.type "dict", none, .dict #[⟨PyData.keyHash P (.ofString "__name__"), .str (.ofString "__name__") 165, .str (.ofString "law_nu0018_01") 564⟩, ⟨PyData.keyHash P (.ofString "__doc__"), .str (.ofString "__doc__") 166, .none⟩, ⟨PyData.keyHash P (.ofString "__package__"), .str (.ofString "__package__") 167, .none⟩, ⟨PyData.keyHash P (.ofString "__loader__"), .str (.ofString "__loader__") 168, .builtin "__main__.__loader__#opaque"⟩, ⟨PyData.keyHash P (.ofString "__spec__"), .str (.ofString "__spec__") 169, .none⟩, ⟨PyData.keyHash P (.ofString "__annotations__"), .str (.ofString "__annotations__") 170, .ref 6⟩, ⟨PyData.keyHash P (.ofString "__builtins__"), .str (.ofString "__builtins__") 171, .ref 4⟩, ⟨PyData.keyHash P (.ofString "__file__"), .str (.ofString "__file__") 173, .str (.ofString "/claim/cut.py") 172⟩, ⟨PyData.keyHash P (.ofString "__cached__"), .str (.ofString "__cached__") 174, .none⟩, ⟨PyData.keyHash P (.ofString "MillError"), .str (.ofString "MillError") 217, .ref 31⟩, ⟨PyData.keyHash P (.ofString "NumberFault"), .str (.ofString "NumberFault") 233, .ref 44⟩, ⟨PyData.keyHash P (.ofString "common_divisor"), .str (.ofString "common_divisor") 245, .ref 53⟩, ⟨PyData.keyHash P (.ofString "fraction"), .str (.ofString "fraction") 255, .ref 61⟩, ⟨PyData.keyHash P (.ofString "plus"), .str (.ofString "plus") 263, .ref 68⟩, ⟨PyData.keyHash P (.ofString "times"), .str (.ofString "times") 271, .ref 75⟩, ⟨PyData.keyHash P (.ofString "Cell"), .str (.ofString "Cell") 311, .ref 99⟩, ⟨PyData.keyHash P (.ofString "row_pieces"), .str (.ofString "row_pieces") 323, .ref 110⟩, ⟨PyData.keyHash P (.ofString "upright_piece"), .str (.ofString "upright_piece") 333, .ref 117⟩, ⟨PyData.keyHash P (.ofString "column_pieces"), .str (.ofString "column_pieces") 355, .ref 124⟩, ⟨PyData.keyHash P (.ofString "Cells"), .str (.ofString "Cells") 468, .ref 195⟩, ⟨PyData.keyHash P (.ofString "Side"), .str (.ofString "Side") 531, .ref 237⟩, ⟨PyData.keyHash P (.ofString "side_between"), .str (.ofString "side_between") 539, .ref 248⟩, ⟨PyData.keyHash P (.ofString "sides_of_contour"), .str (.ofString "sides_of_contour") 552, .ref 255⟩, ⟨PyData.keyHash P (.ofString "sides_of"), .str (.ofString "sides_of") 563, .ref 263⟩, ⟨PyData.keyHash P (.ofString "_law_pool"), .str (.ofString "_law_pool") 576, .ref 270⟩, ⟨PyData.keyHash P (.ofString "_law_take"), .str (.ofString "_law_take") 585, .ref 277⟩, ⟨PyData.keyHash P (.ofString "_law_part"), .str (.ofString "_law_part") 591, .ref 282⟩, ⟨PyData.keyHash P (.ofString "_law_cut"), .str (.ofString "_law_cut") 597, .ref 287⟩, ⟨PyData.keyHash P (.ofString "_law_area"), .str (.ofString "_law_area") 617, .ref 294⟩, ⟨PyData.keyHash P (.ofString "_law_due"), .str (.ofString "_law_due") 623, .ref 299⟩, ⟨PyData.keyHash P (.ofString "_law_is"), .str (.ofString "_law_is") 632, .ref 306⟩, ⟨PyData.keyHash P (.ofString "law"), .str (.ofString "law") 638, .ref 311⟩] 32, #[]⟩),
  (nat_lit 15, ⟨.type "tuple", none, .seq #[.type "Exception"] 0, #[]⟩),
  (nat_lit 22, ⟨.type "tuple", none, .seq #[] 0, #[]⟩),
  (nat_lit 24, ⟨.type "tuple", none, .seq #[.str (.ofString "self") 204, .str (.ofString "message") 205] 0, #[]⟩),
  (nat_lit 25, ⟨.type "tuple", none, .seq #[] 0, #[]⟩),
  (nat_lit 27, ⟨.type "code", none, .fields #[.str (.ofString "__init__") 201, .str (.ofString "MillError.__init__") 202, .str (.ofString "/claim/cut.py") 203, .int 4 0, .int 2 0, .int 0 0, .int 0 0, .int 3 0, .ref 22, .bool true, .int 181 0, .ref 23, .none, .ref 24, .ref 25, .ref 26, .int 206 0, .int 4 0, .str (.ofString "/claim/cut.py") 207], #[]⟩),
  (nat_lit 28, ⟨.type "function", none, .func ⟨.ofString "__init__", .ofString "MillError.__init__", F28.1.1, .stmts F28.1.2.1, F28.1.2.2, 3, [], .none, .none, .none, .str (.ofString "outlinemill.errors") 187, none, .ref 27, .none, 0⟩, #[]⟩),
  (nat_lit 29, ⟨.type "tuple", none, .seq #[.str (.ofString "message") 209] 0, #[]⟩),
  (nat_lit 30, ⟨.type "dict", none, .dict #[⟨PyData.keyHash P (.ofString "__module__"), .str (.ofString "__module__") 196, .str (.ofString "outlinemill.errors") 187⟩, ⟨PyData.keyHash P (.ofString "__firstlineno__"), .str (.ofString "__firstlineno__") 200, .int 2 199⟩, ⟨PyData.keyHash P (.ofString "__init__"), .str (.ofString "__init__") 208, .ref 28⟩, ⟨PyData.keyHash P (.ofString "__static_attributes__"), .str (.ofString "__static_attributes__") 210, .ref 29⟩, ⟨PyData.keyHash P (.ofString "__weakref__"), .str (.ofString "__weakref__") 212, .ref 32⟩, ⟨PyData.keyHash P (.ofString "__doc__"), .str (.ofString "__doc__") 213, .none⟩] 3, #[]⟩),
  (nat_lit 31, ⟨.type "type", none, .cls ⟨.ofString "MillError", [.type "Exception"], [.ref 31, .type "Exception", .type "BaseException", .type "object"], 30, .ofString "MillError", true, [], [.ref 44], false, none, false⟩, #[some (.ref 15), none, some (.str (.ofString "MillError") 189), some (.str (.ofString "MillError") 197), some (.builtin "Exception.__new__"), some (.bool true)]⟩),
  (nat_lit 32, ⟨.type "getset_descriptor", none, .fields #[.str (.ofString "__weakref__") 211, .ref 31, .builtin "ExceptionGroup.__weakref__", .none], #[]⟩),
  (nat_lit 35, ⟨.type "tuple", none, .seq #[.ref 31] 0, #[]⟩),
  (nat_lit 42, ⟨.type "tuple", none, .seq #[] 0, #[]⟩),
  (nat_lit 43, ⟨.type "dict", none, .dict #[⟨PyData.keyHash P (.ofString "__module__"), .str (.ofString "__module__") 225, .str (.ofString "outlinemill.errors") 187⟩, ⟨PyData.keyHash P (.ofString "__firstlineno__"), .str (.ofString "__firstlineno__") 229, .int 6 228⟩, ⟨PyData.keyHash P (.ofString "__static_attributes__"), .str (.ofString "__static_attributes__") 230, .ref 42⟩, ⟨PyData.keyHash P (.ofString "__doc__"), .str (.ofString "__doc__") 231, .none⟩] 2, #[]⟩),
  (nat_lit 44, ⟨.type "type", none, .cls ⟨.ofString "NumberFault", [.ref 31], [.ref 44, .ref 31, .type "Exception", .type "BaseException", .type "object"], 43, .ofString "NumberFault", true, [], [], false, none, false⟩, #[some (.ref 35), none, some (.str (.ofString "NumberFault") 218), some (.str (.ofString "NumberFault") 226), some (.builtin "Exception.__new__"), some (.bool true)]⟩),
  (nat_lit 47, ⟨.type "tuple", none, .seq #[] 0, #[]⟩),
  (nat_lit 49, ⟨.type "tuple", none, .seq #[.str (.ofString "one") 239, .str (.ofString "other") 240, .str (.ofString "first") 241, .str (.ofString "second") 242] 0, #[]⟩),
  (nat_lit 50, ⟨.type "tuple", none, .seq #[] 0, #[]⟩),
  (nat_lit 52, ⟨.type "code", none, .fields #[.str (.ofString "common_divisor") 236, .str (.ofString "common_divisor") 237, .str (.ofString "/claim/cut.py") 238, .int 9 0, .int 2 0, .int 0 0, .int 0 0, .int 3 0, .ref 47, .bool true, .int 181 0, .ref 48, .none, .ref 49, .ref 50, .ref 51, .int 243 0, .int 9 0, .str (.ofString "/claim/cut.py") 244], #[]⟩),
  (nat_lit 53, ⟨.type "function", none, .func ⟨.ofString "common_divisor", .ofString "common_divisor", F53.1.1, .stmts F53.1.2.1, F53.1.2.2, 3, [], .none, .none, .none, .str (.ofString "outlinemill.exact") 234, none, .ref 52, .none, 0⟩, #[]⟩),
  (nat_lit 54, ⟨.type "tuple", none, .seq #[.int 1 246] 0, #[]⟩),
  (nat_lit 55, ⟨.type "tuple", none, .seq #[] 0, #[]⟩),
  (nat_lit 57, ⟨.type "tuple", none, .seq #[.str (.ofString "top") 250, .str (.ofString "bottom") 251, .str (.ofString "common") 252] 0, #[]⟩),
  (nat_lit 58, ⟨.type "tuple", none, .seq #[] 0, #[]⟩),
  (nat_lit 60, ⟨.type "code", none, .fields #[.str (.ofString "fraction") 247, .str (.ofString "fraction") 248, .str (.ofString "/claim/cut.py") 249, .int 14 0, .int 2 0, .int 0 0, .int 0 0, .int 3 0, .ref 55, .bool true, .int 181 0, .ref 56, .none, .ref 57, .ref 58, .ref 59, .int 253 0, .int 14 0, .str (.ofString "/claim/cut.py") 254], #[]⟩),
  (nat_lit 61, ⟨.type "function", none, .func ⟨.ofString "fraction", .ofString "fraction", F61.1.1, .stmts F61.1.2.1, F61.1.2.2, 3, [], .ref 54, .none, .none, .str (.ofString "outlinemill.exact") 234, none, .ref 60, .none, 0⟩, #[]⟩),
  (nat_lit 62, ⟨.type "tuple", none, .seq #[] 0, #[]⟩),
  (nat_lit 64, ⟨.type "tuple", none, .seq #[.str (.ofString "a") 259, .str (.ofString "b") 260] 0, #[]⟩),
  (nat_lit 65, ⟨.type "tuple", none, .seq #[] 0, #[]⟩),
  (nat_lit 67, ⟨.type "code", none, .fields #[.str (.ofString "plus") 256, .str (.ofString "plus") 257, .str (.ofString "/claim/cut.py") 258, .int 21 0, .int 2 0, .int 0 0, .int 0 0, .int 3 0, .ref 62, .bool true, .int 181 0, .ref 63, .none, .ref 64, .ref 65, .ref 66, .int 261 0, .int 21 0, .str (.ofString "/claim/cut.py") 262], #[]⟩),
  (nat_lit 68, ⟨.type "function", none, .func ⟨.ofString "plus", .ofString "plus", F68.1.1, .stmts F68.1.2.1, F68.1.2.2, 3, [], .none, .none, .none, .str (.ofString "outlinemill.exact") 234, none, .ref 67, .none, 0⟩, #[]⟩),
  (nat_lit 69, ⟨.type "tuple", none, .seq #[] 0, #[]⟩),
  (nat_lit 71, ⟨.type "tuple", none, .seq #[.str (.ofString "a") 267, .str (.ofString "b") 268] 0, #[]⟩),
  (nat_lit 72, ⟨.type "tuple", none, .seq #[] 0, #[]⟩),
  (nat_lit 74, ⟨.type "code", none, .fields #[.str (.ofString "times") 264, .str (.ofString "times") 265, .str (.ofString "/claim/cut.py") 266, .int 23 0, .int 2 0, .int 0 0, .int 0 0, .int 3 0, .ref 69, .bool true, .int 181 0, .ref 70, .none, .ref 71, .ref 72, .ref 73, .int 269 0, .int 23 0, .str (.ofString "/claim/cut.py") 270], #[]⟩),
  (nat_lit 75, ⟨.type "function", none, .func ⟨.ofString "times", .ofString "times", F75.1.1, .stmts F75.1.2.1, F75.1.2.2, 3, [], .none, .none, .none, .str (.ofString "outlinemill.exact") 234, none, .ref 74, .none, 0⟩, #[]⟩),
  (nat_lit 83, ⟨.type "tuple", none, .seq #[] 0, #[]⟩),
  (nat_lit 85, ⟨.type "tuple", none, .seq #[.str (.ofString "self") 289] 0, #[]⟩),
  (nat_lit 86, ⟨.type "tuple", none, .seq #[] 0, #[]⟩),
  (nat_lit 88, ⟨.type "code", none, .fields #[.str (.ofString "__init__") 286, .str (.ofString "Cell.__init__") 287, .str (.ofString "/claim/cut.py") 288, .int 28 0, .int 1 0, .int 0 0, .int 0 0, .int 3 0, .ref 83, .bool true, .int 181 0, .ref 84, .none, .ref 85, .ref 86, .ref 87, .int 290 0, .int 28 0, .str (.ofString "/claim/cut.py") 291], #[]⟩),
  (nat_lit 89, ⟨.type "function", none, .func ⟨.ofString "__init__", .ofString "Cell.__init__", F89.1.1, .stmts F89.1.2.1, F89.1.2.2, 3, [], .none, .none, .none, .str (.ofString "outlinemill.cells") 272, none, .ref 88, .none, 0⟩, #[]⟩),
  (nat_lit 90, ⟨.type "tuple", none, .seq #[] 0, #[]⟩),
  (nat_lit 92, ⟨.type "tuple", none, .seq #[.str (.ofString "self") 296, .str (.ofString "cover") 297, .str (.ofString "area") 298] 0, #[]⟩),
  (nat_lit 93, ⟨.type "tuple", none, .seq #[] 0, #[]⟩),
  (nat_lit 95, ⟨.type "code", none, .fields #[.str (.ofString "add") 293, .str (.ofString "Cell.add") 294, .str (.ofString "/claim/cut.py") 295, .int 32 0, .int 3 0, .int 0 0, .int 0 0, .int 3 0, .ref 90, .bool true, .int 181 0, .ref 91, .none, .ref 92, .ref 93, .ref 94, .int 299 0, .int 32 0, .str (.ofString "/claim/cut.py") 300], #[]⟩),
  (nat_lit 96, ⟨.type "function", none, .func ⟨.ofString "add", .ofString "Cell.add", F96.1.1, .stmts F96.1.2.1, F96.1.2.2, 3, [], .none, .none, .none, .str (.ofString "outlinemill.cells") 272, none, .ref 95, .none, 0⟩, #[]⟩),
  (nat_lit 97, ⟨.type "tuple", none, .seq #[.str (.ofString "area") 302, .str (.ofString "cover") 303] 0, #[]⟩),
  (nat_lit 98, ⟨.type "dict", none, .dict #[⟨PyData.keyHash P (.ofString "__module__"), .str (.ofString "__module__") 281, .str (.ofString "outlinemill.cells") 272⟩, ⟨PyData.keyHash P (.ofString "__firstlineno__"), .str (.ofString "__firstlineno__") 285, .int 26 284⟩, ⟨PyData.keyHash P (.ofString "__init__"), .str (.ofString "__init__") 292, .ref 89⟩, ⟨PyData.keyHash P (.ofString "add"), .str (.ofString "add") 301, .ref 96⟩, ⟨PyData.keyHash P (.ofString "__static_attributes__"), .str (.ofString "__static_attributes__") 304, .ref 97⟩, ⟨PyData.keyHash P (.ofString "__dict__"), .str (.ofString "__dict__") 306, .ref 100⟩, ⟨PyData.keyHash P (.ofString "__weakref__"), .str (.ofString "__weakref__") 308, .ref 101⟩, ⟨PyData.keyHash P (.ofString "__doc__"), .str (.ofString "__doc__") 309, .none⟩] 4, #[]⟩),
  (nat_lit 99, ⟨.type "type", none, .cls ⟨.ofString "Cell", [.type "object"], [.ref 99, .type "object"], 98, .ofString "Cell", true, [], [], false, none, false⟩, #[none, none, some (.str (.ofString "Cell") 274), some (.str (.ofString "Cell") 282), some (.builtin "object.__new__"), some (.bool true)]⟩),
  (nat_lit 100, ⟨.type "getset_descriptor", none, .fields #[.str (.ofString "__dict__") 305, .ref 99, .builtin "function.__dict__", .builtin "function.__dict__#set"], #[]⟩),
  (nat_lit 101, ⟨.type "getset_descriptor", none, .fields #[.str (.ofString "__weakref__") 307, .ref 99, .builtin "ExceptionGroup.__weakref__", .none], #[]⟩),
  (nat_lit 104, ⟨.type "tuple", none, .seq #[] 0, #[]⟩),
  (nat_lit 106, ⟨.type "tuple", none, .seq #[.str (.ofString "side") 315, .str (.ofString "grain") 316, .str (.ofString "found") 317, .str (.ofString "y") 318, .str (.ofString "row") 319, .str (.ofString "low") 320] 0, #[]⟩),
  (nat_lit 107, ⟨.type "tuple", none, .seq #[] 0, #[]⟩),
  (nat_lit 109, ⟨.type "code", none, .fields #[.str (.ofString "row_pieces") 312, .str (.ofString "row_pieces") 313, .str (.ofString "/claim/cut.py") 314, .int 35 0, .int 2 0, .int 0 0, .int 0 0, .int 3 0, .ref 104, .bool true, .int 181 0, .ref 105, .none, .ref 106, .ref 107, .ref 108, .int 321 0, .int 35 0, .str (.ofString "/claim/cut.py") 322], #[]⟩),
  (nat_lit 110, ⟨.type "function", none, .func ⟨.ofString "row_pieces", .ofString "row_pieces", F110.1.1, .stmts F110.1.2.1, F110.1.2.2, 3, [], .none, .none, .none, .str (.ofString "outlinemill.cells") 272, none, .ref 109, .none, 0⟩, #[]⟩),
  (nat_lit 111, ⟨.type "tuple", none, .seq #[] 0, #[]⟩),
  (nat_lit 113, ⟨.type "tuple", none, .seq #[.str (.ofString "side") 327, .str (.ofString "high") 328, .str (.ofString "grain") 329, .str (.ofString "column") 330] 0, #[]⟩),
  (nat_lit 114, ⟨.type "tuple", none, .seq #[] 0, #[]⟩),
  (nat_lit 116, ⟨.type "code", none, .fields #[.str (.ofString "upright_piece") 324, .str (.ofString "upright_piece") 325, .str (.ofString "/claim/cut.py") 326, .int 44 0, .int 3 0, .int 0 0, .int 0 0, .int 3 0, .ref 111, .bool true, .int 181 0, .ref 112, .none, .ref 113, .ref 114, .ref 115, .int 331 0, .int 44 0, .str (.ofString "/claim/cut.py") 332], #[]⟩),
  (nat_lit 117, ⟨.type "function", none, .func ⟨.ofString "upright_piece", .ofString "upright_piece", F117.1.1, .stmts F117.1.2.1, F117.1.2.2, 3, [], .none, .none, .none, .str (.ofString "outlinemill.cells") 272, none, .ref 116, .none, 0⟩, #[]⟩),
  (nat_lit 118, ⟨.type "tuple", none, .seq #[] 0, #[]⟩),
  (nat_lit 120, ⟨.type "tuple", none, .seq #[.str (.ofString "side") 337, .str (.ofString "upper") 338, .str (.ofString "lower") 339, .str (.ofString "grain") 340, .str (.ofString "high") 341, .str (.ofString "wide") 342, .str (.ofString "first") 343, .str (.ofString "last") 344, .str (.ofString "left") 345, .str (.ofString "right") 346, .str (.ofString "found") 347, .str (.ofString "column") 348, .str (.ofString "edge") 349, .str (.ofString "begin") 350, .str (.ofString "end") 351, .str (.ofString "part") 352] 0, #[]⟩),
  (nat_lit 121, ⟨.type "tuple", none, .seq #[] 0, #[]⟩),
  (nat_lit 123, ⟨.type "code", none, .fields #[.str (.ofString "column_pieces") 334, .str (.ofString "column_pieces") 335, .str (.ofString "/claim/cut.py") 336, .int 47 0, .int 4 0, .int 0 0, .int 0 0, .int 3 0, .ref 118, .bool true, .int 181 0, .ref 119, .none, .ref 120, .ref 121, .ref 122, .int 353 0, .int 47 0, .str (.ofString "/claim/cut.py") 354], #[]⟩),
  (nat_lit 124, ⟨.type "function", none, .func ⟨.ofString "column_pieces", .ofString "column_pieces", F124.1.1, .stmts F124.1.2.1, F124.1.2.2, 3, [], .none, .none, .none, .str (.ofString "outlinemill.cells") 272, none, .ref 123, .none, 0⟩, #[]⟩),
  (nat_lit 132, ⟨.type "tuple", none, .seq #[] 0, #[]⟩),
  (nat_lit 134, ⟨.type "tuple", none, .seq #[.str (.ofString "self") 371, .str (.ofString "grain") 372] 0, #[]⟩),
  (nat_lit 135, ⟨.type "tuple", none, .seq #[] 0, #[]⟩),
  (nat_lit 137, ⟨.type "code", none, .fields #[.str (.ofString "__init__") 368, .str (.ofString "Cells.__init__") 369, .str (.ofString "/claim/cut.py") 370, .int 63 0, .int 2 0, .int 0 0, .int 0 0, .int 3 0, .ref 132, .bool true, .int 181 0, .ref 133, .none, .ref 134, .ref 135, .ref 136, .int 373 0, .int 63 0, .str (.ofString "/claim/cut.py") 374], #[]⟩),
  (nat_lit 138, ⟨.type "function", none, .func ⟨.ofString "__init__", .ofString "Cells.__init__", F138.1.1, .stmts F138.1.2.1, F138.1.2.2, 3, [], .none, .none, .none, .str (.ofString "outlinemill.cells") 272, none, .ref 137, .none, 0⟩, #[]⟩),
  (nat_lit 139, ⟨.type "tuple", none, .seq #[] 0, #[]⟩),
  (nat_lit 141, ⟨.type "tuple", none, .seq #[.str (.ofString "self") 379, .str (.ofString "column") 380, .str (.ofString "row") 381, .str (.ofString "cells") 382] 0, #[]⟩),
  (nat_lit 142, ⟨.type "tuple", none, .seq #[] 0, #[]⟩),
  (nat_lit 144, ⟨.type "code", none, .fields #[.str (.ofString "cell") 376, .str (.ofString "Cells.cell") 377, .str (.ofString "/claim/cut.py") 378, .int 67 0, .int 3 0, .int 0 0, .int 0 0, .int 3 0, .ref 139, .bool true, .int 181 0, .ref 140, .none, .ref 141, .ref 142, .ref 143, .int 383 0, .int 67 0, .str (.ofString "/claim/cut.py") 384], #[]⟩),
  (nat_lit 145, ⟨.type "function", none, .func ⟨.ofString "cell", .ofString "Cells.cell", F145.1.1, .stmts F145.1.2.1, F145.1.2.2, 3, [], .none, .none, .none, .str (.ofString "outlinemill.cells") 272, none, .ref 144, .none, 0⟩, #[]⟩),
  (nat_lit 146, ⟨.type "tuple", none, .seq #[] 0, #[]⟩),
  (nat_lit 148, ⟨.type "tuple", none, .seq #[.str (.ofString "self") 389, .str (.ofString "side") 390, .str (.ofString "row") 391, .str (.ofString "upper") 392, .str (.ofString "lower") 393, .str (.ofString "column") 394, .str (.ofString "cover") 395, .str (.ofString "area") 396, .str (.ofString "told") 397] 0, #[]⟩),
  (nat_lit 149, ⟨.type "tuple", none, .seq #[] 0, #[]⟩),
  (nat_lit 151, ⟨.type "code", none, .fields #[.str (.ofString "add_side") 386, .str (.ofString "Cells.add_side") 387, .str (.ofString "/claim/cut.py") 388, .int 73 0, .int 2 0, .int 0 0, .int 0 0, .int 3 0, .ref 146, .bool true, .int 181 0, .ref 147, .none, .ref 148, .ref 149, .ref 150, .int 398 0, .int 73 0, .str (.ofString "/claim/cut.py") 399], #[]⟩),
  (nat_lit 152, ⟨.type "function", none, .func ⟨.ofString "add_side", .ofString "Cells.add_side", F152.1.1, .stmts F152.1.2.1, F152.1.2.2, 3, [], .none, .none, .none, .str (.ofString "outlinemill.cells") 272, none, .ref 151, .none, 0⟩, #[]⟩),
  (nat_lit 153, ⟨.type "tuple", none, .seq #[] 0, #[]⟩),
  (nat_lit 155, ⟨.type "tuple", none, .seq #[.str (.ofString "self") 404, .str (.ofString "sides") 405, .str (.ofString "side") 406] 0, #[]⟩),
  (nat_lit 156, ⟨.type "tuple", none, .seq #[] 0, #[]⟩),
  (nat_lit 158, ⟨.type "code", none, .fields #[.str (.ofString "add_sides") 401, .str (.ofString "Cells.add_sides") 402, .str (.ofString "/claim/cut.py") 403, .int 79 0, .int 2 0, .int 0 0, .int 0 0, .int 3 0, .ref 153, .bool true, .int 181 0, .ref 154, .none, .ref 155, .ref 156, .ref 157, .int 407 0, .int 79 0, .str (.ofString "/claim/cut.py") 408], #[]⟩),
  (nat_lit 159, ⟨.type "function", none, .func ⟨.ofString "add_sides", .ofString "Cells.add_sides", F159.1.1, .stmts F159.1.2.1, F159.1.2.2, 3, [], .none, .none, .none, .str (.ofString "outlinemill.cells") 272, none, .ref 158, .none, 0⟩, #[]⟩),
  (nat_lit 160, ⟨.type "tuple", none, .seq #[] 0, #[]⟩),
  (nat_lit 163, ⟨.type "code", none, .fields #[.str (.ofString "columns") 410, .str (.ofString "Cells.columns") 411, .str (.ofString "/claim/cut.py") 412, .int 83 0, .int 2 0, .int 0 0, .int 0 0, .int 3 0, .ref 160, .bool true, .int 181 0, .ref 161, .none, .none, .none, .ref 162, .int 413 0, .int 83 0, .str (.ofString "/claim/cut.py") 414], #[]⟩),
  (nat_lit 164, ⟨.type "function", none, .func ⟨.ofString "columns", .ofString "Cells.columns", F164.1.1, .stmts F164.1.2.1, F164.1.2.2, 3, [], .none, .none, .none, .str (.ofString "outlinemill.cells") 272, none, .ref 163, .none, 0⟩, #[]⟩),
  (nat_lit 165, ⟨.type "tuple", none, .seq #[] 0, #[]⟩),
  (nat_lit 167, ⟨.type "tuple", none, .seq #[.str (.ofString "self") 419, .str (.ofString "area") 420] 0, #[]⟩),
  (nat_lit 168, ⟨.type "tuple", none, .seq #[] 0, #[]⟩),
  (nat_lit 170, ⟨.type "code", none, .fields #[.str (.ofString "shared") 416, .str (.ofString "Cells.shared") 417, .str (.ofString "/claim/cut.py") 418, .int 86 0, .int 2 0, .int 0 0, .int 0 0, .int 3 0, .ref 165, .bool true, .int 181 0, .ref 166, .none, .ref 167, .ref 168, .ref 169, .int 421 0, .int 86 0, .str (.ofString "/claim/cut.py") 422], #[]⟩),
  (nat_lit 171, ⟨.type "function", none, .func ⟨.ofString "shared", .ofString "Cells.shared", F171.1.1, .stmts F171.1.2.1, F171.1.2.2, 3, [], .none, .none, .none, .str (.ofString "outlinemill.cells") 272, none, .ref 170, .none, 0⟩, #[]⟩),
  (nat_lit 172, ⟨.type "tuple", none, .seq #[] 0, #[]⟩),
  (nat_lit 174, ⟨.type "tuple", none, .seq #[.str (.ofString "self") 427, .str (.ofString "column") 428, .str (.ofString "row") 429] 0, #[]⟩),
  (nat_lit 175, ⟨.type "tuple", none, .seq #[] 0, #[]⟩),
  (nat_lit 177, ⟨.type "code", none, .fields #[.str (.ofString "area") 424, .str (.ofString "Cells.area") 425, .str (.ofString "/claim/cut.py") 426, .int 89 0, .int 3 0, .int 0 0, .int 0 0, .int 3 0, .ref 172, .bool true, .int 181 0, .ref 173, .none, .ref 174, .ref 175, .ref 176, .int 430 0, .int 89 0, .str (.ofString "/claim/cut.py") 431], #[]⟩),
  (nat_lit 178, ⟨.type "function", none, .func ⟨.ofString "area", .ofString "Cells.area", F178.1.1, .stmts F178.1.2.1, F178.1.2.2, 3, [], .none, .none, .none, .str (.ofString "outlinemill.cells") 272, none, .ref 177, .none, 0⟩, #[]⟩),
  (nat_lit 179, ⟨.type "tuple", none, .seq #[] 0, #[]⟩),
  (nat_lit 181, ⟨.type "tuple", none, .seq #[.str (.ofString "self") 436, .str (.ofString "row") 437, .str (.ofString "first") 438, .str (.ofString "last") 439, .str (.ofString "cells") 440, .str (.ofString "ahead") 441, .str (.ofString "column") 442, .str (.ofString "found") 443, .str (.ofString "total") 444] 0, #[]⟩),
  (nat_lit 182, ⟨.type "tuple", none, .seq #[] 0, #[]⟩),
  (nat_lit 184, ⟨.type "code", none, .fields #[.str (.ofString "row_areas") 433, .str (.ofString "Cells.row_areas") 434, .str (.ofString "/claim/cut.py") 435, .int 92 0, .int 4 0, .int 0 0, .int 0 0, .int 3 0, .ref 179, .bool true, .int 181 0, .ref 180, .none, .ref 181, .ref 182, .ref 183, .int 445 0, .int 92 0, .str (.ofString "/claim/cut.py") 446], #[]⟩),
  (nat_lit 185, ⟨.type "function", none, .func ⟨.ofString "row_areas", .ofString "Cells.row_areas", F185.1.1, .stmts F185.1.2.1, F185.1.2.2, 3, [], .none, .none, .none, .str (.ofString "outlinemill.cells") 272, none, .ref 184, .none, 0⟩, #[]⟩),
  (nat_lit 186, ⟨.type "tuple", none, .seq #[] 0, #[]⟩),
  (nat_lit 188, ⟨.type "tuple", none, .seq #[.str (.ofString "self") 451, .str (.ofString "total") 452, .str (.ofString "row") 453, .str (.ofString "columns") 454, .str (.ofString "area") 455] 0, #[]⟩),
  (nat_lit 189, ⟨.type "tuple", none, .seq #[] 0, #[]⟩),
  (nat_lit 191, ⟨.type "code", none, .fields #[.str (.ofString "whole") 448, .str (.ofString "Cells.whole") 449, .str (.ofString "/claim/cut.py") 450, .int 107 0, .int 1 0, .int 0 0, .int 0 0, .int 3 0, .ref 186, .bool true, .int 181 0, .ref 187, .none, .ref 188, .ref 189, .ref 190, .int 456 0, .int 107 0, .str (.ofString "/claim/cut.py") 457], #[]⟩),
  (nat_lit 192, ⟨.type "function", none, .func ⟨.ofString "whole", .ofString "Cells.whole", F192.1.1, .stmts F192.1.2.1, F192.1.2.2, 3, [], .none, .none, .none, .str (.ofString "outlinemill.cells") 272, none, .ref 191, .none, 0⟩, #[]⟩),
  (nat_lit 193, ⟨.type "tuple", none, .seq #[.str (.ofString "grain") 459, .str (.ofString "rows") 460] 0, #[]⟩),
  (nat_lit 194, ⟨.type "dict", none, .dict #[⟨PyData.keyHash P (.ofString "__module__"), .str (.ofString "__module__") 363, .str (.ofString "outlinemill.cells") 272⟩, ⟨PyData.keyHash P (.ofString "__firstlineno__"), .str (.ofString "__firstlineno__") 367, .int 61 366⟩, ⟨PyData.keyHash P (.ofString "__init__"), .str (.ofString "__init__") 375, .ref 138⟩, ⟨PyData.keyHash P (.ofString "cell"), .str (.ofString "cell") 385, .ref 145⟩, ⟨PyData.keyHash P (.ofString "add_side"), .str (.ofString "add_side") 400, .ref 152⟩, ⟨PyData.keyHash P (.ofString "add_sides"), .str (.ofString "add_sides") 409, .ref 159⟩, ⟨PyData.keyHash P (.ofString "columns"), .str (.ofString "columns") 415, .ref 164⟩, ⟨PyData.keyHash P (.ofString "shared"), .str (.ofString "shared") 423, .ref 171⟩, ⟨PyData.keyHash P (.ofString "area"), .str (.ofString "area") 432, .ref 178⟩, ⟨PyData.keyHash P (.ofString "row_areas"), .str (.ofString "row_areas") 447, .ref 185⟩, ⟨PyData.keyHash P (.ofString "whole"), .str (.ofString "whole") 458, .ref 192⟩, ⟨PyData.keyHash P (.ofString "__static_attributes__"), .str (.ofString "__static_attributes__") 461, .ref 193⟩, ⟨PyData.keyHash P (.ofString "__dict__"), .str (.ofString "__dict__") 463, .ref 196⟩, ⟨PyData.keyHash P (.ofString "__weakref__"), .str (.ofString "__weakref__") 465, .ref 197⟩, ⟨PyData.keyHash P (.ofString "__doc__"), .str (.ofString "__doc__") 466, .none⟩] 4, #[]⟩),
  (nat_lit 195, ⟨.type "type", none, .cls ⟨.ofString "Cells", [.type "object"], [.ref 195, .type "object"], 194, .ofString "Cells", true, [], [], false, none, false⟩, #[none, none, some (.str (.ofString "Cells") 356), some (.str (.ofString "Cells") 364), some (.builtin "object.__new__"), some (.bool true)]⟩),
  (nat_lit 196, ⟨.type "getset_descriptor", none, .fields #[.str (.ofString "__dict__") 462, .ref 195, .builtin "function.__dict__", .builtin "function.__dict__#set"], #[]⟩),
  (nat_lit 197, ⟨.type "getset_descriptor", none, .fields #[.str (.ofString "__weakref__") 464, .ref 195, .builtin "ExceptionGroup.__weakref__", .none], #[]⟩),
  (nat_lit 207, ⟨.type "tuple", none, .seq #[] 0, #[]⟩),
  (nat_lit 209, ⟨.type "tuple", none, .seq #[.str (.ofString "self") 486, .str (.ofString "x1") 487, .str (.ofString "y1") 488, .str (.ofString "x2") 489, .str (.ofString "y2") 490, .str (.ofString "way") 491] 0, #[]⟩),
  (nat_lit 210, ⟨.type "tuple", none, .seq #[] 0, #[]⟩),
  (nat_lit 212, ⟨.type "code", none, .fields #[.str (.ofString "__init__") 483, .str (.ofString "Side.__init__") 484, .str (.ofString "/claim/cut.py") 485, .int 117 0, .int 6 0, .int 0 0, .int 0 0, .int 3 0, .ref 207, .bool true, .int 181 0, .ref 208, .none, .ref 209, .ref 210, .ref 211, .int 492 0, .int 117 0, .str (.ofString "/claim/cut.py") 493], #[]⟩),
  (nat_lit 213, ⟨.type "function", none, .func ⟨.ofString "__init__", .ofString "Side.__init__", F213.1.1, .stmts F213.1.2.1, F213.1.2.2, 3, [], .none, .none, .none, .str (.ofString "outlinemill.sides") 469, none, .ref 212, .none, 0⟩, #[]⟩),
  (nat_lit 214, ⟨.type "tuple", none, .seq #[] 0, #[]⟩),
  (nat_lit 216, ⟨.type "tuple", none, .seq #[.str (.ofString "self") 498] 0, #[]⟩),
  (nat_lit 217, ⟨.type "tuple", none, .seq #[] 0, #[]⟩),
  (nat_lit 219, ⟨.type "code", none, .fields #[.str (.ofString "row") 495, .str (.ofString "Side.row") 496, .str (.ofString "/claim/cut.py") 497, .int 124 0, .int 1 0, .int 0 0, .int 0 0, .int 3 0, .ref 214, .bool true, .int 181 0, .ref 215, .none, .ref 216, .ref 217, .ref 218, .int 499 0, .int 124 0, .str (.ofString "/claim/cut.py") 500], #[]⟩),
  (nat_lit 220, ⟨.type "function", none, .func ⟨.ofString "row", .ofString "Side.row", F220.1.1, .stmts F220.1.2.1, F220.1.2.2, 3, [], .none, .none, .none, .str (.ofString "outlinemill.sides") 469, none, .ref 219, .none, 0⟩, #[]⟩),
  (nat_lit 221, ⟨.type "tuple", none, .seq #[] 0, #[]⟩),
  (nat_lit 223, ⟨.type "tuple", none, .seq #[.str (.ofString "self") 505, .str (.ofString "y") 506] 0, #[]⟩),
  (nat_lit 224, ⟨.type "tuple", none, .seq #[] 0, #[]⟩),
  (nat_lit 226, ⟨.type "code", none, .fields #[.str (.ofString "covers") 502, .str (.ofString "Side.covers") 503, .str (.ofString "/claim/cut.py") 504, .int 127 0, .int 2 0, .int 0 0, .int 0 0, .int 3 0, .ref 221, .bool true, .int 181 0, .ref 222, .none, .ref 223, .ref 224, .ref 225, .int 507 0, .int 127 0, .str (.ofString "/claim/cut.py") 508], #[]⟩),
  (nat_lit 227, ⟨.type "function", none, .func ⟨.ofString "covers", .ofString "Side.covers", F227.1.1, .stmts F227.1.2.1, F227.1.2.2, 3, [], .none, .none, .none, .str (.ofString "outlinemill.sides") 469, none, .ref 226, .none, 0⟩, #[]⟩),
  (nat_lit 228, ⟨.type "tuple", none, .seq #[] 0, #[]⟩),
  (nat_lit 230, ⟨.type "tuple", none, .seq #[.str (.ofString "self") 513, .str (.ofString "y") 514, .str (.ofString "high") 515] 0, #[]⟩),
  (nat_lit 231, ⟨.type "tuple", none, .seq #[] 0, #[]⟩),
  (nat_lit 233, ⟨.type "code", none, .fields #[.str (.ofString "place_at") 510, .str (.ofString "Side.place_at") 511, .str (.ofString "/claim/cut.py") 512, .int 130 0, .int 2 0, .int 0 0, .int 0 0, .int 3 0, .ref 228, .bool true, .int 181 0, .ref 229, .none, .ref 230, .ref 231, .ref 232, .int 516 0, .int 130 0, .str (.ofString "/claim/cut.py") 517], #[]⟩),
  (nat_lit 234, ⟨.type "function", none, .func ⟨.ofString "place_at", .ofString "Side.place_at", F234.1.1, .stmts F234.1.2.1, F234.1.2.2, 3, [], .none, .none, .none, .str (.ofString "outlinemill.sides") 469, none, .ref 233, .none, 0⟩, #[]⟩),
  (nat_lit 235, ⟨.type "tuple", none, .seq #[.str (.ofString "way") 519, .str (.ofString "x1") 520, .str (.ofString "x2") 521, .str (.ofString "y1") 522, .str (.ofString "y2") 523] 0, #[]⟩),
  (nat_lit 236, ⟨.type "dict", none, .dict #[⟨PyData.keyHash P (.ofString "__module__"), .str (.ofString "__module__") 478, .str (.ofString "outlinemill.sides") 469⟩, ⟨PyData.keyHash P (.ofString "__firstlineno__"), .str (.ofString "__firstlineno__") 482, .int 115 481⟩, ⟨PyData.keyHash P (.ofString "__init__"), .str (.ofString "__init__") 494, .ref 213⟩, ⟨PyData.keyHash P (.ofString "row"), .str (.ofString "row") 501, .ref 220⟩, ⟨PyData.keyHash P (.ofString "covers"), .str (.ofString "covers") 509, .ref 227⟩, ⟨PyData.keyHash P (.ofString "place_at"), .str (.ofString "place_at") 518, .ref 234⟩, ⟨PyData.keyHash P (.ofString "__static_attributes__"), .str (.ofString "__static_attributes__") 524, .ref 235⟩, ⟨PyData.keyHash P (.ofString "__dict__"), .str (.ofString "__dict__") 526, .ref 238⟩, ⟨PyData.keyHash P (.ofString "__weakref__"), .str (.ofString "__weakref__") 528, .ref 239⟩, ⟨PyData.keyHash P (.ofString "__doc__"), .str (.ofString "__doc__") 529, .none⟩] 4, #[]⟩),
  (nat_lit 237, ⟨.type "type", none, .cls ⟨.ofString "Side", [.type "object"], [.ref 237, .type "object"], 236, .ofString "Side", true, [], [], false, none, false⟩, #[none, none, some (.str (.ofString "Side") 471), some (.str (.ofString "Side") 479), some (.builtin "object.__new__"), some (.bool true)]⟩),
  (nat_lit 238, ⟨.type "getset_descriptor", none, .fields #[.str (.ofString "__dict__") 525, .ref 237, .builtin "function.__dict__", .builtin "function.__dict__#set"], #[]⟩),
  (nat_lit 239, ⟨.type "getset_descriptor", none, .fields #[.str (.ofString "__weakref__") 527, .ref 237, .builtin "ExceptionGroup.__weakref__", .none], #[]⟩),
  (nat_lit 242, ⟨.type "tuple", none, .seq #[] 0, #[]⟩),
  (nat_lit 244, ⟨.type "tuple", none, .seq #[.str (.ofString "one") 535, .str (.ofString "other") 536] 0, #[]⟩),
  (nat_lit 245, ⟨.type "tuple", none, .seq #[] 0, #[]⟩),
  (nat_lit 247, ⟨.type "code", none, .fields #[.str (.ofString "side_between") 532, .str (.ofString "side_between") 533, .str (.ofString "/claim/cut.py") 534, .int 133 0, .int 2 0, .int 0 0, .int 0 0, .int 3 0, .ref 242, .bool true, .int 181 0, .ref 243, .none, .ref 244, .ref 245, .ref 246, .int 537 0, .int 133 0, .str (.ofString "/claim/cut.py") 538], #[]⟩),
  (nat_lit 248, ⟨.type "function", none, .func ⟨.ofString "side_between", .ofString "side_between", F248.1.1, .stmts F248.1.2.1, F248.1.2.2, 3, [], .none, .none, .none, .str (.ofString "outlinemill.sides") 469, none, .ref 247, .none, 0⟩, #[]⟩),
  (nat_lit 249, ⟨.type "tuple", none, .seq #[] 0, #[]⟩),
  (nat_lit 251, ⟨.type "tuple", none, .seq #[.str (.ofString "spots") 543, .str (.ofString "is_closed") 544, .str (.ofString "pairs") 545, .str (.ofString "found") 546, .str (.ofString "one") 547, .str (.ofString "other") 548, .str (.ofString "side") 549] 0, #[]⟩),
  (nat_lit 252, ⟨.type "tuple", none, .seq #[] 0, #[]⟩),
  (nat_lit 254, ⟨.type "code", none, .fields #[.str (.ofString "sides_of_contour") 540, .str (.ofString "sides_of_contour") 541, .str (.ofString "/claim/cut.py") 542, .int 139 0, .int 2 0, .int 0 0, .int 0 0, .int 3 0, .ref 249, .bool true, .int 181 0, .ref 250, .none, .ref 251, .ref 252, .ref 253, .int 550 0, .int 139 0, .str (.ofString "/claim/cut.py") 551], #[]⟩),
  (nat_lit 255, ⟨.type "function", none, .func ⟨.ofString "sides_of_contour", .ofString "sides_of_contour", F255.1.1, .stmts F255.1.2.1, F255.1.2.2, 3, [], .none, .none, .none, .str (.ofString "outlinemill.sides") 469, none, .ref 254, .none, 0⟩, #[]⟩),
  (nat_lit 256, ⟨.type "tuple", none, .seq #[.bool true] 0, #[]⟩),
  (nat_lit 257, ⟨.type "tuple", none, .seq #[] 0, #[]⟩),
  (nat_lit 259, ⟨.type "tuple", none, .seq #[.str (.ofString "contours") 556, .str (.ofString "is_closing") 557, .str (.ofString "found") 558, .str (.ofString "spots") 559, .str (.ofString "is_closed") 560] 0, #[]⟩),
  (nat_lit 260, ⟨.type "tuple", none, .seq #[] 0, #[]⟩),
  (nat_lit 262, ⟨.type "code", none, .fields #[.str (.ofString "sides_of") 553, .str (.ofString "sides_of") 554, .str (.ofString "/claim/cut.py") 555, .int 149 0, .int 2 0, .int 0 0, .int 0 0, .int 3 0, .ref 257, .bool true, .int 181 0, .ref 258, .none, .ref 259, .ref 260, .ref 261, .int 561 0, .int 149 0, .str (.ofString "/claim/cut.py") 562], #[]⟩),
  (nat_lit 263, ⟨.type "function", none, .func ⟨.ofString "sides_of", .ofString "sides_of", F263.1.1, .stmts F263.1.2.1, F263.1.2.2, 3, [], .ref 256, .none, .none, .str (.ofString "outlinemill.sides") 469, none, .ref 262, .none, 0⟩, #[]⟩),
  (nat_lit 264, ⟨.type "tuple", none, .seq #[] 0, #[]⟩),
  (nat_lit 266, ⟨.type "tuple", none, .seq #[.str (.ofString "script") 569, .str (.ofString "k") 570, .str (.ofString "cell") 571, .str (.ofString "big") 572, .str (.ofString "mixed") 573] 0, #[]⟩),
  (nat_lit 267, ⟨.type "tuple", none, .seq #[] 0, #[]⟩),
  (nat_lit 269, ⟨.type "code", none, .fields #[.str (.ofString "_law_pool") 566, .str (.ofString "_law_pool") 567, .str (.ofString "/claim/cut.py") 568, .int 155 0, .int 2 0, .int 0 0, .int 0 0, .int 3 0, .ref 264, .bool true, .int 181 0, .ref 265, .none, .ref 266, .ref 267, .ref 268, .int 574 0, .int 155 0, .str (.ofString "/claim/cut.py") 575], #[]⟩),
  (nat_lit 270, ⟨.type "function", none, .func ⟨.ofString "_law_pool", .ofString "_law_pool", F270.1.1, .stmts F270.1.2.1, F270.1.2.2, 3, [], .none, .none, .none, .str (.ofString "law_nu0018_01") 564, none, .ref 269, .none, 0⟩, #[]⟩),
  (nat_lit 271, ⟨.type "tuple", none, .seq #[] 0, #[]⟩),
  (nat_lit 273, ⟨.type "tuple", none, .seq #[.str (.ofString "source") 580, .str (.ofString "top") 581, .str (.ofString "drawn") 582] 0, #[]⟩),
  (nat_lit 274, ⟨.type "tuple", none, .seq #[] 0, #[]⟩),
  (nat_lit 276, ⟨.type "code", none, .fields #[.str (.ofString "_law_take") 577, .str (.ofString "_law_take") 578, .str (.ofString "/claim/cut.py") 579, .int 162 0, .int 2 0, .int 0 0, .int 0 0, .int 3 0, .ref 271, .bool true, .int 181 0, .ref 272, .none, .ref 273, .ref 274, .ref 275, .int 583 0, .int 162 0, .str (.ofString "/claim/cut.py") 584], #[]⟩),
  (nat_lit 277, ⟨.type "function", none, .func ⟨.ofString "_law_take", .ofString "_law_take", F277.1.1, .stmts F277.1.2.1, F277.1.2.2, 3, [], .none, .none, .none, .str (.ofString "law_nu0018_01") 564, none, .ref 276, .none, 0⟩, #[]⟩),
  (nat_lit 278, ⟨.type "tuple", none, .seq #[] 0, #[]⟩),
  (nat_lit 281, ⟨.type "code", none, .fields #[.str (.ofString "_law_part") 586, .str (.ofString "_law_part") 587, .str (.ofString "/claim/cut.py") 588, .int 169 0, .int 4 0, .int 0 0, .int 0 0, .int 3 0, .ref 278, .bool true, .int 181 0, .ref 279, .none, .none, .none, .ref 280, .int 589 0, .int 169 0, .str (.ofString "/claim/cut.py") 590], #[]⟩),
  (nat_lit 282, ⟨.type "function", none, .func ⟨.ofString "_law_part", .ofString "_law_part", F282.1.1, .stmts F282.1.2.1, F282.1.2.2, 3, [], .none, .none, .none, .str (.ofString "law_nu0018_01") 564, none, .ref 281, .none, 0⟩, #[]⟩),
  (nat_lit 283, ⟨.type "tuple", none, .seq #[] 0, #[]⟩),
  (nat_lit 286, ⟨.type "code", none, .fields #[.str (.ofString "_law_cut") 592, .str (.ofString "_law_cut") 593, .str (.ofString "/claim/cut.py") 594, .int 176 0, .int 4 0, .int 0 0, .int 0 0, .int 3 0, .ref 283, .bool true, .int 181 0, .ref 284, .none, .none, .none, .ref 285, .int 595 0, .int 176 0, .str (.ofString "/claim/cut.py") 596], #[]⟩),
  (nat_lit 287, ⟨.type "function", none, .func ⟨.ofString "_law_cut", .ofString "_law_cut", F287.1.1, .stmts F287.1.2.1, F287.1.2.2, 3, [], .none, .none, .none, .str (.ofString "law_nu0018_01") 564, none, .ref 286, .none, 0⟩, #[]⟩),
  (nat_lit 288, ⟨.type "tuple", none, .seq #[] 0, #[]⟩),
  (nat_lit 290, ⟨.type "tuple", none, .seq #[.str (.ofString "points") 601, .str (.ofString "top") 602, .str (.ofString "bottom") 603, .str (.ofString "at") 604, .str (.ofString "a") 605, .str (.ofString "b") 606, .str (.ofString "c") 607, .str (.ofString "d") 608, .str (.ofString "e") 609, .str (.ofString "f") 610, .str (.ofString "g") 611, .str (.ofString "h") 612, .str (.ofString "more") 613, .str (.ofString "under") 614] 0, #[]⟩),
  (nat_lit 291, ⟨.type "tuple", none, .seq #[] 0, #[]⟩),
  (nat_lit 293, ⟨.type "code", none, .fields #[.str (.ofString "_law_area") 598, .str (.ofString "_law_area") 599, .str (.ofString "/claim/cut.py") 600, .int 186 0, .int 1 0, .int 0 0, .int 0 0, .int 3 0, .ref 288, .bool true, .int 181 0, .ref 289, .none, .ref 290, .ref 291, .ref 292, .int 615 0, .int 186 0, .str (.ofString "/claim/cut.py") 616], #[]⟩),
  (nat_lit 294, ⟨.type "function", none, .func ⟨.ofString "_law_area", .ofString "_law_area", F294.1.1, .stmts F294.1.2.1, F294.1.2.2, 3, [], .none, .none, .none, .str (.ofString "law_nu0018_01") 564, none, .ref 293, .none, 0⟩, #[]⟩),
  (nat_lit 295, ⟨.type "tuple", none, .seq #[] 0, #[]⟩),
  (nat_lit 298, ⟨.type "code", none, .fields #[.str (.ofString "_law_due") 618, .str (.ofString "_law_due") 619, .str (.ofString "/claim/cut.py") 620, .int 194 0, .int 3 0, .int 0 0, .int 0 0, .int 3 0, .ref 295, .bool true, .int 181 0, .ref 296, .none, .none, .none, .ref 297, .int 621 0, .int 194 0, .str (.ofString "/claim/cut.py") 622], #[]⟩),
  (nat_lit 299, ⟨.type "function", none, .func ⟨.ofString "_law_due", .ofString "_law_due", F299.1.1, .stmts F299.1.2.1, F299.1.2.2, 3, [], .none, .none, .none, .str (.ofString "law_nu0018_01") 564, none, .ref 298, .none, 0⟩, #[]⟩),
  (nat_lit 300, ⟨.type "tuple", none, .seq #[] 0, #[]⟩),
  (nat_lit 302, ⟨.type "tuple", none, .seq #[.str (.ofString "told") 627, .str (.ofString "due") 628, .str (.ofString "many") 629] 0, #[]⟩),
  (nat_lit 303, ⟨.type "tuple", none, .seq #[] 0, #[]⟩),
  (nat_lit 305, ⟨.type "code", none, .fields #[.str (.ofString "_law_is") 624, .str (.ofString "_law_is") 625, .str (.ofString "/claim/cut.py") 626, .int 201 0, .int 3 0, .int 0 0, .int 0 0, .int 3 0, .ref 300, .bool true, .int 181 0, .ref 301, .none, .ref 302, .ref 303, .ref 304, .int 630 0, .int 201 0, .str (.ofString "/claim/cut.py") 631], #[]⟩),
  (nat_lit 306, ⟨.type "function", none, .func ⟨.ofString "_law_is", .ofString "_law_is", F306.1.1, .stmts F306.1.2.1, F306.1.2.2, 3, [], .none, .none, .none, .str (.ofString "law_nu0018_01") 564, none, .ref 305, .none, 0⟩, #[]⟩),
  (nat_lit 307, ⟨.type "tuple", none, .seq #[] 0, #[]⟩),
  (nat_lit 310, ⟨.type "code", none, .fields #[.str (.ofString "law") 633, .str (.ofString "law") 634, .str (.ofString "/claim/cut.py") 635, .int 203 0, .int 1 0, .int 0 0, .int 0 0, .int 3 0, .ref 307, .bool true, .int 181 0, .ref 308, .none, .none, .none, .ref 309, .int 636 0, .int 203 0, .str (.ofString "/claim/cut.py") 637], #[]⟩),
  (nat_lit 311, ⟨.type "function", none, .func ⟨.ofString "law", .ofString "law", F311.1.1, .stmts F311.1.2.1, F311.1.2.2, 3, [], .none, .none, .none, .str (.ofString "law_nu0018_01") 564, none, .ref 310, .none, 0⟩, #[]⟩)]
/-- the objects behind the top's run -/
noncomputable def hF.objs (P : Params) : List Obj := [
  W.boot_o_0 P,
  W.boot_o_1 P,
  ⟨.none, none, .dict #[⟨PyData.keyHash P (.ofString "type.__subclasses__.Exception.0"), .str (.ofString "type.__subclasses__.Exception.0") 214, .int 31 0⟩, ⟨PyData.keyHash P (.ofString "type.__subclasses__.Exception.n"), .str (.ofString "type.__subclasses__.Exception.n") 215, .int 1 0⟩] 2, #[]⟩,
  ⟨.type "dict", none, .dict #[⟨PyData.keyHash P (.ofString "__name__"), .str (.ofString "__name__") 165, .str (.ofString "law_nu0018_01") 564⟩, ⟨PyData.keyHash P (.ofString "__doc__"), .str (.ofString "__doc__") 166, .none⟩, ⟨PyData.keyHash P (.ofString "__package__"), .str (.ofString "__package__") 167, .none⟩, ⟨PyData.keyHash P (.ofString "__loader__"), .str (.ofString "__loader__") 168, .builtin "__main__.__loader__#opaque"⟩, ⟨PyData.keyHash P (.ofString "__spec__"), .str (.ofString "__spec__") 169, .none⟩, ⟨PyData.keyHash P (.ofString "__annotations__"), .str (.ofString "__annotations__") 170, .ref 6⟩, ⟨PyData.keyHash P (.ofString "__builtins__"), .str (.ofString "__builtins__") 171, .ref 4⟩, ⟨PyData.keyHash P (.ofString "__file__"), .str (.ofString "__file__") 173, .str (.ofString "/claim/cut.py") 172⟩, ⟨PyData.keyHash P (.ofString "__cached__"), .str (.ofString "__cached__") 174, .none⟩, ⟨PyData.keyHash P (.ofString "MillError"), .str (.ofString "MillError") 217, .ref 31⟩, ⟨PyData.keyHash P (.ofString "NumberFault"), .str (.ofString "NumberFault") 233, .ref 44⟩, ⟨PyData.keyHash P (.ofString "common_divisor"), .str (.ofString "common_divisor") 245, .ref 53⟩, ⟨PyData.keyHash P (.ofString "fraction"), .str (.ofString "fraction") 255, .ref 61⟩, ⟨PyData.keyHash P (.ofString "plus"), .str (.ofString "plus") 263, .ref 68⟩, ⟨PyData.keyHash P (.ofString "times"), .str (.ofString "times") 271, .ref 75⟩, ⟨PyData.keyHash P (.ofString "Cell"), .str (.ofString "Cell") 311, .ref 99⟩, ⟨PyData.keyHash P (.ofString "row_pieces"), .str (.ofString "row_pieces") 323, .ref 110⟩, ⟨PyData.keyHash P (.ofString "upright_piece"), .str (.ofString "upright_piece") 333, .ref 117⟩, ⟨PyData.keyHash P (.ofString "column_pieces"), .str (.ofString "column_pieces") 355, .ref 124⟩, ⟨PyData.keyHash P (.ofString "Cells"), .str (.ofString "Cells") 468, .ref 195⟩, ⟨PyData.keyHash P (.ofString "Side"), .str (.ofString "Side") 531, .ref 237⟩, ⟨PyData.keyHash P (.ofString "side_between"), .str (.ofString "side_between") 539, .ref 248⟩, ⟨PyData.keyHash P (.ofString "sides_of_contour"), .str (.ofString "sides_of_contour") 552, .ref 255⟩, ⟨PyData.keyHash P (.ofString "sides_of"), .str (.ofString "sides_of") 563, .ref 263⟩, ⟨PyData.keyHash P (.ofString "_law_pool"), .str (.ofString "_law_pool") 576, .ref 270⟩, ⟨PyData.keyHash P (.ofString "_law_take"), .str (.ofString "_law_take") 585, .ref 277⟩, ⟨PyData.keyHash P (.ofString "_law_part"), .str (.ofString "_law_part") 591, .ref 282⟩, ⟨PyData.keyHash P (.ofString "_law_cut"), .str (.ofString "_law_cut") 597, .ref 287⟩, ⟨PyData.keyHash P (.ofString "_law_area"), .str (.ofString "_law_area") 617, .ref 294⟩, ⟨PyData.keyHash P (.ofString "_law_due"), .str (.ofString "_law_due") 623, .ref 299⟩, ⟨PyData.keyHash P (.ofString "_law_is"), .str (.ofString "_law_is") 632, .ref 306⟩, ⟨PyData.keyHash P (.ofString "law"), .str (.ofString "law") 638, .ref 311⟩] 32, #[]⟩,
  W.boot_o_4 P,
  W.boot_o_5 P,
  W.boot_o_6 P,
  W.boot_o_7 P,
  W.boot_o_8 P,
  W.boot_o_9 P,
  W.boot_o_10 P,
  ⟨.type "tuple", none, .seq #[] 0, #[]⟩,
  ⟨.none, none, .fields #[.int 2 0, .int 0 0, .ref 20, .int 6 0, .int 0 0, .ref 40, .int 9 0, .int 0 0, .ref 52, .int 14 0, .int 0 0, .ref 60, .int 21 0, .int 0 0, .ref 67, .int 23 0, .int 0 0, .ref 74, .int 26 0, .int 0 0, .ref 81, .int 35 0, .int 0 0, .ref 109, .int 44 0, .int 0 0, .ref 116, .int 47 0, .int 0 0, .ref 123, .int 61 0, .int 0 0, .ref 130, .int 115 0, .int 0 0, .ref 205, .int 133 0, .int 0 0, .ref 247, .int 139 0, .int 0 0, .ref 254, .int 149 0, .int 0 0, .ref 262, .int 155 0, .int 0 0, .ref 269, .int 162 0, .int 0 0, .ref 276, .int 169 0, .int 0 0, .ref 281, .int 176 0, .int 0 0, .ref 286, .int 186 0, .int 0 0, .ref 293, .int 194 0, .int 0 0, .ref 298, .int 201 0, .int 0 0, .ref 305, .int 203 0, .int 0 0, .ref 310], #[]⟩,
  ⟨.type "code", none, .fields #[.str (.ofString "<module>") 182, .str (.ofString "<module>") 183, .str (.ofString "/claim/cut.py") 184, .int 1 0, .int 0 0, .int 0 0, .int 0 0, .int 0 0, .ref 11, .bool false, .int 181 0, .ref 12, .none, .none, .none, .none, .int 185 0, .int 1 0, .str (.ofString "/claim/cut.py") 186], #[]⟩,
  ⟨.type "frame", none, .plain, #[some (.ref 13), some (.ref 3), some (.ref 3), none, some (.str (.ofString "__main__") 164), none, some (.ref 0)]⟩,
  ⟨.type "tuple", none, .seq #[.type "Exception"] 0, #[]⟩,
  ⟨.type "builtin_function_or_method", none, .fields #[.builtin "type.__prepare__", .type "type"], #[]⟩,
  ⟨.type "dict", none, .dict #[⟨PyData.keyHash P (.ofString "__module__"), .str (.ofString "__module__") 196, .str (.ofString "outlinemill.errors") 187⟩, ⟨PyData.keyHash P (.ofString "__qualname__"), .str (.ofString "__qualname__") 198, .str (.ofString "MillError") 197⟩, ⟨PyData.keyHash P (.ofString "__firstlineno__"), .str (.ofString "__firstlineno__") 200, .int 2 199⟩, ⟨PyData.keyHash P (.ofString "__init__"), .str (.ofString "__init__") 208, .ref 28⟩, ⟨PyData.keyHash P (.ofString "__static_attributes__"), .str (.ofString "__static_attributes__") 210, .ref 29⟩] 5, #[]⟩,
  ⟨.type "tuple", none, .seq #[] 0, #[]⟩,
  ⟨.none, none, .fields #[.int 4 0, .int 4 0, .ref 27], #[]⟩,
  ⟨.type "code", none, .fields #[.str (.ofString "MillError") 191, .str (.ofString "MillError") 192, .str (.ofString "/claim/cut.py") 193, .int 2 0, .int 0 0, .int 0 0, .int 0 0, .int 0 0, .ref 18, .bool false, .int 181 0, .ref 19, .none, .none, .none, .none, .int 194 0, .int 2 0, .str (.ofString "/claim/cut.py") 195], #[]⟩,
  ⟨.type "frame", none, .plain, #[some (.ref 20), some (.ref 3), some (.ref 17), none, some (.str (.ofString "outlinemill.errors") 187), none, some (.ref 0)]⟩,
  ⟨.type "tuple", none, .seq #[] 0, #[]⟩,
  ⟨.none, none, .fields #[], #[]⟩,
  ⟨.type "tuple", none, .seq #[.str (.ofString "self") 204, .str (.ofString "message") 205] 0, #[]⟩,
  ⟨.type "tuple", none, .seq #[] 0, #[]⟩,
  ⟨.none, none, .func ⟨.ofString "__init__", .ofString "MillError.__init__", F28.1.1, .stmts F28.1.2.1, F28.1.2.2, 0, [], .none, .none, .none, .none, none, .none, .none, 0⟩, #[]⟩,
  ⟨.type "code", none, .fields #[.str (.ofString "__init__") 201, .str (.ofString "MillError.__init__") 202, .str (.ofString "/claim/cut.py") 203, .int 4 0, .int 2 0, .int 0 0, .int 0 0, .int 3 0, .ref 22, .bool true, .int 181 0, .ref 23, .none, .ref 24, .ref 25, .ref 26, .int 206 0, .int 4 0, .str (.ofString "/claim/cut.py") 207], #[]⟩,
  ⟨.type "function", none, .func ⟨.ofString "__init__", .ofString "MillError.__init__", F28.1.1, .stmts F28.1.2.1, F28.1.2.2, 3, [], .none, .none, .none, .str (.ofString "outlinemill.errors") 187, none, .ref 27, .none, 0⟩, #[]⟩,
  ⟨.type "tuple", none, .seq #[.str (.ofString "message") 209] 0, #[]⟩,
  ⟨.type "dict", none, .dict #[⟨PyData.keyHash P (.ofString "__module__"), .str (.ofString "__module__") 196, .str (.ofString "outlinemill.errors") 187⟩, ⟨PyData.keyHash P (.ofString "__firstlineno__"), .str (.ofString "__firstlineno__") 200, .int 2 199⟩, ⟨PyData.keyHash P (.ofString "__init__"), .str (.ofString "__init__") 208, .ref 28⟩, ⟨PyData.keyHash P (.ofString "__static_attributes__"), .str (.ofString "__static_attributes__") 210, .ref 29⟩, ⟨PyData.keyHash P (.ofString "__weakref__"), .str (.ofString "__weakref__") 212, .ref 32⟩, ⟨PyData.keyHash P (.ofString "__doc__"), .str (.ofString "__doc__") 213, .none⟩] 3, #[]⟩,
  ⟨.type "type", none, .cls ⟨.ofString "MillError", [.type "Exception"], [.ref 31, .type "Exception", .type "BaseException", .type "object"], 30, .ofString "MillError", true, [], [.ref 44], false, none, false⟩, #[some (.ref 15), none, some (.str (.ofString "MillError") 189), some (.str (.ofString "MillError") 197), some (.builtin "Exception.__new__"), some (.bool true)]⟩,
  ⟨.type "getset_descriptor", none, .fields #[.str (.ofString "__weakref__") 211, .ref 31, .builtin "ExceptionGroup.__weakref__", .none], #[]⟩,
  ⟨.type "super", none, .fields #[.ref 31, .ref 31, .ref 31], #[]⟩,
  ⟨.type "builtin_function_or_method", none, .fields #[.builtin "object.__init_subclass__", .ref 31], #[]⟩,
  ⟨.type "tuple", none, .seq #[.ref 31] 0, #[]⟩,
  ⟨.type "builtin_function_or_method", none, .fields #[.builtin "type.__prepare__", .type "type"], #[]⟩,
  ⟨.type "dict", none, .dict #[⟨PyData.keyHash P (.ofString "__module__"), .str (.ofString "__module__") 225, .str (.ofString "outlinemill.errors") 187⟩, ⟨PyData.keyHash P (.ofString "__qualname__"), .str (.ofString "__qualname__") 227, .str (.ofString "NumberFault") 226⟩, ⟨PyData.keyHash P (.ofString "__firstlineno__"), .str (.ofString "__firstlineno__") 229, .int 6 228⟩, ⟨PyData.keyHash P (.ofString "__static_attributes__"), .str (.ofString "__static_attributes__") 230, .ref 42⟩] 4, #[]⟩,
  ⟨.type "tuple", none, .seq #[] 0, #[]⟩,
  ⟨.none, none, .fields #[], #[]⟩,
  ⟨.type "code", none, .fields #[.str (.ofString "NumberFault") 220, .str (.ofString "NumberFault") 221, .str (.ofString "/claim/cut.py") 222, .int 6 0, .int 0 0, .int 0 0, .int 0 0, .int 0 0, .ref 38, .bool false, .int 181 0, .ref 39, .none, .none, .none, .none, .int 223 0, .int 6 0, .str (.ofString "/claim/cut.py") 224], #[]⟩,
  ⟨.type "frame", none, .plain, #[some (.ref 40), some (.ref 3), some (.ref 37), none, some (.str (.ofString "outlinemill.errors") 187), none, some (.ref 0)]⟩,
  ⟨.type "tuple", none, .seq #[] 0, #[]⟩,
  ⟨.type "dict", none, .dict #[⟨PyData.keyHash P (.ofString "__module__"), .str (.ofString "__module__") 225, .str (.ofString "outlinemill.errors") 187⟩, ⟨PyData.keyHash P (.ofString "__firstlineno__"), .str (.ofString "__firstlineno__") 229, .int 6 228⟩, ⟨PyData.keyHash P (.ofString "__static_attributes__"), .str (.ofString "__static_attributes__") 230, .ref 42⟩, ⟨PyData.keyHash P (.ofString "__doc__"), .str (.ofString "__doc__") 231, .none⟩] 2, #[]⟩,
  ⟨.type "type", none, .cls ⟨.ofString "NumberFault", [.ref 31], [.ref 44, .ref 31, .type "Exception", .type "BaseException", .type "object"], 43, .ofString "NumberFault", true, [], [], false, none, false⟩, #[some (.ref 35), none, some (.str (.ofString "NumberFault") 218), some (.str (.ofString "NumberFault") 226), some (.builtin "Exception.__new__"), some (.bool true)]⟩,
  ⟨.type "super", none, .fields #[.ref 44, .ref 44, .ref 44], #[]⟩,
  ⟨.type "builtin_function_or_method", none, .fields #[.builtin "object.__init_subclass__", .ref 44], #[]⟩,
  ⟨.type "tuple", none, .seq #[] 0, #[]⟩,
  ⟨.none, none, .fields #[], #[]⟩,
  ⟨.type "tuple", none, .seq #[.str (.ofString "one") 239, .str (.ofString "other") 240, .str (.ofString "first") 241, .str (.ofString "second") 242] 0, #[]⟩,
  ⟨.type "tuple", none, .seq #[] 0, #[]⟩,
  ⟨.none, none, .func ⟨.ofString "common_divisor", .ofString "common_divisor", F53.1.1, .stmts F53.1.2.1, F53.1.2.2, 0, [], .none, .none, .none, .none, none, .none, .none, 0⟩, #[]⟩,
  ⟨.type "code", none, .fields #[.str (.ofString "common_divisor") 236, .str (.ofString "common_divisor") 237, .str (.ofString "/claim/cut.py") 238, .int 9 0, .int 2 0, .int 0 0, .int 0 0, .int 3 0, .ref 47, .bool true, .int 181 0, .ref 48, .none, .ref 49, .ref 50, .ref 51, .int 243 0, .int 9 0, .str (.ofString "/claim/cut.py") 244], #[]⟩,
  ⟨.type "function", none, .func ⟨.ofString "common_divisor", .ofString "common_divisor", F53.1.1, .stmts F53.1.2.1, F53.1.2.2, 3, [], .none, .none, .none, .str (.ofString "outlinemill.exact") 234, none, .ref 52, .none, 0⟩, #[]⟩,
  ⟨.type "tuple", none, .seq #[.int 1 246] 0, #[]⟩,
  ⟨.type "tuple", none, .seq #[] 0, #[]⟩,
  ⟨.none, none, .fields #[], #[]⟩,
  ⟨.type "tuple", none, .seq #[.str (.ofString "top") 250, .str (.ofString "bottom") 251, .str (.ofString "common") 252] 0, #[]⟩,
  ⟨.type "tuple", none, .seq #[] 0, #[]⟩,
  ⟨.none, none, .func ⟨.ofString "fraction", .ofString "fraction", F61.1.1, .stmts F61.1.2.1, F61.1.2.2, 0, [], .none, .none, .none, .none, none, .none, .none, 0⟩, #[]⟩,
  ⟨.type "code", none, .fields #[.str (.ofString "fraction") 247, .str (.ofString "fraction") 248, .str (.ofString "/claim/cut.py") 249, .int 14 0, .int 2 0, .int 0 0, .int 0 0, .int 3 0, .ref 55, .bool true, .int 181 0, .ref 56, .none, .ref 57, .ref 58, .ref 59, .int 253 0, .int 14 0, .str (.ofString "/claim/cut.py") 254], #[]⟩,
  ⟨.type "function", none, .func ⟨.ofString "fraction", .ofString "fraction", F61.1.1, .stmts F61.1.2.1, F61.1.2.2, 3, [], .ref 54, .none, .none, .str (.ofString "outlinemill.exact") 234, none, .ref 60, .none, 0⟩, #[]⟩,
  ⟨.type "tuple", none, .seq #[] 0, #[]⟩,
  ⟨.none, none, .fields #[], #[]⟩,
  ⟨.type "tuple", none, .seq #[.str (.ofString "a") 259, .str (.ofString "b") 260] 0, #[]⟩,
  ⟨.type "tuple", none, .seq #[] 0, #[]⟩,
  ⟨.none, none, .func ⟨.ofString "plus", .ofString "plus", F68.1.1, .stmts F68.1.2.1, F68.1.2.2, 0, [], .none, .none, .none, .none, none, .none, .none, 0⟩, #[]⟩,
  ⟨.type "code", none, .fields #[.str (.ofString "plus") 256, .str (.ofString "plus") 257, .str (.ofString "/claim/cut.py") 258, .int 21 0, .int 2 0, .int 0 0, .int 0 0, .int 3 0, .ref 62, .bool true, .int 181 0, .ref 63, .none, .ref 64, .ref 65, .ref 66, .int 261 0, .int 21 0, .str (.ofString "/claim/cut.py") 262], #[]⟩,
  ⟨.type "function", none, .func ⟨.ofString "plus", .ofString "plus", F68.1.1, .stmts F68.1.2.1, F68.1.2.2, 3, [], .none, .none, .none, .str (.ofString "outlinemill.exact") 234, none, .ref 67, .none, 0⟩, #[]⟩,
  ⟨.type "tuple", none, .seq #[] 0, #[]⟩,
  ⟨.none, none, .fields #[], #[]⟩,
  ⟨.type "tuple", none, .seq #[.str (.ofString "a") 267, .str (.ofString "b") 268] 0, #[]⟩,
  ⟨.type "tuple", none, .seq #[] 0, #[]⟩,
  ⟨.none, none, .func ⟨.ofString "times", .ofString "times", F75.1.1, .stmts F75.1.2.1, F68.1.2.2, 0, [], .none, .none, .none, .none, none, .none, .none, 0⟩, #[]⟩,
  ⟨.type "code", none, .fields #[.str (.ofString "times") 264, .str (.ofString "times") 265, .str (.ofString "/claim/cut.py") 266, .int 23 0, .int 2 0, .int 0 0, .int 0 0, .int 3 0, .ref 69, .bool true, .int 181 0, .ref 70, .none, .ref 71, .ref 72, .ref 73, .int 269 0, .int 23 0, .str (.ofString "/claim/cut.py") 270], #[]⟩,
  ⟨.type "function", none, .func ⟨.ofString "times", .ofString "times", F75.1.1, .stmts F75.1.2.1, F68.1.2.2, 3, [], .none, .none, .none, .str (.ofString "outlinemill.exact") 234, none, .ref 74, .none, 0⟩, #[]⟩,
  ⟨.type "tuple", none, .seq #[] 0, #[]⟩,
  ⟨.type "builtin_function_or_method", none, .fields #[.builtin "type.__prepare__", .type "type"], #[]⟩,
  ⟨.type "dict", none, .dict #[⟨PyData.keyHash P (.ofString "__module__"), .str (.ofString "__module__") 281, .str (.ofString "outlinemill.cells") 272⟩, ⟨PyData.keyHash P (.ofString "__qualname__"), .str (.ofString "__qualname__") 283, .str (.ofString "Cell") 282⟩, ⟨PyData.keyHash P (.ofString "__firstlineno__"), .str (.ofString "__firstlineno__") 285, .int 26 284⟩, ⟨PyData.keyHash P (.ofString "__init__"), .str (.ofString "__init__") 292, .ref 89⟩, ⟨PyData.keyHash P (.ofString "add"), .str (.ofString "add") 301, .ref 96⟩, ⟨PyData.keyHash P (.ofString "__static_attributes__"), .str (.ofString "__static_attributes__") 304, .ref 97⟩] 6, #[]⟩,
  ⟨.type "tuple", none, .seq #[] 0, #[]⟩,
  ⟨.none, none, .fields #[.int 28 0, .int 4 0, .ref 88, .int 32 0, .int 4 0, .ref 95], #[]⟩,
  ⟨.type "code", none, .fields #[.str (.ofString "Cell") 276, .str (.ofString "Cell") 277, .str (.ofString "/claim/cut.py") 278, .int 26 0, .int 0 0, .int 0 0, .int 0 0, .int 0 0, .ref 79, .bool false, .int 181 0, .ref 80, .none, .none, .none, .none, .int 279 0, .int 26 0, .str (.ofString "/claim/cut.py") 280], #[]⟩,
  ⟨.type "frame", none, .plain, #[some (.ref 81), some (.ref 3), some (.ref 78), none, some (.str (.ofString "outlinemill.cells") 272), none, some (.ref 0)]⟩,
  ⟨.type "tuple", none, .seq #[] 0, #[]⟩,
  ⟨.none, none, .fields #[], #[]⟩,
  ⟨.type "tuple", none, .seq #[.str (.ofString "self") 289] 0, #[]⟩,
  ⟨.type "tuple", none, .seq #[] 0, #[]⟩,
  ⟨.none, none, .func ⟨.ofString "__init__", .ofString "Cell.__init__", F89.1.1, .stmts F89.1.2.1, F89.1.2.2, 0, [], .none, .none, .none, .none, none, .none, .none, 0⟩, #[]⟩,
  ⟨.type "code", none, .fields #[.str (.ofString "__init__") 286, .str (.ofString "Cell.__init__") 287, .str (.ofString "/claim/cut.py") 288, .int 28 0, .int 1 0, .int 0 0, .int 0 0, .int 3 0, .ref 83, .bool true, .int 181 0, .ref 84, .none, .ref 85, .ref 86, .ref 87, .int 290 0, .int 28 0, .str (.ofString "/claim/cut.py") 291], #[]⟩,
  ⟨.type "function", none, .func ⟨.ofString "__init__", .ofString "Cell.__init__", F89.1.1, .stmts F89.1.2.1, F89.1.2.2, 3, [], .none, .none, .none, .str (.ofString "outlinemill.cells") 272, none, .ref 88, .none, 0⟩, #[]⟩,
  ⟨.type "tuple", none, .seq #[] 0, #[]⟩,
  ⟨.none, none, .fields #[], #[]⟩,
  ⟨.type "tuple", none, .seq #[.str (.ofString "self") 296, .str (.ofString "cover") 297, .str (.ofString "area") 298] 0, #[]⟩,
  ⟨.type "tuple", none, .seq #[] 0, #[]⟩,
  ⟨.none, none, .func ⟨.ofString "add", .ofString "Cell.add", F96.1.1, .stmts F96.1.2.1, F96.1.2.2, 0, [], .none, .none, .none, .none, none, .none, .none, 0⟩, #[]⟩,
  ⟨.type "code", none, .fields #[.str (.ofString "add") 293, .str (.ofString "Cell.add") 294, .str (.ofString "/claim/cut.py") 295, .int 32 0, .int 3 0, .int 0 0, .int 0 0, .int 3 0, .ref 90, .bool true, .int 181 0, .ref 91, .none, .ref 92, .ref 93, .ref 94, .int 299 0, .int 32 0, .str (.ofString "/claim/cut.py") 300], #[]⟩,
  ⟨.type "function", none, .func ⟨.ofString "add", .ofString "Cell.add", F96.1.1, .stmts F96.1.2.1, F96.1.2.2, 3, [], .none, .none, .none, .str (.ofString "outlinemill.cells") 272, none, .ref 95, .none, 0⟩, #[]⟩,
  ⟨.type "tuple", none, .seq #[.str (.ofString "area") 302, .str (.ofString "cover") 303] 0, #[]⟩,
  ⟨.type "dict", none, .dict #[⟨PyData.keyHash P (.ofString "__module__"), .str (.ofString "__module__") 281, .str (.ofString "outlinemill.cells") 272⟩, ⟨PyData.keyHash P (.ofString "__firstlineno__"), .str (.ofString "__firstlineno__") 285, .int 26 284⟩, ⟨PyData.keyHash P (.ofString "__init__"), .str (.ofString "__init__") 292, .ref 89⟩, ⟨PyData.keyHash P (.ofString "add"), .str (.ofString "add") 301, .ref 96⟩, ⟨PyData.keyHash P (.ofString "__static_attributes__"), .str (.ofString "__static_attributes__") 304, .ref 97⟩, ⟨PyData.keyHash P (.ofString "__dict__"), .str (.ofString "__dict__") 306, .ref 100⟩, ⟨PyData.keyHash P (.ofString "__weakref__"), .str (.ofString "__weakref__") 308, .ref 101⟩, ⟨PyData.keyHash P (.ofString "__doc__"), .str (.ofString "__doc__") 309, .none⟩] 4, #[]⟩,
  ⟨.type "type", none, .cls ⟨.ofString "Cell", [.type "object"], [.ref 99, .type "object"], 98, .ofString "Cell", true, [], [], false, none, false⟩, #[none, none, some (.str (.ofString "Cell") 274), some (.str (.ofString "Cell") 282), some (.builtin "object.__new__"), some (.bool true)]⟩,
  ⟨.type "getset_descriptor", none, .fields #[.str (.ofString "__dict__") 305, .ref 99, .builtin "function.__dict__", .builtin "function.__dict__#set"], #[]⟩,
  ⟨.type "getset_descriptor", none, .fields #[.str (.ofString "__weakref__") 307, .ref 99, .builtin "ExceptionGroup.__weakref__", .none], #[]⟩,
  ⟨.type "super", none, .fields #[.ref 99, .ref 99, .ref 99], #[]⟩,
  ⟨.type "builtin_function_or_method", none, .fields #[.builtin "object.__init_subclass__", .ref 99], #[]⟩,
  ⟨.type "tuple", none, .seq #[] 0, #[]⟩,
  ⟨.none, none, .fields #[], #[]⟩,
  ⟨.type "tuple", none, .seq #[.str (.ofString "side") 315, .str (.ofString "grain") 316, .str (.ofString "found") 317, .str (.ofString "y") 318, .str (.ofString "row") 319, .str (.ofString "low") 320] 0, #[]⟩,
  ⟨.type "tuple", none, .seq #[] 0, #[]⟩,
  ⟨.none, none, .func ⟨.ofString "row_pieces", .ofString "row_pieces", F110.1.1, .stmts F110.1.2.1, F110.1.2.2, 0, [], .none, .none, .none, .none, none, .none, .none, 0⟩, #[]⟩,
  ⟨.type "code", none, .fields #[.str (.ofString "row_pieces") 312, .str (.ofString "row_pieces") 313, .str (.ofString "/claim/cut.py") 314, .int 35 0, .int 2 0, .int 0 0, .int 0 0, .int 3 0, .ref 104, .bool true, .int 181 0, .ref 105, .none, .ref 106, .ref 107, .ref 108, .int 321 0, .int 35 0, .str (.ofString "/claim/cut.py") 322], #[]⟩,
  ⟨.type "function", none, .func ⟨.ofString "row_pieces", .ofString "row_pieces", F110.1.1, .stmts F110.1.2.1, F110.1.2.2, 3, [], .none, .none, .none, .str (.ofString "outlinemill.cells") 272, none, .ref 109, .none, 0⟩, #[]⟩,
  ⟨.type "tuple", none, .seq #[] 0, #[]⟩,
  ⟨.none, none, .fields #[], #[]⟩,
  ⟨.type "tuple", none, .seq #[.str (.ofString "side") 327, .str (.ofString "high") 328, .str (.ofString "grain") 329, .str (.ofString "column") 330] 0, #[]⟩,
  ⟨.type "tuple", none, .seq #[] 0, #[]⟩,
  ⟨.none, none, .func ⟨.ofString "upright_piece", .ofString "upright_piece", F117.1.1, .stmts F117.1.2.1, F117.1.2.2, 0, [], .none, .none, .none, .none, none, .none, .none, 0⟩, #[]⟩,
  ⟨.type "code", none, .fields #[.str (.ofString "upright_piece") 324, .str (.ofString "upright_piece") 325, .str (.ofString "/claim/cut.py") 326, .int 44 0, .int 3 0, .int 0 0, .int 0 0, .int 3 0, .ref 111, .bool true, .int 181 0, .ref 112, .none, .ref 113, .ref 114, .ref 115, .int 331 0, .int 44 0, .str (.ofString "/claim/cut.py") 332], #[]⟩,
  ⟨.type "function", none, .func ⟨.ofString "upright_piece", .ofString "upright_piece", F117.1.1, .stmts F117.1.2.1, F117.1.2.2, 3, [], .none, .none, .none, .str (.ofString "outlinemill.cells") 272, none, .ref 116, .none, 0⟩, #[]⟩,
  ⟨.type "tuple", none, .seq #[] 0, #[]⟩,
  ⟨.none, none, .fields #[], #[]⟩,
  ⟨.type "tuple", none, .seq #[.str (.ofString "side") 337, .str (.ofString "upper") 338, .str (.ofString "lower") 339, .str (.ofString "grain") 340, .str (.ofString "high") 341, .str (.ofString "wide") 342, .str (.ofString "first") 343, .str (.ofString "last") 344, .str (.ofString "left") 345, .str (.ofString "right") 346, .str (.ofString "found") 347, .str (.ofString "column") 348, .str (.ofString "edge") 349, .str (.ofString "begin") 350, .str (.ofString "end") 351, .str (.ofString "part") 352] 0, #[]⟩,
  ⟨.type "tuple", none, .seq #[] 0, #[]⟩,
  ⟨.none, none, .func ⟨.ofString "column_pieces", .ofString "column_pieces", F124.1.1, .stmts F124.1.2.1, F124.1.2.2, 0, [], .none, .none, .none, .none, none, .none, .none, 0⟩, #[]⟩,
  ⟨.type "code", none, .fields #[.str (.ofString "column_pieces") 334, .str (.ofString "column_pieces") 335, .str (.ofString "/claim/cut.py") 336, .int 47 0, .int 4 0, .int 0 0, .int 0 0, .int 3 0, .ref 118, .bool true, .int 181 0, .ref 119, .none, .ref 120, .ref 121, .ref 122, .int 353 0, .int 47 0, .str (.ofString "/claim/cut.py") 354], #[]⟩,
  ⟨.type "function", none, .func ⟨.ofString "column_pieces", .ofString "column_pieces", F124.1.1, .stmts F124.1.2.1, F124.1.2.2, 3, [], .none, .none, .none, .str (.ofString "outlinemill.cells") 272, none, .ref 123, .none, 0⟩, #[]⟩,
  ⟨.type "tuple", none, .seq #[] 0, #[]⟩,
  ⟨.type "builtin_function_or_method", none, .fields #[.builtin "type.__prepare__", .type "type"], #[]⟩,
  ⟨.type "dict", none, .dict #[⟨PyData.keyHash P (.ofString "__module__"), .str (.ofString "__module__") 363, .str (.ofString "outlinemill.cells") 272⟩, ⟨PyData.keyHash P (.ofString "__qualname__"), .str (.ofString "__qualname__") 365, .str (.ofString "Cells") 364⟩, ⟨PyData.keyHash P (.ofString "__firstlineno__"), .str (.ofString "__firstlineno__") 367, .int 61 366⟩, ⟨PyData.keyHash P (.ofString "__init__"), .str (.ofString "__init__") 375, .ref 138⟩, ⟨PyData.keyHash P (.ofString "cell"), .str (.ofString "cell") 385, .ref 145⟩, ⟨PyData.keyHash P (.ofString "add_side"), .str (.ofString "add_side") 400, .ref 152⟩, ⟨PyData.keyHash P (.ofString "add_sides"), .str (.ofString "add_sides") 409, .ref 159⟩, ⟨PyData.keyHash P (.ofString "columns"), .str (.ofString "columns") 415, .ref 164⟩, ⟨PyData.keyHash P (.ofString "shared"), .str (.ofString "shared") 423, .ref 171⟩, ⟨PyData.keyHash P (.ofString "area"), .str (.ofString "area") 432, .ref 178⟩, ⟨PyData.keyHash P (.ofString "row_areas"), .str (.ofString "row_areas") 447, .ref 185⟩, ⟨PyData.keyHash P (.ofString "whole"), .str (.ofString "whole") 458, .ref 192⟩, ⟨PyData.keyHash P (.ofString "__static_attributes__"), .str (.ofString "__static_attributes__") 461, .ref 193⟩] 13, #[]⟩,
  ⟨.type "tuple", none, .seq #[] 0, #[]⟩,
  ⟨.none, none, .fields #[.int 63 0, .int 4 0, .ref 137, .int 67 0, .int 4 0, .ref 144, .int 73 0, .int 4 0, .ref 151, .int 79 0, .int 4 0, .ref 158, .int 83 0, .int 4 0, .ref 163, .int 86 0, .int 4 0, .ref 170, .int 89 0, .int 4 0, .ref 177, .int 92 0, .int 4 0, .ref 184, .int 107 0, .int 4 0, .ref 191], #[]⟩,
  ⟨.type "code", none, .fields #[.str (.ofString "Cells") 358, .str (.ofString "Cells") 359, .str (.ofString "/claim/cut.py") 360, .int 61 0, .int 0 0, .int 0 0, .int 0 0, .int 0 0, .ref 128, .bool false, .int 181 0, .ref 129, .none, .none, .none, .none, .int 361 0, .int 61 0, .str (.ofString "/claim/cut.py") 362], #[]⟩,
  ⟨.type "frame", none, .plain, #[some (.ref 130), some (.ref 3), some (.ref 127), none, some (.str (.ofString "outlinemill.cells") 272), none, some (.ref 0)]⟩,
  ⟨.type "tuple", none, .seq #[] 0, #[]⟩,
  ⟨.none, none, .fields #[], #[]⟩,
  ⟨.type "tuple", none, .seq #[.str (.ofString "self") 371, .str (.ofString "grain") 372] 0, #[]⟩,
  ⟨.type "tuple", none, .seq #[] 0, #[]⟩,
  ⟨.none, none, .func ⟨.ofString "__init__", .ofString "Cells.__init__", F138.1.1, .stmts F138.1.2.1, F138.1.2.2, 0, [], .none, .none, .none, .none, none, .none, .none, 0⟩, #[]⟩,
  ⟨.type "code", none, .fields #[.str (.ofString "__init__") 368, .str (.ofString "Cells.__init__") 369, .str (.ofString "/claim/cut.py") 370, .int 63 0, .int 2 0, .int 0 0, .int 0 0, .int 3 0, .ref 132, .bool true, .int 181 0, .ref 133, .none, .ref 134, .ref 135, .ref 136, .int 373 0, .int 63 0, .str (.ofString "/claim/cut.py") 374], #[]⟩,
  ⟨.type "function", none, .func ⟨.ofString "__init__", .ofString "Cells.__init__", F138.1.1, .stmts F138.1.2.1, F138.1.2.2, 3, [], .none, .none, .none, .str (.ofString "outlinemill.cells") 272, none, .ref 137, .none, 0⟩, #[]⟩,
  ⟨.type "tuple", none, .seq #[] 0, #[]⟩,
  ⟨.none, none, .fields #[], #[]⟩,
  ⟨.type "tuple", none, .seq #[.str (.ofString "self") 379, .str (.ofString "column") 380, .str (.ofString "row") 381, .str (.ofString "cells") 382] 0, #[]⟩,
  ⟨.type "tuple", none, .seq #[] 0, #[]⟩,
  ⟨.none, none, .func ⟨.ofString "cell", .ofString "Cells.cell", F145.1.1, .stmts F145.1.2.1, F145.1.2.2, 0, [], .none, .none, .none, .none, none, .none, .none, 0⟩, #[]⟩,
  ⟨.type "code", none, .fields #[.str (.ofString "cell") 376, .str (.ofString "Cells.cell") 377, .str (.ofString "/claim/cut.py") 378, .int 67 0, .int 3 0, .int 0 0, .int 0 0, .int 3 0, .ref 139, .bool true, .int 181 0, .ref 140, .none, .ref 141, .ref 142, .ref 143, .int 383 0, .int 67 0, .str (.ofString "/claim/cut.py") 384], #[]⟩,
  ⟨.type "function", none, .func ⟨.ofString "cell", .ofString "Cells.cell", F145.1.1, .stmts F145.1.2.1, F145.1.2.2, 3, [], .none, .none, .none, .str (.ofString "outlinemill.cells") 272, none, .ref 144, .none, 0⟩, #[]⟩,
  ⟨.type "tuple", none, .seq #[] 0, #[]⟩,
  ⟨.none, none, .fields #[], #[]⟩,
  ⟨.type "tuple", none, .seq #[.str (.ofString "self") 389, .str (.ofString "side") 390, .str (.ofString "row") 391, .str (.ofString "upper") 392, .str (.ofString "lower") 393, .str (.ofString "column") 394, .str (.ofString "cover") 395, .str (.ofString "area") 396, .str (.ofString "told") 397] 0, #[]⟩,
  ⟨.type "tuple", none, .seq #[] 0, #[]⟩,
  ⟨.none, none, .func ⟨.ofString "add_side", .ofString "Cells.add_side", F152.1.1, .stmts F152.1.2.1, F152.1.2.2, 0, [], .none, .none, .none, .none, none, .none, .none, 0⟩, #[]⟩,
  ⟨.type "code", none, .fields #[.str (.ofString "add_side") 386, .str (.ofString "Cells.add_side") 387, .str (.ofString "/claim/cut.py") 388, .int 73 0, .int 2 0, .int 0 0, .int 0 0, .int 3 0, .ref 146, .bool true, .int 181 0, .ref 147, .none, .ref 148, .ref 149, .ref 150, .int 398 0, .int 73 0, .str (.ofString "/claim/cut.py") 399], #[]⟩,
  ⟨.type "function", none, .func ⟨.ofString "add_side", .ofString "Cells.add_side", F152.1.1, .stmts F152.1.2.1, F152.1.2.2, 3, [], .none, .none, .none, .str (.ofString "outlinemill.cells") 272, none, .ref 151, .none, 0⟩, #[]⟩,
  ⟨.type "tuple", none, .seq #[] 0, #[]⟩,
  ⟨.none, none, .fields #[], #[]⟩,
  ⟨.type "tuple", none, .seq #[.str (.ofString "self") 404, .str (.ofString "sides") 405, .str (.ofString "side") 406] 0, #[]⟩,
  ⟨.type "tuple", none, .seq #[] 0, #[]⟩,
  ⟨.none, none, .func ⟨.ofString "add_sides", .ofString "Cells.add_sides", F159.1.1, .stmts F159.1.2.1, F159.1.2.2, 0, [], .none, .none, .none, .none, none, .none, .none, 0⟩, #[]⟩,
  ⟨.type "code", none, .fields #[.str (.ofString "add_sides") 401, .str (.ofString "Cells.add_sides") 402, .str (.ofString "/claim/cut.py") 403, .int 79 0, .int 2 0, .int 0 0, .int 0 0, .int 3 0, .ref 153, .bool true, .int 181 0, .ref 154, .none, .ref 155, .ref 156, .ref 157, .int 407 0, .int 79 0, .str (.ofString "/claim/cut.py") 408], #[]⟩,
  ⟨.type "function", none, .func ⟨.ofString "add_sides", .ofString "Cells.add_sides", F159.1.1, .stmts F159.1.2.1, F159.1.2.2, 3, [], .none, .none, .none, .str (.ofString "outlinemill.cells") 272, none, .ref 158, .none, 0⟩, #[]⟩,
  ⟨.type "tuple", none, .seq #[] 0, #[]⟩,
  ⟨.none, none, .fields #[], #[]⟩,
  ⟨.none, none, .func ⟨.ofString "columns", .ofString "Cells.columns", F164.1.1, .stmts F164.1.2.1, F164.1.2.2, 0, [], .none, .none, .none, .none, none, .none, .none, 0⟩, #[]⟩,
  ⟨.type "code", none, .fields #[.str (.ofString "columns") 410, .str (.ofString "Cells.columns") 411, .str (.ofString "/claim/cut.py") 412, .int 83 0, .int 2 0, .int 0 0, .int 0 0, .int 3 0, .ref 160, .bool true, .int 181 0, .ref 161, .none, .none, .none, .ref 162, .int 413 0, .int 83 0, .str (.ofString "/claim/cut.py") 414], #[]⟩,
  ⟨.type "function", none, .func ⟨.ofString "columns", .ofString "Cells.columns", F164.1.1, .stmts F164.1.2.1, F164.1.2.2, 3, [], .none, .none, .none, .str (.ofString "outlinemill.cells") 272, none, .ref 163, .none, 0⟩, #[]⟩,
  ⟨.type "tuple", none, .seq #[] 0, #[]⟩,
  ⟨.none, none, .fields #[], #[]⟩,
  ⟨.type "tuple", none, .seq #[.str (.ofString "self") 419, .str (.ofString "area") 420] 0, #[]⟩,
  ⟨.type "tuple", none, .seq #[] 0, #[]⟩,
  ⟨.none, none, .func ⟨.ofString "shared", .ofString "Cells.shared", F171.1.1, .stmts F171.1.2.1, F171.1.2.2, 0, [], .none, .none, .none, .none, none, .none, .none, 0⟩, #[]⟩,
  ⟨.type "code", none, .fields #[.str (.ofString "shared") 416, .str (.ofString "Cells.shared") 417, .str (.ofString "/claim/cut.py") 418, .int 86 0, .int 2 0, .int 0 0, .int 0 0, .int 3 0, .ref 165, .bool true, .int 181 0, .ref 166, .none, .ref 167, .ref 168, .ref 169, .int 421 0, .int 86 0, .str (.ofString "/claim/cut.py") 422], #[]⟩,
  ⟨.type "function", none, .func ⟨.ofString "shared", .ofString "Cells.shared", F171.1.1, .stmts F171.1.2.1, F171.1.2.2, 3, [], .none, .none, .none, .str (.ofString "outlinemill.cells") 272, none, .ref 170, .none, 0⟩, #[]⟩,
  ⟨.type "tuple", none, .seq #[] 0, #[]⟩,
  ⟨.none, none, .fields #[], #[]⟩,
  ⟨.type "tuple", none, .seq #[.str (.ofString "self") 427, .str (.ofString "column") 428, .str (.ofString "row") 429] 0, #[]⟩,
  ⟨.type "tuple", none, .seq #[] 0, #[]⟩,
  ⟨.none, none, .func ⟨.ofString "area", .ofString "Cells.area", F178.1.1, .stmts F178.1.2.1, F178.1.2.2, 0, [], .none, .none, .none, .none, none, .none, .none, 0⟩, #[]⟩,
  ⟨.type "code", none, .fields #[.str (.ofString "area") 424, .str (.ofString "Cells.area") 425, .str (.ofString "/claim/cut.py") 426, .int 89 0, .int 3 0, .int 0 0, .int 0 0, .int 3 0, .ref 172, .bool true, .int 181 0, .ref 173, .none, .ref 174, .ref 175, .ref 176, .int 430 0, .int 89 0, .str (.ofString "/claim/cut.py") 431], #[]⟩,
  ⟨.type "function", none, .func ⟨.ofString "area", .ofString "Cells.area", F178.1.1, .stmts F178.1.2.1, F178.1.2.2, 3, [], .none, .none, .none, .str (.ofString "outlinemill.cells") 272, none, .ref 177, .none, 0⟩, #[]⟩,
  ⟨.type "tuple", none, .seq #[] 0, #[]⟩,
  ⟨.none, none, .fields #[], #[]⟩,
  ⟨.type "tuple", none, .seq #[.str (.ofString "self") 436, .str (.ofString "row") 437, .str (.ofString "first") 438, .str (.ofString "last") 439, .str (.ofString "cells") 440, .str (.ofString "ahead") 441, .str (.ofString "column") 442, .str (.ofString "found") 443, .str (.ofString "total") 444] 0, #[]⟩,
  ⟨.type "tuple", none, .seq #[] 0, #[]⟩,
  ⟨.none, none, .func ⟨.ofString "row_areas", .ofString "Cells.row_areas", F185.1.1, .stmts F185.1.2.1, F185.1.2.2, 0, [], .none, .none, .none, .none, none, .none, .none, 0⟩, #[]⟩,
  ⟨.type "code", none, .fields #[.str (.ofString "row_areas") 433, .str (.ofString "Cells.row_areas") 434, .str (.ofString "/claim/cut.py") 435, .int 92 0, .int 4 0, .int 0 0, .int 0 0, .int 3 0, .ref 179, .bool true, .int 181 0, .ref 180, .none, .ref 181, .ref 182, .ref 183, .int 445 0, .int 92 0, .str (.ofString "/claim/cut.py") 446], #[]⟩,
  ⟨.type "function", none, .func ⟨.ofString "row_areas", .ofString "Cells.row_areas", F185.1.1, .stmts F185.1.2.1, F185.1.2.2, 3, [], .none, .none, .none, .str (.ofString "outlinemill.cells") 272, none, .ref 184, .none, 0⟩, #[]⟩,
  ⟨.type "tuple", none, .seq #[] 0, #[]⟩,
  ⟨.none, none, .fields #[], #[]⟩,
  ⟨.type "tuple", none, .seq #[.str (.ofString "self") 451, .str (.ofString "total") 452, .str (.ofString "row") 453, .str (.ofString "columns") 454, .str (.ofString "area") 455] 0, #[]⟩,
  ⟨.type "tuple", none, .seq #[] 0, #[]⟩,
  ⟨.none, none, .func ⟨.ofString "whole", .ofString "Cells.whole", F192.1.1, .stmts F192.1.2.1, F192.1.2.2, 0, [], .none, .none, .none, .none, none, .none, .none, 0⟩, #[]⟩,
  ⟨.type "code", none, .fields #[.str (.ofString "whole") 448, .str (.ofString "Cells.whole") 449, .str (.ofString "/claim/cut.py") 450, .int 107 0, .int 1 0, .int 0 0, .int 0 0, .int 3 0, .ref 186, .bool true, .int 181 0, .ref 187, .none, .ref 188, .ref 189, .ref 190, .int 456 0, .int 107 0, .str (.ofString "/claim/cut.py") 457], #[]⟩,
  ⟨.type "function", none, .func ⟨.ofString "whole", .ofString "Cells.whole", F192.1.1, .stmts F192.1.2.1, F192.1.2.2, 3, [], .none, .none, .none, .str (.ofString "outlinemill.cells") 272, none, .ref 191, .none, 0⟩, #[]⟩,
  ⟨.type "tuple", none, .seq #[.str (.ofString "grain") 459, .str (.ofString "rows") 460] 0, #[]⟩,
  ⟨.type "dict", none, .dict #[⟨PyData.keyHash P (.ofString "__module__"), .str (.ofString "__module__") 363, .str (.ofString "outlinemill.cells") 272⟩, ⟨PyData.keyHash P (.ofString "__firstlineno__"), .str (.ofString "__firstlineno__") 367, .int 61 366⟩, ⟨PyData.keyHash P (.ofString "__init__"), .str (.ofString "__init__") 375, .ref 138⟩, ⟨PyData.keyHash P (.ofString "cell"), .str (.ofString "cell") 385, .ref 145⟩, ⟨PyData.keyHash P (.ofString "add_side"), .str (.ofString "add_side") 400, .ref 152⟩, ⟨PyData.keyHash P (.ofString "add_sides"), .str (.ofString "add_sides") 409, .ref 159⟩, ⟨PyData.keyHash P (.ofString "columns"), .str (.ofString "columns") 415, .ref 164⟩, ⟨PyData.keyHash P (.ofString "shared"), .str (.ofString "shared") 423, .ref 171⟩, ⟨PyData.keyHash P (.ofString "area"), .str (.ofString "area") 432, .ref 178⟩, ⟨PyData.keyHash P (.ofString "row_areas"), .str (.ofString "row_areas") 447, .ref 185⟩, ⟨PyData.keyHash P (.ofString "whole"), .str (.ofString "whole") 458, .ref 192⟩, ⟨PyData.keyHash P (.ofString "__static_attributes__"), .str (.ofString "__static_attributes__") 461, .ref 193⟩, ⟨PyData.keyHash P (.ofString "__dict__"), .str (.ofString "__dict__") 463, .ref 196⟩, ⟨PyData.keyHash P (.ofString "__weakref__"), .str (.ofString "__weakref__") 465, .ref 197⟩, ⟨PyData.keyHash P (.ofString "__doc__"), .str (.ofString "__doc__") 466, .none⟩] 4, #[]⟩,
  ⟨.type "type", none, .cls ⟨.ofString "Cells", [.type "object"], [.ref 195, .type "object"], 194, .ofString "Cells", true, [], [], false, none, false⟩, #[none, none, some (.str (.ofString "Cells") 356), some (.str (.ofString "Cells") 364), some (.builtin "object.__new__"), some (.bool true)]⟩,
  ⟨.type "getset_descriptor", none, .fields #[.str (.ofString "__dict__") 462, .ref 195, .builtin "function.__dict__", .builtin "function.__dict__#set"], #[]⟩,
  ⟨.type "getset_descriptor", none, .fields #[.str (.ofString "__weakref__") 464, .ref 195, .builtin "ExceptionGroup.__weakref__", .none], #[]⟩,
  ⟨.type "super", none, .fields #[.ref 195, .ref 195, .ref 195], #[]⟩,
  ⟨.type "builtin_function_or_method", none, .fields #[.builtin "object.__init_subclass__", .ref 195], #[]⟩,
  ⟨.type "tuple", none, .seq #[] 0, #[]⟩,
  ⟨.type "builtin_function_or_method", none, .fields #[.builtin "type.__prepare__", .type "type"], #[]⟩,
  ⟨.type "dict", none, .dict #[⟨PyData.keyHash P (.ofString "__module__"), .str (.ofString "__module__") 478, .str (.ofString "outlinemill.sides") 469⟩, ⟨PyData.keyHash P (.ofString "__qualname__"), .str (.ofString "__qualname__") 480, .str (.ofString "Side") 479⟩, ⟨PyData.keyHash P (.ofString "__firstlineno__"), .str (.ofString "__firstlineno__") 482, .int 115 481⟩, ⟨PyData.keyHash P (.ofString "__init__"), .str (.ofString "__init__") 494, .ref 213⟩, ⟨PyData.keyHash P (.ofString "row"), .str (.ofString "row") 501, .ref 220⟩, ⟨PyData.keyHash P (.ofString "covers"), .str (.ofString "covers") 509, .ref 227⟩, ⟨PyData.keyHash P (.ofString "place_at"), .str (.ofString "place_at") 518, .ref 234⟩, ⟨PyData.keyHash P (.ofString "__static_attributes__"), .str (.ofString "__static_attributes__") 524, .ref 235⟩] 8, #[]⟩,
  ⟨.type "tuple", none, .seq #[] 0, #[]⟩,
  ⟨.none, none, .fields #[.int 117 0, .int 4 0, .ref 212, .int 124 0, .int 4 0, .ref 219, .int 127 0, .int 4 0, .ref 226, .int 130 0, .int 4 0, .ref 233], #[]⟩,
  ⟨.type "code", none, .fields #[.str (.ofString "Side") 473, .str (.ofString "Side") 474, .str (.ofString "/claim/cut.py") 475, .int 115 0, .int 0 0, .int 0 0, .int 0 0, .int 0 0, .ref 203, .bool false, .int 181 0, .ref 204, .none, .none, .none, .none, .int 476 0, .int 115 0, .str (.ofString "/claim/cut.py") 477], #[]⟩,
  ⟨.type "frame", none, .plain, #[some (.ref 205), some (.ref 3), some (.ref 202), none, some (.str (.ofString "outlinemill.sides") 469), none, some (.ref 0)]⟩,
  ⟨.type "tuple", none, .seq #[] 0, #[]⟩,
  ⟨.none, none, .fields #[], #[]⟩,
  ⟨.type "tuple", none, .seq #[.str (.ofString "self") 486, .str (.ofString "x1") 487, .str (.ofString "y1") 488, .str (.ofString "x2") 489, .str (.ofString "y2") 490, .str (.ofString "way") 491] 0, #[]⟩,
  ⟨.type "tuple", none, .seq #[] 0, #[]⟩,
  ⟨.none, none, .func ⟨.ofString "__init__", .ofString "Side.__init__", F213.1.1, .stmts F213.1.2.1, F213.1.2.2, 0, [], .none, .none, .none, .none, none, .none, .none, 0⟩, #[]⟩,
  ⟨.type "code", none, .fields #[.str (.ofString "__init__") 483, .str (.ofString "Side.__init__") 484, .str (.ofString "/claim/cut.py") 485, .int 117 0, .int 6 0, .int 0 0, .int 0 0, .int 3 0, .ref 207, .bool true, .int 181 0, .ref 208, .none, .ref 209, .ref 210, .ref 211, .int 492 0, .int 117 0, .str (.ofString "/claim/cut.py") 493], #[]⟩,
  ⟨.type "function", none, .func ⟨.ofString "__init__", .ofString "Side.__init__", F213.1.1, .stmts F213.1.2.1, F213.1.2.2, 3, [], .none, .none, .none, .str (.ofString "outlinemill.sides") 469, none, .ref 212, .none, 0⟩, #[]⟩,
  ⟨.type "tuple", none, .seq #[] 0, #[]⟩,
  ⟨.none, none, .fields #[], #[]⟩,
  ⟨.type "tuple", none, .seq #[.str (.ofString "self") 498] 0, #[]⟩,
  ⟨.type "tuple", none, .seq #[] 0, #[]⟩,
  ⟨.none, none, .func ⟨.ofString "row", .ofString "Side.row", F220.1.1, .stmts F220.1.2.1, F220.1.2.2, 0, [], .none, .none, .none, .none, none, .none, .none, 0⟩, #[]⟩,
  ⟨.type "code", none, .fields #[.str (.ofString "row") 495, .str (.ofString "Side.row") 496, .str (.ofString "/claim/cut.py") 497, .int 124 0, .int 1 0, .int 0 0, .int 0 0, .int 3 0, .ref 214, .bool true, .int 181 0, .ref 215, .none, .ref 216, .ref 217, .ref 218, .int 499 0, .int 124 0, .str (.ofString "/claim/cut.py") 500], #[]⟩,
  ⟨.type "function", none, .func ⟨.ofString "row", .ofString "Side.row", F220.1.1, .stmts F220.1.2.1, F220.1.2.2, 3, [], .none, .none, .none, .str (.ofString "outlinemill.sides") 469, none, .ref 219, .none, 0⟩, #[]⟩,
  ⟨.type "tuple", none, .seq #[] 0, #[]⟩,
  ⟨.none, none, .fields #[], #[]⟩,
  ⟨.type "tuple", none, .seq #[.str (.ofString "self") 505, .str (.ofString "y") 506] 0, #[]⟩,
  ⟨.type "tuple", none, .seq #[] 0, #[]⟩,
  ⟨.none, none, .func ⟨.ofString "covers", .ofString "Side.covers", F227.1.1, .stmts F227.1.2.1, F227.1.2.2, 0, [], .none, .none, .none, .none, none, .none, .none, 0⟩, #[]⟩,
  ⟨.type "code", none, .fields #[.str (.ofString "covers") 502, .str (.ofString "Side.covers") 503, .str (.ofString "/claim/cut.py") 504, .int 127 0, .int 2 0, .int 0 0, .int 0 0, .int 3 0, .ref 221, .bool true, .int 181 0, .ref 222, .none, .ref 223, .ref 224, .ref 225, .int 507 0, .int 127 0, .str (.ofString "/claim/cut.py") 508], #[]⟩,
  ⟨.type "function", none, .func ⟨.ofString "covers", .ofString "Side.covers", F227.1.1, .stmts F227.1.2.1, F227.1.2.2, 3, [], .none, .none, .none, .str (.ofString "outlinemill.sides") 469, none, .ref 226, .none, 0⟩, #[]⟩,
  ⟨.type "tuple", none, .seq #[] 0, #[]⟩,
  ⟨.none, none, .fields #[], #[]⟩,
  ⟨.type "tuple", none, .seq #[.str (.ofString "self") 513, .str (.ofString "y") 514, .str (.ofString "high") 515] 0, #[]⟩,
  ⟨.type "tuple", none, .seq #[] 0, #[]⟩,
  ⟨.none, none, .func ⟨.ofString "place_at", .ofString "Side.place_at", F234.1.1, .stmts F234.1.2.1, F234.1.2.2, 0, [], .none, .none, .none, .none, none, .none, .none, 0⟩, #[]⟩,
  ⟨.type "code", none, .fields #[.str (.ofString "place_at") 510, .str (.ofString "Side.place_at") 511, .str (.ofString "/claim/cut.py") 512, .int 130 0, .int 2 0, .int 0 0, .int 0 0, .int 3 0, .ref 228, .bool true, .int 181 0, .ref 229, .none, .ref 230, .ref 231, .ref 232, .int 516 0, .int 130 0, .str (.ofString "/claim/cut.py") 517], #[]⟩,
  ⟨.type "function", none, .func ⟨.ofString "place_at", .ofString "Side.place_at", F234.1.1, .stmts F234.1.2.1, F234.1.2.2, 3, [], .none, .none, .none, .str (.ofString "outlinemill.sides") 469, none, .ref 233, .none, 0⟩, #[]⟩,
  ⟨.type "tuple", none, .seq #[.str (.ofString "way") 519, .str (.ofString "x1") 520, .str (.ofString "x2") 521, .str (.ofString "y1") 522, .str (.ofString "y2") 523] 0, #[]⟩,
  ⟨.type "dict", none, .dict #[⟨PyData.keyHash P (.ofString "__module__"), .str (.ofString "__module__") 478, .str (.ofString "outlinemill.sides") 469⟩, ⟨PyData.keyHash P (.ofString "__firstlineno__"), .str (.ofString "__firstlineno__") 482, .int 115 481⟩, ⟨PyData.keyHash P (.ofString "__init__"), .str (.ofString "__init__") 494, .ref 213⟩, ⟨PyData.keyHash P (.ofString "row"), .str (.ofString "row") 501, .ref 220⟩, ⟨PyData.keyHash P (.ofString "covers"), .str (.ofString "covers") 509, .ref 227⟩, ⟨PyData.keyHash P (.ofString "place_at"), .str (.ofString "place_at") 518, .ref 234⟩, ⟨PyData.keyHash P (.ofString "__static_attributes__"), .str (.ofString "__static_attributes__") 524, .ref 235⟩, ⟨PyData.keyHash P (.ofString "__dict__"), .str (.ofString "__dict__") 526, .ref 238⟩, ⟨PyData.keyHash P (.ofString "__weakref__"), .str (.ofString "__weakref__") 528, .ref 239⟩, ⟨PyData.keyHash P (.ofString "__doc__"), .str (.ofString "__doc__") 529, .none⟩] 4, #[]⟩,
  ⟨.type "type", none, .cls ⟨.ofString "Side", [.type "object"], [.ref 237, .type "object"], 236, .ofString "Side", true, [], [], false, none, false⟩, #[none, none, some (.str (.ofString "Side") 471), some (.str (.ofString "Side") 479), some (.builtin "object.__new__"), some (.bool true)]⟩,
  ⟨.type "getset_descriptor", none, .fields #[.str (.ofString "__dict__") 525, .ref 237, .builtin "function.__dict__", .builtin "function.__dict__#set"], #[]⟩,
  ⟨.type "getset_descriptor", none, .fields #[.str (.ofString "__weakref__") 527, .ref 237, .builtin "ExceptionGroup.__weakref__", .none], #[]⟩,
  ⟨.type "super", none, .fields #[.ref 237, .ref 237, .ref 237], #[]⟩,
  ⟨.type "builtin_function_or_method", none, .fields #[.builtin "object.__init_subclass__", .ref 237], #[]⟩,
  ⟨.type "tuple", none, .seq #[] 0, #[]⟩,
  ⟨.none, none, .fields #[], #[]⟩,
  ⟨.type "tuple", none, .seq #[.str (.ofString "one") 535, .str (.ofString "other") 536] 0, #[]⟩,
  ⟨.type "tuple", none, .seq #[] 0, #[]⟩,
  ⟨.none, none, .func ⟨.ofString "side_between", .ofString "side_between", F248.1.1, .stmts F248.1.2.1, F248.1.2.2, 0, [], .none, .none, .none, .none, none, .none, .none, 0⟩, #[]⟩,
  ⟨.type "code", none, .fields #[.str (.ofString "side_between") 532, .str (.ofString "side_between") 533, .str (.ofString "/claim/cut.py") 534, .int 133 0, .int 2 0, .int 0 0, .int 0 0, .int 3 0, .ref 242, .bool true, .int 181 0, .ref 243, .none, .ref 244, .ref 245, .ref 246, .int 537 0, .int 133 0, .str (.ofString "/claim/cut.py") 538], #[]⟩,
  ⟨.type "function", none, .func ⟨.ofString "side_between", .ofString "side_between", F248.1.1, .stmts F248.1.2.1, F248.1.2.2, 3, [], .none, .none, .none, .str (.ofString "outlinemill.sides") 469, none, .ref 247, .none, 0⟩, #[]⟩,
  ⟨.type "tuple", none, .seq #[] 0, #[]⟩,
  ⟨.none, none, .fields #[], #[]⟩,
  ⟨.type "tuple", none, .seq #[.str (.ofString "spots") 543, .str (.ofString "is_closed") 544, .str (.ofString "pairs") 545, .str (.ofString "found") 546, .str (.ofString "one") 547, .str (.ofString "other") 548, .str (.ofString "side") 549] 0, #[]⟩,
  ⟨.type "tuple", none, .seq #[] 0, #[]⟩,
  ⟨.none, none, .func ⟨.ofString "sides_of_contour", .ofString "sides_of_contour", F255.1.1, .stmts F255.1.2.1, F255.1.2.2, 0, [], .none, .none, .none, .none, none, .none, .none, 0⟩, #[]⟩,
  ⟨.type "code", none, .fields #[.str (.ofString "sides_of_contour") 540, .str (.ofString "sides_of_contour") 541, .str (.ofString "/claim/cut.py") 542, .int 139 0, .int 2 0, .int 0 0, .int 0 0, .int 3 0, .ref 249, .bool true, .int 181 0, .ref 250, .none, .ref 251, .ref 252, .ref 253, .int 550 0, .int 139 0, .str (.ofString "/claim/cut.py") 551], #[]⟩,
  ⟨.type "function", none, .func ⟨.ofString "sides_of_contour", .ofString "sides_of_contour", F255.1.1, .stmts F255.1.2.1, F255.1.2.2, 3, [], .none, .none, .none, .str (.ofString "outlinemill.sides") 469, none, .ref 254, .none, 0⟩, #[]⟩,
  ⟨.type "tuple", none, .seq #[.bool true] 0, #[]⟩,
  ⟨.type "tuple", none, .seq #[] 0, #[]⟩,
  ⟨.none, none, .fields #[], #[]⟩,
  ⟨.type "tuple", none, .seq #[.str (.ofString "contours") 556, .str (.ofString "is_closing") 557, .str (.ofString "found") 558, .str (.ofString "spots") 559, .str (.ofString "is_closed") 560] 0, #[]⟩,
  ⟨.type "tuple", none, .seq #[] 0, #[]⟩,
  ⟨.none, none, .func ⟨.ofString "sides_of", .ofString "sides_of", F263.1.1, .stmts F263.1.2.1, F263.1.2.2, 0, [], .none, .none, .none, .none, none, .none, .none, 0⟩, #[]⟩,
  ⟨.type "code", none, .fields #[.str (.ofString "sides_of") 553, .str (.ofString "sides_of") 554, .str (.ofString "/claim/cut.py") 555, .int 149 0, .int 2 0, .int 0 0, .int 0 0, .int 3 0, .ref 257, .bool true, .int 181 0, .ref 258, .none, .ref 259, .ref 260, .ref 261, .int 561 0, .int 149 0, .str (.ofString "/claim/cut.py") 562], #[]⟩,
  ⟨.type "function", none, .func ⟨.ofString "sides_of", .ofString "sides_of", F263.1.1, .stmts F263.1.2.1, F263.1.2.2, 3, [], .ref 256, .none, .none, .str (.ofString "outlinemill.sides") 469, none, .ref 262, .none, 0⟩, #[]⟩,
  ⟨.type "tuple", none, .seq #[] 0, #[]⟩,
  ⟨.none, none, .fields #[], #[]⟩,
  ⟨.type "tuple", none, .seq #[.str (.ofString "script") 569, .str (.ofString "k") 570, .str (.ofString "cell") 571, .str (.ofString "big") 572, .str (.ofString "mixed") 573] 0, #[]⟩,
  ⟨.type "tuple", none, .seq #[] 0, #[]⟩,
  ⟨.none, none, .func ⟨.ofString "_law_pool", .ofString "_law_pool", F270.1.1, .stmts F270.1.2.1, F270.1.2.2, 0, [], .none, .none, .none, .none, none, .none, .none, 0⟩, #[]⟩,
  ⟨.type "code", none, .fields #[.str (.ofString "_law_pool") 566, .str (.ofString "_law_pool") 567, .str (.ofString "/claim/cut.py") 568, .int 155 0, .int 2 0, .int 0 0, .int 0 0, .int 3 0, .ref 264, .bool true, .int 181 0, .ref 265, .none, .ref 266, .ref 267, .ref 268, .int 574 0, .int 155 0, .str (.ofString "/claim/cut.py") 575], #[]⟩,
  ⟨.type "function", none, .func ⟨.ofString "_law_pool", .ofString "_law_pool", F270.1.1, .stmts F270.1.2.1, F270.1.2.2, 3, [], .none, .none, .none, .str (.ofString "law_nu0018_01") 564, none, .ref 269, .none, 0⟩, #[]⟩,
  ⟨.type "tuple", none, .seq #[] 0, #[]⟩,
  ⟨.none, none, .fields #[], #[]⟩,
  ⟨.type "tuple", none, .seq #[.str (.ofString "source") 580, .str (.ofString "top") 581, .str (.ofString "drawn") 582] 0, #[]⟩,
  ⟨.type "tuple", none, .seq #[] 0, #[]⟩,
  ⟨.none, none, .func ⟨.ofString "_law_take", .ofString "_law_take", F277.1.1, .stmts F277.1.2.1, F277.1.2.2, 0, [], .none, .none, .none, .none, none, .none, .none, 0⟩, #[]⟩,
  ⟨.type "code", none, .fields #[.str (.ofString "_law_take") 577, .str (.ofString "_law_take") 578, .str (.ofString "/claim/cut.py") 579, .int 162 0, .int 2 0, .int 0 0, .int 0 0, .int 3 0, .ref 271, .bool true, .int 181 0, .ref 272, .none, .ref 273, .ref 274, .ref 275, .int 583 0, .int 162 0, .str (.ofString "/claim/cut.py") 584], #[]⟩,
  ⟨.type "function", none, .func ⟨.ofString "_law_take", .ofString "_law_take", F277.1.1, .stmts F277.1.2.1, F277.1.2.2, 3, [], .none, .none, .none, .str (.ofString "law_nu0018_01") 564, none, .ref 276, .none, 0⟩, #[]⟩,
  ⟨.type "tuple", none, .seq #[] 0, #[]⟩,
  ⟨.none, none, .fields #[], #[]⟩,
  ⟨.none, none, .func ⟨.ofString "_law_part", .ofString "_law_part", F282.1.1, .stmts F282.1.2.1, F282.1.2.2, 0, [], .none, .none, .none, .none, none, .none, .none, 0⟩, #[]⟩,
  ⟨.type "code", none, .fields #[.str (.ofString "_law_part") 586, .str (.ofString "_law_part") 587, .str (.ofString "/claim/cut.py") 588, .int 169 0, .int 4 0, .int 0 0, .int 0 0, .int 3 0, .ref 278, .bool true, .int 181 0, .ref 279, .none, .none, .none, .ref 280, .int 589 0, .int 169 0, .str (.ofString "/claim/cut.py") 590], #[]⟩,
  ⟨.type "function", none, .func ⟨.ofString "_law_part", .ofString "_law_part", F282.1.1, .stmts F282.1.2.1, F282.1.2.2, 3, [], .none, .none, .none, .str (.ofString "law_nu0018_01") 564, none, .ref 281, .none, 0⟩, #[]⟩,
  ⟨.type "tuple", none, .seq #[] 0, #[]⟩,
  ⟨.none, none, .fields #[], #[]⟩,
  ⟨.none, none, .func ⟨.ofString "_law_cut", .ofString "_law_cut", F287.1.1, .stmts F287.1.2.1, F287.1.2.2, 0, [], .none, .none, .none, .none, none, .none, .none, 0⟩, #[]⟩,
  ⟨.type "code", none, .fields #[.str (.ofString "_law_cut") 592, .str (.ofString "_law_cut") 593, .str (.ofString "/claim/cut.py") 594, .int 176 0, .int 4 0, .int 0 0, .int 0 0, .int 3 0, .ref 283, .bool true, .int 181 0, .ref 284, .none, .none, .none, .ref 285, .int 595 0, .int 176 0, .str (.ofString "/claim/cut.py") 596], #[]⟩,
  ⟨.type "function", none, .func ⟨.ofString "_law_cut", .ofString "_law_cut", F287.1.1, .stmts F287.1.2.1, F287.1.2.2, 3, [], .none, .none, .none, .str (.ofString "law_nu0018_01") 564, none, .ref 286, .none, 0⟩, #[]⟩,
  ⟨.type "tuple", none, .seq #[] 0, #[]⟩,
  ⟨.none, none, .fields #[], #[]⟩,
  ⟨.type "tuple", none, .seq #[.str (.ofString "points") 601, .str (.ofString "top") 602, .str (.ofString "bottom") 603, .str (.ofString "at") 604, .str (.ofString "a") 605, .str (.ofString "b") 606, .str (.ofString "c") 607, .str (.ofString "d") 608, .str (.ofString "e") 609, .str (.ofString "f") 610, .str (.ofString "g") 611, .str (.ofString "h") 612, .str (.ofString "more") 613, .str (.ofString "under") 614] 0, #[]⟩,
  ⟨.type "tuple", none, .seq #[] 0, #[]⟩,
  ⟨.none, none, .func ⟨.ofString "_law_area", .ofString "_law_area", F294.1.1, .stmts F294.1.2.1, F294.1.2.2, 0, [], .none, .none, .none, .none, none, .none, .none, 0⟩, #[]⟩,
  ⟨.type "code", none, .fields #[.str (.ofString "_law_area") 598, .str (.ofString "_law_area") 599, .str (.ofString "/claim/cut.py") 600, .int 186 0, .int 1 0, .int 0 0, .int 0 0, .int 3 0, .ref 288, .bool true, .int 181 0, .ref 289, .none, .ref 290, .ref 291, .ref 292, .int 615 0, .int 186 0, .str (.ofString "/claim/cut.py") 616], #[]⟩,
  ⟨.type "function", none, .func ⟨.ofString "_law_area", .ofString "_law_area", F294.1.1, .stmts F294.1.2.1, F294.1.2.2, 3, [], .none, .none, .none, .str (.ofString "law_nu0018_01") 564, none, .ref 293, .none, 0⟩, #[]⟩,
  ⟨.type "tuple", none, .seq #[] 0, #[]⟩,
  ⟨.none, none, .fields #[], #[]⟩,
  ⟨.none, none, .func ⟨.ofString "_law_due", .ofString "_law_due", F299.1.1, .stmts F299.1.2.1, F299.1.2.2, 0, [], .none, .none, .none, .none, none, .none, .none, 0⟩, #[]⟩,
  ⟨.type "code", none, .fields #[.str (.ofString "_law_due") 618, .str (.ofString "_law_due") 619, .str (.ofString "/claim/cut.py") 620, .int 194 0, .int 3 0, .int 0 0, .int 0 0, .int 3 0, .ref 295, .bool true, .int 181 0, .ref 296, .none, .none, .none, .ref 297, .int 621 0, .int 194 0, .str (.ofString "/claim/cut.py") 622], #[]⟩,
  ⟨.type "function", none, .func ⟨.ofString "_law_due", .ofString "_law_due", F299.1.1, .stmts F299.1.2.1, F299.1.2.2, 3, [], .none, .none, .none, .str (.ofString "law_nu0018_01") 564, none, .ref 298, .none, 0⟩, #[]⟩,
  ⟨.type "tuple", none, .seq #[] 0, #[]⟩,
  ⟨.none, none, .fields #[], #[]⟩,
  ⟨.type "tuple", none, .seq #[.str (.ofString "told") 627, .str (.ofString "due") 628, .str (.ofString "many") 629] 0, #[]⟩,
  ⟨.type "tuple", none, .seq #[] 0, #[]⟩,
  ⟨.none, none, .func ⟨.ofString "_law_is", .ofString "_law_is", F306.1.1, .stmts F306.1.2.1, F306.1.2.2, 0, [], .none, .none, .none, .none, none, .none, .none, 0⟩, #[]⟩,
  ⟨.type "code", none, .fields #[.str (.ofString "_law_is") 624, .str (.ofString "_law_is") 625, .str (.ofString "/claim/cut.py") 626, .int 201 0, .int 3 0, .int 0 0, .int 0 0, .int 3 0, .ref 300, .bool true, .int 181 0, .ref 301, .none, .ref 302, .ref 303, .ref 304, .int 630 0, .int 201 0, .str (.ofString "/claim/cut.py") 631], #[]⟩,
  ⟨.type "function", none, .func ⟨.ofString "_law_is", .ofString "_law_is", F306.1.1, .stmts F306.1.2.1, F306.1.2.2, 3, [], .none, .none, .none, .str (.ofString "law_nu0018_01") 564, none, .ref 305, .none, 0⟩, #[]⟩,
  ⟨.type "tuple", none, .seq #[] 0, #[]⟩,
  ⟨.none, none, .fields #[], #[]⟩,
  ⟨.none, none, .func ⟨.ofString "law", .ofString "law", F311.1.1, .stmts F311.1.2.1, F311.1.2.2, 0, [], .none, .none, .none, .none, none, .none, .none, 0⟩, #[]⟩,
  ⟨.type "code", none, .fields #[.str (.ofString "law") 633, .str (.ofString "law") 634, .str (.ofString "/claim/cut.py") 635, .int 203 0, .int 1 0, .int 0 0, .int 0 0, .int 3 0, .ref 307, .bool true, .int 181 0, .ref 308, .none, .none, .none, .ref 309, .int 636 0, .int 203 0, .str (.ofString "/claim/cut.py") 637], #[]⟩,
  ⟨.type "function", none, .func ⟨.ofString "law", .ofString "law", F311.1.1, .stmts F311.1.2.1, F311.1.2.2, 3, [], .none, .none, .none, .str (.ofString "law_nu0018_01") 564, none, .ref 310, .none, 0⟩, #[]⟩]
noncomputable def hF (P : Params) : Heap := ⟨⟨hF.objs P⟩, {}⟩
noncomputable def keepS : {l : List Stmt // [1, 2, 4, 6, 7, 9, 10, 11, 12, 13, 15, 16, 17, 20, 21, 22, 23, 24, 25, 26, 27].filterMap (fun i => PySem.Challenge.pw_nu0018_01.main.body[i]?) = l} := ⟨[_, _, _, _, _, _, _, _, _, _, _, _, _, _, _, _, _, _, _, _, _], rfl⟩
noncomputable def hd.view_39 : Program := { PySem.Challenge.pw_nu0018_01 with main := { PySem.Challenge.pw_nu0018_01.main with body := keepS.1 } }
noncomputable def HK : Hook := kHook hd.heap_39 [2, 3, 15, 22, 24, 25, 27, 28, 29, 30, 31, 32, 35, 42, 43, 44, 47, 49, 50, 52, 53, 54, 55, 57, 58, 60, 61, 62, 64, 65, 67, 68, 69, 71, 72, 74, 75, 83, 85, 86, 88, 89, 90, 92, 93, 95, 96, 97, 98, 99, 100, 101, 104, 106, 107, 109, 110, 111, 113, 114, 116, 117, 118, 120, 121, 123, 124, 132, 134, 135, 137, 138, 139, 141, 142, 144, 145, 146, 148, 149, 151, 152, 153, 155, 156, 158, 159, 160, 163, 164, 165, 167, 168, 170, 171, 172, 174, 175, 177, 178, 179, 181, 182, 184, 185, 186, 188, 189, 191, 192, 193, 194, 195, 196, 197, 207, 209, 210, 212, 213, 214, 216, 217, 219, 220, 221, 223, 224, 226, 227, 228, 230, 231, 233, 234, 235, 236, 237, 238, 239, 242, 244, 245, 247, 248, 249, 251, 252, 254, 255, 256, 257, 259, 260, 262, 263, 264, 266, 267, 269, 270, 271, 273, 274, 276, 277, 278, 281, 282, 283, 286, 287, 288, 290, 291, 293, 294, 295, 298, 299, 300, 302, 303, 305, 306, 307, 310, 311] (fun _ => by kernel_rfl)
theorem saidP : OpenRow.partSaid PySem.Challenge.rw_nu0018_01.row = true := by
  rw [PySem.W.Fast.te2436336058641802641]
  kernel_rfl
theorem saidR : OpenRow.wellSaid PySem.Challenge.rw_nu0018_01.row = true := by
  unfold OpenRow.wellSaid
  exact look_both (look_both saidP (by kernel_rfl)) (by kernel_rfl)
theorem said : OpenLaw.wellSaid PySem.Challenge.rw_nu0018_01 = true := by
  unfold OpenLaw.wellSaid
  repeat' with_reducible refine look_both ?_ ?_
  exact saidR
  all_goals kernel_rfl
theorem openS : ∀ w : World, (fencedOpening treeTable PySem.Challenge.rw_nu0018_01.row.toRowW.prog w 4402).map (fun s => (s.heap, s.gens, s.drawn, s.toks)) = some (boot_heap w.params, Array.mk [], boot_drawn, boot_toks) :=
  boot_open (by kernel_rfl) (by kernel_rfl) (fun s => by kernel_rfl)
theorem sizeS : ∀ w : World, ((boot_heap w.params).isNs mainGlobals && (Array.mk [] : Array GenState).size == 0, (boot_heap w.params).objs.size, (boot_heap w.params).nsMap mainGlobals (Str.ofString "__annotations__")) = (true, 11, some (.ref 6)) := by
  intro w
  kernel_rfl
theorem runS : ∀ (w : World) (os : OsState), topRun treeTable PySem.Challenge.rw_nu0018_01.row.toRowW.prog w 11 (some (.ref 6)) 2159 ⟨boot_heap w.params, Array.mk [], boot_drawn, boot_toks, os⟩ (topStub PySem.Challenge.rw_nu0018_01.row.toRowW.prog) = some ⟨hF w.params, Array.mk [], {}, 639, os⟩ := by
  rw [PySem.W.Fast.te14082659384304107361, PySem.W.Fast.te14364793385576792824]
  intro w os
  kernel_rfl
theorem lookA : ∀ (w : World) (os : OsState), (staticsOk (importedModules PySem.Challenge.rw_nu0018_01.row.toRowW.prog.main.body) (boot_heap w.params) (hF w.params) && namesBound PySem.Challenge.rw_nu0018_01.row.toRowW.prog (hF w.params) && gensDone ⟨hF w.params, Array.mk [], {}, 639, os⟩ && laidKept (boot_heap w.params) (hF w.params)) = true := by
  intro w os
  kernel_rfl
theorem lookB : ∀ (w : World) (os : OsState), openSeen hd.view_39 [Str.ofString "fraction", Str.ofString "sides_of"] (importedModules PySem.Challenge.rw_nu0018_01.row.toRowW.prog.main.body) (fun s => xlAt hd.view_39 [] s && recOk (RowW.records PySem.Challenge.rw_nu0018_01.row.toRowW) s) true ⟨hF w.params, Array.mk [], {}, 639, os⟩ = openGood hd.view_39 [Str.ofString "fraction", Str.ofString "sides_of"] := by
  rw [PySem.W.Fast.te4187177175401517315]
  intro w os
  kernel_rfl
theorem lookC : ∀ (w : World) (os : OsState), Hook.obs HK ⟨hF w.params, Array.mk [], {}, 639, os⟩ = Hook.val HK w := by
  intro w os
  kernel_rfl
theorem left : LeftO PySem.Challenge.rw_nu0018_01.row.toRowW.prog hd.view_39 [Str.ofString "fraction", Str.ofString "sides_of"] (fun s => xlAt hd.view_39 [] s && recOk (RowW.records PySem.Challenge.rw_nu0018_01.row.toRowW) s) (Hook.obs HK) (Hook.val HK) 4402 :=
  .of_pieces openS sizeS runS (by kernel_rfl) fun w => funext fun os => looks_pair (lookA w os) (looks_pair (lookB w os) (lookC w os))
noncomputable abbrev PG : Program := PySem.Challenge.rw_nu0018_01.row.prog
theorem lenS {α : Type} {P : List α → Prop} {n : Nat} (h : ∀ a l, List.length l = n → P (a :: l)) : ∀ xs : List α, xs.length = n + 1 → P xs
  | a :: l, e => h a l (Nat.succ.inj e)
theorem len0 {α : Type} {P : List α → Prop} (h : P []) : ∀ xs : List α, xs.length = 0 → P xs
  | [], _ => h
theorem len1 {α : Type} {P : List α → Prop} (h : ∀ a, P [a]) : ∀ xs : List α, xs.length = 1 → P xs := lenS fun a => len0 (P := fun l => P (a :: l)) (h a)
theorem len2 {α : Type} {P : List α → Prop} (h : ∀ a b, P [a, b]) : ∀ xs : List α, xs.length = 2 → P xs := lenS fun a => len1 (P := fun l => P (a :: l)) (h a)
theorem len3 {α : Type} {P : List α → Prop} (h : ∀ a b c, P [a, b, c]) : ∀ xs : List α, xs.length = 3 → P xs := lenS fun a => len2 (P := fun l => P (a :: l)) (h a)
theorem len4 {α : Type} {P : List α → Prop} (h : ∀ a b c d, P [a, b, c, d]) : ∀ xs : List α, xs.length = 4 → P xs := lenS fun a => len3 (P := fun l => P (a :: l)) (h a)
theorem len5 {α : Type} {P : List α → Prop} (h : ∀ a b c d e, P [a, b, c, d, e]) : ∀ xs : List α, xs.length = 5 → P xs := lenS fun a => len4 (P := fun l => P (a :: l)) (h a)
theorem len6 {α : Type} {P : List α → Prop} (h : ∀ a b c d e f, P [a, b, c, d, e, f]) : ∀ xs : List α, xs.length = 6 → P xs := lenS fun a => len5 (P := fun l => P (a :: l)) (h a)
theorem setGen_heap (s : Shared) (g : Nat) (x : GenState) : (s.setGen g x).heap = s.heap := rfl
theorem runs_size {M : Model} {Γ : PySem.Ctx} {p : Pos} {t : Sem Fin} {fs : List Frame} {s : Shared} {e : End} {s' : Shared} (h : Runs M Γ p t fs s e s') : s.heap.objs.size ≤ s'.heap.objs.size := by
  induction h <;> (try simp only [setGen_heap, Heap.size_push, Heap.size_after_update] at *) <;> first | exact Nat.le_refl _ | assumption | (refine Nat.le_trans ?_ (by assumption); assumption) | (refine Nat.le_trans (by assumption) ?_; assumption) | exact Nat.le_of_succ_le (by assumption)
theorem wakes_size {M : Model} {Γ : PySem.Ctx} {p : Pos} {g : Nat} {r : Resume} {s : Shared} {res : GenResult} {s' : Shared} (h : Wakes M Γ p g r s res s') : s.heap.objs.size ≤ s'.heap.objs.size := by
  unfold Wakes at h
  split at h
  · exact h.elim
  · split at h
    · obtain ⟨e, s1, h1, h2, h3, rfl⟩ := h; have := runs_size h1; exact this
    · obtain ⟨_, rfl⟩ := h; exact Nat.le_refl _
    · obtain ⟨_, rfl⟩ := h; exact Nat.le_refl _
  · obtain ⟨e, s1, h1, h2, h3, rfl⟩ := h; have := runs_size h1; exact this
  · obtain ⟨_, rfl⟩ := h; exact Nat.le_refl _
  · obtain ⟨_, rfl⟩ := h; exact Nat.le_refl _
theorem wp_size {α : Type} {M : Model} {Γ : PySem.Ctx} (n : Nat) (t : Sem α) : ∀ {Q : α → Pos → Shared → Prop} {E : Value → Pos → Shared → Prop} {p : Pos} {s : Shared}, n ≤ s.heap.objs.size → Sem.wp M Γ t Q E p s →
    Sem.wp M Γ t (fun a p' s' => n ≤ s'.heap.objs.size ∧ Q a p' s') E p s := by
  induction t with
  | pure a => intro Q E p s hn h; exact ⟨hn, h⟩
  | raise e => intro Q E p s hn h; exact h
  | unsupported | finish | yield | fork | await | register => intro Q E p s hn h; exact h
  | rule _ k ih | «at» _ k ih | point _ k ih | loadIfAlive _ k ih | fresh k ih | ask k ih | os _ _ k ih | handled _ k ih | newGen _ k ih | stack k ih | thread k ih => intro Q E p s hn h; exact ih _ hn h
  | alloc o k ih => intro Q E p s hn h; exact ih _ (by show n ≤ (s.heap.push o).objs.size; rw [Heap.size_push]; omega) h
  | load a _ k ih => intro Q E p s hn h; obtain ⟨o, ho, h⟩ := h; exact ⟨o, ho, ih _ hn h⟩
  | genState a k ih => intro Q E p s hn h; obtain ⟨o, ho, h⟩ := h; exact ⟨o, ho, ih _ hn h⟩
  | update a _ f k ih => intro Q E p s hn h; exact ⟨h.1, ih _ (by show n ≤ (s.heap.update a f).objs.size; rw [Heap.size_after_update]; exact hn) h.2⟩
  | choose _ _ k ih => intro Q E p s hn h; exact ⟨h.1, ih _ hn h.2⟩
  | call c hd g l k ih => intro Q E p s hn h; obtain ⟨r, s', hr, h⟩ := h; exact ⟨r, s', hr, ih _ (Nat.le_trans hn (runs_size hr)) h⟩
  | resume g r l k ih => intro Q E p s hn h; obtain ⟨r, s', hr, h⟩ := h; exact ⟨r, s', hr, ih _ (Nat.le_trans hn (wakes_size hr)) h⟩
theorem wpAny_size {α : Type} {M : Model} {A : Around} {t : Sem α} {Q : α → Shared → Prop} {E : Value → Shared → Prop} {s : Shared} (h : wpAny M A t (fun a s' => s.heap.objs.size ≤ s'.heap.objs.size → Q a s') E s) : wpAny M A t Q E s :=
  fun Γ p hΓ => Sem.wp_mono M Γ t (fun _ _ _ h => h.2 h.1) (fun _ _ _ h => h) p s (wp_size s.heap.objs.size t (Nat.le_refl _) (h Γ p hΓ))
/-- what stands at the law's call -/
structure Bs where
  w : World
  b : Heap
  mg : Str → Option Value
  mb : Str → Option Value
  mean : ExcName → Option Value
  X : (hd.heap_39 w.params).In b
  T : Top hd.view_39 (looseW hd.view_39 [Str.ofString "fraction", Str.ofString "sides_of"]) mean mg mb b
noncomputable abbrev Bs.K (B : Bs) : Frag := hd.heap_39 B.w.params
inductive V where
  | none | bool (b : Bool) | int (i : Int) | tup (l : List V) | lst (l : List V)
  | inst (C : Addr) (fs : List (Str × V)) | dict (l : List (Int × V)) | range (a b : Int) | ref (i : Nat) | glob (v : Value)
inductive O where
  | list (l : List V)
  | dict (l : List (Int × V))
  | inst (C : Addr) (d : Nat)
  | attrs (fs : List (Str × V))
  | dead
structure Wd where
  σ : List Addr
  κ : Addr → Option Obj
  n : Nat
mutual
inductive VR (w : Wd) : V → Value → Prop
  | none : VR w .none .none
  | bool (b : Bool) : VR w (.bool b) (.bool b)
  | int (i : Int) (t : Tok) : VR w (.int i) (.int i t)
  | glob (v : Value) : VR w (.glob v) v
  | ref {i : Nat} {a : Addr} : w.σ[i]? = some a → VR w (.ref i) (.ref a)
  | tup {l : List V} {a : Addr} {o : Obj} {vs : List Value} {n : Nat} : w.κ a = some o → o.cls = .type "tuple" → o.data = .seq vs.toArray n → VRs w l vs → VR w (.tup l) (.ref a)
  | lst {l : List V} {a : Addr} {vs : List Value} {n : Nat} : w.κ a = some (listOf vs.toArray n) → VRs w l vs → VR w (.lst l) (.ref a)
  | inst {C x dx : Addr} {fs : List (Str × V)} {es : List DictEntry} {n : Nat} : w.κ x = some (instObj C dx) → w.κ dx = some (dictOf es n) → ERs w fs es → VR w (.inst C fs) (.ref x)
  | range {x : Addr} {a b : Int} {t u v : Tok} : w.κ x = some { cls := .type "range", data := .fields #[.int a t, .int b u, .int 1 v] } → VR w (.range a b) (.ref x)
  | dict {l : List (Int × V)} {a : Addr} {es : List DictEntry} {n : Nat} : w.κ a = some (dictOf es n) → DEs w l es → (l.map (·.1)).Nodup → (a == sysModules) = false → VR w (.dict l) (.ref a)
inductive VRs (w : Wd) : List V → List Value → Prop
  | nil : VRs w [] []
  | cons {v : V} {x : Value} {l : List V} {r : List Value} : VR w v x → VRs w l r → VRs w (v :: l) (x :: r)
inductive ERs (w : Wd) : List (Str × V) → List DictEntry → Prop
  | nil : ERs w [] []
  | cons {nm : Str} {t : Tok} {h : Int} {v : V} {x : Value} {l : List (Str × V)} {r : List DictEntry} : VR w v x → ERs w l r → ERs w ((nm, v) :: l) (⟨h, .str nm t, x⟩ :: r)
inductive DEs (w : Wd) : List (Int × V) → List DictEntry → Prop
  | nil : DEs w [] []
  | cons {k : Int} {t : Tok} {v : V} {x : Value} {l : List (Int × V)} {r : List DictEntry} : VR w v x → DEs w l r → DEs w ((k, v) :: l) (⟨hashInt k, .int k t, x⟩ :: r)
end
/-- keys and values of a dict by ints -/
inductive DRs (w : Wd) : List (Int × V) → List (Int × Value) → Prop
  | nil : DRs w [] []
  | cons {k : Int} {v : V} {x : Value} {l : List (Int × V)} {r : List (Int × Value)} : VR w v x → DRs w l r → DRs w ((k, v) :: l) ((k, x) :: r)
structure Wd.Le (w w' : Wd) : Prop where
  σ : ∀ (i : Nat) (a : Addr), w.σ[i]? = some a → w'.σ[i]? = some a
  κ : ∀ a o, w.κ a = some o → w'.κ a = some o
theorem Wd.Le.refl (w : Wd) : w.Le w := ⟨fun _ _ e => e, fun _ _ e => e⟩
theorem Wd.Le.trans {a b c : Wd} (x : a.Le b) (y : b.Le c) : a.Le c := ⟨fun i z e => y.σ i z (x.σ i z e), fun z o e => y.κ z o (x.κ z o e)⟩
mutual
theorem VR.mono {w w' : Wd} (L : w.Le w') : ∀ {v : V} {x : Value}, VR w v x → VR w' v x
  | _, _, .none => .none
  | _, _, .bool b => .bool b
  | _, _, .int i t => .int i t
  | _, _, .glob v => .glob v
  | _, _, .ref e => .ref (L.σ _ _ e)
  | _, _, .tup a b c d => .tup (L.κ _ _ a) b c (VRs.mono L d)
  | _, _, .lst a d => .lst (L.κ _ _ a) (VRs.mono L d)
  | _, _, .inst a b c => .inst (L.κ _ _ a) (L.κ _ _ b) (ERs.mono L c)
  | _, _, .dict a b c d => .dict (L.κ _ _ a) (DEs.mono L b) c d
  | _, _, .range a => .range (L.κ _ _ a)
theorem VRs.mono {w w' : Wd} (L : w.Le w') : ∀ {l : List V} {r : List Value}, VRs w l r → VRs w' l r
  | _, _, .nil => .nil
  | _, _, .cons a b => .cons (VR.mono L a) (VRs.mono L b)
theorem ERs.mono {w w' : Wd} (L : w.Le w') : ∀ {l : List (Str × V)} {r : List DictEntry}, ERs w l r → ERs w' l r
  | _, _, .nil => .nil
  | _, _, .cons a b => .cons (VR.mono L a) (ERs.mono L b)
theorem DEs.mono {w w' : Wd} (L : w.Le w') : ∀ {l : List (Int × V)} {r : List DictEntry}, DEs w l r → DEs w' l r
  | _, _, .nil => .nil
  | _, _, .cons a b => .cons (VR.mono L a) (DEs.mono L b)
end
theorem DRs.mono {w w' : Wd} (L : w.Le w') {l : List (Int × V)} {r : List (Int × Value)} (h : DRs w l r) : DRs w' l r := by
  induction h with
  | nil => exact .nil
  | cons a _ ih => exact .cons (a.mono L) ih
/-- an abstract object and the object at its address -/
noncomputable def OR (B : Bs) (w : Wd) : O → Obj → Prop
  | .list l, ob => ∃ vs n, ob = listOf (List.toArray vs) n ∧ VRs w l vs
  | .dict l, ob => ∃ kvs, ob.IsDictOf (intKind PG B.w) kvs ∧ DRs w l kvs
  | .inst C d, ob => ∃ dx, w.σ[d]? = some dx ∧ ob = instObj C dx
  | .attrs fs, ob => ∃ es n, ob = dictOf es n ∧ ERs w fs es
  | .dead, _ => True
theorem OR.mono {B : Bs} {w w' : Wd} (L : w.Le w') : ∀ {o : O} {ob : Obj}, OR B w o ob → OR B w' o ob
  | .list _, _, ⟨vs, n, b, c⟩ => ⟨vs, n, b, c.mono L⟩
  | .dict _, _, ⟨kvs, a, b⟩ => ⟨kvs, a, b.mono L⟩
  | .inst _ _, _, ⟨dx, a, b⟩ => ⟨dx, L.σ _ _ a, b⟩
  | .attrs _, _, ⟨es, n, a, b⟩ => ⟨es, n, a, b.mono L⟩
  | .dead, _, _ => True.intro
structure Core (B : Bs) (w : Wd) (st : List O) (s : Shared) : Prop where
  n : s.heap.objs.size = w.n
  sm : sysModules < w.n
  base : ∀ a o, B.b.get? a = some o → s.heap.get? a = some o
  kp : ∀ a o, w.κ a = some o → s.heap.get? a = some o
  len : w.σ.length = st.length
  nd : w.σ.Nodup
  low : ∀ a ∈ w.σ, a < w.n ∧ B.b.get? a = none ∧ (a == sysModules) = false
  ob : ∀ (i : Nat) (o : O), st[i]? = some o → o ≠ .dead → ∃ a ob, w.σ[i]? = some a ∧ w.κ a = none ∧ s.heap.get? a = some ob ∧ OR B w o ob
structure Step (X : Addr → Prop) (w : Wd) (s : Shared) (w' : Wd) (s' : Shared) : Prop extends w.Le w' where
  n : w.n ≤ w'.n
  fκ : ∀ a o, w'.κ a = some o → w.κ a = some o ∨ w.n ≤ a ∨ a ∈ w.σ
  fσ : ∀ a ∈ w'.σ, a ∈ w.σ ∨ w.n ≤ a
  keep : ∀ a o, s.heap.get? a = some o → a ∉ w.σ → ¬ X a → s'.heap.get? a = some o
  gens : s'.gens = s.gens
  drawn : s'.drawn = s.drawn
  os : s'.os = s.os
noncomputable abbrev NoX : Addr → Prop := fun _ => False
theorem Step.refl {X : Addr → Prop} (w : Wd) (s : Shared) : Step X w s w s :=
  ⟨.refl w, Nat.le_refl _, fun _ _ e => .inl e, fun _ e => .inl e, fun _ _ e _ _ => e, rfl, rfl, rfl⟩
theorem Step.trans {X : Addr → Prop} {B : Bs} {w w₁ w₂ : Wd} {s s₁ s₂ : Shared} {st : List O} (C : Core B w st s) (x : Step X w s w₁ s₁) (y : Step X w₁ s₁ w₂ s₂) : Step X w s w₂ s₂ where
  toLe := x.toLe.trans y.toLe
  n := Nat.le_trans x.n y.n
  fκ := fun a o e => by
    rcases y.fκ a o e with h | h | h
    · exact x.fκ a o h
    · exact .inr (.inl (Nat.le_trans x.n h))
    · rcases x.fσ a h with h | h
      · exact .inr (.inr h)
      · exact .inr (.inl h)
  fσ := fun a e => by
    rcases y.fσ a e with h | h
    · exact x.fσ a h
    · exact .inr (Nat.le_trans x.n h)
  keep := fun a o e h1 h2 => by
    refine y.keep a o (x.keep a o e h1 h2) (fun h => ?_) h2
    rcases x.fσ a h with h | h
    · exact h1 h
    · exact absurd (C.n ▸ Heap.lt_size e) (Nat.not_lt.mpr h)
  gens := y.gens.trans x.gens
  drawn := y.drawn.trans x.drawn
  os := y.os.trans x.os
theorem Step.weaken {X Y : Addr → Prop} {w w' : Wd} {s s' : Shared} (h : ∀ a, X a → Y a) (x : Step X w s w' s') : Step Y w s w' s' :=
  { x with keep := fun a o e h1 h2 => x.keep a o e h1 fun z => h2 (h a z) }
structure Room (k : Nat) (A : Around) : Prop where
  depth : A.depth + 8 * k + 8 < 1000
  units : A.units + 32 * k + 100 < 9900
  handled : A.handled = none
theorem Room.le {j k : Nat} {A : Around} (R : Room k A) (h : j ≤ k) : Room j A :=
  ⟨by have := R.depth; omega, by have := R.units; omega, R.handled⟩
theorem Room.in1 {k : Nat} {A : Around} (R : Room (k + 1) A) : Room k A.in1 :=
  ⟨by have := R.depth; show A.depth + _ + _ < _; omega, by have := R.units; show A.units + 1 + _ + _ < _; omega, R.handled⟩
theorem Room.deeper {k : Nat} {A : Around} {env : Env} (R : Room (k + 1) A) : Room k (A.deeper env) :=
  ⟨by have := R.depth; show A.depth + 1 + _ + _ < _; omega, by have := R.units; show A.units + 3 + _ + _ < _; omega, R.handled⟩
theorem Room.lt {k : Nat} {A : Around} (R : Room k A) : A.depth < recursionLimit := by have := R.depth; show A.depth < 1000; omega
theorem Room.line {k : Nat} {A : Around} (R : Room k A) : A.units < cLine := by have := R.units; show A.units < 9900; omega
/-- from (w, s), whose store is st, the tree runs to a store st', its answer as R says -/
noncomputable def Do (B : Bs) (k : Nat) {α : Type} (X : Addr → Prop) (t : Sem α) (w : Wd) (s : Shared) (st' : List O) (R : Wd → α → Shared → Prop) : Prop :=
  ∀ (A : Around) (Q : α → Shared → Prop) (E : Value → Shared → Prop), Room k A →
    (∀ a w' s', Core B w' st' s' → Step X w s w' s' → R w' a s' → Q a s') → wpAny (model PG B.w) A t Q E s
theorem nodup_inj {α : Type} : ∀ {l : List α}, l.Nodup → ∀ {i j : Nat} {a : α}, l[i]? = some a → l[j]? = some a → i = j
  | [], _, i, _, _, h, _ => by simp at h
  | x :: l, hn, i, j, a, hi, hj => by
    rw [List.nodup_cons] at hn
    cases i with
    | zero => cases j with
      | zero => rfl
      | succ j => simp at hi hj; subst hi; exact absurd (List.mem_of_getElem? hj) hn.1
    | succ i => cases j with
      | zero => simp at hi hj; subst hj; exact absurd (List.mem_of_getElem? hi) hn.1
      | succ j => simp at hi hj; rw [nodup_inj hn.2 hi hj]
section
variable {B : Bs} {k : Nat} {α β : Type} {X : Addr → Prop} {w : Wd} {s : Shared} {st st' st₁ : List O}
theorem Do.pure {a : α} {R : Wd → α → Shared → Prop} (C : Core B w st s) (h : R w a s) : Do B k X (Pure.pure a : Sem α) w s st R :=
  fun _ _ _ _ q => wpAny_pure (q a w s C (.refl w s) h)
theorem Do.bind {t : Sem α} {f : α → Sem β} {R₁ : Wd → α → Shared → Prop} {R : Wd → β → Shared → Prop} (C : Core B w st s) (h : Do B k X t w s st₁ R₁)
    (g : ∀ a w₁ s₁, Core B w₁ st₁ s₁ → Step X w s w₁ s₁ → R₁ w₁ a s₁ → Do B k X (f a) w₁ s₁ st' R) : Do B k X (t >>= f) w s st' R :=
  fun A Q E hA q => wpAny_bind (h A _ E hA fun a w₁ s₁ C₁ S₁ r₁ => g a w₁ s₁ C₁ S₁ r₁ A Q E hA fun b w₂ s₂ C₂ S₂ r₂ => q b w₂ s₂ C₂ (S₁.trans C S₂) r₂)
theorem Do.mono {t : Sem α} {R R' : Wd → α → Shared → Prop} (h : Do B k X t w s st' R) (m : ∀ w' a s', Core B w' st' s' → Step X w s w' s' → R w' a s' → R' w' a s') : Do B k X t w s st' R' :=
  fun A Q E hA q => h A Q E hA fun a w' s' C S r => q a w' s' C S (m w' a s' C S r)
theorem Do.weaken {Y : Addr → Prop} {t : Sem α} {R : Wd → α → Shared → Prop} (h : Do B k X t w s st' R) (m : ∀ a, X a → Y a) : Do B k Y t w s st' R :=
  fun A Q E hA q => h A Q E hA fun a w' s' C S r => q a w' s' C (S.weaken m) r
theorem Do.le {j : Nat} {t : Sem α} {R : Wd → α → Shared → Prop} (h : Do B j X t w s st' R) (m : j ≤ k) : Do B k X t w s st' R :=
  fun A Q E hA q => h A Q E (hA.le m) q
theorem Do.holding {vs : List Value} {t : Sem α} {R : Wd → α → Shared → Prop} (h : Do B k X t w s st' R) : Do B k X (PySem.holding vs t) w s st' R :=
  fun A Q E hA q => wpAny_holding (h A Q E hA q)
theorem Do.standAt {pos : Pos} {f : Unit → Sem α} {R : Wd → α → Shared → Prop} (h : Do B k X (f ()) w s st' R) : Do B k X (PySem.standAt pos >>= f) w s st' R :=
  fun A Q E hA q => wpAny_bind (wpAny_standAt (h A Q E hA q))
theorem Do.rule {tag : String} {f : Unit → Sem α} {R : Wd → α → Shared → Prop} (h : Do B k X (f ()) w s st' R) : Do B k X (PySem.rule tag >>= f) w s st' R :=
  fun A Q E hA q => wpAny_bind (wpAny_rule (h A Q E hA q))
theorem Core.toks {tk : Nat} (C : Core B w st s) : Core B w st { s with toks := tk } := ⟨C.n, C.sm, C.base, C.kp, C.len, C.nd, C.low, C.ob⟩
theorem Step.toks {tk : Nat} : Step X w s w { s with toks := tk } := ⟨.refl w, Nat.le_refl _, fun _ _ e => .inl e, fun _ e => .inl e, fun _ _ e _ _ => e, rfl, rfl, rfl⟩
/-- a tree that leaves the heap as it is and answers a -/
theorem Do.still {t : Sem α} {a : α} {R : Wd → α → Shared → Prop} (C : Core B w st s)
    (h : ∀ A Q E, Room k A → (∀ tk, Q a { s with toks := tk }) → wpAny (model PG B.w) A t Q E s) (r : ∀ tk, R w a { s with toks := tk }) : Do B k X t w s st R :=
  fun A Q E hA q => h A Q E hA fun tk => q a w _ C.toks .toks (r tk)
/-- the heap has changed at places Y that no knowledge speaks of -/
theorem Core.change {Y : Addr → Prop} {h : Heap} {tk : Nat} (C : Core B w st s) (hz : s.heap.objs.size ≤ h.objs.size) (hk : ∀ a o, s.heap.get? a = some o → ¬ Y a → h.get? a = some o)
    (hY : ∀ a, Y a → a ∉ w.σ ∧ w.κ a = none ∧ B.b.get? a = none) : Core B { w with n := h.objs.size } st { s with heap := h, toks := tk } where
  n := rfl
  sm := Nat.lt_of_lt_of_le C.sm (C.n ▸ hz)
  base := fun a o e => hk a o (C.base a o e) fun y => by rw [(hY a y).2.2] at e; cases e
  kp := fun a o e => hk a o (C.kp a o e) fun y => by rw [(hY a y).2.1] at e; cases e
  len := C.len
  nd := C.nd
  low := fun a ha => ⟨Nat.lt_of_lt_of_le (C.low a ha).1 (C.n ▸ hz), (C.low a ha).2⟩
  ob := fun i o e hd => let ⟨a, ob, h1, h2, h3, h4⟩ := C.ob i o e hd
    ⟨a, ob, h1, h2, hk _ _ h3 fun y => (hY a y).1 (List.mem_of_getElem? h1), h4.mono (w := w) (w' := { w with n := h.objs.size }) ⟨fun _ _ e => e, fun _ _ e => e⟩⟩
theorem Step.change {Y : Addr → Prop} {h : Heap} {tk : Nat} (C : Core B w st s) (hz : s.heap.objs.size ≤ h.objs.size) (hk : ∀ a o, s.heap.get? a = some o → ¬ Y a → h.get? a = some o) :
    Step Y w s { w with n := h.objs.size } { s with heap := h, toks := tk } :=
  ⟨⟨fun _ _ e => e, fun _ _ e => e⟩, C.n ▸ hz, fun _ _ e => .inl e, fun _ e => .inl e, fun a o e _ y => hk a o e y, rfl, rfl, rfl⟩
/-- the heap has grown by objects of the machine's own -/
theorem Core.grow {h : Heap} {tk : Nat} (C : Core B w st s) (hz : s.heap.objs.size ≤ h.objs.size) (hk : ∀ a o, s.heap.get? a = some o → h.get? a = some o) :
    Core B { w with n := h.objs.size } st { s with heap := h, toks := tk } := C.change (Y := NoX) hz (fun a o e _ => hk a o e) fun _ y => y.elim
theorem Step.grow {h : Heap} {tk : Nat} (C : Core B w st s) (hz : s.heap.objs.size ≤ h.objs.size) (hk : ∀ a o, s.heap.get? a = some o → h.get? a = some o) :
    Step X w s { w with n := h.objs.size } { s with heap := h, toks := tk } := (Step.change (Y := NoX) C hz fun a o e _ => hk a o e).weaken fun _ y => y.elim
/-- an object known to be immutable -/
theorem Core.know {a : Addr} {ob : Obj} (C : Core B w st s) (hg : s.heap.get? a = some ob) (hs : a ∉ w.σ) : Core B { w with κ := fun b => if b = a then some ob else w.κ b } st s where
  n := C.n
  sm := C.sm
  base := C.base
  kp := fun b o e => by
    by_cases h : b = a
    · subst h; simp only [if_true] at e; cases e; exact hg
    · simp only [h, if_false] at e; exact C.kp b o e
  len := C.len
  nd := C.nd
  low := C.low
  ob := fun i o e hd => by
    obtain ⟨b, ob', h1, h2, h3, h4⟩ := C.ob i o e hd
    have hb : b ≠ a := fun q => hs (q ▸ List.mem_of_getElem? h1)
    refine ⟨b, ob', h1, by simp only [hb, if_false]; exact h2, h3, h4.mono (w := w) (w' := { w with κ := fun b => if b = a then some ob else w.κ b }) ⟨fun _ _ e => e, fun c oc e => ?_⟩⟩
    by_cases h : c = a
    · subst h
      have := C.kp c oc e
      simp only [if_true]; rw [← hg]; exact this
    · simp only [h, if_false]; exact e
theorem Wd.Le.know {a : Addr} {ob : Obj} (C : Core B w st s) (hg : s.heap.get? a = some ob) : w.Le { w with κ := fun b => if b = a then some ob else w.κ b } :=
  ⟨fun _ _ e => e, fun b o e => by
    by_cases h : b = a
    · subst h; simp only [if_true]; rw [← hg]; exact C.kp b o e
    · simp only [h, if_false]; exact e⟩
theorem Step.know {w₀ : Wd} {s₀ : Shared} {a : Addr} {ob : Obj} (C : Core B w st s) (S : Step X w₀ s₀ w s) (hg : s.heap.get? a = some ob) (ha : w₀.n ≤ a ∨ a ∈ w₀.σ) :
    Step X w₀ s₀ { w with κ := fun b => if b = a then some ob else w.κ b } s :=
  { S with
    toLe := S.toLe.trans (.know C hg)
    fκ := fun b o e => by
      by_cases h : b = a
      · subst h; exact .inr ha
      · simp only [h, if_false] at e; exact S.fκ b o e }
/-- a new object of the store -/
theorem Core.new {a : Addr} {ob : Obj} {o : O} (C : Core B w st s) (hg : s.heap.get? a = some ob) (hs : a ∉ w.σ) (hκ : w.κ a = none) (hb : B.b.get? a = none) (hm : (a == sysModules) = false)
    (ho : OR B { w with σ := w.σ ++ [a] } o ob) : Core B { w with σ := w.σ ++ [a] } (st ++ [o]) s where
  n := C.n
  sm := C.sm
  base := C.base
  kp := C.kp
  len := by simp [C.len]
  nd := by
    rw [List.nodup_append]
    exact ⟨C.nd, by simp, fun x hx y hy e => by rw [List.mem_singleton] at hy; subst hy; subst e; exact hs hx⟩
  low := fun b hb' => by
    rcases List.mem_append.mp hb' with h | h
    · exact C.low b h
    · rw [List.mem_singleton] at h; subst h; exact ⟨C.n ▸ Heap.lt_size hg, hb, hm⟩
  ob := fun i o' e hd => by
    have hL : w.Le { w with σ := w.σ ++ [a] } := ⟨fun j z e => by show (w.σ ++ [a])[j]? = _; rw [List.getElem?_append_left (List.getElem?_eq_some_iff.mp e).1]; exact e, fun _ _ e => e⟩
    by_cases h : i < st.length
    · rw [List.getElem?_append_left h] at e
      obtain ⟨b, ob', h1, h2, h3, h4⟩ := C.ob i o' e hd
      exact ⟨b, ob', hL.σ _ _ h1, h2, h3, h4.mono hL⟩
    · rw [List.getElem?_append_right (by omega)] at e
      have h0 : i - st.length = 0 := by
        have := (List.getElem?_eq_some_iff.mp e).1
        simp at this; omega
      rw [h0] at e
      cases e
      refine ⟨a, ob, ?_, hκ, hg, ho⟩
      show (w.σ ++ [a])[i]? = _
      have : i = w.σ.length := by rw [C.len]; omega
      subst this
      simp
theorem Wd.Le.new {a : Addr} : w.Le { w with σ := w.σ ++ [a] } :=
  ⟨fun j z e => by show (w.σ ++ [a])[j]? = _; rw [List.getElem?_append_left (List.getElem?_eq_some_iff.mp e).1]; exact e, fun _ _ e => e⟩
theorem Step.new {w₀ : Wd} {s₀ : Shared} {a : Addr} (S : Step X w₀ s₀ w s) (ha : w₀.n ≤ a) : Step X w₀ s₀ { w with σ := w.σ ++ [a] } s :=
  { S with
    toLe := S.toLe.trans .new
    fσ := fun b hb => by
      rcases List.mem_append.mp hb with h | h
      · exact S.fσ b h
      · rw [List.mem_singleton] at h; subst h; exact .inr ha }
/-- an object of the store is changed -/
theorem Core.set {i : Nat} {a : Addr} {ob : Obj} {o : O} {h : Heap} {tk : Nat} (C : Core B w st s) (hi : w.σ[i]? = some a) (hκ : w.κ a = none) (hs : Heap.SameBut a s.heap h) (hg : h.get? a = some ob)
    (ho : OR B w o ob) : Core B w (st.set i o) { s with heap := h, toks := tk } where
  n := hs.1.trans C.n
  sm := C.sm
  base := fun b o e => (hs.2 b fun q => by subst q; rw [(C.low b (List.mem_of_getElem? hi)).2.1] at e; cases e).trans (C.base b o e)
  kp := fun b o e => (hs.2 b fun q => by subst q; rw [hκ] at e; cases e).trans (C.kp b o e)
  len := by simp [C.len]
  nd := C.nd
  low := C.low
  ob := fun j o' e hd => by
    by_cases hj : i = j
    · subst hj
      have hl : i < st.length := by rw [← C.len]; exact (List.getElem?_eq_some_iff.mp hi).1
      rw [List.getElem?_set_self hl] at e
      cases e
      exact ⟨a, ob, hi, hκ, hg, ho⟩
    · rw [List.getElem?_set_ne hj] at e
      obtain ⟨b, ob', h1, h2, h3, h4⟩ := C.ob j o' e hd
      refine ⟨b, ob', h1, h2, (hs.2 b fun q => hj ?_).trans h3, h4⟩
      subst q
      have l1 := (List.getElem?_eq_some_iff.mp hi).1
      have l2 := (List.getElem?_eq_some_iff.mp h1).1
      exact nodup_inj C.nd hi h1
theorem Step.set {i : Nat} {a : Addr} {h : Heap} {tk : Nat} (hi : w.σ[i]? = some a) (hs : Heap.SameBut a s.heap h) : Step X w s w { s with heap := h, toks := tk } :=
  ⟨.refl w, Nat.le_refl _, fun _ _ e => .inl e, fun _ e => .inl e, fun b _ e h1 _ => (hs.2 b fun q => h1 (q ▸ List.mem_of_getElem? hi)).trans e, rfl, rfl, rfl⟩
/-- an object of the store is given up -/
theorem Core.kill {i : Nat} (C : Core B w st s) : Core B w (st.set i .dead) s where
  n := C.n
  sm := C.sm
  base := C.base
  kp := C.kp
  len := by simp [C.len]
  nd := C.nd
  low := C.low
  ob := fun j o' e hd => by
    by_cases hj : i = j
    · subst hj
      by_cases hl : i < st.length
      · rw [List.getElem?_set_self hl] at e; cases e; exact absurd rfl hd
      · rw [List.getElem?_eq_none (by simpa using hl)] at e; cases e
    · rw [List.getElem?_set_ne hj] at e; exact C.ob j o' e hd
end
/-- where a name's value lies -/
noncomputable def Has (env : Env) (m : Str → Option Value) (h : Heap) (x : Str) (v : Value) : Prop :=
  (env.kindOf x = some .local ∧ m x = some v) ∨ ((env.kindOf x = some .cell ∨ env.kindOf x = some .free) ∧ ∃ c, env.cells.lookup x = some c ∧ h.IsCell c (some v))
structure Frm (B : Bs) (env : Env) (w : Wd) (ρ : List (Str × V)) (s : Shared) : Prop where
  fk : env.scope.kind = .function
  gl : env.globals = mainGlobals
  bl : env.builtins = builtinsNs
  L : env.locals ∉ w.σ ∧ w.κ env.locals = none ∧ B.b.get? env.locals = none ∧ env.locals < w.n
  cl : ∀ x c, env.cells.lookup x = some c → c ∉ w.σ ∧ w.κ c = none ∧ B.b.get? c = none ∧ c < w.n ∧ c ≠ env.locals
  ce : ∀ x c, env.cells.lookup x = some c → ∃ v₀, s.heap.IsCell c v₀
  ci : ∀ x y c, env.cells.lookup x = some c → env.cells.lookup y = some c → x = y
  ns : ∃ m, s.heap.Ns env.locals m ∧ ∀ x v, ρ.lookup x = some v → ∃ val, VR w v val ∧ Has env m s.heap x val
theorem Frm.step {B : Bs} {env : Env} {X : Addr → Prop} {w w' : Wd} {ρ : List (Str × V)} {s s' : Shared} (F : Frm B env w ρ s) (S : Step X w s w' s') (hX : ∀ a, X a → a ≠ env.locals ∧ ∀ x, env.cells.lookup x ≠ some a) : Frm B env w' ρ s' where
  fk := F.fk
  gl := F.gl
  bl := F.bl
  L := by
    obtain ⟨h1, h2, h3, h4⟩ := F.L
    refine ⟨fun h => ?_, ?_, h3, Nat.lt_of_lt_of_le h4 S.n⟩
    · rcases S.fσ _ h with h | h
      · exact h1 h
      · exact absurd h4 (Nat.not_lt.mpr h)
    · cases q : w'.κ env.locals with
      | none => rfl
      | some o =>
        rcases S.fκ _ _ q with h | h | h
        · rw [h2] at h; cases h
        · exact absurd h4 (Nat.not_lt.mpr h)
        · exact absurd h h1
  cl := fun x c e => by
    obtain ⟨h1, h2, h3, h4, h5⟩ := F.cl x c e
    refine ⟨fun h => ?_, ?_, h3, Nat.lt_of_lt_of_le h4 S.n, h5⟩
    · rcases S.fσ _ h with h | h
      · exact h1 h
      · exact absurd h4 (Nat.not_lt.mpr h)
    · cases q : w'.κ c with
      | none => rfl
      | some o =>
        rcases S.fκ _ _ q with h | h | h
        · rw [h2] at h; cases h
        · exact absurd h4 (Nat.not_lt.mpr h)
        · exact absurd h h1
  ce := fun x c e => let ⟨v₀, o, ho, hd⟩ := F.ce x c e; ⟨v₀, o, S.keep _ _ ho (F.cl x c e).1 fun h => (hX _ h).2 x e, hd⟩
  ci := F.ci
  ns := by
    obtain ⟨m, ⟨o, es, ep, ho, r⟩, hv⟩ := F.ns
    refine ⟨m, ⟨o, es, ep, S.keep _ _ ho F.L.1 fun h => (hX _ h).1 rfl, r⟩, fun x v e => ?_⟩
    obtain ⟨val, h1, h2⟩ := hv x v e
    refine ⟨val, h1.mono S.toLe, h2.imp id fun ⟨a, c, hc, oc, hoc, hd⟩ => ⟨a, c, hc, oc, S.keep _ _ hoc (F.cl x c hc).1 fun h => (hX _ h).2 x hc, hd⟩⟩
theorem Frm.stepN {B : Bs} {env : Env} {w w' : Wd} {ρ : List (Str × V)} {s s' : Shared} (F : Frm B env w ρ s) (S : Step NoX w s w' s') : Frm B env w' ρ s' := F.step S fun _ h => h.elim
noncomputable def Ev (B : Bs) (k : Nat) (env : Env) (e : Expr) (ρ : List (Str × V)) (st : List O) (v : V) (st' : List O) : Prop :=
  ∀ w s, Core B w st s → Frm B env w ρ s → Do B k NoX (eval e env) w s st' (fun w' x _ => VR w' v x)
noncomputable def Tr (B : Bs) (k : Nat) (env : Env) (e : Expr) (ρ : List (Str × V)) (st : List O) (b : Bool) (st' : List O) : Prop :=
  ∀ w s, Core B w st s → Frm B env w ρ s → Do B k NoX (isTrue e env (eval e env)) w s st' (fun _ c _ => c = b)
/-- the arguments of a call, the places of a display -/
noncomputable def Evs (B : Bs) (k : Nat) (env : Env) (es : List Expr) (ρ : List (Str × V)) (st : List O) (vs : List V) (st' : List O) : Prop :=
  ∀ pos w s, Core B w st s → Frm B env w ρ s → Do B k NoX (spliced (backTo pos (starEach es env))) w s st' (fun w' xs _ => VRs w' vs xs)
section
variable {B : Bs} {k : Nat} {env : Env} {ρ : List (Str × V)} {st st₁ st₂ st' : List O} {pos : Pos}
theorem Ev.int {i : Int} {c : Nat} : Ev B k env (.Constant (.int i) c pos) ρ st (.int i) st :=
  fun w s C _ A Q E _ q => wpAny_Constant_int (q _ w _ C.toks .toks (.int i _))
theorem Ev.bool {b : Bool} {c : Nat} : Ev B k env (.Constant (.bool b) c pos) ρ st (.bool b) st :=
  fun w s C _ A Q E _ q => wpAny_Constant_bool (q _ w _ C (.refl w s) (.bool b))
theorem Ev.none {c : Nat} : Ev B k env (.Constant .none c pos) ρ st .none st :=
  fun w s C _ A Q E _ q => wpAny_Constant_none (q _ w _ C (.refl w s) .none)
theorem Ev.name {x : Str} {v : V} (h : ρ.lookup x = some v) (hd : (x == ("__debug__" : Str)) = false) (hc : (x == ("__classdict__" : Str)) = false) : Ev B k env (.Name x pos) ρ st v st := fun w s C F A Q E _ q => by
  obtain ⟨m, hn, hv⟩ := F.ns
  obtain ⟨val, h1, h2⟩ := hv x v h
  have fin : Q val s := q val w s C (.refl w s) h1
  refine wpAny_Name ?_ hd
  rcases h2 with ⟨h2, h3⟩ | ⟨h2 | h2, c, h3, h4⟩
  · exact wpAny_loadName_local F.fk h2 hn h3 fin
  · exact wpAny_loadName_cell F.fk h2 h3 h4 fin
  · exact wpAny_loadName_free F.fk h2 h3 h4 fin hc
theorem Ev.glob {x : Str} {v : Value} (e : nsIn B.K mainGlobals x = some (some v)) (hx : env.kindOf x = some .globalImplicit) (hd : (x == ("__debug__" : Str)) = false) : Ev B k env (.Name x pos) ρ st (.glob v) st := fun w s C F A Q E _ q => by
  refine Name_function_global F.fk hx (loadGlobal_global (mg := B.mg) (by rw [F.gl]; exact B.T.g.keeps C.base) (mg_of B.X B.T.g e) (q v w s C (.refl w s) (.glob v))) hd
theorem Ev.blt {x : Str} {v : Value} (e : nsIn B.K mainGlobals x = some .none) (hx : env.kindOf x = some .globalImplicit) (hv : bootBuiltins x = some v) (hn : x ≠ "__name__") (hd : (x == ("__debug__" : Str)) = false) : Ev B k env (.Name x pos) ρ st (.glob v) st := fun w s C F A Q E _ q => by
  refine Name_function_global F.fk hx (loadGlobal_builtin (mg := B.mg) (mb := B.mb) (by rw [F.gl]; exact B.T.g.keeps C.base) (mg_none_of B.X B.T.g e) (by rw [F.bl]; exact B.T.b.keeps C.base) ((B.T.builtins x hn).trans hv) (q v w s C (.refl w s) (.glob v))) hd
/-- an operation of two values: what it answers -/
noncomputable def Op2 (B : Bs) (k : Nat) (t : Value → Value → Sem Value) (a b : V) (st : List O) (c : V) : Prop :=
  ∀ w s x y, Core B w st s → VR w a x → VR w b y → Do B k NoX (t x y) w s st (fun w' z _ => VR w' c z)
theorem Ev.bin {op : Operator} {l r : Expr} {a b c : V} (hl : Ev B k env l ρ st a st₁) (hr : Ev B k env r ρ st₁ b st₂) (ho : Op2 B k (binaryOp op) a b st₂ c) : Ev B k env (.BinOp l op r pos) ρ st c st₂ := fun w s C F A Q E hA q =>
  wpAny_BinOp (hl w s C F A _ E hA fun x w₁ s₁ C₁ S₁ r₁ => hr w₁ s₁ C₁ (F.stepN S₁) A _ E hA fun y w₂ s₂ C₂ S₂ r₂ =>
    ho w₂ s₂ x y C₂ (r₁.mono S₂.toLe) r₂ A _ E hA fun z w₃ s₃ C₃ S₃ r₃ => q z w₃ s₃ C₃ ((S₁.trans C S₂).trans C S₃) r₃)
theorem Ev.cmp {op : CmpOp} {l r : Expr} {a b c : V} (hl : Ev B k env l ρ st a st₁) (hr : Ev B k env r ρ st₁ b st₂) (ho : Op2 B k (compareOp op) a b st₂ c) (hm : behindInMarks op r = false) : Ev B k env (.Compare l [op] [r] pos) ρ st c st₂ := fun w s C F A Q E hA q =>
  wpAny_Compare1 (hl w s C F A _ E hA fun x w₁ s₁ C₁ S₁ r₁ => hr w₁ s₁ C₁ (F.stepN S₁) A _ E hA fun y w₂ s₂ C₂ S₂ r₂ =>
    ho w₂ s₂ x y C₂ (r₁.mono S₂.toLe) r₂ A _ E hA fun z w₃ s₃ C₃ S₃ r₃ => q z w₃ s₃ C₃ ((S₁.trans C S₂).trans C S₃) r₃) hm
theorem Tr.cmp {op : CmpOp} {l r : Expr} {a b : V} {c : Bool} (hl : Ev B k env l ρ st a st₁) (hr : Ev B k env r ρ st₁ b st₂) (ho : Op2 B k (compareOp op) a b st₂ (.bool c)) (hm : behindInMarks op r = false) : Tr B k env (.Compare l [op] [r] pos) ρ st c st₂ := fun w s C F A Q E hA q =>
  wpAny_isTrue_Compare1 (hl w s C F A _ E hA fun x w₁ s₁ C₁ S₁ r₁ => hr w₁ s₁ C₁ (F.stepN S₁) A _ E hA fun y w₂ s₂ C₂ S₂ r₂ =>
    ho w₂ s₂ x y C₂ (r₁.mono S₂.toLe) r₂ A _ E hA fun z w₃ s₃ C₃ S₃ r₃ => by
      cases r₃
      exact wpAny_truthy_bool (q c w₃ s₃ C₃ ((S₁.trans C S₂).trans C S₃) rfl)) hm
theorem Op2.still {t : Value → Value → Sem Value} {i j : Int} {c : V} (h : ∀ (s : Shared) tx ty A Q E, Room k A → (∀ tk x, (∀ w, VR w c x) → Q x { s with toks := tk }) → wpAny (model PG B.w) A (t (.int i tx) (.int j ty)) Q E s) : Op2 B k t (.int i) (.int j) st c := fun w s x y C hx hy A Q E hA q => by
  cases hx; cases hy
  exact h s _ _ A Q E hA fun tk x hx => q x w _ C.toks .toks (hx w)
theorem Op2.add {i j : Int} : Op2 B k (binaryOp .Add) (.int i) (.int j) st (.int (i + j)) := .still fun _ _ _ _ _ _ _ q => P.add_int (q _ _ fun _ => .int _ _)
theorem Op2.sub {i j : Int} : Op2 B k (binaryOp .Sub) (.int i) (.int j) st (.int (i - j)) := .still fun _ _ _ _ _ _ _ q => P.sub_int (q _ _ fun _ => .int _ _)
theorem Op2.mul {i j : Int} (h : IntMulOk i j) : Op2 B k (binaryOp .Mult) (.int i) (.int j) st (.int (i * j)) := .still fun _ _ _ _ _ _ _ q => P.mul_int (q _ _ fun _ => .int _ _) h
theorem Op2.fdiv {i j : Int} (h : j ≠ 0) (h' : j.natAbs < 1073741824) : Op2 B k (binaryOp .FloorDiv) (.int i) (.int j) st (.int (i.fdiv j)) := .still fun _ _ _ _ _ _ _ q => floordiv_int h (q _ _ fun _ => .int _ _) (.inl (PyProof.noPylong_small h'))
theorem Op2.fmod {i j : Int} (h : j ≠ 0) : Op2 B k (binaryOp .Mod) (.int i) (.int j) st (.int (i.fmod j)) := .still fun _ _ _ _ _ _ _ q => mod_int' h (q _ _ fun _ => .int _ _)
theorem Op2.pow {i j : Int} (hn : 0 ≤ j) (hn2 : j ≤ 1000000) (ha : i.natAbs < 2 ^ 64) : Op2 B k (binaryOp .Pow) (.int i) (.int j) st (.int (i ^ j.toNat)) := .still fun _ _ _ _ _ _ _ q => pow_int_small hn hn2 ha (q _ _ fun _ => .int _ _)
theorem Op2.eq {i j : Int} : Op2 B k (compareOp .Eq) (.int i) (.int j) st (.bool (i == j)) := .still fun _ _ _ _ _ _ _ q => P.eq_int (q _ _ fun _ => .bool _)
theorem Op2.ne {i j : Int} : Op2 B k (compareOp .NotEq) (.int i) (.int j) st (.bool (i != j)) := .still fun _ _ _ _ _ _ _ q => P.ne_int (q _ _ fun _ => .bool _)
theorem Op2.lt {i j : Int} : Op2 B k (compareOp .Lt) (.int i) (.int j) st (.bool (decide (i < j))) := .still fun _ _ _ _ _ _ _ q => P.lt_int (q _ _ fun _ => .bool _)
theorem Op2.le {i j : Int} : Op2 B k (compareOp .LtE) (.int i) (.int j) st (.bool (decide (i ≤ j))) := .still fun _ _ _ _ _ _ _ q => P.le_int (q _ _ fun _ => .bool _)
theorem Op2.gt {i j : Int} : Op2 B k (compareOp .Gt) (.int i) (.int j) st (.bool (decide (i > j))) := .still fun _ _ _ _ _ _ _ q => P.gt_int (q _ _ fun _ => .bool _)
theorem Op2.ge {i j : Int} : Op2 B k (compareOp .GtE) (.int i) (.int j) st (.bool (decide (i ≥ j))) := .still fun _ _ _ _ _ _ _ q => P.ge_int (q _ _ fun _ => .bool _)
theorem Ev.neg {e : Expr} {i : Int} (h : Ev B k env e ρ st (.int i) st₁) : Ev B k env (.UnaryOp .USub e pos) ρ st (.int (-i)) st₁ := fun w s C F A Q E hA q =>
  wpAny_UnaryOp (h w s C F A _ E hA fun x w₁ s₁ C₁ S₁ r₁ => by
    cases r₁
    exact P.neg_int (q _ w₁ _ C₁.toks (S₁.trans C .toks) (.int _ _)))
theorem Tr.not {e : Expr} {b : Bool} (h : Tr B k env e ρ st b st₁) : Tr B k env (.UnaryOp .Not e pos) ρ st (!b) st₁ := fun w s C F A Q E hA q =>
  wpAny_isTrue_Not (h w s C F A _ E hA fun c w₁ s₁ C₁ S₁ r₁ => by subst r₁; exact q _ w₁ s₁ C₁ S₁ rfl)
theorem Ev.ifexp {t x y : Expr} {b : Bool} {v : V} (ht : Tr B k env t ρ st b st₁) (h1 : b = true → Ev B k env x ρ st₁ v st') (h2 : b = false → Ev B k env y ρ st₁ v st') : Ev B k env (.IfExp t x y pos) ρ st v st' := fun w s C F A Q E hA q =>
  wpAny_IfExp (ht w s C F A _ E hA fun c w₁ s₁ C₁ S₁ r₁ => by
    subst r₁
    cases c with
    | true => exact h1 rfl w₁ s₁ C₁ (F.stepN S₁) A Q E hA fun a w₂ s₂ C₂ S₂ r₂ => q a w₂ s₂ C₂ (S₁.trans C S₂) r₂
    | false => exact h2 rfl w₁ s₁ C₁ (F.stepN S₁) A Q E hA fun a w₂ s₂ C₂ S₂ r₂ => q a w₂ s₂ C₂ (S₁.trans C S₂) r₂)
end
noncomputable def isStar : Expr → Bool
  | .Starred .. => true
  | _ => false
theorem starEach_cons {e : Expr} {es : List Expr} {env : Env} (h : isStar e = false) : starEach (e :: es) env = (false, eval e env) :: starEach es env := by
  cases e <;> first | rfl | cases h
noncomputable def noStars : List Expr → Bool
  | [] => true
  | e :: r => !isStar e && noStars r
theorem noStars_any {env : Env} {pos : Pos} : ∀ {es : List Expr}, noStars es = true → (backTo pos (starEach es env)).any (·.1) = false
  | [], _ => rfl
  | e :: r, h => by
    obtain ⟨h1, h2⟩ := Bool.and_eq_true_iff.mp h
    rw [starEach_cons (by simpa using h1)]
    show (false || (backTo pos (starEach r env)).any (·.1)) = false
    rw [noStars_any h2]; rfl
section
variable {B : Bs} {k : Nat} {env : Env} {ρ : List (Str × V)} {st st₁ st₂ st' : List O} {pos : Pos}
theorem Evs.nil : Evs B k env [] ρ st [] st := fun _ w s C _ A Q E _ q => spliced_nil (q [] w s C (.refl w s) .nil)
theorem Evs.cons {e : Expr} {es : List Expr} {v : V} {vs : List V} (he : isStar e = false) (h : Ev B k env e ρ st v st₁) (hs : Evs B k env es ρ st₁ vs st₂) : Evs B k env (e :: es) ρ st (v :: vs) st₂ := fun pos w s C F A Q E hA q => by
  rw [starEach_cons he]
  exact spliced_cons (h w s C F A _ E hA fun x w₁ s₁ C₁ S₁ r₁ => hs pos w₁ s₁ C₁ (F.stepN S₁) A _ E hA fun xs w₂ s₂ C₂ S₂ r₂ => q (x :: xs) w₂ s₂ C₂ (S₁.trans C S₂) (.cons (r₁.mono S₂.toLe) r₂))
theorem VRs.length {w : Wd} : ∀ {l : List V} {r : List Value}, VRs w l r → l.length = r.length
  | _, _, .nil => rfl
  | _, _, .cons _ h => congrArg (· + 1) h.length
/-- the newest object is immutable: a tuple made -/
theorem VR.newTup {w : Wd} {s : Shared} {xs : List Value} {vs : List V} {A : Around} {Q : Value → Shared → Prop} {E : Value → Shared → Prop} (C : Core B w st s) (r : VRs w vs xs) (hl : vs.length ≤ sizeLine)
    (q : ∀ a w' s', Core B w' st s' → Step NoX w s w' s' → VR w' (.tup vs) a → Q a s') : wpAny (model PG B.w) A (newTuple xs) Q E s := by
  refine wpAny_newObj_type ?_ (by show (List.toArray xs).size ≤ sizeLine; rw [List.size_toArray, ← r.length]; exact hl)
  have hz : s.heap.objs.size ≤ (s.heap.push { cls := .type "tuple", data := .seq xs.toArray }).objs.size := by rw [Heap.size_push]; exact Nat.le_succ _
  have hk : ∀ a o, s.heap.get? a = some o → (s.heap.push { cls := .type "tuple", data := .seq xs.toArray }).get? a = some o := fun a o e => Heap.get?_push_of_some _ e
  have C₁ := C.grow (tk := s.toks) hz hk
  have S₁ := Step.grow (X := NoX) (tk := s.toks) C hz hk
  have hg : (s.heap.push { cls := .type "tuple", data := .seq xs.toArray }).get? s.heap.objs.size = some { cls := .type "tuple", data := .seq xs.toArray } := Heap.get?_push_size _ rfl
  have hs : s.heap.objs.size ∉ w.σ := fun h => Nat.lt_irrefl _ (C.n ▸ (C.low _ h).1)
  have S₂ := S₁.know C₁ hg (.inl (Nat.le_of_eq C.n.symm))
  exact q _ _ _ (C₁.know hg hs) S₂ (.tup (if_pos rfl) rfl rfl (r.mono S₂.toLe))
theorem Ev.tuple {es : List Expr} {c : Nat} {vs : List V} (h : Evs B k env es ρ st vs st₁) (hl : vs.length ≤ sizeLine) : Ev B k env (.Tuple es c pos) ρ st (.tup vs) st₁ := fun w s C F A Q E hA q =>
  Tuple_ (h pos w s C F A _ E hA fun xs w₁ s₁ C₁ S₁ r₁ => VR.newTup C₁ r₁ hl fun a w₂ s₂ C₂ S₂ r₂ => q a w₂ s₂ C₂ (S₁.trans C S₂) r₂)
theorem Core.notSys {w : Wd} {s : Shared} {a : Addr} (C : Core B w st s) (h : s.heap.objs.size ≤ a) : (a == sysModules) = false :=
  beq_eq_false_iff_ne.mpr (Nat.ne_of_gt (Nat.lt_of_lt_of_le (C.n ▸ C.sm) h))
/-- the newest object is the store's -/
theorem Core.newest {w : Wd} {s : Shared} {ob : Obj} {o : O} {A : Around} {Q : Value → Shared → Prop} {E : Value → Shared → Prop} {tk : Nat} (C : Core B w st s) (hf : ob.isFreed = false)
    (ho : ∀ w', w.Le w' → OR B w' o ob)
    (q : ∀ w' s', Core B w' (st ++ [o]) s' → Step NoX w s w' s' → VR w' (.ref st.length) (.ref s.heap.objs.size) → s' = { s with heap := s.heap.push ob, toks := tk } → Q (.ref s.heap.objs.size) s') : Q (.ref s.heap.objs.size) { s with heap := s.heap.push ob, toks := tk } := by
  have hz : s.heap.objs.size ≤ (s.heap.push ob).objs.size := by rw [Heap.size_push]; exact Nat.le_succ _
  have hk : ∀ a o, s.heap.get? a = some o → (s.heap.push ob).get? a = some o := fun a o e => Heap.get?_push_of_some _ e
  have C₁ := C.grow (tk := tk) hz hk
  have S₁ := Step.grow (X := NoX) (tk := tk) C hz hk
  have hg : (s.heap.push ob).get? s.heap.objs.size = some ob := Heap.get?_push_size _ hf
  have hs : s.heap.objs.size ∉ w.σ := fun h => Nat.lt_irrefl _ (C.n ▸ (C.low _ h).1)
  have hκ : w.κ s.heap.objs.size = none := by
    cases e : w.κ s.heap.objs.size with
    | none => rfl
    | some o => exact absurd (Heap.lt_size (C.kp _ _ e)) (Nat.lt_irrefl _)
  have hb : B.b.get? s.heap.objs.size = none := by
    cases e : B.b.get? s.heap.objs.size with
    | none => rfl
    | some o => exact absurd (Heap.lt_size (C.base _ _ e)) (Nat.lt_irrefl _)
  have S₂ := S₁.new (a := s.heap.objs.size) (Nat.le_of_eq C.n.symm)
  refine q _ _ (C₁.new (a := s.heap.objs.size) hg hs hκ hb (C.notSys (Nat.le_refl _)) (ho _ S₂.toLe)) S₂ (.ref ?_) rfl
  show (w.σ ++ [s.heap.objs.size])[st.length]? = _
  rw [← C.len]; simp
theorem Ev.list {es : List Expr} {vs : List V} (h : Evs B k env es ρ st vs st₁) (hl : vs.length ≤ sizeLine) : Ev B k env (.List es pos) ρ st (.ref st₁.length) (st₁ ++ [.list vs]) := fun w s C F A Q E hA q =>
  List_ (h pos w s C F A _ E hA fun xs w₁ s₁ C₁ S₁ r₁ => wpAny_newObj_type (C₁.newest (o := .list vs) (A := A) (E := E) rfl (fun w' L => ⟨xs, 0, rfl, r₁.mono L⟩) fun w₂ s₂ C₂ S₂ r₂ e => q _ w₂ s₂ C₂ (S₁.trans C S₂) r₂)
    (by show (List.toArray xs).size ≤ sizeLine; rw [List.size_toArray, ← r₁.length]; exact hl))
/-- a call of a value upon values -/
noncomputable def Fn (B : Bs) (k : Nat) (f : Value) (vs : List V) (st : List O) (v : V) (st' : List O) : Prop :=
  ∀ w s xs, Core B w st s → VRs w vs xs → Do B k NoX (call f xs) w s st' (fun w' x _ => VR w' v x)
theorem Fn.le {j k : Nat} {f : Value} {vs : List V} {v : V} (h : Fn B j f vs st v st') (l : j ≤ k) : Fn B k f vs st v st' := fun w s xs C r => (h w s xs C r).le l
theorem evalArgs_of {f : Value} {es : List Expr} {A : Around} {Q : Args → Shared → Prop} {E : Value → Shared → Prop} {s : Shared} {M : Model} (hn : noStars es = true)
    (h : wpAny M A (spliced (backTo pos (starEach es env))) (fun xs s' => Q ⟨xs, []⟩ s') E s) : wpAny M A (evalArgs f true (backTo pos (starEach es env)) []) Q E s := by
  cases es with
  | nil =>
    unfold evalArgs
    show wpAny M A (spliced [] >>= _) Q E s
    refine wpAny_bind (wpAny_mono h (fun vs s' h' => ?_) fun _ _ x => x)
    exact wpAny_bind (wpAny_pure (wpAny_holding (wpAny_bind (wpAny_pure (wpAny_bind (wpAny_pure (wpAny_pure h')))))))
  | cons e r =>
    obtain ⟨h1, h2⟩ := Bool.and_eq_true_iff.mp hn
    rw [starEach_cons (by simpa using h1)] at h ⊢
    exact evalArgs_plain h
end
theorem callWith_typ {M : Model} {A : Around} {E : Value → Shared → Prop} {s : Shared} {pos : Pos} {T : String} {first : List Value} {args : List (Bool × Sem Value)} {Q : Value → Shared → Prop} (hplain : args.any (·.1) = false)
    (h : wpAny M A (evalArgs (.type T) true args []) (fun a s₁ => wpAny M A (call (.type T) (first ++ a.pos) a.kw) Q E s₁) E s) :
    wpAny M A (callWith pos (.type T) first args []) Q E s := by
  unfold callWith
  refine wpAny_bind (wpAny_holding (wpAny_mono h (fun a s₁ h₁ => wpAny_bind (wpAny_standAt ?_)) fun _ _ x => x))
  simp only [hplain, List.any_nil, Bool.or_false]
  refine wpAny_bind (wpAny_pure ?_)
  exact wpAny_bind (wpAny_mono h₁ (fun r s₂ hr => wpAny_bind (wpAny_holding (wpAny_point (wpAny_pure hr)))) fun _ _ x => x)
noncomputable def CW (B : Bs) (f : Value) : Prop := ∀ (A : Around) (Q : Value → Shared → Prop) (E : Value → Shared → Prop) (s : Shared) (pos : Pos) (env : Env) (es : List Expr) (first : List Value), noStars es = true →
  wpAny (model PG B.w) A (spliced (backTo pos (starEach es env))) (fun xs s' => (∀ a o, B.b.get? a = some o → s'.heap.get? a = some o) ∧ wpAny (model PG B.w) A (call f (first ++ xs)) Q E s') E s →
  ∀ cpos, wpAny (model PG B.w) A (callWith cpos f first (backTo pos (starEach es env)) []) Q E s
theorem CW.K {B : Bs} {f : Value} (hk : keepIn B.K f = true) : CW B f := fun A Q E s pos env es first hn h _ =>
  callWith_of (by rw [noStars_any hn]; rfl) (keeps_K hk) (evalArgs_of hn (wpAny_mono h (fun _ _ z => ⟨B.X.keeps z.1, z.2⟩) fun _ _ z => z))
theorem CW.blt {B : Bs} {id : String} : CW B (.builtin id) := fun A Q E s pos env es first hn h _ =>
  callWith_builtin (noStars_any hn) (evalArgs_of hn (wpAny_mono h (fun _ _ z => z.2) fun _ _ z => z))
theorem CW.typ {B : Bs} {T : String} : CW B (.type T) := fun A Q E s pos env es first hn h _ =>
  callWith_typ (noStars_any hn) (evalArgs_of hn (wpAny_mono h (fun _ _ z => z.2) fun _ _ z => z))
/-- what getMethod answers -/
noncomputable def Mth (B : Bs) (k : Nat) (ov : V) (name : Str) (f : Value) (st : List O) : Prop :=
  ∀ w s x pl, Core B w st s → VR w ov x → Do B k NoX (getMethod x name pl) w s st (fun _ r s' => r = (f, [x]))
section
variable {B : Bs} {k : Nat} {env : Env} {ρ : List (Str × V)} {st st₁ st₂ st₃ st' : List O} {pos : Pos}
theorem Ev.call {x : Str} {p : Pos} {es : List Expr} {f : Value} {vs : List V} {v : V} (hf : Ev B k env (.Name x p) ρ st (.glob f) st) (hw : CW B f) (hn : noStars es = true) (ha : Evs B k env es ρ st vs st₁) (hc : Fn B k f vs st₁ v st₂) :
    Ev B k env (.Call (.Name x p) es [] pos) ρ st v st₂ := fun w s C F A Q E hA q =>
  Call_ (hf w s C F A _ E hA fun y w₁ s₁ C₁ S₁ r₁ => by
    cases r₁
    exact hw A _ E s₁ pos env es [] hn (ha pos w₁ s₁ C₁ (F.stepN S₁) A _ E hA fun xs w₂ s₂ C₂ S₂ r₂ => ⟨C₂.base, hc w₂ s₂ xs C₂ r₂ A _ E hA fun z w₃ s₃ C₃ S₃ r₃ => q z w₃ s₃ C₃ ((S₁.trans C S₂).trans C S₃) r₃⟩) _)
theorem Ev.meth {o : Expr} {name : Str} {apos : Pos} {es : List Expr} {ov v : V} {f : Value} {vs : List V} {pl : Sem Bool}
    (ho : Ev B k env o ρ st ov st₁) (hm : Mth B k ov name f st₁) (hw : CW B f) (hn : noStars es = true) (ha : Evs B k env es ρ st₁ vs st₂) (hc : Fn B k f (ov :: vs) st₂ v st₃)
    (he : eval (.Call (.Attribute o name apos) es [] pos) env = (do
      let ov ← eval o env
      standAt apos.atName
      let (f, first) ← holding [ov] (getMethod ov name pl)
      callWith pos f first (backTo pos (starEach es env)) [])) :
    Ev B k env (.Call (.Attribute o name apos) es [] pos) ρ st v st₃ := fun w s C F A Q E hA q =>
  MethodCall_ (ho w s C F A _ E hA fun y w₁ s₁ C₁ S₁ r₁ => hm w₁ s₁ y pl C₁ r₁ A _ E hA fun fx w₂ s₂ C₂ S₂ e => by
    subst e
    exact hw A _ E s₂ pos env es [y] hn (ha pos w₂ s₂ C₂ ((F.stepN S₁).stepN S₂) A _ E hA fun xs w₃ s₃ C₃ S₃ r₃ => ⟨C₃.base, hc w₃ s₃ (y :: xs) C₃ (.cons (r₁.mono (S₂.toLe.trans S₃.toLe)) r₃) A _ E hA fun z w₄ s₄ C₄ S₄ r₄ =>
      q z w₄ s₄ C₄ ((((S₁.trans C S₂).trans C S₃)).trans C S₄) r₄⟩) _) he
/-- the flows of a block -/
inductive Fl where
  | next | brk | cont | ret (v : V)
inductive FR (w : Wd) : Fl → Flow → Prop
  | next : FR w .next .next
  | brk : FR w .brk .brk
  | cont : FR w .cont .cont
  | ret {v : V} {x : Value} : VR w v x → FR w (.ret v) (.ret x)
noncomputable def FX (env : Env) : Addr → Prop := fun a => a = env.locals ∨ ∃ x, env.cells.lookup x = some a
noncomputable def LX (env : Env) : Addr → Prop := fun a => a = env.locals
theorem LX.fx {env : Env} (a : Addr) (h : LX env a) : FX env a := .inl h
noncomputable def X1 (B : Bs) (k : Nat) (env : Env) (c : Stmt) (ρ : List (Str × V)) (st : List O) (r : Fl) (ρ' : List (Str × V)) (st' : List O) : Prop :=
  ∀ w s, Core B w st s → Frm B env w ρ s → Do B k (FX env) (exec c env) w s st' (fun w' fl s' => Frm B env w' ρ' s' ∧ FR w' r fl)
noncomputable def Xs (B : Bs) (k : Nat) (env : Env) (cs : List Stmt) (ρ : List (Str × V)) (st : List O) (r : Fl) (ρ' : List (Str × V)) (st' : List O) : Prop :=
  ∀ w s, Core B w st s → Frm B env w ρ s → Do B k (FX env) (execs cs env) w s st' (fun w' fl s' => Frm B env w' ρ' s' ∧ FR w' r fl)
theorem Xs.nil : Xs B k env [] ρ st .next ρ st := fun w s C F A Q E hA q => wpAny_execs_nil (q _ w s C (.refl w s) ⟨F, .next⟩)
theorem Xs.cons {c : Stmt} {cs : List Stmt} {ρ₁ ρ' : List (Str × V)} {r : Fl} (h : X1 B k env c ρ st .next ρ₁ st₁) (hs : Xs B k env cs ρ₁ st₁ r ρ' st') : Xs B k env (c :: cs) ρ st r ρ' st' := fun w s C F A Q E hA q => by
  rw [execs_cons]
  refine wpAny_bind (h w s C F A _ E hA fun fl w₁ s₁ C₁ S₁ r₁ => ?_)
  obtain ⟨F₁, r₁⟩ := r₁
  cases r₁
  exact hs w₁ s₁ C₁ F₁ A Q E hA fun fl w₂ s₂ C₂ S₂ r₂ => q fl w₂ s₂ C₂ (S₁.trans C S₂) r₂
theorem Xs.stop {c : Stmt} {cs : List Stmt} {ρ' : List (Str × V)} {r : Fl} (h : X1 B k env c ρ st r ρ' st') (hr : r ≠ .next) : Xs B k env (c :: cs) ρ st r ρ' st' := fun w s C F A Q E hA q => by
  rw [execs_cons]
  refine wpAny_bind (h w s C F A _ E hA fun fl w₁ s₁ C₁ S₁ r₁ => ?_)
  have h2 := r₁.2
  cases h2 <;> first | exact absurd rfl hr | exact wpAny_pure (q _ w₁ s₁ C₁ S₁ r₁)
/-- a block, then the rest behind it -/
noncomputable def Xr (B : Bs) (k : Nat) (env : Env) (b rest : List Stmt) (ρ : List (Str × V)) (st : List O) (r : Fl) (ρ' : List (Str × V)) (st' : List O) : Prop :=
  (Xs B k env b ρ st r ρ' st' ∧ r ≠ .next) ∨ ∃ ρ₁ st₁, Xs B k env b ρ st .next ρ₁ st₁ ∧ Xs B k env rest ρ₁ st₁ r ρ' st'
theorem Xs.if {t : Expr} {x y cs : List Stmt} {b : Bool} {ρ' : List (Str × V)} {r : Fl} (ht : Tr B k env t ρ st b st₁) (h1 : b = true → Xr B k env x cs ρ st₁ r ρ' st') (h2 : b = false → Xr B k env y cs ρ st₁ r ρ' st') :
    Xs B k env (.If t x y pos :: cs) ρ st r ρ' st' := fun w s C F A Q E hA q => by
  rw [execs_cons]
  refine wpAny_bind (wpAny_If (ht w s C F A _ E hA fun c w₁ s₁ C₁ S₁ r₁ => ?_))
  subst r₁
  have go : ∀ {b : List Stmt}, Xr B k env b cs ρ st₁ r ρ' st' → wpAny (model PG B.w) A (execs b env) (fun f s' => wpAny (model PG B.w) A (match f with | .next => execs cs env | f => pure f) Q E s') E s₁ := by
    intro b h
    rcases h with ⟨h, hr⟩ | ⟨ρ₁, st₂, h, h'⟩
    · refine h w₁ s₁ C₁ (F.stepN S₁) A _ E hA fun fl w₂ s₂ C₂ S₂ r₂ => ?_
      have h2 := r₂.2
      cases h2 <;> first | exact absurd rfl hr | exact wpAny_pure (q _ w₂ s₂ C₂ ((S₁.weaken fun _ z => z.elim).trans C S₂) r₂)
    · refine h w₁ s₁ C₁ (F.stepN S₁) A _ E hA fun fl w₂ s₂ C₂ S₂ r₂ => ?_
      obtain ⟨F₂, r₂⟩ := r₂
      cases r₂
      exact h' w₂ s₂ C₂ F₂ A Q E hA fun fl w₃ s₃ C₃ S₃ r₃ => q fl w₃ s₃ C₃ (((S₁.weaken fun _ z => z.elim).trans C S₂).trans C S₃) r₃
  cases c with
  | true => exact go (h1 rfl)
  | false => exact go (h2 rfl)
theorem X1.ret {e : Expr} {v : V} (h : Ev B k env e ρ st v st₁) : X1 B k env (.Return (some e) pos) ρ st (.ret v) ρ st₁ := fun w s C F A Q E hA q =>
  wpAny_Return_some (h w s C F A _ E hA fun x w₁ s₁ C₁ S₁ r₁ => q _ w₁ s₁ C₁ (S₁.weaken fun _ z => z.elim) ⟨F.stepN S₁, .ret r₁⟩)
theorem X1.pass : X1 B k env (.Pass pos) ρ st .next ρ st := fun w s C F A Q E hA q => wpAny_Pass (q _ w s C (.refl w s) ⟨F, .next⟩)
/-- a name is bound -/
noncomputable def upd (ρ : List (Str × V)) (x : Str) (v : V) : List (Str × V) := match ρ with
  | [] => [(x, v)]
  | (y, u) :: r => if x == y then (y, v) :: r else (y, u) :: upd r x v
theorem upd_lookup (x y : Str) (v : V) : ∀ ρ : List (Str × V), (upd ρ x v).lookup y = if y = x then some v else ρ.lookup y
  | [] => by
    unfold upd
    by_cases h : y = x
    · subst h; simp [List.lookup]
    · simp [List.lookup, h, beq_eq_false_iff_ne.mpr h]
  | (z, u) :: r => by
    unfold upd
    by_cases hx : x = z
    · subst hx
      simp only [beq_self_eq_true, if_true]
      by_cases h : y = x
      · subst h; simp
      · simp [List.lookup_cons, h, beq_eq_false_iff_ne.mpr h]
    · have : (x == z) = false := beq_eq_false_iff_ne.mpr hx
      simp only [this, Bool.false_eq_true, if_false]
      rw [List.lookup_cons, upd_lookup x y v r, List.lookup_cons]
      by_cases h : y = x
      · subst h; simp [this]
      · simp only [h, if_false]
/-- a target takes a value -/
noncomputable def As (B : Bs) (k : Nat) (env : Env) (t : Expr) (v : V) (ρ : List (Str × V)) (st : List O) (ρ' : List (Str × V)) : Prop :=
  ∀ w s x, Core B w st s → Frm B env w ρ s → VR w v x → Do B k (LX env) (assign t env x) w s st (fun w' _ s' => Frm B env w' ρ' s')
theorem Core.local {w : Wd} {s : Shared} {h : Heap} {tk : Nat} (C : Core B w st s) (F : Frm B env w ρ s) (hs : Heap.SameBut env.locals s.heap h) : Core B w st { s with heap := h, toks := tk } := by
  have := C.change (Y := fun a => a = env.locals) (tk := tk) (Nat.le_of_eq hs.1.symm) (fun a o e hne => (hs.2 a hne).trans e) (fun a e => by subst e; exact ⟨F.L.1, F.L.2.1, F.L.2.2.1⟩)
  rw [hs.1, C.n] at this
  exact this
theorem Frm.store {w : Wd} {s : Shared} {h : Heap} {tk : Nat} {x : Str} {v : V} {val : Value} {m : Str → Option Value} (C : Core B w st s) (F : Frm B env w ρ s) (hk : env.kindOf x = some .local)
    (hs : Heap.SameBut env.locals s.heap h) (hv : VR w v val) (hm : ∀ y u, ρ.lookup y = some u → ∃ val, VR w u val ∧ Has env m s.heap y val) (hn : h.Ns env.locals (fun y => if y = x then some val else m y)) : Frm B env w (upd ρ x v) { s with heap := h, toks := tk } where
  fk := F.fk
  gl := F.gl
  bl := F.bl
  L := F.L
  cl := F.cl
  ce := fun y c e => let ⟨v₀, o, ho, hd⟩ := F.ce y c e; ⟨v₀, o, (hs.2 c (F.cl y c e).2.2.2.2).trans ho, hd⟩
  ci := F.ci
  ns := by
    refine ⟨_, hn, fun y u e => ?_⟩
    rw [upd_lookup] at e
    by_cases h : y = x
    · subst h
      rw [if_pos rfl] at e
      cases e
      exact ⟨val, hv, .inl ⟨hk, if_pos rfl⟩⟩
    · rw [if_neg h] at e
      obtain ⟨val', h1, h2⟩ := hm y u e
      refine ⟨val', h1, h2.imp (fun ⟨a, b⟩ => ⟨a, (if_neg h).trans b⟩) fun ⟨a, c, hc, oc, hoc, hd⟩ => ⟨a, c, hc, oc, (hs.2 c (F.cl y c hc).2.2.2.2).trans hoc, hd⟩⟩
theorem storeName_do {x : Str} {v : V} {w : Wd} {s : Shared} {val : Value} (C : Core B w st s) (F : Frm B env w ρ s) (hk : env.kindOf x = some .local) (hv : VR w v val) :
    Do B k (LX env) (storeName env x val) w s st (fun w' _ s' => Frm B env w' (upd ρ x v) s') := fun A Q E hA q => by
  obtain ⟨m, hn, hm⟩ := F.ns
  refine wpAny_storeName_local hk hn (fun h' hn' hs => q () w _ (C.local F hs) ?_ (F.store C hk hs hv hm hn')) (by rw [F.fk]; rfl)
  exact ⟨.refl w, Nat.le_refl _, fun _ _ e => .inl e, fun _ e => .inl e, fun a o e _ h => (hs.2 a fun z => h z).trans e, rfl, rfl, rfl⟩
theorem As.name {x : Str} {p : Pos} {v : V} (hk : env.kindOf x = some .local) : As B k env (.Name x p) v ρ st (upd ρ x v) := fun w s y C F hv A Q E hA q =>
  wpAny_assign_Name (storeName_do C F hk hv A Q E hA q)
theorem X1.assign {x : Str} {p : Pos} {e : Expr} {v : V} (h : Ev B k env e ρ st v st₁) (hk : env.kindOf x = some .local) (hs : swapsWith e (some (.Name x p)) pos.line env = pure false) : X1 B k env (.Assign [.Name x p] e pos) ρ st .next (upd ρ x v) st₁ := fun w s C F A Q E hA q =>
  wpAny_Assign_Name (h w s C F A _ E hA fun y w₁ s₁ C₁ S₁ r₁ => storeName_do C₁ (F.stepN S₁) hk r₁ A _ E hA fun _ w₂ s₂ C₂ S₂ r₂ => q _ w₂ s₂ C₂ ((S₁.weaken fun _ z => z.elim).trans C (S₂.weaken LX.fx)) ⟨r₂, .next⟩) hs
theorem X1.assignCell {x : Str} {p : Pos} {e : Expr} {v : V} (h : Ev B k env e ρ st v st₁) (hk : env.kindOf x = some .cell) (hc : (env.cells.lookup x).isSome = true) (hs : swapsWith e (some (.Name x p)) pos.line env = pure false) : X1 B k env (.Assign [.Name x p] e pos) ρ st .next (upd ρ x v) st₁ := fun w s C F A Q E hA q =>
  wpAny_Assign_Name (h w s C F A _ E hA fun y w₁ s₁ C₁ S₁ r₁ => by
    obtain ⟨c, hc⟩ := Option.isSome_iff_exists.mp hc
    have F₁ := F.stepN S₁
    obtain ⟨v₀, hv₀⟩ := F₁.ce x c hc
    obtain ⟨c1, c2, c3, c4, c5⟩ := F₁.cl x c hc
    refine wpAny_storeName_cell F.fk hk hc hv₀ fun h' hv' hs => ?_
    have hk' : ∀ a o, s₁.heap.get? a = some o → ¬ (a = c) → h'.get? a = some o := fun a o e hne => (hs.2 a hne).trans e
    have C₂ := C₁.change (Y := fun a => a = c) (tk := s₁.toks) (Nat.le_of_eq hs.1.symm) hk' (fun a e => by subst e; exact ⟨c1, c2, c3⟩)
    have S₂ := Step.change (Y := fun a => a = c) (tk := s₁.toks) C₁ (Nat.le_of_eq hs.1.symm) hk'
    refine q _ _ _ C₂ ((S₁.weaken fun _ z => z.elim).trans C (S₂.weaken fun a (e : a = c) => .inr ⟨x, by rw [e]; exact hc⟩)) ⟨⟨F.fk, F.gl, F.bl, ?_, ?_, ?_, F.ci, ?_⟩, .next⟩
    · obtain ⟨l1, l2, l3, l4⟩ := F₁.L
      exact ⟨l1, l2, l3, Nat.lt_of_lt_of_le l4 S₂.n⟩
    · intro y d hd
      obtain ⟨d1, d2, d3, d4, d5⟩ := F₁.cl y d hd
      exact ⟨d1, d2, d3, Nat.lt_of_lt_of_le d4 S₂.n, d5⟩
    · intro y d hd
      by_cases e : d = c
      · subst e; exact ⟨_, hv'⟩
      · obtain ⟨u, o, ho, hdd⟩ := F₁.ce y d hd
        exact ⟨u, o, (hs.2 d e).trans ho, hdd⟩
    · obtain ⟨m, hn, hm⟩ := F₁.ns
      refine ⟨m, hn.sameBut hs (Ne.symm c5), fun y u e => ?_⟩
      rw [upd_lookup] at e
      by_cases hyx : y = x
      · subst hyx
        rw [if_pos rfl] at e
        cases e
        exact ⟨_, r₁.mono S₂.toLe, .inr ⟨.inl hk, c, hc, hv'⟩⟩
      · rw [if_neg hyx] at e
        obtain ⟨val, h1, h2⟩ := hm y u e
        refine ⟨val, h1.mono S₂.toLe, h2.imp id fun ⟨a, d, hd, o, ho, hdd⟩ => ⟨a, d, hd, o, (hs.2 d fun z => hyx ?_).trans ho, hdd⟩⟩
        subst z
        exact F₁.ci y x d hd hc) hs
/-- targets one by one -/
noncomputable def Ass (B : Bs) (k : Nat) (env : Env) (ts : List Expr) (vs : List V) (ρ : List (Str × V)) (st : List O) (ρ' : List (Str × V)) : Prop :=
  ∀ w s xs, Core B w st s → Frm B env w ρ s → VRs w vs xs → Do B k (LX env) (assignInOrder ((assignEach ts env).map (·.2)) xs) w s st (fun w' _ s' => Frm B env w' ρ' s')
theorem Ass.nil : Ass B k env [] [] ρ st ρ := fun w s xs C F hv A Q E hA q => by
  cases hv
  exact assignInOrder_nil (q () w s C (.refl w s) F)
theorem assignEach_cons {t : Expr} {ts : List Expr} (h : isStar t = false) : assignEach (t :: ts) env = (false, assign t env) :: assignEach ts env := by
  cases t <;> first | rfl | cases h
theorem Ass.cons {t : Expr} {ts : List Expr} {v : V} {vs : List V} {ρ₁ ρ' : List (Str × V)} (hn : isStar t = false) (h : As B k env t v ρ st ρ₁) (hs : Ass B k env ts vs ρ₁ st ρ') : Ass B k env (t :: ts) (v :: vs) ρ st ρ' := fun w s xs C F hv A Q E hA q => by
  cases hv with
  | cons h1 h2 =>
    rw [assignEach_cons hn]
    exact assignInOrder_cons (h w s _ C F h1 A _ E hA fun _ w₁ s₁ C₁ S₁ F₁ => hs w₁ s₁ _ C₁ F₁ (h2.mono S₁.toLe) A _ E hA fun _ w₂ s₂ C₂ S₂ r₂ => q () w₂ s₂ C₂ (S₁.trans C S₂) r₂)
theorem assignEach_len : ∀ {ts : List Expr}, noStars ts = true → (assignEach ts env).length = ts.length ∧ (assignEach ts env).findIdx? (·.1) = none
  | [], _ => ⟨rfl, rfl⟩
  | t :: ts, h => by
    obtain ⟨h1, h2⟩ := Bool.and_eq_true_iff.mp h
    obtain ⟨a, b⟩ := assignEach_len h2
    rw [assignEach_cons (by simpa using h1)]
    refine ⟨congrArg (· + 1) a, ?_⟩
    rw [List.findIdx?_cons]
    simp only [Bool.false_eq_true, if_false, b, Option.map_none]
theorem VR.isTuple {w : Wd} {s : Shared} {l : List V} {x : Value} (C : Core B w st s) (h : VR w (.tup l) x) : ∃ a vs, x = .ref a ∧ s.heap.IsTuple a (List.toArray vs) ∧ VRs w l vs := by
  cases h with
  | tup h1 h2 h3 h4 => exact ⟨_, _, rfl, ⟨_, C.kp _ _ h1, h2, _, h3⟩, h4⟩
theorem Do.grow {α : Type} {X : Addr → Prop} {t : Sem α} {w : Wd} {s : Shared} {R : Wd → α → Shared → Prop} (C : Core B w st s)
    (h : ∀ A Q E, Room k A → (∀ a h' tk, (∀ b o, s.heap.get? b = some o → h'.get? b = some o) → s.heap.objs.size ≤ h'.objs.size → R { w with n := h'.objs.size } a { s with heap := h', toks := tk } → Q a { s with heap := h', toks := tk }) → wpAny (model PG B.w) A t Q E s) : Do B k X t w s st R :=
  fun A Q E hA q => h A Q E hA fun a h' tk hk hz r => q a _ _ (C.grow hz hk) (Step.grow C hz hk) r
theorem As.tup {ts : List Expr} {c : Nat} {p : Pos} {vs : List V} {ρ' : List (Str × V)} (hn : noStars ts = true) (hl : ts.length = vs.length) (h : Ass B k env ts vs ρ st ρ') : As B k env (.Tuple ts c p) (.tup vs) ρ st ρ' := fun w s x C F hv A Q E hA q => by
  obtain ⟨a, xs, rfl, ht, hx⟩ := hv.isTuple C
  obtain ⟨l1, l2⟩ := assignEach_len (env := env) hn
  rw [arm_assign_Tuple]
  refine wpAny_bind (wpAny_standAt ?_)
  unfold unpack
  rw [l1, l2, hl, hx.length, ← List.size_toArray (as := xs)]
  refine wpAny_bind (wpAny_holding (wpAny_size (wpAny_unpackItems_tuple hA.handled ht fun h' hk hz => ?_)))
  have hk' : ∀ b o, s.heap.get? b = some o → h'.get? b = some o := fun b o e => hk b o (Nat.ne_of_lt (Heap.lt_size e)) e
  have C₁ := C.grow (h := h') (tk := s.toks) hz hk'
  have S₁ := Step.grow (X := NoX) (h := h') (tk := s.toks) C hz hk'
  exact h _ _ xs C₁ (F.stepN S₁) (hx.mono S₁.toLe) A Q E hA fun _ w₂ s₂ C₂ S₂ r₂ => q () w₂ s₂ C₂ ((S₁.weaken fun _ z => z.elim).trans C S₂) r₂
end
section
variable {B : Bs} {k : Nat} {env : Env} {ρ : List (Str × V)} {st st₁ st₂ st₃ st' : List O} {pos : Pos}
theorem X1.assignT {ts : List Expr} {c : Nat} {p : Pos} {e : Expr} {v : V} {ρ' : List (Str × V)} (h : Ev B k env e ρ st v st₁) (ha : As B k env (.Tuple ts c p) v ρ st₁ ρ')
    (hs : swapsWithSole [.Tuple ts c p] e pos.line env = pure false) (hw : swappedStores [.Tuple ts c p] e env = pure none) : X1 B k env (.Assign [.Tuple ts c p] e pos) ρ st .next ρ' st₁ := fun w s C F A Q E hA q =>
  Assign_Tuple (h w s C F A _ E hA fun x w₁ s₁ C₁ S₁ r₁ => ha w₁ s₁ x C₁ (F.stepN S₁) r₁ A _ E hA fun _ w₂ s₂ C₂ S₂ r₂ => q _ w₂ s₂ C₂ ((S₁.weaken fun _ z => z.elim).trans C (S₂.weaken LX.fx)) ⟨r₂, .next⟩) hs hw
theorem bindAll {names : List Str} : ∀ {ρ : List (Str × V)} {vs : List V} {xs : List Value} {w : Wd} {s : Shared}, Core B w st s → Frm B env w ρ s → VRs w vs xs → names.length = vs.length → (∀ n ∈ names, env.kindOf n = some .local) →
    Do B k (LX env) (assignInOrder (names.map fun n => bindName env n) xs) w s st (fun w' _ s' => Frm B env w' ((names.zip vs).foldl (fun ρ p => upd ρ p.1 p.2) ρ) s') := by
  induction names with
  | nil => intro ρ vs xs w s C F hv hl _ A Q E hA q; exact fun Γ p hΓ => q () w s C (.refl w s) F
  | cons n ns ih =>
    intro ρ vs xs w s C F hv hl hk A Q E hA q
    cases hv with
    | nil => cases hl
    | cons h1 h2 =>
      exact assignInOrder_cons (wpAny_bindName (storeName_do C F (hk n (.head _)) h1 A _ E hA fun _ w₁ s₁ C₁ S₁ F₁ => ih C₁ F₁ (h2.mono S₁.toLe) (by simpa using hl) (fun m hm => hk m (.tail _ hm)) A Q E hA fun _ w₂ s₂ C₂ S₂ r₂ => q () w₂ s₂ C₂ (S₁.trans C S₂) r₂))
theorem VRs.append {w : Wd} : ∀ {l l' : List V} {r r' : List Value}, VRs w l r → VRs w l' r' → VRs w (l ++ l') (r ++ r')
  | _, _, _, _, .nil, h => h
  | _, _, _, _, .cons a b, h => .cons a (b.append h)
theorem VRs.reverse {w : Wd} : ∀ {l : List V} {r : List Value}, VRs w l r → VRs w l.reverse r.reverse
  | _, _, .nil => .nil
  | _, _, .cons a b => by rw [List.reverse_cons, List.reverse_cons]; exact b.reverse.append (.cons a .nil)
theorem X1.swap {ts : List Expr} {c : Nat} {p : Pos} {e : Expr} {names : List Str} {vs : List V} {ρ' : List (Str × V)} (h : Ev B k env e ρ st (.tup vs) st₁)
    (hw : swappedStores [.Tuple ts c p] e env = pure (some names)) (hl : names.length = vs.length) (hk : ∀ n ∈ names, env.kindOf n = some .local)
    (hρ : (names.reverse.zip vs.reverse).foldl (fun ρ p => upd ρ p.1 p.2) ρ = ρ')
    (hs : swapsWithSole [.Tuple ts c p] e pos.line env = pure false) : X1 B k env (.Assign [.Tuple ts c p] e pos) ρ st .next ρ' st₁ := fun w s C F A Q E hA q =>
  Assign_Tuple_swapped (names := names) (h w s C F A _ E hA fun x w₁ s₁ C₁ S₁ r₁ => by
    obtain ⟨a, xs, rfl, ht, hx⟩ := r₁.isTuple C₁
    rw [hl, hx.length, ← List.size_toArray (as := xs)]
    refine wpAny_size (wpAny_unpackItems_tuple hA.handled ht fun h' hk' hz => ?_)
    have hk'' : ∀ b o, s₁.heap.get? b = some o → h'.get? b = some o := fun b o e => hk' b o (Nat.ne_of_lt (Heap.lt_size e)) e
    have C₂ := C₁.grow (h := h') (tk := s₁.toks) hz hk''
    have S₂ := Step.grow (X := NoX) (h := h') (tk := s₁.toks) C₁ hz hk''
    refine bindAll C₂ ((F.stepN S₁).stepN S₂) (hx.mono S₂.toLe).reverse (by simpa using hl) (fun n hn => hk n (List.mem_reverse.mp hn)) A _ E hA fun _ w₃ s₃ C₃ S₃ r₃ => ?_
    rw [hρ] at r₃
    exact q _ w₃ s₃ C₃ (((S₁.trans C S₂).weaken fun _ z => z.elim).trans C (S₃.weaken LX.fx)) ⟨r₃, .next⟩) hs hw
theorem X1.expr {e : Expr} (h : Ev B k env e ρ st .none st₁) (hs : swapsWith e none pos.line env = pure false) : X1 B k env (.Expr e pos) ρ st .next ρ st₁ := fun w s C F A Q E hA q =>
  wpAny_Expr (h w s C F A _ E hA fun x w₁ s₁ C₁ S₁ r₁ => by cases r₁; exact q _ w₁ s₁ C₁ (S₁.weaken fun _ z => z.elim) ⟨F.stepN S₁, .next⟩)
    (by unfold interactive; rw [F.fk]; rfl) hs
/-- an attribute set, an item set: the answer is the store behind it -/
noncomputable def Set3 (B : Bs) (k : Nat) (t : Value → Sem Unit) (st st' : List O) (w : Wd) (s : Shared) : Prop := True
noncomputable def SetA (B : Bs) (k : Nat) (name : Str) (ov v : V) (st st' : List O) : Prop :=
  ∀ w s x y, Core B w st s → VR w ov x → VR w v y → Do B k NoX (setAttr x name y) w s st' (fun _ _ _ => True)
noncomputable def SetI (B : Bs) (k : Nat) (ov iv v : V) (st st' : List O) : Prop :=
  ∀ w s x i y, Core B w st s → VR w ov x → VR w iv i → VR w v y → Do B k NoX (setItem x i y) w s st' (fun _ _ _ => True)
theorem X1.setattr {o e : Expr} {name : Str} {p : Pos} {v ov : V} (h : Ev B k env e ρ st v st₁) (ho : Ev B k env o ρ st₁ ov st₂) (ha : SetA B k name ov v st₂ st₃)
    (hs : swapsWith e (some (.Attribute o name p)) pos.line env = pure false) : X1 B k env (.Assign [.Attribute o name p] e pos) ρ st .next ρ st₃ := fun w s C F A Q E hA q =>
  plainObj_wpAny_Assign_Attribute (h w s C F A _ E hA fun x w₁ s₁ C₁ S₁ r₁ => ho w₁ s₁ C₁ (F.stepN S₁) A _ E hA fun y w₂ s₂ C₂ S₂ r₂ =>
    ha w₂ s₂ y x C₂ r₂ (r₁.mono S₂.toLe) A _ E hA fun _ w₃ s₃ C₃ S₃ _ => q _ w₃ s₃ C₃ (((S₁.trans C S₂).trans C S₃).weaken fun _ z => z.elim) ⟨((F.stepN S₁).stepN S₂).stepN S₃, .next⟩) hs
theorem X1.setitem {o i e : Expr} {p : Pos} {v ov iv : V} {st₄ : List O} (h : Ev B k env e ρ st v st₁) (ho : Ev B k env o ρ st₁ ov st₂) (hi : Ev B k env i ρ st₂ iv st₃) (ha : SetI B k ov iv v st₃ st₄)
    (hs : swapsWith e (some (.Subscript o i p)) pos.line env = pure false) : X1 B k env (.Assign [.Subscript o i p] e pos) ρ st .next ρ st₄ := fun w s C F A Q E hA q =>
  wpAny_Assign_Subscript (h w s C F A _ E hA fun x w₁ s₁ C₁ S₁ r₁ => ho w₁ s₁ C₁ (F.stepN S₁) A _ E hA fun y w₂ s₂ C₂ S₂ r₂ => hi w₂ s₂ C₂ ((F.stepN S₁).stepN S₂) A _ E hA fun z w₃ s₃ C₃ S₃ r₃ =>
    ha w₃ s₃ y z x C₃ (r₂.mono S₃.toLe) r₃ (r₁.mono (S₂.toLe.trans S₃.toLe)) A _ E hA fun _ w₄ s₄ C₄ S₄ _ =>
      q _ w₄ s₄ C₄ ((((S₁.trans C S₂).trans C S₃).trans C S₄).weaken fun _ z => z.elim) ⟨(((F.stepN S₁).stepN S₂).stepN S₃).stepN S₄, .next⟩) hs
/-- while, turn by turn -/
inductive Wh (B : Bs) (k : Nat) (env : Env) (t : Expr) (b : List Stmt) : List (Str × V) → List O → Fl → List (Str × V) → List O → Prop
  | done {ρ : List (Str × V)} {st st₁ : List O} : Tr B k env t ρ st false st₁ → Wh B k env t b ρ st .next ρ st₁
  | step {ρ ρ₂ ρ' : List (Str × V)} {st st₁ st₂ st' : List O} {r : Fl} : Tr B k env t ρ st true st₁ → Xs B k env b ρ st₁ .next ρ₂ st₂ → Wh B k env t b ρ₂ st₂ r ρ' st' → Wh B k env t b ρ st r ρ' st'
theorem while_step {A : Around} {R : Result → Shared → Prop} {s : Shared} {M : Program} {wd : World} {t : Expr} {b : List Stmt}
    (h : wpAny (model M wd) A (isTrue t env (eval t env)) (fun c s₂ => if c then wpAny (model M wd) A (execs b env) (fun f s₃ => match f with
            | .next | .cont => codeAny (model M wd) A (.whileLoop t b [] env) R s₃
            | .brk => R (.ok .next) s₃
            | .ret v => R (.ok (.ret v)) s₃) (notedBy (model M wd) A env fun e s' => R (.error e) s') s₂
          else R (.ok .next) s₂) (notedBy (model M wd) A env fun e s' => R (.error e) s') s) : codeAny (model M wd) A (.whileLoop t b [] env) R s := by
  refine codeAny_of_tree ?_
  show wpAny _ A ((whileTurn t b [] env).onRaise (fun x => do noteFrame x env; theTreesLotGoes x)) _ _ s
  refine wpAny_noted ?_
  simp only [whileTurn]
  refine wpAny_bind (wpAny_mono h (fun c s₂ h₂ => ?_) fun _ _ h' => h')
  cases c with
  | false =>
    simp only [Bool.false_eq_true, if_false] at h₂ ⊢
    exact wpAny_bind (wpAny_execs_nil (wpAny_pure h₂))
  | true =>
    simp only [if_true] at h₂ ⊢
    refine wpAny_bind (wpAny_mono h₂ (fun f s₃ h₃ => ?_) fun _ _ h' => h')
    cases f with
    | next => exact wpAny_pure ⟨rfl, h₃⟩
    | cont => exact wpAny_pure ⟨rfl, h₃⟩
    | brk => exact wpAny_pure h₃
    | ret v => exact wpAny_pure h₃
theorem Wh.code {t : Expr} {b : List Stmt} {r : Fl} {ρ' : List (Str × V)} (h : Wh B k env t b ρ st r ρ' st') : ∀ (w : Wd) (s : Shared) (A : Around) (R : Result → Shared → Prop), Core B w st s → Frm B env w ρ s → Room k A →
    (∀ fl w' s', Core B w' st' s' → Step (FX env) w s w' s' → Frm B env w' ρ' s' → FR w' r fl → R (.ok fl) s') → codeAny (model PG B.w) A (.whileLoop t b [] env) R s := by
  induction h with
  | done ht => exact fun w s A R C F hA q => while_step (ht w s C F A _ _ hA fun c w₁ s₁ C₁ S₁ r₁ => by
      subst r₁
      exact q _ w₁ s₁ C₁ (S₁.weaken fun _ z => z.elim) (F.stepN S₁) .next)
  | step ht hb _ ih => exact fun w s A R C F hA q => while_step (ht w s C F A _ _ hA fun c w₁ s₁ C₁ S₁ r₁ => by
      subst r₁
      refine hb w₁ s₁ C₁ (F.stepN S₁) A _ _ hA fun fl w₂ s₂ C₂ S₂ r₂ => ?_
      obtain ⟨F₂, r₂⟩ := r₂
      cases r₂
      exact ih w₂ s₂ A R C₂ F₂ hA fun fl w₃ s₃ C₃ S₃ F₃ r₃ => q fl w₃ s₃ C₃ (((S₁.weaken fun _ z => z.elim).trans C S₂).trans C S₃) F₃ r₃)
theorem X1.while {t : Expr} {b : List Stmt} {r : Fl} {ρ' : List (Str × V)} (h : Wh B k env t b ρ st r ρ' st') : X1 B k env (.While t b [] pos) ρ st r ρ' st' := fun w s C F A Q E hA q =>
  wpAny_While (h.code w s A _ C F hA fun fl w' s' C' S' F' r' => q fl w' s' C' S' ⟨F', r'⟩)
end
/-- the value it hands out the items one by one, while the store is as P says -/
structure ItsJ (B : Bs) (k : Nat) (P : List O → Prop) (items : List V) (it : Value) (J : Nat → Wd → Shared → Prop) (Y : Addr → Prop) : Prop where
  next : ∀ i w s st v target A (Q : Value → Shared → Prop) E, J i w s → Core B w st s → P st → items[i]? = some v → Room k A →
    (∀ x w₁ s₁, Core B w₁ st s₁ → Step Y w s w₁ s₁ → VR w₁ v x → J (i + 1) w₁ s₁ → Q x s₁) →
    wpAny (model PG B.w) A (pyNext it) (fun r s₁ => match r with | some x => wpAny (model PG B.w) A (letOwnedTupleGo target it x) (fun _ s₂ => Q x s₂) E s₁ | none => False) E s
  fin : ∀ i w s st A (Q : Shared → Prop) E, J i w s → Core B w st s → P st → items.length ≤ i → Room k A → (∀ w₁ s₁, Core B w₁ st s₁ → Step Y w s w₁ s₁ → Q s₁) →
    wpAny (model PG B.w) A (pyNext it) (fun r s₁ => r = none ∧ Q s₁) E s
  self : ∀ i w s st A (Q : Value → Shared → Prop) E, J i w s → Core B w st s → P st → Room k A → Q it s → wpAny (model PG B.w) A (pyIter it) Q E s
  stay : ∀ X i w s w' s', J i w s → Step X w s w' s' → (∀ a, X a → ¬ Y a) → J i w' s'
noncomputable def Its (B : Bs) (k : Nat) (P : List O → Prop) (items : List V) (it : Value) (lo : Nat) (w : Wd) (s : Shared) : Prop :=
  ∃ J Y, ItsJ B k P items it J Y ∧ (∀ a, Y a → lo ≤ a ∧ a < w.n) ∧ J 0 w s
theorem Step.drop {B : Bs} {X Y : Addr → Prop} {w w₁ w₂ : Wd} {s s₁ s₂ : Shared} {st : List O} (C : Core B w st s) (x : Step X w s w₁ s₁) (y : Step (fun a => X a ∨ Y a) w₁ s₁ w₂ s₂) (hY : ∀ a, Y a → s.heap.objs.size ≤ a) : Step X w s w₂ s₂ :=
  { (x.weaken (Y := fun a => X a ∨ Y a) fun a h => .inl h).trans C y with
    keep := fun a o e h1 h2 => ((x.weaken (Y := fun a => X a ∨ Y a) fun a h => .inl h).trans C y).keep a o e h1 fun z => z.elim h2 fun z => absurd (Heap.lt_size e) (Nat.not_lt.mpr (hY a z)) }
section
variable {B : Bs} {k : Nat} {env : Env} {ρ : List (Str × V)} {st st₁ st₂ st₃ st' : List O} {pos : Pos}
/-- for, turn by turn -/
inductive FoR (B : Bs) (k : Nat) (env : Env) (t : Expr) (b : List Stmt) (P : List O → Prop) : List V → List (Str × V) → List O → Fl → List (Str × V) → List O → Prop
  | nil {ρ : List (Str × V)} {st : List O} : P st → FoR B k env t b P [] ρ st .next ρ st
  | cons {v : V} {vs : List V} {ρ ρ₁ ρ₂ ρ' : List (Str × V)} {st st₂ st' : List O} {r : Fl} : P st → As B k env t v ρ st ρ₁ → Xs B k env b ρ₁ st .next ρ₂ st₂ → FoR B k env t b P vs ρ₂ st₂ r ρ' st' → FoR B k env t b P (v :: vs) ρ st r ρ' st'
  | ret {v u : V} {vs : List V} {ρ ρ₁ ρ₂ : List (Str × V)} {st st₂ : List O} : P st → As B k env t v ρ st ρ₁ → Xs B k env b ρ₁ st (.ret u) ρ₂ st₂ → FoR B k env t b P (v :: vs) ρ st (.ret u) ρ₂ st₂
theorem for_step {A : Around} {R : Result → Shared → Prop} {s : Shared} {M : Program} {wd : World} {t : Expr} {b : List Stmt} {it : Value}
    (h : wpAny (model M wd) A (pyNext it) (fun r s₁ => match r with
      | none => R (.ok .next) s₁
      | some v => wpAny (model M wd) A (letOwnedTupleGo t it v) (fun _ s₁' => wpAny (model M wd) A (assign t env v) (fun _ s₂ => wpAny (model M wd) A (execs b env) (fun f s₃ => match f with
            | .next | .cont => codeAny (model M wd) A (.forLoop t it b [] env) R s₃
            | .brk => R (.ok .next) s₃
            | .ret v => R (.ok (.ret v)) s₃) (notedBy (model M wd) A env fun e s' => R (.error e) s') s₂) (notedBy (model M wd) A env fun e s' => R (.error e) s') s₁') (notedBy (model M wd) A env fun e s' => R (.error e) s') s₁)
        (notedBy (model M wd) A env fun e s' => R (.error e) s') s) : codeAny (model M wd) A (.forLoop t it b [] env) R s := by
  refine codeAny_of_tree ?_
  show wpAny _ A ((forTurn t it b [] env).onRaise (fun x => do noteFrame x env; theTreesLotGoes x)) _ _ s
  refine wpAny_noted ?_
  simp only [forTurn]
  refine wpAny_bind (wpAny_standAt (wpAny_bind (wpAny_onRaise (wpAny_mono h (fun r s₁ h₁ => ?_) fun _ _ h' => wpAny_standAt h'))))
  cases r with
  | none => exact wpAny_pure ⟨rfl, codeAny_block (wpAny_execs_nil h₁)⟩
  | some v =>
    refine wpAny_bind (wpAny_mono h₁ (fun _ s₁' h₁' => ?_) fun _ _ h' => h')
    refine wpAny_bind (wpAny_mono h₁' (fun _ s₂ h₂ => wpAny_bind (wpAny_mono h₂ (fun f s₃ h₃ => ?_) fun _ _ h' => h')) fun _ _ h' => h')
    cases f with
    | next => exact wpAny_pure ⟨rfl, h₃⟩
    | cont => exact wpAny_pure ⟨rfl, h₃⟩
    | brk => exact wpAny_pure h₃
    | ret v => exact wpAny_pure h₃
/-- what is wanted of a turn that has its item -/
noncomputable def TurnQ (B : Bs) (A : Around) (R : Result → Shared → Prop) (env : Env) (t : Expr) (b : List Stmt) (it : Value) (x : Value) (s₁ : Shared) : Prop :=
  wpAny (model PG B.w) A (assign t env x) (fun _ s₂ => wpAny (model PG B.w) A (execs b env) (fun f s₃ => match f with
            | .next | .cont => codeAny (model PG B.w) A (.forLoop t it b [] env) R s₃
            | .brk => R (.ok .next) s₃
            | .ret v => R (.ok (.ret v)) s₃) (notedBy (model PG B.w) A env fun e s' => R (.error e) s') s₂) (notedBy (model PG B.w) A env fun e s' => R (.error e) s') s₁
theorem FoR.code {t : Expr} {b : List Stmt} {P : List O → Prop} {items vs : List V} {r : Fl} {ρ' : List (Str × V)} {it : Value} {J : Nat → Wd → Shared → Prop} {Y : Addr → Prop} (I : ItsJ B k P items it J Y) (hY : ∀ a, FX env a → ¬ Y a)
    (h : FoR B k env t b P vs ρ st r ρ' st') : ∀ (i : Nat) (w : Wd) (s : Shared) (A : Around) (R : Result → Shared → Prop), vs = items.drop i → J i w s → Core B w st s → Frm B env w ρ s → Room k A →
    (∀ fl w' s', Core B w' st' s' → Step (fun a => FX env a ∨ Y a) w s w' s' → Frm B env w' ρ' s' → FR w' r fl → R (.ok fl) s') → codeAny (model PG B.w) A (.forLoop t it b [] env) R s := by
  have hfr : ∀ {ρ : List (Str × V)} {w w' : Wd} {s s' : Shared}, Frm B env w ρ s → Step Y w s w' s' → Frm B env w' ρ s' := fun F S => F.step S fun a ha => ⟨fun e => hY a (.inl e) ha, fun x e => hY a (.inr ⟨x, e⟩) ha⟩
  induction h with
  | nil hP =>
    intro i w s A R e hJ C F hA q
    have hi : items.length ≤ i := by
      rcases Nat.lt_or_ge i items.length with h | h
      · have := congrArg List.length e; rw [List.length_drop] at this; simp at this; omega
      · exact h
    refine for_step (wpAny_mono (I.fin i w s _ A (fun s₁ => R (.ok .next) s₁) _ hJ C hP hi hA fun w₁ s₁ C₁ S₁ => q _ w₁ s₁ C₁ (S₁.weaken fun _ z => .inr z) (hfr F S₁) .next) (fun r s₁ h => ?_) fun _ _ z => z)
    rw [h.1]; exact h.2
  | @cons v vs ρ ρ₁ ρ₂ ρ' st st₂ st' r hP ha hb _ ih =>
    intro i w s A R e hJ C F hA q
    have hi : items[i]? = some v := by
      have := congrArg (fun l => l[0]?) e
      simpa using this.symm
    refine for_step (wpAny_mono (I.next i w s _ v t A (TurnQ B A R env t b it) _ hJ C hP hi hA fun x w₁ s₁ C₁ S₁ r₁ J₁ => ha w₁ s₁ x C₁ (hfr F S₁) r₁ A _ _ hA fun _ w₂ s₂ C₂ S₂ F₂ => hb w₂ s₂ C₂ F₂ A _ _ hA fun fl w₃ s₃ C₃ S₃ r₃ => ?_) (fun r s₁ h => ?_) fun _ _ z => z)
    · obtain ⟨F₃, r₃⟩ := r₃
      cases r₃
      have S₁' := S₁.weaken (Y := fun a => FX env a ∨ Y a) fun _ z => .inr z
      have S₂' := S₂.weaken (Y := fun a => FX env a ∨ Y a) fun _ z => .inl (.inl z)
      have S₃' := S₃.weaken (Y := fun a => FX env a ∨ Y a) fun _ z => .inl z
      have J₃ := I.stay _ _ _ _ _ _ (I.stay _ _ _ _ _ _ J₁ S₂ fun a z => hY a (.inl z)) S₃ hY
      exact ih (i + 1) w₃ s₃ A R (by rw [← List.tail_drop, ← e]; rfl) J₃ C₃ F₃ hA fun fl w₄ s₄ C₄ S₄ F₄ r₄ => q fl w₄ s₄ C₄ (((S₁'.trans C S₂').trans C S₃').trans C S₄) F₄ r₄
    · cases r with
      | none => exact h.elim
      | some x => exact h
  | @ret v u vs ρ ρ₁ ρ₂ st st₂ hP ha hb =>
    intro i w s A R e hJ C F hA q
    have hi : items[i]? = some v := by
      have := congrArg (fun l => l[0]?) e
      simpa using this.symm
    refine for_step (wpAny_mono (I.next i w s _ v t A (TurnQ B A R env t b it) _ hJ C hP hi hA fun x w₁ s₁ C₁ S₁ r₁ J₁ => ha w₁ s₁ x C₁ (hfr F S₁) r₁ A _ _ hA fun _ w₂ s₂ C₂ S₂ F₂ => hb w₂ s₂ C₂ F₂ A _ _ hA fun fl w₃ s₃ C₃ S₃ r₃ => ?_) (fun r s₁ h => ?_) fun _ _ z => z)
    · obtain ⟨F₃, r₃⟩ := r₃
      cases r₃ with
      | ret r₃ =>
      have S₁' := S₁.weaken (Y := fun a => FX env a ∨ Y a) fun _ z => .inr z
      have S₂' := S₂.weaken (Y := fun a => FX env a ∨ Y a) fun _ z => .inl (.inl z)
      have S₃' := S₃.weaken (Y := fun a => FX env a ∨ Y a) fun _ z => .inl z
      exact q _ w₃ s₃ C₃ ((S₁'.trans C S₂').trans C S₃') F₃ (.ret r₃)
    · cases r with
      | none => exact h.elim
      | some x => exact h
/-- what iter() answers -/
noncomputable def Iters (B : Bs) (k : Nat) (P : List O → Prop) (v : V) (items : List V) (st : List O) : Prop :=
  ∀ w s x, Core B w st s → VR w v x → Do B k NoX (pyIter x) w s st (fun w' it s' => Its B k P items it s.heap.objs.size w' s')
theorem X1.for {t e : Expr} {b : List Stmt} {P : List O → Prop} {v : V} {items : List V} {r : Fl} {ρ' : List (Str × V)} (h : Ev B k env e ρ st v st₁) (hi : Iters B k P v items st₁) (hf : FoR B k env t b P items ρ st₁ r ρ' st')
    (hs : ∀ x, foldedSetIterable e env x = pure x) : X1 B k env (.For t e b [] pos) ρ st r ρ' st' := fun w s C F A Q E hA q =>
  wpAny_For (h w s C F A _ E hA fun x w₁ s₁ C₁ S₁ r₁ => hi w₁ s₁ x C₁ r₁ A _ E hA fun it w₂ s₂ C₂ S₂ r₂ => by
    obtain ⟨J, Y, I, hY, hJ⟩ := r₂
    have F₁ := F.stepN S₁
    refine hf.code I (fun a ha hy => ?_) 0 w₂ s₂ A _ rfl hJ C₂ (F₁.stepN S₂) hA fun fl w₃ s₃ C₃ S₃ F₃ r₃ => q fl w₃ s₃ C₃ ?_ ⟨F₃, r₃⟩
    · have h1 := (hY a hy).1
      rw [C₁.n] at h1
      rcases ha with rfl | ⟨x, hx⟩
      · exact absurd F₁.L.2.2.2 (Nat.not_lt.mpr h1)
      · exact absurd (F₁.cl x a hx).2.2.2.1 (Nat.not_lt.mpr h1)
    · exact ((S₁.trans C S₂).weaken fun _ z => z.elim).drop C S₃ fun a ha => Nat.le_trans (by rw [C.n, C₁.n]; exact S₁.n) (hY a ha).1) hs
end
section
variable {B : Bs} {k : Nat} {env : Env} {ρ : List (Str × V)} {st st₁ st₂ st₃ st' : List O} {pos : Pos}
/-- a comprehension, item by item, whatever the address of its names -/
inductive CoR (B : Bs) (k : Nat) (ce : Addr → Env) (t elt : Expr) (P : List O → Prop) : List (Str × V) → List V → List O → List V → List O → Prop
  | nil {ρ : List (Str × V)} {st : List O} : P st → CoR B k ce t elt P ρ [] st [] st
  | cons {ρ ρ₁ : List (Str × V)} {v y : V} {vs ys : List V} {st st₁ st' : List O} : P st → (∀ C, As B k (ce C) t v ρ st ρ₁) → (∀ C, Ev B k (ce C) elt ρ₁ st y st₁) → CoR B k ce t elt P ρ₁ vs st₁ ys st' → CoR B k ce t elt P ρ (v :: vs) st (y :: ys) st'
theorem CoR.len {ce : Addr → Env} {t elt : Expr} {P : List O → Prop} {vs ys : List V} (h : CoR B k ce t elt P ρ vs st ys st') : vs.length = ys.length := by
  induction h with
  | nil => rfl
  | cons _ _ _ _ ih => simp [ih]
theorem comp_step {A : Around} {R : Result → Shared → Prop} {s : Shared} {M : Program} {wd : World} {t elt iter : Expr} {scope : Scope} {it acc : Value}
    (h : wpAny (model M wd) A (pyNext it) (fun r s₁ => match r with
      | none => R (.ok .next) s₁
      | some v => wpAny (model M wd) A (letOwnedTupleGo t it v) (fun _ s₁' => wpAny (model M wd) A (assign t env v) (fun _ s₂ => wpAny (model M wd) A (eval elt env) (fun x s₃ => wpAny (model M wd) A (call (.builtin "list.append") [acc, x])
            (fun _ s₄ => codeAny (model M wd) A (.compLoop (.ListComp elt [⟨t, iter, [], 0⟩] scope pos) 0 it acc env) R s₄)
            (notedBy (model M wd) A env fun e s' => R (.error e) s') s₃) (notedBy (model M wd) A env fun e s' => R (.error e) s') s₂) (notedBy (model M wd) A env fun e s' => R (.error e) s') s₁') (notedBy (model M wd) A env fun e s' => R (.error e) s') s₁)
        (notedBy (model M wd) A env fun e s' => R (.error e) s') s) : codeAny (model M wd) A (.compLoop (.ListComp elt [⟨t, iter, [], 0⟩] scope pos) 0 it acc env) R s := by
  refine codeAny_of_tree ?_
  show wpAny _ _ ((compTurn (.ListComp elt [⟨t, iter, [], 0⟩] scope pos) 0 it acc env).onRaise (fun x => do noteFrame x env; theTreesLotGoes x)) _ _ s
  refine wpAny_noted ?_
  rw [compTurn_list1]
  refine wpAny_bind (wpAny_standAt (wpAny_bind (wpAny_mono h (fun r s₁ h₁ => ?_) fun _ _ h' => h')))
  cases r with
  | none => exact wpAny_pure h₁
  | some v =>
    refine wpAny_bind (wpAny_mono h₁ (fun _ s₁' h₁' => ?_) fun _ _ h' => h')
    exact wpAny_bind (wpAny_mono h₁' (fun _ s₂ h₂ => wpAny_bind (wpAny_bind (wpAny_mono h₂ (fun x s₃ h₃ => wpAny_bind (wpAny_mono h₃
      (fun _ s₄ h₄ => wpAny_pure (wpAny_pure ⟨rfl, h₄⟩)) fun _ _ h' => h')) fun _ _ h' => h'))) fun _ _ h' => h')
noncomputable def CoQ (B : Bs) (A : Around) (R : Result → Shared → Prop) (env : Env) (t elt iter : Expr) (scope : Scope) (pos : Pos) (it acc : Value) (v : Value) (s₁' : Shared) : Prop :=
  wpAny (model PG B.w) A (assign t env v) (fun _ s₂ => wpAny (model PG B.w) A (eval elt env) (fun x s₃ => wpAny (model PG B.w) A (call (.builtin "list.append") [acc, x])
            (fun _ s₄ => codeAny (model PG B.w) A (.compLoop (.ListComp elt [⟨t, iter, [], 0⟩] scope pos) 0 it acc env) R s₄)
            (notedBy (model PG B.w) A env fun e s' => R (.error e) s') s₃) (notedBy (model PG B.w) A env fun e s' => R (.error e) s') s₂) (notedBy (model PG B.w) A env fun e s' => R (.error e) s') s₁'
theorem CoR.code {ce : Addr → Env} {C D : Addr} {t elt iter : Expr} {scope : Scope} {P : List O → Prop} {items vs ys : List V} {it : Value} {J : Nat → Wd → Shared → Prop} {Y : Addr → Prop} (I : ItsJ B k P items it J Y)
    (hD : ¬ Y D ∧ ¬ FX (ce C) D) (hY : ∀ a, FX (ce C) a → ¬ Y a) (h : CoR B k ce t elt P ρ vs st ys st') : ∀ (i : Nat) (w : Wd) (s : Shared) (A : Around) (R : Result → Shared → Prop) (zs : List V) (xs : List Value) (n : Nat),
    vs = items.drop i → zs.length + vs.length ≤ sizeLine → J i w s → Core B w st s → Frm B (ce C) w ρ s → Room k A → D ∉ w.σ → w.κ D = none → B.b.get? D = none → D < w.n → s.heap.get? D = some (listOf xs.toArray n) → VRs w zs xs →
    (∀ w' s' ρ' xs' n', Core B w' st' s' → Step (fun a => LX (ce C) a ∨ Y a ∨ a = D) w s w' s' → Frm B (ce C) w' ρ' s' → D ∉ w'.σ → w'.κ D = none → s'.heap.get? D = some (listOf (List.toArray xs') n') → VRs w' (zs ++ ys) xs' → R (.ok .next) s') →
    codeAny (model PG B.w) A (.compLoop (.ListComp elt [⟨t, iter, [], 0⟩] scope pos) 0 it (.ref D) (ce C)) R s := by
  have hfr : ∀ {ρ : List (Str × V)} {w w' : Wd} {s s' : Shared}, Frm B (ce C) w ρ s → Step Y w s w' s' → Frm B (ce C) w' ρ s' := fun F S => F.step S fun a ha => ⟨fun e => hY a (.inl e) ha, fun x e => hY a (.inr ⟨x, e⟩) ha⟩
  have far : ∀ {X : Addr → Prop} {w w' : Wd} {s s' : Shared}, Step X w s w' s' → D ∉ w.σ → w.κ D = none → D < w.n → D ∉ w'.σ ∧ w'.κ D = none := fun S h1 h2 h3 => by
    refine ⟨fun h => ?_, ?_⟩
    · rcases S.fσ _ h with h | h
      · exact h1 h
      · exact absurd h3 (Nat.not_lt.mpr h)
    · rename_i w' _ _
      cases q : w'.κ D with
      | none => rfl
      | some o =>
        rcases S.fκ _ _ q with h | h | h
        · rw [h2] at h; cases h
        · exact absurd h3 (Nat.not_lt.mpr h)
        · exact absurd h h1
  induction h with
  | nil hP =>
    intro i w s A R zs xs n e hl hJ K F hA d1 d2 d3 d4 hx hz q
    have hi : items.length ≤ i := by
      rcases Nat.lt_or_ge i items.length with h | h
      · have := congrArg List.length e; rw [List.length_drop] at this; simp at this; omega
      · exact h
    refine comp_step (wpAny_mono (I.fin i w s _ A (fun s₁ => R (.ok .next) s₁) _ hJ K hP hi hA fun w₁ s₁ C₁ S₁ => ?_) (fun r s₁ h => ?_) fun _ _ z => z)
    · obtain ⟨f1, f2⟩ := far S₁ d1 d2 d4
      exact q w₁ s₁ _ xs n C₁ (S₁.weaken fun _ z => .inr (.inl z)) (hfr F S₁) f1 f2 (S₁.keep _ _ hx d1 hD.1) (by rw [List.append_nil]; exact hz.mono S₁.toLe)
    · rw [h.1]; exact h.2
  | @cons ρ ρ₁ v y vs ys st st₁ st' hP ha he _ ih =>
    intro i w s A R zs xs n e hl hJ K F hA d1 d2 d3 d4 hx hz q
    have hi : items[i]? = some v := by
      have := congrArg (fun l => l[0]?) e
      simpa using this.symm
    refine comp_step (wpAny_mono (I.next i w s _ v t A (CoQ B A R (ce C) t elt iter scope pos it (.ref D)) _ hJ K hP hi hA fun x w₁ s₁ C₁ S₁ r₁ J₁ => ha C w₁ s₁ x C₁ (hfr F S₁) r₁ A _ _ hA fun _ w₂ s₂ C₂ S₂ F₂ => he C w₂ s₂ C₂ F₂ A _ _ hA fun z w₃ s₃ C₃ S₃ r₃ => ?_) (fun r s₁ h => ?_) fun _ _ z => z)
    · obtain ⟨f1, f2⟩ := far S₁ d1 d2 d4
      obtain ⟨g1, g2⟩ := far S₂ f1 f2 (Nat.lt_of_lt_of_le d4 S₁.n)
      obtain ⟨k1, k2⟩ := far S₃ g1 g2 (Nat.lt_of_lt_of_le d4 (Nat.le_trans S₁.n S₂.n))
      have x₁ := S₁.keep _ _ hx d1 hD.1
      have x₂ := S₂.keep _ _ x₁ f1 fun z => hD.2 (.inl z)
      have x₃ := S₃.keep _ _ x₂ g1 fun z => z.elim
      have J₃ := I.stay _ _ _ _ _ _ (I.stay _ _ _ _ _ _ J₁ S₂ fun a z => hY a (.inl z)) S₃ fun _ z => z.elim
      refine append_at x₃ (fun h' hs ho' => ?_) (by rw [List.size_toArray, ← hz.length]; simp only [List.length_cons] at hl; omega)
      have hk : ∀ a o, s₃.heap.get? a = some o → ¬ (a = D) → h'.get? a = some o := fun a o e hne => (hs.2 a hne).trans e
      have C₄ := C₃.change (Y := fun a => a = D) (h := h') (tk := s₃.toks) (Nat.le_of_eq hs.1.symm) hk (fun a e => by subst e; exact ⟨k1, k2, d3⟩)
      have S₄ := Step.change (Y := fun a => a = D) (h := h') (tk := s₃.toks) C₃ (Nat.le_of_eq hs.1.symm) hk
      have J₄ := I.stay _ _ _ _ _ _ J₃ S₄ fun a e => by subst e; exact hD.1
      have F₄ := ((F₂.stepN S₃).step S₄ fun a e => by subst e; exact ⟨fun z => hD.2 (.inl z), fun x z => hD.2 (.inr ⟨x, z⟩)⟩)
      have S₁' := S₁.weaken (Y := fun a => LX (ce C) a ∨ Y a ∨ a = D) fun _ z => .inr (.inl z)
      have S₂' := S₂.weaken (Y := fun a => LX (ce C) a ∨ Y a ∨ a = D) fun _ z => .inl z
      have S₃' := S₃.weaken (Y := fun a => LX (ce C) a ∨ Y a ∨ a = D) fun _ z => z.elim
      have S₄' := S₄.weaken (Y := fun a => LX (ce C) a ∨ Y a ∨ a = D) fun _ z => .inr (.inr z)
      have SS := ((S₁'.trans K S₂').trans K S₃').trans K S₄'
      obtain ⟨m1, m2⟩ := far SS d1 d2 d4
      refine ih (i + 1) _ _ A R (zs ++ [y]) (xs ++ [z]) (n + 1) (by rw [← List.tail_drop, ← e]; rfl) (by simp only [List.length_append, List.length_cons, List.length_nil] at hl ⊢; omega) J₄ C₄ F₄ hA m1 m2 d3 (Nat.lt_of_lt_of_le d4 SS.n)
        (by rw [ho']; simp) ((hz.mono SS.toLe).append (.cons (r₃.mono S₄.toLe) .nil)) fun w' s' ρ' xs' n' C' S' F' a1 a2 a3 a4 => q w' s' ρ' xs' n' C' (SS.trans K S') F' a1 a2 a3 (by rw [List.append_assoc] at a4; exact a4)
    · cases r with
      | none => exact h.elim
      | some x => exact h
theorem fresh_none {w : Wd} {s : Shared} {a : Addr} (C : Core B w st s) (h : s.heap.objs.size ≤ a) : a ∉ w.σ ∧ w.κ a = none ∧ B.b.get? a = none := by
  refine ⟨fun z => absurd (C.n ▸ (C.low _ z).1) (Nat.not_lt.mpr h), ?_, ?_⟩
  · cases e : w.κ a with
    | none => rfl
    | some o => exact absurd (Heap.lt_size (C.kp _ _ e)) (Nat.not_lt.mpr h)
  · cases e : B.b.get? a with
    | none => rfl
    | some o => exact absurd (Heap.lt_size (C.base _ _ e)) (Nat.not_lt.mpr h)
/-- what the free names of a comprehension are -/
structure Clo (scope : Scope) (env : Env) (cl : List (Str × Addr)) (ρ ρc : List (Str × V)) : Prop where
  clos : closureFor scope env = pure cl
  kind : scope.kind = .function
  names : ∀ x ∈ scope.names, x.2 = .local → scope.names.lookup x.1 = some .local
  cell : ∀ x ∈ scope.names, x.2 ≠ .cell
  sub : ∀ x c, cl.lookup x = some c → env.cells.lookup x = some c
  vals : ∀ x u, ρc.lookup x = some u → ρ.lookup x = some u ∧ env.kindOf x = some .cell ∧ (relabel scope env).names.lookup x = some .cell ∧ cl.lookup x = env.cells.lookup x
theorem comp_main {elt t iter : Expr} {scope : Scope} {cl : List (Str × Addr)} {P : List O → Prop} {v : V} {items ys : List V} {ρc : List (Str × V)} {w : Wd} {s : Shared} {A : Around} {Q : Value → Shared → Prop} {E : Value → Shared → Prop}
    (h : Ev B k env iter ρ st v st₁) (hi : Iters B k P v items st₁) (hc : CoR B k (fun C => compEnvC scope cl C env) t elt P ρc items st₁ ys st') (hl : items.length ≤ sizeLine)
    (K : Clo scope env cl ρ ρc) (C : Core B w st s) (F : Frm B env w ρ s) (hA : Room k A) {use : Option (Value → Sem Unit)}
    (q : ∀ (it : Value) (D Cc : Addr) w' s' , Core B w' (st' ++ [.list ys]) s' → Step NoX w s w' s' → VR w' (.ref st'.length) (.ref D) → (∃ m, s'.heap.Ns Cc m) → Cc ∉ w'.σ → w'.κ Cc = none → B.b.get? Cc = none → s.heap.objs.size ≤ Cc → compPost (model PG B.w) A E use Q (.ref D) Cc (.ok .next) s') :
    wpAny (model PG B.w) A (eval iter env) (fun x s₁ => wpAny (model PG B.w) A (pyIter x) (fun it s₂ => wpAny (model PG B.w) A (newList []) (fun acc s₃ =>
      wpAny (model PG B.w) A (newFunctionEnv scope env.globals cl [] env.qual none .none (some env)) (fun cenv s₄ =>
        codeAny (model PG B.w) A (.compStart (.ListComp elt [⟨t, iter, [], 0⟩] scope pos) 0 it acc { cenv with scope := relabel scope env }) (compPost (model PG B.w) A E use Q acc cenv.locals) s₄) E s₃) E s₂) E s₁) E s := by
  refine h w s C F A _ E hA fun x w₁ s₁ C₁ S₁ r₁ => hi w₁ s₁ x C₁ r₁ A _ E hA fun it w₂ s₂ C₂ S₂ r₂ => ?_
  obtain ⟨J, Y, I, hY, hJ⟩ := r₂
  have F₂ := (F.stepN S₁).stepN S₂
  refine wpAny_newObj_type (wpAny_newFunctionEnv K.cell (by intro y hy; simp at hy) (fun h₁ hns₁ hsb₁ => ?_) K.kind) (by show (List.toArray ([] : List Value)).size ≤ sizeLine; exact Nat.zero_le _)
  dsimp only at hns₁ hsb₁ ⊢
  generalize hH2 : s₂.heap.push { cls := .type "list", dict := none, data := .seq ([] : List Value).toArray } = H2 at hns₁ hsb₁ ⊢
  have hC : H2.objs.size = s₂.heap.objs.size + 1 := by rw [← hH2, Heap.size_push]
  have hz1 : h₁.objs.size = s₂.heap.objs.size + 2 := by rw [hsb₁.1, Heap.size_push, hC]
  have hDC : s₂.heap.objs.size ≠ H2.objs.size := by rw [hC]; exact Nat.ne_of_lt (Nat.lt_succ_self _)
  have old : ∀ b o, s₂.heap.get? b = some o → h₁.get? b = some o := fun b o e => by
    have hb := Heap.lt_size e
    exact hsb₁.extBut b o (by rw [hC]; exact Nat.ne_of_lt (Nat.lt_succ_of_lt hb)) (Heap.get?_push_of_some _ (hH2 ▸ Heap.get?_push_of_some _ e))
  have hacc : h₁.get? s₂.heap.objs.size = some (listOf ([] : List Value).toArray 0) := hsb₁.extBut _ _ hDC (Heap.get?_push_of_some _ (hH2 ▸ Heap.get?_push_size _ rfl))
  have hz : s₂.heap.objs.size ≤ h₁.objs.size := by rw [hz1]; omega
  have C₃ := C₂.grow (h := h₁) (tk := s₂.toks + ([] : List (Str × Value)).length) hz old
  have S₃ := Step.grow (X := NoX) (h := h₁) (tk := s₂.toks + ([] : List (Str × Value)).length) C₂ hz old
  have J₃ := I.stay _ _ _ _ _ _ hJ S₃ fun _ z => z.elim
  obtain ⟨fd1, fd2, fd3⟩ := fresh_none C₂ (Nat.le_refl s₂.heap.objs.size)
  obtain ⟨fc1, fc2, fc3⟩ := fresh_none C₂ (a := H2.objs.size) (by rw [hC]; exact Nat.le_succ _)
  have le2 : s.heap.objs.size ≤ s₂.heap.objs.size := by rw [C.n, C₂.n]; exact Nat.le_trans S₁.n S₂.n
  have hL : H2.objs.size ≠ s₂.heap.objs.size := Ne.symm hDC
  have cln : ∀ x c, cl.lookup x = some c → c < s₂.heap.objs.size := fun x c e => C₂.n ▸ (F₂.cl x c (K.sub x c e)).2.2.2.1
  have hD : ¬ Y s₂.heap.objs.size ∧ ¬ FX (compEnvC scope cl H2.objs.size env) s₂.heap.objs.size := by
    refine ⟨fun z => Nat.lt_irrefl _ (C₂.n ▸ (hY _ z).2), fun z => ?_⟩
    rcases z with z | ⟨x, z⟩
    · exact hDC z
    · exact Nat.lt_irrefl _ (cln x _ z)
  have hFY : ∀ a, FX (compEnvC scope cl H2.objs.size env) a → ¬ Y a := fun a z hy => by
    rcases z with z | ⟨x, z⟩
    · have := (hY a hy).2; rw [← C₂.n] at this; subst z; show False
      have h' : H2.objs.size < s₂.heap.objs.size := this
      omega
    · exact absurd ((F.stepN S₁).cl x a (K.sub x a z)).2.2.2.1 (Nat.not_lt.mpr (C₁.n ▸ (hY a hy).1))
  have F₃ : Frm B (compEnvC scope cl H2.objs.size env) { w₂ with n := h₁.objs.size } ρc { s₂ with heap := h₁, toks := s₂.toks + ([] : List (Str × Value)).length } := by
    refine ⟨K.kind, F.gl, F.bl, ⟨fc1, fc2, fc3, ?_⟩, fun x c e => ?_, fun x c e => let ⟨v₀, h⟩ := F₂.ce x c (K.sub x c e); ⟨v₀, h.keeps old⟩, fun x y c e e' => F.ci x y c (K.sub x c e) (K.sub y c e'), ?_⟩
    · show H2.objs.size < h₁.objs.size
      omega
    · obtain ⟨a1, a2, a3, a4, a5⟩ := F₂.cl x c (K.sub x c e)
      have := cln x c e
      exact ⟨a1, a2, a3, Nat.lt_of_lt_of_le this hz, Nat.ne_of_lt (Nat.lt_trans this (hC ▸ Nat.lt_succ_self _))⟩
    · refine ⟨_, hns₁, fun x u e => ?_⟩
      obtain ⟨b1, b2, b3, b4⟩ := K.vals x u e
      obtain ⟨m, hm, hv⟩ := F₂.ns
      obtain ⟨val, c1, c2⟩ := hv x u b1
      refine ⟨val, c1.mono S₃.toLe, .inr ⟨.inl b3, ?_⟩⟩
      rcases c2 with ⟨c2, _⟩ | ⟨_, c, c3, c4⟩
      · rw [b2] at c2; cases c2
      · exact ⟨c, b4.trans c3, c4.keeps old⟩
  have go : codeAny (model PG B.w) A (.compLoop (.ListComp elt [⟨t, iter, [], 0⟩] scope pos) 0 it (.ref s₂.heap.objs.size) (compEnvC scope cl H2.objs.size env)) (compPost (model PG B.w) A E use Q (.ref s₂.heap.objs.size) H2.objs.size) { s₂ with heap := h₁, toks := s₂.toks + ([] : List (Str × Value)).length } := by
    refine CoR.code (ce := fun C => compEnvC scope cl C env) (C := H2.objs.size) I hD hFY hc 0 _ _ A _ [] [] 0 rfl (by simpa using hl) J₃ C₃ F₃ hA fd1 fd2 fd3 (by show s₂.heap.objs.size < h₁.objs.size; omega) hacc .nil fun w' s' ρ' xs' n' C' S' F' g1 g2 g3 g4 => ?_
    have S₄ := (((S₁.trans C S₂).trans C S₃).weaken (Y := NoX) fun _ z => z.elim).drop C (S'.weaken (Y := fun a => NoX a ∨ (s₁.heap.objs.size ≤ a)) fun a z => .inr (by
      rcases z with z | z | z
      · have z : a = H2.objs.size := z
        rw [z, hC]; rw [C₁.n, C₂.n]; exact Nat.le_succ_of_le S₂.n
      · exact (hY a z).1
      · rw [z, C₁.n, C₂.n]; exact S₂.n)) fun a z => Nat.le_trans (by rw [C.n, C₁.n]; exact S₁.n) z
    have C₅ := C'.new g3 g1 g2 fd3 (C₂.notSys (Nat.le_refl _)) (o := .list ys) ⟨xs', n', rfl, (by simpa using g4 : VRs w' ys xs').mono .new⟩
    have S₅ := S₄.new (a := s₂.heap.objs.size) (by rw [← C.n]; exact le2)
    obtain ⟨m, hm, _⟩ := F'.ns
    refine q it _ H2.objs.size _ _ C₅ S₅ (.ref ?_) ⟨m, hm⟩ ?_ F'.L.2.1 fc3 (by rw [hC]; exact Nat.le_succ_of_le le2)
    · show (w'.σ ++ [s₂.heap.objs.size])[st'.length]? = _
      rw [← C'.len]; simp
    · intro z
      rcases List.mem_append.mp z with z | z
      · exact F'.L.1 z
      · exact hL (List.mem_singleton.mp z)
  exact codeAny_compStart_list go (I.self 0 _ _ _ A _ _ J₃ C₃ (by cases hc <;> assumption) hA go)
theorem Core.off {w : Wd} {s : Shared} {a : Addr} {h : Heap} (C : Core B w st s) (h1 : a ∉ w.σ) (h2 : w.κ a = none) (h3 : B.b.get? a = none) (hs : Heap.SameBut a s.heap h) : Core B w st { s with heap := h } := by
  have := C.change (Y := fun b => b = a) (h := h) (tk := s.toks) (Nat.le_of_eq hs.1.symm) (fun b o e hne => (hs.2 b hne).trans e) fun b e => by subst e; exact ⟨h1, h2, h3⟩
  rw [hs.1, C.n] at this
  exact this
theorem Step.off {X : Addr → Prop} {w w' : Wd} {s s' : Shared} {a : Addr} {h : Heap} (C : Core B w st s) (S : Step X w s w' s') (ha : s.heap.objs.size ≤ a) (hs : Heap.SameBut a s'.heap h) : Step X w s w' { s' with heap := h } :=
  { S with keep := fun b o e h1 h2 => (hs.2 b fun z => absurd (Heap.lt_size e) (Nat.not_lt.mpr (z ▸ ha))).trans (S.keep b o e h1 h2) }
theorem Frm.off {w : Wd} {s : Shared} {a : Addr} {h : Heap} (F : Frm B env w ρ s) (hs : Heap.SameBut a s.heap h) (h1 : a ≠ env.locals) (h2 : ∀ x, env.cells.lookup x ≠ some a) : Frm B env w ρ { s with heap := h } :=
  F.step (X := fun b => b = a) ⟨.refl w, Nat.le_refl _, fun _ _ e => .inl e, fun _ e => .inl e, fun b o e _ z => (hs.2 b z).trans e, rfl, rfl, rfl⟩ fun b e => by subst e; exact ⟨h1, h2⟩
theorem Ev.comp {elt t iter : Expr} {scope : Scope} {cl : List (Str × Addr)} {P : List O → Prop} {v : V} {items ys : List V} {ρc : List (Str × V)}
    (h : Ev B k env iter ρ st v st₁) (hi : Iters B k P v items st₁) (hc : CoR B k (fun C => compEnvC scope cl C env) t elt P ρc items st₁ ys st') (hl : items.length ≤ sizeLine) (K : Clo scope env cl ρ ρc)
    (hs : ∀ x, foldedSetIterable iter env x = pure x) : Ev B k env (.ListComp elt [⟨t, iter, [], 0⟩] scope pos) ρ st (.ref st'.length) (st' ++ [.list ys]) := fun w s C F A Q E hA q => by
  rw [eval_ListComp]
  refine wpAny_comprehension_free (use := Option.none) rfl hs K.clos K.kind K.names (comp_main h hi hc hl K C F hA fun it D Cc w' s' C' S' r' hm d1 d2 d3 d4 => ?_)
  obtain ⟨m, hm⟩ := hm
  exact ⟨m, hm, fun h' hs' => q _ w' _ (C'.off d1 d2 d3 hs') (S'.off C d4 hs') r'⟩
theorem X1.assignComp {elt t iter : Expr} {scope : Scope} {cl : List (Str × Addr)} {P : List O → Prop} {v : V} {items ys : List V} {ρc : List (Str × V)} {x : Str} {p cpos : Pos}
    (h : Ev B k env iter ρ st v st₁) (hi : Iters B k P v items st₁) (hc : CoR B k (fun C => compEnvC scope cl C env) t elt P ρc items st₁ ys st') (hl : items.length ≤ sizeLine) (K : Clo scope env cl ρ ρc)
    (hs : ∀ x, foldedSetIterable iter env x = pure x) (hx : env.kindOf x = some .local) (hw : swapsWithSole [.Name x p] (.ListComp elt [⟨t, iter, [], 0⟩] scope cpos) pos.line env = pure true) :
    X1 B k env (.Assign [.Name x p] (.ListComp elt [⟨t, iter, [], 0⟩] scope cpos) pos) ρ st .next (upd ρ x (.ref st'.length)) (st' ++ [.list ys]) := fun w s C F A Q E hA q => by
  rw [exec_Assign_arm]
  refine wpAny_bind (wpAny_standAt ?_)
  rw [hw]
  refine wpAny_bind (wpAny_pure ?_)
  rw [if_pos rfl]
  refine wpAny_bind ?_
  show wpAny _ _ (comprehension (.ListComp elt [⟨t, iter, [], 0⟩] scope cpos) scope env (firstIterPos [⟨t, iter, [], 0⟩] cpos) (newList []) false (eval iter env) (some fun v => assignAll v [PySem.assign (Expr.Name x p) env]) >>= fun _ => pure ()) _ _ s
  refine wpAny_bind (wpAny_comprehension_free (use := some _) rfl hs K.clos K.kind K.names (comp_main h hi hc hl K C F hA fun it D Cc w' s' C' S' r' hm d1 d2 d3 d4 => ?_))
  obtain ⟨m, o, es, ep, ho, hd, hk, hf⟩ := hm
  show wpAny _ _ (PySem.assign (Expr.Name x p) env (.ref D)) _ _ s'
  have F' := F.stepN S'
  refine As.name (p := p) hx w' s' _ C' F' r' A _ E hA fun _ w₂ s₂ C₂ S₂ F₂ => ?_
  have hne : ¬ LX env Cc := fun e => by
    have := F.L.2.2.2
    rw [← C.n] at this
    have e : Cc = env.locals := e
    exact absurd this (Nat.not_lt.mpr (e ▸ d4))
  have ho₂ := S₂.keep _ _ ho d1 hne
  have z1 : Cc ∉ w₂.σ := fun z => by
    rcases S₂.fσ _ z with z | z
    · exact d1 z
    · exact absurd (C'.n ▸ Heap.lt_size ho) (Nat.not_lt.mpr z)
  have z2 : w₂.κ Cc = none := by
    cases e : w₂.κ Cc with
    | none => rfl
    | some o =>
      rcases S₂.fκ _ _ e with z | z | z
      · rw [d2] at z; cases z
      · exact absurd (C'.n ▸ Heap.lt_size ho) (Nat.not_lt.mpr z)
      · exact absurd z d1
  refine ⟨m, ⟨o, es, ep, ho₂, hd, hk, hf⟩, fun h' hs' => wpAny_pure (wpAny_pure (q _ w₂ _ (C₂.off z1 z2 d3 hs') ?_ ⟨?_, .next⟩))⟩
  · exact ((S'.weaken (Y := FX env) fun _ z => z.elim).trans C (S₂.weaken LX.fx)).off C d4 hs'
  · refine F₂.off hs' (fun e => hne e) fun y e => ?_
    have := (F.cl y Cc e).2.2.2.1
    rw [← C.n] at this
    exact absurd this (Nat.not_lt.mpr d4)
end
/-- names bound, by value -/
inductive BRs (w : Wd) : List (Str × V) → List (Str × Value) → Prop
  | nil : BRs w [] []
  | cons {n : Str} {v : V} {x : Value} {l : List (Str × V)} {r : List (Str × Value)} : VR w v x → BRs w l r → BRs w ((n, v) :: l) ((n, x) :: r)
theorem BRs.find {w : Wd} {x : Str} {v : V} : ∀ {l : List (Str × V)} {r : List (Str × Value)}, BRs w l r → l.lookup x = some v → ∃ val, r.lookup x = some val ∧ VR w v val
  | _, _, .nil, h => by cases h
  | (n, u) :: l, _, .cons h1 h2, h => by
    rw [List.lookup_cons] at h ⊢
    by_cases e : (x == n) = true
    · simp only [e] at h ⊢; cases h; exact ⟨_, rfl, h1⟩
    · have e' : (x == n) = false := by simpa using e
      simp only [e'] at h ⊢; exact h2.find h
theorem BRs.zip {w : Wd} : ∀ {ns : List Str} {vs : List V} {xs : List Value}, VRs w vs xs → BRs w (ns.zip vs) (ns.zip xs)
  | [], _, _, _ => by simp; exact .nil
  | n :: ns, _, _, .nil => by simp; exact .nil
  | n :: ns, _, _, .cons h1 h2 => .cons h1 (BRs.zip h2)
theorem BRs.append {w : Wd} : ∀ {l l' : List (Str × V)} {r r' : List (Str × Value)}, BRs w l r → BRs w l' r' → BRs w (l ++ l') (r ++ r')
  | _, _, _, _, .nil, h => h
  | _, _, _, _, .cons a b, h => .cons a (b.append h)
theorem BRs.reverse {w : Wd} : ∀ {l : List (Str × V)} {r : List (Str × Value)}, BRs w l r → BRs w l.reverse r.reverse
  | _, _, .nil => .nil
  | _, _, .cons a b => by rw [List.reverse_cons, List.reverse_cons]; exact b.reverse.append (.cons a .nil)
/-- what a def hands back -/
noncomputable def Back (r : Fl) (v : V) : Prop := r = .ret v ∨ (r = .next ∧ v = .none)
structure DefOk (B : Bs) (f : Addr) (fd : FuncData) (body : List Stmt) : Prop where
  at_ : ∃ oc od osl, B.K.lookup f = some ⟨oc, od, .func fd, osl⟩
  code : codeIn B.K fd.code fd.qualname = true
  body : fd.body = .stmts body
  gl : fd.globals = mainGlobals
  bl : fd.builtins = builtinsNs
  cl : fd.closure = []
  kind : fd.scope.kind = .function
  co : fd.scope.isCoroutine = false
  gen : fd.scope.isGenerator = false
/-- a call of a value upon values, as code -/
noncomputable def FnC (B : Bs) (k : Nat) (f : Value) (vs : List V) (st : List O) (v : V) (st' : List O) : Prop :=
  ∀ w s xs, Core B w st s → VRs w vs xs → ∀ (A : Around) (R : Result → Shared → Prop), Room k A → (∀ x w' s', Core B w' st' s' → Step NoX w s w' s' → VR w' v x → R (.ok (.ret x)) s') → codeAny (model PG B.w) A (.call f ⟨xs, []⟩) R s
theorem FnC.fn {B : Bs} {k : Nat} {f : Value} {vs : List V} {st : List O} {v : V} {st' : List O} (h : FnC B k f vs st v st') : Fn B k f vs st v st' := fun w s xs C r A Q E hA q =>
  wpAny_call (h w s xs C r A _ hA fun x w' s' C' S' r' => q x w' s' C' S' r')
theorem FnC.le {B : Bs} {j k : Nat} {f : Value} {vs : List V} {st : List O} {v : V} {st' : List O} (h : FnC B j f vs st v st') (l : j ≤ k) : FnC B k f vs st v st' := fun w s xs C r A R hA q => h w s xs C r A R (hA.le l) q
section
variable {B : Bs} {k : Nat} {st st' : List O}
theorem FnC.def {f : Addr} {fd : FuncData} {body : List Stmt} {vs : List V} {v : V} {binds : List Value → List (Str × Value)} {ρ : List (Str × V)} {r : Fl} (K : DefOk B f fd body)
    (hcell : ∀ x ∈ fd.scope.names, x.2 ≠ .cell)
    (hb : ∀ w s xs, Core B w st s → VRs w vs xs → BindsTo s fd ⟨xs, []⟩ (binds xs)) (hloc : ∀ w xs, VRs w vs xs → ∀ x ∈ binds xs, fd.scope.names.lookup x.1 = some .local)
    (hρ : ∀ w xs, VRs w vs xs → BRs w ρ (binds xs).reverse)
    (hx : ∀ L, ∃ ρ', Xs B k (callEnv fd L f) body ρ st r ρ' st') (hv : Back r v) : FnC B (k + 1) (.ref f) vs st v st' := fun w s xs C hr A Q hA q => by
  obtain ⟨oc, od, osl, hl⟩ := K.at_
  refine codeAny_call_def (binds := binds xs) hA.lt (C.base _ _ (B.X _ _ hl)) rfl (B.T.nolimit.keeps C.base) ((codeRec_of B.X K.code).keeps C.base) K.body (hb w s xs C hr) hcell (hloc w xs hr) (fun h₀ hns hk => ?_) K.co K.gen K.kind
  have hz : s.heap.objs.size ≤ h₀.objs.size := Nat.le_of_lt hns.lt
  have C₁ := C.grow (h := h₀) (tk := s.toks + (binds xs).length) hz hk
  have S₁ := Step.grow (X := NoX) (h := h₀) (tk := s.toks + (binds xs).length) C hz hk
  obtain ⟨f1, f2, f3⟩ := fresh_none C (Nat.le_refl s.heap.objs.size)
  have F₁ : Frm B (callEnv fd s.heap.objs.size f) { w with n := h₀.objs.size } ρ { s with heap := h₀, toks := s.toks + (binds xs).length } := by
    refine ⟨K.kind, K.gl, K.bl, ⟨f1, f2, f3, hns.lt⟩, fun x c e => ?_, (fun x c e => by have e : fd.closure.lookup x = some c := e; rw [K.cl] at e; cases e), (fun x y c e => by have e : fd.closure.lookup x = some c := e; rw [K.cl] at e; cases e), ?_⟩
    · have e : fd.closure.lookup x = some c := e
      rw [K.cl] at e; cases e
    · refine ⟨_, hns, fun x u e => ?_⟩
      obtain ⟨val, h1, h2⟩ := (hρ w xs hr).find e
      have h3 : (x, val) ∈ (binds xs).reverse := by
        have := List.lookup_eq_some_iff.mp h1
        obtain ⟨l1, l2, e1, _⟩ := this
        rw [e1]; exact List.mem_append_right _ (.head _)
      exact ⟨val, h2.mono S₁.toLe, .inl ⟨hloc w xs hr _ (List.mem_reverse.mp h3), h1⟩⟩
  obtain ⟨ρ', hx⟩ := hx s.heap.objs.size
  refine hx _ _ C₁ F₁ _ _ _ hA.deeper fun fl w' s' C' S' r' => ?_
  obtain ⟨F', r'⟩ := r'
  have SS : Step NoX w s w' s' := S₁.drop C (S'.weaken (Y := fun a => NoX a ∨ s.heap.objs.size ≤ a) fun a z => .inr (by
    rcases z with z | ⟨x, z⟩
    · exact Nat.le_of_eq z.symm
    · have z : fd.closure.lookup x = some a := z
      rw [K.cl] at z; cases z)) fun a z => z
  rcases hv with rfl | ⟨rfl, rfl⟩
  · cases r' with
    | ret h => exact q _ w' s' C' SS h
  · cases r'
    exact q _ w' s' C' SS .none
/-- a plain def, names of its parameters -/
theorem FnC.plain {f : Addr} {fd : FuncData} {body : List Stmt} {names : List Str} {vs : List V} {v : V} {r : Fl} (K : DefOk B f fd body)
    (hcell : ∀ x ∈ fd.scope.names, x.2 ≠ .cell) (hl : names.length = vs.length)
    (hb : ∀ xs, xs.length = names.length → bindArgs fd ⟨xs, []⟩ = pure (names.zip xs)) (hloc : ∀ x ∈ names, fd.scope.names.lookup x = some .local)
    (hx : ∀ L, ∃ ρ', Xs B k (callEnv fd L f) body (names.zip vs).reverse st r ρ' st') (hv : Back r v) : FnC B (k + 1) (.ref f) vs st v st' :=
  FnC.def (binds := fun xs => names.zip xs) K hcell (fun w s xs _ h => .of_eq (hb xs (by rw [← h.length, hl])))
    (fun w xs h x hx => hloc _ (List.of_mem_zip hx).1) (fun w xs h => .reverse (.zip h)) hx hv
theorem cells_in {x : Str} : ∀ {names : List (Str × NameKind)} {n : Nat} {acc : List (Str × Addr)} {c : Addr}, (cellsFrom n names acc).lookup x = some c → acc.lookup x = some c ∨ n ≤ c
  | [], n, acc, c, h => .inl h
  | (y, kd) :: r, n, acc, c, h => by
    unfold cellsFrom at h
    split at h
    · rcases cells_in h with h | h
      · rw [List.lookup_cons] at h
        split at h
        · cases h; exact .inr (Nat.le_refl _)
        · exact .inl h
      · exact .inr (Nat.le_of_succ_le h)
    · exact cells_in h
theorem apart_inj {cs : List (Str × Addr)} (h : cs.Pairwise fun x y => x.2 ≠ y.2) {x y : Str} {c : Addr} (hx : (x, c) ∈ cs) (hy : (y, c) ∈ cs) : x = y := by
  induction cs with
  | nil => cases hx
  | cons p r ih =>
    rw [List.pairwise_cons] at h
    rcases List.mem_cons.mp hx with e | hx
    · rcases List.mem_cons.mp hy with e' | hy
      · rw [← e'] at e; exact congrArg Prod.fst e
      · exact absurd rfl (by have := h.1 _ hy; rw [← e] at this; exact this)
    · rcases List.mem_cons.mp hy with e' | hy
      · exact absurd rfl (by have := h.1 _ hx; rw [← e'] at this; exact this)
      · exact ih h.2 hx hy
/-- a def whose names are held in cells, by a comprehension within -/
theorem FnC.defC {f : Addr} {fd : FuncData} {body : List Stmt} {vs : List V} {v : V} {binds : List Value → List (Str × Value)} {ρ : List (Str × V)} {r : Fl} (K : DefOk B f fd body)
    (hb : ∀ w xs, VRs w vs xs → bindArgs fd ⟨xs, []⟩ = pure (binds xs)) (hkind : ∀ w xs, VRs w vs xs → ∀ n, ∀ x ∈ binds xs, fd.scope.names.lookup x.1 = some .local ∨ (fd.scope.names.lookup x.1 = some .cell ∧ ((cellsFrom n fd.scope.names []).lookup x.1).isSome = true))
    (hρ : ∀ w xs, VRs w vs xs → ∀ n x u, ρ.lookup x = some u → ∃ val, VR w u val ∧ ((fd.scope.names.lookup x = some .local ∧ bindL (fun y => fd.scope.names.lookup y) (binds xs) (fun _ => none) x = some val) ∨
      (fd.scope.names.lookup x = some .cell ∧ bindC (fun y => fd.scope.names.lookup y) (binds xs) (fun _ => none) x = some val ∧ ((cellsFrom n fd.scope.names []).lookup x).isSome = true)))
    (hx : ∀ L, ∃ ρ', Xs B k (callEnvC fd L f) body ρ st r ρ' st') (hv : Back r v) : FnC B (k + 1) (.ref f) vs st v st' := fun w s xs C hr A Q hA q => by
  obtain ⟨oc, od, osl, hl⟩ := K.at_
  refine codeAny_call_cells (binds := binds xs) hA.lt (C.base _ _ (B.X _ _ hl)) rfl (B.T.nolimit.keeps C.base) ((codeRec_of B.X K.code).keeps C.base) K.body (hb w xs hr) K.cl (hkind w xs hr _) (fun s₁ x₁ => ?_) K.co K.gen K.kind
  obtain ⟨h₀, tk, rfl, hk⟩ := x₁.done
  have hns := x₁.toInCall.ns
  have hz : s.heap.objs.size ≤ h₀.objs.size := Nat.le_of_lt hns.lt
  have C₁ := C.grow (h := h₀) (tk := tk) hz hk
  have S₁ := Step.grow (X := NoX) (h := h₀) (tk := tk) C hz hk
  obtain ⟨f1, f2, f3⟩ := fresh_none C (Nat.le_refl s.heap.objs.size)
  have F₁ : Frm B (callEnvC fd s.heap.objs.size f) { w with n := h₀.objs.size } ρ { s with heap := h₀, toks := tk } := by
    refine ⟨K.kind, K.gl, K.bl, ⟨f1, f2, f3, hns.lt⟩, fun x c e => ?_, fun x c e => ⟨_, x₁.cell x c e⟩, fun x y c e e' => apart_inj x₁.apart (mem_of_lookup e) (mem_of_lookup e'), ?_⟩
    · have hc := (x₁.above x c (mem_of_lookup e))
      have hc : s.heap.objs.size < c := hc
      obtain ⟨g1, g2, g3⟩ := fresh_none C (Nat.le_of_lt hc)
      obtain ⟨oc, hoc, _⟩ := x₁.cell x c e
      exact ⟨g1, g2, g3, Heap.lt_size hoc, Nat.ne_of_gt hc⟩
    · refine ⟨_, hns, fun x u e => ?_⟩
      obtain ⟨val, h1, h2⟩ := hρ w xs hr (s.heap.objs.size + 1) x u e
      refine ⟨val, h1.mono S₁.toLe, h2.imp id fun ⟨a, b, c⟩ => ⟨.inl a, ?_⟩⟩
      obtain ⟨c, hc⟩ := Option.isSome_iff_exists.mp c
      exact ⟨c, hc, by have := x₁.cell x c hc; rw [show bindC (callEnvC fd s.heap.objs.size f).kindOf (binds xs) (fun _ => none) x = some val from b] at this; exact this⟩
  obtain ⟨ρ', hx⟩ := hx s.heap.objs.size
  refine hx _ _ C₁ F₁ _ _ _ hA.deeper fun fl w' s' C' S' r' => ?_
  obtain ⟨F', r'⟩ := r'
  have SS : Step NoX w s w' s' := S₁.drop C (S'.weaken (Y := fun a => NoX a ∨ s.heap.objs.size ≤ a) fun a z => .inr (by
    rcases z with z | ⟨x, z⟩
    · exact Nat.le_of_eq z.symm
    · rcases cells_in z with z | z
      · cases z
      · exact Nat.le_of_succ_le z)) fun a z => z
  rcases hv with rfl | ⟨rfl, rfl⟩
  · cases r' with
    | ret h => exact q _ w' s' C' SS h
  · cases r'
    exact q _ w' s' C' SS .none
end
theorem tuple_new_list (l : Addr) (o : Obj) (items : Array Value) (n : Nat) (hc : o.cls = .type "list") (hd : o.data = .seq items n) (hsz : items.size ≤ sizeLine) :
    Meets (Builtin.«tuple.__new__» ⟨[.type "tuple", .ref l], []⟩)
      (fun _ R s => s.heap.get? l = some o ∧ ∀ h' : Heap, (∀ b o', s.heap.get? b = some o' → h'.get? b = some o') → s.heap.objs.size ≤ h'.objs.size → R (.ok (.ret (.ref h'.objs.size))) { s with heap := h'.push { cls := .type "tuple", data := .seq items } }) :=
  .of_wp fun prog w A R s h => by
    obtain ⟨hp, g, d, tk, os⟩ := s; obtain ⟨ht, h⟩ := h
    have hsub := sub_tuple_self
    have hinit := init_tuple_lookup
    have hmh := madeHere_tuple
    have hT : Shared.TypeIs ⟨hp, g, d, tk, os⟩ (.ref l) "list" := ⟨o, ht, hc⟩
    have collect' : ∀ {A : Around} {E : Value → Shared → Prop} {Q : List Value → Shared → Prop}, (∀ h', (∀ b o', hp.get? b = some o' → h'.get? b = some o') → hp.objs.size ≤ h'.objs.size → Q items.toList ⟨h', g, d, tk, os⟩) → wpAny (model prog w) A (collect (.ref l)) Q E ⟨hp, g, d, tk, os⟩ :=
      fun hQ => wpAny_size (wpAny_collect_seq (hsz := hsz) l (.inl rfl) ht hc hd fun h' hk hz => hQ h' hk hz)
    wp_walk using AutoSeq1.wpAny_loadPart' ht, wpAny_typeOf hT, collect'
    intro h' hk hz
    show wpAny _ _ (Builtin.Tuple.tupleExact items.toList.toArray >>= fun v => ret v) _ _ _
    unfold Builtin.Tuple.tupleExact
    refine wpAny_bind (wpAny_newObj_type ?_ (by show items.toList.toArray.size ≤ sizeLine; simpa using hsz))
    refine wpAny_pure ⟨_, rfl, ?_⟩
    have e : items.toList.toArray = items := by simp
    rw [e]
    exact h h' hk hz
section
variable {B : Bs} {k : Nat} {env : Env} {ρ : List (Str × V)} {st st₁ st₂ st₃ st' : List O} {pos : Pos}
theorem Fn.abs {i : Int} : Fn B k (.builtin "abs") [.int i] st (.int (if i < 0 then -i else i)) st := fun w s xs C r A Q E hA q => by
  cases r with
  | cons h1 h2 => cases h1; cases h2; exact call_abs_int fun u tk => q _ w _ C.toks .toks (.int _ _)
theorem Fn.min {i j : Int} : Fn B k (.builtin "min") [.int i, .int j] st (.int (if j < i then j else i)) st := fun w s xs C r A Q E hA q => by
  cases r with
  | cons h1 h2 => cases h1; cases h2 with
    | cons h2 h3 =>
      cases h2; cases h3
      refine wpAny_size (min_two_ints hA.handled fun h' tk hk hz => q _ _ _ (C.grow hz hk) (Step.grow C hz hk) ?_)
      split <;> exact .int _ _
theorem Fn.max {i j : Int} : Fn B k (.builtin "max") [.int i, .int j] st (.int (if j > i then j else i)) st := fun w s xs C r A Q E hA q => by
  cases r with
  | cons h1 h2 => cases h1; cases h2 with
    | cons h2 h3 =>
      cases h2; cases h3
      refine wpAny_size (max_two_ints hA.handled fun h' tk hk hz => q _ _ _ (C.grow hz hk) (Step.grow C hz hk) ?_)
      split <;> exact .int _ _
theorem Fn.int {i : Int} : Fn B k (.type "int") [.int i] st (.int i) st := fun w s xs C r A Q E hA q => by
  cases r with
  | cons h1 h2 => cases h1; cases h2; exact call_int_int (q _ w s C (.refl w s) (.int _ _))
theorem VR.isTup {w : Wd} {s : Shared} {l : List V} {x : Value} (C : Core B w st s) (h : VR w (.tup l) x) : ∃ a vs, x = .ref a ∧ IsTup s.heap a (List.toArray vs) ∧ VRs w l vs := by
  cases h with
  | tup h1 h2 h3 h4 => exact ⟨_, _, rfl, ⟨_, C.kp _ _ h1, h2, _, h3⟩, h4⟩
/-- the list that a value denotes: one of the store, or a frozen one -/
noncomputable def Lst (st : List O) (v : V) (l : List V) : Prop := v = .lst l ∨ ∃ i : Nat, v = .ref i ∧ st[i]? = some (.list l)
theorem VR.isLst {w : Wd} {s : Shared} {l : List V} {v : V} {x : Value} (C : Core B w st s) (hl : Lst st v l) (h : VR w v x) : ∃ a vs n, x = .ref a ∧ s.heap.get? a = some (listOf (List.toArray vs) n) ∧ VRs w l vs := by
  rcases hl with rfl | ⟨i, rfl, hi⟩
  · cases h with
    | lst h1 h2 => exact ⟨_, _, _, rfl, C.kp _ _ h1, h2⟩
  · cases h with
    | ref h1 =>
      obtain ⟨a', ob, h2, h3, h4, vs, n, rfl, h5⟩ := C.ob i _ hi (fun e => by cases e)
      rw [h1] at h2; cases h2
      exact ⟨_, vs, n, rfl, h4, h5⟩
theorem isList_of {h : Heap} {a : Addr} {its : Array Value} {n : Nat} (e : h.get? a = some (listOf its n)) : h.IsList a its := ⟨_, e, rfl, n, rfl⟩
theorem Fn.lenTup {l : List V} (hl : (l.length : Int) < 2 ^ 63) : Fn B k (.builtin "len") [.tup l] st (.int l.length) st := fun w s xs C r A Q E hA q => by
  cases r with
  | cons h1 h2 =>
    obtain ⟨a, vs, rfl, ht, hv⟩ := h1.isTup C
    cases h2
    exact len_tuple ht (by rw [List.size_toArray, ← hv.length]; exact hl) (by rw [List.size_toArray, ← hv.length]; exact q _ w _ C.toks .toks (.int _ _))
theorem Fn.lenLst {v : V} {l : List V} (hv : Lst st v l) (hl : (l.length : Int) < 2 ^ 63) : Fn B k (.builtin "len") [v] st (.int l.length) st := fun w s xs C r A Q E hA q => by
  cases r with
  | cons h1 h2 =>
    obtain ⟨a, vs, n, rfl, ht, hv⟩ := h1.isLst C hv
    cases h2
    exact call_len_list (isList_of ht) (by rw [List.size_toArray, ← hv.length]; exact hl) (by rw [List.size_toArray, ← hv.length]; exact q _ w _ C.toks .toks (.int _ _))
/-- the newest object becomes known -/
theorem Core.knowNew {w : Wd} {s : Shared} {ob : Obj} {v : V} {A : Around} {Q : Value → Shared → Prop} {tk : Nat} (C : Core B w st s) (hf : ob.isFreed = false)
    (ho : ∀ w', w.Le w' → w'.κ s.heap.objs.size = some ob → VR w' v (.ref s.heap.objs.size))
    (q : ∀ w' s', Core B w' st s' → Step NoX w s w' s' → VR w' v (.ref s.heap.objs.size) → s' = { s with heap := s.heap.push ob, toks := tk } → Q (.ref s.heap.objs.size) s') : Q (.ref s.heap.objs.size) { s with heap := s.heap.push ob, toks := tk } := by
  have hz : s.heap.objs.size ≤ (s.heap.push ob).objs.size := by rw [Heap.size_push]; exact Nat.le_succ _
  have hk : ∀ a o, s.heap.get? a = some o → (s.heap.push ob).get? a = some o := fun a o e => Heap.get?_push_of_some _ e
  have C₁ := C.grow (tk := tk) hz hk
  have S₁ := Step.grow (X := NoX) (tk := tk) C hz hk
  have hg : (s.heap.push ob).get? s.heap.objs.size = some ob := Heap.get?_push_size _ hf
  obtain ⟨hs, _, _⟩ := fresh_none C (Nat.le_refl s.heap.objs.size)
  have S₂ := S₁.know C₁ hg (.inl (Nat.le_of_eq C.n.symm))
  exact q _ _ (C₁.know hg hs) S₂ (ho _ S₂.toLe (if_pos rfl)) rfl
theorem Fn.range1 {i : Int} : Fn B k (.type "range") [.int i] st (.range 0 i) st := fun w s xs C r A Q E hA q => by
  cases r with
  | cons h1 h2 =>
    cases h1; cases h2
    exact call_range_1 (C.knowNew (A := A) (v := .range 0 i) rfl (fun w' L e => .range e) fun w' s' C' S' r' _ => q _ w' s' C' S' r')
theorem Fn.range2 {i j : Int} : Fn B k (.type "range") [.int i, .int j] st (.range i j) st := fun w s xs C r A Q E hA q => by
  cases r with
  | cons h1 h2 => cases h1; cases h2 with
    | cons h2 h3 =>
      cases h2; cases h3
      exact call_range_2 (C.knowNew (A := A) (v := .range i j) rfl (fun w' L e => .range e) fun w' s' C' S' r' _ => q _ w' s' C' S' r')
noncomputable def intVs (ns : List Int) : List V := ns.map V.int
theorem VRs.toInts {w : Wd} : ∀ {ns : List Int} {vs : List Value}, VRs w (intVs ns) vs → IntsAre vs ns
  | [], _, .nil => .nil
  | n :: ns, _, .cons h1 h2 => by cases h1; exact .cons _ _ (VRs.toInts h2)
theorem VRs.ofInts {w : Wd} : ∀ {ns : List Int} {vs : List Value}, IntsAre vs ns → VRs w (intVs ns) vs
  | _, _, .nil => .nil
  | _, _, .cons _ _ h => .cons (.int _ _) (VRs.ofInts h)
theorem ints_items : ∀ {vs : List Value} {ns : List Int}, IntsAre vs ns → ∃ xs : Array (Int × Tok), vs.toArray = intItems xs ∧ xs.toList.map (·.1) = ns := by
  intro vs ns h
  induction h with
  | nil => exact ⟨#[], by simp [intItems], rfl⟩
  | cons n t h ih =>
    obtain ⟨xs, h1, h2⟩ := ih
    refine ⟨⟨(n, t) :: xs.toList⟩, ?_, by simp [h2]⟩
    have := congrArg Array.toList h1
    apply Array.toList_inj.mp
    simp only [intItems, Array.toList_map] at this ⊢
    simp [this]
theorem Fn.sum {v : V} {ns : List Int} (hv : Lst st v (intVs ns)) : Fn B k (.builtin "sum") [v] st (.int ns.sum) st := fun w s xs C r A Q E hA q => by
  cases r with
  | cons h1 h2 =>
    obtain ⟨a, vs, n, rfl, ht, hv⟩ := h1.isLst C hv
    cases h2
    obtain ⟨zs, h3, h4⟩ := ints_items hv.toInts
    have hl := isList_of ht
    rw [h3] at hl
    refine wpAny_size (sum_intListG hA.handled hl fun h' tk t' hk hz => q _ _ _ (C.grow hz hk) (Step.grow C hz hk) ?_)
    rw [preSum_eq, List.take_of_length_le (by simp), h4]
    exact .int _ _
theorem Fn.sorted {v : V} {ns ms : List Int} (hv : Lst st v (intVs ns)) (h64 : ns.length < 64) (hms : ∀ ns' : List Int, ns'.Perm ns → ns'.Pairwise (· ≤ ·) → ns' = ms) : Fn B k (.builtin "sorted") [v] st (.lst (intVs ms)) st := fun w s xs C r A Q E hA q => by
  cases r with
  | cons h1 h2 =>
    obtain ⟨a, vs, n, rfl, ht, hv⟩ := h1.isLst C hv
    cases h2
    refine wpAny_size (sorted_ints (isList_of ht) hv.toInts (by rw [← hv.length]; simpa [intVs] using h64) fun out ns' a1 a2 a3 hz => ?_)
    obtain ⟨e, he⟩ := sortedAll_at s.heap vs out
    have hk : ∀ b o, s.heap.get? b = some o → (sortedAll s.heap vs out).get? b = some o := fun b o e => sortedAll_old e
    have C₁ := C.grow (tk := s.toks) hz hk
    have S₁ := Step.grow (X := NoX) (tk := s.toks) C hz hk
    obtain ⟨hs, _, _⟩ := fresh_none C (Nat.le_succ s.heap.objs.size)
    have S₂ := S₁.know C₁ he (.inl (by rw [C.n]; exact Nat.le_succ _))
    refine q _ _ _ (C₁.know he hs) S₂ (.lst (if_pos rfl) ?_)
    rw [← hms ns' a2 a3]
    exact VRs.ofInts a1
theorem Fn.tupleOf {v : V} {l : List V} (hv : Lst st v l) (hl : l.length ≤ sizeLine) : Fn B k (.type "tuple") [v] st (.tup l) st := fun w s xs C r A Q E hA q => by
  cases r with
  | cons h1 h2 =>
    obtain ⟨a, vs, n, rfl, ht, hv⟩ := h1.isLst C hv
    cases h2
    refine callType_new F.called_tuple (by decide) (F.typeCall_tuple_1 _) (F.newCall_tuple_1 _) (fun obj => F.args_object_init_2 obj _) F.entry_tuple_new
      (tuple_new_list a _ vs.toArray n rfl rfl (by rw [List.size_toArray, ← hv.length]; exact hl)) ⟨ht, fun h' hk hz => ⟨⟨_, Heap.get?_push_size _ rfl, rfl⟩, ?_⟩⟩
    have C₁ := C.grow (tk := s.toks) hz hk
    have S₁ := Step.grow (X := NoX) (tk := s.toks) C hz hk
    refine C₁.knowNew (A := A) (v := .tup l) (tk := s.toks) rfl (fun w' L e => .tup e rfl rfl (hv.mono (S₁.toLe.trans L))) fun w' s' C' S' r' _ => q _ w' s' C' (S₁.trans C S') r'
end
section
variable {B : Bs} {k : Nat} {env : Env} {ρ : List (Str × V)} {st st₁ st₂ st₃ st' : List O} {pos : Pos}
/-- an iterator of one object -/
structure ItK (B : Bs) (P : List O → Prop) (items : List V) (I : Addr) (IT : Nat → Heap → Prop) (KN : Wd → Prop) : Prop where
  at_ : ∀ i h h', IT i h → (∀ o, h.get? I = some o → h'.get? I = some o) → IT i h'
  kn : ∀ w w', KN w → w.Le w' → KN w'
  item : ∀ i w s st v A Q E, Core B w st s → P st → KN w → I ∉ w.σ → w.κ I = none → IT i s.heap → items[i]? = some v →
    (∀ x h' tk, VR w v x → IT (i + 1) h' → Heap.SameBut I s.heap h' → Q (some x) { s with heap := h', toks := tk }) → wpAny (model PG B.w) A (pyNext (.ref I)) Q E s
  fin : ∀ i w s st A Q E, A.handled = none → Core B w st s → P st → KN w → I ∉ w.σ → w.κ I = none → IT i s.heap → items.length ≤ i →
    (∀ h', Heap.ExtBut I s.heap h' → Q none { s with heap := h' }) → wpAny (model PG B.w) A (pyNext (.ref I)) Q E s
  self : ∀ i s A Q E, IT i s.heap → Q (.ref I) s → wpAny (model PG B.w) A (pyIter (.ref I)) Q E s
  go : ∀ i t x s A (Q : Unit → Shared → Prop) E, IT i s.heap → Q () s → wpAny (model PG B.w) A (letOwnedTupleGo t (.ref I) x) Q E s
theorem ItK.its {P : List O → Prop} {items : List V} {I : Addr} {IT : Nat → Heap → Prop} {KN : Wd → Prop} (K : ItK B P items I IT KN) {lo : Nat} {w : Wd} {s : Shared} (hlo : lo ≤ I) (hw : I < w.n)
    (h1 : I ∉ w.σ) (h2 : w.κ I = none) (h3 : B.b.get? I = none) (h4 : KN w) (h5 : IT 0 s.heap) : Its B k P items (.ref I) lo w s := by
  refine ⟨fun i w s => I < w.n ∧ I ∉ w.σ ∧ w.κ I = none ∧ KN w ∧ IT i s.heap, fun a => a = I, ⟨?_, ?_, ?_, ?_⟩, fun a e => e ▸ ⟨hlo, hw⟩, hw, h1, h2, h4, h5⟩
  · intro i w s st v target A Q E hJ C hP hv hA q
    obtain ⟨j0, j1, j2, j3, j4⟩ := hJ
    refine K.item i w s st v A _ E C hP j3 j1 j2 j4 hv fun x h' tk hx hit hs => ?_
    refine K.go (i + 1) target x _ A _ E hit ?_
    have hk : ∀ a o, s.heap.get? a = some o → ¬ (a = I) → h'.get? a = some o := fun a o e hne => (hs.2 a hne).trans e
    have C₁ := C.change (Y := fun a => a = I) (tk := tk) (Nat.le_of_eq hs.1.symm) hk (fun a e => by subst e; exact ⟨j1, j2, h3⟩)
    have S₁ := Step.change (Y := fun a => a = I) (tk := tk) C (Nat.le_of_eq hs.1.symm) hk
    exact q x _ _ C₁ S₁ (hx.mono S₁.toLe) ⟨by show I < h'.objs.size; rw [hs.1, C.n]; exact j0, j1, j2, K.kn _ _ j3 S₁.toLe, hit⟩
  · intro i w s st A Q E hJ C hP hv hA q
    obtain ⟨j0, j1, j2, j3, j4⟩ := hJ
    refine wpAny_size (K.fin i w s st A _ E hA.handled C hP j3 j1 j2 j4 hv fun h' hs hz => ⟨rfl, ?_⟩)
    have hk : ∀ a o, s.heap.get? a = some o → ¬ (a = I) → h'.get? a = some o := fun a o e hne => hs a o hne e
    have C₁ := C.change (Y := fun a => a = I) (tk := s.toks) hz hk (fun a e => by subst e; exact ⟨j1, j2, h3⟩)
    have S₁ := Step.change (Y := fun a => a = I) (tk := s.toks) C hz hk
    exact q _ _ C₁ S₁
  · intro i w s st A Q E hJ C hP hA q
    exact K.self i s A Q E hJ.2.2.2.2 q
  · intro X i w s w' s' hJ S hX
    obtain ⟨j0, j1, j2, j3, j4⟩ := hJ
    refine ⟨Nat.lt_of_lt_of_le j0 S.n, fun h => ?_, ?_, K.kn _ _ j3 S.toLe, K.at_ _ _ _ j4 fun o e => S.keep _ _ e j1 fun z => hX _ z rfl⟩
    · rcases S.fσ _ h with h | h
      · exact j1 h
      · exact absurd j0 (Nat.not_lt.mpr h)
    · cases q : w'.κ I with
      | none => rfl
      | some o =>
        rcases S.fκ _ _ q with h | h | h
        · rw [j2] at h; cases h
        · exact absurd j0 (Nat.not_lt.mpr h)
        · exact absurd h j1
/-- iter() that makes an object anew -/
theorem ItK.iters {P : List O → Prop} {items : List V} {v : V} {IT : Addr → Value → Nat → Heap → Prop} (K : ∀ I x, ItK B P items I (IT I x) fun w => VR w v x)
    (h : ∀ w s x A (Q : Value → Shared → Prop) E, Core B w st s → VR w v x → (∀ ob, ob.isFreed = false → IT s.heap.objs.size x 0 (s.heap.push ob) → Q (.ref s.heap.objs.size) { s with heap := s.heap.push ob }) → wpAny (model PG B.w) A (pyIter x) Q E s) :
    Iters B k P v items st := fun w s x C hv A Q E hA q => by
  refine h w s x A Q E C hv fun ob hf hit => ?_
  have hz : s.heap.objs.size ≤ (s.heap.push ob).objs.size := by rw [Heap.size_push]; exact Nat.le_succ _
  have hk : ∀ a o, s.heap.get? a = some o → (s.heap.push ob).get? a = some o := fun a o e => Heap.get?_push_of_some _ e
  have C₁ := C.grow (tk := s.toks) hz hk
  have S₁ := Step.grow (X := NoX) (tk := s.toks) C hz hk
  obtain ⟨f1, f2, f3⟩ := fresh_none C (Nat.le_refl s.heap.objs.size)
  exact q _ _ _ C₁ S₁ ((K _ x).its (Nat.le_refl _) (by show s.heap.objs.size < (s.heap.push ob).objs.size; rw [Heap.size_push]; exact Nat.lt_succ_self _) f1 f2 f3 (hv.mono S₁.toLe) hit)
theorem VRs.get {w : Wd} : ∀ {l : List V} {r : List Value} {i : Nat} {v : V}, VRs w l r → l[i]? = some v → ∃ x, r[i]? = some x ∧ VR w v x
  | _, _, 0, _, .cons a _, h => by simp at h; subst h; exact ⟨_, rfl, a⟩
  | _, _, i + 1, _, .cons _ b, h => by simp at h; exact b.get h
  | _, _, _, _, .nil, h => by simp at h
theorem VRs.getNone {w : Wd} {l : List V} {r : List Value} {i : Nat} (h : VRs w l r) (e : l.length ≤ i) : r[i]? = none := List.getElem?_eq_none (by rw [← h.length]; exact e)
theorem Iters.tup {l : List V} : Iters B k (fun _ => True) (.tup l) l st :=
  ItK.iters (IT := fun I x i h => ∃ a, x = .ref a ∧ h.IsTupleIter I a i) (fun I x =>
    { at_ := fun i h h' ⟨a, e, o, ho, r⟩ q => ⟨a, e, o, q o ho, r⟩
      kn := fun w w' h L => h.mono L
      item := fun i w s st v A Q E C _ hv j1 j2 ⟨a, e, hit⟩ hx q => by
        obtain ⟨a', vs, e', ht, hr⟩ := hv.isTuple C
        subst e; cases e'
        obtain ⟨y, hy, hxy⟩ := hr.get hx
        exact wpAny_pyNext_tuple_item hit ht (by simpa using hy) fun h' hit' hs => q y h' s.toks hxy ⟨_, rfl, hit'⟩ hs
      fin := fun i w s st A Q E hh C _ hv j1 j2 ⟨a, e, hit⟩ hx q => by
        obtain ⟨a', vs, e', ht, hr⟩ := hv.isTuple C
        subst e; cases e'
        exact wpAny_pyNext_tuple_end hh hit ht (by simpa using hr.getNone hx) fun h' hs => q h' hs
      self := fun i s A Q E ⟨a, e, hit⟩ q => wpAny_pyIter_tupleiter hit q
      go := fun i t x s A Q E ⟨a, e, hit⟩ q => letGo_tupleiter hit q }) fun w s x A Q E C hv q => by
    obtain ⟨a, vs, rfl, ht, hr⟩ := hv.isTuple C
    exact wpAny_pyIter_tuple ht (q _ rfl ⟨a, rfl, _, Heap.get?_push_size _ rfl, rfl, rfl⟩)
theorem Iters.lst {v : V} {l : List V} (hl : Lst st v l) : Iters B k (fun st => Lst st v l) v l st :=
  ItK.iters (IT := fun I x i h => ∃ a, x = .ref a ∧ h.IsListIter I a i) (fun I x =>
    { at_ := fun i h h' ⟨a, e, o, ho, r⟩ q => ⟨a, e, o, q o ho, r⟩
      kn := fun w w' h L => h.mono L
      item := fun i w s st u A Q E C hl hv j1 j2 ⟨a, e, hit⟩ hx q => by
        obtain ⟨a', vs, n, e', ht, hr⟩ := hv.isLst C hl
        subst e; cases e'
        obtain ⟨y, hy, hxy⟩ := hr.get hx
        exact wpAny_pyNext_list_item hit (isList_of ht) (by simpa using hy) fun h' hit' hs => q y h' s.toks hxy ⟨_, rfl, hit'⟩ hs
      fin := fun i w s st A Q E hh C hl hv j1 j2 ⟨a, e, hit⟩ hx q => by
        obtain ⟨a', vs, n, e', ht, hr⟩ := hv.isLst C hl
        subst e; cases e'
        exact wpAny_pyNext_list_end hh hit (isList_of ht) (by simpa using hr.getNone hx) fun h' hs => q h' hs
      self := fun i s A Q E ⟨a, e, hit⟩ q => wpAny_pyIter_listiter hit q
      go := fun i t x s A Q E ⟨a, e, hit⟩ q => letGo_listiter hit q }) fun w s x A Q E C hv q => by
    obtain ⟨a, vs, n, rfl, ht, hr⟩ := hv.isLst C hl
    exact wpAny_pyIter_list (isList_of ht) (q _ rfl ⟨a, rfl, _, Heap.get?_push_size _ rfl, rfl, rfl⟩)
noncomputable def rangeVs (a b : Int) : List V := (List.range (b - a).toNat).map fun i => V.int (a + (i : Nat))
theorem rangeVs_get {a b : Int} {i : Nat} {v : V} (h : (rangeVs a b)[i]? = some v) : v = .int (a + i) ∧ (i : Int) < b - a := by
  unfold rangeVs at h
  rw [List.getElem?_map, Option.map_eq_some_iff] at h
  obtain ⟨j, hj, rfl⟩ := h
  obtain ⟨hj1, hj2⟩ := List.getElem?_eq_some_iff.mp hj
  simp at hj1 hj2
  subst hj2
  exact ⟨rfl, by omega⟩
theorem rangeVs_len {a b : Int} : (rangeVs a b).length = (b - a).toNat := by simp [rangeVs]
theorem rangeSize_1 {a b : Int} : Builtin.Range.rangeSize a b 1 = if a < b then b - a else 0 := by
  unfold Builtin.Range.rangeSize
  rw [if_pos (by decide)]
  split
  · rw [Int.ediv_one]; omega
  · rfl
theorem range_small {a b : Int} (ha : a.natAbs < 2 ^ 60) (hb : b.natAbs < 2 ^ 60) : Builtin.Range.small a b 1 = true := by
  unfold Builtin.Range.small
  rw [rangeSize_1]
  simp only [Builtin.Range.rangeFitsLong, Bool.and_eq_true, Bool.or_eq_true, decide_eq_true_eq]
  refine ⟨⟨⟨⟨⟨?_, ?_⟩, ?_, ?_⟩, by decide⟩, ?_, ?_⟩, .inr ?_⟩ <;> first | omega | (split <;> omega) | (simp; omega)
theorem Iters.range {a b : Int} (ha : a.natAbs < 2 ^ 60) (hb : b.natAbs < 2 ^ 60) : Iters B k (fun _ => True) (.range a b) (rangeVs a b) st :=
  ItK.iters (IT := fun I x i h => IsRangeIter h I (a + i) ((if a < b then b - a else 0) - i) 1) (fun I x =>
    { at_ := fun i h h' e q => q _ e
      kn := fun w w' h L => h.mono L
      item := fun i w s st u A Q E C _ hv j1 j2 hit hx q => by
        obtain ⟨rfl, hi⟩ := rangeVs_get hx
        refine wpAny_pyNext_range_item hit (by split <;> omega) fun h' hit' hs => q _ h' _ (.int _ _) ?_ hs
        have e1 : a + (i : Int) + 1 = a + ((i + 1 : Nat) : Int) := by omega
        have e2 : (if a < b then b - a else 0) - (i : Int) - 1 = (if a < b then b - a else 0) - ((i + 1 : Nat) : Int) := by omega
        rw [e1, e2] at hit'
        exact hit'
      fin := fun i w s st A Q E hh C _ hv j1 j2 hit hx q => by
        rw [rangeVs_len] at hx
        exact wpAny_pyNext_range_end hh hit (by split <;> omega) q
      self := fun i s A Q E hit q => wpAny_pyIter_rangeiter hit q
      go := fun i t x s A Q E hit q => by
        unfold letOwnedTupleGo
        cases t <;> first
          | exact wpAny_pure q
          | (cases x <;> first
              | exact wpAny_pure q
              | (refine wpAny_bind (wpAny_load hit ?_)
                 exact wpAny_pure q)) }) fun w s x A Q E C hv q => by
    cases hv with
    | range hk =>
      refine wpAny_pyIter_range (C.kp _ _ hk) (range_small ha hb) (q _ rfl ?_)
      rw [rangeSize_1]
      have := Heap.get?_push_size s.heap (o := { cls := .type "range_iterator", data := .fields #[rawInt a, rawInt (if a < b then b - a else 0), rawInt 1] }) rfl
      simpa using this
end
noncomputable def dGet (l : List (Int × V)) (k : Int) : Option V := (l.find? fun kv => kv.1 = k).map (·.2)
noncomputable def dSet (l : List (Int × V)) (k : Int) (v : V) : List (Int × V) :=
  if l.any (fun kv => kv.1 = k) then l.map (fun kv => if kv.1 = k then (kv.1, v) else kv) else l ++ [(k, v)]
theorem DRs.keys {w : Wd} {l : List (Int × V)} {r : List (Int × Value)} (h : DRs w l r) : l.map (·.1) = r.map (·.1) := by
  induction h with
  | nil => rfl
  | cons _ _ ih => simp [ih]
theorem DRs.length {w : Wd} {l : List (Int × V)} {r : List (Int × Value)} (h : DRs w l r) : l.length = r.length := by
  have := congrArg List.length h.keys; simpa using this
theorem DRs.any {w : Wd} {l : List (Int × V)} {r : List (Int × Value)} {k : Int} (h : DRs w l r) : l.any (fun kv => kv.1 = k) = r.any (fun kv => kv.1 = k) := by
  induction h with
  | nil => rfl
  | cons _ _ ih => simp [ih]
theorem DRs.at {w : Wd} {l : List (Int × V)} {r : List (Int × Value)} {k : Int} (h : DRs w l r) : (∀ v, dGet l k = some v → ∃ x, valueAt r k = some x ∧ VR w v x) ∧ (dGet l k = none → valueAt r k = none) := by
  induction h with
  | nil => exact ⟨fun v e => by simp [dGet] at e, fun _ => rfl⟩
  | @cons j v x l r hv _ ih =>
    unfold dGet valueAt at ih ⊢
    by_cases e : j = k
    · subst e; simp; exact hv
    · simp only [List.find?_cons, decide_eq_false e]; exact ih
theorem DRs.map {w : Wd} {l : List (Int × V)} {r : List (Int × Value)} {k : Int} {v : V} {x : Value} (h : DRs w l r) (hv : VR w v x) :
    DRs w (l.map fun kv => if kv.1 = k then (kv.1, v) else kv) (r.map fun kv => if kv.1 = k then (kv.1, x) else kv) := by
  induction h with
  | nil => exact .nil
  | @cons j u y l r hu _ ih =>
    simp only [List.map_cons]
    by_cases e : j = k
    · simp only [e, if_true]; exact .cons hv ih
    · simp only [e, if_false]; exact .cons hu ih
theorem DRs.append {w : Wd} {l : List (Int × V)} {r : List (Int × Value)} {l' : List (Int × V)} {r' : List (Int × Value)} (h : DRs w l r) (h' : DRs w l' r') : DRs w (l ++ l') (r ++ r') := by
  induction h with
  | nil => exact h'
  | cons hu _ ih => exact .cons hu ih
theorem DRs.stored {w : Wd} {l : List (Int × V)} {r : List (Int × Value)} {k : Int} {v : V} {x : Value} (h : DRs w l r) (hv : VR w v x) : DRs w (dSet l k v) (PySem.stored r k x) := by
  unfold dSet PySem.stored
  rw [h.any]
  split
  · exact h.map hv
  · exact h.append (.cons hv .nil)
theorem DEs.length {w : Wd} : ∀ {l : List (Int × V)} {es : List DictEntry}, DEs w l es → l.length = es.length
  | _, _, .nil => rfl
  | _, _, .cons _ b => congrArg (· + 1) b.length
theorem DEs.drs {w : Wd} {M : PySem.World} : ∀ {l : List (Int × V)} {es : List DictEntry}, DEs w l es → ∃ kvs, DRs w l kvs ∧ Pairs (intKind PG M) es kvs ∧ ∀ e ∈ es, ∃ k, (intKind PG M).is k e.key = true ∧ e.hash = (intKind PG M).hash k
  | _, _, .nil => ⟨[], .nil, .nil, fun _ h => by cases h⟩
  | _, _, .cons (k := k) (x := x) a b => by
    obtain ⟨kvs, h1, h2, h3⟩ := DEs.drs (M := M) b
    refine ⟨(k, x) :: kvs, .cons a h1, .cons (intKind_is ..) rfl h2, fun e he => ?_⟩
    rcases List.mem_cons.mp he with rfl | he
    · exact ⟨k, intKind_is .., rfl⟩
    · exact h3 e he
theorem DRs.des {w : Wd} {M : PySem.World} {l : List (Int × V)} {kvs : List (Int × Value)} (h : DRs w l kvs) : ∀ {es : List DictEntry}, Pairs (intKind PG M) es kvs → (∀ e ∈ es, ∃ k, (intKind PG M).is k e.key = true ∧ e.hash = (intKind PG M).hash k) → DEs w l es := by
  induction h with
  | nil => intro es hp _; cases hp; exact .nil
  | @cons k v x l r hv _ ih =>
    intro es hp hk
    cases hp with
    | @cons e _ es _ h1 h2 h3 =>
      obtain ⟨hash, key, val⟩ := e
      obtain ⟨k', e1, e2⟩ := hk _ (.head _)
      dsimp only at h1 h2 e1 e2
      obtain ⟨t, rfl⟩ := Value.isInt_shape h1
      have : k = k' := (intKind PG M).inj _ _ _ h1 e1
      subst this h2 e2
      exact .cons hv (ih h3 fun e he => hk e (List.mem_cons_of_mem _ he))
section
variable {B : Bs} {k : Nat} {env : Env} {ρ : List (Str × V)} {st st₁ st₂ st₃ st' : List O} {pos : Pos}
/-- the dict that a value denotes -/
noncomputable def Dic (st : List O) (v : V) (l : List (Int × V)) : Prop := v = .dict l ∨ ∃ i : Nat, v = .ref i ∧ st[i]? = some (.dict l)
theorem VR.isDic {w : Wd} {s : Shared} {l : List (Int × V)} {v : V} {x : Value} (C : Core B w st s) (hl : Dic st v l) (h : VR w v x) : ∃ a kvs, x = .ref a ∧ s.heap.DictOf (intKind PG B.w) a kvs ∧ DRs w l kvs ∧ (a == sysModules) = false := by
  rcases hl with rfl | ⟨i, rfl, hi⟩
  · cases h with
    | dict h1 h2 h3 h4 =>
      obtain ⟨kvs, e1, e2, e3⟩ := h2.drs (M := B.w)
      exact ⟨_, kvs, rfl, ⟨_, _, _, C.kp _ _ h1, ⟨rfl, rfl, rfl⟩, rfl, fun e he => e3 e (by simpa using he), e2, e1.keys ▸ h3⟩, e1, h4⟩
  · cases h with
    | ref h1 =>
      obtain ⟨a', ob, h2, h3, h4, kvs, h5, h6⟩ := C.ob i _ hi (fun e => by cases e)
      rw [h1] at h2; cases h2
      exact ⟨_, kvs, rfl, Heap.dictOf_iff.mpr ⟨ob, h4, h5⟩, h6, (C.low _ (List.mem_of_getElem? h1)).2.2⟩
theorem Ev.dict0 : Ev B k env (.Dict [] [] pos) ρ st (.ref st.length) (st ++ [.dict []]) := fun w s C F A Q E hA q =>
  wpAny_Dict_empty (C.newest (o := .dict []) (A := A) (E := E) (tk := s.toks) rfl (fun w' L => ⟨[], ⟨#[], 0, ⟨rfl, rfl, rfl⟩, rfl, (fun e he => by simp at he), Pairs.nil, List.nodup_nil⟩, DRs.nil⟩) fun w₂ s₂ C₂ S₂ r₂ e => q _ w₂ s₂ C₂ S₂ r₂)
theorem Ev.dict0F : Ev B k env (.Dict [] [] pos) ρ st (.dict []) st := fun w s C F A Q E hA q =>
  wpAny_Dict_empty (C.knowNew (A := A) (v := .dict []) (tk := s.toks) rfl (fun w' L e => .dict (n := 0) (es := []) e .nil .nil (C.notSys (Nat.le_refl _))) fun w₂ s₂ C₂ S₂ r₂ e => q _ w₂ s₂ C₂ S₂ r₂)
theorem VR.intIs {w : Wd} {i : Int} {x : Value} (h : VR w (.int i) x) : (intKind PG B.w).is i x = true := by cases h; exact intKind_is ..
theorem Op2.inDict {i : Int} {v : V} {l : List (Int × V)} (hl : Dic st v l) : Op2 B k (compareOp .In) (.int i) v st (.bool (dGet l i).isSome) := fun w s x y C hx hy A Q E hA q => by
  obtain ⟨a, kvs, rfl, hd, hr, hm⟩ := hy.isDic C hl
  refine wpAny_in_of hx.intIs hm hd.mapOf ?_
  have e : (valueAt kvs i).isSome = (dGet l i).isSome := by
    cases g : dGet l i with
    | none => rw [hr.at.2 g]; rfl
    | some v => obtain ⟨x, hx, _⟩ := hr.at.1 v g; rw [hx]; rfl
  rw [e]
  exact q _ w _ C.toks .toks (.bool _)
theorem Op2.notInDict {i : Int} {v : V} {l : List (Int × V)} (hl : Dic st v l) : Op2 B k (compareOp .NotIn) (.int i) v st (.bool (!(dGet l i).isSome)) := fun w s x y C hx hy A Q E hA q => by
  obtain ⟨a, kvs, rfl, hd, hr, hm⟩ := hy.isDic C hl
  refine wpAny_notIn_of hx.intIs hm hd.mapOf ?_
  have e : (valueAt kvs i).isSome = (dGet l i).isSome := by
    cases g : dGet l i with
    | none => rw [hr.at.2 g]; rfl
    | some v => obtain ⟨x, hx, _⟩ := hr.at.1 v g; rw [hx]; rfl
  rw [e]
  exact q _ w _ C.toks .toks (.bool _)
/-- v[i] -/
noncomputable def Sub (B : Bs) (k : Nat) (ov iv : V) (st : List O) (v : V) : Prop :=
  ∀ w s x i, Core B w st s → VR w ov x → VR w iv i → (∃ T id, s.TypeIs x T ∧ typeLookup (.type T) "__getitem__" = pure (some (.builtin id))) ∧ Do B k NoX (getItem x i) w s st (fun w' y _ => VR w' v y)
theorem Ev.sub {value slice : Expr} {ov iv v : V} (ho : Ev B k env value ρ st ov st₁) (hi : Ev B k env slice ρ st₁ iv st₂) (hg : Sub B k ov iv st₂ v)
    (hs : ∀ o i, ∃ ops, subscripted slice false o i = operate ops (getItem o i)) : Ev B k env (.Subscript value slice pos) ρ st v st₂ := fun w s C F A Q E hA q => by
  rw [eval_Subscript]
  refine wpAny_bind (ho w s C F A _ E hA fun x w₁ s₁ C₁ S₁ r₁ => wpAny_bind (wpAny_holding (hi w₁ s₁ C₁ (F.stepN S₁) A _ E hA fun i w₂ s₂ C₂ S₂ r₂ => wpAny_bind (wpAny_standAt ?_))))
  obtain ⟨⟨T, id, hT, hl⟩, hd⟩ := hg w₂ s₂ x i C₂ (r₁.mono S₂.toLe) r₂
  obtain ⟨ops, he⟩ := hs x i
  exact tail_any (value := value) (slice := slice) hT hl (hd A _ E hA fun y w₃ s₃ C₃ S₃ r₃ => q y w₃ s₃ C₃ ((S₁.trans C S₂).trans C S₃) r₃) he
theorem Sub.dict {i : Int} {u v : V} {l : List (Int × V)} (hl : Dic st u l) (hv : dGet l i = some v) : Sub B k u (.int i) st v := fun w s x y C hx hy => by
  obtain ⟨a, kvs, rfl, hd, hr, hm⟩ := hx.isDic C hl
  refine ⟨⟨"dict", _, hd.mapOf.typeIs, slot_dict_getitem.lookup⟩, fun A Q E hA q => ?_⟩
  obtain ⟨z, hz, hvz⟩ := hr.at.1 v hv
  exact wpAny_getItem_of hy.intIs hd.mapOf hz (q z w _ C.toks .toks hvz)
theorem Sub.tup {i : Int} {l : List V} {j : Nat} {v : V} (hlo : -(2 ^ 63) ≤ i) (hhi : i < 2 ^ 63) (hj : seqIndex? i l.length = some j) (hv : l[j]? = some v) : Sub B k (.tup l) (.int i) st v := fun w s x y C hx hy => by
  obtain ⟨a, vs, rfl, ht, hr⟩ := hx.isTup C
  cases hy
  obtain ⟨z, hz, hvz⟩ := hr.get hv
  exact ⟨⟨"tuple", _, ht.typeIs, slot_tuple_getitem.lookup⟩, fun A Q E hA q => PyProof.Rows.getItem_tuple ht hlo hhi (by rw [List.size_toArray, ← hr.length]; exact hj) (by simpa using hz) (q z w s C (.refl w s) hvz)⟩
theorem Sub.lst {i : Int} {u : V} {l : List V} {j : Nat} {v : V} (hl : Lst st u l) (hlo : -(2 ^ 63) ≤ i) (hhi : i < 2 ^ 63) (hj : seqIndex? i l.length = some j) (hv : l[j]? = some v) : Sub B k u (.int i) st v := fun w s x y C hx hy => by
  obtain ⟨a, vs, n, rfl, ht, hr⟩ := hx.isLst C hl
  cases hy
  obtain ⟨z, hz, hvz⟩ := hr.get hv
  have hI := isList_of ht
  refine ⟨⟨"list", _, hI.typeIs, slot_list_getitem.lookup⟩, fun A Q E hA q => ?_⟩
  have fin := q z w s C (.refl w s) hvz
  have hn : (List.toArray vs).size = l.length := by rw [List.size_toArray, ← hr.length]
  unfold seqIndex? at hj
  by_cases h0 : 0 ≤ i
  · have e : j = i.toNat := by
      simp only [show ¬ i < 0 by omega, if_false] at hj
      split at hj <;> simp_all
    subst e
    exact wpAny_getItem_list hI h0 hhi (by simpa using hz) fin
  · have h1 : -(l.length : Int) ≤ i := by
      simp only [show i < 0 by omega, if_true] at hj
      split at hj
      · simp_all; omega
      · cases hj
    have e : j = (i + l.length).toNat := by
      simp only [show i < 0 by omega, if_true] at hj
      split at hj <;> simp_all
    subst e
    exact wpAny_getItem_list_neg hI (by omega) (by rw [hn]; exact h1) hlo (by rw [hn]; simpa using hz) fin
end
theorem mapSeq_list (f : Array Value → Array Value) (its : Array Value) (n : Nat) : ∃ n', Obj.mapSeq f (listOf its n) = listOf (f its) n' := by
  exact ⟨_, rfl⟩
theorem setItem_at {M : PySem.World} {A : Around} {E : Value → Shared → Prop} {s : Shared} {l : Addr} {items : Array Value} {ne : Nat} {k : Int} {t : Tok} {v : Value} {Q : Unit → Shared → Prop} (ho : s.heap.get? l = some (listOf items ne))
    (h0 : 0 ≤ k) (hfit : k < 2 ^ 63) (hn : k < items.size)
    (hQ : ∀ h' n', h'.get? l = some (listOf (items.setIfInBounds k.toNat v) n') → Heap.SameBut l s.heap h' → Q () { s with heap := h' }) :
    wpAny (model PG M) A (setItem (.ref l) (.int k t) v) Q E s := by
  have hl := isList_of ho
  have hd : (listOf items ne).data = .seq items ne := rfl
  unfold setItem
  try with_reducible refine wpAny_holding ?_
  first | refine wpAny_bind (wpAny_pure ?_) | skip
  refine wpAny_bind (wpAny_sequenceKey hl.typeIs (by decide) ?_)
  refine wpAny_bind (wpAny_callSpecial?_slot (name := Str.ofString "__setitem__") hl.typeIs slot_list_setitem
    (wpAny_call_entry slot_list_setitem hl.typeIs entry_list_setitem ?_ (args_list_setitem _ _ _)))
  show wpAny _ _ (Builtin.List.listSubscript? (.int k t) >>= _) _ _ s
  refine wpAny_bind (wpAny_listSubscript_int (fitsIndex_of h0 hfit) ?_)
  clear hfit
  obtain ⟨j, rfl⟩ := Int.eq_ofNat_of_zero_le h0
  have hj : j < items.size := by omega
  have hx' : items[j]? = some items[j] := Array.getElem?_eq_getElem hj
  show wpAny _ _ ((seqItemAt l j >>= fun r => pure (r.map (j, ·))) >>= _) _ _ s
  refine wpAny_bind (wpAny_bind (wpAny_seqItemAt ho hd (wpAny_pure ?_)))
  rw [hx']
  show wpAny _ _ (setSeqItemAt l j v >>= _) _ _ s
  obtain ⟨n', hd'⟩ := mapSeq_list (·.setIfInBounds j v) items ne
  have hfin : (s.heap.update l (Obj.mapSeq (·.setIfInBounds j v))).get? l = some (listOf (items.setIfInBounds j v) n') := by
    rw [Heap.get?_update_self _ ho (by rw [hd']; rfl), hd']
  refine wpAny_bind (wpAny_setSeqItemAt ho hd ?_)
  first
    | exact wpAny_bind (wpAny_pure (wpAny_pure ⟨.none, rfl, wpAny_pure (hQ _ n' hfin (Heap.SameBut.update ..))⟩))
    | exact wpAny_pure ⟨.none, rfl, wpAny_pure (hQ _ n' hfin (Heap.SameBut.update ..))⟩
section
variable {B : Bs} {k : Nat} {env : Env} {ρ : List (Str × V)} {st st₁ st₂ st₃ st' : List O} {pos : Pos}
theorem VR.atRef {w : Wd} {s : Shared} {i : Nat} {o : O} {x : Value} (C : Core B w st s) (hi : st[i]? = some o) (hd : o ≠ .dead) (h : VR w (.ref i) x) : ∃ a ob, x = .ref a ∧ w.σ[i]? = some a ∧ w.κ a = Option.none ∧ s.heap.get? a = some ob ∧ OR B w o ob := by
  cases h with
  | ref h1 =>
    obtain ⟨a, ob, h2, h3, h4, h5⟩ := C.ob i _ hi hd
    rw [h1] at h2; cases h2
    exact ⟨_, ob, rfl, h1, h3, h4, h5⟩
theorem VRs.append1 {w : Wd} {l : List V} {r : List Value} {v : V} {x : Value} (h : VRs w l r) (hv : VR w v x) : VRs w (l ++ [v]) (r ++ [x]) := h.append (.cons hv .nil)
theorem VRs.set {w : Wd} : ∀ {l : List V} {r : List Value} {v : V} {x : Value} (j : Nat), VRs w l r → VR w v x → VRs w (l.set j v) (r.set j x)
  | _, _, _, _, _, .nil, _ => .nil
  | _, _, _, _, 0, .cons _ b, hv => .cons hv b
  | _, _, _, _, j + 1, .cons a b, hv => .cons a (b.set j hv)
theorem Fn.append {i : Nat} {l : List V} {v : V} (hi : st[i]? = some (.list l)) (hl : l.length ≤ sizeLine) : Fn B k (.builtin "list.append") [.ref i, v] st .none (st.set i (.list (l ++ [v]))) := fun w s xs C r A Q E hA q => by
  cases r with
  | cons h1 h2 => cases h2 with
    | cons h2 h3 =>
      cases h3
      obtain ⟨a, ob, rfl, hσ, hκ, hg, vs, n, rfl, hv⟩ := h1.atRef C hi (fun e => by cases e)
      refine append_at hg (fun h' hs ho' => q _ w _ (C.set (tk := s.toks) (o := .list (l ++ [v])) hσ hκ hs ho' ⟨vs ++ [_], n + 1, by simp, hv.append1 h2⟩) (.set hσ hs) .none) (by rw [List.size_toArray, ← hv.length]; exact hl)
theorem Mth.append {i : Nat} {l : List V} (hi : st[i]? = some (.list l)) : Mth B k (.ref i) "append" (.builtin "list.append") st := fun w s x pl C h A Q E hA q => by
  obtain ⟨a, ob, rfl, hσ, hκ, hg, vs, n, rfl, hv⟩ := h.atRef C hi (fun e => by cases e)
  exact getMethod_list_append hg rfl rfl (q _ w s C (.refl w s) rfl)
theorem Fn.extend {i : Nat} {l m : List V} {v : V} (hi : st[i]? = some (.list l)) (hv : Lst st v m) (hl : l.length + m.length ≤ 1000) : Fn B k (.builtin "list.extend") [.ref i, v] st .none (st.set i (.list (l ++ m))) := fun w s xs C r A Q E hA q => by
  cases r with
  | cons h1 h2 => cases h2 with
    | cons h2 h3 =>
      cases h3
      obtain ⟨a, ob, rfl, hσ, hκ, hg, vs, n, rfl, hvs⟩ := h1.atRef C hi (fun e => by cases e)
      obtain ⟨b, us, n', rfl, hb, hus⟩ := h2.isLst C hv
      have e1 := hvs.length
      have e2 := hus.length
      have hz : sizeLine = 16777216 := by decide
      refine call_meets PySem.F.slot_list_extend ⟨_, hg, rfl⟩ PySem.F.entry_list_extend (PySem.F.args_list_extend_2 _ _) (AutoSeq1.list_extend_list_list_0 a vs.toArray n b us.toArray n' ?_ ?_ ?_) ⟨hg, hb, ?_⟩
      · unfold Builtin.List.listTooLong
        simp only [List.size_toArray, Bool.and_eq_true, decide_eq_true_eq, not_and]
        intro _; omega
      · rw [List.size_toArray]; omega
      · rw [List.size_toArray, List.size_toArray]; omega
      · obtain ⟨n₂, hm⟩ := mapSeq_list (fun x => x ++ us.toArray) vs.toArray n
        refine q _ w _ (C.set (tk := s.toks) (o := .list (l ++ m)) hσ hκ (Heap.SameBut.update ..) (Heap.get?_update_self _ hg (by rw [hm]; rfl)) ⟨vs ++ us, n₂, by rw [hm]; simp, hvs.append hus⟩) (.set hσ (Heap.SameBut.update ..)) .none
theorem Mth.extend {i : Nat} {l : List V} (hi : st[i]? = some (.list l)) : Mth B k (.ref i) "extend" (.builtin "list.extend") st := fun w s x pl C h A Q E hA q => by
  obtain ⟨a, ob, rfl, hσ, hκ, hg, vs, n, rfl, hv⟩ := h.atRef C hi (fun e => by cases e)
  exact getMethod_builtin ⟨_, hg, rfl⟩ PySem.F.plainAttrs_list PySem.F.slot_list_extend PySem.F.type_list_extend (fun a e => by cases e; exact ⟨_, hg, rfl⟩) (q _ w s C (.refl w s) rfl)
theorem SetI.lst {i : Nat} {j : Int} {l : List V} {v : V} (hi : st[i]? = some (.list l)) (h0 : 0 ≤ j) (hn : j < l.length) (hl : l.length ≤ 1000) : SetI B k (.ref i) (.int j) v st (st.set i (.list (l.set j.toNat v))) := fun w s x y z C h1 h2 h3 A Q E hA q => by
  obtain ⟨a, ob, rfl, hσ, hκ, hg, vs, n, rfl, hv⟩ := h1.atRef C hi (fun e => by cases e)
  cases h2
  have e1 := hv.length
  refine setItem_at hg h0 (by omega) (by rw [List.size_toArray]; omega) fun h' n' hg' hs => q () w _ (C.set (tk := s.toks) (o := .list (l.set j.toNat v)) hσ hκ hs hg' ⟨vs.set j.toNat z, n', by simp, hv.set _ h3⟩) (.set hσ hs) trivial
theorem SetI.dict {i : Nat} {j : Int} {l : List (Int × V)} {v : V} (hi : st[i]? = some (.dict l)) (hl : l.length ≤ sizeLine) : SetI B k (.ref i) (.int j) v st (st.set i (.dict (dSet l j v))) := fun w s x y z C h1 h2 h3 A Q E hA q => by
  obtain ⟨a, ob, rfl, hσ, hκ, hg, kvs, hd, hr⟩ := h1.atRef C hi (fun e => by cases e)
  refine wpAny_setItem_pairs h2.intIs (Heap.dictOf_iff.mpr ⟨ob, hg, hd⟩) (fun h' hd' hs => ?_) (by rw [← hr.length]; exact hl)
  obtain ⟨ob', hg', hd''⟩ := Heap.dictOf_iff.mp hd'
  exact q () w _ (C.set (tk := s.toks + 1) (o := .dict (dSet l j v)) hσ hκ hs hg' ⟨_, hd'', hr.stored h3⟩) (.set hσ hs) trivial
theorem Mth.dic {name : Str} {id : String} {v : V} {l : List (Int × V)} (hv : Dic st v l) (slot : Slot "dict" name id) (hty : typeOf (.builtin id) = pure (.type "method_descriptor")) : Mth B k v name (.builtin id) st := fun w s x pl C h A Q E hA q => by
  obtain ⟨a, kvs, rfl, hd, hr, hm⟩ := h.isDic C hv
  exact getMethod_builtin hd.mapOf.typeIs PySem.F.plainAttrs_dict slot hty hd.mapOf.noDict (q _ w s C (.refl w s) rfl)
theorem Mth.get {v : V} {l : List (Int × V)} (hv : Dic st v l) : Mth B k v "get" (.builtin "dict.get") st := .dic hv PySem.F.slot_dict_get PySem.F.type_dict_get
theorem Mth.setdefault {v : V} {l : List (Int × V)} (hv : Dic st v l) : Mth B k v "setdefault" (.builtin "dict.setdefault") st := .dic hv PySem.F.slot_dict_setdefault PySem.F.type_dict_setdefault
theorem Fn.get {i : Int} {u d v : V} {l : List (Int × V)} (hu : Dic st u l) (hv : (dGet l i).getD d = v) : Fn B k (.builtin "dict.get") [u, .int i, d] st v st := fun w s xs C r A Q E hA q => by
  cases r with
  | cons h1 h2 => cases h2 with
    | cons h2 h3 => cases h3 with
      | cons h3 h4 =>
        cases h4
        obtain ⟨a, kvs, rfl, hd, hr, hm⟩ := h1.isDic C hu
        refine call_meetsIn PySem.F.slot_dict_get hd.mapOf.typeIs PySem.F.entry_dict_get (PySem.F.args_dict_get_3 _ _ _) (meets_dict_get_default (intKind PG B.w) a h2.intIs hm _) ⟨_, hd.mapOf, q _ w _ C.toks .toks ?_⟩
        subst hv
        cases g : dGet l i with
        | none => rw [hr.at.2 g]; exact h3
        | some v => obtain ⟨x, hx, hvx⟩ := hr.at.1 v g; rw [hx]; exact hvx
theorem Fn.setdefault {i : Nat} {j : Int} {d v : V} {l : List (Int × V)} (hi : st[i]? = some (.dict l)) (hl : l.length ≤ sizeLine) (h : (dGet l j = some v ∧ st' = st) ∨ (dGet l j = Option.none ∧ v = d ∧ st' = st.set i (.dict (dSet l j d)))) :
    Fn B k (.builtin "dict.setdefault") [.ref i, .int j, d] st v st' := fun w s xs C r A Q E hA q => by
  cases r with
  | cons h1 h2 => cases h2 with
    | cons h2 h3 => cases h3 with
      | cons h3 h4 =>
        cases h4
        obtain ⟨a, ob, rfl, hσ, hκ, hg, kvs, hd, hr⟩ := h1.atRef C hi (fun e => by cases e)
        have hD : s.heap.DictOf (intKind PG B.w) a kvs := Heap.dictOf_iff.mpr ⟨ob, hg, hd⟩
        refine call_meetsIn PySem.F.slot_dict_setdefault hD.mapOf.typeIs PySem.F.entry_dict_setdefault (PySem.F.args_dict_setdefault_3 _ _ _) (kt_meets_setdefault (intKind PG B.w) a h2.intIs (C.low _ (List.mem_of_getElem? hσ)).2.2 _)
          ⟨kvs, hD, by rw [← hr.length]; exact hl, fun z hz => ?_, fun hn h' hd' hs => ?_⟩
        · rcases h with ⟨h, rfl⟩ | ⟨h, _, _⟩
          · obtain ⟨x, hx, hvx⟩ := hr.at.1 v h
            rw [hx] at hz; cases hz
            exact q _ w _ C.toks .toks hvx
          · rw [hr.at.2 h] at hz; cases hz
        · rcases h with ⟨h, _⟩ | ⟨h, rfl, rfl⟩
          · obtain ⟨x, hx, hvx⟩ := hr.at.1 v h
            rw [hx] at hn; cases hn
          · obtain ⟨ob', hg', hd''⟩ := Heap.dictOf_iff.mp hd'
            exact q _ w _ (C.set (tk := s.toks + 1) (o := .dict (dSet l j v)) hσ hκ hs hg' ⟨_, hd'', hr.stored h3⟩) (.set hσ hs) h3
theorem Iters.dict {l : List (Int × V)} : Iters B k (fun _ => True) (.dict l) (l.map fun kv => .int kv.1) st := fun w s x C hv A Q E hA q => by
  cases hv with
  | @dict _ a es ep h1 h2 h3 h4 =>
    obtain ⟨kvs, e1, e2, e3⟩ := h2.drs (M := B.w)
    have mk : ∀ h : Heap, h.get? a = some (dictOf es ep) → h.DictAt (intKind PG B.w) a kvs ep := fun h e => ⟨_, _, e, ⟨rfl, rfl, rfl⟩, rfl, fun e he => e3 e (by simpa using he), e2, e1.keys ▸ h3⟩
    have hlen := e1.length
    have K : ∀ I, ItK B (fun _ => True) (l.map fun kv => .int kv.1) I (fun i h => h.IsKeyIter I a i kvs.length ep) (fun w => w.κ a = some (dictOf es ep)) := fun I =>
      { at_ := fun i h h' e q => e.at q
        kn := fun w w' h L => L.κ _ _ h
        item := fun i w s st u A Q E C _ hκ j1 j2 hit hx q => by
          rw [List.getElem?_map, Option.map_eq_some_iff] at hx
          obtain ⟨⟨j, v⟩, hj, rfl⟩ := hx
          have hk : kvs[i]?.map (·.1) = some j := by rw [← List.getElem?_map, ← e1.keys, List.getElem?_map, hj]; rfl
          obtain ⟨⟨j', y⟩, hj', rfl⟩ := Option.map_eq_some_iff.mp hk
          refine wpAny_pyNext_dict_item hit (mk _ (C.kp _ _ hκ)) hj' fun key h' hkey hit' hs => ?_
          obtain ⟨t, rfl⟩ := Value.isInt_shape hkey
          exact q _ h' s.toks (.int _ _) hit' hs
        fin := fun i w s st A Q E hh C _ hκ j1 j2 hit hx q => by
          simp only [List.length_map] at hx
          exact wpAny_pyNext_dict_end hh hit (mk _ (C.kp _ _ hκ)) (List.getElem?_eq_none (hlen ▸ hx)) q
        self := fun i s A Q E hit q => wpAny_pyIter_keyiter hit q
        go := fun i t x s A Q E hit q => letGo_keyiter hit q }
    refine wpAny_pyIter_dict h4 (mk _ (C.kp _ _ h1)) ?_
    have hz : s.heap.objs.size ≤ (s.heap.push { cls := .type "dict_keyiterator", data := .fields #[.ref a, .int 0 0, .int kvs.length 0, .int ep 0] }).objs.size := by rw [Heap.size_push]; exact Nat.le_succ _
    have hk : ∀ b o, s.heap.get? b = some o → (s.heap.push { cls := .type "dict_keyiterator", data := .fields #[.ref a, .int 0 0, .int kvs.length 0, .int ep 0] }).get? b = some o := fun a o e => Heap.get?_push_of_some _ e
    have C₁ := C.grow (tk := s.toks) hz hk
    have S₁ := Step.grow (X := NoX) (tk := s.toks) C hz hk
    obtain ⟨f1, f2, f3⟩ := fresh_none C (Nat.le_refl s.heap.objs.size)
    exact q _ _ _ C₁ S₁ ((K _).its (Nat.le_refl _) (by show s.heap.objs.size < (s.heap.push _).objs.size; rw [Heap.size_push]; exact Nat.lt_succ_self _) f1 f2 f3 h1 ⟨_, Heap.get?_push_size _ rfl, rfl, rfl⟩)
end
noncomputable def V.ng : V → Bool
  | .glob _ => false
  | _ => true
theorem VR.handed {w : Wd} {v : V} {x : Value} (h : VR w v x) (g : v.ng = true) : handedIn x = true := by cases h <;> first | rfl | cases g
theorem ERs.at {w : Wd} {nm : Str} : ∀ {fs : List (Str × V)} {es : List DictEntry}, ERs w fs es → (∀ v, fs.lookup nm = some v → ∃ x, getL nm es = some (some x) ∧ VR w v x) ∧ (fs.lookup nm = none → getL nm es = some none)
  | _, _, .nil => ⟨(fun v h => nomatch h), fun _ => rfl⟩
  | _, _, .cons (nm := y) (t := t) (x := x) (v := u) (l := l) (r := r) (h := hh) a b => by
    obtain ⟨h1, h2⟩ := b.at (nm := nm)
    unfold getL at h1 h2 ⊢
    rw [List.find?_cons, List.lookup_cons]
    have e : (⟨hh, .str y t, x⟩ : DictEntry).key.isStr nm = (nm == y) := by show (y == nm) = (nm == y); exact Bool.beq_comm
    rw [e]
    have e2 : ∀ es : List DictEntry, (⟨hh, .str y t, x⟩ :: es).any (·.refKey) = es.any (·.refKey) := fun es => by rw [List.any_cons]; show (false || _) = _; rfl
    rw [e2]
    cases nm == y with
    | true => exact ⟨fun v h => by cases h; exact ⟨x, rfl, a⟩, fun h => by cases h⟩
    | false => exact ⟨h1, h2⟩
theorem ERs.put {w : Wd} {nm : Str} {v : V} {x : Value} {hsh : Int} {t : Tok} (hv : VR w v x) : ∀ {fs : List (Str × V)} {es : List DictEntry}, ERs w fs es → ERs w (upd fs nm v) (putL nm hsh (.str nm t) x es)
  | _, _, .nil => .cons hv .nil
  | _, _, .cons (nm := y) (t := t') (x := z) (v := u) (l := l) (r := r) (h := hh) a b => by
    unfold upd putL
    have e : (⟨hh, .str y t', z⟩ : DictEntry).key.isStr nm = (nm == y) := by show (y == nm) = (nm == y); exact Bool.beq_comm
    rw [e]
    cases nm == y with
    | true => exact .cons hv b
    | false => exact .cons a (b.put hv)
theorem ERs.length {w : Wd} : ∀ {fs : List (Str × V)} {es : List DictEntry}, ERs w fs es → fs.length = es.length
  | _, _, .nil => rfl
  | _, _, .cons _ b => congrArg (· + 1) b.length
theorem upd_length (x : Str) (v : V) : ∀ ρ : List (Str × V), (upd ρ x v).length ≤ ρ.length + 1
  | [] => Nat.le_refl _
  | (y, u) :: r => by
    unfold upd
    split
    · simp
    · have := upd_length x v r; simp only [List.length_cons]; omega
section
variable {B : Bs} {k : Nat} {env : Env} {ρ : List (Str × V)} {st st₁ st₂ st₃ st' : List O} {pos : Pos}
/-- the object that a value denotes -/
noncomputable def Ins (st : List O) (v : V) (C : Addr) (fs : List (Str × V)) : Prop := v = .inst C fs ∨ ∃ i d : Nat, v = .ref i ∧ st[i]? = some (.inst C d) ∧ st[d]? = some (.attrs fs)
theorem VR.isIns {w : Wd} {s : Shared} {fs : List (Str × V)} {C : Addr} {v : V} {x : Value} (K : Core B w st s) (hl : Ins st v C fs) (h : VR w v x) : ∃ a dx es n, x = .ref a ∧ InstAt s.heap a (instObj C dx) C (some (dictOf es n)) ∧ ERs w fs es := by
  rcases hl with rfl | ⟨i, d, rfl, hi, hd⟩
  · cases h with
    | inst h1 h2 h3 => exact ⟨_, _, _, _, rfl, ⟨K.kp _ _ h1, rfl, rfl, K.kp _ _ h2⟩, h3⟩
  · obtain ⟨a, ob, rfl, hσ, hκ, hg, dx, hdx, rfl⟩ := h.atRef K hi (fun e => by cases e)
    obtain ⟨dx', ob', e1, e2, e3, es, n, rfl, e4⟩ := K.ob d _ hd (fun e => by cases e)
    rw [hdx] at e1; cases e1
    exact ⟨a, dx, es, n, rfl, ⟨hg, rfl, rfl, e3⟩, e4⟩
/-- of a class: how its instances' names are read and stored -/
structure AttrOk (B : Bs) (C : Addr) (name : Str) : Prop where
  get : plainGet B.K C name = true
  dict : hasDictIn B.K C = true
  own : ∃ attr, findIn B.K (.ref C) name = some attr ∧ noGet B.K attr = true
theorem Ev.attr {o : Expr} {name : Str} {ov v : V} {C : Addr} {fs : List (Str × V)} (h : Ev B k env o ρ st ov st₁) (hi : Ins st₁ ov C fs) (hl : fs.lookup name = some v) (hv : v.ng = true) (K : AttrOk B C name)
    (he : eval (.Attribute o name pos) env = (do
      let x ← eval o env
      standAt pos.atName
      let r ← holding [x] (getAttr x name true)
      letTemporaryGo o x r
      pure r)) : Ev B k env (.Attribute o name pos) ρ st v st₁ := fun w s C F A Q E hA q =>
  Attribute_any_ (h w s C F A _ E hA fun x w₁ s₁ C₁ S₁ r₁ => by
    obtain ⟨a, dx, es, n, rfl, I, er⟩ := r₁.isIns C₁ hi
    obtain ⟨attr, h1, h2⟩ := K.own
    obtain ⟨y, hy, hvy⟩ := er.at.1 v hl
    exact get_value (B.X.keeps C₁.base) I (plainGet_of K.get).1 (findObj_own K.dict h1 h2 (by rw [lookIn_dict]; exact hy)) (hvy.handed hv) (q y w₁ _ C₁.toks (S₁.trans C .toks) hvy)) he
structure MethOk (B : Bs) (C : Addr) (name : Str) (f : Addr) : Prop where
  get : plainGet B.K C name = true
  find : findIn B.K (.ref C) name = some (some (.ref f))
  fn : isFn B.K (.ref f) = true
theorem Mth.fn {name : Str} {ov : V} {C f : Addr} {fs : List (Str × V)} (hi : Ins st ov C fs) (hl : fs.lookup name = Option.none) (K : MethOk B C name f) : Mth B k ov name (.ref f) st := fun w s x pl C h A Q E hA q => by
  obtain ⟨a, dx, es, n, rfl, I, er⟩ := h.isIns C hi
  exact method_fn (B.X.keeps C.base) I (plainGet_of K.get).1 (plainGet_of K.get).2 K.find (beq_iff_eq.mp K.fn) (by show (lookIn name (dictOf es n)).map _ = _; rw [lookIn_dict, er.at.2 hl]; rfl) (q _ w s C (.refl w s) rfl)
structure StoOk (B : Bs) (C : Addr) (name : Str) : Prop where
  set : findIn B.K (.ref C) "__setattr__" = some (some (.builtin "object.__setattr__"))
  over : plainOver B.K C = true
  taker : takerIn B.K C name = some none
  dict : (clsIn B.K C).any (·.hasDict) = true
theorem SetA.inst {i d : Nat} {name : Str} {C : Addr} {fs : List (Str × V)} {v : V} (hi : st[i]? = some (.inst C d)) (hd : st[d]? = some (.attrs fs)) (hl : fs.length < 900) (K : StoOk B C name) :
    SetA B k name (.ref i) v st (st.set d (.attrs (upd fs name v))) := fun w s x y C₀ h1 h2 A Q E hA q => by
  obtain ⟨a, ob, rfl, hσ, hκ, hg, dx, hdx, rfl⟩ := h1.atRef C₀ hi (fun e => by cases e)
  obtain ⟨dx', ob', e1, e2, e3, es, n, rfl, e4⟩ := C₀.ob d _ hd (fun e => by cases e)
  rw [hdx] at e1; cases e1
  have I : InstAt s.heap a (instObj C dx) C (some (dictOf es n)) := ⟨hg, rfl, rfl, e3⟩
  have X := B.X.keeps C₀.base
  have hz : es.length < 900 := e4.length ▸ hl
  refine set_plain X I K.set (osa_open (s := { s with toks := s.toks + 1 }) X I K.over K.taker fun b => ?_)
  obtain ⟨cd, hc, hd'⟩ := any_some K.dict
  refine wpAny_bind (wpAny_pure (wpAny_bind (wpAny_bind (wpAny_loadPart hg (wpAny_bind ((looks_clsIn X hc) _ _ _ _ (fun _ _ e => e) ?_))))))
  rw [hd']
  refine wpAny_pure (a := some dx) (wpAny_bind (wpAny_pure (wpAny_bind ?_)))
  unfold nsSet
  refine wpAny_bind (wpAny_bind (wpAny_askSetting (wpAny_pure (wpAny_bind (wpAny_mkText (wpAny_bind (wpAny_loadPart e3 ?_)))))))
  have hr : ∀ {fs : List (Str × V)} {es : List DictEntry}, ERs w fs es → es.any (·.refKey) = false := by
    intro fs es h
    induction es generalizing fs with
    | nil => rfl
    | cons e es ih => cases h with
      | cons _ b => rw [List.any_cons, ih b]; rfl
  have c : (!(es.toArray).any (·.key.isStr name) && (es.toArray).any (·.refKey)) = false := by
    rw [List.any_toArray, List.any_toArray, hr e4, Bool.and_false]
  dsimp only
  rw [aRefKeyMayBeTheName_at, c]
  have hp := putName_dict name (PyData.keyHash B.w.params name) (.str name (s.toks + 1)) y es n
  have hput : ∀ (x : DictEntry) (l : List DictEntry), (putL name (PyData.keyHash B.w.params name) (.str name (s.toks + 1)) y l).length ≤ l.length + 1 := by
    intro x l
    induction l with
    | nil => exact Nat.le_refl _
    | cons e l ih => unfold putL; split <;> simp only [List.length_cons] <;> omega
  have hlen : (putL name (PyData.keyHash B.w.params name) (.str name (s.toks + 1)) y es).length ≤ 1000 := by
    have := hput ⟨0, .none, .none⟩ es; omega
  have D' := Heap.get?_update_self (f := Obj.putName name (PyData.keyHash B.w.params name) (.str name (s.toks + 1)) y) (h := s.heap) e3 (by rw [hp]; rfl)
  refine wpAny_updatePart e3 ?_
  refine wpAny_bind (wpAny_lookBehind D' (by rw [hp]; exact pastItsLine_dict (by rw [List.size_toArray, sizeLine_eq]; omega)) ?_)
  refine wpAny_pure ?_
  exact q () w _ (C₀.set (tk := s.toks + 1 + 1) (o := .attrs (upd fs name v)) hdx e2 (Heap.SameBut.update ..) D' ⟨_, _, hp, e4.put h2⟩) (.set hdx (Heap.SameBut.update ..)) trivial
structure MakeOk (B : Bs) (C fI : Addr) : Prop where
  makes : makesIn B.K C = true
  init : findIn B.K (.ref C) "__init__" = some (some (.ref fI))
  fn : typeIn B.K (.ref fI) = some (.type "function")
theorem FnC.make {C fI : Addr} {vs : List V} (K : MakeOk B C fI) (h : FnC B k (.ref fI) (.ref (st.length + 1) :: vs) (st ++ [.attrs []] ++ [.inst C st.length]) .none st') : FnC B (k + 1) (.ref C) vs st (.ref (st.length + 1)) st' := fun w s xs C₀ r A R hA q => by
  obtain ⟨hh, g, d, t, os⟩ := s
  have X := B.X.keeps C₀.base
  refine make_core (makes_of X K.makes) (looks_findIn X K.init) (fun self => bind_fn X self K.fn) (.inl rfl) ?_
  have go := C₀.newest (A := A) (E := fun _ _ => True) (ob := emptyDict) (o := .attrs []) (tk := t) rfl (fun w' L => ⟨[], 0, rfl, .nil⟩) (Q := fun v s₁ => ∃ w₁, v = .ref hh.objs.size ∧ s₁ = ⟨hh.push emptyDict, g, d, t, os⟩ ∧ Core B w₁ (st ++ [.attrs []]) s₁ ∧ Step NoX w ⟨hh, g, d, t, os⟩ w₁ s₁ ∧ VR w₁ (.ref st.length) v)
    fun w₁ s₁ C₁ S₁ r₁ e => ⟨w₁, rfl, e, C₁, S₁, r₁⟩
  obtain ⟨w₁, _, _, C₁, S₁, r₁⟩ := go
  have hσ : w₁.σ[st.length]? = some hh.objs.size := by cases r₁ with | ref h => exact h
  have go := C₁.newest (A := A) (E := fun _ _ => True) (ob := instObj C hh.objs.size) (o := .inst C st.length) (tk := t) rfl (fun w' L => ⟨_, L.σ _ _ hσ, rfl⟩) (Q := fun v s₂ => ∃ w₂, v = .ref (hh.push emptyDict).objs.size ∧ s₂ = ⟨(hh.push emptyDict).push (instObj C hh.objs.size), g, d, t, os⟩ ∧ Core B w₂ (st ++ [.attrs []] ++ [.inst C st.length]) s₂ ∧ Step NoX w₁ ⟨hh.push emptyDict, g, d, t, os⟩ w₂ s₂ ∧ VR w₂ (.ref (st ++ [O.attrs []]).length) v)
    fun w₁ s₁ C₁ S₁ r₁ e => ⟨w₁, rfl, e, C₁, S₁, r₁⟩
  obtain ⟨w₂, _, _, C₂, S₂, r₂⟩ := go
  rw [Heap.size_push, List.length_append, List.length_singleton] at r₂
  have SS := S₁.trans C₀ S₂
  refine h w₂ _ _ C₂ (.cons r₂ (r.mono SS.toLe)) _ _ ?_ fun x w' s' C' S' r' => ?_
  · have h1 := hA.depth
    have h2 := hA.units
    refine ⟨?_, ?_, hA.handled⟩
    · show A.depth + 1 + _ + _ < _; omega
    · have e : (Code.builtin "type.__call__" ⟨.ref C :: xs, []⟩).cUnits ≤ 7 := Nat.le_of_ble_eq_true rfl
      show A.units + (Code.builtin "type.__call__" ⟨.ref C :: xs, []⟩).cUnits + _ + _ < _; omega
  · cases r'
    exact ⟨rfl, q _ w' s' C' (SS.trans C₀ S') (r₂.mono S'.toLe)⟩
end
theorem sliceApplied_rev {M : PySem.World} {A : Around} {E : Value → Shared → Prop} {s : Shared} {sl : Addr} {n : Nat} {u : Tok} {Q : Int × Int × Nat → Shared → Prop} (hs : s.heap.IsSliceOf sl .none .none (.int (-1) u)) (h : Q ((n : Int) - 1, -1, n) s) :
    wpAny (model PG M) A (Builtin.Slice.sliceApplied (.ref sl) (pure (n : Int))) Q E s := by
  obtain ⟨os, hos, hcs, hds⟩ := id hs
  unfold Builtin.Slice.sliceApplied Builtin.Slice.sliceFields
  refine wpAny_bind (wpAny_bind (wpAny_field hos hds (x := .none) rfl (wpAny_bind (wpAny_field hos hds (x := .none) rfl (wpAny_bind (wpAny_field hos hds (x := .int (-1) u) rfl (wpAny_pure ?_)))))))
  refine wpAny_bind (slicePart_int ?_)
  show wpAny _ _ (if ((-1 : Int) == 0) = true then _ else _) _ _ s
  rw [if_neg (by decide)]
  refine wpAny_bind (slicePart_none (wpAny_bind (slicePart_none (wpAny_bind (wpAny_pure ?_)))))
  show wpAny _ _ (pure ((n : Int) - 1, (-1 : Int), Builtin.Slice.slicePlaces ((n : Int) - 1) (-1) (-1))) _ _ s
  have e : Builtin.Slice.slicePlaces ((n : Int) - 1) (-1) (-1) = n := by
    unfold Builtin.Slice.slicePlaces
    rw [if_neg (by decide)]
    have : -(-1 : Int) = 1 := by decide
    rw [this]
    split <;> (try simp only [Int.ediv_one]) <;> omega
  rw [e]
  exact wpAny_pure h
theorem pick_rev (xs : Array Value) : ((List.range xs.size).filterMap fun (k : Nat) => xs[(((xs.size : Nat) : Int) - 1 + (k : Int) * (-1)).toNat]?).toArray = xs.toList.reverse.toArray := by
  congr 1
  apply List.ext_getElem?
  intro i
  have e : ∀ l : List Nat, (∀ k ∈ l, k < xs.size) → l.filterMap (fun (k : Nat) => xs[(((xs.size : Nat) : Int) - 1 + (k : Int) * (-1)).toNat]?) = l.map fun k => xs.toList.getD (xs.size - 1 - k) .none := by
    intro l hl
    induction l with
    | nil => rfl
    | cons k l ih =>
      have hk := hl k (.head _)
      have e1 : ((((xs.size : Nat) : Int) - 1 + (k : Int) * (-1)).toNat) = xs.size - 1 - k := by omega
      have hlt : xs.size - 1 - k < xs.size := by omega
      rw [List.filterMap_cons, e1, Array.getElem?_eq_getElem hlt]
      simp only [List.map_cons]
      rw [ih fun k hk => hl k (.tail _ hk)]
      congr 1
      rw [List.getD_eq_getElem?_getD, Array.getElem?_toList, Array.getElem?_eq_getElem hlt]; rfl
  rw [e _ fun k hk => List.mem_range.mp hk, List.getElem?_map]
  by_cases hi : i < xs.size
  · rw [List.getElem?_range hi, List.getElem?_reverse (by simpa using hi)]
    simp only [Option.map_some, Array.length_toList]
    rw [List.getD_eq_getElem?_getD]
    have hlt : xs.size - 1 - i < xs.size := by omega
    rw [Array.getElem?_toList, Array.getElem?_eq_getElem hlt]; rfl
  · rw [List.getElem?_eq_none (by simpa using hi), List.getElem?_eq_none (by simpa using hi)]; rfl
theorem getItem_tuple_rev {M : PySem.World} {A : Around} {E : Value → Shared → Prop} {s : Shared} {t sl : Addr} {items : Array Value} {u : Tok} {Q : Value → Shared → Prop} (ht : IsTup s.heap t items) (hs : s.heap.IsSliceOf sl .none .none (.int (-1) u))
    (h : Q (.ref s.heap.objs.size) { s with heap := s.heap.push { cls := .type "tuple", data := .seq items.toList.reverse.toArray } })
    (hsz : items.size ≤ sizeLine) (h0 : 0 < items.size) : wpAny (model PG M) A (getItem (.ref t) (.ref sl)) Q E s := by
  have hdrop : sizeOk (.seq items.toList.reverse.toArray) := by
    show items.toList.reverse.toArray.size ≤ sizeLine
    rw [List.size_toArray, List.length_reverse, Array.length_toList]
    omega
  obtain ⟨os, hos, hcs, hds⟩ := id hs
  have hTs : s.TypeIs (.ref sl) "slice" := ⟨os, hos, hcs⟩
  unfold getItem
  try with_reducible refine wpAny_holding ?_
  first | refine wpAny_bind (wpAny_pure ?_) | skip
  refine wpAny_bind (wpAny_sequenceKey ht.typeIs (by decide) ?_)
  refine wpAny_bind (wpAny_callSpecial?_slot (name := Str.ofString "__getitem__") ht.typeIs slot_tuple_getitem
    (wpAny_call_entry slot_tuple_getitem ht.typeIs entry_tuple_getitem ?_ (args_tuple_getitem _ _)))
  show wpAny _ _ (Builtin.Tuple.tupleItemsOf (.ref t) >>= _) _ _ s
  refine wpAny_bind (tupleItemsOf_ ht ?_)
  refine wpAny_bind (wpAny_typeOf hTs ?_)
  rw [if_pos (by decide)]
  refine wpAny_bind (sliceApplied_rev hs ?_)
  have hno : ¬ ((((items.size : Nat) : Int) - 1 == 0 && (-1 : Int) == 1 && items.size == items.size) = true) := by
    have : ((-1 : Int) == 1) = false := by decide
    rw [this]; simp
  show wpAny _ _ (if (((items.size : Nat) : Int) - 1 == 0 && (-1 : Int) == 1 && items.size == items.size) = true then _ else _) _ _ s
  rw [if_neg hno, pick_rev items]
  first
    | exact wpAny_bind (m := Builtin.Tuple.tupleExact _) (wpAny_newObj_type (wpAny_pure ⟨_, rfl, wpAny_pure h⟩) hdrop)
    | exact wpAny_bind (m := Builtin.Tuple.tupleExact _) (wpAny_newObj_type (wpAny_bind (wpAny_pure (wpAny_pure ⟨_, rfl, wpAny_pure h⟩))) hdrop)
    | exact wpAny_bind (wpAny_bind (m := Builtin.Tuple.tupleExact _) (wpAny_newObj_type (wpAny_pure (wpAny_pure ⟨_, rfl, wpAny_pure h⟩)) hdrop))
    | exact wpAny_bind (wpAny_bind (m := Builtin.Tuple.tupleExact _) (wpAny_newObj_type (wpAny_pure ⟨_, rfl, wpAny_pure h⟩) hdrop))
section
variable {B : Bs} {k : Nat} {env : Env} {ρ : List (Str × V)} {st st₁ st₂ st₃ st' : List O} {pos : Pos}
theorem Tr.ev {e : Expr} {b : Bool} (h : Ev B k env e ρ st (.bool b) st₁) (he : ∀ whole, isTrue e env whole = (do let v ← whole; standAt e.pos; holding [v] (truthy v))) : Tr B k env e ρ st b st₁ := fun w s C F A Q E hA q =>
  wpAny_isTrue_value (h w s C F A _ E hA fun x w₁ s₁ C₁ S₁ r₁ => by cases r₁; exact wpAny_truthy_bool (q _ w₁ s₁ C₁ S₁ rfl)) (he _)
theorem Tr.and2 {x y : Expr} {b c : Bool} (h : Tr B k env x ρ st b st₁) (h1 : b = true → Tr B k env y ρ st₁ c st') (h2 : b = false → c = false ∧ st' = st₁) : Tr B k env (.BoolOp .And [x, y] pos) ρ st c st' := fun w s C F A Q E hA q =>
  wpAny_isTrue_BoolOp (wpAny_allTrue_And_cons (h w s C F A _ E hA fun b' w₁ s₁ C₁ S₁ r₁ => by
    subst r₁
    cases b' with
    | true => exact wpAny_allTrue_And_cons (h1 rfl w₁ s₁ C₁ (F.stepN S₁) A _ E hA fun c' w₂ s₂ C₂ S₂ r₂ => by
        subst r₂
        cases c' with
        | true => exact wpAny_allTrue_And_nil (q _ w₂ s₂ C₂ (S₁.trans C S₂) rfl)
        | false => exact q _ w₂ s₂ C₂ (S₁.trans C S₂) rfl)
    | false => obtain ⟨rfl, rfl⟩ := h2 rfl; exact q _ w₁ s₁ C₁ S₁ rfl))
theorem Tr.or2 {x y : Expr} {b c : Bool} (h : Tr B k env x ρ st b st₁) (h1 : b = false → Tr B k env y ρ st₁ c st') (h2 : b = true → c = true ∧ st' = st₁) : Tr B k env (.BoolOp .Or [x, y] pos) ρ st c st' := fun w s C F A Q E hA q =>
  isTrue_or (h w s C F A _ E hA fun b' w₁ s₁ C₁ S₁ r₁ => by
    subst r₁
    cases b' with
    | false => exact isTrue_or (h1 rfl w₁ s₁ C₁ (F.stepN S₁) A _ E hA fun c' w₂ s₂ C₂ S₂ r₂ => by
        subst r₂
        cases c' with
        | true => exact q _ w₂ s₂ C₂ (S₁.trans C S₂) rfl
        | false => exact isTrue_or_nil (q _ w₂ s₂ C₂ (S₁.trans C S₂) rfl))
    | true => obtain ⟨rfl, rfl⟩ := h2 rfl; exact q _ w₁ s₁ C₁ S₁ rfl)
/-- x or y, when x is true -/
theorem Ev.or2 {x y : Expr} (h : Ev B k env x ρ st (.bool true) st₁) : Ev B k env (.BoolOp .Or [x, y] pos) ρ st (.bool true) st₁ := fun w s C F A Q E hA q =>
  wpAny_Or2 (h w s C F A _ E hA fun v w₁ s₁ C₁ S₁ r₁ => by cases r₁; exact wpAny_truthy_bool (q _ w₁ s₁ C₁ S₁ (.bool _)))
theorem Op2.isNotNone {v : V} (h : v = .none ∨ (∃ C fs, v = .inst C fs) ∨ ∃ i, v = .ref i) : Op2 B k (compareOp .IsNot) v .none st (.bool (match v with | .none => false | _ => true)) := fun w s x y C hx hy A Q E hA q => by
  cases hy
  rcases h with rfl | ⟨D, fs, rfl⟩ | ⟨i, rfl⟩
  · cases hx; exact wpAny_isNot_self rfl (q _ w s C (.refl w s) (.bool _))
  · cases hx; exact wpAny_isNot_plain rfl (q _ w s C (.refl w s) (.bool _))
  · cases hx; exact wpAny_isNot_plain rfl (q _ w s C (.refl w s) (.bool _))
theorem Op2.neBool {a b : Bool} : Op2 B k (compareOp .NotEq) (.bool a) (.bool b) st (.bool (a != b)) := fun w s x y C hx hy A Q E hA q => by
  cases hx; cases hy
  exact PySem.EqBoolInt.of_rcne (SeqAt.RcNeAt.bool_bool a b) (by have : (!(a == b)) = (a != b) := rfl; rw [this]; exact q _ w s C (.refl w s) (.bool _))
theorem VR.readsPair {w : Wd} {s : Shared} {a b : Int} {x : Value} (C : Core B w st s) (h : VR w (.tup [.int a, .int b]) x) : Reads s.heap x (.tuple [.int a, .int b]) [] := by
  obtain ⟨t, vs, rfl, ⟨o, ho, hc, n, hd⟩, hv⟩ := h.isTup C
  refine .tuple ho hc hd ?_
  cases hv with
  | cons h1 h2 => cases h1; cases h2 with
    | cons h2 h3 => cases h2; cases h3; exact .cons (.int _ _) (.cons (.int _ _) .nil)
theorem Op2.nePair {a b c d : Int} : Op2 B k (compareOp .NotEq) (.tup [.int a, .int b]) (.tup [.int c, .int d]) st (.bool (!(a == c && b == d))) := fun w s x y C hx hy A Q E hA q => by
  refine ne_dataH (hx.readsPair C) (hy.readsPair C) rfl rfl (by have := hA.units; show A.units + 64 < 9900; omega) ?_
  have : PyData.eqv (.tuple [.int a, .int b]) (.tuple [.int c, .int d]) = (a == c && b == d) := by simp [PyData.eqv, PyData.eqvAll]
  rw [this]; exact q _ w s C (.refl w s) (.bool _)
theorem Op2.eqPair {a b c d : Int} : Op2 B k (compareOp .Eq) (.tup [.int a, .int b]) (.tup [.int c, .int d]) st (.bool (a == c && b == d)) := fun w s x y C hx hy A Q E hA q => by
  refine eq_dataH (hx.readsPair C) (hy.readsPair C) rfl rfl (by have := hA.units; show A.units + 64 < 9900; omega) ?_
  have : PyData.eqv (.tuple [.int a, .int b]) (.tuple [.int c, .int d]) = (a == c && b == d) := by simp [PyData.eqv, PyData.eqvAll]
  rw [this]; exact q _ w s C (.refl w s) (.bool _)
/-- t[n:] of a tuple -/
theorem Ev.from {value : Expr} {l : List V} {i : Int} {n c : Nat} {p p₂ : Pos} (hi : i = (n : Int)) (ho : Ev B k env value ρ st (.tup l) st₁) (h1 : 1 ≤ n) (hn : n ≤ l.length) (hl : l.length ≤ sizeLine) :
    Ev B k env (.Subscript value (.Slice (some (.Constant (.int i) c p)) Option.none Option.none p₂) pos) ρ st (.tup (l.drop n)) st₁ := fun w s C F A Q E hA q => by
  subst hi
  rw [eval_Subscript]
  refine wpAny_bind (ho w s C F A _ E hA fun x w₁ s₁ C₁ S₁ r₁ => wpAny_bind (wpAny_holding (wpAny_Slice ?_)))
  rw [evalPart_some, evalPart_none]
  refine wpAny_Constant_int (wpAny_pure (wpAny_pure (wpAny_bind (wpAny_standAt ?_))))
  obtain ⟨a, vs, rfl, ht, hr⟩ := r₁.isTup C₁
  have hz : s₁.heap.objs.size ≤ (s₁.heap.push { cls := .type "slice", data := .fields #[.int n s₁.toks, .none, .none] }).objs.size := by rw [Heap.size_push]; exact Nat.le_succ _
  have hk : ∀ b o, s₁.heap.get? b = some o → (s₁.heap.push { cls := .type "slice", data := .fields #[.int n s₁.toks, .none, .none] }).get? b = some o := fun a o e => Heap.get?_push_of_some _ e
  have C₂ := C₁.grow (tk := s₁.toks + 1) hz hk
  have S₂ := Step.grow (X := NoX) (tk := s₁.toks + 1) C₁ hz hk
  have ht' := ht.keeps hk
  have hlen : (List.toArray vs).size = l.length := by rw [List.size_toArray, ← hr.length]
  refine tail_any (T := "tuple") ht'.typeIs slot_tuple_getitem.lookup (getItem_tuple_from ht' (Heap.IsSliceOf.new ..) h1 (by rw [hlen]; exact hn) ?_ (by rw [hlen]; exact hl)) (ops := _) rfl
  have hd : ∀ {l : List V} {r : List Value} (n : Nat), VRs w₁ l r → VRs w₁ (l.drop n) (r.drop n) := by
    intro l r n h
    induction n generalizing l r with
    | zero => exact h
    | succ n ih => cases h with
      | nil => simp; exact .nil
      | cons _ b => exact ih b
  exact C₂.knowNew (A := A) (v := .tup (l.drop n)) (tk := s₁.toks + 1) rfl (fun w' L e => .tup e rfl rfl ((hd n hr).mono (S₂.toLe.trans L))) fun w₃ s₃ C₃ S₃ r₃ _ => q _ w₃ s₃ C₃ ((S₁.trans C S₂).trans C S₃) r₃
/-- t[::-1] of a tuple -/
theorem Ev.revd {value step : Expr} {l : List V} {p₂ : Pos} (ho : Ev B k env value ρ st (.tup l) st₁) (hst : Ev B k env step ρ st₁ (.int (-1)) st₂) (h0 : 0 < l.length) (hl : l.length ≤ sizeLine) :
    Ev B k env (.Subscript value (.Slice Option.none Option.none (some step) p₂) pos) ρ st (.tup l.reverse) st₂ := fun w s C F A Q E hA q => by
  rw [eval_Subscript]
  refine wpAny_bind (ho w s C F A _ E hA fun x w₀ s₀ C₀ S₀ r₀ => wpAny_bind (wpAny_holding (wpAny_Slice ?_)))
  rw [evalPart_some, evalPart_none]
  refine wpAny_pure (wpAny_pure (hst w₀ s₀ C₀ (F.stepN S₀) A _ E hA fun y w₁ s₁ C₁ S₁' r₁ => wpAny_bind (wpAny_standAt ?_)))
  cases r₁ with
  | int _ u =>
  have S₁ := S₀.trans C S₁'
  obtain ⟨a, vs, rfl, ht, hr⟩ := (r₀.mono S₁'.toLe).isTup C₁
  have hz : s₁.heap.objs.size ≤ (s₁.heap.push { cls := .type "slice", data := .fields #[.none, .none, .int (-1) u] }).objs.size := by rw [Heap.size_push]; exact Nat.le_succ _
  have hk : ∀ b o, s₁.heap.get? b = some o → (s₁.heap.push { cls := .type "slice", data := .fields #[.none, .none, .int (-1) u] }).get? b = some o := fun a o e => Heap.get?_push_of_some _ e
  have C₂ := C₁.grow (tk := s₁.toks) hz hk
  have S₂ := Step.grow (X := NoX) (tk := s₁.toks) C₁ hz hk
  have ht' := ht.keeps hk
  have hlen : (List.toArray vs).size = l.length := by rw [List.size_toArray, ← hr.length]
  refine tail_any (T := "tuple") ht'.typeIs slot_tuple_getitem.lookup (getItem_tuple_rev (u := u) ht' ⟨_, Heap.get?_push_size _ rfl, rfl, rfl⟩ ?_ (by rw [hlen]; exact hl) (by rw [hlen]; exact h0)) (ops := _) rfl
  exact C₂.knowNew (A := A) (v := .tup l.reverse) (tk := s₁.toks) rfl (fun w' L e => .tup e rfl rfl (hr.reverse.mono (S₂.toLe.trans L))) fun w₃ s₃ C₃ S₃ r₃ _ => q _ w₃ s₃ C₃ ((S₁.trans C S₂).trans C S₃) r₃
end
/-- all its references lie below n -/
inductive Ok (n : Nat) : V → Prop
  | none : Ok n .none
  | bool (b : Bool) : Ok n (.bool b)
  | int (i : Int) : Ok n (.int i)
  | glob (v : Value) : Ok n (.glob v)
  | range (a b : Int) : Ok n (.range a b)
  | ref {i : Nat} : i < n → Ok n (.ref i)
  | tup {l : List V} : (∀ v ∈ l, Ok n v) → Ok n (.tup l)
  | lst {l : List V} : (∀ v ∈ l, Ok n v) → Ok n (.lst l)
  | inst {C : Addr} {fs : List (Str × V)} : (∀ p ∈ fs, Ok n p.2) → Ok n (.inst C fs)
  | dict {l : List (Int × V)} : (∀ p ∈ l, Ok n p.2) → Ok n (.dict l)
noncomputable def OkO (n : Nat) : O → Prop
  | .list l => ∀ v ∈ l, Ok n v
  | .dict l => ∀ p ∈ l, Ok n p.2
  | .inst _ d => d < n
  | .attrs fs => ∀ p ∈ fs, Ok n p.2
  | .dead => True
theorem Ok.mono {n m : Nat} (h : n ≤ m) {v : V} (x : Ok n v) : Ok m v := by
  induction x with
  | none => exact .none
  | bool b => exact .bool b
  | int i => exact .int i
  | glob v => exact .glob v
  | range a b => exact .range a b
  | ref h' => exact .ref (Nat.lt_of_lt_of_le h' h)
  | tup _ ih => exact .tup ih
  | lst _ ih => exact .lst ih
  | inst _ ih => exact .inst ih
  | dict _ ih => exact .dict ih
noncomputable def Wd.cut (w : Wd) (n : Nat) : Wd := { w with σ := w.σ.take n }
mutual
theorem VR.cut {w : Wd} {n : Nat} : ∀ {v : V} {x : Value}, VR w v x → Ok n v → VR (w.cut n) v x
  | _, _, .none, _ => .none
  | _, _, .bool b, _ => .bool b
  | _, _, .int i t, _ => .int i t
  | _, _, .glob v, _ => .glob v
  | _, _, .ref e, o => by
    cases o with
    | ref h => exact .ref (by show (w.σ.take n)[_]? = _; rw [List.getElem?_take, if_pos h]; exact e)
  | _, _, .tup a b c d, o => by cases o with | tup o => exact .tup (w := w.cut n) a b c (VRs.cut d o)
  | _, _, .lst a d, o => by cases o with | lst o => exact .lst (w := w.cut n) a (VRs.cut d o)
  | _, _, .inst a b c, o => by cases o with | inst o => exact .inst (w := w.cut n) a b (ERs.cut c o)
  | _, _, .dict a b c d, o => by cases o with | dict o => exact .dict (w := w.cut n) a (DEs.cut b o) c d
  | _, _, .range a, _ => .range (w := w.cut n) a
theorem VRs.cut {w : Wd} {n : Nat} : ∀ {l : List V} {r : List Value}, VRs w l r → (∀ v ∈ l, Ok n v) → VRs (w.cut n) l r
  | _, _, .nil, _ => .nil
  | _, _, .cons a b, o => .cons (VR.cut a (o _ (.head _))) (VRs.cut b fun v h => o v (.tail _ h))
theorem ERs.cut {w : Wd} {n : Nat} : ∀ {l : List (Str × V)} {r : List DictEntry}, ERs w l r → (∀ p ∈ l, Ok n p.2) → ERs (w.cut n) l r
  | _, _, .nil, _ => .nil
  | _, _, .cons a b, o => .cons (VR.cut a (o _ (.head _))) (ERs.cut b fun v h => o v (.tail _ h))
theorem DEs.cut {w : Wd} {n : Nat} : ∀ {l : List (Int × V)} {r : List DictEntry}, DEs w l r → (∀ p ∈ l, Ok n p.2) → DEs (w.cut n) l r
  | _, _, .nil, _ => .nil
  | _, _, .cons a b, o => .cons (VR.cut a (o _ (.head _))) (DEs.cut b fun v h => o v (.tail _ h))
end
theorem DRs.cut {w : Wd} {n : Nat} {l : List (Int × V)} {r : List (Int × Value)} (h : DRs w l r) : (∀ p ∈ l, Ok n p.2) → DRs (w.cut n) l r := by
  induction h with
  | nil => exact fun _ => .nil
  | cons a _ ih => exact fun o => .cons (a.cut (o _ (.head _))) (ih fun v h => o v (.tail _ h))
theorem OR.cut {B : Bs} {w : Wd} {n : Nat} : ∀ {o : O} {ob : Obj}, OR B w o ob → OkO n o → OR B (w.cut n) o ob
  | .list _, _, ⟨vs, n, b, c⟩, h => ⟨vs, n, b, c.cut h⟩
  | .dict _, _, ⟨kvs, a, b⟩, h => ⟨kvs, a, b.cut h⟩
  | .inst _ _, _, ⟨dx, a, b⟩, h => ⟨dx, (by show (w.σ.take n)[_]? = _; rw [List.getElem?_take, if_pos (show _ < n from h)]; exact a), b⟩
  | .attrs _, _, ⟨es, n, a, b⟩, h => ⟨es, n, a, b.cut h⟩
  | .dead, _, _, _ => True.intro
section
variable {B : Bs} {k : Nat} {env : Env} {ρ : List (Str × V)} {st st₁ st₂ st₃ st' g : List O} {pos : Pos} {X : Addr → Prop} {w w₀ : Wd} {s s₀ : Shared}
theorem Core.cut (C : Core B w (st ++ g) s) (ho : ∀ o ∈ st, OkO st.length o) : Core B (w.cut st.length) st s where
  n := C.n
  sm := C.sm
  base := C.base
  kp := C.kp
  len := by show (w.σ.take st.length).length = _; rw [List.length_take, C.len, List.length_append]; omega
  nd := List.Sublist.nodup (List.take_sublist ..) C.nd
  low := fun a ha => C.low a (List.mem_of_mem_take ha)
  ob := fun i o e hd => by
    have hi := (List.getElem?_eq_some_iff.mp e).1
    obtain ⟨a, ob, h1, h2, h3, h4⟩ := C.ob i o (by rw [List.getElem?_append_left hi]; exact e) hd
    exact ⟨a, ob, (by show (w.σ.take _)[_]? = _; rw [List.getElem?_take, if_pos hi]; exact h1), h2, h3, h4.cut (ho _ (List.mem_of_getElem? e))⟩
theorem Step.cut {n : Nat} (S : Step X w₀ s₀ w s) (hn : w₀.σ.length ≤ n) : Step X w₀ s₀ (w.cut n) s :=
  { S with
    σ := fun i a e => by
      have hi := (List.getElem?_eq_some_iff.mp e).1
      show (w.σ.take n)[_]? = _
      rw [List.getElem?_take, if_pos (by omega)]; exact S.σ i a e
    fσ := fun a ha => S.fσ a (List.mem_of_mem_take ha) }
open Classical in
noncomputable def Wd.frozen (w : Wd) (h : Heap) (n : Nat) : Wd := { w with κ := fun a => if ∃ i, n ≤ i ∧ w.σ[i]? = some a then h.get? a else w.κ a }
theorem Wd.frozen_at {w : Wd} {h : Heap} {n i : Nat} {a : Addr} (hi : n ≤ i) (e : w.σ[i]? = some a) : (w.frozen h n).κ a = h.get? a := if_pos ⟨i, hi, e⟩
open Classical in
theorem Wd.Le.frozen {n : Nat} (C : Core B w st s) : w.Le (w.frozen s.heap n) := ⟨fun _ _ e => e, fun a o e => by
  show (if _ then _ else _) = _
  split
  · exact C.kp _ _ e
  · exact e⟩
noncomputable def deadFrom (n : Nat) (st : List O) : List O := st.take n ++ List.replicate (st.length - n) .dead
open Classical in
theorem Core.freeze {n : Nat} (C : Core B w st s) : Core B (w.frozen s.heap n) (deadFrom n st) s where
  n := C.n
  sm := C.sm
  base := C.base
  kp := fun a o e => by
    have e : (if ∃ i, n ≤ i ∧ w.σ[i]? = some a then s.heap.get? a else w.κ a) = some o := e
    split at e
    · exact e
    · exact C.kp _ _ e
  len := by show w.σ.length = _; rw [C.len]; unfold deadFrom; rw [List.length_append, List.length_take, List.length_replicate]; omega
  nd := C.nd
  low := C.low
  ob := fun i o e hd => by
    unfold deadFrom at e
    by_cases hi : i < (st.take n).length
    · rw [List.getElem?_append_left hi] at e
      rw [List.length_take] at hi
      rw [List.getElem?_take, if_pos (by omega)] at e
      obtain ⟨a, ob, h1, h2, h3, h4⟩ := C.ob i o e hd
      refine ⟨a, ob, h1, ?_, h3, h4.mono (.frozen C)⟩
      show (if ∃ i, n ≤ i ∧ w.σ[i]? = some a then s.heap.get? a else w.κ a) = _
      rw [if_neg]
      · exact h2
      · rintro ⟨j, hj, e'⟩
        have := nodup_inj C.nd h1 e'
        omega
    · rw [List.getElem?_append_right (by omega)] at e
      have := List.mem_of_getElem? e
      exact absurd (List.eq_of_mem_replicate this) hd
open Classical in
theorem Step.freeze {n : Nat} (C : Core B w st s) (S : Step X w₀ s₀ w s) : Step X w₀ s₀ (w.frozen s.heap n) s :=
  { S with
    toLe := S.toLe.trans (.frozen C)
    fκ := fun a o e => by
      have e : (if ∃ i, n ≤ i ∧ w.σ[i]? = some a then s.heap.get? a else w.κ a) = some o := e
      split at e
      · rename_i h
        obtain ⟨i, _, e'⟩ := h
        rcases S.fσ a (List.mem_of_getElem? e') with h | h
        · exact .inr (.inr h)
        · exact .inr (.inl h)
      · exact S.fκ a o e
    fσ := S.fσ }
mutual
/-- what a value reads as when the store from n on is given up for knowledge -/
inductive Den (n : Nat) (st : List O) : V → V → Prop
  | self (v : V) : Den n st v v
  | tup {l l' : List V} : Dens n st l l' → Den n st (.tup l) (.tup l')
  | list {i : Nat} {l l' : List V} : n ≤ i → st[i]? = some (.list l) → Dens n st l l' → Den n st (.ref i) (.lst l')
  | dict {i : Nat} {l l' : List (Int × V)} : n ≤ i → st[i]? = some (.dict l) → Dend n st l l' → Den n st (.ref i) (.dict l')
  | inst {i d : Nat} {C : Addr} {fs fs' : List (Str × V)} : n ≤ i → n ≤ d → st[i]? = some (.inst C d) → st[d]? = some (.attrs fs) → Dene n st fs fs' → Den n st (.ref i) (.inst C fs')
inductive Dens (n : Nat) (st : List O) : List V → List V → Prop
  | nil : Dens n st [] []
  | cons {v u : V} {l r : List V} : Den n st v u → Dens n st l r → Dens n st (v :: l) (u :: r)
inductive Dend (n : Nat) (st : List O) : List (Int × V) → List (Int × V) → Prop
  | nil : Dend n st [] []
  | cons {k : Int} {v u : V} {l r : List (Int × V)} : Den n st v u → Dend n st l r → Dend n st ((k, v) :: l) ((k, u) :: r)
inductive Dene (n : Nat) (st : List O) : List (Str × V) → List (Str × V) → Prop
  | nil : Dene n st [] []
  | cons {k : Str} {v u : V} {l r : List (Str × V)} : Den n st v u → Dene n st l r → Dene n st ((k, v) :: l) ((k, u) :: r)
end
theorem Dens.self {n : Nat} : ∀ l : List V, Dens n st l l
  | [] => .nil
  | v :: l => .cons (.self v) (Dens.self l)
theorem Dend.keys {n : Nat} : ∀ {l l' : List (Int × V)}, Dend n st l l' → l.map (·.1) = l'.map (·.1)
  | _, _, .nil => rfl
  | _, _, .cons _ b => congrArg (_ :: ·) b.keys
mutual
theorem Den.vr {n : Nat} (C : Core B w st s) : ∀ {v u : V}, Den n st v u → ∀ {x : Value}, VR w v x → VR (w.frozen s.heap n) u x
  | _, _, .self v, _, h => h.mono (.frozen C)
  | _, _, .tup D, _, h => by
    cases h with
    | tup a b c d => exact .tup ((Wd.Le.frozen C).κ _ _ a) b c (Dens.vr C D d)
  | _, _, .list hi hs D, _, h => by
    obtain ⟨a, ob, rfl, h1, h2, h3, vs, m, rfl, h5⟩ := h.atRef C hs (fun e => by cases e)
    exact .lst ((Wd.frozen_at hi h1).trans h3) (Dens.vr C D h5)
  | _, _, .dict hi hs D, _, h => by
    obtain ⟨a, ob, rfl, h1, h2, h3, kvs, h5, h6⟩ := h.atRef C hs (fun e => by cases e)
    obtain ⟨es, ep, ⟨e1, e2, e3⟩, e4, e5, e6, e7⟩ := h5
    obtain ⟨oc, od, odata, osl⟩ := ob
    dsimp only at e1 e2 e3 e4
    subst e1 e2 e3 e4
    refine .dict (es := es.toList) (n := ep) ((Wd.frozen_at hi h1).trans (by rw [h3])) (Dend.vr C D (h6.des e6 fun e he => e5 e (by simpa using he))) ?_ (C.low _ (List.mem_of_getElem? h1)).2.2
    rw [← D.keys, h6.keys]; exact e7
  | _, _, .inst hi hd hs hf D, _, h => by
    obtain ⟨a, ob, rfl, h1, h2, h3, dx, h5, rfl⟩ := h.atRef C hs (fun e => by cases e)
    obtain ⟨dx', ob', e1, e2, e3, es, m, rfl, e4⟩ := C.ob _ _ hf (fun e => by cases e)
    rw [h5] at e1; cases e1
    exact .inst ((Wd.frozen_at hi h1).trans h3) ((Wd.frozen_at hd h5).trans e3) (Dene.vr C D e4)
theorem Dens.vr {n : Nat} (C : Core B w st s) : ∀ {l r : List V}, Dens n st l r → ∀ {xs : List Value}, VRs w l xs → VRs (w.frozen s.heap n) r xs
  | _, _, .nil, _, h => by cases h; exact .nil
  | _, _, .cons a b, _, h => by cases h with | cons h1 h2 => exact .cons (Den.vr C a h1) (Dens.vr C b h2)
theorem Dend.vr {n : Nat} (C : Core B w st s) : ∀ {l r : List (Int × V)}, Dend n st l r → ∀ {xs : List DictEntry}, DEs w l xs → DEs (w.frozen s.heap n) r xs
  | _, _, .nil, _, h => by cases h; exact .nil
  | _, _, .cons a b, _, h => by cases h with | cons h1 h2 => exact .cons (Den.vr C a h1) (Dend.vr C b h2)
theorem Dene.vr {n : Nat} (C : Core B w st s) : ∀ {l r : List (Str × V)}, Dene n st l r → ∀ {xs : List DictEntry}, ERs w l xs → ERs (w.frozen s.heap n) r xs
  | _, _, .nil, _, h => by cases h; exact .nil
  | _, _, .cons a b, _, h => by cases h with | cons h1 h2 => exact .cons (Den.vr C a h1) (Dene.vr C b h2)
end
/-- behind a call: the store's new part is given up -/
theorem FnC.seal {f : Value} {vs : List V} {v u : V} (h : FnC B k f vs st v (st' ++ g)) (hl : st'.length = st.length) (ho : ∀ o ∈ st', OkO st.length o) (D : Den st.length (st' ++ g) v u) (hu : Ok st.length u) : FnC B k f vs st u st' := fun w s xs C r A R hA q =>
  h w s xs C r A R hA fun x w' s' C' S' r' => by
    have C₁ := C'.freeze (n := st.length)
    have e : deadFrom st.length (st' ++ g) = st' ++ List.replicate ((st' ++ g).length - st.length) .dead := by
      unfold deadFrom
      rw [← hl, List.take_left]
    rw [e] at C₁
    have C₂ := C₁.cut (by rw [hl]; exact ho)
    rw [hl] at C₂
    exact q x _ s' C₂ ((S'.freeze C').cut (by rw [C.len]; exact Nat.le_refl _)) ((Den.vr C' D r').cut hu)
theorem Fn.seal {f : Value} {vs : List V} {v u : V} (h : Fn B k f vs st v (st' ++ g)) (hl : st'.length = st.length) (ho : ∀ o ∈ st', OkO st.length o) (D : Den st.length (st' ++ g) v u) (hu : Ok st.length u) : Fn B k f vs st u st' := fun w s xs C r A Q E hA q =>
  h w s xs C r A Q E hA fun x w' s' C' S' r' => by
    have C₁ := C'.freeze (n := st.length)
    have e : deadFrom st.length (st' ++ g) = st' ++ List.replicate ((st' ++ g).length - st.length) .dead := by
      unfold deadFrom
      rw [← hl, List.take_left]
    rw [e] at C₁
    have C₂ := C₁.cut (by rw [hl]; exact ho)
    rw [hl] at C₂
    exact q x _ s' C₂ ((S'.freeze C').cut (by rw [C.len]; exact Nat.le_refl _)) ((Den.vr C' D r').cut hu)
theorem Ev.seal {e : Expr} {v u : V} (h : Ev B k env e ρ st v (st' ++ g)) (hl : st'.length = st.length) (ho : ∀ o ∈ st', OkO st.length o) (D : Den st.length (st' ++ g) v u) (hu : Ok st.length u) : Ev B k env e ρ st u st' := fun w s C F A Q E hA q =>
  h w s C F A Q E hA fun x w' s' C' S' r' => by
    have C₁ := C'.freeze (n := st.length)
    have e : deadFrom st.length (st' ++ g) = st' ++ List.replicate ((st' ++ g).length - st.length) .dead := by
      unfold deadFrom
      rw [← hl, List.take_left]
    rw [e] at C₁
    have C₂ := C₁.cut (by rw [hl]; exact ho)
    rw [hl] at C₂
    exact q x _ s' C₂ ((S'.freeze C').cut (by rw [C.len]; exact Nat.le_refl _)) ((Den.vr C' D r').cut hu)
/-- between two statements: the store from n on is given up -/
theorem Xs.freeze {cs : List Stmt} {r : Fl} {ρ₂ ρ' : List (Str × V)} (n : Nat) (hρ : ∀ x u, ρ₂.lookup x = some u → ∃ v, ρ.lookup x = some v ∧ Den n st v u) (h : Xs B k env cs ρ₂ (deadFrom n st) r ρ' st') : Xs B k env cs ρ st r ρ' st' := fun w s C F A Q E hA q => by
  have S := (Step.refl (X := FX env) w s).freeze C (n := n)
  refine h _ s C.freeze ?_ A Q E hA fun fl w' s' C' S' r' => q fl w' s' C' (S.trans C S') r'
  have F' := F.stepN ((Step.refl (X := NoX) w s).freeze C (n := n))
  obtain ⟨m, hn, hm⟩ := F.ns
  exact { F' with ns := ⟨m, hn, fun x u e => by
    obtain ⟨v, hv, D⟩ := hρ x u e
    obtain ⟨val, h1, h2⟩ := hm x v hv
    exact ⟨val, Den.vr C D h1, h2⟩⟩ }
/-- fewer names are known -/
theorem Xs.weaken {cs : List Stmt} {r : Fl} {ρ₂ ρ' : List (Str × V)} (hρ : ∀ x u, ρ₂.lookup x = some u → ρ.lookup x = some u) (h : Xs B k env cs ρ₂ st r ρ' st') : Xs B k env cs ρ st r ρ' st' := fun w s C F A Q E hA q =>
  h w s C { F with ns := let ⟨m, hn, hm⟩ := F.ns; ⟨m, hn, fun x u e => hm x u (hρ x u e)⟩ } A Q E hA q
end
section
variable {M : PySem.World} {A : Around} {E : Value → Shared → Prop} {s : Shared}
theorem nextOf_tup_item {it t : Addr} {i : Nat} {items} {x : Value} {Q : Value → Shared → Prop} (hit : s.heap.IsTupleIter it t i)
    (hl : s.heap.IsTuple t items) (hx : items[i]? = some x)
    (hQ : ∀ h', h'.IsTupleIter it t (i + 1) → Heap.SameBut it s.heap h' → Q x { s with heap := h' }) :
    wpAny (model PG M) A (Builtin.SmallTypes.nextOf (.ref it)) Q E s := by
  obtain ⟨o, ho, hc, hd⟩ := id hit
  obtain ⟨ol, hol, _, nl, hdl⟩ := hl
  unfold Builtin.SmallTypes.nextOf
  refine wpAny_bind (wpAny_callSpecial?_slot (name := Str.ofString "__next__") hit.typeIs PySem.F.slot_tuple_iterator_next
    (wpAny_call_entry PySem.F.slot_tuple_iterator_next hit.typeIs PySem.F.entry_tuple_iterator_next ?_ (PySem.F.args_tuple_iterator_next_1 _)))
  show wpAny _ _ (field (.ref it) 0 >>= _) _ _ s
  refine wpAny_bind (wpAny_field ho hd (x := .ref t) rfl ?_)
  show wpAny _ _ (if (Value.ref t == Value.none) = true then _ else _) _ _ s
  rw [if_neg (show ¬ ((Value.ref t == Value.none) = true) from Bool.false_ne_true)]
  show wpAny _ _ (field (.ref it) 1 >>= _) _ _ s
  refine wpAny_bind (wpAny_field ho hd (x := .int i 0) rfl ?_)
  show wpAny _ _ (seqItems? (.ref t) >>= _) _ _ s
  refine wpAny_bind (wpAny_seqItems hol hdl ?_)
  simp only [Int.toNat_natCast, hx]
  refine wpAny_bind (wpAny_setField ho hd (by simp) (wpAny_pure ⟨x, rfl, wpAny_pure (hQ _ ?_ (Heap.SameBut.update ..))⟩))
  exact ⟨_, Heap.get?_update_self _ ho (Obj.isFreed_of_fields (Obj.data_mapFields hd _)), (Obj.cls_mapFields ..).trans hc, by
    rw [Obj.data_mapFields hd]; simp [rawInt]⟩
theorem nextOf_tup_end {it t : Addr} {i : Nat} {items} {Q : Value → Shared → Prop} (hh : A.handled = none)
    (hit : s.heap.IsTupleIter it t i) (hl : s.heap.IsTuple t items) (hx : items[i]? = none)
    (hE : ∀ h' e, Heap.ExtBut it s.heap h' → (∃ o, h'.get? e = some o ∧ o.cls = .type "StopIteration") → E (.ref e) { s with heap := h' }) :
    wpAny (model PG M) A (Builtin.SmallTypes.nextOf (.ref it)) Q E s := by
  obtain ⟨o, ho, hc, hd⟩ := id hit
  obtain ⟨ol, hol, _, nl, hdl⟩ := hl
  unfold Builtin.SmallTypes.nextOf
  refine wpAny_bind (wpAny_callSpecial?_slot (name := Str.ofString "__next__") hit.typeIs PySem.F.slot_tuple_iterator_next
    (wpAny_call_entry PySem.F.slot_tuple_iterator_next hit.typeIs PySem.F.entry_tuple_iterator_next ?_ (PySem.F.args_tuple_iterator_next_1 _)))
  show wpAny _ _ (field (.ref it) 0 >>= _) _ _ s
  refine wpAny_bind (wpAny_field ho hd (x := .ref t) rfl ?_)
  show wpAny _ _ (if (Value.ref t == Value.none) = true then _ else _) _ _ s
  rw [if_neg (show ¬ ((Value.ref t == Value.none) = true) from Bool.false_ne_true)]
  show wpAny _ _ (field (.ref it) 1 >>= _) _ _ s
  refine wpAny_bind (wpAny_field ho hd (x := .int i 0) rfl ?_)
  show wpAny _ _ (seqItems? (.ref t) >>= _) _ _ s
  refine wpAny_bind (wpAny_seqItems hol hdl ?_)
  simp only [Int.toNat_natCast, hx]
  refine wpAny_bind (wpAny_rule (wpAny_bind (wpAny_setField ho hd (by simp) ?_)))
  show wpAny _ _ (newExc (.type "StopIteration") [] >>= _) _ _ _
  refine wpAny_bind ?_
  simp only [newExc, newTuple]
  refine wpAny_bind (wpAny_newObj_type ?_ (by size_fits))
  refine wpAny_bind (m := firstArgMember _ _) (wpAny_of_eq (a := Value.none) (by first | rfl | (simp only [firstArgMember]; rfl)) ?_)
  refine wpAny_newObj_type ?_ (by size_fits)
  simp only [raiseNew]
  refine wpAny_bind (wpAny_handled ?_)
  first | rw [show A.in1.handled = none from hh] | rw [hh]
  refine wpAny_bind (wpAny_pure (wpAny_throw ?_))
  exact hE _ _ (((Heap.SameBut.update ..).extBut.push _).push _) ⟨_, Heap.get?_push_size _ rfl, rfl⟩
noncomputable abbrev ZAt (h : Heap) (z TI TO : Addr) (f0 : Value) (f1 : Bool) : Prop :=
  h.get? z = some { cls := .type "zip", dict := none, data := .fields #[f0, .bool f1, .bool false, .ref TI, .ref TO], slots := #[] }
/-- a zip of two tuples at its places -/
structure ZS (h : Heap) (z TI TO i1 i2 l1 l2 : Addr) (k : Nat) (f0 : Value) : Prop where
  zip : ∃ f1, ZAt h z TI TO f0 f1
  ti : IsPair h TI (.ref i1) (.ref i2)
  to : ∃ a b, IsPair h TO a b
  i1 : h.IsTupleIter i1 l1 k
  i2 : h.IsTupleIter i2 l2 k
theorem zip_free_item {z TI TO i1 i2 l1 l2 : Addr} {k : Nat} {xs ys : Array Value} {x y : Value} {Q : Value → Shared → Prop} (D : ZipApart z TI TO i1 i2 l1 l2)
    (Z : ZS s.heap z TI TO i1 i2 l1 l2 k .none) (hl1 : s.heap.IsTuple l1 xs) (hl2 : s.heap.IsTuple l2 ys) (hx : xs[k]? = some x) (hy : ys[k]? = some y)
    (hQ : ∀ h', ZS h' z TI TO i1 i2 l1 l2 (k + 1) (rawInt s.heap.objs.size) → IsPair h' s.heap.objs.size x y → h'.objs.size = s.heap.objs.size + 1 →
      (∀ c o, c ≠ z → c ≠ TO → c ≠ i1 → c ≠ i2 → s.heap.get? c = some o → h'.get? c = some o) → Q (.ref s.heap.objs.size) { s with heap := h' }) :
    wpAny (model PG M) A (Builtin.«zip.__next__» ⟨[.ref z], []⟩) (fun fin s' => ∃ v, fin = .done (.ret v) ∧ Q v s') E s := by
  obtain ⟨⟨f1, hz⟩, hTI, ⟨a, b, hTO⟩, h1, h2⟩ := Z
  show wpAny _ _ (field (.ref z) 2 >>= _) _ _ _
  refine wpAny_bind (wpAny_field hz rfl (x := .bool false) rfl ?_)
  show wpAny _ _ (field (.ref z) 3 >>= _) _ _ _
  refine wpAny_bind (wpAny_field hz rfl (x := .ref TI) rfl ?_)
  refine wpAny_bind (wpAny_seqItems hTI rfl ?_)
  show wpAny _ _ (Builtin.SmallTypes.ownedTupleIsFree (.ref z) >>= _) _ _ _
  refine wpAny_bind ?_
  unfold Builtin.SmallTypes.ownedTupleIsFree
  refine wpAny_bind (wpAny_field hz rfl (x := .none) rfl (wpAny_pure ?_))
  simp only [if_true]
  refine wpAny_bind (wpAny_rule ?_)
  refine wpAny_bind (wpAny_field hz rfl (x := .ref TO) rfl ?_)
  refine wpAny_bind (wpAny_setField_rec hz (by simp) fun h₁ hz₁ hs₁ => ?_)
  replace hz₁ : ZAt h₁ z TI TO .ellipsis f1 := hz₁
  refine wpAny_bind ?_
  simp only [List.zipIdx_cons, List.zipIdx_nil, List.forIn_cons, List.forIn_nil]
  refine wpAny_bind (wpAny_bind (wpAny_onRaise ?_))
  show wpAny _ _ (Builtin.SmallTypes.nextOf (.ref i1) >>= _) _ _ _
  refine wpAny_bind (nextOf_tup_item (h1.extBut hs₁.extBut D.i1z) (hl1.at fun o e => hs₁.extBut _ _ D.l1z e) hx fun h₂ h1₂ hs₂ => wpAny_pure ?_)
  have hTO₂ : IsPair h₂ TO a b := hs₂.extBut _ _ D.TOi1 (hs₁.extBut _ _ D.TOz hTO)
  refine wpAny_bind (wpAny_seqItems hTO₂ rfl ?_)
  refine wpAny_bind (wpAny_updateSeq_pair hTO₂ fun h₃ hTO₃ hs₃ => ?_)
  replace hTO₃ : IsPair h₃ TO x b := hTO₃
  refine wpAny_bind (wpAny_letGo (wpAny_pure ?_))
  refine wpAny_bind (wpAny_bind (wpAny_onRaise ?_))
  show wpAny _ _ (Builtin.SmallTypes.nextOf (.ref i2) >>= _) _ _ _
  refine wpAny_bind (nextOf_tup_item (((h2.extBut hs₁.extBut D.i2z).extBut hs₂.extBut D.i12.symm).extBut hs₃.extBut D.TOi2.symm)
    (hl2.at fun o e => hs₃.extBut _ _ D.l2TO (hs₂.extBut _ _ D.l2i1 (hs₁.extBut _ _ D.l2z e))) hy fun h₄ h2₄ hs₄ => wpAny_pure ?_)
  have hTO₄ : IsPair h₄ TO x b := hs₄.extBut _ _ D.TOi2 hTO₃
  refine wpAny_bind (wpAny_seqItems hTO₄ rfl ?_)
  refine wpAny_bind (wpAny_updateSeq_pair hTO₄ fun h₅ hTO₅ hs₅ => ?_)
  replace hTO₅ : IsPair h₅ TO x y := hTO₅
  refine wpAny_bind (wpAny_letGo (wpAny_pure (wpAny_pure ?_)))
  refine wpAny_bind (wpAny_seqItems hTO₅ rfl ?_)
  refine wpAny_bind (wpAny_newTuple ?_)
  have hsz : h₅.objs.size = s.heap.objs.size := by rw [hs₅.1, hs₄.1, hs₃.1, hs₂.1, hs₁.1]
  have hz₅ : ZAt h₅ z TI TO .ellipsis f1 := hs₅.extBut _ _ D.TOz.symm (hs₄.extBut _ _ D.i2z.symm (hs₃.extBut _ _ D.TOz.symm (hs₂.extBut _ _ D.i1z.symm hz₁)))
  have hk₅ : ∀ c o, c ≠ z → c ≠ TO → c ≠ i1 → c ≠ i2 → s.heap.get? c = some o → h₅.get? c = some o := fun c o c1 c2 c3 c4 e =>
    hs₅.extBut _ _ c2 (hs₄.extBut _ _ c4 (hs₃.extBut _ _ c2 (hs₂.extBut _ _ c3 (hs₁.extBut _ _ c1 e))))
  have h1₅ : h₅.IsTupleIter i1 l1 (k + 1) := ((h1₂.extBut hs₃.extBut D.TOi1.symm).extBut hs₄.extBut D.i12).extBut hs₅.extBut D.TOi1.symm
  have h2₅ : h₅.IsTupleIter i2 l2 (k + 1) := h2₄.extBut hs₅.extBut D.TOi2.symm
  have hzlt : z < h₅.objs.size := Heap.lt_size hz₅
  show wpAny _ _ (Builtin.SmallTypes.ownedTupleHandOut (.ref z) (.ref h₅.objs.size) >>= _) _ _ _
  refine wpAny_bind ?_
  unfold Builtin.SmallTypes.ownedTupleHandOut
  have hz₆ : ZAt (h₅.push { cls := .type "tuple", data := .seq #[x, y] }) z TI TO .ellipsis f1 := Heap.get?_push_of_some _ hz₅
  refine wpAny_bind (wpAny_setField_rec hz₆ (by simp) fun h₇ hz₇ hs₇ => ?_)
  replace hz₇ : ZAt h₇ z TI TO (rawInt h₅.objs.size) f1 := hz₇
  refine wpAny_setField_rec hz₇ (by simp) fun h₈ hz₈ hs₈ => ?_
  replace hz₈ : ZAt h₈ z TI TO (rawInt h₅.objs.size) false := hz₈
  have up : ∀ c o, c ≠ z → h₅.get? c = some o → h₈.get? c = some o := fun c o c1 e => hs₈.extBut _ _ c1 (hs₇.extBut _ _ c1 (Heap.get?_push_of_some _ e))
  have hT₈ : IsPair h₈ h₅.objs.size x y := hs₈.extBut _ _ (Nat.ne_of_gt hzlt) (hs₇.extBut _ _ (Nat.ne_of_gt hzlt) (Heap.get?_push_size _ rfl))
  have hz8 : h₈.objs.size = h₅.objs.size + 1 := by rw [hs₈.1, hs₇.1, Heap.size_push]
  rw [hsz] at hz₈ hT₈ hz8
  refine wpAny_pure ⟨_, rfl, ?_⟩
  show Q (.ref h₅.objs.size) _
  rw [hsz]
  exact hQ h₈ ⟨⟨_, hz₈⟩, up _ _ D.TIz (hk₅ _ _ D.TIz D.TITO D.TIi1 D.TIi2 hTI), ⟨_, _, up _ _ D.TOz hTO₅⟩, h1₅.at fun o e => up _ o D.i1z e, h2₅.at fun o e => up _ o D.i2z e⟩ hT₈ hz8 fun c o c1 c2 c3 c4 e => up c o c1 (hk₅ c o c1 c2 c3 c4 e)
theorem owned_held {z TI TO T : Addr} {f1 : Bool} {oT : Obj} {Q : Bool → Shared → Prop} (hz : ZAt s.heap z TI TO (rawInt T) f1) (hT : s.heap.get? T = some oT)
    (h : ∀ h₁, ZAt h₁ z TI TO (rawInt T) true → Heap.SameBut z s.heap h₁ → Q false { s with heap := h₁ }) : wpAny (model PG M) A (Builtin.SmallTypes.ownedTupleIsFree (.ref z)) Q E s := by
  unfold Builtin.SmallTypes.ownedTupleIsFree
  refine wpAny_bind (wpAny_field hz rfl (x := rawInt T) rfl ?_)
  have hal : ∀ {Q : Option Obj → Shared → Prop} {E : Value → Shared → Prop}, Q (some oT) s → wpAny (model PG M) A (loadIfAlive ((T : Int)).toNat) Q E s := fun {Q} {E} h Γ p hΓ => by
    show Q (s.heap.get? ((T : Int)).toNat) s
    rw [Int.toNat_natCast, hT]
    exact h
  refine wpAny_bind (hal ?_)
  rw [if_neg (by simp)]
  refine wpAny_bind (wpAny_field hz rfl (x := .bool f1) rfl ?_)
  cases f1 with
  | true =>
    rw [if_neg (by simp)]
    exact wpAny_pure (h s.heap hz (.refl ..))
  | false =>
    rw [if_pos (by decide)]
    exact wpAny_bind (wpAny_setField_rec hz (by simp) fun h₁ hz₁ hs₁ => wpAny_pure (h h₁ hz₁ hs₁))
theorem zip_held_item {z TI TO i1 i2 l1 l2 T : Addr} {oT : Obj} {k : Nat} {xs ys : Array Value} {x y : Value} {Q : Value → Shared → Prop} (D : ZipApart z TI TO i1 i2 l1 l2) (hT : s.heap.get? T = some oT)
    (Z : ZS s.heap z TI TO i1 i2 l1 l2 k (rawInt T)) (hl1 : s.heap.IsTuple l1 xs) (hl2 : s.heap.IsTuple l2 ys) (hx : xs[k]? = some x) (hy : ys[k]? = some y)
    (hQ : ∀ h', ZS h' z TI TO i1 i2 l1 l2 (k + 1) (rawInt T) → IsPair h' s.heap.objs.size x y → h'.objs.size = s.heap.objs.size + 1 →
      (∀ c o, c ≠ z → c ≠ TO → c ≠ i1 → c ≠ i2 → s.heap.get? c = some o → h'.get? c = some o) → Q (.ref s.heap.objs.size) { s with heap := h' }) :
    wpAny (model PG M) A (Builtin.«zip.__next__» ⟨[.ref z], []⟩) (fun fin s' => ∃ v, fin = .done (.ret v) ∧ Q v s') E s := by
  obtain ⟨⟨f1, hz⟩, hTI, ⟨a, b, hTO⟩, h1, h2⟩ := Z
  show wpAny _ _ (field (.ref z) 2 >>= _) _ _ _
  refine wpAny_bind (wpAny_field hz rfl (x := .bool false) rfl ?_)
  show wpAny _ _ (field (.ref z) 3 >>= _) _ _ _
  refine wpAny_bind (wpAny_field hz rfl (x := .ref TI) rfl ?_)
  refine wpAny_bind (wpAny_seqItems hTI rfl ?_)
  show wpAny _ _ (Builtin.SmallTypes.ownedTupleIsFree (.ref z) >>= _) _ _ _
  refine wpAny_bind (owned_held hz hT fun h₁ hz₁ hs₁ => ?_)
  simp only [Bool.false_eq_true, if_false]
  refine wpAny_bind ?_
  simp only [← Array.forIn_toList, List.forIn_cons, List.forIn_nil]
  refine wpAny_bind (wpAny_bind (wpAny_holding ?_))
  show wpAny _ _ (Builtin.SmallTypes.nextOf (.ref i1) >>= _) _ _ _
  refine wpAny_bind (nextOf_tup_item (h1.extBut hs₁.extBut D.i1z) (hl1.at fun o e => hs₁.extBut _ _ D.l1z e) hx fun h₂ h1₂ hs₂ => wpAny_pure (wpAny_pure ?_))
  refine wpAny_bind (wpAny_bind (wpAny_holding ?_))
  show wpAny _ _ (Builtin.SmallTypes.nextOf (.ref i2) >>= _) _ _ _
  refine wpAny_bind (nextOf_tup_item ((h2.extBut hs₁.extBut D.i2z).extBut hs₂.extBut D.i12.symm)
    (hl2.at fun o e => hs₂.extBut _ _ D.l2i1 (hs₁.extBut _ _ D.l2z e)) hy fun h₄ h2₄ hs₄ => wpAny_pure (wpAny_pure (wpAny_pure ?_)))
  have hsz : h₄.objs.size = s.heap.objs.size := by rw [hs₄.1, hs₂.1, hs₁.1]
  have hk₄ : ∀ c o, c ≠ z → c ≠ i1 → c ≠ i2 → s.heap.get? c = some o → h₄.get? c = some o := fun c o c1 c3 c4 e => hs₄.extBut _ _ c4 (hs₂.extBut _ _ c3 (hs₁.extBut _ _ c1 e))
  have hz₄ : ZAt h₄ z TI TO (rawInt T) true := hs₄.extBut _ _ D.i2z.symm (hs₂.extBut _ _ D.i1z.symm hz₁)
  have hp : ∀ c o, h₄.get? c = some o → (h₄.push { cls := .type "tuple", data := .seq #[x, y] }).get? c = some o := fun c o e => Heap.get?_push_of_some _ e
  refine wpAny_bind (wpAny_newTuple (wpAny_pure ⟨_, rfl, ?_⟩) (show 2 ≤ sizeLine by decide))
  show Q (.ref h₄.objs.size) _
  rw [hsz]
  refine hQ (h₄.push { cls := .type "tuple", data := .seq #[x, y] }) ⟨⟨_, hp _ _ hz₄⟩, hp _ _ (hk₄ _ _ D.TIz D.TIi1 D.TIi2 hTI), ⟨_, _, hp _ _ (hk₄ _ _ D.TOz D.TOi1 D.TOi2 hTO)⟩, (h1₂.at fun o e => hp _ o (hs₄.extBut _ _ D.i12 e)), h2₄.at fun o e => hp _ o e⟩ ?_ (by rw [Heap.size_push, hsz]) fun c o c1 c2 c3 c4 e => hp c o (hk₄ c o c1 c3 c4 e)
  rw [← hsz]
  exact Heap.get?_push_size _ rfl
theorem zip_tup_end {z TI TO i1 i2 l1 l2 : Addr} {k : Nat} {xs ys : Array Value} {f0 : Value} {Q : Fin → Shared → Prop} (hh : A.handled = none) (D : ZipApart z TI TO i1 i2 l1 l2) (hf : f0 = .none ∨ ∃ (T : Addr) (oT : Obj), f0 = rawInt T ∧ s.heap.get? T = some oT)
    (Z : ZS s.heap z TI TO i1 i2 l1 l2 k f0) (hl1 : s.heap.IsTuple l1 xs) (hl2 : s.heap.IsTuple l2 ys) (hend : xs[k]? = none ∨ ys[k]? = none)
    (hE : ∀ h' e, (∀ c o, c ≠ z → c ≠ TO → c ≠ i1 → c ≠ i2 → s.heap.get? c = some o → h'.get? c = some o) → (∃ o, h'.get? e = some o ∧ o.cls = .type "StopIteration") → E (.ref e) { s with heap := h' }) :
    wpAny (model PG M) A (Builtin.«zip.__next__» ⟨[.ref z], []⟩) Q E s := by
  obtain ⟨⟨f1, hz⟩, hTI, ⟨a, b, hTO⟩, h1, h2⟩ := Z
  show wpAny _ _ (field (.ref z) 2 >>= _) _ _ _
  refine wpAny_bind (wpAny_field hz rfl (x := .bool false) rfl ?_)
  show wpAny _ _ (field (.ref z) 3 >>= _) _ _ _
  refine wpAny_bind (wpAny_field hz rfl (x := .ref TI) rfl ?_)
  refine wpAny_bind (wpAny_seqItems hTI rfl ?_)
  show wpAny _ _ (Builtin.SmallTypes.ownedTupleIsFree (.ref z) >>= _) _ _ _
  rcases hf with rfl | ⟨T, oT, rfl, hT⟩
  · refine wpAny_bind ?_
    unfold Builtin.SmallTypes.ownedTupleIsFree
    refine wpAny_bind (wpAny_field hz rfl (x := .none) rfl (wpAny_pure ?_))
    simp only [if_true]
    refine wpAny_bind (wpAny_rule ?_)
    refine wpAny_bind (wpAny_field hz rfl (x := .ref TO) rfl ?_)
    refine wpAny_bind (wpAny_setField_rec hz (by simp) fun h₁ hz₁ hs₁ => ?_)
    replace hz₁ : ZAt h₁ z TI TO .ellipsis f1 := hz₁
    refine wpAny_bind ?_
    simp only [List.zipIdx_cons, List.zipIdx_nil, List.forIn_cons, List.forIn_nil]
    refine wpAny_bind (wpAny_bind (wpAny_onRaise ?_))
    show wpAny _ _ (Builtin.SmallTypes.nextOf (.ref i1) >>= _) _ _ _
    cases hx : xs[k]? with
    | none =>
      refine wpAny_bind (nextOf_tup_end hh (h1.extBut hs₁.extBut D.i1z) (hl1.at fun o e => hs₁.extBut _ _ D.l1z e) hx fun h₂ e hs₂ he => ?_)
      obtain ⟨oe, hoe, hce⟩ := he
      have hz₂ : ZAt h₂ z TI TO .ellipsis f1 := hs₂ _ _ D.i1z.symm hz₁
      have hez : e ≠ z := fun x => by subst x; rw [hz₂] at hoe; cases hoe; simp at hce
      refine wpAny_setField_rec hz₂ (by simp) fun h₃ _ hs₃ => hE h₃ e (fun c o c1 _ c3 _ x => hs₃.extBut _ _ c1 (hs₂ _ _ c3 (hs₁.extBut _ _ c1 x))) ⟨oe, hs₃.extBut _ _ hez hoe, hce⟩
    | some x =>
      have hy : ys[k]? = none := by rcases hend with h | h; rw [hx] at h; cases h; exact h
      refine wpAny_bind (nextOf_tup_item (h1.extBut hs₁.extBut D.i1z) (hl1.at fun o e => hs₁.extBut _ _ D.l1z e) hx fun h₂ h1₂ hs₂ => wpAny_pure ?_)
      have hTO₂ : IsPair h₂ TO a b := hs₂.extBut _ _ D.TOi1 (hs₁.extBut _ _ D.TOz hTO)
      refine wpAny_bind (wpAny_seqItems hTO₂ rfl ?_)
      refine wpAny_bind (wpAny_updateSeq_pair hTO₂ fun h₃ hTO₃ hs₃ => ?_)
      refine wpAny_bind (wpAny_letGo (wpAny_pure ?_))
      refine wpAny_bind (wpAny_bind (wpAny_onRaise ?_))
      show wpAny _ _ (Builtin.SmallTypes.nextOf (.ref i2) >>= _) _ _ _
      refine wpAny_bind (nextOf_tup_end hh (((h2.extBut hs₁.extBut D.i2z).extBut hs₂.extBut D.i12.symm).extBut hs₃.extBut D.TOi2.symm)
        (hl2.at fun o e => hs₃.extBut _ _ D.l2TO (hs₂.extBut _ _ D.l2i1 (hs₁.extBut _ _ D.l2z e))) hy fun h₄ e hs₄ he => ?_)
      obtain ⟨oe, hoe, hce⟩ := he
      have hz₄ : ZAt h₄ z TI TO .ellipsis f1 := hs₄ _ _ D.i2z.symm (hs₃.extBut _ _ D.TOz.symm (hs₂.extBut _ _ D.i1z.symm hz₁))
      have hez : e ≠ z := fun x => by subst x; rw [hz₄] at hoe; cases hoe; simp at hce
      refine wpAny_setField_rec hz₄ (by simp) fun h₅ _ hs₅ => hE h₅ e (fun c o c1 c2 c3 c4 x => hs₅.extBut _ _ c1 (hs₄ _ _ c4 (hs₃.extBut _ _ c2 (hs₂.extBut _ _ c3 (hs₁.extBut _ _ c1 x))))) ⟨oe, hs₅.extBut _ _ hez hoe, hce⟩
  · refine wpAny_bind (owned_held hz hT fun h₁ hz₁ hs₁ => ?_)
    simp only [Bool.false_eq_true, if_false]
    refine wpAny_bind ?_
    simp only [← Array.forIn_toList, List.forIn_cons, List.forIn_nil]
    refine wpAny_bind (wpAny_bind (wpAny_holding ?_))
    show wpAny _ _ (Builtin.SmallTypes.nextOf (.ref i1) >>= _) _ _ _
    cases hx : xs[k]? with
    | none =>
      refine wpAny_bind (nextOf_tup_end hh (h1.extBut hs₁.extBut D.i1z) (hl1.at fun o e => hs₁.extBut _ _ D.l1z e) hx fun h₂ e hs₂ he => ?_)
      exact hE h₂ e (fun c o c1 _ c3 _ x => hs₂ _ _ c3 (hs₁.extBut _ _ c1 x)) he
    | some x =>
      have hy : ys[k]? = none := by rcases hend with h | h; rw [hx] at h; cases h; exact h
      refine wpAny_bind (nextOf_tup_item (h1.extBut hs₁.extBut D.i1z) (hl1.at fun o e => hs₁.extBut _ _ D.l1z e) hx fun h₂ h1₂ hs₂ => wpAny_pure (wpAny_pure ?_))
      refine wpAny_bind (wpAny_bind (wpAny_holding ?_))
      show wpAny _ _ (Builtin.SmallTypes.nextOf (.ref i2) >>= _) _ _ _
      refine wpAny_bind (nextOf_tup_end hh ((h2.extBut hs₁.extBut D.i2z).extBut hs₂.extBut D.i12.symm) (hl2.at fun o e => hs₂.extBut _ _ D.l2i1 (hs₁.extBut _ _ D.l2z e)) hy fun h₄ e hs₄ he => ?_)
      exact hE h₄ e (fun c o c1 c2 c3 c4 x => hs₄ _ _ c4 (hs₂.extBut _ _ c3 (hs₁.extBut _ _ c1 x))) he
theorem meets_zip_tup (l1 l2 : Addr) (xs ys : Array Value) :
    Meets (Builtin.«zip.__new__» ⟨[.type "zip", .ref l1, .ref l2], []⟩) (fun _ R s => s.heap.IsTuple l1 xs ∧ s.heap.IsTuple l2 ys ∧
      ∀ h', ZS h' (s.heap.objs.size + 4) (s.heap.objs.size + 2) (s.heap.objs.size + 3) s.heap.objs.size (s.heap.objs.size + 1) l1 l2 0 .none → h'.objs.size = s.heap.objs.size + 5 →
      (∀ c o, s.heap.get? c = some o → h'.get? c = some o) → R (.ok (.ret (.ref (s.heap.objs.size + 4)))) { s with heap := h' }) :=
  .of_wp fun prog w A R s h => by
    obtain ⟨hp, g, d, tk, os⟩ := s; obtain ⟨hl1, hl2, h⟩ := h
    have hsub := sub_zip
    have hL1 : Heap.IsTuple (Shared.heap ⟨hp, g, d, tk, os⟩) l1 xs := hl1
    have hL2 : Heap.IsTuple (Shared.heap ⟨hp.push { cls := .type "tuple_iterator", data := .fields #[.ref l1, .int 0 0] }, g, d, tk, os⟩) l2 ys := Heap.IsTuple.push hl2 _
    wp_walk using wpAny_pyIter_tuple hL1, wpAny_pyIter_tuple hL2
    refine ⟨_, rfl, ?_⟩
    generalize g1 : hp.push { cls := .type "tuple_iterator", data := .fields #[.ref l1, .int 0 0] } = H1
    have z1 : H1.objs.size = hp.objs.size + 1 := by rw [← g1]; exact Heap.size_push ..
    generalize g2 : H1.push { cls := .type "tuple_iterator", data := .fields #[.ref l2, .int 0 0] } = H2
    have z2 : H2.objs.size = hp.objs.size + 2 := by rw [← g2, Heap.size_push, z1]
    have key : ∀ H3 H4 H5 : Heap, H2.push { cls := .type "tuple", data := .seq #[.ref hp.objs.size, .ref H1.objs.size] } = H3 → H3.push { cls := .type "tuple", data := .seq #[.none, .none] } = H4 →
        H4.push { cls := .type "zip", data := .fields #[.none, .bool false, .bool false, .ref H2.objs.size, .ref H3.objs.size] } = H5 → R (.ok (.ret (.ref H4.objs.size))) ⟨H5, g, d, tk, os⟩ := by
      intro H3 H4 H5 g3 g4 g5
      have z3 : H3.objs.size = hp.objs.size + 3 := by rw [← g3, Heap.size_push, z2]
      have z4 : H4.objs.size = hp.objs.size + 4 := by rw [← g4, Heap.size_push, z3]
      have z5 : H5.objs.size = hp.objs.size + 5 := by rw [← g5, Heap.size_push, z4]
      have up1 : ∀ c o, hp.get? c = some o → H1.get? c = some o := fun c o e => by rw [← g1]; exact Heap.get?_push_of_some _ e
      have up2 : ∀ c o, H1.get? c = some o → H2.get? c = some o := fun c o e => by rw [← g2]; exact Heap.get?_push_of_some _ e
      have up3 : ∀ c o, H2.get? c = some o → H3.get? c = some o := fun c o e => by rw [← g3]; exact Heap.get?_push_of_some _ e
      have up4 : ∀ c o, H3.get? c = some o → H4.get? c = some o := fun c o e => by rw [← g4]; exact Heap.get?_push_of_some _ e
      have up5 : ∀ c o, H4.get? c = some o → H5.get? c = some o := fun c o e => by rw [← g5]; exact Heap.get?_push_of_some _ e
      have a1 : H1.get? hp.objs.size = some { cls := .type "tuple_iterator", data := .fields #[.ref l1, .int 0 0] } := by rw [← g1]; exact Heap.get?_push_size _ rfl
      have a2 : H2.get? H1.objs.size = some { cls := .type "tuple_iterator", data := .fields #[.ref l2, .int 0 0] } := by rw [← g2]; exact Heap.get?_push_size _ rfl
      have a3 : H3.get? H2.objs.size = some { cls := .type "tuple", data := .seq #[.ref hp.objs.size, .ref H1.objs.size] } := by rw [← g3]; exact Heap.get?_push_size _ rfl
      have a4 : H4.get? H3.objs.size = some { cls := .type "tuple", data := .seq #[.none, .none] } := by rw [← g4]; exact Heap.get?_push_size _ rfl
      have a5 : H5.get? H4.objs.size = some { cls := .type "zip", data := .fields #[.none, .bool false, .bool false, .ref H2.objs.size, .ref H3.objs.size] } := by rw [← g5]; exact Heap.get?_push_size _ rfl
      rw [z2, z3, z4] at a5
      rw [z1] at a2 a3
      rw [z2] at a3
      rw [z3] at a4
      rw [z4]
      exact h H5 ⟨⟨_, a5⟩, up5 _ _ (up4 _ _ a3), ⟨_, _, up5 _ _ a4⟩, ⟨_, up5 _ _ (up4 _ _ (up3 _ _ (up2 _ _ a1))), rfl, rfl⟩, ⟨_, up5 _ _ (up4 _ _ (up3 _ _ a2)), rfl, rfl⟩⟩ z5
        fun c o e => up5 _ _ (up4 _ _ (up3 _ _ (up2 _ _ (up1 _ _ e))))
    exact key _ _ _ rfl rfl rfl
end
/-- an address of the machine's own -/
noncomputable def Fre (B : Bs) (w : Wd) (a : Addr) : Prop := a ∉ w.σ ∧ w.κ a = none ∧ B.b.get? a = none ∧ a < w.n
theorem Fre.step {B : Bs} {X : Addr → Prop} {w w' : Wd} {s s' : Shared} {a : Addr} (F : Fre B w a) (S : Step X w s w' s') : Fre B w' a := by
  obtain ⟨h1, h2, h3, h4⟩ := F
  refine ⟨fun h => ?_, ?_, h3, Nat.lt_of_lt_of_le h4 S.n⟩
  · rcases S.fσ _ h with h | h
    · exact h1 h
    · exact absurd h4 (Nat.not_lt.mpr h)
  · cases q : w'.κ a with
    | none => rfl
    | some o =>
      rcases S.fκ _ _ q with h | h | h
      · rw [h2] at h; cases h
      · exact absurd h4 (Nat.not_lt.mpr h)
      · exact absurd h h1
noncomputable def zipVs (l m : List V) : List V := (l.zip m).map fun p => V.tup [p.1, p.2]
theorem zipVs_get {l m : List V} {i : Nat} {v : V} (h : (zipVs l m)[i]? = some v) : ∃ a b, l[i]? = some a ∧ m[i]? = some b ∧ v = .tup [a, b] := by
  unfold zipVs at h
  rw [List.getElem?_map, Option.map_eq_some_iff] at h
  obtain ⟨⟨a, b⟩, hj, rfl⟩ := h
  rw [List.getElem?_zip_eq_some] at hj
  exact ⟨a, b, hj.1, hj.2, rfl⟩
structure ZJ (B : Bs) (l m : List V) (z TI TO i1 i2 t1 t2 : Addr) (i : Nat) (w : Wd) (s : Shared) : Prop where
  zs : ∃ f0, ZS s.heap z TI TO i1 i2 t1 t2 i f0 ∧ (f0 = .none ∨ ∃ (T : Addr) (oT : Obj), f0 = rawInt T ∧ w.κ T = some oT)
  fz : Fre B w z
  fTI : Fre B w TI
  fTO : Fre B w TO
  fi1 : Fre B w i1
  fi2 : Fre B w i2
  v1 : VR w (.tup l) (.ref t1)
  v2 : VR w (.tup m) (.ref t2)
  D : ZipApart z TI TO i1 i2 t1 t2
noncomputable abbrev ZY (z TI TO i1 i2 : Addr) : Addr → Prop := fun a => a = z ∨ a = TI ∨ a = TO ∨ a = i1 ∨ a = i2
section
variable {B : Bs} {k : Nat} {env : Env} {ρ : List (Str × V)} {st st₁ st₂ st₃ st' : List O} {pos : Pos} {l m : List V} {z TI TO i1 i2 t1 t2 : Addr} {i : Nat} {w : Wd} {s : Shared}
theorem ZJ.stay {X : Addr → Prop} {w' : Wd} {s' : Shared} (J : ZJ B l m z TI TO i1 i2 t1 t2 i w s) (S : Step X w s w' s') (hX : ∀ a, X a → ¬ ZY z TI TO i1 i2 a) : ZJ B l m z TI TO i1 i2 t1 t2 i w' s' := by
  obtain ⟨⟨f0, ⟨⟨f1, hz⟩, h2, ⟨a, b, h3⟩, ⟨o4, h4, r4⟩, ⟨o5, h5, r5⟩⟩, hf⟩, a1, a2, a3, a4, a5, v1, v2, D⟩ := J
  have kp : ∀ c o, s.heap.get? c = some o → Fre B w c → ZY z TI TO i1 i2 c → s'.heap.get? c = some o := fun c o e f y => S.keep c o e f.1 fun x => hX c x y
  exact ⟨⟨f0, ⟨⟨f1, kp _ _ hz a1 (.inl rfl)⟩, kp _ _ h2 a2 (.inr (.inl rfl)), ⟨a, b, kp _ _ h3 a3 (.inr (.inr (.inl rfl)))⟩, ⟨o4, kp _ _ h4 a4 (.inr (.inr (.inr (.inl rfl)))), r4⟩, ⟨o5, kp _ _ h5 a5 (.inr (.inr (.inr (.inr rfl)))), r5⟩⟩,
    hf.imp id fun ⟨T, oT, e1, e2⟩ => ⟨T, oT, e1, S.κ _ _ e2⟩⟩, a1.step S, a2.step S, a3.step S, a4.step S, a5.step S, v1.mono S.toLe, v2.mono S.toLe, D⟩
theorem ZJ.tups (J : ZJ B l m z TI TO i1 i2 t1 t2 i w s) (C : Core B w st s) : ∃ xs ys, s.heap.IsTuple t1 (List.toArray xs) ∧ VRs w l xs ∧ s.heap.IsTuple t2 (List.toArray ys) ∧ VRs w m ys := by
  obtain ⟨a, xs, e1, h1, h2⟩ := J.v1.isTuple C
  obtain ⟨b, ys, e2, h3, h4⟩ := J.v2.isTuple C
  cases e1; cases e2
  exact ⟨xs, ys, h1, h2, h3, h4⟩
theorem ZJ.next {A : Around} {Q : Option Value → Shared → Prop} {E : Value → Shared → Prop} {v : V} (J : ZJ B l m z TI TO i1 i2 t1 t2 i w s) (C : Core B w st s) (hv : (zipVs l m)[i]? = some v)
    (q : ∀ x w₁ s₁, Core B w₁ st s₁ → Step (ZY z TI TO i1 i2) w s w₁ s₁ → VR w₁ v (.ref x) → ZJ B l m z TI TO i1 i2 t1 t2 (i + 1) w₁ s₁ → Q (some (.ref x)) s₁) : wpAny (model PG B.w) A (pyNext (.ref z)) Q E s := by
  obtain ⟨a, b, ha, hb, rfl⟩ := zipVs_get hv
  obtain ⟨xs, ys, ht1, hv1, ht2, hv2⟩ := J.tups C
  obtain ⟨x, hx, hax⟩ := hv1.get ha
  obtain ⟨y, hy, hby⟩ := hv2.get hb
  obtain ⟨f0, Z, hf⟩ := J.zs
  have hT : s.TypeIs (.ref z) "zip" := let ⟨f1, hz⟩ := Z.zip; ⟨_, hz, rfl⟩
  have fin : ∀ (h' : Heap) (g0 : Value), ZS h' z TI TO i1 i2 t1 t2 (i + 1) g0 → (g0 = .none ∨ ∃ (T : Addr) (oT : Obj), g0 = rawInt T ∧ (T = s.heap.objs.size ∨ w.κ T = some oT)) → IsPair h' s.heap.objs.size x y → h'.objs.size = s.heap.objs.size + 1 →
      (∀ c o, c ≠ z → c ≠ TO → c ≠ i1 → c ≠ i2 → s.heap.get? c = some o → h'.get? c = some o) → Q (some (.ref s.heap.objs.size)) { s with heap := h' } := by
    intro h' g0 Z' hg hp hz hk
    have hk' : ∀ c o, s.heap.get? c = some o → ¬ ZY z TI TO i1 i2 c → h'.get? c = some o := fun c o e n => hk c o (fun x => n (.inl x)) (fun x => n (.inr (.inr (.inl x)))) (fun x => n (.inr (.inr (.inr (.inl x))))) (fun x => n (.inr (.inr (.inr (.inr x))))) e
    have hY : ∀ c, ZY z TI TO i1 i2 c → c ∉ w.σ ∧ w.κ c = none ∧ B.b.get? c = none := fun c h => by
      rcases h with rfl | rfl | rfl | rfl | rfl
      · exact ⟨J.fz.1, J.fz.2.1, J.fz.2.2.1⟩
      · exact ⟨J.fTI.1, J.fTI.2.1, J.fTI.2.2.1⟩
      · exact ⟨J.fTO.1, J.fTO.2.1, J.fTO.2.2.1⟩
      · exact ⟨J.fi1.1, J.fi1.2.1, J.fi1.2.2.1⟩
      · exact ⟨J.fi2.1, J.fi2.2.1, J.fi2.2.2.1⟩
    have C₁ := C.change (tk := s.toks) (by rw [hz]; exact Nat.le_succ _) hk' hY
    have S₁ := Step.change (tk := s.toks) C (by rw [hz]; exact Nat.le_succ _) hk'
    obtain ⟨f1, f2, f3⟩ := fresh_none C (Nat.le_refl s.heap.objs.size)
    have C₂ := C₁.know hp f1
    have S₂ := S₁.know C₁ hp (.inl (Nat.le_of_eq C.n.symm))
    have hne : ∀ c, Fre B w c → c ≠ s.heap.objs.size := fun c h e => by subst e; exact absurd h.2.2.2 (by rw [← C.n]; exact Nat.lt_irrefl _)
    have fr : ∀ c, Fre B w c → Fre B { ({ w with n := h'.objs.size } : Wd) with κ := fun b => if b = s.heap.objs.size then some { cls := .type "tuple", data := .seq #[x, y] } else w.κ b } c := fun c h =>
      ⟨h.1, by show (if c = _ then _ else _) = _; rw [if_neg (hne c h)]; exact h.2.1, h.2.2.1, by show c < h'.objs.size; rw [hz, C.n]; exact Nat.lt_succ_of_lt h.2.2.2⟩
    refine q _ _ _ C₂ S₂ (.tup (if_pos rfl) rfl rfl (.cons (hax.mono S₂.toLe) (.cons (hby.mono S₂.toLe) .nil))) ⟨⟨g0, Z', hg.imp id fun ⟨T, oT, e1, e2⟩ => ?_⟩, fr _ J.fz, fr _ J.fTI, fr _ J.fTO, fr _ J.fi1, fr _ J.fi2, J.v1.mono S₂.toLe, J.v2.mono S₂.toLe, J.D⟩
    rcases e2 with rfl | e2
    · exact ⟨_, _, e1, if_pos rfl⟩
    · exact ⟨T, oT, e1, S₂.κ _ _ e2⟩
  unfold pyNext
  rcases hf with rfl | ⟨T, oT, rfl, hT'⟩
  · exact wpAny_bind (wpAny_attempt (wpAny_callSpecial?_slot (name := Str.ofString "__next__") hT PySem.F.slot_zip_next
      (wpAny_call_entry PySem.F.slot_zip_next hT PySem.F.entry_zip_next
        (zip_free_item J.D Z ht1 ht2 (by simpa using hx) (by simpa using hy) fun h' a1 a2 a3 a4 => wpAny_pure (fin h' _ a1 (.inr ⟨s.heap.objs.size, { cls := .none, data := .plain }, rfl, .inl rfl⟩) a2 a3 a4)) (PySem.F.args_zip_next_1 _))))
  · exact wpAny_bind (wpAny_attempt (wpAny_callSpecial?_slot (name := Str.ofString "__next__") hT PySem.F.slot_zip_next
      (wpAny_call_entry PySem.F.slot_zip_next hT PySem.F.entry_zip_next
        (zip_held_item J.D (C.kp _ _ hT') Z ht1 ht2 (by simpa using hx) (by simpa using hy) fun h' a1 a2 a3 a4 => wpAny_pure (fin h' _ a1 (.inr ⟨T, oT, rfl, .inr hT'⟩) a2 a3 a4)) (PySem.F.args_zip_next_1 _))))
theorem ZJ.fin {A : Around} {Q : Option Value → Shared → Prop} {E : Value → Shared → Prop} (hh : A.handled = none) (J : ZJ B l m z TI TO i1 i2 t1 t2 i w s) (C : Core B w st s) (hv : (zipVs l m).length ≤ i)
    (q : ∀ w₁ s₁, Core B w₁ st s₁ → Step (ZY z TI TO i1 i2) w s w₁ s₁ → Q none s₁) : wpAny (model PG B.w) A (pyNext (.ref z)) Q E s := by
  obtain ⟨xs, ys, ht1, hv1, ht2, hv2⟩ := J.tups C
  have hend : (List.toArray xs)[i]? = none ∨ (List.toArray ys)[i]? = none := by
    unfold zipVs at hv
    rw [List.length_map, List.length_zip] at hv
    rcases Nat.le_total l.length m.length with h | h
    · left; rw [List.getElem?_toArray]; exact hv1.getNone (by omega)
    · right; rw [List.getElem?_toArray]; exact hv2.getNone (by omega)
  obtain ⟨f0, Z, hf⟩ := J.zs
  have hT : s.TypeIs (.ref z) "zip" := let ⟨f1, hz⟩ := Z.zip; ⟨_, hz, rfl⟩
  unfold pyNext
  refine wpAny_size (wpAny_bind (wpAny_attempt (wpAny_callSpecial?_slot (name := Str.ofString "__next__") hT PySem.F.slot_zip_next
    (wpAny_call_entry PySem.F.slot_zip_next hT PySem.F.entry_zip_next (zip_tup_end hh J.D (hf.imp id fun ⟨T, oT, e1, e2⟩ => ⟨T, oT, e1, C.kp _ _ e2⟩) Z ht1 ht2 hend fun h' e hk he => ?_) (PySem.F.args_zip_next_1 _)))))
  obtain ⟨o, ho, hc⟩ := he
  refine wpAny_bind (wpAny_isInstance (T := "StopIteration") (b := true) ⟨o, ho, hc⟩ isSubtype_stop ?_)
  refine wpAny_pure fun hz => ?_
  have hk' : ∀ c o, s.heap.get? c = some o → ¬ ZY z TI TO i1 i2 c → h'.get? c = some o := fun c o e n => hk c o (fun x => n (.inl x)) (fun x => n (.inr (.inr (.inl x)))) (fun x => n (.inr (.inr (.inr (.inl x))))) (fun x => n (.inr (.inr (.inr (.inr x))))) e
  have hY : ∀ c, ZY z TI TO i1 i2 c → c ∉ w.σ ∧ w.κ c = none ∧ B.b.get? c = none := fun c h => by
    rcases h with rfl | rfl | rfl | rfl | rfl
    · exact ⟨J.fz.1, J.fz.2.1, J.fz.2.2.1⟩
    · exact ⟨J.fTI.1, J.fTI.2.1, J.fTI.2.2.1⟩
    · exact ⟨J.fTO.1, J.fTO.2.1, J.fTO.2.2.1⟩
    · exact ⟨J.fi1.1, J.fi1.2.1, J.fi1.2.2.1⟩
    · exact ⟨J.fi2.1, J.fi2.2.1, J.fi2.2.2.1⟩
  exact q _ _ (C.change (tk := s.toks) hz hk' hY) (Step.change (tk := s.toks) C hz hk')
theorem ZJ.letGo {A : Around} {Q : Unit → Shared → Prop} {E : Value → Shared → Prop} {t : Expr} {x : Value} (J : ZJ B l m z TI TO i1 i2 t1 t2 i w s) (C : Core B w st s)
    (q : ∀ s₁, Core B w st s₁ → Step (ZY z TI TO i1 i2) w s w s₁ → ZJ B l m z TI TO i1 i2 t1 t2 i w s₁ → Q () s₁) : wpAny (model PG B.w) A (letOwnedTupleGo t (.ref z) x) Q E s := by
  have stay : Q () s := q s C (.refl w s) J
  obtain ⟨f0, ⟨⟨f1, hz⟩, h2, h3, h4, h5⟩, hf⟩ := J.zs
  have set : wpAny (model PG B.w) A (setField (.ref z) 0 .none) Q E s := wpAny_setField_rec hz (by simp) fun h' hz' hs => by
    have hz' : ZAt h' z TI TO .none f1 := hz'
    have hk' : ∀ c o, s.heap.get? c = some o → ¬ (c = z) → h'.get? c = some o := fun c o e n => (hs.2 c n).trans e
    have C₁ := C.change (Y := fun a => a = z) (tk := s.toks) (Nat.le_of_eq hs.1.symm) hk' (fun a e => by subst e; exact ⟨J.fz.1, J.fz.2.1, J.fz.2.2.1⟩)
    have S₁ := Step.change (Y := fun a => a = z) (tk := s.toks) C (Nat.le_of_eq hs.1.symm) hk'
    rw [hs.1, C.n] at C₁ S₁
    obtain ⟨a, b, h3⟩ := h3
    exact q _ C₁ (S₁.weaken fun _ e => .inl e) ⟨⟨.none, ⟨⟨f1, hz'⟩, hs.extBut _ _ J.D.TIz h2, ⟨a, b, hs.extBut _ _ J.D.TOz h3⟩, h4.extBut hs.extBut J.D.i1z, h5.extBut hs.extBut J.D.i2z⟩, .inl rfl⟩, J.fz, J.fTI, J.fTO, J.fi1, J.fi2, J.v1, J.v2, J.D⟩
  unfold letOwnedTupleGo
  cases t <;> first
    | exact wpAny_pure stay
    | (cases x <;> first
        | exact wpAny_pure stay
        | (refine wpAny_bind (wpAny_load hz ?_)
           dsimp only
           refine wpAny_ite_split (fun _ => wpAny_bind (wpAny_rule set)) (fun _ => wpAny_pure stay)))
theorem ZJ.its (hlo : ∀ a, ZY z TI TO i1 i2 a → s.heap.objs.size ≤ a) {w' : Wd} {s' : Shared} (J : ZJ B l m z TI TO i1 i2 t1 t2 0 w' s') : Its B k (fun _ => True) (zipVs l m) (.ref z) s.heap.objs.size w' s' := by
  refine ⟨fun i w s => ZJ B l m z TI TO i1 i2 t1 t2 i w s, ZY z TI TO i1 i2, ⟨?_, ?_, ?_, ?_⟩, fun a h => ⟨hlo a h, ?_⟩, J⟩
  · intro i w s st v target A Q E hJ C _ hv hA q
    exact hJ.next C hv fun x w₁ s₁ C₁ S₁ r₁ J₁ => J₁.letGo C₁ fun s₂ C₂ S₂ J₂ => q _ w₁ s₂ C₂ (S₁.trans C S₂) r₁ J₂
  · intro i w s st A Q E hJ C _ hv hA q
    exact hJ.fin hA.handled C hv fun w₁ s₁ C₁ S₁ => ⟨rfl, q w₁ s₁ C₁ S₁⟩
  · intro i w s st A Q E hJ C _ hA q
    obtain ⟨f0, ⟨⟨f1, hz⟩, _⟩, _⟩ := hJ.zs
    have hT : s.TypeIs (.ref z) "zip" := ⟨_, hz, rfl⟩
    refine wpAny_pyIter_slot hT PySem.F.slot_zip_iter (wpAny_call_entry PySem.F.slot_zip_iter hT PySem.F.entry_zip_iter ?_ (PySem.F.args_zip_iter_1 _))
    show wpAny _ _ (ret (.ref z)) _ _ s
    exact wpAny_pure ⟨_, rfl, "zip", _, hT, PySem.F.slot_zip_next.lookup, q⟩
  · intro X i w s w' s' hJ S hX
    exact hJ.stay S hX
  · rcases h with rfl | rfl | rfl | rfl | rfl
    · exact J.fz.2.2.2
    · exact J.fTI.2.2.2
    · exact J.fTO.2.2.2
    · exact J.fi1.2.2.2
    · exact J.fi2.2.2.2
theorem zip_call {A : Around} {Q : Value → Shared → Prop} {E : Value → Shared → Prop} {x y : Value} (C : Core B w st s) (hx : VR w (.tup l) x) (hy : VR w (.tup m) y)
    (q : ∀ z TI TO i1 i2 t1 t2 w' s', Core B w' st s' → Step NoX w s w' s' → (∀ a, ZY z TI TO i1 i2 a → s.heap.objs.size ≤ a) → ZJ B l m z TI TO i1 i2 t1 t2 0 w' s' → Q (.ref z) s') : wpAny (model PG B.w) A (call (.type "zip") [x, y]) Q E s := by
  obtain ⟨t1, xs, rfl, ht1, hv1⟩ := hx.isTuple C
  obtain ⟨t2, ys, rfl, ht2, hv2⟩ := hy.isTuple C
  have lt1 : t1 < s.heap.objs.size := let ⟨_, e, _⟩ := ht1; Heap.lt_size e
  have lt2 : t2 < s.heap.objs.size := let ⟨_, e, _⟩ := ht2; Heap.lt_size e
  refine callType_new PySem.F.called_zip (by decide) (PySem.F.typeCall_zip_2 _ _) (PySem.F.newCall_zip_2 _ _) (fun obj => PySem.F.args_object_init_3 obj _ _) PySem.F.entry_zip_new
    (meets_zip_tup t1 t2 xs.toArray ys.toArray) ⟨ht1, ht2, fun h' Z hz hk => ?_⟩
  have C₁ := C.grow (tk := s.toks) (by rw [hz]; omega) hk
  have S₁ := Step.grow (X := NoX) (tk := s.toks) C (by rw [hz]; omega) hk
  have fr : ∀ a, s.heap.objs.size ≤ a → a < h'.objs.size → Fre B { w with n := h'.objs.size } a := fun a h1 h2 => let ⟨f1, f2, f3⟩ := fresh_none C h1; ⟨f1, f2, f3, h2⟩
  obtain ⟨f1, hz'⟩ := Z.zip
  refine ⟨⟨_, hz', rfl⟩, q _ _ _ _ _ t1 t2 _ _ C₁ S₁ (fun a h => ?_) ⟨⟨.none, Z, .inl rfl⟩, fr _ (by omega) (by omega), fr _ (by omega) (by omega), fr _ (by omega) (by omega), fr _ (by omega) (by omega), fr _ (by omega) (by omega), hx.mono S₁.toLe, hy.mono S₁.toLe, zipApart_new lt1 lt2⟩⟩
  rcases h with rfl | rfl | rfl | rfl | rfl <;> omega
end
theorem zip_no_len : typeLookup (.type "zip") "__len__" = pure none := by rw [typeLookup_type, builtinLookup_eq_fast]; kernel_rfl
theorem zip_no_hint : typeLookup (.type "zip") "__length_hint__" = pure none := by rw [typeLookup_type, builtinLookup_eq_fast]; kernel_rfl
section
variable {B : Bs} {k : Nat} {env : Env} {ρ : List (Str × V)} {st st₁ st₂ st₃ st' : List O} {pos : Pos} {l m : List V}
noncomputable def EvZ (B : Bs) (k : Nat) (env : Env) (e : Expr) (ρ : List (Str × V)) (st : List O) (l m : List V) (st₁ : List O) : Prop :=
  ∀ w s, Core B w st s → Frm B env w ρ s → ∀ (A : Around) (Q : Value → Shared → Prop) (E : Value → Shared → Prop), Room k A →
    (∀ z TI TO i1 i2 t1 t2 w' s', Core B w' st₁ s' → Step NoX w s w' s' → (∀ a, ZY z TI TO i1 i2 a → s.heap.objs.size ≤ a) → ZJ B l m z TI TO i1 i2 t1 t2 0 w' s' → Q (.ref z) s') → wpAny (model PG B.w) A (eval e env) Q E s
theorem EvZ.call {x : Str} {p : Pos} {es : List Expr} (hf : Ev B k env (.Name x p) ρ st (.glob (.type "zip")) st) (hn : noStars es = true) (ha : Evs B k env es ρ st [.tup l, .tup m] st₁) : EvZ B k env (.Call (.Name x p) es [] pos) ρ st l m st₁ := fun w s C F A Q E hA q =>
  Call_ (hf w s C F A _ E hA fun y w₁ s₁ C₁ S₁ r₁ => by
    cases r₁
    exact CW.typ (B := B) A _ E s₁ pos env es [] hn (ha pos w₁ s₁ C₁ (F.stepN S₁) A _ E hA fun xs w₂ s₂ C₂ S₂ r₂ => ⟨C₂.base, by
      cases r₂ with
      | cons h1 h2 => cases h2 with
        | cons h2 h3 =>
          cases h3
          refine zip_call C₂ h1 h2 fun z TI TO i1 i2 t1 t2 w₃ s₃ C₃ S₃ hY J => q z TI TO i1 i2 t1 t2 w₃ s₃ C₃ ((S₁.trans C S₂).trans C S₃) (fun a h => Nat.le_trans ?_ (hY a h)) J
          rw [C.n, C₂.n]; exact (S₁.trans C S₂).n⟩) _)
theorem X1.forZ {t e : Expr} {b : List Stmt} {r : Fl} {ρ' : List (Str × V)} (h : EvZ B k env e ρ st l m st₁) (hf : FoR B k env t b (fun _ => True) (zipVs l m) ρ st₁ r ρ' st')
    (hs : ∀ x, foldedSetIterable e env x = pure x) : X1 B k env (.For t e b [] pos) ρ st r ρ' st' := fun w s C F A Q E hA q =>
  wpAny_For (h w s C F A _ E hA fun z TI TO i1 i2 t1 t2 w₁ s₁ C₁ S₁ hY J₁ => by
    obtain ⟨J, Y, I, hY', hJ⟩ := ZJ.its (k := k) (s := s) hY J₁
    refine I.self 0 w₁ s₁ st₁ A _ E hJ C₁ trivial hA ?_
    have F₁ := F.stepN S₁
    refine hf.code I (fun a ha hy => ?_) 0 w₁ s₁ A _ rfl hJ C₁ F₁ hA fun fl w₃ s₃ C₃ S₃ F₃ r₃ => q fl w₃ s₃ C₃ ?_ ⟨F₃, r₃⟩
    · have h1 := (hY' a hy).1
      rw [C.n] at h1
      rcases ha with rfl | ⟨x, hx⟩
      · exact absurd F.L.2.2.2 (Nat.not_lt.mpr h1)
      · exact absurd (F.cl x a hx).2.2.2.1 (Nat.not_lt.mpr h1)
    · exact (S₁.weaken fun _ z => z.elim).drop C S₃ fun a ha => (hY' a ha).1) hs
theorem listZ_loop {z TI TO i1 i2 t1 t2 : Addr} {S : Addr} {res : Value} {A : Around} {R : Result → Shared → Prop} (hh : A.handled = none) (hsz : (zipVs l m).length ≤ 1000) (hSY : ¬ ZY z TI TO i1 i2 S) :
    ∀ (n i : Nat) (w : Wd) (s : Shared) (acc : List Value) (c : Nat), n + i = (zipVs l m).length → Core B w st s → ZJ B l m z TI TO i1 i2 t1 t2 i w s → Fre B w S → s.heap.get? S = some (listOf acc.toArray c) → VRs w ((zipVs l m).take i) acc →
      (∀ w' s' acc' c', Core B w' st s' → Step (fun a => ZY z TI TO i1 i2 a ∨ a = S) w s w' s' → Fre B w' S → s'.heap.get? S = some (listOf (List.toArray acc') c') → VRs w' (zipVs l m) acc' → R (.ok (.ret res)) s') →
      codeAny (model PG B.w) A (.builtin "list.extend.loop" ⟨[.ref S, .ref z, res], []⟩) R s := by
  intro n
  induction n with
  | zero =>
    intro i w s acc c hn C J fS hS hv q
    refine codeAny_builtin PySem.F.entry_extend_loop ?_
    rw [Around.under_plainId PySem.F.plain_extend_loop _]
    show wpAny _ A.in1 (pyNext (.ref z) >>= _) _ _ s
    refine wpAny_bind (J.fin hh C (by omega) fun w₁ s₁ C₁ S₁ => wpAny_pure (q w₁ s₁ acc c C₁ (S₁.weaken fun _ h => .inl h) (fS.step S₁) (S₁.keep _ _ hS fS.1 hSY) ?_))
    rw [List.take_of_length_le (by omega)] at hv
    exact hv.mono S₁.toLe
  | succ n ih =>
    intro i w s acc c hn C J fS hS hv q
    refine codeAny_builtin PySem.F.entry_extend_loop ?_
    rw [Around.under_plainId PySem.F.plain_extend_loop _]
    show wpAny _ A.in1 (pyNext (.ref z) >>= _) _ _ s
    have hi : i < (zipVs l m).length := by omega
    have hget : (zipVs l m)[i]? = some (zipVs l m)[i] := List.getElem?_eq_getElem hi
    refine wpAny_bind (J.next C hget fun x w₁ s₁ C₁ S₁ r₁ J₁ => ?_)
    have hS₁ := S₁.keep _ _ hS fS.1 hSY
    have fS₁ := fS.step S₁
    have hlen := hv.length
    rw [List.length_take] at hlen
    have hz : sizeLine = 16777216 := by decide
    show wpAny _ A.in1 (updateSeq S (·.push (.ref x)) >>= _) _ _ _
    refine wpAny_bind (wpAny_updateSeq hS₁ rfl (wpAny_pure ⟨plainId_quiet PySem.F.plain_extend_loop _, ?_⟩) (by rw [List.size_toArray]; omega) (by rw [Array.size_push, List.size_toArray]; omega))
    obtain ⟨n', hm⟩ := mapSeq_list (·.push (.ref x)) acc.toArray c
    have hs : Heap.SameBut S s₁.heap (s₁.heap.update S (Obj.mapSeq (·.push (.ref x)))) := Heap.SameBut.update ..
    have hg : (s₁.heap.update S (Obj.mapSeq (·.push (.ref x)))).get? S = some (listOf (List.toArray (acc ++ [.ref x])) n') := by
      rw [Heap.get?_update_self _ hS₁ (by rw [hm]; rfl), hm]; simp
    generalize hH : s₁.heap.update S (Obj.mapSeq (·.push (.ref x))) = H at hs hg
    have hk' : ∀ c o, s₁.heap.get? c = some o → ¬ (c = S) → H.get? c = some o := fun c o e n => (hs.2 c n).trans e
    have C₂ := C₁.change (Y := fun a => a = S) (tk := s₁.toks) (Nat.le_of_eq hs.1.symm) hk' (fun a e => by subst e; exact ⟨fS₁.1, fS₁.2.1, fS₁.2.2.1⟩)
    have S₂ := Step.change (Y := fun a => a = S) (tk := s₁.toks) C₁ (Nat.le_of_eq hs.1.symm) hk'
    have J₂ := J₁.stay S₂ fun a e h => hSY (e ▸ h)
    have SS := (S₁.weaken (Y := fun a => ZY z TI TO i1 i2 a ∨ a = S) fun _ h => .inl h).trans C (S₂.weaken fun _ h => .inr h)
    refine ih (i + 1) _ _ (acc ++ [.ref x]) n' (by omega) C₂ J₂ (fS₁.step S₂) hg ?_ fun w' s' acc' c' C' S' f' h' v' => q w' s' acc' c' C' (SS.trans C S') f' h' v'
    rw [List.take_succ_eq_append_getElem hi]
    exact (hv.mono SS.toLe).append1 (r₁.mono S₂.toLe)
/-- list(zip(..)) -/
theorem Ev.listZ {x : Str} {p : Pos} {e : Expr} (hf : Ev B k env (.Name x p) ρ st (.glob (.type "list")) st) (he : isStar e = false) (h : EvZ B k env e ρ st l m st₁) (hsz : (zipVs l m).length ≤ 1000) :
    Ev B k env (.Call (.Name x p) [e] [] pos) ρ st (.ref st₁.length) (st₁ ++ [.list (zipVs l m)]) := fun w s C F A Q E hA q =>
  Call_ (hf w s C F A _ E hA fun y w₁ s₁ C₁ S₁ r₁ => by
    cases r₁
    refine CW.typ (B := B) A _ E s₁ pos env [e] [] (by simp [noStars, he]) ?_ _
    rw [starEach_cons he]
    refine spliced_cons (h w₁ s₁ C₁ (F.stepN S₁) A _ E hA fun z TI TO i1 i2 t1 t2 w₂ s₂ C₂ S₂ hY J => spliced_nil ⟨C₂.base, ?_⟩)
    have SS := S₁.trans C S₂
    have le2 : w.n ≤ s₂.heap.objs.size := by rw [C₂.n]; exact SS.n
    refine callType_codes (Q₁ := fun obj s' => obj = .ref s₂.heap.objs.size ∧ s' = { s₂ with heap := s₂.heap.push { cls := .type "list", data := .seq #[] } }) PySem.F.called_list (PySem.F.typeCall_list_1 _) PySem.F.entry_list_init
      (code_list_new _ ⟨rfl, rfl⟩) fun obj s' h₁ => ?_
    obtain ⟨rfl, rfl⟩ := h₁
    have hS : (s₂.heap.push { cls := .type "list", data := .seq #[] }).get? s₂.heap.objs.size = some (listOf #[] 0) := Heap.get?_push_size _ rfl
    have hz2 : s₂.heap.objs.size ≤ (s₂.heap.push { cls := .type "list", data := .seq #[] }).objs.size := by rw [Heap.size_push]; exact Nat.le_succ _
    have hk2 : ∀ b o, s₂.heap.get? b = some o → (s₂.heap.push { cls := .type "list", data := .seq #[] }).get? b = some o := fun a o e => Heap.get?_push_of_some _ e
    have C₃ := C₂.grow (tk := s₂.toks) hz2 hk2
    have S₃ := Step.grow (X := NoX) (tk := s₂.toks) C₂ hz2 hk2
    obtain ⟨f1, f2, f3⟩ := fresh_none C₂ (Nat.le_refl s₂.heap.objs.size)
    have J₃ := J.stay S₃ fun _ h => h.elim
    have hne : ∀ c, Fre B w₂ c → c ≠ s₂.heap.objs.size := fun c h e => by subst e; exact absurd h.2.2.2 (by rw [← C₂.n]; exact Nat.lt_irrefl _)
    have hSY : ¬ ZY z TI TO i1 i2 s₂.heap.objs.size := fun h => by
      rcases h with h | h | h | h | h
      · exact hne _ J.fz h.symm
      · exact hne _ J.fTI h.symm
      · exact hne _ J.fTO h.symm
      · exact hne _ J.fi1 h.symm
      · exact hne _ J.fi2 h.symm
    generalize hH : s₂.heap.push { cls := .type "list", data := .seq #[] } = H at hS hz2 hk2 C₃ S₃ J₃ ⊢
    generalize hSS : s₂.heap.objs.size = S at *
    refine ⟨⟨_, hS, rfl⟩, PySem.F.args_list_init_2 _ _, ?_⟩
    show wpAny _ _ (do let old ← Builtin.List.listItems (.ref S); Builtin.List.listUpdate (.ref S) (fun _ => #[]); letGo old.toList.reverse; Builtin.List.listExtendWith (.ref S) (.ref z) .none) _ _ _
    refine wpAny_bind ?_
    unfold Builtin.List.listItems
    refine wpAny_bind (wpAny_seqItems hS rfl (wpAny_pure ?_))
    show wpAny _ _ (updateSeq S (fun _ => #[]) >>= fun _ => letGo (#[] : Array Value).toList.reverse >>= fun _ => Builtin.List.listExtendWith (.ref S) (.ref z) .none) _ _ _
    refine wpAny_bind (wpAny_updateSeq hS rfl ?_)
    obtain ⟨c4, hm4⟩ := mapSeq_list (fun _ => (#[] : Array Value)) #[] 0
    have hS₄ : (H.update S (Obj.mapSeq (fun _ => (#[] : Array Value)))).get? S = some (listOf #[] c4) := by rw [Heap.get?_update_self _ hS (by rw [hm4]; rfl), hm4]
    have hs₄ : Heap.SameBut S H (H.update S (Obj.mapSeq (fun _ => (#[] : Array Value)))) := Heap.SameBut.update ..
    generalize H.update S (Obj.mapSeq (fun _ => (#[] : Array Value))) = H4 at hS₄ hs₄ ⊢
    refine wpAny_bind (wpAny_letGo ?_)
    have fS₃ : Fre B { w₂ with n := H.objs.size } S := ⟨f1, f2, f3, by show S < H.objs.size; exact Heap.lt_size hS⟩
    have hk4 : ∀ c o, H.get? c = some o → ¬ (c = S) → H4.get? c = some o := fun c o e n => (hs₄.2 c n).trans e
    have C₄ := C₃.change (Y := fun a => a = S) (tk := s₂.toks) (h := H4) (Nat.le_of_eq hs₄.1.symm) hk4 (fun a e => by subst e; exact ⟨f1, f2, f3⟩)
    have S₄ := Step.change (Y := fun a => a = S) (tk := s₂.toks) (h := H4) C₃ (Nat.le_of_eq hs₄.1.symm) hk4
    have J₄ := J₃.stay S₄ fun a e h => hSY (e ▸ h)
    have fS₄ := fS₃.step S₄
    unfold Builtin.List.listExtendWith
    have hT : ∀ {s' : Shared} {w' : Wd} {i : Nat}, ZJ B l m z TI TO i1 i2 t1 t2 i w' s' → s'.TypeIs (.ref z) "zip" := fun J => let ⟨f0, Z, _⟩ := J.zs; let ⟨f1, hz⟩ := Z.zip; ⟨_, hz, rfl⟩
    refine wpAny_bind (wpAny_typeOf (hT J₄) ?_)
    have h1 : Builtin.List.listSameRef (.ref S) (.ref z) = false := by
      have : S ≠ z := fun e => hSY (.inl e)
      simp [Builtin.List.listSameRef, this]
    have h2 : (Value.type "zip" == Value.type "list") = false := by decide
    have h3 : (Value.type "zip" == Value.type "tuple") = false := by decide
    simp only [h1, h2, h3, Bool.or_false, Bool.false_eq_true, if_false]
    refine wpAny_bind (wpAny_pyIter_slot (hT J₄) PySem.F.slot_zip_iter (wpAny_call_entry PySem.F.slot_zip_iter (hT J₄) PySem.F.entry_zip_iter ?_ (PySem.F.args_zip_iter_1 _)))
    show wpAny _ _ (ret (.ref z)) _ _ _
    refine wpAny_pure ⟨_, rfl, "zip", _, hT J₄, PySem.F.slot_zip_next.lookup, ?_⟩
    refine wpAny_bind (wpAny_holding ?_)
    unfold Builtin.List.listLengthHint
    refine wpAny_bind (wpAny_specialOf (hT J₄) zip_no_len ?_)
    show wpAny _ _ (specialOf (Value.ref z) (Str.ofString "__length_hint__") >>= _) _ _ _
    refine wpAny_bind (wpAny_specialOf (hT J₄) zip_no_hint ?_)
    refine wpAny_pure ?_
    show wpAny _ _ (rule "list.extend.makes-room" >>= fun _ => Builtin.List.listTouch (.ref S) >>= fun _ => again (.builtin "list.extend.loop" ⟨[.ref S, .ref z, .none], []⟩)) _ _ _
    refine wpAny_bind (wpAny_rule ?_)
    refine wpAny_bind ?_
    show wpAny _ _ (updateSeq S (·.push .none) >>= fun _ => updateSeq S (·.pop)) _ _ _
    refine wpAny_bind (wpAny_updateSeq hS₄ rfl ?_)
    obtain ⟨c5, hm5⟩ := mapSeq_list (·.push Value.none) #[] c4
    have hS₅ : (H4.update S (Obj.mapSeq (·.push Value.none))).get? S = some (listOf #[Value.none] c5) := by rw [Heap.get?_update_self _ hS₄ (by rw [hm5]; rfl), hm5]; rfl
    have hs₅ : Heap.SameBut S H4 (H4.update S (Obj.mapSeq (·.push Value.none))) := Heap.SameBut.update ..
    generalize H4.update S (Obj.mapSeq (·.push Value.none)) = H5 at hS₅ hs₅ ⊢
    refine wpAny_updateSeq hS₅ rfl ?_
    obtain ⟨c6, hm6⟩ := mapSeq_list (·.pop) #[Value.none] c5
    have hS₆ : (H5.update S (Obj.mapSeq (·.pop))).get? S = some (listOf (List.toArray []) c6) := by rw [Heap.get?_update_self _ hS₅ (by rw [hm6]; rfl), hm6]; rfl
    have hs₆ : Heap.SameBut S H5 (H5.update S (Obj.mapSeq (·.pop))) := Heap.SameBut.update ..
    generalize H5.update S (Obj.mapSeq (·.pop)) = H6 at hS₆ hs₆ ⊢
    have hs₇ := hs₅.trans hs₆
    have hk7 : ∀ c o, H4.get? c = some o → ¬ (c = S) → H6.get? c = some o := fun c o e n => (hs₇.2 c n).trans e
    have C₇ := C₄.change (Y := fun a => a = S) (tk := s₂.toks) (h := H6) (Nat.le_of_eq hs₇.1.symm) hk7 (fun a e => by subst e; exact ⟨fS₄.1, fS₄.2.1, fS₄.2.2.1⟩)
    have S₇ := Step.change (Y := fun a => a = S) (tk := s₂.toks) (h := H6) C₄ (Nat.le_of_eq hs₇.1.symm) hk7
    have J₇ := J₄.stay S₇ fun a e h => hSY (e ▸ h)
    have fS₇ := fS₄.step S₇
    refine wpAny_pure ⟨plainId_quiet PySem.F.plain_extend_loop _, listZ_loop (A := A.in1) (show A.in1.handled = Option.none from hA.handled) hsz hSY (zipVs l m).length 0 _ _ [] c6 rfl C₇ J₇ fS₇ hS₆ .nil fun w' s' acc' c' C' S' f' h' v' => ⟨rfl, ?_⟩⟩
    have lo : ∀ a, (ZY z TI TO i1 i2 a ∨ a = S) → s.heap.objs.size ≤ a := fun a h => by
      rcases h with h | rfl
      · exact Nat.le_trans (by rw [C.n, C₁.n]; exact S₁.n) (hY a h)
      · rw [C.n]; exact le2
    have weak : ∀ {X : Addr → Prop} {w w' : Wd} {s s' : Shared}, Step (fun a => a = S) w s w' s' → Step (fun a => NoX a ∨ (ZY z TI TO i1 i2 a ∨ a = S)) w s w' s' := fun S => S.weaken fun _ h => .inr (.inr h)
    have T₃ := SS.trans C S₃
    have T := ((T₃.drop C (weak (X := NoX) S₄) lo).drop C (weak (X := NoX) S₇) lo).drop C (S'.weaken fun _ h => .inr h) lo
    have C₈ := C'.new h' f'.1 f'.2.1 f3 (beq_eq_false_iff_ne.mpr (Nat.ne_of_gt (Nat.lt_of_lt_of_le (C.n ▸ C.sm) (lo S (.inr rfl))))) (o := .list (zipVs l m)) ⟨acc', c', rfl, v'.mono .new⟩
    have S₈ := T.new (a := S) (by rw [← C.n]; exact lo S (.inr rfl))
    refine q _ _ _ C₈ S₈ (.ref ?_)
    show (w'.σ ++ [S])[st₁.length]? = _
    rw [← C'.len]; simp)
end
section
variable {B : Bs} {k : Nat} {env : Env} {ρ : List (Str × V)} {st st₁ st₂ st₃ st' : List O} {pos : Pos}
theorem Ev.cast {e : Expr} {v v' : V} (h : Ev B k env e ρ st v st') (q : v = v') : Ev B k env e ρ st v' st' := q ▸ h
theorem Ev.le {j : Nat} {e : Expr} {v : V} (h : Ev B j env e ρ st v st') (l : j ≤ k) : Ev B k env e ρ st v st' := fun w s C F => (h w s C F).le l
theorem Tr.cast {e : Expr} {b b' : Bool} (h : Tr B k env e ρ st b st') (q : b = b') : Tr B k env e ρ st b' st' := q ▸ h
theorem FnC.cast {f : Value} {vs : List V} {v v' : V} (h : FnC B k f vs st v st') (q : v = v') : FnC B k f vs st v' st' := q ▸ h
theorem Fn.cast {f : Value} {vs : List V} {v v' : V} (h : Fn B k f vs st v st') (q : v = v') : Fn B k f vs st v' st' := q ▸ h
theorem Op2.cast {t : Value → Value → Sem Value} {a b c c' : V} (h : Op2 B k t a b st c) (q : c = c') : Op2 B k t a b st c' := q ▸ h
theorem Xs.one {c : Stmt} {ρ' : List (Str × V)} {r : Fl} (h : X1 B k env c ρ st r ρ' st') : Xs B k env [c] ρ st r ρ' st' := fun w s C F A Q E hA q => by
  rw [execs_cons]
  refine wpAny_bind (h w s C F A _ E hA fun fl w₁ s₁ C₁ S₁ r₁ => ?_)
  have h2 := r₁.2
  cases h2
  · exact wpAny_execs_nil (q _ w₁ s₁ C₁ S₁ r₁)
  all_goals exact wpAny_pure (q _ w₁ s₁ C₁ S₁ r₁)
/-- the behaviour of a block as a whole, its names known after up to others -/
theorem Xs.castρ {cs : List Stmt} {ρ' ρ'' : List (Str × V)} {r : Fl} (h : Xs B k env cs ρ st r ρ' st') (q : ρ' = ρ'') : Xs B k env cs ρ st r ρ'' st' := q ▸ h
end
section
variable {B : Bs} {k : Nat} {env : Env} {ρ : List (Str × V)} {st st₁ st₂ st₃ st' : List O} {pos : Pos}
theorem lookup_append {α : Type} {x : Str} {u : α} : ∀ {l r : List (Str × α)}, l.lookup x = some u → (l ++ r).lookup x = some u
  | [], _, h => by cases h
  | (y, v) :: l, r, h => by
    rw [List.cons_append, List.lookup_cons]
    rw [List.lookup_cons] at h
    cases e : x == y with
    | true => rw [e] at h; exact h
    | false => rw [e] at h; exact lookup_append h
theorem Frm.less {w : Wd} {s : Shared} {ρ₂ : List (Str × V)} (F : Frm B env w ρ s) (hρ : ∀ x u, ρ₂.lookup x = some u → ρ.lookup x = some u) : Frm B env w ρ₂ s :=
  { F with ns := let ⟨m, hn, hm⟩ := F.ns; ⟨m, hn, fun x u e => hm x u (hρ x u e)⟩ }
/-- names forgotten behind a block -/
theorem Xs.post {cs : List Stmt} {ρ₁ ρ₂ ex : List (Str × V)} {r : Fl} (h : Xs B k env cs ρ st r ρ₂ st') (q : ρ₂ = ρ₁ ++ ex) : Xs B k env cs ρ st r ρ₁ st' := fun w s C F A Q E hA p =>
  h w s C F A Q E hA fun fl w' s' C' S' r' => p fl w' s' C' S' ⟨r'.1.less fun x u e => by rw [q]; exact lookup_append e, r'.2⟩
/-- the block ends as r says, whatever its names -/
noncomputable def XE (B : Bs) (k : Nat) (env : Env) (cs : List Stmt) (ρ : List (Str × V)) (st : List O) (r : Fl) (st' : List O) : Prop := ∃ ρ', Xs B k env cs ρ st r ρ' st'
theorem XE.nil : XE B k env [] ρ st .next st := ⟨_, Xs.nil⟩
theorem XE.cons {c : Stmt} {cs : List Stmt} {ρ₁ : List (Str × V)} {r : Fl} (h : X1 B k env c ρ st .next ρ₁ st₁) (hs : XE B k env cs ρ₁ st₁ r st') : XE B k env (c :: cs) ρ st r st' := let ⟨_, hs⟩ := hs; ⟨_, Xs.cons h hs⟩
theorem XE.stop {c : Stmt} {cs : List Stmt} {ρ₁ : List (Str × V)} {r : Fl} (h : X1 B k env c ρ st r ρ₁ st') (hr : r ≠ .next) : XE B k env (c :: cs) ρ st r st' := ⟨_, Xs.stop h hr⟩
theorem XE.ret {e : Expr} {cs : List Stmt} {v : V} (h : Ev B k env e ρ st v st₁) : XE B k env (.Return (some e) pos :: cs) ρ st (.ret v) st₁ := ⟨_, Xs.stop (X1.ret h) (fun e => by cases e)⟩
theorem XE.if {t : Expr} {x y cs : List Stmt} {b : Bool} {r : Fl} (ht : Tr B k env t ρ st b st₁) (h1 : b = true → (XE B k env x ρ st₁ r st' ∧ r ≠ .next) ∨ ∃ ρ₁ st₂, Xs B k env x ρ st₁ .next ρ₁ st₂ ∧ XE B k env cs ρ₁ st₂ r st')
    (h2 : b = false → (XE B k env y ρ st₁ r st' ∧ r ≠ .next) ∨ ∃ ρ₁ st₂, Xs B k env y ρ st₁ .next ρ₁ st₂ ∧ XE B k env cs ρ₁ st₂ r st') : XE B k env (.If t x y pos :: cs) ρ st r st' := by
  cases b with
  | true =>
    rcases h1 rfl with ⟨⟨ρ', h⟩, hr⟩ | ⟨ρ₁, st₂, h, ρ', h'⟩
    · exact ⟨ρ', Xs.if ht (fun _ => .inl ⟨h, hr⟩) fun e => by cases e⟩
    · exact ⟨ρ', Xs.if ht (fun _ => .inr ⟨_, _, h, h'⟩) fun e => by cases e⟩
  | false =>
    rcases h2 rfl with ⟨⟨ρ', h⟩, hr⟩ | ⟨ρ₁, st₂, h, ρ', h'⟩
    · exact ⟨ρ', Xs.if ht (fun e => by cases e) fun _ => .inl ⟨h, hr⟩⟩
    · exact ⟨ρ', Xs.if ht (fun e => by cases e) fun _ => .inr ⟨_, _, h, h'⟩⟩
theorem XE.ifF {t : Expr} {x cs : List Stmt} {r : Fl} (ht : Tr B k env t ρ st false st₁) (h : XE B k env cs ρ st₁ r st') : XE B k env (.If t x [] pos :: cs) ρ st r st' := .if ht (fun e => by cases e) fun _ => .inr ⟨_, _, Xs.nil, h⟩
theorem XE.ifT {t : Expr} {x y cs : List Stmt} {r : Fl} {ρ₁ : List (Str × V)} (ht : Tr B k env t ρ st true st₁) (h : Xs B k env x ρ st₁ .next ρ₁ st₂) (h' : XE B k env cs ρ₁ st₂ r st') : XE B k env (.If t x y pos :: cs) ρ st r st' := .if ht (fun _ => .inr ⟨_, _, h, h'⟩) fun e => by cases e
theorem XE.ifR {t : Expr} {x y cs : List Stmt} {v : V} (ht : Tr B k env t ρ st true st₁) (h : XE B k env x ρ st₁ (.ret v) st') : XE B k env (.If t x y pos :: cs) ρ st (.ret v) st' := .if ht (fun _ => .inl ⟨h, fun e => by cases e⟩) fun e => by cases e
theorem Xs.ifF {t : Expr} {x cs : List Stmt} {r : Fl} {ρ' : List (Str × V)} (ht : Tr B k env t ρ st false st₁) (h : Xs B k env cs ρ st₁ r ρ' st') : Xs B k env (.If t x [] pos :: cs) ρ st r ρ' st' := Xs.if ht (fun e => by cases e) fun _ => .inr ⟨_, _, Xs.nil, h⟩
theorem Xs.ifT {t : Expr} {x y cs : List Stmt} {r : Fl} {ρ₁ ρ' : List (Str × V)} (ht : Tr B k env t ρ st true st₁) (h : Xs B k env x ρ st₁ .next ρ₁ st₂) (h' : Xs B k env cs ρ₁ st₂ r ρ' st') : Xs B k env (.If t x y pos :: cs) ρ st r ρ' st' := Xs.if ht (fun _ => .inr ⟨_, _, h, h'⟩) fun e => by cases e
end
section
variable {B : Bs} {k : Nat} {env : Env} {ρ : List (Str × V)} {st st₁ st₂ st₃ st' : List O} {pos : Pos}
theorem Op2.fdivL {i j : Int} (h : j ≠ 0) (h' : j.natAbs.log2 < 9000) : Op2 B k (binaryOp .FloorDiv) (.int i) (.int j) st (.int (i.fdiv j)) := .still fun _ _ _ _ _ _ _ q => floordiv_int h (q _ _ fun _ => .int _ _) (.inl (PyProof.noPylong_of_log2 h'))
theorem bits_small {a : Int} (h : a.natAbs < 2 ^ 62) : Builtin.Int.intBits a ≤ 64 := by
  unfold Builtin.Int.intBits
  split
  · exact Nat.zero_le _
  · rename_i h0
    have h1 : a.natAbs ≠ 0 := by
      intro e; exact h0 (by have := Int.natAbs_eq_zero.mp e; subst this; rfl)
    have := (Nat.log2_lt h1).mpr h
    omega
theorem mulOk_left {a b : Int} (h : a.natAbs < 2 ^ 62) : IntMulOk a b := IntMulOk.of_left (bits_small h)
theorem mulOk_right {a b : Int} (h : b.natAbs < 2 ^ 62) : IntMulOk a b := IntMulOk.of_right (bits_small h)
theorem log2_small {a : Int} {n : Nat} (h : a.natAbs < 2 ^ n) (hn : n < 9000) (h0 : 0 < n) : a.natAbs.log2 < 9000 := by
  by_cases e : a.natAbs = 0
  · rw [e]; decide +kernel
  · have := (Nat.log2_lt e).mpr h
    omega
/-- a fraction in lowest terms -/
noncomputable abbrev Fr (q : Rat) : V := .tup [.int q.num, .int q.den]
/-- its parts are small -/
structure Sz (q : Rat) : Prop where
  n : q.num.natAbs < 2 ^ 200
  d : ((q.den : Int)).natAbs < 2 ^ 200
theorem bits_big {a : Int} (h : a.natAbs < 2 ^ 200) : Builtin.Int.intBits a ≤ 2 ^ 20 := by
  unfold Builtin.Int.intBits
  split
  · exact Nat.zero_le _
  · rename_i h0
    have h1 : a.natAbs ≠ 0 := by
      intro e; exact h0 (by have := Int.natAbs_eq_zero.mp e; subst this; rfl)
    have := (Nat.log2_lt h1).mpr h
    omega
theorem mulOk_big {a b : Int} (h : a.natAbs < 2 ^ 200) (h' : b.natAbs < 2 ^ 200) : IntMulOk a b := IntMulOk.of_bits (bits_big h) (bits_big h')
theorem FnC.plainB {f : Addr} {fd : FuncData} {body : List Stmt} {names : List Str} {vs ex : List V} {exv : List Value} {v : V} {r : Fl} (K : DefOk B f fd body)
    (hcell : ∀ x ∈ fd.scope.names, x.2 ≠ .cell) (hl : names.length = vs.length + ex.length) (hex : ∀ w, VRs w ex exv)
    (hb : ∀ s xs, (∀ a o, B.b.get? a = some o → s.heap.get? a = some o) → xs.length = vs.length → BindsTo s fd ⟨xs, []⟩ (names.zip (xs ++ exv))) (hloc : ∀ x ∈ names, fd.scope.names.lookup x = some .local)
    (hx : ∀ L, XE B k (callEnv fd L f) body (names.zip (vs ++ ex)).reverse st r st') (hv : Back r v) : FnC B (k + 1) (.ref f) vs st v st' :=
  FnC.def (binds := fun xs => names.zip (xs ++ exv)) K hcell (fun w s xs C h => hb s xs C.base h.length.symm)
    (fun w xs h x hx => hloc _ (List.of_mem_zip hx).1) (fun w xs h => .reverse (.zip (h.append (hex w)))) hx hv
theorem FnC.pl {f : Addr} {fd : FuncData} {body : List Stmt} {names : List Str} {vs : List V} {v : V} {r : Fl} (K : DefOk B f fd body)
    (hcell : ∀ x ∈ fd.scope.names, x.2 ≠ .cell) (hl : names.length = vs.length)
    (hb : ∀ xs, xs.length = names.length → bindArgs fd ⟨xs, []⟩ = pure (names.zip xs)) (hloc : ∀ x ∈ names, fd.scope.names.lookup x = some .local)
    (hx : ∀ L, XE B k (callEnv fd L f) body (names.zip vs).reverse st r st') (hv : Back r v) : FnC B (k + 1) (.ref f) vs st v st' := FnC.plain K hcell hl hb hloc hx hv
theorem at_last {o : O} : (st ++ [o])[st.length]? = some o := by simp
theorem set_last {o o' : O} : (st ++ [o]).set st.length o' = st ++ [o'] := by simp
theorem Fn.appendLast {l : List V} {v : V} (hl : l.length ≤ sizeLine) : Fn B k (.builtin "list.append") [.ref st.length, v] (st ++ [.list l]) .none (st ++ [.list (l ++ [v])]) := by
  have := Fn.append (B := B) (k := k) (v := v) (at_last (st := st) (o := .list l)) hl
  rw [set_last] at this; exact this
theorem X1.appendLast {x : Str} {e : Expr} {l : List V} {v : V} {p1 p2 p3 p4 : Pos} {pl : Sem Bool} (h : Ev B k env (.Name x p1) ρ (st ++ [.list l]) (.ref st.length) (st ++ [.list l])) (hn : isStar e = false) (he : Ev B k env e ρ (st ++ [.list l]) v (st ++ [.list l])) (hl : l.length ≤ 1000)
    (hc : eval (.Call (.Attribute (.Name x p1) "append" p2) [e] [] p3) env = (do
      let ov ← eval (.Name x p1) env
      standAt p2.atName
      let (f, first) ← holding [ov] (getMethod ov "append" pl)
      callWith p3 f first (backTo p3 (starEach [e] env)) []))
    (hs : swapsWith (.Call (.Attribute (.Name x p1) "append" p2) [e] [] p3) none p4.line env = pure false) : X1 B k env (.Expr (.Call (.Attribute (.Name x p1) "append" p2) [e] [] p3) p4) ρ (st ++ [.list l]) .next ρ (st ++ [.list (l ++ [v])]) :=
  X1.expr (Ev.meth h (Mth.append at_last) CW.blt (by simp [noStars, hn]) (.cons hn he .nil) (Fn.appendLast (Nat.le_trans hl (Nat.le_of_ble_eq_true rfl))) hc) hs
/-- a while loop, some names forgotten -/
theorem X1.whileE {t : Expr} {b : List Stmt} {r : Fl} {ρ' : List (Str × V)} (h : ∃ ex, Wh B k env t b ρ st r (ρ' ++ ex) st') : X1 B k env (.While t b [] pos) ρ st r ρ' st' := fun w s C F A Q E hA q => by
  obtain ⟨ex, h⟩ := h
  exact X1.while h w s C F A Q E hA fun fl w' s' C' S' r' => q fl w' s' C' S' ⟨r'.1.less fun x u e => lookup_append e, r'.2⟩
theorem X1.forE {t e : Expr} {b : List Stmt} {P : List O → Prop} {v : V} {items : List V} {r : Fl} {ρ' : List (Str × V)} (h : Ev B k env e ρ st v st₁) (hi : Iters B k P v items st₁) (hf : ∃ ex, FoR B k env t b P items ρ st₁ r (ρ' ++ ex) st')
    (hs : ∀ x, foldedSetIterable e env x = pure x) : X1 B k env (.For t e b [] pos) ρ st r ρ' st' := fun w s C F A Q E hA q => by
  obtain ⟨ex, hf⟩ := hf
  exact X1.for h hi hf hs w s C F A Q E hA fun fl w' s' C' S' r' => q fl w' s' C' S' ⟨r'.1.less fun x u e => lookup_append e, r'.2⟩
theorem X1.forZE {t e : Expr} {b : List Stmt} {l m : List V} {r : Fl} {ρ' : List (Str × V)} (h : EvZ B k env e ρ st l m st₁) (hf : ∃ ex, FoR B k env t b (fun _ => True) (zipVs l m) ρ st₁ r (ρ' ++ ex) st')
    (hs : ∀ x, foldedSetIterable e env x = pure x) : X1 B k env (.For t e b [] pos) ρ st r ρ' st' := fun w s C F A Q E hA q => by
  obtain ⟨ex, hf⟩ := hf
  exact X1.forZ h hf hs w s C F A Q E hA fun fl w' s' C' S' r' => q fl w' s' C' S' ⟨r'.1.less fun x u e => lookup_append e, r'.2⟩
theorem Xs.postE {cs : List Stmt} {ρ₁ : List (Str × V)} {r : Fl} (h : ∃ ex, Xs B k env cs ρ st r (ρ₁ ++ ex) st') : Xs B k env cs ρ st r ρ₁ st' := let ⟨ex, h⟩ := h; h.post rfl
theorem X1.cast {c : Stmt} {r : Fl} {ρ' ρ'' : List (Str × V)} {st'' : List O} (h : X1 B k env c ρ st r ρ' st') (e : ρ' = ρ'') (e' : st' = st'') : X1 B k env c ρ st r ρ'' st'' := e ▸ e' ▸ h
/-- the store refers to itself alone -/
noncomputable def Cl (st : List O) : Prop := ∀ o ∈ st, OkO st.length o
theorem OkO.mono {n m : Nat} (h : n ≤ m) : ∀ {o : O}, OkO n o → OkO m o
  | .list _, x => fun v hv => (x v hv).mono h
  | .dict _, x => fun v hv => (x v hv).mono h
  | .inst _ _, x => Nat.lt_of_lt_of_le x h
  | .attrs _, x => fun v hv => (x v hv).mono h
  | .dead, _ => trivial
theorem Cl.push {o : O} (h : Cl st) (ho : OkO (st.length + 1) o) : Cl (st ++ [o]) := fun p hp => by
  rw [List.length_append, List.length_singleton]
  rcases List.mem_append.mp hp with hp | hp
  · exact (h p hp).mono (Nat.le_succ _)
  · rw [List.mem_singleton] at hp; subst hp; exact ho
theorem Cl.set {i : Nat} {o : O} (h : Cl st) (ho : OkO st.length o) : Cl (st.set i o) := fun p hp => by
  rw [List.length_set]
  rcases List.mem_or_eq_of_mem_set hp with hp | rfl
  · exact h p hp
  · exact ho
/-- its references, none -/
theorem OkInts {n : Nat} {l : List V} (h : ∀ v ∈ l, ∃ i, v = .int i) : ∀ v ∈ l, Ok n v := fun v hv => by obtain ⟨i, rfl⟩ := h v hv; exact .int i
theorem FoR.fold {t : Expr} {b : List Stmt} {P : List O → Prop} {σ : Type} {F : σ → V → σ} {ρ : σ → List (Str × V)} {S : σ → List O} {I : List V → σ → Prop} (hP : ∀ l s, I l s → P (S s))
    (step : ∀ v l s, I (v :: l) s → I l (F s v) ∧ ∃ ρ₁, As B k env t v (ρ s) (S s) ρ₁ ∧ Xs B k env b ρ₁ (S s) .next (ρ (F s v)) (S (F s v))) :
    ∀ items s, I items s → FoR B k env t b P items (ρ s) (S s) .next (ρ (items.foldl F s)) (S (items.foldl F s)) := by
  intro items
  induction items with
  | nil => exact fun s h => .nil (hP _ _ h)
  | cons v l ih =>
    intro s h
    obtain ⟨h1, ρ₁, h2, h3⟩ := step v l s h
    exact .cons (hP _ _ h) h2 h3 (ih _ h1)
/-- a loop that appends to the newest list -/
theorem FoR.acc {t : Expr} {b : List Stmt} {P : List O → Prop} {ρ₀ : List (Str × V)} {f : V → List V} {N : Nat} (hP : ∀ acc, P (st ++ [.list acc])) {items : List V} (hf : ∀ v ∈ items, (f v).length ≤ N ∧ ∀ u ∈ f v, Ok 0 u)
    (step : ∀ v acc, v ∈ items → acc.length ≤ 900 → (∀ u ∈ acc, Ok 0 u) → ∃ ρ₁, As B k env t v ρ₀ (st ++ [.list acc]) ρ₁ ∧ Xs B k env b ρ₁ (st ++ [.list acc]) .next ρ₀ (st ++ [.list (acc ++ f v)])) :
    ∀ acc, acc.length + items.length * N ≤ 900 → (∀ u ∈ acc, Ok 0 u) → FoR B k env t b P items ρ₀ (st ++ [.list acc]) .next ρ₀ (st ++ [.list (acc ++ items.flatMap f)]) := by
  induction items with
  | nil => intro acc _ _; simpa using FoR.nil (hP acc)
  | cons v l ih =>
    intro acc h hok
    have h' : acc.length + (l.length * N + N) ≤ 900 := by rw [List.length_cons, Nat.succ_mul] at h; exact h
    obtain ⟨ρ₁, h2, h3⟩ := step v acc (.head _) (by omega) hok
    have hfv := hf v (.head _)
    have := ih (fun v hv => hf v (.tail _ hv)) (fun v acc hv => step v acc (.tail _ hv)) (acc ++ f v) (by rw [List.length_append]; omega) (fun u hu => (List.mem_append.mp hu).elim (hok u) (hfv.2 u))
    rw [List.append_assoc] at this
    exact .cons (hP _) h2 h3 this
theorem XE.at {cs : List Stmt} {r : Fl} (ρ₂ : List (Str × V)) (e : ρ = ρ₂) (h : XE B k env cs ρ₂ st r st') : XE B k env cs ρ st r st' := e ▸ h
theorem Xs.at {cs : List Stmt} {r : Fl} {ρ' : List (Str × V)} (ρ₂ : List (Str × V)) (e : ρ = ρ₂) (h : Xs B k env cs ρ₂ st r ρ' st') : Xs B k env cs ρ st r ρ' st' := e ▸ h
noncomputable def allLocal (env : Env) : List Str → Bool
  | [] => true
  | n :: r => (match env.kindOf n with | some .local => true | _ => false) && allLocal env r
theorem allLocal_of {env : Env} : ∀ {l : List Str}, allLocal env l = true → ∀ n ∈ l, env.kindOf n = some .local
  | m :: r, h, n, hn => by
    obtain ⟨h1, h2⟩ := Bool.and_eq_true_iff.mp h
    rcases List.mem_cons.mp hn with rfl | hn
    · revert h1
      cases e : env.kindOf n with
      | none => intro h; cases h
      | some x => cases x <;> first | (intro _; rfl) | (intro h; cases h)
    · exact allLocal_of h2 n hn
theorem X1.swp {ts : List Expr} {c : Nat} {p : Pos} {e : Expr} (names : List Str) (vs : List V) {ρ' : List (Str × V)} (h : Ev B k env e ρ st (.tup vs) st₁)
    (hw : swappedStores [.Tuple ts c p] e env = pure (some names)) (hl : names.length = vs.length) (hk : allLocal env names = true)
    (hρ : (names.reverse.zip vs.reverse).foldl (fun ρ p => upd ρ p.1 p.2) ρ = ρ')
    (hs : swapsWithSole [.Tuple ts c p] e pos.line env = pure false) : X1 B k env (.Assign [.Tuple ts c p] e pos) ρ st .next ρ' st₁ := X1.swap h hw hl (allLocal_of hk) hρ hs
end
-- the globals
section
variable {B : Bs}
theorem g_common_divisor : nsIn B.K mainGlobals "common_divisor" = some (some (.ref 53)) := rfl
theorem g_fraction : nsIn B.K mainGlobals "fraction" = some (some (.ref 61)) := rfl
theorem g_plus : nsIn B.K mainGlobals "plus" = some (some (.ref 68)) := rfl
theorem g_times : nsIn B.K mainGlobals "times" = some (some (.ref 75)) := rfl
theorem g_Cell : nsIn B.K mainGlobals "Cell" = some (some (.ref 99)) := rfl
theorem g_row_pieces : nsIn B.K mainGlobals "row_pieces" = some (some (.ref 110)) := rfl
theorem g_upright_piece : nsIn B.K mainGlobals "upright_piece" = some (some (.ref 117)) := rfl
theorem g_column_pieces : nsIn B.K mainGlobals "column_pieces" = some (some (.ref 124)) := rfl
theorem g_Cells : nsIn B.K mainGlobals "Cells" = some (some (.ref 195)) := rfl
theorem g_Side : nsIn B.K mainGlobals "Side" = some (some (.ref 237)) := rfl
theorem g_side_between : nsIn B.K mainGlobals "side_between" = some (some (.ref 248)) := rfl
theorem g_sides_of_contour : nsIn B.K mainGlobals "sides_of_contour" = some (some (.ref 255)) := rfl
theorem g_sides_of : nsIn B.K mainGlobals "sides_of" = some (some (.ref 263)) := rfl
theorem g_law_pool : nsIn B.K mainGlobals "_law_pool" = some (some (.ref 270)) := rfl
theorem g_law_take : nsIn B.K mainGlobals "_law_take" = some (some (.ref 277)) := rfl
theorem g_law_part : nsIn B.K mainGlobals "_law_part" = some (some (.ref 282)) := rfl
theorem g_law_cut : nsIn B.K mainGlobals "_law_cut" = some (some (.ref 287)) := rfl
theorem g_law_area : nsIn B.K mainGlobals "_law_area" = some (some (.ref 294)) := rfl
theorem g_law_due : nsIn B.K mainGlobals "_law_due" = some (some (.ref 299)) := rfl
theorem g_law_is : nsIn B.K mainGlobals "_law_is" = some (some (.ref 306)) := rfl
theorem n_abs : nsIn B.K mainGlobals "abs" = some none := rfl
theorem n_min : nsIn B.K mainGlobals "min" = some none := rfl
theorem n_max : nsIn B.K mainGlobals "max" = some none := rfl
theorem n_int : nsIn B.K mainGlobals "int" = some none := rfl
theorem n_len : nsIn B.K mainGlobals "len" = some none := rfl
theorem n_range : nsIn B.K mainGlobals "range" = some none := rfl
theorem n_sorted : nsIn B.K mainGlobals "sorted" = some none := rfl
theorem n_sum : nsIn B.K mainGlobals "sum" = some none := rfl
theorem n_tuple : nsIn B.K mainGlobals "tuple" = some none := rfl
theorem n_list : nsIn B.K mainGlobals "list" = some none := rfl
theorem n_zip : nsIn B.K mainGlobals "zip" = some none := rfl
theorem b_abs : bootBuiltins "abs" = some (.builtin "abs") := by kernel_rfl
theorem b_min : bootBuiltins "min" = some (.builtin "min") := by kernel_rfl
theorem b_max : bootBuiltins "max" = some (.builtin "max") := by kernel_rfl
theorem b_int : bootBuiltins "int" = some (.type "int") := by kernel_rfl
theorem b_len : bootBuiltins "len" = some (.builtin "len") := by kernel_rfl
theorem b_range : bootBuiltins "range" = some (.type "range") := by kernel_rfl
theorem b_sorted : bootBuiltins "sorted" = some (.builtin "sorted") := by kernel_rfl
theorem b_sum : bootBuiltins "sum" = some (.builtin "sum") := by kernel_rfl
theorem b_tuple : bootBuiltins "tuple" = some (.type "tuple") := by kernel_rfl
theorem b_list : bootBuiltins "list" = some (.type "list") := by kernel_rfl
theorem b_zip : bootBuiltins "zip" = some (.type "zip") := by kernel_rfl
theorem bn_abs : ("abs" : Str) ≠ "__name__" := by decide
theorem bn_min : ("min" : Str) ≠ "__name__" := by decide
theorem bn_max : ("max" : Str) ≠ "__name__" := by decide
theorem bn_int : ("int" : Str) ≠ "__name__" := by decide
theorem bn_len : ("len" : Str) ≠ "__name__" := by decide
theorem bn_range : ("range" : Str) ≠ "__name__" := by decide
theorem bn_sorted : ("sorted" : Str) ≠ "__name__" := by decide
theorem bn_sum : ("sum" : Str) ≠ "__name__" := by decide
theorem bn_tuple : ("tuple" : Str) ≠ "__name__" := by decide
theorem bn_list : ("list" : Str) ≠ "__name__" := by decide
theorem bn_zip : ("zip" : Str) ≠ "__name__" := by decide
end
local macro_rules | `(tactic| walk_at "mul") => `(tactic| first
  | assumption | exact mulOk_big (by first | exact Sz.n (by assumption) | exact Sz.d (by assumption)) (by first | exact Sz.n (by assumption) | exact Sz.d (by assumption))
  | exact mulOk_left (by first | assumption | decide | omega) | exact mulOk_right (by first | assumption | decide | omega))
local macro_rules | `(tactic| walk_at "glob") => `(tactic| with_reducible first
  | exact g_common_divisor | exact g_fraction | exact g_plus | exact g_times | exact g_Cell | exact g_row_pieces | exact g_upright_piece | exact g_column_pieces | exact g_Cells | exact g_Side | exact g_side_between | exact g_sides_of_contour | exact g_sides_of | exact g_law_pool | exact g_law_take | exact g_law_part | exact g_law_cut | exact g_law_area | exact g_law_due | exact g_law_is)
local macro_rules | `(tactic| walk_at "cal") => `(tactic| first
  | ((with_reducible apply Ev.glob); walk_at "glob"; rfl; rfl)
  | ((with_reducible first | apply Ev.blt n_abs _ b_abs bn_abs _ | apply Ev.blt n_min _ b_min bn_min _ | apply Ev.blt n_max _ b_max bn_max _ | apply Ev.blt n_int _ b_int bn_int _ | apply Ev.blt n_len _ b_len bn_len _ | apply Ev.blt n_range _ b_range bn_range _ | apply Ev.blt n_sorted _ b_sorted bn_sorted _ | apply Ev.blt n_sum _ b_sum bn_sum _ | apply Ev.blt n_tuple _ b_tuple bn_tuple _ | apply Ev.blt n_list _ b_list bn_list _ | apply Ev.blt n_zip _ b_zip bn_zip _); rfl; rfl))
local macro_rules | `(tactic| walk_at "cw") => `(tactic| first
  | (with_reducible first | exact CW.blt | exact CW.typ) | ((with_reducible apply CW.K); rfl))
local macro_rules | `(tactic| walk_at "ins") => `(tactic| first
  | exact Or.inl rfl | assumption)
local macro_rules | `(tactic| walk_at "aok") => `(tactic| with_reducible first
  | exact aSide_x1 | exact aSide_y1 | exact aSide_x2 | exact aSide_y2 | exact aSide_way | exact aCells_grain | exact aCells_rows | exact aCell_cover | exact aCell_area)
local macro_rules | `(tactic| walk_at "side") => `(tactic| first
  | assumption | rfl | decide | omega)
local macro_rules | `(tactic| walk_at "op0") => `(tactic| first | exact Op2.add | exact Op2.sub | exact Op2.eq | exact Op2.ne | exact Op2.lt | exact Op2.le | exact Op2.gt | exact Op2.ge)
local macro_rules | `(tactic| walk_at "op") => `(tactic| first
  | with_reducible walk_at "op0"
  | ((with_reducible apply Op2.mul); walk_at "mul") | ((with_reducible apply Op2.fmod); walk_at "side") | ((with_reducible apply Op2.fdiv); walk_at "side"; walk_at "side")
  | walk_at "op0"
  | exact Op2.mul (by walk_at "mul") | exact Op2.fmod (by walk_at "side") | exact Op2.fdiv (by walk_at "side") (by walk_at "side"))
local macro_rules | `(tactic| walk_at "sub") => `(tactic| first
  | ((with_reducible apply Sub.tup); decide; decide; rfl; rfl) | with_reducible assumption | assumption)
local macro_rules | `(tactic| walk_at "fn0") => `(tactic| first | exact Fn.abs | exact Fn.min | exact Fn.max | exact Fn.int | exact Fn.range1 | exact Fn.range2 | assumption)
local macro_rules | `(tactic| walk_at "fn") => `(tactic| first | with_reducible walk_at "fn0" | walk_at "fn0")
local macro_rules | `(tactic| walk_at "evs") => `(tactic| first
  | with_reducible exact Evs.nil | ((with_reducible apply Evs.cons); rfl; walk_at "ev"; walk_at "evs"))
local macro_rules | `(tactic| walk_at "ev") => `(tactic| first
  | (with_reducible first | exact Ev.int | exact Ev.bool | exact Ev.none)
  | ((with_reducible apply Ev.name); rfl; rfl; rfl)
  | ((with_reducible apply Ev.bin); walk_at "ev"; walk_at "ev"; walk_at "op")
  | ((with_reducible apply Ev.neg); walk_at "ev")
  | ((with_reducible apply Ev.sub); walk_at "ev"; walk_at "ev"; walk_at "sub"; exact fun _ _ => ⟨_, rfl⟩)
  | ((with_reducible apply Ev.call); walk_at "cal"; walk_at "cw"; rfl; walk_at "evs"; walk_at "fn")
  | ((with_reducible apply Ev.attr); walk_at "ev"; walk_at "ins"; rfl; rfl; walk_at "aok"; rfl)
  | ((with_reducible apply Ev.tuple); walk_at "evs"; exact Nat.le_of_ble_eq_true rfl)
  | ((with_reducible apply Ev.cmp); walk_at "ev"; walk_at "ev"; walk_at "op"; rfl)
  | ((with_reducible apply Ev.list); walk_at "evs"; exact Nat.le_of_ble_eq_true rfl)
  | exact Ev.int
  | exact Ev.bool
  | exact Ev.name rfl rfl rfl
  | (apply Ev.bin; walk_at "ev"; walk_at "ev"; walk_at "op")
  | (apply Ev.neg; walk_at "ev")
  | (apply Ev.sub; walk_at "ev"; walk_at "ev"; walk_at "sub"; exact fun _ _ => ⟨_, rfl⟩)
  | (apply Ev.call; walk_at "cal"; walk_at "cw"; rfl; walk_at "evs"; walk_at "fn")
  | (apply Ev.attr; walk_at "ev"; walk_at "ins"; rfl; rfl; walk_at "aok"; rfl)
  | (apply Ev.tuple; walk_at "evs"; exact Nat.le_of_ble_eq_true rfl)
  | (apply Ev.cmp; walk_at "ev"; walk_at "ev"; walk_at "op"; rfl)
  | (apply Ev.list; walk_at "evs"; exact Nat.le_of_ble_eq_true rfl))
local macro_rules | `(tactic| walk_at "tr") => `(tactic| first
  | ((with_reducible apply Tr.cmp); walk_at "ev"; walk_at "ev"; walk_at "op"; rfl)
  | ((with_reducible apply Tr.not); walk_at "tr")
  | ((with_reducible apply Tr.ev); walk_at "ev"; intro _; rfl))
local macro_rules | `(tactic| walk_at "len") => `(tactic| first
  | omega | exact Nat.le_of_ble_eq_true rfl | (simp only [List.length_append, List.length_cons, List.length_nil, List.length_map]; omega))
local macro_rules | `(tactic| walk_at "x1") => `(tactic| first
  | ((with_reducible apply X1.assign); walk_at "ev"; rfl; rfl)
  | ((with_reducible apply X1.appendLast); walk_at "ev"; rfl; walk_at "ev"; walk_at "len"; rfl; rfl))
local macro_rules | `(tactic| walk_at "xs") => `(tactic| first
  | with_reducible exact Xs.nil
  | ((with_reducible apply Xs.one); walk_at "x1")
  | ((with_reducible apply Xs.cons); walk_at "x1"; walk_at "xs"))
noncomputable abbrev cdR (a b x y : Int) : List (Str × V) := [("other", .int b), ("one", .int a), ("second", .int y), ("first", .int x)]
theorem cd_loop {B : Bs} {k : Nat} {st : List O} {env : Env} {t : Expr} {bd : List Stmt} {g : Nat} {a b : Int}
    (ht : ∀ x y : Int, Tr B k env t (cdR a b x y) st (decide (y > 0)) st) (hb : ∀ x y : Int, y ≠ 0 → Xs B k env bd (cdR a b x y) st .next (cdR a b y (x.fmod y)) st) :
    ∀ (n x : Nat), Nat.gcd x n = g → Wh B k env t bd (cdR a b x n) st .next (cdR a b g 0) st := by
  intro n
  induction n using Nat.strongRecOn with
  | _ n ih =>
    intro x hg
    by_cases hn : n = 0
    · subst hn
      rw [Nat.gcd_zero_right] at hg
      rw [← hg]
      exact .done (ht x (0 : Nat))
    · have e : ((x : Int).fmod (n : Int)) = ((x % n : Nat) : Int) := by
        rw [Int.fmod_eq_emod_of_nonneg _ (by omega)]; rfl
      have h1 := ht x n
      rw [show decide ((n : Int) > 0) = true from by simp; omega] at h1
      have h2 := hb x n (by omega)
      rw [e] at h2
      exact .step h1 h2 (ih (x % n) (Nat.mod_lt _ (by omega)) n (by rw [← hg, Nat.gcd_comm n, ← Nat.gcd_rec, Nat.gcd_comm]))
theorem cd {B : Bs} {k : Nat} {st : List O} {a b : Int} (hb : 0 ≤ b) : FnC B (k + 1) (.ref 53) [.int a, .int b] st (.int (Int.gcd a b)) st := by
  refine FnC.pl (names := ["one", "other"]) (r := .ret (.int (Int.gcd a b))) ⟨⟨_, _, _, rfl⟩, rfl, rfl, rfl, rfl, rfl, rfl, rfl, rfl⟩ (by decide) rfl ?_ (by decide) (fun L => ?_) (.inl rfl)
  · apply len2; intro _ _; rfl
  · refine XE.cons (X1.swp ["first", "second"] [.int a.natAbs, .int b.toNat] (ρ' := cdR a b a.natAbs b.toNat) (Ev.cast (by walk_at "ev") ?_) rfl rfl rfl rfl rfl) ?_
    · congr 2
      · congr 1; split <;> omega
      · congr 2; omega
    refine XE.cons (X1.while (cd_loop (fun x y => ?_) (fun x y hy => ?_) b.toNat a.natAbs rfl)) ?_
    · walk_at "tr"
    · exact Xs.one (X1.swp ["first", "second"] [.int y, .int (x.fmod y)] (by walk_at "ev") rfl rfl rfl rfl rfl)
    · refine XE.ret (Ev.cast (by walk_at "ev") ?_)
      congr 2
      have : b.natAbs = b.toNat := by omega
      unfold Int.gcd; rw [this]
theorem frac_parts {t b : Int} (hb : 0 < b) : (Rat.divInt t b).num = t.fdiv (Int.gcd t b) ∧ (((Rat.divInt t b).den : Nat) : Int) = b.fdiv (Int.gcd t b) := by
  have hg : 0 < Int.gcd t b := Int.gcd_pos_of_ne_zero_right _ (by omega)
  constructor
  · rw [Rat.num_divInt, Int.sign_eq_one_of_pos hb, Int.one_mul, Int.gcd_comm, Int.fdiv_eq_ediv_of_nonneg _ (by omega)]
  · rw [Rat.den_divInt, if_neg (by omega), Int.gcd_comm, Int.fdiv_eq_ediv_of_nonneg _ (by omega)]
    have : b = (b.natAbs : Int) := by omega
    rw [Int.natCast_ediv, ← this]
theorem fraction2 {B : Bs} {k : Nat} {st : List O} {t b : Int} (hb : b ≠ 0) (hs : b.natAbs < 2 ^ 400) : FnC B (k + 2) (.ref 61) [.int t, .int b] st (Fr (Rat.divInt t b)) st := by
  have hg : (Int.gcd t b : Int) ≠ 0 := by
    have := Int.gcd_pos_of_ne_zero_right t hb; omega
  have hl : ((Int.gcd t b : Int)).natAbs.log2 < 9000 := by
    refine log2_small (n := 400) ?_ (by omega) (by omega)
    exact Nat.lt_of_le_of_lt (Int.gcd_le_natAbs_right t hb) hs
  refine FnC.plainB (names := ["top", "bottom"]) (ex := []) (exv := []) (r := .ret (Fr (Rat.divInt t b))) ⟨⟨_, _, _, rfl⟩, rfl, rfl, rfl, rfl, rfl, rfl, rfl, rfl⟩ (by decide) rfl (fun _ => .nil) ?_ (by decide) (fun L => ?_) (.inl rfl)
  · intro s xs hk
    have e : B.K.lookup 54 = some { cls := .type "tuple", data := .seq #[.int 1 246] } := rfl
    revert xs
    apply len2
    intro _ _
    exact .of_defaults (T := 54) rfl (hk _ _ (B.X _ _ e)) rfl rfl rfl
  · refine XE.ifF (Tr.cast (by walk_at "tr") (by simpa using hb)) ?_
    by_cases hp : b < 0
    · refine XE.ifT (Tr.cast (by walk_at "tr") (by simpa using hp)) (Xs.one (X1.swp ["top", "bottom"] [.int (-t), .int (-b)] (by walk_at "ev") rfl rfl rfl rfl rfl)) ?_
      refine XE.cons (X1.assign (by apply Ev.call; walk_at "cal"; walk_at "cw"; rfl; walk_at "evs"; exact (cd (by omega)).fn) rfl rfl) ?_
      have e : Int.gcd (-t) (-b) = Int.gcd t b := by simp
      have hg' : (Int.gcd (-t) (-b) : Int) ≠ 0 := by rw [e]; exact hg
      have hl' : ((Int.gcd (-t) (-b) : Int)).natAbs.log2 < 9000 := by rw [e]; exact hl
      refine XE.ret (Ev.cast (v := .tup [.int ((-t).fdiv (Int.gcd (-t) (-b))), .int ((-b).fdiv (Int.gcd (-t) (-b)))]) ?_ ?_)
      · apply Ev.tuple
        apply Evs.cons; rfl; apply Ev.bin; walk_at "ev"; walk_at "ev"; exact Op2.fdivL hg' hl'
        apply Evs.cons; rfl; apply Ev.bin; walk_at "ev"; walk_at "ev"; exact Op2.fdivL hg' hl'
        exact Evs.nil
        exact Nat.le_of_ble_eq_true rfl
      · have := frac_parts (t := -t) (b := -b) (by omega)
        rw [Rat.neg_divInt_neg] at this
        show _ = V.tup _
        rw [this.1, this.2]
    · refine XE.ifF (Tr.cast (by walk_at "tr") (by simpa using hp)) ?_
      refine XE.cons (X1.assign (by apply Ev.call; walk_at "cal"; walk_at "cw"; rfl; walk_at "evs"; exact (cd (by omega)).fn) rfl rfl) ?_
      refine XE.ret (Ev.cast (v := .tup [.int (t.fdiv (Int.gcd t b)), .int (b.fdiv (Int.gcd t b))]) ?_ ?_)
      · apply Ev.tuple
        apply Evs.cons; rfl; apply Ev.bin; walk_at "ev"; walk_at "ev"; exact Op2.fdivL hg hl
        apply Evs.cons; rfl; apply Ev.bin; walk_at "ev"; walk_at "ev"; exact Op2.fdivL hg hl
        exact Evs.nil
        exact Nat.le_of_ble_eq_true rfl
      · have := frac_parts (t := t) (b := b) (by omega)
        show _ = V.tup _
        rw [this.1, this.2]
theorem fraction1 {B : Bs} {k : Nat} {st : List O} {t : Int} : FnC B (k + 2) (.ref 61) [.int t] st (Fr t) st := by
  refine FnC.plainB (names := ["top", "bottom"]) (ex := [.int 1]) (exv := [.int 1 246]) (r := .ret (Fr t)) ⟨⟨_, _, _, rfl⟩, rfl, rfl, rfl, rfl, rfl, rfl, rfl, rfl⟩ (by decide) rfl (fun _ => .cons (.int _ _) .nil) ?_ (by decide) (fun L => ?_) (.inl rfl)
  · intro s xs hk
    have e : B.K.lookup 54 = some { cls := .type "tuple", data := .seq #[.int 1 246] } := rfl
    revert xs
    apply len1
    intro _
    exact .of_defaults (T := 54) rfl (hk _ _ (B.X _ _ e)) rfl rfl rfl
  · refine XE.ifF (Tr.cast (by walk_at "tr") (by decide)) ?_
    refine XE.ifF (Tr.cast (by walk_at "tr") (by decide)) ?_
    refine XE.cons (X1.assign (v := .int 1) (by apply Ev.call; walk_at "cal"; walk_at "cw"; rfl; walk_at "evs"; exact (cd (by omega)).fn.cast (by simp)) rfl rfl) ?_
    refine XE.ret (Ev.cast (v := .tup [.int (t.fdiv 1), .int ((1 : Int).fdiv 1)]) (by walk_at "ev") ?_)
    show _ = V.tup _
    simp
theorem den_mul_ne (p q : Rat) : (p.den : Int) * (q.den : Int) ≠ 0 := by
  have h1 := p.den_pos
  have h2 := q.den_pos
  exact Int.mul_ne_zero (by omega) (by omega)
theorem den_mul_lt {p q : Rat} (hp : Sz p) (hq : Sz q) : ((p.den : Int) * (q.den : Int)).natAbs < 2 ^ 400 := by
  rw [Int.natAbs_mul]
  have h1 := hp.d
  have h2 := hq.d
  have := Nat.mul_lt_mul'' h1 h2
  rwa [← Nat.pow_add] at this
theorem plus {B : Bs} {k : Nat} {st : List O} {p q : Rat} (hp : Sz p) (hq : Sz q) : FnC B (k + 3) (.ref 68) [Fr p, Fr q] st (Fr (p + q)) st := by
  refine FnC.pl (names := ["a", "b"]) (r := .ret (Fr (p + q))) ⟨⟨_, _, _, rfl⟩, rfl, rfl, rfl, rfl, rfl, rfl, rfl, rfl⟩ (by decide) rfl ?_ (by decide) (fun L => ?_) (.inl rfl)
  · apply len2; intro _ _; rfl
  · refine XE.ret (v := Fr (p + q)) (by apply Ev.call; walk_at "cal"; walk_at "cw"; rfl; walk_at "evs"; exact (fraction2 (den_mul_ne p q) (den_mul_lt hp hq)).fn.cast (by rw [Rat.add_def', ← Rat.divInt_ofNat, Int.natCast_mul]))
theorem times {B : Bs} {k : Nat} {st : List O} {p q : Rat} (hp : Sz p) (hq : Sz q) : FnC B (k + 3) (.ref 75) [Fr p, Fr q] st (Fr (p * q)) st := by
  refine FnC.pl (names := ["a", "b"]) (r := .ret (Fr (p * q))) ⟨⟨_, _, _, rfl⟩, rfl, rfl, rfl, rfl, rfl, rfl, rfl, rfl⟩ (by decide) rfl ?_ (by decide) (fun L => ?_) (.inl rfl)
  · apply len2; intro _ _; rfl
  · refine XE.ret (v := Fr (p * q)) (by apply Ev.call; walk_at "cal"; walk_at "cw"; rfl; walk_at "evs"; exact (fraction2 (den_mul_ne p q) (den_mul_lt hp hq)).fn.cast (by rw [Rat.mul_def', ← Rat.divInt_ofNat, Int.natCast_mul]))
section
variable {B : Bs}
theorem aCell_cover : AttrOk B 99 "cover" := ⟨rfl, rfl, _, rfl, rfl⟩
theorem aCell_area : AttrOk B 99 "area" := ⟨rfl, rfl, _, rfl, rfl⟩
theorem aCells_grain : AttrOk B 195 "grain" := ⟨rfl, rfl, _, rfl, rfl⟩
theorem aCells_rows : AttrOk B 195 "rows" := ⟨rfl, rfl, _, rfl, rfl⟩
theorem aSide_x1 : AttrOk B 237 "x1" := ⟨rfl, rfl, _, rfl, rfl⟩
theorem aSide_y1 : AttrOk B 237 "y1" := ⟨rfl, rfl, _, rfl, rfl⟩
theorem aSide_x2 : AttrOk B 237 "x2" := ⟨rfl, rfl, _, rfl, rfl⟩
theorem aSide_y2 : AttrOk B 237 "y2" := ⟨rfl, rfl, _, rfl, rfl⟩
theorem aSide_way : AttrOk B 237 "way" := ⟨rfl, rfl, _, rfl, rfl⟩
theorem sCell_cover : StoOk B 99 "cover" := ⟨rfl, rfl, rfl, rfl⟩
theorem sCell_area : StoOk B 99 "area" := ⟨rfl, rfl, rfl, rfl⟩
theorem sCells_grain : StoOk B 195 "grain" := ⟨rfl, rfl, rfl, rfl⟩
theorem sCells_rows : StoOk B 195 "rows" := ⟨rfl, rfl, rfl, rfl⟩
theorem sSide_x1 : StoOk B 237 "x1" := ⟨rfl, rfl, rfl, rfl⟩
theorem sSide_y1 : StoOk B 237 "y1" := ⟨rfl, rfl, rfl, rfl⟩
theorem sSide_x2 : StoOk B 237 "x2" := ⟨rfl, rfl, rfl, rfl⟩
theorem sSide_y2 : StoOk B 237 "y2" := ⟨rfl, rfl, rfl, rfl⟩
theorem sSide_way : StoOk B 237 "way" := ⟨rfl, rfl, rfl, rfl⟩
theorem mCell_add : MethOk B 99 "add" 96 := ⟨rfl, rfl, rfl⟩
theorem mCells_cell : MethOk B 195 "cell" 145 := ⟨rfl, rfl, rfl⟩
theorem mCells_add_side : MethOk B 195 "add_side" 152 := ⟨rfl, rfl, rfl⟩
theorem mCells_add_sides : MethOk B 195 "add_sides" 159 := ⟨rfl, rfl, rfl⟩
theorem mCells_columns : MethOk B 195 "columns" 164 := ⟨rfl, rfl, rfl⟩
theorem mCells_shared : MethOk B 195 "shared" 171 := ⟨rfl, rfl, rfl⟩
theorem mCells_area : MethOk B 195 "area" 178 := ⟨rfl, rfl, rfl⟩
theorem mCells_row_areas : MethOk B 195 "row_areas" 185 := ⟨rfl, rfl, rfl⟩
theorem mCells_whole : MethOk B 195 "whole" 192 := ⟨rfl, rfl, rfl⟩
theorem mSide_place_at : MethOk B 237 "place_at" 234 := ⟨rfl, rfl, rfl⟩
theorem kCell : MakeOk B 99 89 := ⟨rfl, rfl, rfl⟩
theorem kCells : MakeOk B 195 138 := ⟨rfl, rfl, rfl⟩
theorem kSide : MakeOk B 237 213 := ⟨rfl, rfl, rfl⟩
end
local macro_rules | `(tactic| walk_at "aok") => `(tactic| with_reducible first
  | exact aSide_x1 | exact aSide_y1 | exact aSide_x2 | exact aSide_y2 | exact aSide_way | exact aCells_grain | exact aCells_rows | exact aCell_cover | exact aCell_area)
noncomputable abbrev SideV (x1 y1 x2 y2 way : Int) : V := .inst 237 [("x1", .int x1), ("y1", .int y1), ("x2", .int x2), ("y2", .int y2), ("way", .int way)]
noncomputable def rowP : Nat → Int → Int → List (Int × Int × Int)
  | 0, _, _ => []
  | n + 1, y, y2 => if y < y2 then (y.fdiv 4, y, if y2 < (y.fdiv 4 + 1) * 4 then y2 else (y.fdiv 4 + 1) * 4) :: rowP n (if y2 < (y.fdiv 4 + 1) * 4 then y2 else (y.fdiv 4 + 1) * 4) y2 else []
noncomputable abbrev pieceV (p : Int × Int × Int) : V := .tup [.int p.1, .int p.2.1, .int p.2.2]
theorem rp_loop {B : Bs} {k : Nat} {st : List O} {env : Env} {t : Expr} {bd : List Stmt} {ρ₀ : List (Str × V)} {y2 : Int}
    (ht : ∀ (y : Int) acc, Tr B k env t (ρ₀ ++ ([("y", .int y)] : List (Str × V))) (st ++ [.list acc]) (decide (y < y2)) (st ++ [.list acc]))
    (hb : ∀ (y : Int) (acc : List V), y < y2 → acc.length ≤ 100 → Xs B k env bd (ρ₀ ++ ([("y", .int y)] : List (Str × V))) (st ++ [.list acc]) .next (ρ₀ ++ ([("y", .int (if y2 < (y.fdiv 4 + 1) * 4 then y2 else (y.fdiv 4 + 1) * 4))] : List (Str × V)))
      (st ++ [.list (acc ++ [pieceV (y.fdiv 4, y, if y2 < (y.fdiv 4 + 1) * 4 then y2 else (y.fdiv 4 + 1) * 4)])])) :
    ∀ (n : Nat) (y : Int) (acc : List V), (y2 - y).toNat ≤ n → acc.length + n ≤ 100 → ∃ ex, Wh B k env t bd (ρ₀ ++ ([("y", .int y)] : List (Str × V))) (st ++ [.list acc]) .next (ρ₀ ++ ex) (st ++ [.list (acc ++ (rowP n y y2).map pieceV)]) := by
  intro n
  induction n with
  | zero =>
    intro y acc h _
    have h1 := ht y acc
    rw [decide_eq_false (by omega)] at h1
    exact ⟨_, by simpa [rowP] using Wh.done (b := bd) h1⟩
  | succ n ih =>
    intro y acc h hl
    by_cases hy : y < y2
    · have h1 := ht y acc
      rw [decide_eq_true hy] at h1
      have hlow : y < (if y2 < (y.fdiv 4 + 1) * 4 then y2 else (y.fdiv 4 + 1) * 4) := by
        have : y.fdiv 4 = y / 4 := Int.fdiv_eq_ediv_of_nonneg _ (by omega)
        split <;> omega
      obtain ⟨ex, h2⟩ := ih (if y2 < (y.fdiv 4 + 1) * 4 then y2 else (y.fdiv 4 + 1) * 4) (acc ++ [pieceV (y.fdiv 4, y, if y2 < (y.fdiv 4 + 1) * 4 then y2 else (y.fdiv 4 + 1) * 4)]) (by omega) (by simp only [List.length_append, List.length_singleton]; omega)
      refine ⟨ex, .step h1 (hb y acc hy (by omega)) ?_⟩
      rw [rowP, if_pos hy, List.map_cons]
      rw [List.append_assoc] at h2
      exact h2
    · have h1 := ht y acc
      rw [decide_eq_false hy] at h1
      rw [rowP, if_neg hy]
      exact ⟨_, by simpa using Wh.done (b := bd) h1⟩
theorem row_pieces {B : Bs} {k : Nat} {st : List O} {x1 y1 x2 y2 way : Int} (hst : Cl st) (h1 : -50 ≤ y1) (h2 : y2 ≤ 40) : FnC B (k + 1) (.ref 110) [SideV x1 y1 x2 y2 way, .int 4] st (.lst ((rowP (y2 - y1).toNat y1 y2).map pieceV)) st := by
  refine FnC.seal (v := .ref st.length) (g := [.list ((rowP (y2 - y1).toNat y1 y2).map pieceV)]) ?_ rfl ?_ ?_ ?_
  · refine FnC.pl (names := ["side", "grain"]) (r := .ret (.ref st.length)) ⟨⟨_, _, _, rfl⟩, rfl, rfl, rfl, rfl, rfl, rfl, rfl, rfl⟩ (by decide) rfl ?_ (by decide) (fun L => ?_) (.inl rfl)
    · apply len2; intro _ _; rfl
    · refine XE.cons (X1.assign (by walk_at "ev") rfl rfl) ?_
      refine XE.cons (X1.assign (by walk_at "ev") rfl rfl) ?_
      refine XE.cons (X1.whileE (ρ' := [("grain", .int 4), ("side", SideV x1 y1 x2 y2 way), ("found", .ref st.length)]) (rp_loop (st := st) (ρ₀ := [("grain", .int 4), ("side", SideV x1 y1 x2 y2 way), ("found", .ref st.length)]) (y2 := y2) (fun y acc => ?_) (fun y acc hy hacc => ?_) (y2 - y1).toNat y1 [] (Nat.le_refl _) (by simp; omega))) ?_
      · walk_at "tr"
      · apply Xs.post
        · walk_at "xs"
        · rfl
      · exact XE.ret (by walk_at "ev")
  · exact hst
  · exact .list (Nat.le_refl _) at_last (.self _)
  · refine .lst fun v hv => ?_
    obtain ⟨p, _, rfl⟩ := List.mem_map.mp hv
    exact .tup fun v hv => by
      simp only [List.mem_cons, List.not_mem_nil, or_false] at hv
      rcases hv with rfl | rfl | rfl <;> exact .int _
noncomputable def mn (a b : Int) : Int := if b < a then b else a
noncomputable def mx (a b : Int) : Int := if b > a then b else a
theorem place_at {B : Bs} {k : Nat} {st : List O} {x1 y1 x2 y2 way y : Int} (h1 : x1.natAbs < 1000) (h2 : x2.natAbs < 1000) : FnC B (k + 1) (.ref 234) [SideV x1 y1 x2 y2 way, .int y] st (.tup [.int (x1 * (y2 - y1) + (x2 - x1) * (y - y1)), .int (y2 - y1)]) st := by
  refine FnC.pl (names := ["self", "y"]) (r := .ret (.tup [.int (x1 * (y2 - y1) + (x2 - x1) * (y - y1)), .int (y2 - y1)])) ⟨⟨_, _, _, rfl⟩, rfl, rfl, rfl, rfl, rfl, rfl, rfl, rfl⟩ (by decide) rfl ?_ (by decide) (fun L => ?_) (.inl rfl)
  · apply len2; intro _ _; rfl
  · refine XE.cons (X1.assign (by walk_at "ev") rfl rfl) ?_
    exact XE.ret (by walk_at "ev")
theorem upright_piece {B : Bs} {k : Nat} {st : List O} {x1 y1 x2 y2 way high : Int} (h1 : high.natAbs < 1000) : FnC B (k + 1) (.ref 117) [SideV x1 y1 x2 y2 way, .int high, .int 4] st (.tup [.int (x1.fdiv 4), .tup [.int high, .int 1], .tup [.int (high * ((x1.fdiv 4 + 1) * 4 - x1)), .int 1]]) st := by
  refine FnC.pl (names := ["side", "high", "grain"]) (r := .ret _) ⟨⟨_, _, _, rfl⟩, rfl, rfl, rfl, rfl, rfl, rfl, rfl, rfl⟩ (by decide) rfl ?_ (by decide) (fun L => ?_) (.inl rfl)
  · apply len3; intro _ _ _; rfl
  · refine XE.cons (X1.assign (by walk_at "ev") rfl rfl) ?_
    exact XE.ret (by walk_at "ev")
theorem side_make {B : Bs} {k : Nat} {st : List O} {x1 y1 x2 y2 way : Int} (hst : Cl st) : FnC B (k + 2) (.ref 237) [.int x1, .int y1, .int x2, .int y2, .int way] st (SideV x1 y1 x2 y2 way) st := by
  refine FnC.seal (v := .ref (st.length + 1)) (g := [.attrs [("x1", .int x1), ("y1", .int y1), ("x2", .int x2), ("y2", .int y2), ("way", .int way)], .inst 237 st.length]) ?_ rfl ?_ ?_ ?_
  · refine FnC.make kSide ?_
    refine FnC.pl (names := ["self", "x1", "y1", "x2", "y2", "way"]) (r := .next) ⟨⟨_, _, _, rfl⟩, rfl, rfl, rfl, rfl, rfl, rfl, rfl, rfl⟩ (by decide) rfl ?_ (by decide) (fun L => ?_) (.inr ⟨rfl, rfl⟩)
    · apply len6; intro _ _ _ _ _ _; rfl
    · have hi : ∀ fs, (st ++ [.attrs fs] ++ [.inst 237 st.length])[st.length + 1]? = some (.inst 237 st.length) := fun fs => by simp
      have hd : ∀ fs, (st ++ [.attrs fs] ++ [.inst 237 st.length])[st.length]? = some (.attrs fs) := fun fs => by simp
      have hs : ∀ fs fs', (st ++ [O.attrs fs] ++ [O.inst 237 st.length]).set st.length (.attrs fs') = st ++ [O.attrs fs'] ++ [O.inst 237 st.length] := fun fs fs' => by simp
      refine XE.cons ((X1.setattr (by walk_at "ev") (by walk_at "ev") (SetA.inst (hi _) (hd _) (show _ < 900 from Nat.le_of_ble_eq_true rfl) sSide_x1) rfl).cast rfl (hs _ _)) ?_
      refine XE.cons ((X1.setattr (by walk_at "ev") (by walk_at "ev") (SetA.inst (hi _) (hd _) (show _ < 900 from Nat.le_of_ble_eq_true rfl) sSide_y1) rfl).cast rfl (hs _ _)) ?_
      refine XE.cons ((X1.setattr (by walk_at "ev") (by walk_at "ev") (SetA.inst (hi _) (hd _) (show _ < 900 from Nat.le_of_ble_eq_true rfl) sSide_x2) rfl).cast rfl (hs _ _)) ?_
      refine XE.cons ((X1.setattr (by walk_at "ev") (by walk_at "ev") (SetA.inst (hi _) (hd _) (show _ < 900 from Nat.le_of_ble_eq_true rfl) sSide_y2) rfl).cast rfl (hs _ _)) ?_
      refine XE.cons ((X1.setattr (by walk_at "ev") (by walk_at "ev") (SetA.inst (hi _) (hd _) (show _ < 900 from Nat.le_of_ble_eq_true rfl) sSide_way) rfl).cast rfl (hs _ _)) ?_
      have e : st ++ [O.attrs [("x1", .int x1), ("y1", .int y1), ("x2", .int x2), ("y2", .int y2), ("way", .int way)], O.inst 237 st.length] = st ++ [O.attrs [("x1", .int x1), ("y1", .int y1), ("x2", .int x2), ("y2", .int y2), ("way", .int way)]] ++ [O.inst 237 st.length] := by simp
      rw [e]
      exact XE.nil
  · exact hst
  · exact .inst (Nat.le_succ _) (Nat.le_refl _) (by simp) (by simp) (.cons (.self _) (.cons (.self _) (.cons (.self _) (.cons (.self _) (.cons (.self _) .nil)))))
  · refine .inst fun p hp => ?_
    simp only [List.mem_cons, List.not_mem_nil, or_false] at hp
    rcases hp with rfl | rfl | rfl | rfl | rfl <;> exact .int _
noncomputable def colsI (a b : Int) : List Int := (List.range (b - a).toNat).map fun i => a + (i : Nat)
theorem rangeVs_eq (a b : Int) : rangeVs a b = (colsI a b).map V.int := by simp [rangeVs, colsI]
theorem mem_colsI {a b c : Int} (h : c ∈ colsI a b) : a ≤ c ∧ c < b := by
  unfold colsI at h
  obtain ⟨i, hi, rfl⟩ := List.mem_map.mp h
  have := List.mem_range.mp hi
  omega
noncomputable abbrev CP := Int × Int × Int × Int × Int
noncomputable abbrev cpV (p : CP) : V := .tup [.int p.1, .tup [.int p.2.1, .int p.2.2.1], .tup [.int p.2.2.2.1, .int p.2.2.2.2]]
noncomputable def colStep (left right high wide c : Int) : List CP :=
  if mx left ((c + 1) * 4 * high - 4 * high) < mn right ((c + 1) * 4 * high) then
    [(c, mn right ((c + 1) * 4 * high) - mx left ((c + 1) * 4 * high - 4 * high), wide, (mn right ((c + 1) * 4 * high) - mx left ((c + 1) * 4 * high - 4 * high)) * (2 * ((c + 1) * 4 * high) - mx left ((c + 1) * 4 * high - 4 * high) - mn right ((c + 1) * 4 * high)), 2 * high * wide)]
  else []
noncomputable def colLoop (left right high wide : Int) : List CP := (colsI (left.fdiv (high * 4)) (right.fdiv (high * 4) + 1)).flatMap (colStep left right high wide)
noncomputable def iabs (i : Int) : Int := if i < 0 then -i else i
/-- what column_pieces gives back -/
noncomputable def colP (x1 y1 x2 y2 upper lower : Int) : List CP :=
  if x1 = x2 then [(x1.fdiv 4, lower - upper, 1, (lower - upper) * ((x1.fdiv 4 + 1) * 4 - x1), 1)]
  else colLoop (mn (x1 * (y2 - y1) + (x2 - x1) * (upper - y1)) (x1 * (y2 - y1) + (x2 - x1) * (lower - y1))) (mx (x1 * (y2 - y1) + (x2 - x1) * (upper - y1)) (x1 * (y2 - y1) + (x2 - x1) * (lower - y1))) (y2 - y1) (iabs (x2 - x1))
theorem cp_ok1 {n : Nat} (p : CP) : Ok n (cpV p) := by
  refine .tup fun v hv => ?_
  simp only [List.mem_cons, List.not_mem_nil, or_false] at hv
  rcases hv with rfl | rfl | rfl
  · exact .int _
  all_goals
    refine .tup fun v hv => ?_
    simp only [List.mem_cons, List.not_mem_nil, or_false] at hv
    rcases hv with rfl | rfl <;> exact .int _
theorem cp_ok {n : Nat} (l : List CP) : Ok n (.lst (l.map cpV)) := .lst fun v hv => by
  obtain ⟨p, _, rfl⟩ := List.mem_map.mp hv
  exact cp_ok1 p
theorem fdiv_bd {l d : Int} (hl : l.natAbs < 500) (hd : 4 ≤ d) : -126 ≤ l.fdiv d ∧ l.fdiv d < 126 := by
  rw [Int.fdiv_eq_ediv_of_nonneg _ (by omega)]
  constructor
  · rw [Int.le_ediv_iff_mul_le (by omega)]; omega
  · rw [Int.ediv_lt_iff_lt_mul (by omega)]; omega
theorem column_pieces {B : Bs} {k : Nat} {st : List O} {x1 y1 x2 y2 way upper lower : Int} (hst : Cl st) (hx1 : x1.natAbs ≤ 8) (hx2 : x2.natAbs ≤ 8) (hy : y1 < y2) (hy2 : y2 - y1 ≤ 9) (hu : y1 ≤ upper) (hu2 : upper ≤ y2) (hl : y1 ≤ lower) (hl2 : lower ≤ y2) :
    FnC B (k + 2) (.ref 124) [SideV x1 y1 x2 y2 way, .int upper, .int lower, .int 4] st (.lst ((colP x1 y1 x2 y2 upper lower).map cpV)) st := by
  refine FnC.seal (v := .ref st.length) (g := [.list ((colP x1 y1 x2 y2 upper lower).map cpV)]) ?_ rfl hst (.list (Nat.le_refl _) at_last (Dens.self _)) (cp_ok _)
  refine FnC.pl (names := ["side", "upper", "lower", "grain"]) (r := .ret (.ref st.length)) ⟨⟨_, _, _, rfl⟩, rfl, rfl, rfl, rfl, rfl, rfl, rfl, rfl⟩ (by decide) rfl ?_ (by decide) (fun L => ?_) (.inl rfl)
  · apply len4; intro _ _ _ _; rfl
  unfold colP
  by_cases hx : x1 = x2
  · rw [if_pos hx]
    refine XE.ifR (Tr.cast (by walk_at "tr") (by simpa using hx)) ?_
    refine XE.ret ?_
    apply Ev.list
    apply Evs.cons
    rfl
    apply Ev.call; walk_at "cal"; walk_at "cw"; rfl; walk_at "evs"; exact (upright_piece (by omega)).fn
    exact Evs.nil
    exact Nat.le_of_ble_eq_true rfl
  · rw [if_neg hx]
    refine XE.ifF (Tr.cast (by walk_at "tr") (by simpa using hx)) ?_
    have m1 : ∀ y, y1 ≤ y → y ≤ y2 → (x1 * (y2 - y1) + (x2 - x1) * (y - y1)).natAbs < 500 := fun y h1 h2 => by
      have a1 : (x1 * (y2 - y1)).natAbs ≤ 8 * 9 := by rw [Int.natAbs_mul]; exact Nat.mul_le_mul hx1 (by omega)
      have a2 : ((x2 - x1) * (y - y1)).natAbs ≤ 16 * 9 := by rw [Int.natAbs_mul]; exact Nat.mul_le_mul (by omega) (by omega)
      omega
    generalize hfi : x1 * (y2 - y1) + (x2 - x1) * (upper - y1) = fi
    generalize hla : x1 * (y2 - y1) + (x2 - x1) * (lower - y1) = la
    have bfi : fi.natAbs < 500 := hfi ▸ m1 upper hu hu2
    have bla : la.natAbs < 500 := hla ▸ m1 lower hl hl2
    refine XE.cons (X1.swp ["high", "wide"] [.int (y2 - y1), .int (iabs (x2 - x1))] (by walk_at "ev") rfl rfl rfl rfl rfl) ?_
    refine XE.cons (st₁ := st) (X1.swp ["first", "last"] [.int fi, .int la] (by
      subst hfi hla
      have p1 : ∀ y, Fn B (k + 1) (.ref 234) [SideV x1 y1 x2 y2 way, .int y] st (.tup [.int (x1 * (y2 - y1) + (x2 - x1) * (y - y1)), .int (y2 - y1)]) st := fun y => (place_at (by omega) (by omega)).fn
      apply Ev.tuple
      apply Evs.cons; rfl
      apply Ev.sub
      apply Ev.meth; walk_at "ev"; exact Mth.fn (.inl rfl) rfl mSide_place_at; walk_at "cw"; rfl; walk_at "evs"; exact p1 upper; rfl
      walk_at "ev"; walk_at "sub"; exact fun _ _ => ⟨_, rfl⟩
      apply Evs.cons; rfl
      apply Ev.sub
      apply Ev.meth; walk_at "ev"; exact Mth.fn (.inl rfl) rfl mSide_place_at; walk_at "cw"; rfl; walk_at "evs"; exact p1 lower; rfl
      walk_at "ev"; walk_at "sub"; exact fun _ _ => ⟨_, rfl⟩
      exact Evs.nil
      exact Nat.le_of_ble_eq_true rfl) rfl rfl rfl rfl rfl) ?_
    refine XE.cons (X1.swp ["left", "right"] [.int (mn fi la), .int (mx fi la)] (by walk_at "ev") rfl rfl rfl rfl rfl) ?_
    refine XE.cons (X1.assign (by walk_at "ev") rfl rfl) ?_
    have bl : (mn fi la).natAbs < 500 := by unfold mn; split <;> omega
    have br : (mx fi la).natAbs < 500 := by unfold mx; split <;> omega
    have hlr : mn fi la ≤ mx fi la := by unfold mn mx; split <;> split <;> omega
    generalize mn fi la = left at bl hlr ⊢
    generalize mx fi la = right at br hlr ⊢
    have bw : (iabs (x2 - x1)).natAbs ≤ 16 := by unfold iabs; split <;> omega
    generalize iabs (x2 - x1) = wide at bw ⊢
    have bh : 1 ≤ y2 - y1 := by omega
    have hd0 : (y2 - y1) * 4 ≠ 0 := by omega
    have hd1 : ((y2 - y1) * 4).natAbs < 1073741824 := by omega
    obtain ⟨c1, c2⟩ := fdiv_bd bl (d := (y2 - y1) * 4) (by omega)
    obtain ⟨c3, c4⟩ := fdiv_bd br (d := (y2 - y1) * 4) (by omega)
    refine XE.at [("grain", .int 4), ("lower", .int lower), ("upper", .int upper), ("side", SideV x1 y1 x2 y2 way), ("wide", .int wide), ("high", .int (y2 - y1)), ("last", .int la), ("first", .int fi), ("right", .int right), ("left", .int left), ("found", .ref st.length)] rfl ?_
    refine XE.cons (X1.for (P := fun st' => True) (v := .range (left.fdiv ((y2 - y1) * 4)) (right.fdiv ((y2 - y1) * 4) + 1)) (items := rangeVs (left.fdiv ((y2 - y1) * 4)) (right.fdiv ((y2 - y1) * 4) + 1)) (by walk_at "ev") (Iters.range (by omega) (by omega))
      (FoR.acc (st := st) (N := 1) (ρ₀ := [("grain", .int 4), ("lower", .int lower), ("upper", .int upper), ("side", SideV x1 y1 x2 y2 way), ("wide", .int wide), ("high", .int (y2 - y1)), ("last", .int la), ("first", .int fi), ("right", .int right), ("left", .int left), ("found", .ref st.length)]) (f := fun v => match v with | .int c => (colStep left right (y2 - y1) wide c).map cpV | _ => []) (fun _ => trivial) ?_ ?_ [] ?_ (fun _ h => nomatch h)) (fun _ => rfl)) ?_
    · intro v hv
      rw [rangeVs_eq] at hv
      obtain ⟨c, _, rfl⟩ := List.mem_map.mp hv
      refine ⟨by dsimp only; unfold colStep; split <;> simp, fun u hu => ?_⟩
      obtain ⟨p, _, rfl⟩ := List.mem_map.mp hu
      exact cp_ok1 p
    · intro v acc hv hacc _
      rw [rangeVs_eq] at hv
      obtain ⟨c, hc, rfl⟩ := List.mem_map.mp hv
      obtain ⟨e1, e2⟩ := mem_colsI hc
      refine ⟨_, As.name rfl, ?_⟩
      have he : ((c + 1) * 4 * (y2 - y1)).natAbs ≤ 2012 * 9 := by rw [Int.natAbs_mul]; exact Nat.mul_le_mul (by omega) (by omega)
      dsimp only
      unfold colStep
      generalize hE : (c + 1) * 4 * (y2 - y1) = edge at he ⊢
      generalize hb : mx left (edge - 4 * (y2 - y1)) = bg
      generalize hn : mn right edge = en
      have bb : bg.natAbs < 20000 := by rw [← hb]; unfold mx; split <;> omega
      have be : en.natAbs < 20000 := by rw [← hn]; unfold mn; split <;> omega
      refine Xs.at [("grain", .int 4), ("lower", .int lower), ("upper", .int upper), ("side", SideV x1 y1 x2 y2 way), ("wide", .int wide), ("high", .int (y2 - y1)), ("last", .int la), ("first", .int fi), ("right", .int right), ("left", .int left), ("found", .ref st.length), ("column", .int c)] rfl ?_
      by_cases hlt : bg < en
      · rw [if_pos hlt]
        have m2 : ((en - bg) * (2 * edge - bg - en)).natAbs < 2 ^ 62 := by
          rw [Int.natAbs_mul]
          exact Nat.lt_of_le_of_lt (Nat.mul_le_mul (show _ ≤ 40000 by omega) (show _ ≤ 80000 by omega)) (by decide)
        apply Xs.post
        · apply Xs.cons
          · exact X1.assign (v := .int edge) (by subst hE; walk_at "ev") rfl rfl
          apply Xs.cons
          · exact X1.swp ["begin", "end"] [.int bg, .int en] (by subst hb hn; walk_at "ev") rfl rfl rfl rfl rfl
          apply Xs.ifT (Tr.cast (by walk_at "tr") (by simpa using hlt))
          · walk_at "xs"
          · exact Xs.nil
        · rfl
      · rw [if_neg hlt]
        simp only [List.map_nil, List.append_nil]
        apply Xs.post
        · apply Xs.cons
          · exact X1.assign (v := .int edge) (by subst hE; walk_at "ev") rfl rfl
          apply Xs.cons
          · exact X1.swp ["begin", "end"] [.int bg, .int en] (by subst hb hn; walk_at "ev") rfl rfl rfl rfl rfl
          apply Xs.ifF (Tr.cast (by walk_at "tr") (by simpa using hlt))
          exact Xs.nil
        · rfl
    · rw [rangeVs_len]; simp; omega
    · have e : (rangeVs (left.fdiv ((y2 - y1) * 4)) (right.fdiv ((y2 - y1) * 4) + 1)).flatMap (fun v => match v with | .int c => (colStep left right (y2 - y1) wide c).map cpV | _ => []) = (colLoop left right (y2 - y1) wide).map cpV := by
        rw [rangeVs_eq, List.flatMap_map]
        unfold colLoop
        rw [List.map_flatMap]
      rw [List.nil_append, e]
      exact XE.ret (by walk_at "ev")
noncomputable abbrev spV (p : Int × Int) : V := .tup [.int p.1, .int p.2]
noncomputable abbrev edV (e : (Int × Int) × (Int × Int)) : V := .tup [spV e.1, spV e.2]
noncomputable abbrev Sd := Int × Int × Int × Int × Int
noncomputable abbrev sdV (s : Sd) : V := SideV s.1 s.2.1 s.2.2.1 s.2.2.2.1 s.2.2.2.2
noncomputable def sdOf (e : (Int × Int) × (Int × Int)) : Sd := if e.1.2 < e.2.2 then (e.1.1, e.1.2, e.2.1, e.2.2, 1) else (e.2.1, e.2.2, e.1.1, e.1.2, -1)
noncomputable def sdsOf (e : (Int × Int) × (Int × Int)) : List Sd := if e.1.2 = e.2.2 then [] else [sdOf e]
noncomputable def edges (l : List (Int × Int)) : List ((Int × Int) × (Int × Int)) := l.zip (l.drop 1) ++ match l.getLast?, l.head? with | some z, some a => [(z, a)] | _, _ => []
theorem sp_ok {n : Nat} (p : Int × Int) : Ok n (spV p) := .tup fun v hv => by
  simp only [List.mem_cons, List.not_mem_nil, or_false] at hv
  rcases hv with rfl | rfl <;> exact .int _
theorem sd_ok {n : Nat} (p : Sd) : Ok n (sdV p) := .inst fun v hv => by
  simp only [List.mem_cons, List.not_mem_nil, or_false] at hv
  rcases hv with rfl | rfl | rfl | rfl | rfl <;> exact .int _
theorem ed_ok {n : Nat} (p : (Int × Int) × (Int × Int)) : Ok n (edV p) := .tup fun v hv => by
  simp only [List.mem_cons, List.not_mem_nil, or_false] at hv
  rcases hv with rfl | rfl <;> exact sp_ok _
theorem sds_ok {n : Nat} (l : List Sd) : Ok n (.lst (l.map sdV)) := .lst fun v hv => by
  obtain ⟨p, _, rfl⟩ := List.mem_map.mp hv
  exact sd_ok _
theorem side_between {B : Bs} {k : Nat} {st : List O} (hst : Cl st) (e : (Int × Int) × (Int × Int)) : FnC B (k + 3) (.ref 248) [spV e.1, spV e.2] st (if e.1.2 = e.2.2 then .none else sdV (sdOf e)) st := by
  refine FnC.pl (names := ["one", "other"]) (r := .ret (if e.1.2 = e.2.2 then .none else sdV (sdOf e))) ⟨⟨_, _, _, rfl⟩, rfl, rfl, rfl, rfl, rfl, rfl, rfl, rfl⟩ (by decide) rfl ?_ (by decide) (fun L => ?_) (.inl rfl)
  · apply len2; intro _ _; rfl
  by_cases h : e.1.2 = e.2.2
  · rw [if_pos h]
    exact XE.ifR (Tr.cast (by walk_at "tr") (by simpa using h)) (XE.ret (by walk_at "ev"))
  · rw [if_neg h]
    refine XE.ifF (Tr.cast (by walk_at "tr") (by simpa using h)) ?_
    unfold sdOf
    by_cases h' : e.1.2 < e.2.2
    · rw [if_pos h']
      refine XE.ifR (Tr.cast (by walk_at "tr") (by simpa using h')) (XE.ret ?_)
      apply Ev.call; walk_at "cal"; walk_at "cw"; rfl; walk_at "evs"; exact (side_make hst).fn
    · rw [if_neg h']
      refine XE.ifF (Tr.cast (by walk_at "tr") (by simpa using h')) (XE.ret ?_)
      apply Ev.call; walk_at "cal"; walk_at "cw"; rfl; walk_at "evs"; exact (side_make hst).fn
theorem zipVs_sp (l m : List (Int × Int)) : zipVs (l.map spV) (m.map spV) = (l.zip m).map edV := by
  unfold zipVs
  rw [List.zip_map, List.map_map]
  rfl
theorem flatMap_le {α β : Type} {f : α → List β} (h : ∀ a, (f a).length ≤ 1) : ∀ l : List α, (l.flatMap f).length ≤ l.length
  | [] => Nat.le_refl _
  | a :: l => by
    have := flatMap_le h l
    have := h a
    rw [List.flatMap_cons, List.length_append, List.length_cons]
    omega
theorem sides_of_contour {B : Bs} {k : Nat} {st : List O} (hst : Cl st) (a b : Int × Int) (r : List (Int × Int)) (hr : r.length ≤ 50) :
    FnC B (k + 4) (.ref 255) [.tup ((a :: b :: r).map spV), .bool true] st (.lst (((edges (a :: b :: r)).flatMap sdsOf).map sdV)) st := by
  generalize hl : a :: b :: r = l
  have h0 : l.head? = some a := by rw [← hl]; rfl
  have hn : 2 ≤ l.length := by rw [← hl]; simp
  have hn2 : l.length ≤ 52 := by rw [← hl]; simp; omega
  obtain ⟨z, hz⟩ : ∃ z, l.getLast? = some z := by rw [← hl]; exact ⟨_, List.getLast?_eq_some_getLast (by simp)⟩
  have hed : edges l = l.zip (l.drop 1) ++ [(z, a)] := by unfold edges; rw [hz, h0]
  have hlen : (edges l).length ≤ 60 := by rw [hed, List.length_append, List.length_zip]; simp; omega
  refine FnC.seal (v := .ref (st ++ [O.list ((edges l).map edV)]).length) (g := [.list ((edges l).map edV), .list (((edges l).flatMap sdsOf).map sdV)]) ?_ rfl hst (.list (by simp) (by simp) (Dens.self _)) (sds_ok _)
  refine FnC.pl (names := ["spots", "is_closed"]) (r := .ret (.ref (st ++ [O.list ((edges l).map edV)]).length)) ⟨⟨_, _, _, rfl⟩, rfl, rfl, rfl, rfl, rfl, rfl, rfl, rfl⟩ (by decide) rfl ?_ (by decide) (fun L => ?_) (.inl rfl)
  · apply len2; intro _ _; rfl
  refine XE.cons (X1.assign (v := .ref st.length) (st₁ := st ++ [.list ((l.zip (l.drop 1)).map edV)]) ?_ rfl rfl) ?_
  · rw [← zipVs_sp]
    apply Ev.listZ
    walk_at "cal"
    rfl
    apply EvZ.call
    walk_at "cal"
    rfl
    apply Evs.cons; rfl; walk_at "ev"
    apply Evs.cons; rfl; rw [List.map_drop]; exact Ev.from (n := 1) rfl (by walk_at "ev") (Nat.le_refl _) (by rw [List.length_map]; omega) (by rw [List.length_map]; have : sizeLine = 16777216 := by decide
                                                                                                                                               omega)
    exact Evs.nil
    unfold zipVs
    rw [List.length_map, List.length_zip]; simp; omega
  have hpairs : (l.zip (l.drop 1)).map edV ++ [.tup [spV z, spV a]] = (edges l).map edV := by rw [hed]; simp
  refine XE.ifT (st₁ := st ++ [.list ((l.zip (l.drop 1)).map edV)]) (ρ₁ := [("is_closed", .bool true), ("spots", .tup (l.map spV)), ("pairs", .ref st.length)]) (st₂ := st ++ [.list ((edges l).map edV)]) (Tr.and2 (b := true) (Tr.ev (by walk_at "ev") fun _ => rfl) (fun _ => Tr.cast (b := decide ((((l.map spV).length : Nat) : Int) > 1)) ?_ (decide_eq_true ?_)) (fun h => by cases h)) ?_ ?_
  · apply Tr.cmp
    apply Ev.call; walk_at "cal"; walk_at "cw"; rfl; walk_at "evs"; exact Fn.lenTup (by rw [List.length_map]; omega)
    walk_at "ev"
    walk_at "op"
    rfl
  · rw [List.length_map]; omega
  · rw [← hpairs]
    apply Xs.one
    apply X1.appendLast
    walk_at "ev"
    rfl
    apply Ev.tuple
    apply Evs.cons; rfl; apply Ev.sub; walk_at "ev"; walk_at "ev"; exact Sub.tup (by decide) (by decide) (seqIndex_neg (by decide) (by rw [List.length_map]; omega)) (by
      rw [List.getLast?_eq_getElem?] at hz
      rw [List.length_map, List.getElem?_map, show ((-1 : Int) + (l.length : Int)).toNat = l.length - 1 by omega, hz]; rfl); exact fun _ _ => ⟨_, rfl⟩
    apply Evs.cons; rfl; apply Ev.sub; walk_at "ev"; walk_at "ev"; exact Sub.tup (by decide) (by decide) (seqIndex_of (by decide) (by rw [List.length_map]; omega)) (by
      rw [List.head?_eq_getElem?] at h0
      rw [List.getElem?_map, show ((0 : Int)).toNat = 0 from rfl, h0]; rfl); exact fun _ _ => ⟨_, rfl⟩
    exact Evs.nil
    exact Nat.le_of_ble_eq_true rfl
    rw [List.length_map, List.length_zip]; simp; omega
    rfl
    rfl
  refine XE.cons (X1.assign (by walk_at "ev") rfl rfl) ?_
  generalize hS : st ++ [O.list ((edges l).map edV)] = S
  have hS0 : S[st.length]? = some (.list ((edges l).map edV)) := by rw [← hS]; exact at_last
  have hS1 : st.length < S.length := by rw [← hS]; simp
  have hcS : Cl S := by rw [← hS]; exact hst.push fun v hv => by obtain ⟨p, _, rfl⟩ := List.mem_map.mp hv; exact ed_ok _
  have hap : st ++ [.list ((edges l).map edV), .list (((edges l).flatMap sdsOf).map sdV)] = S ++ [.list (((edges l).flatMap sdsOf).map sdV)] := by rw [← hS]; simp
  rw [hap]
  have hP : ∀ acc, Lst (S ++ [.list acc]) (.ref st.length) ((edges l).map edV) := fun acc => .inr ⟨_, rfl, by rw [List.getElem?_append_left hS1]; exact hS0⟩
  refine XE.at [("is_closed", .bool true), ("spots", .tup (l.map spV)), ("pairs", .ref st.length), ("found", .ref S.length)] rfl ?_
  refine XE.cons (X1.for (P := fun st' => Lst st' (.ref st.length) ((edges l).map edV)) (v := .ref st.length) (items := (edges l).map edV) (by walk_at "ev") (Iters.lst (hP _))
    (FoR.acc (st := S) (N := 1) (ρ₀ := [("is_closed", .bool true), ("spots", .tup (l.map spV)), ("pairs", .ref st.length), ("found", .ref S.length)])
      (f := fun v => match v with | .tup [.tup [.int a, .int b], .tup [.int c, .int d]] => (sdsOf ((a, b), (c, d))).map sdV | _ => []) hP ?_ ?_ [] ?_ (fun _ h => nomatch h)) (fun _ => rfl)) ?_
  · intro v hv
    obtain ⟨e, _, rfl⟩ := List.mem_map.mp hv
    refine ⟨by dsimp only; unfold sdsOf; split <;> simp, fun u hu => ?_⟩
    obtain ⟨p, _, rfl⟩ := List.mem_map.mp hu
    exact sd_ok p
  · intro v acc hv hacc hok
    obtain ⟨e, _, rfl⟩ := List.mem_map.mp hv
    refine ⟨[("is_closed", .bool true), ("spots", .tup (l.map spV)), ("pairs", .ref st.length), ("found", .ref S.length), ("one", spV e.1), ("other", spV e.2)], As.tup rfl rfl (Ass.cons rfl (As.name rfl) (Ass.cons rfl (As.name rfl) Ass.nil)), ?_⟩
    have hc : Cl (S ++ [.list acc]) := hcS.push fun v hv => (hok v hv).mono (Nat.zero_le _)
    have hsb := (side_between (B := B) (k := k) hc e).fn
    show Xs _ _ _ _ _ _ _ _ (S ++ [.list (acc ++ (sdsOf e).map sdV)])
    unfold sdsOf
    by_cases h : e.1.2 = e.2.2
    · rw [if_pos h] at hsb ⊢
      simp only [List.map_nil, List.append_nil]
      apply Xs.post
      · apply Xs.cons
        · apply X1.assign
          apply Ev.call; walk_at "cal"; walk_at "cw"; rfl; walk_at "evs"; exact hsb
          rfl
          rfl
        apply Xs.ifF (Tr.cast (b := false) (by apply Tr.cmp; walk_at "ev"; walk_at "ev"; exact Op2.isNotNone (.inl rfl); rfl) rfl)
        exact Xs.nil
      · rfl
    · rw [if_neg h] at hsb ⊢
      apply Xs.post
      · apply Xs.cons
        · apply X1.assign
          apply Ev.call; walk_at "cal"; walk_at "cw"; rfl; walk_at "evs"; exact hsb
          rfl
          rfl
        apply Xs.ifT (Tr.cast (b := true) (by apply Tr.cmp; walk_at "ev"; walk_at "ev"; exact Op2.isNotNone (.inr (.inl ⟨_, _, rfl⟩)); rfl) rfl)
        · walk_at "xs"
        · exact Xs.nil
      · rfl
  · rw [List.length_map]; simp; omega
  · have e : ((edges l).map edV).flatMap (fun v => match v with | .tup [.tup [.int a, .int b], .tup [.int c, .int d]] => (sdsOf ((a, b), (c, d))).map sdV | _ => []) = ((edges l).flatMap sdsOf).map sdV := by
      rw [List.flatMap_map, List.map_flatMap]
    rw [List.nil_append, e]
    exact XE.ret (by walk_at "ev")
theorem sides_of {B : Bs} {k : Nat} {st : List O} (hst : Cl st) (j : Nat) (c : Bool) (a b : Int × Int) (r : List (Int × Int)) (hr : r.length ≤ 50) (hj : st[j]? = some (.list [.tup [.tup ((a :: b :: r).map spV), .bool c]])) :
    FnC B (k + 5) (.ref 263) [.ref j] st (.lst (((edges (a :: b :: r)).flatMap sdsOf).map sdV)) st := by
  refine FnC.seal (v := .ref st.length) (g := [.list (((edges (a :: b :: r)).flatMap sdsOf).map sdV)]) ?_ rfl hst (.list (Nat.le_refl _) at_last (Dens.self _)) (sds_ok _)
  refine FnC.plainB (names := ["contours", "is_closing"]) (ex := [.bool true]) (exv := [.bool true]) (r := .ret (.ref st.length)) ⟨⟨_, _, _, rfl⟩, rfl, rfl, rfl, rfl, rfl, rfl, rfl, rfl⟩ (by decide) rfl (fun _ => .cons (.bool _) .nil) ?_ (by decide) (fun L => ?_) (.inl rfl)
  · intro s xs hk
    have e : B.K.lookup 256 = some { cls := .type "tuple", data := .seq #[.bool true] } := rfl
    revert xs
    apply len1
    intro _
    exact .of_defaults (T := 256) rfl (hk _ _ (B.X _ _ e)) rfl rfl rfl
  have hjl : j < st.length := (List.getElem?_eq_some_iff.mp hj).1
  have hP : ∀ acc, Lst (st ++ [.list acc]) (.ref j) [.tup [.tup ((a :: b :: r).map spV), .bool c]] := fun acc => .inr ⟨_, rfl, by rw [List.getElem?_append_left hjl]; exact hj⟩
  have hlen : (((edges (a :: b :: r)).flatMap sdsOf).map sdV).length ≤ 100 := by
    rw [List.length_map]
    refine Nat.le_trans (flatMap_le (fun e => by unfold sdsOf; split <;> simp) _) ?_
    unfold edges
    rw [List.length_append, List.length_zip]
    split <;> simp <;> omega
  refine XE.cons (X1.assign (by walk_at "ev") rfl rfl) ?_
  refine XE.at [("is_closing", .bool true), ("contours", .ref j), ("found", .ref st.length)] rfl ?_
  refine XE.cons (X1.for (P := fun st' => Lst st' (.ref j) [.tup [.tup ((a :: b :: r).map spV), .bool c]]) (v := .ref j) (items := [.tup [.tup ((a :: b :: r).map spV), .bool c]]) (by walk_at "ev") (Iters.lst (hP _))
    (.cons (hP _) (ρ₁ := [("is_closing", .bool true), ("contours", .ref j), ("found", .ref st.length), ("spots", .tup ((a :: b :: r).map spV)), ("is_closed", .bool c)]) (As.tup rfl rfl (Ass.cons rfl (As.name rfl) (Ass.cons rfl (As.name rfl) Ass.nil)))
      (Xs.one (X1.expr (st₁ := st ++ [.list (((edges (a :: b :: r)).flatMap sdsOf).map sdV)]) ?_ rfl)) (.nil (hP _))) (fun _ => rfl)) ?_
  · have e : st ++ [O.list (((edges (a :: b :: r)).flatMap sdsOf).map sdV)] = (st ++ [O.list []]).set st.length (.list ([] ++ ((edges (a :: b :: r)).flatMap sdsOf).map sdV)) := by rw [set_last]; rfl
    rw [e]
    apply Ev.meth
    walk_at "ev"
    exact Mth.extend at_last
    walk_at "cw"
    rfl
    apply Evs.cons
    rfl
    apply Ev.call
    walk_at "cal"; walk_at "cw"; rfl
    apply Evs.cons; rfl; walk_at "ev"
    apply Evs.cons; rfl; exact Ev.or2 (by walk_at "ev")
    exact Evs.nil
    exact (sides_of_contour (hst.push (show OkO _ (.list []) from fun v hv => by cases hv)) a b r hr).fn
    exact Evs.nil
    exact Fn.extend at_last (.inl rfl) (by simp only [List.length_nil, Nat.zero_add]; omega)
    rfl
  · exact XE.ret (by walk_at "ev")
/-- the dots' table: rows in order, columns of a row in order, what stands at them, how many were told -/
structure Tb where
  rows : List Int
  cols : Int → List Int
  v : Int → Int → Rat × Rat
  m : Nat
noncomputable abbrev cellFs (q : Rat × Rat) : List (Str × V) := [("cover", Fr q.1), ("area", Fr q.2)]
noncomputable abbrev rowDict (t : Tb) (ix : Int → Nat) : List (Int × V) := t.rows.map fun r => (r, V.ref (ix r))
noncomputable abbrev colDict (t : Tb) (ex : Int → Int → Nat) (r : Int) : List (Int × V) := (t.cols r).map fun c => (c, V.ref (ex r c))
structure W (st : List O) (n : Nat) (t : Tb) (ix : Int → Nat) (ex : Int → Int → Nat) : Prop where
  cl : Cl st
  a : st[n]? = some (.attrs [("grain", .int 4), ("rows", .ref (n + 2))])
  i : st[n + 1]? = some (.inst 195 n)
  d : st[n + 2]? = some (.dict (rowDict t ix))
  r : ∀ r ∈ t.rows, n + 2 < ix r ∧ st[ix r]? = some (.dict (colDict t ex r))
  c : ∀ r ∈ t.rows, ∀ c ∈ t.cols r, n + 3 < ex r c ∧ st[ex r c]? = some (.inst 99 (ex r c - 1)) ∧ st[ex r c - 1]? = some (.attrs (cellFs (t.v r c)))
  ri : ∀ r ∈ t.rows, ∀ r' ∈ t.rows, ix r = ix r' → r = r'
  ci : ∀ r ∈ t.rows, ∀ c ∈ t.cols r, ∀ r' ∈ t.rows, ∀ c' ∈ t.cols r', ex r c = ex r' c' → r = r' ∧ c = c'
  rn : t.rows.Nodup
  cn : ∀ r, (t.cols r).Nodup
  nr : ∀ r, r ∉ t.rows → t.cols r = []
  nc : ∀ r c, c ∉ t.cols r → t.v r c = (0, 0)
  src : 0 < n → ∃ p q : Int, st[0]? = some (.list [.int p, .int q]) ∧ 0 ≤ q ∧ q < 2147483647
theorem dGet_map {l : List Int} {f : Int → V} {k : Int} : dGet (l.map fun r => (r, f r)) k = if k ∈ l then some (f k) else none := by
  unfold dGet
  induction l with
  | nil => rfl
  | cons a l ih =>
    rw [List.map_cons, List.find?_cons]
    by_cases h : a = k
    · subst h; simp
    · have h' : k ≠ a := fun e => h e.symm
      simp only [decide_eq_false h, List.mem_cons, h', false_or]
      exact ih
theorem dSet_new {l : List Int} {f : Int → V} {k : Int} {v : V} (h : k ∉ l) : dSet (l.map fun r => (r, f r)) k v = (l.map fun r => (r, f r)) ++ [(k, v)] := by
  unfold dSet
  rw [if_neg]
  rw [List.any_map, List.any_eq_true]
  rintro ⟨a, ha, e⟩
  have : a = k := by simpa using e
  subst this; exact h ha
noncomputable def Tb.addRow (t : Tb) (r : Int) : Tb := { t with rows := if r ∈ t.rows then t.rows else t.rows ++ [r] }
noncomputable def Tb.addCell (t : Tb) (r c : Int) : Tb := { t with cols := fun r' => if r' = r then (if c ∈ t.cols r then t.cols r else t.cols r ++ [c]) else t.cols r' }
noncomputable def Tb.bump (t : Tb) (r c : Int) (q : Rat × Rat) : Tb := { t with v := fun r' c' => if r' = r ∧ c' = c then (t.v r c).1 + q.1 |> fun x => (x, (t.v r c).2 + q.2) else t.v r' c', m := t.m + 1 }
noncomputable def Tb.put (t : Tb) (r c : Int) (q : Rat × Rat) : Tb := ((t.addRow r).addCell r c).bump r c q
section
variable {st : List O} {n : Nat} {t : Tb} {ix : Int → Nat} {ex : Int → Int → Nat}
theorem get_push {o o' : O} {i : Nat} (h : st[i]? = some o) : (st ++ [o'])[i]? = some o := by rw [List.getElem?_append_left (List.getElem?_eq_some_iff.mp h).1]; exact h
theorem get_set {o o' : O} {i j : Nat} (h : st[i]? = some o) (hne : j ≠ i) : (st.set j o')[i]? = some o := by rw [List.getElem?_set_ne hne]; exact h
theorem W.push {o : O} (w : W st n t ix ex) (ho : OkO (st.length + 1) o) : W (st ++ [o]) n t ix ex :=
  { w with
    cl := w.cl.push ho
    a := get_push w.a
    i := get_push w.i
    d := get_push w.d
    r := fun r hr => ⟨(w.r r hr).1, get_push (w.r r hr).2⟩
    c := fun r hr c hc => let ⟨h1, h2, h3⟩ := w.c r hr c hc; ⟨h1, get_push h2, get_push h3⟩
    src := fun h => let ⟨p, q, e, h'⟩ := w.src h; ⟨p, q, get_push e, h'⟩ }
theorem lt_of_get {o : O} {i : Nat} (h : st[i]? = some o) : i < st.length := (List.getElem?_eq_some_iff.mp h).1
theorem W.row {r : Int} (w : W st n t ix ex) (hr : r ∉ t.rows) : W ((st ++ [O.dict []]).set (n + 2) (.dict (dSet (rowDict t ix) r (.ref st.length)))) n (t.addRow r) (fun r' => if r' = r then st.length else ix r') ex := by
  have hd : rowDict (t.addRow r) (fun r' => if r' = r then st.length else ix r') = dSet (rowDict t ix) r (.ref st.length) := by
    rw [dSet_new hr]
    show (if r ∈ t.rows then t.rows else t.rows ++ [r]).map _ = _
    rw [if_neg hr, List.map_append]
    simp only [List.map_cons, List.map_nil, if_true]
    congr 1
    refine List.map_congr_left fun a ha => ?_
    have : a ≠ r := fun e => hr (e ▸ ha)
    rw [if_neg this]
  have hrows : (t.addRow r).rows = t.rows ++ [r] := by unfold Tb.addRow; rw [if_neg hr]
  have hn2 := lt_of_get w.d
  have hlen : (st ++ [O.dict []]).length = st.length + 1 := by simp
  have keep : ∀ {i : Nat} {o : O}, st[i]? = some o → n + 2 ≠ i → ((st ++ [O.dict []]).set (n + 2) (O.dict (dSet (rowDict t ix) r (.ref st.length))))[i]? = some o := fun h hne => get_set (get_push h) hne
  refine { cl := ?_, a := keep w.a (by omega), i := keep w.i (by omega), d := ?_, r := ?_, c := ?_, ri := ?_, ci := ?_, rn := ?_, cn := w.cn, nr := ?_, nc := w.nc, src := fun h => let ⟨p, q, e, h'⟩ := w.src h; ⟨p, q, keep e (by omega), h'⟩ }
  · refine (w.cl.push (o := .dict []) (fun p hp => by cases hp)).set (o := .dict (dSet (rowDict t ix) r (.ref st.length))) fun p hp => ?_
    rw [dSet_new hr] at hp
    rcases List.mem_append.mp hp with hp | hp
    · have := w.cl _ (List.mem_of_getElem? w.d) p hp
      exact this.mono (by rw [hlen]; exact Nat.le_succ _)
    · rw [List.mem_singleton] at hp; subst hp; exact .ref (by rw [hlen]; exact Nat.lt_succ_self _)
  · rw [hd, List.getElem?_set_self (by rw [hlen]; omega)]
  · intro r' hr'
    rw [hrows] at hr'
    by_cases e : r' = r
    · subst e
      refine ⟨by simp only [if_true]; exact hn2, ?_⟩
      simp only [if_true]
      rw [List.getElem?_set_ne (by omega), at_last]
      have : t.cols r' = [] := w.nr r' hr
      show some (O.dict []) = some (.dict ((t.cols r').map _))
      rw [this]; rfl
    · have h1 : r' ∈ t.rows := by
        rcases List.mem_append.mp hr' with h | h
        · exact h
        · exact absurd (List.mem_singleton.mp h) e
      obtain ⟨h2, h3⟩ := w.r r' h1
      simp only [if_neg e]
      exact ⟨h2, keep h3 (by omega)⟩
  · intro r' hr' c hc
    have h1 : r' ∈ t.rows := by
      rw [hrows] at hr'
      rcases List.mem_append.mp hr' with h | h
      · exact h
      · have := List.mem_singleton.mp h
        subst this
        have hc : c ∈ t.cols r' := hc
        rw [w.nr r' hr] at hc; cases hc
    obtain ⟨h2, h3, h4⟩ := w.c r' h1 c hc
    exact ⟨h2, keep h3 (by omega), keep h4 (by omega)⟩
  · intro r1 h1 r2 h2
    rw [hrows] at h1 h2
    have m : ∀ x, x ∈ t.rows ++ [r] → x ≠ r → x ∈ t.rows := fun x hx e => by
      rcases List.mem_append.mp hx with h | h
      · exact h
      · exact absurd (List.mem_singleton.mp h) e
    by_cases e1 : r1 = r <;> by_cases e2 : r2 = r
    · intro _; rw [e1, e2]
    · simp only [e1, if_true, if_neg e2]
      intro h
      have := lt_of_get (w.r r2 (m _ h2 e2)).2
      omega
    · simp only [e2, if_true, if_neg e1]
      intro h
      have := lt_of_get (w.r r1 (m _ h1 e1)).2
      omega
    · simp only [if_neg e1, if_neg e2]
      exact w.ri r1 (m _ h1 e1) r2 (m _ h2 e2)
  · have m : ∀ x c, x ∈ (t.addRow r).rows → c ∈ t.cols x → x ∈ t.rows := fun x c hx hc => by
      rw [hrows] at hx
      rcases List.mem_append.mp hx with h | h
      · exact h
      · have := List.mem_singleton.mp h
        subst this
        rw [w.nr x hr] at hc; cases hc
    exact fun r1 h1 c1 k1 r2 h2 c2 k2 => w.ci r1 (m _ _ h1 k1) c1 k1 r2 (m _ _ h2 k2) c2 k2
  · rw [hrows, List.nodup_append]
    exact ⟨w.rn, by simp, fun a ha b hb e => by rw [List.mem_singleton] at hb; subst hb; subst e; exact hr ha⟩
  · intro r' h
    exact w.nr r' fun h' => h (by rw [hrows]; exact List.mem_append_left _ h')
theorem W.cell {r c : Int} (w : W st n t ix ex) (hr : r ∈ t.rows) (hc : c ∉ t.cols r) :
    W ((st ++ [O.attrs (cellFs (0, 0))] ++ [O.inst 99 st.length]).set (ix r) (O.dict (dSet (colDict t ex r) c (.ref (st.length + 1))))) n (t.addCell r c) ix (fun r' c' => if r' = r ∧ c' = c then st.length + 1 else ex r' c') := by
  have hcols : ∀ r', (t.addCell r c).cols r' = if r' = r then t.cols r ++ [c] else t.cols r' := fun r' => by
    show (if r' = r then (if c ∈ t.cols r then t.cols r else t.cols r ++ [c]) else t.cols r') = _
    rw [if_neg hc]
  have hir := w.r r hr
  have hil := lt_of_get hir.2
  have keep : ∀ {i : Nat} {o : O}, st[i]? = some o → ix r ≠ i → ((st ++ [O.attrs (cellFs (0, 0))] ++ [O.inst 99 st.length]).set (ix r) (O.dict (dSet (colDict t ex r) c (.ref (st.length + 1)))))[i]? = some o := fun h hne => get_set (get_push (get_push h)) hne
  have hlen : (st ++ [O.attrs (cellFs (0, 0))] ++ [O.inst 99 st.length]).length = st.length + 2 := by simp
  have mem' : ∀ r' c', c' ∈ (t.addCell r c).cols r' → ¬ (r' = r ∧ c' = c) → c' ∈ t.cols r' := fun r' c' h hne => by
    rw [hcols] at h
    by_cases e : r' = r
    · rw [if_pos e] at h
      rcases List.mem_append.mp h with h | h
      · rw [e]; exact h
      · exact absurd ⟨e, List.mem_singleton.mp h⟩ hne
    · rw [if_neg e] at h; exact h
  have n1 : n + 2 < ix r := hir.1
  refine { cl := ?_, a := keep w.a (by omega), i := keep w.i (by omega), d := keep w.d (by omega), r := ?_, c := ?_, ri := w.ri, ci := ?_, rn := w.rn, cn := ?_, nr := ?_, nc := ?_, src := fun h => let ⟨p, q, e, h'⟩ := w.src h; ⟨p, q, keep e (by omega), h'⟩ }
  · refine ((w.cl.push (o := .attrs (cellFs (0, 0))) (fun p hp => ?_)).push (o := .inst 99 st.length) (by show _ < _; simp; omega)).set (o := .dict (dSet (colDict t ex r) c (.ref (st.length + 1)))) fun p hp => ?_
    · simp only [List.mem_cons, List.not_mem_nil, or_false] at hp
      rcases hp with rfl | rfl <;> exact .tup fun v hv => by
        simp only [List.mem_cons, List.not_mem_nil, or_false] at hv
        rcases hv with rfl | rfl <;> exact .int _
    · rw [dSet_new hc] at hp
      rcases List.mem_append.mp hp with hp | hp
      · exact (w.cl _ (List.mem_of_getElem? hir.2) p hp).mono (by rw [hlen]; omega)
      · rw [List.mem_singleton] at hp; subst hp; exact .ref (by rw [hlen]; omega)
  · intro r' hr'
    have hir' := w.r r' hr'
    refine ⟨hir'.1, ?_⟩
    by_cases e : r' = r
    · subst e
      rw [List.getElem?_set_self (by rw [hlen]; omega)]
      congr 2
      rw [dSet_new hc]
      show _ = ((t.addCell r' c).cols r').map _
      rw [hcols, if_pos rfl, List.map_append]
      simp only [List.map_cons, List.map_nil, and_self, if_true]
      congr 1
      refine List.map_congr_left fun a ha => ?_
      have : ¬ (True ∧ a = c) := fun h => hc (h.2 ▸ ha)
      rw [if_neg this]
    · have hne : ix r ≠ ix r' := fun h => e (w.ri r hr r' hr' h).symm
      rw [keep hir'.2 hne]
      congr 2
      show _ = ((t.addCell r c).cols r').map _
      rw [hcols, if_neg e]
      refine List.map_congr_left fun a ha => ?_
      have : ¬ (r' = r ∧ a = c) := fun h => e h.1
      show _ = (a, V.ref (if r' = r ∧ a = c then _ else _))
      rw [if_neg this]
  · intro r' hr' c' hc'
    have hr' : r' ∈ t.rows := hr'
    by_cases e : r' = r ∧ c' = c
    · obtain ⟨rfl, rfl⟩ := e
      simp only [and_self, if_true]
      have nn := lt_of_get w.d
      refine ⟨by omega, ?_, ?_⟩
      · rw [List.getElem?_set_ne (by omega), show st.length + 1 = (st ++ [O.attrs (cellFs (0, 0))]).length by simp, at_last]
        simp
      · rw [List.getElem?_set_ne (by omega), show st.length + 1 - 1 = st.length by omega, List.getElem?_append_left (by simp), at_last]
        show some (O.attrs (cellFs (0, 0))) = some (.attrs (cellFs (t.v r' c')))
        rw [w.nc r' c' hc]
    · have hm := mem' r' c' hc' e
      obtain ⟨h1, h2, h3⟩ := w.c r' hr' c' hm
      simp only [if_neg e]
      have hni : ∀ {i : Nat} {o : O}, st[i]? = some o → (∀ l, o ≠ .dict l) → ix r ≠ i := fun h hd e => by
        subst e; rw [hir.2] at h; cases h; exact hd _ rfl
      exact ⟨h1, keep h2 (hni h2 fun l e => by cases e), keep h3 (hni h3 fun l e => by cases e)⟩
  · intro r1 h1 c1 k1 r2 h2 c2 k2
    by_cases e1 : r1 = r ∧ c1 = c <;> by_cases e2 : r2 = r ∧ c2 = c
    · intro _; exact ⟨e1.1.trans e2.1.symm, e1.2.trans e2.2.symm⟩
    · simp only [if_pos e1, if_neg e2]
      intro h
      have := lt_of_get (w.c r2 h2 c2 (mem' _ _ k2 e2)).2.1
      omega
    · simp only [if_neg e1, if_pos e2]
      intro h
      have := lt_of_get (w.c r1 h1 c1 (mem' _ _ k1 e1)).2.1
      omega
    · simp only [if_neg e1, if_neg e2]
      exact w.ci r1 h1 c1 (mem' _ _ k1 e1) r2 h2 c2 (mem' _ _ k2 e2)
  · intro r'
    rw [hcols]
    split
    · rw [List.nodup_append]
      exact ⟨w.cn r, by simp, fun a ha b hb e => by rw [List.mem_singleton] at hb; subst hb; subst e; exact hc ha⟩
    · exact w.cn r'
  · intro r' h
    have h : r' ∉ t.rows := h
    rw [hcols, if_neg (fun e => h (by rw [e]; exact hr))]
    exact w.nr r' h
  · intro r' c' h
    rw [hcols] at h
    split at h
    · rename_i e; subst e
      exact w.nc r' c' fun h' => h (List.mem_append_left _ h')
    · exact w.nc r' c' h
theorem W.upd {r c : Int} {q : Rat × Rat} (w : W st n t ix ex) (hr : r ∈ t.rows) (hc : c ∈ t.cols r) :
    W (st.set (ex r c - 1) (.attrs (cellFs ((t.v r c).1 + q.1, (t.v r c).2 + q.2)))) n (t.bump r c q) ix ex := by
  obtain ⟨h1, h2, h3⟩ := w.c r hr c hc
  have keep : ∀ {i : Nat} {o : O}, st[i]? = some o → ex r c - 1 ≠ i → (st.set (ex r c - 1) (.attrs (cellFs ((t.v r c).1 + q.1, (t.v r c).2 + q.2))))[i]? = some o := fun h hne => get_set h hne
  have hni : ∀ {i : Nat} {o : O}, st[i]? = some o → (∀ l, o ≠ .attrs l) → ex r c - 1 ≠ i := fun h hd e => by
    subst e; rw [h3] at h; cases h; exact hd _ rfl
  refine { cl := ?_, a := keep w.a (by omega), i := keep w.i (by omega), d := keep w.d (by omega), r := ?_, c := ?_, ri := w.ri, ci := w.ci, rn := w.rn, cn := w.cn, nr := w.nr, nc := ?_, src := fun h => let ⟨p, q, e, h'⟩ := w.src h; ⟨p, q, keep e (by omega), h'⟩ }
  · refine w.cl.set fun p hp => ?_
    simp only [List.mem_cons, List.not_mem_nil, or_false] at hp
    rcases hp with rfl | rfl <;> exact .tup fun v hv => by
      simp only [List.mem_cons, List.not_mem_nil, or_false] at hv
      rcases hv with rfl | rfl <;> exact .int _
  · exact fun r' hr' => ⟨(w.r r' hr').1, keep (w.r r' hr').2 (hni (w.r r' hr').2 fun l e => by cases e)⟩
  · intro r' hr' c' hc'
    obtain ⟨k1, k2, k3⟩ := w.c r' hr' c' hc'
    refine ⟨k1, keep k2 (hni k2 fun l e => by cases e), ?_⟩
    by_cases e : r' = r ∧ c' = c
    · obtain ⟨rfl, rfl⟩ := e
      rw [List.getElem?_set_self (lt_of_get h3)]
      show _ = some (O.attrs (cellFs (if r' = r' ∧ c' = c' then _ else _)))
      rw [if_pos ⟨rfl, rfl⟩]
    · rw [keep k3 fun h => e ?_]
      · show _ = some (O.attrs (cellFs (if r' = r ∧ c' = c then _ else _)))
        rw [if_neg e]
      · have hee : ex r c = ex r' c' := by omega
        obtain ⟨e1, e2⟩ := w.ci r hr c hc r' hr' c' hc' hee
        exact ⟨e1.symm, e2.symm⟩
  · intro r' c' h
    show (if r' = r ∧ c' = c then _ else _) = _
    rw [if_neg]
    · exact w.nc r' c' h
    · rintro ⟨rfl, rfl⟩; exact h hc
end
theorem cell_make {B : Bs} {k : Nat} {st : List O} : FnC B (k + 4) (.ref 99) [] st (.ref (st.length + 1)) (st ++ [.attrs (cellFs (0, 0))] ++ [.inst 99 st.length]) := by
  refine FnC.make kCell ?_
  refine FnC.pl (names := ["self"]) (r := .next) ⟨⟨_, _, _, rfl⟩, rfl, rfl, rfl, rfl, rfl, rfl, rfl, rfl⟩ (by decide) rfl ?_ (by decide) (fun L => ?_) (.inr ⟨rfl, rfl⟩)
  · apply len1; intro _; rfl
  have hi : ∀ fs, (st ++ [O.attrs fs] ++ [O.inst 99 st.length])[st.length + 1]? = some (.inst 99 st.length) := fun fs => by simp
  have hd : ∀ fs, (st ++ [O.attrs fs] ++ [O.inst 99 st.length])[st.length]? = some (.attrs fs) := fun fs => by simp
  have hs : ∀ fs fs', (st ++ [O.attrs fs] ++ [O.inst 99 st.length]).set st.length (.attrs fs') = st ++ [O.attrs fs'] ++ [O.inst 99 st.length] := fun fs fs' => by simp
  refine XE.cons ((X1.setattr (v := Fr 0) (by apply Ev.call; walk_at "cal"; walk_at "cw"; rfl; walk_at "evs"; exact (fraction1 (t := 0)).fn) (by walk_at "ev") (SetA.inst (hi _) (hd _) (show _ < 900 from Nat.le_of_ble_eq_true rfl) sCell_cover) rfl).cast rfl (hs _ _)) ?_
  refine XE.cons ((X1.setattr (v := Fr 0) (by apply Ev.call; walk_at "cal"; walk_at "cw"; rfl; walk_at "evs"; exact (fraction1 (t := 0)).fn) (by walk_at "ev") (SetA.inst (hi _) (hd _) (show _ < 900 from Nat.le_of_ble_eq_true rfl) sCell_area) rfl).cast rfl (hs _ _)) ?_
  exact XE.nil
theorem cell_add {B : Bs} {k : Nat} {st : List O} {e f : Nat} {p q c a : Rat} (he : st[e]? = some (.inst 99 f)) (hf : st[f]? = some (.attrs (cellFs (p, q)))) (hp : Sz p) (hq : Sz q) (hc : Sz c) (ha : Sz a) :
    FnC B (k + 4) (.ref 96) [.ref e, Fr c, Fr a] st .none (st.set f (.attrs (cellFs (p + c, q + a)))) := by
  refine FnC.pl (names := ["self", "cover", "area"]) (r := .next) ⟨⟨_, _, _, rfl⟩, rfl, rfl, rfl, rfl, rfl, rfl, rfl, rfl⟩ (by decide) rfl ?_ (by decide) (fun L => ?_) (.inr ⟨rfl, rfl⟩)
  · apply len3; intro _ _ _; rfl
  have hne : f ≠ e := fun e' => by subst e'; rw [he] at hf; cases hf
  have hi1 : Ins st (.ref e) 99 (cellFs (p, q)) := .inr ⟨e, f, rfl, he, hf⟩
  have he2 : (st.set f (.attrs (cellFs (p + c, q))))[e]? = some (.inst 99 f) := get_set he hne
  have hf2 : (st.set f (.attrs (cellFs (p + c, q))))[f]? = some (.attrs (cellFs (p + c, q))) := by rw [List.getElem?_set_self (lt_of_get hf)]
  have hi2 : Ins (st.set f (.attrs (cellFs (p + c, q)))) (.ref e) 99 (cellFs (p + c, q)) := .inr ⟨e, f, rfl, he2, hf2⟩
  refine XE.cons (st₁ := st.set f (.attrs (cellFs (p + c, q)))) ((X1.setattr (v := Fr (p + c)) (by apply Ev.call; walk_at "cal"; walk_at "cw"; rfl; walk_at "evs"; exact (plus hp hc).fn) (by walk_at "ev") (SetA.inst he hf (show _ < 900 from Nat.le_of_ble_eq_true rfl) sCell_cover) rfl).cast rfl rfl) ?_
  refine XE.cons (st₁ := st.set f (.attrs (cellFs (p + c, q + a)))) ((X1.setattr (v := Fr (q + a)) (by apply Ev.call; walk_at "cal"; walk_at "cw"; rfl; walk_at "evs"; exact (plus hq ha).fn) (by walk_at "ev") (SetA.inst he2 hf2 (show _ < 900 from Nat.le_of_ble_eq_true rfl) sCell_area) rfl).cast rfl (by rw [List.set_set]; rfl)) ?_
  exact XE.nil
noncomputable def Tb.empty : Tb := ⟨[], fun _ => [], fun _ _ => (0, 0), 0⟩
noncomputable def cellsSt (st : List O) : List O := st ++ [.attrs [("grain", .int 4), ("rows", .ref (st.length + 2))]] ++ [.inst 195 st.length] ++ [.dict []]
theorem cells_make {B : Bs} {k : Nat} {st : List O} : FnC B (k + 2) (.ref 195) [.int 4] st (.ref (st.length + 1)) (cellsSt st) := by
  refine FnC.make kCells ?_
  refine FnC.pl (names := ["self", "grain"]) (r := .next) ⟨⟨_, _, _, rfl⟩, rfl, rfl, rfl, rfl, rfl, rfl, rfl, rfl⟩ (by decide) rfl ?_ (by decide) (fun L => ?_) (.inr ⟨rfl, rfl⟩)
  · apply len2; intro _ _; rfl
  have hi : ∀ fs, (st ++ [O.attrs fs] ++ [O.inst 195 st.length])[st.length + 1]? = some (.inst 195 st.length) := fun fs => by simp
  have hd : ∀ fs, (st ++ [O.attrs fs] ++ [O.inst 195 st.length])[st.length]? = some (.attrs fs) := fun fs => by simp
  have hs : ∀ fs fs', (st ++ [O.attrs fs] ++ [O.inst 195 st.length]).set st.length (.attrs fs') = st ++ [O.attrs fs'] ++ [O.inst 195 st.length] := fun fs fs' => by simp
  refine XE.cons ((X1.setattr (by walk_at "ev") (by walk_at "ev") (SetA.inst (hi _) (hd _) (show _ < 900 from Nat.le_of_ble_eq_true rfl) sCells_grain) rfl).cast rfl (hs _ _)) ?_
  have e2 : (st ++ [O.attrs (upd [] "grain" (.int 4))] ++ [O.inst 195 st.length]).length = st.length + 2 := by simp
  refine XE.cons ((X1.setattr (v := .ref (st.length + 2)) (e2 ▸ Ev.dict0) (by walk_at "ev") (SetA.inst (get_push (hi _)) (get_push (hd _)) (show _ < 900 from Nat.le_of_ble_eq_true rfl) sCells_rows) rfl).cast rfl (st'' := cellsSt st) (by unfold cellsSt; rw [List.set_append_left _ _ (by simp), hs]; rfl)) ?_
  exact XE.nil
theorem W.empty {st : List O} (h : Cl st) (hsrc : 0 < st.length → ∃ p q : Int, st[0]? = some (.list [.int p, .int q]) ∧ 0 ≤ q ∧ q < 2147483647) : W (cellsSt st) st.length .empty (fun _ => 0) (fun _ _ => 0) := by
  unfold cellsSt
  refine { cl := ?_, a := by simp, i := by simp, d := by simp [rowDict, Tb.empty], r := fun r hr => (nomatch hr), c := fun r hr => (nomatch hr), ri := fun r hr => (nomatch hr), ci := fun r hr => (nomatch hr), rn := List.nodup_nil, cn := fun r => List.nodup_nil, nr := fun _ _ => rfl, nc := fun _ _ _ => rfl, src := fun h => let ⟨p, q, e, h'⟩ := hsrc h; ⟨p, q, get_push (get_push (get_push e)), h'⟩ }
  intro o ho
  have hl : (st ++ [O.attrs [("grain", .int 4), ("rows", .ref (st.length + 2))]] ++ [O.inst 195 st.length] ++ [O.dict []]).length = st.length + 3 := by simp
  rw [hl]
  simp only [List.mem_append, List.mem_singleton] at ho
  rcases ho with ((ho | rfl) | rfl) | rfl
  · exact (h o ho).mono (by omega)
  · intro p hp
    simp only [List.mem_cons, List.not_mem_nil, or_false] at hp
    rcases hp with rfl | rfl
    · exact .int _
    · exact .ref (by omega)
  · show _ < _; omega
  · intro p hp; cases hp
theorem cell_fn {B : Bs} {k : Nat} {st : List O} {n : Nat} {t : Tb} {ix : Int → Nat} {ex : Int → Int → Nat} {r c : Int} (w : W st n t ix ex) (hr : t.rows.length ≤ 1000000) (hc : (t.cols r).length ≤ 1000000) :
    ∃ ix' ex' st', FnC B (k + 5) (.ref 145) [.ref (n + 1), .int c, .int r] st (.ref (ex' r c)) st' ∧ W st' n ((t.addRow r).addCell r c) ix' ex' := by
  have hz : sizeLine = 16777216 := by decide
  -- the row
  obtain ⟨ix', st₁, w₁, hsd⟩ : ∃ ix' st₁, W st₁ n (t.addRow r) ix' ex ∧ Fn B (k + 4) (.builtin "dict.setdefault") [.ref (n + 2), .int r, .ref st.length] (st ++ [.dict []]) (.ref (ix' r)) st₁ := by
    by_cases h : r ∈ t.rows
    · have e : t.addRow r = t := by unfold Tb.addRow; rw [if_pos h]
      refine ⟨ix, st ++ [.dict []], by rw [e]; exact w.push (o := .dict []) (fun p hp => by cases hp), Fn.setdefault (get_push w.d) (by rw [List.length_map]; omega) (.inl ⟨?_, rfl⟩)⟩
      rw [dGet_map, if_pos h]
    · refine ⟨_, _, w.row h, Fn.setdefault (get_push w.d) (by rw [List.length_map]; omega) (.inr ⟨by rw [dGet_map, if_neg h], by simp, rfl⟩)⟩
  have hr₁ : r ∈ (t.addRow r).rows := by
    unfold Tb.addRow
    by_cases h : r ∈ t.rows
    · rw [if_pos h]; exact h
    · rw [if_neg h]; simp
  have hcols : (t.addRow r).cols = t.cols := rfl
  have hdic : Dic st₁ (.ref (ix' r)) (colDict (t.addRow r) ex r) := .inr ⟨_, rfl, (w₁.r r hr₁).2⟩
  -- the column
  by_cases h : c ∈ t.cols r
  · have e : (t.addRow r).addCell r c = t.addRow r := by
      unfold Tb.addCell
      rw [hcols, if_pos h]
      have : (fun r' => if r' = r then t.cols r else t.cols r') = t.cols := by
        funext r'; split <;> simp_all
      rw [this]; rfl
    refine ⟨ix', ex, st₁, ?_, by rw [e]; exact w₁⟩
    refine FnC.pl (names := ["self", "column", "row"]) (r := .ret (.ref (ex r c))) ⟨⟨_, _, _, rfl⟩, rfl, rfl, rfl, rfl, rfl, rfl, rfl, rfl⟩ (by decide) rfl ?_ (by decide) (fun L => ?_) (.inl rfl)
    · apply len3; intro _ _ _; rfl
    refine XE.cons (st₁ := st₁) (X1.assign (v := .ref (ix' r)) (by
      apply Ev.meth
      apply Ev.attr; walk_at "ev"; exact .inr ⟨_, _, rfl, w.i, w.a⟩; rfl; rfl; walk_at "aok"; rfl
      exact Mth.setdefault (.inr ⟨_, rfl, w.d⟩)
      walk_at "cw"; rfl
      apply Evs.cons; rfl; walk_at "ev"
      apply Evs.cons; rfl; exact Ev.dict0
      exact Evs.nil
      exact hsd
      rfl) rfl rfl) ?_
    refine XE.ifF (Tr.cast (b := !(dGet (colDict (t.addRow r) ex r) c).isSome) (by apply Tr.cmp; walk_at "ev"; walk_at "ev"; exact Op2.notInDict hdic; rfl) (by rw [dGet_map, hcols, if_pos h]; rfl)) ?_
    refine XE.ret ?_
    apply Ev.sub; walk_at "ev"; walk_at "ev"; exact Sub.dict hdic (by rw [dGet_map, hcols, if_pos h]); exact fun _ _ => ⟨_, rfl⟩
  · have w₂ := w₁.cell hr₁ (hcols ▸ h)
    have hdic2 : Dic _ (.ref (ix' r)) (colDict ((t.addRow r).addCell r c) (fun r' c' => if r' = r ∧ c' = c then st₁.length + 1 else ex r' c') r) := .inr ⟨_, rfl, (w₂.r r hr₁).2⟩
    refine ⟨ix', _, _, ?_, w₂⟩
    have hin : c ∈ ((t.addRow r).addCell r c).cols r := by
      show c ∈ (if r = r then (if c ∈ t.cols r then t.cols r else t.cols r ++ [c]) else t.cols r)
      rw [if_pos rfl, if_neg h]; simp
    refine FnC.pl (names := ["self", "column", "row"]) (r := .ret (.ref (if r = r ∧ c = c then st₁.length + 1 else ex r c))) ⟨⟨_, _, _, rfl⟩, rfl, rfl, rfl, rfl, rfl, rfl, rfl, rfl⟩ (by decide) rfl ?_ (by decide) (fun L => ?_) (.inl rfl)
    · apply len3; intro _ _ _; rfl
    refine XE.cons (st₁ := st₁) (X1.assign (v := .ref (ix' r)) (by
      apply Ev.meth
      apply Ev.attr; walk_at "ev"; exact .inr ⟨_, _, rfl, w.i, w.a⟩; rfl; rfl; walk_at "aok"; rfl
      exact Mth.setdefault (.inr ⟨_, rfl, w.d⟩)
      walk_at "cw"; rfl
      apply Evs.cons; rfl; walk_at "ev"
      apply Evs.cons; rfl; exact Ev.dict0
      exact Evs.nil
      exact hsd
      rfl) rfl rfl) ?_
    refine XE.ifT (Tr.cast (b := !(dGet (colDict (t.addRow r) ex r) c).isSome) (by apply Tr.cmp; walk_at "ev"; walk_at "ev"; exact Op2.notInDict hdic; rfl) (by rw [dGet_map, hcols, if_neg h]; rfl)) (Xs.one (X1.setitem (by
      apply Ev.call; walk_at "cal"; walk_at "cw"; rfl; walk_at "evs"; exact cell_make.fn) (by walk_at "ev") (by walk_at "ev") (SetI.dict (get_push (get_push (w₁.r r hr₁).2)) (by rw [List.length_map, hcols]; omega)) rfl)) ?_
    refine XE.ret ?_
    apply Ev.sub; walk_at "ev"; walk_at "ev"; exact Sub.dict hdic2 (by rw [dGet_map, if_pos hin]); exact fun _ _ => ⟨_, rfl⟩
/-- a fraction over 1411200, its top at most N -/
noncomputable def InD (N : Nat) (q : Rat) : Prop := ∃ n : Int, q = (n : Rat) / 1411200 ∧ n.natAbs ≤ N
theorem divInt_parts {a b : Int} (hb : 0 < b) : (Rat.divInt a b).num.natAbs ≤ a.natAbs ∧ ((Rat.divInt a b).den : Int).natAbs ≤ b.natAbs := by
  constructor
  · rw [Rat.num_divInt, Int.sign_eq_one_of_pos hb, Int.one_mul, Int.natAbs_ediv_of_dvd (Int.gcd_dvd_right ..)]
    exact Nat.div_le_self _ _
  · rw [Rat.den_divInt, if_neg (by omega)]
    show (b.natAbs / b.gcd a) ≤ _
    exact Nat.div_le_self _ _
theorem InD.sz {N : Nat} {q : Rat} (h : InD N q) (hN : N < 2 ^ 200) : Sz q := by
  obtain ⟨n, rfl, hn⟩ := h
  have e : (n : Rat) / 1411200 = Rat.divInt n 1411200 := by rw [Rat.divInt_eq_div]; rfl
  rw [e]
  obtain ⟨h1, h2⟩ := divInt_parts (a := n) (b := 1411200) (by decide)
  exact ⟨Nat.lt_of_le_of_lt h1 (Nat.lt_of_le_of_lt hn hN), Nat.lt_of_le_of_lt h2 (by decide)⟩
theorem InD.zero : InD 0 0 := ⟨0, by simp [Rat.div_def], Nat.le_refl _⟩
theorem InD.mono {N M : Nat} {q : Rat} (h : InD N q) (l : N ≤ M) : InD M q := let ⟨n, e, h⟩ := h; ⟨n, e, Nat.le_trans h l⟩
theorem InD.add {N M : Nat} {p q : Rat} (h : InD N p) (h' : InD M q) : InD (N + M) (p + q) := by
  obtain ⟨n, rfl, hn⟩ := h
  obtain ⟨m, rfl, hm⟩ := h'
  refine ⟨n + m, ?_, Nat.le_trans (Int.natAbs_add_le _ _) (by omega)⟩
  rw [Rat.intCast_add]; grind
theorem InD.frac {a b : Int} {N : Nat} (hb : b ≠ 0) (hd : b ∣ 1411200) (ha : a.natAbs ≤ N) : InD (N * 2097152) (Rat.divInt a b) := by
  obtain ⟨c, hc⟩ := hd
  have hb' : (b : Rat) ≠ 0 := by rw [Ne, Rat.intCast_eq_zero_iff]; exact hb
  refine ⟨a * c, ?_, ?_⟩
  · rw [Rat.divInt_eq_div, Rat.intCast_mul]
    have : (1411200 : Rat) = (b : Rat) * (c : Rat) := by rw [← Rat.intCast_mul, ← hc]; rfl
    have h2 : (1411200 : Rat) ≠ 0 := by decide
    grind
  · rw [Int.natAbs_mul]
    have h1 : c.natAbs ≤ 1411200 := by
      have : (1411200 : Int).natAbs = b.natAbs * c.natAbs := by rw [hc, Int.natAbs_mul]
      have h3 : 0 < b.natAbs := Int.natAbs_pos.mpr hb
      have h4 : (1411200 : Int).natAbs = 1411200 := rfl
      rw [h4] at this
      rw [this]; exact Nat.le_mul_of_pos_left _ h3
    exact Nat.mul_le_mul ha (by omega)
structure GoodP (p : CP) : Prop where
  col : -1 ≤ p.1 ∧ p.1 ≤ 1
  c1 : p.2.2.1 ≠ 0
  c1d : p.2.2.1 ∣ 1411200
  a1 : p.2.2.2.2 ≠ 0
  a1d : p.2.2.2.2 ∣ 1411200
  c0 : p.2.1.natAbs ≤ 2097152
  a0 : p.2.2.2.1.natAbs ≤ 2097152
structure GoodS (s : Sd) : Prop where
  x1 : -1 ≤ s.1 ∧ s.1 ≤ 7
  x2 : -1 ≤ s.2.2.1 ∧ s.2.2.1 ≤ 7
  y1 : -1 ≤ s.2.1
  y : s.2.1 < s.2.2.2.1
  y2 : s.2.2.2.1 ≤ 7
  way : s.2.2.2.2 = 1 ∨ s.2.2.2.2 = -1
theorem dvd840 {h : Int} (h1 : 1 ≤ h) (h2 : h ≤ 8) : h ∣ 840 := by
  have : h = 1 ∨ h = 2 ∨ h = 3 ∨ h = 4 ∨ h = 5 ∨ h = 6 ∨ h = 7 ∨ h = 8 := by omega
  rcases this with rfl | rfl | rfl | rfl | rfl | rfl | rfl | rfl <;> decide
theorem colStep_good {left right high wide c : Int} {p : CP} (hl : left.natAbs < 500) (hr : right.natAbs < 500) (hl' : -high ≤ left) (hr' : right ≤ 7 * high) (hh : 1 ≤ high ∧ high ≤ 8) (hw : 1 ≤ wide ∧ wide ≤ 8) (hp : p ∈ colStep left right high wide c) : GoodP p := by
  unfold colStep at hp
  split at hp
  · rename_i hlt
    rw [List.mem_singleton] at hp
    subst hp
    have hcol : -1 ≤ c ∧ c ≤ 1 := by
      have q1 : left < (c + 1) * 4 * high := by unfold mx mn at hlt; (repeat' split at hlt) <;> omega
      have q2 : (c + 1) * 4 * high - 4 * high < right := by unfold mx mn at hlt; (repeat' split at hlt) <;> omega
      constructor
      · rcases Int.lt_or_le c (-1) with h | h
        · have := Int.mul_nonneg (show 0 ≤ -2 - c by omega) (show 0 ≤ high by omega)
          have e : (c + 1) * 4 * high = -4 * ((-2 - c) * high) - 4 * high := by grind
          omega
        · exact h
      · rcases Int.lt_or_le 1 c with h | h
        · have := Int.mul_nonneg (show 0 ≤ c - 2 by omega) (show 0 ≤ high by omega)
          have e : (c + 1) * 4 * high = 4 * ((c - 2) * high) + 12 * high := by grind
          omega
        · exact h
    generalize (c + 1) * 4 * high = edge at hlt
    have d1 := dvd840 hh.1 hh.2
    have d2 := dvd840 hw.1 hw.2
    have d3 : 2 * high * wide ∣ 1411200 := by
      have := Int.mul_dvd_mul (Int.mul_dvd_mul (Int.dvd_refl 2) d1) d2
      exact this
    have b1 : mx left (edge - 4 * high) < mn right edge ∧ -500 < mx left (edge - 4 * high) ∧ mn right edge < 500 ∧ edge.natAbs < 600 ∧ mn right edge ≤ edge ∧ edge - 4 * high ≤ mx left (edge - 4 * high) := by
      refine ⟨hlt, ?_, ?_, ?_, ?_, ?_⟩ <;> unfold mx mn at * <;> (repeat' split at *) <;> omega
    generalize mx left (edge - 4 * high) = bg at b1 ⊢
    generalize mn right edge = en at b1 ⊢
    obtain ⟨b1, b2, b3, b4, b5, b6⟩ := b1
    refine ⟨hcol, by show wide ≠ 0; omega, Int.dvd_trans d2 (by decide), ?_, d3, by show (en - bg).natAbs ≤ _; omega, ?_⟩
    · exact Int.mul_ne_zero (Int.mul_ne_zero (by decide) (by omega)) (by omega)
    · show ((en - bg) * (2 * edge - bg - en)).natAbs ≤ _
      rw [Int.natAbs_mul]
      exact Nat.le_trans (Nat.mul_le_mul (show _ ≤ 32 by omega) (show _ ≤ 2200 by omega)) (by decide)
  · cases hp
theorem place_bd {x1 y1 x2 y2 y : Int} (hx1 : x1.natAbs ≤ 8) (hx2 : x2.natAbs ≤ 8) (hy2 : y2 - y1 ≤ 9) (h1 : y1 ≤ y) (h2 : y ≤ y2) : (x1 * (y2 - y1) + (x2 - x1) * (y - y1)).natAbs < 500 := by
  have a1 : (x1 * (y2 - y1)).natAbs ≤ 8 * 9 := by rw [Int.natAbs_mul]; exact Nat.mul_le_mul hx1 (by omega)
  have a2 : ((x2 - x1) * (y - y1)).natAbs ≤ 16 * 9 := by rw [Int.natAbs_mul]; exact Nat.mul_le_mul (by omega) (by omega)
  omega
theorem colP_good {s : Sd} {up low : Int} {p : CP} (hs : GoodS s) (hu : s.2.1 ≤ up) (hu2 : up ≤ s.2.2.2.1) (hl : s.2.1 ≤ low) (hl2 : low ≤ s.2.2.2.1) (hp : p ∈ colP s.1 s.2.1 s.2.2.1 s.2.2.2.1 up low) : GoodP p := by
  obtain ⟨x1, y1, x2, y2, way⟩ := s
  obtain ⟨h1, h2, h3, h4, h5, h6⟩ := hs
  dsimp only at *
  unfold colP at hp
  split at hp
  · rw [List.mem_singleton] at hp
    subst hp
    refine ⟨by have := Int.fdiv_eq_ediv_of_nonneg x1 (b := 4) (by decide); constructor <;> dsimp only <;> omega, (by decide : (1 : Int) ≠ 0), (by decide : (1 : Int) ∣ 1411200), (by decide : (1 : Int) ≠ 0), (by decide : (1 : Int) ∣ 1411200), by show (low - up).natAbs ≤ _; omega, ?_⟩
    show ((low - up) * ((x1.fdiv 4 + 1) * 4 - x1)).natAbs ≤ _
    rw [Int.natAbs_mul]
    have := Int.fdiv_eq_ediv_of_nonneg x1 (b := 4) (by decide)
    exact Nat.le_trans (Nat.mul_le_mul (show _ ≤ 8 by omega) (show _ ≤ 100 by omega)) (by decide)
  · rename_i hx
    unfold colLoop at hp
    obtain ⟨c, _, hc⟩ := List.mem_flatMap.mp hp
    have b1 := place_bd (x1 := x1) (y1 := y1) (x2 := x2) (y2 := y2) (y := up) (by omega) (by omega) (by omega) hu hu2
    have b2 := place_bd (x1 := x1) (y1 := y1) (x2 := x2) (y2 := y2) (y := low) (by omega) (by omega) (by omega) hl hl2
    have rng : ∀ y, y1 ≤ y → y ≤ y2 → -(y2 - y1) ≤ x1 * (y2 - y1) + (x2 - x1) * (y - y1) ∧ x1 * (y2 - y1) + (x2 - x1) * (y - y1) ≤ 7 * (y2 - y1) := fun y k1 k2 => by
      have m1 := Int.mul_nonneg (show 0 ≤ x1 + 1 by omega) (show 0 ≤ y2 - y by omega)
      have m2 := Int.mul_nonneg (show 0 ≤ x2 + 1 by omega) (show 0 ≤ y - y1 by omega)
      have m3 := Int.mul_nonneg (show 0 ≤ 7 - x1 by omega) (show 0 ≤ y2 - y by omega)
      have m4 := Int.mul_nonneg (show 0 ≤ 7 - x2 by omega) (show 0 ≤ y - y1 by omega)
      have e1 : x1 * (y2 - y1) + (x2 - x1) * (y - y1) = (x1 + 1) * (y2 - y) + (x2 + 1) * (y - y1) - (y2 - y1) := by grind
      have e2 : x1 * (y2 - y1) + (x2 - x1) * (y - y1) = 7 * (y2 - y1) - (7 - x1) * (y2 - y) - (7 - x2) * (y - y1) := by grind
      constructor <;> omega
    have r1 := rng up hu hu2
    have r2 := rng low hl hl2
    refine colStep_good ?_ ?_ ?_ ?_ (by omega) ?_ hc
    · unfold mn; split <;> omega
    · unfold mx; split <;> omega
    · unfold mn; split <;> omega
    · unfold mx; split <;> omega
    · unfold iabs; split <;> omega
theorem colP_len {x1 y1 x2 y2 up low : Int} (hx1 : x1.natAbs ≤ 8) (hx2 : x2.natAbs ≤ 8) (hy : y1 < y2) (hy2 : y2 - y1 ≤ 9) (hu : y1 ≤ up) (hu2 : up ≤ y2) (hl : y1 ≤ low) (hl2 : low ≤ y2) : (colP x1 y1 x2 y2 up low).length ≤ 300 := by
  unfold colP
  split
  · simp
  · unfold colLoop
    refine Nat.le_trans (flatMap_le (fun c => by unfold colStep; split <;> simp) _) ?_
    have b1 := place_bd (x1 := x1) (y1 := y1) (x2 := x2) (y2 := y2) (y := up) hx1 hx2 hy2 hu hu2
    have b2 := place_bd (x1 := x1) (y1 := y1) (x2 := x2) (y2 := y2) (y := low) hx1 hx2 hy2 hl hl2
    generalize x1 * (y2 - y1) + (x2 - x1) * (up - y1) = fi at b1 ⊢
    generalize x1 * (y2 - y1) + (x2 - x1) * (low - y1) = la at b2 ⊢
    have bl : (mn fi la).natAbs < 500 := by unfold mn; split <;> omega
    have br : (mx fi la).natAbs < 500 := by unfold mx; split <;> omega
    have := fdiv_bd bl (d := (y2 - y1) * 4) (by omega)
    have := fdiv_bd br (d := (y2 - y1) * 4) (by omega)
    unfold colsI
    rw [List.length_map, List.length_range]
    omega
theorem rowP_mem : ∀ (n : Nat) {y y2 : Int} {p : Int × Int × Int}, p ∈ rowP n y y2 → y ≤ p.2.1 ∧ p.2.1 < p.2.2 ∧ p.2.2 ≤ y2 ∧ p.1 = p.2.1.fdiv 4
  | 0, _, _, _, h => nomatch h
  | n + 1, y, y2, p, h => by
    unfold rowP at h
    split at h
    · rename_i hy
      have hf := Int.fdiv_eq_ediv_of_nonneg y (b := 4) (by decide)
      rcases List.mem_cons.mp h with rfl | h
      · refine ⟨Int.le_refl _, ?_, ?_, rfl⟩ <;> dsimp only <;> split <;> omega
      · obtain ⟨a, b, c⟩ := rowP_mem n h
        refine ⟨?_, b, c⟩
        split at a <;> omega
    · cases h
theorem rowP_len : ∀ (n : Nat) (y y2 : Int), (rowP n y y2).length ≤ n
  | 0, _, _ => Nat.le_refl _
  | n + 1, y, y2 => by
    unfold rowP
    split
    · rw [List.length_cons]; have := rowP_len n; exact Nat.succ_le_succ (this _ _)
    · exact Nat.zero_le _
theorem FoR.ex {B : Bs} {k : Nat} {env : Addr → Env} {α τ : Type} {t : Expr} {b : List Stmt} {P : List O → Prop} {ρ₀ : List (Str × V)} (enc : α → V) (I : List α → List O → τ → Prop) (G : τ → α → τ) (hP : ∀ l st x, I l st x → P st)
    (step : ∀ a l st x, I (a :: l) st x → ∃ ρ₁, (∀ L, As B k (env L) t (enc a) ρ₀ st ρ₁) ∧ ∃ st', (∀ L, Xs B k (env L) b ρ₁ st .next ρ₀ st') ∧ I l st' (G x a)) :
    ∀ l st x, I l st x → ∃ st', (∀ L, FoR B k (env L) t b P (l.map enc) ρ₀ st .next ρ₀ st') ∧ I [] st' (l.foldl G x) := by
  intro l
  induction l with
  | nil => exact fun st x h => ⟨st, fun L => .nil (hP _ _ _ h), h⟩
  | cons a l ih =>
    intro st x h
    obtain ⟨ρ₁, h1, st', h2, h3⟩ := step a l st x h
    obtain ⟨st'', h4, h5⟩ := ih st' (G x a) h3
    exact ⟨st'', fun L => .cons (hP _ _ _ h) (h1 L) (h2 L) (h4 L), h5⟩
/-- one for loop as a block -/
theorem Xs.exFor {B : Bs} {k : Nat} {env : Addr → Env} {t e : Expr} {b : List Stmt} {pos : Pos} {P : List O → Prop} {ρ ρ₀ ex : List (Str × V)} {st : List O} {v : V} {items : List V} {Post : List O → Prop} (hv : ∀ L, Ev B k (env L) e ρ st v st) (hi : Iters B k P v items st)
    (hf : ∃ st', (∀ L, FoR B k (env L) t b P items ρ st .next ρ st') ∧ Post st') (hs : ∀ L x, foldedSetIterable e (env L) x = pure x) (hρ : ρ = ρ₀ ++ ex) : ∃ st', (∀ L, Xs B k (env L) [.For t e b [] pos] ρ st .next ρ₀ st') ∧ Post st' :=
  let ⟨st', h, p⟩ := hf; ⟨st', fun L => (Xs.one (X1.for (hv L) hi (h L) (hs L))).post hρ, p⟩
theorem FnC.exPl {B : Bs} {k : Nat} {st : List O} {f : Addr} {fd : FuncData} {body : List Stmt} {names : List Str} {vs : List V} {Post : List O → Prop} (K : DefOk B f fd body)
    (hcell : ∀ x ∈ fd.scope.names, x.2 ≠ .cell) (hl : names.length = vs.length)
    (hb : ∀ xs, xs.length = names.length → bindArgs fd ⟨xs, []⟩ = pure (names.zip xs)) (hloc : ∀ x ∈ names, fd.scope.names.lookup x = some .local) {ρ' : List (Str × V)}
    (hx : ∃ st', (∀ L, Xs B k (callEnv fd L f) body (names.zip vs).reverse st .next ρ' st') ∧ Post st') : ∃ st', FnC B (k + 1) (.ref f) vs st .none st' ∧ Post st' :=
  let ⟨st', h, p⟩ := hx; ⟨st', FnC.pl K hcell hl hb hloc (fun L => by unfold XE; exact ⟨ρ', h L⟩) (.inr ⟨rfl, rfl⟩), p⟩
noncomputable def Tb.piece (way row : Int) (t : Tb) (p : CP) : Tb := t.put row p.1 (Rat.divInt (way * p.2.1) p.2.2.1, Rat.divInt (way * p.2.2.2.1) p.2.2.2.2)
noncomputable def Tb.rowp (s : Sd) (t : Tb) (rp : Int × Int × Int) : Tb := (colP s.1 s.2.1 s.2.2.1 s.2.2.2.1 rp.2.1 rp.2.2).foldl (fun t p => t.piece s.2.2.2.2 rp.1 p) t
noncomputable def Tb.side (t : Tb) (s : Sd) : Tb := (rowP (s.2.2.2.1 - s.2.1).toNat s.2.1 s.2.2.2.1).foldl (fun t rp => t.rowp s rp) t
structure Bt (t : Tb) : Prop where
  v : ∀ r c, InD (t.m * 2 ^ 42) (t.v r c).1 ∧ InD (t.m * 2 ^ 42) (t.v r c).2
  rows : t.rows.length ≤ t.m
  cols : ∀ r, (t.cols r).length ≤ t.m
  rr : ∀ r ∈ t.rows, -1 ≤ r ∧ r ≤ 1
  cr : ∀ r, ∀ c ∈ t.cols r, -1 ≤ c ∧ c ≤ 1
  ne : ∀ r ∈ t.rows, t.cols r ≠ []
theorem Bt.empty : Bt .empty := ⟨fun _ _ => ⟨InD.zero, InD.zero⟩, Nat.le_refl _, fun _ => Nat.le_refl _, (fun _ h => nomatch h), (fun _ _ h => nomatch h), fun _ h => nomatch h⟩
theorem Bt.put {t : Tb} (b : Bt t) {r c : Int} {q : Rat × Rat} (hr : -1 ≤ r ∧ r ≤ 1) (hc : -1 ≤ c ∧ c ≤ 1) (h1 : InD (2 ^ 42) q.1) (h2 : InD (2 ^ 42) q.2) : Bt (t.put r c q) := by
  have hm : (t.put r c q).m = t.m + 1 := rfl
  refine ⟨fun r' c' => ?_, ?_, fun r' => ?_, fun r' h => ?_, fun r' c' h => ?_, fun r' h => ?_⟩
  · rw [hm, Nat.succ_mul]
    show InD _ (if r' = r ∧ c' = c then _ else _ : Rat × Rat).1 ∧ InD _ (if r' = r ∧ c' = c then _ else _ : Rat × Rat).2
    split
    · exact ⟨(b.v r c).1.add h1, (b.v r c).2.add h2⟩
    · exact ⟨(b.v r' c').1.mono (Nat.le_add_right _ _), (b.v r' c').2.mono (Nat.le_add_right _ _)⟩
  · show (if r ∈ t.rows then t.rows else t.rows ++ [r]).length ≤ _
    have := b.rows
    split <;> simp [hm] <;> omega
  · show (if r' = r then (if c ∈ t.cols r then t.cols r else t.cols r ++ [c]) else t.cols r').length ≤ _
    have := b.cols r
    have := b.cols r'
    split
    · split <;> simp [hm] <;> omega
    · rw [hm]; omega
  · have h : r' ∈ (if r ∈ t.rows then t.rows else t.rows ++ [r]) := h
    split at h
    · exact b.rr _ h
    · rcases List.mem_append.mp h with h | h
      · exact b.rr _ h
      · rw [List.mem_singleton] at h; subst h; exact hr
  · have h : c' ∈ (if r' = r then (if c ∈ t.cols r then t.cols r else t.cols r ++ [c]) else t.cols r') := h
    split at h
    · split at h
      · exact b.cr _ _ h
      · rcases List.mem_append.mp h with h | h
        · exact b.cr _ _ h
        · rw [List.mem_singleton] at h; subst h; exact hc
    · exact b.cr _ _ h
  · have h : r' ∈ (if r ∈ t.rows then t.rows else t.rows ++ [r]) := h
    show (if r' = r then (if c ∈ t.cols r then t.cols r else t.cols r ++ [c]) else t.cols r') ≠ []
    split
    · split
      · exact List.ne_nil_of_mem (by assumption)
      · simp
    · split at h
      · exact b.ne _ h
      · rcases List.mem_append.mp h with h | h
        · exact b.ne _ h
        · exact absurd (List.mem_singleton.mp h) (by assumption)
noncomputable def WB (n M : Nat) (left : Nat) (st : List O) (t : Tb) : Prop := (∃ ix ex, W st n t ix ex) ∧ Bt t ∧ t.m + left ≤ M
theorem colP_m {s : Sd} {rp : Int × Int × Int} (t : Tb) : (t.rowp s rp).m = t.m + (colP s.1 s.2.1 s.2.2.1 s.2.2.2.1 rp.2.1 rp.2.2).length := by
  unfold Tb.rowp
  induction (colP s.1 s.2.1 s.2.2.1 s.2.2.2.1 rp.2.1 rp.2.2) generalizing t with
  | nil => rfl
  | cons p l ih => rw [List.foldl_cons, ih, List.length_cons]; show t.m + 1 + _ = _; omega
theorem dvd_lt {b : Int} (h : b ∣ 1411200) : b.natAbs < 2 ^ 400 := by
  have h1 : b.natAbs ∣ 1411200 := Int.natAbs_dvd_natAbs.mpr h
  exact Nat.lt_of_lt_of_le (Nat.lt_of_le_of_lt (Nat.le_of_dvd (by decide) h1) (show 1411200 < 2 ^ 200 by decide)) (Nat.pow_le_pow_right (by decide) (by decide))
theorem put_rows {t : Tb} {r c : Int} : r ∈ ((t.addRow r).addCell r c).rows := by
  show r ∈ (if r ∈ t.rows then t.rows else t.rows ++ [r])
  split
  · assumption
  · simp
theorem put_cols {t : Tb} {r c : Int} : c ∈ ((t.addRow r).addCell r c).cols r := by
  show c ∈ (if r = r then (if c ∈ t.cols r then t.cols r else t.cols r ++ [c]) else t.cols r)
  rw [if_pos rfl]
  split
  · assumption
  · simp
theorem add_side {B : Bs} {k n M : Nat} {st : List O} {t : Tb} (s : Sd) (hs : GoodS s) (hM : M ≤ 500000) (hw : WB n M 2700 st t) :
    ∃ st', FnC B (k + 6) (.ref 152) [.ref (n + 1), sdV s] st .none st' ∧ WB n M 0 st' (t.side s) ∧ (t.side s).m ≤ t.m + 2700 := by
  obtain ⟨hx1, hx2, hy1, hy, hy2, hway⟩ := id hs
  have hcl : ∀ {st : List O} {t : Tb} {l : Nat}, WB n M l st t → Cl st := fun h => let ⟨⟨_, _, w⟩, _⟩ := h; w.cl
  have hins : ∀ {st : List O} {t : Tb} {l : Nat}, WB n M l st t → Ins st (.ref (n + 1)) 195 [("grain", .int 4), ("rows", .ref (n + 2))] := fun h => let ⟨⟨_, _, w⟩, _⟩ := h; .inr ⟨_, _, rfl, w.i, w.a⟩
  have i0 := hins hw
  refine FnC.exPl (names := ["self", "side"]) (ρ' := [("side", sdV s), ("self", .ref (n + 1))]) ⟨⟨_, _, _, rfl⟩, rfl, rfl, rfl, rfl, rfl, rfl, rfl, rfl⟩ (by decide) rfl ?_ (by decide) ?_
  · apply len2; intro _ _; rfl
  have hrl := rowP_len (s.2.2.2.1 - s.2.1).toNat s.2.1 s.2.2.2.1
  refine Xs.exFor (ex := []) (P := fun st' => Lst st' (.lst ((rowP (s.2.2.2.1 - s.2.1).toNat s.2.1 s.2.2.2.1).map pieceV)) ((rowP (s.2.2.2.1 - s.2.1).toNat s.2.1 s.2.2.2.1).map pieceV)) (v := .lst ((rowP (s.2.2.2.1 - s.2.1).toNat s.2.1 s.2.2.2.1).map pieceV)) (fun L => ?_) (Iters.lst (.inl rfl)) ?_ (fun _ _ => rfl) rfl
  · apply Ev.call; walk_at "cal"; walk_at "cw"; rfl; walk_at "evs"; exact (row_pieces (hcl hw) (by omega) (by omega)).fn
  have fin : ∀ {st' : List O}, (WB n M (0 * 300) st' (t.side s) ∧ (t.side s).m + 0 * 300 ≤ t.m + 2700 ∧ True) → WB n M 0 st' (t.side s) ∧ (t.side s).m ≤ t.m + 2700 := fun h => ⟨by have := h.1; rwa [Nat.zero_mul] at this, by have := h.2.1; omega⟩
  obtain ⟨⟨_, _, _⟩, _, hw3⟩ := id hw
  refine (fun h : ∃ st', _ ∧ _ => let ⟨st', a, b⟩ := h; ⟨st', a, fin ⟨b.1, b.2.1, trivial⟩⟩) (FoR.ex pieceV (fun l st' t' => WB n M (l.length * 300) st' t' ∧ t'.m + l.length * 300 ≤ t.m + 2700 ∧ ∀ rp ∈ l, s.2.1 ≤ rp.2.1 ∧ rp.2.1 < rp.2.2 ∧ rp.2.2 ≤ s.2.2.2.1 ∧ rp.1 = rp.2.1.fdiv 4) (Tb.rowp s) (fun _ _ _ _ => .inl rfl) ?_ _ st t ⟨⟨hw.1, hw.2.1, by omega⟩, by omega, fun rp h => rowP_mem _ h⟩)
  intro rp l st' t' ⟨hw', hm', hl'⟩
  obtain ⟨r1, r2, r3, r4⟩ := hl' rp (.head _)
  have hrow : -1 ≤ rp.1 ∧ rp.1 ≤ 1 := by rw [r4, Int.fdiv_eq_ediv_of_nonneg _ (by decide)]; omega
  have i1 := hins hw'
  refine ⟨[("side", sdV s), ("self", .ref (n + 1)), ("row", .int rp.1), ("upper", .int rp.2.1), ("lower", .int rp.2.2)], fun L => As.tup rfl rfl (Ass.cons rfl (As.name rfl) (Ass.cons rfl (As.name rfl) (Ass.cons rfl (As.name rfl) Ass.nil))), ?_⟩
  have hcp := column_pieces (B := B) (k := k + 3) (way := s.2.2.2.2) (hcl hw') (x1 := s.1) (x2 := s.2.2.1) (by omega) (by omega) hy (by omega) r1 (by omega) (by omega) r3
  have hcl' := colP_len (x1 := s.1) (y1 := s.2.1) (x2 := s.2.2.1) (y2 := s.2.2.2.1) (up := rp.2.1) (low := rp.2.2) (by omega) (by omega) hy (by omega) r1 (by omega) (by omega) r3
  have hgood : ∀ p ∈ colP s.1 s.2.1 s.2.2.1 s.2.2.2.1 rp.2.1 rp.2.2, GoodP p := fun p hp => colP_good hs r1 (by omega) (by omega) r3 hp
  have hmm := colP_m (s := s) (rp := rp) t'
  refine Xs.exFor (ex := [("row", .int rp.1), ("upper", .int rp.2.1), ("lower", .int rp.2.2)]) (P := fun st' => Lst st' (.lst ((colP s.1 s.2.1 s.2.2.1 s.2.2.2.1 rp.2.1 rp.2.2).map cpV)) ((colP s.1 s.2.1 s.2.2.1 s.2.2.2.1 rp.2.1 rp.2.2).map cpV)) (v := .lst ((colP s.1 s.2.1 s.2.2.1 s.2.2.2.1 rp.2.1 rp.2.2).map cpV)) (fun L => ?_) (Iters.lst (.inl rfl)) ?_ (fun _ _ => rfl) rfl
  · apply Ev.call; walk_at "cal"; walk_at "cw"; rfl; walk_at "evs"; exact hcp.fn
  rw [List.length_cons, Nat.succ_mul] at hm' hw'
  refine (fun h : ∃ st', _ ∧ (WB n M (l.length * 300 + 0) st' (t'.rowp s rp) ∧ ∀ p ∈ ([] : List CP), GoodP p) => let ⟨st', a, b⟩ := h; ⟨st', a, b.1, by omega, fun rp h => hl' rp (.tail _ h)⟩)
    (FoR.ex cpV (fun ps st' t' => WB n M (l.length * 300 + ps.length) st' t' ∧ ∀ p ∈ ps, GoodP p) (fun t p => t.piece s.2.2.2.2 rp.1 p) (fun _ _ _ _ => .inl rfl) ?_ _ st' t' ⟨⟨hw'.1, hw'.2.1, by have := hw'.2.2; omega⟩, hgood⟩)
  clear hcp hcl' hgood hmm hw' hm' hl' i1 fin i0 hw hw3
  intro p ps st t ⟨⟨⟨ix, ex, w⟩, bt, hm⟩, hg⟩
  obtain ⟨g0, g1, g2, g3, g4, g5, g6⟩ := hg p (.head _)
  rw [List.length_cons] at hm
  obtain ⟨ix', ex', st', hc, w'⟩ := cell_fn (B := B) (k := k) (r := rp.1) (c := p.1) w (by have := bt.rows; omega) (by have := bt.cols rp.1; omega)
  obtain ⟨c1, c2, c3⟩ := w'.c rp.1 put_rows p.1 put_cols
  have hwn : ∀ x : Int, x.natAbs ≤ 2097152 → (s.2.2.2.2 * x).natAbs ≤ 2097152 := fun x hx => by rcases hway with h | h <;> rw [h] <;> simp <;> exact hx
  have k1 := InD.frac (a := s.2.2.2.2 * p.2.1) g1 g2 (hwn _ g5)
  have k2 := InD.frac (a := s.2.2.2.2 * p.2.2.2.1) g3 g4 (hwn _ g6)
  have hwm : (s.2.2.2.2).natAbs < 2 ^ 62 := by rcases hway with h | h <;> rw [h] <;> decide
  have f1 := (fraction2 (B := B) (k := k + 3) (st := st) (t := s.2.2.2.2 * p.2.1) (b := p.2.2.1) g1 (dvd_lt g2)).fn
  have f2 := (fraction2 (B := B) (k := k + 3) (st := st') (t := s.2.2.2.2 * p.2.2.2.1) (b := p.2.2.2.2) g3 (dvd_lt g4)).fn
  have sz : ∀ r c, Sz (((t.addRow rp.1).addCell rp.1 p.1).v r c).1 ∧ Sz (((t.addRow rp.1).addCell rp.1 p.1).v r c).2 := fun r c => by
    have hb : t.m * 2 ^ 42 < 2 ^ 200 := by
      have : t.m ≤ 500000 := by omega
      exact Nat.lt_of_le_of_lt (Nat.mul_le_mul_right _ this) (by decide)
    exact ⟨(bt.v r c).1.sz hb, (bt.v r c).2.sz hb⟩
  have hadd := (cell_add (B := B) (k := k + 1) (c := Rat.divInt (s.2.2.2.2 * p.2.1) p.2.2.1) (a := Rat.divInt (s.2.2.2.2 * p.2.2.2.1) p.2.2.2.2) c2 c3 (sz _ _).1 (sz _ _).2 (k1.sz (by decide)) (k2.sz (by decide))).fn
  have w'' := w'.upd (q := (Rat.divInt (s.2.2.2.2 * p.2.1) p.2.2.1, Rat.divInt (s.2.2.2.2 * p.2.2.2.1) p.2.2.2.2)) put_rows put_cols
  refine ⟨[("side", sdV s), ("self", .ref (n + 1)), ("row", .int rp.1), ("upper", .int rp.2.1), ("lower", .int rp.2.2), ("column", .int p.1), ("cover", .tup [.int p.2.1, .int p.2.2.1]), ("area", .tup [.int p.2.2.2.1, .int p.2.2.2.2])], fun L => As.tup rfl rfl (Ass.cons rfl (As.name rfl) (Ass.cons rfl (As.name rfl) (Ass.cons rfl (As.name rfl) Ass.nil))), _, fun L => ?_, ⟨⟨ix', ex', w''⟩, bt.put hrow g0 k1 k2, ?_⟩, fun p hp => hg p (.tail _ hp)⟩
  · apply Xs.post (ex := [("column", .int p.1), ("cover", .tup [.int p.2.1, .int p.2.2.1]), ("area", .tup [.int p.2.2.2.1, .int p.2.2.2.2]), ("told", Fr (Rat.divInt (s.2.2.2.2 * p.2.1) p.2.2.1))])
    · apply Xs.cons
      · exact X1.assign (v := Fr (Rat.divInt (s.2.2.2.2 * p.2.1) p.2.2.1)) (by apply Ev.call; walk_at "cal"; walk_at "cw"; rfl; walk_at "evs"; exact f1) rfl rfl
      apply Xs.one
      apply X1.expr
      apply Ev.meth
      apply Ev.meth; walk_at "ev"; exact Mth.fn (.inr ⟨_, _, rfl, w.i, w.a⟩) rfl mCells_cell; walk_at "cw"; rfl; walk_at "evs"; exact hc.fn; rfl
      exact Mth.fn (.inr ⟨_, _, rfl, c2, c3⟩) rfl mCell_add
      walk_at "cw"
      rfl
      apply Evs.cons; rfl; walk_at "ev"
      apply Evs.cons; rfl; apply Ev.call; walk_at "cal"; walk_at "cw"; rfl; walk_at "evs"; exact f2
      exact Evs.nil
      exact hadd
      rfl
      rfl
    · rfl
  · show t.m + 1 + _ ≤ M; omega
noncomputable def Tb.sides (t : Tb) (l : List Sd) : Tb := l.foldl Tb.side t
theorem add_sides {B : Bs} {k n : Nat} {st : List O} {t : Tb} (l : List Sd) (hl : ∀ s ∈ l, GoodS s) (hw : WB n 500000 (l.length * 2700) st t) :
    ∃ st', FnC B (k + 7) (.ref 159) [.ref (n + 1), .lst (l.map sdV)] st .none st' ∧ WB n 500000 0 st' (t.sides l) := by
  refine FnC.exPl (names := ["self", "sides"]) (ρ' := [("sides", .lst (l.map sdV)), ("self", .ref (n + 1))]) ⟨⟨_, _, _, rfl⟩, rfl, rfl, rfl, rfl, rfl, rfl, rfl, rfl⟩ (by decide) rfl ?_ (by decide) ?_
  · apply len2; intro _ _; rfl
  refine Xs.exFor (ex := []) (P := fun st' => Lst st' (.lst (l.map sdV)) (l.map sdV)) (v := .lst (l.map sdV)) (fun L => by walk_at "ev") (Iters.lst (.inl rfl)) ?_ (fun _ _ => rfl) rfl
  refine (fun h : ∃ st', _ ∧ (WB n 500000 (0 * 2700) st' (t.sides l) ∧ ∀ s ∈ ([] : List Sd), GoodS s) => let ⟨st', a, b⟩ := h; ⟨st', a, by have := b.1; rwa [Nat.zero_mul] at this⟩)
    (FoR.ex sdV (fun l st' t' => WB n 500000 (l.length * 2700) st' t' ∧ ∀ s ∈ l, GoodS s) Tb.side (fun _ _ _ _ => .inl rfl) ?_ _ st t ⟨hw, hl⟩)
  clear hw
  intro s ps st t ⟨hw, hg⟩
  rw [List.length_cons, Nat.succ_mul] at hw
  obtain ⟨st', h1, h2, h3⟩ := add_side (B := B) (k := k) s (hg s (.head _)) (Nat.le_refl _) (M := 500000) (n := n) (st := st) (t := t) ⟨hw.1, hw.2.1, by have := hw.2.2; omega⟩
  obtain ⟨⟨ix, ex, w⟩, _, hm⟩ := hw
  refine ⟨[("sides", .lst (l.map sdV)), ("self", .ref (n + 1)), ("side", sdV s)], fun L => As.name rfl, st', fun L => ?_, ⟨h2.1, h2.2.1, by omega⟩, fun s hs => hg s (.tail _ hs)⟩
  apply Xs.post (ex := [("side", sdV s)])
  · apply Xs.one
    apply X1.expr
    apply Ev.meth; walk_at "ev"; exact Mth.fn (.inr ⟨_, _, rfl, w.i, w.a⟩) rfl mCells_add_side; walk_at "cw"; rfl; walk_at "evs"; exact h1.fn; rfl
    rfl
  · rfl
noncomputable abbrev cellV (q : Rat × Rat) : V := .inst 99 (cellFs q)
noncomputable abbrev rowD (t : Tb) (r : Int) : List (Int × V) := (t.cols r).map fun c => (c, cellV (t.v r c))
noncomputable abbrev rowV (t : Tb) (r : Int) : V := .dict (rowD t r)
noncomputable abbrev CellsFs (t : Tb) : List (Str × V) := [("grain", .int 4), ("rows", .dict (t.rows.map fun r => (r, rowV t r)))]
noncomputable abbrev CellsV (t : Tb) : V := .inst 195 (CellsFs t)
theorem Dene.self {m : Nat} {st : List O} : ∀ l : List (Str × V), Dene m st l l
  | [] => .nil
  | (k, v) :: l => .cons (.self v) (Dene.self l)
theorem Dend.map {m : Nat} {st : List O} {l : List Int} {f g : Int → V} (h : ∀ k ∈ l, Den m st (f k) (g k)) : Dend m st (l.map fun k => (k, f k)) (l.map fun k => (k, g k)) := by
  induction l with
  | nil => exact .nil
  | cons a l ih => exact .cons (h a (.head _)) (ih fun k hk => h k (.tail _ hk))
theorem W.den {st : List O} {n m : Nat} {t : Tb} {ix : Int → Nat} {ex : Int → Int → Nat} (w : W st n t ix ex) (hm : m ≤ n) : Den m st (.ref (n + 1)) (CellsV t) :=
  .inst (by omega) hm w.i w.a (.cons (.self _) (.cons (.dict (by omega) w.d (Dend.map fun r hr => .dict (by have := (w.r r hr).1; omega) (w.r r hr).2 (Dend.map fun c hc => by
    obtain ⟨h1, h2, h3⟩ := w.c r hr c hc
    exact .inst (by omega) (by omega) h2 h3 (Dene.self _)))) .nil))
/-- what is known of a filled table -/
structure Ft (t : Tb) : Prop where
  rn : t.rows.Nodup
  cn : ∀ r, (t.cols r).Nodup
  nr : ∀ r, r ∉ t.rows → t.cols r = []
  nc : ∀ r c, c ∉ t.cols r → t.v r c = (0, 0)
  rr : ∀ r ∈ t.rows, -1 ≤ r ∧ r ≤ 1
  cr : ∀ r, ∀ c ∈ t.cols r, -1 ≤ c ∧ c ≤ 1
  ne : ∀ r ∈ t.rows, t.cols r ≠ []
  v : ∀ r c, InD (2 ^ 64) (t.v r c).1 ∧ InD (2 ^ 64) (t.v r c).2
theorem WB.ft {n : Nat} {st : List O} {t : Tb} (h : WB n 500000 0 st t) : Ft t := by
  obtain ⟨⟨ix, ex, w⟩, b, hm⟩ := h
  have hb : t.m * 2 ^ 42 ≤ 2 ^ 64 := Nat.le_trans (Nat.mul_le_mul_right _ (show t.m ≤ 500000 by omega)) (by decide)
  exact ⟨w.rn, w.cn, w.nr, w.nc, b.rr, b.cr, b.ne, fun r c => ⟨(b.v r c).1.mono hb, (b.v r c).2.mono hb⟩⟩
theorem nodup_len {l : List Int} (h : l.Nodup) (hr : ∀ x ∈ l, -1 ≤ x ∧ x ≤ 1) : l.length ≤ 3 := by
  match l, h, hr with
  | [], _, _ => simp
  | [_], _, _ => simp
  | [_, _], _, _ => simp
  | [_, _, _], _, _ => simp
  | a :: b :: c :: d :: l, h, hr =>
    have := hr a (by simp)
    have := hr b (by simp)
    have := hr c (by simp)
    have := hr d (by simp)
    simp only [List.nodup_cons, List.mem_cons, not_or] at h
    omega
theorem Ft.clen {t : Tb} (F : Ft t) (r : Int) : (t.cols r).length ≤ 3 := nodup_len (F.cn r) (F.cr r)
theorem Ft.rlen {t : Tb} (F : Ft t) : t.rows.length ≤ 3 := nodup_len F.rn F.rr
/-- the covers ahead of a column -/
noncomputable def ahead (t : Tb) (r c : Int) : Rat := (t.cols r).foldl (fun q c' => if c' < c then q + (t.v r c').1 else q) 0
noncomputable def areaAt (t : Tb) (r c : Int) : Rat := (ahead t r c * 4 + (t.v r c).2) / 16
theorem fold_shift {α : Type} (g : α → Rat) : ∀ (l : List α) (q : Rat), l.foldl (fun q c => q + g c) q = q + l.foldl (fun q c => q + g c) 0
  | [], q => by simp [Rat.add_zero]
  | a :: l, q => by
    rw [List.foldl_cons, List.foldl_cons, fold_shift g l (q + g a), fold_shift g l (0 + g a)]
    grind
theorem ahead_sum (t : Tb) (r c : Int) : ahead t r c = (t.cols r).foldl (fun q c' => q + if c' < c then (t.v r c').1 else 0) 0 := by
  unfold ahead
  congr 1
  funext q c'
  split
  · rfl
  · rw [Rat.add_zero]
theorem ahead_step {t : Tb} (F : Ft t) (r c : Int) : ahead t r (c + 1) = ahead t r c + (t.v r c).1 := by
  rw [ahead_sum, ahead_sum]
  have key : ∀ l : List Int, l.Nodup → l.foldl (fun q c' => q + if c' < c + 1 then (t.v r c').1 else 0) 0 = l.foldl (fun q c' => q + if c' < c then (t.v r c').1 else 0) 0 + if c ∈ l then (t.v r c).1 else 0 := by
    intro l hl
    induction l with
    | nil => simp [Rat.add_zero]
    | cons a l ih =>
      rw [List.nodup_cons] at hl
      rw [List.foldl_cons, List.foldl_cons, fold_shift, fold_shift (fun c' => if c' < c then (t.v r c').1 else 0), ih hl.2]
      by_cases h : a = c
      · subst h
        simp only [show a < a + 1 from by omega, if_true, Int.lt_irrefl, if_false, hl.1, List.mem_cons, true_or]
        grind
      · have h2 : (a < c + 1) = (a < c) := by apply propext; constructor <;> intro _ <;> omega
        have h3 : (c ∈ a :: l) = (c ∈ l) := by simp [Ne.symm h]
        simp only [h2, h3]
        grind
  rw [key _ (F.cn r)]
  split
  · rfl
  · rename_i h
    rw [F.nc r c h]
theorem ahead_bd {t : Tb} (F : Ft t) (r c : Int) : InD (3 * 2 ^ 64) (ahead t r c) := by
  rw [ahead_sum]
  have key : ∀ l : List Int, InD (l.length * 2 ^ 64) (l.foldl (fun q c' => q + if c' < c then (t.v r c').1 else 0) 0) := by
    intro l
    induction l with
    | nil => exact InD.zero.mono (Nat.zero_le _)
    | cons a l ih =>
      rw [List.foldl_cons, fold_shift, List.length_cons, Nat.succ_mul, Nat.add_comm]
      refine InD.add ?_ ih
      rw [Rat.zero_add]
      split
      · exact (F.v r a).1
      · exact InD.zero.mono (Nat.zero_le _)
  exact (key _).mono (Nat.mul_le_mul_right _ (F.clen r))
theorem four_mul {d : Nat} : ((d : Int) * 4 * 4) = ((d * 16 : Nat) : Int) := by omega
theorem shared_eq (q : Rat) : Rat.divInt q.num ((q.den : Int) * 4 * 4) = q / 16 := by
  have h1 : q = Rat.divInt q.num q.den := (Rat.num_divInt_den q).symm
  have hd : (q.den : Rat) ≠ 0 := by
    have := q.den_nz
    intro h; exact this (Rat.natCast_eq_zero_iff.mp h)
  rw [four_mul, Rat.divInt_eq_div]
  have h2 : q = (q.num : Rat) / (q.den : Rat) := by
    have := h1
    rw [Rat.divInt_eq_div] at this
    exact this
  have h3 : (((q.den * 16 : Nat) : Int) : Rat) = (q.den : Rat) * 16 := by
    rw [Rat.intCast_natCast, Rat.natCast_mul]; rfl
  rw [h3]
  generalize hn : (q.num : Rat) = x at h2 ⊢
  generalize hdd : (q.den : Rat) = y at h2 hd ⊢
  rw [h2]
  grind
theorem shared {B : Bs} {k : Nat} {st : List O} {t : Tb} {q : Rat} (hq : Sz q) : FnC B (k + 3) (.ref 171) [CellsV t, Fr q] st (Fr (q / 16)) st := by
  refine FnC.pl (names := ["self", "area"]) (r := .ret (Fr (q / 16))) ⟨⟨_, _, _, rfl⟩, rfl, rfl, rfl, rfl, rfl, rfl, rfl, rfl⟩ (by decide) rfl ?_ (by decide) (fun L => ?_) (.inl rfl)
  · apply len2; intro _ _; rfl
  have hd : ((q.den : Int) * 4 * 4) ≠ 0 := by have := q.den_pos; omega
  have hl : ((q.den : Int) * 4 * 4).natAbs < 2 ^ 400 := by
    rw [four_mul]
    have := hq.d
    have h2 : q.den < 2 ^ 200 := this
    show q.den * 16 < 2 ^ 400
    have h3 : q.den * 16 < 2 ^ 200 * 2 ^ 200 := Nat.mul_lt_mul'' h2 (by decide)
    rwa [← Nat.pow_add] at h3
  have m2 : ∀ a : Int, IntMulOk a 4 := fun a => mulOk_right (by decide)
  refine XE.ret (v := Fr (q / 16)) ?_
  apply Ev.call; walk_at "cal"; walk_at "cw"; rfl
  apply Evs.cons; rfl; walk_at "ev"
  apply Evs.cons; rfl
  apply Ev.bin; apply Ev.bin; walk_at "ev"; walk_at "ev"; exact Op2.mul (m2 _); walk_at "ev"; exact Op2.mul (m2 _)
  exact Evs.nil
  exact (fraction2 hd hl).fn.cast (by rw [shared_eq])
theorem rows_get {t : Tb} (F : Ft t) (r : Int) : (dGet (t.rows.map fun r => (r, rowV t r)) r).getD (.dict []) = rowV t r := by
  rw [dGet_map]
  split
  · rfl
  · rename_i h
    show V.dict [] = .dict ((t.cols r).map _)
    rw [F.nr r h]; rfl
theorem rangeVs_cons {a b : Int} {v : V} {l : List V} (h : v :: l = rangeVs a b) : a < b ∧ v = .int a ∧ l = rangeVs (a + 1) b := by
  unfold rangeVs at h ⊢
  by_cases hab : a < b
  · obtain ⟨n, hn⟩ : ∃ n, (b - a).toNat = n + 1 := ⟨(b - a).toNat - 1, by omega⟩
    rw [hn, List.range_succ_eq_map, List.map_cons, List.map_map] at h
    injection h with h1 h2
    refine ⟨hab, by rw [h1]; simp, ?_⟩
    rw [h2, show (b - (a + 1)).toNat = n by omega]
    refine List.map_congr_left fun i _ => ?_
    show V.int _ = V.int _
    congr 1
    show a + ((i + 1 : Nat) : Int) = _
    omega
  · rw [show (b - a).toNat = 0 by omega] at h; cases h
theorem colsI_cons {a b : Int} (h : a < b) : colsI a b = a :: colsI (a + 1) b := by
  unfold colsI
  obtain ⟨n, hn⟩ : ∃ n, (b - a).toNat = n + 1 := ⟨(b - a).toNat - 1, by omega⟩
  rw [hn, List.range_succ_eq_map, List.map_cons, List.map_map, show (b - (a + 1)).toNat = n by omega]
  congr 1
  · simp
  · refine List.map_congr_left fun i _ => ?_
    show a + ((i + 1 : Nat) : Int) = _
    omega
theorem colsI_nil {a b : Int} (h : b ≤ a) : colsI a b = [] := by unfold colsI; rw [show (b - a).toNat = 0 by omega]; rfl
theorem fold_cols {f : Int → V} {b : Int} : ∀ (l : List V) (c : Int) (acc : List V), l = rangeVs c b → (l.foldl (fun (s : Int × List V) (_ : V) => (s.1 + 1, s.2 ++ [f s.1])) (c, acc)).2 = acc ++ (colsI c b).map f
  | [], c, acc, h => by
    have : (rangeVs c b).length = 0 := by rw [← h]; rfl
    rw [rangeVs_len] at this
    rw [colsI_nil (by omega)]; simp
  | v :: l, c, acc, h => by
    obtain ⟨h1, _, h3⟩ := rangeVs_cons h
    rw [List.foldl_cons, fold_cols l (c + 1) _ h3, colsI_cons h1, List.map_cons, List.append_assoc]; rfl
theorem foldl_map' {α β γ : Type} (f : γ → β → γ) (g : α → β) : ∀ (l : List α) (x : γ), (l.map g).foldl f x = l.foldl (fun x a => f x (g a)) x
  | [], _ => rfl
  | a :: l, x => foldl_map' f g l _
theorem row_areas {B : Bs} {k : Nat} {st : List O} {t : Tb} (F : Ft t) (hst : Cl st) {r a b : Int} (ha : a.natAbs ≤ 100) (hb : b.natAbs ≤ 100) :
    FnC B (k + 4) (.ref 185) [CellsV t, .int r, .int a, .int b] st (.lst ((colsI a b).map fun c => Fr (areaAt t r c))) st := by
  have hok : ∀ n : Nat, ∀ v ∈ (colsI a b).map (fun c => Fr (areaAt t r c)), Ok n v := fun n v hv => by
    obtain ⟨c, _, rfl⟩ := List.mem_map.mp hv
    exact .tup fun v hv => by
      simp only [List.mem_cons, List.not_mem_nil, or_false] at hv
      rcases hv with rfl | rfl <;> exact .int _
  refine FnC.seal (v := .ref st.length) (g := [.list ((colsI a b).map fun c => Fr (areaAt t r c))]) ?_ rfl hst (.list (Nat.le_refl _) at_last (Dens.self _)) (.lst (hok _))
  refine FnC.pl (names := ["self", "row", "first", "last"]) (r := .ret (.ref st.length)) ⟨⟨_, _, _, rfl⟩, rfl, rfl, rfl, rfl, rfl, rfl, rfl, rfl⟩ (by decide) rfl ?_ (by decide) (fun L => ?_) (.inl rfl)
  · apply len4; intro _ _ _ _; rfl
  refine XE.cons (st₁ := st) (X1.assign (v := rowV t r) (by
    apply Ev.meth
    apply Ev.attr; walk_at "ev"; exact .inl rfl; rfl; rfl; walk_at "aok"; rfl
    exact Mth.get (.inl rfl)
    walk_at "cw"; rfl
    apply Evs.cons; rfl; walk_at "ev"
    apply Evs.cons; rfl; exact Ev.dict0F
    exact Evs.nil
    exact Fn.get (.inl rfl) (rows_get F r)
    rfl) rfl rfl) ?_
  refine XE.cons (X1.assign (v := Fr 0) (by apply Ev.call; walk_at "cal"; walk_at "cw"; rfl; walk_at "evs"; exact (fraction1 (t := 0)).fn) rfl rfl) ?_
  let R : Rat → List (Str × V) := fun q => [("last", .int b), ("first", .int a), ("row", .int r), ("self", CellsV t), ("cells", rowV t r), ("ahead", Fr q)]
  have hget : ∀ c ∈ t.cols r, dGet (rowD t r) c = some (cellV (t.v r c)) := fun c hc => by rw [dGet_map, if_pos hc]
  have szN : ∀ {N : Nat} {q : Rat}, InD (N * 2 ^ 64) q → N ≤ 1000 → Sz q := fun h hN => h.sz (Nat.lt_of_le_of_lt (Nat.mul_le_mul_right _ hN) (by decide))
  -- the covers ahead of the first column
  refine XE.at (R 0) rfl ?_
  refine XE.cons (ρ₁ := R (ahead t r a)) (st₁ := st) ((X1.for (P := fun _ => True) (v := rowV t r) (items := (rowD t r).map fun kv => .int kv.1) (by walk_at "ev") Iters.dict
    (FoR.fold (ρ := R) (S := fun _ => st) (F := fun q v => match v with | .int c => if c < a then q + (t.v r c).1 else q | _ => q)
      (I := fun l q => (∀ v ∈ l, ∃ c ∈ t.cols r, v = .int c) ∧ ∃ N, InD (N * 2 ^ 64) q ∧ N + l.length ≤ 1000) (fun _ _ _ => trivial) ?_ _ 0 ⟨?_, 0, InD.zero.mono (Nat.zero_le _), ?_⟩) (fun _ => rfl)).cast ?_ rfl) ?_
  · rintro v l q ⟨hl, N, hN, hn⟩
    obtain ⟨c, hc, rfl⟩ := hl v (.head _)
    rw [List.length_cons] at hn
    have sq := szN hN (by omega)
    have sc := szN (N := 1) (by rw [Nat.one_mul]; exact (F.v r c).1) (by decide)
    refine ⟨⟨fun v hv => hl v (.tail _ hv), N + 1, ?_, by omega⟩, R q ++ ([("column", .int c)] : List (Str × V)), As.name rfl, ?_⟩
    · show InD _ (if c < a then q + (t.v r c).1 else q)
      rw [Nat.succ_mul]
      split
      · exact hN.add (F.v r c).1
      · exact hN.mono (Nat.le_add_right _ _)
    · show Xs _ _ _ _ _ _ _ (R (if c < a then q + (t.v r c).1 else q)) _
      by_cases h : c < a
      · rw [if_pos h]
        apply Xs.post
        · apply Xs.ifT (Tr.cast (by walk_at "tr") (by simpa using h))
          · apply Xs.one
            apply X1.assign
            apply Ev.call; walk_at "cal"; walk_at "cw"; rfl
            apply Evs.cons; rfl; walk_at "ev"
            apply Evs.cons; rfl
            apply Ev.attr
            apply Ev.sub; walk_at "ev"; walk_at "ev"; exact Sub.dict (.inl rfl) (hget c hc); exact fun _ _ => ⟨_, rfl⟩
            exact .inl rfl
            rfl; rfl; walk_at "aok"; rfl
            exact Evs.nil
            exact (plus sq sc).fn
            rfl
            rfl
          · exact Xs.nil
        · rfl
      · rw [if_neg h]
        apply Xs.post
        · apply Xs.ifF (Tr.cast (by walk_at "tr") (by simpa using h))
          exact Xs.nil
        · rfl
  · intro v hv
    rw [List.map_map] at hv
    obtain ⟨c, hc, rfl⟩ := List.mem_map.mp hv
    exact ⟨c, hc, rfl⟩
  · rw [List.map_map, List.length_map]; have := F.clen r; omega
  · congr 1
    rw [List.map_map, foldl_map']
    rfl
  refine XE.cons (X1.assign (by walk_at "ev") rfl rfl) ?_
  let R2 : Int × List V → List (Str × V) := fun s => [("last", .int b), ("first", .int a), ("row", .int r), ("self", CellsV t), ("cells", rowV t r), ("ahead", Fr (ahead t r s.1)), ("found", .ref st.length)]
  refine XE.at (R2 (a, [])) rfl ?_
  have hin : ∀ c, (dGet (rowD t r) c).isSome = decide (c ∈ t.cols r) := fun c => by rw [dGet_map]; split <;> simp_all
  refine XE.cons (ρ₁ := R2 ((rangeVs a b).foldl (fun (s : Int × List V) (_ : V) => (s.1 + 1, s.2 ++ [Fr (areaAt t r s.1)])) (a, []))) (st₁ := st ++ [.list ((colsI a b).map fun c => Fr (areaAt t r c))]) ((X1.for (P := fun _ => True) (v := .range a b) (items := rangeVs a b) (by walk_at "ev") (Iters.range (by omega) (by omega))
    (FoR.fold (ρ := R2) (S := fun s => st ++ [.list s.2]) (F := fun (s : Int × List V) (_ : V) => (s.1 + 1, s.2 ++ [Fr (areaAt t r s.1)]))
      (I := fun l s => l = rangeVs s.1 b ∧ s.2.length + l.length ≤ 300) (fun _ _ _ => trivial) ?_ _ (a, []) ⟨rfl, ?_⟩) (fun _ => rfl)).cast rfl ?_) ?_
  · rintro v l ⟨c, acc⟩ ⟨hl, hn⟩
    obtain ⟨h1, rfl, h3⟩ := rangeVs_cons hl
    rw [List.length_cons] at hn
    have hn : acc.length + (l.length + 1) ≤ 300 := hn
    have sa := szN (ahead_bd F r c) (by decide)
    have sc := szN (N := 1) (by rw [Nat.one_mul]; exact (F.v r c).1) (by decide)
    have sv := szN (N := 1) (by rw [Nat.one_mul]; exact (F.v r c).2) (by decide)
    have s4 : Sz ((4 : Int) : Rat) := ⟨by show (4 : Int).natAbs < _; decide, by show ((1 : Nat) : Int).natAbs < _; decide⟩
    have b4 : InD (12 * 2 ^ 64) (ahead t r c * ((4 : Int) : Rat)) := by
      have e : ahead t r c * ((4 : Int) : Rat) = ahead t r c + ahead t r c + (ahead t r c + ahead t r c) := by
        show ahead t r c * 4 = _; grind
      rw [e]
      exact ((InD.add (ahead_bd F r c) (ahead_bd F r c)).add (InD.add (ahead_bd F r c) (ahead_bd F r c))).mono (by omega)
    have sb4 := szN b4 (by decide)
    have btot : InD (13 * 2 ^ 64) (ahead t r c * ((4 : Int) : Rat) + (t.v r c).2) := (b4.add (F.v r c).2).mono (by omega)
    have stot := szN btot (by decide)
    have htm := (times (B := B) (k := k) (st := st ++ [.list acc]) sa s4).fn
    have hpl := (plus (B := B) (k := k) (st := st ++ [.list acc]) sb4 sv).fn
    have hpc := (plus (B := B) (k := k) (st := st ++ [.list acc]) sa sc).fn
    have hsh := (shared (B := B) (k := k) (st := st ++ [.list acc]) (t := t) stot).fn
    have hstep := ahead_step F r c
    have hlast : areaAt t r c = (ahead t r c * ((4 : Int) : Rat) + (t.v r c).2) / 16 := rfl
    refine ⟨⟨h3, by simp only [List.length_append, List.length_singleton]; omega⟩, R2 (c, acc) ++ ([("column", .int c)] : List (Str × V)), As.name rfl, ?_⟩
    show Xs _ _ _ _ _ (st ++ [.list acc]) _ (R2 (c + 1, acc)) (st ++ [.list (acc ++ [Fr (areaAt t r c)])])
    have hal : acc.length ≤ 1000 := by omega
    by_cases h : c ∈ t.cols r
    · apply Xs.post
      · apply Xs.cons
        · apply X1.assign
          apply Ev.call; walk_at "cal"; walk_at "cw"; rfl
          apply Evs.cons; rfl; walk_at "ev"
          apply Evs.cons; rfl
          apply Ev.call; walk_at "cal"; walk_at "cw"; rfl; walk_at "evs"; exact (fraction1 (t := 4)).fn
          exact Evs.nil
          exact htm
          rfl
          rfl
        apply Xs.ifT (Tr.cast (b := (dGet (rowD t r) c).isSome) (by apply Tr.cmp; walk_at "ev"; walk_at "ev"; exact Op2.inDict (.inl rfl); rfl) (by rw [hin]; exact decide_eq_true h))
        · apply Xs.cons
          · apply X1.assign
            apply Ev.call; walk_at "cal"; walk_at "cw"; rfl
            apply Evs.cons; rfl; walk_at "ev"
            apply Evs.cons; rfl
            apply Ev.attr
            apply Ev.sub; walk_at "ev"; walk_at "ev"; exact Sub.dict (.inl rfl) (hget c h); exact fun _ _ => ⟨_, rfl⟩
            exact .inl rfl
            rfl; rfl; walk_at "aok"; rfl
            exact Evs.nil
            exact hpl
            rfl
            rfl
          · apply Xs.one
            apply X1.assign
            apply Ev.call; walk_at "cal"; walk_at "cw"; rfl
            apply Evs.cons; rfl; walk_at "ev"
            apply Evs.cons; rfl
            apply Ev.attr
            apply Ev.sub; walk_at "ev"; walk_at "ev"; exact Sub.dict (.inl rfl) (hget c h); exact fun _ _ => ⟨_, rfl⟩
            exact .inl rfl
            rfl; rfl; walk_at "aok"; rfl
            exact Evs.nil
            exact hpc.cast (by rw [← hstep])
            rfl
            rfl
        apply Xs.one
        apply X1.appendLast
        walk_at "ev"
        rfl
        apply Ev.meth; walk_at "ev"; exact Mth.fn (.inl rfl) rfl mCells_shared; walk_at "cw"; rfl; walk_at "evs"; exact hsh; rfl
        exact hal
        rfl
        rfl
      · rfl
    · have hv0 : t.v r c = (0, 0) := F.nc r c h
      have e0 : ahead t r c * ((4 : Int) : Rat) + (t.v r c).2 = ahead t r c * ((4 : Int) : Rat) := by rw [hv0, Rat.add_zero]
      have e1 : ahead t r (c + 1) = ahead t r c := by rw [hstep, hv0, Rat.add_zero]
      have hR : R2 (c + 1, acc) = R2 (c, acc) := by
        show [_, _, _, _, _, ((_ : Str), Fr (ahead t r (c + 1))), _] = _
        rw [e1]
      rw [hR]
      apply Xs.post
      · apply Xs.cons
        · apply X1.assign
          apply Ev.call; walk_at "cal"; walk_at "cw"; rfl
          apply Evs.cons; rfl; walk_at "ev"
          apply Evs.cons; rfl
          apply Ev.call; walk_at "cal"; walk_at "cw"; rfl; walk_at "evs"; exact (fraction1 (t := 4)).fn
          exact Evs.nil
          exact htm
          rfl
          rfl
        apply Xs.ifF (Tr.cast (b := (dGet (rowD t r) c).isSome) (by apply Tr.cmp; walk_at "ev"; walk_at "ev"; exact Op2.inDict (.inl rfl); rfl) (by rw [hin]; exact decide_eq_false h))
        apply Xs.one
        apply X1.appendLast
        walk_at "ev"
        rfl
        apply Ev.meth; walk_at "ev"; exact Mth.fn (.inl rfl) rfl mCells_shared; walk_at "cw"; rfl; walk_at "evs"; exact (e0 ▸ hsh); rfl
        exact hal
        rfl
        rfl
      · rfl
  · rw [rangeVs_len]; simp; omega
  · have := fold_cols (f := fun c => Fr (areaAt t r c)) (rangeVs a b) a [] rfl
    rw [this]; rfl
  · exact XE.ret (by walk_at "ev")
theorem CoR.map {B : Bs} {k : Nat} {α : Type} {ce : Addr → Env} {t elt : Expr} {P : List O → Prop} {st : List O} (hP : P st) (enc f : α → V) (ρof : Option α → List (Str × V)) (items : List α)
    (h : ∀ o a, a ∈ items → (∀ C, As B k (ce C) t (enc a) (ρof o) st (ρof (some a))) ∧ ∀ C, Ev B k (ce C) elt (ρof (some a)) st (f a) st) : ∀ o, CoR B k ce t elt P (ρof o) (items.map enc) st (items.map f) st := by
  induction items with
  | nil => exact fun o => .nil hP
  | cons a l ih => exact fun o => .cons hP (h o a (.head _)).1 (h o a (.head _)).2 (ih (fun o a ha => h o a (.tail _ ha)) (some a))
theorem area_fn {B : Bs} {k : Nat} {st : List O} {t : Tb} (F : Ft t) (hst : Cl st) {r c : Int} (hc : c.natAbs ≤ 99) : FnC B (k + 5) (.ref 178) [CellsV t, .int c, .int r] st (Fr (areaAt t r c)) st := by
  refine FnC.pl (names := ["self", "column", "row"]) (r := .ret (Fr (areaAt t r c))) ⟨⟨_, _, _, rfl⟩, rfl, rfl, rfl, rfl, rfl, rfl, rfl, rfl⟩ (by decide) rfl ?_ (by decide) (fun L => ?_) (.inl rfl)
  · apply len3; intro _ _ _; rfl
  have e : (colsI c (c + 1)).map (fun c => Fr (areaAt t r c)) = [Fr (areaAt t r c)] := by rw [colsI_cons (by omega), colsI_nil (by omega)]; rfl
  have hra := (row_areas (B := B) (k := k) F hst (r := r) (a := c) (b := c + 1) (by omega) (by omega)).fn
  rw [e] at hra
  refine XE.ret ?_
  apply Ev.sub
  apply Ev.meth; walk_at "ev"; exact Mth.fn (.inl rfl) rfl mCells_row_areas; walk_at "cw"; rfl; walk_at "evs"; exact hra; rfl
  walk_at "ev"; exact Sub.lst (.inl rfl) (by decide) (by decide) rfl rfl; exact fun _ _ => ⟨_, rfl⟩
theorem columns {B : Bs} {k : Nat} {st : List O} {t : Tb} (F : Ft t) (hst : Cl st) {r : Int} : ∃ ms : List Int, ms.Perm (t.cols r) ∧ ms.Pairwise (· ≤ ·) ∧ FnC B (k + 1) (.ref 164) [CellsV t, .int r] st (.lst (intVs ms)) st := by
  have hp := List.mergeSort_perm (t.cols r) (fun a b => decide (a ≤ b))
  have hs : ((t.cols r).mergeSort fun a b => decide (a ≤ b)).Pairwise (· ≤ ·) := by
    have := List.pairwise_mergeSort (le := fun a b : Int => decide (a ≤ b)) (fun a b c h1 h2 => by simp at *; omega) (fun a b => by simp; omega) (t.cols r)
    exact this.imp fun h => by simpa using h
  generalize (t.cols r).mergeSort (fun a b => decide (a ≤ b)) = ms at hp hs
  refine ⟨ms, hp, hs, ?_⟩
  have hlen := F.clen r
  refine FnC.seal (v := .lst (intVs ms)) (g := [.list (intVs (t.cols r))]) ?_ rfl hst (.self _) (.lst fun v hv => by obtain ⟨i, _, rfl⟩ := List.mem_map.mp hv; exact .int i)
  refine FnC.pl (names := ["self", "row"]) (r := .ret (.lst (intVs ms))) ⟨⟨_, _, _, rfl⟩, rfl, rfl, rfl, rfl, rfl, rfl, rfl, rfl⟩ (by decide) rfl ?_ (by decide) (fun L => ?_) (.inl rfl)
  · apply len2; intro _ _; rfl
  refine XE.ret ?_
  apply Ev.call; walk_at "cal"; walk_at "cw"; rfl
  apply Evs.cons; rfl
  refine Ev.comp (st' := st) (st₁ := st) (ys := intVs (t.cols r)) (P := fun _ => True) (v := rowV t r) (items := (rowD t r).map fun kv => .int kv.1) (ρc := []) (cl := []) ?_ Iters.dict ?_ ?_ ⟨rfl, rfl, by decide, by decide, (fun x c h => nomatch h), (fun x u h => nomatch h)⟩ (fun _ => rfl)
  · apply Ev.meth
    apply Ev.attr; walk_at "ev"; exact .inl rfl; rfl; rfl; walk_at "aok"; rfl
    exact Mth.get (.inl rfl)
    walk_at "cw"; rfl
    apply Evs.cons; rfl; walk_at "ev"
    apply Evs.cons; rfl; exact Ev.dict0F
    exact Evs.nil
    exact Fn.get (.inl rfl) (rows_get F r)
    rfl
  · have e : (rowD t r).map (fun kv => V.int kv.1) = (t.cols r).map V.int := by rw [List.map_map]; rfl
    rw [e]
    exact CoR.map (st := st) trivial V.int V.int (fun o => match o with | none => [] | some c => [("column", .int c)]) (t.cols r) (fun o c _ => ⟨fun C => by cases o <;> exact As.name rfl, fun C => by walk_at "ev"⟩) none
  · rw [List.map_map, List.length_map]; exact Nat.le_trans hlen (Nat.le_of_ble_eq_true rfl)
  exact Evs.nil
  exact Fn.sorted (.inr ⟨_, rfl, at_last⟩) (by omega) (fun ns' h1 h2 => (h1.trans hp.symm).eq_of_pairwise (fun a b _ _ h1 h2 => by omega) h2 hs)
theorem FoR.foldA {B : Bs} {k : Nat} {env : Env} {α : Type} {t : Expr} {b : List Stmt} {P : List O → Prop} {σ : Type} (enc : α → V) {F : σ → α → σ} {ρ : σ → List (Str × V)} {S : σ → List O} {I : List α → σ → Prop} (hP : ∀ l s, I l s → P (S s))
    (step : ∀ a l s, I (a :: l) s → I l (F s a) ∧ ∃ ρ₁, As B k env t (enc a) (ρ s) (S s) ρ₁ ∧ Xs B k env b ρ₁ (S s) .next (ρ (F s a)) (S (F s a))) :
    ∀ items s, I items s → FoR B k env t b P (items.map enc) (ρ s) (S s) .next (ρ (items.foldl F s)) (S (items.foldl F s)) := by
  intro items
  induction items with
  | nil => exact fun s h => .nil (hP _ _ h)
  | cons v l ih =>
    intro s h
    obtain ⟨h1, ρ₁, h2, h3⟩ := step v l s h
    exact .cons (hP _ _ h) h2 h3 (ih _ h1)
/-- a fraction over 16 times that -/
noncomputable def InE (N : Nat) (q : Rat) : Prop := InD N (q * 16)
theorem InE.sz {N : Nat} {q : Rat} (h : InE N q) (hN : N < 2 ^ 200) : Sz q := by
  obtain ⟨n, e, hn⟩ := h
  have e' : q = Rat.divInt n 22579200 := by
    rw [Rat.divInt_eq_div]
    show q = (n : Rat) / 22579200
    grind
  rw [e']
  obtain ⟨h1, h2⟩ := divInt_parts (a := n) (b := 22579200) (by decide)
  exact ⟨Nat.lt_of_le_of_lt h1 (Nat.lt_of_le_of_lt hn hN), Nat.lt_of_le_of_lt h2 (by decide)⟩
theorem InE.add {N M : Nat} {p q : Rat} (h : InE N p) (h' : InE M q) : InE (N + M) (p + q) := by
  unfold InE; rw [Rat.add_mul]; exact InD.add h h'
theorem areaAt_bd {t : Tb} (F : Ft t) (r c : Int) : InE (13 * 2 ^ 64) (areaAt t r c) := by
  have e : areaAt t r c * 16 = ahead t r c + ahead t r c + (ahead t r c + ahead t r c) + (t.v r c).2 := by unfold areaAt; grind
  unfold InE
  rw [e]
  exact (((InD.add (ahead_bd F r c) (ahead_bd F r c)).add (InD.add (ahead_bd F r c) (ahead_bd F r c))).add (F.v r c).2).mono (by omega)
noncomputable def wholeS (t : Tb) (lo hi : Int → Int) : Rat := t.rows.foldl (fun q r => (colsI (lo r) (hi r + 1)).foldl (fun q c => q + areaAt t r c) q) 0
theorem sorted_ends {ms : List Int} (hs : ms.Pairwise (· ≤ ·)) (hne : ms ≠ []) : ∃ lo hi, ms[0]? = some lo ∧ ms[ms.length - 1]? = some hi ∧ lo ∈ ms ∧ hi ∈ ms ∧ ∀ c ∈ ms, lo ≤ c ∧ c ≤ hi := by
  have hl : 0 < ms.length := List.length_pos_iff.mpr hne
  refine ⟨ms[0], ms[ms.length - 1], List.getElem?_eq_getElem _, List.getElem?_eq_getElem _, List.getElem_mem _, List.getElem_mem _, fun c hc => ?_⟩
  obtain ⟨i, hi, rfl⟩ := List.mem_iff_getElem.mp hc
  have key := List.pairwise_iff_getElem.mp hs
  constructor
  · rcases Nat.eq_zero_or_pos i with h | h
    · subst h; exact Int.le_refl _
    · exact key 0 i hl hi h
  · rcases Nat.lt_or_ge i (ms.length - 1) with h | h
    · exact key i (ms.length - 1) hi (by omega) h
    · have : i = ms.length - 1 := by omega
      subst this; exact Int.le_refl _
theorem whole {B : Bs} {k : Nat} {st : List O} {t : Tb} (F : Ft t) (hst : Cl st) : ∃ lo hi : Int → Int, (∀ r ∈ t.rows, lo r ∈ t.cols r ∧ hi r ∈ t.cols r ∧ ∀ c ∈ t.cols r, lo r ≤ c ∧ c ≤ hi r) ∧ FnC B (k + 5) (.ref 192) [CellsV t] st (Fr (wholeS t lo hi)) st := by
  have hcol := fun r => columns (B := B) (k := k + 3) F hst (r := r)
  let ms : Int → List Int := fun r => Classical.choose (hcol r)
  have hms : ∀ r, (ms r).Perm (t.cols r) ∧ (ms r).Pairwise (· ≤ ·) ∧ FnC B (k + 3 + 1) (.ref 164) [CellsV t, .int r] st (.lst (intVs (ms r))) st := fun r => Classical.choose_spec (hcol r)
  have hne : ∀ r ∈ t.rows, ms r ≠ [] := fun r hr e => by
    have := (hms r).1
    rw [e] at this
    exact F.ne r hr this.nil_eq.symm
  let lo : Int → Int := fun r => (ms r)[0]?.getD 0
  let hi : Int → Int := fun r => (ms r)[(ms r).length - 1]?.getD 0
  have hends : ∀ r ∈ t.rows, (ms r)[0]? = some (lo r) ∧ (ms r)[(ms r).length - 1]? = some (hi r) ∧ lo r ∈ t.cols r ∧ hi r ∈ t.cols r ∧ ∀ c ∈ t.cols r, lo r ≤ c ∧ c ≤ hi r := fun r hr => by
    obtain ⟨l, h, e1, e2, m1, m2, m3⟩ := sorted_ends (hms r).2.1 (hne r hr)
    have el : lo r = l := by show (ms r)[0]?.getD 0 = l; rw [e1]; rfl
    have eh : hi r = h := by show (ms r)[(ms r).length - 1]?.getD 0 = h; rw [e2]; rfl
    rw [el, eh]
    have hp := (hms r).1
    exact ⟨e1, e2, hp.mem_iff.mp m1, hp.mem_iff.mp m2, fun c hc => m3 c (hp.mem_iff.mpr hc)⟩
  clear_value lo hi
  refine ⟨lo, hi, fun r hr => (hends r hr).2.2, ?_⟩
  refine FnC.pl (names := ["self"]) (r := .ret (Fr (wholeS t lo hi))) ⟨⟨_, _, _, rfl⟩, rfl, rfl, rfl, rfl, rfl, rfl, rfl, rfl⟩ (by decide) rfl ?_ (by decide) (fun L => ?_) (.inl rfl)
  · apply len1; intro _; rfl
  refine XE.cons (X1.assign (v := Fr 0) (by apply Ev.call; walk_at "cal"; walk_at "cw"; rfl; walk_at "evs"; exact (fraction1 (t := 0)).fn) rfl rfl) ?_
  let R : Rat → List (Str × V) := fun q => [("self", CellsV t), ("total", Fr q)]
  refine XE.at (R 0) rfl ?_
  have hitems : (t.rows.map fun r => (r, rowV t r)).map (fun kv => V.int kv.1) = t.rows.map V.int := by rw [List.map_map]; rfl
  refine XE.cons (ρ₁ := R (wholeS t lo hi)) (st₁ := st) (X1.for (P := fun _ => True) (v := .dict (t.rows.map fun r => (r, rowV t r))) (items := t.rows.map V.int) (by walk_at "ev") (hitems ▸ Iters.dict)
    (FoR.foldA (ρ := R) V.int (S := fun _ => st) (F := fun q r => (colsI (lo r) (hi r + 1)).foldl (fun q c => q + areaAt t r c) q)
      (I := fun l q => (∀ r ∈ l, r ∈ t.rows) ∧ ∃ N, InE (N * (13 * 2 ^ 64)) q ∧ N + l.length * 3 ≤ 900) (fun _ _ _ => trivial) ?_ _ 0 ⟨fun r h => h, 0, ?_, ?_⟩) (fun _ => rfl)) ?_
  · rintro r l q ⟨hl, N, hN, hn⟩
    rw [List.length_cons, Nat.succ_mul] at hn
    have hr := hl r (.head _)
    obtain ⟨e1, e2, m1, m2, m3⟩ := hends r hr
    have b1 := F.cr r _ m1
    have b2 := F.cr r _ m2
    have hcl : (colsI (lo r) (hi r + 1)).length ≤ 3 := by unfold colsI; rw [List.length_map, List.length_range]; omega
    have hfold : ∀ (cs : List Int) (q : Rat) (N : Nat), InE (N * (13 * 2 ^ 64)) q → InE ((N + cs.length) * (13 * 2 ^ 64)) (cs.foldl (fun q c => q + areaAt t r c) q) := by
      intro cs
      induction cs with
      | nil => exact fun q N h => h
      | cons c cs ih =>
        intro q N h
        have := ih (q + areaAt t r c) (N + 1) (by rw [Nat.succ_mul]; exact h.add (areaAt_bd F r c))
        rw [List.length_cons, Nat.add_comm cs.length 1, ← Nat.add_assoc]
        exact this
    have hml : (ms r).length ≤ 3 := by rw [(hms r).1.length_eq]; exact F.clen r
    have hmp : 0 < (ms r).length := List.length_pos_iff.mpr (hne r hr)
    have hra := (row_areas (B := B) (k := k) F hst (r := r) (a := lo r) (b := hi r + 1) (by omega) (by omega)).fn
    refine ⟨⟨fun r h => hl r (.tail _ h), N + (colsI (lo r) (hi r + 1)).length, hfold _ _ _ hN, by omega⟩, R q ++ ([("row", .int r)] : List (Str × V)), As.name rfl, ?_⟩
    refine Xs.post (ρ₂ := R ((colsI (lo r) (hi r + 1)).foldl (fun q c => q + areaAt t r c) q) ++ ([("row", .int r), ("columns", .lst (intVs (ms r)))] : List (Str × V))) (ex := [("row", .int r), ("columns", .lst (intVs (ms r)))]) ?_ rfl
    · refine Xs.cons (ρ₁ := R q ++ ([("row", .int r), ("columns", .lst (intVs (ms r)))] : List (Str × V))) (st₁ := st) ?_ ?_
      · exact X1.assign (v := .lst (intVs (ms r))) (by apply Ev.meth; walk_at "ev"; exact Mth.fn (.inl rfl) rfl mCells_columns; walk_at "cw"; rfl; walk_at "evs"; exact (hms r).2.2.fn; rfl) rfl rfl
      apply Xs.one
      refine X1.for (P := fun st' => Lst st' (.lst ((colsI (lo r) (hi r + 1)).map fun c => Fr (areaAt t r c))) ((colsI (lo r) (hi r + 1)).map fun c => Fr (areaAt t r c))) (v := .lst ((colsI (lo r) (hi r + 1)).map fun c => Fr (areaAt t r c))) (items := (colsI (lo r) (hi r + 1)).map fun c => Fr (areaAt t r c)) (st₁ := st) ?_ (Iters.lst (.inl rfl))
        (FoR.foldA (ρ := fun q => R q ++ ([("row", .int r), ("columns", .lst (intVs (ms r)))] : List (Str × V))) (fun c => Fr (areaAt t r c)) (S := fun _ => st) (F := fun q c => q + areaAt t r c)
          (I := fun l q => ∃ N, InE (N * (13 * 2 ^ 64)) q ∧ N + l.length ≤ 990) (fun _ _ _ => .inl rfl) ?_ _ q ⟨N, hN, by omega⟩) (fun _ => rfl)
      · apply Ev.meth; walk_at "ev"; exact Mth.fn (.inl rfl) rfl mCells_row_areas; walk_at "cw"; rfl
        apply Evs.cons; rfl; walk_at "ev"
        apply Evs.cons; rfl
        apply Ev.sub; walk_at "ev"; walk_at "ev"; exact Sub.lst (i := 0) (.inl rfl) (by decide) (by decide) (seqIndex_of (by decide) (by unfold intVs; rw [List.length_map]; omega)) (by unfold intVs; rw [List.getElem?_map, show (0 : Int).toNat = 0 from rfl, e1]; rfl); exact fun _ _ => ⟨_, rfl⟩
        apply Evs.cons; rfl
        apply Ev.bin
        apply Ev.sub; walk_at "ev"; walk_at "ev"; exact Sub.lst (i := -1) (.inl rfl) (by decide) (by decide) (seqIndex_neg (by decide) (by unfold intVs; rw [List.length_map]; omega)) (by unfold intVs; rw [List.length_map, List.getElem?_map, show ((-1 : Int) + ((ms r).length : Int)).toNat = (ms r).length - 1 by omega, e2]; rfl); exact fun _ _ => ⟨_, rfl⟩
        walk_at "ev"
        exact Op2.add
        exact Evs.nil
        exact hra
        rfl
      · rintro c l q ⟨N, hN, hn⟩
        rw [List.length_cons] at hn
        have sq := hN.sz (Nat.lt_of_le_of_lt (Nat.mul_le_mul_right _ (show N ≤ 990 by omega)) (by decide))
        have sa := (areaAt_bd F r c).sz (by decide)
        refine ⟨⟨N + 1, by rw [Nat.succ_mul]; exact hN.add (areaAt_bd F r c), by omega⟩, R q ++ ([("row", .int r), ("columns", .lst (intVs (ms r))), ("area", Fr (areaAt t r c))] : List (Str × V)), As.name rfl, ?_⟩
        apply Xs.post (ex := [("area", Fr (areaAt t r c))])
        · apply Xs.one
          apply X1.assign
          apply Ev.call; walk_at "cal"; walk_at "cw"; rfl; walk_at "evs"; exact (plus sq sa).fn
          rfl
          rfl
        · rfl
  · rw [Nat.zero_mul]; unfold InE; rw [Rat.zero_mul]; exact InD.zero
  · have := F.rlen; omega
  · exact XE.ret (by walk_at "ev")
theorem Fn.intBool {B : Bs} {k : Nat} {st : List O} {b : Bool} : Fn B k (.type "int") [.bool b] st (.int (if b then 1 else 0)) st := by
  unfold Fn
  intro w s xs C r A Q E hA q
  cases r with
  | cons h1 h2 => cases h1; cases h2; exact call_int_bool (q _ w _ C.toks .toks (.int _ _))
/-- a source of draws -/
structure Src (st : List O) (i : Nat) : Prop where
  at_ : ∃ p q : Int, st[i]? = some (.list [.int p, .int q]) ∧ 0 ≤ q ∧ q < 2147483647
theorem Src.set {st : List O} {i : Nat} (S : Src st i) (p q : Int) (h : 0 ≤ q ∧ q < 2147483647) : Src (st.set i (.list [.int p, .int q])) i := by
  obtain ⟨p', q', e, _⟩ := S.at_
  exact ⟨p, q, by rw [List.getElem?_set_self (lt_of_get e)], h⟩
theorem fmod_rng (a : Int) {b : Int} (h : 0 < b) : 0 ≤ a.fmod b ∧ a.fmod b < b := by
  rw [Int.fmod_eq_emod_of_nonneg _ (by omega)]; exact ⟨Int.emod_nonneg _ (by omega), Int.emod_lt_of_pos _ h⟩
theorem XE.ifJ {B : Bs} {k : Nat} {env : Env} {ρ ρ₁ : List (Str × V)} {st st₁ st₂ st' : List O} {pos : Pos} {t : Expr} {x cs : List Stmt} {b : Bool} {r : Fl} (ht : Tr B k env t ρ st b st₁) (h : b = true → Xs B k env x ρ st₁ .next ρ₁ st₂) (h' : b = false → ρ = ρ₁ ∧ st₁ = st₂)
    (hc : XE B k env cs ρ₁ st₂ r st') : XE B k env (.If t x [] pos :: cs) ρ st r st' := by
  cases b with
  | true => exact XE.ifT ht (h rfl) hc
  | false => obtain ⟨rfl, rfl⟩ := h' rfl; exact XE.ifF ht hc
theorem pool {B : Bs} {k : Nat} {st : List O} {ns : List Int} (hn : ns.length < 1000) : ∃ p q : Int, 0 ≤ q ∧ q < 2147483647 ∧ FnC B (k + 1) (.ref 270) [.lst (intVs ns), .int 0] st (.ref st.length) (st ++ [.list [.int p, .int q]]) := by
  obtain ⟨c, hc⟩ : ∃ c : Int, (ns.length = 0 ∧ c = 0) ∨ (0 < ns.length ∧ ns[0]? = some c) := by
    rcases Nat.eq_zero_or_pos ns.length with h | h
    · exact ⟨0, .inl ⟨h, rfl⟩⟩
    · exact ⟨ns[0], .inr ⟨h, List.getElem?_eq_getElem h⟩⟩
  generalize hbig : (if -1 - c > c then -1 - c else c) = big
  have r1 := fmod_rng ((big.fmod 2147483629 + 7919 * 0 * 0 + 31 * 0 + 17) * 48271) (b := 2147483647) (by decide)
  refine ⟨big * (if decide (big ≥ 10 ^ ((18 : Int)).toNat) then 1 else 0), ((big.fmod 2147483629 + 7919 * 0 * 0 + 31 * 0 + 17) * 48271).fmod 2147483647, r1.1, r1.2, FnC.pl (names := ["script", "k"]) (r := .ret (.ref st.length)) ⟨⟨_, _, _, rfl⟩, rfl, rfl, rfl, rfl, rfl, rfl, rfl, rfl⟩ (by decide) rfl ?_ (by decide) (fun L => ?_) (.inl rfl)⟩
  · apply len2; intro _ _; rfl
  · refine XE.cons (X1.assign (by walk_at "ev") rfl rfl) ?_
    have hl : (intVs ns).length = ns.length := by unfold intVs; rw [List.length_map]
    have hlen : Fn B k (.builtin "len") [.lst (intVs ns)] st (.int (intVs ns).length) st := Fn.lenLst (.inl rfl) (by rw [hl]; omega)
    refine XE.ifJ (st₁ := st) (st₂ := st) (ρ₁ := [("k", .int 0), ("script", .lst (intVs ns)), ("cell", .int c)]) (b := decide ((0 : Int) < ((intVs ns).length : Nat))) (by walk_at "tr") ?_ ?_ ?_
    · intro h
      have h := of_decide_eq_true h
      rw [hl] at h
      rcases hc with ⟨h0, _⟩ | ⟨h0, he⟩
      · omega
      · have hsub : Sub B k (.lst (intVs ns)) (.int 0) st (.int c) := Sub.lst (j := 0) (.inl rfl) (by decide) (by decide) (seqIndex_of (by decide) (by rw [hl]; omega)) (by unfold intVs; rw [List.getElem?_map, he]; rfl)
        exact Xs.one (X1.assign (by walk_at "ev") rfl rfl)
    · intro h
      have h := of_decide_eq_false h
      rw [hl] at h
      rcases hc with ⟨h0, rfl⟩ | ⟨h0, he⟩
      · exact ⟨rfl, rfl⟩
      · omega
    · refine XE.cons (X1.assign (v := .int big) (Ev.cast (v := .int (if -1 - c > c then -1 - c else c)) (by walk_at "ev") (by rw [hbig])) rfl rfl) ?_
      refine XE.cons (X1.assign (by walk_at "ev") rfl rfl) ?_
      refine XE.ret ?_
      apply Ev.list
      apply Evs.cons; rfl
      apply Ev.bin; walk_at "ev"
      apply Ev.call; walk_at "cal"; walk_at "cw"; rfl
      apply Evs.cons; rfl
      apply Ev.cmp; walk_at "ev"
      apply Ev.bin; walk_at "ev"; walk_at "ev"; exact Op2.pow (by decide) (by decide) (by decide)
      exact Op2.ge
      rfl
      exact Evs.nil
      exact Fn.intBool
      exact Op2.mul (mulOk_right (by split <;> decide))
      apply Evs.cons; rfl; walk_at "ev"
      exact Evs.nil
      exact Nat.le_of_ble_eq_true rfl
theorem take {B : Bs} {k : Nat} {st : List O} {i : Nat} {top : Int} (S : Src st i) (h0 : 0 < top) (h1 : top < 1000) : ∃ d p q : Int, 0 ≤ d ∧ d < top ∧ 0 ≤ q ∧ q < 2147483647 ∧ FnC B (k + 1) (.ref 277) [.ref i, .int top] st (.int d) (st.set i (.list [.int p, .int q])) := by
  obtain ⟨p, q, hi, hq0, hq1⟩ := S.at_
  have hl := lt_of_get hi
  have s0 : ∀ {st : List O} {p q : Int}, st[i]? = some (.list [.int p, .int q]) → Sub B k (.ref i) (.int 0) st (.int p) := fun h => Sub.lst (.inr ⟨_, rfl, h⟩) (by decide) (by decide) rfl rfl
  have s1 : ∀ {st : List O} {p q : Int}, st[i]? = some (.list [.int p, .int q]) → Sub B k (.ref i) (.int 1) st (.int q) := fun h => Sub.lst (.inr ⟨_, rfl, h⟩) (by decide) (by decide) rfl rfl
  have a0 := s0 hi
  have a1 := s1 hi
  have hneq : top ≠ 0 := by omega
  have hsml : top.natAbs < 1073741824 := by omega
  by_cases hp : p > 0
  · obtain ⟨m1, m2⟩ := fmod_rng p h0
    refine ⟨p.fmod top, p.fdiv top, q, m1, m2, hq0, hq1, FnC.pl (names := ["source", "top"]) (r := .ret (.int (p.fmod top))) ⟨⟨_, _, _, rfl⟩, rfl, rfl, rfl, rfl, rfl, rfl, rfl, rfl⟩ (by decide) rfl ?_ (by decide) (fun L => ?_) (.inl rfl)⟩
    · apply len2; intro _ _; rfl
    · refine XE.ifR (Tr.cast (by walk_at "tr") (by simpa using hp)) ?_
      refine XE.cons (X1.assign (by walk_at "ev") rfl rfl) ?_
      refine XE.cons ((X1.setitem (v := .int (p.fdiv top)) (by walk_at "ev") (by walk_at "ev") (by walk_at "ev") (SetI.lst (l := [.int p, .int q]) hi (by decide) (show _ < ((2 : Nat) : Int) by decide) (Nat.le_of_ble_eq_true rfl)) rfl).cast rfl rfl) ?_
      exact XE.ret (by walk_at "ev")
  · generalize hq' : ((q * 39373 + 7).fmod 2147483647) = q'
    have r1 := fmod_rng (q * 39373 + 7) (b := 2147483647) (by decide)
    rw [hq'] at r1
    have r2 := fmod_rng (((q' * q').fmod 2147483629).fdiv 32) h0
    have hmq : IntMulOk q' q' := mulOk_left (by omega)
    have hi' : (st.set i (.list [.int p, .int q']))[i]? = some (.list [.int p, .int q']) := by rw [List.getElem?_set_self hl]
    have b1 := s1 hi'
    refine ⟨(((q' * q').fmod 2147483629).fdiv 32).fmod top, p, q', r2.1, r2.2, r1.1, r1.2, FnC.pl (names := ["source", "top"]) (r := .ret (.int ((((q' * q').fmod 2147483629).fdiv 32).fmod top))) ⟨⟨_, _, _, rfl⟩, rfl, rfl, rfl, rfl, rfl, rfl, rfl, rfl⟩ (by decide) rfl ?_ (by decide) (fun L => ?_) (.inl rfl)⟩
    · apply len2; intro _ _; rfl
    · refine XE.ifF (Tr.cast (by walk_at "tr") (by simpa using hp)) ?_
      refine XE.cons ((X1.setitem (v := .int q') (Ev.cast (v := .int ((q * 39373 + 7).fmod 2147483647)) (by walk_at "ev") (by rw [hq'])) (by walk_at "ev") (by walk_at "ev") (SetI.lst (l := [.int p, .int q]) hi (by decide) (show _ < ((2 : Nat) : Int) by decide) (Nat.le_of_ble_eq_true rfl)) rfl).cast rfl rfl) ?_
      exact XE.ret (by walk_at "ev")
/-- at most n bits -/
noncomputable def Bd (n : Nat) (x : Int) : Prop := x.natAbs < 2 ^ n
theorem Bd.mono {n m : Nat} {x : Int} (h : Bd n x) (l : n ≤ m) : Bd m x := Nat.lt_of_lt_of_le h (Nat.pow_le_pow_right (by decide) l)
theorem Bd.mul {n m : Nat} {x y : Int} (h : Bd n x) (h' : Bd m y) : Bd (n + m) (x * y) := by
  unfold Bd; rw [Int.natAbs_mul, Nat.pow_add]; exact Nat.mul_lt_mul'' h h'
theorem Bd.add {n m : Nat} {x y : Int} (h : Bd n x) (h' : Bd m y) : Bd (max n m + 1) (x + y) := by
  have h1 : x.natAbs < 2 ^ (max n m) := Bd.mono h (Nat.le_max_left _ _)
  have h2 : y.natAbs < 2 ^ (max n m) := Bd.mono h' (Nat.le_max_right _ _)
  have := Int.natAbs_add_le x y
  unfold Bd; rw [Nat.pow_succ]; omega
theorem Bd.neg {n : Nat} {x : Int} (h : Bd n x) : Bd n (-x) := by unfold Bd; rw [Int.natAbs_neg]; exact h
theorem Bd.sub {n m : Nat} {x y : Int} (h : Bd n x) (h' : Bd m y) : Bd (max n m + 1) (x - y) := by rw [Int.sub_eq_add_neg]; exact h.add h'.neg
theorem mulOk_bd {n m : Nat} {a b : Int} (ha : Bd n a) (hb : Bd m b) (hn : n ≤ 1048576) (hm : m ≤ 1048576) : IntMulOk a b := by
  have key : ∀ {n : Nat} {a : Int}, Bd n a → n ≤ 1048576 → Builtin.Int.intBits a ≤ 2 ^ 20 := fun {n a} h hn => by
    unfold Builtin.Int.intBits
    split
    · exact Nat.zero_le _
    · rename_i h0
      have h1 : a.natAbs ≠ 0 := by
        intro e; exact h0 (by have := Int.natAbs_eq_zero.mp e; subst this; rfl)
      have := (Nat.log2_lt h1).mpr h
      have e : (2 : Nat) ^ 20 = 1048576 := by decide
      omega
  exact IntMulOk.of_bits (key ha hn) (key hb hm)
local macro_rules | `(tactic| walk_at "bd") => `(tactic| first
  | assumption | (apply Bd.mul; walk_at "bd"; walk_at "bd") | (apply Bd.sub; walk_at "bd"; walk_at "bd") | (apply Bd.add; walk_at "bd"; walk_at "bd") | (apply Bd.neg; walk_at "bd"))
local macro_rules | `(tactic| walk_at "mul") => `(tactic| (apply mulOk_bd; walk_at "bd"; walk_at "bd"; omega; omega))
section
variable {B : Bs} {k : Nat} {env : Env} {ρ : List (Str × V)} {st st' g : List O}
theorem mem_of_look {α : Type} {x : Str} {u : α} : ∀ {l : List (Str × α)}, l.lookup x = some u → (x, u) ∈ l
  | [], h => by cases h
  | (y, v) :: l, h => by
    rw [List.lookup_cons] at h
    cases e : x == y with
    | true => rw [e] at h; cases h; rw [eq_of_beq e]; exact .head _
    | false => rw [e] at h; exact .tail _ (mem_of_look h)
/-- behind a block: the store's new part is forgotten -/
theorem Xs.seal {cs : List Stmt} {ρ' ρ₁ ex : List (Str × V)} (h : Xs B k env cs ρ st .next ρ' (st' ++ g)) (hl : st'.length = st.length) (ho : ∀ o ∈ st', OkO st.length o) (q : ρ' = ρ₁ ++ ex) (hok : ∀ p ∈ ρ₁, Ok st.length p.2) : Xs B k env cs ρ st .next ρ₁ st' := by
  unfold Xs at h ⊢
  intro w s C F A Q E hA p
  refine h w s C F A Q E hA fun fl w' s' C' S' r' => ?_
  have C₂ := C'.cut (by rw [hl]; exact ho)
  rw [hl] at C₂
  obtain ⟨F', r'⟩ := r'
  cases r'
  refine p _ _ s' C₂ (S'.cut (by rw [C.len]; exact Nat.le_refl _)) ⟨?_, .next⟩
  have F'' := F'.less (ρ₂ := ρ₁) fun x u e => by rw [q]; exact lookup_append e
  exact { F'' with
    L := ⟨fun h => F''.L.1 (List.mem_of_mem_take h), F''.L.2⟩
    cl := fun x c e => ⟨fun h => (F''.cl x c e).1 (List.mem_of_mem_take h), (F''.cl x c e).2⟩
    ns := let ⟨m, hn, hm⟩ := F''.ns; ⟨m, hn, fun x u e => let ⟨val, h1, h2⟩ := hm x u e; ⟨val, h1.cut (hok _ (mem_of_look e)), h2⟩⟩ }
end
noncomputable abbrev Pt := (Int × Int) × (Int × Int)
noncomputable def Pt.ax (P : Pt) (a : Int) : Int × Int := if a = 0 then P.1 else P.2
noncomputable def partX (top bottom : Int) (p q : Int × Int) : Int × Int := (p.1 * q.2 * bottom + top * (q.1 * p.2 - p.1 * q.2), p.2 * q.2 * bottom)
noncomputable def norm (p : Int × Int) : Int × Int := if p.2 < 0 then (-p.1, -p.2) else p
noncomputable def partTop (P Q : Pt) (a line : Int) : Int := (line * (P.ax a).2 - (P.ax a).1) * (Q.ax a).2
noncomputable def partBot (P Q : Pt) (a : Int) : Int := (Q.ax a).1 * (P.ax a).2 - (P.ax a).1 * (Q.ax a).2
noncomputable def partP (P Q : Pt) (a line : Int) : Pt := (norm (partX (partTop P Q a line) (partBot P Q a) P.1 Q.1), norm (partX (partTop P Q a line) (partBot P Q a) P.2 Q.2))
structure BdP (n : Nat) (P : Pt) : Prop where
  x : Bd n P.1.1
  xd : Bd n P.1.2
  y : Bd n P.2.1
  yd : Bd n P.2.2
theorem BdP.ax {n : Nat} {P : Pt} (h : BdP n P) (a : Int) : Bd n (P.ax a).1 ∧ Bd n (P.ax a).2 := by unfold Pt.ax; split; exact ⟨h.x, h.xd⟩; exact ⟨h.y, h.yd⟩
theorem norm_sp {p : Int × Int} : spV (norm p) = if p.2 < 0 then .tup [.int (-p.1), .int (-p.2)] else .tup [.int p.1, .int p.2] := by unfold norm; split <;> rfl
theorem part_fn {B : Bs} {k n : Nat} {st : List O} (hst : Cl st) {P Q : Pt} {a line : Int} (ha : a = 0 ∨ a = 1) (hP : BdP n P) (hQ : BdP n Q) (hl : Bd 5 line) (hn : n ≤ 2000) : FnC B (k + 1) (.ref 282) [edV P, edV Q, .int a, .int line] st (edV (partP P Q a line)) st := by
  obtain ⟨pb1, pb2⟩ := hP.ax a
  obtain ⟨qb1, qb2⟩ := hQ.ax a
  have sP : ∀ {st : List O}, Sub B k (edV P) (.int a) st (spV (P.ax a)) := fun {st} => by
    rcases ha with rfl | rfl
    · exact Sub.tup (by decide) (by decide) rfl rfl
    · exact Sub.tup (by decide) (by decide) rfl rfl
  have sQ : ∀ {st : List O}, Sub B k (edV Q) (.int a) st (spV (Q.ax a)) := fun {st} => by
    rcases ha with rfl | rfl
    · exact Sub.tup (by decide) (by decide) rfl rfl
    · exact Sub.tup (by decide) (by decide) rfl rfl
  have sP0 := sP (st := st)
  have sQ0 := sQ (st := st)
  let fs : List V := [.tup [.int (partX (partTop P Q a line) (partBot P Q a) P.1 Q.1).1, .int (partX (partTop P Q a line) (partBot P Q a) P.1 Q.1).2], .tup [.int (partX (partTop P Q a line) (partBot P Q a) P.2 Q.2).1, .int (partX (partTop P Q a line) (partBot P Q a) P.2 Q.2).2]]
  refine FnC.seal (v := edV (partP P Q a line)) (g := [.list fs, .list [spV (partP P Q a line).1, spV (partP P Q a line).2]]) ?_ rfl hst (.self _) (ed_ok _)
  refine FnC.pl (names := ["one", "other", "axis", "line"]) (r := .ret (edV (partP P Q a line))) ⟨⟨_, _, _, rfl⟩, rfl, rfl, rfl, rfl, rfl, rfl, rfl, rfl⟩ (by decide) rfl ?_ (by decide) (fun L => ?_) (.inl rfl)
  · apply len4; intro _ _ _ _; rfl
  refine XE.cons (X1.assignT (v := .tup [spV (P.ax a), spV (Q.ax a)]) (by walk_at "ev") (As.tup rfl rfl (Ass.cons rfl (As.tup rfl rfl (Ass.cons rfl (As.name rfl) (Ass.cons rfl (As.name rfl) Ass.nil))) (Ass.cons rfl (As.tup rfl rfl (Ass.cons rfl (As.name rfl) (Ass.cons rfl (As.name rfl) Ass.nil))) Ass.nil))) rfl rfl) ?_
  refine XE.at [("line", .int line), ("axis", .int a), ("other", edV Q), ("one", edV P), ("a", .int (P.ax a).1), ("b", .int (P.ax a).2), ("c", .int (Q.ax a).1), ("d", .int (Q.ax a).2)] rfl ?_
  have btop : Bd (2 * n + 6) (partTop P Q a line) := (((hl.mul pb2).sub pb1).mul qb2).mono (by omega)
  have bbot : Bd (2 * n + 1) (partBot P Q a) := ((qb1.mul pb2).sub (pb1.mul qb2)).mono (by omega)
  refine XE.cons (X1.swp ["top", "bottom"] [.int (partTop P Q a line), .int (partBot P Q a)] (by walk_at "ev") rfl rfl rfl rfl rfl) ?_
  obtain ⟨p1, p2, p3, p4⟩ := hP
  obtain ⟨q1, q2, q3, q4⟩ := hQ
  generalize hT : partTop P Q a line = top at btop
  generalize hB : partBot P Q a = bot at bbot
  have hfs : fs = [.tup [.int (partX top bot P.1 Q.1).1, .int (partX top bot P.1 Q.1).2], .tup [.int (partX top bot P.2 Q.2).1, .int (partX top bot P.2 Q.2).2]] := by show _ = _; rw [← hT, ← hB]
  have hpp : partP P Q a line = (norm (partX top bot P.1 Q.1), norm (partX top bot P.2 Q.2)) := by unfold partP; rw [hT, hB]
  clear_value fs
  subst hfs
  rw [hpp]
  refine XE.cons (X1.assign (by walk_at "ev") rfl rfl) ?_
  let R : List (Str × V) := [("line", .int line), ("axis", .int a), ("other", edV Q), ("one", edV P), ("a", .int (P.ax a).1), ("b", .int (P.ax a).2), ("c", .int (Q.ax a).1), ("d", .int (Q.ax a).2), ("bottom", .int bot), ("top", .int top), ("found", .ref st.length)]
  refine XE.at R rfl ?_
  refine XE.cons (ρ₁ := R) (st₁ := st ++ [.list [.tup [.int (partX top bot P.1 Q.1).1, .int (partX top bot P.1 Q.1).2], .tup [.int (partX top bot P.2 Q.2).1, .int (partX top bot P.2 Q.2).2]]]) ((X1.forZ (l := [spV P.1, spV P.2]) (m := [spV Q.1, spV Q.2]) (by apply EvZ.call; walk_at "cal"; rfl; walk_at "evs")
    (FoR.foldA (ρ := fun _ => R) (fun (e : (Int × Int) × (Int × Int)) => edV e) (S := fun acc => st ++ [.list acc]) (F := fun acc e => acc ++ [.tup [.int (partX top bot e.1 e.2).1, .int (partX top bot e.1 e.2).2]])
      (I := fun l acc => acc.length + l.length ≤ 100 ∧ ∀ e ∈ l, Bd n e.1.1 ∧ Bd n e.1.2 ∧ Bd n e.2.1 ∧ Bd n e.2.2) (fun _ _ _ => trivial) ?_ [(P.1, Q.1), (P.2, Q.2)] [] ⟨Nat.le_of_ble_eq_true rfl, ?_⟩) (fun _ => rfl)).cast rfl rfl) ?_
  · rintro e l acc ⟨hlen, hbd⟩
    obtain ⟨b1, b2, b3, b4⟩ := hbd e (.head _)
    rw [List.length_cons] at hlen
    refine ⟨⟨by rw [List.length_append, List.length_singleton]; omega, fun e h => hbd e (.tail _ h)⟩, R ++ ([("e", .int e.1.1), ("f", .int e.1.2), ("g", .int e.2.1), ("h", .int e.2.2)] : List (Str × V)), As.tup rfl rfl (Ass.cons rfl (As.tup rfl rfl (Ass.cons rfl (As.name rfl) (Ass.cons rfl (As.name rfl) Ass.nil))) (Ass.cons rfl (As.tup rfl rfl (Ass.cons rfl (As.name rfl) (Ass.cons rfl (As.name rfl) Ass.nil))) Ass.nil)), ?_⟩
    refine Xs.post (ρ₂ := R ++ ([("e", .int e.1.1), ("f", .int e.1.2), ("g", .int e.2.1), ("h", .int e.2.2)] : List (Str × V))) (ex := [("e", .int e.1.1), ("f", .int e.1.2), ("g", .int e.2.1), ("h", .int e.2.2)]) ?_ rfl
    walk_at "xs"
  · intro e he
    simp only [List.mem_cons, List.not_mem_nil, or_false] at he
    rcases he with rfl | rfl
    · exact ⟨p1, p2, q1, q2⟩
    · exact ⟨p3, p4, q3, q4⟩
  · refine XE.ret ?_
    have e2 : st ++ [O.list [.tup [.int (partX top bot P.1 Q.1).1, .int (partX top bot P.1 Q.1).2], .tup [.int (partX top bot P.2 Q.2).1, .int (partX top bot P.2 Q.2).2]], .list [spV (norm (partX top bot P.1 Q.1)), spV (norm (partX top bot P.2 Q.2))]]
      = (st ++ [O.list [.tup [.int (partX top bot P.1 Q.1).1, .int (partX top bot P.1 Q.1).2], .tup [.int (partX top bot P.2 Q.2).1, .int (partX top bot P.2 Q.2).2]]]) ++ [.list [spV (norm (partX top bot P.1 Q.1)), spV (norm (partX top bot P.2 Q.2))]] := by simp
    rw [e2]
    generalize partX top bot P.1 Q.1 = u1
    generalize partX top bot P.2 Q.2 = u2
    have hlst : Lst (st ++ [O.list [.tup [.int u1.1, .int u1.2], .tup [.int u2.1, .int u2.2]]]) (.ref st.length) [.tup [.int u1.1, .int u1.2], .tup [.int u2.1, .int u2.2]] := .inr ⟨_, rfl, at_last⟩
    apply Ev.call; walk_at "cal"; walk_at "cw"; rfl
    apply Evs.cons; rfl
    refine Ev.comp (st' := st ++ [O.list [.tup [.int u1.1, .int u1.2], .tup [.int u2.1, .int u2.2]]]) (st₁ := st ++ [O.list [.tup [.int u1.1, .int u1.2], .tup [.int u2.1, .int u2.2]]]) (ys := [spV (norm u1), spV (norm u2)]) (P := fun st' => Lst st' (.ref st.length) [.tup [.int u1.1, .int u1.2], .tup [.int u2.1, .int u2.2]]) (v := .ref st.length) (items := [.tup [.int u1.1, .int u1.2], .tup [.int u2.1, .int u2.2]]) (ρc := []) (cl := []) (by walk_at "ev") (Iters.lst hlst) ?_ (Nat.le_of_ble_eq_true rfl) ⟨rfl, rfl, by decide, by decide, (fun x c h => nomatch h), (fun x u h => nomatch h)⟩ (fun _ => rfl)
    · refine CoR.map hlst (fun u : Int × Int => .tup [.int u.1, .int u.2]) (fun u => spV (norm u)) (fun o => match o with | none => [] | some u => [("x", .int u.1), ("y", .int u.2)]) [u1, u2] (fun o u _ => ⟨fun C => ?_, fun C => ?_⟩) none
      · cases o <;> exact As.tup rfl rfl (Ass.cons rfl (As.name rfl) (Ass.cons rfl (As.name rfl) Ass.nil))
      · show Ev _ _ _ _ _ _ (spV (norm u)) _
        rw [norm_sp]
        by_cases h : u.2 < 0
        · rw [if_pos h]
          apply Ev.ifexp (b := true) (Tr.cast (by walk_at "tr") (decide_eq_true h)) (fun _ => by walk_at "ev") (fun h => nomatch h)
        · rw [if_neg h]
          apply Ev.ifexp (b := false) (Tr.cast (by walk_at "tr") (decide_eq_false h)) (fun h => nomatch h) (fun _ => by walk_at "ev")
    exact Evs.nil
    exact Fn.tupleOf (.inr ⟨_, rfl, at_last⟩) (Nat.le_of_ble_eq_true rfl)
noncomputable def insP (a line : Int) (below : Bool) (P : Pt) : Bool := if below then decide ((P.ax a).1 ≤ line * (P.ax a).2) else decide ((P.ax a).1 ≥ line * (P.ax a).2)
noncomputable def cutStep (a line : Int) (below : Bool) (P Q : Pt) : List Pt := (if insP a line below P != insP a line below Q then [partP P Q a line] else []) ++ (if insP a line below Q then [Q] else [])
/-- the points in pairs: each with the one before it -/
noncomputable def cyc {α : Type} (d : α) (l : List α) : List (α × α) := (List.range l.length).map fun i => (l.getD (if i = 0 then l.length - 1 else i - 1) d, l.getD i d)
noncomputable def ptD : Pt := ((0, 1), (0, 1))
noncomputable def cutL (a line : Int) (below : Bool) (l : List Pt) : List Pt := (cyc ptD l).flatMap fun e => cutStep a line below e.1 e.2
theorem Bd.of_small {x : Int} {n : Nat} (h : x.natAbs < 2 ^ n) : Bd n x := h
theorem partX_bd {n : Nat} {top bot : Int} {p q : Int × Int} (ht : Bd (2 * n + 6) top) (hb : Bd (2 * n + 1) bot) (p1 : Bd n p.1) (p2 : Bd n p.2) (q1 : Bd n q.1) (q2 : Bd n q.2) : Bd (4 * n + 8) (partX top bot p q).1 ∧ Bd (4 * n + 8) (partX top bot p q).2 :=
  ⟨(((p1.mul q2).mul hb).add (ht.mul ((q1.mul p2).sub (p1.mul q2)))).mono (by omega), ((p2.mul q2).mul hb).mono (by omega)⟩
theorem norm_bd {n : Nat} {p : Int × Int} (h : Bd n p.1 ∧ Bd n p.2) : Bd n (norm p).1 ∧ Bd n (norm p).2 := by
  unfold norm; split
  · exact ⟨h.1.neg, h.2.neg⟩
  · exact h
theorem partP_bd {n : Nat} {P Q : Pt} {a line : Int} (hP : BdP n P) (hQ : BdP n Q) (hl : Bd 5 line) : BdP (4 * n + 8) (partP P Q a line) := by
  obtain ⟨pb1, pb2⟩ := hP.ax a
  obtain ⟨qb1, qb2⟩ := hQ.ax a
  have btop : Bd (2 * n + 6) (partTop P Q a line) := (((hl.mul pb2).sub pb1).mul qb2).mono (by omega)
  have bbot : Bd (2 * n + 1) (partBot P Q a) := ((qb1.mul pb2).sub (pb1.mul qb2)).mono (by omega)
  obtain ⟨p1, p2, p3, p4⟩ := hP
  obtain ⟨q1, q2, q3, q4⟩ := hQ
  have h1 := norm_bd (partX_bd btop bbot p1 p2 q1 q2)
  have h2 := norm_bd (partX_bd btop bbot p3 p4 q3 q4)
  exact ⟨h1.1, h1.2, h2.1, h2.2⟩
theorem BdP.mono {n m : Nat} {P : Pt} (h : BdP n P) (l : n ≤ m) : BdP m P := ⟨h.x.mono l, h.xd.mono l, h.y.mono l, h.yd.mono l⟩
theorem mem_cyc {α : Type} {d : α} {l : List α} {e : α × α} (h : e ∈ cyc d l) : e.1 ∈ l ∧ e.2 ∈ l := by
  unfold cyc at h
  obtain ⟨i, hi, rfl⟩ := List.mem_map.mp h
  have hi := List.mem_range.mp hi
  have g : ∀ j, j < l.length → l.getD j d ∈ l := fun j hj => by rw [List.getD_eq_getElem?_getD, List.getElem?_eq_getElem hj]; exact List.getElem_mem _
  exact ⟨g _ (by split <;> omega), g _ hi⟩
theorem cutL_bd {n : Nat} {a line : Int} {below : Bool} {l : List Pt} (h : ∀ P ∈ l, BdP n P) (hl : Bd 5 line) : ∀ P ∈ cutL a line below l, BdP (4 * n + 8) P := by
  intro P hP
  unfold cutL at hP
  obtain ⟨e, he, hP⟩ := List.mem_flatMap.mp hP
  obtain ⟨m1, m2⟩ := mem_cyc he
  unfold cutStep at hP
  rcases List.mem_append.mp hP with hP | hP
  · split at hP
    · rw [List.mem_singleton] at hP; subst hP; exact partP_bd (h _ m1) (h _ m2) hl
    · cases hP
  · split at hP
    · rw [List.mem_singleton] at hP; subst hP; exact (h _ m2).mono (by omega)
    · cases hP
theorem cutStep_len {a line : Int} {below : Bool} {P Q : Pt} : (cutStep a line below P Q).length ≤ 2 := by
  unfold cutStep
  rw [List.length_append]
  have h1 : ∀ {α : Type} (b : Bool) (x : α), (if b then [x] else []).length ≤ 1 := fun b x => by cases b <;> simp
  have := h1 (insP a line below P != insP a line below Q) (partP P Q a line)
  have := h1 (insP a line below Q) Q
  omega
theorem cutL_len {a line : Int} {below : Bool} {l : List Pt} : (cutL a line below l).length ≤ 2 * l.length := by
  have e : (cyc ptD l).length = l.length := by unfold cyc; simp
  unfold cutL
  rw [← e]
  generalize cyc ptD l = c
  induction c with
  | nil => simp
  | cons x c ih =>
    rw [List.flatMap_cons, List.length_append, List.length_cons]
    have := cutStep_len (a := a) (line := line) (below := below) (P := x.1) (Q := x.2)
    omega
theorem rangeVs0 (n : Nat) : rangeVs 0 (n : Int) = (List.range n).map fun i => V.int (i : Nat) := by
  unfold rangeVs
  rw [show (((n : Int) - 0)).toNat = n by omega]
  exact List.map_congr_left fun i _ => by congr 1; omega
theorem set_mid {st : List O} {o o' g1 g2 : O} : (st ++ [o] ++ [g1] ++ [g2]).set st.length o' = st ++ [o'] ++ [g1] ++ [g2] := by simp
theorem get_mid {st : List O} {o g1 g2 : O} : (st ++ [o] ++ [g1] ++ [g2])[st.length]? = some o := by simp
/-- the places before and at -/
theorem sub_prev {B : Bs} {k : Nat} {st : List O} {v : V} {l : List Pt} {i : Nat} (hv : Lst st v (l.map edV)) (hi : i < l.length) (hl : l.length ≤ 100000) : Sub B k v (.int ((i : Int) - 1)) st (edV (l.getD (if i = 0 then l.length - 1 else i - 1) ptD)) ∧ Sub B k v (.int (i : Int)) st (edV (l.getD i ptD)) := by
  have g : ∀ j, j < l.length → (l.map edV)[j]? = some (edV (l.getD j ptD)) := fun j hj => by rw [List.getElem?_map, List.getD_eq_getElem?_getD, List.getElem?_eq_getElem hj]; rfl
  refine ⟨?_, ?_⟩
  · by_cases h : i = 0
    · subst h
      exact Sub.lst (j := l.length - 1) hv (by omega) (by omega) (by
        have := seqIndex_neg (k := ((0 : Nat) : Int) - 1) (n := (l.map edV).length) (by omega) (by rw [List.length_map]; omega)
        rw [this, List.length_map]; congr 1; omega) (g _ (by omega))
    · rw [if_neg h]
      exact Sub.lst (j := i - 1) hv (by omega) (by omega) (by
        have := seqIndex_of (k := (i : Int) - 1) (n := (l.map edV).length) (by omega) (by rw [List.length_map]; omega)
        rw [this]; congr 1; omega) (g _ (by omega))
  · exact Sub.lst (j := i) hv (by omega) (by omega) (by
      have := seqIndex_of (k := (i : Int)) (n := (l.map edV).length) (by omega) (by rw [List.length_map]; omega)
      rw [this]; congr 1) (g _ hi)
theorem XE.ex {B : Bs} {k : Nat} {env : Env} {cs : List Stmt} {ρ : List (Str × V)} {st st' : List O} {r : Fl} (h : XE B k env cs ρ st r st') : ∃ ρ', Xs B k env cs ρ st r ρ' st' := by unfold XE at h; exact h
theorem Xs.castS {B : Bs} {k : Nat} {env : Env} {cs : List Stmt} {ρ ρ' : List (Str × V)} {st st' st'' : List O} {r : Fl} (h : Xs B k env cs ρ st r ρ' st') (e : st' = st'') : Xs B k env cs ρ st r ρ' st'' := e ▸ h
theorem pt_ok {n : Nat} (l : List Pt) : ∀ v ∈ l.map edV, Ok n v := fun v hv => by obtain ⟨p, _, rfl⟩ := List.mem_map.mp hv; exact ed_ok p
theorem cut_fn {B : Bs} {k n : Nat} {st : List O} (hst : Cl st) {v : V} {l : List Pt} {a line : Int} {below : Bool} (hv : Lst st v (l.map edV)) (hvo : Ok st.length v) (ha : a = 0 ∨ a = 1) (hP : ∀ P ∈ l, BdP n P) (hl : Bd 5 line) (hn : n ≤ 2000) (hll : l.length ≤ 100) :
    FnC B (k + 2) (.ref 287) [v, .int a, .int line, .bool below] st (.lst ((cutL a line below l).map edV)) st := by
  refine FnC.seal (v := .ref st.length) (g := [.list ((cutL a line below l).map edV)]) ?_ rfl hst (.list (Nat.le_refl _) at_last (Dens.self _)) (.lst (pt_ok _))
  let R : List (Str × V) := [("is_below", .bool below), ("line", .int line), ("axis", .int a), ("points", v)]
  refine FnC.defC (binds := fun xs => (["points", "axis", "line", "is_below"] : List Str).zip xs) (ρ := R) (r := .ret (.ref st.length)) ⟨⟨_, _, _, rfl⟩, rfl, rfl, rfl, rfl, rfl, rfl, rfl, rfl⟩ ?_ ?_ ?_ (fun L => ?_) (.inl rfl)
  · intro w xs h
    cases h with
    | cons h1 h => cases h with
      | cons h2 h => cases h with
        | cons h3 h => cases h with
          | cons h4 h => cases h; rfl
  · intro w xs h m x hx
    cases h with
    | cons h1 h => cases h with
      | cons h2 h => cases h with
        | cons h3 h => cases h with
          | cons h4 h =>
            cases h
            rcases List.mem_cons.mp hx with rfl | hx
            · exact .inl rfl
            rcases List.mem_cons.mp hx with rfl | hx
            · exact .inr ⟨rfl, rfl⟩
            rcases List.mem_cons.mp hx with rfl | hx
            · exact .inr ⟨rfl, rfl⟩
            rcases List.mem_cons.mp hx with rfl | hx
            · exact .inr ⟨rfl, rfl⟩
            cases hx
  · intro w xs h m x u hx
    have hx := mem_of_look hx
    cases h with
    | cons h1 h => cases h with
      | cons h2 h => cases h with
        | cons h3 h => cases h with
          | cons h4 h =>
            cases h
            rcases List.mem_cons.mp hx with e | hx
            · cases e; exact ⟨_, h4, .inr ⟨rfl, rfl, rfl⟩⟩
            rcases List.mem_cons.mp hx with e | hx
            · cases e; exact ⟨_, h3, .inr ⟨rfl, rfl, rfl⟩⟩
            rcases List.mem_cons.mp hx with e | hx
            · cases e; exact ⟨_, h2, .inr ⟨rfl, rfl, rfl⟩⟩
            rcases List.mem_cons.mp hx with e | hx
            · cases e; exact ⟨_, h1, .inl ⟨rfl, rfl⟩⟩
            cases hx
  refine XE.ex ?_
  have hlst : ∀ g : List O, Lst (st ++ g) v (l.map edV) := fun g => by
    rcases hv with e | ⟨i, e, h⟩
    · exact .inl e
    · exact .inr ⟨i, e, by rw [List.getElem?_append_left (lt_of_get h)]; exact h⟩
  have hlen : ∀ g : List O, Fn B (k + 1) (.builtin "len") [v] (st ++ g) (.int l.length) (st ++ g) := fun g => by
    have := Fn.lenLst (B := B) (k := k + 1) (hlst g) (by rw [List.length_map]; omega)
    rwa [List.length_map] at this
  refine XE.cons (X1.assign (by walk_at "ev") rfl rfl) ?_
  let R2 : List (Str × V) := [("is_below", .bool below), ("line", .int line), ("axis", .int a), ("points", v), ("found", .ref st.length)]
  refine XE.at R2 rfl ?_
  have hcyc : cutL a line below l = (List.range l.length).flatMap fun i => cutStep a line below (l.getD (if i = 0 then l.length - 1 else i - 1) ptD) (l.getD i ptD) := by
    unfold cutL cyc; rw [List.flatMap_map]
  have hfold : (List.range l.length).foldl (fun acc i => acc ++ cutStep a line below (l.getD (if i = 0 then l.length - 1 else i - 1) ptD) (l.getD i ptD)) [] = cutL a line below l := by
    rw [hcyc]
    have : ∀ (is : List Nat) (acc : List Pt), is.foldl (fun acc i => acc ++ cutStep a line below (l.getD (if i = 0 then l.length - 1 else i - 1) ptD) (l.getD i ptD)) acc = acc ++ is.flatMap fun i => cutStep a line below (l.getD (if i = 0 then l.length - 1 else i - 1) ptD) (l.getD i ptD) := by
      intro is
      induction is with
      | nil => intro acc; simp
      | cons i is ih => intro acc; rw [List.foldl_cons, ih, List.flatMap_cons, List.append_assoc]
    rw [this]; rfl
  refine XE.cons (ρ₁ := R2) (st₁ := st ++ [.list ((cutL a line below l).map edV)]) ((X1.for (P := fun _ => True) (v := .range 0 (l.length : Int)) (items := (List.range l.length).map fun i => V.int (i : Nat)) (st₁ := st ++ [.list []]) ?_ (by rw [← rangeVs0]; exact Iters.range (by omega) (by omega))
    (FoR.foldA (ρ := fun _ => R2) (fun (i : Nat) => V.int (i : Nat)) (S := fun (acc : List Pt) => st ++ [.list (acc.map edV)]) (F := fun acc i => acc ++ cutStep a line below (l.getD (if i = 0 then l.length - 1 else i - 1) ptD) (l.getD i ptD))
      (I := fun is acc => acc.length + is.length * 2 ≤ 200 ∧ ∀ i ∈ is, i < l.length) (fun _ _ _ => trivial) ?_ (List.range l.length) [] ⟨?_, fun i h => List.mem_range.mp h⟩) (fun _ => rfl)).cast rfl (by show st ++ [O.list (List.map edV (List.foldl _ _ _))] = _; rw [hfold])) ?_
  · apply Ev.call; walk_at "cal"; walk_at "cw"; rfl
    apply Evs.cons; rfl
    apply Ev.call; walk_at "cal"; walk_at "cw"; rfl; walk_at "evs"; exact hlen _
    exact Evs.nil
    exact Fn.range1
  · rintro i is acc ⟨hacc, his⟩
    have hi := his i (.head _)
    rw [List.length_cons] at hacc
    have hstep := cutStep_len (a := a) (line := line) (below := below) (P := l.getD (if i = 0 then l.length - 1 else i - 1) ptD) (Q := l.getD i ptD)
    refine ⟨⟨by rw [List.length_append]; omega, fun j h => his j (.tail _ h)⟩, R2 ++ ([("at", .int i)] : List (Str × V)), As.name rfl, ?_⟩
    have hpq : BdP n (l.getD (if i = 0 then l.length - 1 else i - 1) ptD) ∧ BdP n (l.getD i ptD) := by
      have g : ∀ j, j < l.length → BdP n (l.getD j ptD) := fun j hj => by rw [List.getD_eq_getElem?_getD, List.getElem?_eq_getElem hj]; exact hP _ (List.getElem_mem _)
      exact ⟨g _ (by split <;> omega), g _ hi⟩
    obtain ⟨sp, sa⟩ := sub_prev (B := B) (k := k + 1) (hlst [.list (acc.map edV)]) hi (by omega)
    generalize l.getD (if i = 0 then l.length - 1 else i - 1) ptD = P at hpq sp hstep ⊢
    generalize l.getD i ptD = Q at hpq sa hstep ⊢
    obtain ⟨hbP, hbQ⟩ := hpq
    let S := st ++ [O.list (acc.map edV)]
    show Xs B (k + 1) _ _ _ S .next R2 (st ++ [O.list ((acc ++ cutStep a line below P Q).map edV)])
    have hSl : S.length = st.length + 1 := by show (st ++ _).length = _; rw [List.length_append]; rfl
    have hS : Cl S := fun o ho => by
      rw [hSl]
      rcases List.mem_append.mp ho with h | h
      · exact (hst o h).mono (by omega)
      · rw [List.mem_singleton.mp h]; exact pt_ok _
    let b1 := insP a line below P
    let b2 := insP a line below Q
    let g1 : O := .list [edV P, edV Q]
    let g2 : O := .list [.bool b1, .bool b2]
    refine Xs.seal (st' := st ++ [O.list ((acc ++ cutStep a line below P Q).map edV)]) (g := [g1, g2]) (ρ' := R2 ++ ([("at", .int i), ("other", edV Q), ("one", edV P), ("ins", .ref (st.length + 1 + 1))] : List (Str × V))) (ex := [("at", .int i), ("other", edV Q), ("one", edV P), ("ins", .ref (st.length + 1 + 1))]) ?_ (by rw [hSl]; simp) ?_ rfl ?_
    · refine Xs.cons (X1.swp ["one", "other"] [edV P, edV Q] (by walk_at "ev") rfl rfl rfl rfl rfl) ?_
      refine Xs.at (R2 ++ ([("at", .int i), ("other", edV Q), ("one", edV P)] : List (Str × V))) rfl ?_
      let T : List Pt → List O := fun x => st ++ [O.list (x.map edV)] ++ [g1] ++ [g2]
      have hg2 : ∀ x, (T x)[st.length + 1 + 1]? = some g2 := fun x => by
        have e : st.length + 1 + 1 = (st ++ [O.list (x.map edV)] ++ [g1]).length := by simp
        rw [e]; exact at_last
      have hib1 : ∀ x, Sub B (k + 1) (.ref (st.length + 1 + 1)) (.int 0) (T x) (.bool b1) := fun x => Sub.lst (l := [.bool b1, .bool b2]) (j := 0) (.inr ⟨_, rfl, hg2 x⟩) (by decide) (by decide) rfl rfl
      have hib2 : ∀ x, Sub B (k + 1) (.ref (st.length + 1 + 1)) (.int 1) (T x) (.bool b2) := fun x => Sub.lst (l := [.bool b1, .bool b2]) (j := 1) (.inr ⟨_, rfl, hg2 x⟩) (by decide) (by decide) rfl rfl
      have hfo : ∀ x, (T x)[st.length]? = some (.list (x.map edV)) := fun x => get_mid
      have hset : ∀ x v, (T x).set st.length (.list (x.map edV ++ [edV v])) = T (x ++ [v]) := fun x v => by simp [T]
      have happ : ∀ x v, x.length ≤ 300 → Fn B (k + 1) (.builtin "list.append") [.ref st.length, edV v] (T x) .none (T (x ++ [v])) := fun x v h => hset x v ▸ Fn.append (hfo x) (by rw [List.length_map]; exact Nat.le_trans (Nat.le_trans h (Nat.le_of_ble_eq_true rfl)) (Nat.le_of_ble_eq_true (rfl : Nat.ble 1000 sizeLine = true)))
      have hT : ∀ x, Cl (T x) := fun x o ho => by
        have e : (T x).length = st.length + 3 := by simp [T]
        rw [e]
        rcases List.mem_append.mp ho with ho | ho
        · rcases List.mem_append.mp ho with ho | ho
          · rcases List.mem_append.mp ho with ho | ho
            · exact (hst o ho).mono (by omega)
            · rw [List.mem_singleton.mp ho]; exact pt_ok _
          · rw [List.mem_singleton.mp ho]; exact pt_ok [P, Q]
        · rw [List.mem_singleton.mp ho]
          intro v hv
          rcases List.mem_cons.mp hv with rfl | hv
          · exact .bool _
          · rw [List.mem_singleton.mp hv]; exact .bool _
      refine Xs.cons (ρ₁ := R2 ++ ([("at", .int i), ("other", edV Q), ("one", edV P), ("ins", .ref (st.length + 1 + 1))] : List (Str × V))) (st₁ := S ++ [g1] ++ [g2]) ((X1.assignComp (P := fun st' => Lst st' (.ref S.length) [edV P, edV Q]) (v := .ref S.length) (items := [edV P, edV Q]) (ys := [.bool b1, .bool b2]) (st₁ := S ++ [g1]) (st' := S ++ [g1]) (ρc := [("is_below", .bool below), ("line", .int line), ("axis", .int a)]) (cl := [("line", L + 2), ("is_below", L + 3), ("axis", L + 1)]) (by walk_at "ev") (Iters.lst (.inr ⟨_, rfl, at_last⟩)) ?_ (Nat.le_of_ble_eq_true rfl) ?_ (fun _ => rfl) rfl rfl).cast (by rw [show (S ++ [g1]).length = st.length + 1 + 1 by rw [List.length_append, hSl]; rfl]; rfl) rfl) ?_
      · refine CoR.map (.inr ⟨_, rfl, at_last⟩) edV (fun X => V.bool (insP a line below X)) (fun o => match o with | none => [("is_below", .bool below), ("line", .int line), ("axis", .int a)] | some X => [("is_below", .bool below), ("line", .int line), ("axis", .int a), ("p", edV X)]) [P, Q] (fun o X hX => ⟨fun C => ?_, fun C => ?_⟩) none
        · cases o <;> exact As.name rfl
        · have hbX : BdP n X := by
            rcases List.mem_cons.mp hX with rfl | hX
            · exact hbP
            · rw [List.mem_singleton.mp hX]; exact hbQ
          obtain ⟨x1, x2⟩ := BdP.ax hbX a
          have sX : Sub B (k + 1) (edV X) (.int a) (S ++ [g1]) (spV (Pt.ax X a)) := by
            rcases ha with rfl | rfl
            · exact Sub.tup (by decide) (by decide) rfl rfl
            · exact Sub.tup (by decide) (by decide) rfl rfl
          show Ev _ _ _ _ _ _ (V.bool (insP a line below X)) _
          refine Ev.ifexp (b := below) (st₁ := S ++ [g1]) (by walk_at "tr") (fun h => Ev.cast (by walk_at "ev") ?_) (fun h => Ev.cast (by walk_at "ev") ?_)
          · unfold insP; rw [h]; rfl
          · unfold insP; rw [h]; rfl
      · refine ⟨rfl, rfl, by decide, by decide, ?_, ?_⟩
        · intro x c h
          have h := mem_of_look h
          rcases List.mem_cons.mp h with e | h
          · cases e; rfl
          rcases List.mem_cons.mp h with e | h
          · cases e; rfl
          rcases List.mem_cons.mp h with e | h
          · cases e; rfl
          cases h
        · intro x u h
          have h := mem_of_look h
          rcases List.mem_cons.mp h with e | h
          · cases e; exact ⟨rfl, rfl, rfl, rfl⟩
          rcases List.mem_cons.mp h with e | h
          · cases e; exact ⟨rfl, rfl, rfl, rfl⟩
          rcases List.mem_cons.mp h with e | h
          · cases e; exact ⟨rfl, rfl, rfl, rfl⟩
          cases h
      have hs1 := hib1 acc
      have hs2 := hib2 acc
      have hpart := (part_fn (B := B) (k := k) (hT acc) ha hbP hbQ hl hn).fn
      by_cases hx : (b1 != b2) = true
      · refine Xs.ifT (st₁ := T acc) (st₂ := T (acc ++ [partP P Q a line])) (ρ₁ := R2 ++ ([("at", .int i), ("other", edV Q), ("one", edV P), ("ins", .ref (st.length + 1 + 1))] : List (Str × V))) (Tr.cast (Tr.cmp (by walk_at "ev") (by walk_at "ev") Op2.neBool rfl) hx) (Xs.one (X1.expr (Ev.meth (ov := .ref st.length) (st₂ := T acc) (vs := [edV (partP P Q a line)]) (by walk_at "ev") (Mth.append (hfo acc)) CW.blt rfl (by walk_at "evs") (happ acc _ (by omega)) rfl) rfl)) ?_
        have hs2 := hib2 (acc ++ [partP P Q a line])
        by_cases hb : b2 = true
        · refine Xs.ifT (st₁ := T (acc ++ [partP P Q a line])) (st₂ := T (acc ++ [partP P Q a line] ++ [Q])) (ρ₁ := R2 ++ ([("at", .int i), ("other", edV Q), ("one", edV P), ("ins", .ref (st.length + 1 + 1))] : List (Str × V))) (Tr.cast (by walk_at "tr") hb) (Xs.one (X1.expr (Ev.meth (ov := .ref st.length) (st₂ := T (acc ++ [partP P Q a line])) (vs := [edV Q]) (by walk_at "ev") (Mth.append (hfo (acc ++ [partP P Q a line]))) CW.blt rfl (by walk_at "evs") (happ (acc ++ [partP P Q a line]) _ (by rw [List.length_append, List.length_singleton]; omega)) rfl) rfl)) ?_
          rw [show acc ++ cutStep a line below P Q = acc ++ [partP P Q a line] ++ [Q] by unfold cutStep; rw [if_pos (show (insP a line below P != insP a line below Q) = true from hx)]; rw [show insP a line below Q = true from hb]; simp]
          exact (show Xs _ _ _ _ _ _ _ _ (T (acc ++ [partP P Q a line] ++ [Q])) from Xs.nil).castS (by simp [T])
        · refine Xs.ifF (st₁ := T (acc ++ [partP P Q a line])) (Tr.cast (by walk_at "tr") (Bool.not_eq_true _ ▸ hb)) ?_
          rw [show acc ++ cutStep a line below P Q = acc ++ [partP P Q a line] by unfold cutStep; rw [if_pos (show (insP a line below P != insP a line below Q) = true from hx)]; rw [show insP a line below Q = false from (Bool.not_eq_true _).mp hb]; simp]
          exact (show Xs _ _ _ _ _ _ _ _ (T (acc ++ [partP P Q a line])) from Xs.nil).castS (by simp [T])
      · refine Xs.ifF (st₁ := T acc) (Tr.cast (Tr.cmp (by walk_at "ev") (by walk_at "ev") Op2.neBool rfl) ((Bool.not_eq_true _).mp hx)) ?_
        have hs2 := hib2 acc
        by_cases hb : b2 = true
        · refine Xs.ifT (st₁ := T acc) (st₂ := T (acc ++ [Q])) (ρ₁ := R2 ++ ([("at", .int i), ("other", edV Q), ("one", edV P), ("ins", .ref (st.length + 1 + 1))] : List (Str × V))) (Tr.cast (by walk_at "tr") hb) (Xs.one (X1.expr (Ev.meth (ov := .ref st.length) (st₂ := T acc) (vs := [edV Q]) (by walk_at "ev") (Mth.append (hfo acc)) CW.blt rfl (by walk_at "evs") (happ acc _ (by omega)) rfl) rfl)) ?_
          rw [show acc ++ cutStep a line below P Q = acc ++ [Q] by unfold cutStep; rw [if_neg (show ¬ (insP a line below P != insP a line below Q) = true from hx)]; rw [show insP a line below Q = true from hb]; simp]
          exact (show Xs _ _ _ _ _ _ _ _ (T (acc ++ [Q])) from Xs.nil).castS (by simp [T])
        · refine Xs.ifF (st₁ := T acc) (Tr.cast (by walk_at "tr") (Bool.not_eq_true _ ▸ hb)) ?_
          rw [show acc ++ cutStep a line below P Q = acc by unfold cutStep; rw [if_neg (show ¬ (insP a line below P != insP a line below Q) = true from hx)]; rw [show insP a line below Q = false from (Bool.not_eq_true _).mp hb]; simp]
          exact (show Xs _ _ _ _ _ _ _ _ (T acc) from Xs.nil).castS (by simp [T])
    · intro o ho
      rw [hSl]
      rcases List.mem_append.mp ho with h | h
      · exact (hst o h).mono (by omega)
      · rw [List.mem_singleton.mp h]; exact pt_ok _
    · intro p hp
      rw [hSl]
      rcases List.mem_cons.mp hp with rfl | hp
      · exact .bool _
      rcases List.mem_cons.mp hp with rfl | hp
      · exact .int _
      rcases List.mem_cons.mp hp with rfl | hp
      · exact .int _
      rcases List.mem_cons.mp hp with rfl | hp
      · exact hvo.mono (by omega)
      rcases List.mem_cons.mp hp with rfl | hp
      · exact .ref (by omega)
      cases hp
  · rw [List.length_range]; simp; omega
  · exact XE.ret (by walk_at "ev")
noncomputable def areaStep (s : Int × Int) (P Q : Pt) : Int × Int :=
  (s.1 * (P.1.2 * P.2.2 * Q.1.2 * Q.2.2) + (Q.1.1 * P.2.1 * P.1.2 * Q.2.2 - P.1.1 * Q.2.1 * P.2.2 * Q.1.2) * s.2, s.2 * (P.1.2 * P.2.2 * Q.1.2 * Q.2.2))
noncomputable def areaL (l : List Pt) : Int × Int := (cyc ptD l).foldl (fun s e => areaStep s e.1 e.2) (0, 1)
theorem area_bits {n w : Nat} {s : Int × Int} {P Q : Pt} (hP : BdP n P) (hQ : BdP n Q) (h1 : Bd w s.1) (h2 : Bd w s.2) : Bd (w + (4 * n + 4)) (areaStep s P Q).1 ∧ Bd (w + (4 * n + 4)) (areaStep s P Q).2 := by
  obtain ⟨p1, p2, p3, p4⟩ := hP
  obtain ⟨q1, q2, q3, q4⟩ := hQ
  have hu : Bd (4 * n) (P.1.2 * P.2.2 * Q.1.2 * Q.2.2) := (((p2.mul p4).mul q2).mul q4).mono (by omega)
  have hm : Bd (4 * n + 1) (Q.1.1 * P.2.1 * P.1.2 * Q.2.2 - P.1.1 * Q.2.1 * P.2.2 * Q.1.2) := ((((q1.mul p3).mul p2).mul q4).sub (((p1.mul q3).mul p4).mul q2)).mono (by omega)
  exact ⟨((h1.mul hu).add (hm.mul h2)).mono (by omega), (h2.mul hu).mono (by omega)⟩
theorem area_law {B : Bs} {k n : Nat} {st : List O} (hst : Cl st) {v : V} {l : List Pt} (hv : Lst st v (l.map edV)) (hP : ∀ P ∈ l, BdP n P) (hn : n ≤ 2000) (hll : l.length ≤ 64) :
    FnC B (k + 1) (.ref 294) [v] st (.tup [.int (areaL l).1, .int (areaL l).2]) st := by
  refine FnC.pl (names := ["points"]) (r := .ret (.tup [.int (areaL l).1, .int (areaL l).2])) ⟨⟨_, _, _, rfl⟩, rfl, rfl, rfl, rfl, rfl, rfl, rfl, rfl⟩ (by decide) rfl ?_ (by decide) (fun L => ?_) (.inl rfl)
  · apply len1; intro _; rfl
  have hlen : Fn B k (.builtin "len") [v] st (.int l.length) st := by
    have := Fn.lenLst (B := B) (k := k) hv (by rw [List.length_map]; omega)
    rwa [List.length_map] at this
  let R : Int × Int → List (Str × V) := fun s => [("points", v), ("top", .int s.1), ("bottom", .int s.2)]
  refine XE.cons (X1.assignT (v := .tup [.int 0, .int 1]) (by walk_at "ev") (As.tup rfl rfl (Ass.cons rfl (As.name rfl) (Ass.cons rfl (As.name rfl) Ass.nil))) rfl rfl) ?_
  refine XE.at (R (0, 1)) rfl ?_
  have hfold : (List.range l.length).foldl (fun s i => areaStep s (l.getD (if i = 0 then l.length - 1 else i - 1) ptD) (l.getD i ptD)) (0, 1) = areaL l := by
    unfold areaL cyc; rw [List.foldl_map]
  refine XE.cons (ρ₁ := R (areaL l)) (st₁ := st) ((X1.for (P := fun _ => True) (v := .range 0 (l.length : Int)) (items := (List.range l.length).map fun i => V.int (i : Nat)) (st₁ := st) ?_ (by rw [← rangeVs0]; exact Iters.range (by omega) (by omega))
    (FoR.foldA (ρ := R) (fun (i : Nat) => V.int (i : Nat)) (S := fun _ => st) (F := fun s i => areaStep s (l.getD (if i = 0 then l.length - 1 else i - 1) ptD) (l.getD i ptD))
      (I := fun is s => (∃ j, j + is.length ≤ 64 ∧ Bd (1 + j * (4 * n + 4)) s.1 ∧ Bd (1 + j * (4 * n + 4)) s.2) ∧ ∀ i ∈ is, i < l.length) (fun _ _ _ => trivial) ?_ (List.range l.length) (0, 1) ⟨⟨0, ?_, ?_, ?_⟩, fun i h => List.mem_range.mp h⟩) (fun _ => rfl)).cast (by rw [hfold]) rfl) ?_
  · apply Ev.call; walk_at "cal"; walk_at "cw"; rfl
    apply Evs.cons; rfl
    apply Ev.call; walk_at "cal"; walk_at "cw"; rfl; walk_at "evs"; exact hlen
    exact Evs.nil
    exact Fn.range1
  · rintro i is s ⟨⟨j, hj, hs1, hs2⟩, his⟩
    have hi := his i (.head _)
    rw [List.length_cons] at hj
    have hpq : BdP n (l.getD (if i = 0 then l.length - 1 else i - 1) ptD) ∧ BdP n (l.getD i ptD) := by
      have g : ∀ j, j < l.length → BdP n (l.getD j ptD) := fun j hj => by rw [List.getD_eq_getElem?_getD, List.getElem?_eq_getElem hj]; exact hP _ (List.getElem_mem _)
      exact ⟨g _ (by split <;> omega), g _ hi⟩
    obtain ⟨sp, sa⟩ := sub_prev (B := B) (k := k) hv hi (by omega)
    generalize l.getD (if i = 0 then l.length - 1 else i - 1) ptD = P at hpq sp ⊢
    generalize l.getD i ptD = Q at hpq sa ⊢
    have hb := area_bits hpq.1 hpq.2 hs1 hs2
    have hw : j * (4 * n + 4) ≤ 63 * 8004 := Nat.mul_le_mul (by omega) (by omega)
    refine ⟨⟨⟨j + 1, by omega, ?_, ?_⟩, fun j h => his j (.tail _ h)⟩, R s ++ ([("at", .int i)] : List (Str × V)), As.name rfl, ?_⟩
    · exact hb.1.mono (Nat.le_of_eq (by rw [Nat.add_mul, Nat.one_mul, Nat.add_assoc]))
    · exact hb.2.mono (Nat.le_of_eq (by rw [Nat.add_mul, Nat.one_mul, Nat.add_assoc]))
    generalize j * (4 * n + 4) = w at hw hs1 hs2
    obtain ⟨⟨p1, p2, p3, p4⟩, q1, q2, q3, q4⟩ := hpq
    let E : List (Str × V) := [("at", .int i), ("a", .int P.1.1), ("b", .int P.1.2), ("c", .int P.2.1), ("d", .int P.2.2), ("e", .int Q.1.1), ("f", .int Q.1.2), ("g", .int Q.2.1), ("h", .int Q.2.2), ("under", .int (P.1.2 * P.2.2 * Q.1.2 * Q.2.2)), ("more", .int (Q.1.1 * P.2.1 * P.1.2 * Q.2.2 - P.1.1 * Q.2.1 * P.2.2 * Q.1.2))]
    refine Xs.post (ρ₂ := R (areaStep s P Q) ++ E) (ex := E) ?_ rfl
    refine Xs.cons (X1.assignT (v := edV P) (by walk_at "ev") (As.tup rfl rfl (Ass.cons rfl (As.tup rfl rfl (Ass.cons rfl (As.name rfl) (Ass.cons rfl (As.name rfl) Ass.nil))) (Ass.cons rfl (As.tup rfl rfl (Ass.cons rfl (As.name rfl) (Ass.cons rfl (As.name rfl) Ass.nil))) Ass.nil))) rfl rfl) ?_
    refine Xs.cons (X1.assignT (v := edV Q) (by walk_at "ev") (As.tup rfl rfl (Ass.cons rfl (As.tup rfl rfl (Ass.cons rfl (As.name rfl) (Ass.cons rfl (As.name rfl) Ass.nil))) (Ass.cons rfl (As.tup rfl rfl (Ass.cons rfl (As.name rfl) (Ass.cons rfl (As.name rfl) Ass.nil))) Ass.nil))) rfl rfl) ?_
    refine Xs.at (R s ++ ([("at", .int i), ("a", .int P.1.1), ("b", .int P.1.2), ("c", .int P.2.1), ("d", .int P.2.2), ("e", .int Q.1.1), ("f", .int Q.1.2), ("g", .int Q.2.1), ("h", .int Q.2.2)] : List (Str × V))) rfl ?_
    refine Xs.cons (X1.swp ["more", "under"] [.int (Q.1.1 * P.2.1 * P.1.2 * Q.2.2 - P.1.1 * Q.2.1 * P.2.2 * Q.1.2), .int (P.1.2 * P.2.2 * Q.1.2 * Q.2.2)] (by walk_at "ev") rfl rfl rfl rfl rfl) ?_
    have hu : Bd (4 * n) (P.1.2 * P.2.2 * Q.1.2 * Q.2.2) := (((p2.mul p4).mul q2).mul q4).mono (by omega)
    have hm : Bd (4 * n + 1) (Q.1.1 * P.2.1 * P.1.2 * Q.2.2 - P.1.1 * Q.2.1 * P.2.2 * Q.1.2) := ((((q1.mul p3).mul p2).mul q4).sub (((p1.mul q3).mul p4).mul q2)).mono (by omega)
    exact Xs.one (X1.swp ["top", "bottom"] [.int (areaStep s P Q).1, .int (areaStep s P Q).2] (Ev.cast (by walk_at "ev") rfl) rfl rfl rfl rfl rfl)
  · rw [List.length_range]; omega
  · rw [Nat.zero_mul]; exact Nat.le_of_ble_eq_true rfl
  · rw [Nat.zero_mul]; exact Nat.le_of_ble_eq_true rfl
  · exact XE.ret (by walk_at "ev")
noncomputable def ptsOf (spots : List (Int × Int)) : List Pt := spots.map fun p => ((p.1, 1), (p.2, 1))
noncomputable def dueP (spots : List (Int × Int)) (c r : Int) : List Pt := cutL 1 (4 * r + 4) true (cutL 1 (4 * r) false (cutL 0 (4 * c + 4) true (cutL 0 (4 * c) false (ptsOf spots))))
theorem foldl_bd {n : Nat} : ∀ (c : List (Pt × Pt)) (s : Int × Int) (w : Nat), (∀ e ∈ c, BdP n e.1 ∧ BdP n e.2) → Bd w s.1 → Bd w s.2 → Bd (w + c.length * (4 * n + 4)) (c.foldl (fun s e => areaStep s e.1 e.2) s).1 ∧ Bd (w + c.length * (4 * n + 4)) (c.foldl (fun s e => areaStep s e.1 e.2) s).2 := by
  intro c
  induction c with
  | nil => intro s w _ h1 h2; simpa using ⟨h1, h2⟩
  | cons e c ih =>
    intro s w h h1 h2
    have hb := area_bits (h e (.head _)).1 (h e (.head _)).2 h1 h2
    have := ih _ _ (fun e he => h e (.tail _ he)) hb.1 hb.2
    rw [List.length_cons, Nat.add_mul, Nat.one_mul]
    rw [Nat.add_assoc, Nat.add_comm (4 * n + 4)] at this
    exact this
theorem areaL_bd {n m : Nat} {l : List Pt} (h : ∀ P ∈ l, BdP n P) (hm : l.length ≤ m) : Bd (1 + m * (4 * n + 4)) (areaL l).1 ∧ Bd (1 + m * (4 * n + 4)) (areaL l).2 := by
  have e : (cyc ptD l).length = l.length := by unfold cyc; simp
  have := foldl_bd (n := n) (cyc ptD l) (0, 1) 1 (by
    intro x hx
    unfold cyc at hx
    obtain ⟨i, hi, rfl⟩ := List.mem_map.mp hx
    have hi := List.mem_range.mp hi
    have g : ∀ j, j < l.length → BdP n (l.getD j ptD) := fun j hj => by rw [List.getD_eq_getElem?_getD, List.getElem?_eq_getElem hj]; exact h _ (List.getElem_mem _)
    exact ⟨g _ (by split <;> omega), g _ hi⟩) (Nat.le_of_ble_eq_true rfl) (Nat.le_of_ble_eq_true rfl)
  rw [e] at this
  have hle : 1 + l.length * (4 * n + 4) ≤ 1 + m * (4 * n + 4) := Nat.add_le_add_left (Nat.mul_le_mul_right _ hm) _
  exact ⟨this.1.mono hle, this.2.mono hle⟩
theorem ptsOf_bd {spots : List (Int × Int)} (h : ∀ p ∈ spots, p.1.natAbs < 16 ∧ p.2.natAbs < 16) : ∀ P ∈ ptsOf spots, BdP 4 P := by
  intro P hP
  unfold ptsOf at hP
  obtain ⟨p, hp, rfl⟩ := List.mem_map.mp hP
  exact ⟨(h p hp).1, Nat.le_of_ble_eq_true rfl, (h p hp).2, Nat.le_of_ble_eq_true rfl⟩
theorem dueP_bd {spots : List (Int × Int)} {c r : Int} (h : ∀ p ∈ spots, p.1.natAbs < 16 ∧ p.2.natAbs < 16) (hc : c.natAbs ≤ 5) (hr : r.natAbs ≤ 5) (hl : spots.length ≤ 4) : (∀ P ∈ dueP spots c r, BdP 1704 P) ∧ (dueP spots c r).length ≤ 64 := by
  have b : ∀ {i : Int}, i.natAbs ≤ 5 → Bd 5 (4 * i) ∧ Bd 5 (4 * i + 4) := fun {i} h => ⟨by show (4 * i).natAbs < 32; omega, by show (4 * i + 4).natAbs < 32; omega⟩
  refine ⟨cutL_bd (n := 424) (cutL_bd (n := 104) (cutL_bd (n := 24) (cutL_bd (n := 4) (ptsOf_bd h) (b hc).1) (b hc).2) (b hr).1) (b hr).2, ?_⟩
  have l0 : (ptsOf spots).length = spots.length := by unfold ptsOf; rw [List.length_map]
  have l1 := cutL_len (a := 0) (line := 4 * c) (below := false) (l := ptsOf spots)
  have l2 := cutL_len (a := 0) (line := 4 * c + 4) (below := true) (l := cutL 0 (4 * c) false (ptsOf spots))
  have l3 := cutL_len (a := 1) (line := 4 * r) (below := false) (l := cutL 0 (4 * c + 4) true (cutL 0 (4 * c) false (ptsOf spots)))
  have l4 := cutL_len (a := 1) (line := 4 * r + 4) (below := true) (l := cutL 1 (4 * r) false (cutL 0 (4 * c + 4) true (cutL 0 (4 * c) false (ptsOf spots))))
  unfold dueP
  omega
theorem due_law {B : Bs} {k : Nat} {st : List O} (hst : Cl st) {spots : List (Int × Int)} {c r : Int} (h : ∀ p ∈ spots, p.1.natAbs < 16 ∧ p.2.natAbs < 16) (hc : c.natAbs ≤ 5) (hr : r.natAbs ≤ 5) (hl : spots.length ≤ 4) :
    FnC B (k + 3) (.ref 299) [.tup (spots.map spV), .int c, .int r] st (.tup [.int (areaL (dueP spots c r)).1, .int (2 * (areaL (dueP spots c r)).2)]) st := by
  have b : ∀ {i : Int}, i.natAbs ≤ 5 → Bd 5 (4 * i) ∧ Bd 5 (4 * i + 4) := fun {i} h => ⟨by show (4 * i).natAbs < 32; omega, by show (4 * i + 4).natAbs < 32; omega⟩
  let g : List O := [.list ((ptsOf spots).map edV), .list [.tup [.int 0, .int (4 * c)], .tup [.int 1, .int (4 * r)]]]
  refine FnC.seal (v := .tup [.int (areaL (dueP spots c r)).1, .int (2 * (areaL (dueP spots c r)).2)]) (g := g) ?_ rfl hst (.self _) (.tup fun v hv => by
    rcases List.mem_cons.mp hv with rfl | hv
    · exact .int _
    · rw [List.mem_singleton.mp hv]; exact .int _)
  refine FnC.pl (names := ["spots", "column", "row"]) (r := .ret (.tup [.int (areaL (dueP spots c r)).1, .int (2 * (areaL (dueP spots c r)).2)])) ⟨⟨_, _, _, rfl⟩, rfl, rfl, rfl, rfl, rfl, rfl, rfl, rfl⟩ (by decide) rfl ?_ (by decide) (fun L => ?_) (.inl rfl)
  · apply len3; intro _ _ _; rfl
  let A : O := .list ((ptsOf spots).map edV)
  let I : List V := [.tup [.int 0, .int (4 * c)], .tup [.int 1, .int (4 * r)]]
  have l0 : (ptsOf spots).length = spots.length := by unfold ptsOf; rw [List.length_map]
  have l1 := cutL_len (a := 0) (line := 4 * c) (below := false) (l := ptsOf spots)
  have l2 := cutL_len (a := 0) (line := 4 * c + 4) (below := true) (l := cutL 0 (4 * c) false (ptsOf spots))
  have l3 := cutL_len (a := 1) (line := 4 * r) (below := false) (l := cutL 0 (4 * c + 4) true (cutL 0 (4 * c) false (ptsOf spots)))
  have l4 := cutL_len (a := 1) (line := 4 * r + 4) (below := true) (l := cutL 1 (4 * r) false (cutL 0 (4 * c + 4) true (cutL 0 (4 * c) false (ptsOf spots))))
  have e0 := ptsOf_bd h
  have e1 := cutL_bd (n := 4) (a := 0) (below := false) e0 (b hc).1
  have e2 := cutL_bd (n := 24) (a := 0) (below := true) e1 (b hc).2
  have e3 := cutL_bd (n := 104) (a := 1) (below := false) e2 (b hr).1
  have e4 := cutL_bd (n := 424) (a := 1) (below := true) e3 (b hr).2
  refine XE.cons (ρ₁ := [("row", .int r), ("column", .int c), ("spots", .tup (spots.map spV)), ("points", .ref st.length)]) (st₁ := st ++ [A]) ((X1.assignComp (P := fun _ => True) (v := .tup (spots.map spV)) (items := spots.map spV) (ys := (ptsOf spots).map edV) (st₁ := st) (st' := st) (ρc := []) (cl := []) (by walk_at "ev") Iters.tup ?_ ?_ ⟨rfl, rfl, by decide, by decide, (fun x c h => nomatch h), (fun x u h => nomatch h)⟩ (fun _ => rfl) rfl rfl).cast rfl rfl) ?_
  · have e : (ptsOf spots).map edV = spots.map fun p => edV ((p.1, 1), (p.2, 1)) := by unfold ptsOf; rw [List.map_map]; rfl
    rw [e]
    refine CoR.map trivial spV (fun p => edV ((p.1, 1), (p.2, 1))) (fun o => match o with | none => [] | some p => [("x", .int p.1), ("y", .int p.2)]) spots (fun o p _ => ⟨fun C => ?_, fun C => ?_⟩) none
    · cases o <;> exact As.tup rfl rfl (Ass.cons rfl (As.name rfl) (Ass.cons rfl (As.name rfl) Ass.nil))
    · show Ev _ _ _ _ _ _ (V.tup [.tup [.int p.1, .int 1], .tup [.int p.2, .int 1]]) _
      walk_at "ev"
  · rw [List.length_map]; exact Nat.le_trans hl (Nat.le_of_ble_eq_true rfl)
  have hA : st ++ g = st ++ [A] ++ [.list I] := by simp [g, A, I]
  rw [hA]
  have hS : Cl (st ++ [A] ++ [.list I]) := fun o ho => by
    have e : (st ++ [A] ++ [O.list I]).length = st.length + 2 := by simp
    rw [e]
    rcases List.mem_append.mp ho with ho | ho
    · rcases List.mem_append.mp ho with ho | ho
      · exact (hst o ho).mono (by omega)
      · rw [List.mem_singleton.mp ho]; exact pt_ok _
    · rw [List.mem_singleton.mp ho]
      intro v hv
      have g : ∀ i j : Int, Ok (st.length + 2) (.tup [.int i, .int j]) := fun i j => .tup fun v hv => by
        rcases List.mem_cons.mp hv with rfl | hv
        · exact .int _
        · rw [List.mem_singleton.mp hv]; exact .int _
      rcases List.mem_cons.mp hv with rfl | hv
      · exact g _ _
      · rw [List.mem_singleton.mp hv]; exact g _ _
  have hr0 : (st ++ [A] ++ [O.list I])[st.length]? = some A := by simp
  have hlt : st.length < (st ++ [A] ++ [O.list I]).length := by simp
  generalize hSS : st ++ [A] ++ [O.list I] = S at hS hr0 hlt
  have c1 := (cut_fn (B := B) (k := k) (a := 0) (line := 4 * c) (below := false) hS (v := .ref st.length) (.inr ⟨_, rfl, hr0⟩) (.ref hlt) (.inl rfl) e0 (b hc).1 (by decide) (by omega)).fn
  have c2 := (cut_fn (B := B) (k := k) (a := 0) (line := 4 * c + 4) (below := true) hS (.inl rfl) (.lst (pt_ok _)) (.inl rfl) e1 (b hc).2 (by decide) (by omega)).fn
  have c3 := (cut_fn (B := B) (k := k) (a := 1) (line := 4 * r) (below := false) hS (.inl rfl) (.lst (pt_ok _)) (.inr rfl) e2 (b hr).1 (by decide) (by omega)).fn
  have c4 := (cut_fn (B := B) (k := k) (a := 1) (line := 4 * r + 4) (below := true) hS (.inl rfl) (.lst (pt_ok _)) (.inr rfl) e3 (b hr).2 (by decide) (by omega)).fn
  have c5 := ((area_law (B := B) (k := k) hS (v := .lst _) (.inl rfl) e4 (by decide) (by omega)).le (k := k + 2) (by omega)).fn
  generalize hp1 : cutL 0 (4 * c) false (ptsOf spots) = p1 at *
  generalize hp2 : cutL 0 (4 * c + 4) true p1 = p2 at *
  generalize hp3 : cutL 1 (4 * r) false p2 = p3 at *
  generalize hp4 : cutL 1 (4 * r + 4) true p3 = p4 at *
  have hd : dueP spots c r = p4 := by unfold dueP; rw [hp1, hp2, hp3, hp4]
  rw [hd]
  refine XE.cons (ρ₁ := [("row", .int r), ("column", .int c), ("spots", .tup (spots.map spV)), ("points", .lst (p4.map edV)), ("axis", .int 1), ("low", .int (4 * r))]) (st₁ := S) (X1.for (P := fun st' => Lst st' (.ref (st ++ [A]).length) I) (v := .ref (st ++ [A]).length) (items := I) (st₁ := S) (by rw [← hSS]; walk_at "ev") (Iters.lst (.inr ⟨_, rfl, by rw [← hSS]; exact at_last⟩)) ?_ (fun _ => rfl)) ?_
  · have hP : Lst S (.ref (st ++ [A]).length) I := .inr ⟨_, rfl, by rw [← hSS]; exact at_last⟩
    refine FoR.cons hP (As.tup rfl rfl (Ass.cons rfl (As.name rfl) (Ass.cons rfl (As.name rfl) Ass.nil))) (Xs.cons (X1.assign (by walk_at "ev") rfl rfl) (Xs.one (X1.assign (by walk_at "ev") rfl rfl))) ?_
    exact FoR.cons hP (As.tup rfl rfl (Ass.cons rfl (As.name rfl) (Ass.cons rfl (As.name rfl) Ass.nil))) (Xs.cons (X1.assign (by walk_at "ev") rfl rfl) (Xs.one (X1.assign (by walk_at "ev") rfl rfl))) (FoR.nil hP)
  refine XE.cons (X1.assignT (by walk_at "ev") (As.tup rfl rfl (Ass.cons rfl (As.name rfl) (Ass.cons rfl (As.name rfl) Ass.nil))) rfl rfl) ?_
  exact XE.ret (by walk_at "ev")
theorem is_law {B : Bs} {k : Nat} {st : List O} {a b c d : Int} (ha : Bd 1000 a) (hb : Bd 1000 b) (hc : Bd 500000 c) (hd : Bd 500000 d) :
    FnC B (k + 1) (.ref 306) [.tup [.int a, .int b], .tup [.int c, .int d], .int 16] st (.bool (a * d * 16 == c * b)) st := by
  refine FnC.pl (names := ["told", "due", "many"]) (r := .ret (.bool (a * d * 16 == c * b))) ⟨⟨_, _, _, rfl⟩, rfl, rfl, rfl, rfl, rfl, rfl, rfl, rfl⟩ (by decide) rfl ?_ (by decide) (fun L => ?_) (.inl rfl)
  · apply len3; intro _ _ _; rfl
  have m1 : IntMulOk a d := mulOk_bd ha hd (by decide) (by decide)
  have m2 : IntMulOk (a * d) 16 := mulOk_bd (ha.mul hd) (show Bd 5 16 from Nat.le_of_ble_eq_true rfl) (by decide) (by decide)
  have m3 : IntMulOk c b := mulOk_bd hc hb (by decide) (by decide)
  exact XE.ret (by walk_at "ev")
section
variable {B : Bs} {k : Nat} {env : Env} {ρ : List (Str × V)} {st st' st₁ : List O} {pos : Pos}
/-- the block returns True -/
noncomputable def XT (B : Bs) (k : Nat) (env : Env) (cs : List Stmt) (ρ : List (Str × V)) (st : List O) : Prop := ∃ st', XE B k env cs ρ st (.ret (.bool true)) st'
theorem XT.cons {c : Stmt} {cs : List Stmt} {ρ₁ : List (Str × V)} (h : X1 B k env c ρ st .next ρ₁ st₁) (hs : XT B k env cs ρ₁ st₁) : XT B k env (c :: cs) ρ st := let ⟨s, hs⟩ := hs; ⟨s, XE.cons h hs⟩
theorem XT.ret {e : Expr} {cs : List Stmt} (h : Ev B k env e ρ st (.bool true) st₁) : XT B k env (.Return (some e) pos :: cs) ρ st := ⟨st₁, XE.ret h⟩
theorem XT.ifF {t : Expr} {x cs : List Stmt} (ht : Tr B k env t ρ st false st₁) (h : XT B k env cs ρ st₁) : XT B k env (.If t x [] pos :: cs) ρ st := let ⟨s, h⟩ := h; ⟨s, XE.ifF ht h⟩
theorem XT.ifT {t : Expr} {x cs : List Stmt} (ht : Tr B k env t ρ st true st₁) (h : XT B k env x ρ st₁) : XT B k env (.If t x [] pos :: cs) ρ st := let ⟨s, h⟩ := h; ⟨s, XE.ifR ht h⟩
theorem XT.at {cs : List Stmt} (ρ₂ : List (Str × V)) (e : ρ = ρ₂) (h : XT B k env cs ρ₂ st) : XT B k env cs ρ st := e ▸ h
/-- what is kept of the store between the law's statements -/
structure Gs (st : List O) : Prop where
  src : Src st 0
  cl : Cl st
theorem takeG (G : Gs st) {top : Int} (h0 : 0 < top) (h1 : top < 1000) : ∃ (d : Int) (st' : List O), 0 ≤ d ∧ d < top ∧ Fn B (k + 1) (.ref 277) [.ref 0, .int top] st (.int d) st' ∧ Gs st' ∧ st'.length = st.length := by
  obtain ⟨d, p, q, h2, h3, h4, h5, hf⟩ := take (B := B) (k := k) G.src h0 h1
  exact ⟨d, _, h2, h3, hf.fn, ⟨G.src.set p q ⟨h4, h5⟩, G.cl.set fun v hv => by
    rcases List.mem_cons.mp hv with rfl | hv
    · exact .int _
    · rw [List.mem_singleton.mp hv]; exact .int _⟩, by rw [List.length_set]⟩
end
section
variable {B : Bs} {k : Nat} {env : Env} {ρ : List (Str × V)} {st st' st₁ : List O} {pos : Pos}
theorem CoR.drawn {ce : Addr → Env} {t elt : Expr} (R : Int × Int → Prop) (ρof : Option Int → List (Str × V)) (step : ∀ o i st, Gs st → (∀ C, As B k (ce C) t (.int i) (ρof o) st (ρof (some i))) ∧
    ∃ p st', (∀ C, Ev B k (ce C) elt (ρof (some i)) st (spV p) st') ∧ Gs st' ∧ st'.length = st.length ∧ R p) :
    ∀ (items : List Int) o st, Gs st → ∃ (spots : List (Int × Int)) (st' : List O), CoR B k ce t elt (fun _ => True) (ρof o) (items.map V.int) st (spots.map spV) st' ∧ Gs st' ∧ st'.length = st.length ∧ spots.length = items.length ∧ ∀ p ∈ spots, R p := by
  intro items
  induction items with
  | nil => exact fun o st G => ⟨[], st, .nil trivial, G, rfl, rfl, fun p h => nomatch h⟩
  | cons i items ih =>
    intro o st G
    obtain ⟨ha, p, st', he, G', hl, hR⟩ := step o i st G
    obtain ⟨spots, st'', hc, G'', hl', hn, hR'⟩ := ih (some i) st' G'
    exact ⟨p :: spots, st'', .cons trivial ha he hc, G'', hl'.trans hl, by rw [List.length_cons, List.length_cons, hn], fun q hq => by
      rcases List.mem_cons.mp hq with rfl | hq
      · exact hR
      · exact hR' q hq⟩
theorem sps_ok {n : Nat} (l : List (Int × Int)) : ∀ v ∈ l.map spV, Ok n v := fun v hv => by
  obtain ⟨p, _, rfl⟩ := List.mem_map.mp hv
  exact .tup fun v hv => by
    rcases List.mem_cons.mp hv with rfl | hv
    · exact .int _
    · rw [List.mem_singleton.mp hv]; exact .int _
theorem XT.draws {elt t iter : Expr} {scope : Scope} {cl : List (Str × Addr)} {n : Nat} {ρc : List (Str × V)} {x : Str} {p p2 p3 cpos : Pos} {cs : List Stmt} (R : Int × Int → Prop) (ρof : Option Int → List (Str × V))
    (h : Ev B k env iter ρ st (.range 0 (n : Int)) st₁) (hl : st₁.length = st.length) (G : Gs st₁) (hn : n ≤ 1000)
    (step : ∀ o i st, Gs st → (∀ C, As B k (compEnvC scope cl C env) t (.int i) (ρof o) st (ρof (some i))) ∧ ∃ p st', (∀ C, Ev B k (compEnvC scope cl C env) elt (ρof (some i)) st (spV p) st') ∧ Gs st' ∧ st'.length = st.length ∧ R p)
    (h0 : ρof none = ρc) (K : Clo scope env cl ρ ρc) (hf : Ev B k env (.Name "tuple" p2) ρ st (.glob (.type "tuple")) st)
    (hs : ∀ x, foldedSetIterable iter env x = pure x) (hk : env.kindOf x = some .cell) (hc : (env.cells.lookup x).isSome = true)
    (hw : swapsWith (.Call (.Name "tuple" p2) [.ListComp elt [⟨t, iter, [], 0⟩] scope cpos] [] p3) (some (.Name x p)) pos.line env = pure false)
    (hrest : ∀ (spots : List (Int × Int)) st', Gs st' → st'.length = st.length → spots.length = n → (∀ p ∈ spots, R p) → XT B k env cs (upd ρ x (.tup (spots.map spV))) st') :
    XT B k env (.Assign [.Name x p] (.Call (.Name "tuple" p2) [.ListComp elt [⟨t, iter, [], 0⟩] scope cpos] [] p3) pos :: cs) ρ st := by
  subst h0
  obtain ⟨spots, st', hcr, G', hl', hsn, hR⟩ := CoR.drawn R ρof step ((List.range n).map fun i => ((i : Nat) : Int)) none st₁ G
  rw [List.map_map] at hcr
  rw [List.length_map, List.length_range] at hsn
  have hev : Ev B k env (.ListComp elt [⟨t, iter, [], 0⟩] scope cpos) ρ st (.ref st'.length) (st' ++ [.list (spots.map spV)]) := Ev.comp h (by
    have := Iters.range (B := B) (k := k) (st := st₁) (a := 0) (b := (n : Int)) (by omega) (by omega)
    rwa [rangeVs0] at this) hcr (by rw [List.length_map, List.length_range]; exact Nat.le_trans hn (Nat.le_of_ble_eq_true rfl)) K hs
  have hcall : Ev B k env (.Call (.Name "tuple" p2) [.ListComp elt [⟨t, iter, [], 0⟩] scope cpos] [] p3) ρ st (.tup (spots.map spV)) (st' ++ [.list (spots.map spV)]) := Ev.call hf CW.typ rfl (.cons rfl hev .nil) (Fn.tupleOf (.inr ⟨_, rfl, at_last⟩) (by rw [List.length_map, hsn]; exact Nat.le_trans hn (Nat.le_of_ble_eq_true rfl)))
  have hll : st'.length = st.length := hl'.trans hl
  exact XT.cons (X1.assignCell (Ev.seal (g := [.list (spots.map spV)]) hcall hll (by rw [← hll]; exact G'.cl) (.self _) (.tup (sps_ok _))) hk hc hw) (hrest spots st' G' hll hsn hR)
end
section
variable {B : Bs} {k : Nat} {env : Env} {ρ : List (Str × V)} {st st' st₁ : List O} {pos : Pos}
noncomputable def InS (p : Int × Int) : Prop := (-1 ≤ p.1 ∧ p.1 ≤ 7) ∧ -1 ≤ p.2 ∧ p.2 ≤ 7
theorem edges_mem {l : List (Int × Int)} {e : (Int × Int) × (Int × Int)} (h : e ∈ edges l) : e.1 ∈ l ∧ e.2 ∈ l := by
  unfold edges at h
  rcases List.mem_append.mp h with h | h
  · have := List.of_mem_zip h
    exact ⟨this.1, List.mem_of_mem_drop this.2⟩
  · split at h
    · rename_i z a hz ha
      rw [List.mem_singleton.mp h]
      exact ⟨List.mem_of_getLast? hz, List.mem_of_mem_head? ha⟩
    · cases h
noncomputable def sidesL (l : List (Int × Int)) : List Sd := (edges l).flatMap sdsOf
theorem sidesL_good {l : List (Int × Int)} (h : ∀ p ∈ l, InS p) : ∀ s ∈ sidesL l, GoodS s := by
  intro s hs
  unfold sidesL at hs
  obtain ⟨e, he, hs⟩ := List.mem_flatMap.mp hs
  obtain ⟨h1, h2⟩ := edges_mem he
  have h1 := h _ h1
  have h2 := h _ h2
  unfold sdsOf at hs
  unfold InS at h1 h2
  split at hs
  · cases hs
  · rename_i hne
    rw [List.mem_singleton] at hs
    subst hs
    unfold sdOf
    split
    · exact ⟨h1.1, h2.1, h1.2.1, by dsimp only; omega, h2.2.2, by simp⟩
    · exact ⟨h2.1, h1.1, h2.2.1, by dsimp only; omega, h1.2.2, by simp⟩
theorem sidesL_len {l : List (Int × Int)} : (sidesL l).length ≤ l.length + 1 := by
  have g : ∀ c : List ((Int × Int) × (Int × Int)), (c.flatMap sdsOf).length ≤ c.length := by
    intro c
    induction c with
    | nil => simp
    | cons e c ih =>
      rw [List.flatMap_cons, List.length_append, List.length_cons]
      have : (sdsOf e).length ≤ 1 := by unfold sdsOf; split <;> simp
      omega
  have := g (edges l)
  have : (edges l).length ≤ l.length + 1 := by
    unfold edges
    rw [List.length_append, List.length_zip]
    split <;> simp <;> omega
  unfold sidesL
  omega
theorem built (G : Gs st) {spots : List (Int × Int)} (c : Bool) (h3 : 3 ≤ spots.length) (h4 : spots.length ≤ 4) (hb : ∀ p ∈ spots, InS p) :
    ∃ st', Fn B (k + 7) (.ref 263) [.ref (cellsSt st).length] (cellsSt st ++ [.list [.tup [.tup (spots.map spV), .bool c]]]) (.lst ((sidesL spots).map sdV)) (cellsSt st ++ [.list [.tup [.tup (spots.map spV), .bool c]]]) ∧
      Fn B (k + 7) (.ref 159) [.ref (st.length + 1), .lst ((sidesL spots).map sdV)] (cellsSt st ++ [.list [.tup [.tup (spots.map spV), .bool c]]]) .none st' ∧ WB st.length 500000 0 st' (Tb.empty.sides (sidesL spots)) := by
  have w0 := W.empty G.cl fun _ => G.src.at_
  have w1 : W (cellsSt st ++ [.list [.tup [.tup (spots.map spV), .bool c]]]) st.length .empty (fun _ => 0) (fun _ _ => 0) := w0.push fun v hv => by
    rw [List.mem_singleton.mp hv]
    exact .tup fun v hv => by
      rcases List.mem_cons.mp hv with rfl | hv
      · exact .tup (sps_ok _)
      · rw [List.mem_singleton.mp hv]; exact .bool _
  have hl := sidesL_len (l := spots)
  obtain ⟨st', h1, h2⟩ := add_sides (B := B) (k := k) (n := st.length) (sidesL spots) (sidesL_good hb) ⟨⟨_, _, w1⟩, Bt.empty, by show 0 + _ ≤ _; omega⟩
  refine ⟨st', ?_, h1.fn, h2⟩
  match spots, h3, h4 with
  | a :: b :: r, _, h4 =>
    exact ((sides_of (B := B) (k := k) w1.cl (cellsSt st).length c a b r (by simp at h4; omega) at_last).le (by omega)).fn
theorem XT.freeze {cs : List Stmt} {ρ₂ : List (Str × V)} (n : Nat) (hρ : ∀ x u, ρ₂.lookup x = some u → ∃ v, ρ.lookup x = some v ∧ Den n st v u) (h : XT B k env cs ρ₂ (deadFrom n st)) : XT B k env cs ρ st := by
  unfold XT XE at h ⊢
  obtain ⟨st', ρ', h⟩ := h
  exact ⟨st', ρ', Xs.freeze n hρ h⟩
theorem WB.gs {n : Nat} {t : Tb} (h0 : 0 < n) (h : WB n 500000 0 st t) : Gs (deadFrom n st) := by
  obtain ⟨⟨ix, ex, w⟩, _⟩ := h
  obtain ⟨p, q, e, h1, h2⟩ := w.src h0
  have hl : n < st.length := lt_of_get w.a
  have hlen : (deadFrom n st).length = st.length := by unfold deadFrom; rw [List.length_append, List.length_take, List.length_replicate]; omega
  refine ⟨⟨p, q, ?_, h1, h2⟩, fun o ho => ?_⟩
  · unfold deadFrom
    rw [List.getElem?_append_left (by rw [List.length_take]; omega), List.getElem?_take_of_lt h0]; exact e
  · rw [hlen]
    unfold deadFrom at ho
    rcases List.mem_append.mp ho with ho | ho
    · exact w.cl _ (List.mem_of_mem_take ho)
    · rw [(List.mem_replicate.mp ho).2]; trivial
theorem XT.turns {e t : Expr} {b cs : List Stmt} (n : Nat) (hn : n ≤ 1000) (h : Ev B k env e ρ st (.range 0 (n : Int)) st) (G : Gs st)
    (step : ∀ (i : Int) st, Gs st → ∃ ρ₁ st', As B k env t (.int i) ρ st ρ₁ ∧ Xs B k env b ρ₁ st .next ρ st' ∧ Gs st') (hs : ∀ x, foldedSetIterable e env x = pure x)
    (rest : ∀ st, Gs st → XT B k env cs ρ st) : XT B k env (.For t e b [] pos :: cs) ρ st := by
  have key : ∀ (l : List Int) st, Gs st → ∃ st', FoR B k env t b (fun _ => True) (l.map V.int) ρ st .next ρ st' ∧ Gs st' := by
    intro l
    induction l with
    | nil => exact fun st G => ⟨st, .nil trivial, G⟩
    | cons i l ih =>
      intro st G
      obtain ⟨ρ₁, st1, ha, hx, G1⟩ := step i st G
      obtain ⟨st2, hf, G2⟩ := ih st1 G1
      exact ⟨st2, .cons trivial ha hx hf, G2⟩
  obtain ⟨st', hf, G'⟩ := key ((List.range n).map fun i => ((i : Nat) : Int)) st G
  rw [List.map_map] at hf
  exact XT.cons (X1.for h (by
    have := Iters.range (B := B) (k := k) (st := st) (a := 0) (b := (n : Int)) (by omega) (by omega)
    rwa [rangeVs0] at this) hf hs) (rest st' G')
end
/-- a spot of the plane -/
noncomputable abbrev Pq := Rat × Rat
noncomputable abbrev Fq := Pq → Pq → Rat
noncomputable def lerp (P Q : Pq) (t : Rat) : Pq := (P.1 + t * (Q.1 - P.1), P.2 + t * (Q.2 - P.2))
noncomputable def Aff (l : Pq → Rat) : Prop := ∀ P Q t, l (lerp P Q t) = l P + t * (l Q - l P)
noncomputable def cross (l : Pq → Rat) (P Q : Pq) : Pq := lerp P Q (l P / (l P - l Q))
noncomputable def Clip (l : Pq → Rat) (g : Fq) : Fq := fun P Q =>
  if 0 ≤ l P then (if 0 ≤ l Q then g P Q else g P (cross l P Q)) else (if 0 ≤ l Q then g (cross l P Q) Q else 0)
/-- additive along each line, in whatever order -/
noncomputable def Coc (g : Fq) : Prop := ∀ P Q a b c, g (lerp P Q a) (lerp P Q c) = g (lerp P Q a) (lerp P Q b) + g (lerp P Q b) (lerp P Q c)
/-- a convex set, more or less: one that holds the crossings -/
noncomputable def Cvx (C : Pq → Prop) : Prop := ∀ P Q t, C P → C Q → 0 ≤ t → t ≤ 1 → C (lerp P Q t)
theorem lerp_zero (P Q : Pq) : lerp P Q 0 = P := by unfold lerp; ext <;> dsimp only <;> grind
theorem lerp_one (P Q : Pq) : lerp P Q 1 = Q := by unfold lerp; ext <;> dsimp only <;> grind
theorem Coc.self {g : Fq} (h : Coc g) (P : Pq) : g P P = 0 := by
  have := h P P 0 0 0
  rw [lerp_zero] at this; grind
theorem Coc.anti {g : Fq} (h : Coc g) (P Q : Pq) : g Q P = - g P Q := by
  have h1 := h P Q 0 1 0
  rw [lerp_zero, lerp_one] at h1
  have := h.self P; grind
theorem Coc.split {g : Fq} (h : Coc g) (P Q : Pq) (t : Rat) : g P Q = g P (lerp P Q t) + g (lerp P Q t) Q := by
  have h1 := h P Q 0 t 1
  rwa [lerp_zero, lerp_one] at h1
theorem t_rng {p q : Rat} (h : (0 ≤ p ∧ ¬ 0 ≤ q) ∨ (¬ 0 ≤ p ∧ 0 ≤ q)) : 0 ≤ p / (p - q) ∧ p / (p - q) ≤ 1 := by
  have key : ∀ {a b : Rat}, 0 ≤ a → 0 < b → 0 ≤ a / b := fun {a b} h1 h2 => by
    rcases Rat.le_total (a := 0) (b := a / b) with h | h
    · exact h
    · have := Rat.mul_nonneg (a := -(a / b)) (b := b) (by grind) (by grind)
      have e : -(a / b) * b = -a := by grind
      have e0 : a = 0 := by grind
      subst e0
      have : (0 : Rat) / b = 0 := by grind
      grind
  rcases h with ⟨h1, h2⟩ | ⟨h1, h2⟩
  · have k1 := key (a := p) (b := p - q) h1 (by grind)
    have k2 := key (a := -q) (b := p - q) (by grind) (by grind)
    have : p / (p - q) + (-q) / (p - q) = 1 := by grind
    constructor <;> grind
  · have k1 := key (a := -p) (b := q - p) (by grind) (by grind)
    have k2 := key (a := q) (b := q - p) (by grind) (by grind)
    have e1 : (-p) / (q - p) = p / (p - q) := by grind
    have e2 : p / (p - q) + q / (q - p) = 1 := by grind
    constructor <;> grind
theorem Aff.cross {l : Pq → Rat} (h : Aff l) {P Q : Pq} (hne : l P ≠ l Q) : l (cross l P Q) = 0 := by
  unfold Mine.cross; rw [h]; grind
theorem Clip.in {l : Pq → Rat} {g : Fq} {P Q : Pq} (h1 : 0 ≤ l P) (h2 : 0 ≤ l Q) : Clip l g P Q = g P Q := by unfold Clip; rw [if_pos h1, if_pos h2]
/-- nothing of it lies within -/
theorem Clip.out {l : Pq → Rat} {g : Fq} (hl : Aff l) (hg : ∀ P Q, l P = 0 → l Q = 0 → g P Q = 0) {P Q : Pq} (h1 : l P ≤ 0) (h2 : l Q ≤ 0) : Clip l g P Q = 0 := by
  unfold Clip
  split
  · split
    · exact hg _ _ (by grind) (by grind)
    · exact hg _ _ (by grind) (hl.cross (by grind))
  · split
    · exact hg _ _ (hl.cross (by grind)) (by grind)
    · rfl
theorem Clip.congr {l : Pq → Rat} {g g' : Fq} {C : Pq → Prop} (hC : Cvx C) (h : ∀ P Q, C P → C Q → g P Q = g' P Q) {P Q : Pq} (hP : C P) (hQ : C Q) : Clip l g P Q = Clip l g' P Q := by
  have hx : (0 ≤ l P ∧ ¬ 0 ≤ l Q) ∨ (¬ 0 ≤ l P ∧ 0 ≤ l Q) → C (cross l P Q) := fun e => by
    obtain ⟨a, b⟩ := t_rng e
    exact hC _ _ _ hP hQ a b
  unfold Clip
  split
  · split
    · exact h _ _ hP hQ
    · exact h _ _ hP (hx (.inl ⟨by assumption, by assumption⟩))
  · split
    · exact h _ _ (hx (.inr ⟨by assumption, by assumption⟩)) hQ
    · rfl
theorem Clip.zero {l : Pq → Rat} {P Q : Pq} : Clip l (fun _ _ => 0) P Q = 0 := by
  unfold Clip; split <;> split <;> rfl
theorem Clip.none {l : Pq → Rat} {g : Fq} {C : Pq → Prop} (hC : Cvx C) (h : ∀ P Q, C P → C Q → g P Q = 0) {P Q : Pq} (hP : C P) (hQ : C Q) : Clip l g P Q = 0 := by
  rw [Clip.congr (g' := fun _ _ => 0) hC h hP hQ, Clip.zero]
theorem Clip.sub {l : Pq → Rat} {g g' : Fq} {k : Rat} {P Q : Pq} : Clip l (fun P Q => g P Q - k * g' P Q) P Q = Clip l g P Q - k * Clip l g' P Q := by
  unfold Clip; split <;> split <;> grind
theorem Cvx.le {l : Pq → Rat} (hl : Aff l) (c : Rat) : Cvx (fun P => l P ≤ c) := fun P Q t h1 h2 h3 h4 => by
  show l (lerp P Q t) ≤ c
  rw [hl]
  have a := Rat.mul_nonneg (a := t) (b := c - l Q) h3 (by grind)
  have b := Rat.mul_nonneg (a := 1 - t) (b := c - l P) (by grind) (by grind)
  grind
theorem Cvx.ge {l : Pq → Rat} (hl : Aff l) (c : Rat) : Cvx (fun P => c ≤ l P) := fun P Q t h1 h2 h3 h4 => by
  show c ≤ l (lerp P Q t)
  rw [hl]
  have a := Rat.mul_nonneg (a := t) (b := l Q - c) h3 (by grind)
  have b := Rat.mul_nonneg (a := 1 - t) (b := l P - c) (by grind) (by grind)
  grind
theorem Cvx.eq {l : Pq → Rat} (hl : Aff l) (c : Rat) : Cvx (fun P => l P = c) := fun P Q t h1 h2 h3 h4 => by
  show l (lerp P Q t) = c
  rw [hl]
  have h1 : l P = c := h1
  have h2 : l Q = c := h2
  rw [h1, h2]; grind
theorem cross_lerp {l : Pq → Rat} (hl : Aff l) {P Q : Pq} {a b : Rat} (h : l P ≠ l Q) (hab : a ≠ b) : cross l (lerp P Q a) (lerp P Q b) = lerp P Q (l P / (l P - l Q)) := by
  unfold cross
  rw [hl, hl]
  have key : a + ((l P + a * (l Q - l P)) / ((l P + a * (l Q - l P)) - (l P + b * (l Q - l P)))) * (b - a) = l P / (l P - l Q) := by grind
  generalize (l P + a * (l Q - l P)) / ((l P + a * (l Q - l P)) - (l P + b * (l Q - l P))) = u at key
  generalize l P / (l P - l Q) = v at key
  subst key
  unfold lerp; ext <;> dsimp only <;> grind
theorem Coc.clip {l : Pq → Rat} {g : Fq} (hl : Aff l) (hg : Coc g) : Coc (Clip l g) := by
  intro P Q a b c
  by_cases h : l P = l Q
  · have e : ∀ t, l (lerp P Q t) = l P := fun t => by rw [hl, h]; grind
    unfold Clip
    simp only [e]
    split
    · exact hg P Q a b c
    · grind
  · have key : ∀ a b, Clip l g (lerp P Q a) (lerp P Q b) = g (lerp P Q (if 0 ≤ l (lerp P Q a) then a else l P / (l P - l Q))) (lerp P Q (if 0 ≤ l (lerp P Q b) then b else l P / (l P - l Q))) := by
      intro a b
      unfold Clip
      split
      · split
        · rfl
        · rw [cross_lerp hl h]
          rintro rfl; contradiction
      · split
        · rw [cross_lerp hl h]
          rintro rfl; contradiction
        · exact (hg.self _).symm
    rw [key, key, key]
    exact hg P Q _ _ _
/-- sums along a chain of spots, and around -/
noncomputable def csum (g : Fq) : Pq → List Pq → Rat
  | _, [] => 0
  | p, a :: l => g p a + csum g a l
noncomputable def last (p : Pq) : List Pq → Pq
  | [] => p
  | a :: l => last a l
noncomputable def around (g : Fq) (l : List Pq) : Rat := csum g (last (0, 0) l) l
noncomputable def cutStepQ (l : Pq → Rat) (P Q : Pq) : List Pq := (if (decide (0 ≤ l P)) != (decide (0 ≤ l Q)) then [cross l P Q] else []) ++ (if 0 ≤ l Q then [Q] else [])
noncomputable def cutC (l : Pq → Rat) : Pq → List Pq → List Pq
  | _, [] => []
  | p, a :: r => cutStepQ l p a ++ cutC l a r
noncomputable def cutQ (l : Pq → Rat) (r : List Pq) : List Pq := cutC l (last (0, 0) r) r
theorem last_ne {p q : Pq} : ∀ {l : List Pq}, l ≠ [] → last p l = last q l
  | [], h => absurd rfl h
  | _ :: _, _ => rfl
theorem last_append (p : Pq) : ∀ (l r : List Pq), last p (l ++ r) = last (last p l) r
  | [], _ => rfl
  | a :: l, r => last_append a l r
theorem csum_append (g : Fq) : ∀ (p : Pq) (l r : List Pq), csum g p (l ++ r) = csum g p l + csum g (last p l) r
  | p, [], r => by show _ = 0 + _; rw [Rat.zero_add]; rfl
  | p, a :: l, r => by
    show g p a + csum g a (l ++ r) = g p a + csum g a l + csum g (last a l) r
    rw [csum_append g a l r, Rat.add_assoc]
/-- where a cut chain stands -/
structure Inv (l : Pq → Rat) (p u : Pq) : Prop where
  i : 0 ≤ l p → u = p
  o : ¬ 0 ≤ l p → l u = 0
theorem cut_step {l : Pq → Rat} {g : Fq} (hl : Aff l) (hg : ∀ P Q, l P = 0 → l Q = 0 → g P Q = 0) {p u a : Pq} (h : Inv l p u) : csum g u (cutStepQ l p a) = Clip l g p a ∧ Inv l a (last u (cutStepQ l p a)) := by
  unfold cutStepQ Clip
  by_cases h1 : 0 ≤ l p <;> by_cases h2 : 0 ≤ l a
  · have := h.i h1; subst this
    simp only [h1, h2, decide_true, bne_self_eq_false, Bool.false_eq_true, if_false, if_true, List.nil_append]
    exact ⟨Rat.add_zero _, ⟨fun _ => rfl, fun k => absurd h2 k⟩⟩
  · have := h.i h1; subst this
    simp only [h1, h2, decide_true, decide_false, show (true != false) = true from rfl, if_false, if_true, List.append_nil]
    exact ⟨Rat.add_zero _, ⟨fun k => absurd k h2, fun _ => hl.cross (by grind)⟩⟩
  · have hu := h.o h1
    have hx : l (cross l p a) = 0 := hl.cross (by grind)
    simp only [h1, h2, decide_true, decide_false, show (false != true) = true from rfl, if_false, if_true, List.cons_append, List.nil_append]
    refine ⟨?_, ⟨fun _ => rfl, fun k => absurd h2 k⟩⟩
    show g u (cross l p a) + (g (cross l p a) a + 0) = _
    rw [hg _ _ hu hx]; grind
  · have hu := h.o h1
    simp only [h1, h2, decide_false, bne_self_eq_false, Bool.false_eq_true, if_false, List.nil_append]
    exact ⟨rfl, ⟨fun k => absurd k h2, fun _ => hu⟩⟩
theorem cut_chain {l : Pq → Rat} {g : Fq} (hl : Aff l) (hg : ∀ P Q, l P = 0 → l Q = 0 → g P Q = 0) : ∀ {r : List Pq} {p u : Pq}, Inv l p u → csum g u (cutC l p r) = csum (Clip l g) p r ∧ Inv l (last p r) (last u (cutC l p r))
  | [], p, u, h => ⟨rfl, h⟩
  | a :: r, p, u, h => by
    obtain ⟨h1, h2⟩ := cut_step hl hg (a := a) h
    obtain ⟨h3, h4⟩ := cut_chain hl hg (r := r) h2
    show csum g u (cutStepQ l p a ++ cutC l a r) = Clip l g p a + csum (Clip l g) a r ∧ Inv l (last a r) (last u (cutStepQ l p a ++ cutC l a r))
    rw [csum_append, last_append, h1, h3]
    exact ⟨rfl, h4⟩
/-- the sum around the cut polygon is that of the clipped edges -/
theorem around_cut {l : Pq → Rat} {g : Fq} (hl : Aff l) (hz : ∃ z, l z = 0) (hg : ∀ P Q, l P = 0 → l Q = 0 → g P Q = 0) (r : List Pq) : around g (cutQ l r) = around (Clip l g) r := by
  unfold around cutQ
  by_cases hr : r = []
  · subst hr; rfl
  obtain ⟨z, hz⟩ := hz
  generalize hp : last (0, 0) r = p
  have hp' : last p r = p := by rw [last_ne hr, hp]
  obtain ⟨u0, h0⟩ : ∃ u0, Inv l p u0 := by
    by_cases h : 0 ≤ l p
    · exact ⟨p, fun _ => rfl, fun k => absurd h k⟩
    · exact ⟨z, fun k => absurd k h, fun _ => hz⟩
  obtain ⟨_, h2⟩ := cut_chain hl hg (r := r) h0
  rw [hp'] at h2
  obtain ⟨h3, _⟩ := cut_chain hl hg (r := r) h2
  by_cases he : cutC l p r = []
  · rw [he] at h3 ⊢
    exact h3
  · rw [last_ne (q := u0) he]
    exact h3
/-- differences cancel around -/
theorem csum_diff (f : Pq → Rat) : ∀ (p : Pq) (r : List Pq), csum (fun P Q => f Q - f P) p r = f (last p r) - f p
  | p, [] => by show (0 : Rat) = f p - f p; grind
  | p, a :: r => by
    show f a - f p + csum _ a r = f (last a r) - f p
    rw [csum_diff f a r]; grind
theorem around_diff (f : Pq → Rat) (r : List Pq) : around (fun P Q => f Q - f P) r = 0 := by
  unfold around
  by_cases hr : r = []
  · subst hr; rfl
  · rw [csum_diff, last_ne (q := (0, 0)) hr]; grind
theorem csum_lin {g g' : Fq} {k : Rat} : ∀ (p : Pq) (r : List Pq), csum (fun P Q => g P Q - k * g' P Q) p r = csum g p r - k * csum g' p r
  | p, [] => by show (0 : Rat) = 0 - k * 0; grind
  | p, a :: r => by
    show g p a - k * g' p a + csum _ a r = g p a + csum g a r - k * (g' p a + csum g' a r)
    rw [csum_lin a r]; grind
theorem around_lin {g g' : Fq} {k : Rat} (r : List Pq) : around (fun P Q => g P Q - k * g' P Q) r = around g r - k * around g' r := csum_lin _ _
theorem csum_congr {g g' : Fq} (h : ∀ P Q, g P Q = g' P Q) (p : Pq) (r : List Pq) : csum g p r = csum g' p r := by
  have : g = g' := funext fun P => funext fun Q => h P Q
  rw [this]
noncomputable def lx (L : Rat) (P : Pq) : Rat := P.1 - L
noncomputable def rx (R : Rat) (P : Pq) : Rat := R - P.1
noncomputable def ly (B : Rat) (P : Pq) : Rat := P.2 - B
noncomputable def uy (T : Rat) (P : Pq) : Rat := T - P.2
theorem aff_lx (L : Rat) : Aff (lx L) := fun P Q t => by unfold lx lerp; grind
theorem aff_rx (L : Rat) : Aff (rx L) := fun P Q t => by unfold rx lerp; grind
theorem aff_ly (L : Rat) : Aff (ly L) := fun P Q t => by unfold ly lerp; grind
theorem aff_uy (L : Rat) : Aff (uy L) := fun P Q t => by unfold uy lerp; grind
noncomputable def gR (R : Rat) : Fq := fun P Q => (P.1 + Q.1 - 2 * R) * (P.2 - Q.2)
noncomputable def dyF : Fq := fun P Q => Q.2 - P.2
noncomputable def wF (B T : Rat) : Fq := Clip (ly B) (Clip (uy T) dyF)
noncomputable def g2F (R B T : Rat) : Fq := Clip (ly B) (Clip (uy T) (gR R))
noncomputable def g3F (R B T : Rat) : Fq := Clip (rx R) (g2F R B T)
noncomputable def g4F (L R B T : Rat) : Fq := fun P Q => g3F R B T P Q - (2 * (R - L)) * wF B T P Q
noncomputable def GF (L R B T : Rat) : Fq := Clip (lx L) (g4F L R B T)
noncomputable def HF (L R B T : Rat) : Fq := fun P Q => GF L R B T P Q - (-(2 * (R - L))) * wF B T P Q
theorem Coc.lin {g g' : Fq} (h : Coc g) (h' : Coc g') (k : Rat) : Coc (fun P Q => g P Q - k * g' P Q) := fun P Q a b c => by
  have h1 := h P Q a b c
  have h2 := h' P Q a b c
  dsimp only; grind
theorem coc_dy : Coc dyF := fun P Q a b c => by unfold dyF lerp; grind
theorem coc_gR (R : Rat) : Coc (gR R) := fun P Q a b c => by unfold gR lerp; grind
theorem coc_w (B T : Rat) : Coc (wF B T) := (coc_dy.clip (aff_uy T)).clip (aff_ly B)
theorem coc_g2 (R B T : Rat) : Coc (g2F R B T) := ((coc_gR R).clip (aff_uy T)).clip (aff_ly B)
theorem coc_g4 (L R B T : Rat) : Coc (g4F L R B T) := ((coc_g2 R B T).clip (aff_rx R)).lin (coc_w B T) _
theorem coc_H (L R B T : Rat) : Coc (HF L R B T) := ((coc_g4 L R B T).clip (aff_lx L)).lin (coc_w B T) _
theorem dy_z {P Q : Pq} (h : P.2 = Q.2) : dyF P Q = 0 := by unfold dyF; rw [h]; grind
theorem gR_z {R : Rat} {P Q : Pq} (h : P.2 = Q.2) : gR R P Q = 0 := by unfold gR; rw [h]; grind
theorem gR_zx {R : Rat} {P Q : Pq} (h : P.1 = R) (h' : Q.1 = R) : gR R P Q = 0 := by unfold gR; rw [h, h']; grind
section
variable {L R B T : Rat} {P Q : Pq}
/-- level pairs -/
theorem clip2_lev {g : Fq} (hg : ∀ P Q : Pq, P.2 = Q.2 → g P Q = 0) {y : Rat} (h1 : P.2 = y) (h2 : Q.2 = y) : Clip (ly B) (Clip (uy T) g) P Q = 0 := by
  have C : Cvx (fun P => ly 0 P = y) := Cvx.eq (aff_ly 0) y
  have e : ∀ P : Pq, ly 0 P = P.2 := fun P => by unfold ly; grind
  refine Clip.none (C := fun P => ly 0 P = y) C (fun P Q hP hQ => Clip.none (C := fun P => ly 0 P = y) C (fun P Q hP hQ => hg _ _ ?_) hP hQ) (by rw [e]; exact h1) (by rw [e]; exact h2)
  rw [e] at hP hQ; rw [hP, hQ]
theorem w_lev (h : P.2 = Q.2) : wF B T P Q = 0 := clip2_lev (fun _ _ h => dy_z h) h rfl
theorem g2_lev (h : P.2 = Q.2) : g2F R B T P Q = 0 := clip2_lev (fun _ _ h => gR_z h) h rfl
theorem g4_lev (h : P.2 = Q.2) : g4F L R B T P Q = 0 := by
  have e : ∀ P : Pq, ly 0 P = P.2 := fun P => by unfold ly; grind
  unfold g4F g3F
  rw [w_lev h, Clip.none (C := fun P => ly 0 P = Q.2) (Cvx.eq (aff_ly 0) _) (fun P Q hP hQ => g2_lev (by rw [e] at hP hQ; rw [hP, hQ])) (by rw [e]; exact h) (e Q)]
  grind
theorem H_lev (h : P.2 = Q.2) : HF L R B T P Q = 0 := by
  have e : ∀ P : Pq, ly 0 P = P.2 := fun P => by unfold ly; grind
  unfold HF GF
  rw [w_lev h, Clip.none (C := fun P => ly 0 P = Q.2) (Cvx.eq (aff_ly 0) _) (fun P Q hP hQ => g4_lev (by rw [e] at hP hQ; rw [hP, hQ])) (by rw [e]; exact h) (e Q)]
  grind
/-- below the row -/
theorem clip2_lo {g : Fq} (hg : ∀ P Q : Pq, P.2 = Q.2 → g P Q = 0) (h1 : P.2 ≤ B) (h2 : Q.2 ≤ B) : Clip (ly B) (Clip (uy T) g) P Q = 0 := by
  refine Clip.out (aff_ly B) (fun P Q hP hQ => ?_) (by unfold ly; grind) (by unfold ly; grind)
  exact Clip.none (C := fun P => ly B P = 0) (Cvx.eq (aff_ly B) 0) (fun P Q hP hQ => hg _ _ (by unfold ly at hP hQ; grind)) hP hQ
theorem clip2_hi {g : Fq} (hg : ∀ P Q : Pq, P.2 = Q.2 → g P Q = 0) (h1 : T ≤ P.2) (h2 : T ≤ Q.2) : Clip (ly B) (Clip (uy T) g) P Q = 0 := by
  refine Clip.none (C := fun P => uy T P ≤ 0) (Cvx.le (aff_uy T) 0) (fun P Q hP hQ => ?_) (by unfold uy; grind) (by unfold uy; grind)
  exact Clip.out (aff_uy T) (fun P Q hP hQ => hg _ _ (by unfold uy at hP hQ; grind)) hP hQ
theorem w_lo (h1 : P.2 ≤ B) (h2 : Q.2 ≤ B) : wF B T P Q = 0 := clip2_lo (fun _ _ h => dy_z h) h1 h2
theorem w_hi (h1 : T ≤ P.2) (h2 : T ≤ Q.2) : wF B T P Q = 0 := clip2_hi (fun _ _ h => dy_z h) h1 h2
theorem g2_lo (h1 : P.2 ≤ B) (h2 : Q.2 ≤ B) : g2F R B T P Q = 0 := clip2_lo (fun _ _ h => gR_z h) h1 h2
theorem g2_hi (h1 : T ≤ P.2) (h2 : T ≤ Q.2) : g2F R B T P Q = 0 := clip2_hi (fun _ _ h => gR_z h) h1 h2
theorem H_lo (h1 : P.2 ≤ B) (h2 : Q.2 ≤ B) : HF L R B T P Q = 0 := by
  have C : Cvx (fun P => ly 0 P ≤ B) := Cvx.le (aff_ly 0) B
  have e : ∀ P : Pq, ly 0 P = P.2 := fun P => by unfold ly; grind
  unfold HF GF
  rw [w_lo h1 h2, Clip.none C (fun P Q hP hQ => ?_) (by rw [e]; exact h1) (by rw [e]; exact h2)]
  · grind
  unfold g4F g3F
  rw [w_lo (by rw [e] at hP; exact hP) (by rw [e] at hQ; exact hQ), Clip.none C (fun P Q hP hQ => g2_lo (by rw [e] at hP; exact hP) (by rw [e] at hQ; exact hQ)) hP hQ]
  grind
theorem H_hi (h1 : T ≤ P.2) (h2 : T ≤ Q.2) : HF L R B T P Q = 0 := by
  have C : Cvx (fun P => T ≤ ly 0 P) := Cvx.ge (aff_ly 0) T
  have e : ∀ P : Pq, ly 0 P = P.2 := fun P => by unfold ly; grind
  unfold HF GF
  rw [w_hi h1 h2, Clip.none C (fun P Q hP hQ => ?_) (by rw [e]; exact h1) (by rw [e]; exact h2)]
  · grind
  unfold g4F g3F
  rw [w_hi (by rw [e] at hP; exact hP) (by rw [e] at hQ; exact hQ), Clip.none C (fun P Q hP hQ => g2_hi (by rw [e] at hP; exact hP) (by rw [e] at hQ; exact hQ)) hP hQ]
  grind
/-- within the row -/
theorem clip2_in {g : Fq} (h1 : B ≤ P.2) (h2 : B ≤ Q.2) (h3 : P.2 ≤ T) (h4 : Q.2 ≤ T) : Clip (ly B) (Clip (uy T) g) P Q = g P Q := by
  rw [Clip.in (by unfold ly; grind) (by unfold ly; grind), Clip.in (by unfold uy; grind) (by unfold uy; grind)]
theorem w_in (h1 : B ≤ P.2) (h2 : B ≤ Q.2) (h3 : P.2 ≤ T) (h4 : Q.2 ≤ T) : wF B T P Q = Q.2 - P.2 := clip2_in h1 h2 h3 h4
/-- on the line ahead of a dot -/
theorem g4_L (hLR : L ≤ R) (h1 : lx L P = 0) (h2 : lx L Q = 0) : g4F L R B T P Q = 0 := by
  unfold g4F g3F
  have i : ∀ {P : Pq}, lx L P = 0 → 0 ≤ rx R P := fun {P} h => by unfold lx at h; unfold rx; grind
  rw [Clip.in (i h1) (i h2)]
  have C : Cvx (fun P => lx L P = 0) := Cvx.eq (aff_lx L) 0
  have z := Clip.none (l := ly B) (g := Clip (uy T) (fun P Q => gR R P Q - (2 * (R - L)) * dyF P Q)) C (fun P Q hP hQ => Clip.none C (fun P Q hP hQ => by unfold lx at hP hQ; unfold gR dyF; grind) hP hQ) h1 h2
  have e : Clip (uy T) (fun P Q => gR R P Q - (2 * (R - L)) * dyF P Q) = fun P Q => Clip (uy T) (gR R) P Q - (2 * (R - L)) * Clip (uy T) dyF P Q := funext fun P => funext fun Q => Clip.sub
  rw [e, Clip.sub] at z
  exact z
theorem g2_R (h1 : rx R P = 0) (h2 : rx R Q = 0) : g2F R B T P Q = 0 := by
  have C : Cvx (fun P => rx R P = 0) := Cvx.eq (aff_rx R) 0
  exact Clip.none C (fun P Q hP hQ => Clip.none C (fun P Q hP hQ => gR_zx (by unfold rx at hP; grind) (by unfold rx at hQ; grind)) hP hQ) h1 h2
theorem H_left (hLR : L ≤ R) (h1 : B ≤ P.2) (h2 : B ≤ Q.2) (h3 : P.2 ≤ T) (h4 : Q.2 ≤ T) (h5 : P.1 ≤ L) (h6 : Q.1 ≤ L) : HF L R B T P Q = 2 * (R - L) * (Q.2 - P.2) := by
  unfold HF GF
  rw [w_in h1 h2 h3 h4, Clip.out (aff_lx L) (fun P Q => g4_L hLR) (by unfold lx; grind) (by unfold lx; grind)]
  grind
theorem H_in (h1 : B ≤ P.2) (h2 : B ≤ Q.2) (h3 : P.2 ≤ T) (h4 : Q.2 ≤ T) (h5 : L ≤ P.1) (h6 : L ≤ Q.1) (h7 : P.1 ≤ R) (h8 : Q.1 ≤ R) : HF L R B T P Q = (P.1 + Q.1 - 2 * R) * (P.2 - Q.2) := by
  unfold HF GF
  rw [Clip.in (by unfold lx; grind) (by unfold lx; grind)]
  unfold g4F g3F
  rw [Clip.in (by unfold rx; grind) (by unfold rx; grind)]
  unfold g2F
  rw [clip2_in h1 h2 h3 h4]
  unfold gR
  grind
theorem H_right (hLR : L ≤ R) (h1 : B ≤ P.2) (h2 : B ≤ Q.2) (h3 : P.2 ≤ T) (h4 : Q.2 ≤ T) (h5 : R ≤ P.1) (h6 : R ≤ Q.1) : HF L R B T P Q = 0 := by
  unfold HF GF
  rw [Clip.in (by unfold lx; grind) (by unfold lx; grind)]
  unfold g4F g3F
  rw [Clip.out (aff_rx R) (fun P Q => g2_R) (by unfold rx; grind) (by unfold rx; grind)]
  grind
theorem around_w (r : List Pq) : around (wF B T) r = 0 := by
  unfold wF
  rw [← around_cut (aff_ly B) ⟨(0, B), by unfold ly; grind⟩ (fun P Q hP hQ => Clip.none (C := fun P => ly B P = 0) (Cvx.eq (aff_ly B) 0) (fun P Q hP hQ => dy_z (by unfold ly at hP hQ; grind)) hP hQ)]
  rw [← around_cut (aff_uy T) ⟨(0, T), by unfold uy; grind⟩ (fun P Q hP hQ => dy_z (by unfold uy at hP hQ; grind))]
  exact around_diff (fun P => P.2) _
/-- the law's area of the cut polygon, as a sum around the polygon -/
noncomputable def alF : Fq := fun P Q => Q.1 * P.2 - P.1 * Q.2
theorem around_al (R : Rat) (r : List Pq) : around alF r = around (gR R) r := by
  have e : gR R = fun P Q => alF P Q - 1 * ((fun P Q : Pq => (Q.1 * Q.2 - 2 * R * Q.2) - (P.1 * P.2 - 2 * R * P.2)) P Q) := by
    funext P Q; unfold gR alF; grind
  rw [e, around_lin, around_diff (fun P => P.1 * P.2 - 2 * R * P.2)]
  grind
theorem around_due (hLR : L ≤ R) (r : List Pq) : around alF (cutQ (uy T) (cutQ (ly B) (cutQ (rx R) (cutQ (lx L) r)))) = around (HF L R B T) r := by
  rw [around_al R]
  rw [around_cut (aff_uy T) ⟨(0, T), by unfold uy; grind⟩ (fun P Q hP hQ => gR_z (by unfold uy at hP hQ; grind))]
  rw [around_cut (aff_ly B) ⟨(0, B), by unfold ly; grind⟩ (fun P Q hP hQ => Clip.none (C := fun P => ly B P = 0) (Cvx.eq (aff_ly B) 0) (fun P Q hP hQ => gR_z (by unfold ly at hP hQ; grind)) hP hQ)]
  show around (g2F R B T) _ = _
  rw [around_cut (aff_rx R) ⟨(R, 0), by unfold rx; grind⟩ (fun P Q => g2_R)]
  have e : around (g3F R B T) (cutQ (lx L) r) = around (g4F L R B T) (cutQ (lx L) r) := by
    unfold g4F
    rw [around_lin, around_w]; grind
  show around (g3F R B T) _ = _
  rw [e, around_cut (aff_lx L) ⟨(L, 0), by unfold lx; grind⟩ (fun P Q => g4_L hLR)]
  unfold HF
  rw [around_lin, around_w]
  show around (GF L R B T) r = _
  grind
end
noncomputable def rat (p : Int × Int) : Rat := (p.1 : Rat) / (p.2 : Rat)
noncomputable def val (P : Pt) : Pq := (rat P.1, rat P.2)
structure Pos (P : Pt) : Prop where
  x : 0 < P.1.2
  y : 0 < P.2.2
theorem cast_ne {i : Int} (h : i ≠ 0) : (i : Rat) ≠ 0 := by rw [Ne, Rat.intCast_eq_zero_iff]; exact h
theorem norm_rat (p : Int × Int) : rat (norm p) = rat p := by
  unfold norm rat
  split
  · simp only [Rat.intCast_neg]; grind
  · rfl
theorem norm_pos {p : Int × Int} (h : p.2 ≠ 0) : 0 < (norm p).2 := by
  unfold norm
  split
  · show 0 < -p.2; omega
  · omega
theorem part_rat {top bot : Int} {p q : Int × Int} (hp : p.2 ≠ 0) (hq : q.2 ≠ 0) (hb : bot ≠ 0) : rat (norm (partX top bot p q)) = rat p + (top : Rat) / (bot : Rat) * (rat q - rat p) := by
  rw [norm_rat]
  unfold partX rat
  simp only [Rat.intCast_add, Rat.intCast_mul, Rat.intCast_sub]
  have h1 := cast_ne hp
  have h2 := cast_ne hq
  have h3 := cast_ne hb
  grind
/-- the side of a line that the law keeps -/
noncomputable def sideF (a : Int) (below : Bool) (line : Rat) : Pq → Rat := if a = 0 then (if below then rx line else lx line) else (if below then uy line else ly line)
theorem aff_side (a : Int) (below : Bool) (line : Rat) : Aff (sideF a below line) := by
  unfold sideF
  split <;> split
  · exact aff_rx _
  · exact aff_lx _
  · exact aff_uy _
  · exact aff_ly _
theorem rat_le {p : Int × Int} {line : Int} (h : 0 < p.2) : (0 ≤ (line : Rat) - rat p ↔ p.1 ≤ line * p.2) ∧ (0 ≤ rat p - (line : Rat) ↔ p.1 ≥ line * p.2) := by
  have hp : (0 : Rat) < (p.2 : Rat) := by have := Rat.intCast_lt_intCast (a := 0) (b := p.2); rw [this.symm] at h; exact h
  have e : rat p * (p.2 : Rat) = (p.1 : Rat) := by unfold rat; grind
  constructor
  · rw [← Rat.intCast_le_intCast, Rat.intCast_mul]
    constructor
    · intro h
      have := Rat.mul_nonneg h (by grind : (0 : Rat) ≤ (p.2 : Rat))
      grind
    · intro h
      rcases Rat.le_total (a := 0) (b := (line : Rat) - rat p) with k | k
      · exact k
      · have := Rat.mul_nonneg (a := rat p - (line : Rat)) (by grind) (by grind : (0 : Rat) ≤ (p.2 : Rat))
        have z : (rat p - (line : Rat)) * (p.2 : Rat) = 0 := by grind
        rcases Rat.mul_eq_zero.mp z with z | z <;> grind
  · rw [ge_iff_le, ← Rat.intCast_le_intCast, Rat.intCast_mul]
    constructor
    · intro h
      have := Rat.mul_nonneg h (by grind : (0 : Rat) ≤ (p.2 : Rat))
      grind
    · intro h
      rcases Rat.le_total (a := 0) (b := rat p - (line : Rat)) with k | k
      · exact k
      · have := Rat.mul_nonneg (a := (line : Rat) - rat p) (by grind) (by grind : (0 : Rat) ≤ (p.2 : Rat))
        have z : ((line : Rat) - rat p) * (p.2 : Rat) = 0 := by grind
        rcases Rat.mul_eq_zero.mp z with z | z <;> grind
theorem ins_val {a line : Int} {below : Bool} {P : Pt} (h : Pos P) : insP a line below P = decide (0 ≤ sideF a below (line : Rat) (val P)) := by
  have hx := rat_le (line := line) h.x
  have hy := rat_le (line := line) h.y
  unfold insP sideF Pt.ax
  by_cases ha : a = 0 <;> cases below <;> simp only [ha, if_true, if_false, Bool.false_eq_true] <;> refine decide_eq_decide.mpr ?_
  · exact hx.2.symm
  · exact hx.1.symm
  · exact hy.2.symm
  · exact hy.1.symm
theorem side_ax {a line : Int} {below : Bool} {P : Pt} : sideF a below (line : Rat) (val P) = if below then (line : Rat) - rat (P.ax a) else rat (P.ax a) - (line : Rat) := by
  unfold sideF Pt.ax val
  by_cases ha : a = 0 <;> cases below <;> simp only [ha, if_true, if_false, Bool.false_eq_true] <;> rfl
theorem part_val {a line : Int} {below : Bool} {P Q : Pt} (hP : Pos P) (hQ : Pos Q) (h : sideF a below (line : Rat) (val P) ≠ sideF a below (line : Rat) (val Q)) : val (partP P Q a line) = cross (sideF a below (line : Rat)) (val P) (val Q) ∧ Pos (partP P Q a line) := by
  have pa : (P.ax a).2 ≠ 0 := by unfold Pt.ax; split; have := hP.x; omega; have := hP.y; omega
  have qa : (Q.ax a).2 ≠ 0 := by unfold Pt.ax; split; have := hQ.x; omega; have := hQ.y; omega
  rw [side_ax, side_ax] at h
  have hne : rat (P.ax a) ≠ rat (Q.ax a) := fun e => h (by rw [e])
  have hb : partBot P Q a ≠ 0 := by
    intro e
    apply hne
    have e : ((partBot P Q a : Int) : Rat) = 0 := by rw [e]; rfl
    unfold partBot at e
    simp only [Rat.intCast_mul, Rat.intCast_sub] at e
    have h1 := cast_ne pa
    have h2 := cast_ne qa
    unfold rat
    grind
  have ht : ((partTop P Q a line : Int) : Rat) / ((partBot P Q a : Int) : Rat) = sideF a below (line : Rat) (val P) / (sideF a below (line : Rat) (val P) - sideF a below (line : Rat) (val Q)) := by
    rw [side_ax, side_ax]
    have e1 : ((partTop P Q a line : Int) : Rat) = ((line : Rat) - rat (P.ax a)) * ((P.ax a).2 : Rat) * ((Q.ax a).2 : Rat) := by
      unfold partTop rat
      simp only [Rat.intCast_mul, Rat.intCast_sub]
      have h1 := cast_ne pa
      grind
    have e2 : ((partBot P Q a : Int) : Rat) = (rat (Q.ax a) - rat (P.ax a)) * ((P.ax a).2 : Rat) * ((Q.ax a).2 : Rat) := by
      unfold partBot rat
      simp only [Rat.intCast_mul, Rat.intCast_sub]
      have h1 := cast_ne pa
      have h2 := cast_ne qa
      grind
    rw [e1, e2]
    have h1 := cast_ne pa
    have h2 := cast_ne qa
    generalize ((P.ax a).2 : Rat) = u at *
    generalize ((Q.ax a).2 : Rat) = v at *
    generalize rat (P.ax a) = p at *
    generalize rat (Q.ax a) = q at *
    cases below
    · simp only [Bool.false_eq_true, if_false]; grind
    · simp only [if_true]; grind
  refine ⟨?_, ?_⟩
  · unfold cross lerp
    rw [← ht]
    unfold val partP
    dsimp only
    rw [part_rat (by have := hP.x; omega) (by have := hQ.x; omega) hb, part_rat (by have := hP.y; omega) (by have := hQ.y; omega) hb]
  · have := hP.x
    have := hP.y
    have := hQ.x
    have := hQ.y
    exact ⟨norm_pos (Int.mul_ne_zero (Int.mul_ne_zero (by omega) (by omega)) hb), norm_pos (Int.mul_ne_zero (Int.mul_ne_zero (by omega) (by omega)) hb)⟩
theorem cutStep_val {a line : Int} {below : Bool} {P Q : Pt} (hP : Pos P) (hQ : Pos Q) : (cutStep a line below P Q).map val = cutStepQ (sideF a below (line : Rat)) (val P) (val Q) ∧ ∀ R ∈ cutStep a line below P Q, Pos R := by
  unfold cutStep cutStepQ
  rw [ins_val hP, ins_val hQ]
  have key : (decide (0 ≤ sideF a below (line : Rat) (val P)) != decide (0 ≤ sideF a below (line : Rat) (val Q))) = true → sideF a below (line : Rat) (val P) ≠ sideF a below (line : Rat) (val Q) := fun h e => by rw [e] at h; simp at h
  constructor
  · rw [List.map_append]
    congr 1
    · split
      · rename_i h
        rw [List.map_cons, (part_val hP hQ (key h)).1]; rfl
      · rfl
    · by_cases h : 0 ≤ sideF a below (line : Rat) (val Q)
      · rw [decide_eq_true h]; simp [h]
      · rw [decide_eq_false h]; simp [h]
  · intro R hR
    rcases List.mem_append.mp hR with hR | hR
    · split at hR
      · rename_i h
        rw [List.mem_singleton] at hR; subst hR
        exact (part_val hP hQ (key h)).2
      · cases hR
    · split at hR
      · rw [List.mem_singleton] at hR; subst hR; exact hQ
      · cases hR
/-- the pairs of a chain -/
noncomputable def pairs {α : Type} : α → List α → List (α × α)
  | _, [] => []
  | p, a :: l => (p, a) :: pairs a l
theorem pairs_len {α : Type} : ∀ (p : α) (l : List α), (pairs p l).length = l.length
  | _, [] => rfl
  | p, a :: l => by show (pairs a l).length + 1 = _; rw [pairs_len]; rfl
theorem pairs_get {α : Type} {d : α} : ∀ {l : List α} {p : α} {i : Nat}, i < l.length → (pairs p l)[i]? = some (if i = 0 then p else l.getD (i - 1) d, l.getD i d)
  | [], _, _, h => absurd h (Nat.not_lt_zero _)
  | a :: l, p, 0, h => rfl
  | a :: l, p, i + 1, h => by
    show (pairs a l)[i]? = _
    rw [pairs_get (d := d) (Nat.lt_of_succ_lt_succ h)]
    congr 2
    cases i with
    | zero => rfl
    | succ i => simp
theorem cyc_pairs {α : Type} (d : α) (l : List α) : cyc d l = pairs (l.getD (l.length - 1) d) l := by
  apply List.ext_getElem?
  intro i
  by_cases h : i < l.length
  · rw [pairs_get (d := d) h]
    unfold cyc
    rw [List.getElem?_map, List.getElem?_range h]
    simp only [Option.map_some]
    by_cases h0 : i = 0
    · subst h0; rfl
    · simp only [h0, if_false]
  · rw [List.getElem?_eq_none (by unfold cyc; simp; omega), List.getElem?_eq_none (by rw [pairs_len]; omega)]
theorem last_val : ∀ {l : List Pt} {p : Pt}, last (val p) (l.map val) = val ((p :: l).getD l.length ptD)
  | [], p => rfl
  | a :: l, p => by
    show last (val a) (l.map val) = _
    rw [last_val]; rfl
theorem last_val' {l : List Pt} : last (0, 0) (l.map val) = val (l.getD (l.length - 1) ptD) ∨ l = [] := by
  cases l with
  | nil => exact .inr rfl
  | cons a l => exact .inl last_val
theorem getD_pos {l : List Pt} (h : ∀ P ∈ l, Pos P) (i : Nat) : Pos (l.getD i ptD) := by
  rw [List.getD_eq_getElem?_getD]
  by_cases hi : i < l.length
  · rw [List.getElem?_eq_getElem hi]; exact h _ (List.getElem_mem _)
  · rw [List.getElem?_eq_none (by omega)]; exact ⟨by decide, by decide⟩
theorem cutC_val {a line : Int} {below : Bool} : ∀ {l : List Pt} {p : Pt}, Pos p → (∀ P ∈ l, Pos P) → ((pairs p l).flatMap fun e => cutStep a line below e.1 e.2).map val = cutC (sideF a below (line : Rat)) (val p) (l.map val) ∧ ∀ R ∈ ((pairs p l).flatMap fun e => cutStep a line below e.1 e.2), Pos R
  | [], p, hp, h => ⟨rfl, fun R hR => by cases hR⟩
  | b :: l, p, hp, h => by
    obtain ⟨h1, h2⟩ := cutStep_val (a := a) (line := line) (below := below) hp (h b (.head _))
    obtain ⟨h3, h4⟩ := cutC_val (a := a) (line := line) (below := below) (l := l) (h b (.head _)) (fun P hP => h P (.tail _ hP))
    show (List.flatMap _ ((p, b) :: pairs b l)).map val = cutStepQ _ (val p) (val b) ++ cutC _ (val b) (l.map val) ∧ ∀ R ∈ List.flatMap _ ((p, b) :: pairs b l), Pos R
    rw [List.flatMap_cons, List.map_append, h1, h3]
    refine ⟨rfl, fun R hR => ?_⟩
    rcases List.mem_append.mp hR with hR | hR
    · exact h2 R hR
    · exact h4 R hR
theorem cutL_val {a line : Int} {below : Bool} {l : List Pt} (h : ∀ P ∈ l, Pos P) : (cutL a line below l).map val = cutQ (sideF a below (line : Rat)) (l.map val) ∧ ∀ R ∈ cutL a line below l, Pos R := by
  unfold cutL cutQ
  rw [cyc_pairs]
  rcases last_val' (l := l) with e | e
  · rw [e]; exact cutC_val (getD_pos h _) h
  · subst e; exact ⟨rfl, fun R hR => by cases hR⟩
theorem rmul_ne {a b : Rat} (h : a ≠ 0) (h' : b ≠ 0) : a * b ≠ 0 := fun e => (Rat.mul_eq_zero.mp e).elim h h'
theorem area_alg {s1 s2 p1 p2 p3 p4 b1 b2 b3 b4 : Rat} (k1 : s2 ≠ 0) (k2 : p2 ≠ 0) (k3 : p4 ≠ 0) (k4 : b2 ≠ 0) (k5 : b4 ≠ 0) :
    (s1 * (p2 * p4 * b2 * b4) + (b1 * p3 * p2 * b4 - p1 * b3 * p4 * b2) * s2) / (s2 * (p2 * p4 * b2 * b4)) = s1 / s2 + (b1 / b2 * (p3 / p4) - p1 / p2 * (b3 / b4)) := by
  have hd := rmul_ne k1 (rmul_ne (rmul_ne (rmul_ne k2 k3) k4) k5)
  grind
theorem area_chain : ∀ {l : List Pt} {p : Pt} {s : Int × Int}, Pos p → (∀ P ∈ l, Pos P) → 0 < s.2 → rat ((pairs p l).foldl (fun s e => areaStep s e.1 e.2) s) = rat s + csum alF (val p) (l.map val) ∧ 0 < ((pairs p l).foldl (fun s e => areaStep s e.1 e.2) s).2
  | [], p, s, hp, h, hs => ⟨by show rat s = rat s + 0; rw [Rat.add_zero], hs⟩
  | b :: l, p, s, hp, h, hs => by
    have hb := h b (.head _)
    have hu : 0 < p.1.2 * p.2.2 * b.1.2 * b.2.2 := Int.mul_pos (Int.mul_pos (Int.mul_pos hp.x hp.y) hb.x) hb.y
    have hs' : 0 < (areaStep s p b).2 := Int.mul_pos hs hu
    obtain ⟨h1, h2⟩ := area_chain (l := l) (p := b) (s := areaStep s p b) hb (fun P hP => h P (.tail _ hP)) hs'
    refine ⟨?_, h2⟩
    show rat ((pairs b l).foldl _ (areaStep s p b)) = _ + (alF (val p) (val b) + csum alF (val b) (l.map val))
    rw [h1, ← Rat.add_assoc]
    congr 1
    unfold areaStep alF val rat
    simp only [Rat.intCast_add, Rat.intCast_mul, Rat.intCast_sub]
    have k1 := cast_ne (show s.2 ≠ 0 by omega)
    have k2 := cast_ne (show p.1.2 ≠ 0 by have := hp.x; omega)
    have k3 := cast_ne (show p.2.2 ≠ 0 by have := hp.y; omega)
    have k4 := cast_ne (show b.1.2 ≠ 0 by have := hb.x; omega)
    have k5 := cast_ne (show b.2.2 ≠ 0 by have := hb.y; omega)
    exact area_alg k1 k2 k3 k4 k5
theorem rat01 : (((0 : Int) : Rat) / ((1 : Int) : Rat)) = 0 := by rw [Rat.intCast_zero]; grind
theorem areaL_val {l : List Pt} (h : ∀ P ∈ l, Pos P) : rat (areaL l) = around alF (l.map val) ∧ 0 < (areaL l).2 := by
  unfold areaL around
  rw [cyc_pairs]
  rcases last_val' (l := l) with e | e
  · rw [e]
    obtain ⟨h1, h2⟩ := area_chain (s := (0, 1)) (getD_pos h (l.length - 1)) h (by decide)
    refine ⟨?_, h2⟩
    rw [h1]
    show (((0 : Int) : Rat) / ((1 : Int) : Rat)) + _ = _
    rw [rat01, Rat.zero_add]
  · subst e; exact ⟨rat01, by decide⟩
noncomputable def spQ (p : Int × Int) : Pq := ((p.1 : Rat), (p.2 : Rat))
theorem ptsOf_val (spots : List (Int × Int)) : (ptsOf spots).map val = spots.map spQ ∧ ∀ P ∈ ptsOf spots, Pos P := by
  unfold ptsOf
  constructor
  · rw [List.map_map]
    refine List.map_congr_left fun p _ => ?_
    show (rat (p.1, 1), rat (p.2, 1)) = ((p.1 : Rat), (p.2 : Rat))
    have e : ∀ i : Int, rat (i, 1) = (i : Rat) := fun i => by
      unfold rat
      show (i : Rat) / ((1 : Int) : Rat) = i
      have : ((1 : Int) : Rat) = 1 := by decide
      rw [this]; grind
    rw [e, e]
  · intro P hP
    obtain ⟨p, _, rfl⟩ := List.mem_map.mp hP
    exact ⟨Int.zero_lt_one, Int.zero_lt_one⟩
/-- the law's due, as a sum around the contour -/
theorem due_val (spots : List (Int × Int)) (c r : Int) : rat (areaL (dueP spots c r)) = around (HF ((4 * c : Int) : Rat) ((4 * c + 4 : Int) : Rat) ((4 * r : Int) : Rat) ((4 * r + 4 : Int) : Rat)) (spots.map spQ) ∧ 0 < (areaL (dueP spots c r)).2 := by
  obtain ⟨e0, p0⟩ := ptsOf_val spots
  obtain ⟨e1, p1⟩ := cutL_val (a := 0) (line := 4 * c) (below := false) p0
  obtain ⟨e2, p2⟩ := cutL_val (a := 0) (line := 4 * c + 4) (below := true) p1
  obtain ⟨e3, p3⟩ := cutL_val (a := 1) (line := 4 * r) (below := false) p2
  obtain ⟨e4, p4⟩ := cutL_val (a := 1) (line := 4 * r + 4) (below := true) p3
  obtain ⟨e5, p5⟩ := areaL_val p4
  unfold dueP
  refine ⟨?_, p5⟩
  rw [e5, e4, e3, e2, e1, e0]
  show around alF (cutQ (uy _) (cutQ (ly _) (cutQ (rx _) (cutQ (lx _) _)))) = _
  exact around_due (Rat.intCast_le_intCast.mpr (by omega)) _
noncomputable def sum3 (f : Int → Rat) : Rat := f (-1) + f 0 + f 1
/-- a linear reading of the table -/
noncomputable def stat (a b : Int → Int → Rat) (t : Tb) : Rat := sum3 fun r => sum3 fun c => a r c * (t.v r c).1 + b r c * (t.v r c).2
theorem sum3_bump {f : Int → Rat} {d : Rat} {i : Int} (h : -1 ≤ i ∧ i ≤ 1) : sum3 (fun j => f j + if j = i then d else 0) = sum3 f + d := by
  unfold sum3
  have : i = -1 ∨ i = 0 ∨ i = 1 := by omega
  rcases this with rfl | rfl | rfl <;> simp <;> grind
theorem put_v (t : Tb) (r c : Int) (q : Rat × Rat) (r' c' : Int) : (t.put r c q).v r' c' = if r' = r ∧ c' = c then ((t.v r c).1 + q.1, (t.v r c).2 + q.2) else t.v r' c' := rfl
theorem stat_put {a b : Int → Int → Rat} {t : Tb} {r c : Int} {q : Rat × Rat} (hr : -1 ≤ r ∧ r ≤ 1) (hc : -1 ≤ c ∧ c ≤ 1) : stat a b (t.put r c q) = stat a b t + (a r c * q.1 + b r c * q.2) := by
  unfold stat
  rw [← sum3_bump hr]
  congr 1
  funext r'
  by_cases h : r' = r
  · subst h
    rw [if_pos rfl, ← sum3_bump hc]
    congr 1
    funext c'
    rw [put_v]
    by_cases h' : c' = c
    · subst h'
      rw [if_pos ⟨rfl, rfl⟩, if_pos rfl]; grind
    · rw [if_neg (fun e => h' e.2), if_neg h', Rat.add_zero]
  · rw [if_neg h, Rat.add_zero]
    congr 1
    funext c'
    rw [put_v, if_neg (fun e => h e.1)]
noncomputable def lsum {α : Type} (f : α → Rat) : List α → Rat
  | [] => 0
  | a :: l => f a + lsum f l
theorem lsum_append {α : Type} (f : α → Rat) : ∀ (l r : List α), lsum f (l ++ r) = lsum f l + lsum f r
  | [], r => (Rat.zero_add _).symm
  | a :: l, r => by show f a + lsum f (l ++ r) = f a + lsum f l + lsum f r; rw [lsum_append f l r, Rat.add_assoc]
theorem lsum_flatMap {α β : Type} (f : β → Rat) (g : α → List β) : ∀ l : List α, lsum f (l.flatMap g) = lsum (fun x => lsum f (g x)) l
  | [] => rfl
  | a :: l => by rw [List.flatMap_cons, lsum_append, lsum_flatMap f g l]; rfl
/-- a functional that a linear reading of the table tells -/
structure Tell (F : Fq) (a b : Int → Int → Rat) : Prop where
  coc : Coc F
  lev : ∀ P Q : Pq, P.2 = Q.2 → F P Q = 0
  cell : ∀ (r c : Int) (U V : Pq), -1 ≤ r ∧ r ≤ 1 → -1 ≤ c ∧ c ≤ 1 → 4 * (r : Rat) ≤ U.2 → 4 * (r : Rat) ≤ V.2 → U.2 ≤ 4 * (r : Rat) + 4 → V.2 ≤ 4 * (r : Rat) + 4 →
    4 * (c : Rat) ≤ U.1 → 4 * (c : Rat) ≤ V.1 → U.1 ≤ 4 * (c : Rat) + 4 → V.1 ≤ 4 * (c : Rat) + 4 → F U V = a r c * (V.2 - U.2) + b r c * ((V.2 - U.2) * (4 * (c : Rat) + 4 - (U.1 + V.1) / 2))
noncomputable def pw (a b : Int → Int → Rat) (way row : Int) (p : CP) : Rat := a row p.1 * Rat.divInt (way * p.2.1) p.2.2.1 + b row p.1 * Rat.divInt (way * p.2.2.2.1) p.2.2.2.2
theorem stat_pieces {a b : Int → Int → Rat} {way row : Int} (hr : -1 ≤ row ∧ row ≤ 1) : ∀ {l : List CP} {t : Tb}, (∀ p ∈ l, GoodP p) → stat a b (l.foldl (fun t p => t.piece way row p) t) = stat a b t + lsum (pw a b way row) l
  | [], t, _ => (Rat.add_zero _).symm
  | p :: l, t, h => by
    rw [List.foldl_cons, stat_pieces hr (fun q hq => h q (.tail _ hq))]
    unfold Tb.piece
    rw [stat_put hr (h p (.head _)).col]
    show _ = stat a b t + (pw a b way row p + lsum _ l)
    unfold pw
    rw [Rat.add_assoc]
theorem le_div {x b h : Rat} (hh : 0 < h) (e : x * h ≤ b) : x ≤ b / h := by
  rcases Rat.le_total (a := x) (b := b / h) with k | k
  · exact k
  · have := Rat.mul_nonneg (a := x - b / h) (b := h) (by grind) (by grind)
    have e2 : (x - b / h) * h = x * h - b := by grind
    have e3 : (x - b / h) * h = 0 := by grind
    rcases Rat.mul_eq_zero.mp e3 with z | z <;> grind
theorem div_le {x b h : Rat} (hh : 0 < h) (e : b ≤ x * h) : b / h ≤ x := by
  have := le_div (x := -x) (b := -b) hh (by grind)
  have e : (-b) / h = -(b / h) := by grind
  grind
theorem nonneg_of_mul {z d : Rat} (hd : 0 < d) (h : 0 ≤ z * d) : 0 ≤ z := by
  have := le_div (x := 0) (b := z * d) hd (by grind)
  have e : z * d / d = z := by grind
  grind
theorem cast_lt {i j : Int} (h : i < j) : (i : Rat) < (j : Rat) := Rat.intCast_lt_intCast.mpr h
theorem cast_le {i j : Int} (h : i ≤ j) : (i : Rat) ≤ (j : Rat) := Rat.intCast_le_intCast.mpr h
/-- the side's place at a height, and at a width times its height -/
noncomputable def atY (x1 y1 x2 y2 y : Int) : Pq := lerp (spQ (x1, y1)) (spQ (x2, y2)) (((y : Rat) - y1) / ((y2 : Rat) - y1))
noncomputable def atX (x1 y1 x2 y2 X : Int) : Pq := lerp (spQ (x1, y1)) (spQ (x2, y2)) (((X : Rat) - x1 * ((y2 : Rat) - y1)) / (((y2 : Rat) - y1) * ((x2 : Rat) - x1)))
section
variable {x1 y1 x2 y2 : Int}
theorem atX_1 {X : Int} (hy : y1 < y2) (hx : x1 ≠ x2) : (atX x1 y1 x2 y2 X).1 = (X : Rat) / ((y2 : Rat) - y1) := by
  unfold atX lerp spQ
  dsimp only
  have h1 := cast_lt hy
  have h2 : (x1 : Rat) ≠ (x2 : Rat) := fun e => hx (Rat.intCast_inj.mp e)
  have h3 : ((y2 : Rat) - y1) * ((x2 : Rat) - x1) ≠ 0 := rmul_ne (by grind) (by grind)
  grind
theorem atX_2 {X : Int} (hy : y1 < y2) (hx : x1 ≠ x2) : (atX x1 y1 x2 y2 X).2 = (y1 : Rat) + ((X : Rat) - x1 * ((y2 : Rat) - y1)) / ((x2 : Rat) - x1) := by
  unfold atX lerp spQ
  dsimp only
  have h1 := cast_lt hy
  have h2 : (x1 : Rat) ≠ (x2 : Rat) := fun e => hx (Rat.intCast_inj.mp e)
  have h3 : ((y2 : Rat) - y1) * ((x2 : Rat) - x1) ≠ 0 := rmul_ne (by grind) (by grind)
  grind
theorem atY_1 {y : Int} (hx : x1 = x2) : (atY x1 y1 x2 y2 y).1 = (x1 : Rat) := by
  subst hx; unfold atY lerp spQ; dsimp only; grind
theorem atY_2 {y : Int} (hy : y1 < y2) : (atY x1 y1 x2 y2 y).2 = (y : Rat) := by
  unfold atY lerp spQ; dsimp only
  have h1 := cast_lt hy
  grind
theorem atX_atY {y : Int} (hy : y1 < y2) (hx : x1 ≠ x2) : atX x1 y1 x2 y2 (x1 * (y2 - y1) + (x2 - x1) * (y - y1)) = atY x1 y1 x2 y2 y := by
  unfold atX atY
  congr 1
  simp only [Rat.intCast_add, Rat.intCast_mul, Rat.intCast_sub]
  have h1 := cast_lt hy
  have h2 : (x1 : Rat) ≠ (x2 : Rat) := fun e => hx (Rat.intCast_inj.mp e)
  have h3 : ((y2 : Rat) - y1) * ((x2 : Rat) - x1) ≠ 0 := rmul_ne (by grind) (by grind)
  grind
theorem atY_first (hy : y1 < y2) : atY x1 y1 x2 y2 y1 = spQ (x1, y1) := by
  unfold atY
  have : ((y1 : Rat) - y1) / ((y2 : Rat) - y1) = 0 := by grind
  rw [this, lerp_zero]
theorem atY_last (hy : y1 < y2) : atY x1 y1 x2 y2 y2 = spQ (x2, y2) := by
  unfold atY
  have h1 := cast_lt hy
  have : ((y2 : Rat) - y1) / ((y2 : Rat) - y1) = 1 := by grind
  rw [this, lerp_one]
/-- a place between two heights -/
theorem atX_mid {X up low : Int} (hy : y1 < y2) (hx : x1 ≠ x2)
    (hl : mn (x1 * (y2 - y1) + (x2 - x1) * (up - y1)) (x1 * (y2 - y1) + (x2 - x1) * (low - y1)) ≤ X) (hr : X ≤ mx (x1 * (y2 - y1) + (x2 - x1) * (up - y1)) (x1 * (y2 - y1) + (x2 - x1) * (low - y1))) (hul : up ≤ low) :
    (up : Rat) ≤ (atX x1 y1 x2 y2 X).2 ∧ (atX x1 y1 x2 y2 X).2 ≤ (low : Rat) := by
  rw [atX_2 hy hx]
  have key : ∀ y : Int, (((y1 : Rat) + ((X : Rat) - x1 * ((y2 : Rat) - y1)) / ((x2 : Rat) - x1)) - y) * ((x2 : Rat) - x1) = (X : Rat) - ((x1 * (y2 - y1) + (x2 - x1) * (y - y1) : Int) : Rat) := fun y => by
    simp only [Rat.intCast_add, Rat.intCast_mul, Rat.intCast_sub]
    have h2 : (x1 : Rat) ≠ (x2 : Rat) := fun e => hx (Rat.intCast_inj.mp e)
    grind
  have ku := key up
  have kl := key low
  generalize (y1 : Rat) + ((X : Rat) - x1 * ((y2 : Rat) - y1)) / ((x2 : Rat) - x1) = z at ku kl
  by_cases hd : x1 < x2
  · have h1 : x1 * (y2 - y1) + (x2 - x1) * (up - y1) ≤ x1 * (y2 - y1) + (x2 - x1) * (low - y1) := by
      have := Int.mul_le_mul_of_nonneg_left (a := up - y1) (b := low - y1) (c := x2 - x1) (by omega) (by omega)
      omega
    generalize x1 * (y2 - y1) + (x2 - x1) * (up - y1) = fi at *
    generalize x1 * (y2 - y1) + (x2 - x1) * (low - y1) = la at *
    have h3 : fi ≤ X := by unfold mn at hl; split at hl <;> omega
    have h4 : X ≤ la := by unfold mx at hr; split at hr <;> omega
    have h3 := cast_le h3
    have h4 := cast_le h4
    have hd := cast_lt hd
    have r1 := nonneg_of_mul (z := z - (up : Rat)) (d := (x2 : Rat) - x1) (by grind) (by grind)
    have r2 := nonneg_of_mul (z := (low : Rat) - z) (d := (x2 : Rat) - x1) (by grind) (by grind)
    constructor <;> grind
  · have h1 : x1 * (y2 - y1) + (x2 - x1) * (low - y1) ≤ x1 * (y2 - y1) + (x2 - x1) * (up - y1) := by
      have := Int.mul_le_mul_of_nonneg_left (a := up - y1) (b := low - y1) (c := x1 - x2) (by omega) (by omega)
      have e : ∀ u : Int, (x2 - x1) * u = - ((x1 - x2) * u) := fun u => by rw [← Int.neg_mul]; congr 1; omega
      rw [e, e]
      omega
    generalize x1 * (y2 - y1) + (x2 - x1) * (up - y1) = fi at *
    generalize x1 * (y2 - y1) + (x2 - x1) * (low - y1) = la at *
    have h3 : la ≤ X := by unfold mn at hl; split at hl <;> omega
    have h4 : X ≤ fi := by unfold mx at hr; split at hr <;> omega
    have h3 := cast_le h3
    have h4 := cast_le h4
    have hd := cast_lt (show x2 < x1 by omega)
    have r1 := nonneg_of_mul (z := z - (up : Rat)) (d := (x1 : Rat) - x2) (by grind) (by grind)
    have r2 := nonneg_of_mul (z := (low : Rat) - z) (d := (x1 : Rat) - x2) (by grind) (by grind)
    constructor <;> grind
end
noncomputable def sgn (x1 x2 : Int) : Rat := if x1 < x2 then 1 else -1
theorem sgn_iabs {x1 x2 : Int} : ((iabs (x2 - x1) : Int) : Rat) = sgn x1 x2 * ((x2 : Rat) - x1) := by
  unfold iabs sgn
  by_cases h : x1 < x2
  · rw [if_neg (by omega), if_pos h, Rat.intCast_sub]; grind
  · rw [if_neg h]
    by_cases h' : x2 - x1 < 0
    · rw [if_pos h', Rat.intCast_neg, Rat.intCast_sub]; grind
    · rw [if_neg h', Rat.intCast_sub]
      have : x1 = x2 := by omega
      subst this; grind
noncomputable def mid (left right h c : Int) : Int := mx left (mn right (c * 4 * h))
theorem fr_cover {way x σ dx : Rat} (hs : σ = 1 ∨ σ = -1) (hd : dx ≠ 0) : way * x / (σ * dx) = way * σ * (x / dx) := by
  rcases hs with rfl | rfl <;> grind
theorem fr_area {way e b c h σ dx : Rat} (hs : σ = 1 ∨ σ = -1) (hd : dx ≠ 0) (hh : h ≠ 0) : way * ((e - b) * (2 * ((c + 1) * 4 * h) - b - e)) / (2 * h * (σ * dx)) = way * σ * ((e - b) / dx * (4 * c + 4 - (b / h + e / h) / 2)) := by
  have h1 := rmul_ne hh hd
  rcases hs with rfl | rfl <;> grind
section
variable {F : Fq} {a b : Int → Int → Rat} {x1 y1 x2 y2 up low : Int}
theorem col_step (T : Tell F a b) (hy : y1 < y2) (hx : x1 ≠ x2) (hul : up ≤ low) {left right row c way : Int}
    (hleft : left = mn (x1 * (y2 - y1) + (x2 - x1) * (up - y1)) (x1 * (y2 - y1) + (x2 - x1) * (low - y1))) (hright : right = mx (x1 * (y2 - y1) + (x2 - x1) * (up - y1)) (x1 * (y2 - y1) + (x2 - x1) * (low - y1)))
    (hrow : -1 ≤ row ∧ row ≤ 1) (hu : 4 * row ≤ up) (hl : low ≤ 4 * row + 4) (hg : ∀ p ∈ colStep left right (y2 - y1) (iabs (x2 - x1)) c, GoodP p) :
    lsum (pw a b way row) (colStep left right (y2 - y1) (iabs (x2 - x1)) c) = (way : Rat) * sgn x1 x2 * F (atX x1 y1 x2 y2 (mid left right (y2 - y1) c)) (atX x1 y1 x2 y2 (mid left right (y2 - y1) (c + 1))) := by
  have hlr : left ≤ right := by rw [hleft, hright]; unfold mn mx; split <;> split <;> omega
  have he : c * 4 * (y2 - y1) = (c + 1) * 4 * (y2 - y1) - 4 * (y2 - y1) := by grind
  unfold mid
  rw [he]
  unfold colStep at hg ⊢
  have hpos : 0 < y2 - y1 := by omega
  have hE : (((c + 1) * 4 * (y2 - y1) : Int) : Rat) = ((c : Rat) + 1) * 4 * ((y2 : Rat) - y1) := by simp only [Rat.intCast_mul, Rat.intCast_add, Rat.intCast_sub]; rfl
  generalize (c + 1) * 4 * (y2 - y1) = edge at he hg hE ⊢
  by_cases hlt : mx left (edge - 4 * (y2 - y1)) < mn right edge
  · rw [if_pos hlt] at hg ⊢
    have hcol := (hg _ (.head _)).col
    dsimp only at hcol
    clear hg
    have m1 : mx left (mn right (edge - 4 * (y2 - y1))) = mx left (edge - 4 * (y2 - y1)) := by unfold mx mn at *; (repeat' split at hlt) <;> (repeat' split) <;> omega
    have m2 : mx left (mn right edge) = mn right edge := by unfold mx mn at *; (repeat' split at hlt) <;> (repeat' split) <;> omega
    rw [m1, m2]
    have b1 : edge - 4 * (y2 - y1) ≤ mx left (edge - 4 * (y2 - y1)) ∧ left ≤ mx left (edge - 4 * (y2 - y1)) := by unfold mx; split <;> omega
    have b2 : mn right edge ≤ edge ∧ mn right edge ≤ right := by unfold mn; split <;> omega
    generalize mx left (edge - 4 * (y2 - y1)) = bg at *
    generalize mn right edge = en at *
    have eb := atX_mid (X := bg) hy hx (by rw [← hleft]; omega) (by rw [← hright]; omega) hul
    have ee := atX_mid (X := en) hy hx (by rw [← hleft]; omega) (by rw [← hright]; omega) hul
    have hu := cast_le hu
    have hl := cast_le hl
    have hh : (0 : Rat) < (y2 : Rat) - y1 := by have := cast_lt hy; grind
    have hdx : (x2 : Rat) - x1 ≠ 0 := by have : (x1 : Rat) ≠ (x2 : Rat) := fun e => hx (Rat.intCast_inj.mp e); grind
    simp only [Rat.intCast_mul, Rat.intCast_add] at hu hl
    have c1 : (edge : Rat) - 4 * ((y2 : Rat) - y1) ≤ bg := by
      have := cast_le b1.1
      simp only [Rat.intCast_mul, Rat.intCast_sub] at this
      exact this
    have c2 := cast_le b2.1
    have c3 := cast_lt hlt
    have key := T.cell row c (atX x1 y1 x2 y2 bg) (atX x1 y1 x2 y2 en) hrow hcol (Rat.le_trans hu eb.1) (Rat.le_trans hu ee.1) (Rat.le_trans eb.2 hl) (Rat.le_trans ee.2 hl)
      (by rw [atX_1 hy hx]; exact le_div hh (by rw [hE] at c1; grind)) (by rw [atX_1 hy hx]; exact le_div hh (by rw [hE] at c1; grind)) (by rw [atX_1 hy hx]; exact div_le hh (by rw [hE] at c2; grind)) (by rw [atX_1 hy hx]; exact div_le hh (by rw [hE] at c2; grind))
    rw [key, atX_1 hy hx, atX_1 hy hx, atX_2 hy hx, atX_2 hy hx]
    show pw a b way row _ + 0 = _
    unfold pw
    dsimp only
    rw [Rat.divInt_eq_div, Rat.divInt_eq_div]
    simp only [Rat.intCast_mul, Rat.intCast_sub]
    rw [sgn_iabs, hE]
    have hs : sgn x1 x2 = 1 ∨ sgn x1 x2 = -1 := by unfold sgn; split; exact .inl rfl; exact .inr rfl
    have f1 := fr_cover (way := (way : Rat)) (x := (en : Rat) - bg) hs hdx
    have f2 := fr_area (way := (way : Rat)) (e := (en : Rat)) (b := (bg : Rat)) (c := (c : Rat)) (h := (y2 : Rat) - y1) hs hdx (by grind)
    have e2 : ((2 : Int) : Rat) = 2 := rfl
    rw [e2, f1, f2]
    have e3 : (y1 : Rat) + ((en : Rat) - x1 * ((y2 : Rat) - y1)) / ((x2 : Rat) - x1) - ((y1 : Rat) + ((bg : Rat) - x1 * ((y2 : Rat) - y1)) / ((x2 : Rat) - x1)) = ((en : Rat) - bg) / ((x2 : Rat) - x1) := by grind
    rw [e3]
    generalize ((en : Rat) - bg) / ((x2 : Rat) - x1) = u
    generalize (4 * (c : Rat) + 4 - ((bg : Rat) / ((y2 : Rat) - y1) + (en : Rat) / ((y2 : Rat) - y1)) / 2) = v
    grind
  · rw [if_neg hlt]
    have : mx left (mn right (edge - 4 * (y2 - y1))) = mx left (mn right edge) := by unfold mx mn at *; (repeat' split at hlt) <;> (repeat' split) <;> omega
    rw [this, T.coc.self]
    show (0 : Rat) = _
    grind
theorem col_cols (T : Tell F a b) (hy : y1 < y2) (hx : x1 ≠ x2) (hul : up ≤ low) {left right row way hi : Int}
    (hleft : left = mn (x1 * (y2 - y1) + (x2 - x1) * (up - y1)) (x1 * (y2 - y1) + (x2 - x1) * (low - y1))) (hright : right = mx (x1 * (y2 - y1) + (x2 - x1) * (up - y1)) (x1 * (y2 - y1) + (x2 - x1) * (low - y1)))
    (hrow : -1 ≤ row ∧ row ≤ 1) (hu : 4 * row ≤ up) (hl : low ≤ 4 * row + 4) : ∀ (n : Nat) (c : Int), (hi - c).toNat = n → c ≤ hi → (∀ d ∈ colsI c hi, ∀ p ∈ colStep left right (y2 - y1) (iabs (x2 - x1)) d, GoodP p) →
    lsum (fun c => lsum (pw a b way row) (colStep left right (y2 - y1) (iabs (x2 - x1)) c)) (colsI c hi) = (way : Rat) * sgn x1 x2 * F (atX x1 y1 x2 y2 (mid left right (y2 - y1) c)) (atX x1 y1 x2 y2 (mid left right (y2 - y1) hi)) := by
  intro n
  induction n with
  | zero =>
    intro c hn hc hg
    have : c = hi := by omega
    subst this
    rw [colsI_nil (Int.le_refl _), T.coc.self]
    show (0 : Rat) = _
    grind
  | succ n ih =>
    intro c hn hc hg
    have hlt : c < hi := by omega
    rw [colsI_cons hlt] at hg ⊢
    show lsum (pw a b way row) (colStep left right (y2 - y1) (iabs (x2 - x1)) c) + lsum _ (colsI (c + 1) hi) = _
    rw [col_step T hy hx hul hleft hright hrow hu hl (hg c (.head _)), ih (c + 1) (by omega) (by omega) (fun d hd => hg d (.tail _ hd)), ← Rat.mul_add]
    congr 1
    exact (T.coc _ _ _ _ _).symm
/-- the pieces of a side within a row -/
theorem col_all (T : Tell F a b) {way row : Int} (hs : GoodS (x1, y1, x2, y2, way)) (hu1 : y1 ≤ up) (hul : up < low) (hl2 : low ≤ y2) (hrow : -1 ≤ row ∧ row ≤ 1) (hu : 4 * row ≤ up) (hl : low ≤ 4 * row + 4) :
    lsum (pw a b way row) (colP x1 y1 x2 y2 up low) = (way : Rat) * F (atY x1 y1 x2 y2 up) (atY x1 y1 x2 y2 low) := by
  have hgood : ∀ p ∈ colP x1 y1 x2 y2 up low, GoodP p := fun p hp => colP_good hs hu1 (by dsimp only; omega) (by dsimp only; omega) hl2 hp
  have hy : y1 < y2 := hs.y
  unfold colP at hgood ⊢
  by_cases hx : x1 = x2
  · rw [if_pos hx] at hgood ⊢
    have hcol := (hgood _ (.head _)).col
    dsimp only at hcol
    have hf := Int.fdiv_eq_ediv_of_nonneg x1 (b := 4) (by decide)
    have q1 : 4 * x1.fdiv 4 ≤ x1 := by omega
    have q2 : x1 ≤ 4 * x1.fdiv 4 + 4 := by omega
    generalize x1.fdiv 4 = c at *
    have q1 := cast_le q1
    have q2 := cast_le q2
    have hu := cast_le hu
    have hl := cast_le hl
    have hul := cast_lt hul
    simp only [Rat.intCast_mul, Rat.intCast_add] at q1 q2 hu hl
    have e4 : ((4 : Int) : Rat) = 4 := rfl
    rw [e4] at q1 q2 hu hl
    have key := T.cell row c (atY x1 y1 x2 y2 up) (atY x1 y1 x2 y2 low) hrow hcol (by rw [atY_2 hy]; exact hu) (by rw [atY_2 hy]; grind) (by rw [atY_2 hy]; grind) (by rw [atY_2 hy]; exact hl)
      (by rw [atY_1 hx]; exact q1) (by rw [atY_1 hx]; exact q1) (by rw [atY_1 hx]; exact q2) (by rw [atY_1 hx]; exact q2)
    rw [key, atY_1 hx, atY_1 hx, atY_2 hy, atY_2 hy]
    show pw a b way row _ + 0 = _
    unfold pw
    dsimp only
    rw [Rat.divInt_eq_div, Rat.divInt_eq_div]
    simp only [Rat.intCast_mul, Rat.intCast_sub, Rat.intCast_add]
    have e1 : ((1 : Int) : Rat) = 1 := rfl
    rw [e1, e4]
    grind
  · rw [if_neg hx] at hgood ⊢
    generalize hleft : mn (x1 * (y2 - y1) + (x2 - x1) * (up - y1)) (x1 * (y2 - y1) + (x2 - x1) * (low - y1)) = left at *
    generalize hright : mx (x1 * (y2 - y1) + (x2 - x1) * (up - y1)) (x1 * (y2 - y1) + (x2 - x1) * (low - y1)) = right at *
    have hlr : left ≤ right := by rw [← hleft, ← hright]; unfold mn mx; split <;> split <;> omega
    unfold colLoop at hgood ⊢
    rw [lsum_flatMap]
    have hh : 0 < (y2 - y1) * 4 := by omega
    have r1 : left.fdiv ((y2 - y1) * 4) * 4 * (y2 - y1) ≤ left := by
      have e := Int.fdiv_eq_ediv_of_nonneg left (b := (y2 - y1) * 4) (by omega)
      have := Int.ediv_mul_le left (b := (y2 - y1) * 4) (by omega)
      rw [e]
      have e2 : left / ((y2 - y1) * 4) * 4 * (y2 - y1) = left / ((y2 - y1) * 4) * ((y2 - y1) * 4) := by grind
      omega
    have r2 : right ≤ (right.fdiv ((y2 - y1) * 4) + 1) * 4 * (y2 - y1) := by
      have e := Int.fdiv_eq_ediv_of_nonneg right (b := (y2 - y1) * 4) (by omega)
      have := Int.lt_ediv_add_one_mul_self right hh
      rw [e]
      have e2 : (right / ((y2 - y1) * 4) + 1) * 4 * (y2 - y1) = (right / ((y2 - y1) * 4) + 1) * ((y2 - y1) * 4) := by grind
      omega
    have r3 : left.fdiv ((y2 - y1) * 4) ≤ right.fdiv ((y2 - y1) * 4) + 1 := by
      rw [Int.fdiv_eq_ediv_of_nonneg left (by omega), Int.fdiv_eq_ediv_of_nonneg right (by omega)]
      have := Int.ediv_le_ediv hh hlr
      omega
    rw [col_cols T hy hx (Int.le_of_lt hul) hleft.symm hright.symm hrow hu hl _ _ rfl r3 (fun d hd p hp => hgood p (List.mem_flatMap.mpr ⟨d, hd, hp⟩))]
    have m1 : mid left right (y2 - y1) (left.fdiv ((y2 - y1) * 4)) = left := by unfold mid mx mn; (repeat' split) <;> omega
    have m2 : mid left right (y2 - y1) (right.fdiv ((y2 - y1) * 4) + 1) = right := by unfold mid mx mn; (repeat' split) <;> omega
    rw [m1, m2]
    rw [← atX_atY hy hx, ← atX_atY (y := low) hy hx]
    unfold sgn
    by_cases hd : x1 < x2
    · have h1 : x1 * (y2 - y1) + (x2 - x1) * (up - y1) ≤ x1 * (y2 - y1) + (x2 - x1) * (low - y1) := by
        have := Int.mul_le_mul_of_nonneg_left (a := up - y1) (b := low - y1) (c := x2 - x1) (by omega) (by omega)
        omega
      generalize x1 * (y2 - y1) + (x2 - x1) * (up - y1) = fi at *
      generalize x1 * (y2 - y1) + (x2 - x1) * (low - y1) = la at *
      have e1 : left = fi := by rw [← hleft]; unfold mn; split <;> omega
      have e2 : right = la := by rw [← hright]; unfold mx; split <;> omega
      rw [if_pos hd, e1, e2]; grind
    · have h1 : x1 * (y2 - y1) + (x2 - x1) * (low - y1) ≤ x1 * (y2 - y1) + (x2 - x1) * (up - y1) := by
        have := Int.mul_le_mul_of_nonneg_left (a := up - y1) (b := low - y1) (c := x1 - x2) (by omega) (by omega)
        have e : ∀ u : Int, (x2 - x1) * u = - ((x1 - x2) * u) := fun u => by rw [← Int.neg_mul]; congr 1; omega
        rw [e, e]
        omega
      generalize x1 * (y2 - y1) + (x2 - x1) * (up - y1) = fi at *
      generalize x1 * (y2 - y1) + (x2 - x1) * (low - y1) = la at *
      have e1 : left = la := by rw [← hleft]; unfold mn; split <;> omega
      have e2 : right = fi := by rw [← hright]; unfold mx; split <;> omega
      rw [if_neg hd, e1, e2, T.coc.anti (atX x1 y1 x2 y2 fi)]; grind
end
section
variable {F : Fq} {a b : Int → Int → Rat}
theorem stat_rows (T : Tell F a b) {s : Sd} (hs : GoodS s) : ∀ (n : Nat) (y : Int) (t : Tb), (s.2.2.2.1 - y).toNat ≤ n → s.2.1 ≤ y → y ≤ s.2.2.2.1 →
    stat a b ((rowP n y s.2.2.2.1).foldl (fun t rp => t.rowp s rp) t) = stat a b t + (s.2.2.2.2 : Rat) * F (atY s.1 s.2.1 s.2.2.1 s.2.2.2.1 y) (atY s.1 s.2.1 s.2.2.1 s.2.2.2.1 s.2.2.2.1) := by
  obtain ⟨x1, y1, x2, y2, way⟩ := s
  dsimp only
  intro n
  induction n with
  | zero =>
    intro y t h1 h2 h3
    have : y = y2 := by omega
    subst this
    rw [T.coc.self]
    show stat a b t = _
    grind
  | succ n ih =>
    intro y t h1 h2 h3
    by_cases hy : y < y2
    · have hf := Int.fdiv_eq_ediv_of_nonneg y (b := 4) (by decide)
      rw [rowP, if_pos hy, List.foldl_cons]
      have q : y < (if y2 < (y.fdiv 4 + 1) * 4 then y2 else (y.fdiv 4 + 1) * 4) ∧ (if y2 < (y.fdiv 4 + 1) * 4 then y2 else (y.fdiv 4 + 1) * 4) ≤ y2 ∧ (if y2 < (y.fdiv 4 + 1) * 4 then y2 else (y.fdiv 4 + 1) * 4) ≤ 4 * y.fdiv 4 + 4 := by
        refine ⟨?_, ?_, ?_⟩ <;> split <;> omega
      generalize (if y2 < (y.fdiv 4 + 1) * 4 then y2 else (y.fdiv 4 + 1) * 4) = low at *
      obtain ⟨q1, q2, q3⟩ := q
      have b1 := hs.y1
      have b2 := hs.y2
      dsimp only at b1 b2
      have hrow : -1 ≤ y.fdiv 4 ∧ y.fdiv 4 ≤ 1 := by omega
      rw [ih low _ (by omega) (by omega) q2]
      have e : stat a b (t.rowp (x1, y1, x2, y2, way) (y.fdiv 4, y, low)) = stat a b t + (way : Rat) * F (atY x1 y1 x2 y2 y) (atY x1 y1 x2 y2 low) := by
        unfold Tb.rowp
        rw [stat_pieces hrow (fun p hp => colP_good hs h2 (by dsimp only; omega) (by dsimp only; omega) q2 hp)]
        dsimp only
        rw [col_all T hs h2 q1 q2 hrow (by omega) q3]
      rw [e]
      have := T.coc (spQ (x1, y1)) (spQ (x2, y2)) (((y : Rat) - y1) / ((y2 : Rat) - y1)) (((low : Rat) - y1) / ((y2 : Rat) - y1)) (((y2 : Rat) - y1) / ((y2 : Rat) - y1))
      unfold atY
      rw [this]
      grind
    · rw [rowP, if_neg hy]
      have : y = y2 := by omega
      subst this
      rw [T.coc.self]
      show stat a b t = _
      grind
noncomputable def sdF (F : Fq) (s : Sd) : Rat := (s.2.2.2.2 : Rat) * F (spQ (s.1, s.2.1)) (spQ (s.2.2.1, s.2.2.2.1))
theorem stat_side (T : Tell F a b) {s : Sd} (hs : GoodS s) (t : Tb) : stat a b (t.side s) = stat a b t + sdF F s := by
  unfold Tb.side sdF
  have hy : s.2.1 < s.2.2.2.1 := hs.y
  rw [stat_rows T hs _ _ _ (Nat.le_refl _) (Int.le_refl _) (Int.le_of_lt hy), atY_first hy, atY_last hy]
theorem stat_sides (T : Tell F a b) : ∀ {l : List Sd} (t : Tb), (∀ s ∈ l, GoodS s) → stat a b (t.sides l) = stat a b t + lsum (sdF F) l
  | [], t, _ => (Rat.add_zero _).symm
  | s :: l, t, h => by
    show stat a b ((t.side s).sides l) = _ + (sdF F s + lsum _ l)
    rw [stat_sides T _ (fun s hs => h s (.tail _ hs)), stat_side T (h s (.head _)), Rat.add_assoc]
theorem stat_empty : stat a b Tb.empty = 0 := by
  have : ∀ r c, Tb.empty.v r c = (0, 0) := fun _ _ => rfl
  unfold stat sum3
  simp only [this]
  grind
theorem sds_sum (T : Tell F a b) (e : (Int × Int) × (Int × Int)) : lsum (sdF F) (sdsOf e) = F (spQ e.1) (spQ e.2) := by
  unfold sdsOf
  by_cases h : e.1.2 = e.2.2
  · rw [if_pos h, T.lev _ _ (show ((e.1.2 : Int) : Rat) = (e.2.2 : Rat) by rw [h])]; rfl
  · rw [if_neg h]
    show sdF F (sdOf e) + 0 = _
    unfold sdOf sdF
    by_cases h' : e.1.2 < e.2.2
    · rw [if_pos h']
      show ((1 : Int) : Rat) * F (spQ e.1) (spQ e.2) + 0 = _
      have e1 : ((1 : Int) : Rat) = 1 := rfl
      rw [e1]; grind
    · rw [if_neg h']
      show ((-1 : Int) : Rat) * F (spQ e.2) (spQ e.1) + 0 = _
      have e1 : ((-1 : Int) : Rat) = -1 := rfl
      rw [e1, T.coc.anti (spQ e.1)]; grind
theorem lsum_congr {α : Type} {f g : α → Rat} (h : ∀ x, f x = g x) (l : List α) : lsum f l = lsum g l := by
  have : f = g := funext h
  rw [this]
theorem pairs_zip {α : Type} : ∀ (a : α) (r : List α), (a :: r).zip r = pairs a r
  | a, [] => rfl
  | a, b :: r => by show (a, b) :: (b :: r).zip r = (a, b) :: pairs b r; rw [pairs_zip b r]
theorem pairs_sum (F : Fq) : ∀ (p : Int × Int) (r : List (Int × Int)), lsum (fun e => F (spQ e.1) (spQ e.2)) (pairs p r) = csum F (spQ p) (r.map spQ)
  | p, [] => rfl
  | p, a :: r => by
    show F (spQ p) (spQ a) + lsum _ (pairs a r) = F (spQ p) (spQ a) + csum F (spQ a) (r.map spQ)
    rw [pairs_sum F a r]
theorem last_spQ : ∀ (p : Int × Int) (r : List (Int × Int)), last (spQ p) (r.map spQ) = spQ ((p :: r).getLast (List.cons_ne_nil _ _))
  | p, [] => rfl
  | p, a :: r => by
    show last (spQ a) (r.map spQ) = _
    rw [last_spQ a r]; rfl
theorem edges_sum (F : Fq) (l : List (Int × Int)) : lsum (fun e => F (spQ e.1) (spQ e.2)) (edges l) = around F (l.map spQ) := by
  cases l with
  | nil => rfl
  | cons a r =>
    have hz : (a :: r).getLast? = some ((a :: r).getLast (List.cons_ne_nil _ _)) := List.getLast?_eq_some_getLast _
    have ha : (a :: r).head? = some a := rfl
    unfold edges
    rw [hz, ha]
    show lsum _ ((a :: r).zip r ++ [((a :: r).getLast _, a)]) = csum F (last (spQ a) (r.map spQ)) (spQ a :: r.map spQ)
    rw [pairs_zip, lsum_append, pairs_sum, last_spQ]
    show csum F (spQ a) (r.map spQ) + (F _ _ + 0) = F _ _ + csum F (spQ a) (r.map spQ)
    rw [Rat.add_zero, Rat.add_comm]
/-- a linear reading of the table, as a sum around the contour -/
theorem stat_around (T : Tell F a b) {l : List (Int × Int)} (h : ∀ p ∈ l, InS p) : stat a b (Tb.empty.sides (sidesL l)) = around F (l.map spQ) := by
  rw [stat_sides T _ (sidesL_good h), stat_empty, Rat.zero_add]
  unfold sidesL
  rw [lsum_flatMap, ← edges_sum]
  exact lsum_congr (sds_sum T) _
end
-- the three readings
theorem c4 (i : Int) : ((4 * i : Int) : Rat) = 4 * (i : Rat) ∧ ((4 * i + 4 : Int) : Rat) = 4 * (i : Rat) + 4 := by
  constructor
  · rw [Rat.intCast_mul]; rfl
  · rw [Rat.intCast_add, Rat.intCast_mul]; rfl
theorem cast_step {i j : Int} (h : i < j) : 4 * (i : Rat) + 4 ≤ 4 * (j : Rat) := by
  have := cast_le (show i + 1 ≤ j by omega)
  rw [Rat.intCast_add] at this
  have e1 : ((1 : Int) : Rat) = 1 := rfl
  rw [e1] at this
  grind
noncomputable def aH (c r : Int) : Int → Int → Rat := fun r' c' => if r' = r then (if c' < c then 8 else 0) else 0
noncomputable def bH (c r : Int) : Int → Int → Rat := fun r' c' => if r' = r then (if c' = c then 2 else 0) else 0
theorem tell_H (c r : Int) : Tell (HF ((4 * c : Int) : Rat) ((4 * c + 4 : Int) : Rat) ((4 * r : Int) : Rat) ((4 * r + 4 : Int) : Rat)) (aH c r) (bH c r) := by
  refine ⟨coc_H _ _ _ _, fun P Q h => H_lev h, fun r' c' U V hr hc k1 k2 k3 k4 k5 k6 k7 k8 => ?_⟩
  rw [(c4 c).1, (c4 c).2, (c4 r).1, (c4 r).2]
  unfold aH bH
  by_cases hrr : r' = r
  · subst hrr
    rw [if_pos rfl, if_pos rfl]
    rcases Int.lt_trichotomy c' c with h | h | h
    · have := cast_step h
      rw [if_pos h, if_neg (by omega), H_left (by grind) k1 k2 k3 k4 (by grind) (by grind)]; grind
    · subst h
      rw [if_neg (by omega), if_pos rfl, H_in k1 k2 k3 k4 k5 k6 k7 k8]; grind
    · have := cast_step h
      rw [if_neg (by omega), if_neg (by omega), H_right (by grind) k1 k2 k3 k4 (by grind) (by grind)]; grind
  · rw [if_neg hrr, if_neg hrr]
    rcases Int.lt_or_gt_of_ne hrr with h | h
    · have := cast_step h
      rw [H_lo (by grind) (by grind)]; grind
    · have := cast_step h
      rw [H_hi (by grind) (by grind)]; grind
theorem tell_w (r : Int) : Tell (wF ((4 * r : Int) : Rat) ((4 * r + 4 : Int) : Rat)) (fun r' _ => if r' = r then 1 else 0) (fun _ _ => 0) := by
  refine ⟨coc_w _ _, fun P Q h => w_lev h, fun r' c' U V hr hc k1 k2 k3 k4 k5 k6 k7 k8 => ?_⟩
  rw [(c4 r).1, (c4 r).2]
  by_cases hrr : r' = r
  · subst hrr
    rw [if_pos rfl, w_in k1 k2 k3 k4]; grind
  · rw [if_neg hrr]
    rcases Int.lt_or_gt_of_ne hrr with h | h
    · have := cast_step h
      rw [w_lo (by grind) (by grind)]; grind
    · have := cast_step h
      rw [w_hi (by grind) (by grind)]; grind
theorem tell_g : Tell (gR 8) (fun _ c => 2 * (8 - (4 * (c : Rat) + 4))) (fun _ _ => 2) := by
  refine ⟨coc_gR _, fun P Q h => gR_z h, fun r' c' U V hr hc k1 k2 k3 k4 k5 k6 k7 k8 => ?_⟩
  unfold gR
  grind
-- the dots
section
variable {t : Tb} (K : Ft t)
include K
theorem v_off {r c : Int} (h : c ∉ t.cols r) : (t.v r c).1 = 0 ∧ (t.v r c).2 = 0 := by rw [K.nc r c h]; exact ⟨rfl, rfl⟩
theorem ahead_m1 (r : Int) : ahead t r (-1) = 0 := by
  unfold ahead
  have key : ∀ (l : List Int) (q : Rat), (∀ c ∈ l, -1 ≤ c) → l.foldl (fun q c' => if c' < -1 then q + (t.v r c').1 else q) q = q := by
    intro l
    induction l with
    | nil => exact fun q _ => rfl
    | cons c l ih =>
      intro q h
      rw [List.foldl_cons, if_neg (by have := h c (.head _); omega)]
      exact ih q fun c hc => h c (.tail _ hc)
  exact key _ 0 fun c hc => (K.cr r c hc).1
theorem ahead_0 (r : Int) : ahead t r 0 = (t.v r (-1)).1 := by
  have := ahead_step K r (-1)
  rw [ahead_m1 K, Rat.zero_add] at this; exact this
theorem ahead_1 (r : Int) : ahead t r 1 = (t.v r (-1)).1 + (t.v r 0).1 := by
  have := ahead_step K r 0
  rw [ahead_0 K] at this; exact this
theorem ahead_2 (r : Int) : ahead t r 2 = (t.v r (-1)).1 + (t.v r 0).1 + (t.v r 1).1 := by
  have := ahead_step K r 1
  rw [ahead_1 K] at this; exact this
theorem area_stat {r c : Int} (hr : -1 ≤ r ∧ r ≤ 1) (hc : -1 ≤ c ∧ c ≤ 2) : areaAt t r c * 16 * 2 = stat (aH c r) (bH c r) t := by
  have e : stat (aH c r) (bH c r) t = sum3 fun c' => (if c' < c then 8 else 0) * (t.v r c').1 + (if c' = c then 2 else 0) * (t.v r c').2 := by
    unfold stat aH bH
    have : r = -1 ∨ r = 0 ∨ r = 1 := by omega
    rcases this with rfl | rfl | rfl <;> unfold sum3 <;> simp <;> grind
  rw [e]
  unfold areaAt sum3
  have h2 : (t.v r 2).2 = 0 := (v_off K fun h => by have := K.cr r 2 h; omega).2
  have : c = -1 ∨ c = 0 ∨ c = 1 ∨ c = 2 := by omega
  rcases this with rfl | rfl | rfl | rfl
  · rw [ahead_m1 K]; simp; grind
  · rw [ahead_0 K]; simp; grind
  · rw [ahead_1 K]; simp; grind
  · rw [ahead_2 K, h2]; simp; grind
end
/-- M1: a dot's area is what the law's cuts leave -/
theorem area_due {spots : List (Int × Int)} (h : ∀ p ∈ spots, InS p) (K : Ft (Tb.empty.sides (sidesL spots))) {r c : Int} (hr : -1 ≤ r ∧ r ≤ 1) (hc : -1 ≤ c ∧ c ≤ 2) :
    areaAt (Tb.empty.sides (sidesL spots)) r c * 16 * 2 = ((areaL (dueP spots c r)).1 : Rat) / ((areaL (dueP spots c r)).2 : Rat) ∧ 0 < (areaL (dueP spots c r)).2 := by
  obtain ⟨h1, h2⟩ := due_val spots c r
  exact ⟨by rw [area_stat K hr hc, stat_around (tell_H c r) h, ← h1]; rfl, h2⟩
theorem mem_sum3 {f : Int → Rat} : ∀ {l : List Int}, l.Nodup → (∀ i ∈ l, -1 ≤ i ∧ i ≤ 1) → lsum f l = sum3 fun i => if i ∈ l then f i else 0
  | [], _, _ => by
    show (0 : Rat) = _
    unfold sum3
    simp only [List.not_mem_nil, if_false]; grind
  | a :: l, hn, hr => by
    rw [List.nodup_cons] at hn
    show f a + lsum f l = _
    rw [mem_sum3 hn.2 (fun i hi => hr i (.tail _ hi)), Rat.add_comm, ← sum3_bump (hr a (.head _))]
    congr 1
    funext i
    by_cases h : i = a
    · subst h
      rw [if_neg hn.1, if_pos rfl, if_pos (.head _), Rat.zero_add]
    · rw [if_neg h, Rat.add_zero]
      have : (i ∈ a :: l) = (i ∈ l) := by simp [h]
      simp only [this]
theorem foldl_lsum {α : Type} (f : α → Rat) : ∀ (l : List α) (q : Rat), l.foldl (fun q x => q + f x) q = q + lsum f l
  | [], q => (Rat.add_zero _).symm
  | a :: l, q => by
    rw [List.foldl_cons, foldl_lsum f l]
    show q + f a + lsum f l = q + (f a + lsum f l)
    rw [Rat.add_assoc]
noncomputable def rowY (t : Tb) (r : Int) : Rat := sum3 fun c => 2 * (8 - (4 * (c : Rat) + 4)) * (t.v r c).1 + 2 * (t.v r c).2
theorem colsI_3 {lo hi : Int} (h1 : -1 ≤ lo) (h2 : lo ≤ hi) (h3 : hi ≤ 1) : (lo = hi ∧ colsI lo (hi + 1) = [lo]) ∨ (lo = -1 ∧ hi = 0 ∧ colsI lo (hi + 1) = [-1, 0]) ∨ (lo = 0 ∧ hi = 1 ∧ colsI lo (hi + 1) = [0, 1]) ∨ (lo = -1 ∧ hi = 1 ∧ colsI lo (hi + 1) = [-1, 0, 1]) := by
  have a : lo = -1 ∨ lo = 0 ∨ lo = 1 := by omega
  have b : hi = -1 ∨ hi = 0 ∨ hi = 1 := by omega
  rcases a with rfl | rfl | rfl <;> rcases b with rfl | rfl | rfl <;> first | omega | exact .inl ⟨rfl, rfl⟩ | exact .inr (.inl ⟨rfl, rfl, rfl⟩) | exact .inr (.inr (.inl ⟨rfl, rfl, rfl⟩)) | exact .inr (.inr (.inr ⟨rfl, rfl, rfl⟩))
section
variable {t : Tb} (K : Ft t)
include K
theorem row_sum {r lo hi : Int} (hz : sum3 (fun c => (t.v r c).1) = 0) (hlo : lo ∈ t.cols r) (hhi : hi ∈ t.cols r) (hb : ∀ c ∈ t.cols r, lo ≤ c ∧ c ≤ hi) : lsum (fun c => areaAt t r c) (colsI lo (hi + 1)) * 32 = rowY t r := by
  have off : ∀ c, c < lo ∨ hi < c → (t.v r c).1 = 0 ∧ (t.v r c).2 = 0 := fun c hc => v_off K fun h => by have := hb c h; omega
  have l1 := (K.cr r lo hlo).1
  have l2 := (K.cr r hi hhi).2
  have l3 := (hb lo hlo).2
  have n1 : ((-1 : Int) : Rat) = -1 := rfl
  have n0 : ((0 : Int) : Rat) = 0 := rfl
  have np : ((1 : Int) : Rat) = 1 := rfl
  unfold rowY
  unfold sum3 at *
  dsimp only at hz ⊢
  rw [n1, n0, np]
  have e1 := ahead_m1 K r
  have e2 := ahead_0 K r
  have e3 := ahead_1 K r
  rcases colsI_3 l1 l3 l2 with ⟨h1, h⟩ | ⟨h1, h2, h⟩ | ⟨h1, h2, h⟩ | ⟨h1, h2, h⟩
  · rw [h]
    unfold lsum lsum areaAt
    have : lo = -1 ∨ lo = 0 ∨ lo = 1 := by omega
    rcases this with h2 | h2 | h2
    · obtain ⟨o1, o2⟩ := off 0 (by omega)
      obtain ⟨o3, o4⟩ := off 1 (by omega)
      rw [h2, e1]; grind
    · obtain ⟨o1, o2⟩ := off (-1) (by omega)
      obtain ⟨o3, o4⟩ := off 1 (by omega)
      rw [h2, e2]; grind
    · obtain ⟨o1, o2⟩ := off (-1) (by omega)
      obtain ⟨o3, o4⟩ := off 0 (by omega)
      rw [h2, e3]; grind
  · rw [h]
    obtain ⟨o3, o4⟩ := off 1 (by omega)
    simp only [lsum, areaAt, e1, e2]; grind
  · rw [h]
    obtain ⟨o1, o2⟩ := off (-1) (by omega)
    simp only [lsum, areaAt, e2, e3]; grind
  · rw [h]
    simp only [lsum, areaAt, e1, e2, e3]; grind
theorem whole_rows {lo hi : Int → Int} (hz : ∀ r, -1 ≤ r ∧ r ≤ 1 → sum3 (fun c => (t.v r c).1) = 0) (hb : ∀ r ∈ t.rows, lo r ∈ t.cols r ∧ hi r ∈ t.cols r ∧ ∀ c ∈ t.cols r, lo r ≤ c ∧ c ≤ hi r) : wholeS t lo hi * 32 = sum3 (rowY t) := by
  have e : wholeS t lo hi = lsum (fun r => lsum (fun c => areaAt t r c) (colsI (lo r) (hi r + 1))) t.rows := by
    unfold wholeS
    have : (fun (q : Rat) (r : Int) => (colsI (lo r) (hi r + 1)).foldl (fun q c => q + areaAt t r c) q) = fun q r => q + lsum (fun c => areaAt t r c) (colsI (lo r) (hi r + 1)) := by
      funext q r; exact foldl_lsum _ _ _
    rw [this, foldl_lsum, Rat.zero_add]
  have m : ∀ (l : List Int), (∀ r ∈ l, r ∈ t.rows) → lsum (fun r => lsum (fun c => areaAt t r c) (colsI (lo r) (hi r + 1))) l * 32 = lsum (rowY t) l := by
    intro l
    induction l with
    | nil => intro _; show (0 : Rat) * 32 = 0; grind
    | cons r l ih =>
      intro h
      have hr := h r (.head _)
      obtain ⟨h1, h2, h3⟩ := hb r hr
      show (lsum (fun c => areaAt t r c) (colsI (lo r) (hi r + 1)) + lsum _ l) * 32 = rowY t r + lsum _ l
      rw [Rat.add_mul, ih (fun r hr => h r (.tail _ hr)), row_sum K (hz r (K.rr r hr)) h1 h2 h3]
  rw [e, m _ fun r h => h, mem_sum3 K.rn K.rr]
  congr 1
  funext r
  split
  · rfl
  · rename_i h
    have : ∀ c, (t.v r c).1 = 0 ∧ (t.v r c).2 = 0 := fun c => v_off K (by rw [K.nr r h]; exact List.not_mem_nil)
    unfold rowY sum3
    simp only [this]
    grind
end
noncomputable def twI (e : (Int × Int) × (Int × Int)) : Int := e.2.1 * e.1.2 - e.1.1 * e.2.2
/-- the law's items of twice the area -/
noncomputable def twS (l : List (Int × Int)) : List Int := (cyc (0, 0) l).map twI
theorem tw_pairs : ∀ (p : Int × Int) (r : List (Int × Int)), ((((pairs p r).map twI).sum : Int) : Rat) = csum alF (spQ p) (r.map spQ)
  | p, [] => rfl
  | p, a :: r => by
    show (((twI (p, a) :: (pairs a r).map twI).sum : Int) : Rat) = alF (spQ p) (spQ a) + csum alF (spQ a) (r.map spQ)
    rw [List.sum_cons, Rat.intCast_add, tw_pairs a r]
    congr 1
    unfold twI alF spQ
    simp only [Rat.intCast_sub, Rat.intCast_mul]
theorem tw_around (l : List (Int × Int)) : (((twS l).sum : Int) : Rat) = around alF (l.map spQ) := by
  unfold twS around
  rw [cyc_pairs, tw_pairs]
  cases l with
  | nil => rfl
  | cons a r =>
    congr 1
    show spQ _ = last (spQ a) (r.map spQ)
    rw [last_spQ, List.getLast_eq_getElem, List.getD_eq_getElem?_getD, List.getElem?_eq_getElem (by simp)]
    rfl
/-- M2: the whole -/
theorem whole_due {spots : List (Int × Int)} (h : ∀ p ∈ spots, InS p) (K : Ft (Tb.empty.sides (sidesL spots))) {lo hi : Int → Int}
    (hb : ∀ r ∈ (Tb.empty.sides (sidesL spots)).rows, lo r ∈ (Tb.empty.sides (sidesL spots)).cols r ∧ hi r ∈ (Tb.empty.sides (sidesL spots)).cols r ∧ ∀ c ∈ (Tb.empty.sides (sidesL spots)).cols r, lo r ≤ c ∧ c ≤ hi r) :
    wholeS (Tb.empty.sides (sidesL spots)) lo hi * 32 = (((twS spots).sum : Int) : Rat) := by
  rw [whole_rows K (fun r hr => ?_) hb, tw_around, around_al 8, ← stat_around tell_g h]
  · rfl
  · have e := stat_around (tell_w r) h
    rw [around_w] at e
    rw [← e]
    unfold stat
    have : r = -1 ∨ r = 0 ∨ r = 1 := by omega
    rcases this with rfl | rfl | rfl <;> unfold sum3 <;> simp <;> grind
theorem tw_rev {l : List (Int × Int)} (h3 : 3 ≤ l.length) (h4 : l.length ≤ 4) : (twS l.reverse).sum = - (twS l).sum := by
  rcases (show l.length = 3 ∨ l.length = 4 by omega) with h | h
  · exact len3 (P := fun l => (twS l.reverse).sum = - (twS l).sum) (fun a b c => by
      show (twI (a, c) + (twI (c, b) + (twI (b, a) + 0))) = - (twI (c, a) + (twI (a, b) + (twI (b, c) + 0)))
      unfold twI; dsimp only; grind) l h
  · exact len4 (P := fun l => (twS l.reverse).sum = - (twS l).sum) (fun a b c d => by
      show (twI (a, d) + (twI (d, c) + (twI (c, b) + (twI (b, a) + 0)))) = - (twI (d, a) + (twI (a, b) + (twI (b, c) + (twI (c, d) + 0))))
      unfold twI; dsimp only; grind) l h
theorem num_den (q : Rat) : (q.num : Rat) = q * ((q.den : Int) : Rat) := by
  have h1 : q = Rat.divInt q.num q.den := (Rat.num_divInt_den q).symm
  rw [Rat.divInt_eq_div] at h1
  have hd : ((q.den : Int) : Rat) ≠ 0 := cast_ne (by have := q.den_nz; omega)
  generalize (q.num : Rat) = n at *
  generalize ((q.den : Int) : Rat) = d at *
  subst h1; grind
theorem is_true {q : Rat} {top bot : Int} (hb : bot ≠ 0) (h : q * 16 * 2 = (top : Rat) / (bot : Rat)) : (q.num * (2 * bot) * 16 == top * (q.den : Int)) = true := by
  rw [beq_iff_eq, ← Rat.intCast_inj]
  simp only [Rat.intCast_mul]
  rw [num_den]
  have hb := cast_ne hb
  have e2 : ((2 : Int) : Rat) = 2 := rfl
  have e16 : ((16 : Int) : Rat) = 16 := rfl
  rw [e2, e16]
  generalize ((q.den : Int) : Rat) = d
  grind
theorem is_whole {q : Rat} {tw : Int} (h : q * 32 = (tw : Rat)) : (q.num * 2 * 16 == tw * (q.den : Int)) = true := by
  rw [beq_iff_eq, ← Rat.intCast_inj]
  simp only [Rat.intCast_mul]
  rw [num_den]
  have e2 : ((2 : Int) : Rat) = 2 := rfl
  have e16 : ((16 : Int) : Rat) = 16 := rfl
  rw [e2, e16]
  generalize ((q.den : Int) : Rat) = d
  grind
theorem Sz.bd {q : Rat} (h : Sz q) {n : Nat} (hn : 200 ≤ n) : Bd n q.num ∧ Bd n (q.den : Int) := ⟨Bd.mono (show Bd 200 q.num from h.n) hn, Bd.mono (show Bd 200 (q.den : Int) from h.d) hn⟩
theorem tw_bd {l : List (Int × Int)} (h : ∀ p ∈ l, InS p) (hl : l.length ≤ 4) : (twS l).sum.natAbs ≤ 400 := by
  have key : ∀ (c : List ((Int × Int) × (Int × Int))), (∀ e ∈ c, InS e.1 ∧ InS e.2) → (c.map twI).sum.natAbs ≤ c.length * 98 := by
    intro c
    induction c with
    | nil => intro _; exact Nat.le_refl _
    | cons e c ih =>
      intro h
      have := ih fun e he => h e (.tail _ he)
      obtain ⟨⟨h1, h2⟩, h3, h4⟩ := h e (.head _)
      rw [List.map_cons, List.sum_cons, List.length_cons]
      have m1 : (e.2.1 * e.1.2).natAbs ≤ 7 * 7 := by rw [Int.natAbs_mul]; exact Nat.mul_le_mul (by omega) (by omega)
      have m2 : (e.1.1 * e.2.2).natAbs ≤ 7 * 7 := by rw [Int.natAbs_mul]; exact Nat.mul_le_mul (by omega) (by omega)
      have e0 : twI e = e.2.1 * e.1.2 - e.1.1 * e.2.2 := rfl
      omega
  have := key (cyc (0, 0) l) fun e he => ⟨h _ (mem_cyc he).1, h _ (mem_cyc he).2⟩
  have e : (cyc ((0 : Int), (0 : Int)) l).length = l.length := by unfold cyc; simp
  unfold twS
  omega
theorem whole_sz {q : Rat} {tw : Int} (h : q * 32 = (tw : Rat)) (hb : tw.natAbs ≤ 400) : Sz q := by
  have e : q = Rat.divInt tw 32 := by
    rw [Rat.divInt_eq_div]
    have : ((32 : Int) : Rat) = 32 := rfl
    rw [this]; grind
  rw [e]
  obtain ⟨h1, h2⟩ := divInt_parts (a := tw) (b := 32) (by decide)
  exact ⟨Nat.lt_of_le_of_lt (Nat.le_trans h1 hb) (by decide), Nat.lt_of_le_of_lt h2 (by decide)⟩
theorem sub_spots {B : Bs} {k : Nat} {st : List O} {l : List (Int × Int)} {i : Nat} (hi : i < l.length) (hl : l.length ≤ 100000) : Sub B k (.tup (l.map spV)) (.int ((i : Int) - 1)) st (spV (l.getD (if i = 0 then l.length - 1 else i - 1) (0, 0))) ∧ Sub B k (.tup (l.map spV)) (.int (i : Int)) st (spV (l.getD i (0, 0))) := by
  have g : ∀ j, j < l.length → (l.map spV)[j]? = some (spV (l.getD j (0, 0))) := fun j hj => by rw [List.getElem?_map, List.getD_eq_getElem?_getD, List.getElem?_eq_getElem hj]; rfl
  refine ⟨?_, ?_⟩
  · by_cases h : i = 0
    · subst h
      exact Sub.tup (j := l.length - 1) (by omega) (by omega) (by
        have := seqIndex_neg (k := ((0 : Nat) : Int) - 1) (n := (l.map spV).length) (by omega) (by rw [List.length_map]; omega)
        rw [this, List.length_map]; congr 1; omega) (g _ (by omega))
    · rw [if_neg h]
      exact Sub.tup (j := i - 1) (by omega) (by omega) (by
        have := seqIndex_of (k := (i : Int) - 1) (n := (l.map spV).length) (by omega) (by rw [List.length_map]; omega)
        rw [this]; congr 1; omega) (g _ (by omega))
  · exact Sub.tup (j := i) (by omega) (by omega) (by
      have := seqIndex_of (k := (i : Int)) (n := (l.map spV).length) (by omega) (by rw [List.length_map]; omega)
      rw [this]; congr 1) (g _ hi)
/-- told[column + 1] -/
theorem sub_told {B : Bs} {k : Nat} {st : List O} {f : Int → V} {d : Int} (h0 : 0 ≤ d) (h1 : d < 4) : Sub B k (.lst ((colsI (-1) 3).map f)) (.int (d - 1 + 1)) st (f (d - 1)) := by
  have : d = 0 ∨ d = 1 ∨ d = 2 ∨ d = 3 := by omega
  rcases this with rfl | rfl | rfl | rfl <;> exact Sub.lst (.inl rfl) (by decide) (by decide) rfl rfl
theorem law_body {B : Bs} {k : Nat} {ns : List Int} (hn : ns.length < 1000) : ∃ fd body, DefOk B 311 fd body ∧ (∀ x, bindArgs fd ⟨[x], []⟩ = pure [(("script" : Str), x)]) ∧ fd.scope.names.lookup ("script" : Str) = some .local ∧ ∀ L, XT B (k + 7) (callEnvC fd L 311) body [("script", .lst (intVs ns))] [] := by
  refine ⟨_, _, ⟨⟨_, _, _, rfl⟩, rfl, rfl, rfl, rfl, rfl, rfl, rfl, rfl⟩, fun _ => rfl, rfl, fun L => ?_⟩
  obtain ⟨p, q, hq0, hq1, hpool⟩ := pool (B := B) (k := k + 6) (st := []) hn
  have hpool := hpool.fn
  refine XT.cons (X1.assignCell (by walk_at "ev") rfl rfl rfl) ?_
  refine XT.at [("script", .lst (intVs ns)), ("source", .ref 0)] rfl ?_
  have G0 : Gs ([] ++ [O.list [.int p, .int q]]) := ⟨⟨p, q, rfl, hq0, hq1⟩, fun o ho => by
    rw [List.nil_append, List.mem_singleton] at ho
    subst ho
    intro v hv
    rcases List.mem_cons.mp hv with rfl | hv
    · exact .int _
    · rw [List.mem_singleton.mp hv]; exact .int _⟩
  generalize [] ++ [O.list [.int p, .int q]] = st at G0
  obtain ⟨d, st1, hd0, hd1, htake, G1, hl1⟩ := takeG (B := B) (k := k + 6) G0 (top := 2) (by decide) (by decide)
  refine XT.draws (n := (3 + d).toNat) (cl := [("source", L + 1)]) (ρc := [("source", .ref 0)]) (st₁ := st1) InS (fun o => match o with | none => [("source", .ref 0)] | some i => [("source", .ref 0), ("step", .int i)]) (Ev.cast (v := .range 0 (3 + d)) (by walk_at "ev") (by rw [Int.toNat_of_nonneg (by omega)])) hl1 G1 (by omega) ?_ rfl ?_ (by walk_at "cal") (fun _ => rfl) rfl rfl rfl ?_
  · intro o i st G
    obtain ⟨d1, st1, a0, a1, t1, G1, l1⟩ := takeG (B := B) (k := k + 6) G (top := 9) (by decide) (by decide)
    obtain ⟨d2, st2, b0, b1, t2, G2, l2⟩ := takeG (B := B) (k := k + 6) G1 (top := 9) (by decide) (by decide)
    refine ⟨fun C => by cases o <;> exact As.name rfl, (d1 - 1, d2 - 1), st2, fun C => ?_, G2, l2.trans l1, by unfold InS; dsimp only; omega⟩
    show Ev _ _ _ _ _ _ (V.tup [.int (d1 - 1), .int (d2 - 1)]) _
    walk_at "ev"
  · refine ⟨rfl, rfl, by decide, by decide, ?_, ?_⟩
    · intro x c h
      have h := mem_of_look h
      rcases List.mem_cons.mp h with e | h
      · cases e; rfl
      cases h
    · intro x u h
      have h := mem_of_look h
      rcases List.mem_cons.mp h with e | h
      · cases e; exact ⟨rfl, rfl, rfl, rfl⟩
      cases h
  intro spots st2 G2 hl2 hsn hR
  refine XT.at [("script", .lst (intVs ns)), ("source", .ref 0), ("spots", .tup (spots.map spV))] rfl ?_
  obtain ⟨st3, hso, had, hwb⟩ := built (B := B) (k := k) G2 true (by omega) (by omega) hR
  have hmk := ((cells_make (B := B) (k := k) (st := st2)).le (k := k + 7) (by omega)).fn
  refine XT.cons (X1.assign (by walk_at "ev") rfl rfl) ?_
  refine XT.at [("script", .lst (intVs ns)), ("source", .ref 0), ("spots", .tup (spots.map spV)), ("cells", .ref (st2.length + 1))] rfl ?_
  refine XT.cons (ρ₁ := [("script", .lst (intVs ns)), ("source", .ref 0), ("spots", .tup (spots.map spV)), ("cells", .ref (st2.length + 1))]) (st₁ := st3) (X1.expr ?_ rfl) ?_
  · have hins : Ins (cellsSt st2) (.ref (st2.length + 1)) 195 [("grain", .int 4), ("rows", .ref (st2.length + 2))] := by
      have w0 := W.empty G2.cl fun _ => G2.src.at_
      exact .inr ⟨_, _, rfl, w0.i, w0.a⟩
    apply Ev.meth; walk_at "ev"; exact Mth.fn hins rfl mCells_add_sides; walk_at "cw"; rfl
    apply Evs.cons; rfl
    apply Ev.call; walk_at "cal"; walk_at "cw"; rfl; walk_at "evs"; exact hso
    exact Evs.nil
    exact had
    rfl
  have hpos : 0 < st2.length := lt_of_get G2.src.at_.choose_spec.choose_spec.1
  refine XT.freeze (ρ₂ := [("script", .lst (intVs ns)), ("source", .ref 0), ("spots", .tup (spots.map spV)), ("cells", CellsV (Tb.empty.sides (sidesL spots)))]) st2.length ?_ ?_
  · intro x u h
    have h := mem_of_look h
    obtain ⟨⟨ix, ex, w⟩, _⟩ := hwb
    rcases List.mem_cons.mp h with e | h
    · cases e; exact ⟨_, rfl, .self _⟩
    rcases List.mem_cons.mp h with e | h
    · cases e; exact ⟨_, rfl, .self _⟩
    rcases List.mem_cons.mp h with e | h
    · cases e; exact ⟨_, rfl, .self _⟩
    rcases List.mem_cons.mp h with e | h
    · cases e; exact ⟨_, rfl, w.den (Nat.le_refl _)⟩
    cases h
  have G3 := hwb.gs hpos
  have F := hwb.ft
  generalize hst : deadFrom st2.length st3 = st4 at G3
  generalize htt : Tb.empty.sides (sidesL spots) = t at F
  obtain ⟨d5, st5, hd5, hd5', ht5, G5, hl5⟩ := takeG (B := B) (k := k + 6) G3 (top := 3) (by decide) (by decide)
  refine XT.cons (X1.assign (by walk_at "ev") rfl rfl) ?_
  have hra := ((row_areas (B := B) (k := k) F G5.cl (r := d5 - 1) (a := -1) (b := 3) (by omega) (by omega)).le (k := k + 7) (by omega)).fn
  refine XT.cons (X1.assign (v := .lst ((colsI (-1) 3).map fun c => Fr (areaAt t (d5 - 1) c))) (st₁ := st5) ?_ rfl rfl) ?_
  · apply Ev.meth; walk_at "ev"; exact Mth.fn (.inl rfl) rfl mCells_row_areas; walk_at "cw"; rfl; walk_at "evs"; exact hra; rfl
  let R : List (Str × V) := [("script", .lst (intVs ns)), ("source", .ref 0), ("spots", .tup (spots.map spV)), ("cells", CellsV t), ("row", .int (d5 - 1)), ("told", .lst ((colsI (-1) 3).map fun c => Fr (areaAt t (d5 - 1) c)))]
  refine XT.at R rfl ?_
  have hsp : ∀ p ∈ spots, p.1.natAbs < 16 ∧ p.2.natAbs < 16 := fun p hp => by have := hR p hp; unfold InS at this; omega
  have hlen : spots.length ≤ 4 := by omega
  have hlen3 : 3 ≤ spots.length := by omega
  have hspV : (spots.map spV).length = spots.length := List.length_map ..
  -- the turns
  refine XT.turns 2 (by decide) (by walk_at "ev") G5 ?_ (fun _ => rfl) ?_
  · intro i st G
    obtain ⟨d6, st6, hd6, hd6', ht6, G6, hl6⟩ := takeG (B := B) (k := k + 6) G (top := 4) (by decide) (by decide)
    have hdue := ((due_law (B := B) (k := k) G6.cl (c := d6 - 1) (r := d5 - 1) hsp (by omega) (by omega) hlen).le (k := k + 7) (by omega)).fn
    obtain ⟨hM1, hM2⟩ := area_due hR (by rw [htt]; exact F) (r := d5 - 1) (c := d6 - 1) (by omega) (by omega)
    rw [htt] at hM1
    have hit := is_true (by omega) hM1
    obtain ⟨hpb, hpl⟩ := dueP_bd (c := d6 - 1) (r := d5 - 1) hsp (by omega) (by omega) hlen
    obtain ⟨hb1, hb2⟩ := areaL_bd hpb hpl
    generalize (areaL (dueP spots (d6 - 1) (d5 - 1))).1 = top at *
    generalize (areaL (dueP spots (d6 - 1) (d5 - 1))).2 = bot at *
    have sz := (areaAt_bd F (d5 - 1) (d6 - 1)).sz (by decide)
    have hbd := sz.bd (n := 1000) (by decide)
    have hisl := ((is_law (B := B) (k := k) (st := st6) (a := (areaAt t (d5 - 1) (d6 - 1)).num) (b := ((areaAt t (d5 - 1) (d6 - 1)).den : Int)) (c := top) (d := 2 * bot) hbd.1 hbd.2 (hb1.mono (by decide)) ((Bd.mul (show Bd 2 2 from Nat.le_of_ble_eq_true rfl) hb2).mono (by decide))).le (k := k + 7) (by omega)).fn
    rw [hit] at hisl
    have hare := ((area_fn (B := B) (k := k) F G6.cl (r := d5 - 1) (c := d6 - 1) (by omega)).le (k := k + 7) (by omega)).fn
    have hsub := fun {st : List O} => sub_told (B := B) (k := k + 7) (st := st) (f := fun c => Fr (areaAt t (d5 - 1) c)) hd6 hd6'
    generalize areaAt t (d5 - 1) (d6 - 1) = q at *
    refine ⟨R ++ ([("turn", .int i)] : List (Str × V)), st6, As.name rfl, ?_, G6⟩
    refine Xs.post (ρ₂ := R ++ ([("turn", .int i), ("column", .int (d6 - 1)), ("due", .tup [.int top, .int (2 * bot)])] : List (Str × V))) (ex := ([("turn", .int i), ("column", .int (d6 - 1)), ("due", .tup [.int top, .int (2 * bot)])] : List (Str × V))) ?_ rfl
    refine Xs.cons (X1.assign (by walk_at "ev") rfl rfl) ?_
    refine Xs.cons (st₁ := st6) (X1.assign (v := .tup [.int top, .int (2 * bot)]) (by walk_at "ev") rfl rfl) ?_
    refine Xs.at (R ++ ([("turn", .int i), ("column", .int (d6 - 1)), ("due", .tup [.int top, .int (2 * bot)])] : List (Str × V))) rfl ?_
    refine Xs.ifF (st₁ := st6) ?_ Xs.nil
    refine Tr.or2 (b := false) (st₁ := st6) ?_ (fun _ => ?_) (fun h => by cases h)
    · refine Tr.not (b := true) (Tr.ev ?_ fun _ => rfl)
      apply Ev.call; walk_at "cal"; walk_at "cw"; rfl
      apply Evs.cons; rfl
      apply Ev.sub; walk_at "ev"; walk_at "ev"; exact hsub; exact fun _ _ => ⟨_, rfl⟩
      apply Evs.cons; rfl; walk_at "ev"
      apply Evs.cons; rfl; walk_at "ev"
      exact Evs.nil
      exact hisl
    · refine Tr.cast (b := !(q.num == q.num && ((q.den : Int) == (q.den : Int)))) ?_ (by simp)
      apply Tr.cmp
      · apply Ev.meth; walk_at "ev"; exact Mth.fn (.inl rfl) rfl mCells_area; walk_at "cw"; rfl; walk_at "evs"; exact hare; rfl
      · apply Ev.sub; walk_at "ev"; walk_at "ev"; exact hsub; exact fun _ _ => ⟨_, rfl⟩
      · exact Op2.nePair
      · rfl
  intro st7 G7
  -- twice the area
  have htw : (twS spots) = (List.range spots.length).map fun i => twI (spots.getD (if i = 0 then spots.length - 1 else i - 1) (0, 0), spots.getD i (0, 0)) := by
    unfold twS cyc; rw [List.map_map]; rfl
  have hlenF : Fn B (k + 7) (.builtin "len") [.tup (spots.map spV)] st7 (.int spots.length) st7 := by
    have := Fn.lenTup (B := B) (k := k + 7) (st := st7) (l := spots.map spV) (by rw [hspV]; omega)
    rwa [hspV] at this
  refine XT.cons (ρ₁ := R ++ ([("twice", .int (twS spots).sum)] : List (Str × V))) (st₁ := st7) (X1.assign (v := .int (twS spots).sum) (Ev.seal (st' := st7) (g := [.list (intVs (twS spots))]) (v := .int (twS spots).sum) ?_ rfl G7.cl (.self _) (.int _)) rfl rfl) ?_
  · apply Ev.call; walk_at "cal"; walk_at "cw"; rfl
    apply Evs.cons; rfl
    · refine Ev.comp (P := fun _ => True) (v := .range 0 (spots.length : Int)) (items := (List.range spots.length).map fun i => V.int (i : Nat)) (ys := intVs (twS spots)) (st₁ := st7) (st' := st7) (cl := [("spots", L + 2)]) (ρc := [("spots", .tup (spots.map spV))]) ?_ (by rw [← rangeVs0]; exact Iters.range (by omega) (by omega)) ?_ ?_ ?_ (fun _ => rfl)
      · apply Ev.call; walk_at "cal"; walk_at "cw"; rfl
        apply Evs.cons; rfl
        apply Ev.call; walk_at "cal"; walk_at "cw"; rfl; walk_at "evs"; exact hlenF
        exact Evs.nil
        exact Fn.range1
      · have e : intVs (twS spots) = (List.range spots.length).map fun i => V.int (twI (spots.getD (if i = 0 then spots.length - 1 else i - 1) (0, 0), spots.getD i (0, 0))) := by
          rw [htw]; unfold intVs; rw [List.map_map]; rfl
        rw [e]
        refine CoR.map trivial (fun i : Nat => V.int (i : Nat)) (fun i => V.int (twI (spots.getD (if i = 0 then spots.length - 1 else i - 1) (0, 0), spots.getD i (0, 0)))) (fun o => match o with | none => [("spots", .tup (spots.map spV))] | some i => [("spots", .tup (spots.map spV)), ("at", .int (i : Nat))]) (List.range spots.length) (fun o i hi => ⟨fun C => by cases o <;> exact As.name rfl, fun C => ?_⟩) none
        have hi := List.mem_range.mp hi
        obtain ⟨sp, sa⟩ := sub_spots (B := B) (k := k + 7) (st := st7) hi (by omega)
        have gIn : ∀ j, j < spots.length → InS (spots.getD j (0, 0)) := fun j hj => by rw [List.getD_eq_getElem?_getD, List.getElem?_eq_getElem hj]; exact hR _ (List.getElem_mem _)
        have g1 := gIn (if i = 0 then spots.length - 1 else i - 1) (by split <;> omega)
        have g2 := gIn i hi
        generalize spots.getD (if i = 0 then spots.length - 1 else i - 1) (0, 0) = p1 at *
        generalize spots.getD i (0, 0) = p2 at *
        unfold InS at g1 g2
        have s0 : ∀ {p : Int × Int}, Sub B (k + 7) (spV p) (.int 0) st7 (.int p.1) := Sub.tup (by decide) (by decide) rfl rfl
        have s1 : ∀ {p : Int × Int}, Sub B (k + 7) (spV p) (.int 1) st7 (.int p.2) := Sub.tup (by decide) (by decide) rfl rfl
        show Ev _ _ _ _ _ _ (V.int (p2.1 * p1.2 - p1.1 * p2.2)) _
        apply Ev.bin
        · apply Ev.bin
          · apply Ev.sub
            · apply Ev.sub; walk_at "ev"; walk_at "ev"; exact sa; exact fun _ _ => ⟨_, rfl⟩
            · walk_at "ev"
            · exact s0
            · exact fun _ _ => ⟨_, rfl⟩
          · apply Ev.sub
            · apply Ev.sub; walk_at "ev"; walk_at "ev"; exact sp; exact fun _ _ => ⟨_, rfl⟩
            · walk_at "ev"
            · exact s1
            · exact fun _ _ => ⟨_, rfl⟩
          · exact Op2.mul (mulOk_left (by omega))
        · apply Ev.bin
          · apply Ev.sub
            · apply Ev.sub; walk_at "ev"; walk_at "ev"; exact sp; exact fun _ _ => ⟨_, rfl⟩
            · walk_at "ev"
            · exact s0
            · exact fun _ _ => ⟨_, rfl⟩
          · apply Ev.sub
            · apply Ev.sub; walk_at "ev"; walk_at "ev"; exact sa; exact fun _ _ => ⟨_, rfl⟩
            · walk_at "ev"
            · exact s1
            · exact fun _ _ => ⟨_, rfl⟩
          · exact Op2.mul (mulOk_left (by omega))
        · exact Op2.sub
      · rw [List.length_map, List.length_range]; exact Nat.le_trans hlen (Nat.le_of_ble_eq_true rfl)
      · refine ⟨rfl, rfl, by decide, by decide, ?_, ?_⟩
        · intro x c h
          have h := mem_of_look h
          rcases List.mem_cons.mp h with e | h
          · cases e; rfl
          cases h
        · intro x u h
          have h := mem_of_look h
          rcases List.mem_cons.mp h with e | h
          · cases e; exact ⟨rfl, rfl, rfl, rfl⟩
          cases h
    · exact Evs.nil
    exact Fn.sum (.inr ⟨_, rfl, at_last⟩)
  refine XT.at (R ++ ([("twice", .int (twS spots).sum)] : List (Str × V))) rfl ?_
  -- the whole
  obtain ⟨lo, hi, hends, hwh⟩ := whole (B := B) (k := k) F G7.cl
  have hwh := (hwh.le (k := k + 7) (by omega)).fn
  have hw32 : wholeS t lo hi * 32 = (((twS spots).sum : Int) : Rat) := by
    subst htt; exact whole_due hR F hends
  generalize wholeS t lo hi = q at *
  have htb := tw_bd hR hlen
  have szq := whole_sz hw32 htb
  refine XT.cons (ρ₁ := R ++ ([("twice", .int (twS spots).sum), ("whole", Fr q)] : List (Str × V))) (st₁ := st7) (X1.assign (v := Fr q) (by apply Ev.meth; walk_at "ev"; exact Mth.fn (.inl rfl) rfl mCells_whole; walk_at "cw"; rfl; walk_at "evs"; exact hwh; rfl) rfl rfl) ?_
  generalize htwg : (twS spots).sum = tw at *
  have hisw := ((is_law (B := B) (k := k) (st := st7) (a := q.num) (b := (q.den : Int)) (c := tw) (d := 2) (szq.bd (by decide)).1 (szq.bd (by decide)).2 ((show Bd 10 tw by show tw.natAbs < 1024; omega).mono (by decide)) ((show Bd 2 2 from Nat.le_of_ble_eq_true rfl).mono (by decide))).le (k := k + 7) (by omega)).fn
  rw [is_whole hw32] at hisw
  refine XT.ifF (st₁ := st7) (Tr.not (b := true) (Tr.ev (by walk_at "ev") fun _ => rfl)) ?_
  obtain ⟨d8, st8, hd8, hd8', ht8, G8, hl8⟩ := takeG (B := B) (k := k + 6) G7 (top := 3) (by decide) (by decide)
  by_cases hd2 : d8 < 2
  · exact XT.ifT (st₁ := st8) (Tr.cast (b := decide (d8 < 2)) (by walk_at "tr") (decide_eq_true hd2)) (XT.ret Ev.bool)
  refine XT.ifF (st₁ := st8) (Tr.cast (b := decide (d8 < 2)) (by walk_at "tr") (decide_eq_false hd2)) ?_
  -- the contour turned about
  have hRr : ∀ p ∈ spots.reverse, InS p := fun p hp => hR p (List.mem_reverse.mp hp)
  obtain ⟨st9, hso9, had9, hwb9⟩ := built (B := B) (k := k) G8 false (spots := spots.reverse) (by rw [List.length_reverse]; exact hlen3) (by rw [List.length_reverse]; exact hlen) hRr
  have hmk9 := ((cells_make (B := B) (k := k) (st := st8)).le (k := k + 7) (by omega)).fn
  refine XT.cons (X1.assign (by walk_at "ev") rfl rfl) ?_
  refine XT.at (R ++ ([("twice", .int tw), ("whole", Fr q), ("turned", .ref (st8.length + 1))] : List (Str × V))) rfl ?_
  refine XT.cons (ρ₁ := R ++ ([("twice", .int tw), ("whole", Fr q), ("turned", .ref (st8.length + 1))] : List (Str × V))) (st₁ := st9) (X1.expr ?_ rfl) ?_
  · have hins : Ins (cellsSt st8) (.ref (st8.length + 1)) 195 [("grain", .int 4), ("rows", .ref (st8.length + 2))] := by
      have w0 := W.empty G8.cl fun _ => G8.src.at_
      exact .inr ⟨_, _, rfl, w0.i, w0.a⟩
    apply Ev.meth; walk_at "ev"; exact Mth.fn hins rfl mCells_add_sides; walk_at "cw"; rfl
    apply Evs.cons; rfl
    apply Ev.call; walk_at "cal"; walk_at "cw"; rfl
    · apply Evs.cons; rfl
      · refine Ev.list (st₁ := cellsSt st8) (vs := [.tup [.tup (spots.reverse.map spV), .bool false]]) ?_ (Nat.le_of_ble_eq_true rfl)
        apply Evs.cons; rfl
        · apply Ev.tuple
          · apply Evs.cons; rfl
            · rw [List.map_reverse]
              exact Ev.revd (by walk_at "ev") (Ev.neg Ev.int) (by rw [hspV]; omega) (by rw [hspV]; exact Nat.le_trans hlen (Nat.le_of_ble_eq_true rfl))
            walk_at "evs"
          · exact Nat.le_of_ble_eq_true rfl
        exact Evs.nil
      exact Evs.nil
    · exact hso9
    exact Evs.nil
    exact had9
    rfl
  have hpos8 : 0 < st8.length := lt_of_get G8.src.at_.choose_spec.choose_spec.1
  generalize htt9 : Tb.empty.sides (sidesL spots.reverse) = t9 at *
  refine XT.freeze (ρ₂ := R ++ ([("twice", .int tw), ("whole", Fr q), ("turned", CellsV t9)] : List (Str × V))) st8.length ?_ ?_
  · intro x u h
    have h := mem_of_look h
    obtain ⟨⟨ix, ex, w⟩, _⟩ := hwb9
    rcases List.mem_cons.mp h with e | h
    · cases e; exact ⟨_, rfl, .self _⟩
    rcases List.mem_cons.mp h with e | h
    · cases e; exact ⟨_, rfl, .self _⟩
    rcases List.mem_cons.mp h with e | h
    · cases e; exact ⟨_, rfl, .self _⟩
    rcases List.mem_cons.mp h with e | h
    · cases e; exact ⟨_, rfl, .self _⟩
    rcases List.mem_cons.mp h with e | h
    · cases e; exact ⟨_, rfl, .self _⟩
    rcases List.mem_cons.mp h with e | h
    · cases e; exact ⟨_, rfl, .self _⟩
    rcases List.mem_cons.mp h with e | h
    · cases e; exact ⟨_, rfl, .self _⟩
    rcases List.mem_cons.mp h with e | h
    · cases e; exact ⟨_, rfl, .self _⟩
    rcases List.mem_cons.mp h with e | h
    · cases e; exact ⟨_, rfl, w.den (Nat.le_refl _)⟩
    cases h
  have G9 := hwb9.gs hpos8
  have F9 := hwb9.ft
  generalize deadFrom st8.length st9 = st10 at G9
  obtain ⟨lo9, hi9, hends9, hwh9⟩ := whole (B := B) (k := k) F9 G9.cl
  have hwh9 := (hwh9.le (k := k + 7) (by omega)).fn
  have hw9 : wholeS t9 lo9 hi9 * 32 = (((twS spots.reverse).sum : Int) : Rat) := by
    subst htt9; exact whole_due hRr F9 hends9
  rw [tw_rev hlen3 hlen, htwg] at hw9
  generalize wholeS t9 lo9 hi9 = q9 at *
  have hq9 : q9 = -q := by
    rw [Rat.intCast_neg] at hw9
    grind
  subst hq9
  have hsq0 : Sub B (k + 7) (Fr q) (.int 0) st10 (.int q.num) := Sub.tup (by decide) (by decide) rfl rfl
  have hsq1 : Sub B (k + 7) (Fr q) (.int 1) st10 (.int (q.den : Int)) := Sub.tup (by decide) (by decide) rfl rfl
  refine XT.ret (st₁ := st10) (Ev.cast (v := .bool ((-q).num == -q.num && (((-q).den : Int) == (q.den : Int)))) ?_ (by rw [Rat.neg_num, Rat.neg_den]; simp))
  apply Ev.cmp
  · apply Ev.meth; walk_at "ev"; exact Mth.fn (.inl rfl) rfl mCells_whole; walk_at "cw"; rfl; walk_at "evs"; exact hwh9; rfl
  · walk_at "ev"
  · exact Op2.eqPair
  · rfl
theorem codeAny_defE {B : Bs} {k : Nat} {st : List O} {f : Addr} {fd : FuncData} {body : List Stmt} {vs : List V} {v : V} {binds : List Value → List (Str × Value)} {ρ : List (Str × V)} (K : DefOk B f fd body)
    (hb : ∀ w xs, VRs w vs xs → bindArgs fd ⟨xs, []⟩ = pure (binds xs)) (hkind : ∀ w xs, VRs w vs xs → ∀ n, ∀ x ∈ binds xs, fd.scope.names.lookup x.1 = some .local ∨ (fd.scope.names.lookup x.1 = some .cell ∧ ((cellsFrom n fd.scope.names []).lookup x.1).isSome = true))
    (hρ : ∀ w xs, VRs w vs xs → ∀ n x u, ρ.lookup x = some u → ∃ val, VR w u val ∧ ((fd.scope.names.lookup x = some .local ∧ bindL (fun y => fd.scope.names.lookup y) (binds xs) (fun _ => none) x = some val) ∨
      (fd.scope.names.lookup x = some .cell ∧ bindC (fun y => fd.scope.names.lookup y) (binds xs) (fun _ => none) x = some val ∧ ((cellsFrom n fd.scope.names []).lookup x).isSome = true)))
    (hx : ∀ L, ∃ st' ρ', Xs B k (callEnvC fd L f) body ρ st (.ret v) ρ' st') {w : Wd} {s : Shared} {xs : List Value} (C : Core B w st s) (hr : VRs w vs xs) {A : Around} {Q : Result → Shared → Prop} (hA : Room (k + 1) A)
    (q : ∀ x w' s' st', Core B w' st' s' → Step NoX w s w' s' → VR w' v x → Q (.ok (.ret x)) s') : codeAny (model PG B.w) A (.call (.ref f) ⟨xs, []⟩) Q s := by
  obtain ⟨st', ρ', hx⟩ := hx s.heap.objs.size
  unfold Xs at hx
  obtain ⟨oc, od, osl, hl⟩ := K.at_
  refine codeAny_call_cells (binds := binds xs) hA.lt (C.base _ _ (B.X _ _ hl)) rfl (B.T.nolimit.keeps C.base) ((codeRec_of B.X K.code).keeps C.base) K.body (hb w xs hr) K.cl (hkind w xs hr _) (fun s₁ x₁ => ?_) K.co K.gen K.kind
  obtain ⟨h₀, tk, rfl, hk⟩ := x₁.done
  have hns := x₁.toInCall.ns
  have hz : s.heap.objs.size ≤ h₀.objs.size := Nat.le_of_lt hns.lt
  have C₁ := C.grow (h := h₀) (tk := tk) hz hk
  have S₁ := Step.grow (X := NoX) (h := h₀) (tk := tk) C hz hk
  obtain ⟨f1, f2, f3⟩ := fresh_none C (Nat.le_refl s.heap.objs.size)
  have F₁ : Frm B (callEnvC fd s.heap.objs.size f) { w with n := h₀.objs.size } ρ { s with heap := h₀, toks := tk } := by
    refine ⟨K.kind, K.gl, K.bl, ⟨f1, f2, f3, hns.lt⟩, fun x c e => ?_, fun x c e => ⟨_, x₁.cell x c e⟩, fun x y c e e' => apart_inj x₁.apart (mem_of_lookup e) (mem_of_lookup e'), ?_⟩
    · have hc := (x₁.above x c (mem_of_lookup e))
      have hc : s.heap.objs.size < c := hc
      obtain ⟨g1, g2, g3⟩ := fresh_none C (Nat.le_of_lt hc)
      obtain ⟨oc, hoc, _⟩ := x₁.cell x c e
      exact ⟨g1, g2, g3, Heap.lt_size hoc, Nat.ne_of_gt hc⟩
    · refine ⟨_, hns, fun x u e => ?_⟩
      obtain ⟨val, h1, h2⟩ := hρ w xs hr (s.heap.objs.size + 1) x u e
      refine ⟨val, h1.mono S₁.toLe, h2.imp id fun ⟨a, b, c⟩ => ⟨.inl a, ?_⟩⟩
      obtain ⟨c, hc⟩ := Option.isSome_iff_exists.mp c
      exact ⟨c, hc, by have := x₁.cell x c hc; rw [show bindC (callEnvC fd s.heap.objs.size f).kindOf (binds xs) (fun _ => none) x = some val from b] at this; exact this⟩
  refine hx _ _ C₁ F₁ _ _ _ hA.deeper fun fl w' s' C' S' r' => ?_
  obtain ⟨F', r'⟩ := r'
  have SS : Step NoX w s w' s' := S₁.drop C (S'.weaken (Y := fun a => NoX a ∨ s.heap.objs.size ≤ a) fun a z => .inr (by
    rcases z with z | ⟨x, z⟩
    · exact Nat.le_of_eq z.symm
    · rcases cells_in z with z | z
      · cases z
      · exact Nat.le_of_succ_le z)) fun a z => z
  cases r' with
  | ret h => exact q _ w' s' st' C' SS h
theorem law_call {B : Bs} {ns : List Int} (hn : ns.length < 1000) {w : Wd} {s : Shared} {xs : List Value} (C : Core B w [] s) (hr : VRs w [.lst (intVs ns)] xs) {A : Around} {Q : Result → Shared → Prop} (hA : Room 8 A)
    (q : ∀ w' s' st', Core B w' st' s' → Step NoX w s w' s' → Q (.ok (.ret (.bool true))) s') : codeAny (model PG B.w) A (.call (.ref 311) ⟨xs, []⟩) Q s := by
  obtain ⟨fd, body, K, hb1, hb2, hx⟩ := law_body (B := B) (k := 0) hn
  refine codeAny_defE (vs := [.lst (intVs ns)]) (v := .bool true) (binds := fun xs => (["script"] : List Str).zip xs) (ρ := [("script", .lst (intVs ns))]) K ?_ ?_ ?_ (fun L => by have h := hx L; unfold XT XE at h; exact h) C hr hA (fun x w' s' st' C' S' r => ?_)
  · intro w xs h
    cases h with
    | cons h1 h => cases h; exact hb1 _
  · intro w xs h m x hx
    cases h with
    | cons h1 h =>
      cases h
      rcases List.mem_cons.mp hx with rfl | hx
      · exact .inl hb2
      cases hx
  · intro w xs h m x u hx
    have hx := mem_of_look hx
    cases h with
    | cons h1 h =>
      cases h
      rcases List.mem_cons.mp hx with e | hx
      · cases e
        refine ⟨_, h1, .inl ⟨hb2, ?_⟩⟩
        show (if _ then (fun y => if y = ("script" : Str) then _ else _) else _) ("script" : Str) = _
        rw [if_pos hb2]
        exact if_pos rfl
      cases hx
  · cases r; exact q w' s' st' C' S'
theorem wellInts {P : Params} {h : Heap} : ∀ {vs : List Value} {ns : List Int}, WellAll P h vs (ofPys (ns.map PyData.int)) → ∀ w, VRs w (intVs ns) vs
  | _, [], x, w => by
    cases x; exact .nil
  | _, n :: ns, x, w => by
    cases x with
    | cons a b =>
      cases a
      exact .cons (.int _ _) (wellInts b w)
theorem law_ends {w : World} {s₀ s : Shared} {mg mb : Str → Option Value} (X : (hd.heap_39 w.params).In s.heap) (T : Top hd.view_39 (looseW hd.view_39 [Str.ofString "fraction", Str.ofString "sides_of"]) (ExcName.means s₀.heap) mg mb s.heap)
    {la : Addr} {ns : List Int} (hw : Well w.params s.heap (.ref la) (ofPy (.list (ns.map PyData.int)))) (hn : ns.length ≤ 63) {Q : Result → Shared → Prop}
    (q : ∀ s', (∀ b o, s.heap.get? b = some o → s'.heap.get? b = some o) → s'.os = s.os → s'.gens = s.gens → Q (.ok (.ret (.bool true))) s') : codeAny (model PySem.Challenge.rw_nu0018_01.row.prog w) callerA (.call (.ref 311) ⟨[.ref la], []⟩) Q s := by
  have hw' : Well w.params s.heap (.ref la) (.list (ofPys (ns.map PyData.int))) := hw
  cases hw' with
  | @list _ vs _ ho hv =>
    let B : Bs := ⟨w, s.heap, mg, mb, ExcName.means s₀.heap, X, T⟩
    let W₀ : Wd := ⟨[], fun a => if a = la then some (listOf vs.toArray 0) else none, s.heap.objs.size⟩
    have h311 : ∃ o, s.heap.get? 311 = some o := by
      obtain ⟨fd, body, K, _⟩ := law_body (B := B) (k := 0) (ns := []) (by decide)
      obtain ⟨oc, od, osl, hl⟩ := K.at_
      exact ⟨_, X _ _ hl⟩
    obtain ⟨o311, h311⟩ := h311
    have C : Core B W₀ [] s := by
      refine ⟨rfl, Nat.lt_of_le_of_lt (show sysModules ≤ 311 by decide) (Heap.lt_size h311), fun _ _ e => e, fun a o e => ?_, rfl, List.nodup_nil, (fun a h => nomatch h), fun i o h => by cases h⟩
      dsimp only [W₀] at e
      split at e
      · rename_i ea
        cases e; subst ea; exact ho
      · cases e
    have hVR : VR W₀ (.lst (intVs ns)) (.ref la) := .lst (vs := vs) (n := 0) (by show (if la = la then _ else _) = _; rw [if_pos rfl]) (wellInts hv _)
    refine law_call (B := B) (w := W₀) (by omega) C (.cons hVR .nil) ⟨by decide, by decide, rfl⟩ fun w' s' st' C' S' => ?_
    exact q s' C'.base S'.os S'.gens
end Mine
set_option maxRecDepth 100000 in
set_option maxHeartbeats 8000000 in
theorem PySem.Challenge.cw_nu0018_01_holds : PySem.Challenge.rw_nu0018_01.Holds := by
  refine holds_law Mine.said fun _ => ?_
  refine holds_open (q := Mine.hd.view_39) (loose := [Str.ofString "fraction", Str.ofString "sides_of"]) (Xt := fun s => xlAt Mine.hd.view_39 [] s && recOk (RowW.records PySem.Challenge.rw_nu0018_01.row.toRowW) s) (XP := XL Mine.hd.view_39 []) (Yf := Hook.obs Mine.HK) (Ya := Hook.val Mine.HK) (YP := Hook.says Mine.HK) (N := 4402) Mine.left (Hook.of Mine.HK) (Hook.keeps Mine.HK) (fun s e => xl_of s (Bool.and_eq_true_iff.mp e).1) XL.keeps (by rfl) (by rfl) (by rfl) (fun s e => recFacts_of (Bool.and_eq_true_iff.mp e).2) (by rfl) Mine.saidR (by decide +kernel) ⟨rfl, rfl, rfl, rfl, rfl, by decide +kernel⟩ ?hw ?hc
  case hw => w_witness2
  case hc =>
  intro w s₀ s₁ mg mb G Y fa o pm cd doc dV kV ho hd hcd hD hmg hg args vals as hpre hlay hrd hwl hlo
  have KX := kIn_of Y
  refine Ground.open G ?_
  intro T B D TE TW
  clear ho hd hcd hD
  have hfa : Value.ref fa = .ref 311 := by
    have h2 := mg_of (n := Str.ofString "law") KX T.g (v := .ref 311) (by rfl)
    have hmg : mg (Str.ofString "law") = some (.ref fa) := hmg
    rw [h2] at hmg
    exact (Option.some.inj hmg).symm
  cases hfa
  wrow_args hpre hlay hrd hwl hlo
  refine enter_call ?_
  refine Mine.law_ends KX T (by assumption) (by omega) fun s' h1 h2 h3 => ?_
  refine GoodW.toG ⟨.inl ⟨_, .bool true, [], rfl, raisesW_false ?_, .bool _, ?_, fun _ => ⟨List.nodup_nil, fun _ h => nomatch h⟩⟩, h1, h2, h3.trans hg⟩
  · wrow_none_raised
  · wrow_post
