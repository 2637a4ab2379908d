import PyProof.Rows.All
import Wide.All
import OpenK.AllK
import Wide.FinOn
import KE.KDictOf
import PyProof.AttrMissHeap
import PySem.Challenge.RW_pq0689_01
open PySem PySem.W PyProof.Rows
set_option Elab.async false
set_option maxRecDepth 100000
set_option linter.all false
namespace Mine
/-- a statement of the row's text by its place -/
noncomputable def stmtAt (i : Nat) : Option Stmt := PySem.Challenge.pw_pq0689_01.main.body[i]?
noncomputable def stmtIn (i j : Nat) : Option Stmt := match stmtAt i with
  | some (.ClassDef _ _ _ b _ _ _ _ _ _ _) => b[j]?
  | _ => none
/-- a def's arguments, body and scope -/
noncomputable def defParts (s : Option Stmt) : Option (Arguments × List Stmt × Scope) := match s with
  | some (.FunctionDef _ a b _ _ _ c _ _ _) => some (a, b, c)
  | _ => none
set_option maxHeartbeats 4000000 in
/-- the objects of the top that the walk knows whole -/
noncomputable def hd.heap_39 : Params → Frag :=
  (fun (a0 : Arguments) (b0 : List Stmt) (s0 : Scope) (_ : defParts (stmtIn 1 0) = some (a0, b0, s0)) =>
   fun (a1 : Arguments) (b1 : List Stmt) (s1 : Scope) (_ : defParts (stmtAt 4) = some (a1, b1, s1)) =>
   fun (a2 : Arguments) (b2 : List Stmt) (s2 : Scope) (_ : defParts (stmtAt 5) = some (a2, b2, s2)) =>
   fun (a3 : Arguments) (b3 : List Stmt) (s3 : Scope) (_ : defParts (stmtAt 6) = some (a3, b3, s3)) =>
   fun (a4 : Arguments) (b4 : List Stmt) (s4 : Scope) (_ : defParts (stmtAt 7) = some (a4, b4, s4)) =>
   fun (a5 : Arguments) (b5 : List Stmt) (s5 : Scope) (_ : defParts (stmtAt 8) = some (a5, b5, s5)) =>
   fun (a6 : Arguments) (b6 : List Stmt) (s6 : Scope) (_ : defParts (stmtIn 13 0) = some (a6, b6, s6)) =>
   fun (a7 : Arguments) (b7 : List Stmt) (s7 : Scope) (_ : defParts (stmtIn 13 1) = some (a7, b7, s7)) =>
   fun (a8 : Arguments) (b8 : List Stmt) (s8 : Scope) (_ : defParts (stmtIn 13 2) = some (a8, b8, s8)) =>
   fun (a9 : Arguments) (b9 : List Stmt) (s9 : Scope) (_ : defParts (stmtIn 13 3) = some (a9, b9, s9)) =>
   fun (a10 : Arguments) (b10 : List Stmt) (s10 : Scope) (_ : defParts (stmtAt 14) = some (a10, b10, s10)) =>
   fun (a11 : Arguments) (b11 : List Stmt) (s11 : Scope) (_ : defParts (stmtAt 15) = some (a11, b11, s11)) =>
   fun (a12 : Arguments) (b12 : List Stmt) (s12 : Scope) (_ : defParts (stmtAt 16) = some (a12, b12, s12)) =>
   fun (a13 : Arguments) (b13 : List Stmt) (s13 : Scope) (_ : defParts (stmtAt 17) = some (a13, b13, s13)) =>
   fun (a14 : Arguments) (b14 : List Stmt) (s14 : Scope) (_ : defParts (stmtAt 18) = some (a14, b14, s14)) =>
   fun (a15 : Arguments) (b15 : List Stmt) (s15 : Scope) (_ : defParts (stmtIn 20 0) = some (a15, b15, s15)) =>
   fun (a16 : Arguments) (b16 : List Stmt) (s16 : Scope) (_ : defParts (stmtIn 20 1) = some (a16, b16, s16)) =>
   fun (a17 : Arguments) (b17 : List Stmt) (s17 : Scope) (_ : defParts (stmtAt 22) = some (a17, b17, s17)) =>
   fun (a18 : Arguments) (b18 : List Stmt) (s18 : Scope) (_ : defParts (stmtAt 23) = some (a18, b18, s18)) =>
   fun (a19 : Arguments) (b19 : List Stmt) (s19 : Scope) (_ : defParts (stmtAt 24) = some (a19, b19, s19)) =>
   fun (a20 : Arguments) (b20 : List Stmt) (s20 : Scope) (_ : defParts (stmtAt 25) = some (a20, b20, s20)) =>
   fun (a21 : Arguments) (b21 : List Stmt) (s21 : Scope) (_ : defParts (stmtAt 26) = some (a21, b21, s21)) =>
   fun (a22 : Arguments) (b22 : List Stmt) (s22 : Scope) (_ : defParts (stmtAt 27) = some (a22, b22, s22)) =>
   fun (a23 : Arguments) (b23 : List Stmt) (s23 : Scope) (_ : defParts (stmtAt 28) = some (a23, b23, s23)) =>
   fun (a24 : Arguments) (b24 : List Stmt) (s24 : Scope) (_ : defParts (stmtAt 29) = some (a24, b24, s24)) =>
   fun (a25 : Arguments) (b25 : List Stmt) (s25 : Scope) (_ : defParts (stmtAt 30) = some (a25, b25, s25)) =>
   fun (a26 : Arguments) (b26 : List Stmt) (s26 : Scope) (_ : defParts (stmtAt 31) = some (a26, b26, s26)) =>
   fun (a27 : Arguments) (b27 : List Stmt) (s27 : Scope) (_ : defParts (stmtAt 32) = some (a27, b27, s27)) =>
   fun (a28 : Arguments) (b28 : List Stmt) (s28 : Scope) (_ : defParts (stmtAt 33) = some (a28, b28, s28)) =>
   fun (P : Params) =>
    (nat_lit 2, ⟨Value.none, .none, (.dict (List.toArray [⟨(PyData.keyHash P (Str.ofString "type.__subclasses__.Exception.0")), (.str (Str.ofString "type.__subclasses__.Exception.0") 216), (.int 32 0)⟩, ⟨(PyData.keyHash P (Str.ofString "type.__subclasses__.Exception.n")), (.str (Str.ofString "type.__subclasses__.Exception.n") 217), (.int 1 0)⟩]) 2), (List.toArray [])⟩) ::
    (nat_lit 3, ⟨(.type "dict"), .none, (.dict (List.toArray [⟨(PyData.keyHash P (Str.ofString "__name__")), (.str (Str.ofString "__name__") 165), (.str (Str.ofString "law_pq0689_01") 422)⟩, ⟨(PyData.keyHash P (Str.ofString "__doc__")), (.str (Str.ofString "__doc__") 166), Value.none⟩, ⟨(PyData.keyHash P (Str.ofString "__package__")), (.str (Str.ofString "__package__") 167), Value.none⟩, ⟨(PyData.keyHash P (Str.ofString "__loader__")), (.str (Str.ofString "__loader__") 168), (.builtin "__main__.__loader__#opaque")⟩, ⟨(PyData.keyHash P (Str.ofString "__spec__")), (.str (Str.ofString "__spec__") 169), Value.none⟩, ⟨(PyData.keyHash P (Str.ofString "__annotations__")), (.str (Str.ofString "__annotations__") 170), (.ref 6)⟩, ⟨(PyData.keyHash P (Str.ofString "__builtins__")), (.str (Str.ofString "__builtins__") 171), (.ref 4)⟩, ⟨(PyData.keyHash P (Str.ofString "__file__")), (.str (Str.ofString "__file__") 173), (.str (Str.ofString "/claim/cut.py") 172)⟩, ⟨(PyData.keyHash P (Str.ofString "__cached__")), (.str (Str.ofString "__cached__") 174), Value.none⟩, ⟨(PyData.keyHash P (Str.ofString "RowsError")), (.str (Str.ofString "RowsError") 219), (.ref 32)⟩, ⟨(PyData.keyHash P (Str.ofString "LowerFault")), (.str (Str.ofString "LowerFault") 235), (.ref 45)⟩, ⟨(PyData.keyHash P (Str.ofString "expr")), (.str (Str.ofString "expr") 245), (.ref 54)⟩, ⟨(PyData.keyHash P (Str.ofString "sym")), (.str (Str.ofString "sym") 252), (.ref 61)⟩, ⟨(PyData.keyHash P (Str.ofString "is_expr")), (.str (Str.ofString "is_expr") 260), (.ref 68)⟩, ⟨(PyData.keyHash P (Str.ofString "parts_of")), (.str (Str.ofString "parts_of") 267), (.ref 75)⟩, ⟨(PyData.keyHash P (Str.ofString "is_sym")), (.str (Str.ofString "is_sym") 274), (.ref 82)⟩, ⟨(PyData.keyHash P (Str.ofString "BROADCAST")), (.str (Str.ofString "BROADCAST") 280), (.ref 84)⟩, ⟨(PyData.keyHash P (Str.ofString "BROADCAST_INTO")), (.str (Str.ofString "BROADCAST_INTO") 284), (.ref 86)⟩, ⟨(PyData.keyHash P (Str.ofString "LITERALS")), (.str (Str.ofString "LITERALS") 290), (.ref 87)⟩, ⟨(PyData.keyHash P (Str.ofString "Fuser")), (.str (Str.ofString "Fuser") 344), (.ref 123)⟩, ⟨(PyData.keyHash P (Str.ofString "check_leaf")), (.str (Str.ofString "check_leaf") 351), (.ref 134)⟩, ⟨(PyData.keyHash P (Str.ofString "mentions_end")), (.str (Str.ofString "mentions_end") 360), (.ref 141)⟩, ⟨(PyData.keyHash P (Str.ofString "goal_of")), (.str (Str.ofString "goal_of") 366), (.ref 146)⟩, ⟨(PyData.keyHash P (Str.ofString "function_over")), (.str (Str.ofString "function_over") 372), (.ref 151)⟩, ⟨(PyData.keyHash P (Str.ofString "fused")), (.str (Str.ofString "fused") 383), (.ref 158)⟩, ⟨(PyData.keyHash P (Str.ofString "Supply")), (.str (Str.ofString "Supply") 421), (.ref 182)⟩, ⟨(PyData.keyHash P (Str.ofString "_law_deal")), (.str (Str.ofString "_law_deal") 432), (.ref 193)⟩, ⟨(PyData.keyHash P (Str.ofString "_law_card")), (.str (Str.ofString "_law_card") 441), (.ref 200)⟩, ⟨(PyData.keyHash P (Str.ofString "_law_tree")), (.str (Str.ofString "_law_tree") 449), (.ref 207)⟩, ⟨(PyData.keyHash P (Str.ofString "_law_sym")), (.str (Str.ofString "_law_sym") 456), (.ref 214)⟩, ⟨(PyData.keyHash P (Str.ofString "_law_leaf")), (.str (Str.ofString "_law_leaf") 464), (.ref 221)⟩, ⟨(PyData.keyHash P (Str.ofString "_law_dots")), (.str (Str.ofString "_law_dots") 476), (.ref 228)⟩, ⟨(PyData.keyHash P (Str.ofString "_law_plain")), (.str (Str.ofString "_law_plain") 482), (.ref 233)⟩, ⟨(PyData.keyHash P (Str.ofString "_law_things")), (.str (Str.ofString "_law_things") 491), (.ref 240)⟩, ⟨(PyData.keyHash P (Str.ofString "_law_put_back")), (.str (Str.ofString "_law_put_back") 497), (.ref 245)⟩, ⟨(PyData.keyHash P (Str.ofString "_law_is_right")), (.str (Str.ofString "_law_is_right") 513), (.ref 252)⟩, ⟨(PyData.keyHash P (Str.ofString "_law_is_refused")), (.str (Str.ofString "_law_is_refused") 520), (.ref 259)⟩, ⟨(PyData.keyHash P (Str.ofString "law")), (.str (Str.ofString "law") 536), (.ref 266)⟩]) 38), (List.toArray [])⟩) ::
    (nat_lit 15, ⟨(.type "tuple"), .none, (.seq (List.toArray [(.type "Exception")]) 0), (List.toArray [])⟩) ::
    (nat_lit 22, ⟨(.type "tuple"), .none, (.seq (List.toArray [Value.none]) 0), (List.toArray [])⟩) ::
    (nat_lit 23, ⟨(.type "tuple"), .none, (.seq (List.toArray []) 0), (List.toArray [])⟩) ::
    (nat_lit 25, ⟨(.type "tuple"), .none, (.seq (List.toArray [(.str (Str.ofString "self") 204), (.str (Str.ofString "message") 205), (.str (Str.ofString "spot") 206)]) 0), (List.toArray [])⟩) ::
    (nat_lit 26, ⟨(.type "tuple"), .none, (.seq (List.toArray []) 0), (List.toArray [])⟩) ::
    (nat_lit 28, ⟨(.type "code"), .none, (.fields (List.toArray [(.str (Str.ofString "__init__") 201), (.str (Str.ofString "RowsError.__init__") 202), (.str (Str.ofString "/claim/cut.py") 203), (.int 4 0), (.int 3 0), (.int 0 0), (.int 0 0), (.int 3 0), (.ref 23), (.bool Bool.true), (.int 181 0), (.ref 24), Value.none, (.ref 25), (.ref 26), (.ref 27), (.int 207 0), (.int 4 0), (.str (Str.ofString "/claim/cut.py") 208)])), (List.toArray [])⟩) ::
    (nat_lit 29, ⟨(.type "function"), .none, (.func ⟨(Str.ofString "__init__"), (Str.ofString "RowsError.__init__"), a0, .stmts b0, s0, 3, [], (.ref 22), Value.none, Value.none, (.str (Str.ofString "methodrows.errors") 187), .none, (.ref 28), Value.none, 0⟩), (List.toArray [])⟩) ::
    (nat_lit 30, ⟨(.type "tuple"), .none, (.seq (List.toArray [(.str (Str.ofString "message") 210), (.str (Str.ofString "spot") 211)]) 0), (List.toArray [])⟩) ::
    (nat_lit 31, ⟨(.type "dict"), .none, (.dict (List.toArray [⟨(PyData.keyHash P (Str.ofString "__module__")), (.str (Str.ofString "__module__") 196), (.str (Str.ofString "methodrows.errors") 187)⟩, ⟨(PyData.keyHash P (Str.ofString "__firstlineno__")), (.str (Str.ofString "__firstlineno__") 200), (.int 2 199)⟩, ⟨(PyData.keyHash P (Str.ofString "__init__")), (.str (Str.ofString "__init__") 209), (.ref 29)⟩, ⟨(PyData.keyHash P (Str.ofString "__static_attributes__")), (.str (Str.ofString "__static_attributes__") 212), (.ref 30)⟩, ⟨(PyData.keyHash P (Str.ofString "__weakref__")), (.str (Str.ofString "__weakref__") 214), (.ref 33)⟩, ⟨(PyData.keyHash P (Str.ofString "__doc__")), (.str (Str.ofString "__doc__") 215), Value.none⟩]) 3), (List.toArray [])⟩) ::
    (nat_lit 32, ⟨(.type "type"), .none, (.cls ⟨(Str.ofString "RowsError"), [(.type "Exception")], [(.ref 32), (.type "Exception"), (.type "BaseException"), (.type "object")], 31, (Str.ofString "RowsError"), Bool.true, [], [(.ref 45)], Bool.false, .none, Bool.false⟩), (List.toArray [(.some (.ref 15)), .none, (.some (.str (Str.ofString "RowsError") 189)), (.some (.str (Str.ofString "RowsError") 197)), (.some (.builtin "Exception.__new__")), (.some (.bool Bool.true))])⟩) ::
    (nat_lit 33, ⟨(.type "getset_descriptor"), .none, (.fields (List.toArray [(.str (Str.ofString "__weakref__") 213), (.ref 32), (.builtin "ExceptionGroup.__weakref__"), Value.none])), (List.toArray [])⟩) ::
    (nat_lit 36, ⟨(.type "tuple"), .none, (.seq (List.toArray [(.ref 32)]) 0), (List.toArray [])⟩) ::
    (nat_lit 43, ⟨(.type "tuple"), .none, (.seq (List.toArray []) 0), (List.toArray [])⟩) ::
    (nat_lit 44, ⟨(.type "dict"), .none, (.dict (List.toArray [⟨(PyData.keyHash P (Str.ofString "__module__")), (.str (Str.ofString "__module__") 227), (.str (Str.ofString "methodrows.errors") 187)⟩, ⟨(PyData.keyHash P (Str.ofString "__firstlineno__")), (.str (Str.ofString "__firstlineno__") 231), (.int 8 230)⟩, ⟨(PyData.keyHash P (Str.ofString "__static_attributes__")), (.str (Str.ofString "__static_attributes__") 232), (.ref 43)⟩, ⟨(PyData.keyHash P (Str.ofString "__doc__")), (.str (Str.ofString "__doc__") 233), Value.none⟩]) 2), (List.toArray [])⟩) ::
    (nat_lit 45, ⟨(.type "type"), .none, (.cls ⟨(Str.ofString "LowerFault"), [(.ref 32)], [(.ref 45), (.ref 32), (.type "Exception"), (.type "BaseException"), (.type "object")], 44, (Str.ofString "LowerFault"), Bool.true, [], [], Bool.false, .none, Bool.false⟩), (List.toArray [(.some (.ref 36)), .none, (.some (.str (Str.ofString "LowerFault") 220)), (.some (.str (Str.ofString "LowerFault") 228)), (.some (.builtin "Exception.__new__")), (.some (.bool Bool.true))])⟩) ::
    (nat_lit 48, ⟨(.type "tuple"), .none, (.seq (List.toArray []) 0), (List.toArray [])⟩) ::
    (nat_lit 50, ⟨(.type "tuple"), .none, (.seq (List.toArray [(.str (Str.ofString "head") 241), (.str (Str.ofString "parts") 242)]) 0), (List.toArray [])⟩) ::
    (nat_lit 51, ⟨(.type "tuple"), .none, (.seq (List.toArray []) 0), (List.toArray [])⟩) ::
    (nat_lit 53, ⟨(.type "code"), .none, (.fields (List.toArray [(.str (Str.ofString "expr") 238), (.str (Str.ofString "expr") 239), (.str (Str.ofString "/claim/cut.py") 240), (.int 11 0), (.int 2 0), (.int 0 0), (.int 0 0), (.int 3 0), (.ref 48), (.bool Bool.true), (.int 181 0), (.ref 49), Value.none, (.ref 50), (.ref 51), (.ref 52), (.int 243 0), (.int 11 0), (.str (Str.ofString "/claim/cut.py") 244)])), (List.toArray [])⟩) ::
    (nat_lit 54, ⟨(.type "function"), .none, (.func ⟨(Str.ofString "expr"), (Str.ofString "expr"), a1, .stmts b1, s1, 3, [], Value.none, Value.none, Value.none, (.str (Str.ofString "methodrows.forms") 236), .none, (.ref 53), Value.none, 0⟩), (List.toArray [])⟩) ::
    (nat_lit 55, ⟨(.type "tuple"), .none, (.seq (List.toArray []) 0), (List.toArray [])⟩) ::
    (nat_lit 57, ⟨(.type "tuple"), .none, (.seq (List.toArray [(.str (Str.ofString "name") 249)]) 0), (List.toArray [])⟩) ::
    (nat_lit 58, ⟨(.type "tuple"), .none, (.seq (List.toArray []) 0), (List.toArray [])⟩) ::
    (nat_lit 60, ⟨(.type "code"), .none, (.fields (List.toArray [(.str (Str.ofString "sym") 246), (.str (Str.ofString "sym") 247), (.str (Str.ofString "/claim/cut.py") 248), (.int 13 0), (.int 1 0), (.int 0 0), (.int 0 0), (.int 3 0), (.ref 55), (.bool Bool.true), (.int 181 0), (.ref 56), Value.none, (.ref 57), (.ref 58), (.ref 59), (.int 250 0), (.int 13 0), (.str (Str.ofString "/claim/cut.py") 251)])), (List.toArray [])⟩) ::
    (nat_lit 61, ⟨(.type "function"), .none, (.func ⟨(Str.ofString "sym"), (Str.ofString "sym"), a2, .stmts b2, s2, 3, [], Value.none, Value.none, Value.none, (.str (Str.ofString "methodrows.forms") 236), .none, (.ref 60), Value.none, 0⟩), (List.toArray [])⟩) ::
    (nat_lit 62, ⟨(.type "tuple"), .none, (.seq (List.toArray []) 0), (List.toArray [])⟩) ::
    (nat_lit 64, ⟨(.type "tuple"), .none, (.seq (List.toArray [(.str (Str.ofString "tree") 256), (.str (Str.ofString "head") 257)]) 0), (List.toArray [])⟩) ::
    (nat_lit 65, ⟨(.type "tuple"), .none, (.seq (List.toArray []) 0), (List.toArray [])⟩) ::
    (nat_lit 67, ⟨(.type "code"), .none, (.fields (List.toArray [(.str (Str.ofString "is_expr") 253), (.str (Str.ofString "is_expr") 254), (.str (Str.ofString "/claim/cut.py") 255), (.int 15 0), (.int 2 0), (.int 0 0), (.int 0 0), (.int 3 0), (.ref 62), (.bool Bool.true), (.int 181 0), (.ref 63), Value.none, (.ref 64), (.ref 65), (.ref 66), (.int 258 0), (.int 15 0), (.str (Str.ofString "/claim/cut.py") 259)])), (List.toArray [])⟩) ::
    (nat_lit 68, ⟨(.type "function"), .none, (.func ⟨(Str.ofString "is_expr"), (Str.ofString "is_expr"), a3, .stmts b3, s3, 3, [], Value.none, Value.none, Value.none, (.str (Str.ofString "methodrows.forms") 236), .none, (.ref 67), Value.none, 0⟩), (List.toArray [])⟩) ::
    (nat_lit 69, ⟨(.type "tuple"), .none, (.seq (List.toArray []) 0), (List.toArray [])⟩) ::
    (nat_lit 71, ⟨(.type "tuple"), .none, (.seq (List.toArray [(.str (Str.ofString "tree") 264)]) 0), (List.toArray [])⟩) ::
    (nat_lit 72, ⟨(.type "tuple"), .none, (.seq (List.toArray []) 0), (List.toArray [])⟩) ::
    (nat_lit 74, ⟨(.type "code"), .none, (.fields (List.toArray [(.str (Str.ofString "parts_of") 261), (.str (Str.ofString "parts_of") 262), (.str (Str.ofString "/claim/cut.py") 263), (.int 17 0), (.int 1 0), (.int 0 0), (.int 0 0), (.int 3 0), (.ref 69), (.bool Bool.true), (.int 181 0), (.ref 70), Value.none, (.ref 71), (.ref 72), (.ref 73), (.int 265 0), (.int 17 0), (.str (Str.ofString "/claim/cut.py") 266)])), (List.toArray [])⟩) ::
    (nat_lit 75, ⟨(.type "function"), .none, (.func ⟨(Str.ofString "parts_of"), (Str.ofString "parts_of"), a4, .stmts b4, s4, 3, [], Value.none, Value.none, Value.none, (.str (Str.ofString "methodrows.forms") 236), .none, (.ref 74), Value.none, 0⟩), (List.toArray [])⟩) ::
    (nat_lit 76, ⟨(.type "tuple"), .none, (.seq (List.toArray []) 0), (List.toArray [])⟩) ::
    (nat_lit 78, ⟨(.type "tuple"), .none, (.seq (List.toArray [(.str (Str.ofString "tree") 271)]) 0), (List.toArray [])⟩) ::
    (nat_lit 79, ⟨(.type "tuple"), .none, (.seq (List.toArray []) 0), (List.toArray [])⟩) ::
    (nat_lit 81, ⟨(.type "code"), .none, (.fields (List.toArray [(.str (Str.ofString "is_sym") 268), (.str (Str.ofString "is_sym") 269), (.str (Str.ofString "/claim/cut.py") 270), (.int 19 0), (.int 1 0), (.int 0 0), (.int 0 0), (.int 3 0), (.ref 76), (.bool Bool.true), (.int 181 0), (.ref 77), Value.none, (.ref 78), (.ref 79), (.ref 80), (.int 272 0), (.int 19 0), (.str (Str.ofString "/claim/cut.py") 273)])), (List.toArray [])⟩) ::
    (nat_lit 82, ⟨(.type "function"), .none, (.func ⟨(Str.ofString "is_sym"), (Str.ofString "is_sym"), a5, .stmts b5, s5, 3, [], Value.none, Value.none, Value.none, (.str (Str.ofString "methodrows.forms") 236), .none, (.ref 81), Value.none, 0⟩), (List.toArray [])⟩) ::
    (nat_lit 83, ⟨(.type "tuple"), .none, (.seq (List.toArray [(.str (Str.ofString "builtin") 278), (.str (Str.ofString "broadcast") 279)]) 0), (List.toArray [])⟩) ::
    (nat_lit 84, ⟨(.type "tuple"), .none, (.seq (List.toArray [(.str (Str.ofString "value") 277), (.ref 83)]) 0), (List.toArray [])⟩) ::
    (nat_lit 85, ⟨(.type "tuple"), .none, (.seq (List.toArray [(.str (Str.ofString "builtin") 282), (.str (Str.ofString "broadcast!") 283)]) 0), (List.toArray [])⟩) ::
    (nat_lit 86, ⟨(.type "tuple"), .none, (.seq (List.toArray [(.str (Str.ofString "value") 281), (.ref 85)]) 0), (List.toArray [])⟩) ::
    (nat_lit 87, ⟨(.type "tuple"), .none, (.seq (List.toArray [(.str (Str.ofString "int") 285), (.str (Str.ofString "bool") 286), (.str (Str.ofString "char") 287), (.str (Str.ofString "text") 288), (.str (Str.ofString "nothing") 289)]) 0), (List.toArray [])⟩) ::
    (nat_lit 95, ⟨(.type "tuple"), .none, (.seq (List.toArray []) 0), (List.toArray [])⟩) ::
    (nat_lit 97, ⟨(.type "tuple"), .none, (.seq (List.toArray [(.str (Str.ofString "self") 306), (.str (Str.ofString "supply") 307)]) 0), (List.toArray [])⟩) ::
    (nat_lit 98, ⟨(.type "tuple"), .none, (.seq (List.toArray []) 0), (List.toArray [])⟩) ::
    (nat_lit 100, ⟨(.type "code"), .none, (.fields (List.toArray [(.str (Str.ofString "__init__") 303), (.str (Str.ofString "Fuser.__init__") 304), (.str (Str.ofString "/claim/cut.py") 305), (.int 27 0), (.int 2 0), (.int 0 0), (.int 0 0), (.int 3 0), (.ref 95), (.bool Bool.true), (.int 181 0), (.ref 96), Value.none, (.ref 97), (.ref 98), (.ref 99), (.int 308 0), (.int 27 0), (.str (Str.ofString "/claim/cut.py") 309)])), (List.toArray [])⟩) ::
    (nat_lit 101, ⟨(.type "function"), .none, (.func ⟨(Str.ofString "__init__"), (Str.ofString "Fuser.__init__"), a6, .stmts b6, s6, 3, [], Value.none, Value.none, Value.none, (.str (Str.ofString "methodrows.lower_dots") 275), .none, (.ref 100), Value.none, 0⟩), (List.toArray [])⟩) ::
    (nat_lit 102, ⟨(.type "tuple"), .none, (.seq (List.toArray []) 0), (List.toArray [])⟩) ::
    (nat_lit 104, ⟨(.type "tuple"), .none, (.seq (List.toArray [(.str (Str.ofString "self") 314), (.str (Str.ofString "tree") 315), (.str (Str.ofString "name") 316)]) 0), (List.toArray [])⟩) ::
    (nat_lit 105, ⟨(.type "tuple"), .none, (.seq (List.toArray []) 0), (List.toArray [])⟩) ::
    (nat_lit 107, ⟨(.type "code"), .none, (.fields (List.toArray [(.str (Str.ofString "leaf") 311), (.str (Str.ofString "Fuser.leaf") 312), (.str (Str.ofString "/claim/cut.py") 313), (.int 32 0), (.int 2 0), (.int 0 0), (.int 0 0), (.int 3 0), (.ref 102), (.bool Bool.true), (.int 181 0), (.ref 103), Value.none, (.ref 104), (.ref 105), (.ref 106), (.int 317 0), (.int 32 0), (.str (Str.ofString "/claim/cut.py") 318)])), (List.toArray [])⟩) ::
    (nat_lit 108, ⟨(.type "function"), .none, (.func ⟨(Str.ofString "leaf"), (Str.ofString "Fuser.leaf"), a7, .stmts b7, s7, 3, [], Value.none, Value.none, Value.none, (.str (Str.ofString "methodrows.lower_dots") 275), .none, (.ref 107), Value.none, 0⟩), (List.toArray [])⟩) ::
    (nat_lit 109, ⟨(.type "tuple"), .none, (.seq (List.toArray []) 0), (List.toArray [])⟩) ::
    (nat_lit 111, ⟨(.type "tuple"), .none, (.seq (List.toArray [(.str (Str.ofString "self") 323), (.str (Str.ofString "tree") 324)]) 0), (List.toArray [])⟩) ::
    (nat_lit 112, ⟨(.type "tuple"), .none, (.seq (List.toArray []) 0), (List.toArray [])⟩) ::
    (nat_lit 114, ⟨(.type "code"), .none, (.fields (List.toArray [(.str (Str.ofString "callee") 320), (.str (Str.ofString "Fuser.callee") 321), (.str (Str.ofString "/claim/cut.py") 322), (.int 41 0), (.int 2 0), (.int 0 0), (.int 0 0), (.int 3 0), (.ref 109), (.bool Bool.true), (.int 181 0), (.ref 110), Value.none, (.ref 111), (.ref 112), (.ref 113), (.int 325 0), (.int 41 0), (.str (Str.ofString "/claim/cut.py") 326)])), (List.toArray [])⟩) ::
    (nat_lit 115, ⟨(.type "function"), .none, (.func ⟨(Str.ofString "callee"), (Str.ofString "Fuser.callee"), a8, .stmts b8, s8, 3, [], Value.none, Value.none, Value.none, (.str (Str.ofString "methodrows.lower_dots") 275), .none, (.ref 114), Value.none, 0⟩), (List.toArray [])⟩) ::
    (nat_lit 116, ⟨(.type "tuple"), .none, (.seq (List.toArray []) 0), (List.toArray [])⟩) ::
    (nat_lit 119, ⟨(.type "code"), .none, (.fields (List.toArray [(.str (Str.ofString "body") 328), (.str (Str.ofString "Fuser.body") 329), (.str (Str.ofString "/claim/cut.py") 330), (.int 44 0), (.int 2 0), (.int 0 0), (.int 0 0), (.int 3 0), (.ref 116), (.bool Bool.true), (.int 181 0), (.ref 117), Value.none, Value.none, Value.none, (.ref 118), (.int 331 0), (.int 44 0), (.str (Str.ofString "/claim/cut.py") 332)])), (List.toArray [])⟩) ::
    (nat_lit 120, ⟨(.type "function"), .none, (.func ⟨(Str.ofString "body"), (Str.ofString "Fuser.body"), a9, .stmts b9, s9, 3, [], Value.none, Value.none, Value.none, (.str (Str.ofString "methodrows.lower_dots") 275), .none, (.ref 119), Value.none, 0⟩), (List.toArray [])⟩) ::
    (nat_lit 121, ⟨(.type "tuple"), .none, (.seq (List.toArray [(.str (Str.ofString "leaves") 334), (.str (Str.ofString "names") 335), (.str (Str.ofString "supply") 336)]) 0), (List.toArray [])⟩) ::
    (nat_lit 122, ⟨(.type "dict"), .none, (.dict (List.toArray [⟨(PyData.keyHash P (Str.ofString "__module__")), (.str (Str.ofString "__module__") 298), (.str (Str.ofString "methodrows.lower_dots") 275)⟩, ⟨(PyData.keyHash P (Str.ofString "__firstlineno__")), (.str (Str.ofString "__firstlineno__") 302), (.int 25 301)⟩, ⟨(PyData.keyHash P (Str.ofString "__init__")), (.str (Str.ofString "__init__") 310), (.ref 101)⟩, ⟨(PyData.keyHash P (Str.ofString "leaf")), (.str (Str.ofString "leaf") 319), (.ref 108)⟩, ⟨(PyData.keyHash P (Str.ofString "callee")), (.str (Str.ofString "callee") 327), (.ref 115)⟩, ⟨(PyData.keyHash P (Str.ofString "body")), (.str (Str.ofString "body") 333), (.ref 120)⟩, ⟨(PyData.keyHash P (Str.ofString "__static_attributes__")), (.str (Str.ofString "__static_attributes__") 337), (.ref 121)⟩, ⟨(PyData.keyHash P (Str.ofString "__dict__")), (.str (Str.ofString "__dict__") 339), (.ref 124)⟩, ⟨(PyData.keyHash P (Str.ofString "__weakref__")), (.str (Str.ofString "__weakref__") 341), (.ref 125)⟩, ⟨(PyData.keyHash P (Str.ofString "__doc__")), (.str (Str.ofString "__doc__") 342), Value.none⟩]) 4), (List.toArray [])⟩) ::
    (nat_lit 123, ⟨(.type "type"), .none, (.cls ⟨(Str.ofString "Fuser"), [(.type "object")], [(.ref 123), (.type "object")], 122, (Str.ofString "Fuser"), Bool.true, [], [], Bool.false, .none, Bool.false⟩), (List.toArray [.none, .none, (.some (.str (Str.ofString "Fuser") 291)), (.some (.str (Str.ofString "Fuser") 299)), (.some (.builtin "object.__new__")), (.some (.bool Bool.true))])⟩) ::
    (nat_lit 124, ⟨(.type "getset_descriptor"), .none, (.fields (List.toArray [(.str (Str.ofString "__dict__") 338), (.ref 123), (.builtin "function.__dict__"), (.builtin "function.__dict__#set")])), (List.toArray [])⟩) ::
    (nat_lit 125, ⟨(.type "getset_descriptor"), .none, (.fields (List.toArray [(.str (Str.ofString "__weakref__") 340), (.ref 123), (.builtin "ExceptionGroup.__weakref__"), Value.none])), (List.toArray [])⟩) ::
    (nat_lit 128, ⟨(.type "tuple"), .none, (.seq (List.toArray []) 0), (List.toArray [])⟩) ::
    (nat_lit 130, ⟨(.type "tuple"), .none, (.seq (List.toArray [(.str (Str.ofString "tree") 348)]) 0), (List.toArray [])⟩) ::
    (nat_lit 131, ⟨(.type "tuple"), .none, (.seq (List.toArray []) 0), (List.toArray [])⟩) ::
    (nat_lit 133, ⟨(.type "code"), .none, (.fields (List.toArray [(.str (Str.ofString "check_leaf") 345), (.str (Str.ofString "check_leaf") 346), (.str (Str.ofString "/claim/cut.py") 347), (.int 51 0), (.int 1 0), (.int 0 0), (.int 0 0), (.int 3 0), (.ref 128), (.bool Bool.true), (.int 181 0), (.ref 129), Value.none, (.ref 130), (.ref 131), (.ref 132), (.int 349 0), (.int 51 0), (.str (Str.ofString "/claim/cut.py") 350)])), (List.toArray [])⟩) ::
    (nat_lit 134, ⟨(.type "function"), .none, (.func ⟨(Str.ofString "check_leaf"), (Str.ofString "check_leaf"), a10, .stmts b10, s10, 3, [], Value.none, Value.none, Value.none, (.str (Str.ofString "methodrows.lower_dots") 275), .none, (.ref 133), Value.none, 0⟩), (List.toArray [])⟩) ::
    (nat_lit 135, ⟨(.type "tuple"), .none, (.seq (List.toArray []) 0), (List.toArray [])⟩) ::
    (nat_lit 137, ⟨(.type "tuple"), .none, (.seq (List.toArray [(.str (Str.ofString "tree") 355), (.str (Str.ofString "left") 356), (.str (Str.ofString "here") 357)]) 0), (List.toArray [])⟩) ::
    (nat_lit 138, ⟨(.type "tuple"), .none, (.seq (List.toArray []) 0), (List.toArray [])⟩) ::
    (nat_lit 140, ⟨(.type "code"), .none, (.fields (List.toArray [(.str (Str.ofString "mentions_end") 352), (.str (Str.ofString "mentions_end") 353), (.str (Str.ofString "/claim/cut.py") 354), (.int 54 0), (.int 1 0), (.int 0 0), (.int 0 0), (.int 3 0), (.ref 135), (.bool Bool.true), (.int 181 0), (.ref 136), Value.none, (.ref 137), (.ref 138), (.ref 139), (.int 358 0), (.int 54 0), (.str (Str.ofString "/claim/cut.py") 359)])), (List.toArray [])⟩) ::
    (nat_lit 141, ⟨(.type "function"), .none, (.func ⟨(Str.ofString "mentions_end"), (Str.ofString "mentions_end"), a11, .stmts b11, s11, 3, [], Value.none, Value.none, Value.none, (.str (Str.ofString "methodrows.lower_dots") 275), .none, (.ref 140), Value.none, 0⟩), (List.toArray [])⟩) ::
    (nat_lit 142, ⟨(.type "tuple"), .none, (.seq (List.toArray []) 0), (List.toArray [])⟩) ::
    (nat_lit 145, ⟨(.type "code"), .none, (.fields (List.toArray [(.str (Str.ofString "goal_of") 361), (.str (Str.ofString "goal_of") 362), (.str (Str.ofString "/claim/cut.py") 363), (.int 62 0), (.int 1 0), (.int 0 0), (.int 0 0), (.int 3 0), (.ref 142), (.bool Bool.true), (.int 181 0), (.ref 143), Value.none, Value.none, Value.none, (.ref 144), (.int 364 0), (.int 62 0), (.str (Str.ofString "/claim/cut.py") 365)])), (List.toArray [])⟩) ::
    (nat_lit 146, ⟨(.type "function"), .none, (.func ⟨(Str.ofString "goal_of"), (Str.ofString "goal_of"), a12, .stmts b12, s12, 3, [], Value.none, Value.none, Value.none, (.str (Str.ofString "methodrows.lower_dots") 275), .none, (.ref 145), Value.none, 0⟩), (List.toArray [])⟩) ::
    (nat_lit 147, ⟨(.type "tuple"), .none, (.seq (List.toArray []) 0), (List.toArray [])⟩) ::
    (nat_lit 150, ⟨(.type "code"), .none, (.fields (List.toArray [(.str (Str.ofString "function_over") 367), (.str (Str.ofString "function_over") 368), (.str (Str.ofString "/claim/cut.py") 369), (.int 68 0), (.int 2 0), (.int 0 0), (.int 0 0), (.int 3 0), (.ref 147), (.bool Bool.true), (.int 181 0), (.ref 148), Value.none, Value.none, Value.none, (.ref 149), (.int 370 0), (.int 68 0), (.str (Str.ofString "/claim/cut.py") 371)])), (List.toArray [])⟩) ::
    (nat_lit 151, ⟨(.type "function"), .none, (.func ⟨(Str.ofString "function_over"), (Str.ofString "function_over"), a13, .stmts b13, s13, 3, [], Value.none, Value.none, Value.none, (.str (Str.ofString "methodrows.lower_dots") 275), .none, (.ref 150), Value.none, 0⟩), (List.toArray [])⟩) ::
    (nat_lit 152, ⟨(.type "tuple"), .none, (.seq (List.toArray []) 0), (List.toArray [])⟩) ::
    (nat_lit 154, ⟨(.type "tuple"), .none, (.seq (List.toArray [(.str (Str.ofString "tree") 376), (.str (Str.ofString "supply") 377), (.str (Str.ofString "fuser") 378), (.str (Str.ofString "body") 379), (.str (Str.ofString "goal") 380)]) 0), (List.toArray [])⟩) ::
    (nat_lit 155, ⟨(.type "tuple"), .none, (.seq (List.toArray []) 0), (List.toArray [])⟩) ::
    (nat_lit 157, ⟨(.type "code"), .none, (.fields (List.toArray [(.str (Str.ofString "fused") 373), (.str (Str.ofString "fused") 374), (.str (Str.ofString "/claim/cut.py") 375), (.int 70 0), (.int 2 0), (.int 0 0), (.int 0 0), (.int 3 0), (.ref 152), (.bool Bool.true), (.int 181 0), (.ref 153), Value.none, (.ref 154), (.ref 155), (.ref 156), (.int 381 0), (.int 70 0), (.str (Str.ofString "/claim/cut.py") 382)])), (List.toArray [])⟩) ::
    (nat_lit 158, ⟨(.type "function"), .none, (.func ⟨(Str.ofString "fused"), (Str.ofString "fused"), a14, .stmts b14, s14, 3, [], Value.none, Value.none, Value.none, (.str (Str.ofString "methodrows.lower_dots") 275), .none, (.ref 157), Value.none, 0⟩), (List.toArray [])⟩) ::
    (nat_lit 166, ⟨(.type "tuple"), .none, (.seq (List.toArray []) 0), (List.toArray [])⟩) ::
    (nat_lit 168, ⟨(.type "tuple"), .none, (.seq (List.toArray [(.str (Str.ofString "self") 401)]) 0), (List.toArray [])⟩) ::
    (nat_lit 169, ⟨(.type "tuple"), .none, (.seq (List.toArray []) 0), (List.toArray [])⟩) ::
    (nat_lit 171, ⟨(.type "code"), .none, (.fields (List.toArray [(.str (Str.ofString "__init__") 398), (.str (Str.ofString "Supply.__init__") 399), (.str (Str.ofString "/claim/cut.py") 400), (.int 82 0), (.int 1 0), (.int 0 0), (.int 0 0), (.int 3 0), (.ref 166), (.bool Bool.true), (.int 181 0), (.ref 167), Value.none, (.ref 168), (.ref 169), (.ref 170), (.int 402 0), (.int 82 0), (.str (Str.ofString "/claim/cut.py") 403)])), (List.toArray [])⟩) ::
    (nat_lit 172, ⟨(.type "function"), .none, (.func ⟨(Str.ofString "__init__"), (Str.ofString "Supply.__init__"), a15, .stmts b15, s15, 3, [], Value.none, Value.none, Value.none, (.str (Str.ofString "methodrows.kind_terms") 384), .none, (.ref 171), Value.none, 0⟩), (List.toArray [])⟩) ::
    (nat_lit 173, ⟨(.type "tuple"), .none, (.seq (List.toArray []) 0), (List.toArray [])⟩) ::
    (nat_lit 175, ⟨(.type "tuple"), .none, (.seq (List.toArray [(.str (Str.ofString "self") 408), (.str (Str.ofString "base") 409)]) 0), (List.toArray [])⟩) ::
    (nat_lit 176, ⟨(.type "tuple"), .none, (.seq (List.toArray []) 0), (List.toArray [])⟩) ::
    (nat_lit 178, ⟨(.type "code"), .none, (.fields (List.toArray [(.str (Str.ofString "next") 405), (.str (Str.ofString "Supply.next") 406), (.str (Str.ofString "/claim/cut.py") 407), (.int 85 0), (.int 2 0), (.int 0 0), (.int 0 0), (.int 3 0), (.ref 173), (.bool Bool.true), (.int 181 0), (.ref 174), Value.none, (.ref 175), (.ref 176), (.ref 177), (.int 410 0), (.int 85 0), (.str (Str.ofString "/claim/cut.py") 411)])), (List.toArray [])⟩) ::
    (nat_lit 179, ⟨(.type "function"), .none, (.func ⟨(Str.ofString "next"), (Str.ofString "Supply.next"), a16, .stmts b16, s16, 3, [], Value.none, Value.none, Value.none, (.str (Str.ofString "methodrows.kind_terms") 384), .none, (.ref 178), Value.none, 0⟩), (List.toArray [])⟩) ::
    (nat_lit 180, ⟨(.type "tuple"), .none, (.seq (List.toArray [(.str (Str.ofString "many") 413)]) 0), (List.toArray [])⟩) ::
    (nat_lit 181, ⟨(.type "dict"), .none, (.dict (List.toArray [⟨(PyData.keyHash P (Str.ofString "__module__")), (.str (Str.ofString "__module__") 393), (.str (Str.ofString "methodrows.kind_terms") 384)⟩, ⟨(PyData.keyHash P (Str.ofString "__firstlineno__")), (.str (Str.ofString "__firstlineno__") 397), (.int 80 396)⟩, ⟨(PyData.keyHash P (Str.ofString "__init__")), (.str (Str.ofString "__init__") 404), (.ref 172)⟩, ⟨(PyData.keyHash P (Str.ofString "next")), (.str (Str.ofString "next") 412), (.ref 179)⟩, ⟨(PyData.keyHash P (Str.ofString "__static_attributes__")), (.str (Str.ofString "__static_attributes__") 414), (.ref 180)⟩, ⟨(PyData.keyHash P (Str.ofString "__dict__")), (.str (Str.ofString "__dict__") 416), (.ref 183)⟩, ⟨(PyData.keyHash P (Str.ofString "__weakref__")), (.str (Str.ofString "__weakref__") 418), (.ref 184)⟩, ⟨(PyData.keyHash P (Str.ofString "__doc__")), (.str (Str.ofString "__doc__") 419), Value.none⟩]) 4), (List.toArray [])⟩) ::
    (nat_lit 182, ⟨(.type "type"), .none, (.cls ⟨(Str.ofString "Supply"), [(.type "object")], [(.ref 182), (.type "object")], 181, (Str.ofString "Supply"), Bool.true, [], [], Bool.false, .none, Bool.false⟩), (List.toArray [.none, .none, (.some (.str (Str.ofString "Supply") 386)), (.some (.str (Str.ofString "Supply") 394)), (.some (.builtin "object.__new__")), (.some (.bool Bool.true))])⟩) ::
    (nat_lit 183, ⟨(.type "getset_descriptor"), .none, (.fields (List.toArray [(.str (Str.ofString "__dict__") 415), (.ref 182), (.builtin "function.__dict__"), (.builtin "function.__dict__#set")])), (List.toArray [])⟩) ::
    (nat_lit 184, ⟨(.type "getset_descriptor"), .none, (.fields (List.toArray [(.str (Str.ofString "__weakref__") 417), (.ref 182), (.builtin "ExceptionGroup.__weakref__"), Value.none])), (List.toArray [])⟩) ::
    (nat_lit 187, ⟨(.type "tuple"), .none, (.seq (List.toArray []) 0), (List.toArray [])⟩) ::
    (nat_lit 189, ⟨(.type "tuple"), .none, (.seq (List.toArray [(.str (Str.ofString "script") 427), (.str (Str.ofString "deck") 428), (.str (Str.ofString "thick") 429)]) 0), (List.toArray [])⟩) ::
    (nat_lit 190, ⟨(.type "tuple"), .none, (.seq (List.toArray []) 0), (List.toArray [])⟩) ::
    (nat_lit 192, ⟨(.type "code"), .none, (.fields (List.toArray [(.str (Str.ofString "_law_deal") 424), (.str (Str.ofString "_law_deal") 425), (.str (Str.ofString "/claim/cut.py") 426), (.int 89 0), (.int 1 0), (.int 0 0), (.int 0 0), (.int 3 0), (.ref 187), (.bool Bool.true), (.int 181 0), (.ref 188), Value.none, (.ref 189), (.ref 190), (.ref 191), (.int 430 0), (.int 89 0), (.str (Str.ofString "/claim/cut.py") 431)])), (List.toArray [])⟩) ::
    (nat_lit 193, ⟨(.type "function"), .none, (.func ⟨(Str.ofString "_law_deal"), (Str.ofString "_law_deal"), a17, .stmts b17, s17, 3, [], Value.none, Value.none, Value.none, (.str (Str.ofString "law_pq0689_01") 422), .none, (.ref 192), Value.none, 0⟩), (List.toArray [])⟩) ::
    (nat_lit 194, ⟨(.type "tuple"), .none, (.seq (List.toArray []) 0), (List.toArray [])⟩) ::
    (nat_lit 196, ⟨(.type "tuple"), .none, (.seq (List.toArray [(.str (Str.ofString "lot") 436), (.str (Str.ofString "many") 437), (.str (Str.ofString "card") 438)]) 0), (List.toArray [])⟩) ::
    (nat_lit 197, ⟨(.type "tuple"), .none, (.seq (List.toArray []) 0), (List.toArray [])⟩) ::
    (nat_lit 199, ⟨(.type "code"), .none, (.fields (List.toArray [(.str (Str.ofString "_law_card") 433), (.str (Str.ofString "_law_card") 434), (.str (Str.ofString "/claim/cut.py") 435), (.int 93 0), (.int 2 0), (.int 0 0), (.int 0 0), (.int 3 0), (.ref 194), (.bool Bool.true), (.int 181 0), (.ref 195), Value.none, (.ref 196), (.ref 197), (.ref 198), (.int 439 0), (.int 93 0), (.str (Str.ofString "/claim/cut.py") 440)])), (List.toArray [])⟩) ::
    (nat_lit 200, ⟨(.type "function"), .none, (.func ⟨(Str.ofString "_law_card"), (Str.ofString "_law_card"), a18, .stmts b18, s18, 3, [], Value.none, Value.none, Value.none, (.str (Str.ofString "law_pq0689_01") 422), .none, (.ref 199), Value.none, 0⟩), (List.toArray [])⟩) ::
    (nat_lit 201, ⟨(.type "tuple"), .none, (.seq (List.toArray []) 0), (List.toArray [])⟩) ::
    (nat_lit 203, ⟨(.type "tuple"), .none, (.seq (List.toArray [(.str (Str.ofString "head") 445), (.str (Str.ofString "parts") 446)]) 0), (List.toArray [])⟩) ::
    (nat_lit 204, ⟨(.type "tuple"), .none, (.seq (List.toArray []) 0), (List.toArray [])⟩) ::
    (nat_lit 206, ⟨(.type "code"), .none, (.fields (List.toArray [(.str (Str.ofString "_law_tree") 442), (.str (Str.ofString "_law_tree") 443), (.str (Str.ofString "/claim/cut.py") 444), (.int 100 0), (.int 2 0), (.int 0 0), (.int 0 0), (.int 3 0), (.ref 201), (.bool Bool.true), (.int 181 0), (.ref 202), Value.none, (.ref 203), (.ref 204), (.ref 205), (.int 447 0), (.int 100 0), (.str (Str.ofString "/claim/cut.py") 448)])), (List.toArray [])⟩) ::
    (nat_lit 207, ⟨(.type "function"), .none, (.func ⟨(Str.ofString "_law_tree"), (Str.ofString "_law_tree"), a19, .stmts b19, s19, 3, [], Value.none, Value.none, Value.none, (.str (Str.ofString "law_pq0689_01") 422), .none, (.ref 206), Value.none, 0⟩), (List.toArray [])⟩) ::
    (nat_lit 208, ⟨(.type "tuple"), .none, (.seq (List.toArray []) 0), (List.toArray [])⟩) ::
    (nat_lit 210, ⟨(.type "tuple"), .none, (.seq (List.toArray [(.str (Str.ofString "name") 453)]) 0), (List.toArray [])⟩) ::
    (nat_lit 211, ⟨(.type "tuple"), .none, (.seq (List.toArray []) 0), (List.toArray [])⟩) ::
    (nat_lit 213, ⟨(.type "code"), .none, (.fields (List.toArray [(.str (Str.ofString "_law_sym") 450), (.str (Str.ofString "_law_sym") 451), (.str (Str.ofString "/claim/cut.py") 452), (.int 102 0), (.int 1 0), (.int 0 0), (.int 0 0), (.int 3 0), (.ref 208), (.bool Bool.true), (.int 181 0), (.ref 209), Value.none, (.ref 210), (.ref 211), (.ref 212), (.int 454 0), (.int 102 0), (.str (Str.ofString "/claim/cut.py") 455)])), (List.toArray [])⟩) ::
    (nat_lit 214, ⟨(.type "function"), .none, (.func ⟨(Str.ofString "_law_sym"), (Str.ofString "_law_sym"), a20, .stmts b20, s20, 3, [], Value.none, Value.none, Value.none, (.str (Str.ofString "law_pq0689_01") 422), .none, (.ref 213), Value.none, 0⟩), (List.toArray [])⟩) ::
    (nat_lit 215, ⟨(.type "tuple"), .none, (.seq (List.toArray []) 0), (List.toArray [])⟩) ::
    (nat_lit 217, ⟨(.type "tuple"), .none, (.seq (List.toArray [(.str (Str.ofString "lot") 460), (.str (Str.ofString "way") 461)]) 0), (List.toArray [])⟩) ::
    (nat_lit 218, ⟨(.type "tuple"), .none, (.seq (List.toArray []) 0), (List.toArray [])⟩) ::
    (nat_lit 220, ⟨(.type "code"), .none, (.fields (List.toArray [(.str (Str.ofString "_law_leaf") 457), (.str (Str.ofString "_law_leaf") 458), (.str (Str.ofString "/claim/cut.py") 459), (.int 104 0), (.int 1 0), (.int 0 0), (.int 0 0), (.int 3 0), (.ref 215), (.bool Bool.true), (.int 181 0), (.ref 216), Value.none, (.ref 217), (.ref 218), (.ref 219), (.int 462 0), (.int 104 0), (.str (Str.ofString "/claim/cut.py") 463)])), (List.toArray [])⟩) ::
    (nat_lit 221, ⟨(.type "function"), .none, (.func ⟨(Str.ofString "_law_leaf"), (Str.ofString "_law_leaf"), a21, .stmts b21, s21, 3, [], Value.none, Value.none, Value.none, (.str (Str.ofString "law_pq0689_01") 422), .none, (.ref 220), Value.none, 0⟩), (List.toArray [])⟩) ::
    (nat_lit 222, ⟨(.type "tuple"), .none, (.seq (List.toArray []) 0), (List.toArray [])⟩) ::
    (nat_lit 224, ⟨(.type "tuple"), .none, (.seq (List.toArray [(.str (Str.ofString "lot") 468), (.str (Str.ofString "high") 469), (.str (Str.ofString "callee") 470), (.str (Str.ofString "parts") 471), (.str (Str.ofString "turn") 472), (.str (Str.ofString "is_high") 473)]) 0), (List.toArray [])⟩) ::
    (nat_lit 225, ⟨(.type "tuple"), .none, (.seq (List.toArray []) 0), (List.toArray [])⟩) ::
    (nat_lit 227, ⟨(.type "code"), .none, (.fields (List.toArray [(.str (Str.ofString "_law_dots") 465), (.str (Str.ofString "_law_dots") 466), (.str (Str.ofString "/claim/cut.py") 467), (.int 113 0), (.int 2 0), (.int 0 0), (.int 0 0), (.int 3 0), (.ref 222), (.bool Bool.true), (.int 181 0), (.ref 223), Value.none, (.ref 224), (.ref 225), (.ref 226), (.int 474 0), (.int 113 0), (.str (Str.ofString "/claim/cut.py") 475)])), (List.toArray [])⟩) ::
    (nat_lit 228, ⟨(.type "function"), .none, (.func ⟨(Str.ofString "_law_dots"), (Str.ofString "_law_dots"), a22, .stmts b22, s22, 3, [], Value.none, Value.none, Value.none, (.str (Str.ofString "law_pq0689_01") 422), .none, (.ref 227), Value.none, 0⟩), (List.toArray [])⟩) ::
    (nat_lit 229, ⟨(.type "tuple"), .none, (.seq (List.toArray []) 0), (List.toArray [])⟩) ::
    (nat_lit 232, ⟨(.type "code"), .none, (.fields (List.toArray [(.str (Str.ofString "_law_plain") 477), (.str (Str.ofString "_law_plain") 478), (.str (Str.ofString "/claim/cut.py") 479), (.int 122 0), (.int 1 0), (.int 0 0), (.int 0 0), (.int 3 0), (.ref 229), (.bool Bool.true), (.int 181 0), (.ref 230), Value.none, Value.none, Value.none, (.ref 231), (.int 480 0), (.int 122 0), (.str (Str.ofString "/claim/cut.py") 481)])), (List.toArray [])⟩) ::
    (nat_lit 233, ⟨(.type "function"), .none, (.func ⟨(Str.ofString "_law_plain"), (Str.ofString "_law_plain"), a23, .stmts b23, s23, 3, [], Value.none, Value.none, Value.none, (.str (Str.ofString "law_pq0689_01") 422), .none, (.ref 232), Value.none, 0⟩), (List.toArray [])⟩) ::
    (nat_lit 234, ⟨(.type "tuple"), .none, (.seq (List.toArray []) 0), (List.toArray [])⟩) ::
    (nat_lit 236, ⟨(.type "tuple"), .none, (.seq (List.toArray [(.str (Str.ofString "tree") 486), (.str (Str.ofString "found") 487), (.str (Str.ofString "part") 488)]) 0), (List.toArray [])⟩) ::
    (nat_lit 237, ⟨(.type "tuple"), .none, (.seq (List.toArray []) 0), (List.toArray [])⟩) ::
    (nat_lit 239, ⟨(.type "code"), .none, (.fields (List.toArray [(.str (Str.ofString "_law_things") 483), (.str (Str.ofString "_law_things") 484), (.str (Str.ofString "/claim/cut.py") 485), (.int 126 0), (.int 1 0), (.int 0 0), (.int 0 0), (.int 3 0), (.ref 234), (.bool Bool.true), (.int 181 0), (.ref 235), Value.none, (.ref 236), (.ref 237), (.ref 238), (.int 489 0), (.int 126 0), (.str (Str.ofString "/claim/cut.py") 490)])), (List.toArray [])⟩) ::
    (nat_lit 240, ⟨(.type "function"), .none, (.func ⟨(Str.ofString "_law_things"), (Str.ofString "_law_things"), a24, .stmts b24, s24, 3, [], Value.none, Value.none, Value.none, (.str (Str.ofString "law_pq0689_01") 422), .none, (.ref 239), Value.none, 0⟩), (List.toArray [])⟩) ::
    (nat_lit 241, ⟨(.type "tuple"), .none, (.seq (List.toArray []) 0), (List.toArray [])⟩) ::
    (nat_lit 244, ⟨(.type "code"), .none, (.fields (List.toArray [(.str (Str.ofString "_law_put_back") 492), (.str (Str.ofString "_law_put_back") 493), (.str (Str.ofString "/claim/cut.py") 494), (.int 135 0), (.int 2 0), (.int 0 0), (.int 0 0), (.int 3 0), (.ref 241), (.bool Bool.true), (.int 181 0), (.ref 242), Value.none, Value.none, Value.none, (.ref 243), (.int 495 0), (.int 135 0), (.str (Str.ofString "/claim/cut.py") 496)])), (List.toArray [])⟩) ::
    (nat_lit 245, ⟨(.type "function"), .none, (.func ⟨(Str.ofString "_law_put_back"), (Str.ofString "_law_put_back"), a25, .stmts b25, s25, 3, [], Value.none, Value.none, Value.none, (.str (Str.ofString "law_pq0689_01") 422), .none, (.ref 244), Value.none, 0⟩), (List.toArray [])⟩) ::
    (nat_lit 246, ⟨(.type "tuple"), .none, (.seq (List.toArray []) 0), (List.toArray [])⟩) ::
    (nat_lit 248, ⟨(.type "tuple"), .none, (.seq (List.toArray [(.str (Str.ofString "told") 501), (.str (Str.ofString "word") 502), (.str (Str.ofString "ahead") 503), (.str (Str.ofString "tree") 504), (.str (Str.ofString "function") 505), (.str (Str.ofString "behind") 506), (.str (Str.ofString "names") 507), (.str (Str.ofString "body") 508), (.str (Str.ofString "things") 509), (.str (Str.ofString "table") 510)]) 0), (List.toArray [])⟩) ::
    (nat_lit 249, ⟨(.type "tuple"), .none, (.seq (List.toArray []) 0), (List.toArray [])⟩) ::
    (nat_lit 251, ⟨(.type "code"), .none, (.fields (List.toArray [(.str (Str.ofString "_law_is_right") 498), (.str (Str.ofString "_law_is_right") 499), (.str (Str.ofString "/claim/cut.py") 500), (.int 139 0), (.int 4 0), (.int 0 0), (.int 0 0), (.int 3 0), (.ref 246), (.bool Bool.true), (.int 181 0), (.ref 247), Value.none, (.ref 248), (.ref 249), (.ref 250), (.int 511 0), (.int 139 0), (.str (Str.ofString "/claim/cut.py") 512)])), (List.toArray [])⟩) ::
    (nat_lit 252, ⟨(.type "function"), .none, (.func ⟨(Str.ofString "_law_is_right"), (Str.ofString "_law_is_right"), a26, .stmts b26, s26, 3, [], Value.none, Value.none, Value.none, (.str (Str.ofString "law_pq0689_01") 422), .none, (.ref 251), Value.none, 0⟩), (List.toArray [])⟩) ::
    (nat_lit 253, ⟨(.type "tuple"), .none, (.seq (List.toArray []) 0), (List.toArray [])⟩) ::
    (nat_lit 255, ⟨(.type "tuple"), .none, (.seq (List.toArray [(.str (Str.ofString "tree") 517)]) 0), (List.toArray [])⟩) ::
    (nat_lit 256, ⟨(.type "tuple"), .none, (.seq (List.toArray []) 0), (List.toArray [])⟩) ::
    (nat_lit 258, ⟨(.type "code"), .none, (.fields (List.toArray [(.str (Str.ofString "_law_is_refused") 514), (.str (Str.ofString "_law_is_refused") 515), (.str (Str.ofString "/claim/cut.py") 516), (.int 151 0), (.int 1 0), (.int 0 0), (.int 0 0), (.int 3 0), (.ref 253), (.bool Bool.true), (.int 181 0), (.ref 254), Value.none, (.ref 255), (.ref 256), (.ref 257), (.int 518 0), (.int 151 0), (.str (Str.ofString "/claim/cut.py") 519)])), (List.toArray [])⟩) ::
    (nat_lit 259, ⟨(.type "function"), .none, (.func ⟨(Str.ofString "_law_is_refused"), (Str.ofString "_law_is_refused"), a27, .stmts b27, s27, 3, [], Value.none, Value.none, Value.none, (.str (Str.ofString "law_pq0689_01") 422), .none, (.ref 258), Value.none, 0⟩), (List.toArray [])⟩) ::
    (nat_lit 260, ⟨(.type "tuple"), .none, (.seq (List.toArray []) 0), (List.toArray [])⟩) ::
    (nat_lit 262, ⟨(.type "tuple"), .none, (.seq (List.toArray [(.str (Str.ofString "script") 524), (.str (Str.ofString "lot") 525), (.str (Str.ofString "tree") 526), (.str (Str.ofString "value") 527), (.str (Str.ofString "place") 528), (.str (Str.ofString "goal") 529), (.str (Str.ofString "parts") 530), (.str (Str.ofString "keyed") 531), (.str (Str.ofString "splatted_one") 532), (.str (Str.ofString "last") 533)]) 0), (List.toArray [])⟩) ::
    (nat_lit 263, ⟨(.type "tuple"), .none, (.seq (List.toArray []) 0), (List.toArray [])⟩) ::
    (nat_lit 265, ⟨(.type "code"), .none, (.fields (List.toArray [(.str (Str.ofString "law") 521), (.str (Str.ofString "law") 522), (.str (Str.ofString "/claim/cut.py") 523), (.int 157 0), (.int 1 0), (.int 0 0), (.int 0 0), (.int 3 0), (.ref 260), (.bool Bool.true), (.int 181 0), (.ref 261), Value.none, (.ref 262), (.ref 263), (.ref 264), (.int 534 0), (.int 157 0), (.str (Str.ofString "/claim/cut.py") 535)])), (List.toArray [])⟩) ::
    (nat_lit 266, ⟨(.type "function"), .none, (.func ⟨(Str.ofString "law"), (Str.ofString "law"), a28, .stmts b28, s28, 3, [], Value.none, Value.none, Value.none, (.str (Str.ofString "law_pq0689_01") 422), .none, (.ref 265), Value.none, 0⟩), (List.toArray [])⟩) ::
    [])
    _ _ _ (by conv => lhs; whnf)
    _ _ _ (by conv => lhs; whnf)
    _ _ _ (by conv => lhs; whnf)
    _ _ _ (by conv => lhs; whnf)
    _ _ _ (by conv => lhs; whnf)
    _ _ _ (by conv => lhs; whnf)
    _ _ _ (by conv => lhs; whnf)
    _ _ _ (by conv => lhs; whnf)
    _ _ _ (by conv => lhs; whnf)
    _ _ _ (by conv => lhs; whnf)
    _ _ _ (by conv => lhs; whnf)
    _ _ _ (by conv => lhs; whnf)
    _ _ _ (by conv => lhs; whnf)
    _ _ _ (by conv => lhs; whnf)
    _ _ _ (by conv => lhs; whnf)
    _ _ _ (by conv => lhs; whnf)
    _ _ _ (by conv => lhs; whnf)
    _ _ _ (by conv => lhs; whnf)
    _ _ _ (by conv => lhs; whnf)
    _ _ _ (by conv => lhs; whnf)
    _ _ _ (by conv => lhs; whnf)
    _ _ _ (by conv => lhs; whnf)
    _ _ _ (by conv => lhs; whnf)
    _ _ _ (by conv => lhs; whnf)
    _ _ _ (by conv => lhs; whnf)
    _ _ _ (by conv => lhs; whnf)
    _ _ _ (by conv => lhs; whnf)
    _ _ _ (by conv => lhs; whnf)
    _ _ _ (by conv => lhs; whnf)
/-- the row's program without the statements that set its name -/
noncomputable def hd.view_39 : Program :=
  (fun (c1 : Stmt) (_ : stmtAt 1 = some c1) (c2 : Stmt) (_ : stmtAt 2 = some c2) (c4 : Stmt) (_ : stmtAt 4 = some c4) (c5 : Stmt) (_ : stmtAt 5 = some c5) (c6 : Stmt) (_ : stmtAt 6 = some c6) (c7 : Stmt) (_ : stmtAt 7 = some c7) (c8 : Stmt) (_ : stmtAt 8 = some c8) (c10 : Stmt) (_ : stmtAt 10 = some c10) (c11 : Stmt) (_ : stmtAt 11 = some c11) (c12 : Stmt) (_ : stmtAt 12 = some c12) (c13 : Stmt) (_ : stmtAt 13 = some c13) (c14 : Stmt) (_ : stmtAt 14 = some c14) (c15 : Stmt) (_ : stmtAt 15 = some c15) (c16 : Stmt) (_ : stmtAt 16 = some c16) (c17 : Stmt) (_ : stmtAt 17 = some c17) (c18 : Stmt) (_ : stmtAt 18 = some c18) (c20 : Stmt) (_ : stmtAt 20 = some c20) (c22 : Stmt) (_ : stmtAt 22 = some c22) (c23 : Stmt) (_ : stmtAt 23 = some c23) (c24 : Stmt) (_ : stmtAt 24 = some c24) (c25 : Stmt) (_ : stmtAt 25 = some c25) (c26 : Stmt) (_ : stmtAt 26 = some c26) (c27 : Stmt) (_ : stmtAt 27 = some c27) (c28 : Stmt) (_ : stmtAt 28 = some c28) (c29 : Stmt) (_ : stmtAt 29 = some c29) (c30 : Stmt) (_ : stmtAt 30 = some c30) (c31 : Stmt) (_ : stmtAt 31 = some c31) (c32 : Stmt) (_ : stmtAt 32 = some c32) (c33 : Stmt) (_ : stmtAt 33 = some c33) =>
    { PySem.Challenge.rw_pq0689_01.row.toRowW.1 with main := { PySem.Challenge.rw_pq0689_01.row.toRowW.1.main with body := [c1, c2, c4, c5, c6, c7, c8, c10, c11, c12, c13, c14, c15, c16, c17, c18, c20, c22, c23, c24, c25, c26, c27, c28, c29, c30, c31, c32, c33] } })
    _ (by conv => lhs; whnf) _ (by conv => lhs; whnf) _ (by conv => lhs; whnf) _ (by conv => lhs; whnf) _ (by conv => lhs; whnf) _ (by conv => lhs; whnf) _ (by conv => lhs; whnf) _ (by conv => lhs; whnf) _ (by conv => lhs; whnf) _ (by conv => lhs; whnf) _ (by conv => lhs; whnf) _ (by conv => lhs; whnf) _ (by conv => lhs; whnf) _ (by conv => lhs; whnf) _ (by conv => lhs; whnf) _ (by conv => lhs; whnf) _ (by conv => lhs; whnf) _ (by conv => lhs; whnf) _ (by conv => lhs; whnf) _ (by conv => lhs; whnf) _ (by conv => lhs; whnf) _ (by conv => lhs; whnf) _ (by conv => lhs; whnf) _ (by conv => lhs; whnf) _ (by conv => lhs; whnf) _ (by conv => lhs; whnf) _ (by conv => lhs; whnf) _ (by conv => lhs; whnf) _ (by conv => lhs; whnf)
noncomputable def as39 : List Addr := 2 :: 3 :: 15 :: 22 :: 23 :: 25 :: 26 :: 28 :: 29 :: 30 :: 31 :: 32 :: 33 :: 36 :: 43 :: 44 :: 45 :: 48 :: 50 :: 51 :: 53 :: 54 :: 55 :: 57 :: 58 :: 60 :: 61 :: 62 :: 64 :: 65 :: 67 :: 68 :: 69 :: 71 :: 72 :: 74 :: 75 :: 76 :: 78 :: 79 :: 81 :: 82 :: 83 :: 84 :: 85 :: 86 :: 87 :: 95 :: 97 :: 98 :: 100 :: 101 :: 102 :: 104 :: 105 :: 107 :: 108 :: 109 :: 111 :: 112 :: 114 :: 115 :: 116 :: 119 :: 120 :: 121 :: 122 :: 123 :: 124 :: 125 :: 128 :: 130 :: 131 :: 133 :: 134 :: 135 :: 137 :: 138 :: 140 :: 141 :: 142 :: 145 :: 146 :: 147 :: 150 :: 151 :: 152 :: 154 :: 155 :: 157 :: 158 :: 166 :: 168 :: 169 :: 171 :: 172 :: 173 :: 175 :: 176 :: 178 :: 179 :: 180 :: 181 :: 182 :: 183 :: 184 :: 187 :: 189 :: 190 :: 192 :: 193 :: 194 :: 196 :: 197 :: 199 :: 200 :: 201 :: 203 :: 204 :: 206 :: 207 :: 208 :: 210 :: 211 :: 213 :: 214 :: 215 :: 217 :: 218 :: 220 :: 221 :: 222 :: 224 :: 225 :: 227 :: 228 :: 229 :: 232 :: 233 :: 234 :: 236 :: 237 :: 239 :: 240 :: 241 :: 244 :: 245 :: 246 :: 248 :: 249 :: 251 :: 252 :: 253 :: 255 :: 256 :: 258 :: 259 :: 260 :: 262 :: 263 :: 265 :: 266 :: []
theorem as39_is (P : Params) : as39 = (hd.heap_39 P).map (·.1) := by kernel_rfl
theorem left_ok : LeftO PySem.Challenge.rw_pq0689_01.row.prog hd.view_39 [Str.ofString "RowsError"] (fun s => xlAt hd.view_39 [] s && recOk (RowW.records PySem.Challenge.rw_pq0689_01.row.toRowW) s)
    (Hook.obs (kHook hd.heap_39 as39 as39_is)) (Hook.val (kHook hd.heap_39 as39 as39_is)) 3664 := by
  intro w
  kernel_rfl
theorem said_ok : PySem.Challenge.rw_pq0689_01.wellSaid = true := by decide +kernel
theorem fill_K : (PySem.Challenge.rw_pq0689_01 = PySem.Challenge.rw_pq0689_01) ∧ (hd.heap_39 = hd.heap_39) := by
  k_fill
  exact ⟨rfl, rfl⟩
local macro_rules | `(tactic| walk_at $s:str) => `(tactic| k_extra $s)
local macro_rules | `(tactic| kt_len) => `(tactic| first | k_extra "kt_len" | fail "no")
local macro_rules | `(tactic| omega) => `(tactic| first | k_extra "omega" | fail "no")
local macro_rules | `(tactic| ktr_room) => `(tactic| first | k_extra "ktr_room" | fail "no")
local macro_rules | `(tactic| ktr_units) => `(tactic| first | k_extra "ktr_units" | fail "no")
local macro_rules | `(tactic| k_room) => `(tactic| first | k_extra "k_room" | fail "no")
local macro_rules | `(tactic| k_units) => `(tactic| first | k_extra "k_units" | fail "no")
local macro_rules | `(tactic| k_mem) => `(tactic| first | k_extra "k_mem" | fail "no")
local macro_rules | `(tactic| tb_start) => `(tactic| first | k_extra "tb_start" | fail "no")
local macro_rules | `(tactic| kqd_sub) => `(tactic| first | k_extra "kqd_sub" | fail "no")
local macro_rules | `(tactic| lsm_bools) => `(tactic| first | k_extra "lsm_bools" | fail "no")
local macro_rules | `(tactic| ktr_enter) => `(tactic| first | k_extra "ktr_enter" | fail "no")
local macro_rules | `(tactic| k_ne) => `(tactic| first | k_extra "k_ne" | fail "no")
local macro_rules | `(tactic| k_qdec) => `(tactic| first | k_extra "k_qdec" | fail "no")
local macro_rules | `(tactic| k_all) => `(tactic| first | k_extra "k_all" | fail "no")
local macro_rules | `(tactic| ktr_rel) => `(tactic| first | k_extra "ktr_rel" | fail "no")
local macro_rules | `(tactic| tb_rel) => `(tactic| first | k_extra "tb_rel" | fail "no")
local macro_rules | `(tactic| k_lt $h:ident) => `(tactic| skip)

section
-- Quick
theorem rm0 {a K L : Nat} (h : a + K < L) : a < L := Nat.lt_of_le_of_lt (Nat.le_add_right a K) h
theorem rm1 {a K L b : Nat} (h : a + K < L) (e : Nat.ble b K = true) : a + b < L := Nat.lt_of_le_of_lt (Nat.add_le_add_left (Nat.le_of_ble_eq_true e) a) h
theorem rm2 {a K L b c : Nat} (h : a + K < L) (e : Nat.ble (b + c) K = true) : a + b + c < L := Nat.add_assoc a b c ▸ rm1 h e
theorem rm3 {a K L b c d : Nat} (h : a + K < L) (e : Nat.ble (b + c + d) K = true) : a + b + c + d < L := by
  have := rm1 h e
  rwa [← Nat.add_assoc, ← Nat.add_assoc] at this
theorem rm4 {a K L b c d f : Nat} (h : a + K < L) (e : Nat.ble (b + c + d + f) K = true) : a + b + c + d + f < L := by
  have := rm1 h e
  rwa [← Nat.add_assoc, ← Nat.add_assoc, ← Nat.add_assoc] at this
theorem rm5 {a K L b c d f g : Nat} (h : a + K < L) (e : Nat.ble (b + c + d + f + g) K = true) : a + b + c + d + f + g < L := by
  have := rm1 h e
  rwa [← Nat.add_assoc, ← Nat.add_assoc, ← Nat.add_assoc, ← Nat.add_assoc] at this
theorem rs {a K k L : Nat} (h : a + (K + k) < L) : a + K < L := Nat.lt_of_le_of_lt (Nat.add_le_add_left (Nat.le_add_right K k) a) h
theorem rs1 {a K k L b : Nat} (h : a + (K + k) < L) (e : Nat.ble b K = true) : a + b < L := rm1 (rs h) e
theorem rs2 {a K k L b c : Nat} (h : a + (K + k) < L) (e : Nat.ble (b + c) K = true) : a + b + c < L := rm2 (rs h) e
theorem sza {a k N : Nat} (h : a ≤ k) (e : Nat.ble k N = true) : a ≤ N := Nat.le_trans h (Nat.le_of_ble_eq_true e)
theorem szb {a b k N : Nat} (h : a = b) (h2 : b ≤ k) (e : Nat.ble k N = true) : a ≤ N := h ▸ sza h2 e
theorem szc {a b k N : Nat} (h : a ≤ k) (e : Nat.ble (k + b) N = true) : a + b ≤ N := Nat.le_trans (Nat.add_le_add_right h b) (Nat.le_of_ble_eq_true e)
theorem szd {a b c k N : Nat} (h : a ≤ k) (e : Nat.ble (k + b + c) N = true) : a + b + c ≤ N := Nat.le_trans (Nat.add_le_add_right (Nat.add_le_add_right h b) c) (Nat.le_of_ble_eq_true e)
theorem cza {a b k N : Nat} (h : a ≤ k) (e : Nat.ble (b + k) N = true) : b + a ≤ N := Nat.le_trans (Nat.add_le_add_left h b) (Nat.le_of_ble_eq_true e)
theorem szg {a N : Nat} (e : Nat.ble a N = true) : a ≤ N := Nat.le_of_ble_eq_true e
theorem szs {a K N : Nat} (h : a + K ≤ N) : a ≤ N := Nat.le_trans (Nat.le_add_right a K) h
theorem pj1 {p q r : Prop} (h : r ∧ p ∧ q) : p := h.2.1
theorem pj2 {p q r s : Prop} (h : r ∧ s ∧ p ∧ q) : p := h.2.2.1
theorem ofI {a I C D : Addr} {o : Obj} {l : List (Addr × Obj)} (h : LCg.Off3 I C D l) (m : (a, o) ∈ l) : @Ne Nat a I := (h.mem _ m).1
theorem ofC {a I C D : Addr} {o : Obj} {l : List (Addr × Obj)} (h : LCg.Off3 I C D l) (m : (a, o) ∈ l) : @Ne Nat a C := (h.mem _ m).2.1
theorem ofD {a I C D : Addr} {o : Obj} {l : List (Addr × Obj)} (h : LCg.Off3 I C D l) (m : (a, o) ∈ l) : @Ne Nat a D := (h.mem _ m).2.2
theorem fI {a I C D : Addr} {o : Obj} {l : List (Addr × Obj)} (h : LCg.Off3 I C D l) (m : (a, o) ∈ l) : @Ne Nat I a := (h.mem _ m).1.symm
theorem fC {a I C D : Addr} {o : Obj} {l : List (Addr × Obj)} (h : LCg.Off3 I C D l) (m : (a, o) ∈ l) : @Ne Nat C a := (h.mem _ m).2.1.symm
theorem fD {a I C D : Addr} {o : Obj} {l : List (Addr × Obj)} (h : LCg.Off3 I C D l) (m : (a, o) ∈ l) : @Ne Nat D a := (h.mem _ m).2.2.symm
theorem ltm {D a : Nat} {o : Obj} {l : List (Addr × Obj)} (h : ∀ p ∈ l, p.1 < D) (m : (a, o) ∈ l) : a < D := h _ m
theorem ltn {D a k : Nat} {o : Obj} {l : List (Addr × Obj)} (h : ∀ p ∈ l, p.1 < D) (m : (a, o) ∈ l) : a < D + k := Nat.lt_of_lt_of_le (h _ m) (Nat.le_add_right D k)
theorem lk0 {a K d : Nat} (h : a + K ≤ d) (e : Nat.ble 1 K = true) : a < d := Nat.lt_of_lt_of_le (Nat.lt_add_of_pos_right (Nat.le_of_ble_eq_true e)) h
theorem lk1 {a K d b : Nat} (h : a + K ≤ d) (e : Nat.ble (b + 1) K = true) : a + b < d := Nat.lt_of_lt_of_le (Nat.add_lt_add_left (Nat.le_of_ble_eq_true e) a) h
theorem ltk {a b k : Nat} (h : a < b) : a < b + k := Nat.lt_of_lt_of_le h (Nat.le_add_right b k)
theorem lka {a k : Nat} (e : Nat.ble 1 k = true) : a < a + k := Nat.lt_add_of_pos_right (Nat.le_of_ble_eq_true e)
theorem lkb {a b c : Nat} (e : Nat.ble (b + 1) c = true) : a + b < a + c := Nat.add_lt_add_left (Nat.le_of_ble_eq_true e) a
theorem rmn {a b c m n N K L : Nat} (hn : n ≤ N) (h : a + K < L) (e : Nat.ble (b + (c + m * N)) K = true) : a + b + (c + m * n) < L :=
  Nat.lt_of_le_of_lt (Nat.add_le_add_left (Nat.add_le_add_left (Nat.mul_le_mul_left m hn) c) (a + b)) (rm2 h e)
theorem rmt {a b c m n L : Nat} (h : a + (c + m * (n + 1)) < L) (e : Nat.ble b m = true) : a + b + (c + m * n) < L := by
  have := Nat.le_of_ble_eq_true e
  rw [Nat.mul_add] at h
  omega
theorem uq1 {a i k : Nat} (h : a - i = k + 1) : a - (i + 1) = k := by omega
theorem uq2 {a i : Nat} (h : a - i = 0) (g : i ≤ a) : i = a := by omega
theorem uq3 {a i k : Nat} (h : a - i = k + 1) : i < a := by omega
theorem uq4 {a b i x : Nat} (h : x = min i (min a b)) (e : a = b) (g : i < a) : x = i := by omega
theorem uq5 {a q i : Nat} (h : q < min i a) (e : q = i) : False := by omega
theorem lt3 {a d D : Nat} {o : Obj} {l : List (Addr × Obj)} (q : d < D) (h : ∀ p ∈ l, p.1 < d) (m : (a, o) ∈ l) : a < D := Nat.lt_trans (h _ m) q
theorem offLt3 {X news : List (Addr × Obj)} {d D : Nat} (q : d < D) (h : ∀ p ∈ news, p.1 < d) (s : ∀ p ∈ X, p ∈ news) : ∀ p ∈ X, p.1 ≠ D := fun p hp => Nat.ne_of_lt (Nat.lt_trans (h p (s p hp)) q)
end
theorem reset_Quick : True := by
  w_top off
  k_with_none
  k_with "kt_len" => first | assumption | exact ltm (by assumption) (by lsm_bools) | exact lt3 (by assumption) (by assumption) (by lsm_bools) | exact ltk (by assumption) | exact lk0 (by assumption) (by rfl) | exact lk1 (by assumption) (by rfl) | exact ltn (by assumption) (by lsm_bools) | exact lka (by rfl) | exact lkb (by rfl) | exact And.left (by assumption) | exact pj1 (by assumption) | exact pj2 (by assumption) | fail "no"
  k_with "ktr_room" => first | exact szg (by rfl) | exact rm2 (by assumption) (by rfl) | exact rs2 (by assumption) (by rfl) | exact rm0 (by assumption) | exact rm1 (by assumption) (by rfl) | exact rs1 (by assumption) (by rfl) | exact rm3 (by assumption) (by rfl) | exact rm4 (by assumption) (by rfl) | exact rm5 (by assumption) (by rfl) | exact rmn (by assumption) (by assumption) (by rfl) | exact rmt (by assumption) (by rfl) | fail "no"
  k_with "ktr_units" => k_extra "ktr_room"
  k_with "omega" => first | with_reducible assumption | (show (_ : Nat) < _; first | assumption | k_extra "ktr_room") | (show (_ : Nat) ≤ _; first | assumption | exact szg (by rfl) | exact sza (by assumption) (by rfl) | exact szb (by assumption) (by assumption) (by rfl) | exact szc (by assumption) (by rfl) | exact szd (by assumption) (by rfl) | exact cza (by assumption) (by rfl) | exact szs (by assumption) | exact Nat.le_of_eq (by assumption)) | (show (_ : Nat) ≠ _; first | assumption | exact Ne.symm (by assumption) | exact ofI (by assumption) (by lsm_bools) | exact ofC (by assumption) (by lsm_bools) | exact ofD (by assumption) (by lsm_bools) | exact fI (by assumption) (by lsm_bools) | exact fC (by assumption) (by lsm_bools) | exact fD (by assumption) (by lsm_bools) | exact Nat.ne_of_lt (by kt_len) | exact Nat.ne_of_gt (by kt_len)) | (show (_ : Nat) < _ ∨ _; first | exact Or.inl (by kt_len) | exact Or.inr (by kt_len)) | fail "no"
  k_with "lsm_bools" => first | exact List.Mem.head _ | assumption | (refine' List.Mem.tail _ ?_; lsm_bools) | (refine' GrowT.mem ?gZ4 ?hZ4; (case gZ4 => assumption); (case hZ4 => lsm_bools)) | fail "no entry"
  k_with "k_mem" => first | lsm_bools | fail "no entry"
  k_with "tb_start" => first
  | exact List.forall_mem_nil _
  | (refine' List.forall_mem_cons.mpr ⟨?aZ6, ?bZ6⟩; (case aZ6 => lsm_bools); (case bZ6 => tb_start))
  | (intro p hp; repeat (first | exact hp | refine List.mem_cons_of_mem _ ?_ | refine List.Mem.tail _ ?_ | refine GrowT.mem' (by assumption) ?_ | refine GrowT.mem (by assumption) ?_ | fail "no entry"))
  | fail "not within"
  k_with "k_all" => first
  | assumption
  | (refine' GrowT.off ?gZ7 ?oZ7 ?NZ7 ?sZ7 ?mZ7 ?cZ7; (case gZ7 => assumption); (case NZ7 => k_asm); (case sZ7 => tb_start); (case mZ7 => lsm_bools); (case cZ7 => rfl); (case oZ7 => k_all))
  | (refine' offLt ?hZ7 ?sZ7; (case hZ7 => assumption); (case sZ7 => tb_start))
  | (refine' offLt3 ?qZ7 ?hZ7 ?sZ7; (case qZ7 => assumption); (case hZ7 => assumption); (case sZ7 => tb_start))
  | fail "not apart"
  k_with "kqd_sub" => first
  | (refine' Cut.own ?mZ8 ?rZ8; (case mZ8 => lsm_bools); (case rZ8 => kqd_sub))
  | (refine' Cut.oth ?oZ8 ?rZ8; (case oZ8 => k_all); (case rZ8 => kqd_sub))
  | exact Cut.tail
  | fail "no cut"
  k_with "ktr_rel" => first
  | exact subT_nil
  | exact subT_of (fun _ hp => hp)
  | assumption
  | (refine' subT_skip ?aZ9 ?bZ9; (case aZ9 => rfl); (case bZ9 => ktr_rel))
  | (refine' subT_cons ?aZ9 ?bZ9; (case aZ9 => lsm_bools); (case bZ9 => ktr_rel))
  | (refine' subT_of ?hZ9; (case hZ9 => tb_start))
  | (refine' subT_app (by ktr_rel) (by ktr_rel))
  | fail "tuples not within"
  k_with "k_room" => ktr_room
  k_with "k_units" => ktr_units
  k_with "tb_rel" => first
  | exact TAll.nil
  | exact TIn.str _ _
  | exact TIn.int _ _
  | exact TIn.bytes _ _
  | assumption
  | (refine' TIn.mono ?sZ12 ?hZ12; (case hZ12 => assumption); (case sZ12 => ktr_rel))
  | (refine' TAll.mono ?sZ12 ?hZ12; (case hZ12 => assumption); (case sZ12 => ktr_rel))
  | (refine' TIn.tuple ?mZ12 ?rZ12; (case mZ12 => lsm_bools); (case rZ12 => tb_rel))
  | (refine' TAll.cons (by tb_rel) (by tb_rel))
  | fail "no tree"
  trivial

section
-- Base0
/-- what a call of f with these values does to a ledger -/
noncomputable def Spec (w : World) (f : Addr) (args : List Value) (d u : Nat) (news : List (Addr × Obj)) (post : List (Addr × Obj) → Value → Prop) : Prop :=
  ∀ (dp un : Nat) (gd : Option (List Code)) (cn : Str) (cs : Scope) (a : Addr) (ccd : Value) (cl : List (Str × Addr)) (outer : List Env) (A₀ : Around) (base h₀ : Heap) (L : Addr) (m : Str → Option Value) (s : Shared)
    (mean : ExcName → Option Value) (mg mb : Str → Option Value) (Q E : Value → Shared → Prop),
    Below A₀ base outer h₀ → Fr h₀ L s.heap m → (hd.heap_39 w.params).In h₀ → News h₀ L s.heap news → Top hd.view_39 (looseW hd.view_39 [Str.ofString "RowsError"]) mean mg mb h₀ → cs.kind = .function → dp + d < recursionLimit → un + u < cLine →
    (∀ r news' h' tk', Fr h₀ L h' m → News h₀ L h' news' → post news' r → Q r { s with heap := h', toks := tk' }) →
    wpAny (model PySem.Challenge.rw_pq0689_01.row.prog w) (ktrTop dp un gd cn cs L a ccd cl outer) (call (.ref f) args) Q E s

/-- every object told is a tuple -/
noncomputable def Tups (T : List (Addr × Obj)) : Prop := ∀ p ∈ T, p.2.cls = .type "tuple"
theorem Tups.off {T : List (Addr × Obj)} {h₀ h : Heap} {L a : Addr} {o : Obj} {news : List (Addr × Obj)} (ht : Tups T) (N : News h₀ L h news) (hs : ∀ p ∈ T, p ∈ news) (ha : (a, o) ∈ news) (hc : o.cls ≠ .type "tuple") : ∀ p ∈ T, p.1 ≠ a := by
  intro p hp e
  have h1 := (N p (hs p hp)).1
  have h2 := (N _ ha).1
  rw [e] at h1
  rw [h1] at h2
  cases h2
  exact hc (ht p hp)
end

section
-- Base1
noncomputable abbrev tupObj (vs : List Value) (n : Nat) : Obj := { cls := .type "tuple", data := .seq vs.toArray n }
noncomputable def strsOf : List Value → List Str
  | [] => []
  | .str x _ :: r => x :: strsOf r
  | _ :: r => strsOf r
noncomputable def allStr : List Value → Bool
  | [] => true
  | .str _ _ :: r => allStr r
  | _ :: _ => false
theorem strsAre_of : ∀ {l : List Value}, allStr l = true → StrsAre l (strsOf l)
  | [], _ => .nil
  | v :: r, h => by
    cases v with
    | str x t => exact .cons _ _ (strsAre_of (l := r) h)
    | _ => simp [allStr] at h
theorem in_tupL {prog : Program} {w : World} {A : Around} {E : Value → Shared → Prop} {s : Shared} {t : Addr} {l : List Value} {x : Str} {u : Tok} {Q : Value → Shared → Prop} (ht : PyProof.Rows.IsTup s.heap t l.toArray) (hi : allStr l = true)
    (h : Q (.bool ((strsOf l).any (· == x))) s) : wpAny (model prog w) A (compareOp .In (.str x u) (.ref t)) Q E s := in_tuple_strs ht (by simpa using strsAre_of hi) h
end

section
-- DatEq
noncomputable def Held (h : Heap) (news : List (Addr × Obj)) : Prop := ∀ p ∈ news, h.get? p.1 = some p.2
theorem heldOf {h₀ h : Heap} {L : Addr} {news : List (Addr × Obj)} (N : News h₀ L h news) : Held h news := fun p hp => (N p hp).1
mutual
inductive TIn (news : List (Addr × Obj)) : Value → Dat → Prop
  | int (i : Int) (t : Tok) : TIn news (Value.int i t) (Dat.int i)
  | str (x : Str) (t : Tok) : TIn news (Value.str x t) (Dat.str x)
  | bytes (b : Array UInt8) (t : Tok) : TIn news (Value.bytes b t) (Dat.bytes b)
  | tuple {a : Addr} {vs : List Value} {n : Nat} {ds : List Dat} : (a, tupObj vs n) ∈ news → TAll news vs ds → TIn news (Value.ref a) (Dat.tuple ds)
inductive TAll (news : List (Addr × Obj)) : List Value → List Dat → Prop
  | nil : TAll news [] []
  | cons {v : Value} {vs : List Value} {d : Dat} {ds : List Dat} : TIn news v d → TAll news vs ds → TAll news (v :: vs) (d :: ds)
end
/-- a tuple's object -/
noncomputable def isTupB (o : Obj) : Bool := o.cls == .type "tuple" && (match o.data with | .seq .. => true | _ => false)
theorem isTupB_cls {o : Obj} (h : isTupB o = true) : o.cls = .type "tuple" := by
  unfold isTupB at h
  rw [Bool.and_eq_true] at h
  exact eq_of_beq h.1
theorem isTupB_not {o : Obj} (h : o.cls ≠ .type "tuple") : isTupB o = false := by
  cases e : isTupB o with
  | false => rfl
  | true => exact absurd (isTupB_cls e) h
noncomputable def SubT (X Y : List (Addr × Obj)) : Prop := ∀ p ∈ X, isTupB p.2 = true → p ∈ Y
mutual
theorem TIn.mono {X Y : List (Addr × Obj)} (hs : SubT X Y) : ∀ {v : Value} {d : Dat}, TIn X v d → TIn Y v d
  | _, _, .int i t => .int i t
  | _, _, .str x t => .str x t
  | _, _, .bytes b t => .bytes b t
  | _, _, .tuple h r => .tuple (hs _ h rfl) (TAll.mono hs r)
theorem TAll.mono {X Y : List (Addr × Obj)} (hs : SubT X Y) : ∀ {vs : List Value} {ds : List Dat}, TAll X vs ds → TAll Y vs ds
  | _, _, .nil => .nil
  | _, _, .cons h r => .cons (TIn.mono hs h) (TAll.mono hs r)
end
mutual
noncomputable def cmpD : Dat → Dat → Option Bool
  | .int a, .int b => some (a == b)
  | .str a, .str b => some (a == b)
  | .bytes a, .bytes b => some (decide (a.toList = b.toList))
  | .int _, .str _ => some false
  | .str _, .int _ => some false
  | .int _, .tuple _ => some false
  | .str _, .tuple _ => some false
  | .tuple _, .int _ => some false
  | .tuple _, .str _ => some false
  | .tuple xs, .tuple ys => cmpDs xs ys
  | _, _ => none
noncomputable def cmpDs : List Dat → List Dat → Option Bool
  | [], [] => some true
  | [], _ :: _ => some false
  | _ :: _, [] => some false
  | x :: xs, y :: ys => match cmpD x y with
    | some true => cmpDs xs ys
    | r => r
end
mutual
noncomputable def depD : Dat → Nat
  | .tuple ds => depDs ds + 1
  | .list ds => depDs ds + 1
  | _ => 0
noncomputable def depDs : List Dat → Nat
  | [] => 0
  | d :: ds => max (depD d) (depDs ds)
end
mutual
theorem datIn_uniq {h : Heap} {news : List (Addr × Obj)} (H : Held h news) : ∀ {v : Value} {d e : Dat}, TIn news v d → TIn news v e → d = e
  | _, _, _, .int _ _, h => by cases h; rfl
  | _, _, _, .str _ _, h => by cases h; rfl
  | _, _, _, .bytes _ _, h => by cases h; rfl
  | _, _, _, .tuple m r, h => by
    cases h with | tuple m' r' =>
    have e1 := H _ m
    have e2 := H _ m'
    simp only at e1 e2
    rw [e1] at e2
    have e3 := e2
    simp only [Option.some.injEq, Obj.mk.injEq, Data.seq.injEq, List.toArray_inj] at e3
    have e4 := congrArg Array.toList e3.2.2.1.1
    simp only [List.toList_toArray] at e4
    subst e4
    rw [datAll_uniq H r r']
theorem datAll_uniq {h : Heap} {news : List (Addr × Obj)} (H : Held h news) : ∀ {vs : List Value} {ds es : List Dat}, TAll news vs ds → TAll news vs es → ds = es
  | _, _, _, .nil, h => by cases h; rfl
  | _, _, _, .cons a r, h => by
    cases h with | cons a' r' => rw [datIn_uniq H a a', datAll_uniq H r r']
end
mutual
theorem cmpD_refl : ∀ (d : Dat) (b : Bool), cmpD d d = some b → b = true
  | .int a, b, h => by simpa [cmpD] using h.symm
  | .str a, b, h => by simpa [cmpD] using h.symm
  | .bytes a, b, h => by simpa [cmpD] using h.symm
  | .tuple xs, b, h => cmpDs_refl xs b (by simpa [cmpD] using h)
  | .none, b, h => by simp [cmpD] at h
  | .bool _, b, h => by simp [cmpD] at h
  | .list _, b, h => by simp [cmpD] at h
theorem cmpDs_refl : ∀ (ds : List Dat) (b : Bool), cmpDs ds ds = some b → b = true
  | [], b, h => by simpa [cmpDs] using h.symm
  | d :: ds, b, h => by
    unfold cmpDs at h
    split at h
    · exact cmpDs_refl ds b h
    · exact cmpD_refl d b (by assumption)
end

theorem tupEq_dat {prog : Program} {w : World} {A : Around} {E : Value → Shared → Prop} {s : Shared} {news : List (Addr × Obj)} {a b : Addr} {xs ys : List Value} {m n : Nat} {ds es : List Dat} {r : Bool} {P : Fin → Shared → Prop}
    (H : Held s.heap news) (ma : (a, tupObj xs m) ∈ news) (mb : (b, tupObj ys n) ∈ news) (D1 : TAll news xs ds) (D2 : TAll news ys es) (hc : cmpDs ds es = some r)
    (ih : ∀ d ∈ ds, ∀ (e : Dat) (v u : Value) (r : Bool), TIn news v d → TIn news u e → cmpD d e = some r → SeqAt.EqAt A s v u r)
    (h : P (.done (.ret (.bool r))) s) : wpAny (model prog w) A (Builtin.«tuple.__eq__» ⟨[.ref a, .ref b], []⟩) P E s := by
  have ha := H _ ma
  have hb := H _ mb
  show wpAny _ _ (isInstance (.ref b) (.type "tuple") >>= _) _ _ s
  refine wpAny_bind (wpAny_isInstance ⟨_, hb, rfl⟩ isSubtype_tuple_tuple ?_)
  simp only [Bool.not_true, Bool.false_eq_true, if_false]
  refine wpAny_bind (wpAny_tupleItemsOf ha rfl ?_)
  refine wpAny_bind (wpAny_tupleItemsOf hb rfl ?_)
  refine wpAny_bind ?_
  refine wpAny_forIn_list _
    (fun rest q s' => q.1 = none ∧ s' = s ∧ ∃ d' e' xs' ys', rest = List.zip xs' ys' ∧ TAll news xs' d' ∧ TAll news ys' e' ∧ cmpDs d' e' = some r ∧ (∀ d ∈ d', d ∈ ds) ∧ (xs'.length == ys'.length) = (xs.toArray.size == ys.toArray.size))
    _ ?_ ?_ _ _ ⟨rfl, rfl, ds, es, xs, ys, by simp, D1, D2, hc, fun _ h => h, by simp⟩
  · rintro ⟨u, v⟩ rest q s' ⟨hq, rfl, d', e', xs', ys', hz, hx', hy', hcc, hsub, hlen⟩
    cases hx' with
    | nil => simp at hz
    | @cons u' xs'' d d'' h1 hx'' =>
      cases hy' with
      | nil => simp at hz
      | @cons v' ys'' e e'' h2 hy'' =>
        simp only [List.zip_cons_cons, List.cons.injEq, Prod.mk.injEq] at hz
        obtain ⟨⟨rfl, rfl⟩, rfl⟩ := hz
        unfold cmpDs at hcc
        cases hk : cmpD d e with
        | none => rw [hk] at hcc; cases hcc
        | some k =>
          refine wpAny_bind (ih d (hsub _ (.head _)) e _ _ k h1 h2 hk prog w E _ ?_)
          rw [hk] at hcc
          cases k with
          | true =>
            simp only [Bool.not_true, Bool.false_eq_true, if_false]
            exact wpAny_pure ⟨rfl, rfl, _, _, xs'', ys'', rfl, hx'', hy'', hcc, fun d hd => hsub d (.tail _ hd), by simpa using hlen⟩
          | false =>
            simp only [Bool.not_false, if_true]
            have : r = false := by simpa using hcc.symm
            subst this
            exact wpAny_bind (wpAny_pure (wpAny_pure (wpAny_pure h)))
  · rintro ⟨r1, r2⟩ s' ⟨hq, rfl, d', e', xs', ys', hz, hx', hy', hcc, _, hlen⟩
    simp only at hq
    subst hq
    refine wpAny_pure ?_
    have hfin : (xs.toArray.size == ys.toArray.size) = r := by
      rw [← hlen]
      cases hx' with
      | nil =>
        cases hy' with
        | nil => simpa [cmpDs] using hcc
        | cons _ _ => simpa [cmpDs] using hcc
      | cons _ _ =>
        cases hy' with
        | nil => simpa [cmpDs] using hcc
        | cons _ _ => simp at hz
    show P (.done (.ret (.bool (xs.toArray.size == ys.toArray.size)))) s'
    rw [hfin]; exact h

theorem tupNe_dat {prog : Program} {w : World} {A : Around} {E : Value → Shared → Prop} {s : Shared} {news : List (Addr × Obj)} {a b : Addr} {xs ys : List Value} {m n : Nat} {ds es : List Dat} {r : Bool} {P : Fin → Shared → Prop}
    (H : Held s.heap news) (ma : (a, tupObj xs m) ∈ news) (mb : (b, tupObj ys n) ∈ news) (D1 : TAll news xs ds) (D2 : TAll news ys es) (hc : cmpDs ds es = some r)
    (ih : ∀ d ∈ ds, ∀ (e : Dat) (v u : Value) (r : Bool), TIn news v d → TIn news u e → cmpD d e = some r → SeqAt.EqAt A s v u r)
    (h : P (.done (.ret (.bool (!r)))) s) : wpAny (model prog w) A (Builtin.«tuple.__ne__» ⟨[.ref a, .ref b], []⟩) P E s := by
  have ha := H _ ma
  have hb := H _ mb
  show wpAny _ _ (isInstance (.ref b) (.type "tuple") >>= _) _ _ s
  refine wpAny_bind (wpAny_isInstance ⟨_, hb, rfl⟩ isSubtype_tuple_tuple ?_)
  simp only [Bool.not_true, Bool.false_eq_true, if_false]
  refine wpAny_bind (wpAny_tupleItemsOf ha rfl ?_)
  refine wpAny_bind (wpAny_tupleItemsOf hb rfl ?_)
  refine wpAny_bind ?_
  refine wpAny_forIn_list _
    (fun rest q s' => q.1 = none ∧ s' = s ∧ ∃ d' e' xs' ys', rest = List.zip xs' ys' ∧ TAll news xs' d' ∧ TAll news ys' e' ∧ cmpDs d' e' = some r ∧ (∀ d ∈ d', d ∈ ds) ∧ (xs'.length == ys'.length) = (xs.toArray.size == ys.toArray.size))
    _ ?_ ?_ _ _ ⟨rfl, rfl, ds, es, xs, ys, by simp, D1, D2, hc, fun _ h => h, by simp⟩
  · rintro ⟨u, v⟩ rest q s' ⟨hq, rfl, d', e', xs', ys', hz, hx', hy', hcc, hsub, hlen⟩
    cases hx' with
    | nil => simp at hz
    | @cons u' xs'' d d'' h1 hx'' =>
      cases hy' with
      | nil => simp at hz
      | @cons v' ys'' e e'' h2 hy'' =>
        simp only [List.zip_cons_cons, List.cons.injEq, Prod.mk.injEq] at hz
        obtain ⟨⟨rfl, rfl⟩, rfl⟩ := hz
        unfold cmpDs at hcc
        cases hk : cmpD d e with
        | none => rw [hk] at hcc; cases hcc
        | some k =>
          refine wpAny_bind (ih d (hsub _ (.head _)) e _ _ k h1 h2 hk prog w E _ ?_)
          rw [hk] at hcc
          cases k with
          | true =>
            simp only [Bool.not_true, Bool.false_eq_true, if_false]
            exact wpAny_pure ⟨rfl, rfl, _, _, xs'', ys'', rfl, hx'', hy'', hcc, fun d hd => hsub d (.tail _ hd), by simpa using hlen⟩
          | false =>
            simp only [Bool.not_false, if_true]
            have : r = false := by simpa using hcc.symm
            subst this
            exact wpAny_bind (wpAny_pure (wpAny_pure (wpAny_pure h)))
  · rintro ⟨r1, r2⟩ s' ⟨hq, rfl, d', e', xs', ys', hz, hx', hy', hcc, _, hlen⟩
    simp only at hq
    subst hq
    refine wpAny_pure ?_
    have hfin : (xs.toArray.size == ys.toArray.size) = r := by
      rw [← hlen]
      cases hx' with
      | nil =>
        cases hy' with
        | nil => simpa [cmpDs] using hcc
        | cons _ _ => simpa [cmpDs] using hcc
      | cons _ _ =>
        cases hy' with
        | nil => simpa [cmpDs] using hcc
        | cons _ _ => simp at hz
    show P (.done (.ret (.bool (!(xs.toArray.size == ys.toArray.size))))) s'
    rw [hfin]; exact h

theorem depDs_mem : ∀ {ds : List Dat} {d : Dat}, d ∈ ds → depD d ≤ depDs ds
  | _ :: _, _, .head _ => by simp only [depDs]; omega
  | _ :: ds, _, .tail _ h => by have := depDs_mem h; simp only [depDs]; omega
theorem isTuple_of {h : Heap} {a : Addr} {xs : List Value} {n : Nat} (e : h.get? a = some (tupObj xs n)) : h.IsTuple a xs.toArray := ⟨_, e, rfl, _, rfl⟩
theorem eqAt_dat {s : Shared} {news : List (Addr × Obj)} (H : Held s.heap news) : ∀ (k : Nat) (d : Dat), depD d ≤ k → ∀ (A : Around) (e : Dat) (v u : Value) (r : Bool), TIn news v d → TIn news u e → cmpD d e = some r → A.units + k < cLine → SeqAt.EqAt A s v u r := by
  intro k
  induction k with
  | zero =>
    intro d hd A e v u r D1 D2 hc hu
    cases D1 with
    | int a t =>
      cases D2 with
      | int b t' => simp only [cmpD, Option.some.injEq] at hc; subst hc; exact SeqAt.EqAt.int_int _ _ _ _
      | str b t' => simp only [cmpD, Option.some.injEq] at hc; subst hc; exact SeqAt.EqAt.int_str _ _ _ _
      | tuple m r => simp only [cmpD, Option.some.injEq] at hc; subst hc; exact SeqAt.EqAt.int_tuple _ _ (isTuple_of (H _ m)) (by omega)
      | _ => simp [cmpD] at hc
    | str a t =>
      cases D2 with
      | int b t' => simp only [cmpD, Option.some.injEq] at hc; subst hc; exact SeqAt.EqAt.str_int _ _ _ _
      | str b t' => simp only [cmpD, Option.some.injEq] at hc; subst hc; exact SeqAt.EqAt.str_str _ _ _ _
      | tuple m r => simp only [cmpD, Option.some.injEq] at hc; subst hc; exact SeqAt.EqAt.str_tuple _ _ (isTuple_of (H _ m)) (by omega)
      | _ => simp [cmpD] at hc
    | bytes a t =>
      cases D2 with
      | bytes b t' => simp only [cmpD, Option.some.injEq] at hc; subst hc; exact fun prog w E Q h => eqBool_bytes h
      | _ => simp [cmpD] at hc
    | tuple m r => simp [depD] at hd
  | succ k ih =>
    intro d hd A e v u r D1 D2 hc hu
    cases D1 with
    | int a t =>
      cases D2 with
      | int b t' => simp only [cmpD, Option.some.injEq] at hc; subst hc; exact SeqAt.EqAt.int_int _ _ _ _
      | str b t' => simp only [cmpD, Option.some.injEq] at hc; subst hc; exact SeqAt.EqAt.int_str _ _ _ _
      | tuple m r => simp only [cmpD, Option.some.injEq] at hc; subst hc; exact SeqAt.EqAt.int_tuple _ _ (isTuple_of (H _ m)) (by omega)
      | _ => simp [cmpD] at hc
    | str a t =>
      cases D2 with
      | int b t' => simp only [cmpD, Option.some.injEq] at hc; subst hc; exact SeqAt.EqAt.str_int _ _ _ _
      | str b t' => simp only [cmpD, Option.some.injEq] at hc; subst hc; exact SeqAt.EqAt.str_str _ _ _ _
      | tuple m r => simp only [cmpD, Option.some.injEq] at hc; subst hc; exact SeqAt.EqAt.str_tuple _ _ (isTuple_of (H _ m)) (by omega)
      | _ => simp [cmpD] at hc
    | bytes a t =>
      cases D2 with
      | bytes b t' => simp only [cmpD, Option.some.injEq] at hc; subst hc; exact fun prog w E Q h => eqBool_bytes h
      | _ => simp [cmpD] at hc
    | @tuple a vs n ds m q =>
      cases D2 with
      | int b t' => simp only [cmpD, Option.some.injEq] at hc; subst hc; exact SeqAt.EqAt.tuple_int _ _ (isTuple_of (H _ m)) (by omega)
      | str b t' => simp only [cmpD, Option.some.injEq] at hc; subst hc; exact SeqAt.EqAt.tuple_str _ _ (isTuple_of (H _ m)) (by omega)
      | @tuple b us n' es m' q' =>
        simp only [cmpD] at hc
        by_cases hab : a = b
        · subst hab
          have e := datIn_uniq H (TIn.tuple m q) (TIn.tuple m' q')
          simp only [Dat.tuple.injEq] at e
          subst e
          rw [cmpDs_refl ds r hc]
          exact SeqAt.EqAt.same _
        · refine SeqAt.EqAt.of_refs hab fun prog w E Q h => ?_
          have hT1 : s.TypeIs (.ref a) "tuple" := ⟨_, H _ m, rfl⟩
          have hT2 : s.TypeIs (.ref b) "tuple" := ⟨_, H _ m', rfl⟩
          refine wpAny_richCompare_same_room (op := .Eq) hT1 hT2 F.slot_tuple_eq
            (wpAny_call_entry F.slot_tuple_eq hT1 F.entry_tuple_eq (tupEq_dat H m m' q q' hc (fun d' hm e v u r D1 D2 hc' => ih d' (by have := depDs_mem hm; simp only [depD] at hd; omega) A.in1 e v u r D1 D2 hc' (by simp only [Around.in1_units]; omega)) ⟨_, rfl, (fun e => nomatch e), h⟩) (F.args_tuple_eq_2 _ _)) (by omega)
      | _ => simp [cmpD] at hc
section
variable {prog : Program} {w : World} {A : Around} {E : Value → Shared → Prop} {s : Shared} {h₀ : Heap} {L a b : Addr} {news : List (Addr × Obj)} {d e : Dat} {r : Bool} {Q : Value → Shared → Prop}
theorem eq_dat (H : Held s.heap news) (D1 : TIn news (.ref a) (.tuple ds)) (D2 : TIn news (.ref b) (.tuple es)) (hc : cmpDs ds es = some r) (hd : depDs ds ≤ 20) (hu : A.units + 30 < cLine) (h : Q (.bool r) s) : wpAny (model prog w) A (compareOp .Eq (.ref a) (.ref b)) Q E s := by
  refine cmp_ofEq ?_
  cases D1 with
  | @tuple _ vs n _ m q =>
    cases D2 with
    | @tuple _ us n' _ m' q' =>
      have hT1 : s.TypeIs (.ref a) "tuple" := ⟨_, H _ m, rfl⟩
      have hT2 : s.TypeIs (.ref b) "tuple" := ⟨_, H _ m', rfl⟩
      exact wpAny_richCompare_same_room (op := .Eq) hT1 hT2 F.slot_tuple_eq
        (wpAny_call_entry F.slot_tuple_eq hT1 F.entry_tuple_eq (tupEq_dat H m m' q q' hc (fun d' hm e v u r D1 D2 hc' => eqAt_dat H 20 d' (by have := depDs_mem hm; omega) A.in1 e v u r D1 D2 hc' (by simp only [Around.in1_units]; omega)) ⟨_, rfl, (fun e => nomatch e), h⟩) (F.args_tuple_eq_2 _ _)) (by omega)
theorem ne_dat (H : Held s.heap news) (D1 : TIn news (.ref a) (.tuple ds)) (D2 : TIn news (.ref b) (.tuple es)) (hc : cmpDs ds es = some r) (hd : depDs ds ≤ 20) (hu : A.units + 30 < cLine) (h : Q (.bool (!r)) s) : wpAny (model prog w) A (compareOp .NotEq (.ref a) (.ref b)) Q E s := by
  refine cmp_ofNotEq ?_
  cases D1 with
  | @tuple _ vs n _ m q =>
    cases D2 with
    | @tuple _ us n' _ m' q' =>
      have hT1 : s.TypeIs (.ref a) "tuple" := ⟨_, H _ m, rfl⟩
      have hT2 : s.TypeIs (.ref b) "tuple" := ⟨_, H _ m', rfl⟩
      exact wpAny_richCompare_same_room (op := .NotEq) hT1 hT2 F.slot_tuple_ne
        (wpAny_call_entry F.slot_tuple_ne hT1 F.entry_tuple_ne (tupNe_dat H m m' q q' hc (fun d' hm e v u r D1 D2 hc' => eqAt_dat H 20 d' (by have := depDs_mem hm; omega) A.in1 e v u r D1 D2 hc' (by simp only [Around.in1_units]; omega)) ⟨_, rfl, (fun e => nomatch e), h⟩) (F.args_tuple_ne_2 _ _)) (by omega)
end

theorem heldK {h : Heap} {news : List (Addr × Obj)} {K : Frag} {a : Addr} {o : Obj} (H : Held h news) (X : K.In h) (e : K.lookup a = some o) : Held h ((a, o) :: news) := fun p hp => by
  rcases List.mem_cons.mp hp with rfl | hp
  · exact X _ _ e
  · exact H p hp
end

section
-- Contract
noncomputable def GrowT (Y Y₁ : List (Addr × Obj)) : Prop := (∀ p ∈ Y, p ∈ Y₁) ∧ ∀ p ∈ Y₁, p ∈ Y ∨ isTupB p.2 = true
theorem GrowT.refl (Y : List (Addr × Obj)) : GrowT Y Y := ⟨fun _ h => h, fun _ h => .inl h⟩
noncomputable def tf (X : List (Addr × Obj)) : List (Addr × Obj) := X.filter fun p => isTupB p.2
theorem tf_mem {X : List (Addr × Obj)} {p : Addr × Obj} (h : p ∈ tf X) : p ∈ X ∧ isTupB p.2 = true := List.mem_filter.mp h
theorem tf_in {X : List (Addr × Obj)} {p : Addr × Obj} (h : p ∈ X) (c : isTupB p.2 = true) : p ∈ tf X := List.mem_filter.mpr ⟨h, c⟩
/-- a tuple's address is no mutable object's -/
theorem GrowT.off {Y Y₁ news : List (Addr × Obj)} {h₀ h : Heap} {L a : Addr} {o : Obj} (g : GrowT Y Y₁) (hy : ∀ p ∈ Y, p.1 ≠ a) (N : News h₀ L h news) (hs : ∀ p ∈ Y₁, p ∈ news) (ha : (a, o) ∈ news) (hc : isTupB o = false) : ∀ p ∈ Y₁, p.1 ≠ a := by
  intro p hp
  rcases g.2 p hp with q | q
  · exact hy p q
  · intro e
    have h1 := (N p (hs p hp)).1
    have h2 := (N _ ha).1
    rw [e] at h1
    rw [h1] at h2
    cases h2
    rw [q] at hc
    cases hc
noncomputable def Con (w : World) (f : Addr) (args : List Value) (d u : Nat) (Ms Y : List (Addr × Obj)) (Post : List (Addr × Obj) → List (Addr × Obj) → Value → Prop) : Prop :=
  Spec w f args d u (Ms ++ Y) (fun news' r => ∃ M' Y₁, GrowT Y Y₁ ∧ news' = M' ++ Y₁ ∧ Post M' Y₁ r)
inductive Cut (Ms Y : List (Addr × Obj)) : List (Addr × Obj) → List (Addr × Obj) → Prop
  | tail : Cut Ms Y Y []
  | own {p l ex} : p ∈ Ms → Cut Ms Y l ex → Cut Ms Y (p :: l) ex
  | oth {p l ex} : (∀ m ∈ Ms, m.1 ≠ p.1) → Cut Ms Y l ex → Cut Ms Y (p :: l) (p :: ex)
theorem Cut.sub {Ms Y news ex : List (Addr × Obj)} (c : Cut Ms Y news ex) : ∀ p ∈ ex ++ Y, p ∈ news := by
  induction c with
  | tail => exact fun p h => by simpa using h
  | own _ _ ih => exact fun p h => .tail _ (ih p h)
  | oth _ _ ih =>
    intro p h
    rcases List.mem_cons.mp h with rfl | h
    · exact .head _
    · exact .tail _ (ih p h)
theorem Cut.off {Ms Y news ex : List (Addr × Obj)} (c : Cut Ms Y news ex) : ∀ p ∈ ex, ∀ m ∈ Ms, m.1 ≠ p.1 := by
  induction c with
  | tail => exact fun p h => nomatch h
  | own _ _ ih => exact ih
  | oth h _ ih =>
    intro p hp
    rcases List.mem_cons.mp hp with rfl | hp
    · exact h
    · exact ih p hp
section
variable {w : World} {f : Addr} {args : List Value} {d u : Nat} {Ms Y ex news : List (Addr × Obj)} {Post : List (Addr × Obj) → List (Addr × Obj) → Value → Prop}
  {dp un : Nat} {gd : Option (List Code)} {cn : Str} {cs : Scope} {a : Addr} {ccd : Value} {cl : List (Str × Addr)} {outer : List Env} {A₀ : Around} {base h₀ : Heap} {L : Addr} {m : Str → Option Value} {s : Shared}
  {mean : ExcName → Option Value} {mg mb : Str → Option Value} {Q E : Value → Shared → Prop}
theorem Con.use (C : (∀ q ∈ Ms, ∀ p ∈ ex ++ Y, p.1 ≠ q.1) → Con w f args d u Ms (ex ++ Y) Post)
    (mono : ∀ M' X Z r, SubT X Z → Post M' X r → Post M' Z r)
    (hc : Cut Ms Y news ex) (hm : ∀ p ∈ Ms, p ∈ news) (hy : ∀ q ∈ Ms, ∀ p ∈ Y, p.1 ≠ q.1)
    (B : Below A₀ base outer h₀) (F : Fr h₀ L s.heap m) (X : (hd.heap_39 w.params).In h₀) (N : News h₀ L s.heap news) (T : Top hd.view_39 (looseW hd.view_39 [Str.ofString "RowsError"]) mean mg mb h₀) (hk : cs.kind = .function) (hd : dp + d < recursionLimit) (hu : un + u < cLine)
    (ret : ∀ r M' Y₂ h' tk', GrowT Y Y₂ → Fr h₀ L h' m → News h₀ L h' (M' ++ (ex ++ Y₂)) → Post M' Y₂ r → Q r { s with heap := h', toks := tk' }) :
    wpAny (model PySem.Challenge.rw_pq0689_01.row.prog w) (ktrTop dp un gd cn cs L a ccd cl outer) (call (.ref f) args) Q E s := by
  have off : ∀ q ∈ Ms, ∀ p ∈ ex ++ Y, p.1 ≠ q.1 := by
    intro q hq p hp
    rcases List.mem_append.mp hp with h | h
    · exact (hc.off p h q hq).symm
    · exact hy q hq p h
  refine C off dp un gd cn cs a ccd cl outer A₀ base h₀ L m s mean mg mb Q E B F X ?_ T hk hd hu ?_
  · intro p hp
    rcases List.mem_append.mp hp with h | h
    · exact N p (hm p h)
    · exact N p (hc.sub p h)
  · rintro r news' h' tk' F' N' ⟨M', Y₁, ⟨g1, g2⟩, rfl, hp⟩
    refine ret r M' (tf Y₁ ++ Y) h' tk' ⟨fun p h => List.mem_append.mpr (.inr h), fun p h => ?_⟩ F' ?_ (mono _ _ _ _ (fun p h1 h2 => List.mem_append.mpr (.inl (tf_in h1 h2))) hp)
    · rcases List.mem_append.mp h with h | h
      · exact .inr (tf_mem h).2
      · exact .inl h
    · intro p hp
      rcases List.mem_append.mp hp with h | h
      · exact N' p (List.mem_append.mpr (.inl h))
      · refine N' p (List.mem_append.mpr (.inr ?_))
        rcases List.mem_append.mp h with h | h
        · exact g1 p (List.mem_append.mpr (.inl h))
        · rcases List.mem_append.mp h with h | h
          · exact (tf_mem h).1
          · exact g1 p (List.mem_append.mpr (.inr h))
theorem con_fin {r : Value} {M' messy : List (Addr × Obj)} {h' : Heap} {tk' : Nat}
    (ret : ∀ r news' h' tk', Fr h₀ L h' m → News h₀ L h' news' → (∃ M' Y₁, GrowT Y Y₁ ∧ news' = M' ++ Y₁ ∧ Post M' Y₁ r) → Q r { s with heap := h', toks := tk' })
    (F : Fr h₀ L h' m) (N : News h₀ L h' messy) (hM : ∀ p ∈ M', p ∈ messy) (hY : ∀ p ∈ Y, p ∈ messy) (hp : ∀ Y₁, SubT messy Y₁ → Post M' Y₁ r) : Q r { s with heap := h', toks := tk' } := by
  refine ret r (M' ++ (tf messy ++ Y)) h' tk' F ?_ ⟨M', tf messy ++ Y, ⟨fun p h => List.mem_append.mpr (.inr h), fun p h => ?_⟩, rfl, hp _ fun p h1 h2 => List.mem_append.mpr (.inl (tf_in h1 h2))⟩
  · intro p hp
    rcases List.mem_append.mp hp with h | h
    · exact N p (hM p h)
    · rcases List.mem_append.mp h with h | h
      · exact N p (tf_mem h).1
      · exact N p (hY p h)
  · rcases List.mem_append.mp h with h | h
    · exact .inr (tf_mem h).2
    · exact .inl h
end
theorem subT_of {X Y : List (Addr × Obj)} (h : ∀ p ∈ X, p ∈ Y) : SubT X Y := fun p hp _ => h p hp
theorem subT_nil {Y : List (Addr × Obj)} : SubT [] Y := fun _ h => nomatch h
theorem subT_cons {X Y : List (Addr × Obj)} {p : Addr × Obj} (h : p ∈ Y) (r : SubT X Y) : SubT (p :: X) Y := fun q hq c => by
  rcases List.mem_cons.mp hq with rfl | hq
  · exact h
  · exact r q hq c
theorem subT_skip {X Y : List (Addr × Obj)} {p : Addr × Obj} (h : isTupB p.2 = false) (r : SubT X Y) : SubT (p :: X) Y := fun q hq c => by
  rcases List.mem_cons.mp hq with rfl | hq
  · rw [c] at h; cases h
  · exact r q hq c
theorem subT_app {X Z Y : List (Addr × Obj)} (h : SubT X Y) (r : SubT Z Y) : SubT (X ++ Z) Y := fun q hq c => by
  rcases List.mem_append.mp hq with hq | hq
  · exact h q hq c
  · exact r q hq c
theorem GrowT.mem {Y Y₁ : List (Addr × Obj)} {p : Addr × Obj} (g : GrowT Y Y₁) (h : List.Mem p Y) : List.Mem p Y₁ := g.1 p h
theorem GrowT.mem' {Y Y₁ : List (Addr × Obj)} {p : Addr × Obj} (g : GrowT Y Y₁) (h : p ∈ Y) : p ∈ Y₁ := g.1 p h
theorem Con.intro {w : World} {f : Addr} {args : List Value} {d u : Nat} {Ms Y : List (Addr × Obj)} {Post : List (Addr × Obj) → List (Addr × Obj) → Value → Prop}
    (h : ∀ (dp un : Nat) (gd : Option (List Code)) (cn : Str) (cs : Scope) (a : Addr) (ccd : Value) (cl : List (Str × Addr)) (outer : List Env) (A₀ : Around) (base h₀ : Heap) (L : Addr) (m : Str → Option Value) (s : Shared)
      (mean : ExcName → Option Value) (mg mb : Str → Option Value) (Q E : Value → Shared → Prop),
      Below A₀ base outer h₀ → Fr h₀ L s.heap m → (hd.heap_39 w.params).In h₀ → News h₀ L s.heap (Ms ++ Y) → Top hd.view_39 (looseW hd.view_39 [Str.ofString "RowsError"]) mean mg mb h₀ → cs.kind = .function → dp + d < recursionLimit → un + u < cLine →
      (∀ M' messy r h' tk', Fr h₀ L h' m → News h₀ L h' messy → (∀ p ∈ M', p ∈ messy) → (∀ p ∈ Y, p ∈ messy) → (∀ Y₁, SubT messy Y₁ → Post M' Y₁ r) → Q r { s with heap := h', toks := tk' }) →
      wpAny (model PySem.Challenge.rw_pq0689_01.row.prog w) (ktrTop dp un gd cn cs L a ccd cl outer) (call (.ref f) args) Q E s) :
    Con w f args d u Ms Y Post := by
  intro dp un gd cn cs a ccd cl outer A₀ base h₀ L m s mean mg mb Q E B F X N T hk hd hu hret
  exact h dp un gd cn cs a ccd cl outer A₀ base h₀ L m s mean mg mb Q E B F X N T hk hd hu fun M' messy r h' tk' F' N' hM hY hp => con_fin hret F' N' hM hY hp
/-- ways that meet again: what each of them leaves -/
noncomputable def Joined (h₀ : Heap) (L : Addr) (m : Str → Option Value) (ex Y : List (Addr × Obj)) (Post : List (Addr × Obj) → List (Addr × Obj) → Value → Prop) (s : Shared) (v : Value) (s' : Shared) : Prop :=
  ∃ M' Y₂ h' tk', s' = { s with heap := h', toks := tk' } ∧ GrowT Y Y₂ ∧ Fr h₀ L h' m ∧ News h₀ L h' (M' ++ (ex ++ Y₂)) ∧ Post M' Y₂ v
theorem join_cut {M : Model} {A : Around} {t : Sem Value} {h₀ : Heap} {L : Addr} {m : Str → Option Value} {Ms ex Y news : List (Addr × Obj)} {Post : List (Addr × Obj) → List (Addr × Obj) → Value → Prop} {s : Shared} {Q E : Value → Shared → Prop}
    (F : Fr h₀ L s.heap m) (_N : News h₀ L s.heap news) (_hm : ∀ p ∈ Ms, p ∈ news) (_hc : Cut Ms Y news ex) (h1 : wpAny M A t (Joined h₀ L m ex Y Post s) E s)
    (h2 : ∀ v M' Y₂ h' tk', GrowT Y Y₂ → Fr h₀ L h' m → News h₀ L h' (M' ++ (ex ++ Y₂)) → Post M' Y₂ v → Q v { s with heap := h', toks := tk' }) : wpAny M A t Q E s := by
  have _ := F
  refine wpAny_mono h1 ?_ fun _ _ e => e
  rintro v s' ⟨M', Y₂, h', tk', rfl, g, F', N', hp⟩
  exact h2 v M' Y₂ h' tk' g F' N' hp
theorem joined_end {h₀ : Heap} {L : Addr} {m : Str → Option Value} {ex Y messy : List (Addr × Obj)} {Post : List (Addr × Obj) → List (Addr × Obj) → Value → Prop} {s s' : Shared} {v : Value} (M' : List (Addr × Obj)) {h' : Heap} {tk' : Nat}
    (hs : s' = { s with heap := h', toks := tk' }) (F : Fr h₀ L h' m) (N : News h₀ L h' messy) (hM : ∀ p ∈ M', p ∈ messy) (hx : ∀ p ∈ ex, p ∈ messy) (hY : ∀ p ∈ Y, p ∈ messy) (hp : ∀ Y₁, SubT messy Y₁ → Post M' Y₁ v) :
    Joined h₀ L m ex Y Post s v s' := by
  refine ⟨M', tf messy ++ Y, h', tk', hs, ⟨fun p h => List.mem_append.mpr (.inr h), fun p h => ?_⟩, F, fun p hp => ?_, hp _ fun p h1 h2 => List.mem_append.mpr (.inl (tf_in h1 h2))⟩
  · rcases List.mem_append.mp h with h | h
    · exact .inr (tf_mem h).2
    · exact .inl h
  · rcases List.mem_append.mp hp with h | h
    · exact N p (hM p h)
    · rcases List.mem_append.mp h with h | h
      · exact N p (hx p h)
      · rcases List.mem_append.mp h with h | h
        · exact N p (tf_mem h).1
        · exact N p (hY p h)
theorem offLt {X news : List (Addr × Obj)} {D : Addr} (h : ∀ p ∈ news, p.1 < D) (s : ∀ p ∈ X, p ∈ news) : ∀ p ∈ X, p.1 ≠ D := fun p hp => Nat.ne_of_lt (h p (s p hp))
theorem unrEnd_cut {h₀ : Heap} {L I : Addr} {it : Obj} {rest : (Str → Option Value) → List (Addr × Obj) → Prop} {s₁ : Shared} {h' : Heap} {tk : Nat} {m' : Str → Option Value} {all ex Y : List (Addr × Obj)} (F : Fr h₀ L h' m') (N : News h₀ L h' all)
    (hI : ∀ p ∈ [(I, it)], p ∈ all) (hc : Cut [(I, it)] Y all ex) (hy : ∀ p ∈ Y, p.1 ≠ I) (r : rest m' (ex ++ Y)) : UnrEnd h₀ L s₁ I it rest { s₁ with heap := h', toks := tk } := by
  refine UnrEnd.intro F N (ex ++ Y) (fun p hp => ?_) (fun p hp => ?_) r
  · rcases List.mem_cons.mp hp with rfl | hp
    · exact hI _ (.head _)
    · exact hc.sub p hp
  · rcases List.mem_append.mp hp with h | h
    · exact (hc.off p h _ (.head _)).symm
    · exact hy p h
theorem add_lit {prog : Program} {w : World} {A : Around} {E : Value → Shared → Prop} {s : Shared} {a b c : Int} {t u : Tok} {Q : Value → Shared → Prop} (e : a + b = c) (h : Q (.int c s.toks) { s with toks := s.toks + 1 }) : wpAny (model prog w) A (binaryOp .Add (.int a t) (.int b u)) Q E s := by
  subst e; exact add_int h
theorem Cut.has {Ms Y news ex : List (Addr × Obj)} (c : Cut Ms Y news ex) : ∀ p ∈ news, p ∈ Ms ∨ p ∈ ex ++ Y := by
  induction c with
  | tail => exact fun p h => .inr (by simpa using h)
  | own m _ ih =>
    intro p h
    rcases List.mem_cons.mp h with rfl | h
    · exact .inl m
    · exact ih p h
  | oth _ _ ih =>
    intro p h
    rcases List.mem_cons.mp h with rfl | h
    · exact .inr (.head _)
    · exact (ih p h).elim .inl fun q => .inr (.tail _ q)
theorem Cut.all {Y news ex : List (Addr × Obj)} (c : Cut [] Y news ex) : ∀ p ∈ news, p ∈ ex ++ Y := fun p hp => (c.has p hp).elim (fun h => nomatch h) id
end

section
-- Tree
noncomputable abbrev sS (x : String) : Dat := .str (Str.ofString x)
noncomputable abbrev symD (x : Str) : Dat := .tuple [sS "sym", .str x]
noncomputable abbrev exD (h : String) (ds : List Dat) : Dat := .tuple [sS "expr", sS h, .tuple ds]
noncomputable def leafD : Nat → Dat
  | 0 => symD (Str.ofString "a")
  | 1 => symD (Str.ofString "b")
  | 2 => symD (Str.ofString "c")
  | 3 => exD "call" [symD (Str.ofString "g"), symD (Str.ofString "x"), .tuple [sS "int", .int 2]]
  | 4 => exD "ref" [symD (Str.ofString "v"), .tuple [sS "int", .int 1]]
  | 5 => .tuple [sS "int", .int 7]
  | _ => .tuple [sS "text", .bytes #[116]]
inductive Cal where
  | nm (x : Str)
  | own
noncomputable def opsL : List Str := [Str.ofString "f", Str.ofString "+", Str.ofString "sqrt", Str.ofString "-"]
noncomputable def Cal.dat : Cal → Dat
  | .nm x => symD x
  | .own => exD "." [symD (Str.ofString "m"), symD (Str.ofString "h")]
noncomputable def Cal.ok : Cal → Prop
  | .nm x => x ∈ opsL
  | .own => True
inductive Tr where
  | leaf (k : Nat)
  | d1 (c : Cal) (x : Tr)
  | d2 (c : Cal) (x y : Tr)
  | d3 (c : Cal) (x y z : Tr)
noncomputable def Tr.dat : Tr → Dat
  | .leaf k => leafD k
  | .d1 c x => exD "dotcall" [c.dat, x.dat]
  | .d2 c x y => exD "dotcall" [c.dat, x.dat, y.dat]
  | .d3 c x y z => exD "dotcall" [c.dat, x.dat, y.dat, z.dat]
noncomputable def Tr.ok : Nat → Tr → Prop
  | _, .leaf k => k < 7
  | 0, _ => False
  | n + 1, .d1 c x => c.ok ∧ x.ok n
  | n + 1, .d2 c x y => c.ok ∧ x.ok n ∧ y.ok n
  | n + 1, .d3 c x y z => c.ok ∧ x.ok n ∧ y.ok n ∧ z.ok n
noncomputable def Tr.isDots : Tr → Prop
  | .leaf _ => False
  | _ => True
end

section
-- Loops
open LCg
/-- a stop for the walk -/
noncomputable def Hold (p : Prop) : Prop := p
theorem Hold.of {p : Prop} (h : Hold p) : p := h
theorem fr_con {h₀ h : Heap} {L : Addr} {m : Str → Option Value} {x : Str} {o : Option Value} (e : m x = o) (F : Fr h₀ L h m) : Fr h₀ L h (fun y => if y = x then o else m y) := by
  have : (fun y => if y = x then o else m y) = m := by
    funext y
    by_cases hy : y = x
    · rw [if_pos hy, hy, e]
    · rw [if_neg hy]
  rw [this]; exact F
section
variable {prog : Program} {w : World} {A : Around} {E : Value → Shared → Prop} {s : Shared} {env : Env} {h₀ : Heap} {x : Str} {body : List Stmt} {Q : Flow → Shared → Prop}
theorem unrPost_mono {L : Addr} {s₁ : Shared} {I : Addr} {it : Obj} {r1 r2 : (Str → Option Value) → List (Addr × Obj) → Prop} (hr : ∀ m' n', (∀ p ∈ n', p.1 ≠ I) → r1 m' n' → r2 m' n') :
    ∀ f s₂, UnrPost h₀ L s₁ I it r1 Q f s₂ → UnrPost h₀ L s₁ I it r2 Q f s₂ := by
  intro f s₂ h
  have step : UnrEnd h₀ L s₁ I it r1 s₂ → UnrEnd h₀ L s₁ I it r2 s₂ := by
    rintro ⟨h', tk, m', n', e, F, N, o, r⟩
    exact ⟨h', tk, m', n', e, F, N, o, hr m' n' o r⟩
  cases f with
  | ret v => exact h
  | brk => exact h
  | next => exact step h
  | cont => exact step h
theorem rangeRest_inv {I : Addr} {a : Int} {n : Nat} (J : Nat → (Str → Option Value) → List (Addr × Obj) → Prop)
    (turn : ∀ i m news t h tk it, i < n → it.cls = .type "range_iterator" → J i m news → (∀ p ∈ news, p.1 ≠ I) → Fr h₀ env.locals h (fun y => if y = x then some (.int (a + (i : Int)) t) else m y) →
      News h₀ env.locals h ((I, it) :: news) → wpAny (model prog w) A (execs body env) (UnrPost h₀ env.locals { s with heap := h, toks := tk } I it (J (i + 1)) Q) E { s with heap := h, toks := tk })
    (fin : ∀ m news h tk, J n m news → Fr h₀ env.locals h m → News h₀ env.locals h news → Q .next { s with heap := h, toks := tk }) :
    ∀ k i m news, i + k = n → J i m news → (∀ p ∈ news, p.1 ≠ I) → RangeRest prog w A E h₀ env x body Q s I a n k i m news := by
  intro k
  induction k with
  | zero =>
    intro i m news hi hJ _
    rw [Nat.add_zero] at hi
    subst hi
    exact RangeRest.zero fun h tk F N => fin m news h tk hJ F N
  | succ k ih =>
    intro i m news hi hJ ho
    refine RangeRest.succ fun t h tk F N => ?_
    exact wpAny_mono (turn i m news t h tk _ (by omega) rfl hJ ho F N) (unrPost_mono fun m' n' o r => ih (i + 1) m' n' (by omega) r o) fun _ _ e => e
theorem for_range_inv {r : Addr} {a b : Int} {t u v : Tok} {n : Nat} {m₀ : Str → Option Value} {news : List (Addr × Obj)} (J : Nat → (Str → Option Value) → List (Addr × Obj) → Prop)
    (hh : A.handled = none) (hr : IsRange s.heap r a b 1 t u v) (hsmall : Builtin.Range.small a b 1 = true) (hn : Builtin.Range.rangeSize a b 1 = (n : Int)) (F : Fr h₀ env.locals s.heap m₀) (N : News h₀ env.locals s.heap news) (j0 : J 0 m₀ news)
    (turn : ∀ I i m news t h tk it, i < n → it.cls = .type "range_iterator" → J i m news → (∀ p ∈ news, p.1 ≠ I) → Fr h₀ env.locals h (fun y => if y = x then some (.int (a + (i : Int)) t) else m y) →
      News h₀ env.locals h ((I, it) :: news) → wpAny (model prog w) A (execs body env) (UnrPost h₀ env.locals { s with heap := h, toks := tk } I it (J (i + 1)) Q) E { s with heap := h, toks := tk })
    (fin : ∀ m news h tk, J n m news → Fr h₀ env.locals h m → News h₀ env.locals h news → Q .next { s with heap := h, toks := tk }) :
    wpAny (model prog w) A (pyIter (.ref r)) (fun it s₂ => LoopAtV prog w A h₀ env x body Q E it s₂) E s :=
  iter_rangeUnr hh hr hsmall hn F N fun I hI => rangeRest_inv J (turn I) fin n 0 m₀ news (Nat.zero_add n) j0 fun p hp => Nat.ne_of_lt (hI p hp)

theorem for_tup_inv {ax : Addr} {vs : List Value} {nn : Nat} {m₀ : Str → Option Value} {news : List (Addr × Obj)} (J : Nat → (Str → Option Value) → List (Addr × Obj) → Prop)
    (hh : A.handled = none) (F : Fr h₀ env.locals s.heap m₀) (N : News h₀ env.locals s.heap news) (hm : ∀ i m n, J i m n → (ax, tupObj vs nn) ∈ n) (j0 : J 0 m₀ news)
    (turn : ∀ I i v it m news h tk, vs[i]? = some v → it.cls = .type "tuple_iterator" → J i m news → (∀ p ∈ news, p.1 ≠ I) → Fr h₀ env.locals h (fun y => if y = x then some v else m y) →
      News h₀ env.locals h ((I, it) :: news) → wpAny (model prog w) A (execs body env) (UnrPost h₀ env.locals { s with heap := h, toks := tk } I it (J (i + 1)) Q) E { s with heap := h, toks := tk })
    (fin : ∀ m news h tk, J vs.length m news → Fr h₀ env.locals h m → News h₀ env.locals h news → Q .next { s with heap := h, toks := tk }) :
    wpAny (model prog w) A (pyIter (.ref ax)) (fun it s₂ => LoopAtV prog w A h₀ env x body Q E it s₂) E s := by
  have hax := N _ (hm _ _ _ j0)
  have ht : s.heap.IsTuple ax vs.toArray := ⟨_, hax.1, rfl, nn, rfl⟩
  have hne : ax ≠ s.heap.objs.size := Nat.ne_of_lt (Heap.lt_size hax.1)
  refine wpAny_pyIter_tuple ht ?_
  have W := Walks.tuple (prog := prog) (w := w) hh s.heap.objs.size ax hne vs.toArray
  have hnew := next_is_new F
  have hlen : vs.toArray.size = vs.length := by simp
  rw [hlen] at W
  refine ⟨_, _, _, vs.length, _, _, m₀, news, J, rfl, W, ?_, ?_, ?_, ⟨⟨_, Heap.get?_push_size _ rfl, rfl, rfl⟩, ht.push _⟩, F.push _, (fun p hp => ⟨Heap.get?_push_of_some _ (N p hp).1, (N p hp).2⟩), j0, ?_, ?_⟩
  · intro hmm
    rcases List.mem_cons.mp hmm with e | hmm
    · exact absurd F.ns.lt (e ▸ Nat.lt_irrefl _)
    · exact hax.2.1 (List.mem_singleton.mp hmm).symm
  · intro b hb
    rw [List.mem_singleton.mp hb]
    exact hnew
  · intro p hp hI
    exact absurd (Heap.lt_size (N p hp).1) ((List.mem_singleton.mp hI) ▸ Nat.lt_irrefl _)
  · rintro i v m₁ news₁ s₁ own ⟨hh', tk', rfl⟩ hin hP hJ hoff hown hget hall hst F₁ N₁
    obtain ⟨it, hit, hic, hid⟩ := hst.1
    have hmemI := hall s.heap.objs.size (List.mem_cons_self ..) hnew _ hit
    have N₂ : News h₀ env.locals hh' ((s.heap.objs.size, it) :: news₁) := fun p hp => by
      rcases List.mem_cons.mp hp with rfl | hp
      · exact N₁ _ (List.mem_append_left _ hmemI)
      · exact N₁ _ (List.mem_append_right _ hp)
    have hv : vs[i]? = some v := by simpa using hP
    refine wpAny_mono (turn s.heap.objs.size i v it m₁ news₁ hh' tk' hv hic hJ (fun p hp e => hoff p hp (List.mem_singleton.mpr e)) F₁ N₂) (fun f s₂ p => ?_) fun _ _ e => e
    have fin' : UnrEnd h₀ env.locals { s with heap := hh', toks := tk' } s.heap.objs.size it (J (i + 1)) s₂ → LoopStepU h₀ env.locals [s.heap.objs.size] own (J (i + 1)) { s with heap := hh', toks := tk' } .next s₂ := by
      rintro ⟨h', tk, m', news', e, F', N', ho, r⟩
      refine ⟨rfl, h', tk, m', news', e, F', fun p hp => ?_, fun p hp hI => ho p hp (List.mem_singleton.mp hI), r⟩
      rcases List.mem_append.mp hp with hp | hp
      · have h2 : hh'.get? p.1 = some p.2 := hget p hp
        rcases List.mem_cons.mp (hown p hp) with h1 | h1
        · have h3 : p = (s.heap.objs.size, it) := by
            rw [h1, hit] at h2
            exact Prod.ext h1 (Option.some.inj h2).symm
          rw [h3]; exact N' _ (List.mem_cons_self ..)
        · have h1' : p.1 = ax := List.mem_singleton.mp h1
          have h3 : p = (ax, tupObj vs nn) := by
            rw [h1', (N₁ _ (List.mem_append_right _ (hm _ _ _ hJ))).1] at h2
            exact Prod.ext h1' (Option.some.inj h2).symm
          rw [h3]; exact N' _ (List.mem_cons_of_mem _ (hm _ _ _ r))
      · exact N' _ (List.mem_cons_of_mem _ hp)
    cases f with
    | ret v => exact .ret p
    | brk => exact .brk p
    | next => exact .next (fin' p)
    | cont => exact .cont (fin' p)
  · rintro h' tk m' news' F' N' _ hJ
    exact fin m' news' h' tk hJ F' N'
end
section
variable {prog : Program} {w : World} {A : Around} {E : Value → Shared → Prop} {s : Shared} {h₀ : Heap} {L : Addr} {m : Str → Option Value} {env : Env}
theorem compRest_inv {elt : Expr} {x : Str} {scope : Scope} {cl : List (Str × Addr)} {S : List (Addr × Obj) → Prop} {P : Nat → Value → Prop} {Fin : List Value → List (Addr × Obj) → Prop} {n : Nat} (J : Nat → List Value → List (Addr × Obj) → Prop)
    (turn : ∀ i ys news v I oI C oC D m₂ h tk (E' : Value → Shared → Prop), i < n → J i ys news → P i v → NsObj oC m₂ → m₂ x = some v → Fr h₀ L h m → News h₀ L h ((I, oI) :: (C, oC) :: (D, lst ys) :: news) → Off3 I C D news → ((@Ne Nat I C) ∧ (@Ne Nat I D) ∧ (@Ne Nat C D)) →
      wpAny (model prog w) A (eval elt (compEnvC scope cl C env)) (CompEnd h₀ L m { s with heap := h, toks := tk } I oI C oC D (lst ys) S (fun y news' => J (i + 1) (ys ++ [y]) news')) E' { s with heap := h, toks := tk })
    (fin : ∀ ys news, J n ys news → Fin ys news) : ∀ k i ys news, i + k = n → J i ys news → CompRest prog w A h₀ L m env elt x scope cl s S P Fin k i ys news := by
  intro k
  induction k with
  | zero =>
    intro i ys news hi hJ
    rw [Nat.add_zero] at hi
    subst hi
    exact CompRest.zero (fin _ _ hJ)
  | succ k ih =>
    intro i ys news hi hJ
    refine CompRest.succ fun v I oI C oC D m₂ h tk E' hP hC hx F N off ne => ?_
    refine wpAny_mono (turn i ys news v I oI C oC D m₂ h tk E' (by omega) hJ hP hC hx F N off ne) ?_ fun _ _ e => e
    rintro y s₂ ⟨h', tk', news', e, F', N', off', hS, r⟩
    exact ⟨h', tk', news', e, F', N', off', hS, ih (i + 1) _ _ (by omega) r⟩
end
end

section
-- Rules
theorem adjust_upto (b n : Nat) : Builtin.Slice.sliceAdjust none (some (b : Int)) 1 (n : Int) = (0, ((min b n : Nat) : Int)) := by
  unfold Builtin.Slice.sliceAdjust
  simp only [show ¬ ((1 : Int) < 0) by omega, show ¬ ((b : Int) < 0) by omega, if_false]
  congr 1
  omega
theorem places_upto (k : Nat) : Builtin.Slice.slicePlaces 0 (k : Int) 1 = k := by
  unfold Builtin.Slice.slicePlaces
  simp only [show (1 : Int) > 0 by omega, if_true, Int.ediv_one]
  split <;> omega
section
variable {prog : Program} {w : World} {A : Around} {E : Value → Shared → Prop} {s : Shared} {h₀ : Heap} {L : Addr} {m : Str → Option Value} {news : List (Addr × Obj)}
theorem sliceApplied_upto {sl : Addr} {b n : Nat} {u : Tok} {Q : Int × Int × Nat → Shared → Prop} (hs : s.heap.IsSliceOf sl .none (.int b u) .none) (h : Q (0, 1, min b n) s) :
    wpAny (model prog w) A (Builtin.Slice.sliceApplied (.ref sl) (pure (n : Int))) Q E s := by
  obtain ⟨os, hos, hcs, hds⟩ := id hs
  unfold Builtin.Slice.sliceApplied Builtin.Slice.sliceFields
  refine wpAny_bind (wpAny_bind (wpAny_field hos hds (x := .none) rfl (wpAny_bind (wpAny_field hos hds (x := .int b u) rfl (wpAny_bind (wpAny_field hos hds (x := .none) rfl (wpAny_pure ?_)))))))
  refine wpAny_bind (slicePart_none ?_)
  show wpAny _ _ (if ((1 : Int) == 0) = true then _ else _) _ _ s
  rw [if_neg (by decide)]
  refine wpAny_bind (slicePart_none (wpAny_bind (slicePart_int (wpAny_bind (wpAny_pure ?_)))))
  show wpAny _ _ (match Builtin.Slice.sliceAdjust none (some (b : Int)) 1 (n : Int) with | (lo, hi) => pure (lo, (1 : Int), Builtin.Slice.slicePlaces lo hi 1)) _ _ s
  rw [adjust_upto b n]
  show wpAny _ _ (pure ((0 : Int), (1 : Int), Builtin.Slice.slicePlaces 0 ((min b n : Nat) : Int) 1)) _ _ s
  rw [places_upto]
  exact wpAny_pure h
theorem pick_upto (xs : Array Value) (k : Nat) : ((List.range k).filterMap fun (j : Nat) => xs[((0 : Int) + (j : Int) * 1).toNat]?).toArray = (xs.toList.take k).toArray := by
  have e : (fun (j : Nat) => xs[((0 : Int) + (j : Int) * 1).toNat]?) = (fun x => xs[x]?) ∘ fun j => 0 + j := by
    funext j
    have : ((0 : Int) + (j : Int) * 1).toNat = 0 + j := by omega
    show xs[((0 : Int) + (j : Int) * 1).toNat]? = xs[0 + j]?
    rw [this]
  rw [e, ← List.filterMap_map, pick_run xs 0 k, List.drop_zero]
theorem getItem_tuple_upto {t sl : Addr} {items : Array Value} {b : Nat} {u : Tok} {Q : Value → Shared → Prop} (ht : IsTup s.heap t items) (hs : s.heap.IsSliceOf sl .none (.int b u) .none)
    (h1 : b < items.size → Q (.ref s.heap.objs.size) { s with heap := s.heap.push { cls := .type "tuple", data := .seq (items.toList.take b).toArray } }) (h2 : items.size ≤ b → Q (.ref t) s)
    (hsz : items.size ≤ sizeLine) : wpAny (model prog w) A (getItem (.ref t) (.ref sl)) Q E s := by
  have htake : sizeOk (.seq (items.toList.take b).toArray) := by
    show (items.toList.take b).toArray.size ≤ sizeLine
    rw [List.size_toArray, List.length_take, Array.length_toList]
    omega
  obtain ⟨os, hos, hcs, hds⟩ := id hs
  have hTs : s.TypeIs (.ref sl) "slice" := ⟨os, hos, hcs⟩
  unfold getItem
  try with_reducible refine wpAny_holding ?_
  refine wpAny_bind (wpAny_sequenceKey ht.typeIs (by decide) ?_)
  refine wpAny_bind (wpAny_callSpecial?_slot (name := Str.ofString "__getitem__") ht.typeIs slot_tuple_getitem
    (wpAny_call_entry slot_tuple_getitem ht.typeIs entry_tuple_getitem ?_ (args_tuple_getitem _ _)))
  show wpAny _ _ (Builtin.Tuple.tupleItemsOf (.ref t) >>= _) _ _ s
  refine wpAny_bind (tupleItemsOf_ ht ?_)
  refine wpAny_bind (wpAny_typeOf hTs ?_)
  rw [if_pos (by decide)]
  refine wpAny_bind (sliceApplied_upto (n := items.size) hs ?_)
  by_cases hb : b < items.size
  · have hno : ¬ (((0 : Int) == 0 && (1 : Int) == 1 && (min b items.size) == items.size) = true) := by
      have : ((min b items.size) == items.size) = false := by rw [beq_eq_false_iff_ne]; omega
      rw [this]; simp
    show wpAny _ _ (if ((0 : Int) == 0 && (1 : Int) == 1 && (min b items.size) == items.size) = true then _ else _) _ _ s
    rw [if_neg hno, pick_upto items, Nat.min_eq_left (Nat.le_of_lt hb)]
    first
      | exact wpAny_bind (m := Builtin.Tuple.tupleExact _) (wpAny_newObj_type (wpAny_pure ⟨_, rfl, wpAny_pure (h1 hb)⟩) htake)
      | exact wpAny_bind (m := Builtin.Tuple.tupleExact _) (wpAny_newObj_type (wpAny_bind (wpAny_pure (wpAny_pure ⟨_, rfl, wpAny_pure (h1 hb)⟩))) htake)
      | exact wpAny_bind (wpAny_bind (m := Builtin.Tuple.tupleExact _) (wpAny_newObj_type (wpAny_pure (wpAny_pure ⟨_, rfl, wpAny_pure (h1 hb)⟩)) htake))
  · have hyes : ((0 : Int) == 0 && (1 : Int) == 1 && (min b items.size) == items.size) = true := by
      have : min b items.size = items.size := by omega
      rw [this]; simp
    show wpAny _ _ (if ((0 : Int) == 0 && (1 : Int) == 1 && (min b items.size) == items.size) = true then _ else _) _ _ s
    rw [if_pos hyes]
    obtain ⟨o, ho, hc, hd⟩ := ht
    have hT : s.TypeIs (.ref t) "tuple" := ⟨o, ho, hc⟩
    refine wpAny_bind ?_
    unfold Builtin.Tuple.tupleIsExact
    refine wpAny_bind (wpAny_typeOf hT (wpAny_pure ?_))
    rw [if_pos (by decide)]
    first
      | exact wpAny_bind (wpAny_rule (wpAny_bind (wpAny_pure (wpAny_pure ⟨_, rfl, wpAny_pure (h2 (Nat.not_lt.mp hb))⟩))))
      | exact wpAny_bind (wpAny_rule (wpAny_pure ⟨_, rfl, wpAny_pure (h2 (Nat.not_lt.mp hb))⟩))
      | exact wpAny_bind (wpAny_rule (wpAny_bind (wpAny_pure ⟨_, rfl, wpAny_pure (h2 (Nat.not_lt.mp hb))⟩)))
/-- t[:b] of a tuple of the ledger -/
theorem slice_upto {value slice : Expr} {t : Addr} {vs : List Value} {k b : Nat} {u : Tok} {Q : Value → Shared → Prop} (F : Fr h₀ L s.heap m) (N : News h₀ L s.heap news) (ht : (t, tupObj vs k) ∈ news) (hlt : b < vs.length) (hsz : vs.length ≤ sizeLine)
    (h : ∀ D h', Fr h₀ L h' m → News h₀ L h' ((D, tupObj (vs.take b) 0) :: news) → (∀ p ∈ news, p.1 < D) → Q (.ref D) { s with heap := h' })
    (hs : subscripted slice false (.ref t) (.ref s.heap.objs.size) = operate [.ref s.heap.objs.size, .ref t] (getItem (.ref t) (.ref s.heap.objs.size)))
    (hg : ∀ r, letTemporaryGo value (.ref t) r = pure ()) :
    wpAny (model prog w) A (subscriptTail value slice (.ref t) (.ref s.heap.objs.size)) Q E { s with heap := s.heap.push { cls := .type "slice", data := .fields #[.none, .int b u, .none] } } := by
  have ht0 : IsTup s.heap t vs.toArray := News.isTup N ht
  have ht' : IsTup (s.heap.push { cls := .type "slice", data := .fields #[.none, .int b u, .none] }) t vs.toArray := ht0.keeps fun _ _ e => Heap.get?_push_of_some _ e
  refine subscriptTail_ops (s := { s with heap := s.heap.push { cls := .type "slice", data := .fields #[.none, .int b u, .none] } }) ht'.typeIs slot_tuple_getitem.lookup
    (getItem_tuple_upto ht' (Heap.IsSliceOf.new ..) (fun _ => ?_) (fun h9 => ?_) (by simpa using hsz)) hs hg
  · have N1 := News.push (F.push { cls := .type "slice", data := .fields #[.none, .int b u, .none] }) (N.grown fun _ _ e => Heap.get?_push_of_some _ e) (tupObj (vs.take b) 0)
    refine h _ _ ((F.push _).push _) N1 fun p hp => ?_
    show p.1 < (s.heap.push _).objs.size
    rw [Heap.size_push]
    exact Nat.lt_succ_of_lt (Heap.lt_size (N p hp).1)
  · rw [List.size_toArray] at h9
    omega
theorem slice_whole {value slice : Expr} {t : Addr} {vs : List Value} {k b : Nat} {u : Tok} {Q : Value → Shared → Prop} (F : Fr h₀ L s.heap m) (N : News h₀ L s.heap news) (ht : (t, tupObj vs k) ∈ news) (hlt : vs.length ≤ b) (hsz : vs.length ≤ sizeLine)
    (h : ∀ h', Fr h₀ L h' m → News h₀ L h' news → Q (.ref t) { s with heap := h' })
    (hs : subscripted slice false (.ref t) (.ref s.heap.objs.size) = operate [.ref s.heap.objs.size, .ref t] (getItem (.ref t) (.ref s.heap.objs.size)))
    (hg : ∀ r, letTemporaryGo value (.ref t) r = pure ()) :
    wpAny (model prog w) A (subscriptTail value slice (.ref t) (.ref s.heap.objs.size)) Q E { s with heap := s.heap.push { cls := .type "slice", data := .fields #[.none, .int b u, .none] } } := by
  have ht0 : IsTup s.heap t vs.toArray := News.isTup N ht
  have ht' : IsTup (s.heap.push { cls := .type "slice", data := .fields #[.none, .int b u, .none] }) t vs.toArray := ht0.keeps fun _ _ e => Heap.get?_push_of_some _ e
  refine subscriptTail_ops (s := { s with heap := s.heap.push { cls := .type "slice", data := .fields #[.none, .int b u, .none] } }) ht'.typeIs slot_tuple_getitem.lookup
    (getItem_tuple_upto ht' (Heap.IsSliceOf.new ..) (fun h9 => ?_) (fun _ => ?_) (by simpa using hsz)) hs hg
  · rw [List.size_toArray] at h9
    omega
  · exact h _ (F.push _) (N.grown fun _ _ e => Heap.get?_push_of_some _ e)
/-- t[a:] of a tuple of the ledger -/
theorem slice_from {value slice : Expr} {t : Addr} {vs : List Value} {k a : Nat} {u : Tok} {Q : Value → Shared → Prop} (F : Fr h₀ L s.heap m) (N : News h₀ L s.heap news) (ht : (t, tupObj vs k) ∈ news) (h1 : 1 ≤ a) (ha : a ≤ vs.length) (hsz : vs.length ≤ sizeLine)
    (h : ∀ D h', Fr h₀ L h' m → News h₀ L h' ((D, tupObj (vs.drop a) 0) :: news) → (∀ p ∈ news, p.1 < D) → Q (.ref D) { s with heap := h' })
    (hs : subscripted slice false (.ref t) (.ref s.heap.objs.size) = operate [.ref s.heap.objs.size, .ref t] (getItem (.ref t) (.ref s.heap.objs.size)))
    (hg : ∀ r, letTemporaryGo value (.ref t) r = pure ()) :
    wpAny (model prog w) A (subscriptTail value slice (.ref t) (.ref s.heap.objs.size)) Q E { s with heap := s.heap.push { cls := .type "slice", data := .fields #[.int a u, .none, .none] } } :=
  slice_tuple_from F N (News.isTup N ht) h1 (by simpa using ha) (fun h' F' N' => h _ h' F' N' fun p hp => Nat.lt_succ_of_lt (Heap.lt_size (N p hp).1)) hs hg (by simpa using hsz)
end
section
variable {prog : Program} {w : World} {A : Around} {E : Value → Shared → Prop} {s : Shared} {h₀ : Heap} {L : Addr} {m : Str → Option Value} {news : List (Addr × Obj)}
theorem tuple_of {l : Addr} {vs : List Value} {n : Nat} {Q : Value → Shared → Prop} (F : Fr h₀ L s.heap m) (N : News h₀ L s.heap news) (hm : (l, listOf (List.toArray vs) n) ∈ news) (hz : vs.length ≤ sizeLine)
    (h : ∀ D h', Fr h₀ L h' m → News h₀ L h' ((D, tupObj vs 0) :: news) → (∀ p ∈ news, p.1 < D) → Q (.ref D) { s with heap := h' }) : wpAny (model prog w) A (call (.type "tuple") [.ref l]) Q E s := by
  refine call_tuple_list (News.isList N hm) (fun h' hk => ?_) (by simpa using hz)
  have F' : Fr h₀ L h' m := F.keeps hk
  have N' : News h₀ L h' news := fun p hp => ⟨hk _ _ (N p hp).1, (N p hp).2⟩
  exact h _ _ (F'.push _) (N'.push F' _) fun p hp => Heap.lt_size (N' p hp).1
end
section
variable {prog : Program} {w : World} {A : Around} {E : Value → Shared → Prop} {s : Shared} {h₀ : Heap} {L : Addr} {m : Str → Option Value} {news : List (Addr × Obj)}
theorem item_tupI {value slice : Expr} {t : Addr} {vs : List Value} {n : Nat} {k : Int} {u : Tok} {x : Value} {Q : Value → Shared → Prop} (N : News h₀ L s.heap news) (hm : (t, tupObj vs n) ∈ news) (h0 : 0 ≤ k) (hhi : k < 2 ^ 63) (hx : vs[k.toNat]? = some x) (h : Q x s)
    (hs : subscripted slice false (.ref t) (.int k u) = operate [.ref t, .int k u] (getItem (.ref t) (.int k u)) := by with_unfolding_all rfl) :
    wpAny (model prog w) A (subscriptTail value slice (.ref t) (.int k u)) Q E s := by
  refine item_tupleT (News.isTup N hm) (by omega) hhi (j := k.toNat) ?_ hx h hs
  have hlt : k.toNat < vs.length := (List.getElem?_eq_some_iff.mp hx).1
  unfold seqIndex?
  simp
  omega
end
theorem eq_str_no {prog : Program} {w : World} {A : Around} {E : Value → Shared → Prop} {s : Shared} {x y : Str} {t u : Tok} {Q : Value → Shared → Prop} (h : x ≠ y) (hQ : Q (.bool false) s) : wpAny (model prog w) A (compareOp .Eq (.str x t) (.str y u)) Q E s := by
  refine eq_str ?_
  rw [show (x == y) = false from beq_eq_false_iff_ne.mpr h]
  exact hQ

section
variable {prog : Program} {w : World} {A : Around} {E : Value → Shared → Prop} {s : Shared} {h₀ : Heap} {L : Addr} {m : Str → Option Value} {news : List (Addr × Obj)}
theorem add_tupC {t b : Addr} {vs us : List Value} {n1 n2 : Nat} {Q : Value → Shared → Prop} (F : Fr h₀ L s.heap m) (N : News h₀ L s.heap news) (ht : (t, tupObj vs n1) ∈ news) (hb : (b, tupObj us n2) ∈ news) (h1 : 0 < vs.length) (h2 : 0 < us.length) (hz : vs.length + us.length ≤ sizeLine)
    (h : ∀ D h', Fr h₀ L h' m → News h₀ L h' ((D, tupObj (vs ++ us) 0) :: news) → (∀ p ∈ news, p.1 < D) → Q (.ref D) { s with heap := h' }) : wpAny (model prog w) A (binaryOp .Add (.ref t) (.ref b)) Q E s := by
  refine add_tuples F N (News.isTup N ht) (News.isTup N hb) (fun e => ?_) (fun _ e => ?_) (fun _ _ h' F' N' => h _ h' F' N' fun p hp => Heap.lt_size (N p hp).1) hz
  · rw [e] at h1; cases h1
  · rw [e] at h2; cases h2
theorem tuple_same {t : Addr} {vs : List Value} {n : Nat} {Q : Value → Shared → Prop} (N : News h₀ L s.heap news) (ht : (t, tupObj vs n) ∈ news) (h : Q (.ref t) s) : wpAny (model prog w) A (call (.type "tuple") [.ref t]) Q E s :=
  call_tuple_same ⟨_, (N _ ht).1, rfl, _, rfl⟩ h
theorem len_tupK {t : Addr} {vs : List Value} {n : Nat} {Q : Value → Shared → Prop} (N : News h₀ L s.heap news) (ht : (t, tupObj vs n) ∈ news) (hz : vs.length ≤ sizeLine) (h : ∀ tk tk', Q (.int (vs.length : Int) tk) { s with toks := tk' }) : wpAny (model prog w) A (call (.builtin "len") [.ref t]) Q E s := by
  refine len_tuple (News.isTup N ht) ?_ ?_
  · rw [List.size_toArray]
    rw [sizeLine_eq] at hz
    omega
  · rw [List.size_toArray]; exact h _ _
end
end

section
-- Comp
open LCg
theorem nsObj_not {o : Obj} {m : Str → Option Value} (h : NsObj o m) : isTupB o = false := by
  obtain ⟨es, ep, hd, _⟩ := h
  unfold isTupB
  rw [hd, Bool.and_false]
/-- what stands between the turns of a comprehension over a tuple: its iterator I, its names C, its list D -/
structure CSt (h₀ : Heap) (L : Addr) (m : Str → Option Value) (I C D ax : Addr) (vs : List Value) (i : Nat) (ys : List Value) (news : List (Addr × Obj)) (h : Heap) : Prop where
  it : h.IsTupleIter I ax i
  ns : ∃ m', h.Ns C m'
  out : h.get? D = some (lst ys)
  fr : Fr h₀ L h m
  led : News h₀ L h news
  off : Off3 I C D news
/-- three addresses apart, none known to the frame's ground -/
structure Three (h₀ : Heap) (L I C D : Addr) : Prop where
  ic : I ≠ C
  id : I ≠ D
  cd : C ≠ D
  li : I ≠ L
  lc : C ≠ L
  ld : D ≠ L
  ni : h₀.get? I = none
  nc : h₀.get? C = none
  nd : h₀.get? D = none
section
variable {h₀ : Heap} {L I C D ax : Addr} {m : Str → Option Value} {vs ys : List Value} {i : Nat} {news : List (Addr × Obj)} {h h' : Heap}
theorem CSt.but (X : CSt h₀ L m I C D ax vs i ys news h) (t : Three h₀ L I C D) (b : Addr) (hb : b = I ∨ b = C ∨ b = D) (hk : ∀ a o, a ≠ b → h.get? a = some o → h'.get? a = some o) : Fr h₀ L h' m ∧ News h₀ L h' news := by
  have hbL : L ≠ b := by rcases hb with rfl | rfl | rfl; exact t.li.symm; exact t.lc.symm; exact t.ld.symm
  have hbn : h₀.get? b = none := by rcases hb with rfl | rfl | rfl; exact t.ni; exact t.nc; exact t.nd
  refine ⟨⟨X.fr.ns.at' fun o e => hk L o hbL e, fun a o e => hk a o (fun q => by rw [q, hbn] at e; cases e) (X.fr.keep a o e), X.fr.above⟩, fun p hp => ⟨hk _ _ (fun q => ?_) (X.led p hp).1, (X.led p hp).2⟩⟩
  have z := X.off.mem p hp
  rcases hb with rfl | rfl | rfl
  · exact z.1 q
  · exact z.2.1 q
  · exact z.2.2 q
end
section
variable {prog : Program} {w : World} {A : Around} {E : Value → Shared → Prop} {s : Shared} {h₀ : Heap} {L : Addr} {m : Str → Option Value} {env : Env}
/-- where a raise of the element goes -/
noncomputable def CErr (prog : Program) (w : World) (A : Around) (E : Value → Shared → Prop) (Q : Value → Shared → Prop) (scope : Scope) (cl : List (Str × Addr)) (env : Env) (C D : Addr) : Value → Shared → Prop :=
  notedBy (model prog w) A (compEnvC scope cl C env) fun e s' => compPost (model prog w) A E none Q (.ref D) C (.error e) s'
noncomputable def SrcK (ax : Addr) (vs : List Value) (k : Nat) (news : List (Addr × Obj)) : Prop := (ax, tupObj vs k) ∈ news
noncomputable def CTurn (prog : Program) (w : World) (A : Around) (h₀ : Heap) (L : Addr) (m : Str → Option Value) (env : Env) (elt : Expr) (x : Str) (scope : Scope) (cl : List (Str × Addr)) (s : Shared) (ax : Addr) (vs : List Value) (k : Nat) (J : Nat → List Value → List (Addr × Obj) → Prop) (E Q : Value → Shared → Prop) : Prop :=
  ∀ i ys news v I oI C oC D m₂ h tk, J i ys news → SrcK ax vs k news → vs[i]? = some v → isTupB oI = false → NsObj oC m₂ → m₂ x = some v → Fr h₀ L h m → News h₀ L h ((I, oI) :: (C, oC) :: (D, lst ys) :: news) → Off3 I C D news → ((@Ne Nat I C) ∧ (@Ne Nat I D) ∧ (@Ne Nat C D)) →
    wpAny (model prog w) A (eval elt (compEnvC scope cl C env)) (CompEnd h₀ L m { s with heap := h, toks := tk } I oI C oC D (lst ys) (SrcK ax vs k) (fun y news' => J (i + 1) (ys ++ [y]) news')) (CErr prog w A E Q scope cl env C D) { s with heap := h, toks := tk }
noncomputable def CFin (h₀ : Heap) (L : Addr) (m : Str → Option Value) (s : Shared) (vs : List Value) (J : Nat → List Value → List (Addr × Obj) → Prop) (Q : Value → Shared → Prop) : Prop :=
  ∀ ys news D h tk, J vs.length ys news → Fr h₀ L h m → News h₀ L h ((D, lst ys) :: news) → Off1 D news → Q (.ref D) { s with heap := h, toks := tk }
noncomputable def CSrcT (prog : Program) (w : World) (A : Around) (h₀ : Heap) (L : Addr) (m : Str → Option Value) (env : Env) (elt : Expr) (x : Str) (scope : Scope) (cl : List (Str × Addr)) (E Q : Value → Shared → Prop) (xv : Value) (s₁ : Shared) : Prop :=
  ∃ ax vs k news, ∃ J : Nat → List Value → List (Addr × Obj) → Prop, xv = .ref ax ∧ Fr h₀ L s₁.heap m ∧ News h₀ L s₁.heap news ∧ (ax, tupObj vs k) ∈ news ∧ vs.length ≤ sizeLine ∧ J 0 [] news ∧
    CTurn prog w A h₀ L m env elt x scope cl s₁ ax vs k J E Q ∧ CFin h₀ L m s₁ vs J Q
theorem comp_tup {elt iter : Expr} {x : Str} {px : Pos} {scope : Scope} {cl : List (Str × Addr)} {pos : Pos} {Q : Value → Shared → Prop}
    (_F₀ : Fr h₀ L s.heap m) (hh : A.handled = none) (hclos : closureFor scope env = pure cl) (hcell : ∀ y ∈ scope.names, y.2 ≠ .cell) (hkind : scope.kind = .function)
    (hnames : ∀ y ∈ scope.names, y.2 = .local → scope.names.lookup y.1 = some .local) (hx : scope.names.lookup x = some .local)
    (h : wpAny (model prog w) A (eval iter env) (CSrcT prog w A h₀ L m env elt x scope cl E Q) E s)
    (hs : ∀ x, foldedSetIterable iter env x = pure x := by intro _; rfl) :
    wpAny (model prog w) A (eval (.ListComp elt [⟨.Name x px, iter, [], 0⟩] scope pos) env) Q E s := by
  rw [eval_ListComp]
  refine wpAny_comprehension_free (use := none) rfl hs hclos hkind hnames (wpAny_mono h (fun xv s₁ h₁ => ?_) fun _ _ e => e)
  obtain ⟨ax, vs, k, news, J, rfl, F, N, hm, hsz, j0, turn, fin⟩ := h₁
  have hax : ax < s₁.heap.objs.size := Heap.lt_size (N _ hm).1
  have hLs : L < s₁.heap.objs.size := F.ns.lt
  have none₀ : ∀ b, s₁.heap.objs.size ≤ b → h₀.get? b = none := fun b hb => Heap.get?_none_of_le (Nat.le_trans (Nat.le_of_lt (Nat.lt_of_le_of_lt F.above hLs)) hb)
  refine wpAny_pyIter_tuple ⟨_, (N _ hm).1, rfl, k, rfl⟩ ?_
  generalize hI : s₁.heap.objs.size = I at hax hLs none₀ ⊢
  generalize hg1 : s₁.heap.push _ = g1
  have k1 : ∀ b o, s₁.heap.get? b = some o → g1.get? b = some o := fun b o e => hg1 ▸ Heap.get?_push_of_some _ e
  have z1 : g1.objs.size = I + 1 := by rw [← hg1, Heap.size_push, hI]
  have i1 : g1.IsTupleIter I ax 0 := ⟨_, by rw [← hg1, ← hI]; exact Heap.get?_push_size _ rfl, rfl, rfl⟩
  refine wpAny_newObj_type (wpAny_newFunctionEnv hcell (by intro y hy; simp at hy) (fun g3 ns3 sb3 => ?_) hkind)
  dsimp only at ns3 sb3 ⊢
  generalize hg2 : g1.push { cls := .type "list", dict := none, data := .seq ([] : List Value).toArray } = g2 at ns3 sb3 ⊢
  rw [z1]
  generalize hD : I + 1 = D
  have z2 : g2.objs.size = D + 1 := by rw [← hg2, Heap.size_push, z1, hD]
  rw [z2] at ns3 sb3 ⊢
  generalize hC : D + 1 = C at ns3 sb3 ⊢
  have hID : @LT.lt Nat _ I D := hD ▸ Nat.lt_succ_self I
  have hDC : @LT.lt Nat _ D C := hC ▸ Nat.lt_succ_self D
  have hIC : @LT.lt Nat _ I C := Nat.lt_trans hID hDC
  have t : Three h₀ L I C D := ⟨Nat.ne_of_lt hIC, Nat.ne_of_lt hID, Nat.ne_of_gt hDC, Nat.ne_of_gt hLs, Nat.ne_of_gt (Nat.lt_trans hLs hIC), Nat.ne_of_gt (Nat.lt_trans hLs hID), none₀ _ (Nat.le_refl _), none₀ _ (Nat.le_of_lt hIC), none₀ _ (Nat.le_of_lt hID)⟩
  have k3 : ∀ b o, b < C → g2.get? b = some o → g3.get? b = some o := fun b o hb e => sb3.extBut b o (Nat.ne_of_lt hb) (Heap.get?_push_of_some _ e)
  have k13 : ∀ b o, b < D → g1.get? b = some o → g3.get? b = some o := fun b o hb e => k3 b o (Nat.lt_trans hb hDC) (hg2 ▸ Heap.get?_push_of_some _ e)
  have lt₁ : ∀ {b o}, s₁.heap.get? b = some o → b < I := fun e => hI ▸ Heap.lt_size e
  have k03 : ∀ b o, s₁.heap.get? b = some o → g3.get? b = some o := fun b o e => k13 b o (Nat.lt_trans (lt₁ e) hID) (k1 b o e)
  have start : CSt h₀ L m I C D ax vs 0 [] news g3 := by
    refine ⟨?_, ⟨_, ns3⟩, k3 D _ hDC ?_, F.keeps k03, N.grown k03, Off3.of fun p hp => ?_⟩
    · obtain ⟨o, e, r⟩ := i1
      exact ⟨o, k13 _ _ hID e, r⟩
    · rw [← hg2, ← hD, ← z1]; exact Heap.get?_push_size _ rfl
    · have := lt₁ (N p hp).1
      exact ⟨Nat.ne_of_lt this, Nat.ne_of_lt (Nat.lt_trans this hIC), Nat.ne_of_lt (Nat.lt_trans this hID)⟩
  have loop : ∀ s₃ : Shared, (∃ tk, s₃ = { s₁ with heap := g3, toks := tk }) → codeAny (model prog w) A (.compLoop (.ListComp elt [⟨.Name x px, iter, [], 0⟩] scope pos) 0 (.ref I) (.ref D) (compEnvC scope cl C env)) (compPost (model prog w) A E none Q (.ref D) C) s₃ := by
    rintro s₃ ⟨tk₃, rfl⟩
    refine codeAny_compLoop_tests (fun c s' => ∃ g tk i ys nw, s' = { s₁ with heap := g, toks := tk } ∧ c + i = vs.length + 1 ∧ ys.length = i ∧ i ≤ vs.length ∧ CSt h₀ L m I C D ax vs i ys nw g ∧ SrcK ax vs k nw ∧ J i ys nw) ?_ (vs.length + 1)
      ⟨g3, tk₃, 0, [], news, rfl, rfl, rfl, Nat.zero_le _, start, hm, j0⟩
    rintro c s' ⟨g, tk, i, ys, nw, rfl, hc, hyl, hi, X, hmx, hJ⟩
    have hsrc : g.IsTuple ax vs.toArray := ⟨_, (X.led _ hmx).1, rfl, k, rfl⟩
    have axI : ax ≠ I := Nat.ne_of_lt hax
    by_cases hlt : i < vs.length
    · obtain ⟨v, hv⟩ : ∃ v, vs[i]? = some v := ⟨vs[i], List.getElem?_eq_getElem hlt⟩
      refine wpAny_pyNext_tuple_item X.it hsrc (x := v) (by simpa using hv) fun g4 it4 sb4 => ?_
      obtain ⟨F4, N4⟩ := X.but t I (.inl rfl) (h' := g4) fun a o ha e => sb4.extBut a o ha e
      obtain ⟨mC, nC⟩ := X.ns
      have nC4 : g4.Ns C mC := nC.at' fun o e => sb4.extBut _ o t.ic.symm e
      have D4 : g4.get? D = some (lst ys) := sb4.extBut _ _ t.id.symm X.out
      refine wpAny_assign_Name (wpAny_storeName_local (lookup_relabel_local hx) nC4 (fun g5 n5 sb5 => ?_) (by simp [compEnvC, relabel, hkind]))
      refine wpAny_tests_nil ?_
      rw [if_pos rfl]
      have X4 : CSt h₀ L m I C D ax vs (i + 1) ys nw g4 := ⟨it4, ⟨_, nC4⟩, D4, F4, N4, X.off⟩
      obtain ⟨F5, N5⟩ := X4.but t C (.inr (.inl rfl)) (h' := g5) fun a o ha e => sb5.extBut a o ha e
      have it5 : g5.IsTupleIter I ax (i + 1) := it4.extBut sb5.extBut t.ic
      have D5 : g5.get? D = some (lst ys) := sb5.extBut _ _ t.cd.symm D4
      obtain ⟨oI, eI, cI, dI⟩ := it5
      obtain ⟨oC, eC, hoC⟩ := ns_obj n5
      have L5 : News h₀ L g5 ((I, oI) :: (C, oC) :: (D, lst ys) :: nw) := fun p hp => by
        simp only [List.mem_cons] at hp
        rcases hp with rfl | rfl | rfl | hp
        · exact ⟨eI, t.li, t.ni⟩
        · exact ⟨eC, t.lc, t.nc⟩
        · exact ⟨D5, t.ld, t.nd⟩
        · exact N5 p hp
      refine wpAny_mono (turn i ys nw v I oI C oC D _ g5 _ hJ hmx hv (isTupB_not (by rw [cI]; decide)) hoC (by simp) F5 L5 X.off ⟨t.ic, t.id, t.cd⟩) ?_ fun _ _ e => e
      rintro y s₄ ⟨g6, tk6, nw6, rfl, F6, N6, off6, hm6, J6⟩
      have e6I := (N6 (I, oI) (.head _)).1
      have e6C := (N6 (C, oC) (.tail _ (.head _))).1
      have e6D := (N6 (D, lst ys) (.tail _ (.tail _ (.head _)))).1
      have X6 : CSt h₀ L m I C D ax vs (i + 1) ys nw6 g6 := ⟨⟨oI, e6I, cI, dI⟩, ⟨_, hoC.ns e6C⟩, e6D, F6, fun p hp => N6 p (.tail _ (.tail _ (.tail _ hp))), off6⟩
      refine append_at (hsz := by show ys.toArray.size ≤ sizeLine; rw [List.size_toArray, hyl]; exact Nat.le_trans hi hsz) e6D fun g7 sb7 D7 => ?_
      obtain ⟨F7, N7⟩ := X6.but t D (.inr (.inr rfl)) (h' := g7) fun a o ha e => sb7.extBut a o ha e
      refine ⟨c - 1, by omega, g7, tk6, i + 1, ys ++ [y], nw6, rfl, by omega, by rw [List.length_append, List.length_singleton, hyl], hlt, ⟨X6.it.extBut sb7.extBut t.id, ⟨_, (hoC.ns e6C).sameBut sb7 t.cd⟩, D7.trans (congrArg some (lst_snoc ys y)), F7, N7, off6⟩, hm6, J6⟩
    · obtain rfl : i = vs.length := Nat.le_antisymm hi (Nat.not_lt.mp hlt)
      refine wpAny_pyNext_tuple_end hh X.it hsrc (by simp) fun g4 sb4 => ?_
      obtain ⟨F4, N4⟩ := X.but t I (.inl rfl) (h' := g4) fun a o ha e => sb4 a o ha e
      obtain ⟨mC, nC⟩ := X.ns
      have D4 : g4.get? D = some (lst ys) := sb4 _ _ t.id.symm X.out
      refine ⟨mC, nC.at' fun o e => sb4 _ o t.ic.symm e, fun g5 sb5 => ?_⟩
      refine fin ys nw D g5 _ hJ (F4.change sb5 t.lc t.nc) (fun p hp => ?_) X.off.one
      rcases List.mem_cons.mp hp with rfl | hp
      · exact ⟨sb5.extBut _ _ t.cd.symm D4, t.ld, t.nd⟩
      · exact ⟨sb5.extBut _ _ (X.off.mem p hp).2.1 (N4 p hp).1, (N4 p hp).2⟩
  exact codeAny_compStart_list (loop _ ⟨_, rfl⟩) (wpAny_pyIter_tupleiter start.it (loop _ ⟨_, rfl⟩))
theorem csrc {elt : Expr} {x : Str} {scope : Scope} {cl : List (Str × Addr)} {Q : Value → Shared → Prop} {ax : Addr} {vs : List Value} {k : Nat} {news : List (Addr × Obj)} {s₁ : Shared} (J : Nat → List Value → List (Addr × Obj) → Prop)
    (F : Fr h₀ L s₁.heap m) (N : News h₀ L s₁.heap news) (hm : (ax, tupObj vs k) ∈ news) (hz : vs.length ≤ sizeLine) (j0 : J 0 [] news) (turn : CTurn prog w A h₀ L m env elt x scope cl s₁ ax vs k J E Q) (fin : CFin h₀ L m s₁ vs J Q) :
    CSrcT prog w A h₀ L m env elt x scope cl E Q (.ref ax) s₁ := ⟨ax, vs, k, news, J, rfl, F, N, hm, hz, j0, turn, fin⟩
end
end
section
-- Card
theorem reset_Card : True := by
  w_top off
  k_with "compareOp In str ref" => (k_here; k_dflt (refine' in_tupL ?htZ5 ?hiZ5 ?_; (case htZ5 => (refine' tupK ?XZ5 ?lZ5; (case XZ5 => k_in); (case lZ5 => k_is))); (case hiZ5 => exact rfl)))
  k_with "compareOp Eq ref ref" => (k_here; k_dflt (first
  | (refine' eq_dat (r := false) ?HZ6 ?d1Z6 ?d2Z6 ?hcZ6 ?hdZ6 ?huZ6 ?_; (case HZ6 => exact heldOf (by k_asm)); (case d1Z6 => tb_rel); (case d2Z6 => tb_rel); (case hcZ6 => with_unfolding_all rfl); (case hdZ6 => exact Nat.le_of_ble_eq_true rfl); (case huZ6 => ktr_units))
  | (refine' eq_dat (r := true) ?HZ6 ?d1Z6 ?d2Z6 ?hcZ6 ?hdZ6 ?huZ6 ?_; (case HZ6 => exact heldOf (by k_asm)); (case d1Z6 => tb_rel); (case d2Z6 => tb_rel); (case hcZ6 => with_unfolding_all rfl); (case hdZ6 => exact Nat.le_of_ble_eq_true rfl); (case huZ6 => ktr_units))))
  k_with "compareOp NotEq ref ref" => (k_here; k_dflt (first
  | (refine' ne_dat (r := false) ?HZ7 ?d1Z7 ?d2Z7 ?hcZ7 ?hdZ7 ?huZ7 ?_; (case HZ7 => exact heldOf (by k_asm)); (case d1Z7 => tb_rel); (case d2Z7 => tb_rel); (case hcZ7 => with_unfolding_all rfl); (case hdZ7 => exact Nat.le_of_ble_eq_true rfl); (case huZ7 => ktr_units))
  | (refine' ne_dat (r := true) ?HZ7 ?d1Z7 ?d2Z7 ?hcZ7 ?hdZ7 ?huZ7 ?_; (case HZ7 => exact heldOf (by k_asm)); (case d1Z7 => tb_rel); (case d2Z7 => tb_rel); (case hcZ7 => with_unfolding_all rfl); (case hdZ7 => exact Nat.le_of_ble_eq_true rfl); (case huZ7 => ktr_units))))
  k_with "subscriptTail Name Constant ref int" => (k_here; k_dflt (refine' item_tupleT ?tZ8 ?aZ8 ?bZ8 ?cZ8 ?dZ8 ?_; (case tZ8 => exact News.isTup (by k_asm) (by k_mem)); (case aZ8 => decide); (case bZ8 => decide); (case cZ8 => rfl); (case dZ8 => rfl); k_whole))
  k_with "ite" => (k_closed; k_dflt (first | (refine' ite_pos ?cZ9 ?_; (case cZ9 => decide)) | (refine' ite_neg ?cZ9 ?_; (case cZ9 => decide))))
  trivial
set_option maxHeartbeats 1000000 in
theorem card_spec (w : World) (l : Nat) (a b many : Int) (ta tb tm : Tok) (n : Nat) (Y : List (Addr × Obj)) (ha : 0 ≤ a) (hb : 0 ≤ b) (hb' : b < 65413) (hm : 0 < many) (hm' : many < 100)
    (f1 : ∀ p ∈ Y, p.1 ≠ l) :
    Spec w 200 [.ref l, .int many tm] 3 40 ((l, listOf #[.int a ta, .int b tb] n) :: Y)
      (fun news' r => ∃ a' b' c ta' tb' tc n', news' = (l, listOf #[.int a' ta', .int b' tb'] n') :: Y ∧ r = .int c tc ∧ 0 ≤ a' ∧ 0 ≤ b' ∧ b' < 65413 ∧ 0 ≤ c ∧ c < many) := by
  unfold Spec
  intro dp un gd cn cs fa ccd cl outer A₀ base h₀ L m s mean mg mb Q E B F X N Tp hk hd hu fin
  refine wpAny_call ?_
  w_strict (
    k_dflt ktr_enter
    k_steps)
  · refine' fin _ _ _ _ (by k_asm) (by k_asm) ?P
    case P =>
      refine ⟨_, _, _, _, _, _, _, rfl, rfl, ?_⟩
      have h1 : Int.fmod a many = a % many := Int.fmod_eq_emod_of_nonneg a (by omega)
      have h2 : Int.fdiv a many = a / many := Int.fdiv_eq_ediv_of_nonneg a (by omega)
      simp only [Int.toNat_zero, List.getD_cons_zero, h1, h2]
      exact ⟨Int.ediv_nonneg ha (by omega), hb, hb', Int.emod_nonneg _ (by omega), Int.emod_lt_of_pos _ hm⟩
  · refine' fin _ _ _ _ (by k_asm) (by k_asm) ?P
    case P =>
      refine ⟨_, _, _, _, _, _, _, rfl, rfl, ?_⟩
      have e1 : Int.toNat 1 = 1 := rfl
      simp only [e1, List.getD_cons_zero, List.getD_cons_succ]
      have h1 : ∀ x : Int, Int.fmod x 65413 = x % 65413 := fun x => Int.fmod_eq_emod_of_nonneg x (by omega)
      have h2 : ∀ x : Int, Int.fdiv x 10 = x / 10 := fun x => Int.fdiv_eq_ediv_of_nonneg x (by omega)
      have h3 : ∀ x : Int, Int.fmod x many = x % many := fun x => Int.fmod_eq_emod_of_nonneg x (by omega)
      simp only [h1, h2, h3]
      exact ⟨ha, Int.emod_nonneg _ (by omega), Int.emod_lt_of_pos _ (by omega), Int.emod_nonneg _ (by omega), Int.emod_lt_of_pos _ hm⟩

section
variable {w : World} {Y news : List (Addr × Obj)} {g : Obj → List (Addr × Obj)}
  {dp un : Nat} {gd : Option (List Code)} {cn : Str} {cs : Scope} {fa : Addr} {ccd : Value} {cl : List (Str × Addr)} {outer : List Env} {A₀ : Around} {base h₀ : Heap} {L : Addr} {m : Str → Option Value} {s : Shared}
  {mean : ExcName → Option Value} {mg mb : Str → Option Value} {Q E : Value → Shared → Prop}
theorem card_use {l : Nat} {a b many : Int} {ta tb tm : Tok} {n : Nat} (B : Below A₀ base outer h₀) (F : Fr h₀ L s.heap m) (X : (hd.heap_39 w.params).In h₀) (N : News h₀ L s.heap news)
    (T : Top hd.view_39 (looseW hd.view_39 [Str.ofString "RowsError"]) mean mg mb h₀) (hk : cs.kind = .function) (U : UpdF l (listOf #[.int a ta, .int b tb] n) news g) (hl : 0 ≤ a ∧ 0 ≤ b ∧ b < 65413) (hm : 0 < many) (hm' : many < 100)
    (hd : dp + 3 < recursionLimit) (hu : un + 40 < cLine)
    (ret : ∀ a' b' c ta' tb' tc n' h' tk', Fr h₀ L h' m → News h₀ L h' (g (listOf #[.int a' ta', .int b' tb'] n')) → 0 ≤ a' ∧ 0 ≤ b' ∧ b' < 65413 → 0 ≤ c → c < many → Q (.int c tc) { s with heap := h', toks := tk' }) :
    wpAny (model PySem.Challenge.rw_pq0689_01.row.prog w) (ktrTop dp un gd cn cs L fa ccd cl outer) (call (.ref 200) [.ref l, .int many tm]) Q E s := by
  obtain ⟨pre, post, rfl, hg, h1, h2⟩ := U.split
  refine card_spec w l a b many ta tb tm n (pre ++ post) hl.1 hl.2.1 hl.2.2 hm hm' (fun p hp => (List.mem_append.mp hp).elim (h1 p) (h2 p)) dp un gd cn cs fa ccd cl outer A₀ base h₀ L m s mean mg mb Q E B F X
    (fun p hp => N p ?_) T hk hd hu ?_
  · simp only [List.mem_cons, List.mem_append] at hp ⊢
    rcases hp with h | h | h
    · exact .inr (.inl h)
    · exact .inl h
    · exact .inr (.inr h)
  · rintro r news' h' tk' F' N' ⟨a', b', c, ta', tb', tc, n', rfl, rfl, p1, p2, p3, p4, p5⟩
    refine ret a' b' c ta' tb' tc n' h' tk' F' ?_ ⟨p1, p2, p3⟩ p4 p5
    rw [hg]
    intro p hp
    refine N' p ?_
    simp only [List.mem_cons, List.mem_append] at hp ⊢
    rcases hp with h | h | h
    · exact .inr (.inl h)
    · exact .inl h
    · exact .inr (.inr h)
end
end
section
-- SymE
theorem reset_SymE : True := by
  w_top off
  k_with "subscriptTail Name Slice ref ref" => (k_here; k_dflt (first
  | (refine' slice_whole ?FZ16 ?NZ16 ?tZ16 ?lZ16 ?zZ16 ?_ ?hsZ16 ?hgZ16; (case FZ16 => k_asm); (case NZ16 => k_asm); (case tZ16 => lsm_bools); (case lZ16 => exact Nat.le_of_ble_eq_true rfl); (case zZ16 => exact Nat.le_of_ble_eq_true rfl); (case hsZ16 => with_unfolding_all rfl); (case hgZ16 => (intro _; with_unfolding_all rfl)); k_whole; intro h' F' N'; (try k_sweep))
  | (refine' slice_upto ?FZ16 ?NZ16 ?tZ16 ?lZ16 ?zZ16 ?_ ?hsZ16 ?hgZ16; (case FZ16 => k_asm); (case NZ16 => k_asm); (case tZ16 => lsm_bools); (case lZ16 => exact Nat.le_of_ble_eq_true rfl); (case zZ16 => exact Nat.le_of_ble_eq_true rfl); (case hsZ16 => with_unfolding_all rfl); (case hgZ16 => (intro _; with_unfolding_all rfl)); k_whole; intro D' h' F' N' l1; (try k_lt l1); (try k_sweep))))
  k_with "subscriptTail Name Slice ref ref" => (k_here; k_dflt
  (refine' slice_from ?FZ17 ?NZ17 ?tZ17 ?oZ17 ?lZ17 ?zZ17 ?_ ?hsZ17 ?hgZ17; (case FZ17 => k_asm); (case NZ17 => k_asm); (case tZ17 => lsm_bools); (case oZ17 => exact Nat.le_of_ble_eq_true rfl); (case lZ17 => (simp only [List.length_cons]; omega)); (case zZ17 => (simp only [sizeLine_eq, List.length_cons]; omega)); (case hsZ17 => with_unfolding_all rfl); (case hgZ17 => (intro _; with_unfolding_all rfl)); k_whole; intro D' h' F' N' l1; (try k_lt l1); (try k_sweep)))
  k_with "subscriptTail Subscript Name Constant Slice ref ref" => (k_here; k_dflt
  (refine' slice_from ?FZ18 ?NZ18 ?tZ18 ?oZ18 ?lZ18 ?zZ18 ?_ ?hsZ18 ?hgZ18; (case FZ18 => k_asm); (case NZ18 => k_asm); (case tZ18 => lsm_bools); (case oZ18 => exact Nat.le_of_ble_eq_true rfl); (case lZ18 => (simp only [List.length_cons]; omega)); (case zZ18 => (simp only [sizeLine_eq, List.length_cons]; omega)); (case hsZ18 => with_unfolding_all rfl); (case hgZ18 => (intro _; with_unfolding_all rfl)); k_whole; intro D' h' F' N' l1; (try k_lt l1); (try k_sweep)))
  k_with "call type:tuple cons nil" => (k_here; k_dflt (refine' tuple_of ?FZ19 ?NZ19 ?tZ19 ?zZ19 ?_; (case FZ19 => k_asm); (case NZ19 => k_asm); (case tZ19 => lsm_bools); (case zZ19 => first | exact Nat.le_of_ble_eq_true rfl | (simp only [sizeLine_eq, List.length_append, List.length_cons, List.length_nil]; omega)); k_whole; intro D' h' F' N' l1; (try k_lt l1); (try k_sweep)))
  k_with "subscriptTail Name Constant ref int" => (k_here; k_dflt (refine' item_tupI ?NZ20 ?mZ20 ?aZ20 ?bZ20 ?cZ20 ?_; (case NZ20 => k_asm); (case mZ20 => lsm_bools); (case aZ20 => decide); (case bZ20 => decide); (case cZ20 => exact rfl); k_whole))
  k_with "subscriptTail Subscript Name Constant Constant ref int" => (k_here; k_dflt (refine' item_tupI ?NZ21 ?mZ21 ?aZ21 ?bZ21 ?cZ21 ?_; (case NZ21 => k_asm); (case mZ21 => lsm_bools); (case aZ21 => decide); (case bZ21 => decide); (case cZ21 => exact rfl); k_whole))
  k_with "subscriptTail Subscript Subscript Constant Constant ref int" => (k_here; k_dflt (refine' item_tupI ?NZ22 ?mZ22 ?aZ22 ?bZ22 ?cZ22 ?_; (case NZ22 => k_asm); (case mZ22 => lsm_bools); (case aZ22 => decide); (case bZ22 => decide); (case cZ22 => exact rfl); k_whole))
  k_with "subscriptTail Call Name cons nil Constant ref int" => (k_here; k_dflt (refine' item_tupI ?NZ23 ?mZ23 ?aZ23 ?bZ23 ?cZ23 ?_; (case NZ23 => k_asm); (case mZ23 => lsm_bools); (case aZ23 => decide); (case bZ23 => decide); (case cZ23 => exact rfl); k_whole))
  k_with "binaryOp Add ref ref" => (k_here; k_dflt (refine' add_tupC ?FZ24 ?NZ24 ?aZ24 ?bZ24 ?l1Z24 ?l2Z24 ?zZ24 ?_; (case FZ24 => k_asm); (case NZ24 => k_asm); (case aZ24 => lsm_bools); (case bZ24 => lsm_bools); (case l1Z24 => (simp only [List.length_cons, List.length_nil]; omega)); (case l2Z24 => omega); (case zZ24 => (simp only [sizeLine_eq, List.length_cons, List.length_nil]; omega)); k_whole; intro D' h' F' N' l1; (try k_lt l1); (try k_sweep)))
  k_with "call type:tuple cons nil" => (k_here; k_dflt (refine' tuple_same ?NZ25 ?tZ25 ?_; (case NZ25 => k_asm); (case tZ25 => lsm_bools); k_whole))
  k_with "call builtin:len cons nil" => (k_here; k_dflt (refine' len_tupK ?NZ26 ?tZ26 ?zZ26 ?_; (case NZ26 => k_asm); (case tZ26 => lsm_bools); (case zZ26 => (simp only [sizeLine_eq, List.length_cons, List.length_nil]; omega)); k_whole; intro tk1' tk2'))
  trivial
noncomputable def SymC (w : World) (f : Addr) : Prop := ∀ (x : Str) (tk : Tok) (Y : List (Addr × Obj)), Con w f [.str x tk] 5 40 [] Y (fun M' Y₁ r => M' = [] ∧ ∃ a, r = .ref a ∧ TIn Y₁ r (symD x))
noncomputable def TreeC (w : World) : Prop := ∀ (x : Str) (tk : Tok) (lz : Addr) (vs : List Value) (n : Nat) (ds : List Dat) (Y : List (Addr × Obj)), vs.length ≤ 60 → (lz, listOf (List.toArray vs) n) ∈ Y → TAll Y vs ds → Con w 207 [.str x tk, .ref lz] 5 40 [] Y (fun M' Y₁ r => M' = [] ∧ ∃ a, r = .ref a ∧ TIn Y₁ r (.tuple [sS "expr", .str x, .tuple ds]))
set_option maxHeartbeats 4000000 in
theorem sym_con (w : World) : SymC w 214 := by
  intro x tk Y
  refine Con.intro ?_
  intro dp un gd cn cs fa ccd cl outer A₀ base h₀ L m s mean mg mb Q E B F X N Tp hk hd hu fin
  simp only [List.nil_append] at N
  refine wpAny_call ?_
  w_strict (
    k_dflt ktr_enter
    k_steps)
  refine' fin [] _ _ _ _ (by k_asm) (by k_asm) (List.forall_mem_nil _) ?Y (fun Y₁ hs => ⟨rfl, _, rfl, TIn.mono hs ?P⟩)
  case Y => tb_start
  case P =>
    show TIn _ _ (symD _)
    tb_rel
set_option maxHeartbeats 4000000 in
theorem symF_con (w : World) : SymC w 61 := by
  intro x tk Y
  refine Con.intro ?_
  intro dp un gd cn cs fa ccd cl outer A₀ base h₀ L m s mean mg mb Q E B F X N Tp hk hd hu fin
  simp only [List.nil_append] at N
  refine wpAny_call ?_
  w_strict (
    k_dflt ktr_enter
    k_steps)
  refine' fin [] _ _ _ _ (by k_asm) (by k_asm) (List.forall_mem_nil _) ?Y (fun Y₁ hs => ⟨rfl, _, rfl, TIn.mono hs ?P⟩)
  case Y => tb_start
  case P =>
    show TIn _ _ (symD _)
    tb_rel
set_option maxHeartbeats 4000000 in
theorem tree_con (w : World) : TreeC w := by
  intro x tk lz vs n ds Y hl hm hT
  refine Con.intro ?_
  intro dp un gd cn cs fa ccd cl outer A₀ base h₀ L m s mean mg mb Q E B F X N Tp hk hd hu fin
  simp only [List.nil_append] at N
  refine wpAny_call ?_
  w_strict (
    k_dflt ktr_enter
    k_steps)
  refine' fin [] _ _ _ _ (by k_asm) (by k_asm) (List.forall_mem_nil _) ?Y (fun Y₁ hs => ⟨rfl, _, rfl, TIn.mono hs ?P⟩)
  case Y => tb_start
  case P =>
    show TIn _ _ (.tuple [sS "expr", .str x, .tuple ds])
    tb_rel
section
variable {w : World} {Y news ex : List (Addr × Obj)}
  {dp un : Nat} {gd : Option (List Code)} {cn : Str} {cs : Scope} {fa : Addr} {ccd : Value} {cl : List (Str × Addr)} {outer : List Env} {A₀ : Around} {base h₀ : Heap} {L0 : Addr} {m : Str → Option Value} {s : Shared}
  {mean : ExcName → Option Value} {mg mb : Str → Option Value} {Q E : Value → Shared → Prop}
theorem sym_use {f : Addr} {x : Str} {tk : Tok} (C : SymC w f) (hc : Cut [] Y news ex) (B : Below A₀ base outer h₀) (F : Fr h₀ L0 s.heap m) (X : (hd.heap_39 w.params).In h₀) (N : News h₀ L0 s.heap news)
    (Tp : Top hd.view_39 (looseW hd.view_39 [Str.ofString "RowsError"]) mean mg mb h₀) (hk : cs.kind = .function) (hd : dp + 5 < recursionLimit) (hu : un + 40 < cLine)
    (ret : ∀ a Y₂ h' tk', GrowT Y Y₂ → Fr h₀ L0 h' m → News h₀ L0 h' (ex ++ Y₂) → TIn Y₂ (.ref a) (symD x) → Q (.ref a) { s with heap := h', toks := tk' }) :
    wpAny (model PySem.Challenge.rw_pq0689_01.row.prog w) (ktrTop dp un gd cn cs L0 fa ccd cl outer) (call (.ref f) [.str x tk]) Q E s := by
  refine Con.use (ex := ex) (Y := Y) (fun _ => C x tk _) ?_ hc (fun _ h => nomatch h) (fun _ h => nomatch h) B F X N Tp hk hd hu ?_
  · rintro M' X Z r hs ⟨h1, a, h2, h3⟩
    exact ⟨h1, a, h2, h3.mono hs⟩
  · rintro r M' Y₂ h' tk' g F' N' ⟨rfl, a, rfl, h3⟩
    exact ret a Y₂ h' tk' g F' (by simpa using N') h3
theorem tree_use {x : Str} {tk : Tok} {lz : Addr} {vs : List Value} {n : Nat} {ds : List Dat} (C : TreeC w) (hc : Cut [] Y news ex) (hm : (lz, listOf (List.toArray vs) n) ∈ news) (hl : vs.length ≤ 60) (hT : TAll news vs ds) (B : Below A₀ base outer h₀) (F : Fr h₀ L0 s.heap m) (X : (hd.heap_39 w.params).In h₀) (N : News h₀ L0 s.heap news)
    (Tp : Top hd.view_39 (looseW hd.view_39 [Str.ofString "RowsError"]) mean mg mb h₀) (hk : cs.kind = .function) (hd : dp + 5 < recursionLimit) (hu : un + 40 < cLine)
    (ret : ∀ a Y₂ h' tk', GrowT Y Y₂ → Fr h₀ L0 h' m → News h₀ L0 h' (ex ++ Y₂) → TIn Y₂ (.ref a) (.tuple [sS "expr", .str x, .tuple ds]) → Q (.ref a) { s with heap := h', toks := tk' }) :
    wpAny (model PySem.Challenge.rw_pq0689_01.row.prog w) (ktrTop dp un gd cn cs L0 fa ccd cl outer) (call (.ref 207) [.str x tk, .ref lz]) Q E s := by
  refine Con.use (ex := ex) (Y := Y) (fun _ => C x tk lz vs n ds _ hl (hc.all _ hm) (hT.mono (subT_of hc.all))) ?_ hc (fun _ h => nomatch h) (fun _ h => nomatch h) B F X N Tp hk hd hu ?_
  · rintro M' X Z r hs ⟨h1, a, h2, h3⟩
    exact ⟨h1, a, h2, h3.mono hs⟩
  · rintro r M' Y₂ h' tk' g F' N' ⟨rfl, a, rfl, h3⟩
    exact ret a Y₂ h' tk' g F' (by simpa using N') h3
end
end
section
-- LawLeaf
theorem reset_LawLeaf : True := by
  w_top off
  k_with_none
  k_with "kt_len" => first | assumption | exact ltm (by assumption) (by lsm_bools) | exact lt3 (by assumption) (by assumption) (by lsm_bools) | exact ltk (by assumption) | exact lk0 (by assumption) (by rfl) | exact lk1 (by assumption) (by rfl) | exact ltn (by assumption) (by lsm_bools) | exact lka (by rfl) | exact lkb (by rfl) | exact And.left (by assumption) | exact pj1 (by assumption) | exact pj2 (by assumption) | fail "no"
  k_with "ktr_room" => first | exact szg (by rfl) | exact rm2 (by assumption) (by rfl) | exact rs2 (by assumption) (by rfl) | exact rm0 (by assumption) | exact rm1 (by assumption) (by rfl) | exact rs1 (by assumption) (by rfl) | exact rm3 (by assumption) (by rfl) | exact rm4 (by assumption) (by rfl) | exact rm5 (by assumption) (by rfl) | exact rmn (by assumption) (by assumption) (by rfl) | exact rmt (by assumption) (by rfl) | fail "no"
  k_with "ktr_units" => k_extra "ktr_room"
  k_with "omega" => first | with_reducible assumption | (show (_ : Nat) < _; first | assumption | k_extra "ktr_room") | (show (_ : Nat) ≤ _; first | assumption | exact szg (by rfl) | exact sza (by assumption) (by rfl) | exact szb (by assumption) (by assumption) (by rfl) | exact szc (by assumption) (by rfl) | exact szd (by assumption) (by rfl) | exact cza (by assumption) (by rfl) | exact szs (by assumption) | exact Nat.le_of_eq (by assumption)) | (show (_ : Nat) ≠ _; first | assumption | exact Ne.symm (by assumption) | exact ofI (by assumption) (by lsm_bools) | exact ofC (by assumption) (by lsm_bools) | exact ofD (by assumption) (by lsm_bools) | exact fI (by assumption) (by lsm_bools) | exact fC (by assumption) (by lsm_bools) | exact fD (by assumption) (by lsm_bools) | exact Nat.ne_of_lt (by kt_len) | exact Nat.ne_of_gt (by kt_len)) | (show (_ : Nat) < _ ∨ _; first | exact Or.inl (by kt_len) | exact Or.inr (by kt_len)) | fail "no"
  k_with "lsm_bools" => first | exact List.Mem.head _ | assumption | (refine' List.Mem.tail _ ?_; lsm_bools) | (refine' GrowT.mem ?gZ43 ?hZ43; (case gZ43 => assumption); (case hZ43 => lsm_bools)) | fail "no entry"
  k_with "k_mem" => first | lsm_bools | fail "no entry"
  k_with "tb_start" => first
  | exact List.forall_mem_nil _
  | (refine' List.forall_mem_cons.mpr ⟨?aZ45, ?bZ45⟩; (case aZ45 => lsm_bools); (case bZ45 => tb_start))
  | (intro p hp; repeat (first | exact hp | refine List.mem_cons_of_mem _ ?_ | refine List.Mem.tail _ ?_ | refine GrowT.mem' (by assumption) ?_ | refine GrowT.mem (by assumption) ?_ | fail "no entry"))
  | fail "not within"
  k_with "k_all" => first
  | assumption
  | (refine' GrowT.off ?gZ46 ?oZ46 ?NZ46 ?sZ46 ?mZ46 ?cZ46; (case gZ46 => assumption); (case NZ46 => k_asm); (case sZ46 => tb_start); (case mZ46 => lsm_bools); (case cZ46 => rfl); (case oZ46 => k_all))
  | (refine' offLt ?hZ46 ?sZ46; (case hZ46 => assumption); (case sZ46 => tb_start))
  | (refine' offLt3 ?qZ46 ?hZ46 ?sZ46; (case qZ46 => assumption); (case hZ46 => assumption); (case sZ46 => tb_start))
  | fail "not apart"
  k_with "kqd_sub" => first
  | (refine' Cut.own ?mZ47 ?rZ47; (case mZ47 => lsm_bools); (case rZ47 => kqd_sub))
  | (refine' Cut.oth ?oZ47 ?rZ47; (case oZ47 => k_all); (case rZ47 => kqd_sub))
  | exact Cut.tail
  | fail "no cut"
  k_with "ktr_rel" => first
  | exact subT_nil
  | exact subT_of (fun _ hp => hp)
  | assumption
  | (refine' subT_skip ?aZ48 ?bZ48; (case aZ48 => rfl); (case bZ48 => ktr_rel))
  | (refine' subT_cons ?aZ48 ?bZ48; (case aZ48 => lsm_bools); (case bZ48 => ktr_rel))
  | (refine' subT_of ?hZ48; (case hZ48 => tb_start))
  | (refine' subT_app (by ktr_rel) (by ktr_rel))
  | fail "tuples not within"
  k_with "k_room" => ktr_room
  k_with "k_units" => ktr_units
  k_with "tb_rel" => first
  | exact TAll.nil
  | exact TIn.str _ _
  | exact TIn.int _ _
  | exact TIn.bytes _ _
  | assumption
  | (refine' TIn.mono ?sZ51 ?hZ51; (case hZ51 => assumption); (case sZ51 => ktr_rel))
  | (refine' TAll.mono ?sZ51 ?hZ51; (case hZ51 => assumption); (case sZ51 => ktr_rel))
  | (refine' TIn.tuple ?mZ51 ?rZ51; (case mZ51 => lsm_bools); (case rZ51 => tb_rel))
  | (refine' TAll.cons (by tb_rel) (by tb_rel))
  | fail "no tree"
  k_with "call ref" => (k_here; (with_reducible show wpAny _ _ (call (Value.ref 214) [Value.str _ _] _) _ _ _); k_dflt (refine' sym_use ?CZ52 ?hcZ52 ?BZ52 ?FZ52 ?XZ52 ?NZ52 ?TZ52 ?hkZ52 ?hdZ52 ?huZ52 ?_; (case CZ52 => exact sym_con _); (case NZ52 => k_asm); (case hcZ52 => kqd_sub); (case BZ52 => k_asm); (case FZ52 => k_asm); (case XZ52 => k_asm); (case TZ52 => k_asm); (case hkZ52 => first | rfl | assumption); (case hdZ52 => ktr_room); (case huZ52 => ktr_units); k_whole; intro a' Y' h' tk' g' F' N' hr'; (try simp only [List.cons_append, List.nil_append] at N'); (try k_fold)))
  k_with "call ref" => (k_here; (with_reducible show wpAny _ _ (call (Value.ref 207) [Value.str _ _, Value.ref _] _) _ _ _); k_dflt (refine' tree_use ?CZ53 ?hcZ53 ?hmZ53 ?hlZ53 ?hTZ53 ?BZ53 ?FZ53 ?XZ53 ?NZ53 ?TZ53 ?hkZ53 ?hdZ53 ?huZ53 ?_; (case CZ53 => exact tree_con _); (case NZ53 => k_asm); (case hcZ53 => kqd_sub); (case hmZ53 => lsm_bools); (case hlZ53 => exact Nat.le_of_ble_eq_true rfl); (case hTZ53 => tb_rel); (case BZ53 => k_asm); (case FZ53 => k_asm); (case XZ53 => k_asm); (case TZ53 => k_asm); (case hkZ53 => first | rfl | assumption); (case hdZ53 => ktr_room); (case huZ53 => ktr_units); k_whole; intro a' Y' h' tk' g' F' N' hr'; (try simp only [List.cons_append, List.nil_append] at N'); (try k_fold)))
  k_with "compareOp In str ref" => (k_here; k_dflt (refine' in_tupL ?htZ54 ?hiZ54 ?_; (case htZ54 => (refine' tupK ?XZ54 ?lZ54; (case XZ54 => k_in); (case lZ54 => k_is))); (case hiZ54 => exact rfl)))
  k_with "compareOp Eq ref ref" => (k_here; k_dflt (first
  | (refine' eq_dat (r := false) ?HZ55 ?d1Z55 ?d2Z55 ?hcZ55 ?hdZ55 ?huZ55 ?_; (case HZ55 => exact heldOf (by k_asm)); (case d1Z55 => tb_rel); (case d2Z55 => tb_rel); (case hcZ55 => with_unfolding_all rfl); (case hdZ55 => exact Nat.le_of_ble_eq_true rfl); (case huZ55 => ktr_units))
  | (refine' eq_dat (r := true) ?HZ55 ?d1Z55 ?d2Z55 ?hcZ55 ?hdZ55 ?huZ55 ?_; (case HZ55 => exact heldOf (by k_asm)); (case d1Z55 => tb_rel); (case d2Z55 => tb_rel); (case hcZ55 => with_unfolding_all rfl); (case hdZ55 => exact Nat.le_of_ble_eq_true rfl); (case huZ55 => ktr_units))))
  k_with "compareOp NotEq ref ref" => (k_here; k_dflt (first
  | (refine' ne_dat (r := false) ?HZ56 ?d1Z56 ?d2Z56 ?hcZ56 ?hdZ56 ?huZ56 ?_; (case HZ56 => exact heldOf (by k_asm)); (case d1Z56 => tb_rel); (case d2Z56 => tb_rel); (case hcZ56 => with_unfolding_all rfl); (case hdZ56 => exact Nat.le_of_ble_eq_true rfl); (case huZ56 => ktr_units))
  | (refine' ne_dat (r := true) ?HZ56 ?d1Z56 ?d2Z56 ?hcZ56 ?hdZ56 ?huZ56 ?_; (case HZ56 => exact heldOf (by k_asm)); (case d1Z56 => tb_rel); (case d2Z56 => tb_rel); (case hcZ56 => with_unfolding_all rfl); (case hdZ56 => exact Nat.le_of_ble_eq_true rfl); (case huZ56 => ktr_units))))
  k_with "subscriptTail Name Constant ref int" => (k_here; k_dflt (refine' item_tupleT ?tZ57 ?aZ57 ?bZ57 ?cZ57 ?dZ57 ?_; (case tZ57 => exact News.isTup (by k_asm) (by k_mem)); (case aZ57 => decide); (case bZ57 => decide); (case cZ57 => rfl); (case dZ57 => rfl); k_whole))
  k_with "ite" => (k_closed; k_dflt (first | (refine' ite_pos ?cZ58 ?_; (case cZ58 => decide)) | (refine' ite_neg ?cZ58 ?_; (case cZ58 => decide))))
  k_with "call ref" => (k_here; (with_reducible show wpAny _ _ (call (Value.ref 61) [Value.str _ _] _) _ _ _); k_dflt (refine' sym_use ?CZ59 ?hcZ59 ?BZ59 ?FZ59 ?XZ59 ?NZ59 ?TZ59 ?hkZ59 ?hdZ59 ?huZ59 ?_; (case CZ59 => exact symF_con _); (case NZ59 => k_asm); (case hcZ59 => kqd_sub); (case BZ59 => k_asm); (case FZ59 => k_asm); (case XZ59 => k_asm); (case TZ59 => k_asm); (case hkZ59 => first | rfl | assumption); (case hdZ59 => ktr_room); (case huZ59 => ktr_units); k_whole; intro a' Y' h' tk' g' F' N' hr'; (try simp only [List.cons_append, List.nil_append] at N'); (try k_fold)))
  k_with "call ref" => (k_here; (with_reducible show wpAny _ _ (call (Value.ref 200) [Value.ref _, Value.int _ _] _) _ _ _); k_dflt (refine' card_use ?BZ60 ?FZ60 ?XZ60 ?NZ60 ?TZ60 ?hkZ60 ?UZ60 ?hlZ60 ?hmZ60 ?hm' ?hdZ60 ?huZ60 ?_; (case BZ60 => k_asm); (case FZ60 => k_asm); (case XZ60 => k_asm); (case NZ60 => k_asm); (case TZ60 => k_asm); (case hkZ60 => first | rfl | assumption); (case UZ60 => k_updF); (case hlZ60 => exact ⟨by assumption, by assumption, by assumption⟩); (case hmZ60 => decide); (case hm' => decide); (case hdZ60 => ktr_room); (case huZ60 => ktr_units); k_whole; intro a' b' c' ta' tb' tc' n' h' tk' F' N' hb' hc1 hc2; obtain ⟨hb1, hb2, hb3⟩ := hb'; (try dsimp only at N'); (try k_fold)))
  k_with "call ref" => (k_here; (with_reducible show wpAny _ _ (call (Value.ref 200) [Value.ref _, Value.int 7 _] _) _ _ _); k_dflt (refine' card_use ?BZ61 ?FZ61 ?XZ61 ?NZ61 ?TZ61 ?hkZ61 ?UZ61 ?hlZ61 ?hmZ61 ?hm' ?hdZ61 ?huZ61 ?_; (case BZ61 => k_asm); (case FZ61 => k_asm); (case XZ61 => k_asm); (case NZ61 => k_asm); (case TZ61 => k_asm); (case hkZ61 => first | rfl | assumption); (case UZ61 => k_updF); (case hlZ61 => exact ⟨by assumption, by assumption, by assumption⟩); (case hmZ61 => decide); (case hm' => decide); (case hdZ61 => ktr_room); (case huZ61 => ktr_units); k_whole; intro a' b' c' ta' tb' tc' n' h' tk' F' N' hb' hc1 hc2; obtain ⟨hb1, hb2, hb3⟩ := hb'; (rcases (by omega : c' = 0 ∨ c' = 1 ∨ c' = 2 ∨ c' = 3 ∨ c' = 4 ∨ c' = 5 ∨ c' = 6) with e9 | e9 | e9 | e9 | e9 | e9 | e9) <;> (subst e9; (try dsimp only at N'); (try k_fold))))
  trivial
set_option maxHeartbeats 8000000 in
theorem lawLeaf_con (w : World) (l : Nat) (a b : Int) (ta tb : Tok) (n : Nat) (Y : List (Addr × Obj)) (ha : 0 ≤ a) (hb : 0 ≤ b) (hb' : b < 65413)
    (ho : ∀ q ∈ [(l, listOf #[Value.int a ta, Value.int b tb] n)], ∀ p ∈ Y, p.1 ≠ q.1) :
    Con w 221 [.ref l] 6 60 [(l, listOf #[.int a ta, .int b tb] n)] Y
      (fun M' Y₁ r => ∃ a' b' ta' tb' n' k, M' = [(l, listOf #[.int a' ta', .int b' tb'] n')] ∧ 0 ≤ a' ∧ 0 ≤ b' ∧ b' < 65413 ∧ k < 7 ∧ TIn Y₁ r (leafD k)) := by
  refine Con.intro ?_
  intro dp un gd cn cs fa ccd cl outer A₀ base h₀ L m s mean mg mb Q E B F X N Tp hk hd hu fin
  have f1 := ho _ (.head _)
  clear ho
  simp only [List.cons_append, List.nil_append] at N f1
  refine wpAny_call ?_
  w_strict (
    k_dflt ktr_enter
    k_steps)
  · refine' fin [(l, listOf #[.int _ _, .int _ _] _)] _ _ _ _ (by k_asm) (by k_asm) ?M ?Y ?P
    case M => tb_start
    case Y => tb_start
    case P => exact fun Y₁ hs => ⟨_, _, _, _, _, 0, rfl, by assumption, by assumption, by assumption, by decide, TIn.mono hs (by tb_rel)⟩
  · refine' fin [(l, listOf #[.int _ _, .int _ _] _)] _ _ _ _ (by k_asm) (by k_asm) ?M ?Y ?P
    case M => tb_start
    case Y => tb_start
    case P => exact fun Y₁ hs => ⟨_, _, _, _, _, 1, rfl, by assumption, by assumption, by assumption, by decide, TIn.mono hs (by tb_rel)⟩
  · refine' fin [(l, listOf #[.int _ _, .int _ _] _)] _ _ _ _ (by k_asm) (by k_asm) ?M ?Y ?P
    case M => tb_start
    case Y => tb_start
    case P => exact fun Y₁ hs => ⟨_, _, _, _, _, 2, rfl, by assumption, by assumption, by assumption, by decide, TIn.mono hs (by tb_rel)⟩
  · refine' fin [(l, listOf #[.int _ _, .int _ _] _)] _ _ _ _ (by k_asm) (by k_asm) ?M ?Y ?P
    case M => tb_start
    case Y => tb_start
    case P => exact fun Y₁ hs => ⟨_, _, _, _, _, 3, rfl, by assumption, by assumption, by assumption, by decide, TIn.mono hs (by tb_rel)⟩
  · refine' fin [(l, listOf #[.int _ _, .int _ _] _)] _ _ _ _ (by k_asm) (by k_asm) ?M ?Y ?P
    case M => tb_start
    case Y => tb_start
    case P => exact fun Y₁ hs => ⟨_, _, _, _, _, 4, rfl, by assumption, by assumption, by assumption, by decide, TIn.mono hs (by tb_rel)⟩
  · refine' fin [(l, listOf #[.int _ _, .int _ _] _)] _ _ _ _ (by k_asm) (by k_asm) ?M ?Y ?P
    case M => tb_start
    case Y => tb_start
    case P => exact fun Y₁ hs => ⟨_, _, _, _, _, 5, rfl, by assumption, by assumption, by assumption, by decide, TIn.mono hs (by tb_rel)⟩
  · refine' fin [(l, listOf #[.int _ _, .int _ _] _)] _ _ _ _ (by k_asm) (by k_asm) ?M ?Y ?P
    case M => tb_start
    case Y => tb_start
    case P => exact fun Y₁ hs => ⟨_, _, _, _, _, 6, rfl, by assumption, by assumption, by assumption, by decide, TIn.mono hs (by tb_rel)⟩
section
variable {w : World} {Y news ex : List (Addr × Obj)}
  {dp un : Nat} {gd : Option (List Code)} {cn : Str} {cs : Scope} {fa : Addr} {ccd : Value} {cl : List (Str × Addr)} {outer : List Env} {A₀ : Around} {base h₀ : Heap} {L : Addr} {m : Str → Option Value} {s : Shared}
  {mean : ExcName → Option Value} {mg mb : Str → Option Value} {Q E : Value → Shared → Prop}
theorem lawLeaf_use {l : Nat} {a b : Int} {ta tb : Tok} {n : Nat} (B : Below A₀ base outer h₀) (F : Fr h₀ L s.heap m) (X : (hd.heap_39 w.params).In h₀) (N : News h₀ L s.heap news)
    (T : Top hd.view_39 (looseW hd.view_39 [Str.ofString "RowsError"]) mean mg mb h₀) (hk : cs.kind = .function) (hm : ∀ p ∈ [(l, listOf #[Value.int a ta, Value.int b tb] n)], p ∈ news) (hc : Cut [(l, listOf #[Value.int a ta, Value.int b tb] n)] Y news ex) (hy : ∀ p ∈ Y, p.1 ≠ l) (hl : 0 ≤ a ∧ 0 ≤ b ∧ b < 65413)
    (hd : dp + 6 < recursionLimit) (hu : un + 60 < cLine)
    (ret : ∀ r a' b' ta' tb' n' k Y₂ h' tk', GrowT Y Y₂ → Fr h₀ L h' m → News h₀ L h' ((l, listOf #[.int a' ta', .int b' tb'] n') :: (ex ++ Y₂)) → 0 ≤ a' ∧ 0 ≤ b' ∧ b' < 65413 → k < 7 → TIn Y₂ r (leafD k) → Q r { s with heap := h', toks := tk' }) :
    wpAny (model PySem.Challenge.rw_pq0689_01.row.prog w) (ktrTop dp un gd cn cs L fa ccd cl outer) (call (.ref 221) [.ref l]) Q E s := by
  refine Con.use (ex := ex) (fun ho => lawLeaf_con w l a b ta tb n (ex ++ Y) hl.1 hl.2.1 hl.2.2 ho) ?_ hc hm (fun q hq => by rw [List.mem_singleton.mp hq]; exact hy) B F X N T hk hd hu ?_
  · rintro M' X Z r hs ⟨a', b', ta', tb', n', k, h1, h2, h3, h4, h5, h6⟩
    exact ⟨a', b', ta', tb', n', k, h1, h2, h3, h4, h5, h6.mono hs⟩
  · rintro r M' Y₂ h' tk' g F' N' ⟨a', b', ta', tb', n', k, rfl, h2, h3, h4, h5, h6⟩
    exact ret r a' b' ta' tb' n' k Y₂ h' tk' g F' N' ⟨h2, h3, h4⟩ h5 h6
end
end

section
-- Tree2
/-- a tree of the program's -/
inductive T where
  | sym (x : Str)
  | int (i : Int)
  | text (b : Array UInt8)
  | ex (h : Str) (ps : List T)
mutual
noncomputable def T.dat : T → Dat
  | .sym x => .tuple [sS "sym", .str x]
  | .int i => .tuple [sS "int", .int i]
  | .text b => .tuple [sS "text", .bytes b]
  | .ex h ps => .tuple [sS "expr", .str h, .tuple (T.dats ps)]
noncomputable def T.dats : List T → List Dat
  | [] => []
  | t :: r => t.dat :: T.dats r
end
theorem dats_append (xs ys : List T) : T.dats (xs ++ ys) = T.dats xs ++ T.dats ys := by
  induction xs with
  | nil => rfl
  | cons x xs ih => simp only [List.cons_append, T.dats, ih]
theorem dats_len (xs : List T) : (T.dats xs).length = xs.length := by
  induction xs with
  | nil => rfl
  | cons x xs ih => simp only [T.dats, List.length_cons, ih]
noncomputable abbrev tS (x : String) : T := .sym (Str.ofString x)
noncomputable abbrev tE (h : String) (ps : List T) : T := .ex (Str.ofString h) ps
noncomputable def leafT : Nat → T
  | 0 => tS "a"
  | 1 => tS "b"
  | 2 => tS "c"
  | 3 => tE "call" [tS "g", tS "x", .int 2]
  | 4 => tE "ref" [tS "v", .int 1]
  | 5 => .int 7
  | _ => .text #[116]
theorem leafD_eq (k : Nat) : leafD k = (leafT k).dat := by
  match k with
  | 0 | 1 | 2 | 3 | 4 | 5 => rfl
  | k + 6 => rfl
noncomputable def LeafOk (t : T) : Prop := ∃ k, k < 7 ∧ t = leafT k
noncomputable def CalOk (t : T) : Prop := (∃ x, x ∈ opsL ∧ t = .sym x) ∨ t = tE "." [tS "m", tS "h"]
noncomputable def DotT : Nat → T → Prop
  | 0, _ => False
  | n + 1, t => ∃ c ps, t = .ex (Str.ofString "dotcall") (c :: ps) ∧ CalOk c ∧ 1 ≤ ps.length ∧ ps.length ≤ 3 ∧ ∀ p ∈ ps, LeafOk p ∨ DotT n p
theorem TAll.append {Y : List (Addr × Obj)} {vs us : List Value} {ds es : List Dat} (h : TAll Y vs ds) (h' : TAll Y us es) : TAll Y (vs ++ us) (ds ++ es) := by
  induction vs generalizing ds with
  | nil => cases h; exact h'
  | cons v vs ih =>
    cases h with
    | cons a b => exact .cons a (ih b)
theorem TAll.snoc {Y : List (Addr × Obj)} {vs : List Value} {v : Value} {ts : List T} {t : T} (h : TAll Y vs (T.dats ts)) (h' : TIn Y v t.dat) : TAll Y (vs ++ [v]) (T.dats (ts ++ [t])) := by
  rw [dats_append]; exact h.append (.cons h' .nil)
theorem TAll.length {Y : List (Addr × Obj)} {vs : List Value} {ds : List Dat} (h : TAll Y vs ds) : vs.length = ds.length := by
  induction vs generalizing ds with
  | nil => cases h; rfl
  | cons v vs ih =>
    cases h with
    | cons a b => simp only [List.length_cons, ih b]
/-- ways that meet at a statement -/
noncomputable def JFlow (h₀ : Heap) (L : Addr) (Y : List (Addr × Obj)) (Post : (Str → Option Value) → List (Addr × Obj) → List (Addr × Obj) → Prop) (s : Shared) (f : Flow) (s' : Shared) : Prop :=
  f = .next ∧ ∃ m' M' Y₂ h' tk', s' = { s with heap := h', toks := tk' } ∧ GrowT Y Y₂ ∧ Fr h₀ L h' m' ∧ News h₀ L h' (M' ++ Y₂) ∧ Post m' M' Y₂
section
variable {M : Model} {A : Around} {h₀ : Heap} {L : Addr} {s : Shared} {E : Value → Shared → Prop} {Y : List (Addr × Obj)}
theorem joinF {t : Sem Flow} {m : Str → Option Value} {Q : Flow → Shared → Prop} (_F : Fr h₀ L s.heap m) (Post : (Str → Option Value) → List (Addr × Obj) → List (Addr × Obj) → Prop) (h1 : wpAny M A t (JFlow h₀ L Y Post s) E s)
    (h2 : ∀ m' M' Y₂ h' tk', GrowT Y Y₂ → Fr h₀ L h' m' → News h₀ L h' (M' ++ Y₂) → Post m' M' Y₂ → Q .next { s with heap := h', toks := tk' }) : wpAny M A t Q E s := by
  refine wpAny_mono h1 ?_ fun _ _ e => e
  rintro f s' ⟨rfl, m', M', Y₂, h', tk', rfl, g, F', N', hp⟩
  exact h2 m' M' Y₂ h' tk' g F' N' hp
theorem joinF_end {Post : (Str → Option Value) → List (Addr × Obj) → List (Addr × Obj) → Prop} {s' : Shared} {messy : List (Addr × Obj)} {m' : Str → Option Value} (M' : List (Addr × Obj)) {h' : Heap} {tk' : Nat}
    (hs : s' = { s with heap := h', toks := tk' }) (F : Fr h₀ L h' m') (N : News h₀ L h' messy) (hM : ∀ p ∈ M', p ∈ messy) (hY : ∀ p ∈ Y, p ∈ messy) (hp : ∀ Y₁, SubT messy Y₁ → Post m' M' Y₁) : JFlow h₀ L Y Post s .next s' := by
  refine ⟨rfl, m', M', tf messy ++ Y, h', tk', hs, ⟨fun p h => List.mem_append.mpr (.inr h), fun p h => ?_⟩, F, fun p hp => ?_, hp _ fun p h1 h2 => List.mem_append.mpr (.inl (tf_in h1 h2))⟩
  · rcases List.mem_append.mp h with h | h
    · exact .inr (tf_mem h).2
    · exact .inl h
  · rcases List.mem_append.mp hp with h | h
    · exact N p (hM p h)
    · rcases List.mem_append.mp h with h | h
      · exact N p (tf_mem h).1
      · exact N p (hY p h)
/-- the same at an expression -/
noncomputable def JVal (h₀ : Heap) (L : Addr) (m : Str → Option Value) (Y : List (Addr × Obj)) (Post : Value → List (Addr × Obj) → List (Addr × Obj) → Prop) (s : Shared) (v : Value) (s' : Shared) : Prop :=
  ∃ M' Y₂ h' tk', s' = { s with heap := h', toks := tk' } ∧ GrowT Y Y₂ ∧ Fr h₀ L h' m ∧ News h₀ L h' (M' ++ Y₂) ∧ Post v M' Y₂
theorem joinV {t : Sem Value} {m : Str → Option Value} {Q : Value → Shared → Prop} (_F : Fr h₀ L s.heap m) (Post : Value → List (Addr × Obj) → List (Addr × Obj) → Prop) (h1 : wpAny M A t (JVal h₀ L m Y Post s) E s)
    (h2 : ∀ v M' Y₂ h' tk', GrowT Y Y₂ → Fr h₀ L h' m → News h₀ L h' (M' ++ Y₂) → Post v M' Y₂ → Q v { s with heap := h', toks := tk' }) : wpAny M A t Q E s := by
  refine wpAny_mono h1 ?_ fun _ _ e => e
  rintro v s' ⟨M', Y₂, h', tk', rfl, g, F', N', hp⟩
  exact h2 v M' Y₂ h' tk' g F' N' hp
theorem joinV_end {Post : Value → List (Addr × Obj) → List (Addr × Obj) → Prop} {v : Value} {s' : Shared} {messy : List (Addr × Obj)} {m : Str → Option Value} (M' : List (Addr × Obj)) {h' : Heap} {tk' : Nat}
    (hs : s' = { s with heap := h', toks := tk' }) (F : Fr h₀ L h' m) (N : News h₀ L h' messy) (hM : ∀ p ∈ M', p ∈ messy) (hY : ∀ p ∈ Y, p ∈ messy) (hp : ∀ Y₁, SubT messy Y₁ → Post v M' Y₁) : JVal h₀ L m Y Post s v s' := by
  refine ⟨M', tf messy ++ Y, h', tk', hs, ⟨fun p h => List.mem_append.mpr (.inr h), fun p h => ?_⟩, F, fun p hp => ?_, hp _ fun p h1 h2 => List.mem_append.mpr (.inl (tf_in h1 h2))⟩
  · rcases List.mem_append.mp h with h | h
    · exact .inr (tf_mem h).2
    · exact .inl h
  · rcases List.mem_append.mp hp with h | h
    · exact N p (hM p h)
    · rcases List.mem_append.mp h with h | h
      · exact N p (tf_mem h).1
      · exact N p (hY p h)
end
section
variable {w : World} {Y news ex : List (Addr × Obj)}
  {dp un : Nat} {gd : Option (List Code)} {cn : Str} {cs : Scope} {fa : Addr} {ccd : Value} {cl : List (Str × Addr)} {outer : List Env} {A₀ : Around} {base h₀ : Heap} {L : Addr} {m : Str → Option Value} {s : Shared}
  {mean : ExcName → Option Value} {mg mb : Str → Option Value} {Q E : Value → Shared → Prop}
theorem lawLeaf_useT {l : Nat} {a b : Int} {ta tb : Tok} {n : Nat} (B : Below A₀ base outer h₀) (F : Fr h₀ L s.heap m) (X : (hd.heap_39 w.params).In h₀) (N : News h₀ L s.heap news)
    (T : Top hd.view_39 (looseW hd.view_39 [Str.ofString "RowsError"]) mean mg mb h₀) (hk : cs.kind = .function) (hm : ∀ p ∈ [(l, listOf #[Value.int a ta, Value.int b tb] n)], p ∈ news) (hc : Cut [(l, listOf #[Value.int a ta, Value.int b tb] n)] Y news ex) (hy : ∀ p ∈ Y, p.1 ≠ l) (hl : 0 ≤ a ∧ 0 ≤ b ∧ b < 65413)
    (hd : dp + 6 < recursionLimit) (hu : un + 60 < cLine)
    (ret : ∀ r a' b' ta' tb' n' t Y₂ h' tk', GrowT Y Y₂ → Fr h₀ L h' m → News h₀ L h' ((l, listOf #[.int a' ta', .int b' tb'] n') :: (ex ++ Y₂)) → 0 ≤ a' ∧ 0 ≤ b' ∧ b' < 65413 → LeafOk t → TIn Y₂ r t.dat → Q r { s with heap := h', toks := tk' }) :
    wpAny (model PySem.Challenge.rw_pq0689_01.row.prog w) (ktrTop dp un gd cn cs L fa ccd cl outer) (call (.ref 221) [.ref l]) Q E s :=
  lawLeaf_use B F X N T hk hm hc hy hl hd hu fun r a' b' ta' tb' n' k Y₂ h' tk' g F' N' hb hk7 hr => ret r a' b' ta' tb' n' (leafT k) Y₂ h' tk' g F' N' hb ⟨k, hk7, rfl⟩ (leafD_eq k ▸ hr)
end
theorem GrowT.trans {X Y Z : List (Addr × Obj)} (g : GrowT X Y) (h : GrowT Y Z) : GrowT X Z := ⟨fun p q => h.1 p (g.1 p q), fun p q => (h.2 p q).elim (fun r => g.2 p r) .inr⟩
end

section
-- DotsLoop
noncomputable abbrev kS (x : String) : Str := Str.ofString x
noncomputable def DotsJ (l pz cv : Addr) (hh : Int) (th : Tok) (nn : Nat) (Y₂ : List (Addr × Obj)) (i : Nat) (m : Str → Option Value) (news : List (Addr × Obj)) : Prop :=
  ∃ a b ta tb n vs pn ts Y₃, news = (l, listOf #[.int a ta, .int b tb] n) :: (pz, listOf (List.toArray vs) pn) :: Y₃ ∧ GrowT Y₂ Y₃ ∧ (0 ≤ a ∧ 0 ≤ b ∧ b < 65413) ∧ TAll Y₃ vs (T.dats ts) ∧ ts.length = i ∧ (∀ p ∈ ts, LeafOk p ∨ DotT nn p) ∧
    (∀ p ∈ Y₃, p.1 ≠ l) ∧ (∀ p ∈ Y₃, p.1 ≠ pz) ∧ m (kS "lot") = some (.ref l) ∧ m (kS "high") = some (.int hh th) ∧ m (kS "callee") = some (.ref cv) ∧ m (kS "parts") = some (.ref pz)
section
variable {prog : Program} {w : World} {A : Around} {E : Value → Shared → Prop} {s : Shared} {env : Env} {h₀ : Heap} {x : Str} {body : List Stmt} {Q : Flow → Shared → Prop}
theorem dots_loop {l pz cv r : Addr} {c a b : Int} {t u v ta tb th : Tok} {n : Nat} {hh : Int} {Y₂ : List (Addr × Obj)} {m₀ : Str → Option Value} (nn : Nat)
    (hA : A.handled = none) (hr : IsRange s.heap r 0 (1 + c) 1 t u v) (hc0 : 0 ≤ c) (hc3 : c < 3) (F : Fr h₀ env.locals s.heap m₀) (N : News h₀ env.locals s.heap ((pz, listOf #[] 0) :: (l, listOf #[.int a ta, .int b tb] n) :: Y₂))
    (hl1 : 0 ≤ a) (hl2 : 0 ≤ b) (hl3 : b < 65413) (o1 : ∀ p ∈ Y₂, p.1 ≠ l) (o2 : ∀ p ∈ Y₂, p.1 ≠ pz) (o3 : @Ne Nat l pz)
    (e1 : m₀ (kS "lot") = some (.ref l)) (e2 : m₀ (kS "high") = some (.int hh th)) (e3 : m₀ (kS "callee") = some (.ref cv)) (e4 : m₀ (kS "parts") = some (.ref pz))
    (turn : ∀ (pz' : Addr) (_ : pz' = pz) (I : Addr) (i : Nat) (m : Str → Option Value) (h : Heap) (tk : Nat) (it : Obj) (a b : Int) (ta tb : Tok) (n : Nat) (vs : List Value) (pn : Nat) (ts : List T) (Y₃ : List (Addr × Obj)) (t : Tok), it.cls = .type "range_iterator" → ts.length = i → (∀ p ∈ ts, LeafOk p ∨ DotT nn p) → (∀ p ∈ Y₃, p.1 ≠ I) → (@Ne Nat l I) → (@Ne Nat pz I) → (∀ p ∈ Y₃, p.1 ≠ l) → (∀ p ∈ Y₃, p.1 ≠ pz) → GrowT Y₂ Y₃ → 0 ≤ a → 0 ≤ b → b < 65413 → TAll Y₃ vs (T.dats ts) → vs.length ≤ 2 →
      Fr h₀ env.locals h (fun y => if y = x then some (.int (0 + (i : Int)) t) else if y = kS "lot" then some (.ref l) else if y = kS "high" then some (.int hh th) else if y = kS "callee" then some (.ref cv) else if y = kS "parts" then some (.ref pz) else m y) →
      News h₀ env.locals h ((I, it) :: (l, listOf #[.int a ta, .int b tb] n) :: (pz, listOf (List.toArray vs) pn) :: Y₃) →
      wpAny (model prog w) A (execs body env) (UnrPost h₀ env.locals { s with heap := h, toks := tk } I it (DotsJ l pz cv hh th nn Y₂ (i + 1)) Q) E { s with heap := h, toks := tk })
    (fin : ∀ (m : Str → Option Value) (h : Heap) (tk : Nat) (a b : Int) (ta tb : Tok) (n : Nat) (vs : List Value) (pn : Nat) (ts : List T) (Y₃ : List (Addr × Obj)), 1 ≤ ts.length → ts.length ≤ 3 → (∀ p ∈ ts, LeafOk p ∨ DotT nn p) → (∀ p ∈ Y₃, p.1 ≠ l) → (∀ p ∈ Y₃, p.1 ≠ pz) → GrowT Y₂ Y₃ → 0 ≤ a → 0 ≤ b → b < 65413 → TAll Y₃ vs (T.dats ts) → vs.length ≤ 3 →
      Fr h₀ env.locals h (fun y => if y = kS "lot" then some (.ref l) else if y = kS "high" then some (.int hh th) else if y = kS "callee" then some (.ref cv) else if y = kS "parts" then some (.ref pz) else m y) →
      News h₀ env.locals h ((l, listOf #[.int a ta, .int b tb] n) :: (pz, listOf (List.toArray vs) pn) :: Y₃) → Q .next { s with heap := h, toks := tk }) :
    wpAny (model prog w) A (pyIter (.ref r)) (fun it s₂ => LoopAtV prog w A h₀ env x body Q E it s₂) E s := by
  have con : ∀ {h : Heap} {m : Str → Option Value}, m (kS "lot") = some (.ref l) → m (kS "high") = some (.int hh th) → m (kS "callee") = some (.ref cv) → m (kS "parts") = some (.ref pz) →
      m = (fun y => if y = kS "lot" then some (.ref l) else if y = kS "high" then some (.int hh th) else if y = kS "callee" then some (.ref cv) else if y = kS "parts" then some (.ref pz) else m y) := by
    intro h m q1 q2 q3 q4
    funext y
    by_cases h1 : y = kS "lot"
    · rw [if_pos h1, h1, q1]
    · rw [if_neg h1]
      by_cases h2 : y = kS "high"
      · rw [if_pos h2, h2, q2]
      · rw [if_neg h2]
        by_cases h3 : y = kS "callee"
        · rw [if_pos h3, h3, q3]
        · rw [if_neg h3]
          by_cases h4 : y = kS "parts"
          · rw [if_pos h4, h4, q4]
          · rw [if_neg h4]
  refine for_range_inv (n := (1 + c - 0).toNat) (DotsJ l pz cv hh th nn Y₂) hA hr (small_one (by omega) (by omega) (by omega) (by omega)) (rangeSize_nat _ _) F (news := (l, listOf #[.int a ta, .int b tb] n) :: (pz, listOf (List.toArray []) 0) :: Y₂)
    (fun p hp => N p ?_) ⟨a, b, ta, tb, n, [], 0, [], Y₂, rfl, GrowT.refl _, ⟨hl1, hl2, hl3⟩, .nil, rfl, (fun p (h : p ∈ []) => nomatch h), o1, o2, e1, e2, e3, e4⟩ ?_ ?_
  · rcases List.mem_cons.mp hp with rfl | hp
    · exact .tail _ (.head _)
    · rcases List.mem_cons.mp hp with rfl | hp
      · exact .head _
      · exact .tail _ (.tail _ hp)
  · rintro I i m news t h tk it hi hit ⟨a, b, ta, tb, n, vs, pn, ts, Y₃, rfl, g, ⟨q1, q2, q3⟩, hT, hlen, hok, p1, p2, m1, m2, m3, m4⟩ off F' N'
    have hvl : vs.length ≤ 2 := by
      have := hT.length
      rw [dats_len] at this
      omega
    rw [con (h := h) m1 m2 m3 m4] at F'
    exact turn pz rfl I i m h tk it a b ta tb n vs pn ts Y₃ t hit hlen hok (fun p hp => off p (.tail _ (.tail _ hp))) (off _ (.head _)) (off _ (.tail _ (.head _))) p1 p2 g q1 q2 q3 hT hvl F' N'
  · rintro m news h tk ⟨a, b, ta, tb, n, vs, pn, ts, Y₃, rfl, g, ⟨q1, q2, q3⟩, hT, hlen, hok, p1, p2, m1, m2, m3, m4⟩ F' N'
    rw [con (h := h) m1 m2 m3 m4] at F'
    have hvl : vs.length ≤ 3 := by
      have := hT.length
      rw [dats_len] at this
      omega
    exact fin m h tk a b ta tb n vs pn ts Y₃ (by omega) (by omega) hok p1 p2 g q1 q2 q3 hT hvl F' N'
theorem dots_end {L l pz cv I : Addr} {it : Obj} {hh : Int} {th : Tok} {nn i : Nat} {Y₂ Y₃ messy : List (Addr × Obj)} {s₁ : Shared} {h' : Heap} {tk' : Nat} {m' : Str → Option Value} {a b : Int} {ta tb : Tok} {n pn : Nat} {vs : List Value} {v : Value} {ts : List T} {t : T} {xs : Array Value}
    (F : Fr h₀ L h' m') (N : News h₀ L h' messy) (hI : (I, it) ∈ messy) (hl : (l, listOf #[.int a ta, .int b tb] n) ∈ messy) (hp : (pz, listOf xs pn) ∈ messy) (hxs : xs = (vs ++ [v]).toArray) (hY : ∀ p ∈ Y₃, p ∈ messy) (g : GrowT Y₂ Y₃)
    (hq : 0 ≤ a ∧ 0 ≤ b ∧ b < 65413) (hT : TAll Y₃ vs (T.dats ts)) (hv : TIn messy v t.dat) (hlen : ts.length = i) (hok : ∀ p ∈ ts, LeafOk p ∨ DotT nn p) (ht : LeafOk t ∨ DotT nn t) (hit : it.cls = .type "range_iterator")
    (o1 : ∀ p ∈ Y₃, p.1 ≠ l) (o2 : ∀ p ∈ Y₃, p.1 ≠ pz) (o3 : ∀ p ∈ Y₃, p.1 ≠ I) (n1 : @Ne Nat l I) (n2 : @Ne Nat pz I)
    (e1 : m' (kS "lot") = some (.ref l)) (e2 : m' (kS "high") = some (.int hh th)) (e3 : m' (kS "callee") = some (.ref cv)) (e4 : m' (kS "parts") = some (.ref pz)) :
    UnrEnd h₀ L s₁ I it (DotsJ l pz cv hh th nn Y₂ (i + 1)) { s₁ with heap := h', toks := tk' } := by
  have apart : ∀ {p : Addr × Obj} {q : Addr × Obj}, p ∈ tf messy → q ∈ messy → isTupB q.2 = false → p.1 ≠ q.1 := by
    intro p q h1 h2 hc e
    have z1 := (N p (tf_mem h1).1).1
    have z2 := (N q h2).1
    rw [e] at z1
    rw [z1] at z2
    have z3 := (tf_mem h1).2
    rw [Option.some.inj z2, hc] at z3
    cases z3
  subst hxs
  refine UnrEnd.intro F N ((l, listOf #[.int a ta, .int b tb] n) :: (pz, listOf (List.toArray (vs ++ [v])) pn) :: (tf messy ++ Y₃)) ?_ ?_
    ⟨a, b, ta, tb, n, vs ++ [v], pn, ts ++ [t], tf messy ++ Y₃, rfl, ⟨fun p h => List.mem_append.mpr (.inr (g.1 p h)), fun p h => ?_⟩, hq, TAll.snoc (TAll.mono (fun p h _ => List.mem_append.mpr (.inr h)) hT) (TIn.mono (fun p h1 h2 => List.mem_append.mpr (.inl (tf_in h1 h2))) hv),
      by rw [List.length_append, hlen]; rfl, fun p h => ?_, fun p h => ?_, fun p h => ?_, e1, e2, e3, e4⟩
  · intro p h
    simp only [List.mem_cons, List.mem_append] at h
    rcases h with rfl | rfl | rfl | h | h
    · exact hI
    · exact hl
    · exact hp
    · exact (tf_mem h).1
    · exact hY p h
  · intro p h
    simp only [List.mem_cons, List.mem_append] at h
    rcases h with rfl | rfl | h | h
    · exact n1
    · exact n2
    · exact apart h hI (isTupB_not (by rw [hit]; decide))
    · exact o3 p h
  · rcases List.mem_append.mp h with h | h
    · exact .inr (tf_mem h).2
    · exact g.2 p h
  · rcases List.mem_append.mp h with h | h
    · exact hok p h
    · rw [List.mem_singleton.mp h]; exact ht
  · rcases List.mem_append.mp h with h | h
    · exact apart h hl rfl
    · exact o1 p h
  · rcases List.mem_append.mp h with h | h
    · exact apart h hp rfl
    · exact o2 p h
end

theorem add_cat {prog : Program} {w : World} {A : Around} {E : Value → Shared → Prop} {s : Shared} {h₀ : Heap} {L a b : Addr} {m : Str → Option Value} {news : List (Addr × Obj)} {vs us : List Value} {n1 n2 : Nat} {Q : Value → Shared → Prop}
    (F : Fr h₀ L s.heap m) (N : News h₀ L s.heap news) (ma : (a, listOf (List.toArray vs) n1) ∈ news) (mb : (b, listOf (List.toArray us) n2) ∈ news) (hz : vs.length + us.length ≤ sizeLine)
    (h : ∀ D h', Fr h₀ L h' m → News h₀ L h' ((D, listOf (List.toArray (vs ++ us)) 0) :: news) → (∀ p ∈ news, p.1 < D) → Q (.ref D) { s with heap := h' }) : wpAny (model prog w) A (binaryOp .Add (.ref a) (.ref b)) Q E s := by
  refine kmk_add_lit F N (News.isList N ma) (News.isList N mb) (zs := vs ++ us) (by simp) h (by simpa using hz)
noncomputable def DotsC (w : World) (hh : Int) (nn : Nat) : Prop := ∀ (l : Nat) (a b : Int) (ta tb th : Tok) (n : Nat) (Y : List (Addr × Obj)), 0 ≤ a → 0 ≤ b → b < 65413 → (∀ q ∈ [(l, listOf #[Value.int a ta, Value.int b tb] n)], ∀ p ∈ Y, p.1 ≠ q.1) →
  Con w 228 [.ref l, .int hh th] (14 + 5 * nn) (100 + 40 * nn) [(l, listOf #[.int a ta, .int b tb] n)] Y
      (fun M' Y₁ r => ∃ a' b' ta' tb' n' t, M' = [(l, listOf #[.int a' ta', .int b' tb'] n')] ∧ 0 ≤ a' ∧ 0 ≤ b' ∧ b' < 65413 ∧ DotT (nn + 1) t ∧ TIn Y₁ r t.dat)
section
variable {w : World} {Y news ex : List (Addr × Obj)}
  {dp un : Nat} {gd : Option (List Code)} {cn : Str} {cs : Scope} {fa : Addr} {ccd : Value} {cl : List (Str × Addr)} {outer : List Env} {A₀ : Around} {base h₀ : Heap} {L : Addr} {m : Str → Option Value} {s : Shared}
  {mean : ExcName → Option Value} {mg mb : Str → Option Value} {Q E : Value → Shared → Prop}
theorem dots_use {hh : Int} {nn : Nat} (C : DotsC w hh nn) {l : Nat} {a b : Int} {ta tb th : Tok} {n : Nat} (B : Below A₀ base outer h₀) (F : Fr h₀ L s.heap m) (X : (hd.heap_39 w.params).In h₀) (N : News h₀ L s.heap news)
    (T : Top hd.view_39 (looseW hd.view_39 [Str.ofString "RowsError"]) mean mg mb h₀) (hk : cs.kind = .function) (hm : ∀ p ∈ [(l, listOf #[Value.int a ta, Value.int b tb] n)], p ∈ news) (hc : Cut [(l, listOf #[Value.int a ta, Value.int b tb] n)] Y news ex) (hy : ∀ p ∈ Y, p.1 ≠ l) (hl : 0 ≤ a ∧ 0 ≤ b ∧ b < 65413)
    (hd : dp + (14 + 5 * nn) < recursionLimit) (hu : un + (100 + 40 * nn) < cLine)
    (ret : ∀ r a' b' ta' tb' n' t Y₂ h' tk', GrowT Y Y₂ → Fr h₀ L h' m → News h₀ L h' ((l, listOf #[.int a' ta', .int b' tb'] n') :: (ex ++ Y₂)) → 0 ≤ a' ∧ 0 ≤ b' ∧ b' < 65413 → DotT (nn + 1) t → TIn Y₂ r t.dat → Q r { s with heap := h', toks := tk' }) :
    wpAny (model PySem.Challenge.rw_pq0689_01.row.prog w) (ktrTop dp un gd cn cs L fa ccd cl outer) (call (.ref 228) [.ref l, .int hh th]) Q E s := by
  refine Con.use (ex := ex) (fun ho => C l a b ta tb th n (ex ++ Y) hl.1 hl.2.1 hl.2.2 ho) ?_ hc hm (fun q hq => by rw [List.mem_singleton.mp hq]; exact hy) B F X N T hk hd hu ?_
  · rintro M' X Z r hs ⟨a', b', ta', tb', n', k, h1, h2, h3, h4, h5, h6⟩
    exact ⟨a', b', ta', tb', n', k, h1, h2, h3, h4, h5, h6.mono hs⟩
  · rintro r M' Y₂ h' tk' g F' N' ⟨a', b', ta', tb', n', k, rfl, h2, h3, h4, h5, h6⟩
    exact ret r a' b' ta' tb' n' k Y₂ h' tk' g F' N' ⟨h2, h3, h4⟩ h5 h6
end
end

section
-- Pure
mutual
noncomputable def T.dep : T → Nat
  | .sym _ => 0
  | .int _ => 0
  | .text _ => 0
  | .ex _ ps => T.deps ps + 1
noncomputable def T.deps : List T → Nat
  | [] => 0
  | t :: r => max t.dep (T.deps r)
end
theorem dep_mem : ∀ {ps : List T} {p : T}, p ∈ ps → p.dep ≤ T.deps ps
  | _ :: _, _, .head _ => by simp only [T.deps]; omega
  | _ :: ps, _, .tail _ h => by have := dep_mem h; simp only [T.deps]; omega
mutual
noncomputable def T.ok : T → Prop
  | .sym _ => True
  | .int _ => True
  | .text _ => True
  | .ex _ ps => ps.length ≤ 60 ∧ T.oks ps
noncomputable def T.oks : List T → Prop
  | [] => True
  | t :: r => t.ok ∧ T.oks r
end
theorem ok_mem : ∀ {ps : List T} {p : T}, T.oks ps → p ∈ ps → p.ok
  | _ :: _, _, h, .head _ => h.1
  | _ :: _, _, h, .tail _ q => ok_mem h.2 q
mutual
noncomputable def plainT : T → T
  | .sym x => .sym x
  | .int i => .int i
  | .text b => .text b
  | .ex h ps => if h = kS "dotcall" then .ex (kS "call") (plainTs ps) else .ex h ps
noncomputable def plainTs : List T → List T
  | [] => []
  | t :: r => plainT t :: plainTs r
end
theorem plainTs_append (xs ys : List T) : plainTs (xs ++ ys) = plainTs xs ++ plainTs ys := by
  induction xs with
  | nil => rfl
  | cons x xs ih => simp only [List.cons_append, plainTs, ih]
theorem plainTs_len (xs : List T) : (plainTs xs).length = xs.length := by
  induction xs with
  | nil => rfl
  | cons x xs ih => simp only [plainTs, List.length_cons, ih]
theorem sym_inv {Y : List (Addr × Obj)} {v : Value} {x : Str} (h : TIn Y v (T.sym x).dat) : ∃ a n t1 t2, v = .ref a ∧ (a, tupObj [.str (kS "sym") t1, .str x t2] n) ∈ Y := by
  cases h with
  | tuple m r =>
    cases r with
    | cons a r =>
      cases a
      cases r with
      | cons b r =>
        cases b
        cases r
        exact ⟨_, _, _, _, rfl, m⟩
theorem int_inv {Y : List (Addr × Obj)} {v : Value} {x : Int} (h : TIn Y v (T.int x).dat) : ∃ a n t1 t2, v = .ref a ∧ (a, tupObj [.str (kS "int") t1, .int x t2] n) ∈ Y := by
  cases h with
  | tuple m r =>
    cases r with
    | cons a r =>
      cases a
      cases r with
      | cons b r =>
        cases b
        cases r
        exact ⟨_, _, _, _, rfl, m⟩
theorem text_inv {Y : List (Addr × Obj)} {v : Value} {x : Array UInt8} (h : TIn Y v (T.text x).dat) : ∃ a n t1 t2, v = .ref a ∧ (a, tupObj [.str (kS "text") t1, .bytes x t2] n) ∈ Y := by
  cases h with
  | tuple m r =>
    cases r with
    | cons a r =>
      cases a
      cases r with
      | cons b r =>
        cases b
        cases r
        exact ⟨_, _, _, _, rfl, m⟩
theorem tup_inv {Y : List (Addr × Obj)} {v : Value} {ds : List Dat} (h : TIn Y v (.tuple ds)) : ∃ a n vs, v = .ref a ∧ (a, tupObj vs n) ∈ Y ∧ TAll Y vs ds := by
  cases h with
  | tuple m r => exact ⟨_, _, _, rfl, m, r⟩
theorem ex_inv {Y : List (Addr × Obj)} {v : Value} {h : Str} {ps : List T} (q : TIn Y v (T.ex h ps).dat) :
    ∃ a n t1 t2 b vs k, v = .ref a ∧ (a, tupObj [.str (kS "expr") t1, .str h t2, .ref b] n) ∈ Y ∧ (b, tupObj vs k) ∈ Y ∧ TAll Y vs (T.dats ps) := by
  cases q with
  | tuple m r =>
    cases r with
    | cons a r =>
      cases a
      cases r with
      | cons b r =>
        cases b
        cases r with
        | cons c r =>
          cases r
          obtain ⟨a, n, vs, rfl, h1, h2⟩ := tup_inv c
          exact ⟨_, _, _, _, _, _, _, rfl, m, h1, h2⟩
noncomputable def PlainC (w : World) (t : T) : Prop := ∀ (v : Value) (Y : List (Addr × Obj)), t.ok → TIn Y v t.dat →
  Con w 233 [v] (8 + 6 * t.dep) (60 + 40 * t.dep) [] Y (fun M' Y₁ r => M' = [] ∧ TIn Y₁ r (plainT t).dat)
section
variable {w : World} {Y news ex : List (Addr × Obj)}
  {dp un : Nat} {gd : Option (List Code)} {cn : Str} {cs : Scope} {fa : Addr} {ccd : Value} {cl : List (Str × Addr)} {outer : List Env} {A₀ : Around} {base h₀ : Heap} {L : Addr} {m : Str → Option Value} {s : Shared}
  {mean : ExcName → Option Value} {mg mb : Str → Option Value} {Q E : Value → Shared → Prop}
theorem plain_use {t : T} {v : Value} (C : PlainC w t) (ho : t.ok) (hv : TIn Y v t.dat) (B : Below A₀ base outer h₀) (F : Fr h₀ L s.heap m) (X : (hd.heap_39 w.params).In h₀) (N : News h₀ L s.heap news)
    (T : Top hd.view_39 (looseW hd.view_39 [Str.ofString "RowsError"]) mean mg mb h₀) (hk : cs.kind = .function) (hc : Cut [] Y news ex)
    (hd : dp + (8 + 6 * t.dep) < recursionLimit) (hu : un + (60 + 40 * t.dep) < cLine)
    (ret : ∀ r Y₂ h' tk', GrowT Y Y₂ → Fr h₀ L h' m → News h₀ L h' (ex ++ Y₂) → TIn Y₂ r (plainT t).dat → Q r { s with heap := h', toks := tk' }) :
    wpAny (model PySem.Challenge.rw_pq0689_01.row.prog w) (ktrTop dp un gd cn cs L fa ccd cl outer) (call (.ref 233) [v]) Q E s := by
  refine Con.use (ex := ex) (fun _ => C v (ex ++ Y) ho (TIn.mono (fun p h _ => List.mem_append.mpr (.inr h)) hv)) ?_ hc (fun _ h => nomatch h) (fun _ h => nomatch h) B F X N T hk hd hu ?_
  · rintro M' X Z r hs ⟨h1, h2⟩
    exact ⟨h1, h2.mono hs⟩
  · rintro r M' Y₂ h' tk' g F' N' ⟨rfl, h2⟩
    exact ret r Y₂ h' tk' g F' N' h2
end
theorem cmp_head {h k : Str} (hne : h ≠ k) (e : String) : cmpDs [sS e, .str h] [sS e, .str k] = some false := by
  have h1 : (h == k) = false := beq_eq_false_iff_ne.mpr hne
  have h2 : (Str.ofString e == Str.ofString e) = true := beq_self_eq_true _
  simp only [cmpDs, cmpD, h1, h2]
theorem TAll.get {Y : List (Addr × Obj)} : ∀ {vs : List Value} {ts : List T} {i : Nat} {v : Value}, TAll Y vs (T.dats ts) → vs[i]? = some v → ∃ t, ts[i]? = some t ∧ TIn Y v t.dat
  | _, [], i, v, .nil, h => by simp at h
  | _, t :: ts, 0, v, .cons a r, h => by
    simp only [List.getElem?_cons_zero, Option.some.injEq] at h
    subst h
    exact ⟨t, rfl, a⟩
  | _, t :: ts, i + 1, v, .cons a r, h => by
    simp only [List.getElem?_cons_succ] at h ⊢
    exact TAll.get r h
theorem take_snoc {α : Type} {ts : List α} {i : Nat} {t : α} (h : ts[i]? = some t) : ts.take (i + 1) = ts.take i ++ [t] := by
  rw [List.take_add_one, h]; rfl
open LCg in
theorem comp_end {h₀ h' : Heap} {L I C D ax : Addr} {m : Str → Option Value} {s₁ : Shared} {oI oC : Obj} {ys vs : List Value} {k tk' : Nat} {rest : Value → List (Addr × Obj) → Prop} {y : Value} {messy news Y₂ : List (Addr × Obj)}
    (F : Fr h₀ L h' m) (N : News h₀ L h' messy) (hI : (I, oI) ∈ messy) (hC : (C, oC) ∈ messy) (hD : (D, lst ys) ∈ messy) (hY : ∀ p ∈ Y₂, p ∈ messy) (g : GrowT news Y₂) (off : Off3 I C D news) (hoI : isTupB oI = false) (hoC : isTupB oC = false)
    (hS : SrcK ax vs k news) (r : rest y Y₂) : CompEnd h₀ L m s₁ I oI C oC D (lst ys) (SrcK ax vs k) rest y { s₁ with heap := h', toks := tk' } := by
  have o3 := off.mem
  refine CompEnd.intro F N Y₂ (fun p hp => ?_) (Off3.of fun p hp => ⟨GrowT.off g (fun p q => (o3 p q).1) N hY hI hoI p hp, GrowT.off g (fun p q => (o3 p q).2.1) N hY hC hoC p hp, GrowT.off g (fun p q => (o3 p q).2.2) N hY hD rfl p hp⟩) (g.1 _ hS) r
  simp only [List.mem_cons] at hp
  rcases hp with rfl | rfl | rfl | hp
  · exact hI
  · exact hC
  · exact hD
  · exact hY p hp
theorem plain_step {nw Y' : List (Addr × Obj)} {ys : List Value} {r : Value} {ps : List T} {i : Nat} {p : T} (g : GrowT nw Y') (hT : TAll nw ys (T.dats (plainTs (ps.take i)))) (hp : ps[i]? = some p) (hr : TIn Y' r (plainT p).dat) :
    TAll Y' (ys ++ [r]) (T.dats (plainTs (ps.take (i + 1)))) := by
  rw [take_snoc hp, plainTs_append]
  exact TAll.snoc (TAll.mono (subT_of g.1) hT) hr
theorem take_full {Y : List (Addr × Obj)} {vs : List Value} {ps : List T} (h : TAll Y vs (T.dats ps)) : ps.take vs.length = ps := by
  have := h.length
  rw [dats_len] at this
  exact List.take_of_length_le (by omega)
end

section
-- IsExDef
noncomputable def isEx (t : T) (h : Str) : Bool :=
  match t with
  | .ex k _ => k == h
  | _ => false
noncomputable def IsExC (w : World) : Prop := ∀ (t : T) (v : Value) (h : Str) (tk : Tok) (Y : List (Addr × Obj)), TIn Y v t.dat →
  Con w 68 [v, .str h tk] 5 40 [] Y (fun M' _ r => M' = [] ∧ r = .bool (isEx t h))
section
variable {w : World} {Y news ex : List (Addr × Obj)}
  {dp un : Nat} {gd : Option (List Code)} {cn : Str} {cs : Scope} {fa : Addr} {ccd : Value} {cl : List (Str × Addr)} {outer : List Env} {A₀ : Around} {base h₀ : Heap} {L : Addr} {m : Str → Option Value} {s : Shared}
  {mean : ExcName → Option Value} {mg mb : Str → Option Value} {Q E : Value → Shared → Prop}
theorem isEx_use {t : T} {v : Value} {h : Str} {tk : Tok} {b : Bool} (C : IsExC w) (hv : TIn Y v t.dat) (e : isEx t h = b) (B : Below A₀ base outer h₀) (F : Fr h₀ L s.heap m) (X : (hd.heap_39 w.params).In h₀) (N : News h₀ L s.heap news)
    (Tp : Top hd.view_39 (looseW hd.view_39 [Str.ofString "RowsError"]) mean mg mb h₀) (hk : cs.kind = .function) (hs : ∀ p ∈ Y, p ∈ news)
    (hd : dp + 5 < recursionLimit) (hu : un + 40 < cLine)
    (ret : ∀ h' tk', Fr h₀ L h' m → News h₀ L h' news → Q (.bool b) { s with heap := h', toks := tk' }) :
    wpAny (model PySem.Challenge.rw_pq0689_01.row.prog w) (ktrTop dp un gd cn cs L fa ccd cl outer) (call (.ref 68) [v, .str h tk]) Q E s := by
  refine Con.use (Y := news) (ex := []) (fun _ => C t v h tk ([] ++ news) (TIn.mono (subT_of hs) hv)) ?_ .tail (fun _ h => nomatch h) (fun _ h => nomatch h) B F X N Tp hk hd hu ?_
  · rintro M' X Z r hs ⟨h1, h2⟩
    exact ⟨h1, h2⟩
  · rintro r M' Y₂ h' tk' g F' N' ⟨rfl, rfl⟩
    rw [e]
    exact ret h' tk' F' fun p hp => N' p (g.1 p hp)
end
end

section
-- ThingsDef
noncomputable def TreeOk (n : Nat) (t : T) : Prop := LeafOk t ∨ DotT n t
noncomputable def isSymT : T → Bool
  | .sym _ => true
  | _ => false
mutual
noncomputable def thingsT : T → List T
  | .sym x => [.sym x]
  | .int _ => []
  | .text _ => []
  | .ex h ps => if h = kS "dotcall" then (match ps with | [] => [] | c :: r => (if isSymT c then [] else [c]) ++ thingsTs r) else [.ex h ps]
noncomputable def thingsTs : List T → List T
  | [] => []
  | t :: r => thingsT t ++ thingsTs r
end
theorem thingsTs_append (xs ys : List T) : thingsTs (xs ++ ys) = thingsTs xs ++ thingsTs ys := by
  induction xs with
  | nil => rfl
  | cons x xs ih => simp only [List.cons_append, thingsTs, ih, List.append_assoc]
/-- the kinds of a leaf -/
inductive LeafK : T → Prop
  | sym (x : Str) : x ≠ kS "end" → LeafK (.sym x)
  | int (i : Int) : LeafK (.int i)
  | text (b : Array UInt8) : LeafK (.text b)
  | ex (h : Str) (ps : List T) : h ≠ kS "dotcall" → h ≠ kS "..." → h ≠ kS "parameters" → (T.ex h ps).ok → (T.ex h ps).dep ≤ 3 → LeafK (.ex h ps)
theorem leaf_kind {t : T} (h : LeafOk t) : LeafK t := by
  obtain ⟨k, hk, rfl⟩ := h
  match k with
  | 0 => exact .sym _ (by decide)
  | 1 => exact .sym _ (by decide)
  | 2 => exact .sym _ (by decide)
  | 3 => exact .ex _ _ (by decide) (by decide) (by decide) ⟨by decide, trivial, trivial, trivial, trivial⟩ (by decide)
  | 4 => exact .ex _ _ (by decide) (by decide) (by decide) ⟨by decide, trivial, trivial, trivial⟩ (by decide)
  | 5 => exact .int _
  | 6 => exact .text _
  | k + 7 => omega
theorem cal_kind {t : T} (h : CalOk t) : LeafK t := by
  rcases h with ⟨x, hx, rfl⟩ | rfl
  · refine .sym _ fun e => ?_
    subst e
    exact absurd hx (by decide)
  · exact .ex _ _ (by decide) (by decide) (by decide) ⟨by decide, trivial, trivial, trivial⟩ (by decide)
theorem things_leaf {h : Str} {ps : List T} (e : h ≠ kS "dotcall") : thingsT (.ex h ps) = [.ex h ps] := by
  unfold thingsT
  rw [if_neg e]
/-- a list of trees of the ledger -/
noncomputable def LIn (M Y : List (Addr × Obj)) (r : Value) (ts : List T) : Prop := ∃ a vs n, r = .ref a ∧ M = [(a, listOf (List.toArray vs) n)] ∧ TAll Y vs (T.dats ts)
noncomputable def ThingsC (w : World) (nn : Nat) : Prop := ∀ (t : T) (v : Value) (Y : List (Addr × Obj)), TreeOk nn t → TIn Y v t.dat →
  Con w 240 [v] (8 + 6 * nn) (60 + 40 * nn) [] Y (fun M' Y₁ r => LIn M' Y₁ r (thingsT t))
section
variable {w : World} {Y news ex : List (Addr × Obj)}
  {dp un : Nat} {gd : Option (List Code)} {cn : Str} {cs : Scope} {fa : Addr} {ccd : Value} {cl : List (Str × Addr)} {outer : List Env} {A₀ : Around} {base h₀ : Heap} {L : Addr} {m : Str → Option Value} {s : Shared}
  {mean : ExcName → Option Value} {mg mb : Str → Option Value} {Q E : Value → Shared → Prop}
theorem things_use {nn : Nat} {t : T} {v : Value} (C : ThingsC w nn) (ho : TreeOk nn t) (hv : TIn Y v t.dat) (B : Below A₀ base outer h₀) (F : Fr h₀ L s.heap m) (X : (hd.heap_39 w.params).In h₀) (N : News h₀ L s.heap news)
    (Tp : Top hd.view_39 (looseW hd.view_39 [Str.ofString "RowsError"]) mean mg mb h₀) (hk : cs.kind = .function) (hc : Cut [] Y news ex)
    (hd : dp + (8 + 6 * nn) < recursionLimit) (hu : un + (60 + 40 * nn) < cLine)
    (ret : ∀ a vs k Y₂ h' tk', GrowT Y Y₂ → Fr h₀ L h' m → News h₀ L h' ((a, listOf (List.toArray vs) k) :: (ex ++ Y₂)) → TAll Y₂ vs (T.dats (thingsT t)) → vs.length = (thingsT t).length → Q (.ref a) { s with heap := h', toks := tk' }) :
    wpAny (model PySem.Challenge.rw_pq0689_01.row.prog w) (ktrTop dp un gd cn cs L fa ccd cl outer) (call (.ref 240) [v]) Q E s := by
  refine Con.use (ex := ex) (fun _ => C t v (ex ++ Y) ho (TIn.mono (fun p h _ => List.mem_append.mpr (.inr h)) hv)) ?_ hc (fun _ h => nomatch h) (fun _ h => nomatch h) B F X N Tp hk hd hu ?_
  · rintro M' X Z r hs ⟨a, vs, n, h1, h2, h3⟩
    exact ⟨a, vs, n, h1, h2, h3.mono hs⟩
  · rintro r M' Y₂ h' tk' g F' N' ⟨a, vs, n, rfl, rfl, h3⟩
    exact ret a vs n Y₂ h' tk' g F' N' h3 (by have := h3.length; rwa [dats_len] at this)
end
noncomputable def cntB : Nat → Nat
  | 0 => 1
  | n + 1 => 1 + 3 * cntB n
theorem cntB_le {n : Nat} (h : n ≤ 3) : cntB n ≤ 40 := by
  match n, h with
  | 0, _ => decide
  | 1, _ => decide
  | 2, _ => decide
  | 3, _ => decide
theorem cntB_pos (n : Nat) : 1 ≤ cntB n := by
  cases n with
  | zero => exact Nat.le_refl _
  | succ n => simp only [cntB]; omega
theorem things_len_leaf {t : T} (h : LeafK t) : (thingsT t).length ≤ 1 := by
  cases h with
  | sym => exact Nat.le_refl _
  | int => exact Nat.zero_le _
  | text => exact Nat.zero_le _
  | ex h ps h1 => rw [things_leaf h1]; exact Nat.le_refl _
theorem thingsTs_len {B : Nat} : ∀ {ps : List T}, (∀ p ∈ ps, (thingsT p).length ≤ B) → (thingsTs ps).length ≤ ps.length * B
  | [], _ => Nat.zero_le _
  | p :: ps, h => by
    have h1 := h p (.head _)
    have h2 := thingsTs_len (ps := ps) fun q hq => h q (.tail _ hq)
    simp only [thingsTs, List.length_append, List.length_cons, Nat.add_mul, Nat.one_mul]
    omega
theorem things_len : ∀ (n : Nat) (t : T), TreeOk n t → (thingsT t).length ≤ cntB n
  | 0, t, h => h.elim (fun h => things_len_leaf (leaf_kind h)) fun h => h.elim
  | n + 1, t, h => by
    rcases h with h | ⟨c, ps, rfl, hc, h1, h3, hp⟩
    · exact Nat.le_trans (things_len_leaf (leaf_kind h)) (cntB_pos _)
    · have h2 := thingsTs_len (B := cntB n) fun p q => things_len n p (hp p q)
      have h4 : (if isSymT c then ([] : List T) else [c]).length ≤ 1 := by split <;> simp
      unfold thingsT
      rw [if_pos rfl]
      simp only [List.length_append, cntB]
      have : ps.length * cntB n ≤ 3 * cntB n := Nat.mul_le_mul_right _ h3
      omega
noncomputable def ThingsJ (Y : List (Addr × Obj)) (ax : Addr) (vs : List Value) (k : Nat) (f0 ps : List T) (i : Nat) (m : Str → Option Value) (nw : List (Addr × Obj)) : Prop :=
  ∃ a us n, (∀ p ∈ Y, p ∈ nw) ∧ (ax, tupObj vs k) ∈ nw ∧ (a, listOf (List.toArray us) n) ∈ nw ∧ m (kS "found") = some (.ref a) ∧ TAll nw us (T.dats (f0 ++ thingsTs (ps.take i)))
section
variable {prog : Program} {w : World} {A : Around} {E : Value → Shared → Prop} {s : Shared} {env : Env} {h₀ : Heap} {x : Str} {body : List Stmt} {Q : Flow → Shared → Prop}
theorem things_loop {Y news : List (Addr × Obj)} {ax fa : Addr} {vs us : List Value} {k n : Nat} {f0 : List T} {ps : List T} {m₀ : Str → Option Value}
    (hA : A.handled = none) (F : Fr h₀ env.locals s.heap m₀) (N : News h₀ env.locals s.heap news) (hm : (ax, tupObj vs k) ∈ news) (hf : (fa, listOf (List.toArray us) n) ∈ news) (e1 : m₀ (kS "found") = some (.ref fa)) (hY : ∀ p ∈ Y, p ∈ news)
    (hT : TAll Y vs (T.dats ps)) (hU : TAll news us (T.dats f0)) (hl1 : f0.length ≤ 1) (hl2 : ps.length ≤ 3) (hl3 : ∀ p ∈ ps, (thingsT p).length ≤ 40)
    (turn : ∀ (I : Addr) (i : Nat) (v : Value) (it : Obj) (m : Str → Option Value) (nw : List (Addr × Obj)) (h : Heap) (tk : Nat) (a : Addr) (us : List Value) (n : Nat) (p : T), ps[i]? = some p → TIn nw v p.dat → TAll nw us (T.dats (f0 ++ thingsTs (ps.take i))) → it.cls = .type "tuple_iterator" → (∀ p ∈ nw, p.1 ≠ I) →
      (∀ p ∈ Y, p ∈ nw) → (ax, tupObj vs k) ∈ nw → (a, listOf (List.toArray us) n) ∈ nw → us.length ≤ 200 → Fr h₀ env.locals h (fun y => if y = x then some v else if y = kS "found" then some (.ref a) else m y) → News h₀ env.locals h ((I, it) :: nw) →
      wpAny (model prog w) A (execs body env) (UnrPost h₀ env.locals { s with heap := h, toks := tk } I it (ThingsJ Y ax vs k f0 ps (i + 1)) Q) E { s with heap := h, toks := tk })
    (fin : ∀ (m : Str → Option Value) (nw : List (Addr × Obj)) (h : Heap) (tk : Nat) (a : Addr) (us : List Value) (n : Nat), (∀ p ∈ Y, p ∈ nw) → (a, listOf (List.toArray us) n) ∈ nw → TAll nw us (T.dats (f0 ++ thingsTs ps)) → Fr h₀ env.locals h (fun y => if y = kS "found" then some (.ref a) else m y) →
      News h₀ env.locals h nw → Q .next { s with heap := h, toks := tk }) :
    wpAny (model prog w) A (pyIter (.ref ax)) (fun it s₂ => LoopAtV prog w A h₀ env x body Q E it s₂) E s := by
  have bound : ∀ i, (thingsTs (ps.take i)).length ≤ 120 := fun i => by
    have h1 := thingsTs_len (B := 40) (ps := ps.take i) fun p hp => hl3 p (List.mem_of_mem_take hp)
    have h2 : (ps.take i).length ≤ 3 := Nat.le_trans (List.length_take_le' i ps) hl2
    have h3 : (ps.take i).length * 40 ≤ 3 * 40 := Nat.mul_le_mul_right _ h2
    omega
  refine for_tup_inv (vs := vs) (nn := k) (ThingsJ Y ax vs k f0 ps) hA F N (fun i m nw ⟨a, us, n, h1, h2, _⟩ => h2) ⟨fa, us, n, hY, hm, hf, e1, by simpa [thingsTs] using hU⟩ ?_ ?_
  · rintro I i v it m nw h tk hv hit ⟨a, us, n, j1, j2, j3, j4, j5⟩ off F' N'
    obtain ⟨p, hp, hpv⟩ := TAll.get hT hv
    refine turn I i v it m nw h tk a us n p hp (TIn.mono (subT_of j1) hpv) j5 hit off j1 j2 j3 ?_ ?_ N'
    · have := j5.length
      rw [dats_len, List.length_append] at this
      have := bound i
      omega
    · have : (fun y => if y = x then some v else if y = kS "found" then some (Value.ref a) else m y) = fun y => if y = x then some v else m y := by
        funext y
        by_cases h1 : y = x
        · rw [if_pos h1, if_pos h1]
        · rw [if_neg h1, if_neg h1]
          by_cases h2 : y = kS "found"
          · rw [if_pos h2, h2, j4]
          · rw [if_neg h2]
      rw [this]; exact F'
  · rintro m nw h tk ⟨a, us, n, j1, j2, j3, j4, j5⟩ F' N'
    rw [take_full hT] at j5
    exact fin m nw h tk a us n j1 j3 j5 (fr_con j4 F') N'
theorem things_end {L I ax : Addr} {it : Obj} {vs us us' : List Value} {k i n : Nat} {f0 ps : List T} {p : T} {Y nw Y₂ messy : List (Addr × Obj)} {s₁ : Shared} {h' : Heap} {tk' : Nat} {m' : Str → Option Value} {D : Addr}
    (F : Fr h₀ L h' m') (N : News h₀ L h' messy) (hI : (I, it) ∈ messy) (hD : (D, listOf (List.toArray (us ++ us')) n) ∈ messy) (hY : ∀ p ∈ Y₂, p ∈ messy) (g : GrowT nw Y₂) (off : ∀ p ∈ nw, p.1 ≠ I) (hit : it.cls = .type "tuple_iterator") (nD : @Ne Nat D I)
    (j1 : ∀ p ∈ Y, p ∈ nw) (j2 : (ax, tupObj vs k) ∈ nw) (e : m' (kS "found") = some (.ref D)) (hp : ps[i]? = some p) (hU : TAll nw us (T.dats (f0 ++ thingsTs (ps.take i)))) (hV : TAll Y₂ us' (T.dats (thingsT p))) :
    UnrEnd h₀ L s₁ I it (ThingsJ Y ax vs k f0 ps (i + 1)) { s₁ with heap := h', toks := tk' } := by
  refine UnrEnd.intro F N ((D, listOf (List.toArray (us ++ us')) n) :: Y₂) ?_ ?_ ⟨D, us ++ us', n, fun p h => .tail _ (g.1 p (j1 p h)), .tail _ (g.1 _ j2), .head _, e, ?_⟩
  · intro p h
    rcases List.mem_cons.mp h with rfl | h
    · exact hI
    · rcases List.mem_cons.mp h with rfl | h
      · exact hD
      · exact hY p h
  · intro p h
    rcases List.mem_cons.mp h with rfl | h
    · exact nD
    · exact GrowT.off g off N hY hI (isTupB_not (by rw [hit]; decide)) p h
  · rw [take_snoc hp, thingsTs_append, ← List.append_assoc, dats_append]
    refine TAll.append (TAll.mono (fun p h _ => .tail _ (g.1 p h)) hU) (TAll.mono (fun p h _ => .tail _ h) ?_)
    simpa [thingsTs] using hV
end
end

section
-- Hash
mutual
noncomputable def hashD (w : World) : Dat → Int
  | .int i => hashInt i
  | .str x => hashStr w x
  | .bytes b => hashW w.params (.bytes b.toList)
  | .tuple ds => reduceHash (Builtin.Tuple.tupleHashOf (hashDs w ds))
  | .none => 0
  | .bool _ => 0
  | .list _ => 0
noncomputable def hashDs (w : World) : List Dat → List Int
  | [] => []
  | d :: ds => hashD w d :: hashDs w ds
end
mutual
noncomputable def drawD : Dat → Nat
  | .tuple ds => drawDs ds + 1
  | .int _ => 1
  | .str _ => 1
  | .bytes _ => 1
  | .none => 0
  | .bool _ => 0
  | .list _ => 0
noncomputable def drawDs : List Dat → Nat
  | [] => 0
  | d :: ds => drawD d + drawDs ds
end
theorem hashDs_append (w : World) (xs ys : List Dat) : hashDs w (xs ++ ys) = hashDs w xs ++ hashDs w ys := by
  induction xs with
  | nil => rfl
  | cons x xs ih => simp only [List.cons_append, hashDs, ih]
theorem drawDs_append (xs ys : List Dat) : drawDs (xs ++ ys) = drawDs xs + drawDs ys := by
  induction xs with
  | nil => simp [drawDs]
  | cons x xs ih => simp only [List.cons_append, drawDs, ih, Nat.add_assoc]
section
variable {prog : Program} {w : World}
theorem pyHash_dat {h : Heap} {news : List (Addr × Obj)} (H : Held h news) : ∀ (k : Nat) (d : Dat), depD d ≤ k → ∀ (A : Around) (E : Value → Shared → Prop) (Q : Int → Shared → Prop) (s : Shared) (v : Value), s.heap = h → TIn news v d → A.units + k < cLine →
    Q (hashD w d) { s with toks := s.toks + drawD d } → wpAny (model prog w) A (pyHash v) Q E s := by
  intro k
  induction k with
  | zero =>
    intro d hd A E Q s v hs D hu hQ
    cases D with
    | int i t => exact (intKind prog w).pyHash (k := i) (by simp [intKind, Value.isInt]) hQ
    | str x t => exact wpAny_pyHash_str hQ
    | bytes b t => exact (bytesKind prog w).pyHash (k := b.toList) (by simp [bytesKind, isBytes]) hQ
    | tuple m r => simp [depD] at hd
  | succ k ih =>
    intro d hd A E Q s v hs D hu hQ
    cases D with
    | int i t => exact (intKind prog w).pyHash (k := i) (by simp [intKind, Value.isInt]) hQ
    | str x t => exact wpAny_pyHash_str hQ
    | bytes b t => exact (bytesKind prog w).pyHash (k := b.toList) (by simp [bytesKind, isBytes]) hQ
    | @tuple a vs n ds m r =>
      have ho : s.heap.get? a = some (tupObj vs n) := hs ▸ H _ m
      have hT : s.TypeIs (.ref a) "tuple" := ⟨_, ho, rfl⟩
      unfold pyHash
      first | unfold pyHashByItsType | skip
      first | refine wpAny_bind (wpAny_cRoomFor_or (.inr (by omega)) ?_) | skip
      refine wpAny_bind (wpAny_specialOf hT F.slot_tuple_hash.lookup ?_)
      show wpAny _ _ (if (some (Value.builtin "tuple.__hash__") == some Value.none) = true then _ else _) Q E s
      rw [if_neg (by rw [beq_builtin_none]; exact Bool.false_ne_true)]
      refine wpAny_bind (wpAny_specialOf hT F.slot_tuple_hash.lookup ?_)
      show wpAny _ _ (callSpecialIfBoundUnlessNone? (.ref a) "__hash__" _ >>= _) Q E s
      refine wpAny_bind (wpAny_callSpecialIfBoundUnlessNone?_slot hT F.slot_tuple_hash (wpAny_call_entry F.slot_tuple_hash hT F.entry_tuple_hash ?_ (F.args_tuple_hash_1 _)))
      show wpAny _ _ (Builtin.Tuple.tupleItemsOf (.ref a) >>= _) _ _ s
      refine wpAny_bind (wpAny_tupleItemsOf ho rfl ?_)
      refine wpAny_bind ?_
      rw [← Array.forIn_toList]
      refine wpAny_forIn_list _
        (fun rest (b : Array Int) s' => ∃ done left, ds = done ++ left ∧ TAll news rest left ∧ b.toList = hashDs w done ∧ s' = { s with toks := s.toks + drawDs done })
        _ ?_ ?_ _ _ ⟨[], ds, rfl, r, rfl, rfl⟩
      · rintro x rest b s' ⟨done, left, rfl, hl, hb, rfl⟩
        cases hl with
        | @cons _ _ d1 ds1 h1 hl' =>
          have hdep : depD d1 ≤ k := by
            have := depDs_mem (ds := done ++ d1 :: ds1) (d := d1) (by simp)
            simp only [depD] at hd
            omega
          refine wpAny_bind (ih d1 hdep A.in1 _ _ _ _ hs h1 (by simp only [Around.in1_units]; omega) ?_)
          first
            | exact wpAny_pure ⟨done ++ [d1], ds1, by simp, hl', by simp [hb, hashDs_append, hashDs], by simp [drawDs_append, drawDs, Nat.add_assoc]⟩
            | exact wpAny_bind (wpAny_pure (wpAny_pure ⟨done ++ [d1], ds1, by simp, hl', by simp [hb, hashDs_append, hashDs], by simp [drawDs_append, drawDs, Nat.add_assoc]⟩))
      · rintro b s' ⟨done, left, rfl, hl, hb, rfl⟩
        cases hl
        rw [List.append_nil] at hQ
        show wpAny _ _ (retInt (Builtin.Tuple.tupleHashOf b.toList)) _ _ _
        rw [hb]
        refine wpAny_ret_mkInt ?_
        show wpAny _ _ (if (decide (-(2 : Int) ^ 63 ≤ Builtin.Tuple.tupleHashOf (hashDs w done)) && decide (Builtin.Tuple.tupleHashOf (hashDs w done) < 2 ^ 63)) = true then _ else _) Q E _
        unfold hashD reduceHash at hQ
        by_cases hr : (decide (-(2 : Int) ^ 63 ≤ Builtin.Tuple.tupleHashOf (hashDs w done)) && decide (Builtin.Tuple.tupleHashOf (hashDs w done) < 2 ^ 63)) = true
        · rw [if_pos hr]
          rw [if_pos hr] at hQ
          exact wpAny_pure (by simpa [drawD, Nat.add_assoc] using hQ)
        · rw [if_neg hr]
          rw [if_neg hr] at hQ
          exact wpAny_bind (wpAny_rule (wpAny_pure (by simpa [drawD, Nat.add_assoc] using hQ)))
end
end

section
-- Kind
open Classical in
mutual
theorem cmpT : ∀ x y : T, cmpD x.dat y.dat = some (decide (x = y))
  | .sym x, .sym y => by
    simp only [T.dat, cmpD, cmpDs, beq_self_eq_true, T.sym.injEq]
    by_cases h : x = y
    · subst h; simp
    · have : (x == y) = false := beq_eq_false_iff_ne.mpr h
      simp [this, h]
  | .int x, .int y => by
    simp only [T.dat, cmpD, cmpDs, beq_self_eq_true, T.int.injEq]
    by_cases h : x = y
    · subst h; simp
    · have : (x == y) = false := beq_eq_false_iff_ne.mpr h
      simp [this, h]
  | .text x, .text y => by
    simp only [T.dat, cmpD, cmpDs, beq_self_eq_true, T.text.injEq]
    by_cases h : x = y
    · subst h; simp
    · have : ¬ x.toList = y.toList := fun e => h (Array.toList_inj.mp e)
      simp [this, h]
  | .ex h xs, .ex k ys => by
    have e := cmpTs xs ys
    simp only [T.dat, cmpD, cmpDs, beq_self_eq_true, T.ex.injEq, e]
    by_cases hk : h = k
    · subst hk
      by_cases hx : xs = ys
      · subst hx; simp
      · simp [hx]
    · have : (h == k) = false := beq_eq_false_iff_ne.mpr hk
      simp [this, hk]
  | .sym _, .int _ => by simp [T.dat, cmpD, cmpDs, show (Str.ofString "sym" == Str.ofString "int") = false from by decide]
  | .sym _, .text _ => by simp [T.dat, cmpD, cmpDs, show (Str.ofString "sym" == Str.ofString "text") = false from by decide]
  | .sym _, .ex _ _ => by simp [T.dat, cmpD, cmpDs, show (Str.ofString "sym" == Str.ofString "expr") = false from by decide]
  | .int _, .sym _ => by simp [T.dat, cmpD, cmpDs, show (Str.ofString "int" == Str.ofString "sym") = false from by decide]
  | .int _, .text _ => by simp [T.dat, cmpD, cmpDs, show (Str.ofString "int" == Str.ofString "text") = false from by decide]
  | .int _, .ex _ _ => by simp [T.dat, cmpD, cmpDs, show (Str.ofString "int" == Str.ofString "expr") = false from by decide]
  | .text _, .sym _ => by simp [T.dat, cmpD, cmpDs, show (Str.ofString "text" == Str.ofString "sym") = false from by decide]
  | .text _, .int _ => by simp [T.dat, cmpD, cmpDs, show (Str.ofString "text" == Str.ofString "int") = false from by decide]
  | .text _, .ex _ _ => by simp [T.dat, cmpD, cmpDs, show (Str.ofString "text" == Str.ofString "expr") = false from by decide]
  | .ex _ _, .sym _ => by simp [T.dat, cmpD, cmpDs, show (Str.ofString "expr" == Str.ofString "sym") = false from by decide]
  | .ex _ _, .int _ => by simp [T.dat, cmpD, cmpDs, show (Str.ofString "expr" == Str.ofString "int") = false from by decide]
  | .ex _ _, .text _ => by simp [T.dat, cmpD, cmpDs, show (Str.ofString "expr" == Str.ofString "text") = false from by decide]
theorem cmpTs : ∀ xs ys : List T, cmpDs (T.dats xs) (T.dats ys) = some (decide (xs = ys))
  | [], [] => by simp [T.dats, cmpDs]
  | [], _ :: _ => by simp [T.dats, cmpDs]
  | _ :: _, [] => by simp [T.dats, cmpDs]
  | x :: xs, y :: ys => by
    have e1 := cmpT x y
    have e2 := cmpTs xs ys
    simp only [T.dats, cmpDs, e1, List.cons.injEq]
    by_cases h : x = y
    · subst h; simp [e2]
    · simp [h]
end
theorem dat_inj {x y : T} (e : x.dat = y.dat) : x = y := by
  classical
  have h1 := cmpT x y
  rw [e] at h1
  exact of_decide_eq_true (cmpD_refl _ _ h1)
mutual
theorem depD_le : ∀ t : T, depD t.dat ≤ 2 * t.dep + 1
  | .sym _ => by simp [T.dat, depD, depDs, T.dep]
  | .int _ => by simp [T.dat, depD, depDs, T.dep]
  | .text _ => by simp [T.dat, depD, depDs, T.dep]
  | .ex _ ps => by
    have := depDs_le ps
    simp only [T.dat, depD, depDs, T.dep]
    omega
theorem depDs_le : ∀ ps : List T, depDs (T.dats ps) ≤ 2 * T.deps ps + 1
  | [] => by simp [T.dats, depDs]
  | p :: ps => by
    have := depD_le p
    have := depDs_le ps
    simp only [T.dats, depDs, T.deps]
    omega
end
section
variable {prog : Program} {w : World}
theorem quiet_dat {A : Around} {E : Value → Shared → Prop} {s : Shared} {news : List (Addr × Obj)} (H : Held s.heap news) : ∀ (k : Nat) (d : Dat), depD d ≤ k → ∀ (Q : Bool → Shared → Prop) (v : Value), TIn news v d → Q true s → wpAny (model prog w) A (eqIsQuiet k v) Q E s := by
  intro k
  induction k with
  | zero =>
    intro d hd Q v D hQ
    cases D with
    | int i t => rw [eqIsQuiet_byValue _ rfl]; exact wpAny_pure hQ
    | str x t => rw [eqIsQuiet_byValue _ rfl]; exact wpAny_pure hQ
    | bytes b t => rw [eqIsQuiet_byValue _ rfl]; exact wpAny_pure hQ
    | tuple m r => simp [depD] at hd
  | succ k ih =>
    intro d hd Q v D hQ
    cases D with
    | int i t => rw [eqIsQuiet_byValue _ rfl]; exact wpAny_pure hQ
    | str x t => rw [eqIsQuiet_byValue _ rfl]; exact wpAny_pure hQ
    | bytes b t => rw [eqIsQuiet_byValue _ rfl]; exact wpAny_pure hQ
    | @tuple a vs n ds m r =>
      have ho : s.heap.get? a = some (tupObj vs n) := H _ m
      have hT : s.TypeIs (.ref a) "tuple" := ⟨_, ho, rfl⟩
      unfold eqIsQuiet
      refine wpAny_bind (wpAny_specialOf hT F.slot_tuple_eq.lookup ?_)
      show wpAny _ _ (isInstance (.ref a) (.type "tuple") >>= _) _ _ s
      refine wpAny_bind (wpAny_isInstance hT isSubtype_tuple_tuple ?_)
      simp only [Bool.not_true, Bool.false_eq_true, if_false]
      refine wpAny_bind (wpAny_seqItems ho rfl ?_)
      refine wpAny_bind ?_
      show wpAny _ _ (forIn vs.toArray _ _) _ _ s
      rw [← Array.forIn_toList]
      refine wpAny_forIn_list _ (fun rest r s' => r.1 = none ∧ s' = s ∧ ∃ left, TAll news rest left ∧ depDs left ≤ k) _ ?_ ?_ _ _ ⟨rfl, rfl, ds, r, by simp only [depD] at hd; omega⟩
      · rintro v rest r s' ⟨hr, rfl, left, hl, hdl⟩
        cases hl with
        | @cons _ _ d1 ds1 h1 hl' =>
          simp only [depDs] at hdl
          refine wpAny_bind (ih d1 (by omega) _ _ h1 ?_)
          simp only [Bool.not_true, Bool.false_eq_true, if_false]
          exact wpAny_pure ⟨rfl, rfl, ds1, hl', by omega⟩
      · rintro ⟨r1, r2⟩ s' ⟨hr, rfl, _⟩
        simp only at hr
        subst hr
        exact wpAny_pure hQ
/-- a tree that lies in a heap -/
noncomputable def TreeAt (h : Heap) (t : T) (a : Addr) : Prop := ∃ news, Held h news ∧ TIn news (.ref a) t.dat ∧ t.dep ≤ 3
theorem Held.append {h : Heap} {X Y : List (Addr × Obj)} (a : Held h X) (b : Held h Y) : Held h (X ++ Y) := fun p hp => (List.mem_append.mp hp).elim (a p) (b p)
theorem TreeAt.inj {h : Heap} {a : Addr} {x y : T} (hx : TreeAt h x a) (hy : TreeAt h y a) : x = y := by
  obtain ⟨X, h1, t1, _⟩ := hx
  obtain ⟨Y, h2, t2, _⟩ := hy
  exact dat_inj (datIn_uniq (h1.append h2) (TIn.mono (fun p h _ => List.mem_append.mpr (.inl h)) t1) (TIn.mono (fun p h _ => List.mem_append.mpr (.inr h)) t2))
theorem TreeAt.keeps {h h' : Heap} {t : T} {a d : Addr} {o : Obj} {es ep} (x : TreeAt h t a) (ho : h.get? d = some o) (hd : o.data = .dict es ep) (hs : Heap.SameBut d h h') : TreeAt h' t a := by
  obtain ⟨X, h1, t1, t2⟩ := x
  refine ⟨tf X, fun p hp => ?_, TIn.mono (fun p h c => tf_in h c) t1, t2⟩
  obtain ⟨q1, q2⟩ := tf_mem hp
  have hne : p.1 ≠ d := by
    intro e
    have z := h1 p q1
    rw [e, ho] at z
    rw [← Option.some.inj z] at q2
    unfold isTupB at q2
    rw [hd, Bool.and_false] at q2
    cases q2
  exact (hs.2 p.1 hne).trans (h1 p q1)
noncomputable abbrev tdec : DecidableEq T := fun a b => Classical.propDecidable (a = b)
noncomputable def treeKind (prog : Program) (w : World) : @HeapKind prog w T tdec :=
  @HeapKind.mk prog w T tdec TreeAt (fun t => hashD w t.dat) (fun t => drawD t.dat) (fun A => A.units + 20 < cLine)
    (fun hx hy => hx.inj hy)
    (fun x ho hd hs => x.keeps ho hd hs)
    (fun {A E s k a Q} hu ⟨X, h1, t1, t2⟩ h => pyHash_dat h1 7 k.dat (by have := depD_le k; omega) A E Q s (.ref a) rfl t1 (by omega) h)
    (fun {A E s x y a b Q} hu hx hy h => by
      obtain ⟨X, h1, t1, t2⟩ := hx
      obtain ⟨Y, h2, t3, t4⟩ := hy
      exact eqAt_dat (h1.append h2) 7 x.dat (by have := depD_le x; omega) A y.dat _ _ _ (TIn.mono (fun p h _ => List.mem_append.mpr (.inl h)) t1) (TIn.mono (fun p h _ => List.mem_append.mpr (.inr h)) t3) (cmpT x y) (by omega) prog w E Q h)
    (fun {A E s k a Q} ⟨X, h1, t1, t2⟩ h => quiet_dat h1 8 k.dat (by have := depD_le k; omega) Q (.ref a) t1 h)
end
end

section
-- TableDef
inductive All2 {α β : Type} (R : α → β → Prop) : List α → List β → Prop
  | nil : All2 R [] []
  | cons {a : α} {b : β} {xs : List α} {ys : List β} : R a b → All2 R xs ys → All2 R (a :: xs) (b :: ys)
noncomputable abbrev rwProg : Program := PySem.Challenge.rw_pq0689_01.row.prog
noncomputable abbrev knd (w : World) : @HeapKind rwProg w T tdec := treeKind rwProg w
/-- an entry of a table of trees -/
structure EntryIn (Y : List (Addr × Obj)) (x : T × Addr × Value) (kv : T × T) : Prop where
  key : x.1 = kv.1
  keyIn : TIn Y (.ref x.2.1) kv.1.dat
  dep : kv.1.dep ≤ 3
  val : TIn Y x.2.2 kv.2.dat
noncomputable abbrev entK (w : World) (x : T × Addr × Value) : DictEntry := @entryOfKey rwProg w T tdec (knd w) x
/-- a table of trees of the ledger -/
noncomputable def TabIn (w : World) (Y : List (Addr × Obj)) (d : Addr) (tb : List (T × T)) : Prop :=
  (d == sysModules) = false ∧ ∃ xs n, (d, dictOf (xs.map (entK w)) n) ∈ Y ∧ All2 (EntryIn Y) xs tb ∧ (tb.map (·.1)).Nodup
noncomputable def lookT (tb : List (T × T)) (t : T) : Option T := (tb.find? fun x => @decide (x.1 = t) (tdec x.1 t)).map (·.2)
mutual
noncomputable def putT (tb : List (T × T)) : T → T
  | .sym x => (lookT tb (.sym x)).getD (.sym x)
  | .int i => (lookT tb (.int i)).getD (.int i)
  | .text b => (lookT tb (.text b)).getD (.text b)
  | .ex h ps => (lookT tb (.ex h ps)).getD (.ex h (putTs tb ps))
noncomputable def putTs (tb : List (T × T)) : List T → List T
  | [] => []
  | t :: r => putT tb t :: putTs tb r
end
theorem putTs_append (tb : List (T × T)) (xs ys : List T) : putTs tb (xs ++ ys) = putTs tb xs ++ putTs tb ys := by
  induction xs with
  | nil => rfl
  | cons x xs ih => simp only [List.cons_append, putTs, ih]
theorem putTs_len (tb : List (T × T)) (xs : List T) : (putTs tb xs).length = xs.length := by
  induction xs with
  | nil => rfl
  | cons x xs ih => simp only [putTs, List.length_cons, ih]
theorem EntryIn.mono {X Y : List (Addr × Obj)} (hs : SubT X Y) {x : T × Addr × Value} {kv : T × T} (e : EntryIn X x kv) : EntryIn Y x kv := ⟨e.key, e.keyIn.mono hs, e.dep, e.val.mono hs⟩
theorem forall2_mono {α β : Type} {R S : α → β → Prop} (h : ∀ a b, R a b → S a b) : ∀ {xs : List α} {ys : List β}, All2 R xs ys → All2 S xs ys
  | _, _, .nil => .nil
  | _, _, .cons a b => .cons (h _ _ a) (forall2_mono h b)
theorem TabIn.mono {w : World} {X Y : List (Addr × Obj)} {d : Addr} {tb : List (T × T)} (hs : ∀ p ∈ X, p ∈ Y) (t : TabIn w X d tb) : TabIn w Y d tb := by
  obtain ⟨lo, xs, n, h1, h2, h3⟩ := t
  exact ⟨lo, xs, n, hs _ h1, forall2_mono (fun _ _ e => e.mono (subT_of hs)) h2, h3⟩
theorem keys_eq {Y : List (Addr × Obj)} : ∀ {xs : List (T × Addr × Value)} {tb : List (T × T)}, All2 (EntryIn Y) xs tb → xs.map (·.1) = tb.map (·.1)
  | _, _, .nil => rfl
  | _, _, .cons a b => by simp only [List.map_cons, a.key, keys_eq b]
theorem look_at {Y : List (Addr × Obj)} (t : T) : ∀ {xs : List (T × Addr × Value)} {tb : List (T × T)}, All2 (EntryIn Y) xs tb →
    (@atKey T tdec xs t).isSome = (lookT tb t).isSome ∧ ∀ p, @atKey T tdec xs t = some p → ∃ v, lookT tb t = some v ∧ TIn Y p.2 v.dat
  | _, _, .nil => ⟨rfl, fun p h => by simp [atKey] at h⟩
  | _, _, @All2.cons _ _ _ x kv xs tb a b => by
    have ih := look_at t b
    have ek := a.key
    by_cases h : kv.1 = t
    · have e1 : @atKey T tdec (x :: xs) t = some x.2 := by simp [atKey, ek, h]
      have e2 : lookT (kv :: tb) t = some kv.2 := by simp [lookT, h]
      rw [e1, e2]
      refine ⟨rfl, fun p hp => ⟨_, rfl, ?_⟩⟩
      rw [← Option.some.inj hp]
      exact a.val
    · have e1 : @atKey T tdec (x :: xs) t = @atKey T tdec xs t := by simp [atKey, ek, h]
      have e2 : lookT (kv :: tb) t = lookT tb t := by simp [lookT, h]
      rw [e1, e2]
      exact ih
theorem TabIn.dict {w : World} {h₀ h : Heap} {L d : Addr} {news : List (Addr × Obj)} {tb : List (T × T)} (N : News h₀ L h news) (t : TabIn w news d tb) :
    ∃ xs, @Heap.DictOfH rwProg w T tdec (knd w) h d xs ∧ All2 (EntryIn news) xs tb := by
  obtain ⟨_, xs, n, h1, h2, h3⟩ := t
  refine ⟨xs, ⟨_, _, _, (N _ h1).1, ⟨rfl, rfl, rfl⟩, rfl, by simp, ?_, ?_⟩, h2⟩
  · clear h1 h3
    induction h2 with
    | nil => exact fun x hx => nomatch hx
    | cons a b ih =>
      intro x hx
      rcases List.mem_cons.mp hx with rfl | hx
      · exact ⟨news, heldOf N, a.key ▸ a.keyIn, a.key ▸ a.dep⟩
      · exact ih x hx
  · rw [keys_eq h2]; exact h3
section
variable {w : World} {A : Around} {E : Value → Shared → Prop} {s : Shared} {h₀ : Heap} {L : Addr} {news : List (Addr × Obj)}
theorem in_tab {a d : Addr} {t : T} {tb : List (T × T)} {Q : Value → Shared → Prop} (N : News h₀ L s.heap news) (hv : TIn news (.ref a) t.dat) (ht : t.dep ≤ 3) (tab : TabIn w news d tb) (hu : A.units + 30 < cLine)
    (h : ∀ tk, Q (.bool (lookT tb t).isSome) { s with toks := tk }) : wpAny (model rwProg w) A (compareOp .In (.ref a) (.ref d)) Q E s := by
  classical
  obtain ⟨xs, hd, hf⟩ := tab.dict N
  refine wpAny_in_heap (knd := knd w) (k := t) (xs := xs) (by show A.in1.units + 20 < cLine; simp only [Around.in1_units]; omega) ⟨news, heldOf N, hv, ht⟩ tab.1 hd ?_
  rw [(look_at t hf).1]
  exact h _
theorem item_tab {value slice : Expr} {a d : Addr} {t v : T} {tb : List (T × T)} {Q : Value → Shared → Prop} (N : News h₀ L s.heap news) (hv : TIn news (.ref a) t.dat) (ht : t.dep ≤ 3) (tab : TabIn w news d tb) (hl : lookT tb t = some v) (hu : A.units + 30 < cLine)
    (h : ∀ tk r, TIn news r v.dat → Q r { s with toks := tk })
    (hs : subscripted slice false (.ref d) (.ref a) = operate [.ref d, .ref a] (getItem (.ref d) (.ref a))) (hg : ∀ r, letTemporaryGo value (.ref d) r = pure ()) :
    wpAny (model rwProg w) A (subscriptTail value slice (.ref d) (.ref a)) Q E s := by
  classical
  obtain ⟨xs, hd, hf⟩ := tab.dict N
  obtain ⟨e1, e2⟩ := look_at t hf
  rw [hl] at e1
  cases hk : @atKey T tdec xs t with
  | none => rw [hk] at e1; cases e1
  | some p =>
    obtain ⟨v', hv', hr⟩ := e2 p hk
    rw [hl] at hv'
    cases hv'
    refine subscriptTail_builtin hd.typeIs slot_dict_getitem.lookup (wpAny_getItem_heap (knd := knd w) (k := t) (xs := xs) (by show A.in1.units + 20 < cLine; simp only [Around.in1_units]; omega) ⟨news, heldOf N, hv, ht⟩ hd hk ?_) hs hg
    exact h _ _ hr
end
noncomputable def PutC (w : World) (tb : List (T × T)) (t : T) : Prop := ∀ (v : Value) (d : Addr) (Y : List (Addr × Obj)), t.ok → t.dep ≤ 3 → TIn Y v t.dat → TabIn w Y d tb →
  Con w 245 [v, .ref d] (8 + 6 * t.dep) (80 + 40 * t.dep) [] Y (fun M' Y₁ r => M' = [] ∧ TIn Y₁ r (putT tb t).dat)
section
variable {w : World} {Y news ex : List (Addr × Obj)}
  {dp un : Nat} {gd : Option (List Code)} {cn : Str} {cs : Scope} {fa : Addr} {ccd : Value} {cl : List (Str × Addr)} {outer : List Env} {A₀ : Around} {base h₀ : Heap} {L : Addr} {m : Str → Option Value} {s : Shared}
  {mean : ExcName → Option Value} {mg mb : Str → Option Value} {Q E : Value → Shared → Prop}
theorem put_use {t : T} {v : Value} {d : Addr} {tb : List (T × T)} (C : PutC w tb t) (ho : t.ok) (hdep : t.dep ≤ 3) (hv : TIn Y v t.dat) (ht : TabIn w Y d tb) (B : Below A₀ base outer h₀) (F : Fr h₀ L s.heap m) (X : (hd.heap_39 w.params).In h₀) (N : News h₀ L s.heap news)
    (Tp : Top hd.view_39 (looseW hd.view_39 [Str.ofString "RowsError"]) mean mg mb h₀) (hk : cs.kind = .function) (hc : Cut [] Y news ex)
    (hd : dp + (8 + 6 * t.dep) < recursionLimit) (hu : un + (80 + 40 * t.dep) < cLine)
    (ret : ∀ r Y₂ h' tk', GrowT Y Y₂ → Fr h₀ L h' m → News h₀ L h' (ex ++ Y₂) → TIn Y₂ r (putT tb t).dat → Q r { s with heap := h', toks := tk' }) :
    wpAny (model PySem.Challenge.rw_pq0689_01.row.prog w) (ktrTop dp un gd cn cs L fa ccd cl outer) (call (.ref 245) [v, .ref d]) Q E s := by
  refine Con.use (ex := ex) (fun _ => C v d (ex ++ Y) ho hdep (TIn.mono (fun p h _ => List.mem_append.mpr (.inr h)) hv) (ht.mono fun p h => List.mem_append.mpr (.inr h))) ?_ hc (fun _ h => nomatch h) (fun _ h => nomatch h) B F X N Tp hk hd hu ?_
  · rintro M' X Z r hs ⟨h1, h2⟩
    exact ⟨h1, h2.mono hs⟩
  · rintro r M' Y₂ h' tk' g F' N' ⟨rfl, h2⟩
    exact ret r Y₂ h' tk' g F' N' h2
end
theorem put_step {tb : List (T × T)} {nw Y' : List (Addr × Obj)} {ys : List Value} {r : Value} {ps : List T} {i : Nat} {p : T} (g : GrowT nw Y') (hT : TAll nw ys (T.dats (putTs tb (ps.take i)))) (hp : ps[i]? = some p) (hr : TIn Y' r (putT tb p).dat) :
    TAll Y' (ys ++ [r]) (T.dats (putTs tb (ps.take (i + 1)))) := by
  rw [take_snoc hp, putTs_append]
  exact TAll.snoc (TAll.mono (subT_of g.1) hT) hr
theorem tree_ref {Y : List (Addr × Obj)} {v : Value} {t : T} (h : TIn Y v t.dat) : ∃ a, v = .ref a := by
  cases t with
  | sym x => obtain ⟨a, _, _, _, e, _⟩ := sym_inv h; exact ⟨a, e⟩
  | int x => obtain ⟨a, _, _, _, e, _⟩ := int_inv h; exact ⟨a, e⟩
  | text x => obtain ⟨a, _, _, _, e, _⟩ := text_inv h; exact ⟨a, e⟩
  | ex x ps => obtain ⟨a, _, _, _, _, _, _, e, _⟩ := ex_inv h; exact ⟨a, e⟩
theorem putT_some {tb : List (T × T)} {t v : T} (h : lookT tb t = some v) : putT tb t = v := by
  cases t <;> simp only [putT, h, Option.getD_some]
section
variable {w : World} {A : Around} {E : Value → Shared → Prop} {s : Shared} {h₀ : Heap} {L : Addr} {news : List (Addr × Obj)}
theorem in_tab_some {a d : Addr} {t v : T} {tb : List (T × T)} {Q : Value → Shared → Prop} (hl : lookT tb t = some v) (N : News h₀ L s.heap news) (hv : TIn news (.ref a) t.dat) (ht : t.dep ≤ 3) (tab : TabIn w news d tb) (hu : A.units + 30 < cLine)
    (h : ∀ tk, Q (.bool true) { s with toks := tk }) : wpAny (model rwProg w) A (compareOp .In (.ref a) (.ref d)) Q E s := by
  refine in_tab N hv ht tab hu fun tk => ?_
  rw [hl]; exact h tk
theorem in_tab_none {a d : Addr} {t : T} {tb : List (T × T)} {Q : Value → Shared → Prop} (hl : lookT tb t = none) (N : News h₀ L s.heap news) (hv : TIn news (.ref a) t.dat) (ht : t.dep ≤ 3) (tab : TabIn w news d tb) (hu : A.units + 30 < cLine)
    (h : ∀ tk, Q (.bool false) { s with toks := tk }) : wpAny (model rwProg w) A (compareOp .In (.ref a) (.ref d)) Q E s := by
  refine in_tab N hv ht tab hu fun tk => ?_
  rw [hl]; exact h tk
end
section
open LCg
variable {prog : Program} {w : World} {A : Around} {E : Value → Shared → Prop} {h₀ : Heap} {L : Addr} {m : Str → Option Value} {env : Env}
/-- a comprehension that maps trees -/
theorem csrc_map {elt : Expr} {x : Str} {scope : Scope} {cl : List (Str × Addr)} {Q : Value → Shared → Prop} {ax : Addr} {vs : List Value} {k : Nat} {news : List (Addr × Obj)} {s₁ : Shared} {ps : List T} (g : List T → List T)
    (F : Fr h₀ L s₁.heap m) (N : News h₀ L s₁.heap news) (hm : (ax, tupObj vs k) ∈ news) (hz : vs.length ≤ sizeLine) (hT : TAll news vs (T.dats ps)) (g0 : g [] = [])
    (turn : ∀ (i : Nat) (ys : List Value) (nw : List (Addr × Obj)) (v : Value) (p : T) (I : Addr) (oI : Obj) (C : Addr) (oC : Obj) (D : Addr) (m₂ : Str → Option Value) (h : Heap) (tk : Nat), ps[i]? = some p → (∀ q ∈ news, q ∈ nw) → TIn nw v p.dat → TAll nw ys (T.dats (g (ps.take i))) → SrcK ax vs k nw →
      isTupB oI = false → NsObj oC m₂ → m₂ x = some v → Fr h₀ L h m → News h₀ L h ((I, oI) :: (C, oC) :: (D, lst ys) :: nw) → Off3 I C D nw → ((@Ne Nat I C) ∧ (@Ne Nat I D) ∧ (@Ne Nat C D)) →
      wpAny (model prog w) A (eval elt (compEnvC scope cl C env)) (CompEnd h₀ L m { s₁ with heap := h, toks := tk } I oI C oC D (lst ys) (SrcK ax vs k) (fun y nw' => (∀ q ∈ news, q ∈ nw') ∧ TAll nw' (ys ++ [y]) (T.dats (g (ps.take (i + 1)))))) (CErr prog w A E Q scope cl env C D) { s₁ with heap := h, toks := tk })
    (fin : ∀ (ys : List Value) (nw : List (Addr × Obj)) (D : Addr) (h : Heap) (tk : Nat), (∀ q ∈ news, q ∈ nw) → TAll nw ys (T.dats (g ps)) → Fr h₀ L h m → News h₀ L h ((D, lst ys) :: nw) → Off1 D nw → Q (.ref D) { s₁ with heap := h, toks := tk }) :
    CSrcT prog w A h₀ L m env elt x scope cl E Q (.ref ax) s₁ := by
  refine csrc (fun i ys nw => (∀ q ∈ news, q ∈ nw) ∧ TAll nw ys (T.dats (g (ps.take i)))) F N hm hz ⟨fun _ h => h, by rw [List.take_zero, g0]; exact .nil⟩ ?_ ?_
  · rintro i ys nw v I oI C oC D m₂ h tk ⟨j1, j2⟩ hS hv hoI hoC hx F' N' off ne
    obtain ⟨p, hp, hpv⟩ := TAll.get hT hv
    exact turn i ys nw v p I oI C oC D m₂ h tk hp j1 (TIn.mono (subT_of j1) hpv) j2 hS hoI hoC hx F' N' off ne
  · rintro ys nw D h tk ⟨j1, j2⟩ F' N' o1
    rw [take_full hT] at j2
    exact fin ys nw D h tk j1 j2 F' N' o1
end
end

section
-- FuserDef
noncomputable abbrev attrE (w : World) (x : String) (t : Tok) (v : Value) : DictEntry := ⟨PyData.keyHash w.params (Str.ofString x), .str (Str.ofString x) t, v⟩
/-- the parts of a Fuser that no call changes -/
structure FuserIn (w : World) (Y : List (Addr × Obj)) (fz fd sz sd nz lz : Addr) : Prop where
  self : (fz, instObj 123 fd) ∈ Y
  attrs : ∃ t1 t2 t3, (fd, dictOf [attrE w "supply" t1 (.ref sz), attrE w "names" t2 (.ref nz), attrE w "leaves" t3 (.ref lz)] 3) ∈ Y
  sup : (sz, instObj 182 sd) ∈ Y
theorem FuserIn.mono {w : World} {X Y : List (Addr × Obj)} {fz fd sz sd nz lz : Addr} (hs : ∀ p ∈ X, p ∈ Y) (h : FuserIn w X fz fd sz sd nz lz) : FuserIn w Y fz fd sz sd nz lz :=
  ⟨hs _ h.self, let ⟨a, b, c, h2⟩ := h.attrs; ⟨a, b, c, hs _ h2⟩, hs _ h.sup⟩
noncomputable def dotN (i : Int) : Str := Str.ofString "dot." ++ Str.ofString (toString i)
noncomputable def namesN (n : Nat) : List Str := (List.range n).map fun (i : Nat) => dotN ((i : Int) + 1)
theorem namesN_succ (n : Nat) : namesN (n + 1) = namesN n ++ [dotN ((n : Int) + 1)] := by
  simp only [namesN, List.range_succ, List.map_append, List.map_cons, List.map_nil]
theorem namesN_len (n : Nat) : (namesN n).length = n := by simp [namesN]
noncomputable abbrev stM (w : World) (sd nz lz : Addr) (k : Int) (t4 tk : Tok) (xs : Array Value) (n3 : Nat) (ys : Array Value) (n4 : Nat) : List (Addr × Obj) :=
  [(sd, dictOf [attrE w "many" t4 (.int k tk)] 1), (nz, listOf xs n3), (lz, listOf ys n4)]
/-- a Fuser's state: what it has put aside -/
structure FSt (w : World) (sd nz lz : Addr) (ls : List T) (t4 tk : Tok) (xs : Array Value) (n3 : Nat) (ys : Array Value) (n4 : Nat) (Y : List (Addr × Obj)) : Prop where
  names : ∃ nvs, xs = List.toArray nvs ∧ TAll Y nvs ((namesN ls.length).map Dat.str)
  leaves : ∃ lvs, ys = List.toArray lvs ∧ TAll Y lvs (T.dats ls)
theorem FSt.mono {w : World} {sd nz lz : Addr} {ls : List T} {t4 tk : Tok} {xs : Array Value} {n3 : Nat} {ys : Array Value} {n4 : Nat} {X Y : List (Addr × Obj)} (hs : SubT X Y) (h : FSt w sd nz lz ls t4 tk xs n3 ys n4 X) : FSt w sd nz lz ls t4 tk xs n3 ys n4 Y :=
  ⟨let ⟨a, b, c⟩ := h.names; ⟨a, b, c.mono hs⟩, let ⟨a, b, c⟩ := h.leaves; ⟨a, b, c.mono hs⟩⟩
noncomputable def isLitT : T → Bool
  | .int _ => true
  | .text _ => true
  | _ => false
noncomputable def leafB (t : T) (k : Nat) : T := if isLitT t then t else .sym (dotN ((k : Int) + 1))
theorem FSt.put {w : World} {sd nz lz : Addr} {ls : List T} {t4 tk t4' tk' : Tok} {xs : Array Value} {n3 n3' : Nat} {ys : Array Value} {n4 n4' : Nat} {X Y : List (Addr × Obj)} {t : T} {v : Value} {tt : Tok} (h : FSt w sd nz lz ls t4 tk xs n3 ys n4 X) (hs : SubT X Y) (hv : TIn Y v t.dat) :
    FSt w sd nz lz (ls ++ [t]) t4' tk' (xs.push (.str (Str.ofString "dot." ++ Str.ofString (toString ((ls.length : Int) + 1))) tt)) n3' (ys.push v) n4' Y := by
  obtain ⟨a, e1, c⟩ := h.names
  obtain ⟨b, e2, d⟩ := h.leaves
  subst e1 e2
  refine ⟨⟨a ++ [.str (Str.ofString "dot." ++ Str.ofString (toString ((ls.length : Int) + 1))) tt], by simp, ?_⟩, ⟨b ++ [v], by simp, TAll.snoc (d.mono hs) hv⟩⟩
  rw [List.length_append, List.length_singleton, namesN_succ, List.map_append]
  exact TAll.append (c.mono hs) (.cons (.str _ _) .nil)
/-- what a call of a Fuser's method leaves -/
noncomputable def FPost (w : World) (sd nz lz : Addr) (ls : List T) (b : T) (M' Y₁ : List (Addr × Obj)) (r : Value) : Prop :=
  ∃ t4 tk xs n3 ys n4, M' = stM w sd nz lz (ls.length : Int) t4 tk xs n3 ys n4 ∧ FSt w sd nz lz ls t4 tk xs n3 ys n4 Y₁ ∧ TIn Y₁ r b.dat
noncomputable def LeafC (w : World) : Prop := ∀ (fz fd sz sd nz lz : Addr) (t : T) (v : Value) (ls : List T) (t4 tk : Tok) (xs : Array Value) (n3 : Nat) (ys : Array Value) (n4 : Nat) (Y : List (Addr × Obj)), LeafK t → @Ne Nat nz lz → ls.length ≤ 60 → TIn Y v t.dat → FuserIn w Y fz fd sz sd nz lz → FSt w sd nz lz ls t4 tk xs n3 ys n4 Y →
  (∀ q ∈ stM w sd nz lz (ls.length : Int) t4 tk xs n3 ys n4, ∀ p ∈ Y, p.1 ≠ q.1) →
  Con w 108 [.ref fz, v] 12 100 (stM w sd nz lz (ls.length : Int) t4 tk xs n3 ys n4) Y (FPost w sd nz lz (ls ++ thingsT t) (leafB t ls.length))
section
variable {prog : Program} {w : World} {A : Around} {E : Value → Shared → Prop} {s : Shared} {h₀ : Heap} {L a b : Addr} {news : List (Addr × Obj)} {Q : Value → Shared → Prop}
theorem eq_tree {x y : T} (N : News h₀ L s.heap news) (D1 : TIn news (.ref a) x.dat) (D2 : TIn news (.ref b) y.dat) (hd : x.dep ≤ 3) (hu : A.units + 30 < cLine) (h : ∀ c : Bool, (c = true ↔ x = y) → Q (.bool c) s) : wpAny (model prog w) A (compareOp .Eq (.ref a) (.ref b)) Q E s := by
  classical
  have hc := cmpT x y
  have hdep := depD_le x
  have key : ∀ {ds es : List Dat}, x.dat = .tuple ds → y.dat = .tuple es → wpAny (model prog w) A (compareOp .Eq (.ref a) (.ref b)) Q E s := by
    intro ds es e1 e2
    rw [e1] at D1 hdep
    rw [e2] at D2
    rw [e1, e2] at hc
    simp only [cmpD] at hc
    simp only [depD] at hdep
    exact eq_dat (heldOf N) D1 D2 hc (by omega) hu (h _ (by simp))
  cases x <;> cases y <;> exact key rfl rfl
theorem eq_tree_ne {x y : T} (N : News h₀ L s.heap news) (D1 : TIn news (.ref a) x.dat) (D2 : TIn news (.ref b) y.dat) (hd : x.dep ≤ 3) (hu : A.units + 30 < cLine) (hne : x ≠ y) (h : Q (.bool false) s) : wpAny (model prog w) A (compareOp .Eq (.ref a) (.ref b)) Q E s :=
  eq_tree N D1 D2 hd hu fun c hc => by
    cases c with
    | false => exact h
    | true => exact absurd (hc.mp rfl) hne
end
end

section
-- BodyDef
noncomputable def calB (c : T) (k : Nat) : T := if isSymT c then c else .sym (dotN ((k : Int) + 1))
noncomputable def calL (c : T) : List T := if isSymT c then [] else [c]
mutual
noncomputable def bodyT : T → Nat → T
  | .sym _, k => .sym (dotN ((k : Int) + 1))
  | .int i, _ => .int i
  | .text b, _ => .text b
  | .ex h ps, k => if h = kS "dotcall" then (match ps with | [] => .int 0 | c :: r => .ex (kS "call") (calB c k :: bodyTs r (k + (calL c).length))) else .sym (dotN ((k : Int) + 1))
noncomputable def bodyTs : List T → Nat → List T
  | [], _ => []
  | t :: r, k => bodyT t k :: bodyTs r (k + (thingsT t).length)
end
theorem bodyTs_snoc : ∀ (xs : List T) (t : T) (k : Nat), bodyTs (xs ++ [t]) k = bodyTs xs k ++ [bodyT t (k + (thingsTs xs).length)]
  | [], t, k => rfl
  | x :: xs, t, k => by
    simp only [List.cons_append, bodyTs, thingsTs, List.length_append, bodyTs_snoc xs t, Nat.add_assoc]
theorem bodyTs_len : ∀ (xs : List T) (k : Nat), (bodyTs xs k).length = xs.length
  | [], _ => rfl
  | x :: xs, k => by simp only [bodyTs, List.length_cons, bodyTs_len xs]
theorem body_leaf {t : T} (h : LeafK t) (k : Nat) : bodyT t k = leafB t k := by
  cases h with
  | sym => rfl
  | int => rfl
  | text => rfl
  | ex h ps h1 => unfold bodyT; rw [if_neg h1]; rfl
/-- the contract of a Fuser's method: t is put aside as far as it must, b t k comes back -/
noncomputable def FuseC (w : World) (f : Addr) (dd uu : Nat) (Ok : T → Prop) (L : T → List T) (b : T → Nat → T) : Prop :=
  ∀ (fz fd sz sd nz lz : Addr) (t : T) (v : Value) (ls : List T) (t4 tk : Tok) (xs : Array Value) (n3 : Nat) (ys : Array Value) (n4 : Nat) (Y : List (Addr × Obj)), Ok t → @Ne Nat nz lz → ls.length + (L t).length ≤ 60 → TIn Y v t.dat → FuserIn w Y fz fd sz sd nz lz → FSt w sd nz lz ls t4 tk xs n3 ys n4 Y →
  (∀ q ∈ stM w sd nz lz (ls.length : Int) t4 tk xs n3 ys n4, ∀ p ∈ Y, p.1 ≠ q.1) →
  Con w f [.ref fz, v] dd uu (stM w sd nz lz (ls.length : Int) t4 tk xs n3 ys n4) Y (FPost w sd nz lz (ls ++ L t) (b t ls.length))
theorem leaf_fuse {w : World} (C : LeafC w) : FuseC w 108 12 100 LeafK thingsT leafB :=
  fun fz fd sz sd nz lz t v ls t4 tk xs n3 ys n4 Y hK hne hl hv hF hst ho => C fz fd sz sd nz lz t v ls t4 tk xs n3 ys n4 Y hK hne (by omega) hv hF hst ho
section
variable {w : World} {Y news ex : List (Addr × Obj)}
  {dp un : Nat} {gd : Option (List Code)} {cn : Str} {cs : Scope} {fa : Addr} {ccd : Value} {cl : List (Str × Addr)} {outer : List Env} {A₀ : Around} {base h₀ : Heap} {L0 : Addr} {m : Str → Option Value} {s : Shared}
  {mean : ExcName → Option Value} {mg mb : Str → Option Value} {Q E : Value → Shared → Prop}
theorem fuse_use {f : Addr} {dd uu : Nat} {Ok : T → Prop} {L : T → List T} {b : T → Nat → T} {fz fd sz sd nz lz : Addr} {t : T} {v : Value} {ls : List T} {t4 tk : Tok} {xs : Array Value} {n3 : Nat} {ys : Array Value} {n4 : Nat}
    (C : FuseC w f dd uu Ok L b) (ho : Ok t) (hv : TIn Y v t.dat) (hF : FuserIn w Y fz fd sz sd nz lz) (hst : FSt w sd nz lz ls t4 tk xs n3 ys n4 Y) (hne : @Ne Nat nz lz) (hlen : ls.length + (L t).length ≤ 60)
    (hm : ∀ p ∈ stM w sd nz lz (ls.length : Int) t4 tk xs n3 ys n4, p ∈ news) (hc : Cut (stM w sd nz lz (ls.length : Int) t4 tk xs n3 ys n4) Y news ex) (y1 : ∀ p ∈ Y, p.1 ≠ sd) (y2 : ∀ p ∈ Y, p.1 ≠ nz) (y3 : ∀ p ∈ Y, p.1 ≠ lz)
    (B : Below A₀ base outer h₀) (F : Fr h₀ L0 s.heap m) (X : (hd.heap_39 w.params).In h₀) (N : News h₀ L0 s.heap news)
    (Tp : Top hd.view_39 (looseW hd.view_39 [Str.ofString "RowsError"]) mean mg mb h₀) (hk : cs.kind = .function)
    (hd : dp + dd < recursionLimit) (hu : un + uu < cLine)
    (ret : ∀ r t4 tk xs n3 ys n4 Y₂ h' tk', GrowT Y Y₂ → Fr h₀ L0 h' m → News h₀ L0 h' (stM w sd nz lz ((ls ++ L t).length : Int) t4 tk xs n3 ys n4 ++ (ex ++ Y₂)) → FSt w sd nz lz (ls ++ L t) t4 tk xs n3 ys n4 Y₂ → TIn Y₂ r (b t ls.length).dat → Q r { s with heap := h', toks := tk' }) :
    wpAny (model PySem.Challenge.rw_pq0689_01.row.prog w) (ktrTop dp un gd cn cs L0 fa ccd cl outer) (call (.ref f) [.ref fz, v]) Q E s := by
  have hy : ∀ q ∈ stM w sd nz lz (ls.length : Int) t4 tk xs n3 ys n4, ∀ p ∈ Y, p.1 ≠ q.1 := by
    intro q hq
    simp only [List.mem_cons, List.not_mem_nil, or_false] at hq
    rcases hq with rfl | rfl | rfl
    · exact y1
    · exact y2
    · exact y3
  refine Con.use (ex := ex) (fun ho' => C fz fd sz sd nz lz t v ls t4 tk xs n3 ys n4 (ex ++ Y) ho hne hlen (TIn.mono (fun p h _ => List.mem_append.mpr (.inr h)) hv) (hF.mono fun p h => List.mem_append.mpr (.inr h)) (hst.mono fun p h _ => List.mem_append.mpr (.inr h)) ho') ?_ hc hm hy B F X N Tp hk hd hu ?_
  · rintro M' X Z r hs ⟨t4, tk, xs, n3, ys, n4, h1, h2, h3⟩
    exact ⟨t4, tk, xs, n3, ys, n4, h1, h2.mono hs, h3.mono hs⟩
  · rintro r M' Y₂ h' tk' g F' N' ⟨t4, tk, xs, n3, ys, n4, rfl, h2, h3⟩
    exact ret r t4 tk xs n3 ys n4 Y₂ h' tk' g F' N' h2 h3
end
theorem thingsTs_take_le (ps : List T) {i : Nat} {p : T} (hp : ps[i]? = some p) : (thingsTs (ps.take i)).length + (thingsT p).length ≤ (thingsTs ps).length := by
  have h1 : thingsTs (ps.take (i + 1)) = thingsTs (ps.take i) ++ thingsT p := by rw [take_snoc hp, thingsTs_append]; simp [thingsTs]
  have h2 : thingsTs ps = thingsTs (ps.take (i + 1)) ++ thingsTs (ps.drop (i + 1)) := by rw [← thingsTs_append, List.take_append_drop]
  rw [h2, h1]
  simp only [List.length_append]
  omega
open LCg
/-- between the turns of a comprehension that calls a Fuser -/
noncomputable def FuseJ (w : World) (sd nz lz : Addr) (ls1 ps : List T) (Yb : List (Addr × Obj)) (i : Nat) (ys : List Value) (news : List (Addr × Obj)) : Prop :=
  ∃ t4 tk xs n3 ys4 n4 nw, news = stM w sd nz lz ((ls1 ++ thingsTs (ps.take i)).length : Int) t4 tk xs n3 ys4 n4 ++ nw ∧ FSt w sd nz lz (ls1 ++ thingsTs (ps.take i)) t4 tk xs n3 ys4 n4 nw ∧ (∀ q ∈ Yb, q ∈ nw) ∧ TAll nw ys (T.dats (bodyTs (ps.take i) ls1.length)) ∧
    (∀ q ∈ nw, q.1 ≠ sd) ∧ (∀ q ∈ nw, q.1 ≠ nz) ∧ (∀ q ∈ nw, q.1 ≠ lz)
section
variable {prog : Program} {w : World} {A : Around} {E : Value → Shared → Prop} {h₀ : Heap} {L : Addr} {m : Str → Option Value} {env : Env}
theorem csrc_fuse {sd nz lz : Addr} {ls1 : List T} {t4 tk : Tok} {xs : Array Value} {n3 : Nat} {ys4 : Array Value} {n4 : Nat} {elt : Expr} {x : Str} {scope : Scope} {cl : List (Str × Addr)} {Q : Value → Shared → Prop} {ax : Addr} {vs : List Value} {k : Nat} {news Y ex : List (Addr × Obj)} {s₁ : Shared} {ps : List T}
    (F : Fr h₀ L s₁.heap m) (N : News h₀ L s₁.heap news) (hm : ∀ p ∈ stM w sd nz lz (ls1.length : Int) t4 tk xs n3 ys4 n4, p ∈ news) (hc : Cut (stM w sd nz lz (ls1.length : Int) t4 tk xs n3 ys4 n4) Y news ex) (y1 : ∀ p ∈ Y, p.1 ≠ sd) (y2 : ∀ p ∈ Y, p.1 ≠ nz) (y3 : ∀ p ∈ Y, p.1 ≠ lz)
    (hst : FSt w sd nz lz ls1 t4 tk xs n3 ys4 n4 Y) (hax : (ax, tupObj vs k) ∈ ex ++ Y) (hz : vs.length ≤ sizeLine) (hT : TAll Y vs (T.dats ps))
    (turn : ∀ (i : Nat) (ys : List Value) (nw : List (Addr × Obj)) (v : Value) (p : T) (I : Addr) (oI : Obj) (C : Addr) (oC : Obj) (D : Addr) (m₂ : Str → Option Value) (h : Heap) (tk' : Nat) (t4 tk : Tok) (xs : Array Value) (n3 : Nat) (ys4 : Array Value) (n4 : Nat), ps[i]? = some p → (∀ q ∈ ex ++ Y, q ∈ nw) → TIn nw v p.dat → TAll nw ys (T.dats (bodyTs (ps.take i) ls1.length)) →
      FSt w sd nz lz (ls1 ++ thingsTs (ps.take i)) t4 tk xs n3 ys4 n4 nw → (∀ q ∈ nw, q.1 ≠ sd) → (∀ q ∈ nw, q.1 ≠ nz) → (∀ q ∈ nw, q.1 ≠ lz) → isTupB oI = false → NsObj oC m₂ → m₂ x = some v → Fr h₀ L h m →
      News h₀ L h ((I, oI) :: (C, oC) :: (D, lst ys) :: (stM w sd nz lz ((ls1 ++ thingsTs (ps.take i)).length : Int) t4 tk xs n3 ys4 n4 ++ nw)) → Off3 I C D (stM w sd nz lz ((ls1 ++ thingsTs (ps.take i)).length : Int) t4 tk xs n3 ys4 n4 ++ nw) → ((@Ne Nat I C) ∧ (@Ne Nat I D) ∧ (@Ne Nat C D)) →
      wpAny (model prog w) A (eval elt (compEnvC scope cl C env)) (CompEnd h₀ L m { s₁ with heap := h, toks := tk' } I oI C oC D (lst ys) (SrcK ax vs k) (fun y nw' => FuseJ w sd nz lz ls1 ps (ex ++ Y) (i + 1) (ys ++ [y]) nw')) (CErr prog w A E Q scope cl env C D) { s₁ with heap := h, toks := tk' })
    (fin : ∀ (ys : List Value) (nw : List (Addr × Obj)) (D : Addr) (h : Heap) (tk' : Nat) (t4 tk : Tok) (xs : Array Value) (n3 : Nat) (ys4 : Array Value) (n4 : Nat), (∀ q ∈ ex ++ Y, q ∈ nw) → TAll nw ys (T.dats (bodyTs ps ls1.length)) → FSt w sd nz lz (ls1 ++ thingsTs ps) t4 tk xs n3 ys4 n4 nw →
      (∀ q ∈ nw, q.1 ≠ sd) → (∀ q ∈ nw, q.1 ≠ nz) → (∀ q ∈ nw, q.1 ≠ lz) → Fr h₀ L h m → News h₀ L h ((D, lst ys) :: (stM w sd nz lz ((ls1 ++ thingsTs ps).length : Int) t4 tk xs n3 ys4 n4 ++ nw)) → Q (.ref D) { s₁ with heap := h, toks := tk' }) :
    CSrcT prog w A h₀ L m env elt x scope cl E Q (.ref ax) s₁ := by
  have sub : ∀ p ∈ stM w sd nz lz (ls1.length : Int) t4 tk xs n3 ys4 n4 ++ (ex ++ Y), p ∈ news := fun p hp => (List.mem_append.mp hp).elim (hm p) (hc.sub p)
  have apart : ∀ q ∈ stM w sd nz lz (ls1.length : Int) t4 tk xs n3 ys4 n4, (∀ p ∈ Y, p.1 ≠ q.1) → ∀ p ∈ ex ++ Y, p.1 ≠ q.1 := fun q hq hy p hp => (List.mem_append.mp hp).elim (fun h => (hc.off p h q hq).symm) (hy p)
  refine csrc (FuseJ w sd nz lz ls1 ps (ex ++ Y)) F (fun p hp => N p (sub p hp)) (List.mem_append.mpr (.inr hax)) hz
    ⟨t4, tk, xs, n3, ys4, n4, ex ++ Y, by simp [thingsTs], by simpa [thingsTs] using hst.mono fun p h _ => List.mem_append.mpr (.inr h), fun _ h => h, .nil, apart _ (.head _) y1, apart _ (.tail _ (.head _)) y2, apart _ (.tail _ (.tail _ (.head _))) y3⟩ ?_ ?_
  · rintro i ys news' v I oI C oC D m₂ h tk' ⟨t4, tk, xs, n3, ys4, n4, nw, rfl, j1, j2, j3, j4, j5, j6⟩ hS hv hoI hoC hx F' N' off ne
    obtain ⟨p, hp, hpv⟩ := TAll.get hT hv
    exact turn i ys nw v p I oI C oC D m₂ h tk' t4 tk xs n3 ys4 n4 hp j2 (TIn.mono (fun q h _ => j2 q (List.mem_append.mpr (.inr h))) hpv) j3 j1 j4 j5 j6 hoI hoC hx F' N' off ne
  · rintro ys news' D h tk' ⟨t4, tk, xs, n3, ys4, n4, nw, rfl, j1, j2, j3, j4, j5, j6⟩ F' N' o1
    rw [take_full hT] at j1 j3 N'
    exact fin ys nw D h tk' t4 tk xs n3 ys4 n4 j2 j3 j1 j4 j5 j6 F' N'
theorem fuse_end {h' : Heap} {I C D ax sd nz lz : Addr} {s₁ : Shared} {oI oC : Obj} {ys vs : List Value} {k tk' i : Nat} {y : Value} {p : T} {ls1 ps : List T} {messy nw Y₂ Yb : List (Addr × Obj)} {q4 : Int} {t4 tk : Tok} {xs : Array Value} {n3 : Nat} {ys4 : Array Value} {n4 : Nat} {t4' tk4' : Tok} {xs' : Array Value} {n3' : Nat} {ys4' : Array Value} {n4' : Nat}
    (F : Fr h₀ L h' m) (N : News h₀ L h' messy) (hI : (I, oI) ∈ messy) (hC : (C, oC) ∈ messy) (hD : (D, lst ys) ∈ messy) (hM : ∀ z ∈ stM w sd nz lz ((ls1 ++ thingsTs (ps.take i) ++ thingsT p).length : Int) t4' tk4' xs' n3' ys4' n4', z ∈ messy) (hY : ∀ p ∈ Y₂, p ∈ messy) (g : GrowT nw Y₂)
    (off : Off3 I C D (stM w sd nz lz q4 t4 tk xs n3 ys4 n4 ++ nw)) (hoI : isTupB oI = false) (hoC : isTupB oC = false) (hS : SrcK ax vs k nw)
    (hp : ps[i]? = some p) (hsub : ∀ q ∈ Yb, q ∈ nw) (hT : TAll nw ys (T.dats (bodyTs (ps.take i) ls1.length))) (hst : FSt w sd nz lz (ls1 ++ thingsTs (ps.take i) ++ thingsT p) t4' tk4' xs' n3' ys4' n4' Y₂) (hr : TIn Y₂ y (bodyT p (ls1 ++ thingsTs (ps.take i)).length).dat)
    (y1 : ∀ q ∈ nw, q.1 ≠ sd) (y2 : ∀ q ∈ nw, q.1 ≠ nz) (y3 : ∀ q ∈ nw, q.1 ≠ lz) :
    CompEnd h₀ L m s₁ I oI C oC D (lst ys) (SrcK ax vs k) (fun y nw' => FuseJ w sd nz lz ls1 ps Yb (i + 1) (ys ++ [y]) nw') y { s₁ with heap := h', toks := tk' } := by
  have o3 := off.mem
  have e : thingsTs (ps.take (i + 1)) = thingsTs (ps.take i) ++ thingsT p := by rw [take_snoc hp, thingsTs_append]; simp [thingsTs]
  have grow : ∀ {a : Addr} {o : Obj}, (∀ p ∈ nw, p.1 ≠ a) → (a, o) ∈ messy → isTupB o = false → ∀ p ∈ Y₂, p.1 ≠ a := fun hy ha ho => GrowT.off g hy N hY ha ho
  have offM : ∀ (a : Addr), (∀ p ∈ stM w sd nz lz q4 t4 tk xs n3 ys4 n4 ++ nw, p.1 ≠ a) → ∀ z ∈ stM w sd nz lz ((ls1 ++ thingsTs (ps.take i) ++ thingsT p).length : Int) t4' tk4' xs' n3' ys4' n4', z.1 ≠ a := by
    intro a ha q hq
    simp only [List.mem_cons, List.not_mem_nil, or_false] at hq
    rcases hq with rfl | rfl | rfl
    · exact (ha (sd, dictOf [attrE w "many" t4 (.int q4 tk)] 1) (by simp) :)
    · exact (ha (nz, listOf xs n3) (by simp) :)
    · exact (ha (lz, listOf ys4 n4) (by simp) :)
  have offAll : ∀ {a : Addr} {o : Obj}, (∀ p ∈ stM w sd nz lz q4 t4 tk xs n3 ys4 n4 ++ nw, p.1 ≠ a) → (a, o) ∈ messy → isTupB o = false → ∀ q ∈ stM w sd nz lz ((ls1 ++ thingsTs (ps.take i) ++ thingsT p).length : Int) t4' tk4' xs' n3' ys4' n4' ++ Y₂, q.1 ≠ a := by
    intro a o ha hm ho q hq
    rcases List.mem_append.mp hq with hq | hq
    · exact offM a ha q hq
    · exact grow (fun p hp => ha p (List.mem_append.mpr (.inr hp))) hm ho q hq
  refine CompEnd.intro F N (stM w sd nz lz ((ls1 ++ thingsTs (ps.take i) ++ thingsT p).length : Int) t4' tk4' xs' n3' ys4' n4' ++ Y₂) (fun q hq => ?_)
    (Off3.of fun q hq => ⟨offAll (fun p hp => (o3 p hp).1) hI hoI q hq, offAll (fun p hp => (o3 p hp).2.1) hC hoC q hq, offAll (fun p hp => (o3 p hp).2.2) hD rfl q hq⟩)
    (List.mem_append.mpr (.inr (g.1 _ hS))) ⟨t4', tk4', xs', n3', ys4', n4', Y₂, ?_, ?_, fun q hq => g.1 q (hsub q hq), ?_, ?_, ?_, ?_⟩
  · simp only [List.mem_cons, List.mem_append] at hq
    rcases hq with rfl | rfl | rfl | hq | hq
    · exact hI
    · exact hC
    · exact hD
    · exact hM q (by simpa using hq)
    · exact hY q hq
  · rw [e, List.append_assoc]
  · rw [e, ← List.append_assoc]; exact hst
  · rw [take_snoc hp, bodyTs_snoc, ← List.length_append]
    exact TAll.snoc (TAll.mono (subT_of g.1) hT) hr
  · exact grow y1 (hM _ (.head _)) rfl
  · exact grow y2 (hM _ (.tail _ (.head _))) rfl
  · exact grow y3 (hM _ (.tail _ (.tail _ (.head _)))) rfl
end

theorem sub3 {a b c : Addr × Obj} {Y Z : List (Addr × Obj)} (h : ∀ q ∈ [a, b, c] ++ Y, q ∈ Z) : ∀ q ∈ Y, q ∈ Z := fun q hq => h q (.tail _ (.tail _ (.tail _ hq)))
end

section
-- Plainlaw
/-- the table's pairs: the names of places, the things -/
noncomputable def tabOf (ls : List T) : List (T × T) := ((namesN ls.length).map T.sym).zip ls
theorem dotN_inj_small : ∀ i j : Fin 41, dotN ((i.val : Int) + 1) = dotN ((j.val : Int) + 1) → i = j := by decide +kernel
theorem nodup_map_of {α β : Type} {f : α → β} : ∀ {l : List α}, l.Nodup → (∀ a ∈ l, ∀ b ∈ l, f a = f b → a = b) → (l.map f).Nodup
  | [], _, _ => List.nodup_nil
  | x :: l, h, hf => by
    rw [List.nodup_cons] at h
    rw [List.map_cons, List.nodup_cons]
    refine ⟨fun hm => ?_, nodup_map_of h.2 fun a ha b hb => hf a (.tail _ ha) b (.tail _ hb)⟩
    obtain ⟨y, hy, e⟩ := List.mem_map.mp hm
    have := hf y (.tail _ hy) x (.head _) e
    subst this
    exact h.1 hy
theorem names_nodup {n : Nat} (h : n ≤ 41) : ((namesN n).map T.sym).Nodup := by
  unfold namesN
  rw [List.map_map]
  refine nodup_map_of List.nodup_range fun i hi j hj e => ?_
  have hi' := List.mem_range.mp hi
  have hj' := List.mem_range.mp hj
  simp only [Function.comp, T.sym.injEq] at e
  have := dotN_inj_small ⟨i, by omega⟩ ⟨j, by omega⟩ e
  simpa using this
theorem look_zip : ∀ {ks vs : List T} {i : Nat} {x v : T}, ks.Nodup → ks[i]? = some x → vs[i]? = some v → lookT (ks.zip vs) x = some v
  | [], _, i, x, v, _, h, _ => by simp at h
  | _ :: _, [], i, x, v, _, _, h => by simp at h
  | k :: ks, w :: vs, 0, x, v, _, h1, h2 => by
    simp only [List.getElem?_cons_zero, Option.some.injEq] at h1 h2
    subst h1 h2
    simp [lookT]
  | k :: ks, w :: vs, i + 1, x, v, hn, h1, h2 => by
    simp only [List.getElem?_cons_succ] at h1 h2
    rw [List.nodup_cons] at hn
    have hne : ¬ k = x := fun e => hn.1 (e ▸ List.mem_of_getElem? h1)
    have ih := look_zip hn.2 h1 h2
    simp only [lookT, List.zip_cons_cons, List.find?_cons, hne, decide_false] at ih ⊢
    exact ih
theorem look_none {ks vs : List T} {x : T} (h : x ∉ ks) : lookT (ks.zip vs) x = none := by
  have : ((ks.zip vs).find? fun y => @decide (y.1 = x) (tdec y.1 x)) = none := by
    rw [List.find?_eq_none]
    intro y hy he
    have e : y.1 = x := @of_decide_eq_true _ (tdec y.1 x) he
    exact h (e ▸ (List.of_mem_zip (a := y.1) (b := y.2) hy).1)
  simp [lookT, this]
theorem dotN_head (j : Int) : (dotN j).cps[0]? = some 100 := by
  unfold dotN
  show ((Str.ofString "dot.").cps ++ _)[0]? = _
  rw [Array.getElem?_append_left (by decide)]
  decide
theorem ops_not {x : Str} (h : x ∈ opsL) (j : Int) : x ≠ dotN j := by
  intro e
  have hd := dotN_head j
  rw [← e] at hd
  simp only [opsL, List.mem_cons, List.not_mem_nil, or_false] at h
  rcases h with rfl | rfl | rfl | rfl <;> exact absurd hd (by decide)
/-- a table that gives t's things back -/
structure Gives (tb : List (T × T)) (L : List T) (k : Nat) : Prop where
  found : ∀ i x, L[i]? = some x → lookT tb (.sym (dotN (((k + i : Nat) : Int) + 1))) = some x
  none : ∀ t : T, (∀ j : Int, t ≠ .sym (dotN j)) → lookT tb t = none
theorem Gives.left {tb : List (T × T)} {L M : List T} {k : Nat} (g : Gives tb (L ++ M) k) : Gives tb L k := ⟨fun i x h => g.found i x (by rw [List.getElem?_append_left (List.getElem?_eq_some_iff.mp h).1]; exact h), g.none⟩
theorem Gives.right {tb : List (T × T)} {L M : List T} {k : Nat} (g : Gives tb (L ++ M) k) : Gives tb M (k + L.length) := ⟨fun i x h => by
  have := g.found (L.length + i) x (by rw [List.getElem?_append_right (by omega)]; simpa using h)
  rw [← Nat.add_assoc] at this
  exact this, g.none⟩
theorem put_leaf {tb : List (T × T)} {t : T} {k : Nat} (h : LeafK t) (g : Gives tb (thingsT t) k) : putT tb (bodyT t k) = plainT t := by
  cases h with
  | sym x =>
    have := g.found 0 (.sym x) rfl
    exact putT_some this
  | int i =>
    have := g.none (.int i) (fun j e => T.noConfusion e)
    show putT tb (.int i) = _
    simp only [putT, this, Option.getD_none, plainT]
  | text b =>
    have := g.none (.text b) (fun j e => T.noConfusion e)
    show putT tb (.text b) = _
    simp only [putT, this, Option.getD_none, plainT]
  | ex h ps h1 =>
    have := g.found 0 (.ex h ps) (by rw [things_leaf h1]; rfl)
    have e : bodyT (.ex h ps) k = .sym (dotN ((k : Int) + 1)) := by unfold bodyT; rw [if_neg h1]
    rw [e]
    refine (putT_some this).trans ?_
    simp only [plainT, if_neg h1]
theorem put_cal {tb : List (T × T)} {c : T} {k : Nat} (h : CalOk c) (g : Gives tb (calL c) k) : putT tb (calB c k) = plainT c := by
  rcases h with ⟨x, hx, rfl⟩ | rfl
  · have := g.none (.sym x) (fun j e => ops_not hx j (T.sym.inj e))
    show putT tb (.sym x) = _
    simp only [putT, this, Option.getD_none, plainT]
  · have := g.found 0 _ rfl
    show putT tb (.sym (dotN ((k : Int) + 1))) = _
    refine (putT_some this).trans ?_
    simp only [plainT, if_neg (show ¬ Str.ofString "." = kS "dotcall" by decide)]
theorem put_bodies {tb : List (T × T)} : ∀ (ps : List T) (k : Nat), (∀ p ∈ ps, ∀ k, Gives tb (thingsT p) k → putT tb (bodyT p k) = plainT p) → Gives tb (thingsTs ps) k → putTs tb (bodyTs ps k) = plainTs ps
  | [], _, _, _ => rfl
  | p :: ps, k, h, g => by
    simp only [bodyTs, putTs, plainTs]
    rw [h p (.head _) k g.left, put_bodies ps _ (fun q hq => h q (.tail _ hq)) g.right]
theorem put_body {tb : List (T × T)} : ∀ (n : Nat) (t : T) (k : Nat), TreeOk n t → Gives tb (thingsT t) k → putT tb (bodyT t k) = plainT t
  | 0, t, k, h, g => h.elim (fun h => put_leaf (leaf_kind h) g) fun h => h.elim
  | n + 1, t, k, h, g => by
    rcases h with h | ⟨c, ps, rfl, hc, _, _, hp⟩
    · exact put_leaf (leaf_kind h) g
    · have eth : thingsT (.ex (kS "dotcall") (c :: ps)) = calL c ++ thingsTs ps := by unfold thingsT; rw [if_pos rfl]; rfl
      have eb : bodyT (.ex (kS "dotcall") (c :: ps)) k = .ex (kS "call") (calB c k :: bodyTs ps (k + (calL c).length)) := by unfold bodyT; rw [if_pos rfl]
      rw [eth] at g
      rw [show (Str.ofString "dotcall") = kS "dotcall" from rfl, eb]
      have hn := g.none (.ex (kS "call") (calB c k :: bodyTs ps (k + (calL c).length))) (fun j e => T.noConfusion e)
      simp only [putT, hn, Option.getD_none, putTs, plainT, if_true, plainTs]
      rw [put_cal hc g.left, put_bodies ps _ (fun p q k => put_body n p k (hp p q)) g.right]
theorem tab_gives {ls : List T} (h : ls.length ≤ 41) : Gives (tabOf ls) ls 0 := by
  refine ⟨fun i x hx => ?_, fun t ht => look_none fun hm => ?_⟩
  · have hi := (List.getElem?_eq_some_iff.mp hx).1
    refine look_zip (names_nodup h) (i := i) ?_ hx
    simp [namesN, hi]
  · obtain ⟨x, hx, rfl⟩ := List.mem_map.mp hm
    obtain ⟨i, _, rfl⟩ := List.mem_map.mp hx
    exact ht _ rfl
/-- the plain law -/
theorem plain_law {n : Nat} {t : T} (hn : n ≤ 3) (h : TreeOk n t) : putT (tabOf (thingsT t)) (bodyT t 0) = plainT t :=
  put_body n t 0 h (tab_gives (Nat.le_trans (things_len n t h) (Nat.le_trans (cntB_le hn) (by decide))))
end

section
-- RightDef
/-- what fused hands back: broadcast or broadcast!, the function, what is ahead, the things -/
noncomputable def ToldIn (Y : List (Addr × Obj)) (r : Value) (bc : Addr) (fn : T) (ls : List T) : Prop :=
  ∃ a n t1 t2 b k f lvs, r = .ref a ∧ (a, tupObj [.str (kS "expr") t1, .str (kS "call") t2, .ref b] n) ∈ Y ∧ (b, tupObj (.ref bc :: f :: lvs) k) ∈ Y ∧ TIn Y f fn.dat ∧ TAll Y lvs (T.dats ls)
noncomputable def fnT (n : Nat) (B : T) : T := .ex (kS "->") [.ex (kS "tuple") ((namesN n).map T.sym), B]
section
variable {prog : Program} {w : World} {A : Around} {E : Value → Shared → Prop} {s : Shared} {h₀ : Heap} {L : Addr} {m : Str → Option Value} {news : List (Addr × Obj)} {K : Frag} {Q : Value → Shared → Prop}
theorem ne_val {c c2 D D2 : Addr} {x : Str} {t1 t3 t4 t5 t7 t8 : Tok} {n1 n2 n3 n4 : Nat} (X : K.In s.heap) (N : News h₀ L s.heap news) (e1 : K.lookup c = some (tupObj [.str (Str.ofString "value") t1, .ref c2] n1)) (e2 : K.lookup c2 = some (tupObj [.str (Str.ofString "builtin") t3, .str x t4] n2))
    (h1 : (D, tupObj [.str (Str.ofString "value") t5, .ref D2] n3) ∈ news) (h2 : (D2, tupObj [.str (Str.ofString "builtin") t7, .str x t8] n4) ∈ news) (hu : A.units + 30 < cLine) (h : Q (.bool false) s) : wpAny (model prog w) A (compareOp .NotEq (.ref c) (.ref D)) Q E s := by
  have H := heldK (heldK (heldOf N) X e2) X e1
  have hc : cmpDs [sS "value", .tuple [sS "builtin", .str x]] [sS "value", .tuple [sS "builtin", .str x]] = some true := by
    simp [cmpDs, cmpD]
  exact ne_dat H (.tuple (.head _) (.cons (.str _ _) (.cons (.tuple (.tail _ (.head _)) (.cons (.str _ _) (.cons (.str _ _) .nil))) .nil))) (.tuple (.tail _ (.tail _ h1)) (.cons (.str _ _) (.cons (.tuple (.tail _ (.tail _ h2)) (.cons (.str _ _) (.cons (.str _ _) .nil))) .nil))) hc (by simp [depDs, depD]) hu h
end
mutual
theorem tin_dat {Y : List (Addr × Obj)} : ∀ {v : Value} {d : Dat}, TIn Y v d → DatIn Y v d
  | _, _, .int i t => .int i t
  | _, _, .str x t => .str x t
  | _, _, .bytes b t => .bytes b t
  | _, _, .tuple m r => .tuple m (tall_dat r)
theorem tall_dat {Y : List (Addr × Obj)} : ∀ {vs : List Value} {ds : List Dat}, TAll Y vs ds → DatAll Y vs ds
  | _, _, .nil => .nil
  | _, _, .cons a r => .cons (tin_dat a) (tall_dat r)
end
theorem oks_dats {ls : List T} (h : ∀ t ∈ ls, kqdOk 8 t.dat = true) : ∀ d ∈ T.dats ls, kqdOk 8 d = true := by
  induction ls with
  | nil => exact fun d hd => nomatch hd
  | cons t ls ih =>
    intro d hd
    rcases List.mem_cons.mp hd with rfl | hd
    · exact h t (.head _)
    · exact ih (fun q hq => h q (.tail _ hq)) d hd
/-- the kinds of a thing -/
noncomputable def thingAll : List T := [tS "a", tS "b", tS "c", leafT 3, leafT 4, tE "." [tS "m", tS "h"]]
theorem things_all_leaf {t : T} (h : LeafOk t) : ∀ x ∈ thingsT t, x ∈ thingAll := by
  obtain ⟨k, hk, rfl⟩ := h
  intro x hx
  match k with
  | 0 => rw [List.mem_singleton.mp hx]; simp [thingAll, leafT]
  | 1 => rw [List.mem_singleton.mp hx]; simp [thingAll, leafT]
  | 2 => rw [List.mem_singleton.mp hx]; simp [thingAll, leafT]
  | 3 =>
    rw [leafT, things_leaf (by decide)] at hx
    rw [List.mem_singleton.mp hx]; simp [thingAll, leafT]
  | 4 =>
    rw [leafT, things_leaf (by decide)] at hx
    rw [List.mem_singleton.mp hx]; simp [thingAll, leafT]
  | 5 => exact nomatch hx
  | 6 => exact nomatch hx
  | k + 7 => omega
theorem thingsTs_mem : ∀ {ps : List T} {x : T}, x ∈ thingsTs ps → ∃ p ∈ ps, x ∈ thingsT p
  | p :: ps, x, h => by
    simp only [thingsTs, List.mem_append] at h
    rcases h with h | h
    · exact ⟨p, .head _, h⟩
    · obtain ⟨q, hq, hx⟩ := thingsTs_mem h
      exact ⟨q, .tail _ hq, hx⟩
theorem things_all : ∀ (n : Nat) (t : T), TreeOk n t → ∀ x ∈ thingsT t, x ∈ thingAll
  | 0, t, h => h.elim things_all_leaf fun h => h.elim
  | n + 1, t, h => by
    rcases h with h | ⟨c, ps, rfl, hc, _, _, hp⟩
    · exact things_all_leaf h
    · intro x hx
      unfold thingsT at hx
      rw [if_pos rfl] at hx
      rcases List.mem_append.mp hx with hx | hx
      · rcases hc with ⟨y, hy, rfl⟩ | rfl
        · exact nomatch hx
        · rw [List.mem_singleton.mp hx]; simp [thingAll]
      · obtain ⟨p, q, hx⟩ := thingsTs_mem hx
        exact things_all n p (hp p q) x hx
theorem things_kqd {n : Nat} {t : T} (h : TreeOk n t) : ∀ x ∈ thingsT t, kqdOk 8 x.dat = true := fun x hx => by
  have hm := things_all n t h x hx
  simp only [thingAll, List.mem_cons, List.not_mem_nil, or_false] at hm
  rcases hm with rfl | rfl | rfl | rfl | rfl | rfl <;> decide +kernel
section
variable {prog : Program} {w : World} {A : Around} {E : Value → Shared → Prop} {s : Shared} {h₀ : Heap} {L : Addr} {m : Str → Option Value} {news : List (Addr × Obj)} {Q : Value → Shared → Prop}
theorem ne_list {a b : Addr} {xs ys : List Value} {ka kb : Nat} {ls : List T} (N : News h₀ L s.heap news) (ma : (a, listOf (List.toArray xs) ka) ∈ news) (mb : (b, listOf (List.toArray ys) kb) ∈ news) (Da : TAll news xs (T.dats ls)) (Db : TAll news ys (T.dats ls)) (ok : ∀ t ∈ ls, kqdOk 8 t.dat = true)
    (hu : A.units + 64 < cLine) (h : Q (.bool false) s) : wpAny (model prog w) A (compareOp .NotEq (.ref a) (.ref b)) Q E s := by
  classical
  exact kqd_ne N ma rfl rfl (tall_dat Da) (fun _ h => h) mb rfl rfl (tall_dat Db) (fun _ h => h) (oks_dats ok) (oks_dats ok) hu (by simpa using h)
theorem len_listK {t : Addr} {vs : List Value} {n : Nat} (N : News h₀ L s.heap news) (ht : (t, listOf (List.toArray vs) n) ∈ news) (hz : vs.length ≤ sizeLine) (h : ∀ tk tk', Q (.int (vs.length : Int) tk) { s with toks := tk' }) : wpAny (model prog w) A (call (.builtin "len") [.ref t]) Q E s := by
  refine len_list (News.isList N ht) ?_ ?_
  · rw [List.size_toArray]
    rw [sizeLine_eq] at hz
    omega
  · rw [List.size_toArray]; exact h _ _
theorem list_upto {value slice : PySem.Expr} {l : Addr} {vs zs : List Value} {n k : Nat} {u : Tok} (F : Fr h₀ L s.heap m) (N : News h₀ L s.heap news) (hl : (l, listOf (List.toArray vs) n) ∈ news) (e : vs.take k = zs)
    (h : ∀ D h', Fr h₀ L h' m → News h₀ L h' ((D, listOf (List.toArray zs) 0) :: news) → (∀ p ∈ news, p.1 < D) → Q (.ref D) { s with heap := h' })
    (hs : subscripted slice false (.ref l) (.ref s.heap.objs.size) = operate [.ref s.heap.objs.size, .ref l] (getItem (.ref l) (.ref s.heap.objs.size))) (ht : ∀ r, letTemporaryGo value (.ref l) r = pure ()) (hz : vs.length ≤ sizeLine) :
    wpAny (model prog w) A (subscriptTail value slice (.ref l) (.ref s.heap.objs.size)) Q E { s with heap := s.heap.push { cls := .type "slice", data := .fields #[.none, .int (k : Int) u, .none] } } := by
  refine kmk_slice_lit F N (News.isList N hl) .none (.int _ _) (zs := zs) ?_ h hs ht (by simpa using hz)
  have q := kmk_pick_nat (lo := none) (hi := some (k : Int)) (List.toArray vs) (a := 0) (b := min k vs.length) (by
    simp only [sliceBounds, Option.getD_none, show (1 : Int) > 0 by decide, if_true, if_neg (show ¬ ((k : Int) < 0) by omega), List.size_toArray]
    congr 1
    congr 1
    omega)
  rw [q]
  show (vs.drop 0).take (min k vs.length - 0) = zs
  rw [List.drop_zero, Nat.sub_zero, kmk_take_min, e]
theorem list_from {value slice : PySem.Expr} {l : Addr} {vs zs : List Value} {n k : Nat} {u : Tok} (F : Fr h₀ L s.heap m) (N : News h₀ L s.heap news) (hl : (l, listOf (List.toArray vs) n) ∈ news) (e : vs.drop k = zs)
    (h : ∀ D h', Fr h₀ L h' m → News h₀ L h' ((D, listOf (List.toArray zs) 0) :: news) → (∀ p ∈ news, p.1 < D) → Q (.ref D) { s with heap := h' })
    (hs : subscripted slice false (.ref l) (.ref s.heap.objs.size) = operate [.ref s.heap.objs.size, .ref l] (getItem (.ref l) (.ref s.heap.objs.size))) (ht : ∀ r, letTemporaryGo value (.ref l) r = pure ()) (hz : vs.length ≤ sizeLine) :
    wpAny (model prog w) A (subscriptTail value slice (.ref l) (.ref s.heap.objs.size)) Q E { s with heap := s.heap.push { cls := .type "slice", data := .fields #[.int (k : Int) u, .none, .none] } } := by
  refine kmk_slice_lit F N (News.isList N hl) (.int _ _) .none (zs := zs) ?_ h hs ht (by simpa using hz)
  have q := kmk_pick_nat (lo := some (k : Int)) (hi := none) (List.toArray vs) (a := min k vs.length) (b := vs.length) (by
    simp only [sliceBounds, Option.getD_none, show (1 : Int) > 0 by decide, if_true, if_neg (show ¬ ((k : Int) < 0) by omega), List.size_toArray]
    congr 1
    omega)
  rw [q]
  show (vs.drop (min k vs.length)).take (vs.length - min k vs.length) = zs
  rw [kmk_drop_min, List.take_of_length_le (by rw [List.length_drop]; omega), e]
end
theorem tall_split {Y : List (Addr × Obj)} : ∀ {xs ys : List T} {vs : List Value}, TAll Y vs (T.dats (xs ++ ys)) → ∃ l1 l2, vs = l1 ++ l2 ∧ TAll Y l1 (T.dats xs) ∧ TAll Y l2 (T.dats ys)
  | [], _, vs, h => ⟨[], vs, rfl, .nil, h⟩
  | x :: xs, ys, _, .cons a r => by
    obtain ⟨l1, l2, rfl, h1, h2⟩ := tall_split r
    exact ⟨_ :: l1, l2, rfl, .cons a h1, h2⟩
end

section
-- Zip
section
variable {prog : Program} {w : World} {A : Around} {E : Value → Shared → Prop} {s : Shared}
theorem wpAny_loadIfAlive {a : Addr} {Q : Option Obj → Shared → Prop} (h : Q (s.heap.get? a) s) : wpAny (model prog w) A (loadIfAlive a) Q E s := fun Γ p _ => h
theorem nextOf_tup {it t : Addr} {i : Nat} {items} {x : Value} {Q : Value → Shared → Prop} (hit : s.heap.IsTupleIter it t i)
    (ht : s.heap.IsTuple t items) (hx : items[i]? = some x)
    (hQ : ∀ h', h'.IsTupleIter it t (i + 1) → Heap.SameBut it s.heap h' → Q x { s with heap := h' }) :
    wpAny (model prog w) A (Builtin.SmallTypes.nextOf (.ref it)) Q E s := by
  obtain ⟨o, ho, hc, hd⟩ := id hit
  obtain ⟨ol, hol, _, nl, hdl⟩ := ht
  unfold Builtin.SmallTypes.nextOf
  refine wpAny_bind (wpAny_callSpecial?_slot (name := Str.ofString "__next__") hit.typeIs F.slot_tuple_iterator_next
    (wpAny_call_entry F.slot_tuple_iterator_next hit.typeIs F.entry_tuple_iterator_next ?_ (F.args_tuple_iterator_next_1 _)))
  show wpAny _ _ (field (.ref it) 0 >>= _) _ _ s
  refine wpAny_bind (wpAny_field ho hd (x := .ref t) rfl ?_)
  show wpAny _ _ (if (Value.ref t == Value.none) = true then _ else _) _ _ s
  rw [if_neg (show ¬ ((Value.ref t == Value.none) = true) from Bool.false_ne_true)]
  show wpAny _ _ (field (.ref it) 1 >>= _) _ _ s
  refine wpAny_bind (wpAny_field ho hd (x := .int i 0) rfl ?_)
  show wpAny _ _ (seqItems? (.ref t) >>= _) _ _ s
  refine wpAny_bind (wpAny_seqItems hol hdl ?_)
  simp only [Int.toNat_natCast, hx]
  refine wpAny_bind (wpAny_setField ho hd (by simp) (wpAny_pure ⟨x, rfl, wpAny_pure (hQ _ ?_ (Heap.SameBut.update ..))⟩))
  exact ⟨_, Heap.get?_update_self _ ho (Obj.isFreed_of_fields (Obj.data_mapFields hd _)), (Obj.cls_mapFields ..).trans hc, by
    rw [Obj.data_mapFields hd]; simp [rawInt]⟩
theorem nextOf_tup_end {it t : Addr} {i : Nat} {items} {Q : Value → Shared → Prop} (hh : A.handled = none)
    (hit : s.heap.IsTupleIter it t i) (ht : s.heap.IsTuple t items) (hx : items[i]? = none)
    (hE : ∀ h' e, Heap.ExtBut it s.heap h' → (∃ o, h'.get? e = some o ∧ o.cls = .type "StopIteration") → E (.ref e) { s with heap := h' }) :
    wpAny (model prog w) A (Builtin.SmallTypes.nextOf (.ref it)) Q E s := by
  obtain ⟨o, ho, hc, hd⟩ := id hit
  obtain ⟨ol, hol, _, nl, hdl⟩ := ht
  unfold Builtin.SmallTypes.nextOf
  refine wpAny_bind (wpAny_callSpecial?_slot (name := Str.ofString "__next__") hit.typeIs F.slot_tuple_iterator_next
    (wpAny_call_entry F.slot_tuple_iterator_next hit.typeIs F.entry_tuple_iterator_next ?_ (F.args_tuple_iterator_next_1 _)))
  show wpAny _ _ (field (.ref it) 0 >>= _) _ _ s
  refine wpAny_bind (wpAny_field ho hd (x := .ref t) rfl ?_)
  show wpAny _ _ (if (Value.ref t == Value.none) = true then _ else _) _ _ s
  rw [if_neg (show ¬ ((Value.ref t == Value.none) = true) from Bool.false_ne_true)]
  show wpAny _ _ (field (.ref it) 1 >>= _) _ _ s
  refine wpAny_bind (wpAny_field ho hd (x := .int i 0) rfl ?_)
  show wpAny _ _ (seqItems? (.ref t) >>= _) _ _ s
  refine wpAny_bind (wpAny_seqItems hol hdl ?_)
  simp only [Int.toNat_natCast, hx]
  refine wpAny_bind (wpAny_rule (wpAny_bind (wpAny_setField ho hd (by simp) ?_)))
  show wpAny _ _ (newExc (.type "StopIteration") [] >>= _) _ _ _
  refine wpAny_bind ?_
  simp only [newExc, newTuple]
  refine wpAny_bind (wpAny_newObj_type ?_ (by size_fits))
  refine wpAny_bind (m := firstArgMember _ _) (wpAny_of_eq (a := Value.none) (by first | rfl | (simp only [firstArgMember]; rfl)) ?_)
  refine wpAny_newObj_type ?_ (by size_fits)
  simp only [raiseNew]
  refine wpAny_bind (wpAny_handled ?_)
  first | rw [show A.in1.handled = none from hh] | rw [hh]
  refine wpAny_bind (wpAny_pure (wpAny_throw ?_))
  exact hE _ _ (((Heap.SameBut.update ..).extBut.push _).push _) ⟨_, Heap.get?_push_size _ rfl, rfl⟩
noncomputable abbrev IsZip2 (h : Heap) (z TI TO : Addr) (f0 : Value) (b : Bool) : Prop :=
  h.get? z = some { cls := .type "zip", dict := none, data := .fields #[f0, .bool b, .bool false, .ref TI, .ref TO], slots := #[] }
/-- a zip of a tuple and a list -/
structure ZipS (h : Heap) (z TI TO i1 i2 t l : Addr) (vs ys : Array Value) (k : Nat) : Prop where
  hz : ∃ f0 b, IsZip2 h z TI TO f0 b ∧ (f0 = .none ∨ ∃ a, f0 = rawInt a)
  hTI : IsPair h TI (.ref i1) (.ref i2)
  hTO : ∃ a b, IsPair h TO a b
  h1 : h.IsTupleIter i1 t k
  h2 : h.IsListIter i2 l k
  ht : h.IsTuple t vs
  hl : h.IsList l ys
theorem tup_at {h h' : Heap} {a : Addr} {xs : Array Value} (x : h.IsTuple a xs) (hk : ∀ o, h.get? a = some o → h'.get? a = some o) : h'.IsTuple a xs := let ⟨o, ho, r⟩ := x; ⟨o, hk o ho, r⟩
theorem tit_at {h h' : Heap} {a t : Addr} {i : Nat} (x : h.IsTupleIter a t i) (hk : ∀ o, h.get? a = some o → h'.get? a = some o) : h'.IsTupleIter a t i := let ⟨o, ho, r⟩ := x; ⟨o, hk o ho, r⟩
/-- the second half of a draw: once the owned tuple is out of hand -/
theorem zipS_item {z TI TO i1 i2 t l : Addr} {k : Nat} {vs ys : Array Value} {x y : Value} {Q : Value → Shared → Prop} (D : ZipApart z TI TO i1 i2 t l)
    (S : ZipS s.heap z TI TO i1 i2 t l vs ys k) (hx : vs[k]? = some x) (hy : ys[k]? = some y)
    (hQ : ∀ h', ZipS h' z TI TO i1 i2 t l vs ys (k + 1) → IsPair h' s.heap.objs.size x y → h'.objs.size = s.heap.objs.size + 1 →
      (∀ c o, c ≠ z → c ≠ TO → c ≠ i1 → c ≠ i2 → s.heap.get? c = some o → h'.get? c = some o) → Q (.ref s.heap.objs.size) { s with heap := h' }) :
    wpAny (model prog w) A (Builtin.«zip.__next__» ⟨[.ref z], []⟩) (fun fin s' => ∃ v, fin = .done (.ret v) ∧ Q v s') E s := by
  obtain ⟨⟨f0, fb, hz, hf⟩, hTI, ⟨a, b, hTO⟩, h1, h2, hl1, hl2⟩ := S
  show wpAny _ _ (field (.ref z) 2 >>= _) _ _ _
  refine wpAny_bind (wpAny_field hz rfl (x := .bool false) rfl ?_)
  show wpAny _ _ (field (.ref z) 3 >>= _) _ _ _
  refine wpAny_bind (wpAny_field hz rfl (x := .ref TI) rfl ?_)
  refine wpAny_bind (wpAny_seqItems hTI rfl ?_)
  show wpAny _ _ (Builtin.SmallTypes.ownedTupleIsFree (.ref z) >>= _) _ _ _
  refine wpAny_bind ?_
  have free : ∀ {R : Bool → Shared → Prop}, R true s → (∀ h', (∃ b, IsZip2 h' z TI TO f0 b) → Heap.SameBut z s.heap h' → R false { s with heap := h' }) → wpAny (model prog w) A (Builtin.SmallTypes.ownedTupleIsFree (.ref z)) R E s := by
    intro R r1 r2
    unfold Builtin.SmallTypes.ownedTupleIsFree
    refine wpAny_bind (wpAny_field hz rfl (x := f0) rfl ?_)
    rcases hf with rfl | ⟨n, rfl⟩
    · exact wpAny_pure r1
    · show wpAny _ _ (loadIfAlive _ >>= _) _ _ _
      refine wpAny_bind (wpAny_loadIfAlive ?_)
      split
      · exact wpAny_pure r1
      · refine wpAny_bind (wpAny_field hz rfl (x := .bool fb) rfl ?_)
        split
        · refine wpAny_bind (wpAny_setField_rec hz (by simp) fun h₁ hz₁ hs₁ => ?_)
          exact wpAny_pure (r2 h₁ ⟨_, hz₁⟩ hs₁)
        · exact wpAny_pure (r2 _ ⟨_, hz⟩ (Heap.SameBut.refl _ _))
  refine free ?_ ?_
  · simp only [if_true]
    refine wpAny_bind (wpAny_rule ?_)
    refine wpAny_bind (wpAny_field hz rfl (x := .ref TO) rfl ?_)
    refine wpAny_bind (wpAny_setField_rec hz (by simp) fun h₁ hz₁ hs₁ => ?_)
    replace hz₁ : IsZip2 h₁ z TI TO .ellipsis fb := hz₁
    refine wpAny_bind ?_
    simp only [List.zipIdx_cons, List.zipIdx_nil, List.forIn_cons, List.forIn_nil]
    refine wpAny_bind (wpAny_bind (wpAny_onRaise ?_))
    show wpAny _ _ (Builtin.SmallTypes.nextOf (.ref i1) >>= _) _ _ _
    refine wpAny_bind (nextOf_tup (h1.extBut hs₁.extBut D.i1z) (hl1.extBut hs₁.extBut D.l1z) hx fun h₂ h1₂ hs₂ => wpAny_pure ?_)
    have hTO₂ : IsPair h₂ TO a b := hs₂.extBut _ _ D.TOi1 (hs₁.extBut _ _ D.TOz hTO)
    refine wpAny_bind (wpAny_seqItems hTO₂ rfl ?_)
    refine wpAny_bind (wpAny_updateSeq_pair hTO₂ fun h₃ hTO₃ hs₃ => ?_)
    replace hTO₃ : IsPair h₃ TO x b := hTO₃
    refine wpAny_bind (wpAny_letGo (wpAny_pure ?_))
    refine wpAny_bind (wpAny_bind (wpAny_onRaise ?_))
    show wpAny _ _ (Builtin.SmallTypes.nextOf (.ref i2) >>= _) _ _ _
    refine wpAny_bind (wpAny_nextOf_list_item (((h2.extBut hs₁.extBut D.i2z).extBut hs₂.extBut D.i12.symm).extBut hs₃.extBut D.TOi2.symm)
      (((hl2.extBut hs₁.extBut D.l2z).extBut hs₂.extBut D.l2i1).extBut hs₃.extBut D.l2TO) hy fun h₄ h2₄ hs₄ => wpAny_pure ?_)
    have hTO₄ : IsPair h₄ TO x b := hs₄.extBut _ _ D.TOi2 hTO₃
    refine wpAny_bind (wpAny_seqItems hTO₄ rfl ?_)
    refine wpAny_bind (wpAny_updateSeq_pair hTO₄ fun h₅ hTO₅ hs₅ => ?_)
    replace hTO₅ : IsPair h₅ TO x y := hTO₅
    refine wpAny_bind (wpAny_letGo (wpAny_pure (wpAny_pure ?_)))
    refine wpAny_bind (wpAny_seqItems hTO₅ rfl ?_)
    refine wpAny_bind (wpAny_newTuple ?_)
    have hsz : h₅.objs.size = s.heap.objs.size := by rw [hs₅.1, hs₄.1, hs₃.1, hs₂.1, hs₁.1]
    have hz₅ : IsZip2 h₅ z TI TO .ellipsis fb := hs₅.extBut _ _ D.TOz.symm (hs₄.extBut _ _ D.i2z.symm (hs₃.extBut _ _ D.TOz.symm (hs₂.extBut _ _ D.i1z.symm hz₁)))
    have hk₅ : ∀ c o, c ≠ z → c ≠ TO → c ≠ i1 → c ≠ i2 → s.heap.get? c = some o → h₅.get? c = some o := fun c o c1 c2 c3 c4 e =>
      hs₅.extBut _ _ c2 (hs₄.extBut _ _ c4 (hs₃.extBut _ _ c2 (hs₂.extBut _ _ c3 (hs₁.extBut _ _ c1 e))))
    have h1₅ : h₅.IsTupleIter i1 t (k + 1) := ((h1₂.extBut hs₃.extBut D.TOi1.symm).extBut hs₄.extBut D.i12).extBut hs₅.extBut D.TOi1.symm
    have h2₅ : h₅.IsListIter i2 l (k + 1) := h2₄.extBut hs₅.extBut D.TOi2.symm
    have hzlt : z < h₅.objs.size := Heap.lt_size hz₅
    show wpAny _ _ (Builtin.SmallTypes.ownedTupleHandOut (.ref z) (.ref h₅.objs.size) >>= _) _ _ _
    refine wpAny_bind ?_
    unfold Builtin.SmallTypes.ownedTupleHandOut
    have hz₆ : IsZip2 (h₅.push { cls := .type "tuple", data := .seq #[x, y] }) z TI TO .ellipsis fb := Heap.get?_push_of_some _ hz₅
    refine wpAny_bind (wpAny_setField_rec hz₆ (by simp) fun h₇ hz₇ hs₇ => ?_)
    replace hz₇ : IsZip2 h₇ z TI TO (rawInt h₅.objs.size) fb := hz₇
    refine wpAny_setField_rec hz₇ (by simp) fun h₈ hz₈ hs₈ => ?_
    replace hz₈ : IsZip2 h₈ z TI TO (rawInt h₅.objs.size) false := hz₈
    have up : ∀ c o, c ≠ z → h₅.get? c = some o → h₈.get? c = some o := fun c o c1 e => hs₈.extBut _ _ c1 (hs₇.extBut _ _ c1 (Heap.get?_push_of_some _ e))
    have hT₈ : IsPair h₈ h₅.objs.size x y := hs₈.extBut _ _ (Nat.ne_of_gt hzlt) (hs₇.extBut _ _ (Nat.ne_of_gt hzlt) (Heap.get?_push_size _ rfl))
    have hz8 : h₈.objs.size = h₅.objs.size + 1 := by rw [hs₈.1, hs₇.1, Heap.size_push]
    rw [hsz] at hz₈ hT₈ hz8
    refine wpAny_pure ⟨_, rfl, ?_⟩
    show Q (.ref h₅.objs.size) _
    rw [hsz]
    have kp : ∀ c o, c ≠ z → c ≠ TO → c ≠ i1 → c ≠ i2 → s.heap.get? c = some o → h₈.get? c = some o := fun c o c1 c2 c3 c4 e => up c o c1 (hk₅ c o c1 c2 c3 c4 e)
    exact hQ h₈ ⟨⟨_, _, hz₈, .inr ⟨_, rfl⟩⟩, kp _ _ D.TIz D.TITO D.TIi1 D.TIi2 hTI, ⟨_, _, up _ _ D.TOz hTO₅⟩, tit_at h1₅ (fun o e => up _ o D.i1z e), h2₅.at (fun o e => up _ o D.i2z e),
      tup_at hl1 (fun o e => kp _ o D.l1z D.l1TO D.l1i1 D.l1i2 e), hl2.at (fun o e => kp _ o D.l2z D.l2TO D.l2i1 D.l2i2 e)⟩ hT₈ hz8 kp
  · rintro h₁ ⟨fb', hz₁⟩ hs₁
    simp only [Bool.false_eq_true, if_false]
    refine wpAny_bind ?_
    simp only [List.forIn_toArray, List.forIn_cons, List.forIn_nil]
    refine wpAny_bind (wpAny_bind (wpAny_holding ?_))
    show wpAny _ _ (Builtin.SmallTypes.nextOf (.ref i1) >>= _) _ _ _
    refine wpAny_bind (nextOf_tup (h1.extBut hs₁.extBut D.i1z) (hl1.extBut hs₁.extBut D.l1z) hx fun h₂ h1₂ hs₂ => wpAny_pure ?_)
    refine wpAny_pure ?_
    refine wpAny_bind (wpAny_bind (wpAny_holding ?_))
    show wpAny _ _ (Builtin.SmallTypes.nextOf (.ref i2) >>= _) _ _ _
    refine wpAny_bind (wpAny_nextOf_list_item ((h2.extBut hs₁.extBut D.i2z).extBut hs₂.extBut D.i12.symm)
      ((hl2.extBut hs₁.extBut D.l2z).extBut hs₂.extBut D.l2i1) hy fun h₄ h2₄ hs₄ => wpAny_pure ?_)
    refine wpAny_pure (wpAny_pure ?_)
    have hsz : h₄.objs.size = s.heap.objs.size := by rw [hs₄.1, hs₂.1, hs₁.1]
    have k₄ : ∀ c o, c ≠ z → c ≠ i1 → c ≠ i2 → s.heap.get? c = some o → h₄.get? c = some o := fun c o c1 c3 c4 e =>
      hs₄.extBut _ _ c4 (hs₂.extBut _ _ c3 (hs₁.extBut _ _ c1 e))
    show wpAny _ _ (newTuple [x, y] >>= _) _ _ _
    refine wpAny_bind (wpAny_newTuple ?_)
    refine wpAny_pure ⟨_, rfl, ?_⟩
    show Q (.ref h₄.objs.size) _
    rw [hsz]
    have kp : ∀ c o, c ≠ z → c ≠ TO → c ≠ i1 → c ≠ i2 → s.heap.get? c = some o → (h₄.push { cls := .type "tuple", data := .seq #[x, y] }).get? c = some o := fun c o c1 c2 c3 c4 e => Heap.get?_push_of_some _ (k₄ c o c1 c3 c4 e)
    have hT := Heap.get?_push_size (h := h₄) (o := { cls := .type "tuple", data := .seq #[x, y] }) (by rfl)
    rw [hsz] at hT
    exact hQ _ ⟨⟨_, _, Heap.get?_push_of_some _ (hs₄.extBut _ _ D.i2z.symm (hs₂.extBut _ _ D.i1z.symm hz₁)), hf⟩, kp _ _ D.TIz D.TITO D.TIi1 D.TIi2 hTI, ⟨_, _, Heap.get?_push_of_some _ (k₄ _ _ D.TOz D.TOi1 D.TOi2 hTO)⟩,
      tit_at (h1₂.extBut hs₄.extBut D.i12) (fun o e => Heap.get?_push_of_some _ e), h2₄.at (fun o e => Heap.get?_push_of_some _ e),
      tup_at hl1 (fun o e => kp _ o D.l1z D.l1TO D.l1i1 D.l1i2 e), hl2.at (fun o e => kp _ o D.l2z D.l2TO D.l2i1 D.l2i2 e)⟩ hT (by rw [Heap.size_push, hsz]) kp
end
end

section
-- ZipKeys
theorem zip_getattr_none : typeLookup (.type "zip") "__getattr__" = pure none := by rw [typeLookup_type, builtinLookup_eq_fast]; kernel_rfl
theorem zip_keys_none : typeLookup (.type "zip") (Str.ofString "keys") = pure none := by rw [typeLookup_type, builtinLookup_eq_fast]; kernel_rfl
theorem entry_zip_getattribute : entryFor table "zip.__getattribute__" = some Builtin.«object.__getattribute__» :=
  entryFor_alias (id' := "object.__getattribute__") (by kernel_rfl) (by decide +kernel) (by decide +kernel) (by kernel_rfl)
theorem keys_plain : (["__module__", "__name__", "__qualname__", "__doc__", "__annotations__"] : List Str).contains (Str.ofString "keys") = false := by decide +kernel
theorem meets_zip_miss (a : Addr) (xs : Array Value) (sl : Array (Option Value)) (name : Str) (u : Tok) (hmiss : typeLookup (.type "zip") name = pure none) (hname : (["__module__", "__name__", "__qualname__", "__doc__", "__annotations__"] : List Str).contains name = false) (hsz : name.length + 100 ≤ sizeLine) :
    Meets (Builtin.«object.__getattribute__» ⟨[.ref a, .str name u], []⟩) (fun A R s => s.heap.get? a = some { cls := .type "zip", dict := none, data := .fields xs, slots := sl } ∧ raisesAttr (.ref a) name A R s) :=
  Meets.of_wp fun prog w A R s hs => by
    obtain ⟨hp, g, d, tk, os⟩ := s
    obtain ⟨hx, hs⟩ := hs
    have hT : (⟨hp, g, d, tk, os⟩ : Shared).TypeIs (.ref a) "zip" := ⟨_, hx, rfl⟩
    unfold Builtin.«object.__getattribute__»
    repeat (any_goals (first | assumption | wp_step))
    simp only [hname, Bool.false_eq_true, if_false]
    repeat (any_goals (first | assumption | wp_step))
    exact wpAny_raiseAttrError hs.1 hs.2 (attrMsg_fits (by decide +kernel) hsz)
set_option maxRecDepth 8000 in
theorem zip_no_attr {prog : Program} {w : World} {A : Around} {E : Value → Shared → Prop} {s : Shared} {a : Addr} {xs : Array Value} {sl : Array (Option Value)} {Q : Option Value → Shared → Prop} {name : Str}
    (hmiss : typeLookup (.type "zip") name = pure none) (hname : (["__module__", "__name__", "__qualname__", "__doc__", "__annotations__"] : List Str).contains name = false) (hsz : name.length + 100 ≤ sizeLine)
    (hx : s.heap.get? a = some { cls := .type "zip", dict := none, data := .fields xs, slots := sl }) (hA : A.handled = none)
    (h : ∀ h' tk, (∀ b ob, s.heap.get? b = some ob → h'.get? b = some ob) → Q none { s with heap := h', toks := tk }) :
    wpAny (model prog w) A (getAttr? (.ref a) name) Q E s := by
  obtain ⟨hp, g, d, tk, os⟩ := s
  have hT : ∀ tk', (⟨hp, g, d, tk', os⟩ : Shared).TypeIs (.ref a) "zip" := fun _ => ⟨_, hx, rfl⟩
  have f1 := sub_AttributeError
  have f3 := F.slot_zip_getattribute.lookup
  have f4 := F.slot_zip_getattribute.bind (.ref a)
  have f5 := zip_getattr_none
  unfold getAttr? getAttrBy? getAttrBy
  repeat (any_goals (first | assumption | exact hT _ | ((with_reducible show wpAny _ _ (call (Value.builtin "zip.__getattribute__") _ _) _ _ _); refine call_meets F.slot_zip_getattribute (hT _) entry_zip_getattribute (F.args_zip_getattribute_2 _ _) (meets_zip_miss a xs sl name _ hmiss hname hsz) ⟨hx, hA, fun h' tk' e hx' => ?_⟩) | wp_step))
  obtain ⟨t', u', he⟩ := hx'.there
  show wpAny _ _ (getattributeRaised _ _ _ _ _ _ _) _ _ _
  unfold getattributeRaised
  repeat (any_goals (first | assumption | wp_step))
  exact h _ _ hx'.keeps
theorem zip_no_keys {prog : Program} {w : World} {A : Around} {E : Value → Shared → Prop} {s : Shared} {a : Addr} {xs : Array Value} {sl : Array (Option Value)} {Q : Option Value → Shared → Prop}
    (hx : s.heap.get? a = some { cls := .type "zip", dict := none, data := .fields xs, slots := sl }) (hA : A.handled = none)
    (h : ∀ h' tk, (∀ b ob, s.heap.get? b = some ob → h'.get? b = some ob) → Q none { s with heap := h', toks := tk }) :
    wpAny (model prog w) A (getAttr? (.ref a) "keys") Q E s := zip_no_attr zip_keys_none keys_plain (by decide +kernel) hx hA h
end

section
-- ZipDict
section
variable {prog : Program} {w : World} {A : Around} {E : Value → Shared → Prop} {s : Shared}
theorem zipS_end {z TI TO i1 i2 t l : Addr} {k : Nat} {vs ys : Array Value} {Q : Fin → Shared → Prop} (hh : A.handled = none) (D : ZipApart z TI TO i1 i2 t l)
    (S : ZipS s.heap z TI TO i1 i2 t l vs ys k) (hx : vs[k]? = none)
    (hE : ∀ h' e, (∀ c o, c ≠ z → c ≠ TO → c ≠ i1 → c ≠ i2 → s.heap.get? c = some o → h'.get? c = some o) → (∃ o, h'.get? e = some o ∧ o.cls = .type "StopIteration") → E (.ref e) { s with heap := h' }) :
    wpAny (model prog w) A (Builtin.«zip.__next__» ⟨[.ref z], []⟩) Q E s := by
  obtain ⟨⟨f0, fb, hz, hf⟩, hTI, ⟨a, b, hTO⟩, h1, h2, hl1, hl2⟩ := S
  show wpAny _ _ (field (.ref z) 2 >>= _) _ _ _
  refine wpAny_bind (wpAny_field hz rfl (x := .bool false) rfl ?_)
  show wpAny _ _ (field (.ref z) 3 >>= _) _ _ _
  refine wpAny_bind (wpAny_field hz rfl (x := .ref TI) rfl ?_)
  refine wpAny_bind (wpAny_seqItems hTI rfl ?_)
  show wpAny _ _ (Builtin.SmallTypes.ownedTupleIsFree (.ref z) >>= _) _ _ _
  refine wpAny_bind ?_
  have free : ∀ {R : Bool → Shared → Prop}, R true s → (∀ h', (∃ b, IsZip2 h' z TI TO f0 b) → Heap.SameBut z s.heap h' → R false { s with heap := h' }) → wpAny (model prog w) A (Builtin.SmallTypes.ownedTupleIsFree (.ref z)) R E s := by
    intro R r1 r2
    unfold Builtin.SmallTypes.ownedTupleIsFree
    refine wpAny_bind (wpAny_field hz rfl (x := f0) rfl ?_)
    rcases hf with rfl | ⟨n, rfl⟩
    · exact wpAny_pure r1
    · show wpAny _ _ (loadIfAlive _ >>= _) _ _ _
      refine wpAny_bind (wpAny_loadIfAlive ?_)
      split
      · exact wpAny_pure r1
      · refine wpAny_bind (wpAny_field hz rfl (x := .bool fb) rfl ?_)
        split
        · refine wpAny_bind (wpAny_setField_rec hz (by simp) fun h₁ hz₁ hs₁ => ?_)
          exact wpAny_pure (r2 h₁ ⟨_, hz₁⟩ hs₁)
        · exact wpAny_pure (r2 _ ⟨_, hz⟩ (Heap.SameBut.refl _ _))
  refine free ?_ ?_
  · simp only [if_true]
    refine wpAny_bind (wpAny_rule ?_)
    refine wpAny_bind (wpAny_field hz rfl (x := .ref TO) rfl ?_)
    refine wpAny_bind (wpAny_setField_rec hz (by simp) fun h₁ hz₁ hs₁ => ?_)
    replace hz₁ : IsZip2 h₁ z TI TO .ellipsis fb := hz₁
    refine wpAny_bind ?_
    simp only [List.zipIdx_cons, List.zipIdx_nil, List.forIn_cons, List.forIn_nil]
    refine wpAny_bind (wpAny_bind (wpAny_onRaise ?_))
    show wpAny _ _ (Builtin.SmallTypes.nextOf (.ref i1) >>= _) _ _ _
    refine wpAny_bind (nextOf_tup_end hh (h1.extBut hs₁.extBut D.i1z) (hl1.extBut hs₁.extBut D.l1z) hx fun h₂ e hs₂ he => ?_)
    obtain ⟨oe, hoe, hce⟩ := he
    have hz₂ : IsZip2 h₂ z TI TO .ellipsis fb := hs₂ _ _ D.i1z.symm hz₁
    have hez : e ≠ z := fun x => by subst x; rw [hz₂] at hoe; cases hoe; simp at hce
    refine wpAny_setField_rec hz₂ (by simp) fun h₃ _ hs₃ => hE h₃ e (fun c o c1 _ c3 _ x => hs₃.extBut _ _ c1 (hs₂ _ _ c3 (hs₁.extBut _ _ c1 x))) ⟨oe, hs₃.extBut _ _ hez hoe, hce⟩
  · rintro h₁ ⟨fb', hz₁⟩ hs₁
    simp only [Bool.false_eq_true, if_false]
    refine wpAny_bind ?_
    simp only [List.forIn_toArray, List.forIn_cons, List.forIn_nil]
    refine wpAny_bind (wpAny_bind (wpAny_holding ?_))
    show wpAny _ _ (Builtin.SmallTypes.nextOf (.ref i1) >>= _) _ _ _
    refine wpAny_bind (nextOf_tup_end hh (h1.extBut hs₁.extBut D.i1z) (hl1.extBut hs₁.extBut D.l1z) hx fun h₂ e hs₂ he => ?_)
    exact hE h₂ e (fun c o c1 _ c3 _ x => hs₂ _ _ c3 (hs₁.extBut _ _ c1 x)) he
theorem zipS_type {z TI TO i1 i2 t l : Addr} {k : Nat} {vs ys : Array Value} (S : ZipS s.heap z TI TO i1 i2 t l vs ys k) : s.TypeIs (.ref z) "zip" := by
  obtain ⟨f0, fb, hz, _⟩ := S.hz
  exact ⟨_, hz, rfl⟩
theorem zipS_next {z TI TO i1 i2 t l : Addr} {k : Nat} {vs ys : Array Value} {x y : Value} {Q : Option Value → Shared → Prop} (D : ZipApart z TI TO i1 i2 t l)
    (S : ZipS s.heap z TI TO i1 i2 t l vs ys k) (hx : vs[k]? = some x) (hy : ys[k]? = some y)
    (hQ : ∀ h', ZipS h' z TI TO i1 i2 t l vs ys (k + 1) → IsPair h' s.heap.objs.size x y → h'.objs.size = s.heap.objs.size + 1 →
      (∀ c o, c ≠ z → c ≠ TO → c ≠ i1 → c ≠ i2 → s.heap.get? c = some o → h'.get? c = some o) → Q (some (.ref s.heap.objs.size)) { s with heap := h' }) :
    wpAny (model prog w) A (pyNext (.ref z)) Q E s := by
  have hT := zipS_type S
  unfold pyNext
  exact wpAny_bind (wpAny_attempt (wpAny_callSpecial?_slot (name := Str.ofString "__next__") hT F.slot_zip_next
    (wpAny_call_entry F.slot_zip_next hT F.entry_zip_next
      (zipS_item D S hx hy fun h' a1 a2 a3 a4 => wpAny_pure (hQ h' a1 a2 a3 a4)) (F.args_zip_next_1 _))))
theorem zipS_next_end {z TI TO i1 i2 t l : Addr} {k : Nat} {vs ys : Array Value} {Q : Option Value → Shared → Prop} (hh : A.handled = none) (D : ZipApart z TI TO i1 i2 t l)
    (S : ZipS s.heap z TI TO i1 i2 t l vs ys k) (hx : vs[k]? = none)
    (hQ : ∀ h', (∀ c o, c ≠ z → c ≠ TO → c ≠ i1 → c ≠ i2 → s.heap.get? c = some o → h'.get? c = some o) → Q none { s with heap := h' }) : wpAny (model prog w) A (pyNext (.ref z)) Q E s := by
  have hT := zipS_type S
  unfold pyNext
  refine wpAny_bind (wpAny_attempt (wpAny_callSpecial?_slot (name := Str.ofString "__next__") hT F.slot_zip_next
    (wpAny_call_entry F.slot_zip_next hT F.entry_zip_next (zipS_end hh D S hx fun h' e hk he => ?_) (F.args_zip_next_1 _))))
  obtain ⟨o, ho, hc⟩ := he
  refine wpAny_bind (wpAny_isInstance (T := "StopIteration") (b := true) ⟨o, ho, hc⟩ isSubtype_stop ?_)
  exact wpAny_pure (hQ _ hk)
theorem zipS_iter {z TI TO i1 i2 t l : Addr} {k : Nat} {vs ys : Array Value} {Q : Value → Shared → Prop} (S : ZipS s.heap z TI TO i1 i2 t l vs ys k) (h : Q (.ref z) s) : wpAny (model prog w) A (pyIter (.ref z)) Q E s := by
  have hT := zipS_type S
  refine wpAny_pyIter_slot hT F.slot_zip_iter (wpAny_call_entry F.slot_zip_iter hT F.entry_zip_iter ?_ (F.args_zip_iter_1 _))
  show wpAny _ _ (ret (.ref z)) _ _ s
  exact wpAny_pure ⟨_, rfl, "zip", _, hT, F.slot_zip_next.lookup, h⟩
end
theorem ZipS.to {h h' : Heap} {z TI TO i1 i2 t l : Addr} {k : Nat} {vs ys : Array Value} (S : ZipS h z TI TO i1 i2 t l vs ys k) (hk : ∀ c o, (c = z ∨ c = TI ∨ c = TO ∨ c = i1 ∨ c = i2 ∨ c = t ∨ c = l) → h.get? c = some o → h'.get? c = some o) : ZipS h' z TI TO i1 i2 t l vs ys k := by
  obtain ⟨⟨f0, fb, hz, hf⟩, hTI, ⟨a, b, hTO⟩, h1, h2, hl1, hl2⟩ := S
  exact ⟨⟨f0, fb, hk _ _ (by simp) hz, hf⟩, hk _ _ (by simp) hTI, ⟨a, b, hk _ _ (by simp) hTO⟩, tit_at h1 (fun o e => hk _ o (by simp) e), h2.at (fun o e => hk _ o (by simp) e), tup_at hl1 (fun o e => hk _ o (by simp) e), hl2.at (fun o e => hk _ o (by simp) e)⟩
noncomputable abbrev tzH1 (h : Heap) (l1 : Addr) : Heap := h.push { cls := .type "tuple_iterator", data := .fields #[.ref l1, .int 0 0] }
noncomputable abbrev tzH2 (h : Heap) (l1 l2 : Addr) : Heap := (tzH1 h l1).push { cls := .type "list_iterator", data := .fields #[.ref l2, .int 0 0] }
noncomputable abbrev tzH3 (h : Heap) (l1 l2 : Addr) : Heap := (tzH2 h l1 l2).push { cls := .type "tuple", data := .seq #[.ref h.objs.size, .ref (tzH1 h l1).objs.size] }
noncomputable abbrev tzH4 (h : Heap) (l1 l2 : Addr) : Heap := (tzH3 h l1 l2).push { cls := .type "tuple", data := .seq #[.none, .none] }
noncomputable abbrev tzH5 (h : Heap) (l1 l2 : Addr) : Heap := (tzH4 h l1 l2).push { cls := .type "zip", data := .fields #[.none, .bool false, .bool false, .ref (tzH2 h l1 l2).objs.size, .ref (tzH3 h l1 l2).objs.size] }
theorem meets_zip_tl (l1 l2 : Addr) (xs ys : Array Value) :
    Meets (Builtin.«zip.__new__» ⟨[.type "zip", .ref l1, .ref l2], []⟩) (fun _ R s => s.heap.IsTuple l1 xs ∧ s.heap.IsList l2 ys ∧
      R (.ok (.ret (.ref (tzH4 s.heap l1 l2).objs.size))) { s with heap := tzH5 s.heap l1 l2 }) :=
  .of_wp fun prog w A R s h => by
    obtain ⟨hp, g, d, tk, os⟩ := s; obtain ⟨hl1, hl2, h⟩ := h
    have hsub := sub_zip
    have hL1 : Heap.IsTuple (Shared.heap ⟨hp, g, d, tk, os⟩) l1 xs := hl1
    have hL2 : Heap.IsList (Shared.heap ⟨hp.push { cls := .type "tuple_iterator", data := .fields #[.ref l1, .int 0 0] }, g, d, tk, os⟩) l2 ys := Heap.IsList.push hl2 _
    wp_walk using wpAny_pyIter_tuple hL1, wpAny_pyIter_list hL2
    exact ⟨_, rfl, h⟩
section
variable {prog : Program} {w : World} {A : Around} {E : Value → Shared → Prop} {s : Shared}
theorem call_zip_tl {l1 l2 : Addr} {xs ys : Array Value} {Q : Value → Shared → Prop} (hl1 : s.heap.IsTuple l1 xs) (hl2 : s.heap.IsList l2 ys)
    (h : ∀ h', ZipS h' (s.heap.objs.size + 4) (s.heap.objs.size + 2) (s.heap.objs.size + 3) s.heap.objs.size (s.heap.objs.size + 1) l1 l2 xs ys 0 → h'.objs.size = s.heap.objs.size + 5 →
      (∀ c o, s.heap.get? c = some o → h'.get? c = some o) → Q (.ref (s.heap.objs.size + 4)) { s with heap := h' }) :
    wpAny (model prog w) A (call (.type "zip") [.ref l1, .ref l2]) Q E s := by
  refine callType_new F.called_zip (by decide) (F.typeCall_zip_2 _ _) (F.newCall_zip_2 _ _) (fun obj => F.args_object_init_3 obj _ _) F.entry_zip_new
    (meets_zip_tl l1 l2 xs ys) ⟨hl1, hl2, ?_⟩
  have z1 : (tzH1 s.heap l1).objs.size = s.heap.objs.size + 1 := Heap.size_push ..
  have z2 : (tzH2 s.heap l1 l2).objs.size = s.heap.objs.size + 2 := by rw [Heap.size_push, z1]
  have z3 : (tzH3 s.heap l1 l2).objs.size = s.heap.objs.size + 3 := by rw [Heap.size_push, z2]
  have z4 : (tzH4 s.heap l1 l2).objs.size = s.heap.objs.size + 4 := by rw [Heap.size_push, z3]
  have z5 : (tzH5 s.heap l1 l2).objs.size = s.heap.objs.size + 5 := by rw [Heap.size_push, z4]
  have g5 : (tzH5 s.heap l1 l2).get? (tzH4 s.heap l1 l2).objs.size = some _ := Heap.get?_push_size _ rfl
  have g4 : (tzH5 s.heap l1 l2).get? (tzH3 s.heap l1 l2).objs.size = some _ := Heap.get?_push_of_some _ (Heap.get?_push_size _ rfl)
  have g3 : (tzH5 s.heap l1 l2).get? (tzH2 s.heap l1 l2).objs.size = some _ := Heap.get?_push_of_some _ (Heap.get?_push_of_some _ (Heap.get?_push_size _ rfl))
  have g2 : (tzH5 s.heap l1 l2).get? (tzH1 s.heap l1).objs.size = some _ := Heap.get?_push_of_some _ (Heap.get?_push_of_some _ (Heap.get?_push_of_some _ (Heap.get?_push_size _ rfl)))
  have g1 : (tzH5 s.heap l1 l2).get? s.heap.objs.size = some _ := Heap.get?_push_of_some _ (Heap.get?_push_of_some _ (Heap.get?_push_of_some _ (Heap.get?_push_of_some _ (Heap.get?_push_size _ rfl))))
  show _ ∧ _
  rw [z2, z3, z4] at g5
  rw [z1, z2] at g3
  rw [z3] at g4
  rw [z1] at g2
  rw [z4]
  have up : ∀ c o, s.heap.get? c = some o → (tzH5 s.heap l1 l2).get? c = some o := fun c o x =>
    Heap.get?_push_of_some _ (Heap.get?_push_of_some _ (Heap.get?_push_of_some _ (Heap.get?_push_of_some _ (Heap.get?_push_of_some _ x))))
  exact ⟨⟨_, g5, rfl⟩, h _ ⟨⟨_, _, g5, .inl rfl⟩, g3, ⟨_, _, g4⟩, ⟨_, g1, rfl, rfl⟩, ⟨_, g2, rfl, rfl⟩, tup_at hl1 (fun o e => up _ o e), hl2.at (fun o e => up _ o e)⟩ z5 up⟩
end
end

section
-- ZipTab
theorem plain_update_loop : plainId "dict.update.loop" = true := by decide +kernel
theorem entry_update_loop : entryFor table "dict.update.loop" = some Builtin.«dict.update.loop» := entryFor_of_fast (by kernel_rfl)
/-- a dict of these entries -/
noncomputable def DAt (w : World) (h : Heap) (d : Addr) (xs : List (T × Addr × Value)) : Prop := ∃ o es ep, h.get? d = some o ∧ o.ExactDict ∧ o.data = .dict es ep ∧ es.toList = xs.map (entK w)
theorem DAt.at' {w : World} {h h' : Heap} {d : Addr} {xs : List (T × Addr × Value)} (x : DAt w h d xs) (hk : ∀ o, h.get? d = some o → h'.get? d = some o) : DAt w h' d xs := by
  obtain ⟨o, es, ep, h1, r⟩ := x
  exact ⟨o, es, ep, hk _ h1, r⟩
theorem DAt.full {w : World} {h : Heap} {d : Addr} {news : List (Addr × Obj)} {xs : List (T × Addr × Value)} {tb : List (T × T)} (x : DAt w h d xs) (H : Held h news) (e : All2 (EntryIn news) xs tb) (hn : (tb.map (·.1)).Nodup) : @Heap.DictOfH rwProg w T tdec (knd w) h d xs := by
  obtain ⟨o, es, ep, h1, h2, h3, h4⟩ := x
  refine ⟨o, es, ep, h1, h2, h3, h4, ?_, by rw [keys_eq e]; exact hn⟩
  clear hn h4
  induction e with
  | nil => exact fun x hx => nomatch hx
  | cons a b ih =>
    intro x hx
    rcases List.mem_cons.mp hx with rfl | hx
    · exact ⟨news, H, a.key ▸ a.keyIn, a.key ▸ a.dep⟩
    · exact ih x hx
theorem All2.snoc {α β : Type} {R : α → β → Prop} {a : α} {b : β} : ∀ {xs : List α} {ys : List β}, All2 R xs ys → R a b → All2 R (xs ++ [a]) (ys ++ [b])
  | _, _, .nil, h => .cons h .nil
  | _, _, .cons x r, h => .cons x (All2.snoc r h)
theorem take_zip_snoc {ks ls : List T} {i : Nat} {a b : T} (ha : ks[i]? = some a) (hb : ls[i]? = some b) : (ks.zip ls).take (i + 1) = (ks.zip ls).take i ++ [(a, b)] := by
  rw [List.take_add_one]
  have : (ks.zip ls)[i]? = some (a, b) := List.getElem?_zip_eq_some.mpr ⟨ha, hb⟩
  rw [this]; rfl
theorem nodup_take_zip {ks ls : List T} (h : ks.Nodup) (he : ks.length = ls.length) (i : Nat) : (((ks.zip ls).take i).map (·.1)).Nodup := by
  have e : ((ks.zip ls).take i).map (·.1) = ks.take i := by
    rw [List.map_take]
    congr 1
    exact List.map_fst_zip (by omega)
  rw [e]
  exact h.sublist (List.take_sublist _ _)
theorem storedH_new {xs : List (T × Addr × Value)} {k : T} {a : Addr} {v : Value} (h : k ∉ xs.map (·.1)) : @storedH T tdec xs k a v = xs ++ [(k, a, v)] := by
  unfold storedH
  have : @atKey T tdec xs k = none := by
    classical
    unfold atKey
    rw [Option.map_eq_none_iff, List.find?_eq_none]
    intro x hx e
    exact h (List.mem_map.mpr ⟨x, hx, of_decide_eq_true e⟩)
  rw [this]; rfl
theorem tall_at {Y : List (Addr × Obj)} : ∀ {ts : List T} {vs : List Value} {i : Nat} {t : T}, TAll Y vs (T.dats ts) → ts[i]? = some t → ∃ v, vs[i]? = some v ∧ TIn Y v t.dat
  | [], _, i, t, _, h => by simp at h
  | x :: ts, _, 0, t, .cons a r, h => by simp at h; subst h; exact ⟨_, rfl, a⟩
  | x :: ts, _, i + 1, t, .cons a r, h => by
    simp only [List.getElem?_cons_succ] at h
    obtain ⟨v, h1, h2⟩ := tall_at r h
    exact ⟨v, by simpa using h1, h2⟩
theorem adr_ne {a b : Nat} (h : a < b ∨ b < a) : @Ne Addr a b := fun e => by have : a = b := e; omega
theorem held_low {h h' : Heap} {news : List (Addr × Obj)} {n0 : Nat} (H : Held h news) (low : ∀ p ∈ news, p.1 < n0) (hk : ∀ (c : Nat) o, c < n0 → h.get? c = some o → h'.get? c = some o) : Held h' news := fun p hp => hk _ _ (low p hp) (H p hp)
section
variable {w : World} {A : Around} {E : Value → Shared → Prop} {s : Shared}
theorem upd_loop {R : Result → Shared → Prop} {n0 d t l : Nat} {news : List (Addr × Obj)} {ks ls : List T} {kv tv : List Value} (hd : n0 + 5 ≤ d) (ht : t < n0) (hl : l < n0) (low : ∀ p ∈ news, p.1 < n0) (hh : A.handled = none) (hu : A.units + 40 < cLine)
    (hk : TAll news kv (T.dats ks)) (hv : TAll news tv (T.dats ls)) (he : ks.length = ls.length) (hn : ks.Nodup) (hdep : ∀ k ∈ ks, k.dep ≤ 3) (hsz : ks.length ≤ sizeLine) :
    ∀ (k i : Nat) (j : Int) (s : Shared) (xs : List (T × Addr × Value)), ks.length - i = k → i ≤ ks.length → ZipS s.heap (n0 + 4) (n0 + 2) (n0 + 3) n0 (n0 + 1) t l (List.toArray kv) (List.toArray tv) i → Held s.heap news → DAt w s.heap d xs →
      All2 (EntryIn news) xs ((ks.zip ls).take i) →
      (∀ h' tk xs', DAt w h' d xs' → All2 (EntryIn news) xs' (ks.zip ls) → (∀ (c : Nat) o, c < n0 → s.heap.get? c = some o → h'.get? c = some o) → R (.ok (.ret .none)) { s with heap := h', toks := tk }) →
      codeAny (model rwProg w) A (.builtin "dict.update.loop" ⟨[.ref d, .ref (n0 + 4), .int j 0, .none], []⟩) R s := by
  have D : ZipApart (n0 + 4) (n0 + 2) (n0 + 3) n0 (n0 + 1) t l := by constructor <;> (intro e; simp only [Addr] at e; omega)
  have lk := hk.length
  have lv := hv.length
  rw [dats_len] at lk lv
  intro k
  induction k with
  | zero =>
    intro i j s xs hki hi S H Dd Ex hR
    have hin : i = ks.length := uq2 hki hi
    subst hin
    refine codeAny_builtin entry_update_loop ?_
    rw [Around.under_plainId plain_update_loop _]
    show wpAny _ A.in1 (pyNext (.ref (n0 + 4)) >>= _) _ _ s
    refine wpAny_bind (zipS_next_end (show A.in1.handled = none from hh) D S (by (rw [List.getElem?_toArray]; exact List.getElem?_eq_none (by omega))) fun h' hk' => ?_)
    show wpAny _ _ (Builtin.Dict.addKeywords d [] >>= _) _ _ _
    refine wpAny_bind (wpAny_pure (wpAny_pure ?_))
    rw [List.take_of_length_le (by rw [List.length_zip]; omega)] at Ex
    have := hR h' s.toks xs (Dd.at' fun o e => hk' _ o (adr_ne (by omega)) (adr_ne (by omega)) (adr_ne (by omega)) (adr_ne (by omega)) e) Ex (fun c o hc e => hk' c o (adr_ne (by omega)) (adr_ne (by omega)) (adr_ne (by omega)) (adr_ne (by omega)) e)
    exact this
  | succ k ih =>
    intro i j s xs hki hi S H Dd Ex hR
    have hlt : i < ks.length := uq3 hki
    refine codeAny_builtin entry_update_loop ?_
    rw [Around.under_plainId plain_update_loop _]
    obtain ⟨kx, hkx⟩ : ∃ x, ks[i]? = some x := ⟨_, List.getElem?_eq_getElem hlt⟩
    obtain ⟨lx, hlx⟩ : ∃ x, ls[i]? = some x := ⟨_, List.getElem?_eq_getElem (he ▸ hlt)⟩
    obtain ⟨kvx, hkv, hkd⟩ := tall_at hk hkx
    obtain ⟨tvx, htv, htd⟩ := tall_at hv hlx
    show wpAny _ A.in1 (pyNext (.ref (n0 + 4)) >>= _) _ _ s
    refine wpAny_bind (zipS_next D S (x := kvx) (y := tvx) (by simpa using hkv) (by simpa using htv) fun h' S' hP hs' hk' => ?_)
    have Dd' : DAt w h' d xs := Dd.at' fun o e => hk' _ o (adr_ne (by omega)) (adr_ne (by omega)) (adr_ne (by omega)) (adr_ne (by omega)) e
    have H' : Held h' news := held_low H low fun c o hc e => hk' c o (adr_ne (by omega)) (adr_ne (by omega)) (adr_ne (by omega)) (adr_ne (by omega)) e
    obtain ⟨ka, rfl⟩ := tree_ref hkd
    refine wpAny_bind (wpAny_holding ?_)
    refine wpAny_bind (wpAny_tryCatch ?_)
    unfold Builtin.Dict.pairItems
    refine wpAny_bind (wpAny_typeOf (T := "tuple") ⟨_, hP, rfl⟩ ?_)
    rw [if_pos (by decide)]
    refine wpAny_bind (wpAny_seqItems hP rfl (wpAny_pure ?_))
    show wpAny _ _ (holding [Value.ref ka, tvx] (dictSet d (.ref ka) tvx)) _ _ _
    refine wpAny_holding ?_
    have kin : kx ∈ ks := List.mem_of_getElem? hkx
    have kat : TreeAt h' kx ka := ⟨news, H', hkd, hdep _ kin⟩
    have kno : kx ∉ xs.map (·.1) := by
      rw [keys_eq Ex]
      have e : ((ks.zip ls).take i).map (·.1) = ks.take i := by
        rw [List.map_take]
        congr 1
        exact List.map_fst_zip (by omega)
      rw [e]
      intro hm
      obtain ⟨q, hq, e⟩ := List.mem_take_iff_getElem.mp hm
      have e2 := (List.getElem?_eq_some_iff.mp hkx).2
      have := (List.getElem_inj hn).mp (e.trans e2.symm)
      exact uq5 hq this
    have lxs : xs.length = i := by
      have := congrArg List.length (keys_eq Ex)
      simp only [List.length_map, List.length_take, List.length_zip] at this
      exact uq4 this he hlt
    refine @wpAny_dictSet_heap rwProg w T tdec (knd w) _ _ _ d ka xs kx tvx _ (by show A.in1.units + 20 < cLine; simp only [Around.in1_units]; omega) kat (Dd'.full H' Ex (nodup_take_zip hn he i)) (fun h2 hD2 hs2 => ?_) (by omega)
    rw [storedH_new kno] at hD2
    obtain ⟨o2, es2, ep2, q1, q2, q3, q4, _, _⟩ := hD2
    refine wpAny_pure ⟨plainId_quiet plain_update_loop _, ?_⟩
    have nd : ∀ c o, c ≠ d → h'.get? c = some o → h2.get? c = some o := fun c o hc e => (hs2.2 c hc).trans e
    refine ih (i + 1) (j + 1) _ (xs ++ [(kx, ka, tvx)]) (uq1 hki) hlt (S'.to fun c o hc e => nd c o (by rcases hc with rfl | rfl | rfl | rfl | rfl | rfl | rfl <;> exact adr_ne (by omega)) e) (fun p hp => nd _ _ (adr_ne (by have hlow : @LT.lt Nat _ p.1 n0 := low p hp; exact .inl (Nat.lt_of_lt_of_le hlow (by omega)))) (H' p hp)) ⟨o2, es2, ep2, q1, q2, q3, q4⟩ ?_ fun h3 tk3 xs3 a1 a2 a3 => ?_
    · rw [take_zip_snoc hkx hlx]
      exact Ex.snoc ⟨rfl, hkd, hdep _ kin, htd⟩
    · exact hR h3 tk3 xs3 a1 a2 fun c o hc e => a3 c o hc (nd c o (adr_ne (by omega)) (hk' c o (adr_ne (by omega)) (adr_ne (by omega)) (adr_ne (by omega)) (adr_ne (by omega)) e))
end
end

section
-- ZipUse
/-- a zip at hand: what stands once it is made -/
structure ZipF (h₀ : Heap) (L : Addr) (m : Str → Option Value) (news : List (Addr × Obj)) (t l : Addr) (vs ys : List Value) (n0 : Nat) (h : Heap) : Prop where
  S : ZipS h (n0 + 4) (n0 + 2) (n0 + 3) n0 (n0 + 1) t l (List.toArray vs) (List.toArray ys) 0
  size : n0 + 5 ≤ h.objs.size
  tlow : @LT.lt Nat _ t n0
  llow : @LT.lt Nat _ l n0
  low : ∀ p ∈ news, p.1 < n0
  above : @LT.lt Nat _ L n0
  big : h₀.objs.size ≤ L
  keep : ∀ h', (∀ (c : Nat) o, c < n0 → h.get? c = some o → h'.get? c = some o) → Fr h₀ L h' m ∧ News h₀ L h' news
section
variable {w : World} {A : Around} {E : Value → Shared → Prop} {s : Shared} {h₀ : Heap} {L : Addr} {m : Str → Option Value} {news : List (Addr × Obj)}
theorem zip_tl {t l : Addr} {vs ys : List Value} {kt kl : Nat} {Q : Value → Shared → Prop} (F : Fr h₀ L s.heap m) (N : News h₀ L s.heap news) (ht : (t, tupObj vs kt) ∈ news) (hl : (l, listOf (List.toArray ys) kl) ∈ news)
    (h : ∀ n0 h', ZipF h₀ L m news t l vs ys n0 h' → Q (.ref (n0 + 4)) { s with heap := h' }) :
    wpAny (model rwProg w) A (call (.type "zip") [.ref t, .ref l]) Q E s := by
  have gt := (N _ ht).1
  have gl := (N _ hl).1
  refine call_zip_tl (xs := List.toArray vs) (ys := List.toArray ys) ⟨_, gt, rfl, _, rfl⟩ (News.isList N hl) fun h' S hs hk => h s.heap.objs.size h' ⟨S, Nat.le_of_eq hs.symm, Heap.lt_size gt, Heap.lt_size gl, fun p hp => Heap.lt_size (N p hp).1, F.ns.lt, F.above, fun h2 k2 => ?_⟩
  have kp : ∀ b o, s.heap.get? b = some o → h2.get? b = some o := fun b o e => k2 b o (Heap.lt_size e) (hk b o e)
  exact ⟨F.keptAll kp, fun p hp => ⟨kp _ _ (N p hp).1, (N p hp).2⟩⟩
theorem dict_zip {t l : Addr} {vs ys : List Value} {n0 : Nat} {ks ls : List T} {Q : Value → Shared → Prop} (Z : ZipF h₀ L m news t l vs ys n0 s.heap) (hbig : sysModules < h₀.objs.size)
    (hk : TAll news vs (T.dats ks)) (hv : TAll news ys (T.dats ls)) (he : ks.length = ls.length) (hn : ks.Nodup) (hdep : ∀ k ∈ ks, k.dep ≤ 3) (hsz : ks.length ≤ sizeLine) (hh : A.handled = none) (hu : A.units + 60 < cLine)
    (h : ∀ D h' tk (xs : List (T × Addr × Value)) n, Fr h₀ L h' m → News h₀ L h' ((D, dictOf (xs.map (entK w)) n) :: news) → TabIn w ((D, dictOf (xs.map (entK w)) n) :: news) D (ks.zip ls) → xs.length = ks.length → (∀ p ∈ news, p.1 < D) → Q (.ref D) { s with heap := h', toks := tk }) :
    wpAny (model rwProg w) A (call (.type "dict") [.ref (n0 + 4)]) Q E s := by
  obtain ⟨S, size, tlow, llow, low, above, big, keep⟩ := Z
  refine callType_codes (Q₁ := fun obj s₁ => obj = .ref s.heap.objs.size ∧ s₁ = { s with heap := s.heap.push { cls := .type "dict", data := .dict #[] } }) F.kt_called_dict (F.kt_typeCall_dict_1 _) F.entry_dict_init (kt_code_dict_new _ ⟨rfl, rfl⟩) ?_
  rintro obj s₁ ⟨rfl, rfl⟩
  have hnew : (s.heap.push { cls := .type "dict", data := .dict #[] }).get? s.heap.objs.size = some { cls := .type "dict", data := .dict #[] } := Heap.get?_push_size _ rfl
  have hT : Shared.TypeIs { s with heap := s.heap.push { cls := .type "dict", data := .dict #[] } } (.ref s.heap.objs.size) "dict" := ⟨_, hnew, rfl⟩
  have S1 : ZipS (s.heap.push { cls := .type "dict", data := .dict #[] }) (n0 + 4) (n0 + 2) (n0 + 3) n0 (n0 + 1) t l (List.toArray vs) (List.toArray ys) 0 := S.to fun c o _ e => Heap.get?_push_of_some _ e
  refine ⟨hT, F.args_dict_init_2 _ _, ?_⟩
  unfold Builtin.«dict.__init__»
  refine wpAny_bind ?_
  unfold Builtin.Dict.selfAndRest
  refine wpAny_bind (wpAny_notOrdered_dict hT ?_)
  show wpAny _ _ (pure (s.heap.objs.size, [Value.ref (n0 + 4)])) _ _ _
  refine wpAny_pure ?_
  show wpAny _ _ (Builtin.Dict.updateFrom "dict.__init__" s.heap.objs.size (.ref (n0 + 4)) [] .none) _ _ _
  unfold Builtin.Dict.updateFrom
  refine wpAny_bind (wpAny_typeOf (zipS_type (s := { s with heap := s.heap.push { cls := .type "dict", data := .dict #[] } }) S1) ?_)
  rw [if_pos (by decide)]
  obtain ⟨f0, fb, hz, _⟩ := S1.hz
  refine wpAny_bind (zip_no_keys hz (show A.in1.in1.handled = none from hh) fun h2 tk2 k2 => ?_)
  show wpAny _ _ (rule _ >>= _) _ _ _
  refine wpAny_bind (wpAny_rule ?_)
  refine wpAny_bind (zipS_iter (s := { s with heap := h2, toks := tk2 }) (S1.to fun c o _ e => k2 c o e) ?_)
  refine wpAny_pure ⟨plainId_quiet plain_update_loop _, ?_⟩
  have kp2 : ∀ (c : Nat) o, c < n0 → s.heap.get? c = some o → h2.get? c = some o := fun c o _ e => k2 _ _ (Heap.get?_push_of_some _ e)
  have kl := hk.length
  have ll := hv.length
  refine upd_loop (w := w) (news := news) (ks := ks) (ls := ls) (kv := vs) (tv := ys) size tlow llow low (show A.in1.handled = none from hh) (by show A.in1.units + 40 < cLine; rw [Around.in1_units]; omega) hk hv he hn hdep hsz ks.length 0 0 _ [] rfl (Nat.zero_le _) (S1.to fun c o _ e => k2 c o e)
    (fun p hp => ((keep _ kp2).2 p hp).1) ⟨_, _, _, k2 _ _ hnew, ⟨rfl, rfl, rfl⟩, rfl, rfl⟩ .nil fun h3 tk3 xs D3 E3 k3 => ?_
  obtain ⟨o, es, ep, g1, ⟨c1, c2, c3⟩, g3, g4⟩ := D3
  obtain ⟨oc, od, oda, osl⟩ := o
  simp only at c1 c2 c3 g3
  subst c1 c2 c3 g3
  have ees : es = (xs.map (entK w)).toArray := by rw [← g4]
  subst ees
  obtain ⟨F3, N3⟩ := keep h3 fun c o hc e => k3 c o hc (kp2 c o hc e)
  have dl : @LT.lt Nat _ L s.heap.objs.size := Nat.lt_of_lt_of_le above (by omega)
  have low' : ∀ p ∈ news, p.1 < s.heap.objs.size := fun p hp => Nat.lt_of_lt_of_le (low p hp) (by omega)
  have sz : xs.length = ks.length := by
    have := congrArg List.length (keys_eq E3)
    simp only [List.length_map, List.length_zip] at this
    omega
  refine ⟨rfl, h s.heap.objs.size h3 tk3 xs ep F3 ?_ ⟨?_, xs, ep, .head _, forall2_mono (fun _ _ e => e.mono (subT_of fun p hp => .tail _ hp)) E3, ?_⟩ sz low'⟩
  · intro p hp
    rcases List.mem_cons.mp hp with rfl | hp
    · exact ⟨g1, Nat.ne_of_gt dl, Heap.get?_none_of_le (Nat.le_of_lt (Nat.lt_of_le_of_lt big dl))⟩
    · exact N3 p hp
  · exact beq_eq_false_iff_ne.mpr (Nat.ne_of_gt (Nat.lt_trans hbig (Nat.lt_of_le_of_lt big dl)))
  · have e : (ks.zip ls).map (·.1) = ks := List.map_fst_zip (by omega)
    rw [e]; exact hn
theorem meets_len_es (w : World) (d : Addr) (hd : (d == sysModules) = false) (es : List DictEntry) :
    MeetsIn rwProg w (Builtin.«dict.__len__» ⟨[.ref d], []⟩) (fun _ R s => (∃ n, s.heap.get? d = some (dictOf es n)) ∧ R (.ok (.ret (.int es.length s.toks))) { s with toks := s.toks + 1 }) :=
  .of_wp fun A R s ⟨⟨n, ho⟩, h⟩ => by
    show wpAny _ _ (dictSize d >>= _) _ _ s
    unfold dictSize
    refine wpAny_bind (wpAny_bind (wpAny_dictEntries ho rfl (wpAny_pure ?_)))
    show wpAny _ _ (Builtin.Dict.pendingCount d >>= _) _ _ s
    refine wpAny_bind (wpAny_pendingCount_other hd ?_)
    refine wpAny_ret_mkInt ?_
    have : es.toArray.size = es.length := by simp
    rw [Nat.add_zero, this]; exact h
/-- len of a table -/
theorem len_tab {d : Addr} {tb : List (T × T)} {Q : Value → Shared → Prop} (N : News h₀ L s.heap news) (tab : TabIn w news d tb) (hz : tb.length ≤ 1000)
    (h : ∀ tk tk', Q (.int (tb.length : Int) tk) { s with toks := tk' }) : wpAny (model rwProg w) A (call (.builtin "len") [.ref d]) Q E s := by
  obtain ⟨hm, xs, n, hd, hf, _⟩ := tab
  have g := (N _ hd).1
  have hT : s.TypeIs (.ref d) "dict" := ⟨_, g, rfl⟩
  have lx : xs.length = tb.length := by
    have := congrArg List.length (keys_eq hf)
    simpa only [List.length_map] using this
  refine Calls.call_function_entry kind_len plain_len entry_len (args_len1 _) ?_
  unfold Builtin.«len»
  refine wpAny_bind (m := oneArg "len" _) (wpAny_pure ?_)
  refine wpAny_bind (m := callSpecial? (.ref d) (Str.ofString "__len__")) (wpAny_callSpecial?_slot (name := Str.ofString "__len__") hT F.slot_dict_len
    (call_meetsIn F.slot_dict_len hT F.entry_dict_len (F.args_dict_len_1 _) (meets_len_es w d hm (xs.map (entK w))) ⟨⟨n, g⟩, ?_⟩))
  rw [List.length_map, lx]
  show wpAny _ _ _ _ _ { s with toks := s.toks + 1 }
  refine wpAny_bind (wpAny_holding (wpAny_pure ?_))
  refine wpAny_bind (wpAny_letGo ?_)
  show wpAny _ _ (if ((tb.length : Nat) : Int) < 0 then _ else _) _ _ _
  rw [if_neg (by omega)]
  show wpAny _ _ (if ((tb.length : Nat) : Int) ≥ 2 ^ 63 then _ else _) _ _ _
  rw [if_neg (by omega)]
  exact wpAny_bind (wpAny_mkInt (wpAny_pure ⟨_, rfl, h _ _⟩))
end
section
variable {w : World} {A : Around} {E : Value → Shared → Prop} {s : Shared} {h₀ : Heap} {L : Addr} {m : Str → Option Value} {news : List (Addr × Obj)}
theorem tabOf_len (ls : List T) : (tabOf ls).length = ls.length := by
  unfold tabOf
  rw [List.length_zip, List.length_map, namesN_len, Nat.min_self]
theorem dict_zipT {t l : Addr} {vs ys : List Value} {n0 : Nat} {ts : List T} {Q : Value → Shared → Prop} (Z : ZipF h₀ L m news t l vs ys n0 s.heap) (hbig : sysModules < h₀.objs.size)
    (hk : TAll news vs (T.dats ((namesN ts.length).map T.sym))) (hv : TAll news ys (T.dats ts)) (hlen : ts.length ≤ 40) (hh : A.handled = none) (hu : A.units + 60 < cLine)
    (h : ∀ D h' tk (xs : List (T × Addr × Value)) n, Fr h₀ L h' m → News h₀ L h' ((D, dictOf (xs.map (entK w)) n) :: news) → TabIn w ((D, dictOf (xs.map (entK w)) n) :: news) D (tabOf ts) → (∀ p ∈ news, p.1 < D) → Q (.ref D) { s with heap := h', toks := tk }) :
    wpAny (model rwProg w) A (call (.type "dict") [.ref (n0 + 4)]) Q E s := by
  refine dict_zip Z hbig hk hv (by rw [List.length_map, namesN_len]) (names_nodup (by omega)) (fun k hk => ?_) (by rw [List.length_map, namesN_len, sizeLine_eq]; omega) hh hu fun D h' tk xs n F N T _ l => h D h' tk xs n F N T l
  obtain ⟨x, _, rfl⟩ := List.mem_map.mp hk
  simp [T.dep]
theorem ne_int_same {a b : Int} {t u : Tok} {Q : Value → Shared → Prop} (e : a = b) (h : Q (.bool false) s) : wpAny (model rwProg w) A (compareOp .NotEq (.int a t) (.int b u)) Q E s :=
  P.ne_int (by rw [e]; simpa using h)
theorem eq_int_same {a b : Int} {t u : Tok} {Q : Value → Shared → Prop} (e : a = b) (h : Q (.bool true) s) : wpAny (model rwProg w) A (compareOp .Eq (.int a t) (.int b u)) Q E s :=
  P.eq_int (by rw [e]; simpa using h)
end
section
variable {w : World} {Y news ex : List (Addr × Obj)}
  {dp un : Nat} {gd : Option (List Code)} {cn : Str} {cs : Scope} {fa : Addr} {ccd : Value} {cl : List (Str × Addr)} {outer : List Env} {A₀ : Around} {base h₀ : Heap} {L : Addr} {m : Str → Option Value} {s : Shared}
  {mean : ExcName → Option Value} {mg mb : Str → Option Value} {Q E : Value → Shared → Prop}
theorem put_use2 {t : T} {v : Value} {d : Addr} {tb : List (T × T)} (C : PutC w tb t) (ho : t.ok) (hdep : t.dep ≤ 3) (B : Below A₀ base outer h₀) (F : Fr h₀ L s.heap m) (X : (hd.heap_39 w.params).In h₀) (N : News h₀ L s.heap news) (hv : TIn news v t.dat) (ht : TabIn w news d tb)
    (Tp : Top hd.view_39 (looseW hd.view_39 [Str.ofString "RowsError"]) mean mg mb h₀) (hk : cs.kind = .function)
    (hd : dp + (8 + 6 * t.dep) < recursionLimit) (hu : un + (80 + 40 * t.dep) < cLine)
    (ret : ∀ r Y₂ h' tk', GrowT news Y₂ → Fr h₀ L h' m → News h₀ L h' Y₂ → TIn Y₂ r (putT tb t).dat → Q r { s with heap := h', toks := tk' }) :
    wpAny (model PySem.Challenge.rw_pq0689_01.row.prog w) (ktrTop dp un gd cn cs L fa ccd cl outer) (call (.ref 245) [v, .ref d]) Q E s :=
  put_use C ho hdep hv ht B F X N Tp hk Cut.tail hd hu fun r Y₂ h' tk' g F' N' hr => ret r Y₂ h' tk' g F' N' hr
end
end

section
-- Facts
theorem oks_of {ps : List T} (h : ∀ p ∈ ps, p.ok) : T.oks ps := by
  induction ps with
  | nil => exact trivial
  | cons p ps ih => exact ⟨h p (.head _), ih fun q hq => h q (.tail _ hq)⟩
theorem deps_of {ps : List T} {d : Nat} (h : ∀ p ∈ ps, p.dep ≤ d) : T.deps ps ≤ d := by
  induction ps with
  | nil => exact Nat.zero_le _
  | cons p ps ih => exact Nat.max_le.mpr ⟨h p (.head _), ih fun q hq => h q (.tail _ hq)⟩
theorem leaf_ok {t : T} (h : LeafOk t) : t.ok ∧ t.dep ≤ 1 := by
  obtain ⟨k, hk, rfl⟩ := h
  match k with
  | 0 | 1 | 2 | 3 | 4 | 5 | 6 => simp [leafT, T.ok, T.oks, T.dep, T.deps]
  | k + 7 => omega
theorem cal_ok {t : T} (h : CalOk t) : t.ok ∧ t.dep ≤ 1 := by
  rcases h with ⟨x, _, rfl⟩ | rfl <;> simp [T.ok, T.oks, T.dep, T.deps]
theorem tree_ok : ∀ (n : Nat) (t : T), TreeOk n t → t.ok ∧ t.dep ≤ n + 1
  | 0, t, h => h.elim (fun h => leaf_ok h) fun h => h.elim
  | n + 1, t, h => by
    rcases h with h | ⟨c, ps, rfl, hc, _, h3, hp⟩
    · have := leaf_ok h
      exact ⟨this.1, by omega⟩
    · have h1 := cal_ok hc
      have h2 : ∀ q ∈ c :: ps, q.ok ∧ q.dep ≤ n + 1 := fun q hq => by
        rcases List.mem_cons.mp hq with rfl | hq
        · exact ⟨h1.1, by omega⟩
        · exact tree_ok n q (hp q hq)
      refine ⟨⟨?_, oks_of fun q hq => (h2 q hq).1⟩, Nat.succ_le_succ (deps_of fun q hq => (h2 q hq).2)⟩
      rw [List.length_cons]
      omega
theorem bodyTs_all {P : T → Prop} : ∀ {ps : List T} {k : Nat}, (∀ p ∈ ps, ∀ k, P (bodyT p k)) → ∀ q ∈ bodyTs ps k, P q
  | p :: ps, k, h, q, hq => by
    rcases List.mem_cons.mp hq with rfl | hq
    · exact h p (.head _) k
    · exact bodyTs_all (fun r hr => h r (.tail _ hr)) q hq
theorem leafB_ok {t : T} {k : Nat} : (leafB t k).ok ∧ (leafB t k).dep ≤ 0 := by
  unfold leafB
  cases t <;> simp [isLitT, T.ok, T.dep]
theorem calB_ok {t : T} {k : Nat} : (calB t k).ok ∧ (calB t k).dep ≤ 0 := by
  unfold calB
  cases t <;> simp [isSymT, T.ok, T.dep]
theorem body_ok : ∀ (n : Nat) (t : T) (k : Nat), TreeOk n t → (bodyT t k).ok ∧ (bodyT t k).dep ≤ n
  | 0, t, k, h => h.elim (fun h => by rw [body_leaf (leaf_kind h)]; exact leafB_ok) fun h => h.elim
  | n + 1, t, k, h => by
    rcases h with h | ⟨c, ps, rfl, hc, _, h3, hp⟩
    · rw [body_leaf (leaf_kind h)]
      have := leafB_ok (t := t) (k := k)
      exact ⟨this.1, by omega⟩
    · unfold bodyT
      rw [if_pos rfl]
      have h2 : ∀ q ∈ calB c k :: bodyTs ps (k + (calL c).length), q.ok ∧ q.dep ≤ n := fun q hq => by
        rcases List.mem_cons.mp hq with rfl | hq
        · exact ⟨calB_ok.1, Nat.le_trans calB_ok.2 (Nat.zero_le _)⟩
        · exact bodyTs_all (P := fun q => q.ok ∧ q.dep ≤ n) (fun p hm k => body_ok n p k (hp p hm)) q hq
      refine ⟨⟨?_, oks_of fun q hq => (h2 q hq).1⟩, Nat.succ_le_succ (deps_of fun q hq => (h2 q hq).2)⟩
      rw [List.length_cons, bodyTs_len]
      omega
mutual
theorem plain_dep : ∀ t : T, (plainT t).dep ≤ t.dep
  | .sym _ => Nat.le_refl _
  | .int _ => Nat.le_refl _
  | .text _ => Nat.le_refl _
  | .ex h ps => by
    unfold plainT
    split
    · exact Nat.succ_le_succ (plains_dep ps)
    · exact Nat.le_refl _
theorem plains_dep : ∀ ts : List T, T.deps (plainTs ts) ≤ T.deps ts
  | [] => Nat.le_refl _
  | t :: ts => by
    have h1 := plain_dep t
    have h2 := plains_dep ts
    simp only [plainTs, T.deps]
    omega
end
section
variable {prog : Program} {w : World} {A : Around} {E : Value → Shared → Prop} {s : Shared} {h₀ : Heap} {L : Addr} {news : List (Addr × Obj)} {Q : Value → Shared → Prop}
theorem eq_treeV {x y : T} {v u : Value} (N : News h₀ L s.heap news) (D1 : TIn news v x.dat) (D2 : TIn news u y.dat) (hd : x.dep ≤ 4) (hu : A.units + 30 < cLine) (e : x = y) (h : Q (.bool true) s) : wpAny (model prog w) A (compareOp .Eq v u) Q E s := by
  classical
  subst e
  obtain ⟨a, rfl⟩ := tree_ref D1
  obtain ⟨b, rfl⟩ := tree_ref D2
  have hc := cmpT x x
  have hdep := depD_le x
  have key : ∀ {ds : List Dat}, x.dat = .tuple ds → wpAny (model prog w) A (compareOp .Eq (.ref a) (.ref b)) Q E s := by
    intro ds e1
    rw [e1] at D1 hdep D2 hc
    simp only [cmpD] at hc
    simp only [depD] at hdep
    exact eq_dat (heldOf N) D1 D2 hc (by omega) hu (by simpa using h)
  cases x <;> exact key rfl
end
end
section
-- Small
theorem reset_Small : True := by
  w_top off
  k_with_none
  k_with "kt_len" => first | assumption | exact ltm (by assumption) (by lsm_bools) | exact lt3 (by assumption) (by assumption) (by lsm_bools) | exact ltk (by assumption) | exact lk0 (by assumption) (by rfl) | exact lk1 (by assumption) (by rfl) | exact ltn (by assumption) (by lsm_bools) | exact lka (by rfl) | exact lkb (by rfl) | exact And.left (by assumption) | exact pj1 (by assumption) | exact pj2 (by assumption) | fail "no"
  k_with "ktr_room" => first | exact szg (by rfl) | exact rm2 (by assumption) (by rfl) | exact rs2 (by assumption) (by rfl) | exact rm0 (by assumption) | exact rm1 (by assumption) (by rfl) | exact rs1 (by assumption) (by rfl) | exact rm3 (by assumption) (by rfl) | exact rm4 (by assumption) (by rfl) | exact rm5 (by assumption) (by rfl) | exact rmn (by assumption) (by assumption) (by rfl) | exact rmt (by assumption) (by rfl) | fail "no"
  k_with "ktr_units" => k_extra "ktr_room"
  k_with "omega" => first | with_reducible assumption | (show (_ : Nat) < _; first | assumption | k_extra "ktr_room") | (show (_ : Nat) ≤ _; first | assumption | exact szg (by rfl) | exact sza (by assumption) (by rfl) | exact szb (by assumption) (by assumption) (by rfl) | exact szc (by assumption) (by rfl) | exact szd (by assumption) (by rfl) | exact cza (by assumption) (by rfl) | exact szs (by assumption) | exact Nat.le_of_eq (by assumption)) | (show (_ : Nat) ≠ _; first | assumption | exact Ne.symm (by assumption) | exact ofI (by assumption) (by lsm_bools) | exact ofC (by assumption) (by lsm_bools) | exact ofD (by assumption) (by lsm_bools) | exact fI (by assumption) (by lsm_bools) | exact fC (by assumption) (by lsm_bools) | exact fD (by assumption) (by lsm_bools) | exact Nat.ne_of_lt (by kt_len) | exact Nat.ne_of_gt (by kt_len)) | (show (_ : Nat) < _ ∨ _; first | exact Or.inl (by kt_len) | exact Or.inr (by kt_len)) | fail "no"
  k_with "lsm_bools" => first | exact List.Mem.head _ | assumption | (refine' List.Mem.tail _ ?_; lsm_bools) | (refine' GrowT.mem ?gZ75 ?hZ75; (case gZ75 => assumption); (case hZ75 => lsm_bools)) | fail "no entry"
  k_with "k_mem" => first | lsm_bools | fail "no entry"
  k_with "tb_start" => first
  | exact List.forall_mem_nil _
  | (refine' List.forall_mem_cons.mpr ⟨?aZ77, ?bZ77⟩; (case aZ77 => lsm_bools); (case bZ77 => tb_start))
  | (intro p hp; repeat (first | exact hp | refine List.mem_cons_of_mem _ ?_ | refine List.Mem.tail _ ?_ | refine GrowT.mem' (by assumption) ?_ | refine GrowT.mem (by assumption) ?_ | fail "no entry"))
  | fail "not within"
  k_with "k_all" => first
  | assumption
  | (refine' GrowT.off ?gZ78 ?oZ78 ?NZ78 ?sZ78 ?mZ78 ?cZ78; (case gZ78 => assumption); (case NZ78 => k_asm); (case sZ78 => tb_start); (case mZ78 => lsm_bools); (case cZ78 => rfl); (case oZ78 => k_all))
  | (refine' offLt ?hZ78 ?sZ78; (case hZ78 => assumption); (case sZ78 => tb_start))
  | (refine' offLt3 ?qZ78 ?hZ78 ?sZ78; (case qZ78 => assumption); (case hZ78 => assumption); (case sZ78 => tb_start))
  | fail "not apart"
  k_with "kqd_sub" => first
  | (refine' Cut.own ?mZ79 ?rZ79; (case mZ79 => lsm_bools); (case rZ79 => kqd_sub))
  | (refine' Cut.oth ?oZ79 ?rZ79; (case oZ79 => k_all); (case rZ79 => kqd_sub))
  | exact Cut.tail
  | fail "no cut"
  k_with "ktr_rel" => first
  | exact subT_nil
  | exact subT_of (fun _ hp => hp)
  | assumption
  | (refine' subT_skip ?aZ80 ?bZ80; (case aZ80 => rfl); (case bZ80 => ktr_rel))
  | (refine' subT_cons ?aZ80 ?bZ80; (case aZ80 => lsm_bools); (case bZ80 => ktr_rel))
  | (refine' subT_of ?hZ80; (case hZ80 => tb_start))
  | (refine' subT_app (by ktr_rel) (by ktr_rel))
  | fail "tuples not within"
  k_with "k_room" => ktr_room
  k_with "k_units" => ktr_units
  k_with "tb_rel" => first
  | exact TAll.nil
  | exact TIn.str _ _
  | exact TIn.int _ _
  | exact TIn.bytes _ _
  | assumption
  | (refine' TIn.mono ?sZ83 ?hZ83; (case hZ83 => assumption); (case sZ83 => ktr_rel))
  | (refine' TAll.mono ?sZ83 ?hZ83; (case hZ83 => assumption); (case sZ83 => ktr_rel))
  | (refine' TIn.tuple ?mZ83 ?rZ83; (case mZ83 => lsm_bools); (case rZ83 => tb_rel))
  | (refine' TAll.cons (by tb_rel) (by tb_rel))
  | fail "no tree"
  k_with "call ref" => (k_here; (with_reducible show wpAny _ _ (call (Value.ref 214) [Value.str _ _] _) _ _ _); k_dflt (refine' sym_use ?CZ84 ?hcZ84 ?BZ84 ?FZ84 ?XZ84 ?NZ84 ?TZ84 ?hkZ84 ?hdZ84 ?huZ84 ?_; (case CZ84 => exact sym_con _); (case NZ84 => k_asm); (case hcZ84 => kqd_sub); (case BZ84 => k_asm); (case FZ84 => k_asm); (case XZ84 => k_asm); (case TZ84 => k_asm); (case hkZ84 => first | rfl | assumption); (case hdZ84 => ktr_room); (case huZ84 => ktr_units); k_whole; intro a' Y' h' tk' g' F' N' hr'; (try simp only [List.cons_append, List.nil_append] at N'); (try k_fold)))
  k_with "call ref" => (k_here; (with_reducible show wpAny _ _ (call (Value.ref 207) [Value.str _ _, Value.ref _] _) _ _ _); k_dflt (refine' tree_use ?CZ85 ?hcZ85 ?hmZ85 ?hlZ85 ?hTZ85 ?BZ85 ?FZ85 ?XZ85 ?NZ85 ?TZ85 ?hkZ85 ?hdZ85 ?huZ85 ?_; (case CZ85 => exact tree_con _); (case NZ85 => k_asm); (case hcZ85 => kqd_sub); (case hmZ85 => lsm_bools); (case hlZ85 => exact Nat.le_of_ble_eq_true rfl); (case hTZ85 => tb_rel); (case BZ85 => k_asm); (case FZ85 => k_asm); (case XZ85 => k_asm); (case TZ85 => k_asm); (case hkZ85 => first | rfl | assumption); (case hdZ85 => ktr_room); (case huZ85 => ktr_units); k_whole; intro a' Y' h' tk' g' F' N' hr'; (try simp only [List.cons_append, List.nil_append] at N'); (try k_fold)))
  k_with "compareOp In str ref" => (k_here; k_dflt (refine' in_tupL ?htZ86 ?hiZ86 ?_; (case htZ86 => (refine' tupK ?XZ86 ?lZ86; (case XZ86 => k_in); (case lZ86 => k_is))); (case hiZ86 => exact rfl)))
  k_with "compareOp Eq ref ref" => (k_here; k_dflt (first
  | (refine' eq_dat (r := false) ?HZ87 ?d1Z87 ?d2Z87 ?hcZ87 ?hdZ87 ?huZ87 ?_; (case HZ87 => exact heldOf (by k_asm)); (case d1Z87 => tb_rel); (case d2Z87 => tb_rel); (case hcZ87 => with_unfolding_all rfl); (case hdZ87 => exact Nat.le_of_ble_eq_true rfl); (case huZ87 => ktr_units))
  | (refine' eq_dat (r := true) ?HZ87 ?d1Z87 ?d2Z87 ?hcZ87 ?hdZ87 ?huZ87 ?_; (case HZ87 => exact heldOf (by k_asm)); (case d1Z87 => tb_rel); (case d2Z87 => tb_rel); (case hcZ87 => with_unfolding_all rfl); (case hdZ87 => exact Nat.le_of_ble_eq_true rfl); (case huZ87 => ktr_units))))
  k_with "compareOp NotEq ref ref" => (k_here; k_dflt (first
  | (refine' ne_dat (r := false) ?HZ88 ?d1Z88 ?d2Z88 ?hcZ88 ?hdZ88 ?huZ88 ?_; (case HZ88 => exact heldOf (by k_asm)); (case d1Z88 => tb_rel); (case d2Z88 => tb_rel); (case hcZ88 => with_unfolding_all rfl); (case hdZ88 => exact Nat.le_of_ble_eq_true rfl); (case huZ88 => ktr_units))
  | (refine' ne_dat (r := true) ?HZ88 ?d1Z88 ?d2Z88 ?hcZ88 ?hdZ88 ?huZ88 ?_; (case HZ88 => exact heldOf (by k_asm)); (case d1Z88 => tb_rel); (case d2Z88 => tb_rel); (case hcZ88 => with_unfolding_all rfl); (case hdZ88 => exact Nat.le_of_ble_eq_true rfl); (case huZ88 => ktr_units))))
  k_with "subscriptTail Name Constant ref int" => (k_here; k_dflt (refine' item_tupleT ?tZ89 ?aZ89 ?bZ89 ?cZ89 ?dZ89 ?_; (case tZ89 => exact News.isTup (by k_asm) (by k_mem)); (case aZ89 => decide); (case bZ89 => decide); (case cZ89 => rfl); (case dZ89 => rfl); k_whole))
  k_with "ite" => (k_closed; k_dflt (first | (refine' ite_pos ?cZ90 ?_; (case cZ90 => decide)) | (refine' ite_neg ?cZ90 ?_; (case cZ90 => decide))))
  k_with "call ref" => (k_here; (with_reducible show wpAny _ _ (call (Value.ref 61) [Value.str _ _] _) _ _ _); k_dflt (refine' sym_use ?CZ91 ?hcZ91 ?BZ91 ?FZ91 ?XZ91 ?NZ91 ?TZ91 ?hkZ91 ?hdZ91 ?huZ91 ?_; (case CZ91 => exact symF_con _); (case NZ91 => k_asm); (case hcZ91 => kqd_sub); (case BZ91 => k_asm); (case FZ91 => k_asm); (case XZ91 => k_asm); (case TZ91 => k_asm); (case hkZ91 => first | rfl | assumption); (case hdZ91 => ktr_room); (case huZ91 => ktr_units); k_whole; intro a' Y' h' tk' g' F' N' hr'; (try simp only [List.cons_append, List.nil_append] at N'); (try k_fold)))
  k_with "subscriptTail Name Slice ref ref" => (k_here; k_dflt (first
  | (refine' slice_whole ?FZ92 ?NZ92 ?tZ92 ?lZ92 ?zZ92 ?_ ?hsZ92 ?hgZ92; (case FZ92 => k_asm); (case NZ92 => k_asm); (case tZ92 => lsm_bools); (case lZ92 => exact Nat.le_of_ble_eq_true rfl); (case zZ92 => exact Nat.le_of_ble_eq_true rfl); (case hsZ92 => with_unfolding_all rfl); (case hgZ92 => (intro _; with_unfolding_all rfl)); k_whole; intro h' F' N'; (try k_sweep))
  | (refine' slice_upto ?FZ92 ?NZ92 ?tZ92 ?lZ92 ?zZ92 ?_ ?hsZ92 ?hgZ92; (case FZ92 => k_asm); (case NZ92 => k_asm); (case tZ92 => lsm_bools); (case lZ92 => exact Nat.le_of_ble_eq_true rfl); (case zZ92 => exact Nat.le_of_ble_eq_true rfl); (case hsZ92 => with_unfolding_all rfl); (case hgZ92 => (intro _; with_unfolding_all rfl)); k_whole; intro D' h' F' N' l1; (try k_lt l1); (try k_sweep))))
  k_with "subscriptTail Name Slice ref ref" => (k_here; k_dflt
  (refine' slice_from ?FZ93 ?NZ93 ?tZ93 ?oZ93 ?lZ93 ?zZ93 ?_ ?hsZ93 ?hgZ93; (case FZ93 => k_asm); (case NZ93 => k_asm); (case tZ93 => lsm_bools); (case oZ93 => exact Nat.le_of_ble_eq_true rfl); (case lZ93 => (simp only [List.length_cons]; omega)); (case zZ93 => (simp only [sizeLine_eq, List.length_cons]; omega)); (case hsZ93 => with_unfolding_all rfl); (case hgZ93 => (intro _; with_unfolding_all rfl)); k_whole; intro D' h' F' N' l1; (try k_lt l1); (try k_sweep)))
  k_with "subscriptTail Subscript Name Constant Slice ref ref" => (k_here; k_dflt
  (refine' slice_from ?FZ94 ?NZ94 ?tZ94 ?oZ94 ?lZ94 ?zZ94 ?_ ?hsZ94 ?hgZ94; (case FZ94 => k_asm); (case NZ94 => k_asm); (case tZ94 => lsm_bools); (case oZ94 => exact Nat.le_of_ble_eq_true rfl); (case lZ94 => (simp only [List.length_cons]; omega)); (case zZ94 => (simp only [sizeLine_eq, List.length_cons]; omega)); (case hsZ94 => with_unfolding_all rfl); (case hgZ94 => (intro _; with_unfolding_all rfl)); k_whole; intro D' h' F' N' l1; (try k_lt l1); (try k_sweep)))
  k_with "call type:tuple cons nil" => (k_here; k_dflt (refine' tuple_of ?FZ95 ?NZ95 ?tZ95 ?zZ95 ?_; (case FZ95 => k_asm); (case NZ95 => k_asm); (case tZ95 => lsm_bools); (case zZ95 => first | exact Nat.le_of_ble_eq_true rfl | (simp only [sizeLine_eq, List.length_append, List.length_cons, List.length_nil]; omega)); k_whole; intro D' h' F' N' l1; (try k_lt l1); (try k_sweep)))
  k_with "subscriptTail Name Constant ref int" => (k_here; k_dflt (refine' item_tupI ?NZ96 ?mZ96 ?aZ96 ?bZ96 ?cZ96 ?_; (case NZ96 => k_asm); (case mZ96 => lsm_bools); (case aZ96 => decide); (case bZ96 => decide); (case cZ96 => exact rfl); k_whole))
  k_with "subscriptTail Subscript Name Constant Constant ref int" => (k_here; k_dflt (refine' item_tupI ?NZ97 ?mZ97 ?aZ97 ?bZ97 ?cZ97 ?_; (case NZ97 => k_asm); (case mZ97 => lsm_bools); (case aZ97 => decide); (case bZ97 => decide); (case cZ97 => exact rfl); k_whole))
  k_with "subscriptTail Subscript Subscript Constant Constant ref int" => (k_here; k_dflt (refine' item_tupI ?NZ98 ?mZ98 ?aZ98 ?bZ98 ?cZ98 ?_; (case NZ98 => k_asm); (case mZ98 => lsm_bools); (case aZ98 => decide); (case bZ98 => decide); (case cZ98 => exact rfl); k_whole))
  k_with "subscriptTail Call Name cons nil Constant ref int" => (k_here; k_dflt (refine' item_tupI ?NZ99 ?mZ99 ?aZ99 ?bZ99 ?cZ99 ?_; (case NZ99 => k_asm); (case mZ99 => lsm_bools); (case aZ99 => decide); (case bZ99 => decide); (case cZ99 => exact rfl); k_whole))
  k_with "binaryOp Add ref ref" => (k_here; k_dflt (refine' add_tupC ?FZ100 ?NZ100 ?aZ100 ?bZ100 ?l1Z100 ?l2Z100 ?zZ100 ?_; (case FZ100 => k_asm); (case NZ100 => k_asm); (case aZ100 => lsm_bools); (case bZ100 => lsm_bools); (case l1Z100 => (simp only [List.length_cons, List.length_nil]; omega)); (case l2Z100 => omega); (case zZ100 => (simp only [sizeLine_eq, List.length_cons, List.length_nil]; omega)); k_whole; intro D' h' F' N' l1; (try k_lt l1); (try k_sweep)))
  k_with "call type:tuple cons nil" => (k_here; k_dflt (refine' tuple_same ?NZ101 ?tZ101 ?_; (case NZ101 => k_asm); (case tZ101 => lsm_bools); k_whole))
  k_with "call builtin:len cons nil" => (k_here; k_dflt (refine' len_tupK ?NZ102 ?tZ102 ?zZ102 ?_; (case NZ102 => k_asm); (case tZ102 => lsm_bools); (case zZ102 => (simp only [sizeLine_eq, List.length_cons, List.length_nil]; omega)); k_whole; intro tk1' tk2'))
  trivial
/-- what parts_of and is_sym answer, by what stands in the ledger -/
noncomputable def PartsC (w : World) : Prop := ∀ (a b : Addr) (t1 : Tok) (x : Value) (n : Nat) (Y : List (Addr × Obj)), (a, tupObj [.str (kS "expr") t1, x, .ref b] n) ∈ Y → Con w 75 [.ref a] 5 40 [] Y (fun M' _ r => M' = [] ∧ r = .ref b)
noncomputable def Parts0C (w : World) : Prop := ∀ (a : Addr) (k : Str) (t1 : Tok) (x : Value) (n : Nat) (Y : List (Addr × Obj)), (a, tupObj [.str k t1, x] n) ∈ Y → (k == kS "expr") = false → Con w 75 [.ref a] 5 40 [] Y (fun M' Y₁ r => M' = [] ∧ ∃ d j, r = .ref d ∧ (d, tupObj [] j) ∈ Y₁)
noncomputable def IsSymC (w : World) : Prop := ∀ (a : Addr) (k : Str) (t1 : Tok) (xs : List Value) (n : Nat) (Y : List (Addr × Obj)), (a, tupObj (.str k t1 :: xs) n) ∈ Y → Con w 82 [.ref a] 5 40 [] Y (fun M' _ r => M' = [] ∧ r = .bool (k == kS "sym"))
set_option maxHeartbeats 4000000 in
theorem parts_con (w : World) : PartsC w := by
  intro a b t1 x n Y hm
  refine Con.intro ?_
  intro dp un gd cn cs fa ccd cl outer A₀ base h₀ L m s mean mg mb Q E B F X N Tp hk hd hu fin
  simp only [List.nil_append] at N
  refine wpAny_call ?_
  w_strict (
    k_dflt ktr_enter
    k_steps)
  exact fin [] _ _ _ _ (by k_asm) (by k_asm) (List.forall_mem_nil _) (by tb_start) (fun Y₁ hs => ⟨rfl, rfl⟩)
set_option maxHeartbeats 4000000 in
theorem parts0_con (w : World) : Parts0C w := by
  intro a k t1 x n Y hm hk0
  have hk1 : k ≠ kS "expr" := fun e => by rw [e] at hk0; exact absurd hk0 (by decide)
  refine Con.intro ?_
  intro dp un gd cn cs fa ccd cl outer A₀ base h₀ L m s mean mg mb Q E B F X N Tp hk hd hu fin
  simp only [List.nil_append] at N
  refine wpAny_call ?_
  w_strict (
    k_dflt ktr_enter
    k_steps)
  exact fin [] _ _ _ _ (by k_asm) (by k_asm) (List.forall_mem_nil _) (by tb_start) (fun Y₁ hs => ⟨rfl, _, _, rfl, hs _ (by lsm_bools) rfl⟩)
set_option maxHeartbeats 4000000 in
theorem isSym_con (w : World) : IsSymC w := by
  intro a k t1 xs n Y hm
  refine Con.intro ?_
  intro dp un gd cn cs fa ccd cl outer A₀ base h₀ L m s mean mg mb Q E B F X N Tp hk hd hu fin
  simp only [List.nil_append] at N
  refine wpAny_call ?_
  w_strict (
    k_dflt ktr_enter
    k_steps)
  exact fin [] _ _ _ _ (by k_asm) (by k_asm) (List.forall_mem_nil _) (by tb_start) (fun Y₁ hs => ⟨rfl, rfl⟩)
section
variable {w : World} {Y news ex : List (Addr × Obj)}
  {dp un : Nat} {gd : Option (List Code)} {cn : Str} {cs : Scope} {fa : Addr} {ccd : Value} {cl : List (Str × Addr)} {outer : List Env} {A₀ : Around} {base h₀ : Heap} {L0 : Addr} {m : Str → Option Value} {s : Shared}
  {mean : ExcName → Option Value} {mg mb : Str → Option Value} {Q E : Value → Shared → Prop}
theorem parts_use {a b : Addr} {t1 : Tok} {x : Value} {n : Nat} (hm : (a, tupObj [.str (kS "expr") t1, x, .ref b] n) ∈ news) (B : Below A₀ base outer h₀) (F : Fr h₀ L0 s.heap m) (X : (hd.heap_39 w.params).In h₀) (N : News h₀ L0 s.heap news)
    (Tp : Top hd.view_39 (looseW hd.view_39 [Str.ofString "RowsError"]) mean mg mb h₀) (hk : cs.kind = .function) (hd : dp + 5 < recursionLimit) (hu : un + 40 < cLine)
    (ret : ∀ h' tk', Fr h₀ L0 h' m → News h₀ L0 h' news → Q (.ref b) { s with heap := h', toks := tk' }) :
    wpAny (model PySem.Challenge.rw_pq0689_01.row.prog w) (ktrTop dp un gd cn cs L0 fa ccd cl outer) (call (.ref 75) [.ref a]) Q E s := by
  refine Con.use (Y := news) (ex := []) (fun _ => parts_con w a b t1 x n ([] ++ news) hm) ?_ .tail (fun _ h => nomatch h) (fun _ h => nomatch h) B F X N Tp hk hd hu ?_
  · rintro M' X Z r hs ⟨h1, h2⟩
    exact ⟨h1, h2⟩
  · rintro r M' Y₂ h' tk' g F' N' ⟨rfl, rfl⟩
    exact ret h' tk' F' fun p hp => N' p (g.1 p hp)
theorem parts0_use {a : Addr} {k : Str} {t1 : Tok} {x : Value} {n : Nat} (hc : Cut [] Y news ex) (hm : (a, tupObj [.str k t1, x] n) ∈ news) (hk0 : (k == kS "expr") = false) (B : Below A₀ base outer h₀) (F : Fr h₀ L0 s.heap m) (X : (hd.heap_39 w.params).In h₀) (N : News h₀ L0 s.heap news)
    (Tp : Top hd.view_39 (looseW hd.view_39 [Str.ofString "RowsError"]) mean mg mb h₀) (hk : cs.kind = .function) (hd : dp + 5 < recursionLimit) (hu : un + 40 < cLine)
    (ret : ∀ d j Y₂ h' tk', GrowT Y Y₂ → Fr h₀ L0 h' m → News h₀ L0 h' (ex ++ Y₂) → (d, tupObj [] j) ∈ Y₂ → Q (.ref d) { s with heap := h', toks := tk' }) :
    wpAny (model PySem.Challenge.rw_pq0689_01.row.prog w) (ktrTop dp un gd cn cs L0 fa ccd cl outer) (call (.ref 75) [.ref a]) Q E s := by
  refine Con.use (ex := ex) (Y := Y) (fun _ => parts0_con w a k t1 x n _ (hc.all _ hm) hk0) ?_ hc (fun _ h => nomatch h) (fun _ h => nomatch h) B F X N Tp hk hd hu ?_
  · rintro M' X Z r hs ⟨h1, d, j, h2, h3⟩
    exact ⟨h1, d, j, h2, hs _ h3 rfl⟩
  · rintro r M' Y₂ h' tk' g F' N' ⟨rfl, d, j, rfl, h3⟩
    exact ret d j Y₂ h' tk' g F' (by simpa using N') h3
theorem isSym_use {a : Addr} {k : Str} {t1 : Tok} {xs : List Value} {n : Nat} {b : Bool} (hm : (a, tupObj (.str k t1 :: xs) n) ∈ news) (e : (k == kS "sym") = b) (B : Below A₀ base outer h₀) (F : Fr h₀ L0 s.heap m) (X : (hd.heap_39 w.params).In h₀) (N : News h₀ L0 s.heap news)
    (Tp : Top hd.view_39 (looseW hd.view_39 [Str.ofString "RowsError"]) mean mg mb h₀) (hk : cs.kind = .function) (hd : dp + 5 < recursionLimit) (hu : un + 40 < cLine)
    (ret : ∀ h' tk', Fr h₀ L0 h' m → News h₀ L0 h' news → Q (.bool b) { s with heap := h', toks := tk' }) :
    wpAny (model PySem.Challenge.rw_pq0689_01.row.prog w) (ktrTop dp un gd cn cs L0 fa ccd cl outer) (call (.ref 82) [.ref a]) Q E s := by
  refine Con.use (Y := news) (ex := []) (fun _ => isSym_con w a k t1 xs n ([] ++ news) hm) ?_ .tail (fun _ h => nomatch h) (fun _ h => nomatch h) B F X N Tp hk hd hu ?_
  · rintro M' X Z r hs ⟨h1, h2⟩
    exact ⟨h1, h2⟩
  · rintro r M' Y₂ h' tk' g F' N' ⟨rfl, rfl⟩
    rw [e]
    exact ret h' tk' F' fun p hp => N' p (g.1 p hp)
end
end
section
-- ExprC
theorem reset_ExprC : True := by
  w_top off
  k_with_none
  k_with "kt_len" => first | assumption | exact ltm (by assumption) (by lsm_bools) | exact lt3 (by assumption) (by assumption) (by lsm_bools) | exact ltk (by assumption) | exact lk0 (by assumption) (by rfl) | exact lk1 (by assumption) (by rfl) | exact ltn (by assumption) (by lsm_bools) | exact lka (by rfl) | exact lkb (by rfl) | exact And.left (by assumption) | exact pj1 (by assumption) | exact pj2 (by assumption) | fail "no"
  k_with "ktr_room" => first | exact szg (by rfl) | exact rm2 (by assumption) (by rfl) | exact rs2 (by assumption) (by rfl) | exact rm0 (by assumption) | exact rm1 (by assumption) (by rfl) | exact rs1 (by assumption) (by rfl) | exact rm3 (by assumption) (by rfl) | exact rm4 (by assumption) (by rfl) | exact rm5 (by assumption) (by rfl) | exact rmn (by assumption) (by assumption) (by rfl) | exact rmt (by assumption) (by rfl) | fail "no"
  k_with "ktr_units" => k_extra "ktr_room"
  k_with "omega" => first | with_reducible assumption | (show (_ : Nat) < _; first | assumption | k_extra "ktr_room") | (show (_ : Nat) ≤ _; first | assumption | exact szg (by rfl) | exact sza (by assumption) (by rfl) | exact szb (by assumption) (by assumption) (by rfl) | exact szc (by assumption) (by rfl) | exact szd (by assumption) (by rfl) | exact cza (by assumption) (by rfl) | exact szs (by assumption) | exact Nat.le_of_eq (by assumption)) | (show (_ : Nat) ≠ _; first | assumption | exact Ne.symm (by assumption) | exact ofI (by assumption) (by lsm_bools) | exact ofC (by assumption) (by lsm_bools) | exact ofD (by assumption) (by lsm_bools) | exact fI (by assumption) (by lsm_bools) | exact fC (by assumption) (by lsm_bools) | exact fD (by assumption) (by lsm_bools) | exact Nat.ne_of_lt (by kt_len) | exact Nat.ne_of_gt (by kt_len)) | (show (_ : Nat) < _ ∨ _; first | exact Or.inl (by kt_len) | exact Or.inr (by kt_len)) | fail "no"
  k_with "lsm_bools" => first | exact List.Mem.head _ | assumption | (refine' List.Mem.tail _ ?_; lsm_bools) | (refine' GrowT.mem ?gZ109 ?hZ109; (case gZ109 => assumption); (case hZ109 => lsm_bools)) | fail "no entry"
  k_with "k_mem" => first | lsm_bools | fail "no entry"
  k_with "tb_start" => first
  | exact List.forall_mem_nil _
  | (refine' List.forall_mem_cons.mpr ⟨?aZ111, ?bZ111⟩; (case aZ111 => lsm_bools); (case bZ111 => tb_start))
  | (intro p hp; repeat (first | exact hp | refine List.mem_cons_of_mem _ ?_ | refine List.Mem.tail _ ?_ | refine GrowT.mem' (by assumption) ?_ | refine GrowT.mem (by assumption) ?_ | fail "no entry"))
  | fail "not within"
  k_with "k_all" => first
  | assumption
  | (refine' GrowT.off ?gZ112 ?oZ112 ?NZ112 ?sZ112 ?mZ112 ?cZ112; (case gZ112 => assumption); (case NZ112 => k_asm); (case sZ112 => tb_start); (case mZ112 => lsm_bools); (case cZ112 => rfl); (case oZ112 => k_all))
  | (refine' offLt ?hZ112 ?sZ112; (case hZ112 => assumption); (case sZ112 => tb_start))
  | (refine' offLt3 ?qZ112 ?hZ112 ?sZ112; (case qZ112 => assumption); (case hZ112 => assumption); (case sZ112 => tb_start))
  | fail "not apart"
  k_with "kqd_sub" => first
  | (refine' Cut.own ?mZ113 ?rZ113; (case mZ113 => lsm_bools); (case rZ113 => kqd_sub))
  | (refine' Cut.oth ?oZ113 ?rZ113; (case oZ113 => k_all); (case rZ113 => kqd_sub))
  | exact Cut.tail
  | fail "no cut"
  k_with "ktr_rel" => first
  | exact subT_nil
  | exact subT_of (fun _ hp => hp)
  | assumption
  | (refine' subT_skip ?aZ114 ?bZ114; (case aZ114 => rfl); (case bZ114 => ktr_rel))
  | (refine' subT_cons ?aZ114 ?bZ114; (case aZ114 => lsm_bools); (case bZ114 => ktr_rel))
  | (refine' subT_of ?hZ114; (case hZ114 => tb_start))
  | (refine' subT_app (by ktr_rel) (by ktr_rel))
  | fail "tuples not within"
  k_with "k_room" => ktr_room
  k_with "k_units" => ktr_units
  k_with "tb_rel" => first
  | exact TAll.nil
  | exact TIn.str _ _
  | exact TIn.int _ _
  | exact TIn.bytes _ _
  | assumption
  | (refine' TIn.mono ?sZ117 ?hZ117; (case hZ117 => assumption); (case sZ117 => ktr_rel))
  | (refine' TAll.mono ?sZ117 ?hZ117; (case hZ117 => assumption); (case sZ117 => ktr_rel))
  | (refine' TIn.tuple ?mZ117 ?rZ117; (case mZ117 => lsm_bools); (case rZ117 => tb_rel))
  | (refine' TAll.cons (by tb_rel) (by tb_rel))
  | fail "no tree"
  k_with "call ref" => (k_here; (with_reducible show wpAny _ _ (call (Value.ref 214) [Value.str _ _] _) _ _ _); k_dflt (refine' sym_use ?CZ118 ?hcZ118 ?BZ118 ?FZ118 ?XZ118 ?NZ118 ?TZ118 ?hkZ118 ?hdZ118 ?huZ118 ?_; (case CZ118 => exact sym_con _); (case NZ118 => k_asm); (case hcZ118 => kqd_sub); (case BZ118 => k_asm); (case FZ118 => k_asm); (case XZ118 => k_asm); (case TZ118 => k_asm); (case hkZ118 => first | rfl | assumption); (case hdZ118 => ktr_room); (case huZ118 => ktr_units); k_whole; intro a' Y' h' tk' g' F' N' hr'; (try simp only [List.cons_append, List.nil_append] at N'); (try k_fold)))
  k_with "call ref" => (k_here; (with_reducible show wpAny _ _ (call (Value.ref 207) [Value.str _ _, Value.ref _] _) _ _ _); k_dflt (refine' tree_use ?CZ119 ?hcZ119 ?hmZ119 ?hlZ119 ?hTZ119 ?BZ119 ?FZ119 ?XZ119 ?NZ119 ?TZ119 ?hkZ119 ?hdZ119 ?huZ119 ?_; (case CZ119 => exact tree_con _); (case NZ119 => k_asm); (case hcZ119 => kqd_sub); (case hmZ119 => lsm_bools); (case hlZ119 => exact Nat.le_of_ble_eq_true rfl); (case hTZ119 => tb_rel); (case BZ119 => k_asm); (case FZ119 => k_asm); (case XZ119 => k_asm); (case TZ119 => k_asm); (case hkZ119 => first | rfl | assumption); (case hdZ119 => ktr_room); (case huZ119 => ktr_units); k_whole; intro a' Y' h' tk' g' F' N' hr'; (try simp only [List.cons_append, List.nil_append] at N'); (try k_fold)))
  k_with "call ref" => (k_here; (with_reducible show wpAny _ _ (call (Value.ref 82) [Value.ref _] _) _ _ _); k_dflt (refine' isSym_use ?hmZ120 ?eZ120 ?BZ120 ?FZ120 ?XZ120 ?NZ120 ?TZ120 ?hkZ120 ?hdZ120 ?huZ120 ?_; (case NZ120 => k_asm); (case hmZ120 => lsm_bools); (case eZ120 => first | rfl | decide); (case BZ120 => k_asm); (case FZ120 => k_asm); (case XZ120 => k_asm); (case TZ120 => k_asm); (case hkZ120 => first | rfl | assumption); (case hdZ120 => ktr_room); (case huZ120 => ktr_units); k_whole; intro h' tk' F' N'; (try k_fold)))
  k_with "call ref" => (k_here; (with_reducible show wpAny _ _ (call (Value.ref 75) [Value.ref _] _) _ _ _); k_dflt (first
  | (refine' parts_use ?hmZ121 ?BZ121 ?FZ121 ?XZ121 ?NZ121 ?TZ121 ?hkZ121 ?hdZ121 ?huZ121 ?_; (case NZ121 => k_asm); (case hmZ121 => lsm_bools); (case BZ121 => k_asm); (case FZ121 => k_asm); (case XZ121 => k_asm); (case TZ121 => k_asm); (case hkZ121 => first | rfl | assumption); (case hdZ121 => ktr_room); (case huZ121 => ktr_units); k_whole; intro h' tk' F' N'; (try k_fold))
  | (refine' parts0_use ?hcZ121 ?hmZ121 ?hzZ121 ?BZ121 ?FZ121 ?XZ121 ?NZ121 ?TZ121 ?hkZ121 ?hdZ121 ?huZ121 ?_; (case NZ121 => k_asm); (case hmZ121 => lsm_bools); (case hzZ121 => decide); (case hcZ121 => kqd_sub); (case BZ121 => k_asm); (case FZ121 => k_asm); (case XZ121 => k_asm); (case TZ121 => k_asm); (case hkZ121 => first | rfl | assumption); (case hdZ121 => ktr_room); (case huZ121 => ktr_units); k_whole; intro d' j' Y' h' tk' g' F' N' hm'; (try simp only [List.cons_append, List.nil_append] at N'); (try k_fold))))
  k_with "compareOp In str ref" => (k_here; k_dflt (refine' in_tupL ?htZ122 ?hiZ122 ?_; (case htZ122 => (refine' tupK ?XZ122 ?lZ122; (case XZ122 => k_in); (case lZ122 => k_is))); (case hiZ122 => exact rfl)))
  k_with "compareOp Eq ref ref" => (k_here; k_dflt (first
  | (refine' eq_dat (r := false) ?HZ123 ?d1Z123 ?d2Z123 ?hcZ123 ?hdZ123 ?huZ123 ?_; (case HZ123 => exact heldOf (by k_asm)); (case d1Z123 => tb_rel); (case d2Z123 => tb_rel); (case hcZ123 => with_unfolding_all rfl); (case hdZ123 => exact Nat.le_of_ble_eq_true rfl); (case huZ123 => ktr_units))
  | (refine' eq_dat (r := true) ?HZ123 ?d1Z123 ?d2Z123 ?hcZ123 ?hdZ123 ?huZ123 ?_; (case HZ123 => exact heldOf (by k_asm)); (case d1Z123 => tb_rel); (case d2Z123 => tb_rel); (case hcZ123 => with_unfolding_all rfl); (case hdZ123 => exact Nat.le_of_ble_eq_true rfl); (case huZ123 => ktr_units))))
  k_with "compareOp NotEq ref ref" => (k_here; k_dflt (first
  | (refine' ne_dat (r := false) ?HZ124 ?d1Z124 ?d2Z124 ?hcZ124 ?hdZ124 ?huZ124 ?_; (case HZ124 => exact heldOf (by k_asm)); (case d1Z124 => tb_rel); (case d2Z124 => tb_rel); (case hcZ124 => with_unfolding_all rfl); (case hdZ124 => exact Nat.le_of_ble_eq_true rfl); (case huZ124 => ktr_units))
  | (refine' ne_dat (r := true) ?HZ124 ?d1Z124 ?d2Z124 ?hcZ124 ?hdZ124 ?huZ124 ?_; (case HZ124 => exact heldOf (by k_asm)); (case d1Z124 => tb_rel); (case d2Z124 => tb_rel); (case hcZ124 => with_unfolding_all rfl); (case hdZ124 => exact Nat.le_of_ble_eq_true rfl); (case huZ124 => ktr_units))))
  k_with "subscriptTail Name Constant ref int" => (k_here; k_dflt (refine' item_tupleT ?tZ125 ?aZ125 ?bZ125 ?cZ125 ?dZ125 ?_; (case tZ125 => exact News.isTup (by k_asm) (by k_mem)); (case aZ125 => decide); (case bZ125 => decide); (case cZ125 => rfl); (case dZ125 => rfl); k_whole))
  k_with "ite" => (k_closed; k_dflt (first | (refine' ite_pos ?cZ126 ?_; (case cZ126 => decide)) | (refine' ite_neg ?cZ126 ?_; (case cZ126 => decide))))
  k_with "call ref" => (k_here; (with_reducible show wpAny _ _ (call (Value.ref 61) [Value.str _ _] _) _ _ _); k_dflt (refine' sym_use ?CZ127 ?hcZ127 ?BZ127 ?FZ127 ?XZ127 ?NZ127 ?TZ127 ?hkZ127 ?hdZ127 ?huZ127 ?_; (case CZ127 => exact symF_con _); (case NZ127 => k_asm); (case hcZ127 => kqd_sub); (case BZ127 => k_asm); (case FZ127 => k_asm); (case XZ127 => k_asm); (case TZ127 => k_asm); (case hkZ127 => first | rfl | assumption); (case hdZ127 => ktr_room); (case huZ127 => ktr_units); k_whole; intro a' Y' h' tk' g' F' N' hr'; (try simp only [List.cons_append, List.nil_append] at N'); (try k_fold)))
  k_with "subscriptTail Name Slice ref ref" => (k_here; k_dflt (first
  | (refine' slice_whole ?FZ128 ?NZ128 ?tZ128 ?lZ128 ?zZ128 ?_ ?hsZ128 ?hgZ128; (case FZ128 => k_asm); (case NZ128 => k_asm); (case tZ128 => lsm_bools); (case lZ128 => exact Nat.le_of_ble_eq_true rfl); (case zZ128 => exact Nat.le_of_ble_eq_true rfl); (case hsZ128 => with_unfolding_all rfl); (case hgZ128 => (intro _; with_unfolding_all rfl)); k_whole; intro h' F' N'; (try k_sweep))
  | (refine' slice_upto ?FZ128 ?NZ128 ?tZ128 ?lZ128 ?zZ128 ?_ ?hsZ128 ?hgZ128; (case FZ128 => k_asm); (case NZ128 => k_asm); (case tZ128 => lsm_bools); (case lZ128 => exact Nat.le_of_ble_eq_true rfl); (case zZ128 => exact Nat.le_of_ble_eq_true rfl); (case hsZ128 => with_unfolding_all rfl); (case hgZ128 => (intro _; with_unfolding_all rfl)); k_whole; intro D' h' F' N' l1; (try k_lt l1); (try k_sweep))))
  k_with "subscriptTail Name Slice ref ref" => (k_here; k_dflt
  (refine' slice_from ?FZ129 ?NZ129 ?tZ129 ?oZ129 ?lZ129 ?zZ129 ?_ ?hsZ129 ?hgZ129; (case FZ129 => k_asm); (case NZ129 => k_asm); (case tZ129 => lsm_bools); (case oZ129 => exact Nat.le_of_ble_eq_true rfl); (case lZ129 => (simp only [List.length_cons]; omega)); (case zZ129 => (simp only [sizeLine_eq, List.length_cons]; omega)); (case hsZ129 => with_unfolding_all rfl); (case hgZ129 => (intro _; with_unfolding_all rfl)); k_whole; intro D' h' F' N' l1; (try k_lt l1); (try k_sweep)))
  k_with "subscriptTail Subscript Name Constant Slice ref ref" => (k_here; k_dflt
  (refine' slice_from ?FZ130 ?NZ130 ?tZ130 ?oZ130 ?lZ130 ?zZ130 ?_ ?hsZ130 ?hgZ130; (case FZ130 => k_asm); (case NZ130 => k_asm); (case tZ130 => lsm_bools); (case oZ130 => exact Nat.le_of_ble_eq_true rfl); (case lZ130 => (simp only [List.length_cons]; omega)); (case zZ130 => (simp only [sizeLine_eq, List.length_cons]; omega)); (case hsZ130 => with_unfolding_all rfl); (case hgZ130 => (intro _; with_unfolding_all rfl)); k_whole; intro D' h' F' N' l1; (try k_lt l1); (try k_sweep)))
  k_with "call type:tuple cons nil" => (k_here; k_dflt (refine' tuple_of ?FZ131 ?NZ131 ?tZ131 ?zZ131 ?_; (case FZ131 => k_asm); (case NZ131 => k_asm); (case tZ131 => lsm_bools); (case zZ131 => first | exact Nat.le_of_ble_eq_true rfl | (simp only [sizeLine_eq, List.length_append, List.length_cons, List.length_nil]; omega)); k_whole; intro D' h' F' N' l1; (try k_lt l1); (try k_sweep)))
  k_with "subscriptTail Name Constant ref int" => (k_here; k_dflt (refine' item_tupI ?NZ132 ?mZ132 ?aZ132 ?bZ132 ?cZ132 ?_; (case NZ132 => k_asm); (case mZ132 => lsm_bools); (case aZ132 => decide); (case bZ132 => decide); (case cZ132 => exact rfl); k_whole))
  k_with "subscriptTail Subscript Name Constant Constant ref int" => (k_here; k_dflt (refine' item_tupI ?NZ133 ?mZ133 ?aZ133 ?bZ133 ?cZ133 ?_; (case NZ133 => k_asm); (case mZ133 => lsm_bools); (case aZ133 => decide); (case bZ133 => decide); (case cZ133 => exact rfl); k_whole))
  k_with "subscriptTail Subscript Subscript Constant Constant ref int" => (k_here; k_dflt (refine' item_tupI ?NZ134 ?mZ134 ?aZ134 ?bZ134 ?cZ134 ?_; (case NZ134 => k_asm); (case mZ134 => lsm_bools); (case aZ134 => decide); (case bZ134 => decide); (case cZ134 => exact rfl); k_whole))
  k_with "subscriptTail Call Name cons nil Constant ref int" => (k_here; k_dflt (refine' item_tupI ?NZ135 ?mZ135 ?aZ135 ?bZ135 ?cZ135 ?_; (case NZ135 => k_asm); (case mZ135 => lsm_bools); (case aZ135 => decide); (case bZ135 => decide); (case cZ135 => exact rfl); k_whole))
  k_with "binaryOp Add ref ref" => (k_here; k_dflt (refine' add_tupC ?FZ136 ?NZ136 ?aZ136 ?bZ136 ?l1Z136 ?l2Z136 ?zZ136 ?_; (case FZ136 => k_asm); (case NZ136 => k_asm); (case aZ136 => lsm_bools); (case bZ136 => lsm_bools); (case l1Z136 => (simp only [List.length_cons, List.length_nil]; omega)); (case l2Z136 => omega); (case zZ136 => (simp only [sizeLine_eq, List.length_cons, List.length_nil]; omega)); k_whole; intro D' h' F' N' l1; (try k_lt l1); (try k_sweep)))
  k_with "call type:tuple cons nil" => (k_here; k_dflt (refine' tuple_same ?NZ137 ?tZ137 ?_; (case NZ137 => k_asm); (case tZ137 => lsm_bools); k_whole))
  k_with "call builtin:len cons nil" => (k_here; k_dflt (refine' len_tupK ?NZ138 ?tZ138 ?zZ138 ?_; (case NZ138 => k_asm); (case tZ138 => lsm_bools); (case zZ138 => (simp only [sizeLine_eq, List.length_cons, List.length_nil]; omega)); k_whole; intro tk1' tk2'))
  trivial
/-- expr of a tuple: the tuple itself stands in the tree -/
noncomputable def ExprC (w : World) : Prop := ∀ (h : Str) (tk : Tok) (b : Addr) (vs : List Value) (n : Nat) (Y : List (Addr × Obj)), vs.length ≤ 100 → (b, tupObj vs n) ∈ Y → Con w 54 [.str h tk, .ref b] 5 40 [] Y (fun M' Y₁ r => M' = [] ∧ ∃ a t1 k, r = .ref a ∧ (a, tupObj [.str (kS "expr") t1, .str h tk, .ref b] k) ∈ Y₁)
set_option maxHeartbeats 4000000 in
theorem expr_con (w : World) : ExprC w := by
  intro h tk b vs n Y hl hm
  refine Con.intro ?_
  intro dp un gd cn cs fa ccd cl outer A₀ base h₀ L m s mean mg mb Q E B F X N Tp hk hd hu fin
  simp only [List.nil_append] at N
  refine wpAny_call ?_
  w_strict (
    k_dflt ktr_enter
    k_steps)
  exact fin [] _ _ _ _ (by k_asm) (by k_asm) (List.forall_mem_nil _) (by tb_start) (fun Y₁ hs => ⟨rfl, _, _, _, rfl, hs _ (by lsm_bools) rfl⟩)
section
variable {w : World} {Y news ex : List (Addr × Obj)}
  {dp un : Nat} {gd : Option (List Code)} {cn : Str} {cs : Scope} {fa : Addr} {ccd : Value} {cl : List (Str × Addr)} {outer : List Env} {A₀ : Around} {base h₀ : Heap} {L0 : Addr} {m : Str → Option Value} {s : Shared}
  {mean : ExcName → Option Value} {mg mb : Str → Option Value} {Q E : Value → Shared → Prop}
theorem expr_use {h : Str} {tk : Tok} {b : Addr} {vs : List Value} {n : Nat} (hc : Cut [] Y news ex) (hm : (b, tupObj vs n) ∈ news) (hl : vs.length ≤ 100) (B : Below A₀ base outer h₀) (F : Fr h₀ L0 s.heap m) (X : (hd.heap_39 w.params).In h₀) (N : News h₀ L0 s.heap news)
    (Tp : Top hd.view_39 (looseW hd.view_39 [Str.ofString "RowsError"]) mean mg mb h₀) (hk : cs.kind = .function) (hd : dp + 5 < recursionLimit) (hu : un + 40 < cLine)
    (ret : ∀ a t1 k Y₂ h' tk', GrowT Y Y₂ → Fr h₀ L0 h' m → News h₀ L0 h' (ex ++ Y₂) → (a, tupObj [.str (kS "expr") t1, .str h tk, .ref b] k) ∈ Y₂ → Q (.ref a) { s with heap := h', toks := tk' }) :
    wpAny (model PySem.Challenge.rw_pq0689_01.row.prog w) (ktrTop dp un gd cn cs L0 fa ccd cl outer) (call (.ref 54) [.str h tk, .ref b]) Q E s := by
  refine Con.use (ex := ex) (Y := Y) (fun _ => expr_con w h tk b vs n _ hl (hc.all _ hm)) ?_ hc (fun _ h => nomatch h) (fun _ h => nomatch h) B F X N Tp hk hd hu ?_
  · rintro M' X Z r hs ⟨h1, a, t1, k, h2, h3⟩
    exact ⟨h1, a, t1, k, h2, hs _ h3 rfl⟩
  · rintro r M' Y₂ h' tk' g F' N' ⟨rfl, a, t1, k, rfl, h3⟩
    exact ret a t1 k Y₂ h' tk' g F' (by simpa using N') h3
end
end
section
-- IsEx
theorem reset_IsEx : True := by
  w_top off
  k_with_none
  k_with "kt_len" => first | assumption | exact ltm (by assumption) (by lsm_bools) | exact lt3 (by assumption) (by assumption) (by lsm_bools) | exact ltk (by assumption) | exact lk0 (by assumption) (by rfl) | exact lk1 (by assumption) (by rfl) | exact ltn (by assumption) (by lsm_bools) | exact lka (by rfl) | exact lkb (by rfl) | exact And.left (by assumption) | exact pj1 (by assumption) | exact pj2 (by assumption) | fail "no"
  k_with "ktr_room" => first | exact szg (by rfl) | exact rm2 (by assumption) (by rfl) | exact rs2 (by assumption) (by rfl) | exact rm0 (by assumption) | exact rm1 (by assumption) (by rfl) | exact rs1 (by assumption) (by rfl) | exact rm3 (by assumption) (by rfl) | exact rm4 (by assumption) (by rfl) | exact rm5 (by assumption) (by rfl) | exact rmn (by assumption) (by assumption) (by rfl) | exact rmt (by assumption) (by rfl) | fail "no"
  k_with "ktr_units" => k_extra "ktr_room"
  k_with "omega" => first | with_reducible assumption | (show (_ : Nat) < _; first | assumption | k_extra "ktr_room") | (show (_ : Nat) ≤ _; first | assumption | exact szg (by rfl) | exact sza (by assumption) (by rfl) | exact szb (by assumption) (by assumption) (by rfl) | exact szc (by assumption) (by rfl) | exact szd (by assumption) (by rfl) | exact cza (by assumption) (by rfl) | exact szs (by assumption) | exact Nat.le_of_eq (by assumption)) | (show (_ : Nat) ≠ _; first | assumption | exact Ne.symm (by assumption) | exact ofI (by assumption) (by lsm_bools) | exact ofC (by assumption) (by lsm_bools) | exact ofD (by assumption) (by lsm_bools) | exact fI (by assumption) (by lsm_bools) | exact fC (by assumption) (by lsm_bools) | exact fD (by assumption) (by lsm_bools) | exact Nat.ne_of_lt (by kt_len) | exact Nat.ne_of_gt (by kt_len)) | (show (_ : Nat) < _ ∨ _; first | exact Or.inl (by kt_len) | exact Or.inr (by kt_len)) | fail "no"
  k_with "lsm_bools" => first | exact List.Mem.head _ | assumption | (refine' List.Mem.tail _ ?_; lsm_bools) | (refine' GrowT.mem ?gZ147 ?hZ147; (case gZ147 => assumption); (case hZ147 => lsm_bools)) | fail "no entry"
  k_with "k_mem" => first | lsm_bools | fail "no entry"
  k_with "tb_start" => first
  | exact List.forall_mem_nil _
  | (refine' List.forall_mem_cons.mpr ⟨?aZ149, ?bZ149⟩; (case aZ149 => lsm_bools); (case bZ149 => tb_start))
  | (intro p hp; repeat (first | exact hp | refine List.mem_cons_of_mem _ ?_ | refine List.Mem.tail _ ?_ | refine GrowT.mem' (by assumption) ?_ | refine GrowT.mem (by assumption) ?_ | fail "no entry"))
  | fail "not within"
  k_with "k_all" => first
  | assumption
  | (refine' GrowT.off ?gZ150 ?oZ150 ?NZ150 ?sZ150 ?mZ150 ?cZ150; (case gZ150 => assumption); (case NZ150 => k_asm); (case sZ150 => tb_start); (case mZ150 => lsm_bools); (case cZ150 => rfl); (case oZ150 => k_all))
  | (refine' offLt ?hZ150 ?sZ150; (case hZ150 => assumption); (case sZ150 => tb_start))
  | (refine' offLt3 ?qZ150 ?hZ150 ?sZ150; (case qZ150 => assumption); (case hZ150 => assumption); (case sZ150 => tb_start))
  | fail "not apart"
  k_with "kqd_sub" => first
  | (refine' Cut.own ?mZ151 ?rZ151; (case mZ151 => lsm_bools); (case rZ151 => kqd_sub))
  | (refine' Cut.oth ?oZ151 ?rZ151; (case oZ151 => k_all); (case rZ151 => kqd_sub))
  | exact Cut.tail
  | fail "no cut"
  k_with "ktr_rel" => first
  | exact subT_nil
  | exact subT_of (fun _ hp => hp)
  | assumption
  | (refine' subT_skip ?aZ152 ?bZ152; (case aZ152 => rfl); (case bZ152 => ktr_rel))
  | (refine' subT_cons ?aZ152 ?bZ152; (case aZ152 => lsm_bools); (case bZ152 => ktr_rel))
  | (refine' subT_of ?hZ152; (case hZ152 => tb_start))
  | (refine' subT_app (by ktr_rel) (by ktr_rel))
  | fail "tuples not within"
  k_with "k_room" => ktr_room
  k_with "k_units" => ktr_units
  k_with "tb_rel" => first
  | exact TAll.nil
  | exact TIn.str _ _
  | exact TIn.int _ _
  | exact TIn.bytes _ _
  | assumption
  | (refine' TIn.mono ?sZ155 ?hZ155; (case hZ155 => assumption); (case sZ155 => ktr_rel))
  | (refine' TAll.mono ?sZ155 ?hZ155; (case hZ155 => assumption); (case sZ155 => ktr_rel))
  | (refine' TIn.tuple ?mZ155 ?rZ155; (case mZ155 => lsm_bools); (case rZ155 => tb_rel))
  | (refine' TAll.cons (by tb_rel) (by tb_rel))
  | fail "no tree"
  k_with "call ref" => (k_here; (with_reducible show wpAny _ _ (call (Value.ref 214) [Value.str _ _] _) _ _ _); k_dflt (refine' sym_use ?CZ156 ?hcZ156 ?BZ156 ?FZ156 ?XZ156 ?NZ156 ?TZ156 ?hkZ156 ?hdZ156 ?huZ156 ?_; (case CZ156 => exact sym_con _); (case NZ156 => k_asm); (case hcZ156 => kqd_sub); (case BZ156 => k_asm); (case FZ156 => k_asm); (case XZ156 => k_asm); (case TZ156 => k_asm); (case hkZ156 => first | rfl | assumption); (case hdZ156 => ktr_room); (case huZ156 => ktr_units); k_whole; intro a' Y' h' tk' g' F' N' hr'; (try simp only [List.cons_append, List.nil_append] at N'); (try k_fold)))
  k_with "call ref" => (k_here; (with_reducible show wpAny _ _ (call (Value.ref 207) [Value.str _ _, Value.ref _] _) _ _ _); k_dflt (refine' tree_use ?CZ157 ?hcZ157 ?hmZ157 ?hlZ157 ?hTZ157 ?BZ157 ?FZ157 ?XZ157 ?NZ157 ?TZ157 ?hkZ157 ?hdZ157 ?huZ157 ?_; (case CZ157 => exact tree_con _); (case NZ157 => k_asm); (case hcZ157 => kqd_sub); (case hmZ157 => lsm_bools); (case hlZ157 => exact Nat.le_of_ble_eq_true rfl); (case hTZ157 => tb_rel); (case BZ157 => k_asm); (case FZ157 => k_asm); (case XZ157 => k_asm); (case TZ157 => k_asm); (case hkZ157 => first | rfl | assumption); (case hdZ157 => ktr_room); (case huZ157 => ktr_units); k_whole; intro a' Y' h' tk' g' F' N' hr'; (try simp only [List.cons_append, List.nil_append] at N'); (try k_fold)))
  k_with "call ref" => (k_here; (with_reducible show wpAny _ _ (call (Value.ref 82) [Value.ref _] _) _ _ _); k_dflt (refine' isSym_use ?hmZ158 ?eZ158 ?BZ158 ?FZ158 ?XZ158 ?NZ158 ?TZ158 ?hkZ158 ?hdZ158 ?huZ158 ?_; (case NZ158 => k_asm); (case hmZ158 => lsm_bools); (case eZ158 => first | rfl | decide); (case BZ158 => k_asm); (case FZ158 => k_asm); (case XZ158 => k_asm); (case TZ158 => k_asm); (case hkZ158 => first | rfl | assumption); (case hdZ158 => ktr_room); (case huZ158 => ktr_units); k_whole; intro h' tk' F' N'; (try k_fold)))
  k_with "call ref" => (k_here; (with_reducible show wpAny _ _ (call (Value.ref 75) [Value.ref _] _) _ _ _); k_dflt (first
  | (refine' parts_use ?hmZ159 ?BZ159 ?FZ159 ?XZ159 ?NZ159 ?TZ159 ?hkZ159 ?hdZ159 ?huZ159 ?_; (case NZ159 => k_asm); (case hmZ159 => lsm_bools); (case BZ159 => k_asm); (case FZ159 => k_asm); (case XZ159 => k_asm); (case TZ159 => k_asm); (case hkZ159 => first | rfl | assumption); (case hdZ159 => ktr_room); (case huZ159 => ktr_units); k_whole; intro h' tk' F' N'; (try k_fold))
  | (refine' parts0_use ?hcZ159 ?hmZ159 ?hzZ159 ?BZ159 ?FZ159 ?XZ159 ?NZ159 ?TZ159 ?hkZ159 ?hdZ159 ?huZ159 ?_; (case NZ159 => k_asm); (case hmZ159 => lsm_bools); (case hzZ159 => decide); (case hcZ159 => kqd_sub); (case BZ159 => k_asm); (case FZ159 => k_asm); (case XZ159 => k_asm); (case TZ159 => k_asm); (case hkZ159 => first | rfl | assumption); (case hdZ159 => ktr_room); (case huZ159 => ktr_units); k_whole; intro d' j' Y' h' tk' g' F' N' hm'; (try simp only [List.cons_append, List.nil_append] at N'); (try k_fold))))
  k_with "compareOp In str ref" => (k_here; k_dflt (refine' in_tupL ?htZ160 ?hiZ160 ?_; (case htZ160 => (refine' tupK ?XZ160 ?lZ160; (case XZ160 => k_in); (case lZ160 => k_is))); (case hiZ160 => exact rfl)))
  k_with "compareOp Eq ref ref" => (k_here; k_dflt (first
  | (refine' eq_dat (r := false) ?HZ161 ?d1Z161 ?d2Z161 ?hcZ161 ?hdZ161 ?huZ161 ?_; (case HZ161 => exact heldOf (by k_asm)); (case d1Z161 => tb_rel); (case d2Z161 => tb_rel); (case hcZ161 => with_unfolding_all rfl); (case hdZ161 => exact Nat.le_of_ble_eq_true rfl); (case huZ161 => ktr_units))
  | (refine' eq_dat (r := true) ?HZ161 ?d1Z161 ?d2Z161 ?hcZ161 ?hdZ161 ?huZ161 ?_; (case HZ161 => exact heldOf (by k_asm)); (case d1Z161 => tb_rel); (case d2Z161 => tb_rel); (case hcZ161 => with_unfolding_all rfl); (case hdZ161 => exact Nat.le_of_ble_eq_true rfl); (case huZ161 => ktr_units))))
  k_with "compareOp NotEq ref ref" => (k_here; k_dflt (first
  | (refine' ne_dat (r := false) ?HZ162 ?d1Z162 ?d2Z162 ?hcZ162 ?hdZ162 ?huZ162 ?_; (case HZ162 => exact heldOf (by k_asm)); (case d1Z162 => tb_rel); (case d2Z162 => tb_rel); (case hcZ162 => with_unfolding_all rfl); (case hdZ162 => exact Nat.le_of_ble_eq_true rfl); (case huZ162 => ktr_units))
  | (refine' ne_dat (r := true) ?HZ162 ?d1Z162 ?d2Z162 ?hcZ162 ?hdZ162 ?huZ162 ?_; (case HZ162 => exact heldOf (by k_asm)); (case d1Z162 => tb_rel); (case d2Z162 => tb_rel); (case hcZ162 => with_unfolding_all rfl); (case hdZ162 => exact Nat.le_of_ble_eq_true rfl); (case huZ162 => ktr_units))))
  k_with "subscriptTail Name Constant ref int" => (k_here; k_dflt (refine' item_tupleT ?tZ163 ?aZ163 ?bZ163 ?cZ163 ?dZ163 ?_; (case tZ163 => exact News.isTup (by k_asm) (by k_mem)); (case aZ163 => decide); (case bZ163 => decide); (case cZ163 => rfl); (case dZ163 => rfl); k_whole))
  k_with "ite" => (k_closed; k_dflt (first | (refine' ite_pos ?cZ164 ?_; (case cZ164 => decide)) | (refine' ite_neg ?cZ164 ?_; (case cZ164 => decide))))
  k_with "call ref" => (k_here; (with_reducible show wpAny _ _ (call (Value.ref 54) [Value.str _ _, Value.ref _] _) _ _ _); k_dflt (refine' expr_use ?hcZ165 ?hmZ165 ?hlZ165 ?BZ165 ?FZ165 ?XZ165 ?NZ165 ?TZ165 ?hkZ165 ?hdZ165 ?huZ165 ?_; (case NZ165 => k_asm); (case hmZ165 => lsm_bools); (case hcZ165 => kqd_sub); (case hlZ165 => first | exact Nat.le_of_ble_eq_true rfl | (simp only [List.length_append, List.length_cons, List.length_nil]; omega)); (case BZ165 => k_asm); (case FZ165 => k_asm); (case XZ165 => k_asm); (case TZ165 => k_asm); (case hkZ165 => first | rfl | assumption); (case hdZ165 => ktr_room); (case huZ165 => ktr_units); k_whole; intro a' t1' k' Y' h' tk' g' F' N' hm'; (try simp only [List.cons_append, List.nil_append] at N'); (try k_fold)))
  k_with "call ref" => (k_here; (with_reducible show wpAny _ _ (call (Value.ref 61) [Value.str _ _] _) _ _ _); k_dflt (refine' sym_use ?CZ166 ?hcZ166 ?BZ166 ?FZ166 ?XZ166 ?NZ166 ?TZ166 ?hkZ166 ?hdZ166 ?huZ166 ?_; (case CZ166 => exact symF_con _); (case NZ166 => k_asm); (case hcZ166 => kqd_sub); (case BZ166 => k_asm); (case FZ166 => k_asm); (case XZ166 => k_asm); (case TZ166 => k_asm); (case hkZ166 => first | rfl | assumption); (case hdZ166 => ktr_room); (case huZ166 => ktr_units); k_whole; intro a' Y' h' tk' g' F' N' hr'; (try simp only [List.cons_append, List.nil_append] at N'); (try k_fold)))
  k_with "call type:range cons nil" => (k_here; k_dflt (refine' range1_rows ?FZ167 ?NZ167 ?_; (case FZ167 => k_asm); (case NZ167 => k_asm); k_whole; intro h' tk' t1' u1' v1' hR' F' N' hst'; (try k_fold)))
  k_with "pyIter ref" => (k_here; (with_reducible show wpAny _ _ (pyIter (Value.ref _)) (fun it s₂ => LoopAtV _ _ _ _ _ _ _ _ _ it s₂) _ _); refine' Hold.of ?_)
  k_with "binaryOp Add ref ref" => (k_here; k_dflt (refine' add_cat ?FZ169 ?NZ169 ?aZ169 ?bZ169 ?zZ169 ?_; (case FZ169 => k_asm); (case NZ169 => k_asm); (case aZ169 => lsm_bools); (case bZ169 => lsm_bools); (case zZ169 => (simp only [sizeLine_eq, List.length_cons, List.length_nil]; omega)); k_whole; intro D' h' F' N' l1; (try k_lt l1); (try k_sweep)))
  k_with "subscriptTail Name Slice ref ref" => (k_here; k_dflt (first
  | (refine' slice_whole ?FZ170 ?NZ170 ?tZ170 ?lZ170 ?zZ170 ?_ ?hsZ170 ?hgZ170; (case FZ170 => k_asm); (case NZ170 => k_asm); (case tZ170 => lsm_bools); (case lZ170 => exact Nat.le_of_ble_eq_true rfl); (case zZ170 => exact Nat.le_of_ble_eq_true rfl); (case hsZ170 => with_unfolding_all rfl); (case hgZ170 => (intro _; with_unfolding_all rfl)); k_whole; intro h' F' N'; (try k_sweep))
  | (refine' slice_upto ?FZ170 ?NZ170 ?tZ170 ?lZ170 ?zZ170 ?_ ?hsZ170 ?hgZ170; (case FZ170 => k_asm); (case NZ170 => k_asm); (case tZ170 => lsm_bools); (case lZ170 => exact Nat.le_of_ble_eq_true rfl); (case zZ170 => exact Nat.le_of_ble_eq_true rfl); (case hsZ170 => with_unfolding_all rfl); (case hgZ170 => (intro _; with_unfolding_all rfl)); k_whole; intro D' h' F' N' l1; (try k_lt l1); (try k_sweep))))
  k_with "subscriptTail Name Slice ref ref" => (k_here; k_dflt
  (refine' slice_from ?FZ171 ?NZ171 ?tZ171 ?oZ171 ?lZ171 ?zZ171 ?_ ?hsZ171 ?hgZ171; (case FZ171 => k_asm); (case NZ171 => k_asm); (case tZ171 => lsm_bools); (case oZ171 => exact Nat.le_of_ble_eq_true rfl); (case lZ171 => (simp only [List.length_cons]; omega)); (case zZ171 => (simp only [sizeLine_eq, List.length_cons]; omega)); (case hsZ171 => with_unfolding_all rfl); (case hgZ171 => (intro _; with_unfolding_all rfl)); k_whole; intro D' h' F' N' l1; (try k_lt l1); (try k_sweep)))
  k_with "subscriptTail Subscript Name Constant Slice ref ref" => (k_here; k_dflt
  (refine' slice_from ?FZ172 ?NZ172 ?tZ172 ?oZ172 ?lZ172 ?zZ172 ?_ ?hsZ172 ?hgZ172; (case FZ172 => k_asm); (case NZ172 => k_asm); (case tZ172 => lsm_bools); (case oZ172 => exact Nat.le_of_ble_eq_true rfl); (case lZ172 => (simp only [List.length_cons]; omega)); (case zZ172 => (simp only [sizeLine_eq, List.length_cons]; omega)); (case hsZ172 => with_unfolding_all rfl); (case hgZ172 => (intro _; with_unfolding_all rfl)); k_whole; intro D' h' F' N' l1; (try k_lt l1); (try k_sweep)))
  k_with "call type:tuple cons nil" => (k_here; k_dflt (refine' tuple_of ?FZ173 ?NZ173 ?tZ173 ?zZ173 ?_; (case FZ173 => k_asm); (case NZ173 => k_asm); (case tZ173 => lsm_bools); (case zZ173 => first | exact Nat.le_of_ble_eq_true rfl | (simp only [sizeLine_eq, List.length_append, List.length_cons, List.length_nil]; omega)); k_whole; intro D' h' F' N' l1; (try k_lt l1); (try k_sweep)))
  k_with "subscriptTail Name Constant ref int" => (k_here; k_dflt (refine' item_tupI ?NZ174 ?mZ174 ?aZ174 ?bZ174 ?cZ174 ?_; (case NZ174 => k_asm); (case mZ174 => lsm_bools); (case aZ174 => decide); (case bZ174 => decide); (case cZ174 => exact rfl); k_whole))
  k_with "subscriptTail Subscript Name Constant Constant ref int" => (k_here; k_dflt (refine' item_tupI ?NZ175 ?mZ175 ?aZ175 ?bZ175 ?cZ175 ?_; (case NZ175 => k_asm); (case mZ175 => lsm_bools); (case aZ175 => decide); (case bZ175 => decide); (case cZ175 => exact rfl); k_whole))
  k_with "subscriptTail Subscript Subscript Constant Constant ref int" => (k_here; k_dflt (refine' item_tupI ?NZ176 ?mZ176 ?aZ176 ?bZ176 ?cZ176 ?_; (case NZ176 => k_asm); (case mZ176 => lsm_bools); (case aZ176 => decide); (case bZ176 => decide); (case cZ176 => exact rfl); k_whole))
  k_with "subscriptTail Call Name cons nil Constant ref int" => (k_here; k_dflt (refine' item_tupI ?NZ177 ?mZ177 ?aZ177 ?bZ177 ?cZ177 ?_; (case NZ177 => k_asm); (case mZ177 => lsm_bools); (case aZ177 => decide); (case bZ177 => decide); (case cZ177 => exact rfl); k_whole))
  k_with "binaryOp Add ref ref" => (k_here; k_dflt (refine' add_tupC ?FZ178 ?NZ178 ?aZ178 ?bZ178 ?l1Z178 ?l2Z178 ?zZ178 ?_; (case FZ178 => k_asm); (case NZ178 => k_asm); (case aZ178 => lsm_bools); (case bZ178 => lsm_bools); (case l1Z178 => (simp only [List.length_cons, List.length_nil]; omega)); (case l2Z178 => omega); (case zZ178 => (simp only [sizeLine_eq, List.length_cons, List.length_nil]; omega)); k_whole; intro D' h' F' N' l1; (try k_lt l1); (try k_sweep)))
  k_with "call type:tuple cons nil" => (k_here; k_dflt (refine' tuple_same ?NZ179 ?tZ179 ?_; (case NZ179 => k_asm); (case tZ179 => lsm_bools); k_whole))
  k_with "call builtin:len cons nil" => (k_here; k_dflt (refine' len_tupK ?NZ180 ?tZ180 ?zZ180 ?_; (case NZ180 => k_asm); (case tZ180 => lsm_bools); (case zZ180 => (simp only [sizeLine_eq, List.length_cons, List.length_nil]; omega)); k_whole; intro tk1' tk2'))
  trivial
set_option maxHeartbeats 8000000 in
theorem isEx_con (w : World) : IsExC w := by
  intro t v h0 tk0 Y hv
  refine Con.intro ?_
  intro dp un gd cn cs fa ccd cl outer A₀ base h₀ L m s mean mg mb Q E B F X N Tp hk hd hu fin
  simp only [List.nil_append] at N
  refine wpAny_call ?_
  cases t with
  | sym x =>
    obtain ⟨a, n, t5, t6, rfl, hm⟩ := sym_inv hv
    w_strict (
      k_dflt ktr_enter
      k_steps)
    exact fin [] _ _ _ _ (by k_asm) (by k_asm) (List.forall_mem_nil _) (by tb_start) (fun Y₁ hs => ⟨rfl, rfl⟩)
  | int x =>
    obtain ⟨a, n, t5, t6, rfl, hm⟩ := int_inv hv
    w_strict (
      k_dflt ktr_enter
      k_steps)
    exact fin [] _ _ _ _ (by k_asm) (by k_asm) (List.forall_mem_nil _) (by tb_start) (fun Y₁ hs => ⟨rfl, rfl⟩)
  | text x =>
    obtain ⟨a, n, t5, t6, rfl, hm⟩ := text_inv hv
    w_strict (
      k_dflt ktr_enter
      k_steps)
    exact fin [] _ _ _ _ (by k_asm) (by k_asm) (List.forall_mem_nil _) (by tb_start) (fun Y₁ hs => ⟨rfl, rfl⟩)
  | ex x ps =>
    obtain ⟨a, n, t5, t6, b, vs, k, rfl, hm, hm2, hT⟩ := ex_inv hv
    w_strict (
      k_dflt ktr_enter
      k_steps)
    exact fin [] _ _ _ _ (by k_asm) (by k_asm) (List.forall_mem_nil _) (by tb_start) (fun Y₁ hs => ⟨rfl, rfl⟩)
end
section
-- FunOver
theorem reset_FunOver : True := by
  w_top off
  k_with_none
  k_with "kt_len" => first | assumption | exact ltm (by assumption) (by lsm_bools) | exact lt3 (by assumption) (by assumption) (by lsm_bools) | exact ltk (by assumption) | exact lk0 (by assumption) (by rfl) | exact lk1 (by assumption) (by rfl) | exact ltn (by assumption) (by lsm_bools) | exact lka (by rfl) | exact lkb (by rfl) | exact And.left (by assumption) | exact pj1 (by assumption) | exact pj2 (by assumption) | fail "no"
  k_with "ktr_room" => first | exact szg (by rfl) | exact rm2 (by assumption) (by rfl) | exact rs2 (by assumption) (by rfl) | exact rm0 (by assumption) | exact rm1 (by assumption) (by rfl) | exact rs1 (by assumption) (by rfl) | exact rm3 (by assumption) (by rfl) | exact rm4 (by assumption) (by rfl) | exact rm5 (by assumption) (by rfl) | exact rmn (by assumption) (by assumption) (by rfl) | exact rmt (by assumption) (by rfl) | fail "no"
  k_with "ktr_units" => k_extra "ktr_room"
  k_with "omega" => first | with_reducible assumption | (show (_ : Nat) < _; first | assumption | k_extra "ktr_room") | (show (_ : Nat) ≤ _; first | assumption | exact szg (by rfl) | exact sza (by assumption) (by rfl) | exact szb (by assumption) (by assumption) (by rfl) | exact szc (by assumption) (by rfl) | exact szd (by assumption) (by rfl) | exact cza (by assumption) (by rfl) | exact szs (by assumption) | exact Nat.le_of_eq (by assumption)) | (show (_ : Nat) ≠ _; first | assumption | exact Ne.symm (by assumption) | exact ofI (by assumption) (by lsm_bools) | exact ofC (by assumption) (by lsm_bools) | exact ofD (by assumption) (by lsm_bools) | exact fI (by assumption) (by lsm_bools) | exact fC (by assumption) (by lsm_bools) | exact fD (by assumption) (by lsm_bools) | exact Nat.ne_of_lt (by kt_len) | exact Nat.ne_of_gt (by kt_len)) | (show (_ : Nat) < _ ∨ _; first | exact Or.inl (by kt_len) | exact Or.inr (by kt_len)) | fail "no"
  k_with "lsm_bools" => first | exact List.Mem.head _ | assumption | (refine' List.Mem.tail _ ?_; lsm_bools) | (refine' GrowT.mem ?gZ192 ?hZ192; (case gZ192 => assumption); (case hZ192 => lsm_bools)) | fail "no entry"
  k_with "k_mem" => first | lsm_bools | fail "no entry"
  k_with "tb_start" => first
  | exact List.forall_mem_nil _
  | (refine' List.forall_mem_cons.mpr ⟨?aZ194, ?bZ194⟩; (case aZ194 => lsm_bools); (case bZ194 => tb_start))
  | (intro p hp; repeat (first | exact hp | refine List.mem_cons_of_mem _ ?_ | refine List.Mem.tail _ ?_ | refine GrowT.mem' (by assumption) ?_ | refine GrowT.mem (by assumption) ?_ | fail "no entry"))
  | fail "not within"
  k_with "k_all" => first
  | assumption
  | (refine' GrowT.off ?gZ195 ?oZ195 ?NZ195 ?sZ195 ?mZ195 ?cZ195; (case gZ195 => assumption); (case NZ195 => k_asm); (case sZ195 => tb_start); (case mZ195 => lsm_bools); (case cZ195 => rfl); (case oZ195 => k_all))
  | (refine' offLt ?hZ195 ?sZ195; (case hZ195 => assumption); (case sZ195 => tb_start))
  | (refine' offLt3 ?qZ195 ?hZ195 ?sZ195; (case qZ195 => assumption); (case hZ195 => assumption); (case sZ195 => tb_start))
  | fail "not apart"
  k_with "kqd_sub" => first
  | (refine' Cut.own ?mZ196 ?rZ196; (case mZ196 => lsm_bools); (case rZ196 => kqd_sub))
  | (refine' Cut.oth ?oZ196 ?rZ196; (case oZ196 => k_all); (case rZ196 => kqd_sub))
  | exact Cut.tail
  | fail "no cut"
  k_with "ktr_rel" => first
  | exact subT_nil
  | exact subT_of (fun _ hp => hp)
  | assumption
  | (refine' subT_skip ?aZ197 ?bZ197; (case aZ197 => rfl); (case bZ197 => ktr_rel))
  | (refine' subT_cons ?aZ197 ?bZ197; (case aZ197 => lsm_bools); (case bZ197 => ktr_rel))
  | (refine' subT_of ?hZ197; (case hZ197 => tb_start))
  | (refine' subT_app (by ktr_rel) (by ktr_rel))
  | fail "tuples not within"
  k_with "k_room" => ktr_room
  k_with "k_units" => ktr_units
  k_with "tb_rel" => first
  | exact TAll.nil
  | exact TIn.str _ _
  | exact TIn.int _ _
  | exact TIn.bytes _ _
  | assumption
  | (refine' TIn.mono ?sZ200 ?hZ200; (case hZ200 => assumption); (case sZ200 => ktr_rel))
  | (refine' TAll.mono ?sZ200 ?hZ200; (case hZ200 => assumption); (case sZ200 => ktr_rel))
  | (refine' TIn.tuple ?mZ200 ?rZ200; (case mZ200 => lsm_bools); (case rZ200 => tb_rel))
  | (refine' TAll.cons (by tb_rel) (by tb_rel))
  | fail "no tree"
  k_with "call ref" => (k_here; (with_reducible show wpAny _ _ (call (Value.ref 214) [Value.str _ _] _) _ _ _); k_dflt (refine' sym_use ?CZ201 ?hcZ201 ?BZ201 ?FZ201 ?XZ201 ?NZ201 ?TZ201 ?hkZ201 ?hdZ201 ?huZ201 ?_; (case CZ201 => exact sym_con _); (case NZ201 => k_asm); (case hcZ201 => kqd_sub); (case BZ201 => k_asm); (case FZ201 => k_asm); (case XZ201 => k_asm); (case TZ201 => k_asm); (case hkZ201 => first | rfl | assumption); (case hdZ201 => ktr_room); (case huZ201 => ktr_units); k_whole; intro a' Y' h' tk' g' F' N' hr'; (try simp only [List.cons_append, List.nil_append] at N'); (try k_fold)))
  k_with "call ref" => (k_here; (with_reducible show wpAny _ _ (call (Value.ref 207) [Value.str _ _, Value.ref _] _) _ _ _); k_dflt (refine' tree_use ?CZ202 ?hcZ202 ?hmZ202 ?hlZ202 ?hTZ202 ?BZ202 ?FZ202 ?XZ202 ?NZ202 ?TZ202 ?hkZ202 ?hdZ202 ?huZ202 ?_; (case CZ202 => exact tree_con _); (case NZ202 => k_asm); (case hcZ202 => kqd_sub); (case hmZ202 => lsm_bools); (case hlZ202 => exact Nat.le_of_ble_eq_true rfl); (case hTZ202 => tb_rel); (case BZ202 => k_asm); (case FZ202 => k_asm); (case XZ202 => k_asm); (case TZ202 => k_asm); (case hkZ202 => first | rfl | assumption); (case hdZ202 => ktr_room); (case huZ202 => ktr_units); k_whole; intro a' Y' h' tk' g' F' N' hr'; (try simp only [List.cons_append, List.nil_append] at N'); (try k_fold)))
  k_with "call ref" => (k_here; (with_reducible show wpAny _ _ (call (Value.ref 68) [_, Value.str _ _] _) _ _ _); k_dflt (refine' isEx_use ?CZ203 ?hvZ203 ?eZ203 ?BZ203 ?FZ203 ?XZ203 ?NZ203 ?TZ203 ?hkZ203 ?hsZ203 ?hdZ203 ?huZ203 ?_; (case CZ203 => exact isEx_con _); (case hvZ203 => assumption); (case eZ203 => first | assumption | rfl); (case hsZ203 => tb_start); (case BZ203 => k_asm); (case FZ203 => k_asm); (case XZ203 => k_asm); (case NZ203 => k_asm); (case TZ203 => k_asm); (case hkZ203 => first | rfl | assumption); (case hdZ203 => ktr_room); (case huZ203 => ktr_units); k_whole; intro h' tk' F' N'; (try k_fold)))
  k_with "call ref" => (k_here; (with_reducible show wpAny _ _ (call (Value.ref 82) [Value.ref _] _) _ _ _); k_dflt (refine' isSym_use ?hmZ204 ?eZ204 ?BZ204 ?FZ204 ?XZ204 ?NZ204 ?TZ204 ?hkZ204 ?hdZ204 ?huZ204 ?_; (case NZ204 => k_asm); (case hmZ204 => lsm_bools); (case eZ204 => first | rfl | decide); (case BZ204 => k_asm); (case FZ204 => k_asm); (case XZ204 => k_asm); (case TZ204 => k_asm); (case hkZ204 => first | rfl | assumption); (case hdZ204 => ktr_room); (case huZ204 => ktr_units); k_whole; intro h' tk' F' N'; (try k_fold)))
  k_with "call ref" => (k_here; (with_reducible show wpAny _ _ (call (Value.ref 75) [Value.ref _] _) _ _ _); k_dflt (first
  | (refine' parts_use ?hmZ205 ?BZ205 ?FZ205 ?XZ205 ?NZ205 ?TZ205 ?hkZ205 ?hdZ205 ?huZ205 ?_; (case NZ205 => k_asm); (case hmZ205 => lsm_bools); (case BZ205 => k_asm); (case FZ205 => k_asm); (case XZ205 => k_asm); (case TZ205 => k_asm); (case hkZ205 => first | rfl | assumption); (case hdZ205 => ktr_room); (case huZ205 => ktr_units); k_whole; intro h' tk' F' N'; (try k_fold))
  | (refine' parts0_use ?hcZ205 ?hmZ205 ?hzZ205 ?BZ205 ?FZ205 ?XZ205 ?NZ205 ?TZ205 ?hkZ205 ?hdZ205 ?huZ205 ?_; (case NZ205 => k_asm); (case hmZ205 => lsm_bools); (case hzZ205 => decide); (case hcZ205 => kqd_sub); (case BZ205 => k_asm); (case FZ205 => k_asm); (case XZ205 => k_asm); (case TZ205 => k_asm); (case hkZ205 => first | rfl | assumption); (case hdZ205 => ktr_room); (case huZ205 => ktr_units); k_whole; intro d' j' Y' h' tk' g' F' N' hm'; (try simp only [List.cons_append, List.nil_append] at N'); (try k_fold))))
  k_with "compareOp In str ref" => (k_here; k_dflt (refine' in_tupL ?htZ206 ?hiZ206 ?_; (case htZ206 => (refine' tupK ?XZ206 ?lZ206; (case XZ206 => k_in); (case lZ206 => k_is))); (case hiZ206 => exact rfl)))
  k_with "compareOp Eq ref ref" => (k_here; k_dflt (first
  | (refine' eq_dat (r := false) ?HZ207 ?d1Z207 ?d2Z207 ?hcZ207 ?hdZ207 ?huZ207 ?_; (case HZ207 => exact heldOf (by k_asm)); (case d1Z207 => tb_rel); (case d2Z207 => tb_rel); (case hcZ207 => with_unfolding_all rfl); (case hdZ207 => exact Nat.le_of_ble_eq_true rfl); (case huZ207 => ktr_units))
  | (refine' eq_dat (r := true) ?HZ207 ?d1Z207 ?d2Z207 ?hcZ207 ?hdZ207 ?huZ207 ?_; (case HZ207 => exact heldOf (by k_asm)); (case d1Z207 => tb_rel); (case d2Z207 => tb_rel); (case hcZ207 => with_unfolding_all rfl); (case hdZ207 => exact Nat.le_of_ble_eq_true rfl); (case huZ207 => ktr_units))))
  k_with "compareOp NotEq ref ref" => (k_here; k_dflt (first
  | (refine' ne_dat (r := false) ?HZ208 ?d1Z208 ?d2Z208 ?hcZ208 ?hdZ208 ?huZ208 ?_; (case HZ208 => exact heldOf (by k_asm)); (case d1Z208 => tb_rel); (case d2Z208 => tb_rel); (case hcZ208 => with_unfolding_all rfl); (case hdZ208 => exact Nat.le_of_ble_eq_true rfl); (case huZ208 => ktr_units))
  | (refine' ne_dat (r := true) ?HZ208 ?d1Z208 ?d2Z208 ?hcZ208 ?hdZ208 ?huZ208 ?_; (case HZ208 => exact heldOf (by k_asm)); (case d1Z208 => tb_rel); (case d2Z208 => tb_rel); (case hcZ208 => with_unfolding_all rfl); (case hdZ208 => exact Nat.le_of_ble_eq_true rfl); (case huZ208 => ktr_units))))
  k_with "subscriptTail Name Constant ref int" => (k_here; k_dflt (refine' item_tupleT ?tZ209 ?aZ209 ?bZ209 ?cZ209 ?dZ209 ?_; (case tZ209 => exact News.isTup (by k_asm) (by k_mem)); (case aZ209 => decide); (case bZ209 => decide); (case cZ209 => rfl); (case dZ209 => rfl); k_whole))
  k_with "ite" => (k_closed; k_dflt (first | (refine' ite_pos ?cZ210 ?_; (case cZ210 => decide)) | (refine' ite_neg ?cZ210 ?_; (case cZ210 => decide))))
  k_with "call ref" => (k_here; (with_reducible show wpAny _ _ (call (Value.ref 54) [Value.str _ _, Value.ref _] _) _ _ _); k_dflt (refine' expr_use ?hcZ211 ?hmZ211 ?hlZ211 ?BZ211 ?FZ211 ?XZ211 ?NZ211 ?TZ211 ?hkZ211 ?hdZ211 ?huZ211 ?_; (case NZ211 => k_asm); (case hmZ211 => lsm_bools); (case hcZ211 => kqd_sub); (case hlZ211 => first | exact Nat.le_of_ble_eq_true rfl | (simp only [List.length_append, List.length_cons, List.length_nil]; omega)); (case BZ211 => k_asm); (case FZ211 => k_asm); (case XZ211 => k_asm); (case TZ211 => k_asm); (case hkZ211 => first | rfl | assumption); (case hdZ211 => ktr_room); (case huZ211 => ktr_units); k_whole; intro a' t1' k' Y' h' tk' g' F' N' hm'; (try simp only [List.cons_append, List.nil_append] at N'); (try k_fold)))
  k_with "call type:range cons nil" => (k_here; k_dflt (refine' range1_rows ?FZ212 ?NZ212 ?_; (case FZ212 => k_asm); (case NZ212 => k_asm); k_whole; intro h' tk' t1' u1' v1' hR' F' N' hst'; (try k_fold)))
  k_with "pyIter ref" => (k_here; (with_reducible show wpAny _ _ (pyIter (Value.ref _)) (fun it s₂ => LoopAtV _ _ _ _ _ _ _ _ _ it s₂) _ _); refine' Hold.of ?_)
  k_with "binaryOp Add ref ref" => (k_here; k_dflt (refine' add_cat ?FZ214 ?NZ214 ?aZ214 ?bZ214 ?zZ214 ?_; (case FZ214 => k_asm); (case NZ214 => k_asm); (case aZ214 => lsm_bools); (case bZ214 => lsm_bools); (case zZ214 => (simp only [sizeLine_eq, List.length_cons, List.length_nil]; omega)); k_whole; intro D' h' F' N' l1; (try k_lt l1); (try k_sweep)))
  k_with "subscriptTail Name Slice ref ref" => (k_here; k_dflt (first
  | (refine' slice_whole ?FZ215 ?NZ215 ?tZ215 ?lZ215 ?zZ215 ?_ ?hsZ215 ?hgZ215; (case FZ215 => k_asm); (case NZ215 => k_asm); (case tZ215 => lsm_bools); (case lZ215 => exact Nat.le_of_ble_eq_true rfl); (case zZ215 => exact Nat.le_of_ble_eq_true rfl); (case hsZ215 => with_unfolding_all rfl); (case hgZ215 => (intro _; with_unfolding_all rfl)); k_whole; intro h' F' N'; (try k_sweep))
  | (refine' slice_upto ?FZ215 ?NZ215 ?tZ215 ?lZ215 ?zZ215 ?_ ?hsZ215 ?hgZ215; (case FZ215 => k_asm); (case NZ215 => k_asm); (case tZ215 => lsm_bools); (case lZ215 => exact Nat.le_of_ble_eq_true rfl); (case zZ215 => exact Nat.le_of_ble_eq_true rfl); (case hsZ215 => with_unfolding_all rfl); (case hgZ215 => (intro _; with_unfolding_all rfl)); k_whole; intro D' h' F' N' l1; (try k_lt l1); (try k_sweep))))
  k_with "subscriptTail Name Slice ref ref" => (k_here; k_dflt
  (refine' slice_from ?FZ216 ?NZ216 ?tZ216 ?oZ216 ?lZ216 ?zZ216 ?_ ?hsZ216 ?hgZ216; (case FZ216 => k_asm); (case NZ216 => k_asm); (case tZ216 => lsm_bools); (case oZ216 => exact Nat.le_of_ble_eq_true rfl); (case lZ216 => (simp only [List.length_cons]; omega)); (case zZ216 => (simp only [sizeLine_eq, List.length_cons]; omega)); (case hsZ216 => with_unfolding_all rfl); (case hgZ216 => (intro _; with_unfolding_all rfl)); k_whole; intro D' h' F' N' l1; (try k_lt l1); (try k_sweep)))
  k_with "subscriptTail Subscript Name Constant Slice ref ref" => (k_here; k_dflt
  (refine' slice_from ?FZ217 ?NZ217 ?tZ217 ?oZ217 ?lZ217 ?zZ217 ?_ ?hsZ217 ?hgZ217; (case FZ217 => k_asm); (case NZ217 => k_asm); (case tZ217 => lsm_bools); (case oZ217 => exact Nat.le_of_ble_eq_true rfl); (case lZ217 => (simp only [List.length_cons]; omega)); (case zZ217 => (simp only [sizeLine_eq, List.length_cons]; omega)); (case hsZ217 => with_unfolding_all rfl); (case hgZ217 => (intro _; with_unfolding_all rfl)); k_whole; intro D' h' F' N' l1; (try k_lt l1); (try k_sweep)))
  k_with "call type:tuple cons nil" => (k_here; k_dflt (refine' tuple_of ?FZ218 ?NZ218 ?tZ218 ?zZ218 ?_; (case FZ218 => k_asm); (case NZ218 => k_asm); (case tZ218 => lsm_bools); (case zZ218 => first | exact Nat.le_of_ble_eq_true rfl | (simp only [sizeLine_eq, List.length_append, List.length_cons, List.length_nil]; omega)); k_whole; intro D' h' F' N' l1; (try k_lt l1); (try k_sweep)))
  k_with "subscriptTail Name Constant ref int" => (k_here; k_dflt (refine' item_tupI ?NZ219 ?mZ219 ?aZ219 ?bZ219 ?cZ219 ?_; (case NZ219 => k_asm); (case mZ219 => lsm_bools); (case aZ219 => decide); (case bZ219 => decide); (case cZ219 => exact rfl); k_whole))
  k_with "subscriptTail Subscript Name Constant Constant ref int" => (k_here; k_dflt (refine' item_tupI ?NZ220 ?mZ220 ?aZ220 ?bZ220 ?cZ220 ?_; (case NZ220 => k_asm); (case mZ220 => lsm_bools); (case aZ220 => decide); (case bZ220 => decide); (case cZ220 => exact rfl); k_whole))
  k_with "subscriptTail Subscript Subscript Constant Constant ref int" => (k_here; k_dflt (refine' item_tupI ?NZ221 ?mZ221 ?aZ221 ?bZ221 ?cZ221 ?_; (case NZ221 => k_asm); (case mZ221 => lsm_bools); (case aZ221 => decide); (case bZ221 => decide); (case cZ221 => exact rfl); k_whole))
  k_with "subscriptTail Call Name cons nil Constant ref int" => (k_here; k_dflt (refine' item_tupI ?NZ222 ?mZ222 ?aZ222 ?bZ222 ?cZ222 ?_; (case NZ222 => k_asm); (case mZ222 => lsm_bools); (case aZ222 => decide); (case bZ222 => decide); (case cZ222 => exact rfl); k_whole))
  k_with "binaryOp Add ref ref" => (k_here; k_dflt (refine' add_tupC ?FZ223 ?NZ223 ?aZ223 ?bZ223 ?l1Z223 ?l2Z223 ?zZ223 ?_; (case FZ223 => k_asm); (case NZ223 => k_asm); (case aZ223 => lsm_bools); (case bZ223 => lsm_bools); (case l1Z223 => (simp only [List.length_cons, List.length_nil]; omega)); (case l2Z223 => omega); (case zZ223 => (simp only [sizeLine_eq, List.length_cons, List.length_nil]; omega)); k_whole; intro D' h' F' N' l1; (try k_lt l1); (try k_sweep)))
  k_with "call type:tuple cons nil" => (k_here; k_dflt (refine' tuple_same ?NZ224 ?tZ224 ?_; (case NZ224 => k_asm); (case tZ224 => lsm_bools); k_whole))
  k_with "call builtin:len cons nil" => (k_here; k_dflt (refine' len_tupK ?NZ225 ?tZ225 ?zZ225 ?_; (case NZ225 => k_asm); (case tZ225 => lsm_bools); (case zZ225 => (simp only [sizeLine_eq, List.length_cons, List.length_nil]; omega)); k_whole; intro tk1' tk2'))
  k_with "eval ListComp" => (k_here; refine' Hold.of ?_)
  k_with "compareOp NotEq ref ref" => (k_here; k_dflt (refine' ne_dat (r := false) ?HZ227 ?d1Z227 ?d2Z227 ?hcZ227 ?hdZ227 ?huZ227 ?_; (case HZ227 => exact heldOf (by k_asm)); (case d1Z227 => tb_rel); (case d2Z227 => tb_rel); (case hcZ227 => exact cmp_head (by assumption) _); (case hdZ227 => exact Nat.le_of_ble_eq_true rfl); (case huZ227 => ktr_units)))
  k_with "call ref" => (k_here; (with_reducible show wpAny _ _ (call (Value.ref 233) [_] _) _ _ _); k_dflt (refine' plain_use ?CZ228 ?hoZ228 ?hvZ228 ?BZ228 ?FZ228 ?XZ228 ?NZ228 ?TZ228 ?hkZ228 ?hcZ228 ?hdZ228 ?huZ228 ?_; (case CZ228 => assumption); (case hoZ228 => assumption); (case hvZ228 => assumption); (case BZ228 => k_asm); (case FZ228 => k_asm); (case XZ228 => k_asm); (case NZ228 => k_asm); (case TZ228 => k_asm); (case hkZ228 => first | rfl | assumption); (case hcZ228 => kqd_sub); (case hdZ228 => ktr_room); (case huZ228 => ktr_units); k_whole; intro r' Y' h' tk' g' F' N' hr'; (try simp only [List.cons_append, List.nil_append] at N'); (try k_fold)))
  k_with "call ref" => (k_here; (with_reducible show wpAny _ _ (call (Value.ref 240) [_] _) _ _ _); k_dflt (refine' things_use ?CZ229 ?hoZ229 ?hvZ229 ?BZ229 ?FZ229 ?XZ229 ?NZ229 ?TZ229 ?hkZ229 ?hcZ229 ?hdZ229 ?huZ229 ?_; (case CZ229 => assumption); (case hoZ229 => assumption); (case hvZ229 => assumption); (case BZ229 => k_asm); (case FZ229 => k_asm); (case XZ229 => k_asm); (case NZ229 => k_asm); (case TZ229 => k_asm); (case hkZ229 => first | rfl | assumption); (case hcZ229 => kqd_sub); (case hdZ229 => ktr_room); (case huZ229 => ktr_units); k_whole; intro a' vs' k' Y' h' tk' g' F' N' hr' hrl'; (try simp only [List.cons_append, List.nil_append] at N'); (try k_fold)))
  k_with "exec For Name Subscript" => (k_here; (rename Fr _ _ _ _ => lF'); (with_unfolding_all refine' For_invVF lF' ?k1Z230 ?k2Z230 ?_; (case k1Z230 => exact rfl); (case k2Z230 => exact rfl); k_whole))
  k_with "compareOp Eq ref ref" => (k_here; k_dflt (refine' eq_dat (r := false) ?HZ231 ?d1Z231 ?d2Z231 ?hcZ231 ?hdZ231 ?huZ231 ?_; (case HZ231 => exact heldOf (by k_asm)); (case d1Z231 => tb_rel); (case d2Z231 => tb_rel); (case hcZ231 => exact cmp_head (by assumption) _); (case hdZ231 => exact Nat.le_of_ble_eq_true rfl); (case huZ231 => ktr_units)))
  k_with "compareOp Eq str str" => (k_here; k_dflt (refine' eq_str_no ?hZ232 ?_; (case hZ232 => assumption); k_whole))
  trivial
/-- function_over(names, body) -/
noncomputable def FoC (w : World) : Prop := ∀ (nz : Addr) (nvs : List Value) (n3 n : Nat) (B : T) (bv : Value) (Y : List (Addr × Obj)), n ≤ 60 → (nz, listOf (List.toArray nvs) n3) ∈ Y → TAll Y nvs ((namesN n).map Dat.str) → TIn Y bv B.dat →
  Con w 151 [.ref nz, bv] 12 100 [] Y (fun M' Y₁ r => M' = [] ∧ TIn Y₁ r (fnT n B).dat)
theorem tall_str {Y : List (Addr × Obj)} {vs : List Value} {xs : List Str} (h : TAll Y vs (xs.map Dat.str)) {i : Nat} {v : Value} (hv : vs[i]? = some v) : ∃ x t, v = .str x t ∧ xs[i]? = some x := by
  induction xs generalizing vs i with
  | nil => cases h; simp at hv
  | cons x xs ih =>
    cases h with
    | cons a b =>
      cases i with
      | zero =>
        cases a with
        | str _ t => exact ⟨x, t, by simpa using hv.symm, rfl⟩
      | succ i => simpa using ih b (by simpa using hv)
open LCg
section
variable {prog : Program} {w : World} {A : Around} {E : Value → Shared → Prop} {s : Shared} {h₀ : Heap} {L : Addr} {m : Str → Option Value} {env : Env}
/-- a comprehension over a list of names -/
theorem lsrc_map {elt : Expr} {x : Str} {scope : Scope} {cl : List (Str × Addr)} {Q : Value → Shared → Prop} {ax : Addr} {vs : List Value} {k : Nat} {news : List (Addr × Obj)} {s₁ : Shared} {xs : List Str} (g : Str → T)
    (hh : A.handled = none) (F : Fr h₀ L s₁.heap m) (N : News h₀ L s₁.heap news) (hm : (ax, listOf (List.toArray vs) k) ∈ news) (hz : vs.length ≤ sizeLine) (hT : TAll news vs (xs.map Dat.str))
    (turn : ∀ (i : Nat) (ys : List Value) (nw : List (Addr × Obj)) (y : Str) (t : Tok) (I : Addr) (oI : Obj) (C : Addr) (oC : Obj) (D : Addr) (m₂ : Str → Option Value) (g9 h : Heap) (tk : Nat) (E' : Value → Shared → Prop), (∀ q ∈ news, q ∈ nw) → TAll nw ys (T.dats ((xs.take i).map g)) → T.dats ((xs.take (i + 1)).map g) = T.dats ((xs.take i).map g) ++ [(g y).dat] →
      NsObj oC m₂ → m₂ x = some (.str y t) → Fr h₀ L h m → News h₀ L h ((I, oI) :: (C, oC) :: (D, lst ys) :: nw) → Off3 I C D nw → ((@Ne Nat I C) ∧ (@Ne Nat I D) ∧ (@Ne Nat C D)) →
      wpAny (model prog w) A (eval elt (compEnvC scope cl C env)) (CompEnd h₀ L m { s₁ with heap := h, toks := tk } I oI C oC D (lst ys) (SrcAt h₀ ax (List.toArray vs)) (fun y nw' => (∀ q ∈ news, q ∈ nw') ∧ TAll nw' (ys ++ [y]) (T.dats ((xs.take (i + 1)).map g)))) E' { s₁ with heap := h, toks := tk })
    (fin : ∀ (ys : List Value) (nw : List (Addr × Obj)) (D : Addr) (h : Heap) (tk : Nat), (∀ q ∈ news, q ∈ nw) → TAll nw ys (T.dats (xs.map g)) → Fr h₀ L h m → News h₀ L h ((D, lst ys) :: nw) → Off1 D nw → Q (.ref D) { s₁ with heap := h, toks := tk }) :
    CompSrc prog w A h₀ L m env elt x scope cl (fun s₂ => FinE h₀ L m s₂ Q) (.ref ax) s₁ := by
  have hl : vs.length = xs.length := by
    have := hT.length
    rwa [List.length_map] at this
  refine CompSrc.ledger hh F N hm (by simpa using hz) fun g9 => compRest_inv (n := (List.toArray vs).size) (fun i ys nw => (∀ q ∈ news, q ∈ nw) ∧ TAll nw ys (T.dats ((xs.take i).map g))) ?_ ?_ _ 0 [] news (by simp) ⟨fun _ h => h, by simpa [T.dats] using TAll.nil⟩
  · rintro i ys nw v I oI C oC D m₂ h tk E' hi ⟨j1, j2⟩ hv hoC hx F' N' off ne
    obtain ⟨y, t, rfl, hy⟩ := tall_str hT (by simpa using hv)
    refine turn i ys nw y t I oI C oC D m₂ g9 h tk E' j1 j2 ?_ hoC hx F' N' off ne
    rw [take_snoc hy, List.map_append, dats_append]
    rfl
  · rintro ys nw ⟨j1, j2⟩ D h tk F' N' o1
    refine fin ys nw D h tk j1 ?_ F' N' o1
    rw [List.size_toArray, hl, List.take_length] at j2
    exact j2
end
theorem comp_end1 {h₀ h' : Heap} {L I C D D' : Addr} {m : Str → Option Value} {s₁ : Shared} {oI oC oD o : Obj} {tk' : Nat} {S : List (Addr × Obj) → Prop} {rest : Value → List (Addr × Obj) → Prop} {y : Value} {nw : List (Addr × Obj)}
    (F : Fr h₀ L h' m) (N : News h₀ L h' ((D', o) :: (I, oI) :: (C, oC) :: (D, oD) :: nw)) (hl : ∀ p ∈ (I, oI) :: (C, oC) :: (D, oD) :: nw, p.1 < D') (off : Off3 I C D nw) (hS : S ((D', o) :: nw)) (r : rest y ((D', o) :: nw)) :
    CompEnd h₀ L m s₁ I oI C oC D oD S rest y { s₁ with heap := h', toks := tk' } := by
  refine CompEnd.intro F N ((D', o) :: nw) (fun p hp => ?_) ⟨⟨Nat.ne_of_gt (hl (I, oI) (.head _)), Nat.ne_of_gt (hl (C, oC) (.tail _ (.head _))), Nat.ne_of_gt (hl (D, oD) (.tail _ (.tail _ (.head _))))⟩, off⟩ hS r
  simp only [List.mem_cons] at hp ⊢
  rcases hp with rfl | rfl | rfl | rfl | hp <;> simp_all
set_option maxHeartbeats 8000000 in
theorem fo_con (w : World) : FoC w := by
  intro nz nvs n3 n B bv Y hn hm hN hv
  have hl := hN.length
  rw [List.length_map, namesN_len] at hl
  refine Con.intro ?_
  intro dp un gd cn cs fa ccd cl outer A₀ base h₀ L m s mean mg mb Q E B0 F X N Tp hk hd hu fin
  simp only [List.nil_append] at N
  refine wpAny_call ?_
  w_strict (
    k_dflt ktr_enter
    k_steps)
  unfold Hold
  rename Fr _ _ _ _ => F1
  rename News _ _ _ _ => N1
  refine' LCg.ListComp_U F1 ?hclos ?hcell ?hkind ?hnames ?hx ?h ?hs
  case hclos => with_unfolding_all rfl
  case hcell => decide
  case hkind => rfl
  case hnames => decide
  case hx => rfl
  case hs => (intro _; with_unfolding_all rfl)
  case h =>
    w_strict (
      k_steps)
    refine' lsrc_map (vs := nvs) (k := n3) (xs := namesN n) T.sym ?hh ?F ?N ?hm ?hz (TAll.mono (subT_of ?sub) hN) ?turn ?fin
    case hh => rfl
    case F => k_asm
    case N => k_asm
    case hm => lsm_bools
    case hz => (rw [sizeLine_eq]; omega)
    case sub => tb_start
    case turn =>
      intro i ys nw y t I oI C oC D m₂ g9 h tk E' hsub hT' he hoC hx F' N' off ne
      k_sweep
      w_strict (
        k_steps)
      refine' comp_end1 (s₁ := _) ?F ?N ?hl off ?hS ?r
      case F => k_asm
      case N => k_asm
      case hl => assumption
      case hS => exact .inr ⟨_, .tail _ (hsub _ hm), rfl, _, rfl⟩
      case r =>
        refine ⟨fun q hq => .tail _ (hsub q hq), ?_⟩
        rw [he]
        refine TAll.append (TAll.mono (subT_of fun q hq => .tail _ hq) hT') (.cons ?_ .nil)
        show TIn _ _ (symD _)
        tb_rel
    case fin =>
      intro ys nw D h tk hsub hT' F' N' o1
      have hvn : TIn nw bv B.dat := TIn.mono (subT_of hsub) hv
      have hyl : ys.length ≤ 60 := by
        have := hT'.length
        rw [dats_len, List.length_map, namesN_len] at this
        omega
      k_sweep
      w_strict (
        k_steps)
      refine' fin [] _ _ _ _ (by k_asm) (by k_asm) (List.forall_mem_nil _) ?Y (fun Y₁ hs => ⟨rfl, ?r⟩)
      case Y => exact fun p hp => (show ∀ p ∈ nw, p ∈ _ by tb_start) p (hsub p hp)
      case r =>
        refine TIn.mono hs ?_
        show TIn _ _ (.tuple [sS "expr", sS "->", .tuple [.tuple [sS "expr", sS "tuple", .tuple (T.dats ((namesN n).map T.sym))], B.dat]])
        tb_rel
end

section
-- FusedDef
theorem FuserIn.cut {w : World} {Y news ex : List (Addr × Obj)} {fz fd sz sd nz lz : Addr} {k : Int} {t4 tk : Tok} {xs ys : Array Value} {n3 n4 : Nat} (h : FuserIn w news fz fd sz sd nz lz) (c : Cut (stM w sd nz lz k t4 tk xs n3 ys n4) Y news ex) : FuserIn w (ex ++ Y) fz fd sz sd nz lz := by
  have key : ∀ p ∈ news, p.2.cls ≠ .type "list" → p.2.data ≠ (dictOf [attrE w "many" t4 (.int k tk)] 1).data → p ∈ ex ++ Y := fun p hp h1 h2 => by
    rcases c.has p hp with q | q
    · simp only [List.mem_cons, List.not_mem_nil, or_false] at q
      rcases q with rfl | rfl | rfl
      · exact absurd rfl h2
      · exact absurd rfl h1
      · exact absurd rfl h1
    · exact q
  obtain ⟨a, ⟨t1, t2, t3, b⟩, d⟩ := h
  refine ⟨key _ a ?_ ?_, ⟨t1, t2, t3, key _ b ?_ ?_⟩, key _ d ?_ ?_⟩
  · intro e; cases e
  · intro e; cases e
  · intro e; exact absurd (Value.type.inj e) (by decide)
  · intro e
    have := (Data.dict.inj e).1
    simp at this
  · intro e; cases e
  · intro e; cases e
section
variable {w : World} {Y news ex : List (Addr × Obj)}
  {dp un : Nat} {gd : Option (List Code)} {cn : Str} {cs : Scope} {fa : Addr} {ccd : Value} {cl : List (Str × Addr)} {outer : List Env} {A₀ : Around} {base h₀ : Heap} {L0 : Addr} {m : Str → Option Value} {s : Shared}
  {mean : ExcName → Option Value} {mg mb : Str → Option Value} {Q E : Value → Shared → Prop}
theorem fuse_useX {f : Addr} {dd uu : Nat} {Ok : T → Prop} {L : T → List T} {b : T → Nat → T} {fz fd sz sd nz lz : Addr} {t : T} {v : Value} {ls : List T} {t4 tk : Tok} {xs : Array Value} {n3 : Nat} {ys : Array Value} {n4 : Nat}
    (C : FuseC w f dd uu Ok L b) (ho : Ok t) (hv : TIn Y v t.dat) (hF : FuserIn w news fz fd sz sd nz lz) (hst : FSt w sd nz lz ls t4 tk xs n3 ys n4 Y) (hne : @Ne Nat nz lz) (hlen : ls.length + (L t).length ≤ 60)
    (hm : ∀ p ∈ stM w sd nz lz (ls.length : Int) t4 tk xs n3 ys n4, p ∈ news) (hc : Cut (stM w sd nz lz (ls.length : Int) t4 tk xs n3 ys n4) Y news ex) (y1 : ∀ p ∈ Y, p.1 ≠ sd) (y2 : ∀ p ∈ Y, p.1 ≠ nz) (y3 : ∀ p ∈ Y, p.1 ≠ lz)
    (B : Below A₀ base outer h₀) (F : Fr h₀ L0 s.heap m) (X : (hd.heap_39 w.params).In h₀) (N : News h₀ L0 s.heap news)
    (Tp : Top hd.view_39 (looseW hd.view_39 [Str.ofString "RowsError"]) mean mg mb h₀) (hk : cs.kind = .function)
    (hd : dp + dd < recursionLimit) (hu : un + uu < cLine)
    (ret : ∀ r t4 tk xs n3 ys n4 Y₂ h' tk', GrowT Y Y₂ → Fr h₀ L0 h' m → News h₀ L0 h' (stM w sd nz lz ((ls ++ L t).length : Int) t4 tk xs n3 ys n4 ++ (ex ++ Y₂)) → FSt w sd nz lz (ls ++ L t) t4 tk xs n3 ys n4 Y₂ → TIn Y₂ r (b t ls.length).dat → Q r { s with heap := h', toks := tk' }) :
    wpAny (model PySem.Challenge.rw_pq0689_01.row.prog w) (ktrTop dp un gd cn cs L0 fa ccd cl outer) (call (.ref f) [.ref fz, v]) Q E s := by
  have hy : ∀ q ∈ stM w sd nz lz (ls.length : Int) t4 tk xs n3 ys n4, ∀ p ∈ Y, p.1 ≠ q.1 := by
    intro q hq
    simp only [List.mem_cons, List.not_mem_nil, or_false] at hq
    rcases hq with rfl | rfl | rfl
    · exact y1
    · exact y2
    · exact y3
  refine Con.use (ex := ex) (fun ho' => C fz fd sz sd nz lz t v ls t4 tk xs n3 ys n4 (ex ++ Y) ho hne hlen (TIn.mono (fun p h _ => List.mem_append.mpr (.inr h)) hv) (hF.cut hc) (hst.mono fun p h _ => List.mem_append.mpr (.inr h)) ho') ?_ hc hm hy B F X N Tp hk hd hu ?_
  · rintro M' X Z r hs ⟨t4, tk, xs, n3, ys, n4, h1, h2, h3⟩
    exact ⟨t4, tk, xs, n3, ys, n4, h1, h2.mono hs, h3.mono hs⟩
  · rintro r M' Y₂ h' tk' g F' N' ⟨t4, tk, xs, n3, ys, n4, rfl, h2, h3⟩
    exact ret r t4 tk xs n3 ys n4 Y₂ h' tk' g F' N' h2 h3
/-- function_over at a call: the rest is the whole ledger -/
theorem fo_use {nz : Addr} {nvs : List Value} {n3 n : Nat} {B : T} {bv : Value} (C : FoC w) (hn : n ≤ 60) (hm : (nz, listOf (List.toArray nvs) n3) ∈ news) (hN : TAll news nvs ((namesN n).map Dat.str)) (hv : TIn news bv B.dat)
    (Bl : Below A₀ base outer h₀) (F : Fr h₀ L0 s.heap m) (X : (hd.heap_39 w.params).In h₀) (N : News h₀ L0 s.heap news)
    (Tp : Top hd.view_39 (looseW hd.view_39 [Str.ofString "RowsError"]) mean mg mb h₀) (hk : cs.kind = .function)
    (hd : dp + 12 < recursionLimit) (hu : un + 100 < cLine)
    (ret : ∀ r Y₂ h' tk', GrowT news Y₂ → Fr h₀ L0 h' m → News h₀ L0 h' Y₂ → TIn Y₂ r (fnT n B).dat → Q r { s with heap := h', toks := tk' }) :
    wpAny (model PySem.Challenge.rw_pq0689_01.row.prog w) (ktrTop dp un gd cn cs L0 fa ccd cl outer) (call (.ref 151) [.ref nz, bv]) Q E s := by
  refine Con.use (ex := []) (Y := news) (fun _ => C nz nvs n3 n B bv _ hn hm hN hv) ?_ .tail (fun _ h => nomatch h) (fun _ h => nomatch h) Bl F X N Tp hk hd hu ?_
  · rintro M' X Z r hs ⟨h1, h2⟩
    exact ⟨h1, h2.mono hs⟩
  · rintro r M' Y₂ h' tk' g F' N' ⟨rfl, h2⟩
    exact ret r Y₂ h' tk' g F' (by simpa using N') h2
end
section
variable {prog : Program} {w : World} {A : Around} {E : Value → Shared → Prop} {s : Shared} {h₀ : Heap} {L : Addr} {m : Str → Option Value} {news : List (Addr × Obj)}
/-- t + u of tuples, u empty or not -/
theorem add_tupE {t b : Addr} {vs us : List Value} {n1 n2 : Nat} {Q : Value → Shared → Prop} (F : Fr h₀ L s.heap m) (N : News h₀ L s.heap news) (ht : (t, tupObj vs n1) ∈ news) (hb : (b, tupObj us n2) ∈ news) (h1 : 0 < vs.length) (hz : vs.length + us.length ≤ sizeLine)
    (h : ∀ D n h', Fr h₀ L h' m → News h₀ L h' ((D, tupObj (vs ++ us) n) :: news) → Q (.ref D) { s with heap := h' }) : wpAny (model prog w) A (binaryOp .Add (.ref t) (.ref b)) Q E s := by
  refine add_tuples F N (News.isTup N ht) (News.isTup N hb) (fun e => ?_) (fun _ e => ?_) (fun _ _ h' F' N' => h _ _ h' F' N') hz
  · rw [e] at h1; cases h1
  · subst e
    refine h t n1 s.heap F fun p hp => ?_
    rcases List.mem_cons.mp hp with rfl | hp
    · rw [List.append_nil]; exact N _ ht
    · exact N p hp
end
noncomputable def objKey (o : Obj) : Nat := match o.cls with
  | .ref _ => 1000
  | _ => match o.data with
    | .dict es _ => es.size
    | _ => 500
theorem apart_of {h₀ h : Heap} {L a b : Addr} {o o' : Obj} {news : List (Addr × Obj)} (N : News h₀ L h news) (h1 : (a, o) ∈ news) (h2 : (b, o') ∈ news) (hne : Nat.beq (objKey o) (objKey o') = false) : @Ne Nat a b := fun e => by
  have q1 := (N _ h1).1
  have q2 := (N _ h2).1
  simp only at q1 q2
  rw [e] at q1
  rw [q1] at q2
  cases q2
  rw [Nat.beq_refl] at hne
  cases hne
theorem ToldIn.mono {X Y : List (Addr × Obj)} (hs : SubT X Y) {r : Value} {bc : Addr} {fn : T} {ls : List T} (h : ToldIn X r bc fn ls) : ToldIn Y r bc fn ls := by
  obtain ⟨a, n, t1, t2, b, k, f, lvs, rfl, h1, h2, h3, h4⟩ := h
  exact ⟨a, n, t1, t2, b, k, f, lvs, rfl, hs _ h1 rfl, hs _ h2 rfl, h3.mono hs, h4.mono hs⟩
section
variable {w : World} {Y news ex : List (Addr × Obj)}
  {dp un : Nat} {gd : Option (List Code)} {cn : Str} {cs : Scope} {fa : Addr} {ccd : Value} {cl : List (Str × Addr)} {outer : List Env} {A₀ : Around} {base h₀ : Heap} {L0 : Addr} {m : Str → Option Value} {s : Shared}
  {mean : ExcName → Option Value} {mg mb : Str → Option Value} {Q E : Value → Shared → Prop}
/-- the first call of a Fuser's body, told to the end -/
theorem fuse_useE {dd uu : Nat} {Ok : T → Prop} {fz fd sz sd nz lz : Addr} {t : T} {v : Value} {t4 tk : Tok} {xs : Array Value} {n3 : Nat} {ys : Array Value} {n4 : Nat}
    (C : FuseC w 120 dd uu Ok thingsT bodyT) (ho : Ok t) (hv : TIn Y v t.dat) (hlen : (thingsT t).length ≤ 40) (hF : FuserIn w news fz fd sz sd nz lz) (e1 : xs = List.toArray []) (e2 : ys = List.toArray []) (hne : @Ne Nat nz lz)
    (hm : ∀ p ∈ stM w sd nz lz 0 t4 tk xs n3 ys n4, p ∈ news) (hc : Cut (stM w sd nz lz 0 t4 tk xs n3 ys n4) Y news ex) (y1 : ∀ p ∈ Y, p.1 ≠ sd) (y2 : ∀ p ∈ Y, p.1 ≠ nz) (y3 : ∀ p ∈ Y, p.1 ≠ lz)
    (B : Below A₀ base outer h₀) (F : Fr h₀ L0 s.heap m) (X : (hd.heap_39 w.params).In h₀) (N : News h₀ L0 s.heap news)
    (Tp : Top hd.view_39 (looseW hd.view_39 [Str.ofString "RowsError"]) mean mg mb h₀) (hk : cs.kind = .function)
    (hd : dp + dd < recursionLimit) (hu : un + uu < cLine)
    (ret : ∀ r t4 tk nvs n3 lvs n4 Y₂ h' tk', GrowT Y Y₂ → Fr h₀ L0 h' m → News h₀ L0 h' ((sd, dictOf [attrE w "many" t4 (.int ((thingsT t).length : Int) tk)] 1) :: (nz, listOf (List.toArray nvs) n3) :: (lz, listOf (List.toArray lvs) n4) :: (ex ++ Y₂)) → nvs.length ≤ 40 → lvs.length ≤ 40 →
      TAll Y₂ nvs ((namesN (thingsT t).length).map Dat.str) → TAll Y₂ lvs (T.dats (thingsT t)) → TIn Y₂ r (bodyT t 0).dat → Q r { s with heap := h', toks := tk' }) :
    wpAny (model PySem.Challenge.rw_pq0689_01.row.prog w) (ktrTop dp un gd cn cs L0 fa ccd cl outer) (call (.ref 120) [.ref fz, v]) Q E s := by
  subst e1 e2
  refine fuse_useX (ls := []) C ho hv hF ⟨⟨[], rfl, .nil⟩, ⟨[], rfl, .nil⟩⟩ hne (by simpa using Nat.le_trans hlen (by decide)) hm hc y1 y2 y3 B F X N Tp hk hd hu ?_
  rintro r t4 tk xs n3 ys n4 Y₂ h' tk' g F' N' ⟨⟨nvs, rfl, hn⟩, ⟨lvs, rfl, hl⟩⟩ hr
  have z1 := hn.length
  have z2 := hl.length
  rw [List.length_map, namesN_len] at z1
  rw [dats_len] at z2
  simp only [List.nil_append] at z1 z2 hn hl N'
  exact ret r t4 tk nvs n3 lvs n4 Y₂ h' tk' g F' N' (by omega) (by omega) hn hl hr
end
section
variable {prog : Program} {w : World} {A : Around} {E : Value → Shared → Prop} {s : Shared} {h₀ : Heap} {L : Addr} {news : List (Addr × Obj)} {Q : Value → Shared → Prop}
theorem ne_nn {a b : Addr} {ka kb : Nat} (N : News h₀ L s.heap news) (ma : (a, listOf (List.toArray []) ka) ∈ news) (mb : (b, listOf (List.toArray []) kb) ∈ news)
    (hu : A.units + 64 < cLine) (h : Q (.bool false) s) : wpAny (model prog w) A (compareOp .NotEq (.ref a) (.ref b)) Q E s := by
  classical
  exact kqd_ne N ma rfl rfl (tall_dat .nil) (fun _ h => h) mb rfl rfl (tall_dat .nil) (fun _ h => h) (fun _ h => nomatch h) (fun _ h => nomatch h) hu (by simpa using h)
theorem ne_cn {a b : Addr} {v : Value} {vs : List Value} {d : Dat} {ds : List Dat} {ka kb : Nat} (N : News h₀ L s.heap news) (ma : (a, listOf (List.toArray (v :: vs)) ka) ∈ news) (mb : (b, listOf (List.toArray []) kb) ∈ news) (Da : TAll news (v :: vs) (d :: ds)) (ok : (d :: ds).all (kqdOk 8) = true)
    (hu : A.units + 64 < cLine) (h : Q (.bool true) s) : wpAny (model prog w) A (compareOp .NotEq (.ref a) (.ref b)) Q E s := by
  classical
  exact kqd_ne N ma rfl rfl (tall_dat Da) (fun _ h => h) mb rfl rfl (tall_dat .nil) (fun _ h => h) (List.all_eq_true.mp ok) (fun _ h => nomatch h) hu (by simpa using h)
end
section
variable {prog : Program} {w : World} {A : Around} {E : Value → Shared → Prop} {s : Shared} {h₀ : Heap} {L D b : Addr} {m : Str → Option Value} {news news' : List (Addr × Obj)} {its : Array Value} {n k : Nat} {Q : Value → Shared → Prop}
/-- l.extend(()) -/
theorem ext_nilT (F : Fr h₀ L s.heap m) (N : News h₀ L s.heap news) (hb : (b, tupObj [] k) ∈ news) (U : Upd D (listOf its n) (listOf its n) news news') (hz : its.size ≤ 60)
    (h : ∀ h', Fr h₀ L h' m → News h₀ L h' news' → Q .none { s with heap := h' }) : wpAny (model prog w) A (call (.builtin "list.extend") [.ref D, .ref b]) Q E s := by
  obtain ⟨xs, ys, rfl, rfl, hx, hy⟩ := U.split
  have hD := N (D, listOf its n) (List.mem_append.mpr (.inr (.head _)))
  have hroom : ¬(!its.isEmpty && Builtin.List.listTooLong (its.size + (#[] : Array Value).size)) = true := extend_door (by rw [sizeLine_eq]; simpa using Nat.le_trans hz (by decide))
  have hM := PySem.AutoSeq1.list_extend_list_tuple_0 D its n b #[] k hroom (by rw [sizeLine_eq]; exact Nat.le_trans hz (by decide)) (by rw [sizeLine_eq]; simpa using Nat.le_trans hz (by decide))
  refine call_meets PySem.F.slot_list_extend ⟨_, hD.1, rfl⟩ PySem.F.entry_list_extend (PySem.F.args_list_extend_2 _ _) hM ⟨hD.1, (N _ hb).1, ?_⟩
  refine h _ (F.change (Heap.SameBut.update ..) hD.2.1 hD.2.2) ?_
  exact kl_turn0 (fun x => x ++ #[]) N hx hy (by simp) rfl
end
end

section
-- CompIf
open LCg LCt
section
variable {prog : Program} {w : World} {A : Around} {E : Value → Shared → Prop} {s : Shared} {h₀ : Heap} {L : Addr} {m : Str → Option Value} {env : Env}
/-- the source of a comprehension with a test over a tuple -/
noncomputable def IfSrc (prog : Program) (w : World) (A : Around) (h₀ : Heap) (L : Addr) (m : Str → Option Value) (env : Env) (ct elt : Expr) (x : Str) (scope : Scope) (cl : List (Str × Addr)) (Q : Value → Shared → Prop) (xv : Value) (s₁ : Shared) : Prop :=
  ∃ ax vs k news, xv = .ref ax ∧ A.handled = none ∧ Fr h₀ L s₁.heap m ∧ News h₀ L s₁.heap news ∧ (ax, tupObj vs k) ∈ news ∧ vs.length ≤ sizeLine ∧
    ∀ g, CompRestT prog w A h₀ L m env ct elt x scope cl { s₁ with heap := g } (SrcK ax vs k) (fun i v => vs.toArray[i]? = some v) (FinE h₀ L m { s₁ with heap := g } Q) vs.toArray.size 0 [] news
theorem comp_tup_if {ct elt iter : Expr} {x : Str} {px : Pos} {scope : Scope} {cl : List (Str × Addr)} {pos : Pos} {Q : Value → Shared → Prop}
    (_F₀ : Fr h₀ L s.heap m) (hclos : closureFor scope env = pure cl) (hcell : ∀ y ∈ scope.names, y.2 ≠ .cell) (hkind : scope.kind = .function)
    (hnames : ∀ y ∈ scope.names, y.2 = .local → scope.names.lookup y.1 = some .local) (hx : scope.names.lookup x = some .local)
    (h : wpAny (model prog w) A (eval iter env) (IfSrc prog w A h₀ L m env ct elt x scope cl Q) E s)
    (hs : ∀ x, foldedSetIterable iter env x = pure x := by intro _; rfl) :
    wpAny (model prog w) A (eval (.ListComp elt [⟨.Name x px, iter, [ct], 0⟩] scope pos) env) Q E s := by
  rw [eval_ListComp]
  refine wpAny_comprehension_free (use := none) rfl hs hclos hkind hnames (wpAny_mono h (fun xv s₁ h₁ => ?_) fun _ _ e => e)
  obtain ⟨ax, vs, k, news, rfl, hh, F, N, hm, hsz, R⟩ := h₁
  have src : ∀ {h' : Heap} {nw : List (Addr × Obj)}, News h₀ L h' nw → SrcK ax vs k nw → h'.IsTuple ax vs.toArray := fun N' hS => ⟨_, (N' _ hS).1, rfl, k, rfl⟩
  have hl := src N hm
  have hlt : @LT.lt Nat _ ax s₁.heap.objs.size := Heap.lt_size (N _ hm).1
  refine wpAny_pyIter_tuple hl ?_
  have up : ∀ b o, s₁.heap.get? b = some o → (s₁.heap.push { cls := .type "tuple_iterator", data := .fields #[.ref ax, .int 0 0] }).get? b = some o := fun b o e => Heap.get?_push_of_some _ e
  refine block_T (Walks.tuple hh s₁.heap.objs.size ax (Nat.ne_of_lt hlt) vs.toArray) (by simpa using hsz) (fun i h st => by obtain ⟨o, e, _⟩ := st.1; exact ⟨o, e⟩) ?st hcell hkind hx ⟨⟨_, Heap.get?_push_size _ rfl, rfl, rfl⟩, hl.push _⟩ (fun b hb => ?_)
    (F.keeps up) (N.grown up) (Nat.ne_of_lt F.ns.lt) (next_is_new F) (fun p hp => Nat.ne_of_lt (Heap.lt_size (N p hp).1)) hm (R _) ?_
  case st =>
    intro i h h' o nw st e e' _ N' S
    obtain ⟨o', q, r⟩ := st.1
    rw [e] at q
    cases q
    exact ⟨⟨o, e', r⟩, src N' S⟩
  · show b < (s₁.heap.push _).objs.size
    rw [Heap.size_push]
    rcases List.mem_cons.mp hb with rfl | hb
    · exact Nat.lt_succ_self _
    · rw [List.mem_singleton.mp hb]; exact Nat.lt_succ_of_lt hlt
  · intro D C h tk m' ys news' F' N' o1 hn hC₀ hD₀ hCL hDL hCD offC fin
    refine ⟨m', hn, fun h'' hs'' => fin D h'' tk (F'.change hs'' hCL hC₀) (fun p hp => ?_) o1⟩
    refine ⟨hs''.extBut _ _ ?_ (N' p hp).1, (N' p hp).2⟩
    rcases List.mem_cons.mp hp with rfl | hp
    · exact Ne.symm hCD
    · exact offC p hp
theorem ifsrc {ct elt : Expr} {x : Str} {scope : Scope} {cl : List (Str × Addr)} {Q : Value → Shared → Prop} {ax : Addr} {vs : List Value} {k : Nat} {news : List (Addr × Obj)} {s₁ : Shared}
    (hh : A.handled = none) (F : Fr h₀ L s₁.heap m) (N : News h₀ L s₁.heap news) (hm : (ax, tupObj vs k) ∈ news) (hsz : vs.length ≤ sizeLine)
    (R : ∀ g, CompRestT prog w A h₀ L m env ct elt x scope cl { s₁ with heap := g } (SrcK ax vs k) (fun i v => vs.toArray[i]? = some v) (FinE h₀ L m { s₁ with heap := g } Q) vs.toArray.size 0 [] news) :
    IfSrc prog w A h₀ L m env ct elt x scope cl Q (.ref ax) s₁ := ⟨ax, vs, k, news, rfl, hh, F, N, hm, hsz, R⟩
/-- a turn that leaves the ledger as it was -/
theorem turn_end {I C D : Addr} {s₁ : Shared} {oI oC oD : Obj} {S : List (Addr × Obj) → Prop} {rest : Value → List (Addr × Obj) → Prop} {y : Value} {nw messy : List (Addr × Obj)} {h' : Heap} {tk' : Nat}
    (F : Fr h₀ L h' m) (N : News h₀ L h' messy) (hs : ∀ p ∈ (I, oI) :: (C, oC) :: (D, oD) :: nw, p ∈ messy) (off : Off3 I C D nw) (hS : S nw) (r : rest y nw) :
    CompEnd h₀ L m s₁ I oI C oC D oD S rest y { s₁ with heap := h', toks := tk' } := CompEnd.intro F N nw hs off hS r
end
/-- goal_of a place -/
noncomputable def GoalC (w : World) (place goal : T) : Prop := ∀ (pv : Value) (Y : List (Addr × Obj)), TIn Y pv place.dat → Con w 146 [pv] 40 300 [] Y (fun M' Y₁ r => M' = [] ∧ TIn Y₁ r goal.dat)
/-- mentions_end of a tree -/
noncomputable def MendC (w : World) (t : T) (b : Bool) : Prop := ∀ (v : Value) (Y : List (Addr × Obj)), TIn Y v t.dat → Con w 141 [v] 12 100 [] Y (fun M' _ r => M' = [] ∧ r = .bool b)
section
variable {w : World} {Y news ex : List (Addr × Obj)}
  {dp un : Nat} {gd : Option (List Code)} {cn : Str} {cs : Scope} {fa : Addr} {ccd : Value} {cl : List (Str × Addr)} {outer : List Env} {A₀ : Around} {base h₀ : Heap} {L0 : Addr} {m : Str → Option Value} {s : Shared}
  {mean : ExcName → Option Value} {mg mb : Str → Option Value} {Q E : Value → Shared → Prop}
theorem mend_use {t : T} {b : Bool} {v : Value} (C : MendC w t b) (hv : TIn news v t.dat)
    (Bl : Below A₀ base outer h₀) (F : Fr h₀ L0 s.heap m) (X : (hd.heap_39 w.params).In h₀) (N : News h₀ L0 s.heap news)
    (Tp : Top hd.view_39 (looseW hd.view_39 [Str.ofString "RowsError"]) mean mg mb h₀) (hk : cs.kind = .function)
    (hd : dp + 12 < recursionLimit) (hu : un + 100 < cLine)
    (ret : ∀ Y₂ h' tk', GrowT news Y₂ → Fr h₀ L0 h' m → News h₀ L0 h' Y₂ → Q (.bool b) { s with heap := h', toks := tk' }) :
    wpAny (model PySem.Challenge.rw_pq0689_01.row.prog w) (ktrTop dp un gd cn cs L0 fa ccd cl outer) (call (.ref 141) [v]) Q E s := by
  refine Con.use (ex := []) (Y := news) (fun _ => C v _ hv) ?_ .tail (fun _ h => nomatch h) (fun _ h => nomatch h) Bl F X N Tp hk hd hu ?_
  · rintro M' X Z r _ h
    exact h
  · rintro r M' Y₂ h' tk' g F' N' ⟨rfl, rfl⟩
    exact ret Y₂ h' tk' g F' (by simpa using N')
theorem goal_use {place goal : T} {pv : Value} (C : GoalC w place goal) (hv : TIn news pv place.dat)
    (Bl : Below A₀ base outer h₀) (F : Fr h₀ L0 s.heap m) (X : (hd.heap_39 w.params).In h₀) (N : News h₀ L0 s.heap news)
    (Tp : Top hd.view_39 (looseW hd.view_39 [Str.ofString "RowsError"]) mean mg mb h₀) (hk : cs.kind = .function)
    (hd : dp + 40 < recursionLimit) (hu : un + 300 < cLine)
    (ret : ∀ r Y₂ h' tk', GrowT news Y₂ → Fr h₀ L0 h' m → News h₀ L0 h' Y₂ → TIn Y₂ r goal.dat → Q r { s with heap := h', toks := tk' }) :
    wpAny (model PySem.Challenge.rw_pq0689_01.row.prog w) (ktrTop dp un gd cn cs L0 fa ccd cl outer) (call (.ref 146) [pv]) Q E s := by
  refine Con.use (ex := []) (Y := news) (fun _ => C pv _ hv) ?_ .tail (fun _ h => nomatch h) (fun _ h => nomatch h) Bl F X N Tp hk hd hu ?_
  · rintro M' X Z r hs ⟨h1, h2⟩
    exact ⟨h1, h2.mono hs⟩
  · rintro r M' Y₂ h' tk' g F' N' ⟨rfl, h2⟩
    exact ret r Y₂ h' tk' g F' (by simpa using N') h2
end
end

section
-- Fault
section
variable {M : Model} {A : Around} {E : Value → Shared → Prop} {h : Heap} {g : Array GenState} {d : Drawn} {t : Nat} {os : OsState}
variable {nm q : Str} {C N : Addr} {bs bm bmB : List Value} {hdct : Bool} {sn : List Str} {sub : List Value} {ab : Bool} {col : Option Bool} {dd : Option Addr} {k0 k1 k2 k3 k5 : Option Value} {B newId initId : String}
/-- the check of an exception's __new__: the class stands above B through classes of the program's own -/
theorem fault_check (F : ExcBaseFacts B newId initId bmB) (hB : bm.contains (.type B) = true) {rest : List Value} {Q : Unit → Shared → Prop} (hC : h.get? C = some (excClassObj nm q C N bs bm hdct sn sub ab col dd k0 k1 k2 k3 k5 newId))
    (hq : Q () ⟨h, g, d, t, os⟩) : wpAny M A (checkBuiltinCall newId ⟨.ref C :: rest, []⟩) Q E ⟨h, g, d, t, os⟩ := by
  have hin : (Value.ref C :: bm).contains (.type B) = true := by rw [List.contains_cons, hB, Bool.or_true]
  have hst := F.noStar
  simp only [checkBuiltinCall, F.newKind, F.newSplit, F.newRow]
  repeat (first | refine wpAny_loadPart_at hC ?_ | (refine wpAny_isSubtype_exc hC ?_; rw [hin]) | refine wpAny_staticBase_exc hC ?_ | refine wpAny_madeBy_exc hC ?_ | simp only [bne_self_eq_false, Bool.false_eq_true, if_false] | wp_step)
  exact hq
end
section
variable {prog : Program} {w : World} {A : Around} {R : Result → Shared → Prop} {E : Value → Shared → Prop} {h : Heap} {g : Array GenState} {d : Drawn} {t : Nat} {os : OsState}
variable {nm q : Str} {C N : Addr} {bs bm bmB : List Value} {hdct : Bool} {sn : List Str} {sub : List Value} {ab : Bool} {col : Option Bool} {dd : Option Addr} {k0 k1 k2 k3 k5 : Option Value} {B newId initId : String}
noncomputable abbrev bareExc (C t : Addr) : Obj := { cls := .ref C, data := .fields #[.ref t, .none, .none, .none, .bool false, .none] }
noncomputable abbrev fresh2 (h : Heap) (C : Addr) (rest : List Value) : Heap := (h.push { cls := .type "tuple", data := .seq rest.toArray }).push (bareExc C h.objs.size)
theorem fault_new (F : ExcBaseFacts B newId initId bmB) (hB : bm.contains (.type B) = true) (hA : bm.contains (.type "AttributeError") = false) (hN : bm.contains (.type "NameError") = false) {rest : List Value} (hC : h.get? C = some (excClassObj nm q C N bs bm hdct sn sub ab col dd k0 k1 k2 k3 k5 newId))
    (hq : R (.ok (.ret (.ref (h.objs.size + 1)))) ⟨fresh2 h C rest, g, d, t, os⟩) (hrest : rest.length ≤ sizeLine) :
    codeAny (model prog w) A (.builtin newId ⟨.ref C :: rest, []⟩) R ⟨h, g, d, t, os⟩ := by
  have hends := F.ends
  have c1 : (Value.ref C :: bm).contains (.type B) = true := by rw [List.contains_cons, hB, Bool.or_true]
  have c2 : (Value.ref C :: bm).contains (.type "AttributeError") = false := by rw [List.contains_cons, hA]; rfl
  have c3 : (Value.ref C :: bm).contains (.type "NameError") = false := by rw [List.contains_cons, hN]; rfl
  refine codeAny_builtinAt F.entry ?_
  unfold Builtin.«BaseException.__new__»
  refine PySem.wpAt_bind ?_
  show PySem.wpAt _ _ _ (stack >>= _) _ _ _
  refine PySem.wpAt_bind (PySem.wpAt_stack fun p below => PySem.wpAt_of_wpAny ?_)
  wp_walk
  refine PySem.wpAt_of_wpAny ?_
  rw [F.owner]
  repeat (first | with_reducible refine wpAny_madeHere_exc F.canon hC ?_ | with_reducible refine wpAny_loadPart_at hC ?_ | (with_reducible refine wpAny_isSubtype_exc hC ?_; first | rw [c1] | rw [c2] | rw [c3]) | wp_step)
  show R _ _
  rw [Heap.size_push]
  exact hq
/-- a call of an own exception class whose base, an own class too, has the __init__ -/
theorem fault_type_call (F : ExcBaseFacts B newId initId bmB) {C2 fI : Addr} {tl : List Value} {cd : ClassData} {c0 : Value} {dd2 : Option Addr} {sl : Array (Option Value)} {mN m2 : Str → Option Value} {rest : List Value} {oI : Obj} {Q : Fin → Shared → Prop} (hbm : bm = .ref C2 :: tl)
    (hB : bm.contains (.type B) = true) (hA : bm.contains (.type "AttributeError") = false) (hN : bm.contains (.type "NameError") = false)
    (hC : h.get? C = some (excClassObj nm q C N bs bm hdct sn sub ab col dd k0 k1 k2 k3 k5 newId)) (hn : h.Ns N mN) (hni : mN "__init__" = none)
    (h2 : h.get? C2 = some { cls := c0, dict := dd2, data := .cls cd, slots := sl }) (hn2 : h.Ns cd.ns m2) (hi : m2 "__init__" = some (.ref fI)) (hfI : h.get? fI = some oI) (hfc : oI.cls = .type "function")
    (hq : wpAny (model prog w) A (call (.ref fI) (.ref (h.objs.size + 1) :: rest)) (fun r s' => r = .none ∧ Q (.done (.ret (.ref (h.objs.size + 1)))) s') E ⟨fresh2 h C rest, g, d, t, os⟩) (hrest : rest.length ≤ sizeLine) :
    wpAny (model prog w) A (Builtin.«type.__call__» ⟨.ref C :: rest, []⟩) Q E ⟨h, g, d, t, os⟩ := by
  repeat (first | with_reducible refine wpAny_loadPart_at hC ?_ | with_reducible refine wpAny_madeBy_exc hC ?_ | wp_step)
  refine codeAny_call_builtin_code (Code.quiet_builtin _ F.quiet) (fault_check F hB hC ?_)
  refine fault_new F hB hA hN hC ?_ hrest
  show wpAny _ _ _ _ _ _
  have up : ∀ b o, h.get? b = some o → (fresh2 h C rest).get? b = some o := fun b o e => Heap.get?_push_of_some _ (Heap.get?_push_of_some _ e)
  have hC₁ := up _ _ hC
  have hget : (fresh2 h C rest).get? (h.objs.size + 1) = some (bareExc C h.objs.size) := by
    unfold fresh2
    heap_get
  have hcC : (Value.ref C :: bm).contains (.ref C) = true := by simp
  unfold isInstance
  repeat (first | with_reducible refine wpAny_loadPart_at hget ?_ | (with_reducible refine wpAny_isSubtype_exc hC₁ ?_; rw [hcC]) | wp_step)
  show wpAny _ _ (typeLookup (.ref C) _) _ _ _
  rw [typeLookup_eq]
  refine wpAny_bind (wpAny_mroOf_exc hC₁ ?_)
  rw [lookupAlong_cons]
  refine wpAny_bind (wpAny_classOwn_exc hC₁ (hn.keeps up) ?_)
  rw [hni, hbm]
  dsimp only
  rw [lookupAlong_cons]
  refine wpAny_bind (wpAny_classOwn_cls (up _ _ h2) (hn2.keeps up) ?_)
  rw [hi]
  refine wpAny_pure ?_
  refine wpAny_holding (wpAny_bind ?_)
  unfold bindSpecial
  refine wpAny_bind (wpAny_typeOf (T := "function") ⟨_, up _ _ hfI, hfc⟩ ?_)
  rw [if_pos (by decide)]
  refine wpAny_pure (wpAny_bind (wpAny_mono hq (fun r s' hr => ?_) fun _ _ x => x))
  obtain ⟨rfl, hQ⟩ := hr
  wp_walk
  exact hQ
theorem fault_call (F : ExcBaseFacts B newId initId bmB) {C2 fI : Addr} {tl : List Value} {cd : ClassData} {c0 : Value} {dd2 : Option Addr} {sl : Array (Option Value)} {mN m2 : Str → Option Value} {rest : List Value} {oI : Obj} {Q : Value → Shared → Prop} (hbm : bm = .ref C2 :: tl)
    (hB : bm.contains (.type B) = true) (hA : bm.contains (.type "AttributeError") = false) (hN : bm.contains (.type "NameError") = false)
    (hC : h.get? C = some (excClassObj nm q C N bs bm hdct sn sub ab col dd k0 k1 k2 k3 k5 newId)) (hn : h.Ns N mN) (hni : mN "__init__" = none)
    (h2 : h.get? C2 = some { cls := c0, dict := dd2, data := .cls cd, slots := sl }) (hn2 : h.Ns cd.ns m2) (hi : m2 "__init__" = some (.ref fI)) (hfI : h.get? fI = some oI) (hfc : oI.cls = .type "function")
    (hq : wpAny (model prog w) (A.under (.builtin "type.__call__" ⟨.ref C :: rest, []⟩)) (call (.ref fI) (.ref (h.objs.size + 1) :: rest)) (fun r s' => r = .none ∧ Q (.ref (h.objs.size + 1)) s') E ⟨fresh2 h C rest, g, d, t, os⟩) (hrest : rest.length ≤ sizeLine) :
    wpAny (model prog w) A (call (.ref C) rest) Q E ⟨h, g, d, t, os⟩ := by
  have f1 := tc_lookup
  have f2 := tc_bind (.ref C)
  have hT : (⟨h, g, d, t, os⟩ : Shared).TypeIs (.ref C) "type" := ⟨_, hC, rfl⟩
  refine wpAny_call (codeAny_of_tree ?_)
  show wpAny _ _ (callAny (.ref C) _) _ _ _
  repeat (any_goals (first | assumption | with_reducible refine wpAny_loadPart_at hC ?_ | wp_step))
  refine ⟨rfl, ?_⟩
  exact codeAny_call_builtin_at (Code.quiet_builtin _ (by decide +kernel)) entry_typeCall (wpAny_check_type_call_sub hC (fault_type_call F hbm hB hA hN hC hn hni h2 hn2 hi hfI hfc hq hrest))
end
end

section
-- FaultK
theorem ns_some_of {K : Frag} {h : Heap} {N : Addr} {mg : Str → Option Value} {n : Str} {v : Value} (X : K.In h) (G : h.Ns N mg) (e : nsIn K N n = some (some v)) : mg n = some v := by
  obtain ⟨o, es, ep, ho, hd, _, hf⟩ := G
  unfold nsIn at e
  split at e
  · rename_i q
    have hh := X _ _ q
    rw [ho] at hh
    cases hh
    cases hd
    split at e
    · rename_i hx
      cases e
      rw [← hf]
      unfold nsFind findBy
      rw [← Array.find?_toList, hx]
      rfl
    · split at e <;> cases e
  · cases e
theorem nsMap_some_of {K : Frag} {h : Heap} {N : Addr} {n : Str} {v : Value} (X : K.In h) (ok : nsOkIn K N = true) (e : nsIn K N n = some (some v)) : h.nsMap N n = some v := ns_some_of X (.of_isNs (isNs_of_in X ok)) e
section
variable {prog : Program} {w : World} {A : Around} {E : Value → Shared → Prop} {s : Shared} {h₀ : Heap} {L : Addr} {m : Str → Option Value} {news : List (Addr × Obj)}
set_option maxHeartbeats 4000000 in
/-- LowerFault(..): the bare exception, then RowsError's __init__ -/
theorem call_fault {rest : List Value} {Q : Value → Shared → Prop} (X : (hd.heap_39 w.params).In h₀) (F : Fr h₀ L s.heap m) (N : News h₀ L s.heap news) (hrest : rest.length ≤ sizeLine)
    (h : ∀ e t h', Fr h₀ L h' m → News h₀ L h' ((e, bareExc 45 t) :: (t, tupObj rest 0) :: news) → (∀ p ∈ (t, tupObj rest 0) :: news, p.1 < e) → (∀ p ∈ news, p.1 < t) →
      wpAny (model prog w) (A.under (.builtin "type.__call__" ⟨.ref 45 :: rest, []⟩)) (call (.ref 29) (.ref e :: rest)) (fun r s' => r = .none ∧ Q (.ref e) s') E { s with heap := h' }) :
    wpAny (model prog w) A (call (.ref 45) rest) Q E s := by
  obtain ⟨hp, g, d, tk, os⟩ := s
  simp only at F N h ⊢
  have hC := F.keep _ _ (X 45 _ (by k_is))
  have h2 := F.keep _ _ (X 32 _ (by k_is))
  have h9 := F.keep _ _ (X 29 _ (by k_is))
  have k44 : nsOkIn (hd.heap_39 w.params) 44 = true := by first | k_is | kernel_rfl
  have k31 : nsOkIn (hd.heap_39 w.params) 31 = true := by first | k_is | kernel_rfl
  have n44 : h₀.Ns 44 (h₀.nsMap 44) := .of_isNs (isNs_of_in X k44)
  have n31 : h₀.Ns 31 (h₀.nsMap 31) := .of_isNs (isNs_of_in X k31)
  have f1 := F.push { cls := .type "tuple", data := .seq rest.toArray }
  have n1 := N.push F { cls := .type "tuple", data := .seq rest.toArray }
  have f2 := f1.push (bareExc 45 hp.objs.size)
  have n2 := n1.push f1 (bareExc 45 hp.objs.size)
  rw [Heap.size_push] at n2
  refine fault_call PySem.F.excBase_Exception (C2 := 32) (fI := 29) rfl (by decide) (by decide) (by decide) hC (n44.keeps F.keep) (nsMap_none_of_in X k44 (by k_is)) h2 (n31.keeps F.keep) (nsMap_some_of X k31 (by k_is)) h9 rfl ?_ hrest
  refine h (hp.objs.size + 1) hp.objs.size _ f2 n2 (fun p hp' => ?_) (fun p hp' => Heap.lt_size (N p hp').1)
  rcases List.mem_cons.mp hp' with rfl | hp'
  · exact Nat.lt_succ_self _
  · exact Nat.lt_succ_of_lt (Heap.lt_size (N p hp').1)
end
end
section
-- FaultR
theorem reset_FaultR : True := by
  w_top off
  k_with_none
  k_with "kt_len" => first | assumption | exact ltm (by assumption) (by lsm_bools) | exact lt3 (by assumption) (by assumption) (by lsm_bools) | exact ltk (by assumption) | exact lk0 (by assumption) (by rfl) | exact lk1 (by assumption) (by rfl) | exact ltn (by assumption) (by lsm_bools) | exact lka (by rfl) | exact lkb (by rfl) | exact And.left (by assumption) | exact pj1 (by assumption) | exact pj2 (by assumption) | fail "no"
  k_with "ktr_room" => first | exact szg (by rfl) | exact rm2 (by assumption) (by rfl) | exact rs2 (by assumption) (by rfl) | exact rm0 (by assumption) | exact rm1 (by assumption) (by rfl) | exact rs1 (by assumption) (by rfl) | exact rm3 (by assumption) (by rfl) | exact rm4 (by assumption) (by rfl) | exact rm5 (by assumption) (by rfl) | exact rmn (by assumption) (by assumption) (by rfl) | exact rmt (by assumption) (by rfl) | fail "no"
  k_with "ktr_units" => k_extra "ktr_room"
  k_with "omega" => first | with_reducible assumption | (show (_ : Nat) < _; first | assumption | k_extra "ktr_room") | (show (_ : Nat) ≤ _; first | assumption | exact szg (by rfl) | exact sza (by assumption) (by rfl) | exact szb (by assumption) (by assumption) (by rfl) | exact szc (by assumption) (by rfl) | exact szd (by assumption) (by rfl) | exact cza (by assumption) (by rfl) | exact szs (by assumption) | exact Nat.le_of_eq (by assumption)) | (show (_ : Nat) ≠ _; first | assumption | exact Ne.symm (by assumption) | exact ofI (by assumption) (by lsm_bools) | exact ofC (by assumption) (by lsm_bools) | exact ofD (by assumption) (by lsm_bools) | exact fI (by assumption) (by lsm_bools) | exact fC (by assumption) (by lsm_bools) | exact fD (by assumption) (by lsm_bools) | exact Nat.ne_of_lt (by kt_len) | exact Nat.ne_of_gt (by kt_len)) | (show (_ : Nat) < _ ∨ _; first | exact Or.inl (by kt_len) | exact Or.inr (by kt_len)) | fail "no"
  k_with "lsm_bools" => first | exact List.Mem.head _ | assumption | (refine' List.Mem.tail _ ?_; lsm_bools) | (refine' GrowT.mem ?gZ217 ?hZ217; (case gZ217 => assumption); (case hZ217 => lsm_bools)) | fail "no entry"
  k_with "k_mem" => first | lsm_bools | fail "no entry"
  k_with "tb_start" => first
  | exact List.forall_mem_nil _
  | (refine' List.forall_mem_cons.mpr ⟨?aZ219, ?bZ219⟩; (case aZ219 => lsm_bools); (case bZ219 => tb_start))
  | (intro p hp; repeat (first | exact hp | refine List.mem_cons_of_mem _ ?_ | refine List.Mem.tail _ ?_ | refine GrowT.mem' (by assumption) ?_ | refine GrowT.mem (by assumption) ?_ | fail "no entry"))
  | fail "not within"
  k_with "k_all" => first
  | assumption
  | (refine' GrowT.off ?gZ220 ?oZ220 ?NZ220 ?sZ220 ?mZ220 ?cZ220; (case gZ220 => assumption); (case NZ220 => k_asm); (case sZ220 => tb_start); (case mZ220 => lsm_bools); (case cZ220 => rfl); (case oZ220 => k_all))
  | (refine' offLt ?hZ220 ?sZ220; (case hZ220 => assumption); (case sZ220 => tb_start))
  | (refine' offLt3 ?qZ220 ?hZ220 ?sZ220; (case qZ220 => assumption); (case hZ220 => assumption); (case sZ220 => tb_start))
  | fail "not apart"
  k_with "kqd_sub" => first
  | (refine' Cut.own ?mZ221 ?rZ221; (case mZ221 => lsm_bools); (case rZ221 => kqd_sub))
  | (refine' Cut.oth ?oZ221 ?rZ221; (case oZ221 => k_all); (case rZ221 => kqd_sub))
  | exact Cut.tail
  | fail "no cut"
  k_with "ktr_rel" => first
  | exact subT_nil
  | exact subT_of (fun _ hp => hp)
  | assumption
  | (refine' subT_skip ?aZ222 ?bZ222; (case aZ222 => rfl); (case bZ222 => ktr_rel))
  | (refine' subT_cons ?aZ222 ?bZ222; (case aZ222 => lsm_bools); (case bZ222 => ktr_rel))
  | (refine' subT_of ?hZ222; (case hZ222 => tb_start))
  | (refine' subT_app (by ktr_rel) (by ktr_rel))
  | fail "tuples not within"
  k_with "k_room" => ktr_room
  k_with "k_units" => ktr_units
  k_with "tb_rel" => first
  | exact TAll.nil
  | exact TIn.str _ _
  | exact TIn.int _ _
  | exact TIn.bytes _ _
  | assumption
  | (refine' TIn.mono ?sZ225 ?hZ225; (case hZ225 => assumption); (case sZ225 => ktr_rel))
  | (refine' TAll.mono ?sZ225 ?hZ225; (case hZ225 => assumption); (case sZ225 => ktr_rel))
  | (refine' TIn.tuple ?mZ225 ?rZ225; (case mZ225 => lsm_bools); (case rZ225 => tb_rel))
  | (refine' TAll.cons (by tb_rel) (by tb_rel))
  | fail "no tree"
  k_with "call ref" => (k_here; (with_reducible show wpAny _ _ (call (Value.ref 214) [Value.str _ _] _) _ _ _); k_dflt (refine' sym_use ?CZ226 ?hcZ226 ?BZ226 ?FZ226 ?XZ226 ?NZ226 ?TZ226 ?hkZ226 ?hdZ226 ?huZ226 ?_; (case CZ226 => exact sym_con _); (case NZ226 => k_asm); (case hcZ226 => kqd_sub); (case BZ226 => k_asm); (case FZ226 => k_asm); (case XZ226 => k_asm); (case TZ226 => k_asm); (case hkZ226 => first | rfl | assumption); (case hdZ226 => ktr_room); (case huZ226 => ktr_units); k_whole; intro a' Y' h' tk' g' F' N' hr'; (try simp only [List.cons_append, List.nil_append] at N'); (try k_fold)))
  k_with "call ref" => (k_here; (with_reducible show wpAny _ _ (call (Value.ref 207) [Value.str _ _, Value.ref _] _) _ _ _); k_dflt (refine' tree_use ?CZ227 ?hcZ227 ?hmZ227 ?hlZ227 ?hTZ227 ?BZ227 ?FZ227 ?XZ227 ?NZ227 ?TZ227 ?hkZ227 ?hdZ227 ?huZ227 ?_; (case CZ227 => exact tree_con _); (case NZ227 => k_asm); (case hcZ227 => kqd_sub); (case hmZ227 => lsm_bools); (case hlZ227 => exact Nat.le_of_ble_eq_true rfl); (case hTZ227 => tb_rel); (case BZ227 => k_asm); (case FZ227 => k_asm); (case XZ227 => k_asm); (case TZ227 => k_asm); (case hkZ227 => first | rfl | assumption); (case hdZ227 => ktr_room); (case huZ227 => ktr_units); k_whole; intro a' Y' h' tk' g' F' N' hr'; (try simp only [List.cons_append, List.nil_append] at N'); (try k_fold)))
  k_with "call ref" => (k_here; (with_reducible show wpAny _ _ (call (Value.ref 68) [_, Value.str _ _] _) _ _ _); k_dflt (refine' isEx_use ?CZ228 ?hvZ228 ?eZ228 ?BZ228 ?FZ228 ?XZ228 ?NZ228 ?TZ228 ?hkZ228 ?hsZ228 ?hdZ228 ?huZ228 ?_; (case CZ228 => exact isEx_con _); (case hvZ228 => assumption); (case eZ228 => first | assumption | rfl); (case hsZ228 => tb_start); (case BZ228 => k_asm); (case FZ228 => k_asm); (case XZ228 => k_asm); (case NZ228 => k_asm); (case TZ228 => k_asm); (case hkZ228 => first | rfl | assumption); (case hdZ228 => ktr_room); (case huZ228 => ktr_units); k_whole; intro h' tk' F' N'; (try k_fold)))
  k_with "call ref" => (k_here; (with_reducible show wpAny _ _ (call (Value.ref 82) [Value.ref _] _) _ _ _); k_dflt (refine' isSym_use ?hmZ229 ?eZ229 ?BZ229 ?FZ229 ?XZ229 ?NZ229 ?TZ229 ?hkZ229 ?hdZ229 ?huZ229 ?_; (case NZ229 => k_asm); (case hmZ229 => lsm_bools); (case eZ229 => first | rfl | decide); (case BZ229 => k_asm); (case FZ229 => k_asm); (case XZ229 => k_asm); (case TZ229 => k_asm); (case hkZ229 => first | rfl | assumption); (case hdZ229 => ktr_room); (case huZ229 => ktr_units); k_whole; intro h' tk' F' N'; (try k_fold)))
  k_with "call ref" => (k_here; (with_reducible show wpAny _ _ (call (Value.ref 75) [Value.ref _] _) _ _ _); k_dflt (first
  | (refine' parts_use ?hmZ230 ?BZ230 ?FZ230 ?XZ230 ?NZ230 ?TZ230 ?hkZ230 ?hdZ230 ?huZ230 ?_; (case NZ230 => k_asm); (case hmZ230 => lsm_bools); (case BZ230 => k_asm); (case FZ230 => k_asm); (case XZ230 => k_asm); (case TZ230 => k_asm); (case hkZ230 => first | rfl | assumption); (case hdZ230 => ktr_room); (case huZ230 => ktr_units); k_whole; intro h' tk' F' N'; (try k_fold))
  | (refine' parts0_use ?hcZ230 ?hmZ230 ?hzZ230 ?BZ230 ?FZ230 ?XZ230 ?NZ230 ?TZ230 ?hkZ230 ?hdZ230 ?huZ230 ?_; (case NZ230 => k_asm); (case hmZ230 => lsm_bools); (case hzZ230 => decide); (case hcZ230 => kqd_sub); (case BZ230 => k_asm); (case FZ230 => k_asm); (case XZ230 => k_asm); (case TZ230 => k_asm); (case hkZ230 => first | rfl | assumption); (case hdZ230 => ktr_room); (case huZ230 => ktr_units); k_whole; intro d' j' Y' h' tk' g' F' N' hm'; (try simp only [List.cons_append, List.nil_append] at N'); (try k_fold))))
  k_with "compareOp In str ref" => (k_here; k_dflt (refine' in_tupL ?htZ231 ?hiZ231 ?_; (case htZ231 => (refine' tupK ?XZ231 ?lZ231; (case XZ231 => k_in); (case lZ231 => k_is))); (case hiZ231 => exact rfl)))
  k_with "compareOp Eq ref ref" => (k_here; k_dflt (first
  | (refine' eq_dat (r := false) ?HZ232 ?d1Z232 ?d2Z232 ?hcZ232 ?hdZ232 ?huZ232 ?_; (case HZ232 => exact heldOf (by k_asm)); (case d1Z232 => tb_rel); (case d2Z232 => tb_rel); (case hcZ232 => with_unfolding_all rfl); (case hdZ232 => exact Nat.le_of_ble_eq_true rfl); (case huZ232 => ktr_units))
  | (refine' eq_dat (r := true) ?HZ232 ?d1Z232 ?d2Z232 ?hcZ232 ?hdZ232 ?huZ232 ?_; (case HZ232 => exact heldOf (by k_asm)); (case d1Z232 => tb_rel); (case d2Z232 => tb_rel); (case hcZ232 => with_unfolding_all rfl); (case hdZ232 => exact Nat.le_of_ble_eq_true rfl); (case huZ232 => ktr_units))))
  k_with "compareOp NotEq ref ref" => (k_here; k_dflt (first
  | (refine' ne_dat (r := false) ?HZ233 ?d1Z233 ?d2Z233 ?hcZ233 ?hdZ233 ?huZ233 ?_; (case HZ233 => exact heldOf (by k_asm)); (case d1Z233 => tb_rel); (case d2Z233 => tb_rel); (case hcZ233 => with_unfolding_all rfl); (case hdZ233 => exact Nat.le_of_ble_eq_true rfl); (case huZ233 => ktr_units))
  | (refine' ne_dat (r := true) ?HZ233 ?d1Z233 ?d2Z233 ?hcZ233 ?hdZ233 ?huZ233 ?_; (case HZ233 => exact heldOf (by k_asm)); (case d1Z233 => tb_rel); (case d2Z233 => tb_rel); (case hcZ233 => with_unfolding_all rfl); (case hdZ233 => exact Nat.le_of_ble_eq_true rfl); (case huZ233 => ktr_units))))
  k_with "subscriptTail Name Constant ref int" => (k_here; k_dflt (refine' item_tupleT ?tZ234 ?aZ234 ?bZ234 ?cZ234 ?dZ234 ?_; (case tZ234 => exact News.isTup (by k_asm) (by k_mem)); (case aZ234 => decide); (case bZ234 => decide); (case cZ234 => rfl); (case dZ234 => rfl); k_whole))
  k_with "ite" => (k_closed; k_dflt (first | (refine' ite_pos ?cZ235 ?_; (case cZ235 => decide)) | (refine' ite_neg ?cZ235 ?_; (case cZ235 => decide))))
  k_with "call ref" => (k_here; (with_reducible show wpAny _ _ (call (Value.ref 54) [Value.str _ _, Value.ref _] _) _ _ _); k_dflt (refine' expr_use ?hcZ236 ?hmZ236 ?hlZ236 ?BZ236 ?FZ236 ?XZ236 ?NZ236 ?TZ236 ?hkZ236 ?hdZ236 ?huZ236 ?_; (case NZ236 => k_asm); (case hmZ236 => lsm_bools); (case hcZ236 => kqd_sub); (case hlZ236 => first | exact Nat.le_of_ble_eq_true rfl | (simp only [List.length_append, List.length_cons, List.length_nil]; omega)); (case BZ236 => k_asm); (case FZ236 => k_asm); (case XZ236 => k_asm); (case TZ236 => k_asm); (case hkZ236 => first | rfl | assumption); (case hdZ236 => ktr_room); (case huZ236 => ktr_units); k_whole; intro a' t1' k' Y' h' tk' g' F' N' hm'; (try simp only [List.cons_append, List.nil_append] at N'); (try k_fold)))
  k_with "call ref" => (k_here; (with_reducible show wpAny _ _ (call (Value.ref 61) [Value.str _ _] _) _ _ _); k_dflt (refine' sym_use ?CZ237 ?hcZ237 ?BZ237 ?FZ237 ?XZ237 ?NZ237 ?TZ237 ?hkZ237 ?hdZ237 ?huZ237 ?_; (case CZ237 => exact symF_con _); (case NZ237 => k_asm); (case hcZ237 => kqd_sub); (case BZ237 => k_asm); (case FZ237 => k_asm); (case XZ237 => k_asm); (case TZ237 => k_asm); (case hkZ237 => first | rfl | assumption); (case hdZ237 => ktr_room); (case huZ237 => ktr_units); k_whole; intro a' Y' h' tk' g' F' N' hr'; (try simp only [List.cons_append, List.nil_append] at N'); (try k_fold)))
  trivial
/-- a LowerFault in hand, to be raised into E -/
noncomputable def Faulty (E : Value → Shared → Prop) (v : Value) (s₁ : Shared) : Prop :=
  ∃ e od sl vs nm q N bs bm hdct sn sub ab col dd k0 k1 k2 k3 k5, v = .ref e ∧ s₁.heap.get? 45 = some (excClassObj nm q 45 N bs bm hdct sn sub ab col dd k0 k1 k2 k3 k5 "Exception.__new__") ∧ bm.contains (.type "BaseException") = true ∧
    s₁.heap.get? e = some { cls := .ref 45, dict := od, data := .fields vs, slots := sl } ∧ vs[1]? = some .none ∧ E (.ref e) s₁
section
variable {prog : Program} {w : World} {M : Model} {A : Around} {E : Value → Shared → Prop} {s : Shared} {env : Env} {h₀ : Heap} {L : Addr} {m : Str → Option Value} {news : List (Addr × Obj)}
theorem Raise_fault {x : PySem.Expr} {pos : Pos} {Q : Flow → Shared → Prop} (hh : A.handled = none) (h : wpAny M A (eval x env) (Faulty E) E s) : wpAny M A (exec (.Raise (some x) none pos) env) Q E s := by
  show wpAny M A (do standAt pos; raiseStmt env (some (do let v ← eval x env; standAt pos; pure v)) none) Q E s
  refine wpAny_bind (wpAny_standAt ?_)
  unfold raiseStmt
  dsimp only
  refine wpAny_bind (wpAny_bind (wpAny_mono h (fun v s₁ h₁ => wpAny_bind (wpAny_standAt (wpAny_pure ?_))) fun _ _ x => x))
  obtain ⟨e, od, sl, vs, nm, q, N, bs, bm, hdct, sn, sub, ab, col, dd, k0, k1, k2, k3, k5, rfl, hC, hb, he, h1, hE⟩ := h₁
  have hcB : (Value.ref 45 :: bm).contains (.type "BaseException") = true := by rw [List.contains_cons, hb, Bool.or_true]
  obtain ⟨hp, g, d, tk, os⟩ := s₁
  simp only at hC he hE ⊢
  repeat (first | with_reducible refine wpAny_loadPart_at he ?_ | with_reducible refine wpAny_loadPart_at hC ?_ | (with_reducible refine wpAny_isSubtype_exc hC ?_; rw [hcB]) | wp_step)
  rw [h1]
  refine wpAny_pure ?_
  rw [if_neg (by decide)]
  exact wpAny_pure (wpAny_raiseNew_none hh hE)
theorem faulty_of {e : Addr} {od : Option Addr} {sl : Array (Option Value)} {vs : Array Value} (X : (hd.heap_39 w.params).In h₀) (F : Fr h₀ L s.heap m) (N : News h₀ L s.heap news) (he : (e, { cls := .ref 45, dict := od, data := .fields vs, slots := sl }) ∈ news) (h1 : vs[1]? = some .none) (h : E (.ref e) s) : Faulty E (.ref e) s :=
  ⟨e, od, sl, vs, _, _, _, _, _, _, _, _, _, _, _, _, _, _, _, _, rfl, F.keep _ _ (X 45 _ (by k_is)), by decide, (N _ he).1, h1, h⟩
end
section
variable {M : Model} {A : Around} {E : Value → Shared → Prop} {s' : Shared} {base g g₂ h : Heap} {outer : List Env} {L a e t : Addr} {m : Str → Option Value} {env : Env} {Q : Unit → Shared → Prop} {news all : List (Addr × Obj)}
/-- what is to be known where an exception is caught -/
noncomputable def KeepIs (_ : List (Addr × Obj)) : Prop := True
theorem hide_none {h : Heap} {as : List Addr} {b : Addr} (hb : b ∈ as) : (hideAll h as).get? b = none := hideAll_none _ hb
/-- the frame that raised a made exception object is left -/
theorem leave_fault {ob : Obj} {c : Value} {ws : Array Value} {vs : List Value} {n : Nat} (K : Below A base outer g) (F : Fr g L s'.heap m) (N : News g L s'.heap all) (_kp : KeepIs news) (he : (e, ob) ∈ all) (hc : ob.cls = c) (hd : ob.data = .fields ws) (h1 : ws[1]? = some .none) (h0 : ws[0]? = some (.ref t)) (ht : (t, tupObj vs n) ∈ all)
    (hs : ∀ p ∈ news, p ∈ all) (hn : ∀ p ∈ news, p.1 ≠ e) (hn2 : ∀ p ∈ news, p.1 ≠ t) (hQ : ∀ h', RaisedS base g outer e c t vs news h' → g.UpToSlots h' → Q () { s' with heap := h' }) (hf : env.frame = some L) (hk : env.scope.kind = .function) :
    wpAny M (A.deeper env) (leaving env (.ref e)) Q E s' := by
  have K' := pushX K F hf hk
  generalize hfs : (env :: outer).filterMap (·.frame) = fs
  have hin : ∀ en ∈ (env :: outer), ∀ b, en.frame = some b → b ∈ e :: t :: fs := fun en hm b hb => .tail _ (.tail _ (hfs ▸ List.mem_filterMap.mpr ⟨en, hm, hb⟩))
  have own : ∀ q ∈ all, q.1 ∉ fs := fun q hq hm => by
    rw [← hfs] at hm
    obtain ⟨en, hm, hg⟩ := List.mem_filterMap.mp hm
    rcases List.mem_cons.mp hm with rfl | hm
    · exact (N q hq).2.1 (Option.some.inj (hf.symm.trans hg)).symm
    · obtain ⟨o, ho, _⟩ := (K.frames.mem (List.mem_filterMap.mpr ⟨en, hm, hg⟩)).2
      rw [(N q hq).2.2] at ho; cases ho
  have off : ∀ b o, base.get? b = some o → b ∉ e :: t :: fs := fun b o q hm => by
    rcases List.mem_cons.mp hm with rfl | hm
    · have := fresh_of_stays K.stays (N _ he).2.2
      rw [q] at this; cases this
    · rcases List.mem_cons.mp hm with rfl | hm
      · have := fresh_of_stays K.stays (N _ ht).2.2
        rw [q] at this; cases this
      · rw [← hfs] at hm
        rw [(K'.frames.mem hm).1] at q; cases q
  have st : base.StaysIn (hideAll s'.heap (e :: t :: fs)) := fun b o q => hideAll_get _ (K'.stays b o q) (off b o q)
  have sg : ∀ b o, g.get? b = some o → b ∉ outer.filterMap (·.frame) → (hideAll s'.heap (e :: t :: fs)).get? b = some o := fun b o q nm => hideAll_get _ (F.keep b o q) fun hm => by
    rcases List.mem_cons.mp hm with rfl | hm
    · rw [(N _ he).2.2] at q; cases q
    · rcases List.mem_cons.mp hm with rfl | hm
      · rw [(N _ ht).2.2] at q; cases q
      · rw [← hfs] at hm
        obtain ⟨en, hm, hg⟩ := List.mem_filterMap.mp hm
        rcases List.mem_cons.mp hm with rfl | hm
        · obtain rfl := Option.some.inj (hf.symm.trans hg)
          rw [kts_self F] at q; cases q
        · exact nm (List.mem_filterMap.mpr ⟨en, hm, hg⟩)
  have hl : ∀ q ∈ news, (hideAll s'.heap (e :: t :: fs)).get? q.1 = some q.2 ∧ g.get? q.1 = none ∧ base.get? q.1 = none := fun q hq => by
    have hqa := hs q hq
    refine ⟨hideAll_get _ (N q hqa).1 fun hm => ?_, (N q hqa).2.2, fresh_of_stays K.stays (N q hqa).2.2⟩
    rcases List.mem_cons.mp hm with hm | hm
    · exact hn q hq hm
    · rcases List.mem_cons.mp hm with hm | hm
      · exact hn2 q hq hm
      · exact own q hqa hm
  refine wpAny_leaving_firstW (a0 := .ref t) K'.stack (funFrames_hide K'.frames hin) hf (N _ he).1 (fun b o q => of_hideAll _ q) (hide_none (.head _)) hd h1 h0 fun h' hL => ?_
  obtain ⟨k1, ⟨_, _, k2⟩, k3, k4⟩ := hL
  subst hc
  exact hQ h' ⟨⟨_, st, sg, hl, ⟨k1, hide_none (.head _), k2, k3⟩, hide_none (.tail _ (.head _))⟩, Heap.TupAt.of_slots ⟨_, _, (N _ ht).1, rfl, rfl⟩ k4⟩ ((Heap.UpToSlots.of_keeps F.keep).trans k4)
/-- a frame that an exception passes through is left -/
theorem leave_on {c : Value} {vs : List Value} (K : Below A base outer g) (F : Fr g L g₂ m) (R : RaisedS base g₂ (env :: outer) e c t vs news s'.heap) (hsm : g₂.UpToSlots s'.heap) (hQ : ∀ h', RaisedS base g outer e c t vs news h' → g.UpToSlots h' → Q () { s' with heap := h' }) (hf : env.frame = some L) :
    wpAny M (A.deeper env) (leaving env (.ref e)) Q E s' := by
  obtain ⟨⟨B, hB, hBG, hl, hfl, hnew⟩, htup⟩ := R
  refine wpAny_leaves_onW (Around.frames_deeper K.stack) hf hfl fun h' x1 x2 => hQ h' ⟨⟨B, hB, fun b o q nm => hBG b o (F.keep b o q) (fun hm => ?_), fun q hq => ⟨(hl q hq).1, kts_none F.keep (hl q hq).2.1, (hl q hq).2.2⟩, x1, hnew⟩, htup.of_slots x2⟩ ((Heap.UpToSlots.of_keeps F.keep).trans (hsm.trans x2))
  obtain ⟨en, hm, hg⟩ := List.mem_filterMap.mp hm
  rcases List.mem_cons.mp hm with rfl | hm
  · obtain rfl := Option.some.inj (hf.symm.trans hg)
    rw [kts_self F] at q; cases q
  · exact nm (List.mem_filterMap.mpr ⟨en, hm, hg⟩)
end
end

section
-- FaultC
/-- what _law_is_refused is to do with a tree: its caller is the law -/
noncomputable def RefC (w : World) (t : T) : Prop := ∀ (v : Value) (Y : List (Addr × Obj)), TIn Y v t.dat → ∀ (dp un : Nat) (gd : Option (List Code)) (cn : Str) (cs : Scope) (a : Addr) (ccd : Value) (A₀ : Around) (h₀ : Heap) (L : Addr) (m : Str → Option Value) (s : Shared)
    (mean : ExcName → Option Value) (mg mb : Str → Option Value) (Q E : Value → Shared → Prop),
    Below A₀ h₀ [] h₀ → Fr h₀ L s.heap m → (hd.heap_39 w.params).In h₀ → News h₀ L s.heap Y → Top hd.view_39 (looseW hd.view_39 [Str.ofString "RowsError"]) mean mg mb h₀ → cs.kind = .function → dp + 120 < recursionLimit → un + 900 < cLine →
    (∀ h' tk', Fr h₀ L h' m → News h₀ L h' Y → Q (.bool true) { s with heap := h', toks := tk' }) →
    wpAny (model PySem.Challenge.rw_pq0689_01.row.prog w) (ktrTop dp un gd cn cs L a ccd [] []) (call (.ref 259) [v]) Q E s
section
variable {prog : Program} {w : World} {A : Around} {E : Value → Shared → Prop} {s : Shared}
theorem gt_yes {a b : Int} {t u : Tok} {Q : Value → Shared → Prop} (e : decide (b < a) = true) (h : Q (.bool true) s) : wpAny (model prog w) A (compareOp .Gt (.int a t) (.int b u)) Q E s :=
  PyProof.Rows.gt_int (by rw [e]; exact h)
end
end

section
-- FaultX
open LCg
/-- an exception on its way, its entry marked in whatever way -/
noncomputable def RaisedX (base G : Heap) (l : List Env) (e : Addr) (cls : Value) (t : Addr) (vs : List Value) (news : List (Addr × Obj)) (h : Heap) : Prop :=
  (∃ B fl, base.StaysIn B ∧ (∀ b o, G.get? b = some o → b ∉ l.filterMap (·.frame) → B.get? b = some o) ∧ (∀ q ∈ news, B.get? q.1 = some q.2 ∧ G.get? q.1 = none ∧ base.get? q.1 = none) ∧
    (B.StaysIn h ∧ B.get? e = none ∧ h.FunFrames B l ∧ h.TracedAtW B e cls (.ref t) fl) ∧ B.get? t = none) ∧ h.TupAt t vs
theorem note_same {x : Value} {en en' : Env} (h : en'.frame = en.frame) : noteFrame x en' = noteFrame x en := by
  unfold noteFrame PySem.frameOf
  rw [h]
theorem frames_but {B h h' : Heap} {C : Addr} (hC : ∀ b o, B.get? b = some o → b = C → True) (hb : B.get? C ≠ none) (k : ∀ b o, b ≠ C → h.get? b = some o → (∀ vs, o.data ≠ .fields vs) → h'.get? b = some o) : ∀ {l : List Env}, h.FunFrames B l → h'.FunFrames (hideAll B [C]) l
  | [], _ => trivial
  | _ :: _, ⟨hk, ⟨L, o, hf, hn, ho, hd⟩, hr⟩ => by
    have hne : L ≠ C := fun q => hb (q ▸ hn)
    refine ⟨hk, ⟨L, o, hf, ?_, k L o hne ho hd, hd⟩, frames_but hC hb k hr⟩
    cases q : (hideAll B [C]).get? L with
    | none => rfl
    | some o' => rw [of_hideAll _ q] at hn; cases hn
section
variable {M : Model} {A : Around} {E : Value → Shared → Prop} {s' : Shared} {base g g₂ : Heap} {outer : List Env} {L C e t : Addr} {m mC : Str → Option Value} {env : Env} {news : List (Addr × Obj)}
/-- the exception leaves a comprehension of this frame -/
theorem comp_err {env' : Env} {c : Value} {vs : List Value} {oC : Obj} {Q : Value → Shared → Prop} {acc : Value} (K : Below A base outer g) (R : RaisedS base g₂ (env :: outer) e c t vs ((C, oC) :: news) s'.heap) (hsm : g₂.UpToSlots s'.heap) (hoC : NsObj oC mC) (off : ∀ p ∈ news, p.1 ≠ C) (hf : env.frame = some L) (hf' : env'.frame = some L)
    (k : ∀ h', RaisedX base g₂ (env :: outer) e c t vs news h' → g₂.UpToSlots h' → E (.ref e) { s' with heap := h' }) :
    notedBy M (A.deeper env) env' (fun x s'' => compPost M (A.deeper env) E none Q acc C (.error x) s'') (.ref e) s' := by
  obtain ⟨⟨B, hB, hBG, hl, hfl, hnew⟩, htup⟩ := R
  unfold notedBy
  rw [note_same (hf'.trans hf.symm)]
  refine wpAny_looks_onW (Around.frames_deeper K.stack) hf hfl fun h1 held up1 => ?_
  obtain ⟨st1, en1, fr1, oe, ws, T, oT, ts, he, hcls, hd, w1, hnT, hTe, hT, hdT, w3⟩ := held
  obtain ⟨hBC, hGC, hbC⟩ := hl _ (.head _)
  simp only at hBC hGC hbC
  have hC1 := st1 _ _ hBC
  have eC : e ≠ C := fun q => by rw [q, hBC] at en1; cases en1
  have TC : T ≠ C := fun q => by rw [q, hBC] at hnT; cases hnT
  have tC : t ≠ C := fun q => by rw [q, hBC] at hnew; cases hnew
  refine ⟨mC, hoC.ns hC1, fun h' sb cenv _ => ?_⟩
  have same : ∀ b, b ≠ C → h'.get? b = h1.get? b := sb.2
  have he' := (same e eC).trans he
  have hT' := (same T TC).trans hT
  have sz3 : 3 < ts.size := (Array.getElem?_eq_some_iff.mp w3).1
  unfold PySem.passOn
  refine wpAny_bind (wpAny_field he' hd w1 ?_)
  rw [if_neg (show ¬ ((Value.ref T == Value.none) = true) from by simp)]
  unfold setFlight
  refine wpAny_bind (wpAny_bind (wpAny_field he' hd w1 ?_))
  rw [if_pos (show (Value.ref T != Value.none) = true from by simp)]
  refine wpAny_setField hT' hdT sz3 (wpAny_throw ?_)
  have oth : ∀ b, b ≠ T → (h'.update T (Obj.mapFields (·.setIfInBounds 3 (cenv.frame.elim Value.none fun f => rawInt f)))).get? b = h'.get? b := fun b hb => Heap.get?_update_other _ _ (Ne.symm hb)
  have noT : ∀ b o, h'.get? b = some o → (∀ vs, o.data ≠ .fields vs) → b ≠ T := fun b o hb hnf q => by
    rw [q, hT'] at hb
    cases hb
    exact hnf ts hdT
  have notC : ∀ {b o}, (hideAll B [C]).get? b = some o → b ≠ C := fun q r => by
    rw [r, hideAll_none [C] (.head _)] at q
    cases q
  have notT : ∀ {b o}, B.get? b = some o → b ≠ T := fun q r => by rw [r, hnT] at q; cases q
  have sub : ∀ {b}, B.get? b = none → (hideAll B [C]).get? b = none := fun {b} q => by
    cases r : (hideAll B [C]).get? b with
    | none => rfl
    | some o => rw [of_hideAll _ r] at q; cases q
  refine k _ ⟨⟨hideAll B [C], _, fun b o q => hideAll_get _ (hB b o q) fun r => ?_, fun b o q nm => hideAll_get _ (hBG b o q nm) fun r => ?_, fun q hq => ?_, ⟨fun b o q => ?_, sub en1, ?_, oe, ws, T, _, _, (oth e (Ne.symm hTe)).trans he', hcls, hd, w1, sub hnT, hTe, Heap.get?_update_self _ hT' (Obj.isFreed_of_fields (Obj.data_mapFields hdT _)), Obj.data_mapFields hdT _, by
    rw [Array.getElem?_setIfInBounds_self_of_lt sz3]⟩, sub hnew⟩, ?_⟩ fun b o q hnf => ?_
  · rw [List.mem_singleton.mp r, hbC] at q; cases q
  · rw [List.mem_singleton.mp r, hGC] at q; cases q
  · have z := hl q (.tail _ hq)
    exact ⟨hideAll_get _ z.1 fun r => off q hq (List.mem_singleton.mp r), z.2⟩
  · exact (oth b (notT (of_hideAll _ q))).trans ((same b (notC q)).trans (st1 b o (of_hideAll _ q)))
  · exact frames_but (fun _ _ _ _ => trivial) (by rw [hBC]; exact fun q => by cases q) (fun b o hb q hnf => by
      have q' := (same b hb).trans q
      exact (oth b (noT b o q' hnf)).trans q') fr1
  · obtain ⟨ot, n, q1, q2, q3⟩ := htup.of_slots up1
    have q1' := (same t tC).trans q1
    exact ⟨ot, n, (oth t (noT t ot q1' fun vs r => by rw [q3] at r; cases r)).trans q1', q2, q3⟩
  · obtain ⟨sl, q'⟩ := (hsm.trans up1) b o q hnf
    have hb : b ≠ C := fun r => by rw [r, hGC] at q; cases q
    have q2 := (same b hb).trans q'
    exact ⟨sl, (oth b (noT b _ q2 hnf)).trans q2⟩
/-- the frame is left behind it -/
theorem leave_onX {c : Value} {vs : List Value} {Q : Unit → Shared → Prop} (K : Below A base outer g) (F : Fr g L g₂ m) (R : RaisedX base g₂ (env :: outer) e c t vs news s'.heap) (hsm : g₂.UpToSlots s'.heap) (hQ : ∀ h', RaisedS base g outer e c t vs news h' → g.UpToSlots h' → Q () { s' with heap := h' }) (hf : env.frame = some L) :
    wpAny M (A.deeper env) (leaving env (.ref e)) Q E s' := by
  obtain ⟨⟨B, fl, hB, hBG, hl, ⟨st, en, fr, tr⟩, hnew⟩, htup⟩ := R
  have done : ∀ h', Heap.FlyingW B outer e c (.ref t) h' → s'.heap.UpToSlots h' → Q () { s' with heap := h' } := fun h' x1 x2 => by
    refine hQ h' ⟨⟨B, hB, fun b o q nm => hBG b o (F.keep b o q) (fun hm => ?_), fun q hq => ⟨(hl q hq).1, kts_none F.keep (hl q hq).2.1, (hl q hq).2.2⟩, x1, hnew⟩, htup.of_slots x2⟩ ((Heap.UpToSlots.of_keeps F.keep).trans (hsm.trans x2))
    obtain ⟨en, hm, hg⟩ := List.mem_filterMap.mp hm
    rcases List.mem_cons.mp hm with rfl | hm
    · obtain rfl := Option.some.inj (hf.symm.trans hg)
      rw [kts_self F] at q; cases q
    · exact nm (List.mem_filterMap.mpr ⟨en, hm, hg⟩)
  by_cases hfl : (fl == rawInt L) = true
  · have hfl' : fl = rawInt L := by simpa using hfl
    subst hfl'
    unfold leaving
    refine wpAny_bind (wpAny_noteFrame_againW hf tr ?_)
    refine wpAny_landsW (L := L) ⟨st, en, fr, tr⟩ fun h' f u => ?_
    obtain ⟨k1, k2, ⟨_, _, k3⟩, k4⟩ := f
    exact done h' ⟨k1, k2, k3, k4⟩ u
  · obtain ⟨oe, ws, T, oT, ts, he, ⟨hcls, h0⟩, hd, w1, hnT, hTe, hT, hdT, w3⟩ := tr
    subst hcls
    unfold leaving noteFrame
    simp only [hf]
    refine wpAny_bind (wpAny_bind (wpAny_field he hd w1 ?_))
    rw [if_pos (show (Value.ref T != Value.none) = true from by simp)]
    refine wpAny_bind (wpAny_field hT hdT w3 ?_)
    rw [if_neg hfl]
    refine wpAny_bind (wpAny_setField hT hdT (Array.getElem?_eq_some_iff.mp w3).1 ?_)
    have oth : ∀ b, b ≠ T → (s'.heap.update T (Obj.mapFields (·.setIfInBounds 3 Value.none))).get? b = s'.heap.get? b := fun b hb => Heap.get?_update_other _ _ (Ne.symm hb)
    have noT : ∀ b o, s'.heap.get? b = some o → (∀ vs, o.data ≠ .fields vs) → b ≠ T := fun b o hb hnf q => by
      rw [q, hT] at hb
      cases hb
      exact hnf ts hdT
    refine wpAny_newEntryW (Around.frames_deeper K.stack) (fr.of_keeps fun b o hb hnf => ⟨o, (oth b (noT b o hb hnf)).trans hb, rfl⟩) hf ((oth e (Ne.symm hTe)).trans he)
      (fun b o hbo => (oth b fun q => by rw [q, hnT] at hbo; cases hbo).trans (st b o hbo)) en hd (Array.getElem?_eq_some_iff.mp w1).1 h0 fun h' ⟨x1, ⟨_, _, x2⟩, x3, x4⟩ => done h' ⟨x1, en, x2, x3⟩ fun b o hb hnf => x4 b o ((oth b (noT b o hb hnf)).trans hb) hnf
end
end
section
-- FaultI
theorem reset_FaultI : True := by
  w_top off
  trivial
section
variable {prog : Program} {w : World} {A : Around} {E : Value → Shared → Prop} {s : Shared} {h₀ : Heap} {L : Addr} {m : Str → Option Value} {news : List (Addr × Obj)}
/-- the check of an exception's __init__ -/
theorem fault_check_init {h : Heap} {g : Array GenState} {d : Drawn} {t : Nat} {os : OsState} {nm q : Str} {C N : Addr} {bs bm bmB : List Value} {hdct : Bool} {sn : List Str} {sub : List Value} {ab : Bool} {col : Option Bool} {dd : Option Addr} {k0 k1 k2 k3 k5 : Option Value} {B newId initId : String}
    (F : ExcBaseFacts B newId initId bmB) (hB : bm.contains (.type B) = true) {M : Model} {e : Addr} {oe : Obj} {rest : List Value} {Q : Unit → Shared → Prop}
    (hC : h.get? C = some (excClassObj nm q C N bs bm hdct sn sub ab col dd k0 k1 k2 k3 k5 newId)) (he : h.get? e = some oe) (hcls : oe.cls = .ref C) (hq : Q () ⟨h, g, d, t, os⟩) :
    wpAny M A (checkBuiltinCall initId ⟨.ref e :: rest, []⟩) Q E ⟨h, g, d, t, os⟩ := by
  have hin : (Value.ref C :: bm).contains (.type B) = true := by rw [List.contains_cons, hB, Bool.or_true]
  have hsh := F.noStar
  simp only [checkBuiltinCall, F.initKind, F.initSplit, F.initRow]
  repeat (first | (with_reducible refine wpAny_loadPart_at he ?_; rw [hcls]) | with_reducible refine wpAny_loadPart_at hC ?_ | (with_reducible refine wpAny_isSubtype_exc hC ?_; rw [hin]) | wp_step)
  refine wpAny_onRaise ?_
  rw [show ∀ (a b : String) (n : Nat), Bind.check ⟨.positional, "*", B, .self, [⟨"args", .varPos, false⟩]⟩ a b n (List.map (fun x => x.fst) ({ pos := Value.ref e :: rest } : Args).kw) = pure () from
    fun a b n => check_star_args _ _ _ _ _ _]
  exact wpAny_pure hq
set_option maxHeartbeats 4000000 in
/-- Exception.__init__(self, ..) of a fresh LowerFault -/
theorem exc_init {e t : Addr} {rest : List Value} {Q : Value → Shared → Prop} (F : Fr h₀ L s.heap m) (N : News h₀ L s.heap ((e, bareExc 45 t) :: news)) (X : (hd.heap_39 w.params).In h₀) (off : ∀ p ∈ news, p.1 ≠ e) (hrest : rest.length ≤ sizeLine)
    (h : ∀ t' h', Fr h₀ L h' m → News h₀ L h' ((t', tupObj rest 0) :: (e, bareExc 45 t') :: news) → (∀ p ∈ (e, bareExc 45 t') :: news, p.1 < t') → Q .none { s with heap := h' }) :
    wpAny (model prog w) A (call (.builtin "Exception.__init__") (.ref e :: rest)) Q E s := by
  obtain ⟨hp, g, d, tk, os⟩ := s
  simp only at F N h ⊢
  have hC := F.keep _ _ (X 45 _ (by k_is))
  have he := (N _ (.head _)).1
  refine wpAny_call (codeAny_call_builtin PySem.F.excBase_Exception.init.plain PySem.F.excBase_Exception.initEntry (fault_check_init PySem.F.excBase_Exception (by decide) hC he rfl ?_))
  wp_walk
  dsimp only
  have elt : @LT.lt Nat _ e hp.objs.size := Heap.lt_size he
  have F1 := F.push { cls := .type "tuple", data := .seq rest.toArray }
  have he' := (N _ (.head _)).2
  have up := Heap.get?_push_of_some { cls := .type "tuple", data := .seq rest.toArray } he
  refine h hp.objs.size _ (F1.change (Heap.SameBut.update ..) he'.1 he'.2) (fun p hp' => ?_) (fun p hp' => ?_)
  · rcases List.mem_cons.mp hp' with rfl | hp'
    · refine ⟨?_, Nat.ne_of_gt F.ns.lt, Heap.get?_none_of_le (Nat.le_trans F.above (Nat.le_of_lt F.ns.lt))⟩
      exact (Heap.get?_update_other _ _ (Nat.ne_of_lt elt)).trans (Heap.get?_push_size _ rfl)
    · rcases List.mem_cons.mp hp' with rfl | hp'
      · exact ⟨Heap.get?_update_self _ up rfl, he'⟩
      · have q := N p (.tail _ hp')
        exact ⟨(Heap.get?_update_other _ _ (off p hp').symm).trans (Heap.get?_push_of_some _ q.1), q.2⟩
  · rcases List.mem_cons.mp hp' with rfl | hp'
    · exact elt
    · exact Heap.lt_size (N p (.tail _ hp')).1
end
end
section
-- FaultS
theorem reset_FaultS : True := by
  w_top off
  trivial
noncomputable abbrev dictExc (C t d : Addr) : Obj := { cls := .ref C, dict := some d, data := .fields #[.ref t, .none, .none, .none, .bool false, .none] }
section
open PySem.Builtin PySem.Builtin.ObjectAttr
variable {prog : Program} {w : World} {A : Around} {E : Value → Shared → Prop} {s : Shared} {h₀ : Heap} {L : Addr} {m : Str → Option Value} {post : List (Addr × Obj)} {tp : Obj}
theorem store_in {d : Addr} {od od' : Obj} {name : Str} {tk : Tok} {v : Value} {es : List DictEntry} {n : Nat} {Q : Fin → Shared → Prop} (F : Fr h₀ L s.heap m) (N : News h₀ L s.heap ((d, od) :: post)) (off : ∀ p ∈ post, p.1 ≠ d)
    (hl : (lookIn name od).isSome = true) (e : Obj.putName name (PyData.keyHash w.params name) (.str name s.toks) v od = od') (e' : od'.data = .dict es.toArray n) (hz : es.length ≤ 1000)
    (h : ∀ h', Fr h₀ L h' m → News h₀ L h' ((d, od') :: post) → Q (.done (.ret .none)) { s with heap := h', toks := s.toks + 1 }) :
    wpAny (model prog w) A (storeInDict d (.str name tk) name v) Q E s := by
  obtain ⟨U1, U2⟩ := news_upd (pre := []) (f := Obj.putName name (PyData.keyHash w.params name) (.str name s.toks) v) F N (fun _ q => nomatch q) off e (by obtain ⟨_, _, dd, _⟩ := od'; cases e'; rfl)
  have D := (N (d, od) (.head _)).1
  have D' := (U2 (d, od') (.head _)).1
  unfold storeInDict newKeyGuard
  refine wpAny_bind (wpAny_pure (wpAny_bind ?_))
  unfold nsSet
  refine wpAny_bind (wpAny_bind (wpAny_askSetting (wpAny_pure (wpAny_bind (wpAny_mkText (wpAny_bind (wpAny_loadPart D ?_)))))))
  unfold lookIn at hl
  split at hl
  · rename_i es₀ n₀ q
    rw [q]
    dsimp only
    have c : (!es₀.any (·.key.isStr name) && es₀.any (·.refKey)) = false := by
      rw [← Array.any_toList, ← Array.any_toList]
      split at hl
      · rename_i en he
        rw [List.any_eq_true.mpr ⟨en, List.mem_of_find?_eq_some he, List.find?_some he⟩]; rfl
      · split at hl
        · cases hl
        · rename_i z; rw [Bool.not_eq_true] at z; rw [z, Bool.and_false]
    rw [aRefKeyMayBeTheName_at, c]
    refine wpAny_updatePart D ?_
    refine wpAny_bind (wpAny_lookBehind D' (by rw [e']; exact pastItsLine_dict (by rw [List.size_toArray, sizeLine_eq]; omega)) ?_)
    exact wpAny_pure (h _ U1 U2)
  · cases hl
theorem fault_code {x : Addr} {ox : Obj} {od : Option Obj} {name : Str} {tk : Tok} {v : Value} {R : Result → Shared → Prop} (X : (hd.heap_39 w.params).In s.heap) (I : InstAt s.heap x ox 45 od) (ha : findIn (hd.heap_39 w.params) (.ref 45) name = some none)
    (h : wpAny (model prog w) (A.in1) (storeInOwnDict (.ref x) (.ref 45) (.str name tk) name v false) (fun fin s' => fin = .done (.ret .none) ∧ R (.ok (.ret .none)) s') (fun e s' => R (.error e) s') s) :
    codeAny (model prog w) A (.call (.builtin "object.__setattr__") ⟨[.ref x, .str name tk, v], []⟩) R s := by
  have SF := PySem.F.store_object
  have SE := PySem.F.store_Exception
  have hc : clsIn (hd.heap_39 w.params) 45 = some { name := Str.ofString "LowerFault", bases := [.ref 32], mro := [.ref 45, .ref 32, .type "Exception", .type "BaseException", .type "object"], ns := 44, qualname := Str.ofString "LowerFault" } := by k_is
  have hm : Looks (model prog w) s.heap (mroOf (.ref 45)) _ := (looks_clsIn X hc).andThen .now
  have sub : Looks (model prog w) s.heap (isInstance (.ref x) (.type "object")) true := I.type.andThen (looks_mroIn X (by unfold mroIn; rw [hc]; rfl))
  have L3 : Looks (model prog w) s.heap (storeTaker? none) none := .now
  refine codeAny_call_builtin SF.slot.plain SF.entry (@check_slot (model prog w) _ _ s "object.__setattr__" "object" "__setattr__" (.ref x) [.str name tk, v] [] _ SF.kind SF.split sub (SF.args (.ref x) (.str name tk) v) ?_)
  rw [osa_eq, refuse_eq]
  refine wpAny_bind (wpAny_bind (I.type.here (wpAny_bind (hm.here ?_))))
  rw [refuseLoop_ref, refuseLoop_ref, SE.passes]
  refine wpAny_pure (wpAny_bind (I.type.here (wpAny_bind ((looks_findIn X ha).here (wpAny_bind (L3.here ?_))))))
  refine wpAny_mono h ?_ fun _ _ e => e
  rintro fin s' ⟨rfl, q⟩
  exact q
theorem fault_store {x : Addr} {ox : Obj} {od : Option Obj} {name : Str} {v : Value} {Q : Unit → Shared → Prop} (X : (hd.heap_39 w.params).In s.heap) (I : InstAt s.heap x ox 45 od) (ha : findIn (hd.heap_39 w.params) (.ref 45) name = some none)
    (h : wpAny (model prog w) (A.in1) (storeInOwnDict (.ref x) (.ref 45) (.str name s.toks) name v false) (fun fin s' => fin = .done (.ret .none) ∧ Q () s') E { s with toks := s.toks + 1 }) :
    wpAny (model prog w) A (setAttr (.ref x) name v) Q E s :=
  set_plain X I (by k_is) (fault_code (s := { s with toks := s.toks + 1 }) X I ha h)
theorem has_dict45 (X : (hd.heap_39 w.params).In s.heap) : ∃ cd, Looks (model prog w) s.heap (classData 45) cd ∧ cd.hasDict = true :=
  ⟨_, looks_clsIn X (show clsIn (hd.heap_39 w.params) 45 = some { name := Str.ofString "LowerFault", bases := [.ref 32], mro := [.ref 45, .ref 32, .type "Exception", .type "BaseException", .type "object"], ns := 44, qualname := Str.ofString "LowerFault" } by k_is), rfl⟩
/-- self.x = v, where self has a dict already -/
theorem set_next {e t d : Addr} {od od' : Obj} {name : Str} {v : Value} {es : List DictEntry} {n : Nat} {Q : Unit → Shared → Prop} (F : Fr h₀ L s.heap m) (N : News h₀ L s.heap ((d, od) :: (e, dictExc 45 t d) :: post)) (X₀ : (hd.heap_39 w.params).In h₀) (ha : findIn (hd.heap_39 w.params) (.ref 45) name = some none)
    (off : ∀ p ∈ (e, dictExc 45 t d) :: post, p.1 ≠ d) (hl : (lookIn name od).isSome = true) (q : Obj.putName name (PyData.keyHash w.params name) (.str name (s.toks + 1)) v od = od') (q' : od'.data = .dict es.toArray n) (hz : es.length ≤ 1000)
    (h : ∀ h', Fr h₀ L h' m → News h₀ L h' ((d, od') :: (e, dictExc 45 t d) :: post) → Q () { s with heap := h', toks := s.toks + 2 }) :
    wpAny (model prog w) A (setAttr (.ref e) name v) Q E s := by
  have X := X₀.keeps F.keep
  have he := (N _ (.tail _ (.head _))).1
  have hd := (N _ (.head _)).1
  obtain ⟨cd, hcd, hdct⟩ := has_dict45 (prog := prog) (s := s) X
  refine fault_store (od := some od) X ⟨he, rfl, rfl, hd⟩ ha ?_
  unfold storeInOwnDict
  refine wpAny_bind (wpAny_pure ?_)
  rw [if_neg (by decide)]
  refine wpAny_bind ?_
  show wpAny _ _ (instanceDict e true) _ _ _
  unfold instanceDict
  refine wpAny_bind (wpAny_loadPart he ?_)
  dsimp only
  refine wpAny_bind (hcd.here (s := { s with toks := s.toks + 1 }) ?_)
  rw [hdct]
  rw [if_neg (by decide)]
  refine wpAny_pure ?_
  exact store_in (s := { s with toks := s.toks + 1 }) F N off hl q q' hz fun h' F' N' => ⟨rfl, h h' F' N'⟩
/-- self.x = v, the first of them: the dict is made -/
theorem set_first {e t : Addr} {od' : Obj} {name : Str} {v : Value} {es : List DictEntry} {n : Nat} {Q : Unit → Shared → Prop} (F : Fr h₀ L s.heap m) (N : News h₀ L s.heap ((t, tp) :: (e, bareExc 45 t) :: post)) (X₀ : (hd.heap_39 w.params).In h₀) (ha : findIn (hd.heap_39 w.params) (.ref 45) name = some none)
    (off : ∀ p ∈ post, p.1 ≠ e) (ot : @Ne Nat t e) (q : Obj.putName name (PyData.keyHash w.params name) (.str name (s.toks + 1)) v { cls := .type "dict", data := .dict #[] } = od') (q' : od'.data = .dict es.toArray n) (hz : es.length ≤ 1000)
    (h : ∀ d h', Fr h₀ L h' m → News h₀ L h' ((d, od') :: (e, dictExc 45 t d) :: (t, tp) :: post) → (∀ p ∈ (e, dictExc 45 t d) :: (t, tp) :: post, p.1 < d) → Q () { s with heap := h', toks := s.toks + 2 }) :
    wpAny (model prog w) A (setAttr (.ref e) name v) Q E s := by
  have X := X₀.keeps F.keep
  have he := (N _ (.tail _ (.head _))).1
  obtain ⟨cd, hcd, hdct⟩ := has_dict45 (prog := prog) (s := s) X
  refine fault_store (od := none) X ⟨he, rfl, rfl, trivial⟩ ha ?_
  unfold storeInOwnDict
  refine wpAny_bind (wpAny_pure ?_)
  rw [if_neg (by decide)]
  refine wpAny_bind ?_
  show wpAny _ _ (instanceDict e true) _ _ _
  unfold instanceDict
  refine wpAny_bind (wpAny_loadPart he ?_)
  dsimp only
  refine wpAny_bind (hcd.here (s := { s with toks := s.toks + 1 }) ?_)
  rw [hdct]
  rw [if_neg (by decide)]
  rw [if_neg (by decide)]
  refine wpAny_bind (wpAny_alloc' ?_)
  refine wpAny_bind (wpAny_update' (Heap.get?_push_of_some _ he) ?_)
  refine wpAny_pure ?_
  have elt : @LT.lt Nat _ e s.heap.objs.size := Heap.lt_size he
  have F1 := F.push { cls := .type "dict", data := .dict #[] }
  have pe := (N _ (.tail _ (.head _))).2
  have old : ∀ p ∈ (t, tp) :: post, p.1 ≠ e := fun p hp => by
    rcases List.mem_cons.mp hp with rfl | hp
    · exact ot
    · exact off p hp
  have mem : ∀ p ∈ (t, tp) :: post, p ∈ (t, tp) :: (e, bareExc 45 t) :: post := fun p hp => by
    rcases List.mem_cons.mp hp with rfl | hp
    · exact .head _
    · exact .tail _ (.tail _ hp)
  refine store_in (post := (e, dictExc 45 t s.heap.objs.size) :: (t, tp) :: post) (F1.change (Heap.SameBut.update ..) pe.1 pe.2) (fun p hp => ?_) (fun p hp => ?_) rfl q q' hz fun h' F' N' => ⟨rfl, h _ h' F' N' fun p hp => ?_⟩
  · rcases List.mem_cons.mp hp with rfl | hp
    · refine ⟨?_, Nat.ne_of_gt F.ns.lt, Heap.get?_none_of_le (Nat.le_trans F.above (Nat.le_of_lt F.ns.lt))⟩
      exact (Heap.get?_update_other _ _ (Nat.ne_of_lt elt)).trans (Heap.get?_push_size _ rfl)
    · rcases List.mem_cons.mp hp with rfl | hp
      · exact ⟨Heap.get?_update_self _ (Heap.get?_push_of_some _ he) rfl, pe⟩
      · have z := N p (mem p hp)
        exact ⟨(Heap.get?_update_other _ _ (old p hp).symm).trans (Heap.get?_push_of_some _ z.1), z.2⟩
  · rcases List.mem_cons.mp hp with rfl | hp
    · exact Nat.ne_of_lt elt
    · exact Nat.ne_of_lt (Heap.lt_size (N p (mem p hp)).1)
  · rcases List.mem_cons.mp hp with rfl | hp
    · exact elt
    · exact Heap.lt_size (N p (mem p hp)).1
theorem put_empty (name : Str) (k : Int) (key v : Value) : Obj.putName name k key v { cls := .type "dict", data := .dict #[] } = dictOf [⟨k, key, v⟩] 1 := rfl
theorem set_first' {e t : Addr} {name : Str} {v : Value} {Q : Unit → Shared → Prop} (F : Fr h₀ L s.heap m) (N : News h₀ L s.heap ((t, tp) :: (e, bareExc 45 t) :: post)) (X₀ : (hd.heap_39 w.params).In h₀) (ha : findIn (hd.heap_39 w.params) (.ref 45) name = some none)
    (off : ∀ p ∈ post, p.1 ≠ e) (ot : @Ne Nat t e)
    (h : ∀ d h', Fr h₀ L h' m → News h₀ L h' ((d, dictOf [⟨PyData.keyHash w.params name, .str name (s.toks + 1), v⟩] 1) :: (e, dictExc 45 t d) :: (t, tp) :: post) → (∀ p ∈ (e, dictExc 45 t d) :: (t, tp) :: post, p.1 < d) → Q () { s with heap := h', toks := s.toks + 2 }) :
    wpAny (model prog w) A (setAttr (.ref e) name v) Q E s :=
  set_first F N X₀ ha off ot (put_empty ..) rfl (Nat.le_of_ble_eq_true rfl) h
theorem put_spot {k k1 : Int} {t1 : Tok} {key v v1 : Value} : Obj.putName (Str.ofString "spot") k key v (dictOf [⟨k1, .str (Str.ofString "message") t1, v1⟩] 1) = dictOf [⟨k1, .str (Str.ofString "message") t1, v1⟩, ⟨k, key, v⟩] 2 := by kernel_rfl
theorem look_spot {k1 : Int} {t1 : Tok} {v1 : Value} : (lookIn (Str.ofString "spot") (dictOf [⟨k1, .str (Str.ofString "message") t1, v1⟩] 1)).isSome = true := by kernel_rfl
theorem set_next' {e t d : Addr} {k1 : Int} {t1 : Tok} {v1 v : Value} {Q : Unit → Shared → Prop} (F : Fr h₀ L s.heap m) (N : News h₀ L s.heap ((d, dictOf [⟨k1, .str (Str.ofString "message") t1, v1⟩] 1) :: (e, dictExc 45 t d) :: post)) (X₀ : (hd.heap_39 w.params).In h₀)
    (off : ∀ p ∈ (e, dictExc 45 t d) :: post, p.1 ≠ d)
    (h : ∀ h', Fr h₀ L h' m → News h₀ L h' ((d, dictOf [⟨k1, .str (Str.ofString "message") t1, v1⟩, ⟨PyData.keyHash w.params (Str.ofString "spot"), .str (Str.ofString "spot") (s.toks + 1), v⟩] 2) :: (e, dictExc 45 t d) :: post) → Q () { s with heap := h', toks := s.toks + 2 }) :
    wpAny (model prog w) A (setAttr (.ref e) (Str.ofString "spot") v) Q E s :=
  set_next F N X₀ (by k_is) off look_spot put_spot rfl (Nat.le_of_ble_eq_true rfl) h
end
end

section
-- SplatDef
open LCg
section
variable {prog : Program} {w : World} {A : Around} {E : Value → Shared → Prop} {h₀ : Heap} {L : Addr} {m : Str → Option Value} {env : Env}
/-- a comprehension over two things whose second turn raises -/
theorem csrc_two {elt : PySem.Expr} {x : Str} {scope : Scope} {cl : List (Str × Addr)} {Q : Value → Shared → Prop} {ax fz fd sz sd nz lz : Addr} {v1 v2 : Value} {k : Nat} {t4 tk0 : Tok} {xs : Array Value} {n3 : Nat} {ys4 : Array Value} {n4 : Nat} {Y ex news : List (Addr × Obj)} {s₁ : Shared}
    (F : Fr h₀ L s₁.heap m) (N : News h₀ L s₁.heap news) (_hF : FuserIn w news fz fd sz sd nz lz) (hm : ∀ p ∈ stM w sd nz lz 0 t4 tk0 xs n3 ys4 n4, p ∈ news) (hc : Cut (stM w sd nz lz 0 t4 tk0 xs n3 ys4 n4) Y news ex) (hax : (ax, tupObj [v1, v2] k) ∈ ex ++ Y)
    (turn0 : ∀ (I : Addr) (oI : Obj) (C : Addr) (oC : Obj) (D : Addr) (m₂ : Str → Option Value) (h : Heap) (tk : Nat), isTupB oI = false → NsObj oC m₂ → m₂ x = some v1 → Fr h₀ L h m → News h₀ L h ((I, oI) :: (C, oC) :: (D, lst []) :: (stM w sd nz lz 0 t4 tk0 xs n3 ys4 n4 ++ (ex ++ Y))) → Off3 I C D (stM w sd nz lz 0 t4 tk0 xs n3 ys4 n4 ++ (ex ++ Y)) → ((@Ne Nat I C) ∧ (@Ne Nat I D) ∧ (@Ne Nat C D)) →
      wpAny (model prog w) A (eval elt (compEnvC scope cl C env)) (CompEnd h₀ L m { s₁ with heap := h, toks := tk } I oI C oC D (lst []) (SrcK ax [v1, v2] k) (fun _ nw' => ∀ p ∈ ex ++ Y, p ∈ nw')) (CErr prog w A E Q scope cl env C D) { s₁ with heap := h, toks := tk })
    (turn1 : ∀ (ys : List Value) (nw : List (Addr × Obj)) (I : Addr) (oI : Obj) (C : Addr) (oC : Obj) (D : Addr) (m₂ : Str → Option Value) (h : Heap) (tk : Nat), (∀ p ∈ ex ++ Y, p ∈ nw) → isTupB oI = false → NsObj oC m₂ → m₂ x = some v2 → Fr h₀ L h m → News h₀ L h ((I, oI) :: (C, oC) :: (D, lst ys) :: nw) → Off3 I C D nw → ((@Ne Nat I C) ∧ (@Ne Nat I D) ∧ (@Ne Nat C D)) →
      wpAny (model prog w) A (eval elt (compEnvC scope cl C env)) (fun _ _ => False) (CErr prog w A E Q scope cl env C D) { s₁ with heap := h, toks := tk }) :
    CSrcT prog w A h₀ L m env elt x scope cl E Q (.ref ax) s₁ := by
  have N0 : News h₀ L s₁.heap (stM w sd nz lz 0 t4 tk0 xs n3 ys4 n4 ++ (ex ++ Y)) := fun p hp => (List.mem_append.mp hp).elim (fun h => N p (hm p h)) fun h => N p (hc.sub p h)
  refine csrc (fun i ys nw => (i = 0 ∧ ys = [] ∧ nw = stM w sd nz lz 0 t4 tk0 xs n3 ys4 n4 ++ (ex ++ Y)) ∨ (i = 1 ∧ ∀ p ∈ ex ++ Y, p ∈ nw)) F N0 (List.mem_append.mpr (.inr hax)) (Nat.le_of_ble_eq_true rfl) (.inl ⟨rfl, rfl, rfl⟩) ?_ ?_
  · rintro i ys nw v I oI C oC D m₂ h tk (⟨rfl, rfl, rfl⟩ | ⟨rfl, hsub⟩) hS hv hoI hoC hx F' N' off ne
    · obtain rfl : v1 = v := by simpa using hv
      refine wpAny_mono (turn0 I oI C oC D m₂ h tk hoI hoC hx F' N' off ne) ?_ fun _ _ e => e
      rintro y s₂ ⟨h', tk', news', e, F2, N2, off2, hS2, r⟩
      exact ⟨h', tk', news', e, F2, N2, off2, hS2, .inr ⟨rfl, r⟩⟩
    · obtain rfl : v2 = v := by simpa using hv
      exact wpAny_mono (turn1 ys nw I oI C oC D m₂ h tk hsub hoI hoC hx F' N' off ne) (fun _ _ e => e.elim) fun _ _ e => e
  · rintro ys nw D h tk (⟨hj, _⟩ | ⟨hj, _⟩)
    · cases hj
    · cases hj
end
end
section
-- Dots
theorem reset_Dots : True := by
  w_top off
  k_with "call ref" => (k_here; (with_reducible show wpAny _ _ (call (Value.ref 200) [Value.ref _, Value.int _ _] _) _ _ _); k_dflt (refine' card_use ?BZ221 ?FZ221 ?XZ221 ?NZ221 ?TZ221 ?hkZ221 ?UZ221 ?hlZ221 ?hmZ221 ?hm' ?hdZ221 ?huZ221 ?_; (case BZ221 => k_asm); (case FZ221 => k_asm); (case XZ221 => k_asm); (case NZ221 => k_asm); (case TZ221 => k_asm); (case hkZ221 => first | rfl | assumption); (case UZ221 => k_updF); (case hlZ221 => exact ⟨by assumption, by assumption, by assumption⟩); (case hmZ221 => decide); (case hm' => decide); (case hdZ221 => ktr_room); (case huZ221 => ktr_units); k_whole; intro a' b' c' ta' tb' tc' n' h' tk' F' N' hb' hc1 hc2; have hb1 := hb'.1; have hb2 := hb'.2.1; have hb3 := hb'.2.2; (try dsimp only at N'); (try k_fold)))
  k_with "call ref" => (k_here; (with_reducible show wpAny _ _ (call (Value.ref 221) [Value.ref _] _) _ _ _); k_dflt (refine' lawLeaf_useT ?BZ222 ?FZ222 ?XZ222 ?NZ222 ?TZ222 ?hkZ222 ?hmZ222 ?hcZ222 ?hyZ222 ?hlZ222 ?hdZ222 ?huZ222 ?_; (case BZ222 => k_asm); (case FZ222 => k_asm); (case XZ222 => k_asm); (case NZ222 => k_asm); (case TZ222 => k_asm); (case hkZ222 => first | rfl | assumption); (case hmZ222 => tb_start); (case hcZ222 => kqd_sub); (case hyZ222 => k_all); (case hlZ222 => exact ⟨by assumption, by assumption, by assumption⟩); (case hdZ222 => ktr_room); (case huZ222 => ktr_units); k_whole; intro r' a' b' ta' tb' n' k' Y' h' tk' g' F' N' hb' hk7 hr'; have hb1 := hb'.1; have hb2 := hb'.2.1; have hb3 := hb'.2.2; (try simp only [List.cons_append, List.nil_append] at N'); (try k_fold)))
  k_with "call type:range cons nil" => (k_here; k_dflt (refine' range1_rows ?FZ223 ?NZ223 ?_; (case FZ223 => k_asm); (case NZ223 => k_asm); k_whole; intro h' tk' t1' u1' v1' hR' F' N' hst'; (try k_fold)))
  k_with "pyIter ref" => (k_here; (with_reducible show wpAny _ _ (pyIter (Value.ref _)) (fun it s₂ => LoopAtV _ _ _ _ _ _ _ _ _ it s₂) _ _); refine' Hold.of ?_)
  k_with "binaryOp Add ref ref" => (k_here; k_dflt (refine' add_cat ?FZ225 ?NZ225 ?aZ225 ?bZ225 ?zZ225 ?_; (case FZ225 => k_asm); (case NZ225 => k_asm); (case aZ225 => lsm_bools); (case bZ225 => lsm_bools); (case zZ225 => (simp only [sizeLine_eq, List.length_cons, List.length_nil]; omega)); k_whole; intro D' h' F' N' l1; (try k_lt l1); (try k_sweep)))
  k_with "exec If" => (k_here; refine' Hold.of ?_)
  k_with "eval IfExp" => (k_here; refine' Hold.of ?_)
  k_with "subscriptTail List" => (k_here; (with_reducible show wpAny _ _ (subscriptTail _ _ (Value.ref _) (Value.int _ _)) _ _ _); k_dflt (refine' item_ops ?NZ228 ?mZ228 ?aZ228 ?bZ228 ?_; (case NZ228 => k_asm); (case mZ228 => k_mem); (case aZ228 => assumption); (case bZ228 => assumption); k_whole; intro x' t' hx'))
  trivial
theorem item_ops {prog : Program} {w : World} {A : Around} {E : Value → Shared → Prop} {s : Shared} {h₀ : Heap} {L D : Addr} {news : List (Addr × Obj)} {c : Int} {t t1 t2 t3 t4 : Tok} {n : Nat} {value slice : Expr} {Q : Value → Shared → Prop}
    (N : News h₀ L s.heap news) (hm : (D, listOf #[.str (Str.ofString "f") t1, .str (Str.ofString "+") t2, .str (Str.ofString "sqrt") t3, .str (Str.ofString "-") t4] n) ∈ news) (h0 : 0 ≤ c) (h4 : c < 4) (h : ∀ x tx, x ∈ opsL → Q (.str x tx) s)
    (hs : subscripted slice false (.ref D) (.int c t) = operate [.ref D, .int c t] (getItem (.ref D) (.int c t)) := by with_unfolding_all rfl) :
    wpAny (model prog w) A (subscriptTail value slice (.ref D) (.int c t)) Q E s := by
  have hL : s.heap.IsList D #[.str (Str.ofString "f") t1, .str (Str.ofString "+") t2, .str (Str.ofString "sqrt") t3, .str (Str.ofString "-") t4] := News.isList N hm
  have key : ∃ x tx, (#[Value.str (Str.ofString "f") t1, .str (Str.ofString "+") t2, .str (Str.ofString "sqrt") t3, .str (Str.ofString "-") t4] : Array Value)[c.toNat]? = some (.str x tx) ∧ x ∈ opsL := by
    rcases (by omega : c = 0 ∨ c = 1 ∨ c = 2 ∨ c = 3) with rfl | rfl | rfl | rfl
    · exact ⟨_, _, rfl, by simp [opsL]⟩
    · exact ⟨_, _, rfl, by simp [opsL]⟩
    · exact ⟨_, _, rfl, by simp [opsL]⟩
    · exact ⟨_, _, rfl, by simp [opsL]⟩
  obtain ⟨x, tx, hx, ho⟩ := key
  exact tail_any hL.typeIs slot_list_getitem.lookup (wpAny_getItem_list hL h0 (by omega) hx (h x tx ho)) hs
set_option maxHeartbeats 8000000 in
theorem dots0 (w : World) : DotsC w 0 0 := by
  intro l a b ta tb th n Y ha hb hb' ho
  refine Con.intro ?_
  intro dp un gd cn cs fa ccd cl outer A₀ base h₀ L m s mean mg mb Q E B F X N Tp hk hd hu fin
  have f1 := ho _ (.head _)
  clear ho
  simp only [List.cons_append, List.nil_append] at N f1
  refine wpAny_call ?_
  w_strict (
    k_dflt ktr_enter
    k_steps)
  unfold Hold
  rename Fr _ _ _ _ => F1
  rename News _ _ _ _ => N1
  refine joinF (Y := Y) F1 (fun m' M' Y₂ => ∃ a b ta tb n cv c, M' = [(l, listOf #[.int a ta, .int b tb] n)] ∧ (0 ≤ a ∧ 0 ≤ b ∧ b < 65413) ∧ CalOk c ∧ TIn Y₂ (.ref cv) c.dat ∧ m' (Str.ofString "lot") = some (.ref l) ∧ m' (Str.ofString "high") = some (.int 0 th) ∧ m' (Str.ofString "callee") = some (.ref cv)) ?h1 ?h2
  case h1 =>
    refine wpAny_If ?_
    w_strict (
      k_steps)
    · refine' joinF_end [(l, listOf #[.int _ _, .int _ _] _)] rfl (by k_asm) (by k_asm) (by tb_start) (by tb_start) (fun Y₁ hs => ⟨_, _, _, _, _, _, tE "." [tS "m", tS "h"], rfl, ⟨by assumption, by assumption, by assumption⟩, .inr rfl, TIn.mono hs ?_, by rfl, by rfl, by rfl⟩)
      show TIn _ _ (exD "." [symD _, symD _])
      tb_rel
    · refine' joinF_end [(l, listOf #[.int _ _, .int _ _] _)] rfl (by k_asm) (by k_asm) (by tb_start) (by tb_start) (fun Y₁ hs => ⟨_, _, _, _, _, _, .sym _, rfl, ⟨by assumption, by assumption, by assumption⟩, .inl ⟨_, by assumption, rfl⟩, TIn.mono hs ?_, by rfl, by rfl, by rfl⟩)
      show TIn _ _ (symD _)
      tb_rel
  case h2 =>
    clear F1 N1
    intro m' M' Y₂ h' tk' g' F' N' hp
    obtain ⟨a, b, ta, tb, n, cv, c, rfl, hl, hcal, hcv, hm1, hm2, hm3⟩ := hp
    replace F' := fr_con hm3 F'
    replace F' := fr_con (x := Str.ofString "high") (o := some (.int 0 th)) (by exact hm2) F'
    replace F' := fr_con (x := Str.ofString "lot") (o := some (.ref l)) (by exact hm1) F'
    obtain ⟨hl1, hl2, hl3⟩ := hl
    simp only [List.cons_append, List.nil_append] at N'
    have f2 : ∀ p ∈ Y₂, p.1 ≠ l := GrowT.off g' f1 N' (fun p hp => .tail _ hp) (.head _) rfl
    w_strict (
      k_steps)
    unfold Hold
    refine' dots_loop (hh := 0) (th := th) (cv := cv) (r := _) (Y₂ := Y₂) 0 ?hA ?hr ?c0 ?c3 ?F ?N ?l1 ?l2 ?l3 ?o1 ?o2 ?o3 ?e1 ?e2 ?e3 ?e4 ?turn ?fin
    case hA => rfl
    case hr => assumption
    case c0 => assumption
    case c3 => assumption
    case F => k_asm
    case N => k_asm
    case l1 => assumption
    case l2 => assumption
    case l3 => assumption
    case o1 => assumption
    case o2 => exact offLt (by assumption) (by tb_start)
    case o3 => k_ne
    case e1 => rfl
    case e2 => rfl
    case e3 => rfl
    case e4 => rfl
    case turn =>
      intro pz hpz
      subst hpz
      intro I i m h tk it a b ta tb n vs pn ts Y₃ t hit hlen hok q1 q2 q3 q4 q5 g3 p1 p2 p3 hT hvl F' N'
      k_sweep
      w_strict (k_steps)
      unfold Hold
      refine IfExp_ ?_
      w_strict (
        k_steps)
      refine' dots_end (F := ?F) (N := ?N) ?hI ?hl ?hp ?hxs ?hY g3 ?hq hT ?hv hlen hok ?ht hit ?o1 ?o2 q1 q2 q3 ?e1 ?e2 ?e3 ?e4
      case F => k_asm
      case N => k_asm
      case hI => lsm_bools
      case hl => lsm_bools
      case hp => lsm_bools
      case hY => tb_start
      case hq => exact ⟨by assumption, by assumption, by assumption⟩
      case hv => (refine' TIn.mono ?s ?h; (case h => assumption); (case s => exact subT_of (by tb_start)))
      case hxs => simp
      case ht => exact .inl (by assumption)
      case o1 => assumption
      case o2 => assumption
      case e1 => rfl
      case e2 => rfl
      case e3 => rfl
      case e4 => rfl
    case fin =>
      intro m h tk a b ta tb n vs pn ts Y₃ hlen1 hlen3 hok q4 q5 g3 p1 p2 p3 hT hvl F' N'
      k_sweep
      w_strict (
        k_steps)
      refine' fin [(l, listOf #[.int _ _, .int _ _] _)] _ _ _ _ (by k_asm) (by k_asm) ?M ?Y ?P
      case M => tb_start
      case Y =>
        refine fun p hp => (?_ : ∀ p ∈ Y₃, p ∈ _) p (g3.1 p (g'.1 p hp))
        tb_start
      case P => exact fun Y₁ hs => ⟨_, _, _, _, _, tE "dotcall" (c :: ts), rfl, p1, p2, p3, ⟨c, ts, rfl, hcal, hlen1, hlen3, hok⟩, TIn.mono hs (by
        show TIn _ _ (.tuple [sS "expr", sS "dotcall", .tuple (c.dat :: T.dats ts)])
        tb_rel)⟩
end
section
-- DotsS
theorem reset_DotsS : True := by
  w_top off
  k_with_none
  k_with "kt_len" => first | assumption | exact ltm (by assumption) (by lsm_bools) | exact lt3 (by assumption) (by assumption) (by lsm_bools) | exact ltk (by assumption) | exact lk0 (by assumption) (by rfl) | exact lk1 (by assumption) (by rfl) | exact ltn (by assumption) (by lsm_bools) | exact lka (by rfl) | exact lkb (by rfl) | exact And.left (by assumption) | exact pj1 (by assumption) | exact pj2 (by assumption) | fail "no"
  k_with "ktr_room" => first | exact szg (by rfl) | exact rm2 (by assumption) (by rfl) | exact rs2 (by assumption) (by rfl) | exact rm0 (by assumption) | exact rm1 (by assumption) (by rfl) | exact rs1 (by assumption) (by rfl) | exact rm3 (by assumption) (by rfl) | exact rm4 (by assumption) (by rfl) | exact rm5 (by assumption) (by rfl) | exact rmn (by assumption) (by assumption) (by rfl) | exact rmt (by assumption) (by rfl) | fail "no"
  k_with "ktr_units" => k_extra "ktr_room"
  k_with "omega" => first | with_reducible assumption | (show (_ : Nat) < _; first | assumption | k_extra "ktr_room") | (show (_ : Nat) ≤ _; first | assumption | exact szg (by rfl) | exact sza (by assumption) (by rfl) | exact szb (by assumption) (by assumption) (by rfl) | exact szc (by assumption) (by rfl) | exact szd (by assumption) (by rfl) | exact cza (by assumption) (by rfl) | exact szs (by assumption) | exact Nat.le_of_eq (by assumption)) | (show (_ : Nat) ≠ _; first | assumption | exact Ne.symm (by assumption) | exact ofI (by assumption) (by lsm_bools) | exact ofC (by assumption) (by lsm_bools) | exact ofD (by assumption) (by lsm_bools) | exact fI (by assumption) (by lsm_bools) | exact fC (by assumption) (by lsm_bools) | exact fD (by assumption) (by lsm_bools) | exact Nat.ne_of_lt (by kt_len) | exact Nat.ne_of_gt (by kt_len)) | (show (_ : Nat) < _ ∨ _; first | exact Or.inl (by kt_len) | exact Or.inr (by kt_len)) | fail "no"
  k_with "lsm_bools" => first | exact List.Mem.head _ | assumption | (refine' List.Mem.tail _ ?_; lsm_bools) | (refine' GrowT.mem ?gZ259 ?hZ259; (case gZ259 => assumption); (case hZ259 => lsm_bools)) | fail "no entry"
  k_with "k_mem" => first | lsm_bools | fail "no entry"
  k_with "tb_start" => first
  | exact List.forall_mem_nil _
  | (refine' List.forall_mem_cons.mpr ⟨?aZ261, ?bZ261⟩; (case aZ261 => lsm_bools); (case bZ261 => tb_start))
  | (intro p hp; repeat (first | exact hp | refine List.mem_cons_of_mem _ ?_ | refine List.Mem.tail _ ?_ | refine GrowT.mem' (by assumption) ?_ | refine GrowT.mem (by assumption) ?_ | fail "no entry"))
  | fail "not within"
  k_with "k_all" => first
  | assumption
  | (refine' GrowT.off ?gZ262 ?oZ262 ?NZ262 ?sZ262 ?mZ262 ?cZ262; (case gZ262 => assumption); (case NZ262 => k_asm); (case sZ262 => tb_start); (case mZ262 => lsm_bools); (case cZ262 => rfl); (case oZ262 => k_all))
  | (refine' offLt ?hZ262 ?sZ262; (case hZ262 => assumption); (case sZ262 => tb_start))
  | (refine' offLt3 ?qZ262 ?hZ262 ?sZ262; (case qZ262 => assumption); (case hZ262 => assumption); (case sZ262 => tb_start))
  | fail "not apart"
  k_with "kqd_sub" => first
  | (refine' Cut.own ?mZ263 ?rZ263; (case mZ263 => lsm_bools); (case rZ263 => kqd_sub))
  | (refine' Cut.oth ?oZ263 ?rZ263; (case oZ263 => k_all); (case rZ263 => kqd_sub))
  | exact Cut.tail
  | fail "no cut"
  k_with "ktr_rel" => first
  | exact subT_nil
  | exact subT_of (fun _ hp => hp)
  | assumption
  | (refine' subT_skip ?aZ264 ?bZ264; (case aZ264 => rfl); (case bZ264 => ktr_rel))
  | (refine' subT_cons ?aZ264 ?bZ264; (case aZ264 => lsm_bools); (case bZ264 => ktr_rel))
  | (refine' subT_of ?hZ264; (case hZ264 => tb_start))
  | (refine' subT_app (by ktr_rel) (by ktr_rel))
  | fail "tuples not within"
  k_with "k_room" => ktr_room
  k_with "k_units" => ktr_units
  k_with "tb_rel" => first
  | exact TAll.nil
  | exact TIn.str _ _
  | exact TIn.int _ _
  | exact TIn.bytes _ _
  | assumption
  | (refine' TIn.mono ?sZ267 ?hZ267; (case hZ267 => assumption); (case sZ267 => ktr_rel))
  | (refine' TAll.mono ?sZ267 ?hZ267; (case hZ267 => assumption); (case sZ267 => ktr_rel))
  | (refine' TIn.tuple ?mZ267 ?rZ267; (case mZ267 => lsm_bools); (case rZ267 => tb_rel))
  | (refine' TAll.cons (by tb_rel) (by tb_rel))
  | fail "no tree"
  k_with "call ref" => (k_here; (with_reducible show wpAny _ _ (call (Value.ref 214) [Value.str _ _] _) _ _ _); k_dflt (refine' sym_use ?CZ268 ?hcZ268 ?BZ268 ?FZ268 ?XZ268 ?NZ268 ?TZ268 ?hkZ268 ?hdZ268 ?huZ268 ?_; (case CZ268 => exact sym_con _); (case NZ268 => k_asm); (case hcZ268 => kqd_sub); (case BZ268 => k_asm); (case FZ268 => k_asm); (case XZ268 => k_asm); (case TZ268 => k_asm); (case hkZ268 => first | rfl | assumption); (case hdZ268 => ktr_room); (case huZ268 => ktr_units); k_whole; intro a' Y' h' tk' g' F' N' hr'; (try simp only [List.cons_append, List.nil_append] at N'); (try k_fold)))
  k_with "call ref" => (k_here; (with_reducible show wpAny _ _ (call (Value.ref 207) [Value.str _ _, Value.ref _] _) _ _ _); k_dflt (refine' tree_use ?CZ269 ?hcZ269 ?hmZ269 ?hlZ269 ?hTZ269 ?BZ269 ?FZ269 ?XZ269 ?NZ269 ?TZ269 ?hkZ269 ?hdZ269 ?huZ269 ?_; (case CZ269 => exact tree_con _); (case NZ269 => k_asm); (case hcZ269 => kqd_sub); (case hmZ269 => lsm_bools); (case hlZ269 => exact Nat.le_of_ble_eq_true rfl); (case hTZ269 => tb_rel); (case BZ269 => k_asm); (case FZ269 => k_asm); (case XZ269 => k_asm); (case TZ269 => k_asm); (case hkZ269 => first | rfl | assumption); (case hdZ269 => ktr_room); (case huZ269 => ktr_units); k_whole; intro a' Y' h' tk' g' F' N' hr'; (try simp only [List.cons_append, List.nil_append] at N'); (try k_fold)))
  k_with "call ref" => (k_here; (with_reducible show wpAny _ _ (call (Value.ref 68) [_, Value.str _ _] _) _ _ _); k_dflt (refine' isEx_use ?CZ270 ?hvZ270 ?eZ270 ?BZ270 ?FZ270 ?XZ270 ?NZ270 ?TZ270 ?hkZ270 ?hsZ270 ?hdZ270 ?huZ270 ?_; (case CZ270 => exact isEx_con _); (case hvZ270 => assumption); (case eZ270 => first | assumption | rfl); (case hsZ270 => tb_start); (case BZ270 => k_asm); (case FZ270 => k_asm); (case XZ270 => k_asm); (case NZ270 => k_asm); (case TZ270 => k_asm); (case hkZ270 => first | rfl | assumption); (case hdZ270 => ktr_room); (case huZ270 => ktr_units); k_whole; intro h' tk' F' N'; (try k_fold)))
  k_with "call ref" => (k_here; (with_reducible show wpAny _ _ (call (Value.ref 82) [Value.ref _] _) _ _ _); k_dflt (refine' isSym_use ?hmZ271 ?eZ271 ?BZ271 ?FZ271 ?XZ271 ?NZ271 ?TZ271 ?hkZ271 ?hdZ271 ?huZ271 ?_; (case NZ271 => k_asm); (case hmZ271 => lsm_bools); (case eZ271 => first | rfl | decide); (case BZ271 => k_asm); (case FZ271 => k_asm); (case XZ271 => k_asm); (case TZ271 => k_asm); (case hkZ271 => first | rfl | assumption); (case hdZ271 => ktr_room); (case huZ271 => ktr_units); k_whole; intro h' tk' F' N'; (try k_fold)))
  k_with "call ref" => (k_here; (with_reducible show wpAny _ _ (call (Value.ref 75) [Value.ref _] _) _ _ _); k_dflt (first
  | (refine' parts_use ?hmZ272 ?BZ272 ?FZ272 ?XZ272 ?NZ272 ?TZ272 ?hkZ272 ?hdZ272 ?huZ272 ?_; (case NZ272 => k_asm); (case hmZ272 => lsm_bools); (case BZ272 => k_asm); (case FZ272 => k_asm); (case XZ272 => k_asm); (case TZ272 => k_asm); (case hkZ272 => first | rfl | assumption); (case hdZ272 => ktr_room); (case huZ272 => ktr_units); k_whole; intro h' tk' F' N'; (try k_fold))
  | (refine' parts0_use ?hcZ272 ?hmZ272 ?hzZ272 ?BZ272 ?FZ272 ?XZ272 ?NZ272 ?TZ272 ?hkZ272 ?hdZ272 ?huZ272 ?_; (case NZ272 => k_asm); (case hmZ272 => lsm_bools); (case hzZ272 => decide); (case hcZ272 => kqd_sub); (case BZ272 => k_asm); (case FZ272 => k_asm); (case XZ272 => k_asm); (case TZ272 => k_asm); (case hkZ272 => first | rfl | assumption); (case hdZ272 => ktr_room); (case huZ272 => ktr_units); k_whole; intro d' j' Y' h' tk' g' F' N' hm'; (try simp only [List.cons_append, List.nil_append] at N'); (try k_fold))))
  k_with "compareOp In str ref" => (k_here; k_dflt (refine' in_tupL ?htZ273 ?hiZ273 ?_; (case htZ273 => (refine' tupK ?XZ273 ?lZ273; (case XZ273 => k_in); (case lZ273 => k_is))); (case hiZ273 => exact rfl)))
  k_with "compareOp Eq ref ref" => (k_here; k_dflt (first
  | (refine' eq_dat (r := false) ?HZ274 ?d1Z274 ?d2Z274 ?hcZ274 ?hdZ274 ?huZ274 ?_; (case HZ274 => exact heldOf (by k_asm)); (case d1Z274 => tb_rel); (case d2Z274 => tb_rel); (case hcZ274 => with_unfolding_all rfl); (case hdZ274 => exact Nat.le_of_ble_eq_true rfl); (case huZ274 => ktr_units))
  | (refine' eq_dat (r := true) ?HZ274 ?d1Z274 ?d2Z274 ?hcZ274 ?hdZ274 ?huZ274 ?_; (case HZ274 => exact heldOf (by k_asm)); (case d1Z274 => tb_rel); (case d2Z274 => tb_rel); (case hcZ274 => with_unfolding_all rfl); (case hdZ274 => exact Nat.le_of_ble_eq_true rfl); (case huZ274 => ktr_units))))
  k_with "compareOp NotEq ref ref" => (k_here; k_dflt (first
  | (refine' ne_dat (r := false) ?HZ275 ?d1Z275 ?d2Z275 ?hcZ275 ?hdZ275 ?huZ275 ?_; (case HZ275 => exact heldOf (by k_asm)); (case d1Z275 => tb_rel); (case d2Z275 => tb_rel); (case hcZ275 => with_unfolding_all rfl); (case hdZ275 => exact Nat.le_of_ble_eq_true rfl); (case huZ275 => ktr_units))
  | (refine' ne_dat (r := true) ?HZ275 ?d1Z275 ?d2Z275 ?hcZ275 ?hdZ275 ?huZ275 ?_; (case HZ275 => exact heldOf (by k_asm)); (case d1Z275 => tb_rel); (case d2Z275 => tb_rel); (case hcZ275 => with_unfolding_all rfl); (case hdZ275 => exact Nat.le_of_ble_eq_true rfl); (case huZ275 => ktr_units))))
  k_with "subscriptTail Name Constant ref int" => (k_here; k_dflt (refine' item_tupleT ?tZ276 ?aZ276 ?bZ276 ?cZ276 ?dZ276 ?_; (case tZ276 => exact News.isTup (by k_asm) (by k_mem)); (case aZ276 => decide); (case bZ276 => decide); (case cZ276 => rfl); (case dZ276 => rfl); k_whole))
  k_with "ite" => (k_closed; k_dflt (first | (refine' ite_pos ?cZ277 ?_; (case cZ277 => decide)) | (refine' ite_neg ?cZ277 ?_; (case cZ277 => decide))))
  k_with "call ref" => (k_here; (with_reducible show wpAny _ _ (call (Value.ref 54) [Value.str _ _, Value.ref _] _) _ _ _); k_dflt (refine' expr_use ?hcZ278 ?hmZ278 ?hlZ278 ?BZ278 ?FZ278 ?XZ278 ?NZ278 ?TZ278 ?hkZ278 ?hdZ278 ?huZ278 ?_; (case NZ278 => k_asm); (case hmZ278 => lsm_bools); (case hcZ278 => kqd_sub); (case hlZ278 => first | exact Nat.le_of_ble_eq_true rfl | (simp only [List.length_append, List.length_cons, List.length_nil]; omega)); (case BZ278 => k_asm); (case FZ278 => k_asm); (case XZ278 => k_asm); (case TZ278 => k_asm); (case hkZ278 => first | rfl | assumption); (case hdZ278 => ktr_room); (case huZ278 => ktr_units); k_whole; intro a' t1' k' Y' h' tk' g' F' N' hm'; (try simp only [List.cons_append, List.nil_append] at N'); (try k_fold)))
  k_with "call ref" => (k_here; (with_reducible show wpAny _ _ (call (Value.ref 61) [Value.str _ _] _) _ _ _); k_dflt (refine' sym_use ?CZ279 ?hcZ279 ?BZ279 ?FZ279 ?XZ279 ?NZ279 ?TZ279 ?hkZ279 ?hdZ279 ?huZ279 ?_; (case CZ279 => exact symF_con _); (case NZ279 => k_asm); (case hcZ279 => kqd_sub); (case BZ279 => k_asm); (case FZ279 => k_asm); (case XZ279 => k_asm); (case TZ279 => k_asm); (case hkZ279 => first | rfl | assumption); (case hdZ279 => ktr_room); (case huZ279 => ktr_units); k_whole; intro a' Y' h' tk' g' F' N' hr'; (try simp only [List.cons_append, List.nil_append] at N'); (try k_fold)))
  k_with "call ref" => (k_here; (with_reducible show wpAny _ _ (call (Value.ref 200) [Value.ref _, Value.int _ _] _) _ _ _); k_dflt (refine' card_use ?BZ280 ?FZ280 ?XZ280 ?NZ280 ?TZ280 ?hkZ280 ?UZ280 ?hlZ280 ?hmZ280 ?hm' ?hdZ280 ?huZ280 ?_; (case BZ280 => k_asm); (case FZ280 => k_asm); (case XZ280 => k_asm); (case NZ280 => k_asm); (case TZ280 => k_asm); (case hkZ280 => first | rfl | assumption); (case UZ280 => k_updF); (case hlZ280 => exact ⟨by assumption, by assumption, by assumption⟩); (case hmZ280 => decide); (case hm' => decide); (case hdZ280 => ktr_room); (case huZ280 => ktr_units); k_whole; intro a' b' c' ta' tb' tc' n' h' tk' F' N' hb' hc1 hc2; have hb1 := hb'.1; have hb2 := hb'.2.1; have hb3 := hb'.2.2; (try dsimp only at N'); (try k_fold)))
  k_with "call ref" => (k_here; (with_reducible show wpAny _ _ (call (Value.ref 221) [Value.ref _] _) _ _ _); k_dflt (refine' lawLeaf_useT ?BZ281 ?FZ281 ?XZ281 ?NZ281 ?TZ281 ?hkZ281 ?hmZ281 ?hcZ281 ?hyZ281 ?hlZ281 ?hdZ281 ?huZ281 ?_; (case BZ281 => k_asm); (case FZ281 => k_asm); (case XZ281 => k_asm); (case NZ281 => k_asm); (case TZ281 => k_asm); (case hkZ281 => first | rfl | assumption); (case hmZ281 => tb_start); (case hcZ281 => kqd_sub); (case hyZ281 => k_all); (case hlZ281 => exact ⟨by assumption, by assumption, by assumption⟩); (case hdZ281 => ktr_room); (case huZ281 => ktr_units); k_whole; intro r' a' b' ta' tb' n' k' Y' h' tk' g' F' N' hb' hk7 hr'; have hb1 := hb'.1; have hb2 := hb'.2.1; have hb3 := hb'.2.2; (try simp only [List.cons_append, List.nil_append] at N'); (try k_fold)))
  k_with "call ref" => (k_here; (with_reducible show wpAny _ _ (call (Value.ref 228) [Value.ref _, Value.int _ _] _) _ _ _); k_dflt (refine' dots_use ?CZ282 ?BZ282 ?FZ282 ?XZ282 ?NZ282 ?TZ282 ?hkZ282 ?hmZ282 ?hcZ282 ?hyZ282 ?hlZ282 ?hdZ282 ?huZ282 ?_; (case CZ282 => assumption); (case BZ282 => k_asm); (case FZ282 => k_asm); (case XZ282 => k_asm); (case NZ282 => k_asm); (case TZ282 => k_asm); (case hkZ282 => first | rfl | assumption); (case hmZ282 => tb_start); (case hcZ282 => kqd_sub); (case hyZ282 => k_all); (case hlZ282 => exact ⟨by assumption, by assumption, by assumption⟩); (case hdZ282 => ktr_room); (case huZ282 => ktr_units); k_whole; intro r' a' b' ta' tb' n' k' Y' h' tk' g' F' N' hb' hk7 hr'; have hb1 := hb'.1; have hb2 := hb'.2.1; have hb3 := hb'.2.2; (try simp only [List.cons_append, List.nil_append] at N'); (try k_fold)))
  k_with "call type:range cons nil" => (k_here; k_dflt (refine' range1_rows ?FZ283 ?NZ283 ?_; (case FZ283 => k_asm); (case NZ283 => k_asm); k_whole; intro h' tk' t1' u1' v1' hR' F' N' hst'; (try k_fold)))
  k_with "pyIter ref" => (k_here; (with_reducible show wpAny _ _ (pyIter (Value.ref _)) (fun it s₂ => LoopAtV _ _ _ _ _ _ _ _ _ it s₂) _ _); refine' Hold.of ?_)
  k_with "binaryOp Add ref ref" => (k_here; k_dflt (refine' add_cat ?FZ285 ?NZ285 ?aZ285 ?bZ285 ?zZ285 ?_; (case FZ285 => k_asm); (case NZ285 => k_asm); (case aZ285 => lsm_bools); (case bZ285 => lsm_bools); (case zZ285 => (simp only [sizeLine_eq, List.length_cons, List.length_nil]; omega)); k_whole; intro D' h' F' N' l1; (try k_lt l1); (try k_sweep)))
  k_with "exec If" => (k_here; refine' Hold.of ?_)
  k_with "eval IfExp" => (k_here; refine' Hold.of ?_)
  k_with "subscriptTail List" => (k_here; (with_reducible show wpAny _ _ (subscriptTail _ _ (Value.ref _) (Value.int _ _)) _ _ _); k_dflt (refine' item_ops ?NZ288 ?mZ288 ?aZ288 ?bZ288 ?_; (case NZ288 => k_asm); (case mZ288 => k_mem); (case aZ288 => assumption); (case bZ288 => assumption); k_whole; intro x' t' hx'))
  trivial
set_option maxHeartbeats 8000000 in
theorem dotsS (w : World) (hh : Int) (nn : Nat) (hpos : 0 < hh) (IH : DotsC w (hh - 1) nn) : DotsC w hh (nn + 1) := by
  intro l a b ta tb th n Y ha hb hb' ho
  refine Con.intro ?_
  intro dp un gd cn cs fa ccd cl outer A₀ base h₀ L m s mean mg mb Q E B F X N Tp hk hd hu fin
  have f1 := ho _ (.head _)
  clear ho
  simp only [List.cons_append, List.nil_append] at N f1
  refine wpAny_call ?_
  w_strict (
    k_dflt ktr_enter
    k_steps)
  unfold Hold
  rename Fr _ _ _ _ => F1
  rename News _ _ _ _ => N1
  refine joinF (Y := Y) F1 (fun m' M' Y₂ => ∃ a b ta tb n cv c, M' = [(l, listOf #[.int a ta, .int b tb] n)] ∧ (0 ≤ a ∧ 0 ≤ b ∧ b < 65413) ∧ CalOk c ∧ TIn Y₂ (.ref cv) c.dat ∧ m' (Str.ofString "lot") = some (.ref l) ∧ m' (Str.ofString "high") = some (.int hh th) ∧ m' (Str.ofString "callee") = some (.ref cv)) ?h1 ?h2
  case h1 =>
    refine wpAny_If ?_
    w_strict (
      k_steps)
    · refine' joinF_end [(l, listOf #[.int _ _, .int _ _] _)] rfl (by k_asm) (by k_asm) (by tb_start) (by tb_start) (fun Y₁ hs => ⟨_, _, _, _, _, _, tE "." [tS "m", tS "h"], rfl, ⟨by assumption, by assumption, by assumption⟩, .inr rfl, TIn.mono hs ?_, by rfl, by rfl, by rfl⟩)
      show TIn _ _ (exD "." [symD _, symD _])
      tb_rel
    · refine' joinF_end [(l, listOf #[.int _ _, .int _ _] _)] rfl (by k_asm) (by k_asm) (by tb_start) (by tb_start) (fun Y₁ hs => ⟨_, _, _, _, _, _, .sym _, rfl, ⟨by assumption, by assumption, by assumption⟩, .inl ⟨_, by assumption, rfl⟩, TIn.mono hs ?_, by rfl, by rfl, by rfl⟩)
      show TIn _ _ (symD _)
      tb_rel
  case h2 =>
    clear F1 N1
    intro m' M' Y₂ h' tk' g' F' N' hp
    obtain ⟨a, b, ta, tb, n, cv, c, rfl, hl, hcal, hcv, hm1, hm2, hm3⟩ := hp
    replace F' := fr_con hm3 F'
    replace F' := fr_con (x := Str.ofString "high") (o := some (.int hh th)) (by exact hm2) F'
    replace F' := fr_con (x := Str.ofString "lot") (o := some (.ref l)) (by exact hm1) F'
    obtain ⟨hl1, hl2, hl3⟩ := hl
    simp only [List.cons_append, List.nil_append] at N'
    have f2 : ∀ p ∈ Y₂, p.1 ≠ l := GrowT.off g' f1 N' (fun p hp => .tail _ hp) (.head _) rfl
    w_strict (
      k_steps)
    unfold Hold
    refine' dots_loop (hh := hh) (th := th) (cv := cv) (r := _) (Y₂ := Y₂) (nn + 1) ?hA ?hr ?c0 ?c3 ?F ?N ?l1 ?l2 ?l3 ?o1 ?o2 ?o3 ?e1 ?e2 ?e3 ?e4 ?turn ?fin
    case hA => rfl
    case hr => assumption
    case c0 => assumption
    case c3 => assumption
    case F => k_asm
    case N => k_asm
    case l1 => assumption
    case l2 => assumption
    case l3 => assumption
    case o1 => assumption
    case o2 => exact offLt (by assumption) (by tb_start)
    case o3 => k_ne
    case e1 => rfl
    case e2 => rfl
    case e3 => rfl
    case e4 => rfl
    case turn =>
      intro pz hpz
      subst hpz
      intro I i m h tk it a b ta tb n vs pn ts Y₃ t hit hlen hok q1 q2 q3 q4 q5 g3 p1 p2 p3 hT hvl F' N'
      k_sweep
      w_strict (k_steps)
      unfold Hold
      rename Fr _ _ _ _ => F1
      rename News _ _ _ _ => N1
      refine' joinV (Y := Y₃) F1 (fun v M' Y₄ => ∃ a b ta tb n t, M' = [(l, listOf #[.int a ta, .int b tb] n), (I, it), (pz, listOf (List.toArray vs) pn)] ∧ (0 ≤ a ∧ 0 ≤ b ∧ b < 65413) ∧ (LeafOk t ∨ DotT (nn + 1) t) ∧ TIn Y₄ v t.dat) ?h1 ?h2
      case h1 =>
        refine IfExp_ ?_
        w_strict (
          k_steps)
        all_goals (refine' joinV_end [(l, listOf #[.int _ _, .int _ _] _), (I, it), (pz, listOf (List.toArray vs) pn)] rfl ?F ?N ?M ?Y ?P; (case F => k_asm); (case N => k_asm); (case M => tb_start); (case Y => tb_start); (case P => (intro Y₁ hs; refine' ⟨_, _, _, _, _, _, rfl, ⟨by assumption, by assumption, by assumption⟩, ?t, TIn.mono hs ?v⟩; (case v => (refine' TIn.mono ?s ?h; (case h => assumption); (case s => exact subT_of (by tb_start)))); (case t => first | exact .inr (by assumption) | exact .inl (by assumption)))))
      case h2 =>
        clear F1 N1
        intro v M' Y₄ h' tk' g4 F' N' hp
        obtain ⟨a, b, ta, tb, n, t, rfl, hq, ht, hv⟩ := hp
        simp only [List.cons_append, List.nil_append] at N'
        have wo1 : ∀ p ∈ Y₄, p.1 ≠ l := GrowT.off g4 q4 N' (fun p hp => .tail _ (.tail _ (.tail _ hp))) (.head _) rfl
        have wo2 : ∀ p ∈ Y₄, p.1 ≠ pz := GrowT.off g4 q5 N' (fun p hp => .tail _ (.tail _ (.tail _ hp))) (.tail _ (.tail _ (.head _))) rfl
        have wo3 : ∀ p ∈ Y₄, p.1 ≠ I := GrowT.off g4 q1 N' (fun p hp => .tail _ (.tail _ (.tail _ hp))) (.tail _ (.head _)) (isTupB_not (by rw [hit]; decide))
        w_strict (k_steps)
        refine' dots_end (F := ?F) (N := ?N) ?hI ?hl ?hp ?hxs ?hY (g3.trans g4) ?hq (TAll.mono (subT_of g4.1) hT) ?hv hlen hok ht hit ?o1 ?o2 ?o3 q2 q3 ?e1 ?e2 ?e3 ?e4
        case F => k_asm
        case N => k_asm
        case hI => lsm_bools
        case hl => lsm_bools
        case hp => lsm_bools
        case hY => tb_start
        case hq => exact hq
        case hv => exact TIn.mono (subT_of (by tb_start)) hv
        case hxs => simp
        case o1 => exact wo1
        case o2 => exact wo2
        case o3 => exact wo3
        case e1 => rfl
        case e2 => rfl
        case e3 => rfl
        case e4 => rfl
    case fin =>

      intro m h tk a b ta tb n vs pn ts Y₃ hlen1 hlen3 hok q4 q5 g3 p1 p2 p3 hT hvl F' N'
      k_sweep
      w_strict (
        k_steps)
      refine' fin [(l, listOf #[.int _ _, .int _ _] _)] _ _ _ _ (by k_asm) (by k_asm) ?M ?Y ?P
      case M => tb_start
      case Y =>
        refine fun p hp => (?_ : ∀ p ∈ Y₃, p ∈ _) p (g3.1 p (g'.1 p hp))
        tb_start
      case P => exact fun Y₁ hs => ⟨_, _, _, _, _, tE "dotcall" (c :: ts), rfl, p1, p2, p3, ⟨c, ts, rfl, hcal, hlen1, hlen3, hok⟩, TIn.mono hs (by
        show TIn _ _ (.tuple [sS "expr", sS "dotcall", .tuple (c.dat :: T.dats ts)])
        tb_rel)⟩
end
section
-- Callee
theorem reset_Callee : True := by
  w_top off
  k_with_none
  k_with "kt_len" => first | assumption | exact ltm (by assumption) (by lsm_bools) | exact lt3 (by assumption) (by assumption) (by lsm_bools) | exact ltk (by assumption) | exact lk0 (by assumption) (by rfl) | exact lk1 (by assumption) (by rfl) | exact ltn (by assumption) (by lsm_bools) | exact lka (by rfl) | exact lkb (by rfl) | exact And.left (by assumption) | exact pj1 (by assumption) | exact pj2 (by assumption) | fail "no"
  k_with "ktr_room" => first | exact szg (by rfl) | exact rm2 (by assumption) (by rfl) | exact rs2 (by assumption) (by rfl) | exact rm0 (by assumption) | exact rm1 (by assumption) (by rfl) | exact rs1 (by assumption) (by rfl) | exact rm3 (by assumption) (by rfl) | exact rm4 (by assumption) (by rfl) | exact rm5 (by assumption) (by rfl) | exact rmn (by assumption) (by assumption) (by rfl) | exact rmt (by assumption) (by rfl) | fail "no"
  k_with "ktr_units" => k_extra "ktr_room"
  k_with "omega" => first | with_reducible assumption | (show (_ : Nat) < _; first | assumption | k_extra "ktr_room") | (show (_ : Nat) ≤ _; first | assumption | exact szg (by rfl) | exact sza (by assumption) (by rfl) | exact szb (by assumption) (by assumption) (by rfl) | exact szc (by assumption) (by rfl) | exact szd (by assumption) (by rfl) | exact cza (by assumption) (by rfl) | exact szs (by assumption) | exact Nat.le_of_eq (by assumption)) | (show (_ : Nat) ≠ _; first | assumption | exact Ne.symm (by assumption) | exact ofI (by assumption) (by lsm_bools) | exact ofC (by assumption) (by lsm_bools) | exact ofD (by assumption) (by lsm_bools) | exact fI (by assumption) (by lsm_bools) | exact fC (by assumption) (by lsm_bools) | exact fD (by assumption) (by lsm_bools) | exact Nat.ne_of_lt (by kt_len) | exact Nat.ne_of_gt (by kt_len)) | (show (_ : Nat) < _ ∨ _; first | exact Or.inl (by kt_len) | exact Or.inr (by kt_len)) | fail "no"
  k_with "lsm_bools" => first | exact List.Mem.head _ | assumption | (refine' List.Mem.tail _ ?_; lsm_bools) | (refine' GrowT.mem ?gZ303 ?hZ303; (case gZ303 => assumption); (case hZ303 => lsm_bools)) | fail "no entry"
  k_with "k_mem" => first | lsm_bools | fail "no entry"
  k_with "tb_start" => first
  | exact List.forall_mem_nil _
  | (refine' List.forall_mem_cons.mpr ⟨?aZ305, ?bZ305⟩; (case aZ305 => lsm_bools); (case bZ305 => tb_start))
  | (intro p hp; repeat (first | exact hp | refine List.mem_cons_of_mem _ ?_ | refine List.Mem.tail _ ?_ | refine GrowT.mem' (by assumption) ?_ | refine GrowT.mem (by assumption) ?_ | fail "no entry"))
  | fail "not within"
  k_with "k_all" => first
  | assumption
  | (refine' GrowT.off ?gZ306 ?oZ306 ?NZ306 ?sZ306 ?mZ306 ?cZ306; (case gZ306 => assumption); (case NZ306 => k_asm); (case sZ306 => tb_start); (case mZ306 => lsm_bools); (case cZ306 => rfl); (case oZ306 => k_all))
  | (refine' offLt ?hZ306 ?sZ306; (case hZ306 => assumption); (case sZ306 => tb_start))
  | (refine' offLt3 ?qZ306 ?hZ306 ?sZ306; (case qZ306 => assumption); (case hZ306 => assumption); (case sZ306 => tb_start))
  | fail "not apart"
  k_with "kqd_sub" => first
  | (refine' Cut.own ?mZ307 ?rZ307; (case mZ307 => lsm_bools); (case rZ307 => kqd_sub))
  | (refine' Cut.oth ?oZ307 ?rZ307; (case oZ307 => k_all); (case rZ307 => kqd_sub))
  | exact Cut.tail
  | fail "no cut"
  k_with "ktr_rel" => first
  | exact subT_nil
  | exact subT_of (fun _ hp => hp)
  | assumption
  | (refine' subT_skip ?aZ308 ?bZ308; (case aZ308 => rfl); (case bZ308 => ktr_rel))
  | (refine' subT_cons ?aZ308 ?bZ308; (case aZ308 => lsm_bools); (case bZ308 => ktr_rel))
  | (refine' subT_of ?hZ308; (case hZ308 => tb_start))
  | (refine' subT_app (by ktr_rel) (by ktr_rel))
  | fail "tuples not within"
  k_with "k_room" => ktr_room
  k_with "k_units" => ktr_units
  k_with "tb_rel" => first
  | exact TAll.nil
  | exact TIn.str _ _
  | exact TIn.int _ _
  | exact TIn.bytes _ _
  | assumption
  | (refine' TIn.mono ?sZ311 ?hZ311; (case hZ311 => assumption); (case sZ311 => ktr_rel))
  | (refine' TAll.mono ?sZ311 ?hZ311; (case hZ311 => assumption); (case sZ311 => ktr_rel))
  | (refine' TIn.tuple ?mZ311 ?rZ311; (case mZ311 => lsm_bools); (case rZ311 => tb_rel))
  | (refine' TAll.cons (by tb_rel) (by tb_rel))
  | fail "no tree"
  k_with "call ref" => (k_here; (with_reducible show wpAny _ _ (call (Value.ref 214) [Value.str _ _] _) _ _ _); k_dflt (refine' sym_use ?CZ312 ?hcZ312 ?BZ312 ?FZ312 ?XZ312 ?NZ312 ?TZ312 ?hkZ312 ?hdZ312 ?huZ312 ?_; (case CZ312 => exact sym_con _); (case NZ312 => k_asm); (case hcZ312 => kqd_sub); (case BZ312 => k_asm); (case FZ312 => k_asm); (case XZ312 => k_asm); (case TZ312 => k_asm); (case hkZ312 => first | rfl | assumption); (case hdZ312 => ktr_room); (case huZ312 => ktr_units); k_whole; intro a' Y' h' tk' g' F' N' hr'; (try simp only [List.cons_append, List.nil_append] at N'); (try k_fold)))
  k_with "call ref" => (k_here; (with_reducible show wpAny _ _ (call (Value.ref 207) [Value.str _ _, Value.ref _] _) _ _ _); k_dflt (refine' tree_use ?CZ313 ?hcZ313 ?hmZ313 ?hlZ313 ?hTZ313 ?BZ313 ?FZ313 ?XZ313 ?NZ313 ?TZ313 ?hkZ313 ?hdZ313 ?huZ313 ?_; (case CZ313 => exact tree_con _); (case NZ313 => k_asm); (case hcZ313 => kqd_sub); (case hmZ313 => lsm_bools); (case hlZ313 => exact Nat.le_of_ble_eq_true rfl); (case hTZ313 => tb_rel); (case BZ313 => k_asm); (case FZ313 => k_asm); (case XZ313 => k_asm); (case TZ313 => k_asm); (case hkZ313 => first | rfl | assumption); (case hdZ313 => ktr_room); (case huZ313 => ktr_units); k_whole; intro a' Y' h' tk' g' F' N' hr'; (try simp only [List.cons_append, List.nil_append] at N'); (try k_fold)))
  k_with "call ref" => (k_here; (with_reducible show wpAny _ _ (call (Value.ref 68) [_, Value.str _ _] _) _ _ _); k_dflt (refine' isEx_use ?CZ314 ?hvZ314 ?eZ314 ?BZ314 ?FZ314 ?XZ314 ?NZ314 ?TZ314 ?hkZ314 ?hsZ314 ?hdZ314 ?huZ314 ?_; (case CZ314 => exact isEx_con _); (case hvZ314 => assumption); (case eZ314 => first | assumption | rfl); (case hsZ314 => tb_start); (case BZ314 => k_asm); (case FZ314 => k_asm); (case XZ314 => k_asm); (case NZ314 => k_asm); (case TZ314 => k_asm); (case hkZ314 => first | rfl | assumption); (case hdZ314 => ktr_room); (case huZ314 => ktr_units); k_whole; intro h' tk' F' N'; (try k_fold)))
  k_with "call ref" => (k_here; (with_reducible show wpAny _ _ (call (Value.ref 82) [Value.ref _] _) _ _ _); k_dflt (refine' isSym_use ?hmZ315 ?eZ315 ?BZ315 ?FZ315 ?XZ315 ?NZ315 ?TZ315 ?hkZ315 ?hdZ315 ?huZ315 ?_; (case NZ315 => k_asm); (case hmZ315 => lsm_bools); (case eZ315 => first | rfl | decide); (case BZ315 => k_asm); (case FZ315 => k_asm); (case XZ315 => k_asm); (case TZ315 => k_asm); (case hkZ315 => first | rfl | assumption); (case hdZ315 => ktr_room); (case huZ315 => ktr_units); k_whole; intro h' tk' F' N'; (try k_fold)))
  k_with "call ref" => (k_here; (with_reducible show wpAny _ _ (call (Value.ref 75) [Value.ref _] _) _ _ _); k_dflt (first
  | (refine' parts_use ?hmZ316 ?BZ316 ?FZ316 ?XZ316 ?NZ316 ?TZ316 ?hkZ316 ?hdZ316 ?huZ316 ?_; (case NZ316 => k_asm); (case hmZ316 => lsm_bools); (case BZ316 => k_asm); (case FZ316 => k_asm); (case XZ316 => k_asm); (case TZ316 => k_asm); (case hkZ316 => first | rfl | assumption); (case hdZ316 => ktr_room); (case huZ316 => ktr_units); k_whole; intro h' tk' F' N'; (try k_fold))
  | (refine' parts0_use ?hcZ316 ?hmZ316 ?hzZ316 ?BZ316 ?FZ316 ?XZ316 ?NZ316 ?TZ316 ?hkZ316 ?hdZ316 ?huZ316 ?_; (case NZ316 => k_asm); (case hmZ316 => lsm_bools); (case hzZ316 => decide); (case hcZ316 => kqd_sub); (case BZ316 => k_asm); (case FZ316 => k_asm); (case XZ316 => k_asm); (case TZ316 => k_asm); (case hkZ316 => first | rfl | assumption); (case hdZ316 => ktr_room); (case huZ316 => ktr_units); k_whole; intro d' j' Y' h' tk' g' F' N' hm'; (try simp only [List.cons_append, List.nil_append] at N'); (try k_fold))))
  k_with "compareOp In str ref" => (k_here; k_dflt (refine' in_tupL ?htZ317 ?hiZ317 ?_; (case htZ317 => (refine' tupK ?XZ317 ?lZ317; (case XZ317 => k_in); (case lZ317 => k_is))); (case hiZ317 => exact rfl)))
  k_with "compareOp Eq ref ref" => (k_here; k_dflt (first
  | (refine' eq_dat (r := false) ?HZ318 ?d1Z318 ?d2Z318 ?hcZ318 ?hdZ318 ?huZ318 ?_; (case HZ318 => exact heldOf (by k_asm)); (case d1Z318 => tb_rel); (case d2Z318 => tb_rel); (case hcZ318 => with_unfolding_all rfl); (case hdZ318 => exact Nat.le_of_ble_eq_true rfl); (case huZ318 => ktr_units))
  | (refine' eq_dat (r := true) ?HZ318 ?d1Z318 ?d2Z318 ?hcZ318 ?hdZ318 ?huZ318 ?_; (case HZ318 => exact heldOf (by k_asm)); (case d1Z318 => tb_rel); (case d2Z318 => tb_rel); (case hcZ318 => with_unfolding_all rfl); (case hdZ318 => exact Nat.le_of_ble_eq_true rfl); (case huZ318 => ktr_units))))
  k_with "compareOp NotEq ref ref" => (k_here; k_dflt (first
  | (refine' ne_dat (r := false) ?HZ319 ?d1Z319 ?d2Z319 ?hcZ319 ?hdZ319 ?huZ319 ?_; (case HZ319 => exact heldOf (by k_asm)); (case d1Z319 => tb_rel); (case d2Z319 => tb_rel); (case hcZ319 => with_unfolding_all rfl); (case hdZ319 => exact Nat.le_of_ble_eq_true rfl); (case huZ319 => ktr_units))
  | (refine' ne_dat (r := true) ?HZ319 ?d1Z319 ?d2Z319 ?hcZ319 ?hdZ319 ?huZ319 ?_; (case HZ319 => exact heldOf (by k_asm)); (case d1Z319 => tb_rel); (case d2Z319 => tb_rel); (case hcZ319 => with_unfolding_all rfl); (case hdZ319 => exact Nat.le_of_ble_eq_true rfl); (case huZ319 => ktr_units))))
  k_with "subscriptTail Name Constant ref int" => (k_here; k_dflt (refine' item_tupleT ?tZ320 ?aZ320 ?bZ320 ?cZ320 ?dZ320 ?_; (case tZ320 => exact News.isTup (by k_asm) (by k_mem)); (case aZ320 => decide); (case bZ320 => decide); (case cZ320 => rfl); (case dZ320 => rfl); k_whole))
  k_with "ite" => (k_closed; k_dflt (first | (refine' ite_pos ?cZ321 ?_; (case cZ321 => decide)) | (refine' ite_neg ?cZ321 ?_; (case cZ321 => decide))))
  k_with "call ref" => (k_here; (with_reducible show wpAny _ _ (call (Value.ref 54) [Value.str _ _, Value.ref _] _) _ _ _); k_dflt (refine' expr_use ?hcZ322 ?hmZ322 ?hlZ322 ?BZ322 ?FZ322 ?XZ322 ?NZ322 ?TZ322 ?hkZ322 ?hdZ322 ?huZ322 ?_; (case NZ322 => k_asm); (case hmZ322 => lsm_bools); (case hcZ322 => kqd_sub); (case hlZ322 => first | exact Nat.le_of_ble_eq_true rfl | (simp only [List.length_append, List.length_cons, List.length_nil]; omega)); (case BZ322 => k_asm); (case FZ322 => k_asm); (case XZ322 => k_asm); (case TZ322 => k_asm); (case hkZ322 => first | rfl | assumption); (case hdZ322 => ktr_room); (case huZ322 => ktr_units); k_whole; intro a' t1' k' Y' h' tk' g' F' N' hm'; (try simp only [List.cons_append, List.nil_append] at N'); (try k_fold)))
  k_with "call ref" => (k_here; (with_reducible show wpAny _ _ (call (Value.ref 61) [Value.str _ _] _) _ _ _); k_dflt (refine' sym_use ?CZ323 ?hcZ323 ?BZ323 ?FZ323 ?XZ323 ?NZ323 ?TZ323 ?hkZ323 ?hdZ323 ?huZ323 ?_; (case CZ323 => exact symF_con _); (case NZ323 => k_asm); (case hcZ323 => kqd_sub); (case BZ323 => k_asm); (case FZ323 => k_asm); (case XZ323 => k_asm); (case TZ323 => k_asm); (case hkZ323 => first | rfl | assumption); (case hdZ323 => ktr_room); (case huZ323 => ktr_units); k_whole; intro a' Y' h' tk' g' F' N' hr'; (try simp only [List.cons_append, List.nil_append] at N'); (try k_fold)))
  k_with "call type:range cons nil" => (k_here; k_dflt (refine' range1_rows ?FZ324 ?NZ324 ?_; (case FZ324 => k_asm); (case NZ324 => k_asm); k_whole; intro h' tk' t1' u1' v1' hR' F' N' hst'; (try k_fold)))
  k_with "pyIter ref" => (k_here; (with_reducible show wpAny _ _ (pyIter (Value.ref _)) (fun it s₂ => LoopAtV _ _ _ _ _ _ _ _ _ it s₂) _ _); refine' Hold.of ?_)
  k_with "binaryOp Add ref ref" => (k_here; k_dflt (refine' add_cat ?FZ326 ?NZ326 ?aZ326 ?bZ326 ?zZ326 ?_; (case FZ326 => k_asm); (case NZ326 => k_asm); (case aZ326 => lsm_bools); (case bZ326 => lsm_bools); (case zZ326 => (simp only [sizeLine_eq, List.length_cons, List.length_nil]; omega)); k_whole; intro D' h' F' N' l1; (try k_lt l1); (try k_sweep)))
  k_with "subscriptTail Name Slice ref ref" => (k_here; k_dflt (first
  | (refine' slice_whole ?FZ327 ?NZ327 ?tZ327 ?lZ327 ?zZ327 ?_ ?hsZ327 ?hgZ327; (case FZ327 => k_asm); (case NZ327 => k_asm); (case tZ327 => lsm_bools); (case lZ327 => exact Nat.le_of_ble_eq_true rfl); (case zZ327 => exact Nat.le_of_ble_eq_true rfl); (case hsZ327 => with_unfolding_all rfl); (case hgZ327 => (intro _; with_unfolding_all rfl)); k_whole; intro h' F' N'; (try k_sweep))
  | (refine' slice_upto ?FZ327 ?NZ327 ?tZ327 ?lZ327 ?zZ327 ?_ ?hsZ327 ?hgZ327; (case FZ327 => k_asm); (case NZ327 => k_asm); (case tZ327 => lsm_bools); (case lZ327 => exact Nat.le_of_ble_eq_true rfl); (case zZ327 => exact Nat.le_of_ble_eq_true rfl); (case hsZ327 => with_unfolding_all rfl); (case hgZ327 => (intro _; with_unfolding_all rfl)); k_whole; intro D' h' F' N' l1; (try k_lt l1); (try k_sweep))))
  k_with "subscriptTail Name Slice ref ref" => (k_here; k_dflt
  (refine' slice_from ?FZ328 ?NZ328 ?tZ328 ?oZ328 ?lZ328 ?zZ328 ?_ ?hsZ328 ?hgZ328; (case FZ328 => k_asm); (case NZ328 => k_asm); (case tZ328 => lsm_bools); (case oZ328 => exact Nat.le_of_ble_eq_true rfl); (case lZ328 => (simp only [List.length_cons]; omega)); (case zZ328 => (simp only [sizeLine_eq, List.length_cons]; omega)); (case hsZ328 => with_unfolding_all rfl); (case hgZ328 => (intro _; with_unfolding_all rfl)); k_whole; intro D' h' F' N' l1; (try k_lt l1); (try k_sweep)))
  k_with "subscriptTail Subscript Name Constant Slice ref ref" => (k_here; k_dflt
  (refine' slice_from ?FZ329 ?NZ329 ?tZ329 ?oZ329 ?lZ329 ?zZ329 ?_ ?hsZ329 ?hgZ329; (case FZ329 => k_asm); (case NZ329 => k_asm); (case tZ329 => lsm_bools); (case oZ329 => exact Nat.le_of_ble_eq_true rfl); (case lZ329 => (simp only [List.length_cons]; omega)); (case zZ329 => (simp only [sizeLine_eq, List.length_cons]; omega)); (case hsZ329 => with_unfolding_all rfl); (case hgZ329 => (intro _; with_unfolding_all rfl)); k_whole; intro D' h' F' N' l1; (try k_lt l1); (try k_sweep)))
  k_with "call type:tuple cons nil" => (k_here; k_dflt (refine' tuple_of ?FZ330 ?NZ330 ?tZ330 ?zZ330 ?_; (case FZ330 => k_asm); (case NZ330 => k_asm); (case tZ330 => lsm_bools); (case zZ330 => first | exact Nat.le_of_ble_eq_true rfl | (simp only [sizeLine_eq, List.length_append, List.length_cons, List.length_nil]; omega)); k_whole; intro D' h' F' N' l1; (try k_lt l1); (try k_sweep)))
  k_with "subscriptTail Name Constant ref int" => (k_here; k_dflt (refine' item_tupI ?NZ331 ?mZ331 ?aZ331 ?bZ331 ?cZ331 ?_; (case NZ331 => k_asm); (case mZ331 => lsm_bools); (case aZ331 => decide); (case bZ331 => decide); (case cZ331 => exact rfl); k_whole))
  k_with "subscriptTail Subscript Name Constant Constant ref int" => (k_here; k_dflt (refine' item_tupI ?NZ332 ?mZ332 ?aZ332 ?bZ332 ?cZ332 ?_; (case NZ332 => k_asm); (case mZ332 => lsm_bools); (case aZ332 => decide); (case bZ332 => decide); (case cZ332 => exact rfl); k_whole))
  k_with "subscriptTail Subscript Subscript Constant Constant ref int" => (k_here; k_dflt (refine' item_tupI ?NZ333 ?mZ333 ?aZ333 ?bZ333 ?cZ333 ?_; (case NZ333 => k_asm); (case mZ333 => lsm_bools); (case aZ333 => decide); (case bZ333 => decide); (case cZ333 => exact rfl); k_whole))
  k_with "subscriptTail Call Name cons nil Constant ref int" => (k_here; k_dflt (refine' item_tupI ?NZ334 ?mZ334 ?aZ334 ?bZ334 ?cZ334 ?_; (case NZ334 => k_asm); (case mZ334 => lsm_bools); (case aZ334 => decide); (case bZ334 => decide); (case cZ334 => exact rfl); k_whole))
  k_with "binaryOp Add ref ref" => (k_here; k_dflt (refine' add_tupC ?FZ335 ?NZ335 ?aZ335 ?bZ335 ?l1Z335 ?l2Z335 ?zZ335 ?_; (case FZ335 => k_asm); (case NZ335 => k_asm); (case aZ335 => lsm_bools); (case bZ335 => lsm_bools); (case l1Z335 => (simp only [List.length_cons, List.length_nil]; omega)); (case l2Z335 => omega); (case zZ335 => (simp only [sizeLine_eq, List.length_cons, List.length_nil]; omega)); k_whole; intro D' h' F' N' l1; (try k_lt l1); (try k_sweep)))
  k_with "call type:tuple cons nil" => (k_here; k_dflt (refine' tuple_same ?NZ336 ?tZ336 ?_; (case NZ336 => k_asm); (case tZ336 => lsm_bools); k_whole))
  k_with "call builtin:len cons nil" => (k_here; k_dflt (refine' len_tupK ?NZ337 ?tZ337 ?zZ337 ?_; (case NZ337 => k_asm); (case tZ337 => lsm_bools); (case zZ337 => (simp only [sizeLine_eq, List.length_cons, List.length_nil]; omega)); k_whole; intro tk1' tk2'))
  k_with "call ref" => (k_here; (with_reducible show wpAny _ _ (call (Value.ref 108) [Value.ref _, _] _) _ _ _); k_dflt (refine' fuse_use (f := 108) ?CZ338 ?hoZ338 ?hvZ338 ?hFZ338 ?hstZ338 ?hneZ338 ?hlenZ338 ?hmZ338 ?hcZ338 ?y1Z338 ?y2Z338 ?y3Z338 ?BZ338 ?FZ338 ?XZ338 ?NZ338 ?TZ338 ?hkZ338 ?hdZ338 ?huZ338 ?_; (case CZ338 => assumption); (case hvZ338 => assumption); (case hoZ338 => assumption); (case hFZ338 => assumption); (case hstZ338 => assumption); (case hneZ338 => assumption); (case hlenZ338 => first | assumption | omega); (case BZ338 => k_asm); (case FZ338 => k_asm); (case XZ338 => k_asm); (case NZ338 => k_asm); (case TZ338 => k_asm); (case hkZ338 => first | rfl | assumption); (case hmZ338 => tb_start); (case hcZ338 => kqd_sub); (case y1Z338 => k_all); (case y2Z338 => k_all); (case y3Z338 => k_all); (case hdZ338 => ktr_room); (case huZ338 => ktr_units); k_whole; intro r' t4' tk4' xs' n3' ys' n4' Y' h' tk' g' F' N' hst' hr'; (try simp only [List.cons_append, List.nil_append] at N'); (try k_fold)))
  k_with "call ref" => (k_here; (with_reducible show wpAny _ _ (call (Value.ref 115) [Value.ref _, _] _) _ _ _); k_dflt (refine' fuse_use (f := 115) ?CZ339 ?hoZ339 ?hvZ339 ?hFZ339 ?hstZ339 ?hneZ339 ?hlenZ339 ?hmZ339 ?hcZ339 ?y1Z339 ?y2Z339 ?y3Z339 ?BZ339 ?FZ339 ?XZ339 ?NZ339 ?TZ339 ?hkZ339 ?hdZ339 ?huZ339 ?_; (case CZ339 => assumption); (case hvZ339 => assumption); (case hoZ339 => assumption); (case hFZ339 => assumption); (case hstZ339 => assumption); (case hneZ339 => assumption); (case hlenZ339 => first | assumption | omega); (case BZ339 => k_asm); (case FZ339 => k_asm); (case XZ339 => k_asm); (case NZ339 => k_asm); (case TZ339 => k_asm); (case hkZ339 => first | rfl | assumption); (case hmZ339 => tb_start); (case hcZ339 => kqd_sub); (case y1Z339 => k_all); (case y2Z339 => k_all); (case y3Z339 => k_all); (case hdZ339 => ktr_room); (case huZ339 => ktr_units); k_whole; intro r' t4' tk4' xs' n3' ys' n4' Y' h' tk' g' F' N' hst' hr'; (try simp only [List.cons_append, List.nil_append] at N'); (try k_fold)))
  k_with "call ref" => (k_here; (with_reducible show wpAny _ _ (call (Value.ref 120) [Value.ref _, _] _) _ _ _); k_dflt (refine' fuse_use (f := 120) ?CZ340 ?hoZ340 ?hvZ340 ?hFZ340 ?hstZ340 ?hneZ340 ?hlenZ340 ?hmZ340 ?hcZ340 ?y1Z340 ?y2Z340 ?y3Z340 ?BZ340 ?FZ340 ?XZ340 ?NZ340 ?TZ340 ?hkZ340 ?hdZ340 ?huZ340 ?_; (case CZ340 => assumption); (case hvZ340 => assumption); (case hoZ340 => assumption); (case hFZ340 => assumption); (case hstZ340 => assumption); (case hneZ340 => assumption); (case hlenZ340 => first | assumption | omega); (case BZ340 => k_asm); (case FZ340 => k_asm); (case XZ340 => k_asm); (case NZ340 => k_asm); (case TZ340 => k_asm); (case hkZ340 => first | rfl | assumption); (case hmZ340 => tb_start); (case hcZ340 => kqd_sub); (case y1Z340 => k_all); (case y2Z340 => k_all); (case y3Z340 => k_all); (case hdZ340 => ktr_room); (case huZ340 => ktr_units); k_whole; intro r' t4' tk4' xs' n3' ys' n4' Y' h' tk' g' F' N' hst' hr'; (try simp only [List.cons_append, List.nil_append] at N'); (try k_fold)))
  k_with "call ref" => (k_here; (with_reducible show wpAny _ _ (call (Value.ref 68) [_, Value.str _ _] _) _ _ _); k_dflt (refine' isEx_use ?CZ341 ?hvZ341 ?eZ341 ?BZ341 ?FZ341 ?XZ341 ?NZ341 ?TZ341 ?hkZ341 ?hsZ341 ?hdZ341 ?huZ341 ?_; (case CZ341 => exact isEx_con _); (case hvZ341 => assumption); (case eZ341 => first | rfl | assumption); (case BZ341 => k_asm); (case FZ341 => k_asm); (case XZ341 => k_asm); (case NZ341 => k_asm); (case TZ341 => k_asm); (case hkZ341 => first | rfl | assumption); (case hsZ341 => tb_start); (case hdZ341 => ktr_room); (case huZ341 => ktr_units); k_whole; intro h' tk' F' N'; (try k_fold)))
  k_with "eval Call Name cons nil" => (k_here; refine Call_ ?_)
  trivial
set_option maxHeartbeats 8000000 in
theorem callee_con (w : World) (LC : FuseC w 108 12 100 LeafK thingsT leafB) : FuseC w 115 20 140 CalOk calL calB := by
  intro fz fd sz sd nz lz t v ls t4 tk xs n3 ys n4 Y hK o3 hls hv hF hst ho
  refine Con.intro ?_
  intro dp un gd cn cs fa ccd cl outer A₀ base h₀ L m s mean mg mb Q E B F X N Tp hk hd hu fin
  have f1 := ho _ (.head _)
  have f2 := ho _ (.tail _ (.head _))
  have f3 := ho _ (.tail _ (.tail _ (.head _)))
  clear ho
  simp only [List.cons_append, List.nil_append] at N f1 f2 f3
  have hkind := cal_kind hK
  have hF0 := hF
  obtain ⟨hF1, ⟨t1, t2, t3, hF2⟩, hF3⟩ := hF0
  refine wpAny_call ?_
  rcases hK with ⟨x, hx, rfl⟩ | rfl
  · obtain ⟨a, n, t5, t6, rfl, hm⟩ := sym_inv hv
    w_strict (
      k_dflt ktr_enter
      k_steps)
    refine' fin (stM w sd nz lz _ _ _ _ _ _ _) _ _ _ _ (by k_asm) (by k_asm) ?M ?Y (fun Y₁ hs => ?P)
    case M => tb_start
    case Y => tb_start
    case P =>
      have sub : SubT Y Y₁ := fun p q c => hs p ((show ∀ p ∈ Y, p ∈ _ by tb_start) p q) c
      rw [show calL (.sym x) = [] from rfl, List.append_nil]
      exact ⟨_, _, _, _, _, _, rfl, hst.mono sub, TIn.mono sub hv⟩
  · obtain ⟨a, n, t5, t6, b, vs, k, e9, hm, hm2, hT⟩ := ex_inv hv
    subst e9
    have hls' : ls.length + (thingsT (tE "." [tS "m", tS "h"])).length ≤ 60 := hls
    w_strict (
      k_dflt ktr_enter
      k_steps)
    have e : thingsT (tE "." [tS "m", tS "h"]) = calL (tE "." [tS "m", tS "h"]) := things_leaf (by decide)
    rw [← e] at fin
    refine' fin (stM w sd nz lz _ _ _ _ _ _ _) _ _ _ _ (by k_asm) (by k_asm) ?M ?Y (fun Y₁ hs => ?P)
    case M => tb_start
    case Y => tb_start
    case P =>
      refine' ⟨_, _, _, _, _, _, rfl, FSt.mono ?s ?h, TIn.mono ?s ?r⟩
      case h => assumption
      case r => assumption
      case s => exact fun p q c => hs p (.tail _ (.tail _ (.tail _ q))) c
end
section
-- Plain
theorem reset_Plain : True := by
  w_top off
  k_with_none
  k_with "kt_len" => first | assumption | exact ltm (by assumption) (by lsm_bools) | exact lt3 (by assumption) (by assumption) (by lsm_bools) | exact ltk (by assumption) | exact lk0 (by assumption) (by rfl) | exact lk1 (by assumption) (by rfl) | exact ltn (by assumption) (by lsm_bools) | exact lka (by rfl) | exact lkb (by rfl) | exact And.left (by assumption) | exact pj1 (by assumption) | exact pj2 (by assumption) | fail "no"
  k_with "ktr_room" => first | exact szg (by rfl) | exact rm2 (by assumption) (by rfl) | exact rs2 (by assumption) (by rfl) | exact rm0 (by assumption) | exact rm1 (by assumption) (by rfl) | exact rs1 (by assumption) (by rfl) | exact rm3 (by assumption) (by rfl) | exact rm4 (by assumption) (by rfl) | exact rm5 (by assumption) (by rfl) | exact rmn (by assumption) (by assumption) (by rfl) | exact rmt (by assumption) (by rfl) | fail "no"
  k_with "ktr_units" => k_extra "ktr_room"
  k_with "omega" => first | with_reducible assumption | (show (_ : Nat) < _; first | assumption | k_extra "ktr_room") | (show (_ : Nat) ≤ _; first | assumption | exact szg (by rfl) | exact sza (by assumption) (by rfl) | exact szb (by assumption) (by assumption) (by rfl) | exact szc (by assumption) (by rfl) | exact szd (by assumption) (by rfl) | exact cza (by assumption) (by rfl) | exact szs (by assumption) | exact Nat.le_of_eq (by assumption)) | (show (_ : Nat) ≠ _; first | assumption | exact Ne.symm (by assumption) | exact ofI (by assumption) (by lsm_bools) | exact ofC (by assumption) (by lsm_bools) | exact ofD (by assumption) (by lsm_bools) | exact fI (by assumption) (by lsm_bools) | exact fC (by assumption) (by lsm_bools) | exact fD (by assumption) (by lsm_bools) | exact Nat.ne_of_lt (by kt_len) | exact Nat.ne_of_gt (by kt_len)) | (show (_ : Nat) < _ ∨ _; first | exact Or.inl (by kt_len) | exact Or.inr (by kt_len)) | fail "no"
  k_with "lsm_bools" => first | exact List.Mem.head _ | assumption | (refine' List.Mem.tail _ ?_; lsm_bools) | (refine' GrowT.mem ?gZ349 ?hZ349; (case gZ349 => assumption); (case hZ349 => lsm_bools)) | fail "no entry"
  k_with "k_mem" => first | lsm_bools | fail "no entry"
  k_with "tb_start" => first
  | exact List.forall_mem_nil _
  | (refine' List.forall_mem_cons.mpr ⟨?aZ351, ?bZ351⟩; (case aZ351 => lsm_bools); (case bZ351 => tb_start))
  | (intro p hp; repeat (first | exact hp | refine List.mem_cons_of_mem _ ?_ | refine List.Mem.tail _ ?_ | refine GrowT.mem' (by assumption) ?_ | refine GrowT.mem (by assumption) ?_ | fail "no entry"))
  | fail "not within"
  k_with "k_all" => first
  | assumption
  | (refine' GrowT.off ?gZ352 ?oZ352 ?NZ352 ?sZ352 ?mZ352 ?cZ352; (case gZ352 => assumption); (case NZ352 => k_asm); (case sZ352 => tb_start); (case mZ352 => lsm_bools); (case cZ352 => rfl); (case oZ352 => k_all))
  | (refine' offLt ?hZ352 ?sZ352; (case hZ352 => assumption); (case sZ352 => tb_start))
  | (refine' offLt3 ?qZ352 ?hZ352 ?sZ352; (case qZ352 => assumption); (case hZ352 => assumption); (case sZ352 => tb_start))
  | fail "not apart"
  k_with "kqd_sub" => first
  | (refine' Cut.own ?mZ353 ?rZ353; (case mZ353 => lsm_bools); (case rZ353 => kqd_sub))
  | (refine' Cut.oth ?oZ353 ?rZ353; (case oZ353 => k_all); (case rZ353 => kqd_sub))
  | exact Cut.tail
  | fail "no cut"
  k_with "ktr_rel" => first
  | exact subT_nil
  | exact subT_of (fun _ hp => hp)
  | assumption
  | (refine' subT_skip ?aZ354 ?bZ354; (case aZ354 => rfl); (case bZ354 => ktr_rel))
  | (refine' subT_cons ?aZ354 ?bZ354; (case aZ354 => lsm_bools); (case bZ354 => ktr_rel))
  | (refine' subT_of ?hZ354; (case hZ354 => tb_start))
  | (refine' subT_app (by ktr_rel) (by ktr_rel))
  | fail "tuples not within"
  k_with "k_room" => ktr_room
  k_with "k_units" => ktr_units
  k_with "tb_rel" => first
  | exact TAll.nil
  | exact TIn.str _ _
  | exact TIn.int _ _
  | exact TIn.bytes _ _
  | assumption
  | (refine' TIn.mono ?sZ357 ?hZ357; (case hZ357 => assumption); (case sZ357 => ktr_rel))
  | (refine' TAll.mono ?sZ357 ?hZ357; (case hZ357 => assumption); (case sZ357 => ktr_rel))
  | (refine' TIn.tuple ?mZ357 ?rZ357; (case mZ357 => lsm_bools); (case rZ357 => tb_rel))
  | (refine' TAll.cons (by tb_rel) (by tb_rel))
  | fail "no tree"
  k_with "call ref" => (k_here; (with_reducible show wpAny _ _ (call (Value.ref 214) [Value.str _ _] _) _ _ _); k_dflt (refine' sym_use ?CZ358 ?hcZ358 ?BZ358 ?FZ358 ?XZ358 ?NZ358 ?TZ358 ?hkZ358 ?hdZ358 ?huZ358 ?_; (case CZ358 => exact sym_con _); (case NZ358 => k_asm); (case hcZ358 => kqd_sub); (case BZ358 => k_asm); (case FZ358 => k_asm); (case XZ358 => k_asm); (case TZ358 => k_asm); (case hkZ358 => first | rfl | assumption); (case hdZ358 => ktr_room); (case huZ358 => ktr_units); k_whole; intro a' Y' h' tk' g' F' N' hr'; (try simp only [List.cons_append, List.nil_append] at N'); (try k_fold)))
  k_with "call ref" => (k_here; (with_reducible show wpAny _ _ (call (Value.ref 207) [Value.str _ _, Value.ref _] _) _ _ _); k_dflt (refine' tree_use ?CZ359 ?hcZ359 ?hmZ359 ?hlZ359 ?hTZ359 ?BZ359 ?FZ359 ?XZ359 ?NZ359 ?TZ359 ?hkZ359 ?hdZ359 ?huZ359 ?_; (case CZ359 => exact tree_con _); (case NZ359 => k_asm); (case hcZ359 => kqd_sub); (case hmZ359 => lsm_bools); (case hlZ359 => exact Nat.le_of_ble_eq_true rfl); (case hTZ359 => tb_rel); (case BZ359 => k_asm); (case FZ359 => k_asm); (case XZ359 => k_asm); (case TZ359 => k_asm); (case hkZ359 => first | rfl | assumption); (case hdZ359 => ktr_room); (case huZ359 => ktr_units); k_whole; intro a' Y' h' tk' g' F' N' hr'; (try simp only [List.cons_append, List.nil_append] at N'); (try k_fold)))
  k_with "call ref" => (k_here; (with_reducible show wpAny _ _ (call (Value.ref 68) [_, Value.str _ _] _) _ _ _); k_dflt (refine' isEx_use ?CZ360 ?hvZ360 ?eZ360 ?BZ360 ?FZ360 ?XZ360 ?NZ360 ?TZ360 ?hkZ360 ?hsZ360 ?hdZ360 ?huZ360 ?_; (case CZ360 => exact isEx_con _); (case hvZ360 => assumption); (case eZ360 => first | assumption | rfl); (case hsZ360 => tb_start); (case BZ360 => k_asm); (case FZ360 => k_asm); (case XZ360 => k_asm); (case NZ360 => k_asm); (case TZ360 => k_asm); (case hkZ360 => first | rfl | assumption); (case hdZ360 => ktr_room); (case huZ360 => ktr_units); k_whole; intro h' tk' F' N'; (try k_fold)))
  k_with "call ref" => (k_here; (with_reducible show wpAny _ _ (call (Value.ref 82) [Value.ref _] _) _ _ _); k_dflt (refine' isSym_use ?hmZ361 ?eZ361 ?BZ361 ?FZ361 ?XZ361 ?NZ361 ?TZ361 ?hkZ361 ?hdZ361 ?huZ361 ?_; (case NZ361 => k_asm); (case hmZ361 => lsm_bools); (case eZ361 => first | rfl | decide); (case BZ361 => k_asm); (case FZ361 => k_asm); (case XZ361 => k_asm); (case TZ361 => k_asm); (case hkZ361 => first | rfl | assumption); (case hdZ361 => ktr_room); (case huZ361 => ktr_units); k_whole; intro h' tk' F' N'; (try k_fold)))
  k_with "call ref" => (k_here; (with_reducible show wpAny _ _ (call (Value.ref 75) [Value.ref _] _) _ _ _); k_dflt (first
  | (refine' parts_use ?hmZ362 ?BZ362 ?FZ362 ?XZ362 ?NZ362 ?TZ362 ?hkZ362 ?hdZ362 ?huZ362 ?_; (case NZ362 => k_asm); (case hmZ362 => lsm_bools); (case BZ362 => k_asm); (case FZ362 => k_asm); (case XZ362 => k_asm); (case TZ362 => k_asm); (case hkZ362 => first | rfl | assumption); (case hdZ362 => ktr_room); (case huZ362 => ktr_units); k_whole; intro h' tk' F' N'; (try k_fold))
  | (refine' parts0_use ?hcZ362 ?hmZ362 ?hzZ362 ?BZ362 ?FZ362 ?XZ362 ?NZ362 ?TZ362 ?hkZ362 ?hdZ362 ?huZ362 ?_; (case NZ362 => k_asm); (case hmZ362 => lsm_bools); (case hzZ362 => decide); (case hcZ362 => kqd_sub); (case BZ362 => k_asm); (case FZ362 => k_asm); (case XZ362 => k_asm); (case TZ362 => k_asm); (case hkZ362 => first | rfl | assumption); (case hdZ362 => ktr_room); (case huZ362 => ktr_units); k_whole; intro d' j' Y' h' tk' g' F' N' hm'; (try simp only [List.cons_append, List.nil_append] at N'); (try k_fold))))
  k_with "compareOp In str ref" => (k_here; k_dflt (refine' in_tupL ?htZ363 ?hiZ363 ?_; (case htZ363 => (refine' tupK ?XZ363 ?lZ363; (case XZ363 => k_in); (case lZ363 => k_is))); (case hiZ363 => exact rfl)))
  k_with "compareOp Eq ref ref" => (k_here; k_dflt (first
  | (refine' eq_dat (r := false) ?HZ364 ?d1Z364 ?d2Z364 ?hcZ364 ?hdZ364 ?huZ364 ?_; (case HZ364 => exact heldOf (by k_asm)); (case d1Z364 => tb_rel); (case d2Z364 => tb_rel); (case hcZ364 => with_unfolding_all rfl); (case hdZ364 => exact Nat.le_of_ble_eq_true rfl); (case huZ364 => ktr_units))
  | (refine' eq_dat (r := true) ?HZ364 ?d1Z364 ?d2Z364 ?hcZ364 ?hdZ364 ?huZ364 ?_; (case HZ364 => exact heldOf (by k_asm)); (case d1Z364 => tb_rel); (case d2Z364 => tb_rel); (case hcZ364 => with_unfolding_all rfl); (case hdZ364 => exact Nat.le_of_ble_eq_true rfl); (case huZ364 => ktr_units))))
  k_with "compareOp NotEq ref ref" => (k_here; k_dflt (first
  | (refine' ne_dat (r := false) ?HZ365 ?d1Z365 ?d2Z365 ?hcZ365 ?hdZ365 ?huZ365 ?_; (case HZ365 => exact heldOf (by k_asm)); (case d1Z365 => tb_rel); (case d2Z365 => tb_rel); (case hcZ365 => with_unfolding_all rfl); (case hdZ365 => exact Nat.le_of_ble_eq_true rfl); (case huZ365 => ktr_units))
  | (refine' ne_dat (r := true) ?HZ365 ?d1Z365 ?d2Z365 ?hcZ365 ?hdZ365 ?huZ365 ?_; (case HZ365 => exact heldOf (by k_asm)); (case d1Z365 => tb_rel); (case d2Z365 => tb_rel); (case hcZ365 => with_unfolding_all rfl); (case hdZ365 => exact Nat.le_of_ble_eq_true rfl); (case huZ365 => ktr_units))))
  k_with "subscriptTail Name Constant ref int" => (k_here; k_dflt (refine' item_tupleT ?tZ366 ?aZ366 ?bZ366 ?cZ366 ?dZ366 ?_; (case tZ366 => exact News.isTup (by k_asm) (by k_mem)); (case aZ366 => decide); (case bZ366 => decide); (case cZ366 => rfl); (case dZ366 => rfl); k_whole))
  k_with "ite" => (k_closed; k_dflt (first | (refine' ite_pos ?cZ367 ?_; (case cZ367 => decide)) | (refine' ite_neg ?cZ367 ?_; (case cZ367 => decide))))
  k_with "call ref" => (k_here; (with_reducible show wpAny _ _ (call (Value.ref 54) [Value.str _ _, Value.ref _] _) _ _ _); k_dflt (refine' expr_use ?hcZ368 ?hmZ368 ?hlZ368 ?BZ368 ?FZ368 ?XZ368 ?NZ368 ?TZ368 ?hkZ368 ?hdZ368 ?huZ368 ?_; (case NZ368 => k_asm); (case hmZ368 => lsm_bools); (case hcZ368 => kqd_sub); (case hlZ368 => first | exact Nat.le_of_ble_eq_true rfl | (simp only [List.length_append, List.length_cons, List.length_nil]; omega)); (case BZ368 => k_asm); (case FZ368 => k_asm); (case XZ368 => k_asm); (case TZ368 => k_asm); (case hkZ368 => first | rfl | assumption); (case hdZ368 => ktr_room); (case huZ368 => ktr_units); k_whole; intro a' t1' k' Y' h' tk' g' F' N' hm'; (try simp only [List.cons_append, List.nil_append] at N'); (try k_fold)))
  k_with "call ref" => (k_here; (with_reducible show wpAny _ _ (call (Value.ref 61) [Value.str _ _] _) _ _ _); k_dflt (refine' sym_use ?CZ369 ?hcZ369 ?BZ369 ?FZ369 ?XZ369 ?NZ369 ?TZ369 ?hkZ369 ?hdZ369 ?huZ369 ?_; (case CZ369 => exact symF_con _); (case NZ369 => k_asm); (case hcZ369 => kqd_sub); (case BZ369 => k_asm); (case FZ369 => k_asm); (case XZ369 => k_asm); (case TZ369 => k_asm); (case hkZ369 => first | rfl | assumption); (case hdZ369 => ktr_room); (case huZ369 => ktr_units); k_whole; intro a' Y' h' tk' g' F' N' hr'; (try simp only [List.cons_append, List.nil_append] at N'); (try k_fold)))
  k_with "call type:range cons nil" => (k_here; k_dflt (refine' range1_rows ?FZ370 ?NZ370 ?_; (case FZ370 => k_asm); (case NZ370 => k_asm); k_whole; intro h' tk' t1' u1' v1' hR' F' N' hst'; (try k_fold)))
  k_with "pyIter ref" => (k_here; (with_reducible show wpAny _ _ (pyIter (Value.ref _)) (fun it s₂ => LoopAtV _ _ _ _ _ _ _ _ _ it s₂) _ _); refine' Hold.of ?_)
  k_with "binaryOp Add ref ref" => (k_here; k_dflt (refine' add_cat ?FZ372 ?NZ372 ?aZ372 ?bZ372 ?zZ372 ?_; (case FZ372 => k_asm); (case NZ372 => k_asm); (case aZ372 => lsm_bools); (case bZ372 => lsm_bools); (case zZ372 => (simp only [sizeLine_eq, List.length_cons, List.length_nil]; omega)); k_whole; intro D' h' F' N' l1; (try k_lt l1); (try k_sweep)))
  k_with "subscriptTail Name Slice ref ref" => (k_here; k_dflt (first
  | (refine' slice_whole ?FZ373 ?NZ373 ?tZ373 ?lZ373 ?zZ373 ?_ ?hsZ373 ?hgZ373; (case FZ373 => k_asm); (case NZ373 => k_asm); (case tZ373 => lsm_bools); (case lZ373 => exact Nat.le_of_ble_eq_true rfl); (case zZ373 => exact Nat.le_of_ble_eq_true rfl); (case hsZ373 => with_unfolding_all rfl); (case hgZ373 => (intro _; with_unfolding_all rfl)); k_whole; intro h' F' N'; (try k_sweep))
  | (refine' slice_upto ?FZ373 ?NZ373 ?tZ373 ?lZ373 ?zZ373 ?_ ?hsZ373 ?hgZ373; (case FZ373 => k_asm); (case NZ373 => k_asm); (case tZ373 => lsm_bools); (case lZ373 => exact Nat.le_of_ble_eq_true rfl); (case zZ373 => exact Nat.le_of_ble_eq_true rfl); (case hsZ373 => with_unfolding_all rfl); (case hgZ373 => (intro _; with_unfolding_all rfl)); k_whole; intro D' h' F' N' l1; (try k_lt l1); (try k_sweep))))
  k_with "subscriptTail Name Slice ref ref" => (k_here; k_dflt
  (refine' slice_from ?FZ374 ?NZ374 ?tZ374 ?oZ374 ?lZ374 ?zZ374 ?_ ?hsZ374 ?hgZ374; (case FZ374 => k_asm); (case NZ374 => k_asm); (case tZ374 => lsm_bools); (case oZ374 => exact Nat.le_of_ble_eq_true rfl); (case lZ374 => (simp only [List.length_cons]; omega)); (case zZ374 => (simp only [sizeLine_eq, List.length_cons]; omega)); (case hsZ374 => with_unfolding_all rfl); (case hgZ374 => (intro _; with_unfolding_all rfl)); k_whole; intro D' h' F' N' l1; (try k_lt l1); (try k_sweep)))
  k_with "subscriptTail Subscript Name Constant Slice ref ref" => (k_here; k_dflt
  (refine' slice_from ?FZ375 ?NZ375 ?tZ375 ?oZ375 ?lZ375 ?zZ375 ?_ ?hsZ375 ?hgZ375; (case FZ375 => k_asm); (case NZ375 => k_asm); (case tZ375 => lsm_bools); (case oZ375 => exact Nat.le_of_ble_eq_true rfl); (case lZ375 => (simp only [List.length_cons]; omega)); (case zZ375 => (simp only [sizeLine_eq, List.length_cons]; omega)); (case hsZ375 => with_unfolding_all rfl); (case hgZ375 => (intro _; with_unfolding_all rfl)); k_whole; intro D' h' F' N' l1; (try k_lt l1); (try k_sweep)))
  k_with "call type:tuple cons nil" => (k_here; k_dflt (refine' tuple_of ?FZ376 ?NZ376 ?tZ376 ?zZ376 ?_; (case FZ376 => k_asm); (case NZ376 => k_asm); (case tZ376 => lsm_bools); (case zZ376 => first | exact Nat.le_of_ble_eq_true rfl | (simp only [sizeLine_eq, List.length_append, List.length_cons, List.length_nil]; omega)); k_whole; intro D' h' F' N' l1; (try k_lt l1); (try k_sweep)))
  k_with "subscriptTail Name Constant ref int" => (k_here; k_dflt (refine' item_tupI ?NZ377 ?mZ377 ?aZ377 ?bZ377 ?cZ377 ?_; (case NZ377 => k_asm); (case mZ377 => lsm_bools); (case aZ377 => decide); (case bZ377 => decide); (case cZ377 => exact rfl); k_whole))
  k_with "subscriptTail Subscript Name Constant Constant ref int" => (k_here; k_dflt (refine' item_tupI ?NZ378 ?mZ378 ?aZ378 ?bZ378 ?cZ378 ?_; (case NZ378 => k_asm); (case mZ378 => lsm_bools); (case aZ378 => decide); (case bZ378 => decide); (case cZ378 => exact rfl); k_whole))
  k_with "subscriptTail Subscript Subscript Constant Constant ref int" => (k_here; k_dflt (refine' item_tupI ?NZ379 ?mZ379 ?aZ379 ?bZ379 ?cZ379 ?_; (case NZ379 => k_asm); (case mZ379 => lsm_bools); (case aZ379 => decide); (case bZ379 => decide); (case cZ379 => exact rfl); k_whole))
  k_with "subscriptTail Call Name cons nil Constant ref int" => (k_here; k_dflt (refine' item_tupI ?NZ380 ?mZ380 ?aZ380 ?bZ380 ?cZ380 ?_; (case NZ380 => k_asm); (case mZ380 => lsm_bools); (case aZ380 => decide); (case bZ380 => decide); (case cZ380 => exact rfl); k_whole))
  k_with "binaryOp Add ref ref" => (k_here; k_dflt (refine' add_tupC ?FZ381 ?NZ381 ?aZ381 ?bZ381 ?l1Z381 ?l2Z381 ?zZ381 ?_; (case FZ381 => k_asm); (case NZ381 => k_asm); (case aZ381 => lsm_bools); (case bZ381 => lsm_bools); (case l1Z381 => (simp only [List.length_cons, List.length_nil]; omega)); (case l2Z381 => omega); (case zZ381 => (simp only [sizeLine_eq, List.length_cons, List.length_nil]; omega)); k_whole; intro D' h' F' N' l1; (try k_lt l1); (try k_sweep)))
  k_with "call type:tuple cons nil" => (k_here; k_dflt (refine' tuple_same ?NZ382 ?tZ382 ?_; (case NZ382 => k_asm); (case tZ382 => lsm_bools); k_whole))
  k_with "call builtin:len cons nil" => (k_here; k_dflt (refine' len_tupK ?NZ383 ?tZ383 ?zZ383 ?_; (case NZ383 => k_asm); (case tZ383 => lsm_bools); (case zZ383 => (simp only [sizeLine_eq, List.length_cons, List.length_nil]; omega)); k_whole; intro tk1' tk2'))
  k_with "eval ListComp" => (k_here; refine' Hold.of ?_)
  k_with "compareOp NotEq ref ref" => (k_here; k_dflt (refine' ne_dat (r := false) ?HZ385 ?d1Z385 ?d2Z385 ?hcZ385 ?hdZ385 ?huZ385 ?_; (case HZ385 => exact heldOf (by k_asm)); (case d1Z385 => tb_rel); (case d2Z385 => tb_rel); (case hcZ385 => exact cmp_head (by assumption) _); (case hdZ385 => exact Nat.le_of_ble_eq_true rfl); (case huZ385 => ktr_units)))
  k_with "call ref" => (k_here; (with_reducible show wpAny _ _ (call (Value.ref 233) [_] _) _ _ _); k_dflt (refine' plain_use ?CZ386 ?hoZ386 ?hvZ386 ?BZ386 ?FZ386 ?XZ386 ?NZ386 ?TZ386 ?hkZ386 ?hcZ386 ?hdZ386 ?huZ386 ?_; (case CZ386 => assumption); (case hoZ386 => assumption); (case hvZ386 => assumption); (case BZ386 => k_asm); (case FZ386 => k_asm); (case XZ386 => k_asm); (case NZ386 => k_asm); (case TZ386 => k_asm); (case hkZ386 => first | rfl | assumption); (case hcZ386 => kqd_sub); (case hdZ386 => ktr_room); (case huZ386 => ktr_units); k_whole; intro r' Y' h' tk' g' F' N' hr'; (try simp only [List.cons_append, List.nil_append] at N'); (try k_fold)))
  k_with "call ref" => (k_here; (with_reducible show wpAny _ _ (call (Value.ref 240) [_] _) _ _ _); k_dflt (refine' things_use ?CZ387 ?hoZ387 ?hvZ387 ?BZ387 ?FZ387 ?XZ387 ?NZ387 ?TZ387 ?hkZ387 ?hcZ387 ?hdZ387 ?huZ387 ?_; (case CZ387 => assumption); (case hoZ387 => assumption); (case hvZ387 => assumption); (case BZ387 => k_asm); (case FZ387 => k_asm); (case XZ387 => k_asm); (case NZ387 => k_asm); (case TZ387 => k_asm); (case hkZ387 => first | rfl | assumption); (case hcZ387 => kqd_sub); (case hdZ387 => ktr_room); (case huZ387 => ktr_units); k_whole; intro a' vs' k' Y' h' tk' g' F' N' hr' hrl'; (try simp only [List.cons_append, List.nil_append] at N'); (try k_fold)))
  k_with "exec For Name Subscript" => (k_here; (rename Fr _ _ _ _ => lF'); (with_unfolding_all refine' For_invVF lF' ?k1Z388 ?k2Z388 ?_; (case k1Z388 => exact rfl); (case k2Z388 => exact rfl); k_whole))
  k_with "compareOp Eq ref ref" => (k_here; k_dflt (refine' eq_dat (r := false) ?HZ389 ?d1Z389 ?d2Z389 ?hcZ389 ?hdZ389 ?huZ389 ?_; (case HZ389 => exact heldOf (by k_asm)); (case d1Z389 => tb_rel); (case d2Z389 => tb_rel); (case hcZ389 => exact cmp_head (by assumption) _); (case hdZ389 => exact Nat.le_of_ble_eq_true rfl); (case huZ389 => ktr_units)))
  k_with "compareOp Eq str str" => (k_here; k_dflt (refine' eq_str_no ?hZ390 ?_; (case hZ390 => assumption); k_whole))
  trivial
set_option maxHeartbeats 8000000 in
theorem plain_con (w : World) : ∀ (n : Nat) (t : T), t.dep < n → PlainC w t := by
  intro n
  induction n with
  | zero => exact fun t h => absurd h (Nat.not_lt_zero _)
  | succ n ih =>
  intro t hn v Y hok hv
  refine Con.intro ?_
  intro dp un gd cn cs fa ccd cl outer A₀ base h₀ L m s mean mg mb Q E B F X N Tp hk hd hu fin
  simp only [List.nil_append] at N
  refine wpAny_call ?_
  cases t with
  | sym x =>
    obtain ⟨a, n, t1, t2, rfl, hm⟩ := sym_inv hv
    simp only [T.dep] at hd hu
    w_strict (
      k_dflt ktr_enter
      k_steps)
    exact fin [] _ _ _ _ (by k_asm) (by k_asm) (List.forall_mem_nil _) (by tb_start) (fun Y₁ hs => ⟨rfl, TIn.mono hs (TIn.mono (subT_of (by tb_start)) hv)⟩)
  | int x =>
    obtain ⟨a, n, t1, t2, rfl, hm⟩ := int_inv hv
    simp only [T.dep] at hd hu
    w_strict (
      k_dflt ktr_enter
      k_steps)
    exact fin [] _ _ _ _ (by k_asm) (by k_asm) (List.forall_mem_nil _) (by tb_start) (fun Y₁ hs => ⟨rfl, TIn.mono hs (TIn.mono (subT_of (by tb_start)) hv)⟩)
  | text x =>
    obtain ⟨a, n, t1, t2, rfl, hm⟩ := text_inv hv
    simp only [T.dep] at hd hu
    w_strict (
      k_dflt ktr_enter
      k_steps)
    exact fin [] _ _ _ _ (by k_asm) (by k_asm) (List.forall_mem_nil _) (by tb_start) (fun Y₁ hs => ⟨rfl, TIn.mono hs (TIn.mono (subT_of (by tb_start)) hv)⟩)
  | ex h ps =>
    obtain ⟨a, n, t1, t2, b, vs, k, rfl, hm, hm2, hT⟩ := ex_inv hv
    simp only [T.dep] at hd hu
    by_cases hh : h = kS "dotcall"
    · subst hh
      w_strict (
        k_dflt ktr_enter
        k_steps)
      unfold Hold
      rename Fr _ _ _ _ => F1
      rename News _ _ _ _ => N1
      refine' comp_tup F1 ?hh ?hclos ?hcell ?hkind ?hnames ?hx ?h ?hs
      case hh => rfl
      case hclos => with_unfolding_all rfl
      case hcell => decide
      case hkind => rfl
      case hnames => decide
      case hx => rfl
      case hs => (intro _; with_unfolding_all rfl)
      case h =>
        w_strict (
          k_steps)
        have hz : vs.length ≤ sizeLine := by
          have := hT.length
          rw [dats_len] at this
          have := hok.1
          rw [sizeLine_eq]
          omega
        refine' csrc (vs := vs) (k := k) (fun i ys nw => (∀ p ∈ Y, p ∈ nw) ∧ TAll nw ys (T.dats (plainTs (ps.take i)))) ?F ?N ?hm hz ?j0 ?turn ?fin
        case F => k_asm
        case N => k_asm
        case hm => lsm_bools
        case j0 => exact ⟨by tb_start, .nil⟩
        case turn =>
          rintro i ys nw v I oI C oC D m₂ h tk ⟨g, hT'⟩ hS hv' hoI hoC hx F' N' off ne
          obtain ⟨p, hp, hpv⟩ := TAll.get hT hv'
          have hpm := List.mem_of_getElem? hp
          have IH : PlainC w p := ih p (by have := dep_mem hpm; simp only [T.dep] at hn; omega)
          have hpd := dep_mem hpm
          have hpo := ok_mem hok.2 hpm
          have hpn : TIn nw v p.dat := TIn.mono (subT_of g) hpv
          k_sweep
          w_strict (
            k_steps)
          refine' comp_end ?F ?N ?I ?C ?D ?hY ?g off hoI (nsObj_not hoC) hS ?r
          case g => assumption
          case F => k_asm
          case N => k_asm
          case I => lsm_bools
          case C => lsm_bools
          case D => lsm_bools
          case hY => tb_start
          case r => exact ⟨fun p hp => GrowT.mem' (by assumption) (g p hp), plain_step (by assumption) hT' hp (by assumption)⟩
        case fin =>
          rintro ys nw D h tk ⟨g, hT'⟩ F' N' o1
          rw [take_full hT] at hT'
          have hyl : ys.length ≤ 60 := by
            have := hT'.length
            rw [dats_len, plainTs_len] at this
            have := hok.1
            omega
          k_sweep
          w_strict (
            k_steps)
          refine' fin [] _ _ _ _ (by k_asm) (by k_asm) (List.forall_mem_nil _) ?Y (fun Y₁ hs => ⟨rfl, TIn.mono hs ?r⟩)
          case Y => exact fun p hp => (show ∀ p ∈ nw, p ∈ _ by tb_start) p (g p hp)
          case r =>
            show TIn _ _ (.tuple [sS "expr", sS "call", .tuple (T.dats (plainTs ps))])
            tb_rel
    · have e : plainT (.ex h ps) = .ex h ps := by simp only [plainT, if_neg hh]
      w_strict (
        k_dflt ktr_enter
        k_steps)
      exact fin [] _ _ _ _ (by k_asm) (by k_asm) (List.forall_mem_nil _) (by tb_start) (fun Y₁ hs => ⟨rfl, by rw [e]; exact TIn.mono hs (TIn.mono (subT_of (by tb_start)) hv)⟩)
end
section
-- Things
theorem reset_Things : True := by
  w_top off
  k_with "eval IfExp" => (k_here; refine' Hold.of ?_)
  trivial
set_option maxHeartbeats 8000000 in
theorem things_leafC (w : World) (nn : Nat) (t : T) (v : Value) (Y : List (Addr × Obj)) (ht : LeafOk t) (hv : TIn Y v t.dat) :
    Con w 240 [v] (8 + 6 * nn) (60 + 40 * nn) [] Y (fun M' Y₁ r => LIn M' Y₁ r (thingsT t)) := by
  refine Con.intro ?_
  intro dp un gd cn cs fa ccd cl outer A₀ base h₀ L m s mean mg mb Q E B F X N Tp hk hd hu fin
  simp only [List.nil_append] at N
  refine wpAny_call ?_
  cases leaf_kind ht with
  | sym x hx =>
    obtain ⟨a, n, t1, t2, rfl, hm⟩ := sym_inv hv
    w_strict (
      k_dflt ktr_enter
      k_steps)
    refine' fin [(_, listOf (List.toArray [_]) _)] _ _ _ _ (by k_asm) (by k_asm) ?M ?Y (fun Y₁ hs => ⟨_, _, _, rfl, rfl, .cons (TIn.mono hs (TIn.mono (subT_of ?Y2) hv)) .nil⟩)
    case M => tb_start
    case Y => tb_start
    case Y2 => tb_start
  | int x =>
    obtain ⟨a, n, t1, t2, rfl, hm⟩ := int_inv hv
    w_strict (
      k_dflt ktr_enter
      k_steps)
    refine' fin [(_, listOf (List.toArray []) _)] _ _ _ _ (by k_asm) (by k_asm) ?M ?Y (fun Y₁ hs => ⟨_, _, _, rfl, rfl, .nil⟩)
    case M => tb_start
    case Y => tb_start
  | text x =>
    obtain ⟨a, n, t1, t2, rfl, hm⟩ := text_inv hv
    w_strict (
      k_dflt ktr_enter
      k_steps)
    refine' fin [(_, listOf (List.toArray []) _)] _ _ _ _ (by k_asm) (by k_asm) ?M ?Y (fun Y₁ hs => ⟨_, _, _, rfl, rfl, .nil⟩)
    case M => tb_start
    case Y => tb_start
  | ex h ps h1 h2 h3 hok hdp =>
    obtain ⟨a, n, t1, t2, b, vs, k, rfl, hm, hm2, hT⟩ := ex_inv hv
    w_strict (
      k_dflt ktr_enter
      k_steps)
    simp only [things_leaf h1] at fin
    refine' fin [(_, listOf (List.toArray [_]) _)] _ _ _ _ (by k_asm) (by k_asm) ?M ?Y (fun Y₁ hs => ⟨_, _, _, rfl, rfl, .cons (TIn.mono hs (TIn.mono (subT_of ?Y2) hv)) .nil⟩)
    case M => tb_start
    case Y => tb_start
    case Y2 => tb_start
set_option maxHeartbeats 8000000 in
theorem things_con (w : World) : ∀ nn : Nat, nn ≤ 3 → ThingsC w nn := by
  intro nn
  induction nn with
  | zero => exact fun _ t v Y ho hv => ho.elim (fun h => things_leafC w 0 t v Y h hv) fun h => h.elim
  | succ nn ih =>
  intro hn t v Y ho hv
  rcases ho with ho | ⟨c, ps, rfl, hc, hlen1, hlen3, hps⟩
  · exact things_leafC w (nn + 1) t v Y ho hv
  have IH := ih (by omega)
  refine Con.intro ?_
  intro dp un gd cn cs fa ccd cl outer A₀ base h₀ L m s mean mg mb Q E B F X N Tp hk hd hu fin
  simp only [List.nil_append] at N
  refine wpAny_call ?_
  obtain ⟨a, n, t1, t2, b, vs, k, rfl, hm, hm2, hT⟩ := ex_inv hv
  cases hT with
  | @cons cv vs _ _ hcv hT =>
  have hvl : vs.length ≤ 3 := by
    have := hT.length
    rw [dats_len] at this
    omega
  w_strict (
    k_dflt ktr_enter
    k_steps)
  unfold Hold
  rename Fr _ _ _ _ => F1
  rename News _ _ _ _ => N1
  refine' joinV (Y := Y) F1 (fun v M' Y₄ => ∃ a vs n, v = .ref a ∧ M' = [(a, listOf (List.toArray vs) n)] ∧ TAll Y₄ vs (T.dats (if isSymT c then [] else [c]))) ?h1 ?h2
  case h1 =>
    refine IfExp_ ?_
    rcases hc with ⟨x, hx, rfl⟩ | rfl
    · obtain ⟨a2, n2, t3, t4, rfl, hm3⟩ := sym_inv hcv
      w_strict (k_steps)
      refine' joinV_end [(_, listOf (List.toArray []) _)] rfl ?F ?N ?M ?Y (fun Y₁ hs => ⟨_, _, _, rfl, rfl, .nil⟩)
      case F => k_asm
      case N => k_asm
      case M => tb_start
      case Y => tb_start
    · obtain ⟨a2, n2, t3, t4, b2, vs2, k2, rfl, hm3, hm4, hT2⟩ := ex_inv hcv
      w_strict (k_steps)
      refine' joinV_end [(_, listOf (List.toArray [_]) _)] rfl ?F ?N ?M ?Y (fun Y₁ hs => ⟨_, _, _, rfl, rfl, .cons (TIn.mono hs (TIn.mono (subT_of ?Y2) hcv)) .nil⟩)
      case F => k_asm
      case N => k_asm
      case M => tb_start
      case Y => tb_start
      case Y2 => tb_start
  case h2 =>
    clear F1 N1
    rintro v M' Y₄ h' tk' g4 F' N' ⟨fa9, us, k9, rfl, rfl, hU⟩
    simp only [List.cons_append, List.nil_append] at N'
    have hm4 := g4.1 _ hm
    have hm5 := g4.1 _ hm2
    w_strict (
      k_steps)
    unfold Hold
    have hps4 : ∀ p ∈ ps, (thingsT p).length ≤ 40 := fun p hp => Nat.le_trans (things_len nn p (hps p hp)) (cntB_le (by omega))
    refine' things_loop (Y := Y) (vs := vs) (f0 := if isSymT c then [] else [c]) (ps := ps) ?hA ?F ?N ?hm ?hf ?e1 ?hY hT ?hU ?hl1 hlen3 hps4 ?turn ?fin
    case hA => rfl
    case F => k_asm
    case N => k_asm
    case hm => lsm_bools
    case hf => lsm_bools
    case e1 => rfl
    case hY => exact fun p hp => (show ∀ p ∈ Y₄, p ∈ _ by tb_start) p (g4.1 p hp)
    case hU => exact TAll.mono (subT_of (by tb_start)) hU
    case hl1 => split <;> simp
    case turn =>
      intro I i v it m nw h tk a us n p hp hpv hU hit off hYn hxn han hul F' N'
      have hpo : TreeOk nn p := hps p (List.mem_of_getElem? hp)
      have hpl : (thingsT p).length ≤ 40 := hps4 p (List.mem_of_getElem? hp)
      k_sweep
      w_strict (
        k_steps)
      refine' things_end ?F ?N ?I ?D ?hY ?g off hit ?nD hYn hxn ?e hp hU ?hV
      case g => assumption
      case F => k_asm
      case N => k_asm
      case I => lsm_bools
      case hV => assumption
      case D => lsm_bools
      case hY => tb_start
      case nD => k_ne
      case e => rfl
    case fin =>
      intro m nw h tk a us n hYn han hU F' N'
      k_sweep
      w_strict (k_steps)
      refine' fin [(a, listOf (List.toArray us) n)] _ _ _ _ (by k_asm) (by k_asm) ?M hYn (fun Y₁ hs => ⟨_, _, _, rfl, rfl, TAll.mono hs ?r⟩)
      case M => tb_start
      case r =>
        unfold thingsT
        rw [if_pos rfl]
        exact hU
end
section
-- Check
theorem reset_Check : True := by
  w_top off
  k_with_none
  k_with "kt_len" => first | assumption | exact ltm (by assumption) (by lsm_bools) | exact lt3 (by assumption) (by assumption) (by lsm_bools) | exact ltk (by assumption) | exact lk0 (by assumption) (by rfl) | exact lk1 (by assumption) (by rfl) | exact ltn (by assumption) (by lsm_bools) | exact lka (by rfl) | exact lkb (by rfl) | exact And.left (by assumption) | exact pj1 (by assumption) | exact pj2 (by assumption) | fail "no"
  k_with "ktr_room" => first | exact szg (by rfl) | exact rm2 (by assumption) (by rfl) | exact rs2 (by assumption) (by rfl) | exact rm0 (by assumption) | exact rm1 (by assumption) (by rfl) | exact rs1 (by assumption) (by rfl) | exact rm3 (by assumption) (by rfl) | exact rm4 (by assumption) (by rfl) | exact rm5 (by assumption) (by rfl) | exact rmn (by assumption) (by assumption) (by rfl) | exact rmt (by assumption) (by rfl) | fail "no"
  k_with "ktr_units" => k_extra "ktr_room"
  k_with "omega" => first | with_reducible assumption | (show (_ : Nat) < _; first | assumption | k_extra "ktr_room") | (show (_ : Nat) ≤ _; first | assumption | exact szg (by rfl) | exact sza (by assumption) (by rfl) | exact szb (by assumption) (by assumption) (by rfl) | exact szc (by assumption) (by rfl) | exact szd (by assumption) (by rfl) | exact cza (by assumption) (by rfl) | exact szs (by assumption) | exact Nat.le_of_eq (by assumption)) | (show (_ : Nat) ≠ _; first | assumption | exact Ne.symm (by assumption) | exact ofI (by assumption) (by lsm_bools) | exact ofC (by assumption) (by lsm_bools) | exact ofD (by assumption) (by lsm_bools) | exact fI (by assumption) (by lsm_bools) | exact fC (by assumption) (by lsm_bools) | exact fD (by assumption) (by lsm_bools) | exact Nat.ne_of_lt (by kt_len) | exact Nat.ne_of_gt (by kt_len)) | (show (_ : Nat) < _ ∨ _; first | exact Or.inl (by kt_len) | exact Or.inr (by kt_len)) | fail "no"
  k_with "lsm_bools" => first | exact List.Mem.head _ | assumption | (refine' List.Mem.tail _ ?_; lsm_bools) | (refine' GrowT.mem ?gZ397 ?hZ397; (case gZ397 => assumption); (case hZ397 => lsm_bools)) | fail "no entry"
  k_with "k_mem" => first | lsm_bools | fail "no entry"
  k_with "tb_start" => first
  | exact List.forall_mem_nil _
  | (refine' List.forall_mem_cons.mpr ⟨?aZ399, ?bZ399⟩; (case aZ399 => lsm_bools); (case bZ399 => tb_start))
  | (intro p hp; repeat (first | exact hp | refine List.mem_cons_of_mem _ ?_ | refine List.Mem.tail _ ?_ | refine GrowT.mem' (by assumption) ?_ | refine GrowT.mem (by assumption) ?_ | fail "no entry"))
  | fail "not within"
  k_with "k_all" => first
  | assumption
  | (refine' GrowT.off ?gZ400 ?oZ400 ?NZ400 ?sZ400 ?mZ400 ?cZ400; (case gZ400 => assumption); (case NZ400 => k_asm); (case sZ400 => tb_start); (case mZ400 => lsm_bools); (case cZ400 => rfl); (case oZ400 => k_all))
  | (refine' offLt ?hZ400 ?sZ400; (case hZ400 => assumption); (case sZ400 => tb_start))
  | (refine' offLt3 ?qZ400 ?hZ400 ?sZ400; (case qZ400 => assumption); (case hZ400 => assumption); (case sZ400 => tb_start))
  | fail "not apart"
  k_with "kqd_sub" => first
  | (refine' Cut.own ?mZ401 ?rZ401; (case mZ401 => lsm_bools); (case rZ401 => kqd_sub))
  | (refine' Cut.oth ?oZ401 ?rZ401; (case oZ401 => k_all); (case rZ401 => kqd_sub))
  | exact Cut.tail
  | fail "no cut"
  k_with "ktr_rel" => first
  | exact subT_nil
  | exact subT_of (fun _ hp => hp)
  | assumption
  | (refine' subT_skip ?aZ402 ?bZ402; (case aZ402 => rfl); (case bZ402 => ktr_rel))
  | (refine' subT_cons ?aZ402 ?bZ402; (case aZ402 => lsm_bools); (case bZ402 => ktr_rel))
  | (refine' subT_of ?hZ402; (case hZ402 => tb_start))
  | (refine' subT_app (by ktr_rel) (by ktr_rel))
  | fail "tuples not within"
  k_with "k_room" => ktr_room
  k_with "k_units" => ktr_units
  k_with "tb_rel" => first
  | exact TAll.nil
  | exact TIn.str _ _
  | exact TIn.int _ _
  | exact TIn.bytes _ _
  | assumption
  | (refine' TIn.mono ?sZ405 ?hZ405; (case hZ405 => assumption); (case sZ405 => ktr_rel))
  | (refine' TAll.mono ?sZ405 ?hZ405; (case hZ405 => assumption); (case sZ405 => ktr_rel))
  | (refine' TIn.tuple ?mZ405 ?rZ405; (case mZ405 => lsm_bools); (case rZ405 => tb_rel))
  | (refine' TAll.cons (by tb_rel) (by tb_rel))
  | fail "no tree"
  k_with "call ref" => (k_here; (with_reducible show wpAny _ _ (call (Value.ref 214) [Value.str _ _] _) _ _ _); k_dflt (refine' sym_use ?CZ406 ?hcZ406 ?BZ406 ?FZ406 ?XZ406 ?NZ406 ?TZ406 ?hkZ406 ?hdZ406 ?huZ406 ?_; (case CZ406 => exact sym_con _); (case NZ406 => k_asm); (case hcZ406 => kqd_sub); (case BZ406 => k_asm); (case FZ406 => k_asm); (case XZ406 => k_asm); (case TZ406 => k_asm); (case hkZ406 => first | rfl | assumption); (case hdZ406 => ktr_room); (case huZ406 => ktr_units); k_whole; intro a' Y' h' tk' g' F' N' hr'; (try simp only [List.cons_append, List.nil_append] at N'); (try k_fold)))
  k_with "call ref" => (k_here; (with_reducible show wpAny _ _ (call (Value.ref 207) [Value.str _ _, Value.ref _] _) _ _ _); k_dflt (refine' tree_use ?CZ407 ?hcZ407 ?hmZ407 ?hlZ407 ?hTZ407 ?BZ407 ?FZ407 ?XZ407 ?NZ407 ?TZ407 ?hkZ407 ?hdZ407 ?huZ407 ?_; (case CZ407 => exact tree_con _); (case NZ407 => k_asm); (case hcZ407 => kqd_sub); (case hmZ407 => lsm_bools); (case hlZ407 => exact Nat.le_of_ble_eq_true rfl); (case hTZ407 => tb_rel); (case BZ407 => k_asm); (case FZ407 => k_asm); (case XZ407 => k_asm); (case TZ407 => k_asm); (case hkZ407 => first | rfl | assumption); (case hdZ407 => ktr_room); (case huZ407 => ktr_units); k_whole; intro a' Y' h' tk' g' F' N' hr'; (try simp only [List.cons_append, List.nil_append] at N'); (try k_fold)))
  k_with "call ref" => (k_here; (with_reducible show wpAny _ _ (call (Value.ref 68) [_, Value.str _ _] _) _ _ _); k_dflt (refine' isEx_use ?CZ408 ?hvZ408 ?eZ408 ?BZ408 ?FZ408 ?XZ408 ?NZ408 ?TZ408 ?hkZ408 ?hsZ408 ?hdZ408 ?huZ408 ?_; (case CZ408 => exact isEx_con _); (case hvZ408 => assumption); (case eZ408 => first | assumption | rfl); (case hsZ408 => tb_start); (case BZ408 => k_asm); (case FZ408 => k_asm); (case XZ408 => k_asm); (case NZ408 => k_asm); (case TZ408 => k_asm); (case hkZ408 => first | rfl | assumption); (case hdZ408 => ktr_room); (case huZ408 => ktr_units); k_whole; intro h' tk' F' N'; (try k_fold)))
  k_with "call ref" => (k_here; (with_reducible show wpAny _ _ (call (Value.ref 82) [Value.ref _] _) _ _ _); k_dflt (refine' isSym_use ?hmZ409 ?eZ409 ?BZ409 ?FZ409 ?XZ409 ?NZ409 ?TZ409 ?hkZ409 ?hdZ409 ?huZ409 ?_; (case NZ409 => k_asm); (case hmZ409 => lsm_bools); (case eZ409 => first | rfl | decide); (case BZ409 => k_asm); (case FZ409 => k_asm); (case XZ409 => k_asm); (case TZ409 => k_asm); (case hkZ409 => first | rfl | assumption); (case hdZ409 => ktr_room); (case huZ409 => ktr_units); k_whole; intro h' tk' F' N'; (try k_fold)))
  k_with "call ref" => (k_here; (with_reducible show wpAny _ _ (call (Value.ref 75) [Value.ref _] _) _ _ _); k_dflt (first
  | (refine' parts_use ?hmZ410 ?BZ410 ?FZ410 ?XZ410 ?NZ410 ?TZ410 ?hkZ410 ?hdZ410 ?huZ410 ?_; (case NZ410 => k_asm); (case hmZ410 => lsm_bools); (case BZ410 => k_asm); (case FZ410 => k_asm); (case XZ410 => k_asm); (case TZ410 => k_asm); (case hkZ410 => first | rfl | assumption); (case hdZ410 => ktr_room); (case huZ410 => ktr_units); k_whole; intro h' tk' F' N'; (try k_fold))
  | (refine' parts0_use ?hcZ410 ?hmZ410 ?hzZ410 ?BZ410 ?FZ410 ?XZ410 ?NZ410 ?TZ410 ?hkZ410 ?hdZ410 ?huZ410 ?_; (case NZ410 => k_asm); (case hmZ410 => lsm_bools); (case hzZ410 => decide); (case hcZ410 => kqd_sub); (case BZ410 => k_asm); (case FZ410 => k_asm); (case XZ410 => k_asm); (case TZ410 => k_asm); (case hkZ410 => first | rfl | assumption); (case hdZ410 => ktr_room); (case huZ410 => ktr_units); k_whole; intro d' j' Y' h' tk' g' F' N' hm'; (try simp only [List.cons_append, List.nil_append] at N'); (try k_fold))))
  k_with "compareOp In str ref" => (k_here; k_dflt (refine' in_tupL ?htZ411 ?hiZ411 ?_; (case htZ411 => (refine' tupK ?XZ411 ?lZ411; (case XZ411 => k_in); (case lZ411 => k_is))); (case hiZ411 => exact rfl)))
  k_with "compareOp Eq ref ref" => (k_here; k_dflt (first
  | (refine' eq_dat (r := false) ?HZ412 ?d1Z412 ?d2Z412 ?hcZ412 ?hdZ412 ?huZ412 ?_; (case HZ412 => exact heldOf (by k_asm)); (case d1Z412 => tb_rel); (case d2Z412 => tb_rel); (case hcZ412 => with_unfolding_all rfl); (case hdZ412 => exact Nat.le_of_ble_eq_true rfl); (case huZ412 => ktr_units))
  | (refine' eq_dat (r := true) ?HZ412 ?d1Z412 ?d2Z412 ?hcZ412 ?hdZ412 ?huZ412 ?_; (case HZ412 => exact heldOf (by k_asm)); (case d1Z412 => tb_rel); (case d2Z412 => tb_rel); (case hcZ412 => with_unfolding_all rfl); (case hdZ412 => exact Nat.le_of_ble_eq_true rfl); (case huZ412 => ktr_units))))
  k_with "compareOp NotEq ref ref" => (k_here; k_dflt (first
  | (refine' ne_dat (r := false) ?HZ413 ?d1Z413 ?d2Z413 ?hcZ413 ?hdZ413 ?huZ413 ?_; (case HZ413 => exact heldOf (by k_asm)); (case d1Z413 => tb_rel); (case d2Z413 => tb_rel); (case hcZ413 => with_unfolding_all rfl); (case hdZ413 => exact Nat.le_of_ble_eq_true rfl); (case huZ413 => ktr_units))
  | (refine' ne_dat (r := true) ?HZ413 ?d1Z413 ?d2Z413 ?hcZ413 ?hdZ413 ?huZ413 ?_; (case HZ413 => exact heldOf (by k_asm)); (case d1Z413 => tb_rel); (case d2Z413 => tb_rel); (case hcZ413 => with_unfolding_all rfl); (case hdZ413 => exact Nat.le_of_ble_eq_true rfl); (case huZ413 => ktr_units))))
  k_with "subscriptTail Name Constant ref int" => (k_here; k_dflt (refine' item_tupleT ?tZ414 ?aZ414 ?bZ414 ?cZ414 ?dZ414 ?_; (case tZ414 => exact News.isTup (by k_asm) (by k_mem)); (case aZ414 => decide); (case bZ414 => decide); (case cZ414 => rfl); (case dZ414 => rfl); k_whole))
  k_with "ite" => (k_closed; k_dflt (first | (refine' ite_pos ?cZ415 ?_; (case cZ415 => decide)) | (refine' ite_neg ?cZ415 ?_; (case cZ415 => decide))))
  k_with "call ref" => (k_here; (with_reducible show wpAny _ _ (call (Value.ref 54) [Value.str _ _, Value.ref _] _) _ _ _); k_dflt (refine' expr_use ?hcZ416 ?hmZ416 ?hlZ416 ?BZ416 ?FZ416 ?XZ416 ?NZ416 ?TZ416 ?hkZ416 ?hdZ416 ?huZ416 ?_; (case NZ416 => k_asm); (case hmZ416 => lsm_bools); (case hcZ416 => kqd_sub); (case hlZ416 => first | exact Nat.le_of_ble_eq_true rfl | (simp only [List.length_append, List.length_cons, List.length_nil]; omega)); (case BZ416 => k_asm); (case FZ416 => k_asm); (case XZ416 => k_asm); (case TZ416 => k_asm); (case hkZ416 => first | rfl | assumption); (case hdZ416 => ktr_room); (case huZ416 => ktr_units); k_whole; intro a' t1' k' Y' h' tk' g' F' N' hm'; (try simp only [List.cons_append, List.nil_append] at N'); (try k_fold)))
  k_with "call ref" => (k_here; (with_reducible show wpAny _ _ (call (Value.ref 61) [Value.str _ _] _) _ _ _); k_dflt (refine' sym_use ?CZ417 ?hcZ417 ?BZ417 ?FZ417 ?XZ417 ?NZ417 ?TZ417 ?hkZ417 ?hdZ417 ?huZ417 ?_; (case CZ417 => exact symF_con _); (case NZ417 => k_asm); (case hcZ417 => kqd_sub); (case BZ417 => k_asm); (case FZ417 => k_asm); (case XZ417 => k_asm); (case TZ417 => k_asm); (case hkZ417 => first | rfl | assumption); (case hdZ417 => ktr_room); (case huZ417 => ktr_units); k_whole; intro a' Y' h' tk' g' F' N' hr'; (try simp only [List.cons_append, List.nil_append] at N'); (try k_fold)))
  k_with "call type:range cons nil" => (k_here; k_dflt (refine' range1_rows ?FZ418 ?NZ418 ?_; (case FZ418 => k_asm); (case NZ418 => k_asm); k_whole; intro h' tk' t1' u1' v1' hR' F' N' hst'; (try k_fold)))
  k_with "pyIter ref" => (k_here; (with_reducible show wpAny _ _ (pyIter (Value.ref _)) (fun it s₂ => LoopAtV _ _ _ _ _ _ _ _ _ it s₂) _ _); refine' Hold.of ?_)
  k_with "binaryOp Add ref ref" => (k_here; k_dflt (refine' add_cat ?FZ420 ?NZ420 ?aZ420 ?bZ420 ?zZ420 ?_; (case FZ420 => k_asm); (case NZ420 => k_asm); (case aZ420 => lsm_bools); (case bZ420 => lsm_bools); (case zZ420 => (simp only [sizeLine_eq, List.length_cons, List.length_nil]; omega)); k_whole; intro D' h' F' N' l1; (try k_lt l1); (try k_sweep)))
  k_with "subscriptTail Name Slice ref ref" => (k_here; k_dflt (first
  | (refine' slice_whole ?FZ421 ?NZ421 ?tZ421 ?lZ421 ?zZ421 ?_ ?hsZ421 ?hgZ421; (case FZ421 => k_asm); (case NZ421 => k_asm); (case tZ421 => lsm_bools); (case lZ421 => exact Nat.le_of_ble_eq_true rfl); (case zZ421 => exact Nat.le_of_ble_eq_true rfl); (case hsZ421 => with_unfolding_all rfl); (case hgZ421 => (intro _; with_unfolding_all rfl)); k_whole; intro h' F' N'; (try k_sweep))
  | (refine' slice_upto ?FZ421 ?NZ421 ?tZ421 ?lZ421 ?zZ421 ?_ ?hsZ421 ?hgZ421; (case FZ421 => k_asm); (case NZ421 => k_asm); (case tZ421 => lsm_bools); (case lZ421 => exact Nat.le_of_ble_eq_true rfl); (case zZ421 => exact Nat.le_of_ble_eq_true rfl); (case hsZ421 => with_unfolding_all rfl); (case hgZ421 => (intro _; with_unfolding_all rfl)); k_whole; intro D' h' F' N' l1; (try k_lt l1); (try k_sweep))))
  k_with "subscriptTail Name Slice ref ref" => (k_here; k_dflt
  (refine' slice_from ?FZ422 ?NZ422 ?tZ422 ?oZ422 ?lZ422 ?zZ422 ?_ ?hsZ422 ?hgZ422; (case FZ422 => k_asm); (case NZ422 => k_asm); (case tZ422 => lsm_bools); (case oZ422 => exact Nat.le_of_ble_eq_true rfl); (case lZ422 => (simp only [List.length_cons]; omega)); (case zZ422 => (simp only [sizeLine_eq, List.length_cons]; omega)); (case hsZ422 => with_unfolding_all rfl); (case hgZ422 => (intro _; with_unfolding_all rfl)); k_whole; intro D' h' F' N' l1; (try k_lt l1); (try k_sweep)))
  k_with "subscriptTail Subscript Name Constant Slice ref ref" => (k_here; k_dflt
  (refine' slice_from ?FZ423 ?NZ423 ?tZ423 ?oZ423 ?lZ423 ?zZ423 ?_ ?hsZ423 ?hgZ423; (case FZ423 => k_asm); (case NZ423 => k_asm); (case tZ423 => lsm_bools); (case oZ423 => exact Nat.le_of_ble_eq_true rfl); (case lZ423 => (simp only [List.length_cons]; omega)); (case zZ423 => (simp only [sizeLine_eq, List.length_cons]; omega)); (case hsZ423 => with_unfolding_all rfl); (case hgZ423 => (intro _; with_unfolding_all rfl)); k_whole; intro D' h' F' N' l1; (try k_lt l1); (try k_sweep)))
  k_with "call type:tuple cons nil" => (k_here; k_dflt (refine' tuple_of ?FZ424 ?NZ424 ?tZ424 ?zZ424 ?_; (case FZ424 => k_asm); (case NZ424 => k_asm); (case tZ424 => lsm_bools); (case zZ424 => first | exact Nat.le_of_ble_eq_true rfl | (simp only [sizeLine_eq, List.length_append, List.length_cons, List.length_nil]; omega)); k_whole; intro D' h' F' N' l1; (try k_lt l1); (try k_sweep)))
  k_with "subscriptTail Name Constant ref int" => (k_here; k_dflt (refine' item_tupI ?NZ425 ?mZ425 ?aZ425 ?bZ425 ?cZ425 ?_; (case NZ425 => k_asm); (case mZ425 => lsm_bools); (case aZ425 => decide); (case bZ425 => decide); (case cZ425 => exact rfl); k_whole))
  k_with "subscriptTail Subscript Name Constant Constant ref int" => (k_here; k_dflt (refine' item_tupI ?NZ426 ?mZ426 ?aZ426 ?bZ426 ?cZ426 ?_; (case NZ426 => k_asm); (case mZ426 => lsm_bools); (case aZ426 => decide); (case bZ426 => decide); (case cZ426 => exact rfl); k_whole))
  k_with "subscriptTail Subscript Subscript Constant Constant ref int" => (k_here; k_dflt (refine' item_tupI ?NZ427 ?mZ427 ?aZ427 ?bZ427 ?cZ427 ?_; (case NZ427 => k_asm); (case mZ427 => lsm_bools); (case aZ427 => decide); (case bZ427 => decide); (case cZ427 => exact rfl); k_whole))
  k_with "subscriptTail Call Name cons nil Constant ref int" => (k_here; k_dflt (refine' item_tupI ?NZ428 ?mZ428 ?aZ428 ?bZ428 ?cZ428 ?_; (case NZ428 => k_asm); (case mZ428 => lsm_bools); (case aZ428 => decide); (case bZ428 => decide); (case cZ428 => exact rfl); k_whole))
  k_with "binaryOp Add ref ref" => (k_here; k_dflt (refine' add_tupC ?FZ429 ?NZ429 ?aZ429 ?bZ429 ?l1Z429 ?l2Z429 ?zZ429 ?_; (case FZ429 => k_asm); (case NZ429 => k_asm); (case aZ429 => lsm_bools); (case bZ429 => lsm_bools); (case l1Z429 => (simp only [List.length_cons, List.length_nil]; omega)); (case l2Z429 => omega); (case zZ429 => (simp only [sizeLine_eq, List.length_cons, List.length_nil]; omega)); k_whole; intro D' h' F' N' l1; (try k_lt l1); (try k_sweep)))
  k_with "call type:tuple cons nil" => (k_here; k_dflt (refine' tuple_same ?NZ430 ?tZ430 ?_; (case NZ430 => k_asm); (case tZ430 => lsm_bools); k_whole))
  k_with "call builtin:len cons nil" => (k_here; k_dflt (refine' len_tupK ?NZ431 ?tZ431 ?zZ431 ?_; (case NZ431 => k_asm); (case tZ431 => lsm_bools); (case zZ431 => (simp only [sizeLine_eq, List.length_cons, List.length_nil]; omega)); k_whole; intro tk1' tk2'))
  k_with "eval ListComp" => (k_here; refine' Hold.of ?_)
  k_with "compareOp NotEq ref ref" => (k_here; k_dflt (refine' ne_dat (r := false) ?HZ433 ?d1Z433 ?d2Z433 ?hcZ433 ?hdZ433 ?huZ433 ?_; (case HZ433 => exact heldOf (by k_asm)); (case d1Z433 => tb_rel); (case d2Z433 => tb_rel); (case hcZ433 => exact cmp_head (by assumption) _); (case hdZ433 => exact Nat.le_of_ble_eq_true rfl); (case huZ433 => ktr_units)))
  k_with "call ref" => (k_here; (with_reducible show wpAny _ _ (call (Value.ref 233) [_] _) _ _ _); k_dflt (refine' plain_use ?CZ434 ?hoZ434 ?hvZ434 ?BZ434 ?FZ434 ?XZ434 ?NZ434 ?TZ434 ?hkZ434 ?hcZ434 ?hdZ434 ?huZ434 ?_; (case CZ434 => assumption); (case hoZ434 => assumption); (case hvZ434 => assumption); (case BZ434 => k_asm); (case FZ434 => k_asm); (case XZ434 => k_asm); (case NZ434 => k_asm); (case TZ434 => k_asm); (case hkZ434 => first | rfl | assumption); (case hcZ434 => kqd_sub); (case hdZ434 => ktr_room); (case huZ434 => ktr_units); k_whole; intro r' Y' h' tk' g' F' N' hr'; (try simp only [List.cons_append, List.nil_append] at N'); (try k_fold)))
  k_with "call ref" => (k_here; (with_reducible show wpAny _ _ (call (Value.ref 240) [_] _) _ _ _); k_dflt (refine' things_use ?CZ435 ?hoZ435 ?hvZ435 ?BZ435 ?FZ435 ?XZ435 ?NZ435 ?TZ435 ?hkZ435 ?hcZ435 ?hdZ435 ?huZ435 ?_; (case CZ435 => assumption); (case hoZ435 => assumption); (case hvZ435 => assumption); (case BZ435 => k_asm); (case FZ435 => k_asm); (case XZ435 => k_asm); (case NZ435 => k_asm); (case TZ435 => k_asm); (case hkZ435 => first | rfl | assumption); (case hcZ435 => kqd_sub); (case hdZ435 => ktr_room); (case huZ435 => ktr_units); k_whole; intro a' vs' k' Y' h' tk' g' F' N' hr' hrl'; (try simp only [List.cons_append, List.nil_append] at N'); (try k_fold)))
  k_with "exec For Name Subscript" => (k_here; (rename Fr _ _ _ _ => lF'); (with_unfolding_all refine' For_invVF lF' ?k1Z436 ?k2Z436 ?_; (case k1Z436 => exact rfl); (case k2Z436 => exact rfl); k_whole))
  k_with "compareOp Eq ref ref" => (k_here; k_dflt (refine' eq_dat (r := false) ?HZ437 ?d1Z437 ?d2Z437 ?hcZ437 ?hdZ437 ?huZ437 ?_; (case HZ437 => exact heldOf (by k_asm)); (case d1Z437 => tb_rel); (case d2Z437 => tb_rel); (case hcZ437 => exact cmp_head (by assumption) _); (case hdZ437 => exact Nat.le_of_ble_eq_true rfl); (case huZ437 => ktr_units)))
  k_with "compareOp Eq str str" => (k_here; k_dflt (refine' eq_str_no ?hZ438 ?_; (case hZ438 => assumption); k_whole))
  k_with "compareOp Eq ref ref" => (k_here; k_dflt (refine' eq_tree_ne (x := T.ex _ _) (y := T.sym _) ?NZ439 ?d1Z439 ?d2Z439 ?hdZ439 ?huZ439 ?neZ439 ?_; (case NZ439 => k_asm); (case d1Z439 => (refine' TIn.mono ?sZ439 ?hZ439; (case hZ439 => assumption); (case sZ439 => exact subT_of (by tb_start)))); (case d2Z439 => (show TIn _ _ (symD _); tb_rel)); (case hdZ439 => assumption); (case huZ439 => ktr_units); (case neZ439 => exact fun e => T.noConfusion e); k_whole))
  trivial
/-- check_leaf lets a tree by -/
noncomputable def CheckC (w : World) : Prop := ∀ (t : T) (v : Value) (Y : List (Addr × Obj)), LeafK t → (∀ i, t ≠ .int i) → (∀ b, t ≠ .text b) → TIn Y v t.dat → Con w 134 [v] 8 60 [] Y (fun M' _ r => M' = [] ∧ r = .none)
set_option maxHeartbeats 8000000 in
theorem check_con (w : World) : CheckC w := by
  intro t v Y hK hi hb hv
  refine Con.intro ?_
  intro dp un gd cn cs fa ccd cl outer A₀ base h₀ L m s mean mg mb Q E B F X N Tp hk hd hu fin
  simp only [List.nil_append] at N
  refine wpAny_call ?_
  cases hK with
  | sym x hx =>
    have he : isEx (T.sym x) (kS "...") = false := rfl
    obtain ⟨a, n, t5, t6, rfl, hm⟩ := sym_inv hv
    w_strict (
      k_dflt ktr_enter
      k_steps)
    exact fin [] _ _ _ _ (by k_asm) (by k_asm) (List.forall_mem_nil _) (by tb_start) (fun Y₁ hs => ⟨rfl, rfl⟩)
  | int x => exact absurd rfl (hi x)
  | text x => exact absurd rfl (hb x)
  | ex hx ps h1 h2 h3 hok hdp =>
    have he : isEx (T.ex hx ps) (kS "...") = false := beq_eq_false_iff_ne.mpr h2
    obtain ⟨a, n, t5, t6, b, vs, k, rfl, hm, hm2, hT⟩ := ex_inv hv
    w_strict (
      k_dflt ktr_enter
      k_steps)
    exact fin [] _ _ _ _ (by k_asm) (by k_asm) (List.forall_mem_nil _) (by tb_start) (fun Y₁ hs => ⟨rfl, rfl⟩)
section
variable {w : World} {Y news : List (Addr × Obj)}
  {dp un : Nat} {gd : Option (List Code)} {cn : Str} {cs : Scope} {fa : Addr} {ccd : Value} {cl : List (Str × Addr)} {outer : List Env} {A₀ : Around} {base h₀ : Heap} {L0 : Addr} {m : Str → Option Value} {s : Shared}
  {mean : ExcName → Option Value} {mg mb : Str → Option Value} {Q E : Value → Shared → Prop}
theorem check_use {t : T} {v : Value} (hK : LeafK t) (hi : ∀ i, t ≠ .int i) (hb : ∀ b, t ≠ .text b) (hv : TIn Y v t.dat) (hs : ∀ p ∈ Y, p ∈ news) (B : Below A₀ base outer h₀) (F : Fr h₀ L0 s.heap m) (X : (hd.heap_39 w.params).In h₀) (N : News h₀ L0 s.heap news)
    (Tp : Top hd.view_39 (looseW hd.view_39 [Str.ofString "RowsError"]) mean mg mb h₀) (hk : cs.kind = .function) (hd : dp + 8 < recursionLimit) (hu : un + 60 < cLine)
    (ret : ∀ h' tk', Fr h₀ L0 h' m → News h₀ L0 h' news → Q .none { s with heap := h', toks := tk' }) :
    wpAny (model PySem.Challenge.rw_pq0689_01.row.prog w) (ktrTop dp un gd cn cs L0 fa ccd cl outer) (call (.ref 134) [v]) Q E s := by
  refine Con.use (Y := news) (ex := []) (fun _ => check_con w t v ([] ++ news) hK hi hb (TIn.mono (subT_of hs) hv)) ?_ .tail (fun _ h => nomatch h) (fun _ h => nomatch h) B F X N Tp hk hd hu ?_
  · rintro M' X Z r hs ⟨h1, h2⟩
    exact ⟨h1, h2⟩
  · rintro r M' Y₂ h' tk' g F' N' ⟨rfl, rfl⟩
    exact ret h' tk' F' fun p hp => N' p (g.1 p hp)
end
end
section
-- Leaf
theorem reset_Leaf : True := by
  w_top off
  k_with_none
  k_with "kt_len" => first | assumption | exact ltm (by assumption) (by lsm_bools) | exact lt3 (by assumption) (by assumption) (by lsm_bools) | exact ltk (by assumption) | exact lk0 (by assumption) (by rfl) | exact lk1 (by assumption) (by rfl) | exact ltn (by assumption) (by lsm_bools) | exact lka (by rfl) | exact lkb (by rfl) | exact And.left (by assumption) | exact pj1 (by assumption) | exact pj2 (by assumption) | fail "no"
  k_with "ktr_room" => first | exact szg (by rfl) | exact rm2 (by assumption) (by rfl) | exact rs2 (by assumption) (by rfl) | exact rm0 (by assumption) | exact rm1 (by assumption) (by rfl) | exact rs1 (by assumption) (by rfl) | exact rm3 (by assumption) (by rfl) | exact rm4 (by assumption) (by rfl) | exact rm5 (by assumption) (by rfl) | exact rmn (by assumption) (by assumption) (by rfl) | exact rmt (by assumption) (by rfl) | fail "no"
  k_with "ktr_units" => k_extra "ktr_room"
  k_with "omega" => first | with_reducible assumption | (show (_ : Nat) < _; first | assumption | k_extra "ktr_room") | (show (_ : Nat) ≤ _; first | assumption | exact szg (by rfl) | exact sza (by assumption) (by rfl) | exact szb (by assumption) (by assumption) (by rfl) | exact szc (by assumption) (by rfl) | exact szd (by assumption) (by rfl) | exact cza (by assumption) (by rfl) | exact szs (by assumption) | exact Nat.le_of_eq (by assumption)) | (show (_ : Nat) ≠ _; first | assumption | exact Ne.symm (by assumption) | exact ofI (by assumption) (by lsm_bools) | exact ofC (by assumption) (by lsm_bools) | exact ofD (by assumption) (by lsm_bools) | exact fI (by assumption) (by lsm_bools) | exact fC (by assumption) (by lsm_bools) | exact fD (by assumption) (by lsm_bools) | exact Nat.ne_of_lt (by kt_len) | exact Nat.ne_of_gt (by kt_len)) | (show (_ : Nat) < _ ∨ _; first | exact Or.inl (by kt_len) | exact Or.inr (by kt_len)) | fail "no"
  k_with "lsm_bools" => first | exact List.Mem.head _ | assumption | (refine' List.Mem.tail _ ?_; lsm_bools) | (refine' GrowT.mem ?gZ444 ?hZ444; (case gZ444 => assumption); (case hZ444 => lsm_bools)) | fail "no entry"
  k_with "k_mem" => first | lsm_bools | fail "no entry"
  k_with "tb_start" => first
  | exact List.forall_mem_nil _
  | (refine' List.forall_mem_cons.mpr ⟨?aZ446, ?bZ446⟩; (case aZ446 => lsm_bools); (case bZ446 => tb_start))
  | (intro p hp; repeat (first | exact hp | refine List.mem_cons_of_mem _ ?_ | refine List.Mem.tail _ ?_ | refine GrowT.mem' (by assumption) ?_ | refine GrowT.mem (by assumption) ?_ | fail "no entry"))
  | fail "not within"
  k_with "k_all" => first
  | assumption
  | (refine' GrowT.off ?gZ447 ?oZ447 ?NZ447 ?sZ447 ?mZ447 ?cZ447; (case gZ447 => assumption); (case NZ447 => k_asm); (case sZ447 => tb_start); (case mZ447 => lsm_bools); (case cZ447 => rfl); (case oZ447 => k_all))
  | (refine' offLt ?hZ447 ?sZ447; (case hZ447 => assumption); (case sZ447 => tb_start))
  | (refine' offLt3 ?qZ447 ?hZ447 ?sZ447; (case qZ447 => assumption); (case hZ447 => assumption); (case sZ447 => tb_start))
  | fail "not apart"
  k_with "kqd_sub" => first
  | (refine' Cut.own ?mZ448 ?rZ448; (case mZ448 => lsm_bools); (case rZ448 => kqd_sub))
  | (refine' Cut.oth ?oZ448 ?rZ448; (case oZ448 => k_all); (case rZ448 => kqd_sub))
  | exact Cut.tail
  | fail "no cut"
  k_with "ktr_rel" => first
  | exact subT_nil
  | exact subT_of (fun _ hp => hp)
  | assumption
  | (refine' subT_skip ?aZ449 ?bZ449; (case aZ449 => rfl); (case bZ449 => ktr_rel))
  | (refine' subT_cons ?aZ449 ?bZ449; (case aZ449 => lsm_bools); (case bZ449 => ktr_rel))
  | (refine' subT_of ?hZ449; (case hZ449 => tb_start))
  | (refine' subT_app (by ktr_rel) (by ktr_rel))
  | fail "tuples not within"
  k_with "k_room" => ktr_room
  k_with "k_units" => ktr_units
  k_with "tb_rel" => first
  | exact TAll.nil
  | exact TIn.str _ _
  | exact TIn.int _ _
  | exact TIn.bytes _ _
  | assumption
  | (refine' TIn.mono ?sZ452 ?hZ452; (case hZ452 => assumption); (case sZ452 => ktr_rel))
  | (refine' TAll.mono ?sZ452 ?hZ452; (case hZ452 => assumption); (case sZ452 => ktr_rel))
  | (refine' TIn.tuple ?mZ452 ?rZ452; (case mZ452 => lsm_bools); (case rZ452 => tb_rel))
  | (refine' TAll.cons (by tb_rel) (by tb_rel))
  | fail "no tree"
  k_with "call ref" => (k_here; (with_reducible show wpAny _ _ (call (Value.ref 214) [Value.str _ _] _) _ _ _); k_dflt (refine' sym_use ?CZ453 ?hcZ453 ?BZ453 ?FZ453 ?XZ453 ?NZ453 ?TZ453 ?hkZ453 ?hdZ453 ?huZ453 ?_; (case CZ453 => exact sym_con _); (case NZ453 => k_asm); (case hcZ453 => kqd_sub); (case BZ453 => k_asm); (case FZ453 => k_asm); (case XZ453 => k_asm); (case TZ453 => k_asm); (case hkZ453 => first | rfl | assumption); (case hdZ453 => ktr_room); (case huZ453 => ktr_units); k_whole; intro a' Y' h' tk' g' F' N' hr'; (try simp only [List.cons_append, List.nil_append] at N'); (try k_fold)))
  k_with "call ref" => (k_here; (with_reducible show wpAny _ _ (call (Value.ref 207) [Value.str _ _, Value.ref _] _) _ _ _); k_dflt (refine' tree_use ?CZ454 ?hcZ454 ?hmZ454 ?hlZ454 ?hTZ454 ?BZ454 ?FZ454 ?XZ454 ?NZ454 ?TZ454 ?hkZ454 ?hdZ454 ?huZ454 ?_; (case CZ454 => exact tree_con _); (case NZ454 => k_asm); (case hcZ454 => kqd_sub); (case hmZ454 => lsm_bools); (case hlZ454 => exact Nat.le_of_ble_eq_true rfl); (case hTZ454 => tb_rel); (case BZ454 => k_asm); (case FZ454 => k_asm); (case XZ454 => k_asm); (case TZ454 => k_asm); (case hkZ454 => first | rfl | assumption); (case hdZ454 => ktr_room); (case huZ454 => ktr_units); k_whole; intro a' Y' h' tk' g' F' N' hr'; (try simp only [List.cons_append, List.nil_append] at N'); (try k_fold)))
  k_with "call ref" => (k_here; (with_reducible show wpAny _ _ (call (Value.ref 68) [_, Value.str _ _] _) _ _ _); k_dflt (refine' isEx_use ?CZ455 ?hvZ455 ?eZ455 ?BZ455 ?FZ455 ?XZ455 ?NZ455 ?TZ455 ?hkZ455 ?hsZ455 ?hdZ455 ?huZ455 ?_; (case CZ455 => exact isEx_con _); (case hvZ455 => assumption); (case eZ455 => first | assumption | rfl); (case hsZ455 => tb_start); (case BZ455 => k_asm); (case FZ455 => k_asm); (case XZ455 => k_asm); (case NZ455 => k_asm); (case TZ455 => k_asm); (case hkZ455 => first | rfl | assumption); (case hdZ455 => ktr_room); (case huZ455 => ktr_units); k_whole; intro h' tk' F' N'; (try k_fold)))
  k_with "call ref" => (k_here; (with_reducible show wpAny _ _ (call (Value.ref 82) [Value.ref _] _) _ _ _); k_dflt (refine' isSym_use ?hmZ456 ?eZ456 ?BZ456 ?FZ456 ?XZ456 ?NZ456 ?TZ456 ?hkZ456 ?hdZ456 ?huZ456 ?_; (case NZ456 => k_asm); (case hmZ456 => lsm_bools); (case eZ456 => first | rfl | decide); (case BZ456 => k_asm); (case FZ456 => k_asm); (case XZ456 => k_asm); (case TZ456 => k_asm); (case hkZ456 => first | rfl | assumption); (case hdZ456 => ktr_room); (case huZ456 => ktr_units); k_whole; intro h' tk' F' N'; (try k_fold)))
  k_with "call ref" => (k_here; (with_reducible show wpAny _ _ (call (Value.ref 75) [Value.ref _] _) _ _ _); k_dflt (first
  | (refine' parts_use ?hmZ457 ?BZ457 ?FZ457 ?XZ457 ?NZ457 ?TZ457 ?hkZ457 ?hdZ457 ?huZ457 ?_; (case NZ457 => k_asm); (case hmZ457 => lsm_bools); (case BZ457 => k_asm); (case FZ457 => k_asm); (case XZ457 => k_asm); (case TZ457 => k_asm); (case hkZ457 => first | rfl | assumption); (case hdZ457 => ktr_room); (case huZ457 => ktr_units); k_whole; intro h' tk' F' N'; (try k_fold))
  | (refine' parts0_use ?hcZ457 ?hmZ457 ?hzZ457 ?BZ457 ?FZ457 ?XZ457 ?NZ457 ?TZ457 ?hkZ457 ?hdZ457 ?huZ457 ?_; (case NZ457 => k_asm); (case hmZ457 => lsm_bools); (case hzZ457 => decide); (case hcZ457 => kqd_sub); (case BZ457 => k_asm); (case FZ457 => k_asm); (case XZ457 => k_asm); (case TZ457 => k_asm); (case hkZ457 => first | rfl | assumption); (case hdZ457 => ktr_room); (case huZ457 => ktr_units); k_whole; intro d' j' Y' h' tk' g' F' N' hm'; (try simp only [List.cons_append, List.nil_append] at N'); (try k_fold))))
  k_with "compareOp In str ref" => (k_here; k_dflt (refine' in_tupL ?htZ458 ?hiZ458 ?_; (case htZ458 => (refine' tupK ?XZ458 ?lZ458; (case XZ458 => k_in); (case lZ458 => k_is))); (case hiZ458 => exact rfl)))
  k_with "compareOp Eq ref ref" => (k_here; k_dflt (first
  | (refine' eq_dat (r := false) ?HZ459 ?d1Z459 ?d2Z459 ?hcZ459 ?hdZ459 ?huZ459 ?_; (case HZ459 => exact heldOf (by k_asm)); (case d1Z459 => tb_rel); (case d2Z459 => tb_rel); (case hcZ459 => with_unfolding_all rfl); (case hdZ459 => exact Nat.le_of_ble_eq_true rfl); (case huZ459 => ktr_units))
  | (refine' eq_dat (r := true) ?HZ459 ?d1Z459 ?d2Z459 ?hcZ459 ?hdZ459 ?huZ459 ?_; (case HZ459 => exact heldOf (by k_asm)); (case d1Z459 => tb_rel); (case d2Z459 => tb_rel); (case hcZ459 => with_unfolding_all rfl); (case hdZ459 => exact Nat.le_of_ble_eq_true rfl); (case huZ459 => ktr_units))))
  k_with "compareOp NotEq ref ref" => (k_here; k_dflt (first
  | (refine' ne_dat (r := false) ?HZ460 ?d1Z460 ?d2Z460 ?hcZ460 ?hdZ460 ?huZ460 ?_; (case HZ460 => exact heldOf (by k_asm)); (case d1Z460 => tb_rel); (case d2Z460 => tb_rel); (case hcZ460 => with_unfolding_all rfl); (case hdZ460 => exact Nat.le_of_ble_eq_true rfl); (case huZ460 => ktr_units))
  | (refine' ne_dat (r := true) ?HZ460 ?d1Z460 ?d2Z460 ?hcZ460 ?hdZ460 ?huZ460 ?_; (case HZ460 => exact heldOf (by k_asm)); (case d1Z460 => tb_rel); (case d2Z460 => tb_rel); (case hcZ460 => with_unfolding_all rfl); (case hdZ460 => exact Nat.le_of_ble_eq_true rfl); (case huZ460 => ktr_units))))
  k_with "subscriptTail Name Constant ref int" => (k_here; k_dflt (refine' item_tupleT ?tZ461 ?aZ461 ?bZ461 ?cZ461 ?dZ461 ?_; (case tZ461 => exact News.isTup (by k_asm) (by k_mem)); (case aZ461 => decide); (case bZ461 => decide); (case cZ461 => rfl); (case dZ461 => rfl); k_whole))
  k_with "ite" => (k_closed; k_dflt (first | (refine' ite_pos ?cZ462 ?_; (case cZ462 => decide)) | (refine' ite_neg ?cZ462 ?_; (case cZ462 => decide))))
  k_with "call ref" => (k_here; (with_reducible show wpAny _ _ (call (Value.ref 54) [Value.str _ _, Value.ref _] _) _ _ _); k_dflt (refine' expr_use ?hcZ463 ?hmZ463 ?hlZ463 ?BZ463 ?FZ463 ?XZ463 ?NZ463 ?TZ463 ?hkZ463 ?hdZ463 ?huZ463 ?_; (case NZ463 => k_asm); (case hmZ463 => lsm_bools); (case hcZ463 => kqd_sub); (case hlZ463 => first | exact Nat.le_of_ble_eq_true rfl | (simp only [List.length_append, List.length_cons, List.length_nil]; omega)); (case BZ463 => k_asm); (case FZ463 => k_asm); (case XZ463 => k_asm); (case TZ463 => k_asm); (case hkZ463 => first | rfl | assumption); (case hdZ463 => ktr_room); (case huZ463 => ktr_units); k_whole; intro a' t1' k' Y' h' tk' g' F' N' hm'; (try simp only [List.cons_append, List.nil_append] at N'); (try k_fold)))
  k_with "call ref" => (k_here; (with_reducible show wpAny _ _ (call (Value.ref 61) [Value.str _ _] _) _ _ _); k_dflt (refine' sym_use ?CZ464 ?hcZ464 ?BZ464 ?FZ464 ?XZ464 ?NZ464 ?TZ464 ?hkZ464 ?hdZ464 ?huZ464 ?_; (case CZ464 => exact symF_con _); (case NZ464 => k_asm); (case hcZ464 => kqd_sub); (case BZ464 => k_asm); (case FZ464 => k_asm); (case XZ464 => k_asm); (case TZ464 => k_asm); (case hkZ464 => first | rfl | assumption); (case hdZ464 => ktr_room); (case huZ464 => ktr_units); k_whole; intro a' Y' h' tk' g' F' N' hr'; (try simp only [List.cons_append, List.nil_append] at N'); (try k_fold)))
  k_with "call type:range cons nil" => (k_here; k_dflt (refine' range1_rows ?FZ465 ?NZ465 ?_; (case FZ465 => k_asm); (case NZ465 => k_asm); k_whole; intro h' tk' t1' u1' v1' hR' F' N' hst'; (try k_fold)))
  k_with "pyIter ref" => (k_here; (with_reducible show wpAny _ _ (pyIter (Value.ref _)) (fun it s₂ => LoopAtV _ _ _ _ _ _ _ _ _ it s₂) _ _); refine' Hold.of ?_)
  k_with "binaryOp Add ref ref" => (k_here; k_dflt (refine' add_cat ?FZ467 ?NZ467 ?aZ467 ?bZ467 ?zZ467 ?_; (case FZ467 => k_asm); (case NZ467 => k_asm); (case aZ467 => lsm_bools); (case bZ467 => lsm_bools); (case zZ467 => (simp only [sizeLine_eq, List.length_cons, List.length_nil]; omega)); k_whole; intro D' h' F' N' l1; (try k_lt l1); (try k_sweep)))
  k_with "subscriptTail Name Slice ref ref" => (k_here; k_dflt (first
  | (refine' slice_whole ?FZ468 ?NZ468 ?tZ468 ?lZ468 ?zZ468 ?_ ?hsZ468 ?hgZ468; (case FZ468 => k_asm); (case NZ468 => k_asm); (case tZ468 => lsm_bools); (case lZ468 => exact Nat.le_of_ble_eq_true rfl); (case zZ468 => exact Nat.le_of_ble_eq_true rfl); (case hsZ468 => with_unfolding_all rfl); (case hgZ468 => (intro _; with_unfolding_all rfl)); k_whole; intro h' F' N'; (try k_sweep))
  | (refine' slice_upto ?FZ468 ?NZ468 ?tZ468 ?lZ468 ?zZ468 ?_ ?hsZ468 ?hgZ468; (case FZ468 => k_asm); (case NZ468 => k_asm); (case tZ468 => lsm_bools); (case lZ468 => exact Nat.le_of_ble_eq_true rfl); (case zZ468 => exact Nat.le_of_ble_eq_true rfl); (case hsZ468 => with_unfolding_all rfl); (case hgZ468 => (intro _; with_unfolding_all rfl)); k_whole; intro D' h' F' N' l1; (try k_lt l1); (try k_sweep))))
  k_with "subscriptTail Name Slice ref ref" => (k_here; k_dflt
  (refine' slice_from ?FZ469 ?NZ469 ?tZ469 ?oZ469 ?lZ469 ?zZ469 ?_ ?hsZ469 ?hgZ469; (case FZ469 => k_asm); (case NZ469 => k_asm); (case tZ469 => lsm_bools); (case oZ469 => exact Nat.le_of_ble_eq_true rfl); (case lZ469 => (simp only [List.length_cons]; omega)); (case zZ469 => (simp only [sizeLine_eq, List.length_cons]; omega)); (case hsZ469 => with_unfolding_all rfl); (case hgZ469 => (intro _; with_unfolding_all rfl)); k_whole; intro D' h' F' N' l1; (try k_lt l1); (try k_sweep)))
  k_with "subscriptTail Subscript Name Constant Slice ref ref" => (k_here; k_dflt
  (refine' slice_from ?FZ470 ?NZ470 ?tZ470 ?oZ470 ?lZ470 ?zZ470 ?_ ?hsZ470 ?hgZ470; (case FZ470 => k_asm); (case NZ470 => k_asm); (case tZ470 => lsm_bools); (case oZ470 => exact Nat.le_of_ble_eq_true rfl); (case lZ470 => (simp only [List.length_cons]; omega)); (case zZ470 => (simp only [sizeLine_eq, List.length_cons]; omega)); (case hsZ470 => with_unfolding_all rfl); (case hgZ470 => (intro _; with_unfolding_all rfl)); k_whole; intro D' h' F' N' l1; (try k_lt l1); (try k_sweep)))
  k_with "call type:tuple cons nil" => (k_here; k_dflt (refine' tuple_of ?FZ471 ?NZ471 ?tZ471 ?zZ471 ?_; (case FZ471 => k_asm); (case NZ471 => k_asm); (case tZ471 => lsm_bools); (case zZ471 => first | exact Nat.le_of_ble_eq_true rfl | (simp only [sizeLine_eq, List.length_append, List.length_cons, List.length_nil]; omega)); k_whole; intro D' h' F' N' l1; (try k_lt l1); (try k_sweep)))
  k_with "subscriptTail Name Constant ref int" => (k_here; k_dflt (refine' item_tupI ?NZ472 ?mZ472 ?aZ472 ?bZ472 ?cZ472 ?_; (case NZ472 => k_asm); (case mZ472 => lsm_bools); (case aZ472 => decide); (case bZ472 => decide); (case cZ472 => exact rfl); k_whole))
  k_with "subscriptTail Subscript Name Constant Constant ref int" => (k_here; k_dflt (refine' item_tupI ?NZ473 ?mZ473 ?aZ473 ?bZ473 ?cZ473 ?_; (case NZ473 => k_asm); (case mZ473 => lsm_bools); (case aZ473 => decide); (case bZ473 => decide); (case cZ473 => exact rfl); k_whole))
  k_with "subscriptTail Subscript Subscript Constant Constant ref int" => (k_here; k_dflt (refine' item_tupI ?NZ474 ?mZ474 ?aZ474 ?bZ474 ?cZ474 ?_; (case NZ474 => k_asm); (case mZ474 => lsm_bools); (case aZ474 => decide); (case bZ474 => decide); (case cZ474 => exact rfl); k_whole))
  k_with "subscriptTail Call Name cons nil Constant ref int" => (k_here; k_dflt (refine' item_tupI ?NZ475 ?mZ475 ?aZ475 ?bZ475 ?cZ475 ?_; (case NZ475 => k_asm); (case mZ475 => lsm_bools); (case aZ475 => decide); (case bZ475 => decide); (case cZ475 => exact rfl); k_whole))
  k_with "binaryOp Add ref ref" => (k_here; k_dflt (refine' add_tupC ?FZ476 ?NZ476 ?aZ476 ?bZ476 ?l1Z476 ?l2Z476 ?zZ476 ?_; (case FZ476 => k_asm); (case NZ476 => k_asm); (case aZ476 => lsm_bools); (case bZ476 => lsm_bools); (case l1Z476 => (simp only [List.length_cons, List.length_nil]; omega)); (case l2Z476 => omega); (case zZ476 => (simp only [sizeLine_eq, List.length_cons, List.length_nil]; omega)); k_whole; intro D' h' F' N' l1; (try k_lt l1); (try k_sweep)))
  k_with "call type:tuple cons nil" => (k_here; k_dflt (refine' tuple_same ?NZ477 ?tZ477 ?_; (case NZ477 => k_asm); (case tZ477 => lsm_bools); k_whole))
  k_with "call builtin:len cons nil" => (k_here; k_dflt (refine' len_tupK ?NZ478 ?tZ478 ?zZ478 ?_; (case NZ478 => k_asm); (case tZ478 => lsm_bools); (case zZ478 => (simp only [sizeLine_eq, List.length_cons, List.length_nil]; omega)); k_whole; intro tk1' tk2'))
  k_with "eval ListComp" => (k_here; refine' Hold.of ?_)
  k_with "compareOp NotEq ref ref" => (k_here; k_dflt (refine' ne_dat (r := false) ?HZ480 ?d1Z480 ?d2Z480 ?hcZ480 ?hdZ480 ?huZ480 ?_; (case HZ480 => exact heldOf (by k_asm)); (case d1Z480 => tb_rel); (case d2Z480 => tb_rel); (case hcZ480 => exact cmp_head (by assumption) _); (case hdZ480 => exact Nat.le_of_ble_eq_true rfl); (case huZ480 => ktr_units)))
  k_with "call ref" => (k_here; (with_reducible show wpAny _ _ (call (Value.ref 233) [_] _) _ _ _); k_dflt (refine' plain_use ?CZ481 ?hoZ481 ?hvZ481 ?BZ481 ?FZ481 ?XZ481 ?NZ481 ?TZ481 ?hkZ481 ?hcZ481 ?hdZ481 ?huZ481 ?_; (case CZ481 => assumption); (case hoZ481 => assumption); (case hvZ481 => assumption); (case BZ481 => k_asm); (case FZ481 => k_asm); (case XZ481 => k_asm); (case NZ481 => k_asm); (case TZ481 => k_asm); (case hkZ481 => first | rfl | assumption); (case hcZ481 => kqd_sub); (case hdZ481 => ktr_room); (case huZ481 => ktr_units); k_whole; intro r' Y' h' tk' g' F' N' hr'; (try simp only [List.cons_append, List.nil_append] at N'); (try k_fold)))
  k_with "call ref" => (k_here; (with_reducible show wpAny _ _ (call (Value.ref 240) [_] _) _ _ _); k_dflt (refine' things_use ?CZ482 ?hoZ482 ?hvZ482 ?BZ482 ?FZ482 ?XZ482 ?NZ482 ?TZ482 ?hkZ482 ?hcZ482 ?hdZ482 ?huZ482 ?_; (case CZ482 => assumption); (case hoZ482 => assumption); (case hvZ482 => assumption); (case BZ482 => k_asm); (case FZ482 => k_asm); (case XZ482 => k_asm); (case NZ482 => k_asm); (case TZ482 => k_asm); (case hkZ482 => first | rfl | assumption); (case hcZ482 => kqd_sub); (case hdZ482 => ktr_room); (case huZ482 => ktr_units); k_whole; intro a' vs' k' Y' h' tk' g' F' N' hr' hrl'; (try simp only [List.cons_append, List.nil_append] at N'); (try k_fold)))
  k_with "exec For Name Subscript" => (k_here; (rename Fr _ _ _ _ => lF'); (with_unfolding_all refine' For_invVF lF' ?k1Z483 ?k2Z483 ?_; (case k1Z483 => exact rfl); (case k2Z483 => exact rfl); k_whole))
  k_with "compareOp Eq ref ref" => (k_here; k_dflt (refine' eq_dat (r := false) ?HZ484 ?d1Z484 ?d2Z484 ?hcZ484 ?hdZ484 ?huZ484 ?_; (case HZ484 => exact heldOf (by k_asm)); (case d1Z484 => tb_rel); (case d2Z484 => tb_rel); (case hcZ484 => exact cmp_head (by assumption) _); (case hdZ484 => exact Nat.le_of_ble_eq_true rfl); (case huZ484 => ktr_units)))
  k_with "compareOp Eq str str" => (k_here; k_dflt (refine' eq_str_no ?hZ485 ?_; (case hZ485 => assumption); k_whole))
  k_with "call ref" => (k_here; (with_reducible show wpAny _ _ (call (Value.ref 134) [_] _) _ _ _); k_dflt (refine' check_use ?hKcZ486 ?hicZ486 ?hbcZ486 ?hvcZ486 ?hscZ486 ?BZ486 ?FZ486 ?XZ486 ?NZ486 ?TZ486 ?hkZ486 ?hdZ486 ?huZ486 ?_; (case NZ486 => k_asm); (case hvcZ486 => assumption); (case hKcZ486 => assumption); (case hicZ486 => exact fun _ e => T.noConfusion e); (case hbcZ486 => exact fun _ e => T.noConfusion e); (case hscZ486 => tb_start); (case BZ486 => k_asm); (case FZ486 => k_asm); (case XZ486 => k_asm); (case TZ486 => k_asm); (case hkZ486 => first | rfl | assumption); (case hdZ486 => ktr_room); (case huZ486 => ktr_units); k_whole; intro h' tk' F' N'; (try k_fold)))
  trivial
set_option maxHeartbeats 8000000 in
theorem leaf_con (w : World) : LeafC w := by
  intro fz fd sz sd nz lz t v ls t4 tk xs n3 ys n4 Y hK o3 hls hv hF hst ho
  obtain ⟨hF1, ⟨t1, t2, t3, hF2⟩, hF3⟩ := hF
  have hst0 := hst
  obtain ⟨nvs, rfl, hnT⟩ := hst.names
  obtain ⟨lvs, rfl, hlT⟩ := hst.leaves
  have hn60 : nvs.length ≤ 60 := by
    have := hnT.length
    rw [List.length_map, namesN_len] at this
    omega
  have hl60 : lvs.length ≤ 60 := by
    have := hlT.length
    rw [dats_len] at this
    omega
  refine Con.intro ?_
  intro dp un gd cn cs fa ccd cl outer A₀ base h₀ L m s mean mg mb Q E B F X N Tp hk hd hu fin
  have f1 := ho _ (.head _)
  have f2 := ho _ (.tail _ (.head _))
  have f3 := ho _ (.tail _ (.tail _ (.head _)))
  clear ho
  simp only [List.cons_append, List.nil_append] at N f1 f2 f3
  have o1 : @Ne Nat sd nz := fun e => by
    have h1 := (N _ (.head _)).1
    have h2 := (N _ (.tail _ (.head _))).1
    simp only at h1 h2
    rw [e] at h1
    rw [h1] at h2
    have h3 := congrArg Obj.cls (Option.some.inj h2)
    exact absurd (Value.type.inj h3) (by decide)
  have o2 : @Ne Nat sd lz := fun e => by
    have h1 := (N _ (.head _)).1
    have h2 := (N _ (.tail _ (.tail _ (.head _)))).1
    simp only at h1 h2
    rw [e] at h1
    rw [h1] at h2
    have h3 := congrArg Obj.cls (Option.some.inj h2)
    exact absurd (Value.type.inj h3) (by decide)
  refine wpAny_call ?_
  cases hK with
  | sym x hx =>
    have hKs : LeafK (.sym x) := .sym x hx
    obtain ⟨a, n, t5, t6, rfl, hm⟩ := sym_inv hv
    w_strict (
      k_dflt ktr_enter
      k_steps)
    refine' fin (stM w sd nz lz _ _ _ _ _ _ _) _ _ _ _ (by k_asm) (by k_asm) ?M ?Y (fun Y₁ hs => ?P)
    case M => tb_start
    case Y => tb_start
    case P =>
      refine' ⟨_, _, _, _, _, _, ?e, hst0.put (v := .ref a) (t := .sym x) (Y := Y₁) ?s (TIn.mono ?s hv), TIn.mono hs ?r⟩
      case e => rw [show thingsT (.sym x) = [.sym x] from rfl, List.length_append]; rfl
      case s => exact fun p q c => hs p ((show ∀ p ∈ Y, p ∈ _ by tb_start) p q) c
      case r =>
        show TIn _ _ (symD _)
        tb_rel
  | int x =>
    obtain ⟨a, n, t5, t6, rfl, hm⟩ := int_inv hv
    w_strict (
      k_dflt ktr_enter
      k_steps)
    refine' fin (stM w sd nz lz _ _ _ _ _ _ _) _ _ _ _ (by k_asm) (by k_asm) ?M ?Y (fun Y₁ hs => ?P)
    case M => tb_start
    case Y => tb_start
    case P =>
      have sub : SubT Y Y₁ := fun p q c => hs p ((show ∀ p ∈ Y, p ∈ _ by tb_start) p q) c
      rw [show thingsT (.int x) = [] from rfl, List.append_nil]
      exact ⟨_, _, _, _, _, _, rfl, hst0.mono sub, TIn.mono sub hv⟩
  | text x =>
    obtain ⟨a, n, t5, t6, rfl, hm⟩ := text_inv hv
    w_strict (
      k_dflt ktr_enter
      k_steps)
    refine' fin (stM w sd nz lz _ _ _ _ _ _ _) _ _ _ _ (by k_asm) (by k_asm) ?M ?Y (fun Y₁ hs => ?P)
    case M => tb_start
    case Y => tb_start
    case P =>
      have sub : SubT Y Y₁ := fun p q c => hs p ((show ∀ p ∈ Y, p ∈ _ by tb_start) p q) c
      rw [show thingsT (.text x) = [] from rfl, List.append_nil]
      exact ⟨_, _, _, _, _, _, rfl, hst0.mono sub, TIn.mono sub hv⟩
  | ex hx ps h1 h2 h3 hok hdp =>
    have hKs : LeafK (.ex hx ps) := .ex hx ps h1 h2 h3 hok hdp
    obtain ⟨a, n, t5, t6, b, vs, k, rfl, hm, hm2, hT⟩ := ex_inv hv
    w_strict (
      k_dflt ktr_enter
      k_steps)
    refine' fin (stM w sd nz lz _ _ _ _ _ _ _) _ _ _ _ (by k_asm) (by k_asm) ?M ?Y (fun Y₁ hs => ?P)
    case M => tb_start
    case Y => tb_start
    case P =>
      refine' ⟨_, _, _, _, _, _, ?e, (things_leaf h1 (ps := ps)) ▸ hst0.put (v := .ref a) (t := .ex hx ps) (Y := Y₁) ?s (TIn.mono ?s hv), TIn.mono hs ?r⟩
      case e => rw [things_leaf h1, List.length_append]; rfl
      case s => exact fun p q c => hs p ((show ∀ p ∈ Y, p ∈ _ by tb_start) p q) c
      case r =>
        show TIn _ _ (symD _)
        tb_rel
end
section
-- PutBack
theorem reset_PutBack : True := by
  w_top off
  k_with_none
  k_with "kt_len" => first | assumption | exact ltm (by assumption) (by lsm_bools) | exact lt3 (by assumption) (by assumption) (by lsm_bools) | exact ltk (by assumption) | exact lk0 (by assumption) (by rfl) | exact lk1 (by assumption) (by rfl) | exact ltn (by assumption) (by lsm_bools) | exact lka (by rfl) | exact lkb (by rfl) | exact And.left (by assumption) | exact pj1 (by assumption) | exact pj2 (by assumption) | fail "no"
  k_with "ktr_room" => first | exact szg (by rfl) | exact rm2 (by assumption) (by rfl) | exact rs2 (by assumption) (by rfl) | exact rm0 (by assumption) | exact rm1 (by assumption) (by rfl) | exact rs1 (by assumption) (by rfl) | exact rm3 (by assumption) (by rfl) | exact rm4 (by assumption) (by rfl) | exact rm5 (by assumption) (by rfl) | exact rmn (by assumption) (by assumption) (by rfl) | exact rmt (by assumption) (by rfl) | fail "no"
  k_with "ktr_units" => k_extra "ktr_room"
  k_with "omega" => first | with_reducible assumption | (show (_ : Nat) < _; first | assumption | k_extra "ktr_room") | (show (_ : Nat) ≤ _; first | assumption | exact szg (by rfl) | exact sza (by assumption) (by rfl) | exact szb (by assumption) (by assumption) (by rfl) | exact szc (by assumption) (by rfl) | exact szd (by assumption) (by rfl) | exact cza (by assumption) (by rfl) | exact szs (by assumption) | exact Nat.le_of_eq (by assumption)) | (show (_ : Nat) ≠ _; first | assumption | exact Ne.symm (by assumption) | exact ofI (by assumption) (by lsm_bools) | exact ofC (by assumption) (by lsm_bools) | exact ofD (by assumption) (by lsm_bools) | exact fI (by assumption) (by lsm_bools) | exact fC (by assumption) (by lsm_bools) | exact fD (by assumption) (by lsm_bools) | exact Nat.ne_of_lt (by kt_len) | exact Nat.ne_of_gt (by kt_len)) | (show (_ : Nat) < _ ∨ _; first | exact Or.inl (by kt_len) | exact Or.inr (by kt_len)) | fail "no"
  k_with "lsm_bools" => first | exact List.Mem.head _ | assumption | (refine' List.Mem.tail _ ?_; lsm_bools) | (refine' GrowT.mem ?gZ494 ?hZ494; (case gZ494 => assumption); (case hZ494 => lsm_bools)) | fail "no entry"
  k_with "k_mem" => first | lsm_bools | fail "no entry"
  k_with "tb_start" => first
  | exact List.forall_mem_nil _
  | (refine' List.forall_mem_cons.mpr ⟨?aZ496, ?bZ496⟩; (case aZ496 => lsm_bools); (case bZ496 => tb_start))
  | (intro p hp; repeat (first | exact hp | refine List.mem_cons_of_mem _ ?_ | refine List.Mem.tail _ ?_ | refine GrowT.mem' (by assumption) ?_ | refine GrowT.mem (by assumption) ?_ | fail "no entry"))
  | fail "not within"
  k_with "k_all" => first
  | assumption
  | (refine' GrowT.off ?gZ497 ?oZ497 ?NZ497 ?sZ497 ?mZ497 ?cZ497; (case gZ497 => assumption); (case NZ497 => k_asm); (case sZ497 => tb_start); (case mZ497 => lsm_bools); (case cZ497 => rfl); (case oZ497 => k_all))
  | (refine' offLt ?hZ497 ?sZ497; (case hZ497 => assumption); (case sZ497 => tb_start))
  | (refine' offLt3 ?qZ497 ?hZ497 ?sZ497; (case qZ497 => assumption); (case hZ497 => assumption); (case sZ497 => tb_start))
  | fail "not apart"
  k_with "kqd_sub" => first
  | (refine' Cut.own ?mZ498 ?rZ498; (case mZ498 => lsm_bools); (case rZ498 => kqd_sub))
  | (refine' Cut.oth ?oZ498 ?rZ498; (case oZ498 => k_all); (case rZ498 => kqd_sub))
  | exact Cut.tail
  | fail "no cut"
  k_with "ktr_rel" => first
  | exact subT_nil
  | exact subT_of (fun _ hp => hp)
  | assumption
  | (refine' subT_skip ?aZ499 ?bZ499; (case aZ499 => rfl); (case bZ499 => ktr_rel))
  | (refine' subT_cons ?aZ499 ?bZ499; (case aZ499 => lsm_bools); (case bZ499 => ktr_rel))
  | (refine' subT_of ?hZ499; (case hZ499 => tb_start))
  | (refine' subT_app (by ktr_rel) (by ktr_rel))
  | fail "tuples not within"
  k_with "k_room" => ktr_room
  k_with "k_units" => ktr_units
  k_with "tb_rel" => first
  | exact TAll.nil
  | exact TIn.str _ _
  | exact TIn.int _ _
  | exact TIn.bytes _ _
  | assumption
  | (refine' TIn.mono ?sZ502 ?hZ502; (case hZ502 => assumption); (case sZ502 => ktr_rel))
  | (refine' TAll.mono ?sZ502 ?hZ502; (case hZ502 => assumption); (case sZ502 => ktr_rel))
  | (refine' TIn.tuple ?mZ502 ?rZ502; (case mZ502 => lsm_bools); (case rZ502 => tb_rel))
  | (refine' TAll.cons (by tb_rel) (by tb_rel))
  | fail "no tree"
  k_with "call ref" => (k_here; (with_reducible show wpAny _ _ (call (Value.ref 214) [Value.str _ _] _) _ _ _); k_dflt (refine' sym_use ?CZ503 ?hcZ503 ?BZ503 ?FZ503 ?XZ503 ?NZ503 ?TZ503 ?hkZ503 ?hdZ503 ?huZ503 ?_; (case CZ503 => exact sym_con _); (case NZ503 => k_asm); (case hcZ503 => kqd_sub); (case BZ503 => k_asm); (case FZ503 => k_asm); (case XZ503 => k_asm); (case TZ503 => k_asm); (case hkZ503 => first | rfl | assumption); (case hdZ503 => ktr_room); (case huZ503 => ktr_units); k_whole; intro a' Y' h' tk' g' F' N' hr'; (try simp only [List.cons_append, List.nil_append] at N'); (try k_fold)))
  k_with "call ref" => (k_here; (with_reducible show wpAny _ _ (call (Value.ref 207) [Value.str _ _, Value.ref _] _) _ _ _); k_dflt (refine' tree_use ?CZ504 ?hcZ504 ?hmZ504 ?hlZ504 ?hTZ504 ?BZ504 ?FZ504 ?XZ504 ?NZ504 ?TZ504 ?hkZ504 ?hdZ504 ?huZ504 ?_; (case CZ504 => exact tree_con _); (case NZ504 => k_asm); (case hcZ504 => kqd_sub); (case hmZ504 => lsm_bools); (case hlZ504 => exact Nat.le_of_ble_eq_true rfl); (case hTZ504 => tb_rel); (case BZ504 => k_asm); (case FZ504 => k_asm); (case XZ504 => k_asm); (case TZ504 => k_asm); (case hkZ504 => first | rfl | assumption); (case hdZ504 => ktr_room); (case huZ504 => ktr_units); k_whole; intro a' Y' h' tk' g' F' N' hr'; (try simp only [List.cons_append, List.nil_append] at N'); (try k_fold)))
  k_with "call ref" => (k_here; (with_reducible show wpAny _ _ (call (Value.ref 68) [_, Value.str _ _] _) _ _ _); k_dflt (refine' isEx_use ?CZ505 ?hvZ505 ?eZ505 ?BZ505 ?FZ505 ?XZ505 ?NZ505 ?TZ505 ?hkZ505 ?hsZ505 ?hdZ505 ?huZ505 ?_; (case CZ505 => exact isEx_con _); (case hvZ505 => assumption); (case eZ505 => first | assumption | rfl); (case hsZ505 => tb_start); (case BZ505 => k_asm); (case FZ505 => k_asm); (case XZ505 => k_asm); (case NZ505 => k_asm); (case TZ505 => k_asm); (case hkZ505 => first | rfl | assumption); (case hdZ505 => ktr_room); (case huZ505 => ktr_units); k_whole; intro h' tk' F' N'; (try k_fold)))
  k_with "call ref" => (k_here; (with_reducible show wpAny _ _ (call (Value.ref 82) [Value.ref _] _) _ _ _); k_dflt (refine' isSym_use ?hmZ506 ?eZ506 ?BZ506 ?FZ506 ?XZ506 ?NZ506 ?TZ506 ?hkZ506 ?hdZ506 ?huZ506 ?_; (case NZ506 => k_asm); (case hmZ506 => lsm_bools); (case eZ506 => first | rfl | decide); (case BZ506 => k_asm); (case FZ506 => k_asm); (case XZ506 => k_asm); (case TZ506 => k_asm); (case hkZ506 => first | rfl | assumption); (case hdZ506 => ktr_room); (case huZ506 => ktr_units); k_whole; intro h' tk' F' N'; (try k_fold)))
  k_with "call ref" => (k_here; (with_reducible show wpAny _ _ (call (Value.ref 75) [Value.ref _] _) _ _ _); k_dflt (first
  | (refine' parts_use ?hmZ507 ?BZ507 ?FZ507 ?XZ507 ?NZ507 ?TZ507 ?hkZ507 ?hdZ507 ?huZ507 ?_; (case NZ507 => k_asm); (case hmZ507 => lsm_bools); (case BZ507 => k_asm); (case FZ507 => k_asm); (case XZ507 => k_asm); (case TZ507 => k_asm); (case hkZ507 => first | rfl | assumption); (case hdZ507 => ktr_room); (case huZ507 => ktr_units); k_whole; intro h' tk' F' N'; (try k_fold))
  | (refine' parts0_use ?hcZ507 ?hmZ507 ?hzZ507 ?BZ507 ?FZ507 ?XZ507 ?NZ507 ?TZ507 ?hkZ507 ?hdZ507 ?huZ507 ?_; (case NZ507 => k_asm); (case hmZ507 => lsm_bools); (case hzZ507 => decide); (case hcZ507 => kqd_sub); (case BZ507 => k_asm); (case FZ507 => k_asm); (case XZ507 => k_asm); (case TZ507 => k_asm); (case hkZ507 => first | rfl | assumption); (case hdZ507 => ktr_room); (case huZ507 => ktr_units); k_whole; intro d' j' Y' h' tk' g' F' N' hm'; (try simp only [List.cons_append, List.nil_append] at N'); (try k_fold))))
  k_with "compareOp In str ref" => (k_here; k_dflt (refine' in_tupL ?htZ508 ?hiZ508 ?_; (case htZ508 => (refine' tupK ?XZ508 ?lZ508; (case XZ508 => k_in); (case lZ508 => k_is))); (case hiZ508 => exact rfl)))
  k_with "compareOp Eq ref ref" => (k_here; k_dflt (first
  | (refine' eq_dat (r := false) ?HZ509 ?d1Z509 ?d2Z509 ?hcZ509 ?hdZ509 ?huZ509 ?_; (case HZ509 => exact heldOf (by k_asm)); (case d1Z509 => tb_rel); (case d2Z509 => tb_rel); (case hcZ509 => with_unfolding_all rfl); (case hdZ509 => exact Nat.le_of_ble_eq_true rfl); (case huZ509 => ktr_units))
  | (refine' eq_dat (r := true) ?HZ509 ?d1Z509 ?d2Z509 ?hcZ509 ?hdZ509 ?huZ509 ?_; (case HZ509 => exact heldOf (by k_asm)); (case d1Z509 => tb_rel); (case d2Z509 => tb_rel); (case hcZ509 => with_unfolding_all rfl); (case hdZ509 => exact Nat.le_of_ble_eq_true rfl); (case huZ509 => ktr_units))))
  k_with "compareOp NotEq ref ref" => (k_here; k_dflt (first
  | (refine' ne_dat (r := false) ?HZ510 ?d1Z510 ?d2Z510 ?hcZ510 ?hdZ510 ?huZ510 ?_; (case HZ510 => exact heldOf (by k_asm)); (case d1Z510 => tb_rel); (case d2Z510 => tb_rel); (case hcZ510 => with_unfolding_all rfl); (case hdZ510 => exact Nat.le_of_ble_eq_true rfl); (case huZ510 => ktr_units))
  | (refine' ne_dat (r := true) ?HZ510 ?d1Z510 ?d2Z510 ?hcZ510 ?hdZ510 ?huZ510 ?_; (case HZ510 => exact heldOf (by k_asm)); (case d1Z510 => tb_rel); (case d2Z510 => tb_rel); (case hcZ510 => with_unfolding_all rfl); (case hdZ510 => exact Nat.le_of_ble_eq_true rfl); (case huZ510 => ktr_units))))
  k_with "subscriptTail Name Constant ref int" => (k_here; k_dflt (refine' item_tupleT ?tZ511 ?aZ511 ?bZ511 ?cZ511 ?dZ511 ?_; (case tZ511 => exact News.isTup (by k_asm) (by k_mem)); (case aZ511 => decide); (case bZ511 => decide); (case cZ511 => rfl); (case dZ511 => rfl); k_whole))
  k_with "ite" => (k_closed; k_dflt (first | (refine' ite_pos ?cZ512 ?_; (case cZ512 => decide)) | (refine' ite_neg ?cZ512 ?_; (case cZ512 => decide))))
  k_with "call ref" => (k_here; (with_reducible show wpAny _ _ (call (Value.ref 54) [Value.str _ _, Value.ref _] _) _ _ _); k_dflt (refine' expr_use ?hcZ513 ?hmZ513 ?hlZ513 ?BZ513 ?FZ513 ?XZ513 ?NZ513 ?TZ513 ?hkZ513 ?hdZ513 ?huZ513 ?_; (case NZ513 => k_asm); (case hmZ513 => lsm_bools); (case hcZ513 => kqd_sub); (case hlZ513 => first | exact Nat.le_of_ble_eq_true rfl | (simp only [List.length_append, List.length_cons, List.length_nil]; omega)); (case BZ513 => k_asm); (case FZ513 => k_asm); (case XZ513 => k_asm); (case TZ513 => k_asm); (case hkZ513 => first | rfl | assumption); (case hdZ513 => ktr_room); (case huZ513 => ktr_units); k_whole; intro a' t1' k' Y' h' tk' g' F' N' hm'; (try simp only [List.cons_append, List.nil_append] at N'); (try k_fold)))
  k_with "call ref" => (k_here; (with_reducible show wpAny _ _ (call (Value.ref 61) [Value.str _ _] _) _ _ _); k_dflt (refine' sym_use ?CZ514 ?hcZ514 ?BZ514 ?FZ514 ?XZ514 ?NZ514 ?TZ514 ?hkZ514 ?hdZ514 ?huZ514 ?_; (case CZ514 => exact symF_con _); (case NZ514 => k_asm); (case hcZ514 => kqd_sub); (case BZ514 => k_asm); (case FZ514 => k_asm); (case XZ514 => k_asm); (case TZ514 => k_asm); (case hkZ514 => first | rfl | assumption); (case hdZ514 => ktr_room); (case huZ514 => ktr_units); k_whole; intro a' Y' h' tk' g' F' N' hr'; (try simp only [List.cons_append, List.nil_append] at N'); (try k_fold)))
  k_with "call type:range cons nil" => (k_here; k_dflt (refine' range1_rows ?FZ515 ?NZ515 ?_; (case FZ515 => k_asm); (case NZ515 => k_asm); k_whole; intro h' tk' t1' u1' v1' hR' F' N' hst'; (try k_fold)))
  k_with "pyIter ref" => (k_here; (with_reducible show wpAny _ _ (pyIter (Value.ref _)) (fun it s₂ => LoopAtV _ _ _ _ _ _ _ _ _ it s₂) _ _); refine' Hold.of ?_)
  k_with "binaryOp Add ref ref" => (k_here; k_dflt (refine' add_cat ?FZ517 ?NZ517 ?aZ517 ?bZ517 ?zZ517 ?_; (case FZ517 => k_asm); (case NZ517 => k_asm); (case aZ517 => lsm_bools); (case bZ517 => lsm_bools); (case zZ517 => (simp only [sizeLine_eq, List.length_cons, List.length_nil]; omega)); k_whole; intro D' h' F' N' l1; (try k_lt l1); (try k_sweep)))
  k_with "subscriptTail Name Slice ref ref" => (k_here; k_dflt (first
  | (refine' slice_whole ?FZ518 ?NZ518 ?tZ518 ?lZ518 ?zZ518 ?_ ?hsZ518 ?hgZ518; (case FZ518 => k_asm); (case NZ518 => k_asm); (case tZ518 => lsm_bools); (case lZ518 => exact Nat.le_of_ble_eq_true rfl); (case zZ518 => exact Nat.le_of_ble_eq_true rfl); (case hsZ518 => with_unfolding_all rfl); (case hgZ518 => (intro _; with_unfolding_all rfl)); k_whole; intro h' F' N'; (try k_sweep))
  | (refine' slice_upto ?FZ518 ?NZ518 ?tZ518 ?lZ518 ?zZ518 ?_ ?hsZ518 ?hgZ518; (case FZ518 => k_asm); (case NZ518 => k_asm); (case tZ518 => lsm_bools); (case lZ518 => exact Nat.le_of_ble_eq_true rfl); (case zZ518 => exact Nat.le_of_ble_eq_true rfl); (case hsZ518 => with_unfolding_all rfl); (case hgZ518 => (intro _; with_unfolding_all rfl)); k_whole; intro D' h' F' N' l1; (try k_lt l1); (try k_sweep))))
  k_with "subscriptTail Name Slice ref ref" => (k_here; k_dflt
  (refine' slice_from ?FZ519 ?NZ519 ?tZ519 ?oZ519 ?lZ519 ?zZ519 ?_ ?hsZ519 ?hgZ519; (case FZ519 => k_asm); (case NZ519 => k_asm); (case tZ519 => lsm_bools); (case oZ519 => exact Nat.le_of_ble_eq_true rfl); (case lZ519 => (simp only [List.length_cons]; omega)); (case zZ519 => (simp only [sizeLine_eq, List.length_cons]; omega)); (case hsZ519 => with_unfolding_all rfl); (case hgZ519 => (intro _; with_unfolding_all rfl)); k_whole; intro D' h' F' N' l1; (try k_lt l1); (try k_sweep)))
  k_with "subscriptTail Subscript Name Constant Slice ref ref" => (k_here; k_dflt
  (refine' slice_from ?FZ520 ?NZ520 ?tZ520 ?oZ520 ?lZ520 ?zZ520 ?_ ?hsZ520 ?hgZ520; (case FZ520 => k_asm); (case NZ520 => k_asm); (case tZ520 => lsm_bools); (case oZ520 => exact Nat.le_of_ble_eq_true rfl); (case lZ520 => (simp only [List.length_cons]; omega)); (case zZ520 => (simp only [sizeLine_eq, List.length_cons]; omega)); (case hsZ520 => with_unfolding_all rfl); (case hgZ520 => (intro _; with_unfolding_all rfl)); k_whole; intro D' h' F' N' l1; (try k_lt l1); (try k_sweep)))
  k_with "call type:tuple cons nil" => (k_here; k_dflt (refine' tuple_of ?FZ521 ?NZ521 ?tZ521 ?zZ521 ?_; (case FZ521 => k_asm); (case NZ521 => k_asm); (case tZ521 => lsm_bools); (case zZ521 => first | exact Nat.le_of_ble_eq_true rfl | (simp only [sizeLine_eq, List.length_append, List.length_cons, List.length_nil]; omega)); k_whole; intro D' h' F' N' l1; (try k_lt l1); (try k_sweep)))
  k_with "subscriptTail Name Constant ref int" => (k_here; k_dflt (refine' item_tupI ?NZ522 ?mZ522 ?aZ522 ?bZ522 ?cZ522 ?_; (case NZ522 => k_asm); (case mZ522 => lsm_bools); (case aZ522 => decide); (case bZ522 => decide); (case cZ522 => exact rfl); k_whole))
  k_with "subscriptTail Subscript Name Constant Constant ref int" => (k_here; k_dflt (refine' item_tupI ?NZ523 ?mZ523 ?aZ523 ?bZ523 ?cZ523 ?_; (case NZ523 => k_asm); (case mZ523 => lsm_bools); (case aZ523 => decide); (case bZ523 => decide); (case cZ523 => exact rfl); k_whole))
  k_with "subscriptTail Subscript Subscript Constant Constant ref int" => (k_here; k_dflt (refine' item_tupI ?NZ524 ?mZ524 ?aZ524 ?bZ524 ?cZ524 ?_; (case NZ524 => k_asm); (case mZ524 => lsm_bools); (case aZ524 => decide); (case bZ524 => decide); (case cZ524 => exact rfl); k_whole))
  k_with "subscriptTail Call Name cons nil Constant ref int" => (k_here; k_dflt (refine' item_tupI ?NZ525 ?mZ525 ?aZ525 ?bZ525 ?cZ525 ?_; (case NZ525 => k_asm); (case mZ525 => lsm_bools); (case aZ525 => decide); (case bZ525 => decide); (case cZ525 => exact rfl); k_whole))
  k_with "binaryOp Add ref ref" => (k_here; k_dflt (refine' add_tupC ?FZ526 ?NZ526 ?aZ526 ?bZ526 ?l1Z526 ?l2Z526 ?zZ526 ?_; (case FZ526 => k_asm); (case NZ526 => k_asm); (case aZ526 => lsm_bools); (case bZ526 => lsm_bools); (case l1Z526 => (simp only [List.length_cons, List.length_nil]; omega)); (case l2Z526 => omega); (case zZ526 => (simp only [sizeLine_eq, List.length_cons, List.length_nil]; omega)); k_whole; intro D' h' F' N' l1; (try k_lt l1); (try k_sweep)))
  k_with "call type:tuple cons nil" => (k_here; k_dflt (refine' tuple_same ?NZ527 ?tZ527 ?_; (case NZ527 => k_asm); (case tZ527 => lsm_bools); k_whole))
  k_with "call builtin:len cons nil" => (k_here; k_dflt (refine' len_tupK ?NZ528 ?tZ528 ?zZ528 ?_; (case NZ528 => k_asm); (case tZ528 => lsm_bools); (case zZ528 => (simp only [sizeLine_eq, List.length_cons, List.length_nil]; omega)); k_whole; intro tk1' tk2'))
  k_with "eval ListComp" => (k_here; refine' Hold.of ?_)
  k_with "compareOp NotEq ref ref" => (k_here; k_dflt (refine' ne_dat (r := false) ?HZ530 ?d1Z530 ?d2Z530 ?hcZ530 ?hdZ530 ?huZ530 ?_; (case HZ530 => exact heldOf (by k_asm)); (case d1Z530 => tb_rel); (case d2Z530 => tb_rel); (case hcZ530 => exact cmp_head (by assumption) _); (case hdZ530 => exact Nat.le_of_ble_eq_true rfl); (case huZ530 => ktr_units)))
  k_with "call ref" => (k_here; (with_reducible show wpAny _ _ (call (Value.ref 233) [_] _) _ _ _); k_dflt (refine' plain_use ?CZ531 ?hoZ531 ?hvZ531 ?BZ531 ?FZ531 ?XZ531 ?NZ531 ?TZ531 ?hkZ531 ?hcZ531 ?hdZ531 ?huZ531 ?_; (case CZ531 => assumption); (case hoZ531 => assumption); (case hvZ531 => assumption); (case BZ531 => k_asm); (case FZ531 => k_asm); (case XZ531 => k_asm); (case NZ531 => k_asm); (case TZ531 => k_asm); (case hkZ531 => first | rfl | assumption); (case hcZ531 => kqd_sub); (case hdZ531 => ktr_room); (case huZ531 => ktr_units); k_whole; intro r' Y' h' tk' g' F' N' hr'; (try simp only [List.cons_append, List.nil_append] at N'); (try k_fold)))
  k_with "call ref" => (k_here; (with_reducible show wpAny _ _ (call (Value.ref 240) [_] _) _ _ _); k_dflt (refine' things_use ?CZ532 ?hoZ532 ?hvZ532 ?BZ532 ?FZ532 ?XZ532 ?NZ532 ?TZ532 ?hkZ532 ?hcZ532 ?hdZ532 ?huZ532 ?_; (case CZ532 => assumption); (case hoZ532 => assumption); (case hvZ532 => assumption); (case BZ532 => k_asm); (case FZ532 => k_asm); (case XZ532 => k_asm); (case NZ532 => k_asm); (case TZ532 => k_asm); (case hkZ532 => first | rfl | assumption); (case hcZ532 => kqd_sub); (case hdZ532 => ktr_room); (case huZ532 => ktr_units); k_whole; intro a' vs' k' Y' h' tk' g' F' N' hr' hrl'; (try simp only [List.cons_append, List.nil_append] at N'); (try k_fold)))
  k_with "exec For Name Subscript" => (k_here; (rename Fr _ _ _ _ => lF'); (with_unfolding_all refine' For_invVF lF' ?k1Z533 ?k2Z533 ?_; (case k1Z533 => exact rfl); (case k2Z533 => exact rfl); k_whole))
  k_with "compareOp Eq ref ref" => (k_here; k_dflt (refine' eq_dat (r := false) ?HZ534 ?d1Z534 ?d2Z534 ?hcZ534 ?hdZ534 ?huZ534 ?_; (case HZ534 => exact heldOf (by k_asm)); (case d1Z534 => tb_rel); (case d2Z534 => tb_rel); (case hcZ534 => exact cmp_head (by assumption) _); (case hdZ534 => exact Nat.le_of_ble_eq_true rfl); (case huZ534 => ktr_units)))
  k_with "compareOp Eq str str" => (k_here; k_dflt (refine' eq_str_no ?hZ535 ?_; (case hZ535 => assumption); k_whole))
  k_with "ktr_enter" => (refine' code_defC ?k1Z536 ?k2Z536 ?k3Z536 ?k4Z536 ?k5Z536 ?kAZ536 ?kFZ536 ?kKZ536 ?k6Z536 ?k7Z536 ?k8Z536 ?k9Z536 ?kBZ536 ?kDZ536 ?_ ?c2Z536 ?c3Z536 ?c4Z536; (case kAZ536 => exact rfl); (case kFZ536 => exact rfl); (case kKZ536 => assumption); (case k1Z536 => k_asm); (case k2Z536 => k_asm); (case k3Z536 => k_asm); (case k4Z536 => k_asm); (case k5Z536 => k_asm); (case k6Z536 => k_is); (case k7Z536 => k_is); (case k8Z536 => ktr_room); (case k9Z536 => exact BindsTo.of_eq rfl); (case kBZ536 => exact rfl); (case kDZ536 => decide +kernel); (case c2Z536 => exact rfl); (case c3Z536 => exact rfl); (case c4Z536 => exact rfl); k_whole; intro g' L' h' tk' cells' FG' F' N' Y' B' X' T' l1; (try k_lt l1); k_cells Y'; (try simp only [List.cons_append, List.nil_append] at N'); (try dsimp only); (try k_fold))
  k_with "compareOp In ref ref" => (k_here; k_dflt (first
  | (refine' in_tab_some ?hlZ537 ?NZ537 ?hvZ537 ?htZ537 ?tabZ537 ?huZ537 ?_; (case hlZ537 => assumption); (case NZ537 => k_asm); (case hvZ537 => (refine' TIn.mono ?sZ537 ?hZ537; (case hZ537 => assumption); (case sZ537 => exact subT_of (by tb_start)))); (case htZ537 => assumption); (case tabZ537 => (refine' TabIn.mono ?sZ537 ?hZ537; (case hZ537 => assumption); (case sZ537 => tb_start))); (case huZ537 => ktr_units); k_whole; intro tk')
  | (refine' in_tab_none ?hlZ537 ?NZ537 ?hvZ537 ?htZ537 ?tabZ537 ?huZ537 ?_; (case hlZ537 => assumption); (case NZ537 => k_asm); (case hvZ537 => (refine' TIn.mono ?sZ537 ?hZ537; (case hZ537 => assumption); (case sZ537 => exact subT_of (by tb_start)))); (case htZ537 => assumption); (case tabZ537 => (refine' TabIn.mono ?sZ537 ?hZ537; (case hZ537 => assumption); (case sZ537 => tb_start))); (case huZ537 => ktr_units); k_whole; intro tk')))
  k_with "subscriptTail Name Name ref ref" => (k_here; k_dflt (refine' item_tab ?NZ538 ?hvZ538 ?htZ538 ?tabZ538 ?hlZ538 ?huZ538 ?_ ?hsZ538 ?hgZ538; (case hlZ538 => assumption); (case NZ538 => k_asm); (case hvZ538 => (refine' TIn.mono ?sZ538 ?hZ538; (case hZ538 => assumption); (case sZ538 => exact subT_of (by tb_start)))); (case htZ538 => assumption); (case tabZ538 => (refine' TabIn.mono ?sZ538 ?hZ538; (case hZ538 => assumption); (case sZ538 => tb_start))); (case huZ538 => ktr_units); (case hsZ538 => with_unfolding_all rfl); (case hgZ538 => (intro _; with_unfolding_all rfl)); k_whole; intro tk' r' hr'))
  k_with "call ref" => (k_here; (with_reducible show wpAny _ _ (call (Value.ref 245) [_, Value.ref _] _) _ _ _); k_dflt (refine' put_use ?CZ539 ?hoZ539 ?hdepZ539 ?hvZ539 ?htZ539 ?BZ539 ?FZ539 ?XZ539 ?NZ539 ?TZ539 ?hkZ539 ?hcZ539 ?hdZ539 ?huZ539 ?_; (case CZ539 => assumption); (case hoZ539 => assumption); (case hdepZ539 => assumption); (case hvZ539 => assumption); (case htZ539 => assumption); (case BZ539 => k_asm); (case FZ539 => k_asm); (case XZ539 => k_asm); (case NZ539 => k_asm); (case TZ539 => k_asm); (case hkZ539 => first | rfl | assumption); (case hcZ539 => kqd_sub); (case hdZ539 => ktr_room); (case huZ539 => ktr_units); k_whole; intro r' Y' h' tk' g' F' N' hr'; (try simp only [List.cons_append, List.nil_append] at N'); (try k_fold)))
  trivial
set_option maxHeartbeats 8000000 in
theorem put_con (w : World) (tb : List (T × T)) : ∀ (n : Nat) (t : T), t.dep < n → PutC w tb t := by
  intro n
  induction n with
  | zero => exact fun t h => absurd h (Nat.not_lt_zero _)
  | succ n ih =>
  intro t hn v d Y hok hdep hv htab
  obtain ⟨a, rfl⟩ := tree_ref hv
  refine Con.intro ?_
  intro dp un gd cn cs fa ccd cl outer A₀ base h₀ L m s mean mg mb Q E B F X N Tp hk hd hu fin
  simp only [List.nil_append] at N
  refine wpAny_call ?_
  cases hl : lookT tb t with
  | some v =>
    w_strict (
      k_dflt ktr_enter
      k_steps)
    refine' fin [] _ _ _ _ (by k_asm) (by k_asm) (List.forall_mem_nil _) ?Y (fun Y₁ hs => ⟨rfl, ?r⟩)
    case Y => tb_start
    case r =>
      rw [putT_some hl]
      exact TIn.mono hs (by assumption)
  | none =>
  cases t with
  | sym x =>
    have e : putT tb (.sym x) = .sym x := by simp only [putT, hl, Option.getD_none]
    obtain ⟨a, n, t1, t2, e9, hm⟩ := sym_inv hv
    cases e9
    simp only [T.dep] at hd hu
    w_strict (
      k_dflt ktr_enter
      k_steps)
    refine' fin [] _ _ _ _ (by k_asm) (by k_asm) (List.forall_mem_nil _) ?Y (fun Y₁ hs => ⟨rfl, ?r⟩)
    case Y => tb_start
    case r =>
      rw [e]
      exact TIn.mono hs (TIn.mono (subT_of (by tb_start)) hv)
  | int x =>
    have e : putT tb (.int x) = .int x := by simp only [putT, hl, Option.getD_none]
    obtain ⟨a, n, t1, t2, e9, hm⟩ := int_inv hv
    cases e9
    simp only [T.dep] at hd hu
    w_strict (
      k_dflt ktr_enter
      k_steps)
    refine' fin [] _ _ _ _ (by k_asm) (by k_asm) (List.forall_mem_nil _) ?Y (fun Y₁ hs => ⟨rfl, ?r⟩)
    case Y => tb_start
    case r =>
      rw [e]
      exact TIn.mono hs (TIn.mono (subT_of (by tb_start)) hv)
  | text x =>
    have e : putT tb (.text x) = .text x := by simp only [putT, hl, Option.getD_none]
    obtain ⟨a, n, t1, t2, e9, hm⟩ := text_inv hv
    cases e9
    simp only [T.dep] at hd hu
    w_strict (
      k_dflt ktr_enter
      k_steps)
    refine' fin [] _ _ _ _ (by k_asm) (by k_asm) (List.forall_mem_nil _) ?Y (fun Y₁ hs => ⟨rfl, ?r⟩)
    case Y => tb_start
    case r =>
      rw [e]
      exact TIn.mono hs (TIn.mono (subT_of (by tb_start)) hv)
  | ex h0 ps =>
    have e : putT tb (.ex h0 ps) = .ex h0 (putTs tb ps) := by simp only [putT, hl, Option.getD_none]
    obtain ⟨a, n, t1, t2, b, vs, k, e9, hm, hm2, hT⟩ := ex_inv hv
    cases e9
    simp only [T.dep] at hd hu
    w_strict (
      k_dflt ktr_enter
      k_steps)
    unfold Hold
    rename Fr _ _ _ _ => F1
    rename News _ _ _ _ => N1
    refine' comp_tup F1 ?hh ?hclos ?hcell ?hkind ?hnames ?hx ?h ?hs
    case hh => rfl
    case hclos => with_unfolding_all rfl
    case hcell => decide
    case hkind => rfl
    case hnames => decide
    case hx => rfl
    case hs => (intro _; with_unfolding_all rfl)
    case h =>
      w_strict (
        k_steps)
      have hvl : vs.length ≤ 60 := by
        have := hT.length
        rw [dats_len] at this
        have := hok.1
        omega
      refine' csrc_map (vs := vs) (k := k) (ps := ps) (putTs tb) ?F ?N ?hm ?hz (TAll.mono (subT_of ?sub) hT) rfl ?turn ?fin
      case F => k_asm
      case N => k_asm
      case hm => lsm_bools
      case hz => (rw [sizeLine_eq]; omega)
      case sub => tb_start
      case turn =>
        intro i ys nw v p I oI C oC D m₂ h tk hp hsub hpv hT' hS hoI hoC hx F' N' off ne
        have hpm := List.mem_of_getElem? hp
        have IH : PutC w tb p := ih p (by have := dep_mem hpm; simp only [T.dep] at hn; omega)
        have hpd := dep_mem hpm
        have hpo := ok_mem hok.2 hpm
        have hp3 : p.dep ≤ 3 := by simp only [T.dep] at hdep; omega
        have hcell := hsub _ (.head _)
        have htab' : TabIn w nw d tb := htab.mono fun q hq => hsub q (.tail _ hq)
        k_sweep
        w_strict (
          k_steps)
        refine' comp_end ?F ?N ?I ?C ?D ?hY ?g off hoI (nsObj_not hoC) hS ?r
        case g => assumption
        case F => k_asm
        case N => k_asm
        case I => lsm_bools
        case C => lsm_bools
        case D => lsm_bools
        case hY => tb_start
        case r => exact ⟨fun p hp => GrowT.mem' (by assumption) (hsub p hp), put_step (by assumption) hT' hp (by assumption)⟩
      case fin =>
        intro ys nw D h tk hsub hT' F' N' o1
        have hyl : ys.length ≤ 60 := by
          have := hT'.length
          rw [dats_len, putTs_len] at this
          have := hok.1
          omega
        k_sweep
        w_strict (
          k_steps)
        refine' fin [] _ _ _ _ (by k_asm) (by k_asm) (List.forall_mem_nil _) ?Y (fun Y₁ hs => ⟨rfl, ?r⟩)
        case Y => exact fun p hp => (show ∀ p ∈ nw, p ∈ _ by tb_start) p (hsub p (.tail _ hp))
        case r =>
          rw [e]
          refine TIn.mono hs ?_
          show TIn _ _ (.tuple [sS "expr", .str h0, .tuple (T.dats (putTs tb ps))])
          tb_rel
end
section
-- Body
theorem reset_Body : True := by
  w_top off
  k_with_none
  k_with "kt_len" => first | assumption | exact ltm (by assumption) (by lsm_bools) | exact lt3 (by assumption) (by assumption) (by lsm_bools) | exact ltk (by assumption) | exact lk0 (by assumption) (by rfl) | exact lk1 (by assumption) (by rfl) | exact ltn (by assumption) (by lsm_bools) | exact lka (by rfl) | exact lkb (by rfl) | exact And.left (by assumption) | exact pj1 (by assumption) | exact pj2 (by assumption) | fail "no"
  k_with "ktr_room" => first | exact szg (by rfl) | exact rm2 (by assumption) (by rfl) | exact rs2 (by assumption) (by rfl) | exact rm0 (by assumption) | exact rm1 (by assumption) (by rfl) | exact rs1 (by assumption) (by rfl) | exact rm3 (by assumption) (by rfl) | exact rm4 (by assumption) (by rfl) | exact rm5 (by assumption) (by rfl) | exact rmn (by assumption) (by assumption) (by rfl) | exact rmt (by assumption) (by rfl) | fail "no"
  k_with "ktr_units" => k_extra "ktr_room"
  k_with "omega" => first | with_reducible assumption | (show (_ : Nat) < _; first | assumption | k_extra "ktr_room") | (show (_ : Nat) ≤ _; first | assumption | exact szg (by rfl) | exact sza (by assumption) (by rfl) | exact szb (by assumption) (by assumption) (by rfl) | exact szc (by assumption) (by rfl) | exact szd (by assumption) (by rfl) | exact cza (by assumption) (by rfl) | exact szs (by assumption) | exact Nat.le_of_eq (by assumption)) | (show (_ : Nat) ≠ _; first | assumption | exact Ne.symm (by assumption) | exact ofI (by assumption) (by lsm_bools) | exact ofC (by assumption) (by lsm_bools) | exact ofD (by assumption) (by lsm_bools) | exact fI (by assumption) (by lsm_bools) | exact fC (by assumption) (by lsm_bools) | exact fD (by assumption) (by lsm_bools) | exact Nat.ne_of_lt (by kt_len) | exact Nat.ne_of_gt (by kt_len)) | (show (_ : Nat) < _ ∨ _; first | exact Or.inl (by kt_len) | exact Or.inr (by kt_len)) | fail "no"
  k_with "lsm_bools" => first | exact List.Mem.head _ | assumption | (refine' List.Mem.tail _ ?_; lsm_bools) | (refine' GrowT.mem ?gZ546 ?hZ546; (case gZ546 => assumption); (case hZ546 => lsm_bools)) | fail "no entry"
  k_with "k_mem" => first | lsm_bools | fail "no entry"
  k_with "tb_start" => first
  | exact List.forall_mem_nil _
  | (refine' List.forall_mem_cons.mpr ⟨?aZ548, ?bZ548⟩; (case aZ548 => lsm_bools); (case bZ548 => tb_start))
  | (intro p hp; repeat (first | exact hp | refine List.mem_cons_of_mem _ ?_ | refine List.Mem.tail _ ?_ | refine GrowT.mem' (by assumption) ?_ | refine GrowT.mem (by assumption) ?_ | fail "no entry"))
  | fail "not within"
  k_with "k_all" => first
  | assumption
  | (refine' GrowT.off ?gZ549 ?oZ549 ?NZ549 ?sZ549 ?mZ549 ?cZ549; (case gZ549 => assumption); (case NZ549 => k_asm); (case sZ549 => tb_start); (case mZ549 => lsm_bools); (case cZ549 => rfl); (case oZ549 => k_all))
  | (refine' offLt ?hZ549 ?sZ549; (case hZ549 => assumption); (case sZ549 => tb_start))
  | (refine' offLt3 ?qZ549 ?hZ549 ?sZ549; (case qZ549 => assumption); (case hZ549 => assumption); (case sZ549 => tb_start))
  | fail "not apart"
  k_with "kqd_sub" => first
  | (refine' Cut.own ?mZ550 ?rZ550; (case mZ550 => lsm_bools); (case rZ550 => kqd_sub))
  | (refine' Cut.oth ?oZ550 ?rZ550; (case oZ550 => k_all); (case rZ550 => kqd_sub))
  | exact Cut.tail
  | fail "no cut"
  k_with "ktr_rel" => first
  | exact subT_nil
  | exact subT_of (fun _ hp => hp)
  | assumption
  | (refine' subT_skip ?aZ551 ?bZ551; (case aZ551 => rfl); (case bZ551 => ktr_rel))
  | (refine' subT_cons ?aZ551 ?bZ551; (case aZ551 => lsm_bools); (case bZ551 => ktr_rel))
  | (refine' subT_of ?hZ551; (case hZ551 => tb_start))
  | (refine' subT_app (by ktr_rel) (by ktr_rel))
  | fail "tuples not within"
  k_with "k_room" => ktr_room
  k_with "k_units" => ktr_units
  k_with "tb_rel" => first
  | exact TAll.nil
  | exact TIn.str _ _
  | exact TIn.int _ _
  | exact TIn.bytes _ _
  | assumption
  | (refine' TIn.mono ?sZ554 ?hZ554; (case hZ554 => assumption); (case sZ554 => ktr_rel))
  | (refine' TAll.mono ?sZ554 ?hZ554; (case hZ554 => assumption); (case sZ554 => ktr_rel))
  | (refine' TIn.tuple ?mZ554 ?rZ554; (case mZ554 => lsm_bools); (case rZ554 => tb_rel))
  | (refine' TAll.cons (by tb_rel) (by tb_rel))
  | fail "no tree"
  k_with "call ref" => (k_here; (with_reducible show wpAny _ _ (call (Value.ref 214) [Value.str _ _] _) _ _ _); k_dflt (refine' sym_use ?CZ555 ?hcZ555 ?BZ555 ?FZ555 ?XZ555 ?NZ555 ?TZ555 ?hkZ555 ?hdZ555 ?huZ555 ?_; (case CZ555 => exact sym_con _); (case NZ555 => k_asm); (case hcZ555 => kqd_sub); (case BZ555 => k_asm); (case FZ555 => k_asm); (case XZ555 => k_asm); (case TZ555 => k_asm); (case hkZ555 => first | rfl | assumption); (case hdZ555 => ktr_room); (case huZ555 => ktr_units); k_whole; intro a' Y' h' tk' g' F' N' hr'; (try simp only [List.cons_append, List.nil_append] at N'); (try k_fold)))
  k_with "call ref" => (k_here; (with_reducible show wpAny _ _ (call (Value.ref 207) [Value.str _ _, Value.ref _] _) _ _ _); k_dflt (refine' tree_use ?CZ556 ?hcZ556 ?hmZ556 ?hlZ556 ?hTZ556 ?BZ556 ?FZ556 ?XZ556 ?NZ556 ?TZ556 ?hkZ556 ?hdZ556 ?huZ556 ?_; (case CZ556 => exact tree_con _); (case NZ556 => k_asm); (case hcZ556 => kqd_sub); (case hmZ556 => lsm_bools); (case hlZ556 => exact Nat.le_of_ble_eq_true rfl); (case hTZ556 => tb_rel); (case BZ556 => k_asm); (case FZ556 => k_asm); (case XZ556 => k_asm); (case TZ556 => k_asm); (case hkZ556 => first | rfl | assumption); (case hdZ556 => ktr_room); (case huZ556 => ktr_units); k_whole; intro a' Y' h' tk' g' F' N' hr'; (try simp only [List.cons_append, List.nil_append] at N'); (try k_fold)))
  k_with "call ref" => (k_here; (with_reducible show wpAny _ _ (call (Value.ref 68) [_, Value.str _ _] _) _ _ _); k_dflt (refine' isEx_use ?CZ557 ?hvZ557 ?eZ557 ?BZ557 ?FZ557 ?XZ557 ?NZ557 ?TZ557 ?hkZ557 ?hsZ557 ?hdZ557 ?huZ557 ?_; (case CZ557 => exact isEx_con _); (case hvZ557 => assumption); (case eZ557 => first | assumption | rfl); (case hsZ557 => tb_start); (case BZ557 => k_asm); (case FZ557 => k_asm); (case XZ557 => k_asm); (case NZ557 => k_asm); (case TZ557 => k_asm); (case hkZ557 => first | rfl | assumption); (case hdZ557 => ktr_room); (case huZ557 => ktr_units); k_whole; intro h' tk' F' N'; (try k_fold)))
  k_with "call ref" => (k_here; (with_reducible show wpAny _ _ (call (Value.ref 82) [Value.ref _] _) _ _ _); k_dflt (refine' isSym_use ?hmZ558 ?eZ558 ?BZ558 ?FZ558 ?XZ558 ?NZ558 ?TZ558 ?hkZ558 ?hdZ558 ?huZ558 ?_; (case NZ558 => k_asm); (case hmZ558 => lsm_bools); (case eZ558 => first | rfl | decide); (case BZ558 => k_asm); (case FZ558 => k_asm); (case XZ558 => k_asm); (case TZ558 => k_asm); (case hkZ558 => first | rfl | assumption); (case hdZ558 => ktr_room); (case huZ558 => ktr_units); k_whole; intro h' tk' F' N'; (try k_fold)))
  k_with "call ref" => (k_here; (with_reducible show wpAny _ _ (call (Value.ref 75) [Value.ref _] _) _ _ _); k_dflt (first
  | (refine' parts_use ?hmZ559 ?BZ559 ?FZ559 ?XZ559 ?NZ559 ?TZ559 ?hkZ559 ?hdZ559 ?huZ559 ?_; (case NZ559 => k_asm); (case hmZ559 => lsm_bools); (case BZ559 => k_asm); (case FZ559 => k_asm); (case XZ559 => k_asm); (case TZ559 => k_asm); (case hkZ559 => first | rfl | assumption); (case hdZ559 => ktr_room); (case huZ559 => ktr_units); k_whole; intro h' tk' F' N'; (try k_fold))
  | (refine' parts0_use ?hcZ559 ?hmZ559 ?hzZ559 ?BZ559 ?FZ559 ?XZ559 ?NZ559 ?TZ559 ?hkZ559 ?hdZ559 ?huZ559 ?_; (case NZ559 => k_asm); (case hmZ559 => lsm_bools); (case hzZ559 => decide); (case hcZ559 => kqd_sub); (case BZ559 => k_asm); (case FZ559 => k_asm); (case XZ559 => k_asm); (case TZ559 => k_asm); (case hkZ559 => first | rfl | assumption); (case hdZ559 => ktr_room); (case huZ559 => ktr_units); k_whole; intro d' j' Y' h' tk' g' F' N' hm'; (try simp only [List.cons_append, List.nil_append] at N'); (try k_fold))))
  k_with "compareOp In str ref" => (k_here; k_dflt (refine' in_tupL ?htZ560 ?hiZ560 ?_; (case htZ560 => (refine' tupK ?XZ560 ?lZ560; (case XZ560 => k_in); (case lZ560 => k_is))); (case hiZ560 => exact rfl)))
  k_with "compareOp Eq ref ref" => (k_here; k_dflt (first
  | (refine' eq_dat (r := false) ?HZ561 ?d1Z561 ?d2Z561 ?hcZ561 ?hdZ561 ?huZ561 ?_; (case HZ561 => exact heldOf (by k_asm)); (case d1Z561 => tb_rel); (case d2Z561 => tb_rel); (case hcZ561 => with_unfolding_all rfl); (case hdZ561 => exact Nat.le_of_ble_eq_true rfl); (case huZ561 => ktr_units))
  | (refine' eq_dat (r := true) ?HZ561 ?d1Z561 ?d2Z561 ?hcZ561 ?hdZ561 ?huZ561 ?_; (case HZ561 => exact heldOf (by k_asm)); (case d1Z561 => tb_rel); (case d2Z561 => tb_rel); (case hcZ561 => with_unfolding_all rfl); (case hdZ561 => exact Nat.le_of_ble_eq_true rfl); (case huZ561 => ktr_units))))
  k_with "compareOp NotEq ref ref" => (k_here; k_dflt (first
  | (refine' ne_dat (r := false) ?HZ562 ?d1Z562 ?d2Z562 ?hcZ562 ?hdZ562 ?huZ562 ?_; (case HZ562 => exact heldOf (by k_asm)); (case d1Z562 => tb_rel); (case d2Z562 => tb_rel); (case hcZ562 => with_unfolding_all rfl); (case hdZ562 => exact Nat.le_of_ble_eq_true rfl); (case huZ562 => ktr_units))
  | (refine' ne_dat (r := true) ?HZ562 ?d1Z562 ?d2Z562 ?hcZ562 ?hdZ562 ?huZ562 ?_; (case HZ562 => exact heldOf (by k_asm)); (case d1Z562 => tb_rel); (case d2Z562 => tb_rel); (case hcZ562 => with_unfolding_all rfl); (case hdZ562 => exact Nat.le_of_ble_eq_true rfl); (case huZ562 => ktr_units))))
  k_with "subscriptTail Name Constant ref int" => (k_here; k_dflt (refine' item_tupleT ?tZ563 ?aZ563 ?bZ563 ?cZ563 ?dZ563 ?_; (case tZ563 => exact News.isTup (by k_asm) (by k_mem)); (case aZ563 => decide); (case bZ563 => decide); (case cZ563 => rfl); (case dZ563 => rfl); k_whole))
  k_with "ite" => (k_closed; k_dflt (first | (refine' ite_pos ?cZ564 ?_; (case cZ564 => decide)) | (refine' ite_neg ?cZ564 ?_; (case cZ564 => decide))))
  k_with "call ref" => (k_here; (with_reducible show wpAny _ _ (call (Value.ref 54) [Value.str _ _, Value.ref _] _) _ _ _); k_dflt (refine' expr_use ?hcZ565 ?hmZ565 ?hlZ565 ?BZ565 ?FZ565 ?XZ565 ?NZ565 ?TZ565 ?hkZ565 ?hdZ565 ?huZ565 ?_; (case NZ565 => k_asm); (case hmZ565 => lsm_bools); (case hcZ565 => kqd_sub); (case hlZ565 => first | exact Nat.le_of_ble_eq_true rfl | (simp only [List.length_append, List.length_cons, List.length_nil]; omega)); (case BZ565 => k_asm); (case FZ565 => k_asm); (case XZ565 => k_asm); (case TZ565 => k_asm); (case hkZ565 => first | rfl | assumption); (case hdZ565 => ktr_room); (case huZ565 => ktr_units); k_whole; intro a' t1' k' Y' h' tk' g' F' N' hm'; (try simp only [List.cons_append, List.nil_append] at N'); (try k_fold)))
  k_with "call ref" => (k_here; (with_reducible show wpAny _ _ (call (Value.ref 61) [Value.str _ _] _) _ _ _); k_dflt (refine' sym_use ?CZ566 ?hcZ566 ?BZ566 ?FZ566 ?XZ566 ?NZ566 ?TZ566 ?hkZ566 ?hdZ566 ?huZ566 ?_; (case CZ566 => exact symF_con _); (case NZ566 => k_asm); (case hcZ566 => kqd_sub); (case BZ566 => k_asm); (case FZ566 => k_asm); (case XZ566 => k_asm); (case TZ566 => k_asm); (case hkZ566 => first | rfl | assumption); (case hdZ566 => ktr_room); (case huZ566 => ktr_units); k_whole; intro a' Y' h' tk' g' F' N' hr'; (try simp only [List.cons_append, List.nil_append] at N'); (try k_fold)))
  k_with "call type:range cons nil" => (k_here; k_dflt (refine' range1_rows ?FZ567 ?NZ567 ?_; (case FZ567 => k_asm); (case NZ567 => k_asm); k_whole; intro h' tk' t1' u1' v1' hR' F' N' hst'; (try k_fold)))
  k_with "pyIter ref" => (k_here; (with_reducible show wpAny _ _ (pyIter (Value.ref _)) (fun it s₂ => LoopAtV _ _ _ _ _ _ _ _ _ it s₂) _ _); refine' Hold.of ?_)
  k_with "binaryOp Add ref ref" => (k_here; k_dflt (refine' add_cat ?FZ569 ?NZ569 ?aZ569 ?bZ569 ?zZ569 ?_; (case FZ569 => k_asm); (case NZ569 => k_asm); (case aZ569 => lsm_bools); (case bZ569 => lsm_bools); (case zZ569 => (simp only [sizeLine_eq, List.length_cons, List.length_nil]; omega)); k_whole; intro D' h' F' N' l1; (try k_lt l1); (try k_sweep)))
  k_with "subscriptTail Name Slice ref ref" => (k_here; k_dflt (first
  | (refine' slice_whole ?FZ570 ?NZ570 ?tZ570 ?lZ570 ?zZ570 ?_ ?hsZ570 ?hgZ570; (case FZ570 => k_asm); (case NZ570 => k_asm); (case tZ570 => lsm_bools); (case lZ570 => exact Nat.le_of_ble_eq_true rfl); (case zZ570 => exact Nat.le_of_ble_eq_true rfl); (case hsZ570 => with_unfolding_all rfl); (case hgZ570 => (intro _; with_unfolding_all rfl)); k_whole; intro h' F' N'; (try k_sweep))
  | (refine' slice_upto ?FZ570 ?NZ570 ?tZ570 ?lZ570 ?zZ570 ?_ ?hsZ570 ?hgZ570; (case FZ570 => k_asm); (case NZ570 => k_asm); (case tZ570 => lsm_bools); (case lZ570 => exact Nat.le_of_ble_eq_true rfl); (case zZ570 => exact Nat.le_of_ble_eq_true rfl); (case hsZ570 => with_unfolding_all rfl); (case hgZ570 => (intro _; with_unfolding_all rfl)); k_whole; intro D' h' F' N' l1; (try k_lt l1); (try k_sweep))))
  k_with "subscriptTail Name Slice ref ref" => (k_here; k_dflt
  (refine' slice_from ?FZ571 ?NZ571 ?tZ571 ?oZ571 ?lZ571 ?zZ571 ?_ ?hsZ571 ?hgZ571; (case FZ571 => k_asm); (case NZ571 => k_asm); (case tZ571 => lsm_bools); (case oZ571 => exact Nat.le_of_ble_eq_true rfl); (case lZ571 => (simp only [List.length_cons]; omega)); (case zZ571 => (simp only [sizeLine_eq, List.length_cons]; omega)); (case hsZ571 => with_unfolding_all rfl); (case hgZ571 => (intro _; with_unfolding_all rfl)); k_whole; intro D' h' F' N' l1; (try k_lt l1); (try k_sweep)))
  k_with "subscriptTail Subscript Name Constant Slice ref ref" => (k_here; k_dflt
  (refine' slice_from ?FZ572 ?NZ572 ?tZ572 ?oZ572 ?lZ572 ?zZ572 ?_ ?hsZ572 ?hgZ572; (case FZ572 => k_asm); (case NZ572 => k_asm); (case tZ572 => lsm_bools); (case oZ572 => exact Nat.le_of_ble_eq_true rfl); (case lZ572 => (simp only [List.length_cons]; omega)); (case zZ572 => (simp only [sizeLine_eq, List.length_cons]; omega)); (case hsZ572 => with_unfolding_all rfl); (case hgZ572 => (intro _; with_unfolding_all rfl)); k_whole; intro D' h' F' N' l1; (try k_lt l1); (try k_sweep)))
  k_with "call type:tuple cons nil" => (k_here; k_dflt (refine' tuple_of ?FZ573 ?NZ573 ?tZ573 ?zZ573 ?_; (case FZ573 => k_asm); (case NZ573 => k_asm); (case tZ573 => lsm_bools); (case zZ573 => first | exact Nat.le_of_ble_eq_true rfl | (simp only [sizeLine_eq, List.length_append, List.length_cons, List.length_nil]; omega)); k_whole; intro D' h' F' N' l1; (try k_lt l1); (try k_sweep)))
  k_with "subscriptTail Name Constant ref int" => (k_here; k_dflt (refine' item_tupI ?NZ574 ?mZ574 ?aZ574 ?bZ574 ?cZ574 ?_; (case NZ574 => k_asm); (case mZ574 => lsm_bools); (case aZ574 => decide); (case bZ574 => decide); (case cZ574 => exact rfl); k_whole))
  k_with "subscriptTail Subscript Name Constant Constant ref int" => (k_here; k_dflt (refine' item_tupI ?NZ575 ?mZ575 ?aZ575 ?bZ575 ?cZ575 ?_; (case NZ575 => k_asm); (case mZ575 => lsm_bools); (case aZ575 => decide); (case bZ575 => decide); (case cZ575 => exact rfl); k_whole))
  k_with "subscriptTail Subscript Subscript Constant Constant ref int" => (k_here; k_dflt (refine' item_tupI ?NZ576 ?mZ576 ?aZ576 ?bZ576 ?cZ576 ?_; (case NZ576 => k_asm); (case mZ576 => lsm_bools); (case aZ576 => decide); (case bZ576 => decide); (case cZ576 => exact rfl); k_whole))
  k_with "subscriptTail Call Name cons nil Constant ref int" => (k_here; k_dflt (refine' item_tupI ?NZ577 ?mZ577 ?aZ577 ?bZ577 ?cZ577 ?_; (case NZ577 => k_asm); (case mZ577 => lsm_bools); (case aZ577 => decide); (case bZ577 => decide); (case cZ577 => exact rfl); k_whole))
  k_with "binaryOp Add ref ref" => (k_here; k_dflt (refine' add_tupC ?FZ578 ?NZ578 ?aZ578 ?bZ578 ?l1Z578 ?l2Z578 ?zZ578 ?_; (case FZ578 => k_asm); (case NZ578 => k_asm); (case aZ578 => lsm_bools); (case bZ578 => lsm_bools); (case l1Z578 => (simp only [List.length_cons, List.length_nil]; omega)); (case l2Z578 => omega); (case zZ578 => (simp only [sizeLine_eq, List.length_cons, List.length_nil]; omega)); k_whole; intro D' h' F' N' l1; (try k_lt l1); (try k_sweep)))
  k_with "call type:tuple cons nil" => (k_here; k_dflt (refine' tuple_same ?NZ579 ?tZ579 ?_; (case NZ579 => k_asm); (case tZ579 => lsm_bools); k_whole))
  k_with "call builtin:len cons nil" => (k_here; k_dflt (refine' len_tupK ?NZ580 ?tZ580 ?zZ580 ?_; (case NZ580 => k_asm); (case tZ580 => lsm_bools); (case zZ580 => (simp only [sizeLine_eq, List.length_cons, List.length_nil]; omega)); k_whole; intro tk1' tk2'))
  k_with "eval ListComp" => (k_here; refine' Hold.of ?_)
  k_with "compareOp NotEq ref ref" => (k_here; k_dflt (refine' ne_dat (r := false) ?HZ582 ?d1Z582 ?d2Z582 ?hcZ582 ?hdZ582 ?huZ582 ?_; (case HZ582 => exact heldOf (by k_asm)); (case d1Z582 => tb_rel); (case d2Z582 => tb_rel); (case hcZ582 => exact cmp_head (by assumption) _); (case hdZ582 => exact Nat.le_of_ble_eq_true rfl); (case huZ582 => ktr_units)))
  k_with "call ref" => (k_here; (with_reducible show wpAny _ _ (call (Value.ref 233) [_] _) _ _ _); k_dflt (refine' plain_use ?CZ583 ?hoZ583 ?hvZ583 ?BZ583 ?FZ583 ?XZ583 ?NZ583 ?TZ583 ?hkZ583 ?hcZ583 ?hdZ583 ?huZ583 ?_; (case CZ583 => assumption); (case hoZ583 => assumption); (case hvZ583 => assumption); (case BZ583 => k_asm); (case FZ583 => k_asm); (case XZ583 => k_asm); (case NZ583 => k_asm); (case TZ583 => k_asm); (case hkZ583 => first | rfl | assumption); (case hcZ583 => kqd_sub); (case hdZ583 => ktr_room); (case huZ583 => ktr_units); k_whole; intro r' Y' h' tk' g' F' N' hr'; (try simp only [List.cons_append, List.nil_append] at N'); (try k_fold)))
  k_with "call ref" => (k_here; (with_reducible show wpAny _ _ (call (Value.ref 240) [_] _) _ _ _); k_dflt (refine' things_use ?CZ584 ?hoZ584 ?hvZ584 ?BZ584 ?FZ584 ?XZ584 ?NZ584 ?TZ584 ?hkZ584 ?hcZ584 ?hdZ584 ?huZ584 ?_; (case CZ584 => assumption); (case hoZ584 => assumption); (case hvZ584 => assumption); (case BZ584 => k_asm); (case FZ584 => k_asm); (case XZ584 => k_asm); (case NZ584 => k_asm); (case TZ584 => k_asm); (case hkZ584 => first | rfl | assumption); (case hcZ584 => kqd_sub); (case hdZ584 => ktr_room); (case huZ584 => ktr_units); k_whole; intro a' vs' k' Y' h' tk' g' F' N' hr' hrl'; (try simp only [List.cons_append, List.nil_append] at N'); (try k_fold)))
  k_with "exec For Name Subscript" => (k_here; (rename Fr _ _ _ _ => lF'); (with_unfolding_all refine' For_invVF lF' ?k1Z585 ?k2Z585 ?_; (case k1Z585 => exact rfl); (case k2Z585 => exact rfl); k_whole))
  k_with "compareOp Eq ref ref" => (k_here; k_dflt (refine' eq_dat (r := false) ?HZ586 ?d1Z586 ?d2Z586 ?hcZ586 ?hdZ586 ?huZ586 ?_; (case HZ586 => exact heldOf (by k_asm)); (case d1Z586 => tb_rel); (case d2Z586 => tb_rel); (case hcZ586 => exact cmp_head (by assumption) _); (case hdZ586 => exact Nat.le_of_ble_eq_true rfl); (case huZ586 => ktr_units)))
  k_with "compareOp Eq str str" => (k_here; k_dflt (refine' eq_str_no ?hZ587 ?_; (case hZ587 => assumption); k_whole))
  k_with "ktr_enter" => (refine' code_defC ?k1Z588 ?k2Z588 ?k3Z588 ?k4Z588 ?k5Z588 ?kAZ588 ?kFZ588 ?kKZ588 ?k6Z588 ?k7Z588 ?k8Z588 ?k9Z588 ?kBZ588 ?kDZ588 ?_ ?c2Z588 ?c3Z588 ?c4Z588; (case kAZ588 => exact rfl); (case kFZ588 => exact rfl); (case kKZ588 => assumption); (case k1Z588 => k_asm); (case k2Z588 => k_asm); (case k3Z588 => k_asm); (case k4Z588 => k_asm); (case k5Z588 => k_asm); (case k6Z588 => k_is); (case k7Z588 => k_is); (case k8Z588 => ktr_room); (case k9Z588 => exact BindsTo.of_eq rfl); (case kBZ588 => exact rfl); (case kDZ588 => decide +kernel); (case c2Z588 => exact rfl); (case c3Z588 => exact rfl); (case c4Z588 => exact rfl); k_whole; intro g' L' h' tk' cells' FG' F' N' Y' B' X' T' l1; (try k_lt l1); k_cells Y'; (try simp only [List.cons_append, List.nil_append] at N'); (try dsimp only); (try k_fold))
  k_with "call ref" => (k_here; (with_reducible show wpAny _ _ (call (Value.ref 108) [Value.ref _, _] _) _ _ _); k_dflt (refine' fuse_use (f := 108) ?CZ589 ?hoZ589 ?hvZ589 ?hFZ589 ?hstZ589 ?hneZ589 ?hlenZ589 ?hmZ589 ?hcZ589 ?y1Z589 ?y2Z589 ?y3Z589 ?BZ589 ?FZ589 ?XZ589 ?NZ589 ?TZ589 ?hkZ589 ?hdZ589 ?huZ589 ?_; (case CZ589 => assumption); (case hvZ589 => assumption); (case hoZ589 => assumption); (case hFZ589 => assumption); (case hstZ589 => assumption); (case hneZ589 => assumption); (case hlenZ589 => first | assumption | omega); (case BZ589 => k_asm); (case FZ589 => k_asm); (case XZ589 => k_asm); (case NZ589 => k_asm); (case TZ589 => k_asm); (case hkZ589 => first | rfl | assumption); (case hmZ589 => tb_start); (case hcZ589 => kqd_sub); (case y1Z589 => k_all); (case y2Z589 => k_all); (case y3Z589 => k_all); (case hdZ589 => ktr_room); (case huZ589 => ktr_units); k_whole; intro r' t4' tk4' xs' n3' ys' n4' Y' h' tk' g' F' N' hst' hr'; (try simp only [List.cons_append, List.nil_append] at N'); (try k_fold)))
  k_with "call ref" => (k_here; (with_reducible show wpAny _ _ (call (Value.ref 115) [Value.ref _, _] _) _ _ _); k_dflt (refine' fuse_use (f := 115) ?CZ590 ?hoZ590 ?hvZ590 ?hFZ590 ?hstZ590 ?hneZ590 ?hlenZ590 ?hmZ590 ?hcZ590 ?y1Z590 ?y2Z590 ?y3Z590 ?BZ590 ?FZ590 ?XZ590 ?NZ590 ?TZ590 ?hkZ590 ?hdZ590 ?huZ590 ?_; (case CZ590 => assumption); (case hvZ590 => assumption); (case hoZ590 => assumption); (case hFZ590 => assumption); (case hstZ590 => assumption); (case hneZ590 => assumption); (case hlenZ590 => first | assumption | omega); (case BZ590 => k_asm); (case FZ590 => k_asm); (case XZ590 => k_asm); (case NZ590 => k_asm); (case TZ590 => k_asm); (case hkZ590 => first | rfl | assumption); (case hmZ590 => tb_start); (case hcZ590 => kqd_sub); (case y1Z590 => k_all); (case y2Z590 => k_all); (case y3Z590 => k_all); (case hdZ590 => ktr_room); (case huZ590 => ktr_units); k_whole; intro r' t4' tk4' xs' n3' ys' n4' Y' h' tk' g' F' N' hst' hr'; (try simp only [List.cons_append, List.nil_append] at N'); (try k_fold)))
  k_with "call ref" => (k_here; (with_reducible show wpAny _ _ (call (Value.ref 120) [Value.ref _, _] _) _ _ _); k_dflt (refine' fuse_use (f := 120) ?CZ591 ?hoZ591 ?hvZ591 ?hFZ591 ?hstZ591 ?hneZ591 ?hlenZ591 ?hmZ591 ?hcZ591 ?y1Z591 ?y2Z591 ?y3Z591 ?BZ591 ?FZ591 ?XZ591 ?NZ591 ?TZ591 ?hkZ591 ?hdZ591 ?huZ591 ?_; (case CZ591 => assumption); (case hvZ591 => assumption); (case hoZ591 => assumption); (case hFZ591 => assumption); (case hstZ591 => assumption); (case hneZ591 => assumption); (case hlenZ591 => first | assumption | omega); (case BZ591 => k_asm); (case FZ591 => k_asm); (case XZ591 => k_asm); (case NZ591 => k_asm); (case TZ591 => k_asm); (case hkZ591 => first | rfl | assumption); (case hmZ591 => tb_start); (case hcZ591 => kqd_sub); (case y1Z591 => k_all); (case y2Z591 => k_all); (case y3Z591 => k_all); (case hdZ591 => ktr_room); (case huZ591 => ktr_units); k_whole; intro r' t4' tk4' xs' n3' ys' n4' Y' h' tk' g' F' N' hst' hr'; (try simp only [List.cons_append, List.nil_append] at N'); (try k_fold)))
  k_with "call ref" => (k_here; (with_reducible show wpAny _ _ (call (Value.ref 68) [_, Value.str _ _] _) _ _ _); k_dflt (refine' isEx_use ?CZ592 ?hvZ592 ?eZ592 ?BZ592 ?FZ592 ?XZ592 ?NZ592 ?TZ592 ?hkZ592 ?hsZ592 ?hdZ592 ?huZ592 ?_; (case CZ592 => exact isEx_con _); (case hvZ592 => assumption); (case eZ592 => first | rfl | assumption); (case BZ592 => k_asm); (case FZ592 => k_asm); (case XZ592 => k_asm); (case NZ592 => k_asm); (case TZ592 => k_asm); (case hkZ592 => first | rfl | assumption); (case hsZ592 => tb_start); (case hdZ592 => ktr_room); (case huZ592 => ktr_units); k_whole; intro h' tk' F' N'; (try k_fold)))
  k_with "eval Call Name cons nil" => (k_here; refine Call_ ?_)
  trivial
noncomputable def BodyC (w : World) (nn : Nat) : Prop := FuseC w 120 (30 + 8 * nn) (160 + 60 * nn) (TreeOk nn) thingsT bodyT
theorem leaf_not {t : T} (h : LeafK t) : isEx t (kS "dotcall") = false := by
  cases h with
  | sym => rfl
  | int => rfl
  | text => rfl
  | ex h ps h1 => exact beq_eq_false_iff_ne.mpr h1
theorem tree_not {nn : Nat} {t : T} (h : TreeOk nn t) : isEx t (kS "parameters") = false := by
  rcases h with h | h
  · cases leaf_kind h with
    | sym => rfl
    | int => rfl
    | text => rfl
    | ex h ps h1 h2 h3 => exact beq_eq_false_iff_ne.mpr h3
  · cases nn with
    | zero => exact h.elim
    | succ nn =>
      obtain ⟨c, ps, rfl, _⟩ := h
      rfl
set_option maxHeartbeats 8000000 in
theorem body_leafC (w : World) (LC : FuseC w 108 12 100 LeafK thingsT leafB) (nn : Nat) (fz fd sz sd nz lz : Addr) (t : T) (v : Value) (ls : List T) (t4 tk : Tok) (xs : Array Value) (n3 : Nat) (ys : Array Value) (n4 : Nat) (Y : List (Addr × Obj)) (hK : LeafK t) (o3 : @Ne Nat nz lz) (hls : ls.length + (thingsT t).length ≤ 60) (hv : TIn Y v t.dat)
    (hF : FuserIn w Y fz fd sz sd nz lz) (hst : FSt w sd nz lz ls t4 tk xs n3 ys n4 Y) (ho : ∀ q ∈ stM w sd nz lz (ls.length : Int) t4 tk xs n3 ys n4, ∀ p ∈ Y, p.1 ≠ q.1) :
    Con w 120 [.ref fz, v] (30 + 8 * nn) (160 + 60 * nn) (stM w sd nz lz (ls.length : Int) t4 tk xs n3 ys n4) Y (FPost w sd nz lz (ls ++ thingsT t) (bodyT t ls.length)) := by
  have he := leaf_not hK
  have hF0 := hF
  obtain ⟨hF1, ⟨t1, t2, t3, hF2⟩, hF3⟩ := hF0
  obtain ⟨a, rfl⟩ := tree_ref hv
  refine Con.intro ?_
  intro dp un gd cn cs fa ccd cl outer A₀ base h₀ L m s mean mg mb Q E B F X N Tp hk hd hu fin
  have f1 := ho _ (.head _)
  have f2 := ho _ (.tail _ (.head _))
  have f3 := ho _ (.tail _ (.tail _ (.head _)))
  clear ho
  simp only [List.cons_append, List.nil_append] at N f1 f2 f3
  refine wpAny_call ?_
  w_strict (
    k_dflt ktr_enter
    k_steps)
  refine' fin (stM w sd nz lz _ _ _ _ _ _ _) _ _ _ _ (by k_asm) (by k_asm) ?M ?Y (fun Y₁ hs => ?P)
  case M => tb_start
  case Y => tb_start
  case P =>
    rw [body_leaf hK]
    refine' ⟨_, _, _, _, _, _, rfl, FSt.mono ?s ?h, TIn.mono ?s ?r⟩
    case h => assumption
    case r => assumption
    case s => exact fun p q c => hs p (.tail _ (.tail _ (.tail _ (.tail _ q)))) c
set_option maxHeartbeats 8000000 in
theorem body_con (w : World) (LC : FuseC w 108 12 100 LeafK thingsT leafB) (CC : FuseC w 115 20 140 CalOk calL calB) : ∀ nn, nn ≤ 3 → BodyC w nn := by
  intro nn
  induction nn with
  | zero => exact fun _ fz fd sz sd nz lz t v ls t4 tk xs n3 ys n4 Y hK o3 hls hv hF hst ho => hK.elim (fun h => body_leafC w LC 0 fz fd sz sd nz lz t v ls t4 tk xs n3 ys n4 Y (leaf_kind h) o3 hls hv hF hst ho) fun h => h.elim
  | succ nn ih =>
  intro hn fz fd sz sd nz lz t v ls t4 tk xs n3 ys n4 Y hK o3 hls hv hF hst ho
  rcases hK with hK | ⟨c, ps, rfl, hc, hlen1, hlen3, hps⟩
  · exact body_leafC w LC (nn + 1) fz fd sz sd nz lz t v ls t4 tk xs n3 ys n4 Y (leaf_kind hK) o3 hls hv hF hst ho
  have IH : FuseC w 120 (30 + 8 * nn) (160 + 60 * nn) (TreeOk nn) thingsT bodyT := ih (by omega)
  have he : isEx (.ex (kS "dotcall") (c :: ps)) (kS "dotcall") = true := by simp [isEx]
  have hth : thingsT (.ex (kS "dotcall") (c :: ps)) = calL c ++ thingsTs ps := by
    unfold thingsT
    rw [if_pos rfl]
    rfl
  rw [hth] at hls ⊢
  have hcl : ls.length + (calL c).length ≤ 60 := by
    rw [List.length_append] at hls
    omega
  have hF0 := hF
  obtain ⟨hF1, ⟨t1, t2, t3, hF2⟩, hF3⟩ := hF0
  obtain ⟨a, n, t5, t6, b, vs, k, rfl, hm, hm2, hT⟩ := ex_inv hv
  cases hT with
  | @cons cv vs _ _ hcv hT =>
  have hvl := hT.length
  rw [dats_len] at hvl
  obtain ⟨p1, ps1, eps⟩ : ∃ p1 ps1, ps = p1 :: ps1 := by
    cases ps with
    | nil => simp at hlen1
    | cons p q => exact ⟨p, q, rfl⟩
  have he1 : isEx p1 (kS "parameters") = false := tree_not (hps p1 (by rw [eps]; exact .head _))
  obtain ⟨v1, vs1, evs, hv1⟩ : ∃ v1 vs1, vs = v1 :: vs1 ∧ TIn Y v1 p1.dat := by
    rw [eps] at hT
    cases hT with
    | cons a b => exact ⟨_, _, rfl, a⟩
  subst evs
  have hvl2 : vs1.length ≤ 2 := by
    rw [List.length_cons] at hvl
    omega
  have hlv2 : 2 ≤ (cv :: v1 :: vs1).length := by simp
  refine Con.intro ?_
  intro dp un gd cn cs fa ccd cl outer A₀ base h₀ L m s mean mg mb Q E B F X N Tp hk hd hu fin
  have f1 := ho _ (.head _)
  have f2 := ho _ (.tail _ (.head _))
  have f3 := ho _ (.tail _ (.tail _ (.head _)))
  clear ho
  simp only [List.cons_append, List.nil_append] at N f1 f2 f3
  refine wpAny_call ?_
  w_strict (
    k_dflt ktr_enter
    k_steps)
  unfold Hold
  rename Fr _ _ _ _ => F1
  rename News _ _ _ _ => N1
  refine' comp_tup F1 ?hh ?hclos ?hcell ?hkind ?hnames ?hx ?h ?hs
  case hh => rfl
  case hclos => with_unfolding_all rfl
  case hcell => decide
  case hkind => rfl
  case hnames => decide
  case hx => rfl
  case hs => (intro _; with_unfolding_all rfl)
  case h =>
    w_strict (
      k_steps)
    refine' csrc_fuse (w := w) (sd := sd) (nz := nz) (lz := lz) (ls1 := ls ++ calL c) (vs := v1 :: vs1) (ps := ps) ?F ?N ?hm ?hc ?y1 ?y2 ?y3 ?hst ?hax ?hz (TAll.mono ?sub hT) ?turn ?fin
    case hst => assumption
    case F => k_asm
    case N => k_asm
    case hm => tb_start
    case hc => kqd_sub
    case y1 => k_all
    case y2 => k_all
    case y3 => k_all
    case hax => lsm_bools
    case hz => (simp only [sizeLine_eq, List.length_cons]; omega)
    case sub => exact subT_of (by tb_start)
    case turn =>
      intro i ys nw v p I oI C oC D m₂ h tk' t4 tk xs n3 ys4 n4 hp hsub hpv hT' hst' j4 j5 j6 hoI hoC hx F' N' off ne
      have hpm := List.mem_of_getElem? hp
      have hpo : TreeOk nn p := hps p hpm
      have hYn : ∀ p ∈ Y, p ∈ nw := fun p hp => hsub p (.tail _ (.tail _ (.tail _ (GrowT.mem (by assumption) hp))))
      have hcell := hsub _ (.tail _ (.tail _ (.head _)))
      have hFn := hF.mono hYn
      have hF1n := hYn _ hF1
      have hF2n := hYn _ hF2
      have hln : (ls ++ calL c ++ thingsTs (ps.take i)).length + (thingsT p).length ≤ 60 := by
        have := thingsTs_take_le ps hp
        simp only [List.length_append] at hls ⊢
        omega
      simp only [List.cons_append, List.nil_append] at N'
      have off' := off
      simp only [List.cons_append, List.nil_append] at off'
      k_sweep
      w_strict (
        k_steps)
      refine' fuse_end ?F ?N ?I ?C ?D ?M ?hY ?g off hoI (nsObj_not hoC) ?hS hp hsub hT' ?hst ?hr j4 j5 j6
      case g => assumption
      case F => k_asm
      case N => k_asm
      case hst => assumption
      case hr => assumption
      case I => lsm_bools
      case C => lsm_bools
      case D => lsm_bools
      case M => tb_start
      case hY => tb_start
      case hS => exact hsub _ (.head _)
    case fin =>
      intro ys nw D h tk' t4 tk xs n3 ys4 n4 hsub hT' hst' j4 j5 j6 F' N'
      have hyl : ys.length = ps.length := by
        have := hT'.length
        rw [dats_len, bodyTs_len] at this
        exact this
      have hD1 := hsub _ (.tail _ (.head _))
      simp only [List.cons_append, List.nil_append] at N'
      rw [List.append_assoc] at hst' N'
      have hr1 : TIn nw _ (calB c ls.length).dat := TIn.mono (subT_of (sub3 hsub)) (by assumption)
      k_sweep
      w_strict (
        k_steps)
      refine' fin (stM w sd nz lz _ _ _ _ _ _ _) _ _ _ _ (by k_asm) (by k_asm) ?M ?Y (fun Y₁ hs => ?P)
      case M => tb_start
      case Y => exact fun p hp => (show ∀ p ∈ nw, p ∈ _ by tb_start) p (hsub p (.tail _ (.tail _ (.tail _ (GrowT.mem (by assumption) hp)))))
      case P =>
        have e : bodyT (.ex (kS "dotcall") (c :: ps)) ls.length = .ex (kS "call") (calB c ls.length :: bodyTs ps (ls.length + (calL c).length)) := by
          unfold bodyT
          rw [if_pos rfl]
        rw [e]
        refine' ⟨_, _, _, _, _, _, rfl, FSt.mono ?s hst', TIn.mono hs ?r⟩
        case s => exact fun p q c => hs p ((show ∀ p ∈ nw, p ∈ _ by tb_start) p q) c
        case r =>
          show TIn _ _ (.tuple [sS "expr", sS "call", .tuple ((calB c ls.length).dat :: T.dats (bodyTs ps (ls.length + (calL c).length)))])
          rw [← List.length_append]
          tb_rel
end
section
-- MEnd
theorem reset_MEnd : True := by
  w_top off
  k_with "compareOp NotEq ref ref" => (k_here; k_dflt (first
  | (refine' ne_nn ?NZ545 ?h1Z545 ?h2Z545 ?huZ545 ?_; (case NZ545 => k_asm); (case h1Z545 => lsm_bools); (case h2Z545 => lsm_bools); (case huZ545 => ktr_units); k_whole)
  | (refine' ne_cn ?NZ545 ?h1Z545 ?h2Z545 ?d1Z545 ?okZ545 ?huZ545 ?_; (case NZ545 => k_asm); (case h1Z545 => lsm_bools); (case h2Z545 => lsm_bools); (case d1Z545 => tb_rel); (case okZ545 => decide +kernel); (case huZ545 => ktr_units); k_whole)))
  k_with "compareOp Eq ref ref" => (k_here; k_dflt (first
  | (refine' eq_dat (r := false) ?HZ546 ?d1Z546 ?d2Z546 ?hcZ546 ?hdZ546 ?huZ546 ?_; (case HZ546 => exact heldOf (by k_asm)); (case d1Z546 => tb_rel); (case d2Z546 => (show TIn _ _ (symD _); tb_rel)); (case hcZ546 => with_unfolding_all rfl); (case hdZ546 => exact Nat.le_of_ble_eq_true rfl); (case huZ546 => ktr_units))
  | (refine' eq_dat (r := true) ?HZ546 ?d1Z546 ?d2Z546 ?hcZ546 ?hdZ546 ?huZ546 ?_; (case HZ546 => exact heldOf (by k_asm)); (case d1Z546 => tb_rel); (case d2Z546 => (show TIn _ _ (symD _); tb_rel)); (case hcZ546 => with_unfolding_all rfl); (case hdZ546 => exact Nat.le_of_ble_eq_true rfl); (case huZ546 => ktr_units))))
  k_with "call builtin:list.extend" => (k_here; k_dflt (refine' ext_nilT ?FZ547 ?NZ547 ?bZ547 ?UZ547 ?zZ547 ?_; (case FZ547 => k_asm); (case NZ547 => k_asm); (case bZ547 => lsm_bools); (case UZ547 => k_upd); (case zZ547 => exact Nat.le_of_ble_eq_true rfl)); intro h' F' N'; (try dsimp only at N'); (try k_sweep))
  trivial
set_option maxHeartbeats 8000000 in
theorem mend_colon (w : World) (v : Value) (Y : List (Addr × Obj)) (hv : TIn Y v (tS ":").dat) : Con w 141 [v] 12 100 [] Y (fun M' _ r => M' = [] ∧ r = .bool false) := by
  obtain ⟨a, n, t1, t2, rfl, hm⟩ := sym_inv hv
  refine Con.intro ?_
  intro dp un gd cn cs fa ccd cl outer A₀ base h₀ L m s mean mg mb Q E B F X N Tp hk hd hu fin
  simp only [List.nil_append] at N
  refine wpAny_call ?_
  w_strict (
    k_dflt ktr_enter
    k_steps)
  refine' fin [] _ _ _ _ (by k_asm) (by k_asm) (List.forall_mem_nil _) ?Y (fun _ _ => ⟨rfl, rfl⟩)
  case Y => tb_start
set_option maxHeartbeats 8000000 in
theorem mend_end (w : World) (v : Value) (Y : List (Addr × Obj)) (hv : TIn Y v (tS "end").dat) : Con w 141 [v] 12 100 [] Y (fun M' _ r => M' = [] ∧ r = .bool true) := by
  obtain ⟨a, n, t1, t2, rfl, hm⟩ := sym_inv hv
  refine Con.intro ?_
  intro dp un gd cn cs fa ccd cl outer A₀ base h₀ L m s mean mg mb Q E B F X N Tp hk hd hu fin
  simp only [List.nil_append] at N
  refine wpAny_call ?_
  w_strict (
    k_dflt ktr_enter
    k_steps)
  refine' fin [] _ _ _ _ (by k_asm) (by k_asm) (List.forall_mem_nil _) ?Y (fun _ _ => ⟨rfl, rfl⟩)
  case Y => tb_start
set_option maxHeartbeats 8000000 in
theorem mend_call (w : World) (v : Value) (Y : List (Addr × Obj)) (hv : TIn Y v (tE "call" [tS "k", .int 3]).dat) : Con w 141 [v] 12 100 [] Y (fun M' _ r => M' = [] ∧ r = .bool false) := by
  obtain ⟨a, n, t1, t2, b, vs, k, rfl, hm, hm2, hT⟩ := ex_inv hv
  cases hT with
  | cons hv1 hT =>
  cases hT with
  | cons hv2 hT =>
  cases hT
  obtain ⟨a1, n1, t3, t4, rfl, hm3⟩ := sym_inv hv1
  obtain ⟨a2, n2, t5, t6, rfl, hm4⟩ := int_inv hv2
  refine Con.intro ?_
  intro dp un gd cn cs fa ccd cl outer A₀ base h₀ L m s mean mg mb Q E B F X N Tp hk hd hu fin
  simp only [List.nil_append] at N
  refine wpAny_call ?_
  w_strict (
    k_dflt ktr_enter
    k_steps)
  refine' fin [] _ _ _ _ (by k_asm) (by k_asm) (List.forall_mem_nil _) ?Y (fun _ _ => ⟨rfl, rfl⟩)
  case Y => tb_start
end
section
-- Fused
theorem reset_Fused : True := by
  w_top off
  k_with_none
  k_with "kt_len" => first | assumption | exact ltm (by assumption) (by lsm_bools) | exact lt3 (by assumption) (by assumption) (by lsm_bools) | exact ltk (by assumption) | exact lk0 (by assumption) (by rfl) | exact lk1 (by assumption) (by rfl) | exact ltn (by assumption) (by lsm_bools) | exact lka (by rfl) | exact lkb (by rfl) | exact And.left (by assumption) | exact pj1 (by assumption) | exact pj2 (by assumption) | fail "no"
  k_with "ktr_room" => first | exact szg (by rfl) | exact rm2 (by assumption) (by rfl) | exact rs2 (by assumption) (by rfl) | exact rm0 (by assumption) | exact rm1 (by assumption) (by rfl) | exact rs1 (by assumption) (by rfl) | exact rm3 (by assumption) (by rfl) | exact rm4 (by assumption) (by rfl) | exact rm5 (by assumption) (by rfl) | exact rmn (by assumption) (by assumption) (by rfl) | exact rmt (by assumption) (by rfl) | fail "no"
  k_with "ktr_units" => k_extra "ktr_room"
  k_with "omega" => first | with_reducible assumption | (show (_ : Nat) < _; first | assumption | k_extra "ktr_room") | (show (_ : Nat) ≤ _; first | assumption | exact szg (by rfl) | exact sza (by assumption) (by rfl) | exact szb (by assumption) (by assumption) (by rfl) | exact szc (by assumption) (by rfl) | exact szd (by assumption) (by rfl) | exact cza (by assumption) (by rfl) | exact szs (by assumption) | exact Nat.le_of_eq (by assumption)) | (show (_ : Nat) ≠ _; first | assumption | exact Ne.symm (by assumption) | exact ofI (by assumption) (by lsm_bools) | exact ofC (by assumption) (by lsm_bools) | exact ofD (by assumption) (by lsm_bools) | exact fI (by assumption) (by lsm_bools) | exact fC (by assumption) (by lsm_bools) | exact fD (by assumption) (by lsm_bools) | exact Nat.ne_of_lt (by kt_len) | exact Nat.ne_of_gt (by kt_len)) | (show (_ : Nat) < _ ∨ _; first | exact Or.inl (by kt_len) | exact Or.inr (by kt_len)) | fail "no"
  k_with "lsm_bools" => first | exact List.Mem.head _ | assumption | (refine' List.Mem.tail _ ?_; lsm_bools) | (refine' GrowT.mem ?gZ605 ?hZ605; (case gZ605 => assumption); (case hZ605 => lsm_bools)) | fail "no entry"
  k_with "k_mem" => first | lsm_bools | fail "no entry"
  k_with "tb_start" => first
  | exact List.forall_mem_nil _
  | (refine' List.forall_mem_cons.mpr ⟨?aZ607, ?bZ607⟩; (case aZ607 => lsm_bools); (case bZ607 => tb_start))
  | (intro p hp; repeat (first | exact hp | refine List.mem_cons_of_mem _ ?_ | refine List.Mem.tail _ ?_ | refine GrowT.mem' (by assumption) ?_ | refine GrowT.mem (by assumption) ?_ | fail "no entry"))
  | fail "not within"
  k_with "k_all" => first
  | assumption
  | (refine' GrowT.off ?gZ608 ?oZ608 ?NZ608 ?sZ608 ?mZ608 ?cZ608; (case gZ608 => assumption); (case NZ608 => k_asm); (case sZ608 => tb_start); (case mZ608 => lsm_bools); (case cZ608 => rfl); (case oZ608 => k_all))
  | (refine' offLt ?hZ608 ?sZ608; (case hZ608 => assumption); (case sZ608 => tb_start))
  | (refine' offLt3 ?qZ608 ?hZ608 ?sZ608; (case qZ608 => assumption); (case hZ608 => assumption); (case sZ608 => tb_start))
  | fail "not apart"
  k_with "kqd_sub" => first
  | (refine' Cut.own ?mZ609 ?rZ609; (case mZ609 => lsm_bools); (case rZ609 => kqd_sub))
  | (refine' Cut.oth ?oZ609 ?rZ609; (case oZ609 => k_all); (case rZ609 => kqd_sub))
  | exact Cut.tail
  | fail "no cut"
  k_with "ktr_rel" => first
  | exact subT_nil
  | exact subT_of (fun _ hp => hp)
  | assumption
  | (refine' subT_skip ?aZ610 ?bZ610; (case aZ610 => rfl); (case bZ610 => ktr_rel))
  | (refine' subT_cons ?aZ610 ?bZ610; (case aZ610 => lsm_bools); (case bZ610 => ktr_rel))
  | (refine' subT_of ?hZ610; (case hZ610 => tb_start))
  | (refine' subT_app (by ktr_rel) (by ktr_rel))
  | fail "tuples not within"
  k_with "k_room" => ktr_room
  k_with "k_units" => ktr_units
  k_with "tb_rel" => first
  | exact TAll.nil
  | exact TIn.str _ _
  | exact TIn.int _ _
  | exact TIn.bytes _ _
  | assumption
  | (refine' TIn.mono ?sZ613 ?hZ613; (case hZ613 => assumption); (case sZ613 => ktr_rel))
  | (refine' TAll.mono ?sZ613 ?hZ613; (case hZ613 => assumption); (case sZ613 => ktr_rel))
  | (refine' TIn.tuple ?mZ613 ?rZ613; (case mZ613 => lsm_bools); (case rZ613 => tb_rel))
  | (refine' TAll.cons (by tb_rel) (by tb_rel))
  | fail "no tree"
  k_with "call ref" => (k_here; (with_reducible show wpAny _ _ (call (Value.ref 214) [Value.str _ _] _) _ _ _); k_dflt (refine' sym_use ?CZ614 ?hcZ614 ?BZ614 ?FZ614 ?XZ614 ?NZ614 ?TZ614 ?hkZ614 ?hdZ614 ?huZ614 ?_; (case CZ614 => exact sym_con _); (case NZ614 => k_asm); (case hcZ614 => kqd_sub); (case BZ614 => k_asm); (case FZ614 => k_asm); (case XZ614 => k_asm); (case TZ614 => k_asm); (case hkZ614 => first | rfl | assumption); (case hdZ614 => ktr_room); (case huZ614 => ktr_units); k_whole; intro a' Y' h' tk' g' F' N' hr'; (try simp only [List.cons_append, List.nil_append] at N'); (try k_fold)))
  k_with "call ref" => (k_here; (with_reducible show wpAny _ _ (call (Value.ref 207) [Value.str _ _, Value.ref _] _) _ _ _); k_dflt (refine' tree_use ?CZ615 ?hcZ615 ?hmZ615 ?hlZ615 ?hTZ615 ?BZ615 ?FZ615 ?XZ615 ?NZ615 ?TZ615 ?hkZ615 ?hdZ615 ?huZ615 ?_; (case CZ615 => exact tree_con _); (case NZ615 => k_asm); (case hcZ615 => kqd_sub); (case hmZ615 => lsm_bools); (case hlZ615 => exact Nat.le_of_ble_eq_true rfl); (case hTZ615 => tb_rel); (case BZ615 => k_asm); (case FZ615 => k_asm); (case XZ615 => k_asm); (case TZ615 => k_asm); (case hkZ615 => first | rfl | assumption); (case hdZ615 => ktr_room); (case huZ615 => ktr_units); k_whole; intro a' Y' h' tk' g' F' N' hr'; (try simp only [List.cons_append, List.nil_append] at N'); (try k_fold)))
  k_with "call ref" => (k_here; (with_reducible show wpAny _ _ (call (Value.ref 68) [_, Value.str _ _] _) _ _ _); k_dflt (refine' isEx_use ?CZ616 ?hvZ616 ?eZ616 ?BZ616 ?FZ616 ?XZ616 ?NZ616 ?TZ616 ?hkZ616 ?hsZ616 ?hdZ616 ?huZ616 ?_; (case CZ616 => exact isEx_con _); (case hvZ616 => assumption); (case eZ616 => first | assumption | rfl); (case hsZ616 => tb_start); (case BZ616 => k_asm); (case FZ616 => k_asm); (case XZ616 => k_asm); (case NZ616 => k_asm); (case TZ616 => k_asm); (case hkZ616 => first | rfl | assumption); (case hdZ616 => ktr_room); (case huZ616 => ktr_units); k_whole; intro h' tk' F' N'; (try k_fold)))
  k_with "call ref" => (k_here; (with_reducible show wpAny _ _ (call (Value.ref 82) [Value.ref _] _) _ _ _); k_dflt (refine' isSym_use ?hmZ617 ?eZ617 ?BZ617 ?FZ617 ?XZ617 ?NZ617 ?TZ617 ?hkZ617 ?hdZ617 ?huZ617 ?_; (case NZ617 => k_asm); (case hmZ617 => lsm_bools); (case eZ617 => first | rfl | decide); (case BZ617 => k_asm); (case FZ617 => k_asm); (case XZ617 => k_asm); (case TZ617 => k_asm); (case hkZ617 => first | rfl | assumption); (case hdZ617 => ktr_room); (case huZ617 => ktr_units); k_whole; intro h' tk' F' N'; (try k_fold)))
  k_with "call ref" => (k_here; (with_reducible show wpAny _ _ (call (Value.ref 75) [Value.ref _] _) _ _ _); k_dflt (first
  | (refine' parts_use ?hmZ618 ?BZ618 ?FZ618 ?XZ618 ?NZ618 ?TZ618 ?hkZ618 ?hdZ618 ?huZ618 ?_; (case NZ618 => k_asm); (case hmZ618 => lsm_bools); (case BZ618 => k_asm); (case FZ618 => k_asm); (case XZ618 => k_asm); (case TZ618 => k_asm); (case hkZ618 => first | rfl | assumption); (case hdZ618 => ktr_room); (case huZ618 => ktr_units); k_whole; intro h' tk' F' N'; (try k_fold))
  | (refine' parts0_use ?hcZ618 ?hmZ618 ?hzZ618 ?BZ618 ?FZ618 ?XZ618 ?NZ618 ?TZ618 ?hkZ618 ?hdZ618 ?huZ618 ?_; (case NZ618 => k_asm); (case hmZ618 => lsm_bools); (case hzZ618 => decide); (case hcZ618 => kqd_sub); (case BZ618 => k_asm); (case FZ618 => k_asm); (case XZ618 => k_asm); (case TZ618 => k_asm); (case hkZ618 => first | rfl | assumption); (case hdZ618 => ktr_room); (case huZ618 => ktr_units); k_whole; intro d' j' Y' h' tk' g' F' N' hm'; (try simp only [List.cons_append, List.nil_append] at N'); (try k_fold))))
  k_with "compareOp In str ref" => (k_here; k_dflt (refine' in_tupL ?htZ619 ?hiZ619 ?_; (case htZ619 => (refine' tupK ?XZ619 ?lZ619; (case XZ619 => k_in); (case lZ619 => k_is))); (case hiZ619 => exact rfl)))
  k_with "compareOp Eq ref ref" => (k_here; k_dflt (first
  | (refine' eq_dat (r := false) ?HZ620 ?d1Z620 ?d2Z620 ?hcZ620 ?hdZ620 ?huZ620 ?_; (case HZ620 => exact heldOf (by k_asm)); (case d1Z620 => tb_rel); (case d2Z620 => tb_rel); (case hcZ620 => with_unfolding_all rfl); (case hdZ620 => exact Nat.le_of_ble_eq_true rfl); (case huZ620 => ktr_units))
  | (refine' eq_dat (r := true) ?HZ620 ?d1Z620 ?d2Z620 ?hcZ620 ?hdZ620 ?huZ620 ?_; (case HZ620 => exact heldOf (by k_asm)); (case d1Z620 => tb_rel); (case d2Z620 => tb_rel); (case hcZ620 => with_unfolding_all rfl); (case hdZ620 => exact Nat.le_of_ble_eq_true rfl); (case huZ620 => ktr_units))))
  k_with "compareOp NotEq ref ref" => (k_here; k_dflt (first
  | (refine' ne_dat (r := false) ?HZ621 ?d1Z621 ?d2Z621 ?hcZ621 ?hdZ621 ?huZ621 ?_; (case HZ621 => exact heldOf (by k_asm)); (case d1Z621 => tb_rel); (case d2Z621 => tb_rel); (case hcZ621 => with_unfolding_all rfl); (case hdZ621 => exact Nat.le_of_ble_eq_true rfl); (case huZ621 => ktr_units))
  | (refine' ne_dat (r := true) ?HZ621 ?d1Z621 ?d2Z621 ?hcZ621 ?hdZ621 ?huZ621 ?_; (case HZ621 => exact heldOf (by k_asm)); (case d1Z621 => tb_rel); (case d2Z621 => tb_rel); (case hcZ621 => with_unfolding_all rfl); (case hdZ621 => exact Nat.le_of_ble_eq_true rfl); (case huZ621 => ktr_units))))
  k_with "subscriptTail Name Constant ref int" => (k_here; k_dflt (refine' item_tupleT ?tZ622 ?aZ622 ?bZ622 ?cZ622 ?dZ622 ?_; (case tZ622 => exact News.isTup (by k_asm) (by k_mem)); (case aZ622 => decide); (case bZ622 => decide); (case cZ622 => rfl); (case dZ622 => rfl); k_whole))
  k_with "ite" => (k_closed; k_dflt (first | (refine' ite_pos ?cZ623 ?_; (case cZ623 => decide)) | (refine' ite_neg ?cZ623 ?_; (case cZ623 => decide))))
  k_with "call ref" => (k_here; (with_reducible show wpAny _ _ (call (Value.ref 54) [Value.str _ _, Value.ref _] _) _ _ _); k_dflt (refine' expr_use ?hcZ624 ?hmZ624 ?hlZ624 ?BZ624 ?FZ624 ?XZ624 ?NZ624 ?TZ624 ?hkZ624 ?hdZ624 ?huZ624 ?_; (case NZ624 => k_asm); (case hmZ624 => lsm_bools); (case hcZ624 => kqd_sub); (case hlZ624 => first | exact Nat.le_of_ble_eq_true rfl | (simp only [List.length_append, List.length_cons, List.length_nil]; omega)); (case BZ624 => k_asm); (case FZ624 => k_asm); (case XZ624 => k_asm); (case TZ624 => k_asm); (case hkZ624 => first | rfl | assumption); (case hdZ624 => ktr_room); (case huZ624 => ktr_units); k_whole; intro a' t1' k' Y' h' tk' g' F' N' hm'; (try simp only [List.cons_append, List.nil_append] at N'); (try k_fold)))
  k_with "call ref" => (k_here; (with_reducible show wpAny _ _ (call (Value.ref 61) [Value.str _ _] _) _ _ _); k_dflt (refine' sym_use ?CZ625 ?hcZ625 ?BZ625 ?FZ625 ?XZ625 ?NZ625 ?TZ625 ?hkZ625 ?hdZ625 ?huZ625 ?_; (case CZ625 => exact symF_con _); (case NZ625 => k_asm); (case hcZ625 => kqd_sub); (case BZ625 => k_asm); (case FZ625 => k_asm); (case XZ625 => k_asm); (case TZ625 => k_asm); (case hkZ625 => first | rfl | assumption); (case hdZ625 => ktr_room); (case huZ625 => ktr_units); k_whole; intro a' Y' h' tk' g' F' N' hr'; (try simp only [List.cons_append, List.nil_append] at N'); (try k_fold)))
  k_with "call type:range cons nil" => (k_here; k_dflt (refine' range1_rows ?FZ626 ?NZ626 ?_; (case FZ626 => k_asm); (case NZ626 => k_asm); k_whole; intro h' tk' t1' u1' v1' hR' F' N' hst'; (try k_fold)))
  k_with "pyIter ref" => (k_here; (with_reducible show wpAny _ _ (pyIter (Value.ref _)) (fun it s₂ => LoopAtV _ _ _ _ _ _ _ _ _ it s₂) _ _); refine' Hold.of ?_)
  k_with "binaryOp Add ref ref" => (k_here; k_dflt (refine' add_cat ?FZ628 ?NZ628 ?aZ628 ?bZ628 ?zZ628 ?_; (case FZ628 => k_asm); (case NZ628 => k_asm); (case aZ628 => lsm_bools); (case bZ628 => lsm_bools); (case zZ628 => (simp only [sizeLine_eq, List.length_cons, List.length_nil]; omega)); k_whole; intro D' h' F' N' l1; (try k_lt l1); (try k_sweep)))
  k_with "subscriptTail Name Slice ref ref" => (k_here; k_dflt (first
  | (refine' slice_whole ?FZ629 ?NZ629 ?tZ629 ?lZ629 ?zZ629 ?_ ?hsZ629 ?hgZ629; (case FZ629 => k_asm); (case NZ629 => k_asm); (case tZ629 => lsm_bools); (case lZ629 => exact Nat.le_of_ble_eq_true rfl); (case zZ629 => exact Nat.le_of_ble_eq_true rfl); (case hsZ629 => with_unfolding_all rfl); (case hgZ629 => (intro _; with_unfolding_all rfl)); k_whole; intro h' F' N'; (try k_sweep))
  | (refine' slice_upto ?FZ629 ?NZ629 ?tZ629 ?lZ629 ?zZ629 ?_ ?hsZ629 ?hgZ629; (case FZ629 => k_asm); (case NZ629 => k_asm); (case tZ629 => lsm_bools); (case lZ629 => exact Nat.le_of_ble_eq_true rfl); (case zZ629 => exact Nat.le_of_ble_eq_true rfl); (case hsZ629 => with_unfolding_all rfl); (case hgZ629 => (intro _; with_unfolding_all rfl)); k_whole; intro D' h' F' N' l1; (try k_lt l1); (try k_sweep))))
  k_with "subscriptTail Name Slice ref ref" => (k_here; k_dflt
  (refine' slice_from ?FZ630 ?NZ630 ?tZ630 ?oZ630 ?lZ630 ?zZ630 ?_ ?hsZ630 ?hgZ630; (case FZ630 => k_asm); (case NZ630 => k_asm); (case tZ630 => lsm_bools); (case oZ630 => exact Nat.le_of_ble_eq_true rfl); (case lZ630 => (simp only [List.length_cons]; omega)); (case zZ630 => (simp only [sizeLine_eq, List.length_cons]; omega)); (case hsZ630 => with_unfolding_all rfl); (case hgZ630 => (intro _; with_unfolding_all rfl)); k_whole; intro D' h' F' N' l1; (try k_lt l1); (try k_sweep)))
  k_with "subscriptTail Subscript Name Constant Slice ref ref" => (k_here; k_dflt
  (refine' slice_from ?FZ631 ?NZ631 ?tZ631 ?oZ631 ?lZ631 ?zZ631 ?_ ?hsZ631 ?hgZ631; (case FZ631 => k_asm); (case NZ631 => k_asm); (case tZ631 => lsm_bools); (case oZ631 => exact Nat.le_of_ble_eq_true rfl); (case lZ631 => (simp only [List.length_cons]; omega)); (case zZ631 => (simp only [sizeLine_eq, List.length_cons]; omega)); (case hsZ631 => with_unfolding_all rfl); (case hgZ631 => (intro _; with_unfolding_all rfl)); k_whole; intro D' h' F' N' l1; (try k_lt l1); (try k_sweep)))
  k_with "call type:tuple cons nil" => (k_here; k_dflt (refine' tuple_of ?FZ632 ?NZ632 ?tZ632 ?zZ632 ?_; (case FZ632 => k_asm); (case NZ632 => k_asm); (case tZ632 => lsm_bools); (case zZ632 => first | exact Nat.le_of_ble_eq_true rfl | (simp only [sizeLine_eq, List.length_append, List.length_cons, List.length_nil]; omega)); k_whole; intro D' h' F' N' l1; (try k_lt l1); (try k_sweep)))
  k_with "subscriptTail Name Constant ref int" => (k_here; k_dflt (refine' item_tupI ?NZ633 ?mZ633 ?aZ633 ?bZ633 ?cZ633 ?_; (case NZ633 => k_asm); (case mZ633 => lsm_bools); (case aZ633 => decide); (case bZ633 => decide); (case cZ633 => exact rfl); k_whole))
  k_with "subscriptTail Subscript Name Constant Constant ref int" => (k_here; k_dflt (refine' item_tupI ?NZ634 ?mZ634 ?aZ634 ?bZ634 ?cZ634 ?_; (case NZ634 => k_asm); (case mZ634 => lsm_bools); (case aZ634 => decide); (case bZ634 => decide); (case cZ634 => exact rfl); k_whole))
  k_with "subscriptTail Subscript Subscript Constant Constant ref int" => (k_here; k_dflt (refine' item_tupI ?NZ635 ?mZ635 ?aZ635 ?bZ635 ?cZ635 ?_; (case NZ635 => k_asm); (case mZ635 => lsm_bools); (case aZ635 => decide); (case bZ635 => decide); (case cZ635 => exact rfl); k_whole))
  k_with "subscriptTail Call Name cons nil Constant ref int" => (k_here; k_dflt (refine' item_tupI ?NZ636 ?mZ636 ?aZ636 ?bZ636 ?cZ636 ?_; (case NZ636 => k_asm); (case mZ636 => lsm_bools); (case aZ636 => decide); (case bZ636 => decide); (case cZ636 => exact rfl); k_whole))
  k_with "binaryOp Add ref ref" => (k_here; k_dflt (refine' add_tupC ?FZ637 ?NZ637 ?aZ637 ?bZ637 ?l1Z637 ?l2Z637 ?zZ637 ?_; (case FZ637 => k_asm); (case NZ637 => k_asm); (case aZ637 => lsm_bools); (case bZ637 => lsm_bools); (case l1Z637 => (simp only [List.length_cons, List.length_nil]; omega)); (case l2Z637 => omega); (case zZ637 => (simp only [sizeLine_eq, List.length_cons, List.length_nil]; omega)); k_whole; intro D' h' F' N' l1; (try k_lt l1); (try k_sweep)))
  k_with "call type:tuple cons nil" => (k_here; k_dflt (refine' tuple_same ?NZ638 ?tZ638 ?_; (case NZ638 => k_asm); (case tZ638 => lsm_bools); k_whole))
  k_with "call builtin:len cons nil" => (k_here; k_dflt (refine' len_tupK ?NZ639 ?tZ639 ?zZ639 ?_; (case NZ639 => k_asm); (case tZ639 => lsm_bools); (case zZ639 => (simp only [sizeLine_eq, List.length_cons, List.length_nil]; omega)); k_whole; intro tk1' tk2'))
  k_with "eval ListComp" => (k_here; refine' Hold.of ?_)
  k_with "compareOp NotEq ref ref" => (k_here; k_dflt (refine' ne_dat (r := false) ?HZ641 ?d1Z641 ?d2Z641 ?hcZ641 ?hdZ641 ?huZ641 ?_; (case HZ641 => exact heldOf (by k_asm)); (case d1Z641 => tb_rel); (case d2Z641 => tb_rel); (case hcZ641 => exact cmp_head (by assumption) _); (case hdZ641 => exact Nat.le_of_ble_eq_true rfl); (case huZ641 => ktr_units)))
  k_with "call ref" => (k_here; (with_reducible show wpAny _ _ (call (Value.ref 233) [_] _) _ _ _); k_dflt (refine' plain_use ?CZ642 ?hoZ642 ?hvZ642 ?BZ642 ?FZ642 ?XZ642 ?NZ642 ?TZ642 ?hkZ642 ?hcZ642 ?hdZ642 ?huZ642 ?_; (case CZ642 => assumption); (case hoZ642 => assumption); (case hvZ642 => assumption); (case BZ642 => k_asm); (case FZ642 => k_asm); (case XZ642 => k_asm); (case NZ642 => k_asm); (case TZ642 => k_asm); (case hkZ642 => first | rfl | assumption); (case hcZ642 => kqd_sub); (case hdZ642 => ktr_room); (case huZ642 => ktr_units); k_whole; intro r' Y' h' tk' g' F' N' hr'; (try simp only [List.cons_append, List.nil_append] at N'); (try k_fold)))
  k_with "call ref" => (k_here; (with_reducible show wpAny _ _ (call (Value.ref 240) [_] _) _ _ _); k_dflt (refine' things_use ?CZ643 ?hoZ643 ?hvZ643 ?BZ643 ?FZ643 ?XZ643 ?NZ643 ?TZ643 ?hkZ643 ?hcZ643 ?hdZ643 ?huZ643 ?_; (case CZ643 => assumption); (case hoZ643 => assumption); (case hvZ643 => assumption); (case BZ643 => k_asm); (case FZ643 => k_asm); (case XZ643 => k_asm); (case NZ643 => k_asm); (case TZ643 => k_asm); (case hkZ643 => first | rfl | assumption); (case hcZ643 => kqd_sub); (case hdZ643 => ktr_room); (case huZ643 => ktr_units); k_whole; intro a' vs' k' Y' h' tk' g' F' N' hr' hrl'; (try simp only [List.cons_append, List.nil_append] at N'); (try k_fold)))
  k_with "exec For Name Subscript" => (k_here; (rename Fr _ _ _ _ => lF'); (with_unfolding_all refine' For_invVF lF' ?k1Z644 ?k2Z644 ?_; (case k1Z644 => exact rfl); (case k2Z644 => exact rfl); k_whole))
  k_with "compareOp Eq ref ref" => (k_here; k_dflt (refine' eq_dat (r := false) ?HZ645 ?d1Z645 ?d2Z645 ?hcZ645 ?hdZ645 ?huZ645 ?_; (case HZ645 => exact heldOf (by k_asm)); (case d1Z645 => tb_rel); (case d2Z645 => tb_rel); (case hcZ645 => exact cmp_head (by assumption) _); (case hdZ645 => exact Nat.le_of_ble_eq_true rfl); (case huZ645 => ktr_units)))
  k_with "compareOp Eq str str" => (k_here; k_dflt (refine' eq_str_no ?hZ646 ?_; (case hZ646 => assumption); k_whole))
  k_with "ktr_enter" => (refine' code_defC ?k1Z647 ?k2Z647 ?k3Z647 ?k4Z647 ?k5Z647 ?kAZ647 ?kFZ647 ?kKZ647 ?k6Z647 ?k7Z647 ?k8Z647 ?k9Z647 ?kBZ647 ?kDZ647 ?_ ?c2Z647 ?c3Z647 ?c4Z647; (case kAZ647 => exact rfl); (case kFZ647 => exact rfl); (case kKZ647 => assumption); (case k1Z647 => k_asm); (case k2Z647 => k_asm); (case k3Z647 => k_asm); (case k4Z647 => k_asm); (case k5Z647 => k_asm); (case k6Z647 => k_is); (case k7Z647 => k_is); (case k8Z647 => ktr_room); (case k9Z647 => exact BindsTo.of_eq rfl); (case kBZ647 => exact rfl); (case kDZ647 => decide +kernel); (case c2Z647 => exact rfl); (case c3Z647 => exact rfl); (case c4Z647 => exact rfl); k_whole; intro g' L' h' tk' cells' FG' F' N' Y' B' X' T' l1; (try k_lt l1); k_cells Y'; (try simp only [List.cons_append, List.nil_append] at N'); (try dsimp only); (try k_fold))
  k_with "call ref" => (k_here; (with_reducible show wpAny _ _ (call (Value.ref 108) [Value.ref _, _] _) _ _ _); k_dflt (refine' fuse_use (f := 108) ?CZ648 ?hoZ648 ?hvZ648 ?hFZ648 ?hstZ648 ?hneZ648 ?hlenZ648 ?hmZ648 ?hcZ648 ?y1Z648 ?y2Z648 ?y3Z648 ?BZ648 ?FZ648 ?XZ648 ?NZ648 ?TZ648 ?hkZ648 ?hdZ648 ?huZ648 ?_; (case CZ648 => assumption); (case hvZ648 => assumption); (case hoZ648 => assumption); (case hFZ648 => assumption); (case hstZ648 => assumption); (case hneZ648 => assumption); (case hlenZ648 => first | assumption | omega); (case BZ648 => k_asm); (case FZ648 => k_asm); (case XZ648 => k_asm); (case NZ648 => k_asm); (case TZ648 => k_asm); (case hkZ648 => first | rfl | assumption); (case hmZ648 => tb_start); (case hcZ648 => kqd_sub); (case y1Z648 => k_all); (case y2Z648 => k_all); (case y3Z648 => k_all); (case hdZ648 => ktr_room); (case huZ648 => ktr_units); k_whole; intro r' t4' tk4' xs' n3' ys' n4' Y' h' tk' g' F' N' hst' hr'; (try simp only [List.cons_append, List.nil_append] at N'); (try k_fold)))
  k_with "call ref" => (k_here; (with_reducible show wpAny _ _ (call (Value.ref 115) [Value.ref _, _] _) _ _ _); k_dflt (refine' fuse_use (f := 115) ?CZ649 ?hoZ649 ?hvZ649 ?hFZ649 ?hstZ649 ?hneZ649 ?hlenZ649 ?hmZ649 ?hcZ649 ?y1Z649 ?y2Z649 ?y3Z649 ?BZ649 ?FZ649 ?XZ649 ?NZ649 ?TZ649 ?hkZ649 ?hdZ649 ?huZ649 ?_; (case CZ649 => assumption); (case hvZ649 => assumption); (case hoZ649 => assumption); (case hFZ649 => assumption); (case hstZ649 => assumption); (case hneZ649 => assumption); (case hlenZ649 => first | assumption | omega); (case BZ649 => k_asm); (case FZ649 => k_asm); (case XZ649 => k_asm); (case NZ649 => k_asm); (case TZ649 => k_asm); (case hkZ649 => first | rfl | assumption); (case hmZ649 => tb_start); (case hcZ649 => kqd_sub); (case y1Z649 => k_all); (case y2Z649 => k_all); (case y3Z649 => k_all); (case hdZ649 => ktr_room); (case huZ649 => ktr_units); k_whole; intro r' t4' tk4' xs' n3' ys' n4' Y' h' tk' g' F' N' hst' hr'; (try simp only [List.cons_append, List.nil_append] at N'); (try k_fold)))
  k_with "call ref" => (k_here; (with_reducible show wpAny _ _ (call (Value.ref 120) [Value.ref _, _] _) _ _ _); k_dflt (refine' fuse_use (f := 120) ?CZ650 ?hoZ650 ?hvZ650 ?hFZ650 ?hstZ650 ?hneZ650 ?hlenZ650 ?hmZ650 ?hcZ650 ?y1Z650 ?y2Z650 ?y3Z650 ?BZ650 ?FZ650 ?XZ650 ?NZ650 ?TZ650 ?hkZ650 ?hdZ650 ?huZ650 ?_; (case CZ650 => assumption); (case hvZ650 => assumption); (case hoZ650 => assumption); (case hFZ650 => assumption); (case hstZ650 => assumption); (case hneZ650 => assumption); (case hlenZ650 => first | assumption | omega); (case BZ650 => k_asm); (case FZ650 => k_asm); (case XZ650 => k_asm); (case NZ650 => k_asm); (case TZ650 => k_asm); (case hkZ650 => first | rfl | assumption); (case hmZ650 => tb_start); (case hcZ650 => kqd_sub); (case y1Z650 => k_all); (case y2Z650 => k_all); (case y3Z650 => k_all); (case hdZ650 => ktr_room); (case huZ650 => ktr_units); k_whole; intro r' t4' tk4' xs' n3' ys' n4' Y' h' tk' g' F' N' hst' hr'; (try simp only [List.cons_append, List.nil_append] at N'); (try k_fold)))
  k_with "call ref" => (k_here; (with_reducible show wpAny _ _ (call (Value.ref 68) [_, Value.str _ _] _) _ _ _); k_dflt (refine' isEx_use ?CZ651 ?hvZ651 ?eZ651 ?BZ651 ?FZ651 ?XZ651 ?NZ651 ?TZ651 ?hkZ651 ?hsZ651 ?hdZ651 ?huZ651 ?_; (case CZ651 => exact isEx_con _); (case hvZ651 => assumption); (case eZ651 => first | rfl | assumption); (case BZ651 => k_asm); (case FZ651 => k_asm); (case XZ651 => k_asm); (case NZ651 => k_asm); (case TZ651 => k_asm); (case hkZ651 => first | rfl | assumption); (case hsZ651 => tb_start); (case hdZ651 => ktr_room); (case huZ651 => ktr_units); k_whole; intro h' tk' F' N'; (try k_fold)))
  k_with "eval Call Name cons nil" => (k_here; refine Call_ ?_)
  k_with "k_all" => first
  | assumption
  | (refine' GrowT.off ?gZ653 ?oZ653 ?NZ653 ?sZ653 ?mZ653 ?cZ653; (case gZ653 => assumption); (case NZ653 => k_asm); (case sZ653 => tb_start); (case mZ653 => lsm_bools); (case cZ653 => rfl); (case oZ653 => k_all))
  | (refine' offLt ?hZ653 ?sZ653; (case hZ653 => assumption); (case sZ653 => tb_start))
  | exact List.forall_mem_nil _
  | (refine' List.forall_mem_cons.mpr ⟨?aZ653, ?bZ653⟩; (case aZ653 => first | k_dflt assumption | k_dflt (refine Ne.symm ?_; assumption) | exact adr_ne (by omega) | (refine' apart_of ?NZ653 ?pZ653 ?qZ653 ?eZ653; (case NZ653 => k_asm); (case pZ653 => lsm_bools); (case qZ653 => lsm_bools); (case eZ653 => rfl))); (case bZ653 => k_all))
  | fail "not apart"
  k_with "call ref" => (k_here; (with_reducible show wpAny _ _ (call (Value.ref 120) [Value.ref _, _] _) _ _ _); k_dflt (refine' fuse_useE ?CZ654 ?hoZ654 ?hvZ654 ?hlenZ654 ?hFZ654 ?e1Z654 ?e2Z654 ?hneZ654 ?hmZ654 ?hcZ654 ?y1Z654 ?y2Z654 ?y3Z654 ?BZ654 ?FZ654 ?XZ654 ?NZ654 ?TZ654 ?hkZ654 ?hdZ654 ?huZ654 ?_; (case CZ654 => assumption); (case hvZ654 => assumption); (case hoZ654 => assumption); (case hlenZ654 => assumption); (case NZ654 => k_asm); (case hFZ654 => refine' ⟨?f1Z654, ⟨_, _, _, ?f2Z654⟩, ?f3Z654⟩; (case f1Z654 => lsm_bools); (case f2Z654 => lsm_bools); (case f3Z654 => lsm_bools)); (case hmZ654 => tb_start); (case e1Z654 => rfl); (case e2Z654 => rfl); (case hneZ654 => exact adr_ne (by omega)); (case hcZ654 => kqd_sub); (case BZ654 => k_asm); (case FZ654 => k_asm); (case XZ654 => k_asm); (case TZ654 => k_asm); (case hkZ654 => first | rfl | assumption); (case y1Z654 => k_all); (case y2Z654 => k_all); (case y3Z654 => k_all); (case hdZ654 => ktr_room); (case huZ654 => ktr_units); k_whole; intro r' t4' tk4' nvs' n3' lvs' n4' Y' h' tk' g' F' N' ln' ll' hn' hl' hr'; (try simp only [List.cons_append, List.nil_append] at N'); (try k_fold)))
  k_with "call ref" => (k_here; (with_reducible show wpAny _ _ (call (Value.ref 151) [Value.ref _, _] _) _ _ _); k_dflt (refine' fo_use ?CZ655 ?hnZ655 ?hmZ655 ?hNZ655 ?hvZ655 ?BZ655 ?FZ655 ?XZ655 ?NZ655 ?TZ655 ?hkZ655 ?hdZ655 ?huZ655 ?_; (case CZ655 => assumption); (case NZ655 => k_asm); (case hmZ655 => lsm_bools); (case hNZ655 => (refine' TAll.mono ?sZ655 ?hZ655; (case hZ655 => assumption); (case sZ655 => exact subT_of (by tb_start)))); (case hvZ655 => (refine' TIn.mono ?sZ655 ?hZ655; (case hZ655 => assumption); (case sZ655 => exact subT_of (by tb_start)))); (case hnZ655 => omega); (case BZ655 => k_asm); (case FZ655 => k_asm); (case XZ655 => k_asm); (case TZ655 => k_asm); (case hkZ655 => first | rfl | assumption); (case hdZ655 => ktr_room); (case huZ655 => ktr_units); k_whole; intro r' Y' h' tk' g' F' N' hr'; (try simp only [List.cons_append, List.nil_append] at N'); (try k_fold)))
  k_with "binaryOp Add ref ref" => (k_here; k_dflt (refine' add_tupE ?FZ656 ?NZ656 ?aZ656 ?bZ656 ?l1Z656 ?zZ656 ?_; (case FZ656 => k_asm); (case NZ656 => k_asm); (case aZ656 => lsm_bools); (case bZ656 => lsm_bools); (case l1Z656 => (simp only [List.length_cons, List.length_nil]; omega)); (case zZ656 => (simp only [sizeLine_eq, List.length_cons, List.length_nil]; omega)); k_whole; intro D' n' h' F' N'; (try k_sweep)))
  trivial
set_option maxHeartbeats 8000000 in
theorem fused_dot (w : World) (nn : Nat) (hnn : nn ≤ 3) (BC : FuseC w 120 (30 + 8 * nn) (160 + 60 * nn) (TreeOk nn) thingsT bodyT) (FO : FoC w) (t : T) (tv : Value) (ht : DotT nn t) (Y : List (Addr × Obj)) (htv : TIn Y tv t.dat) (sz sd : Addr) (hs : (sz, instObj 182 sd) ∈ Y) (t4 tk : Tok) (ho : ∀ p ∈ Y, p.1 ≠ sd) :
    Con w 158 [tv, .ref sz] 80 600 [(sd, dictOf [attrE w "many" t4 (.int 0 tk)] 1)] Y (fun M' Y₁ r => M' = [] ∧ ToldIn Y₁ r 84 (fnT (thingsT t).length (bodyT t 0)) (thingsT t)) := by
  have hto : TreeOk nn t := .inr ht
  have hth : (thingsT t).length ≤ 40 := Nat.le_trans (things_len nn t hto) (cntB_le hnn)
  have he : isEx t (kS "dotcall") = true := by
    cases nn with
    | zero => exact ht.elim
    | succ nn =>
      obtain ⟨c, ps, rfl, _⟩ := ht
      simp [isEx]
  obtain ⟨a, rfl⟩ := tree_ref htv
  refine Con.intro ?_
  intro dp un gd cn cs fa ccd cl outer A₀ base h₀ L m s mean mg mb Q E B F X N Tp hk hd hu fin
  simp only [List.cons_append, List.nil_append] at N
  refine wpAny_call ?_
  w_strict (
    k_dflt ktr_enter
    k_steps)
  refine' fin [] _ _ _ _ (by k_asm) (by k_asm) (List.forall_mem_nil _) ?Y (fun Y₁ hs => ⟨rfl, ToldIn.mono hs ?P⟩)
  case Y => tb_start
  case P =>
    refine' ⟨_, _, _, _, _, _, _, _, rfl, ?a, ?b, ?c, ?d⟩
    case a => lsm_bools
    case b => lsm_bools
    case c => (refine' TIn.mono ?s ?h; (case h => assumption); (case s => exact subT_of (by tb_start)))
    case d => (refine' TAll.mono ?s ?h; (case h => assumption); (case s => exact subT_of (by tb_start)))
end
section
-- FusedSet
theorem reset_FusedSet : True := by
  w_top off
  k_with "call ref" => (k_here; (with_reducible show wpAny _ _ (call (Value.ref 146) [_] _) _ _ _); k_dflt (refine' goal_use ?CZ603 ?hvZ603 ?BZ603 ?FZ603 ?XZ603 ?NZ603 ?TZ603 ?hkZ603 ?hdZ603 ?huZ603 ?_; (case CZ603 => assumption); (case NZ603 => k_asm); (case hvZ603 => (refine' TIn.mono ?sZ603 ?hZ603; (case hZ603 => assumption); (case sZ603 => exact subT_of (by tb_start)))); (case BZ603 => k_asm); (case FZ603 => k_asm); (case XZ603 => k_asm); (case TZ603 => k_asm); (case hkZ603 => first | rfl | assumption); (case hdZ603 => ktr_room); (case huZ603 => ktr_units); k_whole; intro r' Y' h' tk' g' F' N' hr'; (try k_fold)))
  k_with "compareOp NotEq int int" => (k_here; k_dflt (refine' ne_int_same ?eZ604 ?_; (case eZ604 => rfl); k_whole))
  trivial
set_option maxHeartbeats 8000000 in
theorem fused_set (w : World) (nn : Nat) (hnn : nn ≤ 3) (BC : FuseC w 120 (30 + 8 * nn) (160 + 60 * nn) (TreeOk nn) thingsT bodyT) (FO : FoC w) (place goal t : T) (GC : GoalC w place goal) (tv : Value) (hto : TreeOk nn t) (Y : List (Addr × Obj)) (htv : TIn Y tv (tE ".=" [place, t]).dat) (sz sd : Addr) (hs : (sz, instObj 182 sd) ∈ Y) (t4 tk : Tok) (ho : ∀ p ∈ Y, p.1 ≠ sd) :
    Con w 158 [tv, .ref sz] 80 600 [(sd, dictOf [attrE w "many" t4 (.int 0 tk)] 1)] Y (fun M' Y₁ r => M' = [] ∧ ToldIn Y₁ r 86 (fnT (thingsT t).length (bodyT t 0)) (goal :: thingsT t)) := by
  have hth : (thingsT t).length ≤ 40 := Nat.le_trans (things_len nn t hto) (cntB_le hnn)
  have he1 : isEx (tE ".=" [place, t]) (kS "dotcall") = false := beq_eq_false_iff_ne.mpr (by decide)
  have he2 : isEx (tE ".=" [place, t]) (kS ".=") = true := by simp [isEx]
  obtain ⟨a, n, t1, t2, b, vs, k, rfl, hm, hm2, hT⟩ := ex_inv htv
  cases hT with
  | @cons v0 _ _ _ hv0 hT =>
  cases hT with
  | @cons v1 _ _ _ hv1 hT =>
  cases hT
  obtain ⟨a1, rfl⟩ := tree_ref hv1
  refine Con.intro ?_
  intro dp un gd cn cs fa ccd cl outer A₀ base h₀ L m s mean mg mb Q E B F X N Tp hk hd hu fin
  simp only [List.cons_append, List.nil_append] at N
  refine wpAny_call ?_
  w_strict (
    k_dflt ktr_enter
    k_steps)

  refine' fin [] _ _ _ _ (by k_asm) (by k_asm) (List.forall_mem_nil _) ?Y (fun Y₁ hs => ⟨rfl, ToldIn.mono hs ?P⟩)
  case Y => tb_start
  case P =>
    refine' ⟨_, _, _, _, _, _, _, _ :: _, rfl, ?a, ?b, ?c, .cons ?g ?d⟩
    case a => lsm_bools
    case b => lsm_bools
    case c => (refine' TIn.mono ?s ?h; (case h => assumption); (case s => exact subT_of (by tb_start)))
    case g => (refine' TIn.mono ?s ?h; (case h => assumption); (case s => exact subT_of (by tb_start)))
    case d => (refine' TAll.mono ?s ?h; (case h => assumption); (case s => exact subT_of (by tb_start)))
end
section
-- GoalOf
theorem reset_GoalOf : True := by
  w_top off
  k_with_none
  k_with "kt_len" => first | assumption | exact ltm (by assumption) (by lsm_bools) | exact lt3 (by assumption) (by assumption) (by lsm_bools) | exact ltk (by assumption) | exact lk0 (by assumption) (by rfl) | exact lk1 (by assumption) (by rfl) | exact ltn (by assumption) (by lsm_bools) | exact lka (by rfl) | exact lkb (by rfl) | exact And.left (by assumption) | exact pj1 (by assumption) | exact pj2 (by assumption) | fail "no"
  k_with "ktr_room" => first | exact szg (by rfl) | exact rm2 (by assumption) (by rfl) | exact rs2 (by assumption) (by rfl) | exact rm0 (by assumption) | exact rm1 (by assumption) (by rfl) | exact rs1 (by assumption) (by rfl) | exact rm3 (by assumption) (by rfl) | exact rm4 (by assumption) (by rfl) | exact rm5 (by assumption) (by rfl) | exact rmn (by assumption) (by assumption) (by rfl) | exact rmt (by assumption) (by rfl) | fail "no"
  k_with "ktr_units" => k_extra "ktr_room"
  k_with "omega" => first | with_reducible assumption | (show (_ : Nat) < _; first | assumption | k_extra "ktr_room") | (show (_ : Nat) ≤ _; first | assumption | exact szg (by rfl) | exact sza (by assumption) (by rfl) | exact szb (by assumption) (by assumption) (by rfl) | exact szc (by assumption) (by rfl) | exact szd (by assumption) (by rfl) | exact cza (by assumption) (by rfl) | exact szs (by assumption) | exact Nat.le_of_eq (by assumption)) | (show (_ : Nat) ≠ _; first | assumption | exact Ne.symm (by assumption) | exact ofI (by assumption) (by lsm_bools) | exact ofC (by assumption) (by lsm_bools) | exact ofD (by assumption) (by lsm_bools) | exact fI (by assumption) (by lsm_bools) | exact fC (by assumption) (by lsm_bools) | exact fD (by assumption) (by lsm_bools) | exact Nat.ne_of_lt (by kt_len) | exact Nat.ne_of_gt (by kt_len)) | (show (_ : Nat) < _ ∨ _; first | exact Or.inl (by kt_len) | exact Or.inr (by kt_len)) | fail "no"
  k_with "lsm_bools" => first | exact List.Mem.head _ | assumption | (refine' List.Mem.tail _ ?_; lsm_bools) | (refine' GrowT.mem ?gZ669 ?hZ669; (case gZ669 => assumption); (case hZ669 => lsm_bools)) | fail "no entry"
  k_with "k_mem" => first | lsm_bools | fail "no entry"
  k_with "tb_start" => first
  | exact List.forall_mem_nil _
  | (refine' List.forall_mem_cons.mpr ⟨?aZ671, ?bZ671⟩; (case aZ671 => lsm_bools); (case bZ671 => tb_start))
  | (intro p hp; repeat (first | exact hp | refine List.mem_cons_of_mem _ ?_ | refine List.Mem.tail _ ?_ | refine GrowT.mem' (by assumption) ?_ | refine GrowT.mem (by assumption) ?_ | fail "no entry"))
  | fail "not within"
  k_with "k_all" => first
  | assumption
  | (refine' GrowT.off ?gZ672 ?oZ672 ?NZ672 ?sZ672 ?mZ672 ?cZ672; (case gZ672 => assumption); (case NZ672 => k_asm); (case sZ672 => tb_start); (case mZ672 => lsm_bools); (case cZ672 => rfl); (case oZ672 => k_all))
  | (refine' offLt ?hZ672 ?sZ672; (case hZ672 => assumption); (case sZ672 => tb_start))
  | (refine' offLt3 ?qZ672 ?hZ672 ?sZ672; (case qZ672 => assumption); (case hZ672 => assumption); (case sZ672 => tb_start))
  | fail "not apart"
  k_with "kqd_sub" => first
  | (refine' Cut.own ?mZ673 ?rZ673; (case mZ673 => lsm_bools); (case rZ673 => kqd_sub))
  | (refine' Cut.oth ?oZ673 ?rZ673; (case oZ673 => k_all); (case rZ673 => kqd_sub))
  | exact Cut.tail
  | fail "no cut"
  k_with "ktr_rel" => first
  | exact subT_nil
  | exact subT_of (fun _ hp => hp)
  | assumption
  | (refine' subT_skip ?aZ674 ?bZ674; (case aZ674 => rfl); (case bZ674 => ktr_rel))
  | (refine' subT_cons ?aZ674 ?bZ674; (case aZ674 => lsm_bools); (case bZ674 => ktr_rel))
  | (refine' subT_of ?hZ674; (case hZ674 => tb_start))
  | (refine' subT_app (by ktr_rel) (by ktr_rel))
  | fail "tuples not within"
  k_with "k_room" => ktr_room
  k_with "k_units" => ktr_units
  k_with "tb_rel" => first
  | exact TAll.nil
  | exact TIn.str _ _
  | exact TIn.int _ _
  | exact TIn.bytes _ _
  | assumption
  | (refine' TIn.mono ?sZ677 ?hZ677; (case hZ677 => assumption); (case sZ677 => ktr_rel))
  | (refine' TAll.mono ?sZ677 ?hZ677; (case hZ677 => assumption); (case sZ677 => ktr_rel))
  | (refine' TIn.tuple ?mZ677 ?rZ677; (case mZ677 => lsm_bools); (case rZ677 => tb_rel))
  | (refine' TAll.cons (by tb_rel) (by tb_rel))
  | fail "no tree"
  k_with "call ref" => (k_here; (with_reducible show wpAny _ _ (call (Value.ref 214) [Value.str _ _] _) _ _ _); k_dflt (refine' sym_use ?CZ678 ?hcZ678 ?BZ678 ?FZ678 ?XZ678 ?NZ678 ?TZ678 ?hkZ678 ?hdZ678 ?huZ678 ?_; (case CZ678 => exact sym_con _); (case NZ678 => k_asm); (case hcZ678 => kqd_sub); (case BZ678 => k_asm); (case FZ678 => k_asm); (case XZ678 => k_asm); (case TZ678 => k_asm); (case hkZ678 => first | rfl | assumption); (case hdZ678 => ktr_room); (case huZ678 => ktr_units); k_whole; intro a' Y' h' tk' g' F' N' hr'; (try simp only [List.cons_append, List.nil_append] at N'); (try k_fold)))
  k_with "call ref" => (k_here; (with_reducible show wpAny _ _ (call (Value.ref 207) [Value.str _ _, Value.ref _] _) _ _ _); k_dflt (refine' tree_use ?CZ679 ?hcZ679 ?hmZ679 ?hlZ679 ?hTZ679 ?BZ679 ?FZ679 ?XZ679 ?NZ679 ?TZ679 ?hkZ679 ?hdZ679 ?huZ679 ?_; (case CZ679 => exact tree_con _); (case NZ679 => k_asm); (case hcZ679 => kqd_sub); (case hmZ679 => lsm_bools); (case hlZ679 => exact Nat.le_of_ble_eq_true rfl); (case hTZ679 => tb_rel); (case BZ679 => k_asm); (case FZ679 => k_asm); (case XZ679 => k_asm); (case TZ679 => k_asm); (case hkZ679 => first | rfl | assumption); (case hdZ679 => ktr_room); (case huZ679 => ktr_units); k_whole; intro a' Y' h' tk' g' F' N' hr'; (try simp only [List.cons_append, List.nil_append] at N'); (try k_fold)))
  k_with "call ref" => (k_here; (with_reducible show wpAny _ _ (call (Value.ref 68) [_, Value.str _ _] _) _ _ _); k_dflt (refine' isEx_use ?CZ680 ?hvZ680 ?eZ680 ?BZ680 ?FZ680 ?XZ680 ?NZ680 ?TZ680 ?hkZ680 ?hsZ680 ?hdZ680 ?huZ680 ?_; (case CZ680 => exact isEx_con _); (case hvZ680 => assumption); (case eZ680 => first | assumption | rfl); (case hsZ680 => tb_start); (case BZ680 => k_asm); (case FZ680 => k_asm); (case XZ680 => k_asm); (case NZ680 => k_asm); (case TZ680 => k_asm); (case hkZ680 => first | rfl | assumption); (case hdZ680 => ktr_room); (case huZ680 => ktr_units); k_whole; intro h' tk' F' N'; (try k_fold)))
  k_with "call ref" => (k_here; (with_reducible show wpAny _ _ (call (Value.ref 82) [Value.ref _] _) _ _ _); k_dflt (refine' isSym_use ?hmZ681 ?eZ681 ?BZ681 ?FZ681 ?XZ681 ?NZ681 ?TZ681 ?hkZ681 ?hdZ681 ?huZ681 ?_; (case NZ681 => k_asm); (case hmZ681 => lsm_bools); (case eZ681 => first | rfl | decide); (case BZ681 => k_asm); (case FZ681 => k_asm); (case XZ681 => k_asm); (case TZ681 => k_asm); (case hkZ681 => first | rfl | assumption); (case hdZ681 => ktr_room); (case huZ681 => ktr_units); k_whole; intro h' tk' F' N'; (try k_fold)))
  k_with "call ref" => (k_here; (with_reducible show wpAny _ _ (call (Value.ref 75) [Value.ref _] _) _ _ _); k_dflt (first
  | (refine' parts_use ?hmZ682 ?BZ682 ?FZ682 ?XZ682 ?NZ682 ?TZ682 ?hkZ682 ?hdZ682 ?huZ682 ?_; (case NZ682 => k_asm); (case hmZ682 => lsm_bools); (case BZ682 => k_asm); (case FZ682 => k_asm); (case XZ682 => k_asm); (case TZ682 => k_asm); (case hkZ682 => first | rfl | assumption); (case hdZ682 => ktr_room); (case huZ682 => ktr_units); k_whole; intro h' tk' F' N'; (try k_fold))
  | (refine' parts0_use ?hcZ682 ?hmZ682 ?hzZ682 ?BZ682 ?FZ682 ?XZ682 ?NZ682 ?TZ682 ?hkZ682 ?hdZ682 ?huZ682 ?_; (case NZ682 => k_asm); (case hmZ682 => lsm_bools); (case hzZ682 => decide); (case hcZ682 => kqd_sub); (case BZ682 => k_asm); (case FZ682 => k_asm); (case XZ682 => k_asm); (case TZ682 => k_asm); (case hkZ682 => first | rfl | assumption); (case hdZ682 => ktr_room); (case huZ682 => ktr_units); k_whole; intro d' j' Y' h' tk' g' F' N' hm'; (try simp only [List.cons_append, List.nil_append] at N'); (try k_fold))))
  k_with "compareOp In str ref" => (k_here; k_dflt (refine' in_tupL ?htZ683 ?hiZ683 ?_; (case htZ683 => (refine' tupK ?XZ683 ?lZ683; (case XZ683 => k_in); (case lZ683 => k_is))); (case hiZ683 => exact rfl)))
  k_with "compareOp Eq ref ref" => (k_here; k_dflt (first
  | (refine' eq_dat (r := false) ?HZ684 ?d1Z684 ?d2Z684 ?hcZ684 ?hdZ684 ?huZ684 ?_; (case HZ684 => exact heldOf (by k_asm)); (case d1Z684 => tb_rel); (case d2Z684 => tb_rel); (case hcZ684 => with_unfolding_all rfl); (case hdZ684 => exact Nat.le_of_ble_eq_true rfl); (case huZ684 => ktr_units))
  | (refine' eq_dat (r := true) ?HZ684 ?d1Z684 ?d2Z684 ?hcZ684 ?hdZ684 ?huZ684 ?_; (case HZ684 => exact heldOf (by k_asm)); (case d1Z684 => tb_rel); (case d2Z684 => tb_rel); (case hcZ684 => with_unfolding_all rfl); (case hdZ684 => exact Nat.le_of_ble_eq_true rfl); (case huZ684 => ktr_units))))
  k_with "compareOp NotEq ref ref" => (k_here; k_dflt (first
  | (refine' ne_dat (r := false) ?HZ685 ?d1Z685 ?d2Z685 ?hcZ685 ?hdZ685 ?huZ685 ?_; (case HZ685 => exact heldOf (by k_asm)); (case d1Z685 => tb_rel); (case d2Z685 => tb_rel); (case hcZ685 => with_unfolding_all rfl); (case hdZ685 => exact Nat.le_of_ble_eq_true rfl); (case huZ685 => ktr_units))
  | (refine' ne_dat (r := true) ?HZ685 ?d1Z685 ?d2Z685 ?hcZ685 ?hdZ685 ?huZ685 ?_; (case HZ685 => exact heldOf (by k_asm)); (case d1Z685 => tb_rel); (case d2Z685 => tb_rel); (case hcZ685 => with_unfolding_all rfl); (case hdZ685 => exact Nat.le_of_ble_eq_true rfl); (case huZ685 => ktr_units))))
  k_with "subscriptTail Name Constant ref int" => (k_here; k_dflt (refine' item_tupleT ?tZ686 ?aZ686 ?bZ686 ?cZ686 ?dZ686 ?_; (case tZ686 => exact News.isTup (by k_asm) (by k_mem)); (case aZ686 => decide); (case bZ686 => decide); (case cZ686 => rfl); (case dZ686 => rfl); k_whole))
  k_with "ite" => (k_closed; k_dflt (first | (refine' ite_pos ?cZ687 ?_; (case cZ687 => decide)) | (refine' ite_neg ?cZ687 ?_; (case cZ687 => decide))))
  k_with "call ref" => (k_here; (with_reducible show wpAny _ _ (call (Value.ref 54) [Value.str _ _, Value.ref _] _) _ _ _); k_dflt (refine' expr_use ?hcZ688 ?hmZ688 ?hlZ688 ?BZ688 ?FZ688 ?XZ688 ?NZ688 ?TZ688 ?hkZ688 ?hdZ688 ?huZ688 ?_; (case NZ688 => k_asm); (case hmZ688 => lsm_bools); (case hcZ688 => kqd_sub); (case hlZ688 => first | exact Nat.le_of_ble_eq_true rfl | (simp only [List.length_append, List.length_cons, List.length_nil]; omega)); (case BZ688 => k_asm); (case FZ688 => k_asm); (case XZ688 => k_asm); (case TZ688 => k_asm); (case hkZ688 => first | rfl | assumption); (case hdZ688 => ktr_room); (case huZ688 => ktr_units); k_whole; intro a' t1' k' Y' h' tk' g' F' N' hm'; (try simp only [List.cons_append, List.nil_append] at N'); (try k_fold)))
  k_with "call ref" => (k_here; (with_reducible show wpAny _ _ (call (Value.ref 61) [Value.str _ _] _) _ _ _); k_dflt (refine' sym_use ?CZ689 ?hcZ689 ?BZ689 ?FZ689 ?XZ689 ?NZ689 ?TZ689 ?hkZ689 ?hdZ689 ?huZ689 ?_; (case CZ689 => exact symF_con _); (case NZ689 => k_asm); (case hcZ689 => kqd_sub); (case BZ689 => k_asm); (case FZ689 => k_asm); (case XZ689 => k_asm); (case TZ689 => k_asm); (case hkZ689 => first | rfl | assumption); (case hdZ689 => ktr_room); (case huZ689 => ktr_units); k_whole; intro a' Y' h' tk' g' F' N' hr'; (try simp only [List.cons_append, List.nil_append] at N'); (try k_fold)))
  k_with "call type:range cons nil" => (k_here; k_dflt (refine' range1_rows ?FZ690 ?NZ690 ?_; (case FZ690 => k_asm); (case NZ690 => k_asm); k_whole; intro h' tk' t1' u1' v1' hR' F' N' hst'; (try k_fold)))
  k_with "pyIter ref" => (k_here; (with_reducible show wpAny _ _ (pyIter (Value.ref _)) (fun it s₂ => LoopAtV _ _ _ _ _ _ _ _ _ it s₂) _ _); refine' Hold.of ?_)
  k_with "binaryOp Add ref ref" => (k_here; k_dflt (refine' add_cat ?FZ692 ?NZ692 ?aZ692 ?bZ692 ?zZ692 ?_; (case FZ692 => k_asm); (case NZ692 => k_asm); (case aZ692 => lsm_bools); (case bZ692 => lsm_bools); (case zZ692 => (simp only [sizeLine_eq, List.length_cons, List.length_nil]; omega)); k_whole; intro D' h' F' N' l1; (try k_lt l1); (try k_sweep)))
  k_with "subscriptTail Name Slice ref ref" => (k_here; k_dflt (first
  | (refine' slice_whole ?FZ693 ?NZ693 ?tZ693 ?lZ693 ?zZ693 ?_ ?hsZ693 ?hgZ693; (case FZ693 => k_asm); (case NZ693 => k_asm); (case tZ693 => lsm_bools); (case lZ693 => exact Nat.le_of_ble_eq_true rfl); (case zZ693 => exact Nat.le_of_ble_eq_true rfl); (case hsZ693 => with_unfolding_all rfl); (case hgZ693 => (intro _; with_unfolding_all rfl)); k_whole; intro h' F' N'; (try k_sweep))
  | (refine' slice_upto ?FZ693 ?NZ693 ?tZ693 ?lZ693 ?zZ693 ?_ ?hsZ693 ?hgZ693; (case FZ693 => k_asm); (case NZ693 => k_asm); (case tZ693 => lsm_bools); (case lZ693 => exact Nat.le_of_ble_eq_true rfl); (case zZ693 => exact Nat.le_of_ble_eq_true rfl); (case hsZ693 => with_unfolding_all rfl); (case hgZ693 => (intro _; with_unfolding_all rfl)); k_whole; intro D' h' F' N' l1; (try k_lt l1); (try k_sweep))))
  k_with "subscriptTail Name Slice ref ref" => (k_here; k_dflt
  (refine' slice_from ?FZ694 ?NZ694 ?tZ694 ?oZ694 ?lZ694 ?zZ694 ?_ ?hsZ694 ?hgZ694; (case FZ694 => k_asm); (case NZ694 => k_asm); (case tZ694 => lsm_bools); (case oZ694 => exact Nat.le_of_ble_eq_true rfl); (case lZ694 => (simp only [List.length_cons]; omega)); (case zZ694 => (simp only [sizeLine_eq, List.length_cons]; omega)); (case hsZ694 => with_unfolding_all rfl); (case hgZ694 => (intro _; with_unfolding_all rfl)); k_whole; intro D' h' F' N' l1; (try k_lt l1); (try k_sweep)))
  k_with "subscriptTail Subscript Name Constant Slice ref ref" => (k_here; k_dflt
  (refine' slice_from ?FZ695 ?NZ695 ?tZ695 ?oZ695 ?lZ695 ?zZ695 ?_ ?hsZ695 ?hgZ695; (case FZ695 => k_asm); (case NZ695 => k_asm); (case tZ695 => lsm_bools); (case oZ695 => exact Nat.le_of_ble_eq_true rfl); (case lZ695 => (simp only [List.length_cons]; omega)); (case zZ695 => (simp only [sizeLine_eq, List.length_cons]; omega)); (case hsZ695 => with_unfolding_all rfl); (case hgZ695 => (intro _; with_unfolding_all rfl)); k_whole; intro D' h' F' N' l1; (try k_lt l1); (try k_sweep)))
  k_with "call type:tuple cons nil" => (k_here; k_dflt (refine' tuple_of ?FZ696 ?NZ696 ?tZ696 ?zZ696 ?_; (case FZ696 => k_asm); (case NZ696 => k_asm); (case tZ696 => lsm_bools); (case zZ696 => first | exact Nat.le_of_ble_eq_true rfl | (simp only [sizeLine_eq, List.length_append, List.length_cons, List.length_nil]; omega)); k_whole; intro D' h' F' N' l1; (try k_lt l1); (try k_sweep)))
  k_with "subscriptTail Name Constant ref int" => (k_here; k_dflt (refine' item_tupI ?NZ697 ?mZ697 ?aZ697 ?bZ697 ?cZ697 ?_; (case NZ697 => k_asm); (case mZ697 => lsm_bools); (case aZ697 => decide); (case bZ697 => decide); (case cZ697 => exact rfl); k_whole))
  k_with "subscriptTail Subscript Name Constant Constant ref int" => (k_here; k_dflt (refine' item_tupI ?NZ698 ?mZ698 ?aZ698 ?bZ698 ?cZ698 ?_; (case NZ698 => k_asm); (case mZ698 => lsm_bools); (case aZ698 => decide); (case bZ698 => decide); (case cZ698 => exact rfl); k_whole))
  k_with "subscriptTail Subscript Subscript Constant Constant ref int" => (k_here; k_dflt (refine' item_tupI ?NZ699 ?mZ699 ?aZ699 ?bZ699 ?cZ699 ?_; (case NZ699 => k_asm); (case mZ699 => lsm_bools); (case aZ699 => decide); (case bZ699 => decide); (case cZ699 => exact rfl); k_whole))
  k_with "subscriptTail Call Name cons nil Constant ref int" => (k_here; k_dflt (refine' item_tupI ?NZ700 ?mZ700 ?aZ700 ?bZ700 ?cZ700 ?_; (case NZ700 => k_asm); (case mZ700 => lsm_bools); (case aZ700 => decide); (case bZ700 => decide); (case cZ700 => exact rfl); k_whole))
  k_with "binaryOp Add ref ref" => (k_here; k_dflt (refine' add_tupC ?FZ701 ?NZ701 ?aZ701 ?bZ701 ?l1Z701 ?l2Z701 ?zZ701 ?_; (case FZ701 => k_asm); (case NZ701 => k_asm); (case aZ701 => lsm_bools); (case bZ701 => lsm_bools); (case l1Z701 => (simp only [List.length_cons, List.length_nil]; omega)); (case l2Z701 => omega); (case zZ701 => (simp only [sizeLine_eq, List.length_cons, List.length_nil]; omega)); k_whole; intro D' h' F' N' l1; (try k_lt l1); (try k_sweep)))
  k_with "call type:tuple cons nil" => (k_here; k_dflt (refine' tuple_same ?NZ702 ?tZ702 ?_; (case NZ702 => k_asm); (case tZ702 => lsm_bools); k_whole))
  k_with "call builtin:len cons nil" => (k_here; k_dflt (refine' len_tupK ?NZ703 ?tZ703 ?zZ703 ?_; (case NZ703 => k_asm); (case tZ703 => lsm_bools); (case zZ703 => (simp only [sizeLine_eq, List.length_cons, List.length_nil]; omega)); k_whole; intro tk1' tk2'))
  k_with "eval ListComp" => (k_here; refine' Hold.of ?_)
  k_with "compareOp NotEq ref ref" => (k_here; k_dflt (refine' ne_dat (r := false) ?HZ705 ?d1Z705 ?d2Z705 ?hcZ705 ?hdZ705 ?huZ705 ?_; (case HZ705 => exact heldOf (by k_asm)); (case d1Z705 => tb_rel); (case d2Z705 => tb_rel); (case hcZ705 => exact cmp_head (by assumption) _); (case hdZ705 => exact Nat.le_of_ble_eq_true rfl); (case huZ705 => ktr_units)))
  k_with "call ref" => (k_here; (with_reducible show wpAny _ _ (call (Value.ref 233) [_] _) _ _ _); k_dflt (refine' plain_use ?CZ706 ?hoZ706 ?hvZ706 ?BZ706 ?FZ706 ?XZ706 ?NZ706 ?TZ706 ?hkZ706 ?hcZ706 ?hdZ706 ?huZ706 ?_; (case CZ706 => assumption); (case hoZ706 => assumption); (case hvZ706 => assumption); (case BZ706 => k_asm); (case FZ706 => k_asm); (case XZ706 => k_asm); (case NZ706 => k_asm); (case TZ706 => k_asm); (case hkZ706 => first | rfl | assumption); (case hcZ706 => kqd_sub); (case hdZ706 => ktr_room); (case huZ706 => ktr_units); k_whole; intro r' Y' h' tk' g' F' N' hr'; (try simp only [List.cons_append, List.nil_append] at N'); (try k_fold)))
  k_with "call ref" => (k_here; (with_reducible show wpAny _ _ (call (Value.ref 240) [_] _) _ _ _); k_dflt (refine' things_use ?CZ707 ?hoZ707 ?hvZ707 ?BZ707 ?FZ707 ?XZ707 ?NZ707 ?TZ707 ?hkZ707 ?hcZ707 ?hdZ707 ?huZ707 ?_; (case CZ707 => assumption); (case hoZ707 => assumption); (case hvZ707 => assumption); (case BZ707 => k_asm); (case FZ707 => k_asm); (case XZ707 => k_asm); (case NZ707 => k_asm); (case TZ707 => k_asm); (case hkZ707 => first | rfl | assumption); (case hcZ707 => kqd_sub); (case hdZ707 => ktr_room); (case huZ707 => ktr_units); k_whole; intro a' vs' k' Y' h' tk' g' F' N' hr' hrl'; (try simp only [List.cons_append, List.nil_append] at N'); (try k_fold)))
  k_with "exec For Name Subscript" => (k_here; (rename Fr _ _ _ _ => lF'); (with_unfolding_all refine' For_invVF lF' ?k1Z708 ?k2Z708 ?_; (case k1Z708 => exact rfl); (case k2Z708 => exact rfl); k_whole))
  k_with "compareOp Eq ref ref" => (k_here; k_dflt (refine' eq_dat (r := false) ?HZ709 ?d1Z709 ?d2Z709 ?hcZ709 ?hdZ709 ?huZ709 ?_; (case HZ709 => exact heldOf (by k_asm)); (case d1Z709 => tb_rel); (case d2Z709 => tb_rel); (case hcZ709 => exact cmp_head (by assumption) _); (case hdZ709 => exact Nat.le_of_ble_eq_true rfl); (case huZ709 => ktr_units)))
  k_with "compareOp Eq str str" => (k_here; k_dflt (refine' eq_str_no ?hZ710 ?_; (case hZ710 => assumption); k_whole))
  k_with "ktr_enter" => (refine' code_defC ?k1Z711 ?k2Z711 ?k3Z711 ?k4Z711 ?k5Z711 ?kAZ711 ?kFZ711 ?kKZ711 ?k6Z711 ?k7Z711 ?k8Z711 ?k9Z711 ?kBZ711 ?kDZ711 ?_ ?c2Z711 ?c3Z711 ?c4Z711; (case kAZ711 => exact rfl); (case kFZ711 => exact rfl); (case kKZ711 => assumption); (case k1Z711 => k_asm); (case k2Z711 => k_asm); (case k3Z711 => k_asm); (case k4Z711 => k_asm); (case k5Z711 => k_asm); (case k6Z711 => k_is); (case k7Z711 => k_is); (case k8Z711 => ktr_room); (case k9Z711 => exact BindsTo.of_eq rfl); (case kBZ711 => exact rfl); (case kDZ711 => decide +kernel); (case c2Z711 => exact rfl); (case c3Z711 => exact rfl); (case c4Z711 => exact rfl); k_whole; intro g' L' h' tk' cells' FG' F' N' Y' B' X' T' l1; (try k_lt l1); k_cells Y'; (try simp only [List.cons_append, List.nil_append] at N'); (try dsimp only); (try k_fold))
  k_with "call ref" => (k_here; (with_reducible show wpAny _ _ (call (Value.ref 108) [Value.ref _, _] _) _ _ _); k_dflt (refine' fuse_use (f := 108) ?CZ712 ?hoZ712 ?hvZ712 ?hFZ712 ?hstZ712 ?hneZ712 ?hlenZ712 ?hmZ712 ?hcZ712 ?y1Z712 ?y2Z712 ?y3Z712 ?BZ712 ?FZ712 ?XZ712 ?NZ712 ?TZ712 ?hkZ712 ?hdZ712 ?huZ712 ?_; (case CZ712 => assumption); (case hvZ712 => assumption); (case hoZ712 => assumption); (case hFZ712 => assumption); (case hstZ712 => assumption); (case hneZ712 => assumption); (case hlenZ712 => first | assumption | omega); (case BZ712 => k_asm); (case FZ712 => k_asm); (case XZ712 => k_asm); (case NZ712 => k_asm); (case TZ712 => k_asm); (case hkZ712 => first | rfl | assumption); (case hmZ712 => tb_start); (case hcZ712 => kqd_sub); (case y1Z712 => k_all); (case y2Z712 => k_all); (case y3Z712 => k_all); (case hdZ712 => ktr_room); (case huZ712 => ktr_units); k_whole; intro r' t4' tk4' xs' n3' ys' n4' Y' h' tk' g' F' N' hst' hr'; (try simp only [List.cons_append, List.nil_append] at N'); (try k_fold)))
  k_with "call ref" => (k_here; (with_reducible show wpAny _ _ (call (Value.ref 115) [Value.ref _, _] _) _ _ _); k_dflt (refine' fuse_use (f := 115) ?CZ713 ?hoZ713 ?hvZ713 ?hFZ713 ?hstZ713 ?hneZ713 ?hlenZ713 ?hmZ713 ?hcZ713 ?y1Z713 ?y2Z713 ?y3Z713 ?BZ713 ?FZ713 ?XZ713 ?NZ713 ?TZ713 ?hkZ713 ?hdZ713 ?huZ713 ?_; (case CZ713 => assumption); (case hvZ713 => assumption); (case hoZ713 => assumption); (case hFZ713 => assumption); (case hstZ713 => assumption); (case hneZ713 => assumption); (case hlenZ713 => first | assumption | omega); (case BZ713 => k_asm); (case FZ713 => k_asm); (case XZ713 => k_asm); (case NZ713 => k_asm); (case TZ713 => k_asm); (case hkZ713 => first | rfl | assumption); (case hmZ713 => tb_start); (case hcZ713 => kqd_sub); (case y1Z713 => k_all); (case y2Z713 => k_all); (case y3Z713 => k_all); (case hdZ713 => ktr_room); (case huZ713 => ktr_units); k_whole; intro r' t4' tk4' xs' n3' ys' n4' Y' h' tk' g' F' N' hst' hr'; (try simp only [List.cons_append, List.nil_append] at N'); (try k_fold)))
  k_with "call ref" => (k_here; (with_reducible show wpAny _ _ (call (Value.ref 120) [Value.ref _, _] _) _ _ _); k_dflt (refine' fuse_use (f := 120) ?CZ714 ?hoZ714 ?hvZ714 ?hFZ714 ?hstZ714 ?hneZ714 ?hlenZ714 ?hmZ714 ?hcZ714 ?y1Z714 ?y2Z714 ?y3Z714 ?BZ714 ?FZ714 ?XZ714 ?NZ714 ?TZ714 ?hkZ714 ?hdZ714 ?huZ714 ?_; (case CZ714 => assumption); (case hvZ714 => assumption); (case hoZ714 => assumption); (case hFZ714 => assumption); (case hstZ714 => assumption); (case hneZ714 => assumption); (case hlenZ714 => first | assumption | omega); (case BZ714 => k_asm); (case FZ714 => k_asm); (case XZ714 => k_asm); (case NZ714 => k_asm); (case TZ714 => k_asm); (case hkZ714 => first | rfl | assumption); (case hmZ714 => tb_start); (case hcZ714 => kqd_sub); (case y1Z714 => k_all); (case y2Z714 => k_all); (case y3Z714 => k_all); (case hdZ714 => ktr_room); (case huZ714 => ktr_units); k_whole; intro r' t4' tk4' xs' n3' ys' n4' Y' h' tk' g' F' N' hst' hr'; (try simp only [List.cons_append, List.nil_append] at N'); (try k_fold)))
  k_with "call ref" => (k_here; (with_reducible show wpAny _ _ (call (Value.ref 68) [_, Value.str _ _] _) _ _ _); k_dflt (refine' isEx_use ?CZ715 ?hvZ715 ?eZ715 ?BZ715 ?FZ715 ?XZ715 ?NZ715 ?TZ715 ?hkZ715 ?hsZ715 ?hdZ715 ?huZ715 ?_; (case CZ715 => exact isEx_con _); (case hvZ715 => assumption); (case eZ715 => first | rfl | assumption); (case BZ715 => k_asm); (case FZ715 => k_asm); (case XZ715 => k_asm); (case NZ715 => k_asm); (case TZ715 => k_asm); (case hkZ715 => first | rfl | assumption); (case hsZ715 => tb_start); (case hdZ715 => ktr_room); (case huZ715 => ktr_units); k_whole; intro h' tk' F' N'; (try k_fold)))
  k_with "eval Call Name cons nil" => (k_here; refine Call_ ?_)
  k_with "k_all" => first
  | assumption
  | (refine' GrowT.off ?gZ717 ?oZ717 ?NZ717 ?sZ717 ?mZ717 ?cZ717; (case gZ717 => assumption); (case NZ717 => k_asm); (case sZ717 => tb_start); (case mZ717 => lsm_bools); (case cZ717 => rfl); (case oZ717 => k_all))
  | (refine' offLt ?hZ717 ?sZ717; (case hZ717 => assumption); (case sZ717 => tb_start))
  | exact List.forall_mem_nil _
  | (refine' List.forall_mem_cons.mpr ⟨?aZ717, ?bZ717⟩; (case aZ717 => first | k_dflt assumption | k_dflt (refine Ne.symm ?_; assumption) | exact adr_ne (by omega) | (refine' apart_of ?NZ717 ?pZ717 ?qZ717 ?eZ717; (case NZ717 => k_asm); (case pZ717 => lsm_bools); (case qZ717 => lsm_bools); (case eZ717 => rfl))); (case bZ717 => k_all))
  | fail "not apart"
  k_with "call ref" => (k_here; (with_reducible show wpAny _ _ (call (Value.ref 120) [Value.ref _, _] _) _ _ _); k_dflt (refine' fuse_useE ?CZ718 ?hoZ718 ?hvZ718 ?hlenZ718 ?hFZ718 ?e1Z718 ?e2Z718 ?hneZ718 ?hmZ718 ?hcZ718 ?y1Z718 ?y2Z718 ?y3Z718 ?BZ718 ?FZ718 ?XZ718 ?NZ718 ?TZ718 ?hkZ718 ?hdZ718 ?huZ718 ?_; (case CZ718 => assumption); (case hvZ718 => assumption); (case hoZ718 => assumption); (case hlenZ718 => assumption); (case NZ718 => k_asm); (case hFZ718 => refine' ⟨?f1Z718, ⟨_, _, _, ?f2Z718⟩, ?f3Z718⟩; (case f1Z718 => lsm_bools); (case f2Z718 => lsm_bools); (case f3Z718 => lsm_bools)); (case hmZ718 => tb_start); (case e1Z718 => rfl); (case e2Z718 => rfl); (case hneZ718 => exact adr_ne (by omega)); (case hcZ718 => kqd_sub); (case BZ718 => k_asm); (case FZ718 => k_asm); (case XZ718 => k_asm); (case TZ718 => k_asm); (case hkZ718 => first | rfl | assumption); (case y1Z718 => k_all); (case y2Z718 => k_all); (case y3Z718 => k_all); (case hdZ718 => ktr_room); (case huZ718 => ktr_units); k_whole; intro r' t4' tk4' nvs' n3' lvs' n4' Y' h' tk' g' F' N' ln' ll' hn' hl' hr'; (try simp only [List.cons_append, List.nil_append] at N'); (try k_fold)))
  k_with "call ref" => (k_here; (with_reducible show wpAny _ _ (call (Value.ref 151) [Value.ref _, _] _) _ _ _); k_dflt (refine' fo_use ?CZ719 ?hnZ719 ?hmZ719 ?hNZ719 ?hvZ719 ?BZ719 ?FZ719 ?XZ719 ?NZ719 ?TZ719 ?hkZ719 ?hdZ719 ?huZ719 ?_; (case CZ719 => assumption); (case NZ719 => k_asm); (case hmZ719 => lsm_bools); (case hNZ719 => (refine' TAll.mono ?sZ719 ?hZ719; (case hZ719 => assumption); (case sZ719 => exact subT_of (by tb_start)))); (case hvZ719 => (refine' TIn.mono ?sZ719 ?hZ719; (case hZ719 => assumption); (case sZ719 => exact subT_of (by tb_start)))); (case hnZ719 => omega); (case BZ719 => k_asm); (case FZ719 => k_asm); (case XZ719 => k_asm); (case TZ719 => k_asm); (case hkZ719 => first | rfl | assumption); (case hdZ719 => ktr_room); (case huZ719 => ktr_units); k_whole; intro r' Y' h' tk' g' F' N' hr'; (try simp only [List.cons_append, List.nil_append] at N'); (try k_fold)))
  k_with "binaryOp Add ref ref" => (k_here; k_dflt (refine' add_tupE ?FZ720 ?NZ720 ?aZ720 ?bZ720 ?l1Z720 ?zZ720 ?_; (case FZ720 => k_asm); (case NZ720 => k_asm); (case aZ720 => lsm_bools); (case bZ720 => lsm_bools); (case l1Z720 => (simp only [List.length_cons, List.length_nil]; omega)); (case zZ720 => (simp only [sizeLine_eq, List.length_cons, List.length_nil]; omega)); k_whole; intro D' n' h' F' N'; (try k_sweep)))
  k_with "compareOp NotEq ref ref" => (k_here; k_dflt (first
  | (refine' ne_nn ?NZ721 ?h1Z721 ?h2Z721 ?huZ721 ?_; (case NZ721 => k_asm); (case h1Z721 => lsm_bools); (case h2Z721 => lsm_bools); (case huZ721 => ktr_units); k_whole)
  | (refine' ne_cn ?NZ721 ?h1Z721 ?h2Z721 ?d1Z721 ?okZ721 ?huZ721 ?_; (case NZ721 => k_asm); (case h1Z721 => lsm_bools); (case h2Z721 => lsm_bools); (case d1Z721 => tb_rel); (case okZ721 => decide +kernel); (case huZ721 => ktr_units); k_whole)))
  k_with "compareOp Eq ref ref" => (k_here; k_dflt (first
  | (refine' eq_dat (r := false) ?HZ722 ?d1Z722 ?d2Z722 ?hcZ722 ?hdZ722 ?huZ722 ?_; (case HZ722 => exact heldOf (by k_asm)); (case d1Z722 => tb_rel); (case d2Z722 => (show TIn _ _ (symD _); tb_rel)); (case hcZ722 => with_unfolding_all rfl); (case hdZ722 => exact Nat.le_of_ble_eq_true rfl); (case huZ722 => ktr_units))
  | (refine' eq_dat (r := true) ?HZ722 ?d1Z722 ?d2Z722 ?hcZ722 ?hdZ722 ?huZ722 ?_; (case HZ722 => exact heldOf (by k_asm)); (case d1Z722 => tb_rel); (case d2Z722 => (show TIn _ _ (symD _); tb_rel)); (case hcZ722 => with_unfolding_all rfl); (case hdZ722 => exact Nat.le_of_ble_eq_true rfl); (case huZ722 => ktr_units))))
  k_with "call builtin:list.extend" => (k_here; k_dflt (refine' ext_nilT ?FZ723 ?NZ723 ?bZ723 ?UZ723 ?zZ723 ?_; (case FZ723 => k_asm); (case NZ723 => k_asm); (case bZ723 => lsm_bools); (case UZ723 => k_upd); (case zZ723 => exact Nat.le_of_ble_eq_true rfl)); intro h' F' N'; (try dsimp only at N'); (try k_sweep))
  k_with "call ref" => (k_here; (with_reducible show wpAny _ _ (call (Value.ref 141) [_] _) _ _ _); k_dflt (refine' mend_use ?CZ724 ?hvZ724 ?BZ724 ?FZ724 ?XZ724 ?NZ724 ?TZ724 ?hkZ724 ?hdZ724 ?huZ724 ?_; (case NZ724 => k_asm); (case hvZ724 => (refine' TIn.mono ?sZ724 ?hZ724; (case hZ724 => assumption); (case sZ724 => exact subT_of (by tb_start)))); (case CZ724 => assumption); (case BZ724 => k_asm); (case FZ724 => k_asm); (case XZ724 => k_asm); (case TZ724 => k_asm); (case hkZ724 => first | rfl | assumption); (case hdZ724 => ktr_room); (case huZ724 => ktr_units); k_whole; intro Y' h' tk' g' F' N'; (try k_fold)))
  k_with "subscriptTail Subscript Name Constant Slice ref ref" => (k_here; k_dflt
  (refine' slice_from ?FZ725 ?NZ725 ?tZ725 ?oZ725 ?lZ725 ?zZ725 ?_ ?hsZ725 ?hgZ725; (case FZ725 => k_asm); (case NZ725 => k_asm); (case tZ725 => lsm_bools); (case oZ725 => exact Nat.le_of_ble_eq_true rfl); (case lZ725 => exact Nat.le_of_ble_eq_true rfl); (case zZ725 => exact Nat.le_of_ble_eq_true rfl); (case hsZ725 => with_unfolding_all rfl); (case hgZ725 => (intro _; with_unfolding_all rfl)); k_whole; intro D' h' F' N' l1; (try k_lt l1); (try k_sweep)))
  k_with "subscriptTail Name Slice ref ref" => (k_here; k_dflt
  (refine' slice_from ?FZ726 ?NZ726 ?tZ726 ?oZ726 ?lZ726 ?zZ726 ?_ ?hsZ726 ?hgZ726; (case FZ726 => k_asm); (case NZ726 => k_asm); (case tZ726 => lsm_bools); (case oZ726 => exact Nat.le_of_ble_eq_true rfl); (case lZ726 => exact Nat.le_of_ble_eq_true rfl); (case zZ726 => exact Nat.le_of_ble_eq_true rfl); (case hsZ726 => with_unfolding_all rfl); (case hgZ726 => (intro _; with_unfolding_all rfl)); k_whole; intro D' h' F' N' l1; (try k_lt l1); (try k_sweep)))
  trivial
open LCg LCt
set_option maxHeartbeats 8000000 in
theorem goal_y (w : World) : GoalC w (tS "y") (tS "y") := by
  intro pv Y hv
  obtain ⟨a, n, t1, t2, rfl, hm⟩ := sym_inv hv
  refine Con.intro ?_
  intro dp un gd cn cs fa ccd cl outer A₀ base h₀ L m s mean mg mb Q E B F X N Tp hk hd hu fin
  simp only [List.nil_append] at N
  refine wpAny_call ?_
  w_strict (
    k_dflt ktr_enter
    k_steps)
  refine' fin [] _ _ _ _ (by k_asm) (by k_asm) (List.forall_mem_nil _) ?Y (fun Y₁ hs => ⟨rfl, TIn.mono hs ?P⟩)
  case Y => tb_start
  case P => (refine' TIn.mono ?s ?h; (case h => assumption); (case s => exact subT_of (by tb_start)))
set_option maxHeartbeats 8000000 in
theorem goal_ref (w : World) (M1 : MendC w (tS ":") false) (M2 : MendC w (tE "call" [tS "k", .int 3]) false) :
    GoalC w (tE "ref" [tS "y", tS ":", tE "call" [tS "k", .int 3]]) (tE "call" [tS "view", tS "y", tS ":", tE "call" [tS "k", .int 3]]) := by
  intro pv Y hv
  obtain ⟨a, n, t1, t2, b, vs, k, rfl, hm, hm2, hT⟩ := ex_inv hv
  cases hT with
  | @cons v0 _ _ _ hv0 hT =>
  cases hT with
  | @cons v1 _ _ _ hv1 hT =>
  cases hT with
  | @cons v2 _ _ _ hv2 hT =>
  cases hT
  refine Con.intro ?_
  intro dp un gd cn cs fa ccd cl outer A₀ base h₀ L m s mean mg mb Q E B F X N Tp hk hd hu fin
  simp only [List.nil_append] at N
  refine wpAny_call ?_
  w_strict (
    k_dflt ktr_enter
    k_steps)
  unfold Hold
  rename Fr _ _ _ _ => F1
  refine' comp_tup_if F1 ?hclos ?hcell ?hkind ?hnames ?hx ?h ?hs
  case hclos => with_unfolding_all rfl
  case hcell => decide
  case hkind => rfl
  case hnames => decide
  case hx => rfl
  case hs => (intro _; with_unfolding_all rfl)
  case h =>
    w_strict (
      k_steps)
    refine' ifsrc (vs := [v1, v2]) ?hh ?F ?N ?hm ?hz fun g9 => ?R
    case hh => rfl
    case F => k_asm
    case N => k_asm
    case hm => lsm_bools
    case hz => exact Nat.le_of_ble_eq_true rfl
    case R =>
      refine CompRestT.succ (k := 1) ?_
      intro v I oI C oC D m₂ h tk E' hP hoC hx F' N' off ne
      obtain rfl : v1 = v := by simpa using hP
      have off' := off
      simp only [LCg.Off3] at off'
      k_sweep
      w_strict (
        k_steps)
      refine' turn_end ?F ?N (fun p hp => GrowT.mem' (by assumption) hp) off ?S ?_
      case F => k_asm
      case N => k_asm
      case S => exact List.Mem.head _
      clear off' off ne F' N' hoC hx hP
      refine CompRestT.succ (k := 0) ?_
      intro v I oI C oC D m₂ h tk E' hP hoC hx F' N' off ne
      obtain rfl : v2 = v := by simpa using hP
      have off' := off
      simp only [LCg.Off3] at off'
      k_sweep
      w_strict (
        k_steps)
      refine' turn_end ?F ?N (fun p hp => GrowT.mem' (by assumption) hp) off ?S ?_
      case F => k_asm
      case N => k_asm
      case S => exact List.Mem.head _
      clear off' off ne F' N' hoC hx hP
      refine CompRestT.zero ?_
      intro D h tk F' N' o1
      have o1' := o1
      simp only [LCg.Off1] at o1'
      k_sweep
      w_strict (
        k_steps)
      refine' fin [] _ _ _ _ (by k_asm) (by k_asm) (List.forall_mem_nil _) ?Y (fun Y₁ hs => ⟨rfl, TIn.mono hs ?P⟩)
      case Y => tb_start
      case P =>
        show TIn _ _ (.tuple [sS "expr", sS "call", .tuple [symD (Str.ofString "view"), (tS "y").dat, (tS ":").dat, (tE "call" [tS "k", .int 3]).dat]])
        tb_rel
end
section
-- RefL
theorem reset_RefL : True := by
  w_top off
  k_with "call ref" => (k_here; (with_reducible show wpAny _ _ (call (Value.ref 146) [_] _) _ _ _); k_dflt (refine' goal_use ?CZ676 ?hvZ676 ?BZ676 ?FZ676 ?XZ676 ?NZ676 ?TZ676 ?hkZ676 ?hdZ676 ?huZ676 ?_; (case CZ676 => assumption); (case NZ676 => k_asm); (case hvZ676 => (refine' TIn.mono ?sZ676 ?hZ676; (case hZ676 => assumption); (case sZ676 => exact subT_of (by tb_start)))); (case BZ676 => k_asm); (case FZ676 => k_asm); (case XZ676 => k_asm); (case TZ676 => k_asm); (case hkZ676 => first | rfl | assumption); (case hdZ676 => ktr_room); (case huZ676 => ktr_units); k_whole; intro r' Y' h' tk' g' F' N' hr'; (try k_fold)))
  k_with "compareOp NotEq int int" => (k_here; k_dflt (refine' ne_int_same ?eZ677 ?_; (case eZ677 => rfl); k_whole))
  k_with "call ref" => (k_here; (with_reducible show wpAny _ _ (call (Value.ref 45) _) _ _ _); k_dflt (refine' call_fault ?XZ678 ?FZ678 ?NZ678 ?zZ678 ?_; (case FZ678 => k_asm); (case NZ678 => k_asm); (case XZ678 => k_in); (case zZ678 => exact Nat.le_of_ble_eq_true rfl); k_whole; intro e' t' h' F' N' l1 l2; (try k_lt l1); (try k_lt l2); (try k_sweep); refine wpAny_call ?_; first | k_enter | kdv_enter | kdv_enterE | refine' Hold.of ?_))
  k_with "exec Raise some none" => (k_here; k_dflt (refine' Raise_fault ?hhZ679 ?_; (case hhZ679 => first | rfl | assumption)))
  k_with "Faulty" => (refine' faulty_of ?XZ680 ?FZ680 ?NZ680 ?heZ680 ?h1Z680 ?_; (case FZ680 => k_asm); (case NZ680 => k_asm); (case XZ680 => k_in); (case heZ680 => lsm_bools); (case h1Z680 => rfl); k_whole)
  k_with "leaving ref" => (k_here; first
  | (refine' leave_on ?KZ681 ?FZ681 ?RZ681 ?UZ681 ?_ ?hfZ681; (case RZ681 => assumption); (case hfZ681 => exact rfl); (case KZ681 => assumption); (case UZ681 => assumption); (case FZ681 => assumption); k_whole; intro h' R' U'; (try dsimp only at R' U' ⊢))
  | (refine' leave_fault ?KZ681 ?FZ681 ?NZ681 ?kpZ681 ?heZ681 ?hcZ681 ?hdZ681 ?h1Z681 ?h0Z681 ?htZ681 ?hsZ681 ?hnZ681 ?hn2Z681 ?_ ?hfZ681 ?hkZ681; (case hfZ681 => exact rfl); (case hkZ681 => exact rfl); (case KZ681 => assumption); (case FZ681 => k_asm); (case NZ681 => k_asm); (case kpZ681 => assumption); (case heZ681 => lsm_bools); (case hcZ681 => rfl); (case hdZ681 => rfl); (case h1Z681 => rfl); (case h0Z681 => rfl); (case htZ681 => lsm_bools); (case hsZ681 => tb_start); (case hnZ681 => k_all); (case hn2Z681 => k_all); k_whole; intro h' R' U'; (try dsimp only at R' U' ⊢)))
  k_with "noteFrame ref" => (k_here; (refine' caught_SO0 (KF := hd.heap_39 _) ?RZ682 ?FZ682 ?KZ682 ?UZ682 ?XBZ682 ?TBZ682 ?DZ682 ?T0Z682 ?exZ682 ?qZ682 ?_; (case RZ682 => assumption); (case FZ682 => assumption); (case KZ682 => assumption); (case UZ682 => assumption); (case XBZ682 => assumption); (case TBZ682 => assumption); (case DZ682 => assumption); (case T0Z682 => first | assumption | exact KtsTurn.refl); (case exZ682 => k_is); (case qZ682 => first | k_is | kernel_rfl); k_whole; intro h' g' n' T' F' N' G' M' K' X' P' D'))
  k_with "compareOp Gt int int" => (k_here; k_dflt (refine' gt_yes ?eZ683 ?_; (case eZ683 => rfl); k_whole))
  k_with "getMethod type:Exception" => (k_here; refine' method_type ?FZ684 ?XZ684 ?mZ684 (by decide +kernel) ?eZ684 ?hZ684 ?_; (case FZ684 => k_asm); (case XZ684 => k_asm); (case mZ684 => first | rfl | kernel_rfl); (case eZ684 => k_dflt k_is); (case hZ684 => k_handed))
  k_with "call builtin:Exception.__init__" => (k_here; (refine' exc_init ?FZ685 ?NZ685 ?XZ685 ?offZ685 ?zZ685 ?_; (case FZ685 => k_asm); (case NZ685 => k_asm); (case XZ685 => k_in); (case offZ685 => k_all); (case zZ685 => exact Nat.le_of_ble_eq_true rfl); k_whole; intro t' h' F' N' l1; (try k_lt l1); (try k_sweep)))
  k_with "setAttr ref" => (k_here; k_dflt (first
  | (refine' set_first' ?FZ686 ?NZ686 ?XZ686 ?haZ686 ?offZ686 ?otZ686 ?_; (case FZ686 => k_asm); (case NZ686 => k_asm); (case XZ686 => k_in); (case haZ686 => k_is); (case offZ686 => k_all); (case otZ686 => exact adr_ne (by omega)); k_whole; intro d' h' F' N' l1; (try k_lt l1); (try k_sweep))
  | (refine' set_next' ?FZ686 ?NZ686 ?XZ686 ?offZ686 ?_; (case FZ686 => k_asm); (case NZ686 => k_asm); (case XZ686 => k_in); (case offZ686 => k_all); k_whole; intro h' F' N'; (try k_sweep))))
  trivial
open LCg LCt
set_option maxHeartbeats 8000000 in
theorem refused_last (w : World) (nn : Nat) (hnn : nn ≤ 3) (BC : FuseC w 120 (30 + 8 * nn) (160 + 60 * nn) (TreeOk nn) thingsT bodyT) (M1 : MendC w (tS "end") true) (t : T) (hto : TreeOk nn t) : RefC w (tE ".=" [tE "ref" [tS "y", tS "end"], t]) := by
  intro tv Y htv
  have hkeep : KeepIs Y := trivial
  have hth : (thingsT t).length ≤ 40 := Nat.le_trans (things_len nn t hto) (cntB_le hnn)
  have he1 : isEx (tE ".=" [tE "ref" [tS "y", tS "end"], t]) (kS "dotcall") = false := beq_eq_false_iff_ne.mpr (by decide)
  have he2 : isEx (tE ".=" [tE "ref" [tS "y", tS "end"], t]) (kS ".=") = true := by simp [isEx]
  have he3 : isEx (tE "ref" [tS "y", tS "end"]) (kS "ref") = true := by simp [isEx]
  obtain ⟨a, n, t1, t2, b, vs, k, rfl, hm, hm2, hT⟩ := ex_inv htv
  cases hT with
  | @cons v0 _ _ _ hv0 hT =>
  cases hT with
  | @cons v1 _ _ _ hv1 hT =>
  cases hT
  obtain ⟨a1, rfl⟩ := tree_ref hv1
  obtain ⟨a0, n0, t3, t4, b0, vs0, k0, rfl, hm3, hm4, hT0⟩ := ex_inv hv0
  cases hT0 with
  | @cons u0 _ _ _ hu0 hT0 =>
  cases hT0 with
  | @cons u1 _ _ _ hu1 hT0 =>
  cases hT0
  intro dp un gd cn cs fa ccd A₀ h₀ L m s mean mg mb Q E B F X N Tp hk hd hu fin
  refine wpAny_call ?_
  w_strict (
    (refine' code_defS0 ?k1 ?k2 ?k3 ?k4 ?k5 ?kA ?k6 ?k7 ?k8 ?k9 ?kB ?_ ?cK ?c2 ?c3 ?c4 ?c5; (case kA => exact rfl); (case k2 => k_asm); (case k1 => k_asm); (case k3 => k_asm); (case k4 => k_asm); (case k5 => k_asm); (case k6 => k_is); (case k7 => k_is); (case k8 => k_room); (case k9 => exact BindsTo.of_eq rfl); (case kB => exact locs rfl); (case cK => assumption); (case c2 => exact rfl); (case c3 => exact rfl); (case c4 => exact rfl); (case c5 => decide); k_whole; intro g' L' h' FG' F' N' B' X' T' D'; (try dsimp only); (try k_lift B'); (try k_fold))
    k_steps)
  unfold Hold
  rename Fr _ _ _ _ => F1
  refine' comp_tup_if F1 ?hclos ?hcell ?hkind ?hnames ?hx ?h ?hs
  case hclos => with_unfolding_all rfl
  case hcell => decide
  case hkind => rfl
  case hnames => decide
  case hx => rfl
  case hs => (intro _; with_unfolding_all rfl)
  case h =>
    w_strict (
      k_steps)
    refine' ifsrc (vs := [u1]) ?hh ?F ?N ?hm ?hz fun g9 => ?R
    case hh => rfl
    case F => k_asm
    case N => k_asm
    case hm => lsm_bools
    case hz => exact Nat.le_of_ble_eq_true rfl
    case R =>
      refine CompRestT.succ (k := 0) ?_
      intro v I oI C oC D m₂ h tk E' hP hoC hx F' N' off ne
      obtain rfl : u1 = v := by simpa using hP
      have off' := off
      simp only [LCg.Off3] at off'
      k_sweep
      w_strict (
        k_steps)
      refine' turn_end ?F ?N (fun p hp => GrowT.mem' (by assumption) hp) off ?S ?_
      case F => k_asm
      case N => k_asm
      case S => exact List.Mem.head _
      clear off' off ne F' N' hoC hx hP
      refine CompRestT.zero ?_
      intro D h tk F' N' o1
      have o1' := o1
      simp only [LCg.Off1] at o1'
      k_sweep
      w_strict (
        k_steps)
      exact fin _ _ (by k_asm) (by k_asm)
end
section
-- RefS
theorem reset_RefS : True := by
  w_top off
  k_with_none
  k_with "kt_len" => first | assumption | exact ltm (by assumption) (by lsm_bools) | exact lt3 (by assumption) (by assumption) (by lsm_bools) | exact ltk (by assumption) | exact lk0 (by assumption) (by rfl) | exact lk1 (by assumption) (by rfl) | exact ltn (by assumption) (by lsm_bools) | exact lka (by rfl) | exact lkb (by rfl) | exact And.left (by assumption) | exact pj1 (by assumption) | exact pj2 (by assumption) | fail "no"
  k_with "ktr_room" => first | exact szg (by rfl) | exact rm2 (by assumption) (by rfl) | exact rs2 (by assumption) (by rfl) | exact rm0 (by assumption) | exact rm1 (by assumption) (by rfl) | exact rs1 (by assumption) (by rfl) | exact rm3 (by assumption) (by rfl) | exact rm4 (by assumption) (by rfl) | exact rm5 (by assumption) (by rfl) | exact rmn (by assumption) (by assumption) (by rfl) | exact rmt (by assumption) (by rfl) | fail "no"
  k_with "ktr_units" => k_extra "ktr_room"
  k_with "omega" => first | with_reducible assumption | (show (_ : Nat) < _; first | assumption | k_extra "ktr_room") | (show (_ : Nat) ≤ _; first | assumption | exact szg (by rfl) | exact sza (by assumption) (by rfl) | exact szb (by assumption) (by assumption) (by rfl) | exact szc (by assumption) (by rfl) | exact szd (by assumption) (by rfl) | exact cza (by assumption) (by rfl) | exact szs (by assumption) | exact Nat.le_of_eq (by assumption)) | (show (_ : Nat) ≠ _; first | assumption | exact Ne.symm (by assumption) | exact ofI (by assumption) (by lsm_bools) | exact ofC (by assumption) (by lsm_bools) | exact ofD (by assumption) (by lsm_bools) | exact fI (by assumption) (by lsm_bools) | exact fC (by assumption) (by lsm_bools) | exact fD (by assumption) (by lsm_bools) | exact Nat.ne_of_lt (by kt_len) | exact Nat.ne_of_gt (by kt_len)) | (show (_ : Nat) < _ ∨ _; first | exact Or.inl (by kt_len) | exact Or.inr (by kt_len)) | fail "no"
  k_with "lsm_bools" => first | exact List.Mem.head _ | assumption | (refine' List.Mem.tail _ ?_; lsm_bools) | (refine' GrowT.mem ?gZ749 ?hZ749; (case gZ749 => assumption); (case hZ749 => lsm_bools)) | fail "no entry"
  k_with "k_mem" => first | lsm_bools | fail "no entry"
  k_with "tb_start" => first
  | exact List.forall_mem_nil _
  | (refine' List.forall_mem_cons.mpr ⟨?aZ751, ?bZ751⟩; (case aZ751 => lsm_bools); (case bZ751 => tb_start))
  | (intro p hp; repeat (first | exact hp | refine List.mem_cons_of_mem _ ?_ | refine List.Mem.tail _ ?_ | refine GrowT.mem' (by assumption) ?_ | refine GrowT.mem (by assumption) ?_ | fail "no entry"))
  | fail "not within"
  k_with "k_all" => first
  | assumption
  | (refine' GrowT.off ?gZ752 ?oZ752 ?NZ752 ?sZ752 ?mZ752 ?cZ752; (case gZ752 => assumption); (case NZ752 => k_asm); (case sZ752 => tb_start); (case mZ752 => lsm_bools); (case cZ752 => rfl); (case oZ752 => k_all))
  | (refine' offLt ?hZ752 ?sZ752; (case hZ752 => assumption); (case sZ752 => tb_start))
  | (refine' offLt3 ?qZ752 ?hZ752 ?sZ752; (case qZ752 => assumption); (case hZ752 => assumption); (case sZ752 => tb_start))
  | fail "not apart"
  k_with "kqd_sub" => first
  | (refine' Cut.own ?mZ753 ?rZ753; (case mZ753 => lsm_bools); (case rZ753 => kqd_sub))
  | (refine' Cut.oth ?oZ753 ?rZ753; (case oZ753 => k_all); (case rZ753 => kqd_sub))
  | exact Cut.tail
  | fail "no cut"
  k_with "ktr_rel" => first
  | exact subT_nil
  | exact subT_of (fun _ hp => hp)
  | assumption
  | (refine' subT_skip ?aZ754 ?bZ754; (case aZ754 => rfl); (case bZ754 => ktr_rel))
  | (refine' subT_cons ?aZ754 ?bZ754; (case aZ754 => lsm_bools); (case bZ754 => ktr_rel))
  | (refine' subT_of ?hZ754; (case hZ754 => tb_start))
  | (refine' subT_app (by ktr_rel) (by ktr_rel))
  | fail "tuples not within"
  k_with "k_room" => ktr_room
  k_with "k_units" => ktr_units
  k_with "tb_rel" => first
  | exact TAll.nil
  | exact TIn.str _ _
  | exact TIn.int _ _
  | exact TIn.bytes _ _
  | assumption
  | (refine' TIn.mono ?sZ757 ?hZ757; (case hZ757 => assumption); (case sZ757 => ktr_rel))
  | (refine' TAll.mono ?sZ757 ?hZ757; (case hZ757 => assumption); (case sZ757 => ktr_rel))
  | (refine' TIn.tuple ?mZ757 ?rZ757; (case mZ757 => lsm_bools); (case rZ757 => tb_rel))
  | (refine' TAll.cons (by tb_rel) (by tb_rel))
  | fail "no tree"
  k_with "call ref" => (k_here; (with_reducible show wpAny _ _ (call (Value.ref 214) [Value.str _ _] _) _ _ _); k_dflt (refine' sym_use ?CZ758 ?hcZ758 ?BZ758 ?FZ758 ?XZ758 ?NZ758 ?TZ758 ?hkZ758 ?hdZ758 ?huZ758 ?_; (case CZ758 => exact sym_con _); (case NZ758 => k_asm); (case hcZ758 => kqd_sub); (case BZ758 => k_asm); (case FZ758 => k_asm); (case XZ758 => k_asm); (case TZ758 => k_asm); (case hkZ758 => first | rfl | assumption); (case hdZ758 => ktr_room); (case huZ758 => ktr_units); k_whole; intro a' Y' h' tk' g' F' N' hr'; (try simp only [List.cons_append, List.nil_append] at N'); (try k_fold)))
  k_with "call ref" => (k_here; (with_reducible show wpAny _ _ (call (Value.ref 207) [Value.str _ _, Value.ref _] _) _ _ _); k_dflt (refine' tree_use ?CZ759 ?hcZ759 ?hmZ759 ?hlZ759 ?hTZ759 ?BZ759 ?FZ759 ?XZ759 ?NZ759 ?TZ759 ?hkZ759 ?hdZ759 ?huZ759 ?_; (case CZ759 => exact tree_con _); (case NZ759 => k_asm); (case hcZ759 => kqd_sub); (case hmZ759 => lsm_bools); (case hlZ759 => exact Nat.le_of_ble_eq_true rfl); (case hTZ759 => tb_rel); (case BZ759 => k_asm); (case FZ759 => k_asm); (case XZ759 => k_asm); (case TZ759 => k_asm); (case hkZ759 => first | rfl | assumption); (case hdZ759 => ktr_room); (case huZ759 => ktr_units); k_whole; intro a' Y' h' tk' g' F' N' hr'; (try simp only [List.cons_append, List.nil_append] at N'); (try k_fold)))
  k_with "call ref" => (k_here; (with_reducible show wpAny _ _ (call (Value.ref 68) [_, Value.str _ _] _) _ _ _); k_dflt (refine' isEx_use ?CZ760 ?hvZ760 ?eZ760 ?BZ760 ?FZ760 ?XZ760 ?NZ760 ?TZ760 ?hkZ760 ?hsZ760 ?hdZ760 ?huZ760 ?_; (case CZ760 => exact isEx_con _); (case hvZ760 => assumption); (case eZ760 => first | assumption | rfl); (case hsZ760 => tb_start); (case BZ760 => k_asm); (case FZ760 => k_asm); (case XZ760 => k_asm); (case NZ760 => k_asm); (case TZ760 => k_asm); (case hkZ760 => first | rfl | assumption); (case hdZ760 => ktr_room); (case huZ760 => ktr_units); k_whole; intro h' tk' F' N'; (try k_fold)))
  k_with "call ref" => (k_here; (with_reducible show wpAny _ _ (call (Value.ref 82) [Value.ref _] _) _ _ _); k_dflt (refine' isSym_use ?hmZ761 ?eZ761 ?BZ761 ?FZ761 ?XZ761 ?NZ761 ?TZ761 ?hkZ761 ?hdZ761 ?huZ761 ?_; (case NZ761 => k_asm); (case hmZ761 => lsm_bools); (case eZ761 => first | rfl | decide); (case BZ761 => k_asm); (case FZ761 => k_asm); (case XZ761 => k_asm); (case TZ761 => k_asm); (case hkZ761 => first | rfl | assumption); (case hdZ761 => ktr_room); (case huZ761 => ktr_units); k_whole; intro h' tk' F' N'; (try k_fold)))
  k_with "call ref" => (k_here; (with_reducible show wpAny _ _ (call (Value.ref 75) [Value.ref _] _) _ _ _); k_dflt (first
  | (refine' parts_use ?hmZ762 ?BZ762 ?FZ762 ?XZ762 ?NZ762 ?TZ762 ?hkZ762 ?hdZ762 ?huZ762 ?_; (case NZ762 => k_asm); (case hmZ762 => lsm_bools); (case BZ762 => k_asm); (case FZ762 => k_asm); (case XZ762 => k_asm); (case TZ762 => k_asm); (case hkZ762 => first | rfl | assumption); (case hdZ762 => ktr_room); (case huZ762 => ktr_units); k_whole; intro h' tk' F' N'; (try k_fold))
  | (refine' parts0_use ?hcZ762 ?hmZ762 ?hzZ762 ?BZ762 ?FZ762 ?XZ762 ?NZ762 ?TZ762 ?hkZ762 ?hdZ762 ?huZ762 ?_; (case NZ762 => k_asm); (case hmZ762 => lsm_bools); (case hzZ762 => decide); (case hcZ762 => kqd_sub); (case BZ762 => k_asm); (case FZ762 => k_asm); (case XZ762 => k_asm); (case TZ762 => k_asm); (case hkZ762 => first | rfl | assumption); (case hdZ762 => ktr_room); (case huZ762 => ktr_units); k_whole; intro d' j' Y' h' tk' g' F' N' hm'; (try simp only [List.cons_append, List.nil_append] at N'); (try k_fold))))
  k_with "compareOp In str ref" => (k_here; k_dflt (refine' in_tupL ?htZ763 ?hiZ763 ?_; (case htZ763 => (refine' tupK ?XZ763 ?lZ763; (case XZ763 => k_in); (case lZ763 => k_is))); (case hiZ763 => exact rfl)))
  k_with "compareOp Eq ref ref" => (k_here; k_dflt (first
  | (refine' eq_dat (r := false) ?HZ764 ?d1Z764 ?d2Z764 ?hcZ764 ?hdZ764 ?huZ764 ?_; (case HZ764 => exact heldOf (by k_asm)); (case d1Z764 => tb_rel); (case d2Z764 => tb_rel); (case hcZ764 => with_unfolding_all rfl); (case hdZ764 => exact Nat.le_of_ble_eq_true rfl); (case huZ764 => ktr_units))
  | (refine' eq_dat (r := true) ?HZ764 ?d1Z764 ?d2Z764 ?hcZ764 ?hdZ764 ?huZ764 ?_; (case HZ764 => exact heldOf (by k_asm)); (case d1Z764 => tb_rel); (case d2Z764 => tb_rel); (case hcZ764 => with_unfolding_all rfl); (case hdZ764 => exact Nat.le_of_ble_eq_true rfl); (case huZ764 => ktr_units))))
  k_with "compareOp NotEq ref ref" => (k_here; k_dflt (first
  | (refine' ne_dat (r := false) ?HZ765 ?d1Z765 ?d2Z765 ?hcZ765 ?hdZ765 ?huZ765 ?_; (case HZ765 => exact heldOf (by k_asm)); (case d1Z765 => tb_rel); (case d2Z765 => tb_rel); (case hcZ765 => with_unfolding_all rfl); (case hdZ765 => exact Nat.le_of_ble_eq_true rfl); (case huZ765 => ktr_units))
  | (refine' ne_dat (r := true) ?HZ765 ?d1Z765 ?d2Z765 ?hcZ765 ?hdZ765 ?huZ765 ?_; (case HZ765 => exact heldOf (by k_asm)); (case d1Z765 => tb_rel); (case d2Z765 => tb_rel); (case hcZ765 => with_unfolding_all rfl); (case hdZ765 => exact Nat.le_of_ble_eq_true rfl); (case huZ765 => ktr_units))))
  k_with "subscriptTail Name Constant ref int" => (k_here; k_dflt (refine' item_tupleT ?tZ766 ?aZ766 ?bZ766 ?cZ766 ?dZ766 ?_; (case tZ766 => exact News.isTup (by k_asm) (by k_mem)); (case aZ766 => decide); (case bZ766 => decide); (case cZ766 => rfl); (case dZ766 => rfl); k_whole))
  k_with "ite" => (k_closed; k_dflt (first | (refine' ite_pos ?cZ767 ?_; (case cZ767 => decide)) | (refine' ite_neg ?cZ767 ?_; (case cZ767 => decide))))
  k_with "call ref" => (k_here; (with_reducible show wpAny _ _ (call (Value.ref 54) [Value.str _ _, Value.ref _] _) _ _ _); k_dflt (refine' expr_use ?hcZ768 ?hmZ768 ?hlZ768 ?BZ768 ?FZ768 ?XZ768 ?NZ768 ?TZ768 ?hkZ768 ?hdZ768 ?huZ768 ?_; (case NZ768 => k_asm); (case hmZ768 => lsm_bools); (case hcZ768 => kqd_sub); (case hlZ768 => first | exact Nat.le_of_ble_eq_true rfl | (simp only [List.length_append, List.length_cons, List.length_nil]; omega)); (case BZ768 => k_asm); (case FZ768 => k_asm); (case XZ768 => k_asm); (case TZ768 => k_asm); (case hkZ768 => first | rfl | assumption); (case hdZ768 => ktr_room); (case huZ768 => ktr_units); k_whole; intro a' t1' k' Y' h' tk' g' F' N' hm'; (try simp only [List.cons_append, List.nil_append] at N'); (try k_fold)))
  k_with "call ref" => (k_here; (with_reducible show wpAny _ _ (call (Value.ref 61) [Value.str _ _] _) _ _ _); k_dflt (refine' sym_use ?CZ769 ?hcZ769 ?BZ769 ?FZ769 ?XZ769 ?NZ769 ?TZ769 ?hkZ769 ?hdZ769 ?huZ769 ?_; (case CZ769 => exact symF_con _); (case NZ769 => k_asm); (case hcZ769 => kqd_sub); (case BZ769 => k_asm); (case FZ769 => k_asm); (case XZ769 => k_asm); (case TZ769 => k_asm); (case hkZ769 => first | rfl | assumption); (case hdZ769 => ktr_room); (case huZ769 => ktr_units); k_whole; intro a' Y' h' tk' g' F' N' hr'; (try simp only [List.cons_append, List.nil_append] at N'); (try k_fold)))
  k_with "call type:range cons nil" => (k_here; k_dflt (refine' range1_rows ?FZ770 ?NZ770 ?_; (case FZ770 => k_asm); (case NZ770 => k_asm); k_whole; intro h' tk' t1' u1' v1' hR' F' N' hst'; (try k_fold)))
  k_with "pyIter ref" => (k_here; (with_reducible show wpAny _ _ (pyIter (Value.ref _)) (fun it s₂ => LoopAtV _ _ _ _ _ _ _ _ _ it s₂) _ _); refine' Hold.of ?_)
  k_with "binaryOp Add ref ref" => (k_here; k_dflt (refine' add_cat ?FZ772 ?NZ772 ?aZ772 ?bZ772 ?zZ772 ?_; (case FZ772 => k_asm); (case NZ772 => k_asm); (case aZ772 => lsm_bools); (case bZ772 => lsm_bools); (case zZ772 => (simp only [sizeLine_eq, List.length_cons, List.length_nil]; omega)); k_whole; intro D' h' F' N' l1; (try k_lt l1); (try k_sweep)))
  k_with "subscriptTail Name Slice ref ref" => (k_here; k_dflt (first
  | (refine' slice_whole ?FZ773 ?NZ773 ?tZ773 ?lZ773 ?zZ773 ?_ ?hsZ773 ?hgZ773; (case FZ773 => k_asm); (case NZ773 => k_asm); (case tZ773 => lsm_bools); (case lZ773 => exact Nat.le_of_ble_eq_true rfl); (case zZ773 => exact Nat.le_of_ble_eq_true rfl); (case hsZ773 => with_unfolding_all rfl); (case hgZ773 => (intro _; with_unfolding_all rfl)); k_whole; intro h' F' N'; (try k_sweep))
  | (refine' slice_upto ?FZ773 ?NZ773 ?tZ773 ?lZ773 ?zZ773 ?_ ?hsZ773 ?hgZ773; (case FZ773 => k_asm); (case NZ773 => k_asm); (case tZ773 => lsm_bools); (case lZ773 => exact Nat.le_of_ble_eq_true rfl); (case zZ773 => exact Nat.le_of_ble_eq_true rfl); (case hsZ773 => with_unfolding_all rfl); (case hgZ773 => (intro _; with_unfolding_all rfl)); k_whole; intro D' h' F' N' l1; (try k_lt l1); (try k_sweep))))
  k_with "subscriptTail Name Slice ref ref" => (k_here; k_dflt
  (refine' slice_from ?FZ774 ?NZ774 ?tZ774 ?oZ774 ?lZ774 ?zZ774 ?_ ?hsZ774 ?hgZ774; (case FZ774 => k_asm); (case NZ774 => k_asm); (case tZ774 => lsm_bools); (case oZ774 => exact Nat.le_of_ble_eq_true rfl); (case lZ774 => (simp only [List.length_cons]; omega)); (case zZ774 => (simp only [sizeLine_eq, List.length_cons]; omega)); (case hsZ774 => with_unfolding_all rfl); (case hgZ774 => (intro _; with_unfolding_all rfl)); k_whole; intro D' h' F' N' l1; (try k_lt l1); (try k_sweep)))
  k_with "subscriptTail Subscript Name Constant Slice ref ref" => (k_here; k_dflt
  (refine' slice_from ?FZ775 ?NZ775 ?tZ775 ?oZ775 ?lZ775 ?zZ775 ?_ ?hsZ775 ?hgZ775; (case FZ775 => k_asm); (case NZ775 => k_asm); (case tZ775 => lsm_bools); (case oZ775 => exact Nat.le_of_ble_eq_true rfl); (case lZ775 => (simp only [List.length_cons]; omega)); (case zZ775 => (simp only [sizeLine_eq, List.length_cons]; omega)); (case hsZ775 => with_unfolding_all rfl); (case hgZ775 => (intro _; with_unfolding_all rfl)); k_whole; intro D' h' F' N' l1; (try k_lt l1); (try k_sweep)))
  k_with "call type:tuple cons nil" => (k_here; k_dflt (refine' tuple_of ?FZ776 ?NZ776 ?tZ776 ?zZ776 ?_; (case FZ776 => k_asm); (case NZ776 => k_asm); (case tZ776 => lsm_bools); (case zZ776 => first | exact Nat.le_of_ble_eq_true rfl | (simp only [sizeLine_eq, List.length_append, List.length_cons, List.length_nil]; omega)); k_whole; intro D' h' F' N' l1; (try k_lt l1); (try k_sweep)))
  k_with "subscriptTail Name Constant ref int" => (k_here; k_dflt (refine' item_tupI ?NZ777 ?mZ777 ?aZ777 ?bZ777 ?cZ777 ?_; (case NZ777 => k_asm); (case mZ777 => lsm_bools); (case aZ777 => decide); (case bZ777 => decide); (case cZ777 => exact rfl); k_whole))
  k_with "subscriptTail Subscript Name Constant Constant ref int" => (k_here; k_dflt (refine' item_tupI ?NZ778 ?mZ778 ?aZ778 ?bZ778 ?cZ778 ?_; (case NZ778 => k_asm); (case mZ778 => lsm_bools); (case aZ778 => decide); (case bZ778 => decide); (case cZ778 => exact rfl); k_whole))
  k_with "subscriptTail Subscript Subscript Constant Constant ref int" => (k_here; k_dflt (refine' item_tupI ?NZ779 ?mZ779 ?aZ779 ?bZ779 ?cZ779 ?_; (case NZ779 => k_asm); (case mZ779 => lsm_bools); (case aZ779 => decide); (case bZ779 => decide); (case cZ779 => exact rfl); k_whole))
  k_with "subscriptTail Call Name cons nil Constant ref int" => (k_here; k_dflt (refine' item_tupI ?NZ780 ?mZ780 ?aZ780 ?bZ780 ?cZ780 ?_; (case NZ780 => k_asm); (case mZ780 => lsm_bools); (case aZ780 => decide); (case bZ780 => decide); (case cZ780 => exact rfl); k_whole))
  k_with "binaryOp Add ref ref" => (k_here; k_dflt (refine' add_tupC ?FZ781 ?NZ781 ?aZ781 ?bZ781 ?l1Z781 ?l2Z781 ?zZ781 ?_; (case FZ781 => k_asm); (case NZ781 => k_asm); (case aZ781 => lsm_bools); (case bZ781 => lsm_bools); (case l1Z781 => (simp only [List.length_cons, List.length_nil]; omega)); (case l2Z781 => omega); (case zZ781 => (simp only [sizeLine_eq, List.length_cons, List.length_nil]; omega)); k_whole; intro D' h' F' N' l1; (try k_lt l1); (try k_sweep)))
  k_with "call type:tuple cons nil" => (k_here; k_dflt (refine' tuple_same ?NZ782 ?tZ782 ?_; (case NZ782 => k_asm); (case tZ782 => lsm_bools); k_whole))
  k_with "call builtin:len cons nil" => (k_here; k_dflt (refine' len_tupK ?NZ783 ?tZ783 ?zZ783 ?_; (case NZ783 => k_asm); (case tZ783 => lsm_bools); (case zZ783 => (simp only [sizeLine_eq, List.length_cons, List.length_nil]; omega)); k_whole; intro tk1' tk2'))
  k_with "eval ListComp" => (k_here; refine' Hold.of ?_)
  k_with "compareOp NotEq ref ref" => (k_here; k_dflt (refine' ne_dat (r := false) ?HZ785 ?d1Z785 ?d2Z785 ?hcZ785 ?hdZ785 ?huZ785 ?_; (case HZ785 => exact heldOf (by k_asm)); (case d1Z785 => tb_rel); (case d2Z785 => tb_rel); (case hcZ785 => exact cmp_head (by assumption) _); (case hdZ785 => exact Nat.le_of_ble_eq_true rfl); (case huZ785 => ktr_units)))
  k_with "call ref" => (k_here; (with_reducible show wpAny _ _ (call (Value.ref 233) [_] _) _ _ _); k_dflt (refine' plain_use ?CZ786 ?hoZ786 ?hvZ786 ?BZ786 ?FZ786 ?XZ786 ?NZ786 ?TZ786 ?hkZ786 ?hcZ786 ?hdZ786 ?huZ786 ?_; (case CZ786 => assumption); (case hoZ786 => assumption); (case hvZ786 => assumption); (case BZ786 => k_asm); (case FZ786 => k_asm); (case XZ786 => k_asm); (case NZ786 => k_asm); (case TZ786 => k_asm); (case hkZ786 => first | rfl | assumption); (case hcZ786 => kqd_sub); (case hdZ786 => ktr_room); (case huZ786 => ktr_units); k_whole; intro r' Y' h' tk' g' F' N' hr'; (try simp only [List.cons_append, List.nil_append] at N'); (try k_fold)))
  k_with "call ref" => (k_here; (with_reducible show wpAny _ _ (call (Value.ref 240) [_] _) _ _ _); k_dflt (refine' things_use ?CZ787 ?hoZ787 ?hvZ787 ?BZ787 ?FZ787 ?XZ787 ?NZ787 ?TZ787 ?hkZ787 ?hcZ787 ?hdZ787 ?huZ787 ?_; (case CZ787 => assumption); (case hoZ787 => assumption); (case hvZ787 => assumption); (case BZ787 => k_asm); (case FZ787 => k_asm); (case XZ787 => k_asm); (case NZ787 => k_asm); (case TZ787 => k_asm); (case hkZ787 => first | rfl | assumption); (case hcZ787 => kqd_sub); (case hdZ787 => ktr_room); (case huZ787 => ktr_units); k_whole; intro a' vs' k' Y' h' tk' g' F' N' hr' hrl'; (try simp only [List.cons_append, List.nil_append] at N'); (try k_fold)))
  k_with "exec For Name Subscript" => (k_here; (rename Fr _ _ _ _ => lF'); (with_unfolding_all refine' For_invVF lF' ?k1Z788 ?k2Z788 ?_; (case k1Z788 => exact rfl); (case k2Z788 => exact rfl); k_whole))
  k_with "compareOp Eq ref ref" => (k_here; k_dflt (refine' eq_dat (r := false) ?HZ789 ?d1Z789 ?d2Z789 ?hcZ789 ?hdZ789 ?huZ789 ?_; (case HZ789 => exact heldOf (by k_asm)); (case d1Z789 => tb_rel); (case d2Z789 => tb_rel); (case hcZ789 => exact cmp_head (by assumption) _); (case hdZ789 => exact Nat.le_of_ble_eq_true rfl); (case huZ789 => ktr_units)))
  k_with "compareOp Eq str str" => (k_here; k_dflt (refine' eq_str_no ?hZ790 ?_; (case hZ790 => assumption); k_whole))
  k_with "ktr_enter" => (refine' code_defC ?k1Z791 ?k2Z791 ?k3Z791 ?k4Z791 ?k5Z791 ?kAZ791 ?kFZ791 ?kKZ791 ?k6Z791 ?k7Z791 ?k8Z791 ?k9Z791 ?kBZ791 ?kDZ791 ?_ ?c2Z791 ?c3Z791 ?c4Z791; (case kAZ791 => exact rfl); (case kFZ791 => exact rfl); (case kKZ791 => assumption); (case k1Z791 => k_asm); (case k2Z791 => k_asm); (case k3Z791 => k_asm); (case k4Z791 => k_asm); (case k5Z791 => k_asm); (case k6Z791 => k_is); (case k7Z791 => k_is); (case k8Z791 => ktr_room); (case k9Z791 => exact BindsTo.of_eq rfl); (case kBZ791 => exact rfl); (case kDZ791 => decide +kernel); (case c2Z791 => exact rfl); (case c3Z791 => exact rfl); (case c4Z791 => exact rfl); k_whole; intro g' L' h' tk' cells' FG' F' N' Y' B' X' T' l1; (try k_lt l1); k_cells Y'; (try simp only [List.cons_append, List.nil_append] at N'); (try dsimp only); (try k_fold))
  k_with "call ref" => (k_here; (with_reducible show wpAny _ _ (call (Value.ref 108) [Value.ref _, _] _) _ _ _); k_dflt (refine' fuse_use (f := 108) ?CZ792 ?hoZ792 ?hvZ792 ?hFZ792 ?hstZ792 ?hneZ792 ?hlenZ792 ?hmZ792 ?hcZ792 ?y1Z792 ?y2Z792 ?y3Z792 ?BZ792 ?FZ792 ?XZ792 ?NZ792 ?TZ792 ?hkZ792 ?hdZ792 ?huZ792 ?_; (case CZ792 => assumption); (case hvZ792 => assumption); (case hoZ792 => assumption); (case hFZ792 => assumption); (case hstZ792 => assumption); (case hneZ792 => assumption); (case hlenZ792 => first | assumption | omega); (case BZ792 => k_asm); (case FZ792 => k_asm); (case XZ792 => k_asm); (case NZ792 => k_asm); (case TZ792 => k_asm); (case hkZ792 => first | rfl | assumption); (case hmZ792 => tb_start); (case hcZ792 => kqd_sub); (case y1Z792 => k_all); (case y2Z792 => k_all); (case y3Z792 => k_all); (case hdZ792 => ktr_room); (case huZ792 => ktr_units); k_whole; intro r' t4' tk4' xs' n3' ys' n4' Y' h' tk' g' F' N' hst' hr'; (try simp only [List.cons_append, List.nil_append] at N'); (try k_fold)))
  k_with "call ref" => (k_here; (with_reducible show wpAny _ _ (call (Value.ref 115) [Value.ref _, _] _) _ _ _); k_dflt (refine' fuse_use (f := 115) ?CZ793 ?hoZ793 ?hvZ793 ?hFZ793 ?hstZ793 ?hneZ793 ?hlenZ793 ?hmZ793 ?hcZ793 ?y1Z793 ?y2Z793 ?y3Z793 ?BZ793 ?FZ793 ?XZ793 ?NZ793 ?TZ793 ?hkZ793 ?hdZ793 ?huZ793 ?_; (case CZ793 => assumption); (case hvZ793 => assumption); (case hoZ793 => assumption); (case hFZ793 => assumption); (case hstZ793 => assumption); (case hneZ793 => assumption); (case hlenZ793 => first | assumption | omega); (case BZ793 => k_asm); (case FZ793 => k_asm); (case XZ793 => k_asm); (case NZ793 => k_asm); (case TZ793 => k_asm); (case hkZ793 => first | rfl | assumption); (case hmZ793 => tb_start); (case hcZ793 => kqd_sub); (case y1Z793 => k_all); (case y2Z793 => k_all); (case y3Z793 => k_all); (case hdZ793 => ktr_room); (case huZ793 => ktr_units); k_whole; intro r' t4' tk4' xs' n3' ys' n4' Y' h' tk' g' F' N' hst' hr'; (try simp only [List.cons_append, List.nil_append] at N'); (try k_fold)))
  k_with "call ref" => (k_here; (with_reducible show wpAny _ _ (call (Value.ref 120) [Value.ref _, _] _) _ _ _); k_dflt (refine' fuse_use (f := 120) ?CZ794 ?hoZ794 ?hvZ794 ?hFZ794 ?hstZ794 ?hneZ794 ?hlenZ794 ?hmZ794 ?hcZ794 ?y1Z794 ?y2Z794 ?y3Z794 ?BZ794 ?FZ794 ?XZ794 ?NZ794 ?TZ794 ?hkZ794 ?hdZ794 ?huZ794 ?_; (case CZ794 => assumption); (case hvZ794 => assumption); (case hoZ794 => assumption); (case hFZ794 => assumption); (case hstZ794 => assumption); (case hneZ794 => assumption); (case hlenZ794 => first | assumption | omega); (case BZ794 => k_asm); (case FZ794 => k_asm); (case XZ794 => k_asm); (case NZ794 => k_asm); (case TZ794 => k_asm); (case hkZ794 => first | rfl | assumption); (case hmZ794 => tb_start); (case hcZ794 => kqd_sub); (case y1Z794 => k_all); (case y2Z794 => k_all); (case y3Z794 => k_all); (case hdZ794 => ktr_room); (case huZ794 => ktr_units); k_whole; intro r' t4' tk4' xs' n3' ys' n4' Y' h' tk' g' F' N' hst' hr'; (try simp only [List.cons_append, List.nil_append] at N'); (try k_fold)))
  k_with "call ref" => (k_here; (with_reducible show wpAny _ _ (call (Value.ref 68) [_, Value.str _ _] _) _ _ _); k_dflt (refine' isEx_use ?CZ795 ?hvZ795 ?eZ795 ?BZ795 ?FZ795 ?XZ795 ?NZ795 ?TZ795 ?hkZ795 ?hsZ795 ?hdZ795 ?huZ795 ?_; (case CZ795 => exact isEx_con _); (case hvZ795 => assumption); (case eZ795 => first | rfl | assumption); (case BZ795 => k_asm); (case FZ795 => k_asm); (case XZ795 => k_asm); (case NZ795 => k_asm); (case TZ795 => k_asm); (case hkZ795 => first | rfl | assumption); (case hsZ795 => tb_start); (case hdZ795 => ktr_room); (case huZ795 => ktr_units); k_whole; intro h' tk' F' N'; (try k_fold)))
  k_with "eval Call Name cons nil" => (k_here; refine Call_ ?_)
  k_with "k_all" => first
  | assumption
  | (refine' GrowT.off ?gZ797 ?oZ797 ?NZ797 ?sZ797 ?mZ797 ?cZ797; (case gZ797 => assumption); (case NZ797 => k_asm); (case sZ797 => tb_start); (case mZ797 => lsm_bools); (case cZ797 => rfl); (case oZ797 => k_all))
  | (refine' offLt ?hZ797 ?sZ797; (case hZ797 => assumption); (case sZ797 => tb_start))
  | exact List.forall_mem_nil _
  | (refine' List.forall_mem_cons.mpr ⟨?aZ797, ?bZ797⟩; (case aZ797 => first | k_dflt assumption | k_dflt (refine Ne.symm ?_; assumption) | exact adr_ne (by omega) | (refine' apart_of ?NZ797 ?pZ797 ?qZ797 ?eZ797; (case NZ797 => k_asm); (case pZ797 => lsm_bools); (case qZ797 => lsm_bools); (case eZ797 => rfl))); (case bZ797 => k_all))
  | fail "not apart"
  k_with "call ref" => (k_here; (with_reducible show wpAny _ _ (call (Value.ref 120) [Value.ref _, _] _) _ _ _); k_dflt (refine' fuse_useE ?CZ798 ?hoZ798 ?hvZ798 ?hlenZ798 ?hFZ798 ?e1Z798 ?e2Z798 ?hneZ798 ?hmZ798 ?hcZ798 ?y1Z798 ?y2Z798 ?y3Z798 ?BZ798 ?FZ798 ?XZ798 ?NZ798 ?TZ798 ?hkZ798 ?hdZ798 ?huZ798 ?_; (case CZ798 => assumption); (case hvZ798 => assumption); (case hoZ798 => assumption); (case hlenZ798 => assumption); (case NZ798 => k_asm); (case hFZ798 => refine' ⟨?f1Z798, ⟨_, _, _, ?f2Z798⟩, ?f3Z798⟩; (case f1Z798 => lsm_bools); (case f2Z798 => lsm_bools); (case f3Z798 => lsm_bools)); (case hmZ798 => tb_start); (case e1Z798 => rfl); (case e2Z798 => rfl); (case hneZ798 => exact adr_ne (by omega)); (case hcZ798 => kqd_sub); (case BZ798 => k_asm); (case FZ798 => k_asm); (case XZ798 => k_asm); (case TZ798 => k_asm); (case hkZ798 => first | rfl | assumption); (case y1Z798 => k_all); (case y2Z798 => k_all); (case y3Z798 => k_all); (case hdZ798 => ktr_room); (case huZ798 => ktr_units); k_whole; intro r' t4' tk4' nvs' n3' lvs' n4' Y' h' tk' g' F' N' ln' ll' hn' hl' hr'; (try simp only [List.cons_append, List.nil_append] at N'); (try k_fold)))
  k_with "call ref" => (k_here; (with_reducible show wpAny _ _ (call (Value.ref 151) [Value.ref _, _] _) _ _ _); k_dflt (refine' fo_use ?CZ799 ?hnZ799 ?hmZ799 ?hNZ799 ?hvZ799 ?BZ799 ?FZ799 ?XZ799 ?NZ799 ?TZ799 ?hkZ799 ?hdZ799 ?huZ799 ?_; (case CZ799 => assumption); (case NZ799 => k_asm); (case hmZ799 => lsm_bools); (case hNZ799 => (refine' TAll.mono ?sZ799 ?hZ799; (case hZ799 => assumption); (case sZ799 => exact subT_of (by tb_start)))); (case hvZ799 => (refine' TIn.mono ?sZ799 ?hZ799; (case hZ799 => assumption); (case sZ799 => exact subT_of (by tb_start)))); (case hnZ799 => omega); (case BZ799 => k_asm); (case FZ799 => k_asm); (case XZ799 => k_asm); (case TZ799 => k_asm); (case hkZ799 => first | rfl | assumption); (case hdZ799 => ktr_room); (case huZ799 => ktr_units); k_whole; intro r' Y' h' tk' g' F' N' hr'; (try simp only [List.cons_append, List.nil_append] at N'); (try k_fold)))
  k_with "binaryOp Add ref ref" => (k_here; k_dflt (refine' add_tupE ?FZ800 ?NZ800 ?aZ800 ?bZ800 ?l1Z800 ?zZ800 ?_; (case FZ800 => k_asm); (case NZ800 => k_asm); (case aZ800 => lsm_bools); (case bZ800 => lsm_bools); (case l1Z800 => (simp only [List.length_cons, List.length_nil]; omega)); (case zZ800 => (simp only [sizeLine_eq, List.length_cons, List.length_nil]; omega)); k_whole; intro D' n' h' F' N'; (try k_sweep)))
  k_with "call ref" => (k_here; (with_reducible show wpAny _ _ (call (Value.ref 141) [_] _) _ _ _); k_dflt (refine' mend_use ?CZ801 ?hvZ801 ?BZ801 ?FZ801 ?XZ801 ?NZ801 ?TZ801 ?hkZ801 ?hdZ801 ?huZ801 ?_; (case NZ801 => k_asm); (case hvZ801 => (refine' TIn.mono ?sZ801 ?hZ801; (case hZ801 => assumption); (case sZ801 => exact subT_of (by tb_start)))); (case CZ801 => assumption); (case BZ801 => k_asm); (case FZ801 => k_asm); (case XZ801 => k_asm); (case TZ801 => k_asm); (case hkZ801 => first | rfl | assumption); (case hdZ801 => ktr_room); (case huZ801 => ktr_units); k_whole; intro Y' h' tk' g' F' N'; (try k_fold)))
  k_with "subscriptTail Subscript Name Constant Slice ref ref" => (k_here; k_dflt
  (refine' slice_from ?FZ802 ?NZ802 ?tZ802 ?oZ802 ?lZ802 ?zZ802 ?_ ?hsZ802 ?hgZ802; (case FZ802 => k_asm); (case NZ802 => k_asm); (case tZ802 => lsm_bools); (case oZ802 => exact Nat.le_of_ble_eq_true rfl); (case lZ802 => exact Nat.le_of_ble_eq_true rfl); (case zZ802 => exact Nat.le_of_ble_eq_true rfl); (case hsZ802 => with_unfolding_all rfl); (case hgZ802 => (intro _; with_unfolding_all rfl)); k_whole; intro D' h' F' N' l1; (try k_lt l1); (try k_sweep)))
  k_with "subscriptTail Name Slice ref ref" => (k_here; k_dflt
  (refine' slice_from ?FZ803 ?NZ803 ?tZ803 ?oZ803 ?lZ803 ?zZ803 ?_ ?hsZ803 ?hgZ803; (case FZ803 => k_asm); (case NZ803 => k_asm); (case tZ803 => lsm_bools); (case oZ803 => exact Nat.le_of_ble_eq_true rfl); (case lZ803 => exact Nat.le_of_ble_eq_true rfl); (case zZ803 => exact Nat.le_of_ble_eq_true rfl); (case hsZ803 => with_unfolding_all rfl); (case hgZ803 => (intro _; with_unfolding_all rfl)); k_whole; intro D' h' F' N' l1; (try k_lt l1); (try k_sweep)))
  k_with "call ref" => (k_here; (with_reducible show wpAny _ _ (call (Value.ref 45) _) _ _ _); k_dflt (refine' call_fault ?XZ804 ?FZ804 ?NZ804 ?zZ804 ?_; (case FZ804 => k_asm); (case NZ804 => k_asm); (case XZ804 => k_in); (case zZ804 => exact Nat.le_of_ble_eq_true rfl); k_whole; intro e' t' h' F' N' l1 l2; (try k_lt l1); (try k_lt l2); (try k_sweep); refine wpAny_call ?_; first | k_enter | kdv_enter | kdv_enterE | refine' Hold.of ?_))
  k_with "exec Raise some none" => (k_here; k_dflt (refine' Raise_fault ?hhZ805 ?_; (case hhZ805 => first | rfl | assumption)))
  k_with "Faulty" => (refine' faulty_of ?XZ806 ?FZ806 ?NZ806 ?heZ806 ?h1Z806 ?_; (case FZ806 => k_asm); (case NZ806 => k_asm); (case XZ806 => k_in); (case heZ806 => lsm_bools); (case h1Z806 => rfl); k_whole)
  k_with "leaving ref" => (k_here; first
  | (refine' leave_onX ?KZ807 ?FZ807 ?RZ807 ?UZ807 ?_ ?hfZ807; (case RZ807 => assumption); (case hfZ807 => exact rfl); (case KZ807 => assumption); (case UZ807 => assumption); (case FZ807 => assumption); k_whole; intro h' R' U'; (try dsimp only at R' U' ⊢))
  | (refine' leave_on ?KZ807 ?FZ807 ?RZ807 ?UZ807 ?_ ?hfZ807; (case RZ807 => assumption); (case hfZ807 => exact rfl); (case KZ807 => assumption); (case UZ807 => assumption); (case FZ807 => assumption); k_whole; intro h' R' U'; (try dsimp only at R' U' ⊢))
  | (refine' leave_fault ?KZ807 ?FZ807 ?NZ807 ?kpZ807 ?heZ807 ?hcZ807 ?hdZ807 ?h1Z807 ?h0Z807 ?htZ807 ?hsZ807 ?hnZ807 ?hn2Z807 ?_ ?hfZ807 ?hkZ807; (case hfZ807 => exact rfl); (case hkZ807 => exact rfl); (case KZ807 => assumption); (case FZ807 => k_asm); (case NZ807 => k_asm); (case kpZ807 => assumption); (case heZ807 => lsm_bools); (case hcZ807 => rfl); (case hdZ807 => rfl); (case h1Z807 => rfl); (case h0Z807 => rfl); (case htZ807 => lsm_bools); (case hsZ807 => tb_start); (case hnZ807 => k_all); (case hn2Z807 => k_all); k_whole; intro h' R' U'; (try dsimp only at R' U' ⊢)))
  k_with "noteFrame ref" => (k_here; (refine' caught_SO0 (KF := hd.heap_39 _) ?RZ808 ?FZ808 ?KZ808 ?UZ808 ?XBZ808 ?TBZ808 ?DZ808 ?T0Z808 ?exZ808 ?qZ808 ?_; (case RZ808 => assumption); (case FZ808 => assumption); (case KZ808 => assumption); (case UZ808 => assumption); (case XBZ808 => assumption); (case TBZ808 => assumption); (case DZ808 => assumption); (case T0Z808 => first | assumption | exact KtsTurn.refl); (case exZ808 => k_is); (case qZ808 => first | k_is | kernel_rfl); k_whole; intro h' g' n' T' F' N' G' M' K' X' P' D'))
  k_with "compareOp Gt int int" => (k_here; k_dflt (refine' gt_yes ?eZ809 ?_; (case eZ809 => rfl); k_whole))
  k_with "getMethod type:Exception" => (k_here; refine' method_type ?FZ810 ?XZ810 ?mZ810 (by decide +kernel) ?eZ810 ?hZ810 ?_; (case FZ810 => k_asm); (case XZ810 => k_asm); (case mZ810 => first | rfl | kernel_rfl); (case eZ810 => k_dflt k_is); (case hZ810 => k_handed))
  k_with "call builtin:Exception.__init__" => (k_here; (refine' exc_init ?FZ811 ?NZ811 ?XZ811 ?offZ811 ?zZ811 ?_; (case FZ811 => k_asm); (case NZ811 => k_asm); (case XZ811 => k_in); (case offZ811 => k_all); (case zZ811 => exact Nat.le_of_ble_eq_true rfl); k_whole; intro t' h' F' N' l1; (try k_lt l1); (try k_sweep)))
  k_with "setAttr ref" => (k_here; k_dflt (first
  | (refine' set_first' ?FZ812 ?NZ812 ?XZ812 ?haZ812 ?offZ812 ?otZ812 ?_; (case FZ812 => k_asm); (case NZ812 => k_asm); (case XZ812 => k_in); (case haZ812 => k_is); (case offZ812 => k_all); (case otZ812 => exact adr_ne (by omega)); k_whole; intro d' h' F' N' l1; (try k_lt l1); (try k_sweep))
  | (refine' set_next' ?FZ812 ?NZ812 ?XZ812 ?offZ812 ?_; (case FZ812 => k_asm); (case NZ812 => k_asm); (case XZ812 => k_in); (case offZ812 => k_all); k_whole; intro h' F' N'; (try k_sweep))))
  k_with "CErr" => (k_here; k_dflt (refine' comp_err ?KZ813 ?RZ813 ?UZ813 ?hoCZ813 ?offZ813 ?hfZ813 ?hf' ?_; (case RZ813 => assumption); (case KZ813 => assumption); (case UZ813 => assumption); (case hoCZ813 => assumption); (case offZ813 => assumption); (case hfZ813 => exact rfl); (case hf' => exact rfl); k_whole; intro h' R' U'; (try dsimp only at R' U' ⊢)))
  trivial
open LCg
theorem tree_noP {nn : Nat} {t : T} (h : TreeOk nn t) : isEx t (kS "parameters") = false := by
  rcases h with h | h
  · cases leaf_kind h with
    | sym => rfl
    | int => rfl
    | text => rfl
    | ex h ps h1 h2 h3 => exact beq_eq_false_iff_ne.mpr h3
  · cases nn with
    | zero => exact h.elim
    | succ nn =>
      obtain ⟨c, ps, rfl, _⟩ := h
      rfl
local macro_rules | `(tactic| k_ne) => `(tactic| (refine neN ?_; (try dsimp only); first | k_dflt assumption | k_dflt (refine Ne.symm ?_; assumption) | omega))
set_option maxHeartbeats 8000000 in
theorem refused_splat (w : World) (nn : Nat) (hnn : nn ≤ 3) (BC : FuseC w 120 (30 + 8 * nn) (160 + 60 * nn) (TreeOk nn) thingsT bodyT) (t : T) (hto : TreeOk nn t) : RefC w (tE "dotcall" [tS "f", t, tE "..." [tS "a"]]) := by
  intro tv Y htv
  have hth : (thingsT t).length ≤ 40 := Nat.le_trans (things_len nn t hto) (cntB_le hnn)
  have he1 : isEx (tE "dotcall" [tS "f", t, tE "..." [tS "a"]]) (kS "dotcall") = true := by simp [isEx]
  have he2 : isEx t (kS "parameters") = false := tree_noP hto
  have he3 : isEx (tE "..." [tS "a"]) (kS "dotcall") = false := beq_eq_false_iff_ne.mpr (by decide)
  have he4 : isEx (tE "..." [tS "a"]) (kS "...") = true := by simp [isEx]
  obtain ⟨a, n, t1, t2, b, vs, k, rfl, hm, hm2, hT⟩ := ex_inv htv
  cases hT with
  | @cons v0 _ _ _ hv0 hT =>
  cases hT with
  | @cons v1 _ _ _ hv1 hT =>
  cases hT with
  | @cons v2 _ _ _ hv2 hT =>
  cases hT
  obtain ⟨a0, n0, t3, t4, rfl, hm0⟩ := sym_inv hv0
  obtain ⟨a1, rfl⟩ := tree_ref hv1
  obtain ⟨a2, n2, t5, t6, b2, vs2, k2, rfl, hm3, hm4, hT2⟩ := ex_inv hv2
  intro dp un gd cn cs fa ccd A₀ h₀ L m s mean mg mb Q E B F X N Tp hk hd hu fin
  refine wpAny_call ?_
  w_strict (
    (refine' code_defS0 ?k1 ?k2 ?k3 ?k4 ?k5 ?kA ?k6 ?k7 ?k8 ?k9 ?kB ?_ ?cK ?c2 ?c3 ?c4 ?c5; (case kA => exact rfl); (case k2 => k_asm); (case k1 => k_asm); (case k3 => k_asm); (case k4 => k_asm); (case k5 => k_asm); (case k6 => k_is); (case k7 => k_is); (case k8 => k_room); (case k9 => exact BindsTo.of_eq rfl); (case kB => exact locs rfl); (case cK => assumption); (case c2 => exact rfl); (case c3 => exact rfl); (case c4 => exact rfl); (case c5 => decide); k_whole; intro g' L' h' FG' F' N' B' X' T' D'; (try dsimp only); (try k_lift B'); (try k_fold))
    k_steps)
  unfold Hold
  rename Fr _ _ _ _ => F1
  refine' comp_tup F1 ?hh ?hclos ?hcell ?hkind ?hnames ?hx ?h ?hs
  case hh => rfl
  case hclos => with_unfolding_all rfl
  case hcell => decide
  case hkind => rfl
  case hnames => decide
  case hx => rfl
  case hs => (intro _; with_unfolding_all rfl)
  case h =>
    w_strict (
      k_steps)
    refine' csrc_two (w := w) (v1 := .ref a1) (v2 := .ref a2) (Y := Y) ?F ?N ?hF ?hm ?hc ?hax ?turn0 ?turn1
    case F => k_asm
    case N => k_asm
    case hF =>
      refine' ⟨?f1, ⟨_, _, _, ?f2⟩, ?f3⟩
      case f1 => lsm_bools
      case f2 => lsm_bools
      case f3 => lsm_bools
    case hm => tb_start
    case hc => kqd_sub
    case hax => lsm_bools
    case turn0 =>
      intro I oI C oC D m₂ h tk hoI hoC hx F' N' off ne
      simp only [List.cons_append, List.nil_append] at N'
      have off' := off
      simp only [List.cons_append, List.nil_append] at off'
      k_sweep
      w_strict (
        k_steps)
      refine' CompEnd.intro ?F ?N _ ?sub off.2.2.2 ?hS (fun _ h => h)
      case F => k_asm
      case N => k_asm
      case sub =>
        simp only [List.cons_append, List.nil_append]
        tb_start
      case hS => exact List.Mem.head _
    case turn1 =>
      intro ys nw I oI C oC D m₂ h tk hsub hoI hoC hx F' N' off ne
      have q1 := hsub _ (.head _)
      have q2 := hsub _ (.tail _ (.head _))
      have q3 := hsub _ (.tail _ (.tail _ (.head _)))
      have q4 := hsub _ (.tail _ (.tail _ (.tail _ (.head _))))
      have q5 := hsub _ (.tail _ (.tail _ (.tail _ (.tail _ (.head _)))))
      have q6 := hsub _ (.tail _ (.tail _ (.tail _ (.tail _ (.tail _ (.head _))))))
      have hYn : ∀ p ∈ Y, p ∈ nw := fun p hp => hsub p (.tail _ (.tail _ (.tail _ (.tail _ (.tail _ (.tail _ hp))))))
      have hm3n := hYn _ hm3
      have hm4n := hYn _ hm4
      have hv2n := TIn.mono (subT_of hYn) hv2
      have hoffC : ∀ p ∈ nw, p.1 ≠ C := fun p hp => (off.mem p hp).2.1
      have hkeep : KeepIs ((C, oC) :: nw) := trivial
      k_sweep
      w_strict (
        k_steps)
      exact fin _ _ (by k_asm) (fun p hp => (show News _ _ _ nw by k_asm) p (hYn p hp))
end
section
-- RefK
theorem reset_RefK : True := by
  w_top off
  k_with_none
  k_with "kt_len" => first | assumption | exact ltm (by assumption) (by lsm_bools) | exact lt3 (by assumption) (by assumption) (by lsm_bools) | exact ltk (by assumption) | exact lk0 (by assumption) (by rfl) | exact lk1 (by assumption) (by rfl) | exact ltn (by assumption) (by lsm_bools) | exact lka (by rfl) | exact lkb (by rfl) | exact And.left (by assumption) | exact pj1 (by assumption) | exact pj2 (by assumption) | fail "no"
  k_with "ktr_room" => first | exact szg (by rfl) | exact rm2 (by assumption) (by rfl) | exact rs2 (by assumption) (by rfl) | exact rm0 (by assumption) | exact rm1 (by assumption) (by rfl) | exact rs1 (by assumption) (by rfl) | exact rm3 (by assumption) (by rfl) | exact rm4 (by assumption) (by rfl) | exact rm5 (by assumption) (by rfl) | exact rmn (by assumption) (by assumption) (by rfl) | exact rmt (by assumption) (by rfl) | fail "no"
  k_with "ktr_units" => k_extra "ktr_room"
  k_with "omega" => first | with_reducible assumption | (show (_ : Nat) < _; first | assumption | k_extra "ktr_room") | (show (_ : Nat) ≤ _; first | assumption | exact szg (by rfl) | exact sza (by assumption) (by rfl) | exact szb (by assumption) (by assumption) (by rfl) | exact szc (by assumption) (by rfl) | exact szd (by assumption) (by rfl) | exact cza (by assumption) (by rfl) | exact szs (by assumption) | exact Nat.le_of_eq (by assumption)) | (show (_ : Nat) ≠ _; first | assumption | exact Ne.symm (by assumption) | exact ofI (by assumption) (by lsm_bools) | exact ofC (by assumption) (by lsm_bools) | exact ofD (by assumption) (by lsm_bools) | exact fI (by assumption) (by lsm_bools) | exact fC (by assumption) (by lsm_bools) | exact fD (by assumption) (by lsm_bools) | exact Nat.ne_of_lt (by kt_len) | exact Nat.ne_of_gt (by kt_len)) | (show (_ : Nat) < _ ∨ _; first | exact Or.inl (by kt_len) | exact Or.inr (by kt_len)) | fail "no"
  k_with "lsm_bools" => first | exact List.Mem.head _ | assumption | (refine' List.Mem.tail _ ?_; lsm_bools) | (refine' GrowT.mem ?gZ810 ?hZ810; (case gZ810 => assumption); (case hZ810 => lsm_bools)) | fail "no entry"
  k_with "k_mem" => first | lsm_bools | fail "no entry"
  k_with "tb_start" => first
  | exact List.forall_mem_nil _
  | (refine' List.forall_mem_cons.mpr ⟨?aZ812, ?bZ812⟩; (case aZ812 => lsm_bools); (case bZ812 => tb_start))
  | (intro p hp; repeat (first | exact hp | refine List.mem_cons_of_mem _ ?_ | refine List.Mem.tail _ ?_ | refine GrowT.mem' (by assumption) ?_ | refine GrowT.mem (by assumption) ?_ | fail "no entry"))
  | fail "not within"
  k_with "k_all" => first
  | assumption
  | (refine' GrowT.off ?gZ813 ?oZ813 ?NZ813 ?sZ813 ?mZ813 ?cZ813; (case gZ813 => assumption); (case NZ813 => k_asm); (case sZ813 => tb_start); (case mZ813 => lsm_bools); (case cZ813 => rfl); (case oZ813 => k_all))
  | (refine' offLt ?hZ813 ?sZ813; (case hZ813 => assumption); (case sZ813 => tb_start))
  | (refine' offLt3 ?qZ813 ?hZ813 ?sZ813; (case qZ813 => assumption); (case hZ813 => assumption); (case sZ813 => tb_start))
  | fail "not apart"
  k_with "kqd_sub" => first
  | (refine' Cut.own ?mZ814 ?rZ814; (case mZ814 => lsm_bools); (case rZ814 => kqd_sub))
  | (refine' Cut.oth ?oZ814 ?rZ814; (case oZ814 => k_all); (case rZ814 => kqd_sub))
  | exact Cut.tail
  | fail "no cut"
  k_with "ktr_rel" => first
  | exact subT_nil
  | exact subT_of (fun _ hp => hp)
  | assumption
  | (refine' subT_skip ?aZ815 ?bZ815; (case aZ815 => rfl); (case bZ815 => ktr_rel))
  | (refine' subT_cons ?aZ815 ?bZ815; (case aZ815 => lsm_bools); (case bZ815 => ktr_rel))
  | (refine' subT_of ?hZ815; (case hZ815 => tb_start))
  | (refine' subT_app (by ktr_rel) (by ktr_rel))
  | fail "tuples not within"
  k_with "k_room" => ktr_room
  k_with "k_units" => ktr_units
  k_with "tb_rel" => first
  | exact TAll.nil
  | exact TIn.str _ _
  | exact TIn.int _ _
  | exact TIn.bytes _ _
  | assumption
  | (refine' TIn.mono ?sZ818 ?hZ818; (case hZ818 => assumption); (case sZ818 => ktr_rel))
  | (refine' TAll.mono ?sZ818 ?hZ818; (case hZ818 => assumption); (case sZ818 => ktr_rel))
  | (refine' TIn.tuple ?mZ818 ?rZ818; (case mZ818 => lsm_bools); (case rZ818 => tb_rel))
  | (refine' TAll.cons (by tb_rel) (by tb_rel))
  | fail "no tree"
  k_with "call ref" => (k_here; (with_reducible show wpAny _ _ (call (Value.ref 214) [Value.str _ _] _) _ _ _); k_dflt (refine' sym_use ?CZ819 ?hcZ819 ?BZ819 ?FZ819 ?XZ819 ?NZ819 ?TZ819 ?hkZ819 ?hdZ819 ?huZ819 ?_; (case CZ819 => exact sym_con _); (case NZ819 => k_asm); (case hcZ819 => kqd_sub); (case BZ819 => k_asm); (case FZ819 => k_asm); (case XZ819 => k_asm); (case TZ819 => k_asm); (case hkZ819 => first | rfl | assumption); (case hdZ819 => ktr_room); (case huZ819 => ktr_units); k_whole; intro a' Y' h' tk' g' F' N' hr'; (try simp only [List.cons_append, List.nil_append] at N'); (try k_fold)))
  k_with "call ref" => (k_here; (with_reducible show wpAny _ _ (call (Value.ref 207) [Value.str _ _, Value.ref _] _) _ _ _); k_dflt (refine' tree_use ?CZ820 ?hcZ820 ?hmZ820 ?hlZ820 ?hTZ820 ?BZ820 ?FZ820 ?XZ820 ?NZ820 ?TZ820 ?hkZ820 ?hdZ820 ?huZ820 ?_; (case CZ820 => exact tree_con _); (case NZ820 => k_asm); (case hcZ820 => kqd_sub); (case hmZ820 => lsm_bools); (case hlZ820 => exact Nat.le_of_ble_eq_true rfl); (case hTZ820 => tb_rel); (case BZ820 => k_asm); (case FZ820 => k_asm); (case XZ820 => k_asm); (case TZ820 => k_asm); (case hkZ820 => first | rfl | assumption); (case hdZ820 => ktr_room); (case huZ820 => ktr_units); k_whole; intro a' Y' h' tk' g' F' N' hr'; (try simp only [List.cons_append, List.nil_append] at N'); (try k_fold)))
  k_with "call ref" => (k_here; (with_reducible show wpAny _ _ (call (Value.ref 68) [_, Value.str _ _] _) _ _ _); k_dflt (refine' isEx_use ?CZ821 ?hvZ821 ?eZ821 ?BZ821 ?FZ821 ?XZ821 ?NZ821 ?TZ821 ?hkZ821 ?hsZ821 ?hdZ821 ?huZ821 ?_; (case CZ821 => exact isEx_con _); (case hvZ821 => assumption); (case eZ821 => first | assumption | rfl); (case hsZ821 => tb_start); (case BZ821 => k_asm); (case FZ821 => k_asm); (case XZ821 => k_asm); (case NZ821 => k_asm); (case TZ821 => k_asm); (case hkZ821 => first | rfl | assumption); (case hdZ821 => ktr_room); (case huZ821 => ktr_units); k_whole; intro h' tk' F' N'; (try k_fold)))
  k_with "call ref" => (k_here; (with_reducible show wpAny _ _ (call (Value.ref 82) [Value.ref _] _) _ _ _); k_dflt (refine' isSym_use ?hmZ822 ?eZ822 ?BZ822 ?FZ822 ?XZ822 ?NZ822 ?TZ822 ?hkZ822 ?hdZ822 ?huZ822 ?_; (case NZ822 => k_asm); (case hmZ822 => lsm_bools); (case eZ822 => first | rfl | decide); (case BZ822 => k_asm); (case FZ822 => k_asm); (case XZ822 => k_asm); (case TZ822 => k_asm); (case hkZ822 => first | rfl | assumption); (case hdZ822 => ktr_room); (case huZ822 => ktr_units); k_whole; intro h' tk' F' N'; (try k_fold)))
  k_with "call ref" => (k_here; (with_reducible show wpAny _ _ (call (Value.ref 75) [Value.ref _] _) _ _ _); k_dflt (first
  | (refine' parts_use ?hmZ823 ?BZ823 ?FZ823 ?XZ823 ?NZ823 ?TZ823 ?hkZ823 ?hdZ823 ?huZ823 ?_; (case NZ823 => k_asm); (case hmZ823 => lsm_bools); (case BZ823 => k_asm); (case FZ823 => k_asm); (case XZ823 => k_asm); (case TZ823 => k_asm); (case hkZ823 => first | rfl | assumption); (case hdZ823 => ktr_room); (case huZ823 => ktr_units); k_whole; intro h' tk' F' N'; (try k_fold))
  | (refine' parts0_use ?hcZ823 ?hmZ823 ?hzZ823 ?BZ823 ?FZ823 ?XZ823 ?NZ823 ?TZ823 ?hkZ823 ?hdZ823 ?huZ823 ?_; (case NZ823 => k_asm); (case hmZ823 => lsm_bools); (case hzZ823 => decide); (case hcZ823 => kqd_sub); (case BZ823 => k_asm); (case FZ823 => k_asm); (case XZ823 => k_asm); (case TZ823 => k_asm); (case hkZ823 => first | rfl | assumption); (case hdZ823 => ktr_room); (case huZ823 => ktr_units); k_whole; intro d' j' Y' h' tk' g' F' N' hm'; (try simp only [List.cons_append, List.nil_append] at N'); (try k_fold))))
  k_with "compareOp In str ref" => (k_here; k_dflt (refine' in_tupL ?htZ824 ?hiZ824 ?_; (case htZ824 => (refine' tupK ?XZ824 ?lZ824; (case XZ824 => k_in); (case lZ824 => k_is))); (case hiZ824 => exact rfl)))
  k_with "compareOp Eq ref ref" => (k_here; k_dflt (first
  | (refine' eq_dat (r := false) ?HZ825 ?d1Z825 ?d2Z825 ?hcZ825 ?hdZ825 ?huZ825 ?_; (case HZ825 => exact heldOf (by k_asm)); (case d1Z825 => tb_rel); (case d2Z825 => tb_rel); (case hcZ825 => with_unfolding_all rfl); (case hdZ825 => exact Nat.le_of_ble_eq_true rfl); (case huZ825 => ktr_units))
  | (refine' eq_dat (r := true) ?HZ825 ?d1Z825 ?d2Z825 ?hcZ825 ?hdZ825 ?huZ825 ?_; (case HZ825 => exact heldOf (by k_asm)); (case d1Z825 => tb_rel); (case d2Z825 => tb_rel); (case hcZ825 => with_unfolding_all rfl); (case hdZ825 => exact Nat.le_of_ble_eq_true rfl); (case huZ825 => ktr_units))))
  k_with "compareOp NotEq ref ref" => (k_here; k_dflt (first
  | (refine' ne_dat (r := false) ?HZ826 ?d1Z826 ?d2Z826 ?hcZ826 ?hdZ826 ?huZ826 ?_; (case HZ826 => exact heldOf (by k_asm)); (case d1Z826 => tb_rel); (case d2Z826 => tb_rel); (case hcZ826 => with_unfolding_all rfl); (case hdZ826 => exact Nat.le_of_ble_eq_true rfl); (case huZ826 => ktr_units))
  | (refine' ne_dat (r := true) ?HZ826 ?d1Z826 ?d2Z826 ?hcZ826 ?hdZ826 ?huZ826 ?_; (case HZ826 => exact heldOf (by k_asm)); (case d1Z826 => tb_rel); (case d2Z826 => tb_rel); (case hcZ826 => with_unfolding_all rfl); (case hdZ826 => exact Nat.le_of_ble_eq_true rfl); (case huZ826 => ktr_units))))
  k_with "subscriptTail Name Constant ref int" => (k_here; k_dflt (refine' item_tupleT ?tZ827 ?aZ827 ?bZ827 ?cZ827 ?dZ827 ?_; (case tZ827 => exact News.isTup (by k_asm) (by k_mem)); (case aZ827 => decide); (case bZ827 => decide); (case cZ827 => rfl); (case dZ827 => rfl); k_whole))
  k_with "ite" => (k_closed; k_dflt (first | (refine' ite_pos ?cZ828 ?_; (case cZ828 => decide)) | (refine' ite_neg ?cZ828 ?_; (case cZ828 => decide))))
  k_with "call ref" => (k_here; (with_reducible show wpAny _ _ (call (Value.ref 54) [Value.str _ _, Value.ref _] _) _ _ _); k_dflt (refine' expr_use ?hcZ829 ?hmZ829 ?hlZ829 ?BZ829 ?FZ829 ?XZ829 ?NZ829 ?TZ829 ?hkZ829 ?hdZ829 ?huZ829 ?_; (case NZ829 => k_asm); (case hmZ829 => lsm_bools); (case hcZ829 => kqd_sub); (case hlZ829 => first | exact Nat.le_of_ble_eq_true rfl | (simp only [List.length_append, List.length_cons, List.length_nil]; omega)); (case BZ829 => k_asm); (case FZ829 => k_asm); (case XZ829 => k_asm); (case TZ829 => k_asm); (case hkZ829 => first | rfl | assumption); (case hdZ829 => ktr_room); (case huZ829 => ktr_units); k_whole; intro a' t1' k' Y' h' tk' g' F' N' hm'; (try simp only [List.cons_append, List.nil_append] at N'); (try k_fold)))
  k_with "call ref" => (k_here; (with_reducible show wpAny _ _ (call (Value.ref 61) [Value.str _ _] _) _ _ _); k_dflt (refine' sym_use ?CZ830 ?hcZ830 ?BZ830 ?FZ830 ?XZ830 ?NZ830 ?TZ830 ?hkZ830 ?hdZ830 ?huZ830 ?_; (case CZ830 => exact symF_con _); (case NZ830 => k_asm); (case hcZ830 => kqd_sub); (case BZ830 => k_asm); (case FZ830 => k_asm); (case XZ830 => k_asm); (case TZ830 => k_asm); (case hkZ830 => first | rfl | assumption); (case hdZ830 => ktr_room); (case huZ830 => ktr_units); k_whole; intro a' Y' h' tk' g' F' N' hr'; (try simp only [List.cons_append, List.nil_append] at N'); (try k_fold)))
  k_with "call type:range cons nil" => (k_here; k_dflt (refine' range1_rows ?FZ831 ?NZ831 ?_; (case FZ831 => k_asm); (case NZ831 => k_asm); k_whole; intro h' tk' t1' u1' v1' hR' F' N' hst'; (try k_fold)))
  k_with "pyIter ref" => (k_here; (with_reducible show wpAny _ _ (pyIter (Value.ref _)) (fun it s₂ => LoopAtV _ _ _ _ _ _ _ _ _ it s₂) _ _); refine' Hold.of ?_)
  k_with "binaryOp Add ref ref" => (k_here; k_dflt (refine' add_cat ?FZ833 ?NZ833 ?aZ833 ?bZ833 ?zZ833 ?_; (case FZ833 => k_asm); (case NZ833 => k_asm); (case aZ833 => lsm_bools); (case bZ833 => lsm_bools); (case zZ833 => (simp only [sizeLine_eq, List.length_cons, List.length_nil]; omega)); k_whole; intro D' h' F' N' l1; (try k_lt l1); (try k_sweep)))
  k_with "subscriptTail Name Slice ref ref" => (k_here; k_dflt (first
  | (refine' slice_whole ?FZ834 ?NZ834 ?tZ834 ?lZ834 ?zZ834 ?_ ?hsZ834 ?hgZ834; (case FZ834 => k_asm); (case NZ834 => k_asm); (case tZ834 => lsm_bools); (case lZ834 => exact Nat.le_of_ble_eq_true rfl); (case zZ834 => exact Nat.le_of_ble_eq_true rfl); (case hsZ834 => with_unfolding_all rfl); (case hgZ834 => (intro _; with_unfolding_all rfl)); k_whole; intro h' F' N'; (try k_sweep))
  | (refine' slice_upto ?FZ834 ?NZ834 ?tZ834 ?lZ834 ?zZ834 ?_ ?hsZ834 ?hgZ834; (case FZ834 => k_asm); (case NZ834 => k_asm); (case tZ834 => lsm_bools); (case lZ834 => exact Nat.le_of_ble_eq_true rfl); (case zZ834 => exact Nat.le_of_ble_eq_true rfl); (case hsZ834 => with_unfolding_all rfl); (case hgZ834 => (intro _; with_unfolding_all rfl)); k_whole; intro D' h' F' N' l1; (try k_lt l1); (try k_sweep))))
  k_with "subscriptTail Name Slice ref ref" => (k_here; k_dflt
  (refine' slice_from ?FZ835 ?NZ835 ?tZ835 ?oZ835 ?lZ835 ?zZ835 ?_ ?hsZ835 ?hgZ835; (case FZ835 => k_asm); (case NZ835 => k_asm); (case tZ835 => lsm_bools); (case oZ835 => exact Nat.le_of_ble_eq_true rfl); (case lZ835 => (simp only [List.length_cons]; omega)); (case zZ835 => (simp only [sizeLine_eq, List.length_cons]; omega)); (case hsZ835 => with_unfolding_all rfl); (case hgZ835 => (intro _; with_unfolding_all rfl)); k_whole; intro D' h' F' N' l1; (try k_lt l1); (try k_sweep)))
  k_with "subscriptTail Subscript Name Constant Slice ref ref" => (k_here; k_dflt
  (refine' slice_from ?FZ836 ?NZ836 ?tZ836 ?oZ836 ?lZ836 ?zZ836 ?_ ?hsZ836 ?hgZ836; (case FZ836 => k_asm); (case NZ836 => k_asm); (case tZ836 => lsm_bools); (case oZ836 => exact Nat.le_of_ble_eq_true rfl); (case lZ836 => (simp only [List.length_cons]; omega)); (case zZ836 => (simp only [sizeLine_eq, List.length_cons]; omega)); (case hsZ836 => with_unfolding_all rfl); (case hgZ836 => (intro _; with_unfolding_all rfl)); k_whole; intro D' h' F' N' l1; (try k_lt l1); (try k_sweep)))
  k_with "call type:tuple cons nil" => (k_here; k_dflt (refine' tuple_of ?FZ837 ?NZ837 ?tZ837 ?zZ837 ?_; (case FZ837 => k_asm); (case NZ837 => k_asm); (case tZ837 => lsm_bools); (case zZ837 => first | exact Nat.le_of_ble_eq_true rfl | (simp only [sizeLine_eq, List.length_append, List.length_cons, List.length_nil]; omega)); k_whole; intro D' h' F' N' l1; (try k_lt l1); (try k_sweep)))
  k_with "subscriptTail Name Constant ref int" => (k_here; k_dflt (refine' item_tupI ?NZ838 ?mZ838 ?aZ838 ?bZ838 ?cZ838 ?_; (case NZ838 => k_asm); (case mZ838 => lsm_bools); (case aZ838 => decide); (case bZ838 => decide); (case cZ838 => exact rfl); k_whole))
  k_with "subscriptTail Subscript Name Constant Constant ref int" => (k_here; k_dflt (refine' item_tupI ?NZ839 ?mZ839 ?aZ839 ?bZ839 ?cZ839 ?_; (case NZ839 => k_asm); (case mZ839 => lsm_bools); (case aZ839 => decide); (case bZ839 => decide); (case cZ839 => exact rfl); k_whole))
  k_with "subscriptTail Subscript Subscript Constant Constant ref int" => (k_here; k_dflt (refine' item_tupI ?NZ840 ?mZ840 ?aZ840 ?bZ840 ?cZ840 ?_; (case NZ840 => k_asm); (case mZ840 => lsm_bools); (case aZ840 => decide); (case bZ840 => decide); (case cZ840 => exact rfl); k_whole))
  k_with "subscriptTail Call Name cons nil Constant ref int" => (k_here; k_dflt (refine' item_tupI ?NZ841 ?mZ841 ?aZ841 ?bZ841 ?cZ841 ?_; (case NZ841 => k_asm); (case mZ841 => lsm_bools); (case aZ841 => decide); (case bZ841 => decide); (case cZ841 => exact rfl); k_whole))
  k_with "binaryOp Add ref ref" => (k_here; k_dflt (refine' add_tupC ?FZ842 ?NZ842 ?aZ842 ?bZ842 ?l1Z842 ?l2Z842 ?zZ842 ?_; (case FZ842 => k_asm); (case NZ842 => k_asm); (case aZ842 => lsm_bools); (case bZ842 => lsm_bools); (case l1Z842 => (simp only [List.length_cons, List.length_nil]; omega)); (case l2Z842 => omega); (case zZ842 => (simp only [sizeLine_eq, List.length_cons, List.length_nil]; omega)); k_whole; intro D' h' F' N' l1; (try k_lt l1); (try k_sweep)))
  k_with "call type:tuple cons nil" => (k_here; k_dflt (refine' tuple_same ?NZ843 ?tZ843 ?_; (case NZ843 => k_asm); (case tZ843 => lsm_bools); k_whole))
  k_with "call builtin:len cons nil" => (k_here; k_dflt (refine' len_tupK ?NZ844 ?tZ844 ?zZ844 ?_; (case NZ844 => k_asm); (case tZ844 => lsm_bools); (case zZ844 => (simp only [sizeLine_eq, List.length_cons, List.length_nil]; omega)); k_whole; intro tk1' tk2'))
  k_with "eval ListComp" => (k_here; refine' Hold.of ?_)
  k_with "compareOp NotEq ref ref" => (k_here; k_dflt (refine' ne_dat (r := false) ?HZ846 ?d1Z846 ?d2Z846 ?hcZ846 ?hdZ846 ?huZ846 ?_; (case HZ846 => exact heldOf (by k_asm)); (case d1Z846 => tb_rel); (case d2Z846 => tb_rel); (case hcZ846 => exact cmp_head (by assumption) _); (case hdZ846 => exact Nat.le_of_ble_eq_true rfl); (case huZ846 => ktr_units)))
  k_with "call ref" => (k_here; (with_reducible show wpAny _ _ (call (Value.ref 233) [_] _) _ _ _); k_dflt (refine' plain_use ?CZ847 ?hoZ847 ?hvZ847 ?BZ847 ?FZ847 ?XZ847 ?NZ847 ?TZ847 ?hkZ847 ?hcZ847 ?hdZ847 ?huZ847 ?_; (case CZ847 => assumption); (case hoZ847 => assumption); (case hvZ847 => assumption); (case BZ847 => k_asm); (case FZ847 => k_asm); (case XZ847 => k_asm); (case NZ847 => k_asm); (case TZ847 => k_asm); (case hkZ847 => first | rfl | assumption); (case hcZ847 => kqd_sub); (case hdZ847 => ktr_room); (case huZ847 => ktr_units); k_whole; intro r' Y' h' tk' g' F' N' hr'; (try simp only [List.cons_append, List.nil_append] at N'); (try k_fold)))
  k_with "call ref" => (k_here; (with_reducible show wpAny _ _ (call (Value.ref 240) [_] _) _ _ _); k_dflt (refine' things_use ?CZ848 ?hoZ848 ?hvZ848 ?BZ848 ?FZ848 ?XZ848 ?NZ848 ?TZ848 ?hkZ848 ?hcZ848 ?hdZ848 ?huZ848 ?_; (case CZ848 => assumption); (case hoZ848 => assumption); (case hvZ848 => assumption); (case BZ848 => k_asm); (case FZ848 => k_asm); (case XZ848 => k_asm); (case NZ848 => k_asm); (case TZ848 => k_asm); (case hkZ848 => first | rfl | assumption); (case hcZ848 => kqd_sub); (case hdZ848 => ktr_room); (case huZ848 => ktr_units); k_whole; intro a' vs' k' Y' h' tk' g' F' N' hr' hrl'; (try simp only [List.cons_append, List.nil_append] at N'); (try k_fold)))
  k_with "exec For Name Subscript" => (k_here; (rename Fr _ _ _ _ => lF'); (with_unfolding_all refine' For_invVF lF' ?k1Z849 ?k2Z849 ?_; (case k1Z849 => exact rfl); (case k2Z849 => exact rfl); k_whole))
  k_with "compareOp Eq ref ref" => (k_here; k_dflt (refine' eq_dat (r := false) ?HZ850 ?d1Z850 ?d2Z850 ?hcZ850 ?hdZ850 ?huZ850 ?_; (case HZ850 => exact heldOf (by k_asm)); (case d1Z850 => tb_rel); (case d2Z850 => tb_rel); (case hcZ850 => exact cmp_head (by assumption) _); (case hdZ850 => exact Nat.le_of_ble_eq_true rfl); (case huZ850 => ktr_units)))
  k_with "compareOp Eq str str" => (k_here; k_dflt (refine' eq_str_no ?hZ851 ?_; (case hZ851 => assumption); k_whole))
  k_with "ktr_enter" => (refine' code_defC ?k1Z852 ?k2Z852 ?k3Z852 ?k4Z852 ?k5Z852 ?kAZ852 ?kFZ852 ?kKZ852 ?k6Z852 ?k7Z852 ?k8Z852 ?k9Z852 ?kBZ852 ?kDZ852 ?_ ?c2Z852 ?c3Z852 ?c4Z852; (case kAZ852 => exact rfl); (case kFZ852 => exact rfl); (case kKZ852 => assumption); (case k1Z852 => k_asm); (case k2Z852 => k_asm); (case k3Z852 => k_asm); (case k4Z852 => k_asm); (case k5Z852 => k_asm); (case k6Z852 => k_is); (case k7Z852 => k_is); (case k8Z852 => ktr_room); (case k9Z852 => exact BindsTo.of_eq rfl); (case kBZ852 => exact rfl); (case kDZ852 => decide +kernel); (case c2Z852 => exact rfl); (case c3Z852 => exact rfl); (case c4Z852 => exact rfl); k_whole; intro g' L' h' tk' cells' FG' F' N' Y' B' X' T' l1; (try k_lt l1); k_cells Y'; (try simp only [List.cons_append, List.nil_append] at N'); (try dsimp only); (try k_fold))
  k_with "call ref" => (k_here; (with_reducible show wpAny _ _ (call (Value.ref 108) [Value.ref _, _] _) _ _ _); k_dflt (refine' fuse_use (f := 108) ?CZ853 ?hoZ853 ?hvZ853 ?hFZ853 ?hstZ853 ?hneZ853 ?hlenZ853 ?hmZ853 ?hcZ853 ?y1Z853 ?y2Z853 ?y3Z853 ?BZ853 ?FZ853 ?XZ853 ?NZ853 ?TZ853 ?hkZ853 ?hdZ853 ?huZ853 ?_; (case CZ853 => assumption); (case hvZ853 => assumption); (case hoZ853 => assumption); (case hFZ853 => assumption); (case hstZ853 => assumption); (case hneZ853 => assumption); (case hlenZ853 => first | assumption | omega); (case BZ853 => k_asm); (case FZ853 => k_asm); (case XZ853 => k_asm); (case NZ853 => k_asm); (case TZ853 => k_asm); (case hkZ853 => first | rfl | assumption); (case hmZ853 => tb_start); (case hcZ853 => kqd_sub); (case y1Z853 => k_all); (case y2Z853 => k_all); (case y3Z853 => k_all); (case hdZ853 => ktr_room); (case huZ853 => ktr_units); k_whole; intro r' t4' tk4' xs' n3' ys' n4' Y' h' tk' g' F' N' hst' hr'; (try simp only [List.cons_append, List.nil_append] at N'); (try k_fold)))
  k_with "call ref" => (k_here; (with_reducible show wpAny _ _ (call (Value.ref 115) [Value.ref _, _] _) _ _ _); k_dflt (refine' fuse_use (f := 115) ?CZ854 ?hoZ854 ?hvZ854 ?hFZ854 ?hstZ854 ?hneZ854 ?hlenZ854 ?hmZ854 ?hcZ854 ?y1Z854 ?y2Z854 ?y3Z854 ?BZ854 ?FZ854 ?XZ854 ?NZ854 ?TZ854 ?hkZ854 ?hdZ854 ?huZ854 ?_; (case CZ854 => assumption); (case hvZ854 => assumption); (case hoZ854 => assumption); (case hFZ854 => assumption); (case hstZ854 => assumption); (case hneZ854 => assumption); (case hlenZ854 => first | assumption | omega); (case BZ854 => k_asm); (case FZ854 => k_asm); (case XZ854 => k_asm); (case NZ854 => k_asm); (case TZ854 => k_asm); (case hkZ854 => first | rfl | assumption); (case hmZ854 => tb_start); (case hcZ854 => kqd_sub); (case y1Z854 => k_all); (case y2Z854 => k_all); (case y3Z854 => k_all); (case hdZ854 => ktr_room); (case huZ854 => ktr_units); k_whole; intro r' t4' tk4' xs' n3' ys' n4' Y' h' tk' g' F' N' hst' hr'; (try simp only [List.cons_append, List.nil_append] at N'); (try k_fold)))
  k_with "call ref" => (k_here; (with_reducible show wpAny _ _ (call (Value.ref 120) [Value.ref _, _] _) _ _ _); k_dflt (refine' fuse_use (f := 120) ?CZ855 ?hoZ855 ?hvZ855 ?hFZ855 ?hstZ855 ?hneZ855 ?hlenZ855 ?hmZ855 ?hcZ855 ?y1Z855 ?y2Z855 ?y3Z855 ?BZ855 ?FZ855 ?XZ855 ?NZ855 ?TZ855 ?hkZ855 ?hdZ855 ?huZ855 ?_; (case CZ855 => assumption); (case hvZ855 => assumption); (case hoZ855 => assumption); (case hFZ855 => assumption); (case hstZ855 => assumption); (case hneZ855 => assumption); (case hlenZ855 => first | assumption | omega); (case BZ855 => k_asm); (case FZ855 => k_asm); (case XZ855 => k_asm); (case NZ855 => k_asm); (case TZ855 => k_asm); (case hkZ855 => first | rfl | assumption); (case hmZ855 => tb_start); (case hcZ855 => kqd_sub); (case y1Z855 => k_all); (case y2Z855 => k_all); (case y3Z855 => k_all); (case hdZ855 => ktr_room); (case huZ855 => ktr_units); k_whole; intro r' t4' tk4' xs' n3' ys' n4' Y' h' tk' g' F' N' hst' hr'; (try simp only [List.cons_append, List.nil_append] at N'); (try k_fold)))
  k_with "call ref" => (k_here; (with_reducible show wpAny _ _ (call (Value.ref 68) [_, Value.str _ _] _) _ _ _); k_dflt (refine' isEx_use ?CZ856 ?hvZ856 ?eZ856 ?BZ856 ?FZ856 ?XZ856 ?NZ856 ?TZ856 ?hkZ856 ?hsZ856 ?hdZ856 ?huZ856 ?_; (case CZ856 => exact isEx_con _); (case hvZ856 => assumption); (case eZ856 => first | rfl | assumption); (case BZ856 => k_asm); (case FZ856 => k_asm); (case XZ856 => k_asm); (case NZ856 => k_asm); (case TZ856 => k_asm); (case hkZ856 => first | rfl | assumption); (case hsZ856 => tb_start); (case hdZ856 => ktr_room); (case huZ856 => ktr_units); k_whole; intro h' tk' F' N'; (try k_fold)))
  k_with "eval Call Name cons nil" => (k_here; refine Call_ ?_)
  k_with "call ref" => (k_here; (with_reducible show wpAny _ _ (call (Value.ref 45) _) _ _ _); k_dflt (refine' call_fault ?XZ858 ?FZ858 ?NZ858 ?zZ858 ?_; (case FZ858 => k_asm); (case NZ858 => k_asm); (case XZ858 => k_in); (case zZ858 => exact Nat.le_of_ble_eq_true rfl); k_whole; intro e' t' h' F' N' l1 l2; (try k_lt l1); (try k_lt l2); (try k_sweep); refine wpAny_call ?_; first | k_enter | kdv_enter | kdv_enterE | refine' Hold.of ?_))
  k_with "exec Raise some none" => (k_here; k_dflt (refine' Raise_fault ?hhZ859 ?_; (case hhZ859 => first | rfl | assumption)))
  k_with "Faulty" => (refine' faulty_of ?XZ860 ?FZ860 ?NZ860 ?heZ860 ?h1Z860 ?_; (case FZ860 => k_asm); (case NZ860 => k_asm); (case XZ860 => k_in); (case heZ860 => lsm_bools); (case h1Z860 => rfl); k_whole)
  k_with "leaving ref" => (k_here; first
  | (refine' leave_on ?KZ861 ?FZ861 ?RZ861 ?UZ861 ?_ ?hfZ861; (case RZ861 => assumption); (case hfZ861 => exact rfl); (case KZ861 => assumption); (case UZ861 => assumption); (case FZ861 => assumption); k_whole; intro h' R' U'; (try dsimp only at R' U' ⊢))
  | (refine' leave_fault ?KZ861 ?FZ861 ?NZ861 ?kpZ861 ?heZ861 ?hcZ861 ?hdZ861 ?h1Z861 ?h0Z861 ?htZ861 ?hsZ861 ?hnZ861 ?hn2Z861 ?_ ?hfZ861 ?hkZ861; (case hfZ861 => exact rfl); (case hkZ861 => exact rfl); (case KZ861 => assumption); (case FZ861 => k_asm); (case NZ861 => k_asm); (case kpZ861 => assumption); (case heZ861 => lsm_bools); (case hcZ861 => rfl); (case hdZ861 => rfl); (case h1Z861 => rfl); (case h0Z861 => rfl); (case htZ861 => lsm_bools); (case hsZ861 => tb_start); (case hnZ861 => k_all); (case hn2Z861 => k_all); k_whole; intro h' R' U'; (try dsimp only at R' U' ⊢)))
  k_with "noteFrame ref" => (k_here; (refine' caught_SO0 (KF := hd.heap_39 _) ?RZ862 ?FZ862 ?KZ862 ?UZ862 ?XBZ862 ?TBZ862 ?DZ862 ?T0Z862 ?exZ862 ?qZ862 ?_; (case RZ862 => assumption); (case FZ862 => assumption); (case KZ862 => assumption); (case UZ862 => assumption); (case XBZ862 => assumption); (case TBZ862 => assumption); (case DZ862 => assumption); (case T0Z862 => first | assumption | exact KtsTurn.refl); (case exZ862 => k_is); (case qZ862 => first | k_is | kernel_rfl); k_whole; intro h' g' n' T' F' N' G' M' K' X' P' D'))
  k_with "compareOp Gt int int" => (k_here; k_dflt (refine' gt_yes ?eZ863 ?_; (case eZ863 => rfl); k_whole))
  k_with "getMethod type:Exception" => (k_here; refine' method_type ?FZ864 ?XZ864 ?mZ864 (by decide +kernel) ?eZ864 ?hZ864 ?_; (case FZ864 => k_asm); (case XZ864 => k_asm); (case mZ864 => first | rfl | kernel_rfl); (case eZ864 => k_dflt k_is); (case hZ864 => k_handed))
  k_with "call builtin:Exception.__init__" => (k_here; (refine' exc_init ?FZ865 ?NZ865 ?XZ865 ?offZ865 ?zZ865 ?_; (case FZ865 => k_asm); (case NZ865 => k_asm); (case XZ865 => k_in); (case offZ865 => k_all); (case zZ865 => exact Nat.le_of_ble_eq_true rfl); k_whole; intro t' h' F' N' l1; (try k_lt l1); (try k_sweep)))
  k_with "setAttr ref" => (k_here; k_dflt (first
  | (refine' set_first' ?FZ866 ?NZ866 ?XZ866 ?haZ866 ?offZ866 ?otZ866 ?_; (case FZ866 => k_asm); (case NZ866 => k_asm); (case XZ866 => k_in); (case haZ866 => k_is); (case offZ866 => k_all); (case otZ866 => exact adr_ne (by omega)); k_whole; intro d' h' F' N' l1; (try k_lt l1); (try k_sweep))
  | (refine' set_next' ?FZ866 ?NZ866 ?XZ866 ?offZ866 ?_; (case FZ866 => k_asm); (case NZ866 => k_asm); (case XZ866 => k_in); (case offZ866 => k_all); k_whole; intro h' F' N'; (try k_sweep))))
  trivial
set_option maxHeartbeats 8000000 in
theorem refused_keyed (w : World) : RefC w (tE "dotcall" [tS "f", tE "parameters" [tS "k"], tS "a"]) := by
  intro tv Y htv
  have hkeep : KeepIs Y := trivial
  have he1 : isEx (tE "dotcall" [tS "f", tE "parameters" [tS "k"], tS "a"]) (kS "dotcall") = true := by simp [isEx]
  have he2 : isEx (tE "parameters" [tS "k"]) (kS "parameters") = true := by simp [isEx]
  obtain ⟨a, n, t1, t2, b, vs, k, rfl, hm, hm2, hT⟩ := ex_inv htv
  cases hT with
  | @cons v0 _ _ _ hv0 hT =>
  cases hT with
  | @cons v1 _ _ _ hv1 hT =>
  cases hT with
  | @cons v2 _ _ _ hv2 hT =>
  cases hT
  obtain ⟨a1, rfl⟩ := tree_ref hv1
  intro dp un gd cn cs fa ccd A₀ h₀ L m s mean mg mb Q E B F X N Tp hk hd hu fin
  refine wpAny_call ?_
  w_strict (
    (refine' code_defS0 ?k1 ?k2 ?k3 ?k4 ?k5 ?kA ?k6 ?k7 ?k8 ?k9 ?kB ?_ ?cK ?c2 ?c3 ?c4 ?c5; (case kA => exact rfl); (case k2 => k_asm); (case k1 => k_asm); (case k3 => k_asm); (case k4 => k_asm); (case k5 => k_asm); (case k6 => k_is); (case k7 => k_is); (case k8 => k_room); (case k9 => exact BindsTo.of_eq rfl); (case kB => exact locs rfl); (case cK => assumption); (case c2 => exact rfl); (case c3 => exact rfl); (case c4 => exact rfl); (case c5 => decide); k_whole; intro g' L' h' FG' F' N' B' X' T' D'; (try dsimp only); (try k_lift B'); (try k_fold))
    k_steps)
  exact fin _ _ (by k_asm) (by k_asm)
end
section
-- Right
theorem reset_Right : True := by
  w_top off
  k_with_none
  k_with "kt_len" => first | assumption | exact ltm (by assumption) (by lsm_bools) | exact lt3 (by assumption) (by assumption) (by lsm_bools) | exact ltk (by assumption) | exact lk0 (by assumption) (by rfl) | exact lk1 (by assumption) (by rfl) | exact ltn (by assumption) (by lsm_bools) | exact lka (by rfl) | exact lkb (by rfl) | exact And.left (by assumption) | exact pj1 (by assumption) | exact pj2 (by assumption) | fail "no"
  k_with "ktr_room" => first | exact szg (by rfl) | exact rm2 (by assumption) (by rfl) | exact rs2 (by assumption) (by rfl) | exact rm0 (by assumption) | exact rm1 (by assumption) (by rfl) | exact rs1 (by assumption) (by rfl) | exact rm3 (by assumption) (by rfl) | exact rm4 (by assumption) (by rfl) | exact rm5 (by assumption) (by rfl) | exact rmn (by assumption) (by assumption) (by rfl) | exact rmt (by assumption) (by rfl) | fail "no"
  k_with "ktr_units" => k_extra "ktr_room"
  k_with "omega" => first | with_reducible assumption | (show (_ : Nat) < _; first | assumption | k_extra "ktr_room") | (show (_ : Nat) ≤ _; first | assumption | exact szg (by rfl) | exact sza (by assumption) (by rfl) | exact szb (by assumption) (by assumption) (by rfl) | exact szc (by assumption) (by rfl) | exact szd (by assumption) (by rfl) | exact cza (by assumption) (by rfl) | exact szs (by assumption) | exact Nat.le_of_eq (by assumption)) | (show (_ : Nat) ≠ _; first | assumption | exact Ne.symm (by assumption) | exact ofI (by assumption) (by lsm_bools) | exact ofC (by assumption) (by lsm_bools) | exact ofD (by assumption) (by lsm_bools) | exact fI (by assumption) (by lsm_bools) | exact fC (by assumption) (by lsm_bools) | exact fD (by assumption) (by lsm_bools) | exact Nat.ne_of_lt (by kt_len) | exact Nat.ne_of_gt (by kt_len)) | (show (_ : Nat) < _ ∨ _; first | exact Or.inl (by kt_len) | exact Or.inr (by kt_len)) | fail "no"
  k_with "lsm_bools" => first | exact List.Mem.head _ | assumption | (refine' List.Mem.tail _ ?_; lsm_bools) | (refine' GrowT.mem ?gZ871 ?hZ871; (case gZ871 => assumption); (case hZ871 => lsm_bools)) | fail "no entry"
  k_with "k_mem" => first | lsm_bools | fail "no entry"
  k_with "tb_start" => first
  | exact List.forall_mem_nil _
  | (refine' List.forall_mem_cons.mpr ⟨?aZ873, ?bZ873⟩; (case aZ873 => lsm_bools); (case bZ873 => tb_start))
  | (intro p hp; repeat (first | exact hp | refine List.mem_cons_of_mem _ ?_ | refine List.Mem.tail _ ?_ | refine GrowT.mem' (by assumption) ?_ | refine GrowT.mem (by assumption) ?_ | fail "no entry"))
  | fail "not within"
  k_with "k_all" => first
  | assumption
  | (refine' GrowT.off ?gZ874 ?oZ874 ?NZ874 ?sZ874 ?mZ874 ?cZ874; (case gZ874 => assumption); (case NZ874 => k_asm); (case sZ874 => tb_start); (case mZ874 => lsm_bools); (case cZ874 => rfl); (case oZ874 => k_all))
  | (refine' offLt ?hZ874 ?sZ874; (case hZ874 => assumption); (case sZ874 => tb_start))
  | (refine' offLt3 ?qZ874 ?hZ874 ?sZ874; (case qZ874 => assumption); (case hZ874 => assumption); (case sZ874 => tb_start))
  | fail "not apart"
  k_with "kqd_sub" => first
  | (refine' Cut.own ?mZ875 ?rZ875; (case mZ875 => lsm_bools); (case rZ875 => kqd_sub))
  | (refine' Cut.oth ?oZ875 ?rZ875; (case oZ875 => k_all); (case rZ875 => kqd_sub))
  | exact Cut.tail
  | fail "no cut"
  k_with "ktr_rel" => first
  | exact subT_nil
  | exact subT_of (fun _ hp => hp)
  | assumption
  | (refine' subT_skip ?aZ876 ?bZ876; (case aZ876 => rfl); (case bZ876 => ktr_rel))
  | (refine' subT_cons ?aZ876 ?bZ876; (case aZ876 => lsm_bools); (case bZ876 => ktr_rel))
  | (refine' subT_of ?hZ876; (case hZ876 => tb_start))
  | (refine' subT_app (by ktr_rel) (by ktr_rel))
  | fail "tuples not within"
  k_with "k_room" => ktr_room
  k_with "k_units" => ktr_units
  k_with "tb_rel" => first
  | exact TAll.nil
  | exact TIn.str _ _
  | exact TIn.int _ _
  | exact TIn.bytes _ _
  | assumption
  | (refine' TIn.mono ?sZ879 ?hZ879; (case hZ879 => assumption); (case sZ879 => ktr_rel))
  | (refine' TAll.mono ?sZ879 ?hZ879; (case hZ879 => assumption); (case sZ879 => ktr_rel))
  | (refine' TIn.tuple ?mZ879 ?rZ879; (case mZ879 => lsm_bools); (case rZ879 => tb_rel))
  | (refine' TAll.cons (by tb_rel) (by tb_rel))
  | fail "no tree"
  k_with "call ref" => (k_here; (with_reducible show wpAny _ _ (call (Value.ref 214) [Value.str _ _] _) _ _ _); k_dflt (refine' sym_use ?CZ880 ?hcZ880 ?BZ880 ?FZ880 ?XZ880 ?NZ880 ?TZ880 ?hkZ880 ?hdZ880 ?huZ880 ?_; (case CZ880 => exact sym_con _); (case NZ880 => k_asm); (case hcZ880 => kqd_sub); (case BZ880 => k_asm); (case FZ880 => k_asm); (case XZ880 => k_asm); (case TZ880 => k_asm); (case hkZ880 => first | rfl | assumption); (case hdZ880 => ktr_room); (case huZ880 => ktr_units); k_whole; intro a' Y' h' tk' g' F' N' hr'; (try simp only [List.cons_append, List.nil_append] at N'); (try k_fold)))
  k_with "call ref" => (k_here; (with_reducible show wpAny _ _ (call (Value.ref 207) [Value.str _ _, Value.ref _] _) _ _ _); k_dflt (refine' tree_use ?CZ881 ?hcZ881 ?hmZ881 ?hlZ881 ?hTZ881 ?BZ881 ?FZ881 ?XZ881 ?NZ881 ?TZ881 ?hkZ881 ?hdZ881 ?huZ881 ?_; (case CZ881 => exact tree_con _); (case NZ881 => k_asm); (case hcZ881 => kqd_sub); (case hmZ881 => lsm_bools); (case hlZ881 => exact Nat.le_of_ble_eq_true rfl); (case hTZ881 => tb_rel); (case BZ881 => k_asm); (case FZ881 => k_asm); (case XZ881 => k_asm); (case TZ881 => k_asm); (case hkZ881 => first | rfl | assumption); (case hdZ881 => ktr_room); (case huZ881 => ktr_units); k_whole; intro a' Y' h' tk' g' F' N' hr'; (try simp only [List.cons_append, List.nil_append] at N'); (try k_fold)))
  k_with "call ref" => (k_here; (with_reducible show wpAny _ _ (call (Value.ref 68) [_, Value.str _ _] _) _ _ _); k_dflt (refine' isEx_use ?CZ882 ?hvZ882 ?eZ882 ?BZ882 ?FZ882 ?XZ882 ?NZ882 ?TZ882 ?hkZ882 ?hsZ882 ?hdZ882 ?huZ882 ?_; (case CZ882 => exact isEx_con _); (case hvZ882 => assumption); (case eZ882 => first | assumption | rfl); (case hsZ882 => tb_start); (case BZ882 => k_asm); (case FZ882 => k_asm); (case XZ882 => k_asm); (case NZ882 => k_asm); (case TZ882 => k_asm); (case hkZ882 => first | rfl | assumption); (case hdZ882 => ktr_room); (case huZ882 => ktr_units); k_whole; intro h' tk' F' N'; (try k_fold)))
  k_with "call ref" => (k_here; (with_reducible show wpAny _ _ (call (Value.ref 82) [Value.ref _] _) _ _ _); k_dflt (refine' isSym_use ?hmZ883 ?eZ883 ?BZ883 ?FZ883 ?XZ883 ?NZ883 ?TZ883 ?hkZ883 ?hdZ883 ?huZ883 ?_; (case NZ883 => k_asm); (case hmZ883 => lsm_bools); (case eZ883 => first | rfl | decide); (case BZ883 => k_asm); (case FZ883 => k_asm); (case XZ883 => k_asm); (case TZ883 => k_asm); (case hkZ883 => first | rfl | assumption); (case hdZ883 => ktr_room); (case huZ883 => ktr_units); k_whole; intro h' tk' F' N'; (try k_fold)))
  k_with "call ref" => (k_here; (with_reducible show wpAny _ _ (call (Value.ref 75) [Value.ref _] _) _ _ _); k_dflt (first
  | (refine' parts_use ?hmZ884 ?BZ884 ?FZ884 ?XZ884 ?NZ884 ?TZ884 ?hkZ884 ?hdZ884 ?huZ884 ?_; (case NZ884 => k_asm); (case hmZ884 => lsm_bools); (case BZ884 => k_asm); (case FZ884 => k_asm); (case XZ884 => k_asm); (case TZ884 => k_asm); (case hkZ884 => first | rfl | assumption); (case hdZ884 => ktr_room); (case huZ884 => ktr_units); k_whole; intro h' tk' F' N'; (try k_fold))
  | (refine' parts0_use ?hcZ884 ?hmZ884 ?hzZ884 ?BZ884 ?FZ884 ?XZ884 ?NZ884 ?TZ884 ?hkZ884 ?hdZ884 ?huZ884 ?_; (case NZ884 => k_asm); (case hmZ884 => lsm_bools); (case hzZ884 => decide); (case hcZ884 => kqd_sub); (case BZ884 => k_asm); (case FZ884 => k_asm); (case XZ884 => k_asm); (case TZ884 => k_asm); (case hkZ884 => first | rfl | assumption); (case hdZ884 => ktr_room); (case huZ884 => ktr_units); k_whole; intro d' j' Y' h' tk' g' F' N' hm'; (try simp only [List.cons_append, List.nil_append] at N'); (try k_fold))))
  k_with "compareOp In str ref" => (k_here; k_dflt (refine' in_tupL ?htZ885 ?hiZ885 ?_; (case htZ885 => (refine' tupK ?XZ885 ?lZ885; (case XZ885 => k_in); (case lZ885 => k_is))); (case hiZ885 => exact rfl)))
  k_with "compareOp Eq ref ref" => (k_here; k_dflt (first
  | (refine' eq_dat (r := false) ?HZ886 ?d1Z886 ?d2Z886 ?hcZ886 ?hdZ886 ?huZ886 ?_; (case HZ886 => exact heldOf (by k_asm)); (case d1Z886 => tb_rel); (case d2Z886 => tb_rel); (case hcZ886 => with_unfolding_all rfl); (case hdZ886 => exact Nat.le_of_ble_eq_true rfl); (case huZ886 => ktr_units))
  | (refine' eq_dat (r := true) ?HZ886 ?d1Z886 ?d2Z886 ?hcZ886 ?hdZ886 ?huZ886 ?_; (case HZ886 => exact heldOf (by k_asm)); (case d1Z886 => tb_rel); (case d2Z886 => tb_rel); (case hcZ886 => with_unfolding_all rfl); (case hdZ886 => exact Nat.le_of_ble_eq_true rfl); (case huZ886 => ktr_units))))
  k_with "compareOp NotEq ref ref" => (k_here; k_dflt (first
  | (refine' ne_dat (r := false) ?HZ887 ?d1Z887 ?d2Z887 ?hcZ887 ?hdZ887 ?huZ887 ?_; (case HZ887 => exact heldOf (by k_asm)); (case d1Z887 => tb_rel); (case d2Z887 => tb_rel); (case hcZ887 => with_unfolding_all rfl); (case hdZ887 => exact Nat.le_of_ble_eq_true rfl); (case huZ887 => ktr_units))
  | (refine' ne_dat (r := true) ?HZ887 ?d1Z887 ?d2Z887 ?hcZ887 ?hdZ887 ?huZ887 ?_; (case HZ887 => exact heldOf (by k_asm)); (case d1Z887 => tb_rel); (case d2Z887 => tb_rel); (case hcZ887 => with_unfolding_all rfl); (case hdZ887 => exact Nat.le_of_ble_eq_true rfl); (case huZ887 => ktr_units))))
  k_with "subscriptTail Name Constant ref int" => (k_here; k_dflt (refine' item_tupleT ?tZ888 ?aZ888 ?bZ888 ?cZ888 ?dZ888 ?_; (case tZ888 => exact News.isTup (by k_asm) (by k_mem)); (case aZ888 => decide); (case bZ888 => decide); (case cZ888 => rfl); (case dZ888 => rfl); k_whole))
  k_with "ite" => (k_closed; k_dflt (first | (refine' ite_pos ?cZ889 ?_; (case cZ889 => decide)) | (refine' ite_neg ?cZ889 ?_; (case cZ889 => decide))))
  k_with "call ref" => (k_here; (with_reducible show wpAny _ _ (call (Value.ref 54) [Value.str _ _, Value.ref _] _) _ _ _); k_dflt (refine' expr_use ?hcZ890 ?hmZ890 ?hlZ890 ?BZ890 ?FZ890 ?XZ890 ?NZ890 ?TZ890 ?hkZ890 ?hdZ890 ?huZ890 ?_; (case NZ890 => k_asm); (case hmZ890 => lsm_bools); (case hcZ890 => kqd_sub); (case hlZ890 => first | exact Nat.le_of_ble_eq_true rfl | (simp only [List.length_append, List.length_cons, List.length_nil]; omega)); (case BZ890 => k_asm); (case FZ890 => k_asm); (case XZ890 => k_asm); (case TZ890 => k_asm); (case hkZ890 => first | rfl | assumption); (case hdZ890 => ktr_room); (case huZ890 => ktr_units); k_whole; intro a' t1' k' Y' h' tk' g' F' N' hm'; (try simp only [List.cons_append, List.nil_append] at N'); (try k_fold)))
  k_with "call ref" => (k_here; (with_reducible show wpAny _ _ (call (Value.ref 61) [Value.str _ _] _) _ _ _); k_dflt (refine' sym_use ?CZ891 ?hcZ891 ?BZ891 ?FZ891 ?XZ891 ?NZ891 ?TZ891 ?hkZ891 ?hdZ891 ?huZ891 ?_; (case CZ891 => exact symF_con _); (case NZ891 => k_asm); (case hcZ891 => kqd_sub); (case BZ891 => k_asm); (case FZ891 => k_asm); (case XZ891 => k_asm); (case TZ891 => k_asm); (case hkZ891 => first | rfl | assumption); (case hdZ891 => ktr_room); (case huZ891 => ktr_units); k_whole; intro a' Y' h' tk' g' F' N' hr'; (try simp only [List.cons_append, List.nil_append] at N'); (try k_fold)))
  k_with "call type:range cons nil" => (k_here; k_dflt (refine' range1_rows ?FZ892 ?NZ892 ?_; (case FZ892 => k_asm); (case NZ892 => k_asm); k_whole; intro h' tk' t1' u1' v1' hR' F' N' hst'; (try k_fold)))
  k_with "pyIter ref" => (k_here; (with_reducible show wpAny _ _ (pyIter (Value.ref _)) (fun it s₂ => LoopAtV _ _ _ _ _ _ _ _ _ it s₂) _ _); refine' Hold.of ?_)
  k_with "binaryOp Add ref ref" => (k_here; k_dflt (refine' add_cat ?FZ894 ?NZ894 ?aZ894 ?bZ894 ?zZ894 ?_; (case FZ894 => k_asm); (case NZ894 => k_asm); (case aZ894 => lsm_bools); (case bZ894 => lsm_bools); (case zZ894 => (simp only [sizeLine_eq, List.length_cons, List.length_nil]; omega)); k_whole; intro D' h' F' N' l1; (try k_lt l1); (try k_sweep)))
  k_with "subscriptTail Name Slice ref ref" => (k_here; k_dflt (first
  | (refine' slice_whole ?FZ895 ?NZ895 ?tZ895 ?lZ895 ?zZ895 ?_ ?hsZ895 ?hgZ895; (case FZ895 => k_asm); (case NZ895 => k_asm); (case tZ895 => lsm_bools); (case lZ895 => exact Nat.le_of_ble_eq_true rfl); (case zZ895 => exact Nat.le_of_ble_eq_true rfl); (case hsZ895 => with_unfolding_all rfl); (case hgZ895 => (intro _; with_unfolding_all rfl)); k_whole; intro h' F' N'; (try k_sweep))
  | (refine' slice_upto ?FZ895 ?NZ895 ?tZ895 ?lZ895 ?zZ895 ?_ ?hsZ895 ?hgZ895; (case FZ895 => k_asm); (case NZ895 => k_asm); (case tZ895 => lsm_bools); (case lZ895 => exact Nat.le_of_ble_eq_true rfl); (case zZ895 => exact Nat.le_of_ble_eq_true rfl); (case hsZ895 => with_unfolding_all rfl); (case hgZ895 => (intro _; with_unfolding_all rfl)); k_whole; intro D' h' F' N' l1; (try k_lt l1); (try k_sweep))))
  k_with "subscriptTail Name Slice ref ref" => (k_here; k_dflt
  (refine' slice_from ?FZ896 ?NZ896 ?tZ896 ?oZ896 ?lZ896 ?zZ896 ?_ ?hsZ896 ?hgZ896; (case FZ896 => k_asm); (case NZ896 => k_asm); (case tZ896 => lsm_bools); (case oZ896 => exact Nat.le_of_ble_eq_true rfl); (case lZ896 => (simp only [List.length_cons]; omega)); (case zZ896 => (simp only [sizeLine_eq, List.length_cons]; omega)); (case hsZ896 => with_unfolding_all rfl); (case hgZ896 => (intro _; with_unfolding_all rfl)); k_whole; intro D' h' F' N' l1; (try k_lt l1); (try k_sweep)))
  k_with "subscriptTail Subscript Name Constant Slice ref ref" => (k_here; k_dflt
  (refine' slice_from ?FZ897 ?NZ897 ?tZ897 ?oZ897 ?lZ897 ?zZ897 ?_ ?hsZ897 ?hgZ897; (case FZ897 => k_asm); (case NZ897 => k_asm); (case tZ897 => lsm_bools); (case oZ897 => exact Nat.le_of_ble_eq_true rfl); (case lZ897 => (simp only [List.length_cons]; omega)); (case zZ897 => (simp only [sizeLine_eq, List.length_cons]; omega)); (case hsZ897 => with_unfolding_all rfl); (case hgZ897 => (intro _; with_unfolding_all rfl)); k_whole; intro D' h' F' N' l1; (try k_lt l1); (try k_sweep)))
  k_with "call type:tuple cons nil" => (k_here; k_dflt (refine' tuple_of ?FZ898 ?NZ898 ?tZ898 ?zZ898 ?_; (case FZ898 => k_asm); (case NZ898 => k_asm); (case tZ898 => lsm_bools); (case zZ898 => first | exact Nat.le_of_ble_eq_true rfl | (simp only [sizeLine_eq, List.length_append, List.length_cons, List.length_nil]; omega)); k_whole; intro D' h' F' N' l1; (try k_lt l1); (try k_sweep)))
  k_with "subscriptTail Name Constant ref int" => (k_here; k_dflt (refine' item_tupI ?NZ899 ?mZ899 ?aZ899 ?bZ899 ?cZ899 ?_; (case NZ899 => k_asm); (case mZ899 => lsm_bools); (case aZ899 => decide); (case bZ899 => decide); (case cZ899 => exact rfl); k_whole))
  k_with "subscriptTail Subscript Name Constant Constant ref int" => (k_here; k_dflt (refine' item_tupI ?NZ900 ?mZ900 ?aZ900 ?bZ900 ?cZ900 ?_; (case NZ900 => k_asm); (case mZ900 => lsm_bools); (case aZ900 => decide); (case bZ900 => decide); (case cZ900 => exact rfl); k_whole))
  k_with "subscriptTail Subscript Subscript Constant Constant ref int" => (k_here; k_dflt (refine' item_tupI ?NZ901 ?mZ901 ?aZ901 ?bZ901 ?cZ901 ?_; (case NZ901 => k_asm); (case mZ901 => lsm_bools); (case aZ901 => decide); (case bZ901 => decide); (case cZ901 => exact rfl); k_whole))
  k_with "subscriptTail Call Name cons nil Constant ref int" => (k_here; k_dflt (refine' item_tupI ?NZ902 ?mZ902 ?aZ902 ?bZ902 ?cZ902 ?_; (case NZ902 => k_asm); (case mZ902 => lsm_bools); (case aZ902 => decide); (case bZ902 => decide); (case cZ902 => exact rfl); k_whole))
  k_with "binaryOp Add ref ref" => (k_here; k_dflt (refine' add_tupC ?FZ903 ?NZ903 ?aZ903 ?bZ903 ?l1Z903 ?l2Z903 ?zZ903 ?_; (case FZ903 => k_asm); (case NZ903 => k_asm); (case aZ903 => lsm_bools); (case bZ903 => lsm_bools); (case l1Z903 => (simp only [List.length_cons, List.length_nil]; omega)); (case l2Z903 => omega); (case zZ903 => (simp only [sizeLine_eq, List.length_cons, List.length_nil]; omega)); k_whole; intro D' h' F' N' l1; (try k_lt l1); (try k_sweep)))
  k_with "call type:tuple cons nil" => (k_here; k_dflt (refine' tuple_same ?NZ904 ?tZ904 ?_; (case NZ904 => k_asm); (case tZ904 => lsm_bools); k_whole))
  k_with "call builtin:len cons nil" => (k_here; k_dflt (refine' len_tupK ?NZ905 ?tZ905 ?zZ905 ?_; (case NZ905 => k_asm); (case tZ905 => lsm_bools); (case zZ905 => (simp only [sizeLine_eq, List.length_cons, List.length_nil]; omega)); k_whole; intro tk1' tk2'))
  k_with "eval ListComp" => (k_here; refine' Hold.of ?_)
  k_with "compareOp NotEq ref ref" => (k_here; k_dflt (refine' ne_dat (r := false) ?HZ907 ?d1Z907 ?d2Z907 ?hcZ907 ?hdZ907 ?huZ907 ?_; (case HZ907 => exact heldOf (by k_asm)); (case d1Z907 => tb_rel); (case d2Z907 => tb_rel); (case hcZ907 => exact cmp_head (by assumption) _); (case hdZ907 => exact Nat.le_of_ble_eq_true rfl); (case huZ907 => ktr_units)))
  k_with "call ref" => (k_here; (with_reducible show wpAny _ _ (call (Value.ref 233) [_] _) _ _ _); k_dflt (refine' plain_use ?CZ908 ?hoZ908 ?hvZ908 ?BZ908 ?FZ908 ?XZ908 ?NZ908 ?TZ908 ?hkZ908 ?hcZ908 ?hdZ908 ?huZ908 ?_; (case CZ908 => assumption); (case hoZ908 => assumption); (case hvZ908 => assumption); (case BZ908 => k_asm); (case FZ908 => k_asm); (case XZ908 => k_asm); (case NZ908 => k_asm); (case TZ908 => k_asm); (case hkZ908 => first | rfl | assumption); (case hcZ908 => kqd_sub); (case hdZ908 => ktr_room); (case huZ908 => ktr_units); k_whole; intro r' Y' h' tk' g' F' N' hr'; (try simp only [List.cons_append, List.nil_append] at N'); (try k_fold)))
  k_with "call ref" => (k_here; (with_reducible show wpAny _ _ (call (Value.ref 240) [_] _) _ _ _); k_dflt (refine' things_use ?CZ909 ?hoZ909 ?hvZ909 ?BZ909 ?FZ909 ?XZ909 ?NZ909 ?TZ909 ?hkZ909 ?hcZ909 ?hdZ909 ?huZ909 ?_; (case CZ909 => assumption); (case hoZ909 => assumption); (case hvZ909 => assumption); (case BZ909 => k_asm); (case FZ909 => k_asm); (case XZ909 => k_asm); (case NZ909 => k_asm); (case TZ909 => k_asm); (case hkZ909 => first | rfl | assumption); (case hcZ909 => kqd_sub); (case hdZ909 => ktr_room); (case huZ909 => ktr_units); k_whole; intro a' vs' k' Y' h' tk' g' F' N' hr' hrl'; (try simp only [List.cons_append, List.nil_append] at N'); (try k_fold)))
  k_with "exec For Name Subscript" => (k_here; (rename Fr _ _ _ _ => lF'); (with_unfolding_all refine' For_invVF lF' ?k1Z910 ?k2Z910 ?_; (case k1Z910 => exact rfl); (case k2Z910 => exact rfl); k_whole))
  k_with "compareOp Eq ref ref" => (k_here; k_dflt (refine' eq_dat (r := false) ?HZ911 ?d1Z911 ?d2Z911 ?hcZ911 ?hdZ911 ?huZ911 ?_; (case HZ911 => exact heldOf (by k_asm)); (case d1Z911 => tb_rel); (case d2Z911 => tb_rel); (case hcZ911 => exact cmp_head (by assumption) _); (case hdZ911 => exact Nat.le_of_ble_eq_true rfl); (case huZ911 => ktr_units)))
  k_with "compareOp Eq str str" => (k_here; k_dflt (refine' eq_str_no ?hZ912 ?_; (case hZ912 => assumption); k_whole))
  k_with "compareOp In ref ref" => (k_here; k_dflt (first
  | (refine' in_tab_some ?hlZ913 ?NZ913 ?hvZ913 ?htZ913 ?tabZ913 ?huZ913 ?_; (case hlZ913 => assumption); (case NZ913 => k_asm); (case hvZ913 => (refine' TIn.mono ?sZ913 ?hZ913; (case hZ913 => assumption); (case sZ913 => exact subT_of (by tb_start)))); (case htZ913 => assumption); (case tabZ913 => (refine' TabIn.mono ?sZ913 ?hZ913; (case hZ913 => assumption); (case sZ913 => tb_start))); (case huZ913 => ktr_units); k_whole; intro tk')
  | (refine' in_tab_none ?hlZ913 ?NZ913 ?hvZ913 ?htZ913 ?tabZ913 ?huZ913 ?_; (case hlZ913 => assumption); (case NZ913 => k_asm); (case hvZ913 => (refine' TIn.mono ?sZ913 ?hZ913; (case hZ913 => assumption); (case sZ913 => exact subT_of (by tb_start)))); (case htZ913 => assumption); (case tabZ913 => (refine' TabIn.mono ?sZ913 ?hZ913; (case hZ913 => assumption); (case sZ913 => tb_start))); (case huZ913 => ktr_units); k_whole; intro tk')))
  k_with "subscriptTail Name Name ref ref" => (k_here; k_dflt (refine' item_tab ?NZ914 ?hvZ914 ?htZ914 ?tabZ914 ?hlZ914 ?huZ914 ?_ ?hsZ914 ?hgZ914; (case hlZ914 => assumption); (case NZ914 => k_asm); (case hvZ914 => (refine' TIn.mono ?sZ914 ?hZ914; (case hZ914 => assumption); (case sZ914 => exact subT_of (by tb_start)))); (case htZ914 => assumption); (case tabZ914 => (refine' TabIn.mono ?sZ914 ?hZ914; (case hZ914 => assumption); (case sZ914 => tb_start))); (case huZ914 => ktr_units); (case hsZ914 => with_unfolding_all rfl); (case hgZ914 => (intro _; with_unfolding_all rfl)); k_whole; intro tk' r' hr'))
  k_with "call ref" => (k_here; (with_reducible show wpAny _ _ (call (Value.ref 245) [_, Value.ref _] _) _ _ _); k_dflt (refine' put_use ?CZ915 ?hoZ915 ?hdepZ915 ?hvZ915 ?htZ915 ?BZ915 ?FZ915 ?XZ915 ?NZ915 ?TZ915 ?hkZ915 ?hcZ915 ?hdZ915 ?huZ915 ?_; (case CZ915 => assumption); (case hoZ915 => assumption); (case hdepZ915 => assumption); (case hvZ915 => assumption); (case htZ915 => assumption); (case BZ915 => k_asm); (case FZ915 => k_asm); (case XZ915 => k_asm); (case NZ915 => k_asm); (case TZ915 => k_asm); (case hkZ915 => first | rfl | assumption); (case hcZ915 => kqd_sub); (case hdZ915 => ktr_room); (case huZ915 => ktr_units); k_whole; intro r' Y' h' tk' g' F' N' hr'; (try simp only [List.cons_append, List.nil_append] at N'); (try k_fold)))
  k_with "compareOp NotEq ref ref" => (k_here; k_dflt (refine' ne_val ?XZ916 ?NZ916 ?e1Z916 ?e2Z916 ?h1Z916 ?h2Z916 ?huZ916 ?_; (case XZ916 => k_in); (case NZ916 => k_asm); (case e1Z916 => first | assumption | k_is); (case e2Z916 => first | assumption | k_is); (case h1Z916 => lsm_bools); (case h2Z916 => lsm_bools); (case huZ916 => ktr_units); k_whole))
  k_with "compareOp NotEq ref ref" => (k_here; k_dflt (refine' ne_list ?NZ917 ?h1Z917 ?h2Z917 ?d1Z917 ?d2Z917 ?okZ917 ?huZ917 ?_; (case NZ917 => k_asm); (case h1Z917 => lsm_bools); (case h2Z917 => lsm_bools); (case d1Z917 => (refine' TAll.mono ?sZ917 ?hZ917; (case hZ917 => assumption); (case sZ917 => exact subT_of (by tb_start)))); (case d2Z917 => (refine' TAll.mono ?sZ917 ?hZ917; (case hZ917 => assumption); (case sZ917 => exact subT_of (by tb_start)))); (case okZ917 => assumption); (case huZ917 => ktr_units); k_whole))
  k_with "call builtin:len cons nil" => (k_here; k_dflt (refine' len_listK ?NZ918 ?tZ918 ?zZ918 ?_; (case NZ918 => k_asm); (case tZ918 => lsm_bools); (case zZ918 => (rw [sizeLine_eq]; omega)); k_whole; intro tk1' tk2'))
  k_with "subscriptTail Name Slice ref ref" => (k_here; k_dflt (first
  | (refine' list_upto ?FZ919 ?NZ919 ?tZ919 ?eZ919 ?_ ?hsZ919 ?hgZ919 ?zZ919; (case FZ919 => k_asm); (case NZ919 => k_asm); (case tZ919 => lsm_bools); (case eZ919 => assumption); (case zZ919 => (simp only [sizeLine_eq]; first | omega | (simp; omega))); (case hsZ919 => with_unfolding_all rfl); (case hgZ919 => (intro _; with_unfolding_all rfl)); k_whole; intro D' h' F' N' l1; (try k_lt l1); (try k_sweep))
  | (refine' list_from ?FZ919 ?NZ919 ?tZ919 ?eZ919 ?_ ?hsZ919 ?hgZ919 ?zZ919; (case FZ919 => k_asm); (case NZ919 => k_asm); (case tZ919 => lsm_bools); (case eZ919 => assumption); (case zZ919 => (simp only [sizeLine_eq]; first | omega | (simp; omega))); (case hsZ919 => with_unfolding_all rfl); (case hgZ919 => (intro _; with_unfolding_all rfl)); k_whole; intro D' h' F' N' l1; (try k_lt l1); (try k_sweep))))
  k_with "compareOp NotEq int int" => (k_here; k_dflt (refine' ne_int_same ?eZ920 ?_; (case eZ920 => omega); k_whole))
  k_with "compareOp Eq int int" => (k_here; k_dflt (refine' eq_int_same ?eZ921 ?_; (case eZ921 => omega); k_whole))
  k_with "call type:zip" => (k_here; k_dflt (refine' zip_tl ?FZ922 ?NZ922 ?tZ922 ?lZ922 ?_; (case FZ922 => k_asm); (case NZ922 => k_asm); (case tZ922 => lsm_bools); (case lZ922 => lsm_bools); k_whole; intro n0' h' Z'))
  k_with "call type:dict" => (k_here; k_dflt (refine' dict_zipT ?ZZ923 ?bZ923 ?hkZ923 ?hvZ923 ?lZ923 ?hhZ923 ?huZ923 ?_; (case ZZ923 => assumption); (case bZ923 => exact modules_low (Top.nolimit (by assumption))); (case hkZ923 => (refine' TAll.mono ?sZ923 ?hZ923; (case hZ923 => assumption); (case sZ923 => exact subT_of (by tb_start)))); (case hvZ923 => (refine' TAll.mono ?sZ923 ?hZ923; (case hZ923 => assumption); (case sZ923 => exact subT_of (by tb_start)))); (case lZ923 => assumption); (case hhZ923 => rfl); (case huZ923 => ktr_units); k_whole; intro D' h' tk' xs' n' F' N' T' l1; (try k_lt l1); (try k_sweep)))
  k_with "call builtin:len cons nil" => (k_here; k_dflt (refine' len_tab ?NZ924 ?tZ924 ?zZ924 ?_; (case NZ924 => k_asm); (case tZ924 => (refine' TabIn.mono ?sZ924 ?hZ924; (case hZ924 => assumption); (case sZ924 => tb_start))); (case zZ924 => (simp only [tabOf_len]; omega)); k_whole; intro tk1' tk2'; try simp only [tabOf_len]))
  k_with "call ref" => (k_here; (with_reducible show wpAny _ _ (call (Value.ref 245) [_, Value.ref _] _) _ _ _); k_dflt (refine' put_use2 ?CZ925 ?hoZ925 ?hdepZ925 ?BZ925 ?FZ925 ?XZ925 ?NZ925 ?hvZ925 ?htZ925 ?TZ925 ?hkZ925 ?hdZ925 ?huZ925 ?_; (case CZ925 => assumption); (case hoZ925 => assumption); (case hdepZ925 => assumption); (case BZ925 => k_asm); (case FZ925 => k_asm); (case XZ925 => k_asm); (case NZ925 => k_asm); (case hvZ925 => (refine' TIn.mono ?sZ925 ?hZ925; (case hZ925 => assumption); (case sZ925 => exact subT_of (by tb_start)))); (case htZ925 => (refine' TabIn.mono ?sZ925 ?hZ925; (case hZ925 => assumption); (case sZ925 => tb_start))); (case TZ925 => k_asm); (case hkZ925 => first | rfl | assumption); (case hdZ925 => ktr_room); (case huZ925 => ktr_units); k_whole; intro r' Y' h' tk' g' F' N' hr'; (try simp only [List.cons_append, List.nil_append] at N'); (try k_fold)))
  k_with "call ref" => (k_here; (with_reducible show wpAny _ _ (call (Value.ref 233) [_] _) _ _ _); k_dflt (refine' plain_use ?CZ926 ?hoZ926 ?hvZ926 ?BZ926 ?FZ926 ?XZ926 ?NZ926 ?TZ926 ?hkZ926 ?hcZ926 ?hdZ926 ?huZ926 ?_; (case CZ926 => assumption); (case hoZ926 => assumption); (case BZ926 => k_asm); (case FZ926 => k_asm); (case XZ926 => k_asm); (case NZ926 => k_asm); (case TZ926 => k_asm); (case hkZ926 => first | rfl | assumption); (case hcZ926 => kqd_sub); (case hvZ926 => (refine' TIn.mono ?sZ926 ?hZ926; (case hZ926 => assumption); (case sZ926 => exact subT_of (by tb_start)))); (case hdZ926 => ktr_room); (case huZ926 => ktr_units); k_whole; intro r' Y' h' tk' g' F' N' hr'; (try simp only [List.cons_append, List.nil_append] at N'); (try k_fold)))
  k_with "compareOp Eq" => (k_here; k_dflt (refine' eq_treeV ?NZ927 ?d1Z927 ?d2Z927 ?hdZ927 ?huZ927 ?eZ927 ?_; (case NZ927 => k_asm); (case d1Z927 => (refine' TIn.mono ?sZ927 ?hZ927; (case hZ927 => assumption); (case sZ927 => exact subT_of (by tb_start)))); (case d2Z927 => (refine' TIn.mono ?sZ927 ?hZ927; (case hZ927 => assumption); (case sZ927 => exact subT_of (by tb_start)))); (case hdZ927 => assumption); (case huZ927 => ktr_units); (case eZ927 => assumption); k_whole))
  trivial
set_option maxHeartbeats 8000000 in
theorem right_con (w : World) (told tv : Value) (wd : Str) (tw : Tok) (al bc c2 : Addr) (u1 u3 u4 : Tok) (m1 m2 : Nat) (avs : List Value) (an : Nat) (ah : List T) (t : T) (nn : Nat) (Y : List (Addr × Obj)) (hb1 : (hd.heap_39 w.params).lookup bc = some (tupObj [.str (Str.ofString "value") u1, .ref c2] m1))
    (hb2 : (hd.heap_39 w.params).lookup c2 = some (tupObj [.str (Str.ofString "builtin") u3, .str wd u4] m2)) (hnn : nn ≤ 3) (ht : TreeOk nn t) (hal : (al, listOf (List.toArray avs) an) ∈ Y) (hah : TAll Y avs (T.dats ah)) (hah1 : ah.length ≤ 1) (hahk : ∀ t ∈ ah, kqdOk 8 t.dat = true)
    (htold : ToldIn Y told bc (fnT (thingsT t).length (bodyT t 0)) (ah ++ thingsT t)) (htv : TIn Y tv t.dat) (PC : ∀ t, PutC w (tabOf (thingsT t)) (bodyT t 0)) (LC : PlainC w t) (TC : ThingsC w nn) :
    Con w 252 [told, .str wd tw, .ref al, tv] 50 400 [] Y (fun M' Y₁ r => M' = [] ∧ r = .bool true) := by
  have hto : t.ok := (tree_ok nn t ht).1
  have htd : t.dep ≤ 4 := Nat.le_trans (tree_ok nn t ht).2 (by omega)
  have hbo : (bodyT t 0).ok := (body_ok nn t 0 ht).1
  have hbd : (bodyT t 0).dep ≤ 3 := Nat.le_trans (body_ok nn t 0 ht).2 hnn
  obtain ⟨a, n, t1, t2, b, k, f, lvs, rfl, ha, hb, hf, hl⟩ := htold
  obtain ⟨f, n2, t3, t4, g, gvs, k2, rfl, hf1, hf2, hg⟩ := ex_inv hf
  cases hg with
  | @cons nm _ _ _ hnm hg =>
  cases hg with
  | @cons bv _ _ _ hbv hg =>
  cases hg
  obtain ⟨nm, n3, t5, t6, q, qs, k3, rfl, hn1, hn2, hq⟩ := ex_inv hnm
  obtain ⟨tv, rfl⟩ := tree_ref htv
  have hl60 : lvs.length ≤ 60 := by
    have := hl.length
    have := things_len nn t ht
    have := cntB_le hnn
    rw [dats_len, List.length_append] at *
    omega
  have hav := hah.length
  rw [dats_len] at hav
  have hthk := things_kqd ht
  obtain ⟨l1, l2, rfl, hL1, hL2⟩ := tall_split hl
  have e1 := hL1.length
  have e2 := hL2.length
  rw [dats_len] at e1 e2
  have htk : (l1 ++ l2).take avs.length = l1 := by rw [hav, ← e1]; simp
  have hdr : (l1 ++ l2).drop avs.length = l2 := by rw [hav, ← e1]; simp
  have hqs : qs.length = (thingsT t).length := by
    have := hq.length
    rw [dats_len, List.length_map, namesN_len] at this
    exact this
  have hl3 : (thingsT t).length ≤ 40 := Nat.le_trans (things_len nn t ht) (cntB_le hnn)
  have PCt := PC t
  have hzz := plain_law hnn ht
  have hzd : (putT (tabOf (thingsT t)) (bodyT t 0)).dep ≤ 4 := by rw [hzz]; exact Nat.le_trans (plain_dep t) htd
  refine Con.intro ?_
  intro dp un gd cn cs fa ccd cl outer A₀ base h₀ L m s mean mg mb Q E B0 F X N Tp hk hd hu fin
  simp only [List.nil_append] at N
  refine wpAny_call ?_
  w_strict (
    k_dflt ktr_enter
    k_steps)
  refine' fin [] _ _ _ _ (by k_asm) (by k_asm) (List.forall_mem_nil _) ?Y (fun Y₁ hs => ⟨rfl, rfl⟩)
  case Y => tb_start
end

section
-- LawDef
/-- the contracts of fused and of _law_is_right, as the law takes them -/
noncomputable def DotFC (w : World) : Prop := ∀ (t : T) (tv : Value), DotT 3 t → ∀ (Y : List (Addr × Obj)), TIn Y tv t.dat → ∀ (sz sd : Addr), (sz, instObj 182 sd) ∈ Y → ∀ (t4 tk : Tok), (∀ p ∈ Y, p.1 ≠ sd) →
  Con w 158 [tv, .ref sz] 80 600 [(sd, dictOf [attrE w "many" t4 (.int 0 tk)] 1)] Y (fun M' Y₁ r => M' = [] ∧ ToldIn Y₁ r 84 (fnT (thingsT t).length (bodyT t 0)) (thingsT t))
noncomputable def SetFC (w : World) (place goal : T) : Prop := ∀ (t : T) (tv : Value), TreeOk 3 t → ∀ (Y : List (Addr × Obj)), TIn Y tv (tE ".=" [place, t]).dat → ∀ (sz sd : Addr), (sz, instObj 182 sd) ∈ Y → ∀ (t4 tk : Tok), (∀ p ∈ Y, p.1 ≠ sd) →
  Con w 158 [tv, .ref sz] 80 600 [(sd, dictOf [attrE w "many" t4 (.int 0 tk)] 1)] Y (fun M' Y₁ r => M' = [] ∧ ToldIn Y₁ r 86 (fnT (thingsT t).length (bodyT t 0)) (goal :: thingsT t))
noncomputable def RightC (w : World) (wd : Str) (bc : Addr) : Prop := ∀ (told tv : Value) (tw : Tok) (al : Addr) (avs : List Value) (an : Nat) (ah : List T) (t : T) (Y : List (Addr × Obj)), TreeOk 3 t → (al, listOf (List.toArray avs) an) ∈ Y → TAll Y avs (T.dats ah) → ah.length ≤ 1 → (∀ t ∈ ah, kqdOk 8 t.dat = true) →
  ToldIn Y told bc (fnT (thingsT t).length (bodyT t 0)) (ah ++ thingsT t) → TIn Y tv t.dat → Con w 252 [told, .str wd tw, .ref al, tv] 50 400 [] Y (fun M' _ r => M' = [] ∧ r = .bool true)
theorem Cut.in_rest {w : World} {sd : Addr} {t4 tk : Tok} {k : Int} {Y news ex : List (Addr × Obj)} {sz : Addr} (c : Cut [(sd, dictOf [attrE w "many" t4 (.int k tk)] 1)] Y news ex) (h : (sz, instObj 182 sd) ∈ news) : (sz, instObj 182 sd) ∈ ex ++ Y := by
  rcases c.has _ h with q | q
  · have := congrArg (fun p => p.2.cls) (List.mem_singleton.mp q)
    simp only at this
    cases this
  · exact q
section
variable {w : World} {Y news ex : List (Addr × Obj)}
  {dp un : Nat} {gd : Option (List Code)} {cn : Str} {cs : Scope} {fa : Addr} {ccd : Value} {cl : List (Str × Addr)} {outer : List Env} {A₀ : Around} {base h₀ : Heap} {L0 : Addr} {m : Str → Option Value} {s : Shared}
  {mean : ExcName → Option Value} {mg mb : Str → Option Value} {Q E : Value → Shared → Prop}
theorem fusedD_use {t : T} {tv : Value} {sz sd : Addr} {t4 tk : Tok} (C : DotFC w) (ho : DotT 3 t) (hv : TIn Y tv t.dat) (hs : (sz, instObj 182 sd) ∈ news)
    (hm : ∀ p ∈ [(sd, dictOf [attrE w "many" t4 (.int 0 tk)] 1)], p ∈ news) (hc : Cut [(sd, dictOf [attrE w "many" t4 (.int 0 tk)] 1)] Y news ex) (y1 : ∀ p ∈ Y, p.1 ≠ sd)
    (B : Below A₀ base outer h₀) (F : Fr h₀ L0 s.heap m) (X : (hd.heap_39 w.params).In h₀) (N : News h₀ L0 s.heap news)
    (Tp : Top hd.view_39 (looseW hd.view_39 [Str.ofString "RowsError"]) mean mg mb h₀) (hk : cs.kind = .function) (hd : dp + 80 < recursionLimit) (hu : un + 600 < cLine)
    (ret : ∀ r Y₂ h' tk', GrowT Y Y₂ → Fr h₀ L0 h' m → News h₀ L0 h' (ex ++ Y₂) → ToldIn Y₂ r 84 (fnT (thingsT t).length (bodyT t 0)) (thingsT t) → Q r { s with heap := h', toks := tk' }) :
    wpAny (model PySem.Challenge.rw_pq0689_01.row.prog w) (ktrTop dp un gd cn cs L0 fa ccd cl outer) (call (.ref 158) [tv, .ref sz]) Q E s := by
  refine Con.use (ex := ex) (fun ho' => C t tv ho (ex ++ Y) (TIn.mono (fun p h _ => List.mem_append.mpr (.inr h)) hv) sz sd (hc.in_rest hs) t4 tk (ho' _ (.head _))) ?_ hc hm (fun q hq => by rw [List.mem_singleton.mp hq]; exact y1) B F X N Tp hk hd hu ?_
  · rintro M' X Z r hs ⟨h1, h2⟩
    exact ⟨h1, h2.mono hs⟩
  · rintro r M' Y₂ h' tk' g F' N' ⟨rfl, h2⟩
    exact ret r Y₂ h' tk' g F' (by simpa using N') h2
/-- the same for a dot assignment; the rest of the ledger stands in ex too -/
theorem fusedS_use {place goal t : T} {tv : Value} {sz sd : Addr} {t4 tk : Tok} (C : SetFC w place goal) (ho : TreeOk 3 t) (hs : (sz, instObj 182 sd) ∈ news)
    (hm : ∀ p ∈ [(sd, dictOf [attrE w "many" t4 (.int 0 tk)] 1)], p ∈ news) (hc : Cut [(sd, dictOf [attrE w "many" t4 (.int 0 tk)] 1)] Y news ex) (hv : TIn (ex ++ Y) tv (tE ".=" [place, t]).dat) (y1 : ∀ p ∈ Y, p.1 ≠ sd)
    (B : Below A₀ base outer h₀) (F : Fr h₀ L0 s.heap m) (X : (hd.heap_39 w.params).In h₀) (N : News h₀ L0 s.heap news)
    (Tp : Top hd.view_39 (looseW hd.view_39 [Str.ofString "RowsError"]) mean mg mb h₀) (hk : cs.kind = .function) (hd : dp + 80 < recursionLimit) (hu : un + 600 < cLine)
    (ret : ∀ r Y₂ h' tk', GrowT Y Y₂ → Fr h₀ L0 h' m → News h₀ L0 h' (ex ++ Y₂) → ToldIn Y₂ r 86 (fnT (thingsT t).length (bodyT t 0)) (goal :: thingsT t) → Q r { s with heap := h', toks := tk' }) :
    wpAny (model PySem.Challenge.rw_pq0689_01.row.prog w) (ktrTop dp un gd cn cs L0 fa ccd cl outer) (call (.ref 158) [tv, .ref sz]) Q E s := by
  refine Con.use (ex := ex) (fun ho' => C t tv ho (ex ++ Y) hv sz sd (hc.in_rest hs) t4 tk (ho' _ (.head _))) ?_ hc hm (fun q hq => by rw [List.mem_singleton.mp hq]; exact y1) B F X N Tp hk hd hu ?_
  · rintro M' X Z r hs ⟨h1, h2⟩
    exact ⟨h1, h2.mono hs⟩
  · rintro r M' Y₂ h' tk' g F' N' ⟨rfl, h2⟩
    exact ret r Y₂ h' tk' g F' (by simpa using N') h2
theorem right_use {told tv : Value} {wd : Str} {bc : Addr} {tw : Tok} {al : Addr} {avs : List Value} {an : Nat} {ah : List T} {t : T} (C : RightC w wd bc) (ht : TreeOk 3 t) (hc : Cut [] Y news ex) (htold : ToldIn news told bc (fnT (thingsT t).length (bodyT t 0)) (ah ++ thingsT t)) (hal : (al, listOf (List.toArray avs) an) ∈ news) (hah : TAll news avs (T.dats ah)) (hah1 : ah.length ≤ 1) (hahk : ∀ t ∈ ah, kqdOk 8 t.dat = true)
    (htv : TIn news tv t.dat) (B : Below A₀ base outer h₀) (F : Fr h₀ L0 s.heap m) (X : (hd.heap_39 w.params).In h₀) (N : News h₀ L0 s.heap news)
    (Tp : Top hd.view_39 (looseW hd.view_39 [Str.ofString "RowsError"]) mean mg mb h₀) (hk : cs.kind = .function) (hd : dp + 50 < recursionLimit) (hu : un + 400 < cLine)
    (ret : ∀ Y₂ h' tk', GrowT Y Y₂ → Fr h₀ L0 h' m → News h₀ L0 h' (ex ++ Y₂) → Q (.bool true) { s with heap := h', toks := tk' }) :
    wpAny (model PySem.Challenge.rw_pq0689_01.row.prog w) (ktrTop dp un gd cn cs L0 fa ccd cl outer) (call (.ref 252) [told, .str wd tw, .ref al, tv]) Q E s := by
  have sub := subT_of hc.all
  refine Con.use (ex := ex) (Y := Y) (fun _ => C told tv tw al avs an ah t _ ht (hc.all _ hal) (hah.mono sub) hah1 hahk (htold.mono sub) (htv.mono sub)) ?_ hc (fun _ h => nomatch h) (fun _ h => nomatch h) B F X N Tp hk hd hu ?_
  · rintro M' X Z r _ h
    exact h
  · rintro r M' Y₂ h' tk' g F' N' ⟨rfl, rfl⟩
    exact ret Y₂ h' tk' g F' (by simpa using N')
end
theorem setT_in {X : List (Addr × Obj)} {a b : Addr} {n k : Nat} {t1 t2 : Tok} {v0 v1 : Value} {p t : T} (h1 : (a, tupObj [.str (Str.ofString "expr") t1, .str (Str.ofString ".=") t2, .ref b] n) ∈ X) (h2 : (b, tupObj [v0, v1] k) ∈ X) (q0 : TIn X v0 p.dat) (q1 : TIn X v1 t.dat) : TIn X (.ref a) (tE ".=" [p, t]).dat :=
  .tuple h1 (.cons (.str _ _) (.cons (.str _ _) (.cons (.tuple h2 (.cons q0 (.cons q1 .nil))) .nil)))
theorem deal_b (x : Int) : 0 ≤ x.fmod 65413 ∧ x.fmod 65413 < 65413 := by
  rw [Int.fmod_eq_emod_of_nonneg _ (by decide)]
  omega
theorem joinP {M : Model} {A : Around} {h₀ : Heap} {L : Addr} {s : Shared} {E : Value → Shared → Prop} {Y : List (Addr × Obj)} {t : Sem Flow} {m : Str → Option Value} {Q : Flow → Shared → Prop} (F : Fr h₀ L s.heap m) (Post : (Str → Option Value) → (Str → Option Value) → List (Addr × Obj) → List (Addr × Obj) → Prop) (h1 : wpAny M A t (JFlow h₀ L Y (Post m) s) E s)
    (h2 : ∀ m' M' Y₂ h' tk', GrowT Y Y₂ → Fr h₀ L h' m' → News h₀ L h' (M' ++ Y₂) → Post m m' M' Y₂ → Q .next { s with heap := h', toks := tk' }) : wpAny M A t Q E s := joinF F (Post m) h1 h2
end
section
-- Law
theorem reset_Law : True := by
  w_top off
  k_with_none
  k_with "kt_len" => first | assumption | exact ltm (by assumption) (by lsm_bools) | exact lt3 (by assumption) (by assumption) (by lsm_bools) | exact ltk (by assumption) | exact lk0 (by assumption) (by rfl) | exact lk1 (by assumption) (by rfl) | exact ltn (by assumption) (by lsm_bools) | exact lka (by rfl) | exact lkb (by rfl) | exact And.left (by assumption) | exact pj1 (by assumption) | exact pj2 (by assumption) | fail "no"
  k_with "ktr_room" => first | exact szg (by rfl) | exact rm2 (by assumption) (by rfl) | exact rs2 (by assumption) (by rfl) | exact rm0 (by assumption) | exact rm1 (by assumption) (by rfl) | exact rs1 (by assumption) (by rfl) | exact rm3 (by assumption) (by rfl) | exact rm4 (by assumption) (by rfl) | exact rm5 (by assumption) (by rfl) | exact rmn (by assumption) (by assumption) (by rfl) | exact rmt (by assumption) (by rfl) | fail "no"
  k_with "ktr_units" => k_extra "ktr_room"
  k_with "omega" => first | with_reducible assumption | (show (_ : Nat) ≠ _; first | assumption | exact Ne.symm (by assumption) | exact ofI (by assumption) (by lsm_bools) | exact ofC (by assumption) (by lsm_bools) | exact ofD (by assumption) (by lsm_bools) | exact fI (by assumption) (by lsm_bools) | exact fC (by assumption) (by lsm_bools) | exact fD (by assumption) (by lsm_bools) | exact Nat.ne_of_lt (by kt_len) | exact Nat.ne_of_gt (by kt_len)) | (show (_ : Nat) < _ ∨ _; first | exact Or.inl (by kt_len) | exact Or.inr (by kt_len)) | fail "no"
  k_with "lsm_bools" => first | exact List.Mem.head _ | assumption | (refine' List.Mem.tail _ ?_; lsm_bools) | (refine' GrowT.mem ?gZ918 ?hZ918; (case gZ918 => assumption); (case hZ918 => lsm_bools)) | fail "no entry"
  k_with "k_mem" => first | lsm_bools | fail "no entry"
  k_with "tb_start" => first
  | exact List.forall_mem_nil _
  | (refine' List.forall_mem_cons.mpr ⟨?aZ920, ?bZ920⟩; (case aZ920 => lsm_bools); (case bZ920 => tb_start))
  | (intro p hp; repeat (first | exact hp | refine List.mem_cons_of_mem _ ?_ | refine List.Mem.tail _ ?_ | refine GrowT.mem' (by assumption) ?_ | refine GrowT.mem (by assumption) ?_ | fail "no entry"))
  | fail "not within"
  k_with "k_all" => first
  | assumption
  | (refine' GrowT.off ?gZ921 ?oZ921 ?NZ921 ?sZ921 ?mZ921 ?cZ921; (case gZ921 => assumption); (case NZ921 => k_asm); (case sZ921 => tb_start); (case mZ921 => lsm_bools); (case cZ921 => rfl); (case oZ921 => k_all))
  | (refine' offLt ?hZ921 ?sZ921; (case hZ921 => assumption); (case sZ921 => tb_start))
  | (refine' offLt3 ?qZ921 ?hZ921 ?sZ921; (case qZ921 => assumption); (case hZ921 => assumption); (case sZ921 => tb_start))
  | fail "not apart"
  k_with "kqd_sub" => first
  | (refine' Cut.own ?mZ922 ?rZ922; (case mZ922 => lsm_bools); (case rZ922 => kqd_sub))
  | (refine' Cut.oth ?oZ922 ?rZ922; (case oZ922 => k_all); (case rZ922 => kqd_sub))
  | exact Cut.tail
  | fail "no cut"
  k_with "ktr_rel" => first
  | exact subT_nil
  | exact subT_of (fun _ hp => hp)
  | assumption
  | (refine' subT_skip ?aZ923 ?bZ923; (case aZ923 => rfl); (case bZ923 => ktr_rel))
  | (refine' subT_cons ?aZ923 ?bZ923; (case aZ923 => lsm_bools); (case bZ923 => ktr_rel))
  | (refine' subT_of ?hZ923; (case hZ923 => tb_start))
  | (refine' subT_app (by ktr_rel) (by ktr_rel))
  | fail "tuples not within"
  k_with "k_room" => ktr_room
  k_with "k_units" => ktr_units
  k_with "tb_rel" => first
  | exact TAll.nil
  | exact TIn.str _ _
  | exact TIn.int _ _
  | exact TIn.bytes _ _
  | assumption
  | (refine' TIn.mono ?sZ926 ?hZ926; (case hZ926 => assumption); (case sZ926 => ktr_rel))
  | (refine' TAll.mono ?sZ926 ?hZ926; (case hZ926 => assumption); (case sZ926 => ktr_rel))
  | (refine' TIn.tuple ?mZ926 ?rZ926; (case mZ926 => lsm_bools); (case rZ926 => tb_rel))
  | (refine' TAll.cons (by tb_rel) (by tb_rel))
  | fail "no tree"
  k_with "call ref" => (k_here; (with_reducible show wpAny _ _ (call (Value.ref 214) [Value.str _ _] _) _ _ _); k_dflt (refine' sym_use ?CZ927 ?hcZ927 ?BZ927 ?FZ927 ?XZ927 ?NZ927 ?TZ927 ?hkZ927 ?hdZ927 ?huZ927 ?_; (case CZ927 => exact sym_con _); (case NZ927 => k_asm); (case hcZ927 => kqd_sub); (case BZ927 => k_asm); (case FZ927 => k_asm); (case XZ927 => k_asm); (case TZ927 => k_asm); (case hkZ927 => first | rfl | assumption); (case hdZ927 => ktr_room); (case huZ927 => ktr_units); k_whole; intro a' Y' h' tk' g' F' N' hr'; (try simp only [List.cons_append, List.nil_append] at N'); (try k_fold)))
  k_with "call ref" => (k_here; (with_reducible show wpAny _ _ (call (Value.ref 207) [Value.str _ _, Value.ref _] _) _ _ _); k_dflt (refine' tree_use ?CZ928 ?hcZ928 ?hmZ928 ?hlZ928 ?hTZ928 ?BZ928 ?FZ928 ?XZ928 ?NZ928 ?TZ928 ?hkZ928 ?hdZ928 ?huZ928 ?_; (case CZ928 => exact tree_con _); (case NZ928 => k_asm); (case hcZ928 => kqd_sub); (case hmZ928 => lsm_bools); (case hlZ928 => exact Nat.le_of_ble_eq_true rfl); (case hTZ928 => tb_rel); (case BZ928 => k_asm); (case FZ928 => k_asm); (case XZ928 => k_asm); (case TZ928 => k_asm); (case hkZ928 => first | rfl | assumption); (case hdZ928 => ktr_room); (case huZ928 => ktr_units); k_whole; intro a' Y' h' tk' g' F' N' hr'; (try simp only [List.cons_append, List.nil_append] at N'); (try k_fold)))
  k_with "call ref" => (k_here; (with_reducible show wpAny _ _ (call (Value.ref 68) [_, Value.str _ _] _) _ _ _); k_dflt (refine' isEx_use ?CZ929 ?hvZ929 ?eZ929 ?BZ929 ?FZ929 ?XZ929 ?NZ929 ?TZ929 ?hkZ929 ?hsZ929 ?hdZ929 ?huZ929 ?_; (case CZ929 => exact isEx_con _); (case hvZ929 => assumption); (case eZ929 => first | assumption | rfl); (case hsZ929 => tb_start); (case BZ929 => k_asm); (case FZ929 => k_asm); (case XZ929 => k_asm); (case NZ929 => k_asm); (case TZ929 => k_asm); (case hkZ929 => first | rfl | assumption); (case hdZ929 => ktr_room); (case huZ929 => ktr_units); k_whole; intro h' tk' F' N'; (try k_fold)))
  k_with "call ref" => (k_here; (with_reducible show wpAny _ _ (call (Value.ref 82) [Value.ref _] _) _ _ _); k_dflt (refine' isSym_use ?hmZ930 ?eZ930 ?BZ930 ?FZ930 ?XZ930 ?NZ930 ?TZ930 ?hkZ930 ?hdZ930 ?huZ930 ?_; (case NZ930 => k_asm); (case hmZ930 => lsm_bools); (case eZ930 => first | rfl | decide); (case BZ930 => k_asm); (case FZ930 => k_asm); (case XZ930 => k_asm); (case TZ930 => k_asm); (case hkZ930 => first | rfl | assumption); (case hdZ930 => ktr_room); (case huZ930 => ktr_units); k_whole; intro h' tk' F' N'; (try k_fold)))
  k_with "call ref" => (k_here; (with_reducible show wpAny _ _ (call (Value.ref 75) [Value.ref _] _) _ _ _); k_dflt (first
  | (refine' parts_use ?hmZ931 ?BZ931 ?FZ931 ?XZ931 ?NZ931 ?TZ931 ?hkZ931 ?hdZ931 ?huZ931 ?_; (case NZ931 => k_asm); (case hmZ931 => lsm_bools); (case BZ931 => k_asm); (case FZ931 => k_asm); (case XZ931 => k_asm); (case TZ931 => k_asm); (case hkZ931 => first | rfl | assumption); (case hdZ931 => ktr_room); (case huZ931 => ktr_units); k_whole; intro h' tk' F' N'; (try k_fold))
  | (refine' parts0_use ?hcZ931 ?hmZ931 ?hzZ931 ?BZ931 ?FZ931 ?XZ931 ?NZ931 ?TZ931 ?hkZ931 ?hdZ931 ?huZ931 ?_; (case NZ931 => k_asm); (case hmZ931 => lsm_bools); (case hzZ931 => decide); (case hcZ931 => kqd_sub); (case BZ931 => k_asm); (case FZ931 => k_asm); (case XZ931 => k_asm); (case TZ931 => k_asm); (case hkZ931 => first | rfl | assumption); (case hdZ931 => ktr_room); (case huZ931 => ktr_units); k_whole; intro d' j' Y' h' tk' g' F' N' hm'; (try simp only [List.cons_append, List.nil_append] at N'); (try k_fold))))
  k_with "compareOp In str ref" => (k_here; k_dflt (refine' in_tupL ?htZ932 ?hiZ932 ?_; (case htZ932 => (refine' tupK ?XZ932 ?lZ932; (case XZ932 => k_in); (case lZ932 => k_is))); (case hiZ932 => exact rfl)))
  k_with "compareOp Eq ref ref" => (k_here; k_dflt (first
  | (refine' eq_dat (r := false) ?HZ933 ?d1Z933 ?d2Z933 ?hcZ933 ?hdZ933 ?huZ933 ?_; (case HZ933 => exact heldOf (by k_asm)); (case d1Z933 => tb_rel); (case d2Z933 => tb_rel); (case hcZ933 => with_unfolding_all rfl); (case hdZ933 => exact Nat.le_of_ble_eq_true rfl); (case huZ933 => ktr_units))
  | (refine' eq_dat (r := true) ?HZ933 ?d1Z933 ?d2Z933 ?hcZ933 ?hdZ933 ?huZ933 ?_; (case HZ933 => exact heldOf (by k_asm)); (case d1Z933 => tb_rel); (case d2Z933 => tb_rel); (case hcZ933 => with_unfolding_all rfl); (case hdZ933 => exact Nat.le_of_ble_eq_true rfl); (case huZ933 => ktr_units))))
  k_with "compareOp NotEq ref ref" => (k_here; k_dflt (first
  | (refine' ne_dat (r := false) ?HZ934 ?d1Z934 ?d2Z934 ?hcZ934 ?hdZ934 ?huZ934 ?_; (case HZ934 => exact heldOf (by k_asm)); (case d1Z934 => tb_rel); (case d2Z934 => tb_rel); (case hcZ934 => with_unfolding_all rfl); (case hdZ934 => exact Nat.le_of_ble_eq_true rfl); (case huZ934 => ktr_units))
  | (refine' ne_dat (r := true) ?HZ934 ?d1Z934 ?d2Z934 ?hcZ934 ?hdZ934 ?huZ934 ?_; (case HZ934 => exact heldOf (by k_asm)); (case d1Z934 => tb_rel); (case d2Z934 => tb_rel); (case hcZ934 => with_unfolding_all rfl); (case hdZ934 => exact Nat.le_of_ble_eq_true rfl); (case huZ934 => ktr_units))))
  k_with "subscriptTail Name Constant ref int" => (k_here; k_dflt (refine' item_tupleT ?tZ935 ?aZ935 ?bZ935 ?cZ935 ?dZ935 ?_; (case tZ935 => exact News.isTup (by k_asm) (by k_mem)); (case aZ935 => decide); (case bZ935 => decide); (case cZ935 => rfl); (case dZ935 => rfl); k_whole))
  k_with "ite" => (k_closed; k_dflt (first | (refine' ite_pos ?cZ936 ?_; (case cZ936 => decide)) | (refine' ite_neg ?cZ936 ?_; (case cZ936 => decide))))
  k_with "call ref" => (k_here; (with_reducible show wpAny _ _ (call (Value.ref 54) [Value.str _ _, Value.ref _] _) _ _ _); k_dflt (refine' expr_use ?hcZ937 ?hmZ937 ?hlZ937 ?BZ937 ?FZ937 ?XZ937 ?NZ937 ?TZ937 ?hkZ937 ?hdZ937 ?huZ937 ?_; (case NZ937 => k_asm); (case hmZ937 => lsm_bools); (case hcZ937 => kqd_sub); (case hlZ937 => first | exact Nat.le_of_ble_eq_true rfl | (simp only [List.length_append, List.length_cons, List.length_nil]; omega)); (case BZ937 => k_asm); (case FZ937 => k_asm); (case XZ937 => k_asm); (case TZ937 => k_asm); (case hkZ937 => first | rfl | assumption); (case hdZ937 => ktr_room); (case huZ937 => ktr_units); k_whole; intro a' t1' k' Y' h' tk' g' F' N' hm'; (try simp only [List.cons_append, List.nil_append] at N'); (try k_fold)))
  k_with "call ref" => (k_here; (with_reducible show wpAny _ _ (call (Value.ref 61) [Value.str _ _] _) _ _ _); k_dflt (refine' sym_use ?CZ938 ?hcZ938 ?BZ938 ?FZ938 ?XZ938 ?NZ938 ?TZ938 ?hkZ938 ?hdZ938 ?huZ938 ?_; (case CZ938 => exact symF_con _); (case NZ938 => k_asm); (case hcZ938 => kqd_sub); (case BZ938 => k_asm); (case FZ938 => k_asm); (case XZ938 => k_asm); (case TZ938 => k_asm); (case hkZ938 => first | rfl | assumption); (case hdZ938 => ktr_room); (case huZ938 => ktr_units); k_whole; intro a' Y' h' tk' g' F' N' hr'; (try simp only [List.cons_append, List.nil_append] at N'); (try k_fold)))
  k_with "call type:range cons nil" => (k_here; k_dflt (refine' range1_rows ?FZ939 ?NZ939 ?_; (case FZ939 => k_asm); (case NZ939 => k_asm); k_whole; intro h' tk' t1' u1' v1' hR' F' N' hst'; (try k_fold)))
  k_with "pyIter ref" => (k_here; (with_reducible show wpAny _ _ (pyIter (Value.ref _)) (fun it s₂ => LoopAtV _ _ _ _ _ _ _ _ _ it s₂) _ _); refine' Hold.of ?_)
  k_with "binaryOp Add ref ref" => (k_here; k_dflt (refine' add_cat ?FZ941 ?NZ941 ?aZ941 ?bZ941 ?zZ941 ?_; (case FZ941 => k_asm); (case NZ941 => k_asm); (case aZ941 => lsm_bools); (case bZ941 => lsm_bools); (case zZ941 => (simp only [sizeLine_eq, List.length_cons, List.length_nil]; omega)); k_whole; intro D' h' F' N' l1; (try k_lt l1); (try k_sweep)))
  k_with "eval ListComp" => (k_here; refine' Hold.of ?_)
  k_with "compareOp NotEq ref ref" => (k_here; k_dflt (refine' ne_dat (r := false) ?HZ943 ?d1Z943 ?d2Z943 ?hcZ943 ?hdZ943 ?huZ943 ?_; (case HZ943 => exact heldOf (by k_asm)); (case d1Z943 => tb_rel); (case d2Z943 => tb_rel); (case hcZ943 => exact cmp_head (by assumption) _); (case hdZ943 => exact Nat.le_of_ble_eq_true rfl); (case huZ943 => ktr_units)))
  k_with "call ref" => (k_here; (with_reducible show wpAny _ _ (call (Value.ref 233) [_] _) _ _ _); k_dflt (refine' plain_use ?CZ944 ?hoZ944 ?hvZ944 ?BZ944 ?FZ944 ?XZ944 ?NZ944 ?TZ944 ?hkZ944 ?hcZ944 ?hdZ944 ?huZ944 ?_; (case CZ944 => assumption); (case hoZ944 => assumption); (case hvZ944 => assumption); (case BZ944 => k_asm); (case FZ944 => k_asm); (case XZ944 => k_asm); (case NZ944 => k_asm); (case TZ944 => k_asm); (case hkZ944 => first | rfl | assumption); (case hcZ944 => kqd_sub); (case hdZ944 => ktr_room); (case huZ944 => ktr_units); k_whole; intro r' Y' h' tk' g' F' N' hr'; (try simp only [List.cons_append, List.nil_append] at N'); (try k_fold)))
  k_with "call ref" => (k_here; (with_reducible show wpAny _ _ (call (Value.ref 240) [_] _) _ _ _); k_dflt (refine' things_use ?CZ945 ?hoZ945 ?hvZ945 ?BZ945 ?FZ945 ?XZ945 ?NZ945 ?TZ945 ?hkZ945 ?hcZ945 ?hdZ945 ?huZ945 ?_; (case CZ945 => assumption); (case hoZ945 => assumption); (case hvZ945 => assumption); (case BZ945 => k_asm); (case FZ945 => k_asm); (case XZ945 => k_asm); (case NZ945 => k_asm); (case TZ945 => k_asm); (case hkZ945 => first | rfl | assumption); (case hcZ945 => kqd_sub); (case hdZ945 => ktr_room); (case huZ945 => ktr_units); k_whole; intro a' vs' k' Y' h' tk' g' F' N' hr' hrl'; (try simp only [List.cons_append, List.nil_append] at N'); (try k_fold)))
  k_with "exec For Name Subscript" => (k_here; (rename Fr _ _ _ _ => lF'); (with_unfolding_all refine' For_invVF lF' ?k1Z946 ?k2Z946 ?_; (case k1Z946 => exact rfl); (case k2Z946 => exact rfl); k_whole))
  k_with "compareOp Eq ref ref" => (k_here; k_dflt (refine' eq_dat (r := false) ?HZ947 ?d1Z947 ?d2Z947 ?hcZ947 ?hdZ947 ?huZ947 ?_; (case HZ947 => exact heldOf (by k_asm)); (case d1Z947 => tb_rel); (case d2Z947 => tb_rel); (case hcZ947 => exact cmp_head (by assumption) _); (case hdZ947 => exact Nat.le_of_ble_eq_true rfl); (case huZ947 => ktr_units)))
  k_with "compareOp Eq str str" => (k_here; k_dflt (refine' eq_str_no ?hZ948 ?_; (case hZ948 => assumption); k_whole))
  k_with "ktr_enter" => (refine' code_defC ?k1Z949 ?k2Z949 ?k3Z949 ?k4Z949 ?k5Z949 ?kAZ949 ?kFZ949 ?kKZ949 ?k6Z949 ?k7Z949 ?k8Z949 ?k9Z949 ?kBZ949 ?kDZ949 ?_ ?c2Z949 ?c3Z949 ?c4Z949; (case kAZ949 => exact rfl); (case kFZ949 => exact rfl); (case kKZ949 => assumption); (case k1Z949 => k_asm); (case k2Z949 => k_asm); (case k3Z949 => k_asm); (case k4Z949 => k_asm); (case k5Z949 => k_asm); (case k6Z949 => k_is); (case k7Z949 => k_is); (case k8Z949 => ktr_room); (case k9Z949 => exact BindsTo.of_eq rfl); (case kBZ949 => exact rfl); (case kDZ949 => decide +kernel); (case c2Z949 => exact rfl); (case c3Z949 => exact rfl); (case c4Z949 => exact rfl); k_whole; intro g' L' h' tk' cells' FG' F' N' Y' B' X' T' l1; (try k_lt l1); k_cells Y'; (try simp only [List.cons_append, List.nil_append] at N'); (try dsimp only); (try k_fold))
  k_with "call ref" => (k_here; (with_reducible show wpAny _ _ (call (Value.ref 200) [Value.ref _, Value.int _ _] _) _ _ _); k_dflt (refine' card_use ?BZ950 ?FZ950 ?XZ950 ?NZ950 ?TZ950 ?hkZ950 ?UZ950 ?hlZ950 ?hmZ950 ?hm' ?hdZ950 ?huZ950 ?_; (case BZ950 => k_asm); (case FZ950 => k_asm); (case XZ950 => k_asm); (case NZ950 => k_asm); (case TZ950 => k_asm); (case hkZ950 => first | rfl | assumption); (case UZ950 => k_updF); (case hlZ950 => exact ⟨by assumption, by assumption, by assumption⟩); (case hmZ950 => decide); (case hm' => decide); (case hdZ950 => ktr_room); (case huZ950 => ktr_units); k_whole; intro a' b' c' ta' tb' tc' n' h' tk' F' N' hb' hc1 hc2; have hb1 := hb'.1; have hb2 := hb'.2.1; have hb3 := hb'.2.2; (try dsimp only at N'); (try k_fold)))
  k_with "call ref" => (k_here; (with_reducible show wpAny _ _ (call (Value.ref 221) [Value.ref _] _) _ _ _); k_dflt (refine' lawLeaf_useT ?BZ951 ?FZ951 ?XZ951 ?NZ951 ?TZ951 ?hkZ951 ?hmZ951 ?hcZ951 ?hyZ951 ?hlZ951 ?hdZ951 ?huZ951 ?_; (case BZ951 => k_asm); (case FZ951 => k_asm); (case XZ951 => k_asm); (case NZ951 => k_asm); (case TZ951 => k_asm); (case hkZ951 => first | rfl | assumption); (case hmZ951 => tb_start); (case hcZ951 => kqd_sub); (case hyZ951 => k_all); (case hlZ951 => exact ⟨by assumption, by assumption, by assumption⟩); (case hdZ951 => ktr_room); (case huZ951 => ktr_units); k_whole; intro r' a' b' ta' tb' n' k' Y' h' tk' g' F' N' hb' hk7 hr'; have hb1 := hb'.1; have hb2 := hb'.2.1; have hb3 := hb'.2.2; (try simp only [List.cons_append, List.nil_append] at N'); (try k_fold)))
  k_with "call ref" => (k_here; (with_reducible show wpAny _ _ (call (Value.ref 228) [Value.ref _, Value.int _ _] _) _ _ _); k_dflt (refine' dots_use ?CZ952 ?BZ952 ?FZ952 ?XZ952 ?NZ952 ?TZ952 ?hkZ952 ?hmZ952 ?hcZ952 ?hyZ952 ?hlZ952 ?hdZ952 ?huZ952 ?_; (case CZ952 => assumption); (case BZ952 => k_asm); (case FZ952 => k_asm); (case XZ952 => k_asm); (case NZ952 => k_asm); (case TZ952 => k_asm); (case hkZ952 => first | rfl | assumption); (case hmZ952 => tb_start); (case hcZ952 => kqd_sub); (case hyZ952 => k_all); (case hlZ952 => exact ⟨by assumption, by assumption, by assumption⟩); (case hdZ952 => ktr_room); (case huZ952 => ktr_units); k_whole; intro r' a' b' ta' tb' n' k' Y' h' tk' g' F' N' hb' hk7 hr'; have hb1 := hb'.1; have hb2 := hb'.2.1; have hb3 := hb'.2.2; (try simp only [List.cons_append, List.nil_append] at N'); (try k_fold)))
  k_with "call ref" => (k_here; (with_reducible show wpAny _ _ (call (Value.ref 193) _) _ _ _); refine' Hold.of ?_)
  k_with "call ref" => (k_here; (with_reducible show wpAny _ _ (call (Value.ref 158) [_, Value.ref _] _) _ _ _); k_dflt (first
  | (refine' fusedD_use ?CZ954 ?hoZ954 ?hvZ954 ?hsZ954 ?hmZ954 ?hcZ954 ?y1Z954 ?BZ954 ?FZ954 ?XZ954 ?NZ954 ?TZ954 ?hkZ954 ?hdZ954 ?huZ954 ?_; (case CZ954 => assumption); (case NZ954 => k_asm); (case hvZ954 => assumption); (case hoZ954 => assumption); (case hsZ954 => lsm_bools); (case hmZ954 => tb_start); (case hcZ954 => kqd_sub); (case y1Z954 => k_all); (case BZ954 => k_asm); (case FZ954 => k_asm); (case XZ954 => k_asm); (case TZ954 => k_asm); (case hkZ954 => first | rfl | assumption); (case hdZ954 => ktr_room); (case huZ954 => ktr_units); k_whole; intro r' Y' h' tk' g' F' N' hr'; (try simp only [List.cons_append, List.nil_append] at N'); (try k_fold))
  | (refine' fusedS_use ?CZ954 ?hoZ954 ?hsZ954 ?hmZ954 ?hcZ954 ?hvZ954 ?y1Z954 ?BZ954 ?FZ954 ?XZ954 ?NZ954 ?TZ954 ?hkZ954 ?hdZ954 ?huZ954 ?_; (case CZ954 => assumption); (case NZ954 => k_asm); (case hsZ954 => lsm_bools); (case hmZ954 => tb_start); (case hcZ954 => kqd_sub); (case hvZ954 => (refine' TIn.mono ?sZ954 ?hZ954; (case hZ954 => assumption); (case sZ954 => exact subT_of (by tb_start)))); (case hoZ954 => assumption); (case y1Z954 => k_all); (case BZ954 => k_asm); (case FZ954 => k_asm); (case XZ954 => k_asm); (case TZ954 => k_asm); (case hkZ954 => first | rfl | assumption); (case hdZ954 => ktr_room); (case huZ954 => ktr_units); k_whole; intro r' Y' h' tk' g' F' N' hr'; (try simp only [List.cons_append, List.nil_append] at N'); (try k_fold))
  | refine' Hold.of ?_))
  k_with "call ref" => (k_here; (with_reducible show wpAny _ _ (call (Value.ref 252) [_, Value.str _ _, Value.ref _, _] _) _ _ _); first | k_dflt (refine' right_use (ah := []) ?CZ955 ?htZ955 ?hcZ955 ?toldZ955 ?alZ955 ?hahZ955 ?h1Z955 ?hk9Z955 ?tvZ955 ?BZ955 ?FZ955 ?XZ955 ?NZ955 ?TZ955 ?hkZ955 ?hdZ955 ?huZ955 ?_; (case CZ955 => assumption); (case NZ955 => k_asm); (case hcZ955 => kqd_sub); (case toldZ955 => (refine' ToldIn.mono ?sZ955 ?hZ955; (case hZ955 => assumption); (case sZ955 => exact subT_of (by tb_start)))); (case alZ955 => lsm_bools); (case hahZ955 => exact TAll.nil); (case h1Z955 => exact Nat.zero_le _); (case hk9Z955 => exact fun _ h => nomatch h); (case tvZ955 => (refine' TIn.mono ?sZ955 ?hZ955; (case hZ955 => assumption); (case sZ955 => exact subT_of (by tb_start)))); (case htZ955 => first | assumption | exact .inr (by assumption)); (case BZ955 => k_asm); (case FZ955 => k_asm); (case XZ955 => k_asm); (case TZ955 => k_asm); (case hkZ955 => first | rfl | assumption); (case hdZ955 => ktr_room); (case huZ955 => ktr_units); k_whole; intro Y' h' tk' g' F' N'; (try simp only [List.cons_append, List.nil_append] at N'); (try k_fold)) | k_dflt (refine' Hold.of ?_))
  k_with "call ref" => (k_here; (with_reducible show wpAny _ _ (call (Value.ref 259) [_] _) _ _ _); refine' Hold.of ?_)
  k_with "eval IfExp Compare Name Call" => (k_here; refine' Hold.of ?_)
  k_with "exec If Compare" => (k_here; refine' Hold.of ?_)
  k_with "kqd_sub" => first
  | (refine' Cut.oth (List.forall_mem_nil _) ?rZ959; (case rZ959 => kqd_sub))
  | (refine' Cut.own ?mZ959 ?rZ959; (case mZ959 => lsm_bools); (case rZ959 => kqd_sub))
  | (refine' Cut.oth ?oZ959 ?rZ959; (case oZ959 => k_all); (case rZ959 => kqd_sub))
  | exact Cut.tail
  | fail "no cut"
  k_with "k_qdec" => decide +kernel
  trivial
set_option maxHeartbeats 8000000 in
theorem law_holds : PySem.Challenge.rw_pq0689_01.Holds := by
  w_on
  refine holds_law said_ok fun said => ?_
  refine holds_open (q := hd.view_39) (loose := [Str.ofString "RowsError"]) (Xt := fun s => xlAt hd.view_39 [] s && recOk (RowW.records PySem.Challenge.rw_pq0689_01.row.toRowW) s) (XP := XL hd.view_39 [])
    (Yf := Hook.obs (kHook hd.heap_39 as39 as39_is)) (Ya := Hook.val (kHook hd.heap_39 as39 as39_is)) (YP := Hook.says (kHook hd.heap_39 as39 as39_is)) (N := 3664) left_ok (Hook.of (kHook hd.heap_39 as39 as39_is)) (Hook.keeps (kHook hd.heap_39 as39 as39_is))
    (fun s e => xl_of s (Bool.and_eq_true_iff.mp e).1) XL.keeps (by rfl) (by rfl) (by rfl) (fun s e => recFacts_of (Bool.and_eq_true_iff.mp e).2) (by rfl) (by first | assumption | decide +kernel) (by decide +kernel) ⟨rfl, rfl, rfl, rfl, rfl, by decide +kernel⟩ ?witn9 ?walk9
  case witn9 => w_witness2
  w_strict (
    k_go0
    all_goals try k_fold
    rename World => w
    have d0 : DotsC w 0 0 := dots0 w
    have d1 : DotsC w 1 1 := dotsS w 1 0 (by decide) d0
    have DC : DotsC w 2 2 := dotsS w 2 1 (by decide) d1
    clear d0 d1
    have LC : FuseC w 108 12 100 LeafK thingsT leafB := leaf_fuse (leaf_con w)
    have BC : BodyC w 3 := body_con w LC (callee_con w LC) 3 (Nat.le_refl 3)
    have FO : FoC w := fo_con w
    have DF : DotFC w := fun t tv ht Y htv sz sd hs t4 tk ho => fused_dot w 3 (Nat.le_refl 3) BC FO t tv ht Y htv sz sd hs t4 tk ho
    have S1 : SetFC w (tS "y") (tS "y") := fun t tv hto Y htv sz sd hs t4 tk ho => fused_set w 3 (Nat.le_refl 3) BC FO _ _ t (goal_y w) tv hto Y htv sz sd hs t4 tk ho
    have S2 : SetFC w (tE "ref" [tS "y", tS ":", tE "call" [tS "k", .int 3]]) (tE "call" [tS "view", tS "y", tS ":", tE "call" [tS "k", .int 3]]) := fun t tv hto Y htv sz sd hs t4 tk ho => fused_set w 3 (Nat.le_refl 3) BC FO _ _ t (goal_ref w (mend_colon w) (mend_call w)) tv hto Y htv sz sd hs t4 tk ho
    have R1 : RightC w (kS "broadcast") 84 := fun told tv tw al avs an ah t Y ht hal hah h1 hk htold htv => right_con w told tv (kS "broadcast") tw al 84 _ _ _ _ _ _ avs an ah t 3 Y (by k_is) (by k_is) (Nat.le_refl 3) ht hal hah h1 hk htold htv (fun x => put_con w _ _ _ (Nat.lt_succ_self _)) (plain_con w _ _ (Nat.lt_succ_self _)) (things_con w 3 (Nat.le_refl 3))
    have R2 : RightC w (kS "broadcast!") 86 := fun told tv tw al avs an ah t Y ht hal hah h1 hk htold htv => right_con w told tv (kS "broadcast!") tw al 86 _ _ _ _ _ _ avs an ah t 3 Y (by k_is) (by k_is) (Nat.le_refl 3) ht hal hah h1 hk htold htv (fun x => put_con w _ _ _ (Nat.lt_succ_self _)) (plain_con w _ _ (Nat.lt_succ_self _)) (things_con w 3 (Nat.le_refl 3))
    have E1 : RefC w (tE "dotcall" [tS "f", tE "parameters" [tS "k"], tS "a"]) := refused_keyed w
    have E2 : ∀ t, TreeOk 3 t → RefC w (tE "dotcall" [tS "f", t, tE "..." [tS "a"]]) := fun t h => refused_splat w 3 (Nat.le_refl 3) BC t h
    have E3 : ∀ t, TreeOk 3 t → RefC w (tE ".=" [tE "ref" [tS "y", tS "end"], t]) := fun t h => refused_last w 3 (Nat.le_refl 3) BC (mend_end w) t h
    k_steps)
  unfold Hold
  rename Fr _ _ _ _ => F1
  refine' joinV (Y := []) F1 (fun v M' Y₂ => ∃ l a b ta tb n, v = .ref l ∧ M' = [(l, listOf #[.int a ta, .int b tb] n)] ∧ 0 ≤ a ∧ 0 ≤ b ∧ b < 65413) ?way ?next
  case way =>
    w_strict (
      refine wpAny_call ?_
      k_enter
      k_steps)
    all_goals refine' joinV_end [(_, listOf #[.int _ _, .int _ _] _)] rfl (by k_asm) (by k_asm) (by tb_start) (by tb_start) (fun Y₁ hs => ⟨_, _, _, _, _, _, rfl, rfl, by omega, by first | omega | exact (deal_b _).1, by first | omega | exact (deal_b _).2⟩)
  case next =>
    intro v M' Y₂ h' tk' g' F' N' hp
    obtain ⟨l, a, b, ta, tb, n, rfl, rfl, hb1, hb2, hb3⟩ := hp
    simp only [List.cons_append, List.nil_append] at N'
    have f1 : ∀ p ∈ Y₂, p.1 ≠ l := GrowT.off g' (List.forall_mem_nil _) N' (fun p hp => .tail _ hp) (.head _) rfl
    w_strict (
      k_steps)
    unfold Hold

    rename Fr _ _ _ _ => F1
    rename DotT _ _ => hDT
    have hE2 := E2 _ (.inr hDT)
    have fYc : ∀ p ∈ Y', p.1 ≠ l := by k_all
    refine' joinV (Y := Y') F1 (fun v M' Y₂ => ∃ a b ta tb n t2, M' = [(l, listOf #[.int a ta, .int b tb] n)] ∧ (0 ≤ a ∧ 0 ≤ b ∧ b < 65413) ∧ TreeOk 3 t2 ∧ TIn Y₂ v t2.dat) ?way ?next
    case way =>
      refine wpAny_IfExp ?_
      w_strict (
        k_steps)
      · refine' joinV_end [(l, listOf #[.int _ _, .int _ _] _)] rfl (by k_asm) (by k_asm) (by tb_start) (by tb_start) (fun Y₁ hs => ⟨_, _, _, _, _, _, rfl, ⟨by assumption, by assumption, by assumption⟩, .inr (by assumption), TIn.mono hs ?_⟩)
        refine' TIn.mono ?s ?h
        case h => assumption
        case s => exact subT_of (by tb_start)
      · refine' joinV_end [(l, listOf #[.int _ _, .int _ _] _)] rfl (by k_asm) (by k_asm) (by tb_start) (by tb_start) (fun Y₁ hs => ⟨_, _, _, _, _, _, rfl, ⟨by assumption, by assumption, by assumption⟩, .inl (by assumption), TIn.mono hs ?_⟩)
        refine' TIn.mono ?s ?h
        case h => assumption
        case s => exact subT_of (by tb_start)
    case next =>
      intro v M' Y₃ h' tk' g' F' N' hp
      obtain ⟨a, b, ta, tb, n, t2, rfl, ⟨hb1, hb2, hb3⟩, hto2, htv2⟩ := hp
      simp only [List.cons_append, List.nil_append] at N'
      have f1 : ∀ p ∈ Y₃, p.1 ≠ l := GrowT.off g' fYc N' (fun p hp => .tail _ hp) (.head _) rfl
      w_strict (
        k_steps)
      unfold Hold
      rename Fr _ _ _ _ => F1
      refine' joinP (Y := Y₃) F1 (fun m m' M' Y₂ => ∃ a b ta tb n pl gl pt gt, M' = [(l, listOf #[.int a ta, .int b tb] n)] ∧ (0 ≤ a ∧ 0 ≤ b ∧ b < 65413) ∧ TIn Y₂ pl pt.dat ∧ TIn Y₂ gl gt.dat ∧ SetFC w pt gt ∧ kqdOk 8 gt.dat = true ∧
        m' (Str.ofString "place") = some pl ∧ m' (Str.ofString "goal") = some gl ∧ m' (Str.ofString "lot") = m (Str.ofString "lot") ∧ m' (Str.ofString "tree") = m (Str.ofString "tree") ∧ m' (Str.ofString "value") = m (Str.ofString "value")) ?way ?next
      case way =>
        refine wpAny_If ?_
        w_strict (
          k_steps)
        · refine' joinF_end [(l, listOf #[.int _ _, .int _ _] _)] rfl (by k_asm) (by k_asm) (by tb_start) (by tb_start) (fun Y₁ hs => ⟨_, _, _, _, _, _, _, _, _, rfl, ⟨by assumption, by assumption, by assumption⟩, TIn.mono hs ?plc, TIn.mono hs ?gol, S2, by decide +kernel, by rfl, by rfl, by rfl, by rfl, by rfl⟩)
          case plc =>
            show TIn _ _ (.tuple [sS "expr", sS "ref", .tuple [symD (Str.ofString "y"), symD (Str.ofString ":"), .tuple [sS "expr", sS "call", .tuple [symD (Str.ofString "k"), .tuple [sS "int", .int 3]]]]])
            tb_rel
          case gol =>
            show TIn _ _ (.tuple [sS "expr", sS "call", .tuple [symD (Str.ofString "view"), symD (Str.ofString "y"), symD (Str.ofString ":"), .tuple [sS "expr", sS "call", .tuple [symD (Str.ofString "k"), .tuple [sS "int", .int 3]]]]])
            tb_rel
        · refine' joinF_end [(l, listOf #[.int _ _, .int _ _] _)] rfl (by k_asm) (by k_asm) (by tb_start) (by tb_start) (fun Y₁ hs => ⟨_, _, _, _, _, _, _, _, _, rfl, ⟨by assumption, by assumption, by assumption⟩, TIn.mono hs ?plc, TIn.mono hs ?gol, S1, by decide +kernel, by rfl, by rfl, by rfl, by rfl, by rfl⟩)
          case plc =>
            show TIn _ _ (symD (Str.ofString "y"))
            tb_rel
          case gol =>
            show TIn _ _ (symD (Str.ofString "y"))
            tb_rel
      case next =>
        intro m' M' Y₄ h' tk' g' F' N' hp
        obtain ⟨a, b, ta, tb, n, pl, gl, pt, gt, rfl, ⟨hb1, hb2, hb3⟩, hpl, hgl, SF, hgk, e1, e2, e3, e4, e5⟩ := hp
        have e3' : m' (Str.ofString "lot") = some (.ref l) := e3
        have e4' : m' (Str.ofString "tree") = some _ := e4
        have e5' : m' (Str.ofString "value") = some _ := e5
        replace F' := fr_con e5' F'
        replace F' := fr_con (x := Str.ofString "tree") (o := some _) (by exact e4') F'
        replace F' := fr_con (x := Str.ofString "lot") (o := some _) (by exact e3') F'
        replace F' := fr_con (x := Str.ofString "goal") (o := some _) (by exact e2) F'
        replace F' := fr_con (x := Str.ofString "place") (o := some _) (by exact e1) F'
        clear e1 e2 e3 e4 e5 e3' e4' e5'
        simp only [List.cons_append, List.nil_append] at N'
        w_strict (
          k_steps)
        unfold Hold
        refine' right_use (avs := [gl]) (ah := [gt]) R2 hto2 ?hc ?told ?al ?hah (Nat.le_refl 1) (fun t ht => by rw [List.mem_singleton.mp ht]; exact hgk) ?tv ?B ?F ?X ?N ?T ?hk ?hd ?hu ?_
        case N => k_asm
        case hc => kqd_sub
        case told =>
          refine' ToldIn.mono ?s9 ?h9
          case h9 => assumption
          case s9 => exact subT_of (by tb_start)
        case al => lsm_bools
        case hah =>
          refine .cons ?_ .nil
          refine' TIn.mono ?s8 ?h8
          case h8 => exact hgl
          case s8 => exact subT_of (by tb_start)
        case tv =>
          refine' TIn.mono ?s7 ?h7
          case h7 => exact htv2
          case s7 => exact subT_of (by tb_start)
        case B => k_asm
        case F => k_asm
        case X => k_asm
        case T => k_asm
        case hk => rfl
        case hd => ktr_room
        case hu => ktr_units
        intro Y₅ h' tk' g' F' N'
        simp only [List.cons_append, List.nil_append] at N'
        have hE3 := E3 _ hto2
        w_strict (
          k_steps)
        unfold Hold
        refine' E1 _ _ ?hvr1 _ _ _ _ _ _ _ _ _ _ _ _ _ _ _ _ _ ?Br1 ?Fr1 ?Xr1 ?Nr1 ?Tr1 ?hkr1 ?hdr1 ?hur1 ?retr1
        case Fr1 => k_asm
        case Nr1 => k_asm
        case Br1 => k_asm
        case Xr1 => k_asm
        case Tr1 => k_asm
        case hkr1 => rfl
        case hdr1 => ktr_room
        case hur1 => ktr_units
        case hvr1 =>
          refine' TIn.mono ?sr1 ?hr1
          case hr1 => assumption
          case sr1 => exact subT_of (by tb_start)
        intro h' tk' F' N'
        w_strict (
          k_steps)
        unfold Hold
        refine' hE2 _ _ ?hvr2 _ _ _ _ _ _ _ _ _ _ _ _ _ _ _ _ _ ?Br2 ?Fr2 ?Xr2 ?Nr2 ?Tr2 ?hkr2 ?hdr2 ?hur2 ?retr2
        case Fr2 => k_asm
        case Nr2 => k_asm
        case Br2 => k_asm
        case Xr2 => k_asm
        case Tr2 => k_asm
        case hkr2 => rfl
        case hdr2 => ktr_room
        case hur2 => ktr_units
        case hvr2 =>
          refine' TIn.mono ?sr2 ?hr2
          case hr2 => assumption
          case sr2 => exact subT_of (by tb_start)
        intro h' tk' F' N'
        w_strict (
          k_steps)
        unfold Hold
        refine' hE3 _ _ ?hvr3 _ _ _ _ _ _ _ _ _ _ _ _ _ _ _ _ _ ?Br3 ?Fr3 ?Xr3 ?Nr3 ?Tr3 ?hkr3 ?hdr3 ?hur3 ?retr3
        case Fr3 => k_asm
        case Nr3 => k_asm
        case Br3 => k_asm
        case Xr3 => k_asm
        case Tr3 => k_asm
        case hkr3 => rfl
        case hdr3 => ktr_room
        case hur3 => ktr_units
        case hvr3 =>
          refine' TIn.mono ?sr3 ?hr3
          case hr3 => assumption
          case sr3 => exact subT_of (by tb_start)
        intro h' tk' F' N'
        w_strict (
          k_steps)
end

end Mine
theorem PySem.Challenge.cw_pq0689_01_holds : PySem.Challenge.rw_pq0689_01.Holds := by
  exact Mine.law_holds
