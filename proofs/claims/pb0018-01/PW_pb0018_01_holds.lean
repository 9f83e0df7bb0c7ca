import PyProof.Rows.All
import Wide.All
import OpenK.AllK
import Wide.FinOn
import KE.BitLaws
import Lean
import PySem.Challenge.RW_pb0018_01
set_option Elab.async false
set_option maxRecDepth 100000
set_option maxHeartbeats 8000000
set_option compiler.extract_closed false
namespace Mine
open PySem PySem.W PyProof.Rows
noncomputable def stAt (i : Nat) : Stmt := match (PySem.Challenge.pw_pb0018_01.main.body)[i]? with | some s => s | none => .Pass ⟨0, 0, 0, 0⟩
noncomputable def stIn (i j : Nat) : Stmt := match stAt i with | .ClassDef _ _ _ b _ _ _ _ _ _ _ => (match b[j]? with | some s => s | none => .Pass ⟨0, 0, 0, 0⟩) | s => s
noncomputable def fArgs : Stmt → Arguments | .FunctionDef _ a _ _ _ _ _ _ _ _ => a | _ => ⟨[], [], none, [], [], none, []⟩
noncomputable def fBody : Stmt → List Stmt | .FunctionDef _ _ b _ _ _ _ _ _ _ => b | _ => []
noncomputable def fScope : Stmt → Scope | .FunctionDef _ _ _ _ _ _ c _ _ _ => c | _ => ⟨.function, [], false, false, []⟩
noncomputable def K : Params → Frag := (fun (a1m0 : Arguments) (_ : fArgs (stIn 1 0) = a1m0) (b1m0 : List Stmt) (_ : fBody (stIn 1 0) = b1m0) (c1m0 : Scope) (_ : fScope (stIn 1 0) = c1m0)
  (a2m0 : Arguments) (_ : fArgs (stIn 2 0) = a2m0) (b2m0 : List Stmt) (_ : fBody (stIn 2 0) = b2m0) (c2m0 : Scope) (_ : fScope (stIn 2 0) = c2m0)
  (a4 : Arguments) (_ : fArgs (stAt 4) = a4) (b4 : List Stmt) (_ : fBody (stAt 4) = b4) (c4 : Scope) (_ : fScope (stAt 4) = c4)
  (a5 : Arguments) (_ : fArgs (stAt 5) = a5) (b5 : List Stmt) (_ : fBody (stAt 5) = b5) (c5 : Scope) (_ : fScope (stAt 5) = c5)
  (a6 : Arguments) (_ : fArgs (stAt 6) = a6) (b6 : List Stmt) (_ : fBody (stAt 6) = b6) (c6 : Scope) (_ : fScope (stAt 6) = c6)
  (a7 : Arguments) (_ : fArgs (stAt 7) = a7) (b7 : List Stmt) (_ : fBody (stAt 7) = b7) (c7 : Scope) (_ : fScope (stAt 7) = c7)
  (a10 : Arguments) (_ : fArgs (stAt 10) = a10) (b10 : List Stmt) (_ : fBody (stAt 10) = b10) (c10 : Scope) (_ : fScope (stAt 10) = c10)
  (a11 : Arguments) (_ : fArgs (stAt 11) = a11) (b11 : List Stmt) (_ : fBody (stAt 11) = b11) (c11 : Scope) (_ : fScope (stAt 11) = c11)
  (a12 : Arguments) (_ : fArgs (stAt 12) = a12) (b12 : List Stmt) (_ : fBody (stAt 12) = b12) (c12 : Scope) (_ : fScope (stAt 12) = c12)
  (a13 : Arguments) (_ : fArgs (stAt 13) = a13) (b13 : List Stmt) (_ : fBody (stAt 13) = b13) (c13 : Scope) (_ : fScope (stAt 13) = c13)
  (a14 : Arguments) (_ : fArgs (stAt 14) = a14) (b14 : List Stmt) (_ : fBody (stAt 14) = b14) (c14 : Scope) (_ : fScope (stAt 14) = c14)
  (a15 : Arguments) (_ : fArgs (stAt 15) = a15) (b15 : List Stmt) (_ : fBody (stAt 15) = b15) (c15 : Scope) (_ : fScope (stAt 15) = c15)
  (a16 : Arguments) (_ : fArgs (stAt 16) = a16) (b16 : List Stmt) (_ : fBody (stAt 16) = b16) (c16 : Scope) (_ : fScope (stAt 16) = c16)
  (a17 : Arguments) (_ : fArgs (stAt 17) = a17) (b17 : List Stmt) (_ : fBody (stAt 17) = b17) (c17 : Scope) (_ : fScope (stAt 17) = c17)
  (a18 : Arguments) (_ : fArgs (stAt 18) = a18) (b18 : List Stmt) (_ : fBody (stAt 18) = b18) (c18 : Scope) (_ : fScope (stAt 18) = c18)
  (a19 : Arguments) (_ : fArgs (stAt 19) = a19) (b19 : List Stmt) (_ : fBody (stAt 19) = b19) (c19 : Scope) (_ : fScope (stAt 19) = c19)
  (a20 : Arguments) (_ : fArgs (stAt 20) = a20) (b20 : List Stmt) (_ : fBody (stAt 20) = b20) (c20 : Scope) (_ : fScope (stAt 20) = c20)
  (a21 : Arguments) (_ : fArgs (stAt 21) = a21) (b21 : List Stmt) (_ : fBody (stAt 21) = b21) (c21 : Scope) (_ : fScope (stAt 21) = c21)
  (a22 : Arguments) (_ : fArgs (stAt 22) = a22) (b22 : List Stmt) (_ : fBody (stAt 22) = b22) (c22 : Scope) (_ : fScope (stAt 22) = c22)
  (a23 : Arguments) (_ : fArgs (stAt 23) = a23) (b23 : List Stmt) (_ : fBody (stAt 23) = b23) (c23 : Scope) (_ : fScope (stAt 23) = c23)
  (a24 : Arguments) (_ : fArgs (stAt 24) = a24) (b24 : List Stmt) (_ : fBody (stAt 24) = b24) (c24 : Scope) (_ : fScope (stAt 24) = c24)
  (a25 : Arguments) (_ : fArgs (stAt 25) = a25) (b25 : List Stmt) (_ : fBody (stAt 25) = b25) (c25 : Scope) (_ : fScope (stAt 25) = c25)
  (a26 : Arguments) (_ : fArgs (stAt 26) = a26) (b26 : List Stmt) (_ : fBody (stAt 26) = b26) (c26 : Scope) (_ : fScope (stAt 26) = c26)
  (a27 : Arguments) (_ : fArgs (stAt 27) = a27) (b27 : List Stmt) (_ : fBody (stAt 27) = b27) (c27 : Scope) (_ : fScope (stAt 27) = c27)
  (a28 : Arguments) (_ : fArgs (stAt 28) = a28) (b28 : List Stmt) (_ : fBody (stAt 28) = b28) (c28 : Scope) (_ : fScope (stAt 28) = c28)
  (a29 : Arguments) (_ : fArgs (stAt 29) = a29) (b29 : List Stmt) (_ : fBody (stAt 29) = b29) (c29 : Scope) (_ : fScope (stAt 29) = c29)
  (a30 : Arguments) (_ : fArgs (stAt 30) = a30) (b30 : List Stmt) (_ : fBody (stAt 30) = b30) (c30 : Scope) (_ : fScope (stAt 30) = c30)
  (a31 : Arguments) (_ : fArgs (stAt 31) = a31) (b31 : List Stmt) (_ : fBody (stAt 31) = b31) (c31 : Scope) (_ : fScope (stAt 31) = c31)
  (a32 : Arguments) (_ : fArgs (stAt 32) = a32) (b32 : List Stmt) (_ : fBody (stAt 32) = b32) (c32 : Scope) (_ : fScope (stAt 32) = c32)
  (a33 : Arguments) (_ : fArgs (stAt 33) = a33) (b33 : List Stmt) (_ : fBody (stAt 33) = b33) (c33 : Scope) (_ : fScope (stAt 33) = c33)
  (a34 : Arguments) (_ : fArgs (stAt 34) = a34) (b34 : List Stmt) (_ : fBody (stAt 34) = b34) (c34 : Scope) (_ : fScope (stAt 34) = c34)
  (a35 : Arguments) (_ : fArgs (stAt 35) = a35) (b35 : List Stmt) (_ : fBody (stAt 35) = b35) (c35 : Scope) (_ : fScope (stAt 35) = c35)
  (a36 : Arguments) (_ : fArgs (stAt 36) = a36) (b36 : List Stmt) (_ : fBody (stAt 36) = b36) (c36 : Scope) (_ : fScope (stAt 36) = c36)
  (a37 : Arguments) (_ : fArgs (stAt 37) = a37) (b37 : List Stmt) (_ : fBody (stAt 37) = b37) (c37 : Scope) (_ : fScope (stAt 37) = c37)
  (a38 : Arguments) (_ : fArgs (stAt 38) = a38) (b38 : List Stmt) (_ : fBody (stAt 38) = b38) (c38 : Scope) (_ : fScope (stAt 38) = c38)
  (a39 : Arguments) (_ : fArgs (stAt 39) = a39) (b39 : List Stmt) (_ : fBody (stAt 39) = b39) (c39 : Scope) (_ : fScope (stAt 39) = c39)
  (a41m0 : Arguments) (_ : fArgs (stIn 41 0) = a41m0) (b41m0 : List Stmt) (_ : fBody (stIn 41 0) = b41m0) (c41m0 : Scope) (_ : fScope (stIn 41 0) = c41m0)
  (a42 : Arguments) (_ : fArgs (stAt 42) = a42) (b42 : List Stmt) (_ : fBody (stAt 42) = b42) (c42 : Scope) (_ : fScope (stAt 42) = c42)
  (a43 : Arguments) (_ : fArgs (stAt 43) = a43) (b43 : List Stmt) (_ : fBody (stAt 43) = b43) (c43 : Scope) (_ : fScope (stAt 43) = c43)
  (a44 : Arguments) (_ : fArgs (stAt 44) = a44) (b44 : List Stmt) (_ : fBody (stAt 44) = b44) (c44 : Scope) (_ : fScope (stAt 44) = c44)
  (a45 : Arguments) (_ : fArgs (stAt 45) = a45) (b45 : List Stmt) (_ : fBody (stAt 45) = b45) (c45 : Scope) (_ : fScope (stAt 45) = c45)
  (a49 : Arguments) (_ : fArgs (stAt 49) = a49) (b49 : List Stmt) (_ : fBody (stAt 49) = b49) (c49 : Scope) (_ : fScope (stAt 49) = c49)
  (a50 : Arguments) (_ : fArgs (stAt 50) = a50) (b50 : List Stmt) (_ : fBody (stAt 50) = b50) (c50 : Scope) (_ : fScope (stAt 50) = c50)
  (a51 : Arguments) (_ : fArgs (stAt 51) = a51) (b51 : List Stmt) (_ : fBody (stAt 51) = b51) (c51 : Scope) (_ : fScope (stAt 51) = c51)
  (a52 : Arguments) (_ : fArgs (stAt 52) = a52) (b52 : List Stmt) (_ : fBody (stAt 52) = b52) (c52 : Scope) (_ : fScope (stAt 52) = c52)
  (a53 : Arguments) (_ : fArgs (stAt 53) = a53) (b53 : List Stmt) (_ : fBody (stAt 53) = b53) (c53 : Scope) (_ : fScope (stAt 53) = c53)
  (a54 : Arguments) (_ : fArgs (stAt 54) = a54) (b54 : List Stmt) (_ : fBody (stAt 54) = b54) (c54 : Scope) (_ : fScope (stAt 54) = c54)
  (a55 : Arguments) (_ : fArgs (stAt 55) = a55) (b55 : List Stmt) (_ : fBody (stAt 55) = b55) (c55 : Scope) (_ : fScope (stAt 55) = c55)
  (a56 : Arguments) (_ : fArgs (stAt 56) = a56) (b56 : List Stmt) (_ : fBody (stAt 56) = b56) (c56 : Scope) (_ : fScope (stAt 56) = c56)
  (a57 : Arguments) (_ : fArgs (stAt 57) = a57) (b57 : List Stmt) (_ : fBody (stAt 57) = b57) (c57 : Scope) (_ : fScope (stAt 57) = c57)
  (a58 : Arguments) (_ : fArgs (stAt 58) = a58) (b58 : List Stmt) (_ : fBody (stAt 58) = b58) (c58 : Scope) (_ : fScope (stAt 58) = c58)
  (a59 : Arguments) (_ : fArgs (stAt 59) = a59) (b59 : List Stmt) (_ : fBody (stAt 59) = b59) (c59 : Scope) (_ : fScope (stAt 59) = c59)
  (a60 : Arguments) (_ : fArgs (stAt 60) = a60) (b60 : List Stmt) (_ : fBody (stAt 60) = b60) (c60 : Scope) (_ : fScope (stAt 60) = c60)
  (P : Params) => (
  (nat_lit 2, ⟨.none, none, (.dict #[⟨(PyData.keyHash P (.ofString "type.__subclasses__.Exception.0")), (.str (.ofString "type.__subclasses__.Exception.0") 214), (.int 31 0)⟩, ⟨(PyData.keyHash P (.ofString "type.__subclasses__.Exception.n")), (.str (.ofString "type.__subclasses__.Exception.n") 215), (.int 1 0)⟩] 2), #[]⟩) ::
  (nat_lit 3, ⟨(.type "dict"), none, (.dict #[⟨(PyData.keyHash P (.ofString "__name__")), (.str (.ofString "__name__") 165), (.str (.ofString "law_pb0018_01") 618)⟩, ⟨(PyData.keyHash P (.ofString "__doc__")), (.str (.ofString "__doc__") 166), .none⟩, ⟨(PyData.keyHash P (.ofString "__package__")), (.str (.ofString "__package__") 167), .none⟩, ⟨(PyData.keyHash P (.ofString "__loader__")), (.str (.ofString "__loader__") 168), (.builtin "__main__.__loader__#opaque")⟩, ⟨(PyData.keyHash P (.ofString "__spec__")), (.str (.ofString "__spec__") 169), .none⟩, ⟨(PyData.keyHash P (.ofString "__annotations__")), (.str (.ofString "__annotations__") 170), (.ref 6)⟩, ⟨(PyData.keyHash P (.ofString "__builtins__")), (.str (.ofString "__builtins__") 171), (.ref 4)⟩, ⟨(PyData.keyHash P (.ofString "__file__")), (.str (.ofString "__file__") 173), (.str (.ofString "/claim/cut.py") 172)⟩, ⟨(PyData.keyHash P (.ofString "__cached__")), (.str (.ofString "__cached__") 174), .none⟩, ⟨(PyData.keyHash P (.ofString "AdaError")), (.str (.ofString "AdaError") 217), (.ref 31)⟩, ⟨(PyData.keyHash P (.ofString "AdaRaise")), (.str (.ofString "AdaRaise") 246), (.ref 51)⟩, ⟨(PyData.keyHash P (.ofString "refuse")), (.str (.ofString "refuse") 255), (.ref 60)⟩, ⟨(PyData.keyHash P (.ofString "in_bounds")), (.str (.ofString "in_bounds") 264), (.ref 67)⟩, ⟨(PyData.keyHash P (.ofString "check_base")), (.str (.ofString "check_base") 272), (.ref 74)⟩, ⟨(PyData.keyHash P (.ofString "cut_toward_zero")), (.str (.ofString "cut_toward_zero") 281), (.ref 81)⟩, ⟨(PyData.keyHash P (.ofString "MOST_BITS")), (.str (.ofString "MOST_BITS") 285), (.int 4096 284)⟩, ⟨(PyData.keyHash P (.ofString "whole_add")), (.str (.ofString "whole_add") 294), (.ref 88)⟩, ⟨(PyData.keyHash P (.ofString "whole_sub")), (.str (.ofString "whole_sub") 303), (.ref 95)⟩, ⟨(PyData.keyHash P (.ofString "whole_mul")), (.str (.ofString "whole_mul") 312), (.ref 102)⟩, ⟨(PyData.keyHash P (.ofString "need_divisor")), (.str (.ofString "need_divisor") 319), (.ref 109)⟩, ⟨(PyData.keyHash P (.ofString "whole_div")), (.str (.ofString "whole_div") 328), (.ref 116)⟩, ⟨(PyData.keyHash P (.ofString "whole_rem")), (.str (.ofString "whole_rem") 337), (.ref 123)⟩, ⟨(PyData.keyHash P (.ofString "whole_modulo")), (.str (.ofString "whole_modulo") 346), (.ref 130)⟩, ⟨(PyData.keyHash P (.ofString "size_of")), (.str (.ofString "size_of") 354), (.ref 137)⟩, ⟨(PyData.keyHash P (.ofString "is_great_power")), (.str (.ofString "is_great_power") 362), (.ref 144)⟩, ⟨(PyData.keyHash P (.ofString "whole_power")), (.str (.ofString "whole_power") 372), (.ref 151)⟩, ⟨(PyData.keyHash P (.ofString "whole_neg")), (.str (.ofString "whole_neg") 380), (.ref 158)⟩, ⟨(PyData.keyHash P (.ofString "whole_abs")), (.str (.ofString "whole_abs") 388), (.ref 165)⟩, ⟨(PyData.keyHash P (.ofString "same_number")), (.str (.ofString "same_number") 396), (.ref 172)⟩, ⟨(PyData.keyHash P (.ofString "modular_add")), (.str (.ofString "modular_add") 405), (.ref 179)⟩, ⟨(PyData.keyHash P (.ofString "modular_sub")), (.str (.ofString "modular_sub") 414), (.ref 186)⟩, ⟨(PyData.keyHash P (.ofString "modular_mul")), (.str (.ofString "modular_mul") 423), (.ref 193)⟩, ⟨(PyData.keyHash P (.ofString "modular_power")), (.str (.ofString "modular_power") 433), (.ref 200)⟩, ⟨(PyData.keyHash P (.ofString "modular_neg")), (.str (.ofString "modular_neg") 441), (.ref 207)⟩, ⟨(PyData.keyHash P (.ofString "logic_and")), (.str (.ofString "logic_and") 450), (.ref 214)⟩, ⟨(PyData.keyHash P (.ofString "logic_or")), (.str (.ofString "logic_or") 459), (.ref 221)⟩, ⟨(PyData.keyHash P (.ofString "logic_xor")), (.str (.ofString "logic_xor") 468), (.ref 228)⟩, ⟨(PyData.keyHash P (.ofString "come_round")), (.str (.ofString "come_round") 476), (.ref 235)⟩, ⟨(PyData.keyHash P (.ofString "logic_not")), (.str (.ofString "logic_not") 484), (.ref 242)⟩, ⟨(PyData.keyHash P (.ofString "holds_between")), (.str (.ofString "holds_between") 493), (.ref 249)⟩, ⟨(PyData.keyHash P (.ofString "whole_operators")), (.str (.ofString "whole_operators") 499), (.ref 256)⟩, ⟨(PyData.keyHash P (.ofString "modular_operators")), (.str (.ofString "modular_operators") 505), (.ref 263)⟩, ⟨(PyData.keyHash P (.ofString "fixed_operators")), (.str (.ofString "fixed_operators") 511), (.ref 270)⟩, ⟨(PyData.keyHash P (.ofString "logic_operators")), (.str (.ofString "logic_operators") 517), (.ref 277)⟩, ⟨(PyData.keyHash P (.ofString "operators_of")), (.str (.ofString "operators_of") 524), (.ref 284)⟩, ⟨(PyData.keyHash P (.ofString "unary_operators")), (.str (.ofString "unary_operators") 531), (.ref 291)⟩, ⟨(PyData.keyHash P (.ofString "Type")), (.str (.ofString "Type") 583), (.ref 308)⟩, ⟨(PyData.keyHash P (.ofString "int_type")), (.str (.ofString "int_type") 593), (.ref 319)⟩, ⟨(PyData.keyHash P (.ofString "enum_type")), (.str (.ofString "enum_type") 602), (.ref 326)⟩, ⟨(PyData.keyHash P (.ofString "mod_type")), (.str (.ofString "mod_type") 611), (.ref 333)⟩, ⟨(PyData.keyHash P (.ofString "boolean_type")), (.str (.ofString "boolean_type") 617), (.ref 340)⟩, ⟨(PyData.keyHash P (.ofString "_law_two")), (.str (.ofString "_law_two") 646), (.ref 341)⟩, ⟨(PyData.keyHash P (.ofString "_law_one")), (.str (.ofString "_law_one") 661), (.ref 345)⟩, ⟨(PyData.keyHash P (.ofString "_law_type")), (.str (.ofString "_law_type") 671), (.ref 355)⟩, ⟨(PyData.keyHash P (.ofString "_law_value")), (.str (.ofString "_law_value") 681), (.ref 362)⟩, ⟨(PyData.keyHash P (.ofString "_law_quotient")), (.str (.ofString "_law_quotient") 690), (.ref 369)⟩, ⟨(PyData.keyHash P (.ofString "_law_power")), (.str (.ofString "_law_power") 698), (.ref 376)⟩, ⟨(PyData.keyHash P (.ofString "_law_ring")), (.str (.ofString "_law_ring") 710), (.ref 383)⟩, ⟨(PyData.keyHash P (.ofString "_law_bits")), (.str (.ofString "_law_bits") 722), (.ref 390)⟩, ⟨(PyData.keyHash P (.ofString "_law_within")), (.str (.ofString "_law_within") 730), (.ref 397)⟩, ⟨(PyData.keyHash P (.ofString "_law_due")), (.str (.ofString "_law_due") 741), (.ref 404)⟩, ⟨(PyData.keyHash P (.ofString "_law_lone")), (.str (.ofString "_law_lone") 750), (.ref 411)⟩, ⟨(PyData.keyHash P (.ofString "_law_of_two")), (.str (.ofString "_law_of_two") 760), (.ref 418)⟩, ⟨(PyData.keyHash P (.ofString "_law_of_one")), (.str (.ofString "_law_of_one") 769), (.ref 425)⟩, ⟨(PyData.keyHash P (.ofString "law")), (.str (.ofString "law") 775), (.ref 430)⟩] 65), #[]⟩) ::
  (nat_lit 15, ⟨(.type "tuple"), none, (.seq #[(.type "Exception")] 0), #[]⟩) ::
  (nat_lit 22, ⟨(.type "tuple"), none, (.seq #[] 0), #[]⟩) ::
  (nat_lit 24, ⟨(.type "tuple"), none, (.seq #[(.str (.ofString "self") 204), (.str (.ofString "text") 205)] 0), #[]⟩) ::
  (nat_lit 25, ⟨(.type "tuple"), none, (.seq #[] 0), #[]⟩) ::
  (nat_lit 27, ⟨(.type "code"), none, (.fields #[(.str (.ofString "__init__") 201), (.str (.ofString "AdaError.__init__") 202), (.str (.ofString "/claim/cut.py") 203), (.int 4 0), (.int 2 0), (.int 0 0), (.int 0 0), (.int 3 0), (.ref 22), (.bool true), (.int 181 0), (.ref 23), .none, (.ref 24), (.ref 25), (.ref 26), (.int 206 0), (.int 4 0), (.str (.ofString "/claim/cut.py") 207)]), #[]⟩) ::
  (nat_lit 28, ⟨(.type "function"), none, (.func ⟨(.ofString "__init__"), (.ofString "AdaError.__init__"), a1m0, (.stmts b1m0), c1m0, 3, [], .none, .none, .none, (.str (.ofString "adacore.errors") 187), none, (.ref 27), .none, 0⟩), #[]⟩) ::
  (nat_lit 29, ⟨(.type "tuple"), none, (.seq #[(.str (.ofString "text") 209)] 0), #[]⟩) ::
  (nat_lit 30, ⟨(.type "dict"), none, (.dict #[⟨(PyData.keyHash P (.ofString "__module__")), (.str (.ofString "__module__") 196), (.str (.ofString "adacore.errors") 187)⟩, ⟨(PyData.keyHash P (.ofString "__firstlineno__")), (.str (.ofString "__firstlineno__") 200), (.int 2 199)⟩, ⟨(PyData.keyHash P (.ofString "__init__")), (.str (.ofString "__init__") 208), (.ref 28)⟩, ⟨(PyData.keyHash P (.ofString "__static_attributes__")), (.str (.ofString "__static_attributes__") 210), (.ref 29)⟩, ⟨(PyData.keyHash P (.ofString "__weakref__")), (.str (.ofString "__weakref__") 212), (.ref 32)⟩, ⟨(PyData.keyHash P (.ofString "__doc__")), (.str (.ofString "__doc__") 213), .none⟩] 3), #[]⟩) ::
  (nat_lit 31, ⟨(.type "type"), none, (.cls ⟨(.ofString "AdaError"), [(.type "Exception")], [(.ref 31), (.type "Exception"), (.type "BaseException"), (.type "object")], 30, (.ofString "AdaError"), true, [], [(.ref 51)], false, none, false⟩), #[(some (.ref 15)), none, (some (.str (.ofString "AdaError") 189)), (some (.str (.ofString "AdaError") 197)), (some (.builtin "Exception.__new__")), (some (.bool true))]⟩) ::
  (nat_lit 32, ⟨(.type "getset_descriptor"), none, (.fields #[(.str (.ofString "__weakref__") 211), (.ref 31), (.builtin "ExceptionGroup.__weakref__"), .none]), #[]⟩) ::
  (nat_lit 35, ⟨(.type "tuple"), none, (.seq #[(.ref 31)] 0), #[]⟩) ::
  (nat_lit 42, ⟨(.type "tuple"), none, (.seq #[] 0), #[]⟩) ::
  (nat_lit 44, ⟨(.type "tuple"), none, (.seq #[(.str (.ofString "self") 233), (.str (.ofString "name") 234), (.str (.ofString "line") 235), (.str (.ofString "text") 236)] 0), #[]⟩) ::
  (nat_lit 45, ⟨(.type "tuple"), none, (.seq #[] 0), #[]⟩) ::
  (nat_lit 47, ⟨(.type "code"), none, (.fields #[(.str (.ofString "__init__") 230), (.str (.ofString "AdaRaise.__init__") 231), (.str (.ofString "/claim/cut.py") 232), (.int 9 0), (.int 4 0), (.int 0 0), (.int 0 0), (.int 3 0), (.ref 42), (.bool true), (.int 181 0), (.ref 43), .none, (.ref 44), (.ref 45), (.ref 46), (.int 237 0), (.int 9 0), (.str (.ofString "/claim/cut.py") 238)]), #[]⟩) ::
  (nat_lit 48, ⟨(.type "function"), none, (.func ⟨(.ofString "__init__"), (.ofString "AdaRaise.__init__"), a2m0, (.stmts b2m0), c2m0, 3, [], .none, .none, .none, (.str (.ofString "adacore.errors") 187), none, (.ref 47), .none, 0⟩), #[]⟩) ::
  (nat_lit 49, ⟨(.type "tuple"), none, (.seq #[(.str (.ofString "line") 240), (.str (.ofString "name") 241), (.str (.ofString "word") 242)] 0), #[]⟩) ::
  (nat_lit 50, ⟨(.type "dict"), none, (.dict #[⟨(PyData.keyHash P (.ofString "__module__")), (.str (.ofString "__module__") 225), (.str (.ofString "adacore.errors") 187)⟩, ⟨(PyData.keyHash P (.ofString "__firstlineno__")), (.str (.ofString "__firstlineno__") 229), (.int 7 228)⟩, ⟨(PyData.keyHash P (.ofString "__init__")), (.str (.ofString "__init__") 239), (.ref 48)⟩, ⟨(PyData.keyHash P (.ofString "__static_attributes__")), (.str (.ofString "__static_attributes__") 243), (.ref 49)⟩, ⟨(PyData.keyHash P (.ofString "__doc__")), (.str (.ofString "__doc__") 244), .none⟩] 2), #[]⟩) ::
  (nat_lit 51, ⟨(.type "type"), none, (.cls ⟨(.ofString "AdaRaise"), [(.ref 31)], [(.ref 51), (.ref 31), (.type "Exception"), (.type "BaseException"), (.type "object")], 50, (.ofString "AdaRaise"), true, [], [], false, none, false⟩), #[(some (.ref 35)), none, (some (.str (.ofString "AdaRaise") 218)), (some (.str (.ofString "AdaRaise") 226)), (some (.builtin "Exception.__new__")), (some (.bool true))]⟩) ::
  (nat_lit 54, ⟨(.type "tuple"), none, (.seq #[] 0), #[]⟩) ::
  (nat_lit 56, ⟨(.type "tuple"), none, (.seq #[(.str (.ofString "text") 252)] 0), #[]⟩) ::
  (nat_lit 57, ⟨(.type "tuple"), none, (.seq #[] 0), #[]⟩) ::
  (nat_lit 59, ⟨(.type "code"), none, (.fields #[(.str (.ofString "refuse") 249), (.str (.ofString "refuse") 250), (.str (.ofString "/claim/cut.py") 251), (.int 15 0), (.int 1 0), (.int 0 0), (.int 0 0), (.int 3 0), (.ref 54), (.bool true), (.int 181 0), (.ref 55), .none, (.ref 56), (.ref 57), (.ref 58), (.int 253 0), (.int 15 0), (.str (.ofString "/claim/cut.py") 254)]), #[]⟩) ::
  (nat_lit 60, ⟨(.type "function"), none, (.func ⟨(.ofString "refuse"), (.ofString "refuse"), a4, (.stmts b4), c4, 3, [], .none, .none, .none, (.str (.ofString "adacore.scalars") 247), none, (.ref 59), .none, 0⟩), #[]⟩) ::
  (nat_lit 61, ⟨(.type "tuple"), none, (.seq #[] 0), #[]⟩) ::
  (nat_lit 63, ⟨(.type "tuple"), none, (.seq #[(.str (.ofString "value") 259), (.str (.ofString "low") 260), (.str (.ofString "high") 261)] 0), #[]⟩) ::
  (nat_lit 64, ⟨(.type "tuple"), none, (.seq #[] 0), #[]⟩) ::
  (nat_lit 66, ⟨(.type "code"), none, (.fields #[(.str (.ofString "in_bounds") 256), (.str (.ofString "in_bounds") 257), (.str (.ofString "/claim/cut.py") 258), (.int 17 0), (.int 3 0), (.int 0 0), (.int 0 0), (.int 3 0), (.ref 61), (.bool true), (.int 181 0), (.ref 62), .none, (.ref 63), (.ref 64), (.ref 65), (.int 262 0), (.int 17 0), (.str (.ofString "/claim/cut.py") 263)]), #[]⟩) ::
  (nat_lit 67, ⟨(.type "function"), none, (.func ⟨(.ofString "in_bounds"), (.ofString "in_bounds"), a5, (.stmts b5), c5, 3, [], .none, .none, .none, (.str (.ofString "adacore.scalars") 247), none, (.ref 66), .none, 0⟩), #[]⟩) ::
  (nat_lit 68, ⟨(.type "tuple"), none, (.seq #[] 0), #[]⟩) ::
  (nat_lit 70, ⟨(.type "tuple"), none, (.seq #[(.str (.ofString "t") 268), (.str (.ofString "value") 269)] 0), #[]⟩) ::
  (nat_lit 71, ⟨(.type "tuple"), none, (.seq #[] 0), #[]⟩) ::
  (nat_lit 73, ⟨(.type "code"), none, (.fields #[(.str (.ofString "check_base") 265), (.str (.ofString "check_base") 266), (.str (.ofString "/claim/cut.py") 267), (.int 19 0), (.int 2 0), (.int 0 0), (.int 0 0), (.int 3 0), (.ref 68), (.bool true), (.int 181 0), (.ref 69), .none, (.ref 70), (.ref 71), (.ref 72), (.int 270 0), (.int 19 0), (.str (.ofString "/claim/cut.py") 271)]), #[]⟩) ::
  (nat_lit 74, ⟨(.type "function"), none, (.func ⟨(.ofString "check_base"), (.ofString "check_base"), a6, (.stmts b6), c6, 3, [], .none, .none, .none, (.str (.ofString "adacore.scalars") 247), none, (.ref 73), .none, 0⟩), #[]⟩) ::
  (nat_lit 75, ⟨(.type "tuple"), none, (.seq #[] 0), #[]⟩) ::
  (nat_lit 77, ⟨(.type "tuple"), none, (.seq #[(.str (.ofString "num") 276), (.str (.ofString "den") 277), (.str (.ofString "q") 278)] 0), #[]⟩) ::
  (nat_lit 78, ⟨(.type "tuple"), none, (.seq #[] 0), #[]⟩) ::
  (nat_lit 80, ⟨(.type "code"), none, (.fields #[(.str (.ofString "cut_toward_zero") 273), (.str (.ofString "cut_toward_zero") 274), (.str (.ofString "/claim/cut.py") 275), (.int 23 0), (.int 2 0), (.int 0 0), (.int 0 0), (.int 3 0), (.ref 75), (.bool true), (.int 181 0), (.ref 76), .none, (.ref 77), (.ref 78), (.ref 79), (.int 279 0), (.int 23 0), (.str (.ofString "/claim/cut.py") 280)]), #[]⟩) ::
  (nat_lit 81, ⟨(.type "function"), none, (.func ⟨(.ofString "cut_toward_zero"), (.ofString "cut_toward_zero"), a7, (.stmts b7), c7, 3, [], .none, .none, .none, (.str (.ofString "adacore.scalars") 247), none, (.ref 80), .none, 0⟩), #[]⟩) ::
  (nat_lit 82, ⟨(.type "tuple"), none, (.seq #[] 0), #[]⟩) ::
  (nat_lit 84, ⟨(.type "tuple"), none, (.seq #[(.str (.ofString "t") 289), (.str (.ofString "x") 290), (.str (.ofString "y") 291)] 0), #[]⟩) ::
  (nat_lit 85, ⟨(.type "tuple"), none, (.seq #[] 0), #[]⟩) ::
  (nat_lit 87, ⟨(.type "code"), none, (.fields #[(.str (.ofString "whole_add") 286), (.str (.ofString "whole_add") 287), (.str (.ofString "/claim/cut.py") 288), (.int 30 0), (.int 3 0), (.int 0 0), (.int 0 0), (.int 3 0), (.ref 82), (.bool true), (.int 181 0), (.ref 83), .none, (.ref 84), (.ref 85), (.ref 86), (.int 292 0), (.int 30 0), (.str (.ofString "/claim/cut.py") 293)]), #[]⟩) ::
  (nat_lit 88, ⟨(.type "function"), none, (.func ⟨(.ofString "whole_add"), (.ofString "whole_add"), a10, (.stmts b10), c10, 3, [], .none, .none, .none, (.str (.ofString "adacore.arith") 282), none, (.ref 87), .none, 0⟩), #[]⟩) ::
  (nat_lit 89, ⟨(.type "tuple"), none, (.seq #[] 0), #[]⟩) ::
  (nat_lit 91, ⟨(.type "tuple"), none, (.seq #[(.str (.ofString "t") 298), (.str (.ofString "x") 299), (.str (.ofString "y") 300)] 0), #[]⟩) ::
  (nat_lit 92, ⟨(.type "tuple"), none, (.seq #[] 0), #[]⟩) ::
  (nat_lit 94, ⟨(.type "code"), none, (.fields #[(.str (.ofString "whole_sub") 295), (.str (.ofString "whole_sub") 296), (.str (.ofString "/claim/cut.py") 297), (.int 32 0), (.int 3 0), (.int 0 0), (.int 0 0), (.int 3 0), (.ref 89), (.bool true), (.int 181 0), (.ref 90), .none, (.ref 91), (.ref 92), (.ref 93), (.int 301 0), (.int 32 0), (.str (.ofString "/claim/cut.py") 302)]), #[]⟩) ::
  (nat_lit 95, ⟨(.type "function"), none, (.func ⟨(.ofString "whole_sub"), (.ofString "whole_sub"), a11, (.stmts b11), c11, 3, [], .none, .none, .none, (.str (.ofString "adacore.arith") 282), none, (.ref 94), .none, 0⟩), #[]⟩) ::
  (nat_lit 96, ⟨(.type "tuple"), none, (.seq #[] 0), #[]⟩) ::
  (nat_lit 98, ⟨(.type "tuple"), none, (.seq #[(.str (.ofString "t") 307), (.str (.ofString "x") 308), (.str (.ofString "y") 309)] 0), #[]⟩) ::
  (nat_lit 99, ⟨(.type "tuple"), none, (.seq #[] 0), #[]⟩) ::
  (nat_lit 101, ⟨(.type "code"), none, (.fields #[(.str (.ofString "whole_mul") 304), (.str (.ofString "whole_mul") 305), (.str (.ofString "/claim/cut.py") 306), (.int 34 0), (.int 3 0), (.int 0 0), (.int 0 0), (.int 3 0), (.ref 96), (.bool true), (.int 181 0), (.ref 97), .none, (.ref 98), (.ref 99), (.ref 100), (.int 310 0), (.int 34 0), (.str (.ofString "/claim/cut.py") 311)]), #[]⟩) ::
  (nat_lit 102, ⟨(.type "function"), none, (.func ⟨(.ofString "whole_mul"), (.ofString "whole_mul"), a12, (.stmts b12), c12, 3, [], .none, .none, .none, (.str (.ofString "adacore.arith") 282), none, (.ref 101), .none, 0⟩), #[]⟩) ::
  (nat_lit 103, ⟨(.type "tuple"), none, (.seq #[] 0), #[]⟩) ::
  (nat_lit 105, ⟨(.type "tuple"), none, (.seq #[(.str (.ofString "y") 316)] 0), #[]⟩) ::
  (nat_lit 106, ⟨(.type "tuple"), none, (.seq #[] 0), #[]⟩) ::
  (nat_lit 108, ⟨(.type "code"), none, (.fields #[(.str (.ofString "need_divisor") 313), (.str (.ofString "need_divisor") 314), (.str (.ofString "/claim/cut.py") 315), (.int 36 0), (.int 1 0), (.int 0 0), (.int 0 0), (.int 3 0), (.ref 103), (.bool true), (.int 181 0), (.ref 104), .none, (.ref 105), (.ref 106), (.ref 107), (.int 317 0), (.int 36 0), (.str (.ofString "/claim/cut.py") 318)]), #[]⟩) ::
  (nat_lit 109, ⟨(.type "function"), none, (.func ⟨(.ofString "need_divisor"), (.ofString "need_divisor"), a13, (.stmts b13), c13, 3, [], .none, .none, .none, (.str (.ofString "adacore.arith") 282), none, (.ref 108), .none, 0⟩), #[]⟩) ::
  (nat_lit 110, ⟨(.type "tuple"), none, (.seq #[] 0), #[]⟩) ::
  (nat_lit 112, ⟨(.type "tuple"), none, (.seq #[(.str (.ofString "t") 323), (.str (.ofString "x") 324), (.str (.ofString "y") 325)] 0), #[]⟩) ::
  (nat_lit 113, ⟨(.type "tuple"), none, (.seq #[] 0), #[]⟩) ::
  (nat_lit 115, ⟨(.type "code"), none, (.fields #[(.str (.ofString "whole_div") 320), (.str (.ofString "whole_div") 321), (.str (.ofString "/claim/cut.py") 322), (.int 39 0), (.int 3 0), (.int 0 0), (.int 0 0), (.int 3 0), (.ref 110), (.bool true), (.int 181 0), (.ref 111), .none, (.ref 112), (.ref 113), (.ref 114), (.int 326 0), (.int 39 0), (.str (.ofString "/claim/cut.py") 327)]), #[]⟩) ::
  (nat_lit 116, ⟨(.type "function"), none, (.func ⟨(.ofString "whole_div"), (.ofString "whole_div"), a14, (.stmts b14), c14, 3, [], .none, .none, .none, (.str (.ofString "adacore.arith") 282), none, (.ref 115), .none, 0⟩), #[]⟩) ::
  (nat_lit 117, ⟨(.type "tuple"), none, (.seq #[] 0), #[]⟩) ::
  (nat_lit 119, ⟨(.type "tuple"), none, (.seq #[(.str (.ofString "t") 332), (.str (.ofString "x") 333), (.str (.ofString "y") 334)] 0), #[]⟩) ::
  (nat_lit 120, ⟨(.type "tuple"), none, (.seq #[] 0), #[]⟩) ::
  (nat_lit 122, ⟨(.type "code"), none, (.fields #[(.str (.ofString "whole_rem") 329), (.str (.ofString "whole_rem") 330), (.str (.ofString "/claim/cut.py") 331), (.int 42 0), (.int 3 0), (.int 0 0), (.int 0 0), (.int 3 0), (.ref 117), (.bool true), (.int 181 0), (.ref 118), .none, (.ref 119), (.ref 120), (.ref 121), (.int 335 0), (.int 42 0), (.str (.ofString "/claim/cut.py") 336)]), #[]⟩) ::
  (nat_lit 123, ⟨(.type "function"), none, (.func ⟨(.ofString "whole_rem"), (.ofString "whole_rem"), a15, (.stmts b15), c15, 3, [], .none, .none, .none, (.str (.ofString "adacore.arith") 282), none, (.ref 122), .none, 0⟩), #[]⟩) ::
  (nat_lit 124, ⟨(.type "tuple"), none, (.seq #[] 0), #[]⟩) ::
  (nat_lit 126, ⟨(.type "tuple"), none, (.seq #[(.str (.ofString "t") 341), (.str (.ofString "x") 342), (.str (.ofString "y") 343)] 0), #[]⟩) ::
  (nat_lit 127, ⟨(.type "tuple"), none, (.seq #[] 0), #[]⟩) ::
  (nat_lit 129, ⟨(.type "code"), none, (.fields #[(.str (.ofString "whole_modulo") 338), (.str (.ofString "whole_modulo") 339), (.str (.ofString "/claim/cut.py") 340), (.int 45 0), (.int 3 0), (.int 0 0), (.int 0 0), (.int 3 0), (.ref 124), (.bool true), (.int 181 0), (.ref 125), .none, (.ref 126), (.ref 127), (.ref 128), (.int 344 0), (.int 45 0), (.str (.ofString "/claim/cut.py") 345)]), #[]⟩) ::
  (nat_lit 130, ⟨(.type "function"), none, (.func ⟨(.ofString "whole_modulo"), (.ofString "whole_modulo"), a16, (.stmts b16), c16, 3, [], .none, .none, .none, (.str (.ofString "adacore.arith") 282), none, (.ref 129), .none, 0⟩), #[]⟩) ::
  (nat_lit 131, ⟨(.type "tuple"), none, (.seq #[] 0), #[]⟩) ::
  (nat_lit 133, ⟨(.type "tuple"), none, (.seq #[(.str (.ofString "x") 350), (.str (.ofString "count") 351)] 0), #[]⟩) ::
  (nat_lit 134, ⟨(.type "tuple"), none, (.seq #[] 0), #[]⟩) ::
  (nat_lit 136, ⟨(.type "code"), none, (.fields #[(.str (.ofString "size_of") 347), (.str (.ofString "size_of") 348), (.str (.ofString "/claim/cut.py") 349), (.int 48 0), (.int 1 0), (.int 0 0), (.int 0 0), (.int 3 0), (.ref 131), (.bool true), (.int 181 0), (.ref 132), .none, (.ref 133), (.ref 134), (.ref 135), (.int 352 0), (.int 48 0), (.str (.ofString "/claim/cut.py") 353)]), #[]⟩) ::
  (nat_lit 137, ⟨(.type "function"), none, (.func ⟨(.ofString "size_of"), (.ofString "size_of"), a17, (.stmts b17), c17, 3, [], .none, .none, .none, (.str (.ofString "adacore.arith") 282), none, (.ref 136), .none, 0⟩), #[]⟩) ::
  (nat_lit 138, ⟨(.type "tuple"), none, (.seq #[] 0), #[]⟩) ::
  (nat_lit 140, ⟨(.type "tuple"), none, (.seq #[(.str (.ofString "x") 358), (.str (.ofString "n") 359)] 0), #[]⟩) ::
  (nat_lit 141, ⟨(.type "tuple"), none, (.seq #[] 0), #[]⟩) ::
  (nat_lit 143, ⟨(.type "code"), none, (.fields #[(.str (.ofString "is_great_power") 355), (.str (.ofString "is_great_power") 356), (.str (.ofString "/claim/cut.py") 357), (.int 55 0), (.int 2 0), (.int 0 0), (.int 0 0), (.int 3 0), (.ref 138), (.bool true), (.int 181 0), (.ref 139), .none, (.ref 140), (.ref 141), (.ref 142), (.int 360 0), (.int 55 0), (.str (.ofString "/claim/cut.py") 361)]), #[]⟩) ::
  (nat_lit 144, ⟨(.type "function"), none, (.func ⟨(.ofString "is_great_power"), (.ofString "is_great_power"), a18, (.stmts b18), c18, 3, [], .none, .none, .none, (.str (.ofString "adacore.arith") 282), none, (.ref 143), .none, 0⟩), #[]⟩) ::
  (nat_lit 145, ⟨(.type "tuple"), none, (.seq #[] 0), #[]⟩) ::
  (nat_lit 147, ⟨(.type "tuple"), none, (.seq #[(.str (.ofString "t") 366), (.str (.ofString "x") 367), (.str (.ofString "n") 368), (.str (.ofString "result") 369)] 0), #[]⟩) ::
  (nat_lit 148, ⟨(.type "tuple"), none, (.seq #[] 0), #[]⟩) ::
  (nat_lit 150, ⟨(.type "code"), none, (.fields #[(.str (.ofString "whole_power") 363), (.str (.ofString "whole_power") 364), (.str (.ofString "/claim/cut.py") 365), (.int 57 0), (.int 3 0), (.int 0 0), (.int 0 0), (.int 3 0), (.ref 145), (.bool true), (.int 181 0), (.ref 146), .none, (.ref 147), (.ref 148), (.ref 149), (.int 370 0), (.int 57 0), (.str (.ofString "/claim/cut.py") 371)]), #[]⟩) ::
  (nat_lit 151, ⟨(.type "function"), none, (.func ⟨(.ofString "whole_power"), (.ofString "whole_power"), a19, (.stmts b19), c19, 3, [], .none, .none, .none, (.str (.ofString "adacore.arith") 282), none, (.ref 150), .none, 0⟩), #[]⟩) ::
  (nat_lit 152, ⟨(.type "tuple"), none, (.seq #[] 0), #[]⟩) ::
  (nat_lit 154, ⟨(.type "tuple"), none, (.seq #[(.str (.ofString "t") 376), (.str (.ofString "x") 377)] 0), #[]⟩) ::
  (nat_lit 155, ⟨(.type "tuple"), none, (.seq #[] 0), #[]⟩) ::
  (nat_lit 157, ⟨(.type "code"), none, (.fields #[(.str (.ofString "whole_neg") 373), (.str (.ofString "whole_neg") 374), (.str (.ofString "/claim/cut.py") 375), (.int 72 0), (.int 2 0), (.int 0 0), (.int 0 0), (.int 3 0), (.ref 152), (.bool true), (.int 181 0), (.ref 153), .none, (.ref 154), (.ref 155), (.ref 156), (.int 378 0), (.int 72 0), (.str (.ofString "/claim/cut.py") 379)]), #[]⟩) ::
  (nat_lit 158, ⟨(.type "function"), none, (.func ⟨(.ofString "whole_neg"), (.ofString "whole_neg"), a20, (.stmts b20), c20, 3, [], .none, .none, .none, (.str (.ofString "adacore.arith") 282), none, (.ref 157), .none, 0⟩), #[]⟩) ::
  (nat_lit 159, ⟨(.type "tuple"), none, (.seq #[] 0), #[]⟩) ::
  (nat_lit 161, ⟨(.type "tuple"), none, (.seq #[(.str (.ofString "t") 384), (.str (.ofString "x") 385)] 0), #[]⟩) ::
  (nat_lit 162, ⟨(.type "tuple"), none, (.seq #[] 0), #[]⟩) ::
  (nat_lit 164, ⟨(.type "code"), none, (.fields #[(.str (.ofString "whole_abs") 381), (.str (.ofString "whole_abs") 382), (.str (.ofString "/claim/cut.py") 383), (.int 74 0), (.int 2 0), (.int 0 0), (.int 0 0), (.int 3 0), (.ref 159), (.bool true), (.int 181 0), (.ref 160), .none, (.ref 161), (.ref 162), (.ref 163), (.int 386 0), (.int 74 0), (.str (.ofString "/claim/cut.py") 387)]), #[]⟩) ::
  (nat_lit 165, ⟨(.type "function"), none, (.func ⟨(.ofString "whole_abs"), (.ofString "whole_abs"), a21, (.stmts b21), c21, 3, [], .none, .none, .none, (.str (.ofString "adacore.arith") 282), none, (.ref 164), .none, 0⟩), #[]⟩) ::
  (nat_lit 166, ⟨(.type "tuple"), none, (.seq #[] 0), #[]⟩) ::
  (nat_lit 168, ⟨(.type "tuple"), none, (.seq #[(.str (.ofString "t") 392), (.str (.ofString "x") 393)] 0), #[]⟩) ::
  (nat_lit 169, ⟨(.type "tuple"), none, (.seq #[] 0), #[]⟩) ::
  (nat_lit 171, ⟨(.type "code"), none, (.fields #[(.str (.ofString "same_number") 389), (.str (.ofString "same_number") 390), (.str (.ofString "/claim/cut.py") 391), (.int 76 0), (.int 2 0), (.int 0 0), (.int 0 0), (.int 3 0), (.ref 166), (.bool true), (.int 181 0), (.ref 167), .none, (.ref 168), (.ref 169), (.ref 170), (.int 394 0), (.int 76 0), (.str (.ofString "/claim/cut.py") 395)]), #[]⟩) ::
  (nat_lit 172, ⟨(.type "function"), none, (.func ⟨(.ofString "same_number"), (.ofString "same_number"), a22, (.stmts b22), c22, 3, [], .none, .none, .none, (.str (.ofString "adacore.arith") 282), none, (.ref 171), .none, 0⟩), #[]⟩) ::
  (nat_lit 173, ⟨(.type "tuple"), none, (.seq #[] 0), #[]⟩) ::
  (nat_lit 175, ⟨(.type "tuple"), none, (.seq #[(.str (.ofString "t") 400), (.str (.ofString "x") 401), (.str (.ofString "y") 402)] 0), #[]⟩) ::
  (nat_lit 176, ⟨(.type "tuple"), none, (.seq #[] 0), #[]⟩) ::
  (nat_lit 178, ⟨(.type "code"), none, (.fields #[(.str (.ofString "modular_add") 397), (.str (.ofString "modular_add") 398), (.str (.ofString "/claim/cut.py") 399), (.int 78 0), (.int 3 0), (.int 0 0), (.int 0 0), (.int 3 0), (.ref 173), (.bool true), (.int 181 0), (.ref 174), .none, (.ref 175), (.ref 176), (.ref 177), (.int 403 0), (.int 78 0), (.str (.ofString "/claim/cut.py") 404)]), #[]⟩) ::
  (nat_lit 179, ⟨(.type "function"), none, (.func ⟨(.ofString "modular_add"), (.ofString "modular_add"), a23, (.stmts b23), c23, 3, [], .none, .none, .none, (.str (.ofString "adacore.arith") 282), none, (.ref 178), .none, 0⟩), #[]⟩) ::
  (nat_lit 180, ⟨(.type "tuple"), none, (.seq #[] 0), #[]⟩) ::
  (nat_lit 182, ⟨(.type "tuple"), none, (.seq #[(.str (.ofString "t") 409), (.str (.ofString "x") 410), (.str (.ofString "y") 411)] 0), #[]⟩) ::
  (nat_lit 183, ⟨(.type "tuple"), none, (.seq #[] 0), #[]⟩) ::
  (nat_lit 185, ⟨(.type "code"), none, (.fields #[(.str (.ofString "modular_sub") 406), (.str (.ofString "modular_sub") 407), (.str (.ofString "/claim/cut.py") 408), (.int 80 0), (.int 3 0), (.int 0 0), (.int 0 0), (.int 3 0), (.ref 180), (.bool true), (.int 181 0), (.ref 181), .none, (.ref 182), (.ref 183), (.ref 184), (.int 412 0), (.int 80 0), (.str (.ofString "/claim/cut.py") 413)]), #[]⟩) ::
  (nat_lit 186, ⟨(.type "function"), none, (.func ⟨(.ofString "modular_sub"), (.ofString "modular_sub"), a24, (.stmts b24), c24, 3, [], .none, .none, .none, (.str (.ofString "adacore.arith") 282), none, (.ref 185), .none, 0⟩), #[]⟩) ::
  (nat_lit 187, ⟨(.type "tuple"), none, (.seq #[] 0), #[]⟩) ::
  (nat_lit 189, ⟨(.type "tuple"), none, (.seq #[(.str (.ofString "t") 418), (.str (.ofString "x") 419), (.str (.ofString "y") 420)] 0), #[]⟩) ::
  (nat_lit 190, ⟨(.type "tuple"), none, (.seq #[] 0), #[]⟩) ::
  (nat_lit 192, ⟨(.type "code"), none, (.fields #[(.str (.ofString "modular_mul") 415), (.str (.ofString "modular_mul") 416), (.str (.ofString "/claim/cut.py") 417), (.int 82 0), (.int 3 0), (.int 0 0), (.int 0 0), (.int 3 0), (.ref 187), (.bool true), (.int 181 0), (.ref 188), .none, (.ref 189), (.ref 190), (.ref 191), (.int 421 0), (.int 82 0), (.str (.ofString "/claim/cut.py") 422)]), #[]⟩) ::
  (nat_lit 193, ⟨(.type "function"), none, (.func ⟨(.ofString "modular_mul"), (.ofString "modular_mul"), a25, (.stmts b25), c25, 3, [], .none, .none, .none, (.str (.ofString "adacore.arith") 282), none, (.ref 192), .none, 0⟩), #[]⟩) ::
  (nat_lit 194, ⟨(.type "tuple"), none, (.seq #[] 0), #[]⟩) ::
  (nat_lit 196, ⟨(.type "tuple"), none, (.seq #[(.str (.ofString "t") 427), (.str (.ofString "x") 428), (.str (.ofString "n") 429), (.str (.ofString "result") 430)] 0), #[]⟩) ::
  (nat_lit 197, ⟨(.type "tuple"), none, (.seq #[] 0), #[]⟩) ::
  (nat_lit 199, ⟨(.type "code"), none, (.fields #[(.str (.ofString "modular_power") 424), (.str (.ofString "modular_power") 425), (.str (.ofString "/claim/cut.py") 426), (.int 84 0), (.int 3 0), (.int 0 0), (.int 0 0), (.int 3 0), (.ref 194), (.bool true), (.int 181 0), (.ref 195), .none, (.ref 196), (.ref 197), (.ref 198), (.int 431 0), (.int 84 0), (.str (.ofString "/claim/cut.py") 432)]), #[]⟩) ::
  (nat_lit 200, ⟨(.type "function"), none, (.func ⟨(.ofString "modular_power"), (.ofString "modular_power"), a26, (.stmts b26), c26, 3, [], .none, .none, .none, (.str (.ofString "adacore.arith") 282), none, (.ref 199), .none, 0⟩), #[]⟩) ::
  (nat_lit 201, ⟨(.type "tuple"), none, (.seq #[] 0), #[]⟩) ::
  (nat_lit 203, ⟨(.type "tuple"), none, (.seq #[(.str (.ofString "t") 437), (.str (.ofString "x") 438)] 0), #[]⟩) ::
  (nat_lit 204, ⟨(.type "tuple"), none, (.seq #[] 0), #[]⟩) ::
  (nat_lit 206, ⟨(.type "code"), none, (.fields #[(.str (.ofString "modular_neg") 434), (.str (.ofString "modular_neg") 435), (.str (.ofString "/claim/cut.py") 436), (.int 94 0), (.int 2 0), (.int 0 0), (.int 0 0), (.int 3 0), (.ref 201), (.bool true), (.int 181 0), (.ref 202), .none, (.ref 203), (.ref 204), (.ref 205), (.int 439 0), (.int 94 0), (.str (.ofString "/claim/cut.py") 440)]), #[]⟩) ::
  (nat_lit 207, ⟨(.type "function"), none, (.func ⟨(.ofString "modular_neg"), (.ofString "modular_neg"), a27, (.stmts b27), c27, 3, [], .none, .none, .none, (.str (.ofString "adacore.arith") 282), none, (.ref 206), .none, 0⟩), #[]⟩) ::
  (nat_lit 208, ⟨(.type "tuple"), none, (.seq #[] 0), #[]⟩) ::
  (nat_lit 210, ⟨(.type "tuple"), none, (.seq #[(.str (.ofString "t") 445), (.str (.ofString "x") 446), (.str (.ofString "y") 447)] 0), #[]⟩) ::
  (nat_lit 211, ⟨(.type "tuple"), none, (.seq #[] 0), #[]⟩) ::
  (nat_lit 213, ⟨(.type "code"), none, (.fields #[(.str (.ofString "logic_and") 442), (.str (.ofString "logic_and") 443), (.str (.ofString "/claim/cut.py") 444), (.int 96 0), (.int 3 0), (.int 0 0), (.int 0 0), (.int 3 0), (.ref 208), (.bool true), (.int 181 0), (.ref 209), .none, (.ref 210), (.ref 211), (.ref 212), (.int 448 0), (.int 96 0), (.str (.ofString "/claim/cut.py") 449)]), #[]⟩) ::
  (nat_lit 214, ⟨(.type "function"), none, (.func ⟨(.ofString "logic_and"), (.ofString "logic_and"), a28, (.stmts b28), c28, 3, [], .none, .none, .none, (.str (.ofString "adacore.arith") 282), none, (.ref 213), .none, 0⟩), #[]⟩) ::
  (nat_lit 215, ⟨(.type "tuple"), none, (.seq #[] 0), #[]⟩) ::
  (nat_lit 217, ⟨(.type "tuple"), none, (.seq #[(.str (.ofString "t") 454), (.str (.ofString "x") 455), (.str (.ofString "y") 456)] 0), #[]⟩) ::
  (nat_lit 218, ⟨(.type "tuple"), none, (.seq #[] 0), #[]⟩) ::
  (nat_lit 220, ⟨(.type "code"), none, (.fields #[(.str (.ofString "logic_or") 451), (.str (.ofString "logic_or") 452), (.str (.ofString "/claim/cut.py") 453), (.int 98 0), (.int 3 0), (.int 0 0), (.int 0 0), (.int 3 0), (.ref 215), (.bool true), (.int 181 0), (.ref 216), .none, (.ref 217), (.ref 218), (.ref 219), (.int 457 0), (.int 98 0), (.str (.ofString "/claim/cut.py") 458)]), #[]⟩) ::
  (nat_lit 221, ⟨(.type "function"), none, (.func ⟨(.ofString "logic_or"), (.ofString "logic_or"), a29, (.stmts b29), c29, 3, [], .none, .none, .none, (.str (.ofString "adacore.arith") 282), none, (.ref 220), .none, 0⟩), #[]⟩) ::
  (nat_lit 222, ⟨(.type "tuple"), none, (.seq #[] 0), #[]⟩) ::
  (nat_lit 224, ⟨(.type "tuple"), none, (.seq #[(.str (.ofString "t") 463), (.str (.ofString "x") 464), (.str (.ofString "y") 465)] 0), #[]⟩) ::
  (nat_lit 225, ⟨(.type "tuple"), none, (.seq #[] 0), #[]⟩) ::
  (nat_lit 227, ⟨(.type "code"), none, (.fields #[(.str (.ofString "logic_xor") 460), (.str (.ofString "logic_xor") 461), (.str (.ofString "/claim/cut.py") 462), (.int 100 0), (.int 3 0), (.int 0 0), (.int 0 0), (.int 3 0), (.ref 222), (.bool true), (.int 181 0), (.ref 223), .none, (.ref 224), (.ref 225), (.ref 226), (.int 466 0), (.int 100 0), (.str (.ofString "/claim/cut.py") 467)]), #[]⟩) ::
  (nat_lit 228, ⟨(.type "function"), none, (.func ⟨(.ofString "logic_xor"), (.ofString "logic_xor"), a30, (.stmts b30), c30, 3, [], .none, .none, .none, (.str (.ofString "adacore.arith") 282), none, (.ref 227), .none, 0⟩), #[]⟩) ::
  (nat_lit 229, ⟨(.type "tuple"), none, (.seq #[] 0), #[]⟩) ::
  (nat_lit 231, ⟨(.type "tuple"), none, (.seq #[(.str (.ofString "t") 472), (.str (.ofString "value") 473)] 0), #[]⟩) ::
  (nat_lit 232, ⟨(.type "tuple"), none, (.seq #[] 0), #[]⟩) ::
  (nat_lit 234, ⟨(.type "code"), none, (.fields #[(.str (.ofString "come_round") 469), (.str (.ofString "come_round") 470), (.str (.ofString "/claim/cut.py") 471), (.int 102 0), (.int 2 0), (.int 0 0), (.int 0 0), (.int 3 0), (.ref 229), (.bool true), (.int 181 0), (.ref 230), .none, (.ref 231), (.ref 232), (.ref 233), (.int 474 0), (.int 102 0), (.str (.ofString "/claim/cut.py") 475)]), #[]⟩) ::
  (nat_lit 235, ⟨(.type "function"), none, (.func ⟨(.ofString "come_round"), (.ofString "come_round"), a31, (.stmts b31), c31, 3, [], .none, .none, .none, (.str (.ofString "adacore.arith") 282), none, (.ref 234), .none, 0⟩), #[]⟩) ::
  (nat_lit 236, ⟨(.type "tuple"), none, (.seq #[] 0), #[]⟩) ::
  (nat_lit 238, ⟨(.type "tuple"), none, (.seq #[(.str (.ofString "t") 480), (.str (.ofString "x") 481)] 0), #[]⟩) ::
  (nat_lit 239, ⟨(.type "tuple"), none, (.seq #[] 0), #[]⟩) ::
  (nat_lit 241, ⟨(.type "code"), none, (.fields #[(.str (.ofString "logic_not") 477), (.str (.ofString "logic_not") 478), (.str (.ofString "/claim/cut.py") 479), (.int 106 0), (.int 2 0), (.int 0 0), (.int 0 0), (.int 3 0), (.ref 236), (.bool true), (.int 181 0), (.ref 237), .none, (.ref 238), (.ref 239), (.ref 240), (.int 482 0), (.int 106 0), (.str (.ofString "/claim/cut.py") 483)]), #[]⟩) ::
  (nat_lit 242, ⟨(.type "function"), none, (.func ⟨(.ofString "logic_not"), (.ofString "logic_not"), a32, (.stmts b32), c32, 3, [], .none, .none, .none, (.str (.ofString "adacore.arith") 282), none, (.ref 241), .none, 0⟩), #[]⟩) ::
  (nat_lit 243, ⟨(.type "tuple"), none, (.seq #[] 0), #[]⟩) ::
  (nat_lit 245, ⟨(.type "tuple"), none, (.seq #[(.str (.ofString "name") 488), (.str (.ofString "x") 489), (.str (.ofString "y") 490)] 0), #[]⟩) ::
  (nat_lit 246, ⟨(.type "tuple"), none, (.seq #[] 0), #[]⟩) ::
  (nat_lit 248, ⟨(.type "code"), none, (.fields #[(.str (.ofString "holds_between") 485), (.str (.ofString "holds_between") 486), (.str (.ofString "/claim/cut.py") 487), (.int 108 0), (.int 3 0), (.int 0 0), (.int 0 0), (.int 3 0), (.ref 243), (.bool true), (.int 181 0), (.ref 244), .none, (.ref 245), (.ref 246), (.ref 247), (.int 491 0), (.int 108 0), (.str (.ofString "/claim/cut.py") 492)]), #[]⟩) ::
  (nat_lit 249, ⟨(.type "function"), none, (.func ⟨(.ofString "holds_between"), (.ofString "holds_between"), a33, (.stmts b33), c33, 3, [], .none, .none, .none, (.str (.ofString "adacore.arith") 282), none, (.ref 248), .none, 0⟩), #[]⟩) ::
  (nat_lit 250, ⟨(.type "tuple"), none, (.seq #[] 0), #[]⟩) ::
  (nat_lit 252, ⟨(.type "tuple"), none, (.seq #[] 0), #[]⟩) ::
  (nat_lit 253, ⟨(.type "tuple"), none, (.seq #[] 0), #[]⟩) ::
  (nat_lit 255, ⟨(.type "code"), none, (.fields #[(.str (.ofString "whole_operators") 494), (.str (.ofString "whole_operators") 495), (.str (.ofString "/claim/cut.py") 496), (.int 120 0), (.int 0 0), (.int 0 0), (.int 0 0), (.int 3 0), (.ref 250), (.bool true), (.int 181 0), (.ref 251), .none, (.ref 252), (.ref 253), (.ref 254), (.int 497 0), (.int 120 0), (.str (.ofString "/claim/cut.py") 498)]), #[]⟩) ::
  (nat_lit 256, ⟨(.type "function"), none, (.func ⟨(.ofString "whole_operators"), (.ofString "whole_operators"), a34, (.stmts b34), c34, 3, [], .none, .none, .none, (.str (.ofString "adacore.arith") 282), none, (.ref 255), .none, 0⟩), #[]⟩) ::
  (nat_lit 257, ⟨(.type "tuple"), none, (.seq #[] 0), #[]⟩) ::
  (nat_lit 259, ⟨(.type "tuple"), none, (.seq #[] 0), #[]⟩) ::
  (nat_lit 260, ⟨(.type "tuple"), none, (.seq #[] 0), #[]⟩) ::
  (nat_lit 262, ⟨(.type "code"), none, (.fields #[(.str (.ofString "modular_operators") 500), (.str (.ofString "modular_operators") 501), (.str (.ofString "/claim/cut.py") 502), (.int 122 0), (.int 0 0), (.int 0 0), (.int 0 0), (.int 3 0), (.ref 257), (.bool true), (.int 181 0), (.ref 258), .none, (.ref 259), (.ref 260), (.ref 261), (.int 503 0), (.int 122 0), (.str (.ofString "/claim/cut.py") 504)]), #[]⟩) ::
  (nat_lit 263, ⟨(.type "function"), none, (.func ⟨(.ofString "modular_operators"), (.ofString "modular_operators"), a35, (.stmts b35), c35, 3, [], .none, .none, .none, (.str (.ofString "adacore.arith") 282), none, (.ref 262), .none, 0⟩), #[]⟩) ::
  (nat_lit 264, ⟨(.type "tuple"), none, (.seq #[] 0), #[]⟩) ::
  (nat_lit 266, ⟨(.type "tuple"), none, (.seq #[] 0), #[]⟩) ::
  (nat_lit 267, ⟨(.type "tuple"), none, (.seq #[] 0), #[]⟩) ::
  (nat_lit 269, ⟨(.type "code"), none, (.fields #[(.str (.ofString "fixed_operators") 506), (.str (.ofString "fixed_operators") 507), (.str (.ofString "/claim/cut.py") 508), (.int 124 0), (.int 0 0), (.int 0 0), (.int 0 0), (.int 3 0), (.ref 264), (.bool true), (.int 181 0), (.ref 265), .none, (.ref 266), (.ref 267), (.ref 268), (.int 509 0), (.int 124 0), (.str (.ofString "/claim/cut.py") 510)]), #[]⟩) ::
  (nat_lit 270, ⟨(.type "function"), none, (.func ⟨(.ofString "fixed_operators"), (.ofString "fixed_operators"), a36, (.stmts b36), c36, 3, [], .none, .none, .none, (.str (.ofString "adacore.arith") 282), none, (.ref 269), .none, 0⟩), #[]⟩) ::
  (nat_lit 271, ⟨(.type "tuple"), none, (.seq #[] 0), #[]⟩) ::
  (nat_lit 273, ⟨(.type "tuple"), none, (.seq #[] 0), #[]⟩) ::
  (nat_lit 274, ⟨(.type "tuple"), none, (.seq #[] 0), #[]⟩) ::
  (nat_lit 276, ⟨(.type "code"), none, (.fields #[(.str (.ofString "logic_operators") 512), (.str (.ofString "logic_operators") 513), (.str (.ofString "/claim/cut.py") 514), (.int 126 0), (.int 0 0), (.int 0 0), (.int 0 0), (.int 3 0), (.ref 271), (.bool true), (.int 181 0), (.ref 272), .none, (.ref 273), (.ref 274), (.ref 275), (.int 515 0), (.int 126 0), (.str (.ofString "/claim/cut.py") 516)]), #[]⟩) ::
  (nat_lit 277, ⟨(.type "function"), none, (.func ⟨(.ofString "logic_operators"), (.ofString "logic_operators"), a37, (.stmts b37), c37, 3, [], .none, .none, .none, (.str (.ofString "adacore.arith") 282), none, (.ref 276), .none, 0⟩), #[]⟩) ::
  (nat_lit 278, ⟨(.type "tuple"), none, (.seq #[] 0), #[]⟩) ::
  (nat_lit 280, ⟨(.type "tuple"), none, (.seq #[(.str (.ofString "t") 521)] 0), #[]⟩) ::
  (nat_lit 281, ⟨(.type "tuple"), none, (.seq #[] 0), #[]⟩) ::
  (nat_lit 283, ⟨(.type "code"), none, (.fields #[(.str (.ofString "operators_of") 518), (.str (.ofString "operators_of") 519), (.str (.ofString "/claim/cut.py") 520), (.int 128 0), (.int 1 0), (.int 0 0), (.int 0 0), (.int 3 0), (.ref 278), (.bool true), (.int 181 0), (.ref 279), .none, (.ref 280), (.ref 281), (.ref 282), (.int 522 0), (.int 128 0), (.str (.ofString "/claim/cut.py") 523)]), #[]⟩) ::
  (nat_lit 284, ⟨(.type "function"), none, (.func ⟨(.ofString "operators_of"), (.ofString "operators_of"), a38, (.stmts b38), c38, 3, [], .none, .none, .none, (.str (.ofString "adacore.arith") 282), none, (.ref 283), .none, 0⟩), #[]⟩) ::
  (nat_lit 285, ⟨(.type "tuple"), none, (.seq #[] 0), #[]⟩) ::
  (nat_lit 287, ⟨(.type "tuple"), none, (.seq #[(.str (.ofString "t") 528)] 0), #[]⟩) ::
  (nat_lit 288, ⟨(.type "tuple"), none, (.seq #[] 0), #[]⟩) ::
  (nat_lit 290, ⟨(.type "code"), none, (.fields #[(.str (.ofString "unary_operators") 525), (.str (.ofString "unary_operators") 526), (.str (.ofString "/claim/cut.py") 527), (.int 136 0), (.int 1 0), (.int 0 0), (.int 0 0), (.int 3 0), (.ref 285), (.bool true), (.int 181 0), (.ref 286), .none, (.ref 287), (.ref 288), (.ref 289), (.int 529 0), (.int 136 0), (.str (.ofString "/claim/cut.py") 530)]), #[]⟩) ::
  (nat_lit 291, ⟨(.type "function"), none, (.func ⟨(.ofString "unary_operators"), (.ofString "unary_operators"), a39, (.stmts b39), c39, 3, [], .none, .none, .none, (.str (.ofString "adacore.arith") 282), none, (.ref 290), .none, 0⟩), #[]⟩) ::
  (nat_lit 299, ⟨(.type "tuple"), none, (.seq #[] 0), #[]⟩) ::
  (nat_lit 301, ⟨(.type "tuple"), none, (.seq #[(.str (.ofString "self") 549), (.str (.ofString "kind") 550), (.str (.ofString "name") 551)] 0), #[]⟩) ::
  (nat_lit 302, ⟨(.type "tuple"), none, (.seq #[] 0), #[]⟩) ::
  (nat_lit 304, ⟨(.type "code"), none, (.fields #[(.str (.ofString "__init__") 546), (.str (.ofString "Type.__init__") 547), (.str (.ofString "/claim/cut.py") 548), (.int 145 0), (.int 3 0), (.int 0 0), (.int 0 0), (.int 3 0), (.ref 299), (.bool true), (.int 181 0), (.ref 300), .none, (.ref 301), (.ref 302), (.ref 303), (.int 552 0), (.int 145 0), (.str (.ofString "/claim/cut.py") 553)]), #[]⟩) ::
  (nat_lit 305, ⟨(.type "function"), none, (.func ⟨(.ofString "__init__"), (.ofString "Type.__init__"), a41m0, (.stmts b41m0), c41m0, 3, [], .none, .none, .none, (.str (.ofString "adacore.types") 532), none, (.ref 304), .none, 0⟩), #[]⟩) ::
  (nat_lit 306, ⟨(.type "tuple"), none, (.seq #[(.str (.ofString "component") 555), (.str (.ofString "components") 556), (.str (.ofString "designated") 557), (.str (.ofString "discriminants") 558), (.str (.ofString "high") 559), (.str (.ofString "index") 560), (.str (.ofString "is_constrained") 561), (.str (.ofString "is_limited") 562), (.str (.ofString "is_private") 563), (.str (.ofString "is_tagged") 564), (.str (.ofString "kind") 565), (.str (.ofString "literals") 566), (.str (.ofString "low") 567), (.str (.ofString "modulus") 568), (.str (.ofString "name") 569), (.str (.ofString "number") 570), (.str (.ofString "operations") 571), (.str (.ofString "parent") 572), (.str (.ofString "small") 573), (.str (.ofString "variant") 574), (.str (.ofString "wide") 575)] 0), #[]⟩) ::
  (nat_lit 307, ⟨(.type "dict"), none, (.dict #[⟨(PyData.keyHash P (.ofString "__module__")), (.str (.ofString "__module__") 541), (.str (.ofString "adacore.types") 532)⟩, ⟨(PyData.keyHash P (.ofString "__firstlineno__")), (.str (.ofString "__firstlineno__") 545), (.int 143 544)⟩, ⟨(PyData.keyHash P (.ofString "__init__")), (.str (.ofString "__init__") 554), (.ref 305)⟩, ⟨(PyData.keyHash P (.ofString "__static_attributes__")), (.str (.ofString "__static_attributes__") 576), (.ref 306)⟩, ⟨(PyData.keyHash P (.ofString "__dict__")), (.str (.ofString "__dict__") 578), (.ref 309)⟩, ⟨(PyData.keyHash P (.ofString "__weakref__")), (.str (.ofString "__weakref__") 580), (.ref 310)⟩, ⟨(PyData.keyHash P (.ofString "__doc__")), (.str (.ofString "__doc__") 581), .none⟩] 4), #[]⟩) ::
  (nat_lit 308, ⟨(.type "type"), none, (.cls ⟨(.ofString "Type"), [(.type "object")], [(.ref 308), (.type "object")], 307, (.ofString "Type"), true, [], [], false, none, false⟩), #[none, none, (some (.str (.ofString "Type") 534)), (some (.str (.ofString "Type") 542)), (some (.builtin "object.__new__")), (some (.bool true))]⟩) ::
  (nat_lit 309, ⟨(.type "getset_descriptor"), none, (.fields #[(.str (.ofString "__dict__") 577), (.ref 308), (.builtin "function.__dict__"), (.builtin "function.__dict__#set")]), #[]⟩) ::
  (nat_lit 310, ⟨(.type "getset_descriptor"), none, (.fields #[(.str (.ofString "__weakref__") 579), (.ref 308), (.builtin "ExceptionGroup.__weakref__"), .none]), #[]⟩) ::
  (nat_lit 313, ⟨(.type "tuple"), none, (.seq #[] 0), #[]⟩) ::
  (nat_lit 315, ⟨(.type "tuple"), none, (.seq #[(.str (.ofString "name") 587), (.str (.ofString "low") 588), (.str (.ofString "high") 589), (.str (.ofString "made") 590)] 0), #[]⟩) ::
  (nat_lit 316, ⟨(.type "tuple"), none, (.seq #[] 0), #[]⟩) ::
  (nat_lit 318, ⟨(.type "code"), none, (.fields #[(.str (.ofString "int_type") 584), (.str (.ofString "int_type") 585), (.str (.ofString "/claim/cut.py") 586), (.int 167 0), (.int 3 0), (.int 0 0), (.int 0 0), (.int 3 0), (.ref 313), (.bool true), (.int 181 0), (.ref 314), .none, (.ref 315), (.ref 316), (.ref 317), (.int 591 0), (.int 167 0), (.str (.ofString "/claim/cut.py") 592)]), #[]⟩) ::
  (nat_lit 319, ⟨(.type "function"), none, (.func ⟨(.ofString "int_type"), (.ofString "int_type"), a42, (.stmts b42), c42, 3, [], .none, .none, .none, (.str (.ofString "adacore.types") 532), none, (.ref 318), .none, 0⟩), #[]⟩) ::
  (nat_lit 320, ⟨(.type "tuple"), none, (.seq #[] 0), #[]⟩) ::
  (nat_lit 322, ⟨(.type "tuple"), none, (.seq #[(.str (.ofString "name") 597), (.str (.ofString "literals") 598), (.str (.ofString "made") 599)] 0), #[]⟩) ::
  (nat_lit 323, ⟨(.type "tuple"), none, (.seq #[] 0), #[]⟩) ::
  (nat_lit 325, ⟨(.type "code"), none, (.fields #[(.str (.ofString "enum_type") 594), (.str (.ofString "enum_type") 595), (.str (.ofString "/claim/cut.py") 596), (.int 172 0), (.int 2 0), (.int 0 0), (.int 0 0), (.int 3 0), (.ref 320), (.bool true), (.int 181 0), (.ref 321), .none, (.ref 322), (.ref 323), (.ref 324), (.int 600 0), (.int 172 0), (.str (.ofString "/claim/cut.py") 601)]), #[]⟩) ::
  (nat_lit 326, ⟨(.type "function"), none, (.func ⟨(.ofString "enum_type"), (.ofString "enum_type"), a43, (.stmts b43), c43, 3, [], .none, .none, .none, (.str (.ofString "adacore.types") 532), none, (.ref 325), .none, 0⟩), #[]⟩) ::
  (nat_lit 327, ⟨(.type "tuple"), none, (.seq #[] 0), #[]⟩) ::
  (nat_lit 329, ⟨(.type "tuple"), none, (.seq #[(.str (.ofString "name") 606), (.str (.ofString "modulus") 607), (.str (.ofString "made") 608)] 0), #[]⟩) ::
  (nat_lit 330, ⟨(.type "tuple"), none, (.seq #[] 0), #[]⟩) ::
  (nat_lit 332, ⟨(.type "code"), none, (.fields #[(.str (.ofString "mod_type") 603), (.str (.ofString "mod_type") 604), (.str (.ofString "/claim/cut.py") 605), (.int 178 0), (.int 2 0), (.int 0 0), (.int 0 0), (.int 3 0), (.ref 327), (.bool true), (.int 181 0), (.ref 328), .none, (.ref 329), (.ref 330), (.ref 331), (.int 609 0), (.int 178 0), (.str (.ofString "/claim/cut.py") 610)]), #[]⟩) ::
  (nat_lit 333, ⟨(.type "function"), none, (.func ⟨(.ofString "mod_type"), (.ofString "mod_type"), a44, (.stmts b44), c44, 3, [], .none, .none, .none, (.str (.ofString "adacore.types") 532), none, (.ref 332), .none, 0⟩), #[]⟩) ::
  (nat_lit 334, ⟨(.type "tuple"), none, (.seq #[] 0), #[]⟩) ::
  (nat_lit 336, ⟨(.type "tuple"), none, (.seq #[] 0), #[]⟩) ::
  (nat_lit 337, ⟨(.type "tuple"), none, (.seq #[] 0), #[]⟩) ::
  (nat_lit 339, ⟨(.type "code"), none, (.fields #[(.str (.ofString "boolean_type") 612), (.str (.ofString "boolean_type") 613), (.str (.ofString "/claim/cut.py") 614), (.int 184 0), (.int 0 0), (.int 0 0), (.int 0 0), (.int 3 0), (.ref 334), (.bool true), (.int 181 0), (.ref 335), .none, (.ref 336), (.ref 337), (.ref 338), (.int 615 0), (.int 184 0), (.str (.ofString "/claim/cut.py") 616)]), #[]⟩) ::
  (nat_lit 340, ⟨(.type "function"), none, (.func ⟨(.ofString "boolean_type"), (.ofString "boolean_type"), a45, (.stmts b45), c45, 3, [], .none, .none, .none, (.str (.ofString "adacore.types") 532), none, (.ref 339), .none, 0⟩), #[]⟩) ::
  (nat_lit 341, ⟨(.type "dict"), none, (.dict #[⟨(PyData.keyHash P (.ofString "int")), (.str (.ofString "int") 620), (.ref 342)⟩, ⟨(PyData.keyHash P (.ofString "enum")), (.str (.ofString "enum") 628), (.ref 343)⟩, ⟨(PyData.keyHash P (.ofString "mod")), (.str (.ofString "mod") 632), (.ref 344)⟩] 3), #[]⟩) ::
  (nat_lit 342, ⟨(.type "list"), none, (.seq #[(.str (.ofString "*") 621), (.str (.ofString "**") 622), (.str (.ofString "+") 623), (.str (.ofString "-") 624), (.str (.ofString "/") 625), (.str (.ofString "mod") 626), (.str (.ofString "rem") 627)] 0), #[]⟩) ::
  (nat_lit 343, ⟨(.type "list"), none, (.seq #[(.str (.ofString "and") 629), (.str (.ofString "or") 630), (.str (.ofString "xor") 631)] 0), #[]⟩) ::
  (nat_lit 344, ⟨(.type "list"), none, (.seq #[(.str (.ofString "*") 633), (.str (.ofString "**") 634), (.str (.ofString "+") 635), (.str (.ofString "-") 636), (.str (.ofString "/") 637), (.str (.ofString "and") 638), (.str (.ofString "mod") 639), (.str (.ofString "or") 640), (.str (.ofString "rem") 641), (.str (.ofString "xor") 642)] 0), #[]⟩) ::
  (nat_lit 345, ⟨(.type "dict"), none, (.dict #[⟨(PyData.keyHash P (.ofString "int")), (.str (.ofString "int") 647), (.ref 346)⟩, ⟨(PyData.keyHash P (.ofString "enum")), (.str (.ofString "enum") 651), (.ref 347)⟩, ⟨(PyData.keyHash P (.ofString "mod")), (.str (.ofString "mod") 653), (.ref 348)⟩] 3), #[]⟩) ::
  (nat_lit 346, ⟨(.type "list"), none, (.seq #[(.str (.ofString "+") 648), (.str (.ofString "-") 649), (.str (.ofString "abs") 650)] 0), #[]⟩) ::
  (nat_lit 347, ⟨(.type "list"), none, (.seq #[(.str (.ofString "not") 652)] 0), #[]⟩) ::
  (nat_lit 348, ⟨(.type "list"), none, (.seq #[(.str (.ofString "+") 654), (.str (.ofString "-") 655), (.str (.ofString "abs") 656), (.str (.ofString "not") 657)] 0), #[]⟩) ::
  (nat_lit 349, ⟨(.type "tuple"), none, (.seq #[] 0), #[]⟩) ::
  (nat_lit 351, ⟨(.type "tuple"), none, (.seq #[(.str (.ofString "n") 665), (.str (.ofString "sort") 666), (.str (.ofString "rest") 667), (.str (.ofString "half") 668)] 0), #[]⟩) ::
  (nat_lit 352, ⟨(.type "tuple"), none, (.seq #[] 0), #[]⟩) ::
  (nat_lit 354, ⟨(.type "code"), none, (.fields #[(.str (.ofString "_law_type") 662), (.str (.ofString "_law_type") 663), (.str (.ofString "/claim/cut.py") 664), (.int 189 0), (.int 1 0), (.int 0 0), (.int 0 0), (.int 3 0), (.ref 349), (.bool true), (.int 181 0), (.ref 350), .none, (.ref 351), (.ref 352), (.ref 353), (.int 669 0), (.int 189 0), (.str (.ofString "/claim/cut.py") 670)]), #[]⟩) ::
  (nat_lit 355, ⟨(.type "function"), none, (.func ⟨(.ofString "_law_type"), (.ofString "_law_type"), a49, (.stmts b49), c49, 3, [], .none, .none, .none, (.str (.ofString "law_pb0018_01") 618), none, (.ref 354), .none, 0⟩), #[]⟩) ::
  (nat_lit 356, ⟨(.type "tuple"), none, (.seq #[] 0), #[]⟩) ::
  (nat_lit 358, ⟨(.type "tuple"), none, (.seq #[(.str (.ofString "t") 675), (.str (.ofString "n") 676), (.str (.ofString "sort") 677), (.str (.ofString "rest") 678)] 0), #[]⟩) ::
  (nat_lit 359, ⟨(.type "tuple"), none, (.seq #[] 0), #[]⟩) ::
  (nat_lit 361, ⟨(.type "code"), none, (.fields #[(.str (.ofString "_law_value") 672), (.str (.ofString "_law_value") 673), (.str (.ofString "/claim/cut.py") 674), (.int 198 0), (.int 2 0), (.int 0 0), (.int 0 0), (.int 3 0), (.ref 356), (.bool true), (.int 181 0), (.ref 357), .none, (.ref 358), (.ref 359), (.ref 360), (.int 679 0), (.int 198 0), (.str (.ofString "/claim/cut.py") 680)]), #[]⟩) ::
  (nat_lit 362, ⟨(.type "function"), none, (.func ⟨(.ofString "_law_value"), (.ofString "_law_value"), a50, (.stmts b50), c50, 3, [], .none, .none, .none, (.str (.ofString "law_pb0018_01") 618), none, (.ref 361), .none, 0⟩), #[]⟩) ::
  (nat_lit 363, ⟨(.type "tuple"), none, (.seq #[] 0), #[]⟩) ::
  (nat_lit 365, ⟨(.type "tuple"), none, (.seq #[(.str (.ofString "x") 685), (.str (.ofString "y") 686), (.str (.ofString "size") 687)] 0), #[]⟩) ::
  (nat_lit 366, ⟨(.type "tuple"), none, (.seq #[] 0), #[]⟩) ::
  (nat_lit 368, ⟨(.type "code"), none, (.fields #[(.str (.ofString "_law_quotient") 682), (.str (.ofString "_law_quotient") 683), (.str (.ofString "/claim/cut.py") 684), (.int 206 0), (.int 2 0), (.int 0 0), (.int 0 0), (.int 3 0), (.ref 363), (.bool true), (.int 181 0), (.ref 364), .none, (.ref 365), (.ref 366), (.ref 367), (.int 688 0), (.int 206 0), (.str (.ofString "/claim/cut.py") 689)]), #[]⟩) ::
  (nat_lit 369, ⟨(.type "function"), none, (.func ⟨(.ofString "_law_quotient"), (.ofString "_law_quotient"), a51, (.stmts b51), c51, 3, [], .none, .none, .none, (.str (.ofString "law_pb0018_01") 618), none, (.ref 368), .none, 0⟩), #[]⟩) ::
  (nat_lit 370, ⟨(.type "tuple"), none, (.seq #[] 0), #[]⟩) ::
  (nat_lit 372, ⟨(.type "tuple"), none, (.seq #[(.str (.ofString "x") 694), (.str (.ofString "n") 695)] 0), #[]⟩) ::
  (nat_lit 373, ⟨(.type "tuple"), none, (.seq #[] 0), #[]⟩) ::
  (nat_lit 375, ⟨(.type "code"), none, (.fields #[(.str (.ofString "_law_power") 691), (.str (.ofString "_law_power") 692), (.str (.ofString "/claim/cut.py") 693), (.int 209 0), (.int 2 0), (.int 0 0), (.int 0 0), (.int 3 0), (.ref 370), (.bool true), (.int 181 0), (.ref 371), .none, (.ref 372), (.ref 373), (.ref 374), (.int 696 0), (.int 209 0), (.str (.ofString "/claim/cut.py") 697)]), #[]⟩) ::
  (nat_lit 376, ⟨(.type "function"), none, (.func ⟨(.ofString "_law_power"), (.ofString "_law_power"), a52, (.stmts b52), c52, 3, [], .none, .none, .none, (.str (.ofString "law_pb0018_01") 618), none, (.ref 375), .none, 0⟩), #[]⟩) ::
  (nat_lit 377, ⟨(.type "tuple"), none, (.seq #[] 0), #[]⟩) ::
  (nat_lit 379, ⟨(.type "tuple"), none, (.seq #[(.str (.ofString "x") 702), (.str (.ofString "n") 703), (.str (.ofString "modulus") 704), (.str (.ofString "bits") 705), (.str (.ofString "found") 706), (.str (.ofString "bit") 707)] 0), #[]⟩) ::
  (nat_lit 380, ⟨(.type "tuple"), none, (.seq #[] 0), #[]⟩) ::
  (nat_lit 382, ⟨(.type "code"), none, (.fields #[(.str (.ofString "_law_ring") 699), (.str (.ofString "_law_ring") 700), (.str (.ofString "/claim/cut.py") 701), (.int 213 0), (.int 3 0), (.int 0 0), (.int 0 0), (.int 3 0), (.ref 377), (.bool true), (.int 181 0), (.ref 378), .none, (.ref 379), (.ref 380), (.ref 381), (.int 708 0), (.int 213 0), (.str (.ofString "/claim/cut.py") 709)]), #[]⟩) ::
  (nat_lit 383, ⟨(.type "function"), none, (.func ⟨(.ofString "_law_ring"), (.ofString "_law_ring"), a53, (.stmts b53), c53, 3, [], .none, .none, .none, (.str (.ofString "law_pb0018_01") 618), none, (.ref 382), .none, 0⟩), #[]⟩) ::
  (nat_lit 384, ⟨(.type "tuple"), none, (.seq #[] 0), #[]⟩) ::
  (nat_lit 386, ⟨(.type "tuple"), none, (.seq #[(.str (.ofString "op") 714), (.str (.ofString "x") 715), (.str (.ofString "y") 716), (.str (.ofString "total") 717), (.str (.ofString "k") 718), (.str (.ofString "pair") 719)] 0), #[]⟩) ::
  (nat_lit 387, ⟨(.type "tuple"), none, (.seq #[] 0), #[]⟩) ::
  (nat_lit 389, ⟨(.type "code"), none, (.fields #[(.str (.ofString "_law_bits") 711), (.str (.ofString "_law_bits") 712), (.str (.ofString "/claim/cut.py") 713), (.int 222 0), (.int 3 0), (.int 0 0), (.int 0 0), (.int 3 0), (.ref 384), (.bool true), (.int 181 0), (.ref 385), .none, (.ref 386), (.ref 387), (.ref 388), (.int 720 0), (.int 222 0), (.str (.ofString "/claim/cut.py") 721)]), #[]⟩) ::
  (nat_lit 390, ⟨(.type "function"), none, (.func ⟨(.ofString "_law_bits"), (.ofString "_law_bits"), a54, (.stmts b54), c54, 3, [], .none, .none, .none, (.str (.ofString "law_pb0018_01") 618), none, (.ref 389), .none, 0⟩), #[]⟩) ::
  (nat_lit 391, ⟨(.type "tuple"), none, (.seq #[] 0), #[]⟩) ::
  (nat_lit 393, ⟨(.type "tuple"), none, (.seq #[(.str (.ofString "t") 726), (.str (.ofString "number") 727)] 0), #[]⟩) ::
  (nat_lit 394, ⟨(.type "tuple"), none, (.seq #[] 0), #[]⟩) ::
  (nat_lit 396, ⟨(.type "code"), none, (.fields #[(.str (.ofString "_law_within") 723), (.str (.ofString "_law_within") 724), (.str (.ofString "/claim/cut.py") 725), (.int 228 0), (.int 2 0), (.int 0 0), (.int 0 0), (.int 3 0), (.ref 391), (.bool true), (.int 181 0), (.ref 392), .none, (.ref 393), (.ref 394), (.ref 395), (.int 728 0), (.int 228 0), (.str (.ofString "/claim/cut.py") 729)]), #[]⟩) ::
  (nat_lit 397, ⟨(.type "function"), none, (.func ⟨(.ofString "_law_within"), (.ofString "_law_within"), a55, (.stmts b55), c55, 3, [], .none, .none, .none, (.str (.ofString "law_pb0018_01") 618), none, (.ref 396), .none, 0⟩), #[]⟩) ::
  (nat_lit 398, ⟨(.type "tuple"), none, (.seq #[] 0), #[]⟩) ::
  (nat_lit 400, ⟨(.type "tuple"), none, (.seq #[(.str (.ofString "t") 734), (.str (.ofString "op") 735), (.str (.ofString "x") 736), (.str (.ofString "y") 737), (.str (.ofString "left") 738)] 0), #[]⟩) ::
  (nat_lit 401, ⟨(.type "tuple"), none, (.seq #[] 0), #[]⟩) ::
  (nat_lit 403, ⟨(.type "code"), none, (.fields #[(.str (.ofString "_law_due") 731), (.str (.ofString "_law_due") 732), (.str (.ofString "/claim/cut.py") 733), (.int 234 0), (.int 4 0), (.int 0 0), (.int 0 0), (.int 3 0), (.ref 398), (.bool true), (.int 181 0), (.ref 399), .none, (.ref 400), (.ref 401), (.ref 402), (.int 739 0), (.int 234 0), (.str (.ofString "/claim/cut.py") 740)]), #[]⟩) ::
  (nat_lit 404, ⟨(.type "function"), none, (.func ⟨(.ofString "_law_due"), (.ofString "_law_due"), a56, (.stmts b56), c56, 3, [], .none, .none, .none, (.str (.ofString "law_pb0018_01") 618), none, (.ref 403), .none, 0⟩), #[]⟩) ::
  (nat_lit 405, ⟨(.type "tuple"), none, (.seq #[] 0), #[]⟩) ::
  (nat_lit 407, ⟨(.type "tuple"), none, (.seq #[(.str (.ofString "t") 745), (.str (.ofString "op") 746), (.str (.ofString "x") 747)] 0), #[]⟩) ::
  (nat_lit 408, ⟨(.type "tuple"), none, (.seq #[] 0), #[]⟩) ::
  (nat_lit 410, ⟨(.type "code"), none, (.fields #[(.str (.ofString "_law_lone") 742), (.str (.ofString "_law_lone") 743), (.str (.ofString "/claim/cut.py") 744), (.int 249 0), (.int 3 0), (.int 0 0), (.int 0 0), (.int 3 0), (.ref 405), (.bool true), (.int 181 0), (.ref 406), .none, (.ref 407), (.ref 408), (.ref 409), (.int 748 0), (.int 249 0), (.str (.ofString "/claim/cut.py") 749)]), #[]⟩) ::
  (nat_lit 411, ⟨(.type "function"), none, (.func ⟨(.ofString "_law_lone"), (.ofString "_law_lone"), a57, (.stmts b57), c57, 3, [], .none, .none, .none, (.str (.ofString "law_pb0018_01") 618), none, (.ref 410), .none, 0⟩), #[]⟩) ::
  (nat_lit 412, ⟨(.type "tuple"), none, (.seq #[] 0), #[]⟩) ::
  (nat_lit 414, ⟨(.type "tuple"), none, (.seq #[(.str (.ofString "deed") 754), (.str (.ofString "t") 755), (.str (.ofString "x") 756), (.str (.ofString "y") 757)] 0), #[]⟩) ::
  (nat_lit 415, ⟨(.type "tuple"), none, (.seq #[] 0), #[]⟩) ::
  (nat_lit 417, ⟨(.type "code"), none, (.fields #[(.str (.ofString "_law_of_two") 751), (.str (.ofString "_law_of_two") 752), (.str (.ofString "/claim/cut.py") 753), (.int 253 0), (.int 4 0), (.int 0 0), (.int 0 0), (.int 3 0), (.ref 412), (.bool true), (.int 181 0), (.ref 413), .none, (.ref 414), (.ref 415), (.ref 416), (.int 758 0), (.int 253 0), (.str (.ofString "/claim/cut.py") 759)]), #[]⟩) ::
  (nat_lit 418, ⟨(.type "function"), none, (.func ⟨(.ofString "_law_of_two"), (.ofString "_law_of_two"), a58, (.stmts b58), c58, 3, [], .none, .none, .none, (.str (.ofString "law_pb0018_01") 618), none, (.ref 417), .none, 0⟩), #[]⟩) ::
  (nat_lit 419, ⟨(.type "tuple"), none, (.seq #[] 0), #[]⟩) ::
  (nat_lit 421, ⟨(.type "tuple"), none, (.seq #[(.str (.ofString "deed") 764), (.str (.ofString "t") 765), (.str (.ofString "x") 766)] 0), #[]⟩) ::
  (nat_lit 422, ⟨(.type "tuple"), none, (.seq #[] 0), #[]⟩) ::
  (nat_lit 424, ⟨(.type "code"), none, (.fields #[(.str (.ofString "_law_of_one") 761), (.str (.ofString "_law_of_one") 762), (.str (.ofString "/claim/cut.py") 763), (.int 258 0), (.int 3 0), (.int 0 0), (.int 0 0), (.int 3 0), (.ref 419), (.bool true), (.int 181 0), (.ref 420), .none, (.ref 421), (.ref 422), (.ref 423), (.int 767 0), (.int 258 0), (.str (.ofString "/claim/cut.py") 768)]), #[]⟩) ::
  (nat_lit 425, ⟨(.type "function"), none, (.func ⟨(.ofString "_law_of_one"), (.ofString "_law_of_one"), a59, (.stmts b59), c59, 3, [], .none, .none, .none, (.str (.ofString "law_pb0018_01") 618), none, (.ref 424), .none, 0⟩), #[]⟩) ::
  (nat_lit 426, ⟨(.type "tuple"), none, (.seq #[] 0), #[]⟩) ::
  (nat_lit 429, ⟨(.type "code"), none, (.fields #[(.str (.ofString "law") 770), (.str (.ofString "law") 771), (.str (.ofString "/claim/cut.py") 772), (.int 263 0), (.int 1 0), (.int 0 0), (.int 0 0), (.int 3 0), (.ref 426), (.bool true), (.int 181 0), (.ref 427), .none, .none, .none, (.ref 428), (.int 773 0), (.int 263 0), (.str (.ofString "/claim/cut.py") 774)]), #[]⟩) ::
  (nat_lit 430, ⟨(.type "function"), none, (.func ⟨(.ofString "law"), (.ofString "law"), a60, (.stmts b60), c60, 3, [], .none, .none, .none, (.str (.ofString "law_pb0018_01") 618), none, (.ref 429), .none, 0⟩), #[]⟩) :: ([] : Frag))) _ (by conv => { lhs; whnf }) _ (by conv => { lhs; whnf }) _ (by conv => { lhs; whnf }) _ (by conv => { lhs; whnf }) _ (by conv => { lhs; whnf }) _ (by conv => { lhs; whnf }) _ (by conv => { lhs; whnf }) _ (by conv => { lhs; whnf }) _ (by conv => { lhs; whnf }) _ (by conv => { lhs; whnf }) _ (by conv => { lhs; whnf }) _ (by conv => { lhs; whnf }) _ (by conv => { lhs; whnf }) _ (by conv => { lhs; whnf }) _ (by conv => { lhs; whnf }) _ (by conv => { lhs; whnf }) _ (by conv => { lhs; whnf }) _ (by conv => { lhs; whnf }) _ (by conv => { lhs; whnf }) _ (by conv => { lhs; whnf }) _ (by conv => { lhs; whnf }) _ (by conv => { lhs; whnf }) _ (by conv => { lhs; whnf }) _ (by conv => { lhs; whnf }) _ (by conv => { lhs; whnf }) _ (by conv => { lhs; whnf }) _ (by conv => { lhs; whnf }) _ (by conv => { lhs; whnf }) _ (by conv => { lhs; whnf }) _ (by conv => { lhs; whnf }) _ (by conv => { lhs; whnf }) _ (by conv => { lhs; whnf }) _ (by conv => { lhs; whnf }) _ (by conv => { lhs; whnf }) _ (by conv => { lhs; whnf }) _ (by conv => { lhs; whnf }) _ (by conv => { lhs; whnf }) _ (by conv => { lhs; whnf }) _ (by conv => { lhs; whnf }) _ (by conv => { lhs; whnf }) _ (by conv => { lhs; whnf }) _ (by conv => { lhs; whnf }) _ (by conv => { lhs; whnf }) _ (by conv => { lhs; whnf }) _ (by conv => { lhs; whnf }) _ (by conv => { lhs; whnf }) _ (by conv => { lhs; whnf }) _ (by conv => { lhs; whnf }) _ (by conv => { lhs; whnf }) _ (by conv => { lhs; whnf }) _ (by conv => { lhs; whnf }) _ (by conv => { lhs; whnf }) _ (by conv => { lhs; whnf }) _ (by conv => { lhs; whnf }) _ (by conv => { lhs; whnf }) _ (by conv => { lhs; whnf }) _ (by conv => { lhs; whnf }) _ (by conv => { lhs; whnf }) _ (by conv => { lhs; whnf }) _ (by conv => { lhs; whnf }) _ (by conv => { lhs; whnf }) _ (by conv => { lhs; whnf }) _ (by conv => { lhs; whnf }) _ (by conv => { lhs; whnf }) _ (by conv => { lhs; whnf }) _ (by conv => { lhs; whnf }) _ (by conv => { lhs; whnf }) _ (by conv => { lhs; whnf }) _ (by conv => { lhs; whnf }) _ (by conv => { lhs; whnf }) _ (by conv => { lhs; whnf }) _ (by conv => { lhs; whnf }) _ (by conv => { lhs; whnf }) _ (by conv => { lhs; whnf }) _ (by conv => { lhs; whnf }) _ (by conv => { lhs; whnf }) _ (by conv => { lhs; whnf }) _ (by conv => { lhs; whnf }) _ (by conv => { lhs; whnf }) _ (by conv => { lhs; whnf }) _ (by conv => { lhs; whnf }) _ (by conv => { lhs; whnf }) _ (by conv => { lhs; whnf }) _ (by conv => { lhs; whnf }) _ (by conv => { lhs; whnf }) _ (by conv => { lhs; whnf }) _ (by conv => { lhs; whnf }) _ (by conv => { lhs; whnf }) _ (by conv => { lhs; whnf }) _ (by conv => { lhs; whnf }) _ (by conv => { lhs; whnf }) _ (by conv => { lhs; whnf }) _ (by conv => { lhs; whnf }) _ (by conv => { lhs; whnf }) _ (by conv => { lhs; whnf }) _ (by conv => { lhs; whnf }) _ (by conv => { lhs; whnf }) _ (by conv => { lhs; whnf }) _ (by conv => { lhs; whnf }) _ (by conv => { lhs; whnf }) _ (by conv => { lhs; whnf }) _ (by conv => { lhs; whnf }) _ (by conv => { lhs; whnf }) _ (by conv => { lhs; whnf }) _ (by conv => { lhs; whnf }) _ (by conv => { lhs; whnf }) _ (by conv => { lhs; whnf }) _ (by conv => { lhs; whnf }) _ (by conv => { lhs; whnf }) _ (by conv => { lhs; whnf }) _ (by conv => { lhs; whnf }) _ (by conv => { lhs; whnf }) _ (by conv => { lhs; whnf }) _ (by conv => { lhs; whnf }) _ (by conv => { lhs; whnf }) _ (by conv => { lhs; whnf }) _ (by conv => { lhs; whnf }) _ (by conv => { lhs; whnf }) _ (by conv => { lhs; whnf }) _ (by conv => { lhs; whnf }) _ (by conv => { lhs; whnf }) _ (by conv => { lhs; whnf }) _ (by conv => { lhs; whnf }) _ (by conv => { lhs; whnf }) _ (by conv => { lhs; whnf }) _ (by conv => { lhs; whnf }) _ (by conv => { lhs; whnf }) _ (by conv => { lhs; whnf }) _ (by conv => { lhs; whnf }) _ (by conv => { lhs; whnf }) _ (by conv => { lhs; whnf }) _ (by conv => { lhs; whnf }) _ (by conv => { lhs; whnf }) _ (by conv => { lhs; whnf }) _ (by conv => { lhs; whnf }) _ (by conv => { lhs; whnf }) _ (by conv => { lhs; whnf }) _ (by conv => { lhs; whnf }) _ (by conv => { lhs; whnf }) _ (by conv => { lhs; whnf }) _ (by conv => { lhs; whnf }) _ (by conv => { lhs; whnf }) _ (by conv => { lhs; whnf }) _ (by conv => { lhs; whnf }) _ (by conv => { lhs; whnf }) _ (by conv => { lhs; whnf }) _ (by conv => { lhs; whnf }) _ (by conv => { lhs; whnf }) _ (by conv => { lhs; whnf }) _ (by conv => { lhs; whnf }) _ (by conv => { lhs; whnf }) _ (by conv => { lhs; whnf }) _ (by conv => { lhs; whnf }) _ (by conv => { lhs; whnf }) _ (by conv => { lhs; whnf }) _ (by conv => { lhs; whnf }) _ (by conv => { lhs; whnf }) _ (by conv => { lhs; whnf }) _ (by conv => { lhs; whnf })
/-- the statements of the top that the head keeps: all but the five that bind the module's own name -/
noncomputable def keep : List Nat := (List.range 61).filter fun i => !(i == 0 || i == 3 || i == 8 || i == 40 || i == 46)
end Mine
namespace Mine
open PySem PySem.W PyProof.Rows PySem.Calls PySem.Spec
local macro_rules | `(tactic| walk_at "solve") => `(tactic| ((case kB => k_asm); (case kF => k_asm); (case kX => k_asm); (case kN => k_asm); (case kT => k_asm); (case kK => first | exact rfl | assumption); (case kd => ktr_room); (case ku => ktr_units)))
section
open Builtin Builtin.ObjectAttr
open Sem (wp)
theorem fillK : (fun (_ : OpenLaw) (_ : Params → Frag) => True) PySem.Challenge.rw_pb0018_01 Mine.K := by
  k_fill; trivial
noncomputable abbrev exTail : List Value := [.ref 31, .type "Exception", .type "BaseException", .type "object"]
noncomputable abbrev clsObj : Obj := excClassObj (Str.ofString "AdaRaise") (Str.ofString "AdaRaise") 51 50 [.ref 31] exTail true [] [] false none none (some (.ref 35)) none (some (.str (Str.ofString "AdaRaise") 218)) (some (.str (Str.ofString "AdaRaise") 226)) (some (.bool true)) "Exception.__new__"
noncomputable abbrev excO (t : Addr) : Obj := { cls := .ref 51, data := .fields #[.ref t, .none, .none, .none, .bool false, .none] }
noncomputable abbrev tupO (vs : List Value) : Obj := { cls := .type "tuple", data := .seq vs.toArray }
theorem cls_at {P : Params} {h : Heap} (X : (Mine.K P).In h) : h.get? 51 = some clsObj := X 51 clsObj (by kernel_rfl)
theorem ld_type {M : Model} {h : Heap} {x : Addr} {o : Obj} {c : Value} (e : h.get? x = some o) (hc : o.cls = c) : Looks M h (typeOf (.ref x)) c := by
  subst hc; exact (Looks.ld e).andThen .now
section
variable {prog : Program} {w : World} {A : Around} {R : Result → Shared → Prop} {h : Heap} {g : Array GenState} {d : Drawn} {t : Nat} {os : OsState}
theorem exc_new {rest : List Value} (X : (Mine.K w.params).In h)
    (hq : R (.ok (.ret (.ref (h.objs.size + 1)))) ⟨(h.push (tupO rest)).push (excO h.objs.size), g, d, t, os⟩) (hrest : rest.length ≤ sizeLine) :
    codeAny (model prog w) A (.builtin "Exception.__new__" ⟨.ref 51 :: rest, []⟩) R ⟨h, g, d, t, os⟩ := by
  have F := PySem.F.excBase_Exception
  have hC := cls_at X
  have hends := F.ends
  have hcB : (Value.ref 51 :: exTail).contains (.type "Exception") = true := by rfl
  have hcA : (Value.ref 51 :: exTail).contains (.type "AttributeError") = false := by rfl
  have hcN : (Value.ref 51 :: exTail).contains (.type "NameError") = false := by rfl
  refine codeAny_builtinAt F.entry ?_
  unfold Builtin.«BaseException.__new__»
  refine PySem.wpAt_bind ?_
  show PySem.wpAt _ _ _ (stack >>= _) _ _ _
  refine PySem.wpAt_bind (PySem.wpAt_stack fun p below => PySem.wpAt_of_wpAny ?_)
  wp_walk
  refine PySem.wpAt_of_wpAny ?_
  rw [F.owner]
  repeat (first | with_reducible refine wpAny_madeHere_exc F.canon hC ?_ | with_reducible refine wpAny_loadPart_at hC ?_ | (with_reducible refine wpAny_isSubtype_exc hC ?_; first | rw [hcB] | rw [hcA] | rw [hcN]) | wp_step)
  show R _ _
  rw [Heap.size_push]
  exact hq
theorem check_new {M : Model} {E : Value → Shared → Prop} {rest : List Value} {Q : Unit → Shared → Prop} (hC : h.get? 51 = some clsObj)
    (hq : Q () ⟨h, g, d, t, os⟩) : wpAny M A (checkBuiltinCall "Exception.__new__" ⟨.ref 51 :: rest, []⟩) Q E ⟨h, g, d, t, os⟩ := by
  have F := PySem.F.excBase_Exception
  have hcont : (Value.ref 51 :: exTail).contains (.type "Exception") = true := by rfl
  have hstar := F.noStar
  simp only [checkBuiltinCall, F.newKind, F.newSplit, F.newRow]
  repeat (first | refine wpAny_loadPart_at hC ?_ | (refine wpAny_isSubtype_exc hC ?_; rw [hcont]) | refine wpAny_staticBase_exc hC ?_ | refine wpAny_madeBy_exc hC ?_ | simp only [bne_self_eq_false, Bool.false_eq_true, if_false] | wp_step)
  exact hq
theorem make_exc {rest : List Value} (X : (Mine.K w.params).In h) (hrest : rest.length ≤ sizeLine)
    (hq : codeAny (model prog w) (A.under (.builtin "type.__call__" ⟨.ref 51 :: rest, []⟩)) (.call (.ref 48) ⟨.ref (h.objs.size + 1) :: rest, []⟩) (InitBack (h.objs.size + 1) R) ⟨(h.push (tupO rest)).push (excO h.objs.size), g, d, t, os⟩) :
    codeAny (model prog w) A (.call (.ref 51) ⟨rest, []⟩) R ⟨h, g, d, t, os⟩ := by
  have F := PySem.F.excBase_Exception
  have hC := cls_at X
  have call : Looks (model prog w) h (specialOf (.ref 51) "__call__") (some (.builtin "type.__call__")) := looks_specialIn X (by kernel_rfl)
  have typ : Looks (model prog w) h (isInstance (.ref 51) (.type "type")) true := looks_instIn X (by kernel_rfl)
  have self : Looks (model prog w) h (isSubtype (.ref 51) (.ref 51)) true := looks_subIn X (by kernel_rfl)
  have hi : Looks (model prog w) h (typeLookup (.ref 51) "__init__") (some (.ref 48)) := looks_findIn X (by kernel_rfl)
  have hb : ∀ s, Looks (model prog w) h (bindSpecial (.ref 48) s) (.ref 48, [s]) := fun s => bind_fn X s (by kernel_rfl)
  have made : Looks (model prog w) h (Bind.madeBy (.ref 51)) (some "Exception.__new__") := fun A Q E s k q => by
    obtain ⟨hp, g, d, t, os⟩ := s
    exact wpAny_madeBy_exc (k _ _ hC) q
  have hm : Looks (model prog w) h (mroOf (.ref 51)) (.ref 51 :: exTail) := ((Looks.ld (part := none) hC).andThen .now).andThen .now
  refine codeAny_of_tree ?_
  show wpAny _ _ (callAny (.ref 51) _) _ _ _
  refine nd_load hC ?_
  show wpAny _ _ (callAny.viaDunder (.ref 51) _) _ _ _
  unfold callAny.viaDunder
  refine wpAny_bind (call.at ?_)
  dsimp only
  rw [tc_bind]
  refine wpAny_bind (wpAny_pure (wpAny_bind (wpAny_pure ?_)))
  refine wpAny_pure (a := Fin.again (.call (.builtin "type.__call__") ⟨.ref 51 :: rest, []⟩)) (And.intro rfl ?_)
  refine codeAny_call_builtin_at (Code.quiet_builtin _ (by decide +kernel)) entry_typeCall (check_slot tc_kind tc_split typ (tc_args _ _ _) ?_)
  unfold Builtin.«type.__call__»
  repeat (first | with_reducible refine wpAny_call ?_ | lk)
  refine codeAny_call_builtin_code (Code.quiet_builtin _ F.quiet) (check_new hC ?_)
  refine exc_new X ?_ hrest
  have k : ∀ b o, h.get? b = some o → ((h.push (tupO rest)).push (excO h.objs.size)).get? b = some o := fun b o e => Heap.get?_push_of_some _ (Heap.get?_push_of_some _ e)
  have hx : ((h.push (tupO rest)).push (excO h.objs.size)).get? (h.objs.size + 1) = some (excO h.objs.size) := by heap_get
  have t1 : Looks (model prog w) ((h.push (tupO rest)).push (excO h.objs.size)) (typeOf (.ref (h.objs.size + 1))) (.ref 51) := (Looks.ld hx).andThen .now
  have s1 := self.keeps k
  have i1 := hi.keeps k
  have b1 := (hb (.ref (h.objs.size + 1))).keeps k
  show wpAny _ _ _ _ _ _
  unfold isInstance callSpecial? specialOf
  repeat (first | with_reducible refine wpAny_call ?_ | lk)
  refine codeAny_mono hq fun r s' z => ?_
  rcases r with e | (v | _ | _ | _) <;> first | exact z | exact z.elim | skip
  obtain ⟨rfl, z⟩ := z
  exact wpAny_pure (wpAny_pure z)
end
end
section
open Builtin Builtin.ObjectAttr
section
variable {prog : Program} {w : World} {A : Around} {E : Value → Shared → Prop} {s : Shared} {L : Addr} {h₀ : Heap} {m : Str → Option Value} {news : List (Addr × Obj)} {Q : Value → Shared → Prop}
theorem call_exc {pos : List Value} (F : Fr h₀ L s.heap m) (X₀ : (Mine.K w.params).In h₀) (N : News h₀ L s.heap news) (hrest : pos.length ≤ sizeLine)
    (h : ∀ e t h', Fr h₀ L h' m → News h₀ L h' ((e, excO t) :: (t, tupO pos) :: news) → (∀ p ∈ news, p.1 < t) → t < e →
      codeAny (model prog w) (A.under (.builtin "type.__call__" ⟨.ref 51 :: pos, []⟩)) (.call (.ref 48) ⟨.ref e :: pos, []⟩) (InitBack e fun r s' => match r with | .ok (.ret v) => Q v s' | .ok _ => False | .error e => E e s') { s with heap := h' }) :
    wpAny (model prog w) A (call (.ref 51) pos) Q E s := by
  refine wpAny_call ?_
  obtain ⟨hh, g, d, t, os⟩ := s
  refine make_exc (X₀.keeps F.keep) hrest (h _ hh.objs.size _ ((F.push _).push _) ?_ (fun p hp => Heap.lt_size (N p hp).1) (Nat.lt_succ_self _))
  have := (N.push F (tupO pos)).push (F.push _) (excO hh.objs.size)
  rwa [Heap.size_push] at this
theorem check_init {h : Heap} {g : Array GenState} {d : Drawn} {t : Nat} {os : OsState} {M : Model} {e : Addr} {oe : Obj} {rest : List Value} {Q : Unit → Shared → Prop}
    (hC : h.get? 51 = some clsObj) (he : h.get? e = some oe) (hcls : oe.cls = .ref 51) (hq : Q () ⟨h, g, d, t, os⟩) :
    wpAny M A (checkBuiltinCall "Exception.__init__" ⟨.ref e :: rest, []⟩) Q E ⟨h, g, d, t, os⟩ := by
  have F := PySem.F.excBase_Exception
  have hcB : (Value.ref 51 :: exTail).contains (.type "Exception") = true := by rfl
  have hshort := F.noStar
  simp only [checkBuiltinCall, F.initKind, F.initSplit, F.initRow]
  repeat (first | (with_reducible refine wpAny_loadPart_at he ?_; rw [hcls]) | with_reducible refine wpAny_loadPart_at hC ?_ | (with_reducible refine wpAny_isSubtype_exc hC ?_; rw [hcB]) | wp_step)
  refine wpAny_onRaise ?_
  rw [show ∀ (a b : String) (n : Nat), Bind.check ⟨.positional, "*", "Exception", .self, [⟨"args", .varPos, false⟩]⟩ a b n (List.map (fun x => x.fst) ({ pos := Value.ref e :: rest } : Args).kw) = pure () from
    fun a b n => check_star_args _ _ _ _ _ _]
  exact wpAny_pure hq
theorem exc_init {e t0 : Addr} {v : Value} (F : Fr h₀ L s.heap m) (X₀ : (Mine.K w.params).In h₀) (N : News h₀ L s.heap ((e, excO t0) :: news)) (hne : ∀ p ∈ news, p.1 ≠ e)
    (h : ∀ t h', Fr h₀ L h' m → News h₀ L h' ((t, tupO [v]) :: (e, excO t) :: news) → (∀ p ∈ news, p.1 < t) → e < t → Q .none { s with heap := h' }) :
    wpAny (model prog w) A (call (.builtin "Exception.__init__") [.ref e, v]) Q E s := by
  have FB := PySem.F.excBase_Exception
  obtain ⟨hh, g, d, tk, os⟩ := s
  have hC := cls_at (X₀.keeps F.keep)
  have he : hh.get? e = some (excO t0) := (N (e, excO t0) (.head _)).1
  have lt : e < hh.objs.size := Heap.lt_size he
  refine wpAny_call (codeAny_call_builtin FB.init.plain FB.initEntry (check_init hC he rfl ?_))
  have F1 := F.push (tupO [v])
  have N1 := N.push F (tupO [v])
  have U := news_upd (pre := [(hh.objs.size, tupO [v])]) (d := e) (o := excO t0) (o' := excO hh.objs.size) (post := news) (f := Obj.mapFields (·.setIfInBounds 0 (Value.ref hh.objs.size))) F1 N1
    (fun p hp => by rcases List.mem_cons.mp hp with rfl | hp; exact Nat.ne_of_gt lt; cases hp) hne (by rfl) rfl
  have K := h hh.objs.size _ U.1 U.2 (fun p hp => Heap.lt_size (N p (.tail _ hp)).1) lt
  wp_walk
  exact K
end
end
section
open Builtin Builtin.ObjectAttr
section
variable {M : Model} {A : Around} {E : Value → Shared → Prop} {s' : Shared} {base g : Heap} {outer : List Env} {L a e t : Addr} {m : Str → Option Value} {name : Str} {scope : Scope} {cd : Value} {Q : Unit → Shared → Prop} {news news' : List (Addr × Obj)}
theorem leave_exc {oe : Obj} {vs : List Value} (K : Below A base outer g) (F : Fr g L s'.heap m) (N : News g L s'.heap news') (he : (e, oe) ∈ news') (ht : (t, tupO vs) ∈ news') (hc : oe.cls = .ref 51)
    (hd : oe.data = .fields #[.ref t, .none, .none, .none, .bool false, .none]) (hn : ∀ p ∈ news, p ∈ news') (hne : ∀ p ∈ news, p.1 ≠ e ∧ p.1 ≠ t)
    (hQ : ∀ h', RaisedS base g outer e (.ref 51) t vs news h' → g.UpToSlots h' → Q () { s' with heap := h' }) (hk : scope.kind = .function) :
    wpAny M (A.deeper (envOf name scope L a cd)) (leaving (envOf name scope L a cd) (.ref e)) Q E s' := by
  have K' := K.push (name := name) (a := a) (cd := cd) F hk
  have be : base.get? e = none := fresh_of_stays K.stays (N _ he).2.2
  have bt : base.get? t = none := fresh_of_stays K.stays (N _ ht).2.2
  have nf : ∀ q ∈ news', q.1 ∉ (envOf name scope L a cd :: outer).filterMap (·.frame) := fun q hq hm => by
    obtain ⟨env, he, hf⟩ := List.mem_filterMap.mp hm
    rcases List.mem_cons.mp he with rfl | he
    · exact (N q hq).2.1 (Option.some.inj hf).symm
    · obtain ⟨o, ho, _⟩ := (K.frames.mem (List.mem_filterMap.mpr ⟨env, he, hf⟩)).2
      rw [(N q hq).2.2] at ho; cases ho
  generalize has : e :: t :: (envOf name scope L a cd :: outer).filterMap (·.frame) = as
  have hin : ∀ env ∈ (envOf name scope L a cd :: outer), ∀ b, env.frame = some b → b ∈ as := fun env he b hb => by
    subst has; exact .tail _ (.tail _ (List.mem_filterMap.mpr ⟨env, he, hb⟩))
  have st : base.StaysIn (hideAll s'.heap as) := fun b o q => hideAll_get _ (K'.stays b o q) fun hm => by
    subst has
    rcases List.mem_cons.mp hm with rfl | hm
    · rw [be] at q; cases q
    · rcases List.mem_cons.mp hm with rfl | hm
      · rw [bt] at q; cases q
      · rw [(K'.frames.mem hm).1] at q; cases q
  have sg : ∀ b o, g.get? b = some o → b ∉ outer.filterMap (·.frame) → (hideAll s'.heap as).get? b = some o := fun b o q nm => hideAll_get _ (F.keep b o q) fun hm => by
    subst has
    rcases List.mem_cons.mp hm with rfl | hm
    · rw [(N _ he).2.2] at q; cases q
    · rcases List.mem_cons.mp hm with rfl | hm
      · rw [(N _ ht).2.2] at q; cases q
      · rcases kts_mem hm with z | z
        · rw [z, kts_self F] at q; cases q
        · exact nm z
  have hl : ∀ q ∈ news, (hideAll s'.heap as).get? q.1 = some q.2 ∧ g.get? q.1 = none ∧ base.get? q.1 = none := fun q hq => by
    refine ⟨hideAll_get _ (N q (hn q hq)).1 fun hm => ?_, (N q (hn q hq)).2.2, fresh_of_stays K.stays (N q (hn q hq)).2.2⟩
    subst has
    rcases List.mem_cons.mp hm with h | hm
    · exact (hne q hq).1 h
    · rcases List.mem_cons.mp hm with h | hm
      · exact (hne q hq).2 h
      · exact nf q (hn q hq) hm
  have hen : (hideAll s'.heap as).get? e = none := hideAll_none as (by subst has; exact .head _)
  have htn : (hideAll s'.heap as).get? t = none := hideAll_none as (by subst has; exact .tail _ (.head _))
  refine wpAny_leaving_firstW (base := hideAll s'.heap as) (a0 := .ref t) K'.stack (funFrames_hide K'.frames hin) rfl (N _ he).1 (fun b o q => of_hideAll _ q) hen hd rfl rfl fun h' hL => ?_
  obtain ⟨k1, ⟨_, _, k2⟩, k3, k4⟩ := hL
  rw [hc] at k3
  exact hQ h' ⟨⟨_, st, sg, hl, ⟨k1, hen, k2, k3⟩, htn⟩, Heap.TupAt.of_slots ⟨_, _, (N _ ht).1, rfl, rfl⟩ k4⟩ ((Heap.UpToSlots.of_keeps F.keep).trans k4)
noncomputable def RaisableO (E : Value → Shared → Prop) (v : Value) (s₁ : Shared) : Prop :=
  ∃ a ob t, v = .ref a ∧ s₁.heap.get? 51 = some clsObj ∧ s₁.heap.get? a = some ob ∧ ob.cls = .ref 51 ∧ ob.data = .fields #[.ref t, .none, .none, .none, .bool false, .none] ∧ E (.ref a) s₁
theorem Raise_exc {M : Model} {A : Around} {E : Value → Shared → Prop} {s : Shared} {env : Env} {e : PySem.Expr} {pos : Pos} {Q : Flow → Shared → Prop} (hh : A.handled = none)
    (h : wpAny M A (eval e env) (RaisableO E) E s) : wpAny M A (exec (.Raise (some e) none pos) env) Q E s := by
  have hcB : (Value.ref 51 :: exTail).contains (.type "BaseException") = true := by rfl
  show wpAny M A (do standAt pos; raiseStmt env (some (do let v ← eval e env; standAt pos; pure v)) none) Q E s
  refine wpAny_bind (wpAny_standAt ?_)
  unfold raiseStmt
  dsimp only
  refine wpAny_bind (wpAny_bind (wpAny_mono h (fun v s₁ h₁ => wpAny_bind (wpAny_standAt (wpAny_pure ?_))) fun _ _ x => x))
  obtain ⟨a, ob, t, rfl, hC, he, hcls, hd, hE⟩ := h₁
  obtain ⟨hp, g, d, tk, os⟩ := s₁
  obtain ⟨oc, od, oda, osl⟩ := ob
  dsimp only at hcls hd
  subst hcls hd
  repeat (first | with_reducible refine wpAny_loadPart_at he ?_ | with_reducible refine wpAny_loadPart_at hC ?_ | (with_reducible refine wpAny_isSubtype_exc hC ?_; rw [hcB]) | wp_step)
  exact wpAny_raiseNew_none hh hE
end
end
section
open Builtin Builtin.ObjectAttr
noncomputable abbrev excD (t d : Addr) : Obj := { cls := .ref 51, dict := some d, data := .fields #[.ref t, .none, .none, .none, .bool false, .none] }
noncomputable abbrev clsD : ClassData := { name := Str.ofString "AdaRaise", bases := [.ref 31], mro := .ref 51 :: exTail, ns := 50, qualname := Str.ofString "AdaRaise", hasDict := true, slotNames := [], subclasses := [], abstract := false, collection := none, hasDel := false }
section
variable {prog : Program} {w : World} {A : Around} {E : Value → Shared → Prop} {s : Shared} {L : Addr} {h₀ : Heap} {m : Str → Option Value} {news : List (Addr × Obj)} {e t d : Addr} {o : Obj} {name : Str} {v : Value}
theorem osa_exc {tk : Tok} {R : Result → Shared → Prop} (X : (Mine.K w.params).In s.heap) (hx : s.heap.get? e = some o) (hc : o.cls = .ref 51) (ha : findIn (Mine.K w.params) (.ref 51) name = some none)
    (h : wpAny (model prog w) A.in1 (storeInOwnDict (.ref e) (.ref 51) (.str name tk) name v false)
      (fun fin s' => match fin with | .done f => R (.ok f) s' | .again c' => c'.quiet = true ∧ codeAny (model prog w) A c' R s') (fun e s' => R (.error e) s') s) :
    codeAny (model prog w) A (.call (.builtin "object.__setattr__") ⟨[.ref e, .str name tk, v], []⟩) R s := by
  have SF := PySem.F.store_object
  have ty : Looks (model prog w) s.heap (typeOf (.ref e)) (.ref 51) := ld_type hx hc
  have sub : Looks (model prog w) s.heap (isInstance (.ref e) (.type "object")) true := ty.andThen (looks_subIn X (by kernel_rfl))
  have hm : Looks (model prog w) s.heap (mroOf (.ref 51)) (.ref 51 :: exTail) := ((Looks.ld (part := none) (cls_at X)).andThen .now).andThen .now
  refine codeAny_call_builtin SF.slot.plain SF.entry (@check_slot (model prog w) _ _ s "object.__setattr__" "object" "__setattr__" (.ref e) [.str name tk, v] [] _ SF.kind SF.split sub (SF.args (.ref e) (.str name tk) v) ?_)
  rw [osa_eq, refuse_eq]
  refine wpAny_bind (wpAny_bind (ty.here (wpAny_bind (hm.here ?_))))
  rw [refuseLoop_ref, refuseLoop_ref, PySem.F.store_Exception.passes]
  exact wpAny_pure (wpAny_bind (ty.here (wpAny_bind ((looks_findIn X ha).here (wpAny_bind (wpAny_pure h))))))
theorem set_exc {Q : Unit → Shared → Prop} (X : (Mine.K w.params).In s.heap) (hx : s.heap.get? e = some o) (hc : o.cls = .ref 51)
    (h : codeAny (model prog w) A (.call (.builtin "object.__setattr__") ⟨[.ref e, .str name s.toks, v], []⟩) (fun r s' => match r with | .ok (.ret _) => Q () s' | .ok _ => False | .error e => E e s') { s with toks := s.toks + 1 }) :
    wpAny (model prog w) A (setAttr (.ref e) name v) Q E s := by
  have ty : Looks (model prog w) s.heap (typeOf (.ref e)) (.ref 51) := ld_type hx hc
  have hs : findIn (Mine.K w.params) (.ref 51) "__setattr__" = some (some (.builtin "object.__setattr__")) := by kernel_rfl
  refine wpAny_bind (wpAny_mkText (wpAny_bind (wpAny_bind (wpAny_bind (ty _ _ _ _ (fun _ _ e => e) (looks_findIn X hs _ _ _ _ (fun _ _ e => e) (wpAny_holding ?_)))))))
  rw [PySem.F.store_object.slot.bind]
  refine wpAny_bind (wpAny_pure (wpAny_bind (wpAny_call (codeAny_mono h fun r s' z => ?_))))
  rcases r with e | (v | _ | _ | _) <;> first | exact z | exact wpAny_pure (wpAny_pure z)
theorem cls_data {M : Model} {h : Heap} (X : (Mine.K w.params).In h) : Looks M h (classData 51) clsD := looks_clsIn X (by kernel_rfl)
theorem exc_set0 {v0 : Value} {Q : Unit → Shared → Prop} (F : Fr h₀ L s.heap m) (X₀ : (Mine.K w.params).In h₀) (N : News h₀ L s.heap ((t, tupO [v0]) :: (e, excO t) :: news)) (hte : e < t) (hne : ∀ p ∈ news, p.1 < e)
    (ha : findIn (Mine.K w.params) (.ref 51) name = some none)
    (h : ∀ d h', Fr h₀ L h' m → News h₀ L h' ((d, dictOf [⟨PyData.keyHash w.params name, .str name (s.toks + 1), v⟩] 1) :: (t, tupO [v0]) :: (e, excD t d) :: news) → t < d → Q () { s with heap := h', toks := s.toks + 2 }) :
    wpAny (model prog w) A (setAttr (.ref e) name v) Q E s := by
  obtain ⟨hh, g, dd, tk, os⟩ := s
  have X := X₀.keeps F.keep
  have hx : hh.get? e = some (excO t) := (N (e, excO t) (.tail _ (.head _))).1
  have lt : t < hh.objs.size := Heap.lt_size (N _ (.head _)).1
  have F1 := F.push emptyDict
  have N1 := N.push F emptyDict
  have U := news_upd (pre := [(hh.objs.size, emptyDict), (t, tupO [v0])]) (d := e) (o := excO t) (o' := excD t hh.objs.size) (post := news) (f := fun o => { o with dict := some hh.objs.size }) F1 N1
    (fun p hp => by rcases List.mem_cons.mp hp with rfl | hp; exact Nat.ne_of_gt (Nat.lt_trans hte lt); rcases List.mem_cons.mp hp with rfl | hp; exact Nat.ne_of_gt hte; cases hp) (fun p hp => Nat.ne_of_lt (hne p hp)) (by rfl) rfl
  have U2 := news_upd (pre := []) (d := hh.objs.size) (o := emptyDict) (o' := dictOf [⟨PyData.keyHash w.params name, .str name (tk + 1), v⟩] 1) (post := (t, tupO [v0]) :: (e, excD t hh.objs.size) :: news)
    (f := Obj.putName name (PyData.keyHash w.params name) (.str name (tk + 1)) v) U.1 U.2 (fun p hp => nomatch hp)
    (fun p hp => by
      rcases List.mem_cons.mp hp with rfl | hp
      · exact Nat.ne_of_lt lt
      · rcases List.mem_cons.mp hp with rfl | hp
        · exact Nat.ne_of_lt (Nat.lt_trans hte lt)
        · exact Nat.ne_of_lt (Nat.lt_trans (hne p hp) (Nat.lt_trans hte lt))) (by rfl) rfl
  have K := h hh.objs.size _ U2.1 U2.2 lt
  have D := (U.2 (hh.objs.size, emptyDict) (by simp)).1
  have D' := (U2.2 (hh.objs.size, dictOf [⟨PyData.keyHash w.params name, .str name (tk + 1), v⟩] 1) (by simp)).1
  have hx₁ : (hh.push emptyDict).get? e = some (excO t) := Heap.get?_push_of_some _ hx
  refine set_exc X hx rfl (osa_exc X hx rfl ha ?_)
  refine wpAny_bind (wpAny_pure (wpAny_bind (wpAny_bind (wpAny_loadPart hx (wpAny_bind (cls_data X _ _ _ _ (fun _ _ e => e) ?_))))))
  refine wpAny_bind (wpAny_alloc (wpAny_bind (wpAny_update hx₁ (wpAny_pure (wpAny_bind (wpAny_pure (wpAny_bind ?_)))))))
  unfold nsSet
  refine wpAny_bind (wpAny_bind (wpAny_askSetting (wpAny_pure (wpAny_bind (wpAny_mkText (wpAny_bind (wpAny_loadPart D ?_)))))))
  dsimp only
  rw [aRefKeyMayBeTheName_at, show (!(#[] : Array DictEntry).any (·.key.isStr name) && (#[] : Array DictEntry).any (·.refKey)) = false from by simp]
  refine wpAny_updatePart D ?_
  refine wpAny_bind (wpAny_lookBehind D' (by exact pastItsLine_dict (by rw [List.size_toArray, sizeLine_eq]; exact Nat.le_of_ble_eq_true rfl)) ?_)
  exact wpAny_pure K
theorem exc_set {es es' : List DictEntry} {n n' : Nat} {news' : List (Addr × Obj)} {Q : Unit → Shared → Prop} (F : Fr h₀ L s.heap m) (X₀ : (Mine.K w.params).In h₀) (N : News h₀ L s.heap news) (he : (e, excD t d) ∈ news)
    (ha : findIn (Mine.K w.params) (.ref 51) name = some none) (hl : (getL name es).isSome = true)
    (eq : (putL name (PyData.keyHash w.params name) (.str name (s.toks + 1)) v es, putN name es n) = (es', n')) (U : Upd d (dictOf es n) (dictOf es' n') news news') (hz : es'.length ≤ 1000)
    (h : ∀ h', Fr h₀ L h' m → News h₀ L h' news' → Q () { s with heap := h', toks := s.toks + 2 }) :
    wpAny (model prog w) A (setAttr (.ref e) name v) Q E s := by
  obtain ⟨pre, post, rfl, rfl, h1, h2⟩ := U.split
  obtain ⟨e1, e2⟩ := Prod.mk.inj eq
  obtain ⟨hh, g, dd, tk, os⟩ := s
  have X := X₀.keeps F.keep
  have hx : hh.get? e = some (excD t d) := (N _ he).1
  have ee : Obj.putName name (PyData.keyHash w.params name) (.str name (tk + 1)) v (dictOf es n) = dictOf es' n' := by rw [putName_dict, e1, e2]
  have U := news_upd (f := Obj.putName name (PyData.keyHash w.params name) (.str name (tk + 1)) v) F N h1 h2 ee rfl
  have K := h _ U.1 U.2
  have D := (N (d, dictOf es n) (by simp)).1
  have D' := (U.2 (d, dictOf es' n') (by simp)).1
  refine set_exc X hx rfl (osa_exc X hx rfl ha ?_)
  refine wpAny_bind (wpAny_pure (wpAny_bind (wpAny_bind (wpAny_loadPart hx (wpAny_bind (cls_data X _ _ _ _ (fun _ _ e => e) ?_))))))
  refine wpAny_pure (a := some d) (wpAny_bind (wpAny_pure (wpAny_bind ?_)))
  unfold nsSet
  refine wpAny_bind (wpAny_bind (wpAny_askSetting (wpAny_pure (wpAny_bind (wpAny_mkText (wpAny_bind (wpAny_loadPart D ?_)))))))
  have c : (!es.toArray.any (·.key.isStr name) && es.toArray.any (·.refKey)) = false := by
    unfold getL at hl
    rw [← Array.any_toList, ← Array.any_toList]
    dsimp only
    split at hl
    · rename_i en he
      rw [List.any_eq_true.mpr ⟨en, List.mem_of_find?_eq_some he, List.find?_some he⟩]; rfl
    · split at hl
      · cases hl
      · rename_i z; rw [Bool.not_eq_true] at z; rw [z, Bool.and_false]
  dsimp only
  rw [aRefKeyMayBeTheName_at, c]
  refine wpAny_updatePart D ?_
  refine wpAny_bind (wpAny_lookBehind D' (by exact pastItsLine_dict (by rw [List.size_toArray, sizeLine_eq]; omega)) ?_)
  exact wpAny_pure K
end
end
section
open Builtin Builtin.ObjectAttr
noncomputable def Raises (base : Heap) (l : List Env) (news : List (Addr × Obj)) (h₀ : Heap) (L : Addr) (m : Str → Option Value) (s : Shared) (E : Value → Shared → Prop) : Prop :=
  ∀ (e t : Addr) (vs : List Value) (g h' : Heap) (tk : Nat), Fr h₀ L g m → g.UpToSlots h' → RaisedS base g l e (.ref 51) t vs news h' → E (.ref e) { s with heap := h', toks := tk }
local macro_rules | `(tactic| k_mem) => `(tactic| assumption)
local macro_rules | `(tactic| k_room) => `(tactic| ktr_room)
theorem exc_type : typeOf (.type "Exception") = pure (.type "type") := by kernel_rfl
local macro_rules | `(tactic| walk_at "getMethod type:Exception") => `(tactic| (k_here; refine' method_type ?F ?X ?m (by decide +kernel) ?e ?h ?_; (case F => k_asm); (case X => k_asm); (case m => exact exc_type); (case e => k_dflt k_is); (case h => k_handed)))
local macro_rules | `(tactic| walk_at "exec Raise some none") => `(tactic| (k_here; refine' Raise_exc rfl ?_))
local macro_rules | `(tactic| walk_at "call ref") => `(tactic| (k_here; (with_reducible show wpAny _ _ (call (Value.ref 51) _) _ _ _); fail_if_success skip))
theorem refuse_c {prog : Program} {w : World} {p : Program} {loose : List Str} {mean : ExcName → Option Value} {mg mb : Str → Option Value}
  (news : List (Addr × Obj)) (dp un : Nat) (gd : Option (List Code)) (cn : Str) (cs : Scope) (a : Addr) (ccd : Value) (cl : List (Str × Addr)) (outer : List Env) (A₀ : Around) (base h₀ : Heap) (L : Addr) (m : Str → Option Value) (s : Shared) (Q E : Value → Shared → Prop)
  (B : Below A₀ base outer h₀) (F : Fr h₀ L s.heap m) (X : (Mine.K w.params).In h₀) (N : News h₀ L s.heap news) (T : Top p loose mean mg mb h₀) (hk : cs.kind = .function)
  (x : Str) (t1 : Tok) (hd : dp + 4 < recursionLimit) (hu : un + 32 < cLine)
  (hE : Raises base (envX cn cs L a ccd cl :: outer) news h₀ L m s E) :
  wpAny (model prog w) (ktrTop dp un gd cn cs L a ccd cl outer) (call (.ref 60) [.str x t1]) Q E s := by
  refine wpAny_call ?_
  k_dflt cell_enter
  k_steps
  refine' call_exc ?k1 ?k2 ?k3 ?k4 ?_
  (case k1 => k_asm); (case k2 => k_asm); (case k3 => k_asm); (case k4 => size_fits)
  intro e t h1 F1 N1 l1 l2
  (try k_sweep)
  k_dflt k_enter
  k_steps
  refine' exc_init ?k1 ?k2 ?k3 ?k4 ?_
  (case k1 => k_asm); (case k2 => k_asm); (case k3 => k_asm)
  (case k4 => (intro p hp; rcases List.mem_cons.mp hp with rfl | hp; exact Nat.ne_of_lt l2; exact Nat.ne_of_lt (Nat.lt_trans (l1 p hp) l2)))
  intro t2 h2 F2 N2 _ l3
  (try k_sweep)
  k_steps
  refine' exc_set0 ?k1 ?k2 ?k3 l3 ?k4 ?k5 ?_
  (case k1 => k_asm); (case k2 => k_asm); (case k3 => k_asm)
  (case k4 => (intro p hp; rcases List.mem_cons.mp hp with rfl | hp; exact l2; exact (Nat.lt_trans (l1 p hp) l2)))
  (case k5 => k_dflt k_is)
  intro d3 h3 F3 N3 l4
  (try k_sweep)
  k_steps
  have hd3 : ∀ {o1 o2 o3 : Obj}, ∀ p ∈ (t2, o1) :: (e, o2) :: (t, o3) :: news, p.1 ≠ d3 := by
    intro o1 o2 o3 p hp
    have a1 := l1 p
    rcases List.mem_cons.mp hp with rfl | hp
    · exact Nat.ne_of_lt l4
    rcases List.mem_cons.mp hp with rfl | hp
    · exact Nat.ne_of_lt (Nat.lt_trans l3 l4)
    rcases List.mem_cons.mp hp with rfl | hp
    · exact Nat.ne_of_lt (Nat.lt_trans l2 (Nat.lt_trans l3 l4))
    · exact Nat.ne_of_lt (Nat.lt_trans (a1 hp) (Nat.lt_trans l2 (Nat.lt_trans l3 l4)))
  iterate 3
    refine' exc_set (e := e) (t := t2) (d := d3) ?k1 ?k2 ?k3 ?k4 ?k5 ?k6 ?k7 (Upd.head hd3) ?k8 ?_
    (case k1 => k_asm); (case k2 => k_asm); (case k3 => k_asm)
    (case k4 => k_mem)
    (case k5 => k_dflt k_is)
    (case k6 => rfl)
    (case k7 => k_dflt k_put)
    (case k8 => exact Nat.le_of_ble_eq_true rfl)
    intro h4 F4 N4
    (try k_sweep)
    k_steps
  refine ⟨e, excD t2 d3, t2, rfl, cls_at (Frag.In.keeps (by k_asm) (Fr.keep (by k_asm))), (News.get (by k_asm) (by k_mem)), rfl, rfl, ?_⟩
  refine leave_exc (news := news) (vs := [.str x t1]) (t := t2) (by assumption) (by k_asm) (by k_asm) (by k_mem) (by k_mem) rfl rfl (fun p hp => .tail _ (.tail _ (.tail _ (.tail _ hp))))
    (fun p hp => ⟨Nat.ne_of_lt (Nat.lt_trans (l1 p hp) l2), Nat.ne_of_lt (Nat.lt_trans (Nat.lt_trans (l1 p hp) l2) l3)⟩) (fun h9 R9 U9 => ?_) rfl
  exact hE e t2 _ _ h9 _ (by assumption) U9 R9
end
local macro_rules | `(tactic| k_mem) => `(tactic| assumption)
local macro_rules | `(tactic| k_room) => `(tactic| ktr_room)
/-- what a call of the def at f with vs does, in any frame, over a ledger news: it hands back r with P r, or (only if R) raises AdaRaise; the ledger stands -/
noncomputable def Deed (w : World) (f : Addr) (vs : List Value) (news : List (Addr × Obj)) (k : Nat) (P : Value → Prop) (R : Prop) : Prop :=
  ∀ (prog : Program) (p : Program) (loose : List Str) (mean : ExcName → Option Value) (mg mb : Str → Option Value) (dp un : Nat) (gd : Option (List Code)) (cn : Str) (cs : Scope) (a : Addr) (ccd : Value) (cl : List (Str × Addr)) (outer : List Env) (A₀ : Around) (base h₀ : Heap) (L : Addr) (m : Str → Option Value) (s : Shared) (Q E : Value → Shared → Prop),
    Below A₀ base outer h₀ → Fr h₀ L s.heap m → (Mine.K w.params).In h₀ → News h₀ L s.heap news → Top p loose mean mg mb h₀ → cs.kind = .function → dp + k < recursionLimit → un + 8 * k < cLine →
    (∀ (r : Value) (h' : Heap) (tk' : Nat), P r → Fr h₀ L h' m → News h₀ L h' news → Q r { s with heap := h', toks := tk' }) →
    (R → Raises base (envX cn cs L a ccd cl :: outer) news h₀ L m s E) →
    wpAny (model prog w) (ktrTop dp un gd cn cs L a ccd cl outer) (call (.ref f) vs) Q E s
theorem Deed.use {w : World} {f : Addr} {vs : List Value} {news : List (Addr × Obj)} {k : Nat} {P : Value → Prop} {R : Prop} (D : Deed w f vs news k P R)
    {prog p : Program} {loose : List Str} {mean : ExcName → Option Value} {mg mb : Str → Option Value} {dp un : Nat} {gd : Option (List Code)} {cn : Str} {cs : Scope} {a : Addr} {ccd : Value} {cl : List (Str × Addr)} {outer : List Env} {A₀ : Around} {base h₀ : Heap} {L : Addr} {m : Str → Option Value} {s : Shared} {Q E : Value → Shared → Prop}
    (B : Below A₀ base outer h₀) (F : Fr h₀ L s.heap m) (X : (Mine.K w.params).In h₀) (N : News h₀ L s.heap news) (T : Top p loose mean mg mb h₀) (hk : cs.kind = .function) (hd : dp + k < recursionLimit) (hu : un + 8 * k < cLine)
    (ret : ∀ (r : Value) (h' : Heap) (tk' : Nat), P r → Fr h₀ L h' m → News h₀ L h' news → Q r { s with heap := h', toks := tk' })
    (rai : R → Raises base (envX cn cs L a ccd cl :: outer) news h₀ L m s E) :
    wpAny (model prog w) (ktrTop dp un gd cn cs L a ccd cl outer) (call (.ref f) vs) Q E s := D _ _ _ _ _ _ _ _ _ _ _ _ _ _ _ _ _ _ _ _ _ _ _ B F X N T hk hd hu ret rai
inductive OutI (v : Int) : Value → Prop
  | mk (tk : Tok) : OutI v (.int v tk)
inductive OutB (b : Bool) : Value → Prop
  | mk : OutB b (.bool b)
inductive OutN : Value → Prop
  | mk : OutN .none
inductive OutO : Option Int → Value → Prop
  | none : OutO none .none
  | some (v : Int) (tk : Tok) : OutO (some v) (.int v tk)
noncomputable def wi (lo hi v : Int) : Option Int := if lo ≤ v ∧ v ≤ hi then some v else none
theorem wi_in {lo hi v : Int} (h1 : lo ≤ v) (h2 : v ≤ hi) : wi lo hi v = some v := if_pos ⟨h1, h2⟩
theorem wi_out {lo hi v : Int} (h : ¬ (lo ≤ v ∧ v ≤ hi)) : wi lo hi v = none := if_neg h
theorem wi_some {lo hi v u : Int} (h : wi lo hi v = some u) : u = v ∧ lo ≤ v ∧ v ≤ hi := by
  unfold wi at h; split at h
  · exact ⟨(Option.some.inj h).symm, by assumption⟩
  · cases h
noncomputable abbrev GiveO (o : Option Int) (r : Value) : Prop := ∃ v, o = some v ∧ OutI v r
theorem refuse_d {w : World} {news : List (Addr × Obj)} (x : Str) (t1 : Tok) : Deed w 60 [.str x t1] news 4 (fun _ => False) True := by
  intro prog p loose mean mg mb dp un gd cn cs a ccd cl outer A₀ base h₀ L m s Q E B F X N T hk hd hu ret hE
  exact refuse_c news dp un gd cn cs a ccd cl outer A₀ base h₀ L m s Q E B F X N T hk x t1 hd (by omega) (hE trivial)
local macro_rules | `(tactic| walk_at "leaving ref") => `(tactic| (k_here; (refine' leave_onS ?k1 ?k2 ?k3 ?k4 ?_; (case k3 => assumption); (case k2 => assumption); (case k1 => assumption); (case k4 => assumption); k_whole; intro h' S' R' U'; (clear R'); (try dsimp only at S' U' ⊢))))
local macro_rules | `(tactic| k_get) => `(tactic| assumption)
local macro_rules | `(tactic| walk_at "call ref") => `(tactic| (k_here; (with_reducible show wpAny _ _ (call (Value.ref 60) _) _ _ _); k_dflt (refine' Deed.use (refuse_d _ _) ?kB ?kF ?kX ?kN ?kT ?kK ?kd ?ku ?kr ?_; walk_at "solve"; (case kr => exact fun _ _ _ h9 => h9.elim); k_whole; intro _ e9 t9 vs9 g9 h9 tk9 F9 U9 R9)))
section
variable {w : World} {news : List (Addr × Obj)} {t dt : Addr} {es : List DictEntry} {n : Nat} {lo hi md : Int} {kd : Str} {ik il ih im : Tok}
theorem check_base_d (ht : (t, instObj 308 dt) ∈ news) (hdt : (dt, dictOf es n) ∈ news) (gl : getL (Str.ofString "low") es = some (some (.int lo il))) (gh : getL (Str.ofString "high") es = some (some (.int hi ih))) (v : Int) (tv : Tok) : Deed w 74 [.ref t, .int v tv] news 6 (GiveO (wi lo hi v)) (wi lo hi v = none) := by
  intro prog p loose mean mg mb dp un gd cn cs a ccd cl outer A₀ base h₀ L m s Q E B F X N T hk hd hu ret hE
  refine wpAny_call ?_
  k_dflt cell_enter
  k_steps
  all_goals first
    | (refine' ret _ _ _ ?ep ?ef ?en; (case ef => k_asm); (case en => first | k_asm | exact cb_drop (by k_asm) (fun p hp => by repeat (first | exact hp | refine List.Mem.tail _ ?_))); (case ep => exact ⟨v, wi_in (by omega) (by omega), .mk _⟩))
    | (refine' hE ?er _ _ _ _ _ _ ?ef ?eu ?ed; (case eu => assumption); (case ed => assumption); (case ef => assumption); (case er => exact wi_out (by omega)))
end
theorem fdiv_tdiv {a b : Int} (ha : 0 ≤ a) (hb : 0 ≤ b) : a.fdiv b = a.tdiv b := by
  rw [Int.fdiv_eq_ediv_of_nonneg a hb, Int.tdiv_eq_ediv_of_nonneg ha]
theorem cut_eq1 {x y : Int} (h : (decide (x < 0) != decide (y < 0)) = false) : (if x < 0 then -x else x).fdiv (if y < 0 then -y else y) = Int.tdiv x y := by
  by_cases h1 : x < 0 <;> by_cases h2 : y < 0 <;> simp only [h1, h2, decide_true, decide_false, if_true, if_false] at h ⊢ <;> first | (exact absurd h (by decide)) | skip
  · rw [fdiv_tdiv (by omega) (by omega), Int.neg_tdiv, Int.tdiv_neg, Int.neg_neg]
  · rw [fdiv_tdiv (by omega) (by omega)]
theorem cut_eq2 {x y : Int} (h : (decide (x < 0) != decide (y < 0)) = true) : -(if x < 0 then -x else x).fdiv (if y < 0 then -y else y) = Int.tdiv x y := by
  by_cases h1 : x < 0 <;> by_cases h2 : y < 0 <;> simp only [h1, h2, decide_true, decide_false, if_true, if_false] at h ⊢ <;> first | (exact absurd h (by decide)) | skip
  · rw [fdiv_tdiv (by omega) (by omega), Int.neg_tdiv, Int.neg_neg]
  · rw [fdiv_tdiv (by omega) (by omega), Int.tdiv_neg, Int.neg_neg]
theorem abs_ne {y : Int} (h : y ≠ 0) : (if y < 0 then -y else y) ≠ 0 := by split <;> omega
theorem noPyl {x y : Int} (h1 : -4611686018427387904 < y) (h2 : y < 4611686018427387904) : Builtin.divisionGoesByPylong x y = false := by
  refine PyProof.noPylong_of_log2 ?_
  by_cases h0 : y.natAbs = 0
  · rw [h0]; decide +kernel
  · have h30 : y.natAbs.log2 < 62 := (Nat.log2_lt h0).mpr (by omega)
    omega
local macro_rules | `(tactic| walk_at "binaryOp FloorDiv int int") => `(tactic| (k_here; (refine' floordiv_int ?kb ?_ (Or.inl (noPyl ?kp ?kq)); (case kb => first | omega | exact abs_ne (by omega)); (case kp => omega); (case kq => omega))))
section
variable {w : World} {news : List (Addr × Obj)} {t dt : Addr} {es : List DictEntry} {n : Nat} {lo hi md : Int} {kd : Str} {ik il ih im : Tok}
theorem need_divisor_d (y : Int) (ty : Tok) : Deed w 109 [.int y ty] news 6 (fun r => y ≠ 0 ∧ OutN r) (y = 0) := by
  intro prog p loose mean mg mb dp un gd cn cs a ccd cl outer A₀ base h₀ L m s Q E B F X N T hk hd hu ret hE
  refine wpAny_call ?_
  k_dflt cell_enter
  k_steps
  all_goals first
    | (refine' ret _ _ _ ?ep ?ef ?en; (case ef => k_asm); (case en => first | k_asm | exact cb_drop (by k_asm) (fun p hp => by repeat (first | exact hp | refine List.Mem.tail _ ?_))); (case ep => exact ⟨by omega, .mk⟩))
    | (refine' hE ?er _ _ _ _ _ _ ?ef ?eu ?ed; (case eu => assumption); (case ed => assumption); (case ef => assumption); (case er => omega))
theorem cut_d (x y : Int) (tx ty : Tok) (hy : y ≠ 0) (y1 : -4611686018427387904 < y) (y2 : y < 4611686018427387904) : Deed w 81 [.int x tx, .int y ty] news 2 (OutI (Int.tdiv x y)) False := by
  intro prog p loose mean mg mb dp un gd cn cs a ccd cl outer A₀ base h₀ L m s Q E B F X N T hk hd hu ret hE
  refine wpAny_call ?_
  k_dflt cell_enter
  k_steps
  all_goals first
    | (refine' ret _ _ _ ?ep ?ef ?en; (case ef => k_asm); (case en => first | k_asm | exact cb_drop (by k_asm) (fun p hp => by repeat (first | exact hp | refine List.Mem.tail _ ?_))); (case ep => first | (rw [cut_eq1 (by assumption)]; exact .mk _) | (rw [cut_eq2 (by assumption)]; exact .mk _)))
    | (refine' hE ?er _ _ _ _ _ _ ?ef ?eu ?ed; (case eu => assumption); (case ed => assumption); (case ef => assumption); (case er => skip))
local macro_rules | `(tactic| walk_at "call ref") => `(tactic| (k_here; (with_reducible show wpAny _ _ (call (Value.ref 74) _) _ _ _); k_dflt (refine' Deed.use (check_base_d ?ht ?hdt ?gl ?gh _ _) ?kB ?kF ?kX ?kN ?kT ?kK ?kd ?ku ?_ ?_; walk_at "solve"; (case ht => k_mem); (case hdt => k_mem); (case gl => assumption); (case gh => assumption); (focus (intro r9 h9 tk9 P9 F9 N9; (try k_sweep); (obtain ⟨v9, w9, ⟨tk8⟩⟩ := P9))); rotate_left; (focus (intro c9 e9 t9 vs9 g9 h9 tk9 F9 U9 R9)); rotate_right)))
local macro_rules | `(tactic| walk_at "call ref") => `(tactic| (k_here; (with_reducible show wpAny _ _ (call (Value.ref 109) _) _ _ _); k_dflt (refine' Deed.use (need_divisor_d _ _) ?kB ?kF ?kX ?kN ?kT ?kK ?kd ?ku ?_ ?_; walk_at "solve"; (focus (intro r9 h9 tk9 P9 F9 N9; (try k_sweep); (obtain ⟨c9, ⟨⟩⟩ := P9))); rotate_left; (focus (intro c9 e9 t9 vs9 g9 h9 tk9 F9 U9 R9)); rotate_right)))
local macro_rules | `(tactic| walk_at "call ref") => `(tactic| (k_here; (with_reducible show wpAny _ _ (call (Value.ref 81) _) _ _ _); k_dflt (refine' Deed.use (cut_d _ _ _ _ ?hy ?y1 ?y2) ?kB ?kF ?kX ?kN ?kT ?kK ?kd ?ku ?_ ?ke; walk_at "solve"; (case hy => omega); (case y1 => omega); (case y2 => omega); (case ke => exact fun h9 => h9.elim); intro r9 h9 tk9 P9 F9 N9; (try k_sweep); (obtain ⟨tk8⟩ := P9))))
theorem whole_add_d (ht : (t, instObj 308 dt) ∈ news) (hdt : (dt, dictOf es n) ∈ news) (gl : getL (Str.ofString "low") es = some (some (.int lo il))) (gh : getL (Str.ofString "high") es = some (some (.int hi ih))) (x y : Int) (tx ty : Tok) : Deed w 88 [.ref t, .int x tx, .int y ty] news 8 (GiveO (wi lo hi (x + y))) (wi lo hi (x + y) = none) := by
  intro prog p loose mean mg mb dp un gd cn cs a ccd cl outer A₀ base h₀ L m s Q E B F X N T hk hd hu ret hE
  refine wpAny_call ?_
  k_dflt cell_enter
  k_steps
  all_goals first
    | (refine' ret _ _ _ ?ep ?ef ?en; (case ef => k_asm); (case en => first | k_asm | exact cb_drop (by k_asm) (fun p hp => by repeat (first | exact hp | refine List.Mem.tail _ ?_))); (case ep => exact ⟨_, by assumption, .mk _⟩))
    | (refine' hE ?er _ _ _ _ _ _ ?ef ?eu ?ed; (case eu => assumption); (case ed => assumption); (case ef => assumption); (case er => assumption))
theorem whole_sub_d (ht : (t, instObj 308 dt) ∈ news) (hdt : (dt, dictOf es n) ∈ news) (gl : getL (Str.ofString "low") es = some (some (.int lo il))) (gh : getL (Str.ofString "high") es = some (some (.int hi ih))) (x y : Int) (tx ty : Tok) : Deed w 95 [.ref t, .int x tx, .int y ty] news 8 (GiveO (wi lo hi (x - y))) (wi lo hi (x - y) = none) := by
  intro prog p loose mean mg mb dp un gd cn cs a ccd cl outer A₀ base h₀ L m s Q E B F X N T hk hd hu ret hE
  refine wpAny_call ?_
  k_dflt cell_enter
  k_steps
  all_goals first
    | (refine' ret _ _ _ ?ep ?ef ?en; (case ef => k_asm); (case en => first | k_asm | exact cb_drop (by k_asm) (fun p hp => by repeat (first | exact hp | refine List.Mem.tail _ ?_))); (case ep => exact ⟨_, by assumption, .mk _⟩))
    | (refine' hE ?er _ _ _ _ _ _ ?ef ?eu ?ed; (case eu => assumption); (case ed => assumption); (case ef => assumption); (case er => assumption))
theorem whole_mul_d (ht : (t, instObj 308 dt) ∈ news) (hdt : (dt, dictOf es n) ∈ news) (gl : getL (Str.ofString "low") es = some (some (.int lo il))) (gh : getL (Str.ofString "high") es = some (some (.int hi ih))) (x y : Int) (tx ty : Tok) (y1 : -4611686018427387904 < y) (y2 : y < 4611686018427387904) : Deed w 102 [.ref t, .int x tx, .int y ty] news 8 (GiveO (wi lo hi (x * y))) (wi lo hi (x * y) = none) := by
  intro prog p loose mean mg mb dp un gd cn cs a ccd cl outer A₀ base h₀ L m s Q E B F X N T hk hd hu ret hE
  refine wpAny_call ?_
  k_dflt cell_enter
  k_steps
  all_goals first
    | (refine' ret _ _ _ ?ep ?ef ?en; (case ef => k_asm); (case en => first | k_asm | exact cb_drop (by k_asm) (fun p hp => by repeat (first | exact hp | refine List.Mem.tail _ ?_))); (case ep => exact ⟨_, by assumption, .mk _⟩))
    | (refine' hE ?er _ _ _ _ _ _ ?ef ?eu ?ed; (case eu => assumption); (case ed => assumption); (case ef => assumption); (case er => assumption))
theorem whole_neg_d (ht : (t, instObj 308 dt) ∈ news) (hdt : (dt, dictOf es n) ∈ news) (gl : getL (Str.ofString "low") es = some (some (.int lo il))) (gh : getL (Str.ofString "high") es = some (some (.int hi ih))) (x : Int) (tx : Tok) : Deed w 158 [.ref t, .int x tx] news 8 (GiveO (wi lo hi (-x))) (wi lo hi (-x) = none) := by
  intro prog p loose mean mg mb dp un gd cn cs a ccd cl outer A₀ base h₀ L m s Q E B F X N T hk hd hu ret hE
  refine wpAny_call ?_
  k_dflt cell_enter
  k_steps
  all_goals first
    | (refine' ret _ _ _ ?ep ?ef ?en; (case ef => k_asm); (case en => first | k_asm | exact cb_drop (by k_asm) (fun p hp => by repeat (first | exact hp | refine List.Mem.tail _ ?_))); (case ep => exact ⟨_, by assumption, .mk _⟩))
    | (refine' hE ?er _ _ _ _ _ _ ?ef ?eu ?ed; (case eu => assumption); (case ed => assumption); (case ef => assumption); (case er => assumption))
theorem whole_abs_d (ht : (t, instObj 308 dt) ∈ news) (hdt : (dt, dictOf es n) ∈ news) (gl : getL (Str.ofString "low") es = some (some (.int lo il))) (gh : getL (Str.ofString "high") es = some (some (.int hi ih))) (x : Int) (tx : Tok) : Deed w 165 [.ref t, .int x tx] news 8 (GiveO (wi lo hi (if x < 0 then -x else x))) (wi lo hi (if x < 0 then -x else x) = none) := by
  intro prog p loose mean mg mb dp un gd cn cs a ccd cl outer A₀ base h₀ L m s Q E B F X N T hk hd hu ret hE
  refine wpAny_call ?_
  k_dflt cell_enter
  k_steps
  all_goals first
    | (refine' ret _ _ _ ?ep ?ef ?en; (case ef => k_asm); (case en => first | k_asm | exact cb_drop (by k_asm) (fun p hp => by repeat (first | exact hp | refine List.Mem.tail _ ?_))); (case ep => exact ⟨_, by assumption, .mk _⟩))
    | (refine' hE ?er _ _ _ _ _ _ ?ef ?eu ?ed; (case eu => assumption); (case ed => assumption); (case ef => assumption); (case er => assumption))
theorem same_number_d (x : Int) (tx : Tok) : Deed w 172 [.ref t, .int x tx] news 2 (GiveO (some x)) False := by
  intro prog p loose mean mg mb dp un gd cn cs a ccd cl outer A₀ base h₀ L m s Q E B F X N T hk hd hu ret hE
  refine wpAny_call ?_
  k_dflt cell_enter
  k_steps
  all_goals first
    | (refine' ret _ _ _ ?ep ?ef ?en; (case ef => k_asm); (case en => first | k_asm | exact cb_drop (by k_asm) (fun p hp => by repeat (first | exact hp | refine List.Mem.tail _ ?_))); (case ep => exact ⟨_, rfl, .mk _⟩))
    | (refine' hE ?er _ _ _ _ _ _ ?ef ?eu ?ed; (case eu => assumption); (case ed => assumption); (case ef => assumption); (case er => skip))
noncomputable def divO (lo hi x y : Int) : Option Int := if y = 0 then none else wi lo hi (x.tdiv y)
noncomputable def remO (x y : Int) : Option Int := if y = 0 then none else some (x - x.tdiv y * y)
noncomputable def modO (x y : Int) : Option Int := if y = 0 then none else some (x - x.fdiv y * y)
theorem whole_div_d (ht : (t, instObj 308 dt) ∈ news) (hdt : (dt, dictOf es n) ∈ news) (gl : getL (Str.ofString "low") es = some (some (.int lo il))) (gh : getL (Str.ofString "high") es = some (some (.int hi ih))) (x y : Int) (tx ty : Tok) (y1 : -4611686018427387904 < y) (y2 : y < 4611686018427387904) : Deed w 116 [.ref t, .int x tx, .int y ty] news 8 (GiveO (divO lo hi x y)) (divO lo hi x y = none) := by
  intro prog p loose mean mg mb dp un gd cn cs a ccd cl outer A₀ base h₀ L m s Q E B F X N T hk hd hu ret hE
  refine wpAny_call ?_
  k_dflt cell_enter
  k_steps
  all_goals first
    | (refine' ret _ _ _ ?ep ?ef ?en; (case ef => k_asm); (case en => first | k_asm | exact cb_drop (by k_asm) (fun p hp => by repeat (first | exact hp | refine List.Mem.tail _ ?_))); (case ep => exact ⟨_, (if_neg (by omega)).trans (by first | assumption | rfl), .mk _⟩))
    | (refine' hE ?er _ _ _ _ _ _ ?ef ?eu ?ed; (case eu => assumption); (case ed => assumption); (case ef => assumption); (case er => first | exact if_pos (by omega) | exact (if_neg (by omega)).trans (by assumption)))
theorem whole_rem_d (x y : Int) (tx ty : Tok) (y1 : -4611686018427387904 < y) (y2 : y < 4611686018427387904) : Deed w 123 [.ref t, .int x tx, .int y ty] news 8 (GiveO (remO x y)) (remO x y = none) := by
  intro prog p loose mean mg mb dp un gd cn cs a ccd cl outer A₀ base h₀ L m s Q E B F X N T hk hd hu ret hE
  refine wpAny_call ?_
  k_dflt cell_enter
  k_steps
  all_goals first
    | (refine' ret _ _ _ ?ep ?ef ?en; (case ef => k_asm); (case en => first | k_asm | exact cb_drop (by k_asm) (fun p hp => by repeat (first | exact hp | refine List.Mem.tail _ ?_))); (case ep => exact ⟨_, (if_neg (by omega)).trans (by first | assumption | rfl), .mk _⟩))
    | (refine' hE ?er _ _ _ _ _ _ ?ef ?eu ?ed; (case eu => assumption); (case ed => assumption); (case ef => assumption); (case er => first | exact if_pos (by omega) | exact (if_neg (by omega)).trans (by assumption)))
theorem whole_modulo_d (x y : Int) (tx ty : Tok) (y1 : -4611686018427387904 < y) (y2 : y < 4611686018427387904) : Deed w 130 [.ref t, .int x tx, .int y ty] news 8 (GiveO (modO x y)) (modO x y = none) := by
  intro prog p loose mean mg mb dp un gd cn cs a ccd cl outer A₀ base h₀ L m s Q E B F X N T hk hd hu ret hE
  refine wpAny_call ?_
  k_dflt cell_enter
  k_steps
  all_goals first
    | (refine' ret _ _ _ ?ep ?ef ?en; (case ef => k_asm); (case en => first | k_asm | exact cb_drop (by k_asm) (fun p hp => by repeat (first | exact hp | refine List.Mem.tail _ ?_))); (case ep => exact ⟨_, (if_neg (by omega)).trans (by first | assumption | rfl), .mk _⟩))
    | (refine' hE ?er _ _ _ _ _ _ ?ef ?eu ?ed; (case eu => assumption); (case ed => assumption); (case ef => assumption); (case er => first | exact if_pos (by omega) | exact (if_neg (by omega)).trans (by assumption)))
end
local macro_rules | `(tactic| walk_at "call ref") => `(tactic| (k_here; (with_reducible show wpAny _ _ (call (Value.ref 74) _) _ _ _); k_dflt (refine' Deed.use (check_base_d ?ht ?hdt ?gl ?gh _ _) ?kB ?kF ?kX ?kN ?kT ?kK ?kd ?ku ?_ ?_; walk_at "solve"; (case ht => k_mem); (case hdt => k_mem); (case gl => assumption); (case gh => assumption); (focus (intro r9 h9 tk9 P9 F9 N9; (try k_sweep); (obtain ⟨v9, w9, ⟨tk8⟩⟩ := P9))); rotate_left; (focus (intro c9 e9 t9 vs9 g9 h9 tk9 F9 U9 R9)); rotate_right)))
section
variable {w : World} {news : List (Addr × Obj)} {t dt : Addr} {es : List DictEntry} {n : Nat} {lo hi md : Int} {kd : Str} {ik il ih im : Tok}
theorem modular_add_d (ht : (t, instObj 308 dt) ∈ news) (hdt : (dt, dictOf es n) ∈ news) (gm : getL (Str.ofString "modulus") es = some (some (.int md im))) (hm : md ≠ 0) (x y : Int) (tx ty : Tok) : Deed w 179 [.ref t, .int x tx, .int y ty] news 3 (GiveO (some ((x + y).fmod md))) False := by
  intro prog p loose mean mg mb dp un gd cn cs a ccd cl outer A₀ base h₀ L m s Q E B F X N T hk hd hu ret hE
  refine wpAny_call ?_
  k_dflt cell_enter
  k_steps
  all_goals first
    | (refine' ret _ _ _ ?ep ?ef ?en; (case ef => k_asm); (case en => first | k_asm | exact cb_drop (by k_asm) (fun p hp => by repeat (first | exact hp | refine List.Mem.tail _ ?_))); (case ep => exact ⟨_, rfl, .mk _⟩))
    | (refine' hE ?er _ _ _ _ _ _ ?ef ?eu ?ed; (case eu => assumption); (case ed => assumption); (case ef => assumption); (case er => skip))
theorem modular_sub_d (ht : (t, instObj 308 dt) ∈ news) (hdt : (dt, dictOf es n) ∈ news) (gm : getL (Str.ofString "modulus") es = some (some (.int md im))) (hm : md ≠ 0) (x y : Int) (tx ty : Tok) : Deed w 186 [.ref t, .int x tx, .int y ty] news 3 (GiveO (some ((x - y).fmod md))) False := by
  intro prog p loose mean mg mb dp un gd cn cs a ccd cl outer A₀ base h₀ L m s Q E B F X N T hk hd hu ret hE
  refine wpAny_call ?_
  k_dflt cell_enter
  k_steps
  all_goals first
    | (refine' ret _ _ _ ?ep ?ef ?en; (case ef => k_asm); (case en => first | k_asm | exact cb_drop (by k_asm) (fun p hp => by repeat (first | exact hp | refine List.Mem.tail _ ?_))); (case ep => exact ⟨_, rfl, .mk _⟩))
    | (refine' hE ?er _ _ _ _ _ _ ?ef ?eu ?ed; (case eu => assumption); (case ed => assumption); (case ef => assumption); (case er => skip))
theorem modular_mul_d (ht : (t, instObj 308 dt) ∈ news) (hdt : (dt, dictOf es n) ∈ news) (gm : getL (Str.ofString "modulus") es = some (some (.int md im))) (hm : md ≠ 0) (x y : Int) (tx ty : Tok) (y1 : -4611686018427387904 < y) (y2 : y < 4611686018427387904) : Deed w 193 [.ref t, .int x tx, .int y ty] news 3 (GiveO (some ((x * y).fmod md))) False := by
  intro prog p loose mean mg mb dp un gd cn cs a ccd cl outer A₀ base h₀ L m s Q E B F X N T hk hd hu ret hE
  refine wpAny_call ?_
  k_dflt cell_enter
  k_steps
  all_goals first
    | (refine' ret _ _ _ ?ep ?ef ?en; (case ef => k_asm); (case en => first | k_asm | exact cb_drop (by k_asm) (fun p hp => by repeat (first | exact hp | refine List.Mem.tail _ ?_))); (case ep => exact ⟨_, rfl, .mk _⟩))
    | (refine' hE ?er _ _ _ _ _ _ ?ef ?eu ?ed; (case eu => assumption); (case ed => assumption); (case ef => assumption); (case er => skip))
theorem modular_neg_d (ht : (t, instObj 308 dt) ∈ news) (hdt : (dt, dictOf es n) ∈ news) (gm : getL (Str.ofString "modulus") es = some (some (.int md im))) (hm : md ≠ 0) (x : Int) (tx : Tok) : Deed w 207 [.ref t, .int x tx] news 3 (GiveO (some ((-x).fmod md))) False := by
  intro prog p loose mean mg mb dp un gd cn cs a ccd cl outer A₀ base h₀ L m s Q E B F X N T hk hd hu ret hE
  refine wpAny_call ?_
  k_dflt cell_enter
  k_steps
  all_goals first
    | (refine' ret _ _ _ ?ep ?ef ?en; (case ef => k_asm); (case en => first | k_asm | exact cb_drop (by k_asm) (fun p hp => by repeat (first | exact hp | refine List.Mem.tail _ ?_))); (case ep => exact ⟨_, rfl, .mk _⟩))
    | (refine' hE ?er _ _ _ _ _ _ ?ef ?eu ?ed; (case eu => assumption); (case ed => assumption); (case ef => assumption); (case er => skip))
theorem logic_and_d (x y : Int) (tx ty : Tok) : Deed w 214 [.ref t, .int x tx, .int y ty] news 3 (GiveO (some (Builtin.bitAnd x y))) False := by
  intro prog p loose mean mg mb dp un gd cn cs a ccd cl outer A₀ base h₀ L m s Q E B F X N T hk hd hu ret hE
  refine wpAny_call ?_
  k_dflt cell_enter
  k_steps
  all_goals first
    | (refine' ret _ _ _ ?ep ?ef ?en; (case ef => k_asm); (case en => first | k_asm | exact cb_drop (by k_asm) (fun p hp => by repeat (first | exact hp | refine List.Mem.tail _ ?_))); (case ep => exact ⟨_, rfl, .mk _⟩))
    | (refine' hE ?er _ _ _ _ _ _ ?ef ?eu ?ed; (case eu => assumption); (case ed => assumption); (case ef => assumption); (case er => skip))
noncomputable def crI (kd : Str) (md x : Int) : Int := if (kd == Str.ofString "mod") = true then x.fmod md else x
theorem come_round_d (ht : (t, instObj 308 dt) ∈ news) (hdt : (dt, dictOf es n) ∈ news) (gk : getL (Str.ofString "kind") es = some (some (.str kd ik))) (gm : getL (Str.ofString "modulus") es = some (some (.int md im))) (hm : md ≠ 0) (x : Int) (tx : Tok) : Deed w 235 [.ref t, .int x tx] news 3 (OutI (crI kd md x)) False := by
  intro prog p loose mean mg mb dp un gd cn cs a ccd cl outer A₀ base h₀ L m s Q E B F X N T hk hd hu ret hE
  refine wpAny_call ?_
  k_dflt cell_enter
  k_steps
  all_goals first
    | (refine' ret _ _ _ ?ep ?ef ?en; (case ef => k_asm); (case en => first | k_asm | exact cb_drop (by k_asm) (fun p hp => by repeat (first | exact hp | refine List.Mem.tail _ ?_))); (case ep => first | (rw [crI, if_pos (by assumption)]; exact .mk _) | (rw [crI, if_neg (by simp only [*]; decide)]; exact .mk _)))
    | (refine' hE ?er _ _ _ _ _ _ ?ef ?eu ?ed; (case eu => assumption); (case ed => assumption); (case ef => assumption); (case er => skip))
local macro_rules | `(tactic| walk_at "call ref") => `(tactic| (k_here; (with_reducible show wpAny _ _ (call (Value.ref 235) _) _ _ _); k_dflt (refine' Deed.use (come_round_d ?ht ?hdt ?gk ?gm ?hm _ _) ?kB ?kF ?kX ?kN ?kT ?kK ?kd ?ku ?_ ?ke; walk_at "solve"; (case ht => k_mem); (case hdt => k_mem); (case gk => assumption); (case gm => assumption); (case hm => assumption); (case ke => exact fun h9 => h9.elim); intro r9 h9 tk9 P9 F9 N9; (try k_sweep); (obtain ⟨tk8⟩ := P9))))
theorem logic_or_d (ht : (t, instObj 308 dt) ∈ news) (hdt : (dt, dictOf es n) ∈ news) (gk : getL (Str.ofString "kind") es = some (some (.str kd ik))) (gm : getL (Str.ofString "modulus") es = some (some (.int md im))) (hm : md ≠ 0) (x y : Int) (tx ty : Tok) : Deed w 221 [.ref t, .int x tx, .int y ty] news 6 (GiveO (some (crI kd md (Builtin.bitOr x y)))) False := by
  intro prog p loose mean mg mb dp un gd cn cs a ccd cl outer A₀ base h₀ L m s Q E B F X N T hk hd hu ret hE
  refine wpAny_call ?_
  k_dflt cell_enter
  k_steps
  all_goals first
    | (refine' ret _ _ _ ?ep ?ef ?en; (case ef => k_asm); (case en => first | k_asm | exact cb_drop (by k_asm) (fun p hp => by repeat (first | exact hp | refine List.Mem.tail _ ?_))); (case ep => exact ⟨_, rfl, .mk _⟩))
    | (refine' hE ?er _ _ _ _ _ _ ?ef ?eu ?ed; (case eu => assumption); (case ed => assumption); (case ef => assumption); (case er => skip))
theorem logic_xor_d (ht : (t, instObj 308 dt) ∈ news) (hdt : (dt, dictOf es n) ∈ news) (gk : getL (Str.ofString "kind") es = some (some (.str kd ik))) (gm : getL (Str.ofString "modulus") es = some (some (.int md im))) (hm : md ≠ 0) (x y : Int) (tx ty : Tok) : Deed w 228 [.ref t, .int x tx, .int y ty] news 6 (GiveO (some (crI kd md (Builtin.bitXor x y)))) False := by
  intro prog p loose mean mg mb dp un gd cn cs a ccd cl outer A₀ base h₀ L m s Q E B F X N T hk hd hu ret hE
  refine wpAny_call ?_
  k_dflt cell_enter
  k_steps
  all_goals first
    | (refine' ret _ _ _ ?ep ?ef ?en; (case ef => k_asm); (case en => first | k_asm | exact cb_drop (by k_asm) (fun p hp => by repeat (first | exact hp | refine List.Mem.tail _ ?_))); (case ep => exact ⟨_, rfl, .mk _⟩))
    | (refine' hE ?er _ _ _ _ _ _ ?ef ?eu ?ed; (case eu => assumption); (case ed => assumption); (case ef => assumption); (case er => skip))
theorem logic_not_d (ht : (t, instObj 308 dt) ∈ news) (hdt : (dt, dictOf es n) ∈ news) (gl : getL (Str.ofString "low") es = some (some (.int lo il))) (gh : getL (Str.ofString "high") es = some (some (.int hi ih))) (x : Int) (tx : Tok) : Deed w 242 [.ref t, .int x tx] news 3 (GiveO (some (hi - x))) False := by
  intro prog p loose mean mg mb dp un gd cn cs a ccd cl outer A₀ base h₀ L m s Q E B F X N T hk hd hu ret hE
  refine wpAny_call ?_
  k_dflt cell_enter
  k_steps
  all_goals first
    | (refine' ret _ _ _ ?ep ?ef ?en; (case ef => k_asm); (case en => first | k_asm | exact cb_drop (by k_asm) (fun p hp => by repeat (first | exact hp | refine List.Mem.tail _ ?_))); (case ep => exact ⟨_, rfl, .mk _⟩))
    | (refine' hE ?er _ _ _ _ _ _ ?ef ?eu ?ed; (case eu => assumption); (case ed => assumption); (case ef => assumption); (case er => skip))
noncomputable def hbI (nm : Str) (x y : Int) : Int :=
  if (nm == Str.ofString "=") = true then (if (x == y) = true then 1 else 0)
  else if (nm == Str.ofString "/=") = true then (if (x != y) = true then 1 else 0)
  else if (nm == Str.ofString "<") = true then (if decide (x < y) = true then 1 else 0)
  else if (nm == Str.ofString "<=") = true then (if decide (x ≤ y) = true then 1 else 0)
  else if (nm == Str.ofString ">") = true then (if decide (y < x) = true then 1 else 0)
  else (if decide (y ≤ x) = true then 1 else 0)
theorem hb0 {nm : Str} {x y : Int}  (h0 : (nm == Str.ofString "=") = true) : hbI nm x y = (if (x == y) = true then 1 else 0) := by
  unfold hbI; simp only [h0, Bool.false_eq_true, if_true, if_false]
theorem hb1 {nm : Str} {x y : Int} (h0 : (nm == Str.ofString "=") = false) (h1 : (nm == Str.ofString "/=") = true) : hbI nm x y = (if (x != y) = true then 1 else 0) := by
  unfold hbI; simp only [h0, h1, Bool.false_eq_true, if_true, if_false]
theorem hb2 {nm : Str} {x y : Int} (h0 : (nm == Str.ofString "=") = false) (h1 : (nm == Str.ofString "/=") = false) (h2 : (nm == Str.ofString "<") = true) : hbI nm x y = (if (decide (x < y)) = true then 1 else 0) := by
  unfold hbI; simp only [h0, h1, h2, Bool.false_eq_true, if_true, if_false]
theorem hb3 {nm : Str} {x y : Int} (h0 : (nm == Str.ofString "=") = false) (h1 : (nm == Str.ofString "/=") = false) (h2 : (nm == Str.ofString "<") = false) (h3 : (nm == Str.ofString "<=") = true) : hbI nm x y = (if (decide (x ≤ y)) = true then 1 else 0) := by
  unfold hbI; simp only [h0, h1, h2, h3, Bool.false_eq_true, if_true, if_false]
theorem hb4 {nm : Str} {x y : Int} (h0 : (nm == Str.ofString "=") = false) (h1 : (nm == Str.ofString "/=") = false) (h2 : (nm == Str.ofString "<") = false) (h3 : (nm == Str.ofString "<=") = false) (h4 : (nm == Str.ofString ">") = true) : hbI nm x y = (if (decide (y < x)) = true then 1 else 0) := by
  unfold hbI; simp only [h0, h1, h2, h3, h4, Bool.false_eq_true, if_true, if_false]
theorem hb5 {nm : Str} {x y : Int} (h0 : (nm == Str.ofString "=") = false) (h1 : (nm == Str.ofString "/=") = false) (h2 : (nm == Str.ofString "<") = false) (h3 : (nm == Str.ofString "<=") = false) (h4 : (nm == Str.ofString ">") = false) : hbI nm x y = (if (decide (y ≤ x)) = true then 1 else 0) := by
  unfold hbI; simp only [h0, h1, h2, h3, h4, Bool.false_eq_true, if_true, if_false]
theorem holds_between_d (nm : Str) (tn : Tok) (x y : Int) (tx ty : Tok) : Deed w 249 [.str nm tn, .int x tx, .int y ty] news 3 (OutI (hbI nm x y)) False := by
  intro prog p loose mean mg mb dp un gd cn cs a ccd cl outer A₀ base h₀ L m s Q E B F X N T hk hd hu ret hE
  refine wpAny_call ?_
  k_dflt cell_enter
  k_steps
  all_goals first
    | (refine' ret _ _ _ ?ep ?ef ?en; (case ef => k_asm); (case en => first | k_asm | exact cb_drop (by k_asm) (fun p hp => by repeat (first | exact hp | refine List.Mem.tail _ ?_))); (case ep => first | (rw [hb0 (by assumption)]; exact .mk _) | (rw [hb1 (by assumption) (by assumption)]; exact .mk _) | (rw [hb2 (by assumption) (by assumption) (by assumption)]; exact .mk _) | (rw [hb3 (by assumption) (by assumption) (by assumption) (by assumption)]; exact .mk _) | (rw [hb4 (by assumption) (by assumption) (by assumption) (by assumption) (by assumption)]; exact .mk _) | (rw [hb5 (by assumption) (by assumption) (by assumption) (by assumption) (by assumption)]; exact .mk _)))
    | (refine' hE ?er _ _ _ _ _ _ ?ef ?eu ?ed; (case eu => assumption); (case ed => assumption); (case ef => assumption); (case er => skip))
end
noncomputable def sz (x : Nat) : Nat := if h : x = 0 then 0 else sz (x / 2) + 1
theorem sz_zero : sz 0 = 0 := by rw [sz]; rfl
theorem sz_pos {x : Nat} (h : x ≠ 0) : sz x = sz (x / 2) + 1 := by rw [sz, dif_neg h]
theorem sz_le : ∀ (k x : Nat), x < 2 ^ k → sz x ≤ k := by
  intro k
  induction k with
  | zero => intro x h; have : x = 0 := by simpa using h
            subst this; rw [sz_zero]; exact Nat.le_refl _
  | succ k ih =>
    intro x h
    by_cases hx : x = 0
    · subst hx; rw [sz_zero]; omega
    · rw [sz_pos hx]
      have := ih (x / 2) (by rw [Nat.pow_succ] at h; omega)
      omega
theorem sz_two {x : Nat} (h : 2 ≤ x) : 2 ≤ sz x := by
  rw [sz_pos (by omega), sz_pos (by omega)]; omega
theorem fdiv2 {z : Int} (h : 0 ≤ z) : (z.fdiv 2).toNat = z.toNat / 2 ∧ 0 ≤ z.fdiv 2 := by
  rw [Int.fdiv_eq_ediv_of_nonneg z (by decide)]
  omega
theorem fmod2 (z : Int) : z.fmod 2 = z % 2 := Int.fmod_eq_emod_of_nonneg z (by decide)
theorem sz_step {z c : Int} {s : Nat} (hz : 0 < z) (e : c + (sz z.toNat : Nat) = s) : (c + 1) + (sz (z.fdiv 2).toNat : Nat) = s := by
  rw [(fdiv2 (by omega)).1]
  rw [sz_pos (by omega)] at e
  omega
theorem sz_end {z c : Int} {s : Nat} (hz : z ≤ 0) (e : c + (sz z.toNat : Nat) = s) : c = s := by
  rw [show z.toNat = 0 by omega, sz_zero] at e; omega
section
variable {w : World} {news : List (Addr × Obj)} {t dt : Addr} {es : List DictEntry} {n : Nat} {lo hi md : Int} {kd : Str} {ik il ih im : Tok}
theorem fr_map {h₀ h : Heap} {L : Addr} {m m' : Str → Option Value} (F : Fr h₀ L h m) (e : m = m') : Fr h₀ L h m' := e ▸ F
theorem fr_at2 {h₀ h : Heap} {L : Addr} {m : Str → Option Value} {x y : Str} {v u : Value} (F : Fr h₀ L h m) (e1 : m x = some v) (e2 : m y = some u) : Fr h₀ L h (fun z => if z = x then some v else if z = y then some u else m z) :=
  fr_map F (by funext z; (repeat' split) <;> simp_all)
theorem fr_at3 {h₀ h : Heap} {L : Addr} {m : Str → Option Value} {x y a : Str} {v u b : Value} (F : Fr h₀ L h m) (e1 : m x = some v) (e2 : m y = some u) (e3 : m a = some b) : Fr h₀ L h (fun z => if z = x then some v else if z = y then some u else if z = a then some b else m z) :=
  fr_map F (by funext z; (repeat' split) <;> simp_all)
theorem fr_at4 {h₀ h : Heap} {L : Addr} {m : Str → Option Value} {x y a c : Str} {v u b d : Value} (F : Fr h₀ L h m) (e1 : m x = some v) (e2 : m y = some u) (e3 : m a = some b) (e4 : m c = some d) : Fr h₀ L h (fun z => if z = x then some v else if z = y then some u else if z = a then some b else if z = c then some d else m z) :=
  fr_map F (by funext z; (repeat' split) <;> simp_all)
theorem ws2 {h₀ h' : Heap} {L : Addr} {s : Shared} {J : Nat → (Str → Option Value) → List (Addr × Obj) → Prop} {Q : Flow → Shared → Prop} {n n' tk : Nat} {m₂ : Str → Option Value} {news₂ : List (Addr × Obj)}
    (F : Fr h₀ L h' m₂) (N : News h₀ L h' news₂) (hn : n' < n) (hJ : J n' m₂ news₂) : WhileStep2 h₀ L s J Q n .next { s with heap := h', toks := tk } := ⟨h', tk, m₂, news₂, n', rfl, F, N, hn, hJ⟩
/-- a stop of my own in the walk -/
noncomputable def Hid (P : Prop) : Prop := P
theorem Hid.out {P : Prop} (h : Hid P) : P := h
local macro_rules | `(tactic| walk_at "exec While") => `(tactic| (k_here; refine Hid.out ?_))
local macro_rules | `(tactic| walk_at "exec While BoolOp cons nil") => `(tactic| (k_here; refine Hid.out ?_))
theorem size_of_d (x : Int) (tx : Tok) (h1 : -4611686018427387904 < x) (h2 : x < 4611686018427387904) : Deed w 137 [.int x tx] news 3 (OutI (sz x.natAbs)) False := by
  intro prog p loose mean mg mb dp un gd cn cs a ccd cl outer A₀ base h₀ L m s Q E B F X N T hk hd hu ret hE
  refine wpAny_call ?_
  k_dflt cell_enter
  k_steps
  unfold Hid
  (with_reducible rename Fr _ _ _ _ => F1); (with_reducible rename News _ _ _ _ => N1)
  refine While_inv2 (fun n m₁ nx => ∃ (z c : Int) (tz tc : Tok), m₁ (Str.ofString "x") = some (.int z tz) ∧ m₁ (Str.ofString "count") = some (.int c tc) ∧ nx = news ∧ 0 ≤ z ∧ z.toNat = n ∧ 0 ≤ c ∧ c + (sz z.toNat : Nat) = (sz x.natAbs : Nat)) F1 N1 ⟨_, _, _, _, rfl, rfl, rfl, ?_, rfl, ?_, ?_⟩ ?_
  · split <;> omega
  · decide
  · rw [show (if x < 0 then -x else x).toNat = x.natAbs by split <;> omega]; omega
  have hsz : sz x.natAbs ≤ 62 := sz_le 62 _ (by omega)
  intro n m₁ n₁ h₁ tk₁ F₁ N₁ ⟨z, c, tz, tc, ez, ec, en, hz, hn, hc, hs⟩
  subst en
  have F₂ := fr_at2 F₁ ez ec
  clear F₁
  k_steps
  all_goals first
    | (refine' ws2 (n' := (z.fdiv 2).toNat) ?ef ?en ?el ⟨_, _, _, _, ?e1, ?e2, rfl, ?h1, rfl, ?h2, ?h3⟩; (case ef => k_asm); (case en => k_asm); (case e1 => rfl); (case e2 => rfl); (case h1 => exact (fdiv2 hz).2); (case el => rw [(fdiv2 hz).1]; omega); (case h2 => omega); (case h3 => exact sz_step (by assumption) hs))
    | (refine' ret _ _ _ ?ep ?ef ?en; (case ef => k_asm); (case en => k_asm); (case ep => rw [← sz_end (by omega) hs]; exact .mk _))
end
local macro_rules | `(tactic| walk_at "exec While") => `(tactic| (k_here; refine Hid.out ?_))
theorem great1 {x k : Int} (h : 1 < if x < 0 then -x else x) : (decide (4096 < k) = true ↔ ((x < -1 ∨ 1 < x) ∧ 4096 < k)) := by
  rw [decide_eq_true_eq]
  constructor
  · intro h'; refine ⟨?_, h'⟩; split at h <;> omega
  · exact fun h => h.2
theorem great2 {x k : Int} (h : ¬ 1 < if x < 0 then -x else x) : (decide (1 < if x < 0 then -x else x) = true ↔ ((x < -1 ∨ 1 < x) ∧ 4096 < k)) := by
  rw [decide_eq_true_eq]
  constructor
  · exact fun h' => absurd h' h
  · rintro ⟨h1, _⟩; split at h <;> split <;> omega
theorem even_half {e : Int} (hn : 0 < e) (h : e.fmod 2 ≠ 1) : 0 < e.fdiv 2 := by
  rw [fmod2] at h; rw [Int.fdiv_eq_ediv_of_nonneg e (by decide)]; omega
/-- the powers: what the def's loop holds between its turns -/
noncomputable def PInv (lo hi X : Int) (N : Nat) (x n r : Int) : Prop :=
  0 ≤ n ∧ lo ≤ x ∧ x ≤ hi ∧ lo ≤ r ∧ r ≤ hi ∧ ∃ a b : Nat, r = X ^ a ∧ x = X ^ b ∧ 1 ≤ b ∧ a + b * n.toNat = N
theorem wi_none {lo hi v : Int} : wi lo hi v = none ↔ ¬ (lo ≤ v ∧ v ≤ hi) := by
  unfold wi; split <;> simp_all
theorem abs_pow_mono {X : Int} (h : X < -1 ∨ 1 < X) : ∀ {m n : Nat}, m < n → 2 * (X ^ m).natAbs ≤ (X ^ n).natAbs := by
  intro m n hmn
  obtain ⟨k, rfl⟩ : ∃ k, n = m + 1 + k := ⟨n - m - 1, by omega⟩
  rw [Int.pow_add, Int.pow_succ, Int.natAbs_mul, Int.natAbs_mul]
  have hk : 1 ≤ (X ^ k).natAbs := by
    have : X ^ k ≠ 0 := Int.pow_ne_zero (by omega)
    omega
  have hX : 2 ≤ X.natAbs := by omega
  calc 2 * (X ^ m).natAbs = (X ^ m).natAbs * 2 * 1 := by rw [Nat.mul_one, Nat.mul_comm]
    _ ≤ (X ^ m).natAbs * X.natAbs * (X ^ k).natAbs := Nat.mul_le_mul (Nat.mul_le_mul (Nat.le_refl _) hX) hk
theorem small_of {x : Int} (h : (if x < 0 then -x else x) ≤ 1) : ¬ (x < -1 ∨ 1 < x) := by split at h <;> omega
theorem small_pow {X : Int} (h : ¬ (X < -1 ∨ 1 < X)) (n : Nat) : X ^ n = 0 ∨ X ^ n = 1 ∨ X ^ n = -1 := by
  have hX : X = 0 ∨ X = 1 ∨ X = -1 := by omega
  induction n with
  | zero => right; left; exact Int.pow_zero X
  | succ n ih =>
    rw [Int.pow_succ]
    rcases hX with rfl | rfl | rfl <;> rcases ih with e | e | e <;> rw [e] <;> decide
/-- a power that lies in the base range has its lesser powers there -/
theorem wi_mono {lo hi X : Int} (hlo : lo ≤ -2) (hhi : hi = -lo - 1) {m n : Nat} (hmn : m ≤ n) (h : wi lo hi (X ^ m) = none) : wi lo hi (X ^ n) = none := by
  rw [wi_none] at h ⊢
  intro h2
  apply h
  by_cases e : m = n
  · subst e; exact h2
  · by_cases hX : X < -1 ∨ 1 < X
    · have := abs_pow_mono hX (show m < n by omega)
      generalize X ^ m = u at *
      generalize X ^ n = v at *
      omega
    · rcases small_pow hX m with e | e | e <;> rw [e] <;> omega
section
variable {lo hi X : Int} {N : Nat} {x n r : Int}
theorem pinv_start (hlo : lo ≤ -2) (hhi : hi = -lo - 1) (h1 : lo ≤ X) (h2 : X ≤ hi) (hn : 0 ≤ n) : PInv lo hi X n.toNat X n 1 :=
  ⟨hn, h1, h2, by omega, by omega, 0, 1, (Int.pow_zero X).symm, by rw [Int.pow_succ, Int.pow_zero, Int.one_mul], Nat.le_refl _, by omega⟩
theorem pinv_end (h : PInv lo hi X N x n r) (hn : n ≤ 0) : r = X ^ N ∧ wi lo hi r = some r := by
  obtain ⟨h0, _, _, h3, h4, a, b, e1, _, _, e3⟩ := h
  refine ⟨?_, wi_in h3 h4⟩
  rw [show n.toNat = 0 by omega, Nat.mul_zero, Nat.add_zero] at e3
  rw [e1, e3]
theorem pinv_ret {v : Int} (h : PInv lo hi X N x n r) (hn : n ≤ 0) (e : wi lo hi r = some v) : wi lo hi (X ^ N) = some v := by
  rw [← (pinv_end h hn).1]; exact e
theorem pinv_odd_none (hlo : lo ≤ -2) (hhi : hi = -lo - 1) (h : PInv lo hi X N x n r) (hn : 0 < n) (hr : wi lo hi (r * x) = none) : wi lo hi (X ^ N) = none := by
  obtain ⟨h0, _, _, _, _, a, b, rfl, rfl, hb, e3⟩ := h
  rw [← Int.pow_add] at hr
  refine wi_mono hlo hhi ?_ hr
  have : b * 1 ≤ b * n.toNat := Nat.mul_le_mul_left b (by omega)
  omega
/-- the turn, its halves: r' is the new result, n' = n // 2 -/
theorem pinv_half {r' : Int} (h : PInv lo hi X N x n r) (hn : 0 < n) (hr : (n.fmod 2 = 1 ∧ wi lo hi (r * x) = some r') ∨ (n.fmod 2 ≠ 1 ∧ r' = r)) :
    lo ≤ r' ∧ r' ≤ hi ∧ ∃ a b : Nat, r' = X ^ a ∧ x = X ^ b ∧ 1 ≤ b ∧ a + 2 * b * (n.fdiv 2).toNat = N := by
  obtain ⟨h0, h1, h2, h3, h4, a, b, e1, e2, hb, e3⟩ := h
  rw [fmod2] at hr
  rw [(fdiv2 h0).1]
  rcases hr with ⟨ho, hw⟩ | ⟨he, rfl⟩
  · obtain ⟨rfl, h5, h6⟩ := wi_some hw
    refine ⟨h5, h6, a + b, b, by rw [e1, e2, ← Int.pow_add], e2, hb, ?_⟩
    have hk : n.toNat = 2 * (n.toNat / 2) + 1 := by omega
    rw [hk, Nat.mul_add, Nat.mul_one] at e3
    rw [show 2 * b * (n.toNat / 2) = b * (2 * (n.toNat / 2)) by rw [Nat.mul_comm 2 b, Nat.mul_assoc]]
    omega
  · refine ⟨h3, h4, a, b, e1, e2, hb, ?_⟩
    have hk : n.toNat = 2 * (n.toNat / 2) := by omega
    rw [hk] at e3
    rw [show 2 * b * (n.toNat / 2) = b * (2 * (n.toNat / 2)) by rw [Nat.mul_comm 2 b, Nat.mul_assoc]]
    omega
theorem pinv_sq_none {r' : Int} (hlo : lo ≤ -2) (hhi : hi = -lo - 1) (h : PInv lo hi X N x n r) (hn : 0 < n) (hr : (n.fmod 2 = 1 ∧ wi lo hi (r * x) = some r') ∨ (n.fmod 2 ≠ 1 ∧ r' = r)) (hn2 : 0 < n.fdiv 2) (hx : wi lo hi (x * x) = none) : wi lo hi (X ^ N) = none := by
  obtain ⟨_, _, a, b, _, e2, hb, e3⟩ := pinv_half h hn hr
  rw [e2, ← Int.pow_add] at hx
  refine wi_mono hlo hhi ?_ hx
  have : 2 * b * 1 ≤ 2 * b * (n.fdiv 2).toNat := Nat.mul_le_mul_left _ (by omega)
  omega
theorem pinv_more {r' x' : Int} (h : PInv lo hi X N x n r) (hn : 0 < n) (hr : (n.fmod 2 = 1 ∧ wi lo hi (r * x) = some r') ∨ (n.fmod 2 ≠ 1 ∧ r' = r)) (hx : wi lo hi (x * x) = some x') : PInv lo hi X N x' (n.fdiv 2) r' := by
  obtain ⟨h3, h4, a, b, e1, e2, hb, e3⟩ := pinv_half h hn hr
  obtain ⟨rfl, h5, h6⟩ := wi_some hx
  exact ⟨(fdiv2 h.1).2, h5, h6, h3, h4, a, 2 * b, e1, by rw [e2, ← Int.pow_add]; congr 1; omega, by omega, e3⟩
theorem pinv_last {r' : Int} (h : PInv lo hi X N x n r) (hn : 0 < n) (hr : (n.fmod 2 = 1 ∧ wi lo hi (r * x) = some r') ∨ (n.fmod 2 ≠ 1 ∧ r' = r)) (hn2 : ¬ 0 < n.fdiv 2) : PInv lo hi X N x (n.fdiv 2) r' := by
  obtain ⟨h3, h4, a, b, e1, e2, hb, e3⟩ := pinv_half h hn hr
  refine ⟨(fdiv2 h.1).2, h.2.1, h.2.2.1, h3, h4, a, b, e1, e2, hb, ?_⟩
  rw [show (n.fdiv 2).toNat = 0 by omega] at e3 ⊢
  omega
theorem pinv_fall (h : PInv lo hi X N x n r) (hn : 0 < n) : (n.fdiv 2).toNat < n.toNat := by
  rw [(fdiv2 h.1).1]; omega
end
/-- what the law reckons of a power -/
noncomputable def powO (lo hi x n : Int) : Option Int := if n < 0 then none else if (x < -1 ∨ 1 < x) ∧ 64 < n then none else wi lo hi (x ^ n.toNat)
theorem powO_neg {lo hi x n : Int} (h : n < 0) : powO lo hi x n = none := if_pos h
theorem two_pow_le {X : Int} (h : X < -1 ∨ 1 < X) (k : Nat) : 2 ^ k ≤ (X ^ k).natAbs := by
  rw [Int.natAbs_pow]; exact Nat.pow_le_pow_left (by omega) k
theorem big_none {lo hi X : Int} (hlo : lo ≤ -2) (hhi : hi = -lo - 1) (hb : -1099511627776 ≤ lo) (h : X < -1 ∨ 1 < X) {k : Nat} (hk : 64 < k) : wi lo hi (X ^ k) = none := by
  refine wi_mono hlo hhi (show 41 ≤ k by omega) ?_
  rw [wi_none]
  have := two_pow_le h 41
  generalize X ^ 41 = v at *
  omega
/-- the powers of the law, whatever the exponent -/
theorem powO_pos {lo hi X n : Int} (hlo : lo ≤ -2) (hhi : hi = -lo - 1) (hb : -1099511627776 ≤ lo) (hn : 0 ≤ n) : powO lo hi X n = wi lo hi (X ^ n.toNat) := by
  unfold powO
  rw [if_neg (by omega)]
  split
  · rename_i h
    exact (big_none hlo hhi hb h.1 (by omega)).symm
  · rfl
theorem powO_great {lo hi X n : Int} (hlo : lo ≤ -2) (hhi : hi = -lo - 1) (hb : -1099511627776 ≤ lo) (h1 : lo ≤ X) (h2 : X ≤ hi) (hX : X < -1 ∨ 1 < X) (hg : 4096 < n * (sz X.natAbs : Nat)) : powO lo hi X n = none := by
  have h41 : sz X.natAbs ≤ 41 := sz_le 41 _ (by omega)
  have hn : 64 < n := by
    apply Classical.byContradiction
    intro hc
    have : n * (sz X.natAbs : Nat) ≤ 64 * (sz X.natAbs : Nat) := Int.mul_le_mul_of_nonneg_right (by omega) (by omega)
    omega
  unfold powO
  rw [if_neg (by omega), if_pos ⟨hX, hn⟩]
theorem pow_parity {X n : Int} (hX : ¬ (X < -1 ∨ 1 < X)) (hn : 1 < n) : X ^ (2 - n.fmod 2).toNat = X ^ n.toNat ∧ 0 ≤ 2 - n.fmod 2 := by
  rw [fmod2]
  refine ⟨?_, by omega⟩
  have hX' : X = 0 ∨ X = 1 ∨ X = -1 := by omega
  obtain ⟨k, hk⟩ : ∃ k : Nat, n.toNat = k := ⟨_, rfl⟩
  rcases hX' with rfl | rfl | rfl
  · rw [Int.zero_pow (by omega), Int.zero_pow (by omega)]
  · rw [Int.one_pow, Int.one_pow]
  · rcases (show n % 2 = 0 ∨ n % 2 = 1 by omega) with h | h
    · rw [h, show (2 - 0 : Int).toNat = 2 * 1 by decide, show n.toNat = 2 * (n.toNat / 2) by omega, Int.pow_mul, Int.pow_mul, show ((-1 : Int) ^ 2) = 1 by decide, Int.one_pow, Int.one_pow]
    · rw [h, show (2 - 1 : Int).toNat = 2 * 0 + 1 by decide, show n.toNat = 2 * (n.toNat / 2) + 1 by omega, Int.pow_succ, Int.pow_succ, Int.pow_mul, Int.pow_mul, show ((-1 : Int) ^ 2) = 1 by decide, Int.one_pow, Int.one_pow]
section
variable {w : World} {news : List (Addr × Obj)} {t dt : Addr} {es : List DictEntry} {n : Nat} {lo hi md : Int} {kd : Str} {ik il ih im : Tok}
local macro_rules | `(tactic| walk_at "call ref") => `(tactic| (k_here; (with_reducible show wpAny _ _ (call (Value.ref 137) _) _ _ _); k_dflt (refine' Deed.use (size_of_d _ _ ?h1 ?h2) ?kB ?kF ?kX ?kN ?kT ?kK ?kd ?ku ?_ ?ke; walk_at "solve"; (case h1 => omega); (case h2 => omega); (case ke => exact fun h9 => h9.elim); intro r9 h9 tk9 P9 F9 N9; (try k_sweep); (obtain ⟨tk8⟩ := P9))))
local macro_rules | `(tactic| walk_at "pad1") => `(tactic| skip)
theorem great_d (x k : Int) (tx tk : Tok) (h1 : -4611686018427387904 < x) (h2 : x < 4611686018427387904) : Deed w 144 [.int x tx, .int k tk] news 6 (fun r => ∃ b : Bool, r = .bool b ∧ (b = true ↔ ((x < -1 ∨ 1 < x) ∧ 4096 < k * (sz x.natAbs : Nat)))) False := by
  intro prog p loose mean mg mb dp un gd cn cs a ccd cl outer A₀ base h₀ L m s Q E B F X N T hk hd hu ret hE
  have hsz : sz x.natAbs ≤ 62 := sz_le 62 _ (by omega)
  refine wpAny_call ?_
  k_dflt cell_enter
  k_steps
  all_goals first
    | (refine' ret _ _ _ ⟨_, rfl, great1 (by assumption)⟩ ?ef ?en; (case ef => k_asm); (case en => k_asm))
    | (refine' ret _ _ _ ⟨_, rfl, great2 (by assumption)⟩ ?ef ?en; (case ef => k_asm); (case en => k_asm))
local macro_rules | `(tactic| walk_at "call ref") => `(tactic| (k_here; (with_reducible show wpAny _ _ (call (Value.ref 144) _) _ _ _); k_dflt (refine' Deed.use (great_d _ _ _ _ ?h1 ?h2) ?kB ?kF ?kX ?kN ?kT ?kK ?kd ?ku ?_ ?ke; walk_at "solve"; (case h1 => omega); (case h2 => omega); (case ke => exact fun h9 => h9.elim); intro r9 h9 tk9 P9 F9 N9; (try k_sweep); (obtain ⟨b9, e9, q9⟩ := P9); (subst e9))))
theorem map_n1 {m : Str → Option Value} {a b : Str} {X V K : Value} (ex : m a = some X) : (fun y => if y = b then some V else if y = a then some X else if y = b then some K else m y) = fun z => if z = b then some V else m z := by
  funext z
  by_cases h1 : z = b
  · simp [h1]
  · by_cases h2 : z = a
    · subst h2; simp [h1, ex]
    · simp [h1, h2]
theorem map_n0 {m : Str → Option Value} {a b : Str} {X K : Value} (ex : m a = some X) (ek : m b = some K) : (fun y => if y = a then some X else if y = b then some K else m y) = fun z => if z = b then some K else m z := by
  funext z
  by_cases h1 : z = a
  · subst h1
    by_cases h2 : z = b
    · subst h2; simp [ex.symm.trans ek]
    · simp [h2, ex]
  · simp [h1]
theorem pow_fix {w : World} : (fun (b : List Stmt) (_ : (fBody (stAt 19)).drop 2 = b) (sc : Scope) (_ : fScope (stAt 19) = sc) => ∀ (rest : List Stmt) (st : Stmt), b = st :: rest →
  ∀ (prog : Program) (p : Program) (loose : List Str) (mean : ExcName → Option Value) (mg mb : Str → Option Value) (dp un : Nat) (gd : Option (List Code)) (fa : Addr) (fcd : Value) (outer : List Env) (A₀ : Around) (base h₀ : Heap) (L : Addr) (m : Str → Option Value) (s : Shared) (Q : Flow → Shared → Prop) (E : Value → Shared → Prop) (news : List (Addr × Obj)) (x k : Int) (tx tk : Tok),
    Below A₀ base outer h₀ → Fr h₀ L s.heap m → (Mine.K w.params).In h₀ → News h₀ L s.heap news → Top p loose mean mg mb h₀ → dp + 2 < recursionLimit → un + 16 < cLine →
    m (Str.ofString "x") = some (.int x tx) → m (Str.ofString "n") = some (.int k tk) → 0 ≤ k → -1099511627777 < x → x < 1099511627777 →
    (∀ h' tk' e te, x ^ e.toNat = x ^ k.toNat → 0 ≤ e → Fr h₀ L h' (fun z => if z = Str.ofString "n" then some (.int e te) else m z) → News h₀ L h' news → Q .next { s with heap := h', toks := tk' }) →
    wpAny (model prog w) (ktrTop dp un gd (Str.ofString "whole_power") sc L fa fcd [] outer) (exec st (envX (Str.ofString "whole_power") sc L fa fcd [])) Q E s) _ (by conv => { lhs; whnf }) _ (by conv => { lhs; whnf }) := by
  intro rest st hst prog p loose mean mg mb dp un gd fa fcd outer A₀ base h₀ L m s Q E news x k tx tk B F X N T hd hu ex ek k0 x1 x2 ret
  cases hst
  have F₂ := fr_at2 F ex ek
  clear F
  k_steps
  all_goals ((with_reducible rename Fr _ _ _ _ => F1); (with_reducible rename News _ _ _ _ => N1))
  all_goals first
    | exact ret _ _ (2 - k.fmod 2) _ (pow_parity (X := x) (small_of (by assumption)) (by assumption)).1 (by rw [fmod2]; omega) (fr_map F1 (map_n1 ex)) N1
    | exact ret _ _ k _ rfl k0 (fr_map F1 (map_n0 ex ek)) N1
local macro_rules | `(tactic| walk_at "exec If") => `(tactic| (k_here; (with_reducible show wpAny _ _ (exec (Stmt.If (PySem.Expr.BoolOp _ _ _) _ _ _) _) _ _ _); k_dflt (refine' pow_fix _ _ rfl _ _ _ _ _ _ _ _ _ _ _ _ _ _ _ _ _ _ _ _ _ _ _ _ _ ?wqB ?wqF ?wqX ?wqN ?wqT ?wqd ?wqu ?wqx ?wqk ?wq0 ?wq1 ?wq2 ?_; (case wqB => k_asm); (case wqF => k_asm); (case wqX => k_asm); (case wqN => k_asm); (case wqT => k_asm); (case wqd => ktr_room); (case wqu => ktr_units); (case wqx => rfl); (case wqk => rfl); (case wq0 => omega); (case wq1 => omega); (case wq2 => omega); k_whole; intro h9 tk9 e9 te9 q9 z9 F9 N9)))
theorem whole_power_d (ht : (t, instObj 308 dt) ∈ news) (hdt : (dt, dictOf es n) ∈ news) (gl : getL (Str.ofString "low") es = some (some (.int lo il))) (gh : getL (Str.ofString "high") es = some (some (.int hi ih))) (x k : Int) (tx tk : Tok) (hlo : lo ≤ -2) (hhi : hi = -lo - 1) (hb : -1099511627776 ≤ lo) (h1 : lo ≤ x) (h2 : x ≤ hi) : Deed w 151 [.ref t, .int x tx, .int k tk] news 12 (GiveO (powO lo hi x k)) (powO lo hi x k = none) := by
  intro prog p loose mean mg mb dp un gd cn cs a ccd cl outer A₀ base h₀ L m s Q E B F X N T hk hd hu ret hE
  refine wpAny_call ?_
  k_dflt cell_enter
  k_steps
  · refine' hE ?ra _ _ _ _ _ _ ?ef ?eu ?ed; (case eu => assumption); (case ed => assumption); (case ef => assumption); (case ra => exact powO_neg (by assumption))
  · refine' hE ?ra _ _ _ _ _ _ ?ef ?eu ?ed; (case eu => assumption); (case ed => assumption); (case ef => assumption)
    (case ra => (rename (_ ↔ _) => q9; have q8 := q9.mp (by assumption); exact powO_great hlo hhi hb h1 h2 q8.1 q8.2))
  all_goals
    unfold Hid
    have hw0 : powO lo hi x k = wi lo hi (x ^ k.toNat) := powO_pos hlo hhi hb (by omega)
    (with_reducible rename Fr _ _ _ _ => F1); (with_reducible rename News _ _ _ _ => N1)
    refine' While_inv2 (fun n m₁ nx => ∃ (z e r : Int) (tz te tr : Tok) (N : Nat), m₁ (Str.ofString "x") = some (.int z tz) ∧ m₁ (Str.ofString "n") = some (.int e te) ∧ m₁ (Str.ofString "result") = some (.int r tr) ∧ m₁ (Str.ofString "t") = some (.ref t) ∧ nx = news ∧ e.toNat = n ∧ x ^ N = x ^ k.toNat ∧ PInv lo hi x N z e r) F1 N1 ⟨_, _, _, _, _, _, _, rfl, rfl, rfl, rfl, rfl, rfl, ?hN, pinv_start hlo hhi h1 h2 ?h0⟩ ?_
    (case hN => first | assumption | rfl | (refine (pow_parity (X := x) ?eX ?eK).1; (case eX => exact small_of (by assumption)); (case eK => assumption)))
    (case h0 => first | assumption | omega | (rw [fmod2]; omega))
    intro n m₁ n₁ h₁ tk₁ F₁ N₁ ⟨z, e, r, tz, te, tr, nn, ez, ee, er, et, en, hn, hN, hP⟩
    subst en
    have F₂ := fr_at4 F₁ ez ee er et
    clear F₁
    obtain ⟨p0, p1, p2, p3, p4, _⟩ := id hP
    rw [← hN] at hw0
    k_steps
    all_goals first | (refine' ws2 (n' := (e.fdiv 2).toNat) ?ef ?en ?el ⟨_, _, _, _, _, _, nn, ?e1, ?e2, ?e3, ?e4, rfl, rfl, hN, ?hp⟩; (case ef => k_asm); (case en => k_asm); (case e1 => rfl); (case e2 => rfl); (case e3 => rfl); (case e4 => rfl); (case el => exact hn ▸ pinv_fall hP (by assumption)); (case hp => first | exact pinv_more hP (by assumption) (.inl ⟨by assumption, by assumption⟩) (by assumption) | exact pinv_more hP (by assumption) (.inr ⟨by assumption, rfl⟩) (by assumption) | exact pinv_last hP (by assumption) (.inl ⟨by assumption, by assumption⟩) (by assumption) | exact pinv_last hP (by assumption) (.inr ⟨by assumption, rfl⟩) (by assumption))) | (refine' hE ?ra _ _ _ _ _ _ ?ef ?eu ?ed; (case eu => assumption); (case ed => assumption); (case ef => assumption); (case ra => first | exact hw0.trans (pinv_odd_none hlo hhi hP (by assumption) (by assumption)) | (refine' hw0.trans (pinv_sq_none hlo hhi hP ?s1 ?s2 ?s3 ?s4); (case s4 => assumption); (case s3 => first | assumption | exact even_half (by assumption) (by assumption)); (case s1 => assumption); (case s2 => first | exact .inl ⟨by assumption, by assumption⟩ | exact .inr ⟨by assumption, rfl⟩)) | exact hw0.trans (absurd ((pinv_end hP (by omega)).2.symm.trans (by assumption)) (by simp)))) | (refine' ret _ _ _ ⟨_, hw0.trans (pinv_ret hP ?eo ?ew), .mk _⟩ ?ef ?en; (case ef => k_asm); (case en => k_asm); (case eo => omega); (case ew => assumption))
end
noncomputable def MInv (md X : Int) (N : Nat) (z e r : Int) : Prop := 0 ≤ e ∧ 0 ≤ z ∧ z < md ∧ 0 ≤ r ∧ r < md ∧ (r * z ^ e.toNat) % md = X ^ N % md
theorem fmod_pos {a m : Int} (h : 0 < m) : a.fmod m = a % m := Int.fmod_eq_emod_of_nonneg a (by omega)
theorem fmod_bnd {a m : Int} (h : 0 < m) : 0 ≤ a.fmod m ∧ a.fmod m < m := by
  rw [fmod_pos h]; exact ⟨Int.emod_nonneg _ (by omega), Int.emod_lt_of_pos _ h⟩
theorem emod_pow (a m : Int) (n : Nat) : (a % m) ^ n % m = a ^ n % m := by
  induction n with
  | zero => rw [Int.pow_zero, Int.pow_zero]
  | succ n ih =>
    rw [Int.pow_succ, Int.pow_succ, Int.mul_emod, ih, Int.emod_emod_of_dvd _ (Int.dvd_refl m), ← Int.mul_emod]
section
variable {md X : Int} {N : Nat} {z e r : Int}
theorem minv_start (hm : 0 < md) (h1 : 0 ≤ X) (h2 : X < md) (hn : 0 ≤ e) : MInv md X e.toNat X e (Int.fmod 1 md) := by
  refine ⟨hn, h1, h2, (fmod_bnd hm).1, (fmod_bnd hm).2, ?_⟩
  rw [fmod_pos hm, Int.mul_emod, Int.emod_emod_of_dvd _ (Int.dvd_refl md), ← Int.mul_emod, Int.one_mul]
theorem minv_end (h : MInv md X N z e r) (he : e ≤ 0) : r = X ^ N % md := by
  obtain ⟨h0, h1, h2, h3, h4, h5⟩ := h
  rw [show e.toNat = 0 by omega, Int.pow_zero, Int.mul_one, Int.emod_eq_of_lt h3 h4] at h5
  exact h5
theorem minv_step {r' : Int} (hm : 0 < md) (h : MInv md X N z e r) (he : 0 < e) (hr : (e.fmod 2 = 1 ∧ r' = (r * z).fmod md) ∨ (e.fmod 2 ≠ 1 ∧ r' = r)) : MInv md X N ((z * z).fmod md) (e.fdiv 2) r' := by
  obtain ⟨h0, h1, h2, h3, h4, h5⟩ := h
  rw [fmod2] at hr
  have hz : ∀ a : Int, (a * ((z * z).fmod md) ^ (e.toNat / 2)) % md = (a * z ^ (2 * (e.toNat / 2))) % md := fun a => by
    rw [fmod_pos hm, Int.mul_emod, emod_pow, ← Int.mul_emod, Int.pow_mul, show z ^ 2 = z * z by rw [Int.pow_succ, Int.pow_succ, Int.pow_zero, Int.one_mul]]
  refine ⟨(fdiv2 h0).2, (fmod_bnd hm).1, (fmod_bnd hm).2, ?_, ?_, ?_⟩
  · rcases hr with ⟨_, rfl⟩ | ⟨_, rfl⟩
    · exact (fmod_bnd hm).1
    · exact h3
  · rcases hr with ⟨_, rfl⟩ | ⟨_, rfl⟩
    · exact (fmod_bnd hm).2
    · exact h4
  · rw [(fdiv2 h0).1, hz, ← h5]
    rcases hr with ⟨ho, rfl⟩ | ⟨he', rfl⟩
    · rw [fmod_pos hm, Int.mul_emod, Int.emod_emod_of_dvd _ (Int.dvd_refl md), ← Int.mul_emod]
      rw [show e.toNat = 2 * (e.toNat / 2) + 1 by omega, Int.pow_succ, Int.mul_comm (z ^ _) z, ← Int.mul_assoc]
      rw [show 2 * ((2 * (e.toNat / 2) + 1) / 2) = 2 * (e.toNat / 2) by omega]
    · rw [show 2 * (e.toNat / 2) = e.toNat by omega]
theorem minv_fall (h : MInv md X N z e r) (he : 0 < e) : (e.fdiv 2).toNat < e.toNat := by
  rw [(fdiv2 h.1).1]; omega
end
noncomputable def mpowO (md x k : Int) : Option Int := if k < 0 then none else some (x ^ k.toNat % md)
section
variable {w : World} {news : List (Addr × Obj)} {t dt : Addr} {es : List DictEntry} {n : Nat} {lo hi md : Int} {kd : Str} {ik il ih im : Tok}
theorem modular_power_d (ht : (t, instObj 308 dt) ∈ news) (hdt : (dt, dictOf es n) ∈ news) (gm : getL (Str.ofString "modulus") es = some (some (.int md im))) (x k : Int) (tx tk : Tok) (hm : 0 < md) (hb : md < 4611686018427387904) (h1 : 0 ≤ x) (h2 : x < md) : Deed w 200 [.ref t, .int x tx, .int k tk] news 12 (GiveO (mpowO md x k)) (mpowO md x k = none) := by
  intro prog p loose mean mg mb dp un gd cn cs a ccd cl outer A₀ base h₀ L m s Q E B F X N T hk hd hu ret hE
  refine wpAny_call ?_
  k_dflt cell_enter
  k_steps
  · refine' hE ?ra _ _ _ _ _ _ ?ef ?eu ?ed; (case eu => assumption); (case ed => assumption); (case ef => assumption); (case ra => exact if_pos (by assumption))
  all_goals
    unfold Hid
    have hw0 : mpowO md x k = some (x ^ k.toNat % md) := if_neg (by assumption)
    (with_reducible rename Fr _ _ _ _ => F1); (with_reducible rename News _ _ _ _ => N1)
    refine' While_inv2 (fun n m₁ nx => ∃ (z e r : Int) (tz te tr : Tok), m₁ (Str.ofString "x") = some (.int z tz) ∧ m₁ (Str.ofString "n") = some (.int e te) ∧ m₁ (Str.ofString "result") = some (.int r tr) ∧ m₁ (Str.ofString "t") = some (.ref t) ∧ nx = news ∧ e.toNat = n ∧ MInv md x k.toNat z e r) F1 N1 ⟨_, _, _, _, _, _, rfl, rfl, rfl, rfl, rfl, rfl, minv_start hm h1 h2 (by omega)⟩ ?_
    intro n m₁ n₁ h₁ tk₁ F₁ N₁ ⟨z, e, r, tz, te, tr, ez, ee, er, et, en, hn, hP⟩
    subst en
    have F₂ := fr_at4 F₁ ez ee er et
    clear F₁
    obtain ⟨p0, p1, p2, p3, p4, _⟩ := id hP
    k_steps
    all_goals first | (refine' ws2 (n' := (e.fdiv 2).toNat) ?ef ?en ?el ⟨_, _, _, _, _, _, ?e1, ?e2, ?e3, ?e4, rfl, rfl, ?hp⟩; (case ef => k_asm); (case en => k_asm); (case e1 => rfl); (case e2 => rfl); (case e3 => rfl); (case e4 => rfl); (case el => exact hn ▸ minv_fall hP (by assumption)); (case hp => first | exact minv_step hm hP (by assumption) (.inl ⟨by assumption, rfl⟩) | exact minv_step hm hP (by assumption) (.inr ⟨by assumption, rfl⟩))) | (refine' ret _ _ _ ⟨_, hw0.trans (congrArg some (minv_end hP ?eo).symm), .mk _⟩ ?ef ?en; (case ef => k_asm); (case en => k_asm); (case eo => omega))
end
theorem quot_core {a b : Int} (ha : 0 ≤ a) (hb : 0 < b) : (a - a.fmod b).fdiv b = a.tdiv b := by
  rw [fmod_pos hb, Int.fdiv_eq_ediv_of_nonneg _ (by omega), Int.tdiv_eq_ediv_of_nonneg ha]
  have h := Int.mul_ediv_add_emod a b
  have : a - a % b = b * (a / b) := by omega
  rw [this, Int.mul_ediv_cancel_left _ (by omega)]
theorem tdiv_signs {x y : Int} : (if x < 0 then -x else x).tdiv (if y < 0 then -y else y) = if (x < 0) = (y < 0) then x.tdiv y else -(x.tdiv y) := by
  by_cases h1 : x < 0 <;> by_cases h2 : y < 0 <;> simp [h1, h2, Int.neg_tdiv, Int.tdiv_neg]
theorem quot_pos {x y : Int} (h : 0 < x * y) : (((if x < 0 then -x else x) - (if x < 0 then -x else x).fmod (if y < 0 then -y else y)).fdiv (if y < 0 then -y else y)) = x.tdiv y := by
  have hy : y ≠ 0 := by rintro rfl; rw [Int.mul_zero] at h; omega
  rw [quot_core (by split <;> omega) (by split <;> omega), tdiv_signs, if_pos]
  have hx : x ≠ 0 := by rintro rfl; rw [Int.zero_mul] at h; omega
  by_cases h1 : x < 0 <;> by_cases h2 : y < 0 <;> simp only [h1, h2]
  · have := Int.mul_neg_of_neg_of_pos h1 (show 0 < y by omega); omega
  · have := Int.mul_neg_of_pos_of_neg (show 0 < x by omega) h2; omega
theorem quot_neg {x y : Int} (hy : y ≠ 0) (h : ¬ 0 < x * y) : 0 - (((if x < 0 then -x else x) - (if x < 0 then -x else x).fmod (if y < 0 then -y else y)).fdiv (if y < 0 then -y else y)) = x.tdiv y := by
  rw [quot_core (by split <;> omega) (by split <;> omega), tdiv_signs]
  by_cases hx : x = 0
  · subst hx; rw [Int.zero_tdiv]; split <;> rfl
  · rw [if_neg]
    · omega
    · by_cases h1 : x < 0 <;> by_cases h2 : y < 0 <;> simp only [h1, h2] <;> intro hh
      · have := Int.mul_pos_of_neg_of_neg h1 h2; omega
      · simp at hh
      · simp at hh
      · have := Int.mul_pos (show 0 < x by omega) (show 0 < y by omega); omega
noncomputable def withinO (kd : PySem.Str) (lo hi md v : Int) : Option Int := if (kd == PySem.Str.ofString "mod") = true then some (v.fmod md) else wi lo hi v
noncomputable def lpowO (x n : Int) : Option Int := if (x < -1 ∨ 1 < x) ∧ 64 < n then none else some (x ^ n.toNat)
theorem neg_one_pow {n : Int} (hn : 0 ≤ n) : 1 - 2 * n.fmod 2 = (-1) ^ n.toNat := by
  rw [fmod2]
  rcases (show n % 2 = 0 ∨ n % 2 = 1 by omega) with h | h
  · rw [h, show n.toNat = 2 * (n.toNat / 2) by omega, Int.pow_mul, show ((-1 : Int) ^ 2) = 1 by decide, Int.one_pow]; decide
  · rw [h, show n.toNat = 2 * (n.toNat / 2) + 1 by omega, Int.pow_succ, Int.pow_mul, show ((-1 : Int) ^ 2) = 1 by decide, Int.one_pow]; decide
theorem Deed.mono {w : World} {f : Addr} {vs : List Value} {news : List (Addr × Obj)} {k : Nat} {P P' : Value → Prop} {R R' : Prop} (D : Deed w f vs news k P R) (hP : ∀ r, P r → P' r) (hR : R → R') : Deed w f vs news k P' R' :=
  fun prog p loose mean mg mb dp un gd cn cs a ccd cl outer A₀ base h₀ L m s Q E B F X N T hk hd hu ret rai => D prog p loose mean mg mb dp un gd cn cs a ccd cl outer A₀ base h₀ L m s Q E B F X N T hk hd hu (fun r h' tk' h => ret r h' tk' (hP r h)) (fun h => rai (hR h))
section
variable {w : World} {news : List (Addr × Obj)} {t dt : Addr} {es : List DictEntry} {n : Nat} {lo hi md : Int} {kd : Str} {ik il ih im : Tok}
local macro_rules | `(tactic| walk_at "pad2") => `(tactic| skip)
theorem law_quotient_d (x y : Int) (tx ty : Tok) (hy : y ≠ 0) (y1 : -4611686018427387904 < y) (y2 : y < 4611686018427387904) : Deed w 369 [.int x tx, .int y ty] news 3 (OutI (Int.tdiv x y)) False := by
  intro prog p loose mean mg mb dp un gd cn cs a ccd cl outer A₀ base h₀ L m s Q E B F X N T hk hd hu ret hE
  refine wpAny_call ?_
  k_dflt cell_enter
  k_steps
  all_goals first
    | (refine' ret _ _ _ ?ep ?ef ?en; (case ef => k_asm); (case en => first | k_asm | exact cb_drop (by k_asm) (fun p hp => by repeat (first | exact hp | refine List.Mem.tail _ ?_))); (case ep => first | (rw [quot_pos (by assumption)]; exact .mk _) | (rw [quot_neg hy (by assumption)]; exact .mk _)))
    | (refine' hE ?er _ _ _ _ _ _ ?ef ?eu ?ed; (case eu => assumption); (case ed => assumption); (case ef => assumption); (case er => skip))
theorem law_within_n (tx : Tok) : Deed w 397 [.ref t, .none] news 3 (OutO none) False := by
  intro prog p loose mean mg mb dp un gd cn cs a ccd cl outer A₀ base h₀ L m s Q E B F X N T hk hd hu ret hE
  refine wpAny_call ?_
  k_dflt cell_enter
  k_steps
  all_goals first
    | (refine' ret _ _ _ ?ep ?ef ?en; (case ef => k_asm); (case en => first | k_asm | exact cb_drop (by k_asm) (fun p hp => by repeat (first | exact hp | refine List.Mem.tail _ ?_))); (case ep => exact .none))
    | (refine' hE ?er _ _ _ _ _ _ ?ef ?eu ?ed; (case eu => assumption); (case ed => assumption); (case ef => assumption); (case er => skip))
theorem law_within_d (ht : (t, instObj 308 dt) ∈ news) (hdt : (dt, dictOf es n) ∈ news) (gk : getL (Str.ofString "kind") es = some (some (.str kd ik))) (gl : getL (Str.ofString "low") es = some (some (.int lo il))) (gh : getL (Str.ofString "high") es = some (some (.int hi ih))) (gm : getL (Str.ofString "modulus") es = some (some (.int md im))) (hm : md ≠ 0) (x : Int) (tx : Tok) : Deed w 397 [.ref t, .int x tx] news 3 (OutO (withinO kd lo hi md x)) False := by
  intro prog p loose mean mg mb dp un gd cn cs a ccd cl outer A₀ base h₀ L m s Q E B F X N T hk hd hu ret hE
  refine wpAny_call ?_
  k_dflt cell_enter
  k_steps
  all_goals first
    | (refine' ret _ _ _ ?ep ?ef ?en; (case ef => k_asm); (case en => first | k_asm | exact cb_drop (by k_asm) (fun p hp => by repeat (first | exact hp | refine List.Mem.tail _ ?_))); (case ep => (unfold withinO; first | (rw [if_pos (by assumption)]; exact .some _ _) | (rw [if_neg (by simp only [*]; decide), wi_in (by assumption) (by assumption)]; exact .some _ _) | (rw [if_neg (by simp only [*]; decide), wi_out (by omega)]; exact .none))))
    | (refine' hE ?er _ _ _ _ _ _ ?ef ?eu ?ed; (case eu => assumption); (case ed => assumption); (case ef => assumption); (case er => skip))
theorem law_power_d1 (x n : Int) (tx tn : Tok) (hx : x < -1 ∨ 1 < x) (hn : 64 < n) : Deed w 376 [.int x tx, .int n tn] news 3 (OutO none) False := by
  intro prog p loose mean mg mb dp un gd cn cs a ccd cl outer A₀ base h₀ L m s Q E B F X N T hk hd hu ret hE
  refine wpAny_call ?_
  k_dflt cell_enter
  k_steps
  all_goals first
    | (refine' ret _ _ _ ?ep ?ef ?en; (case ef => k_asm); (case en => first | k_asm | exact cb_drop (by k_asm) (fun p hp => by repeat (first | exact hp | refine List.Mem.tail _ ?_))); (case ep => exact .none))
    | (refine' hE ?er _ _ _ _ _ _ ?ef ?eu ?ed; (case eu => assumption); (case ed => assumption); (case ef => assumption); (case er => skip))
theorem law_power_d2 (x n : Int) (tx tn : Tok) (h1 : -4611686018427387904 < x) (h2 : x < 4611686018427387904) (h0 : 0 ≤ n) (hn : n ≤ 64) : Deed w 376 [.int x tx, .int n tn] news 3 (OutO (some (x ^ n.toNat))) False := by
  intro prog p loose mean mg mb dp un gd cn cs a ccd cl outer A₀ base h₀ L m s Q E B F X N T hk hd hu ret hE
  refine wpAny_call ?_
  k_dflt cell_enter
  k_steps
  all_goals first
    | (refine' ret _ _ _ ?ep ?ef ?en; (case ef => k_asm); (case en => first | k_asm | exact cb_drop (by k_asm) (fun p hp => by repeat (first | exact hp | refine List.Mem.tail _ ?_))); (case ep => exact .some _ _))
    | (refine' hE ?er _ _ _ _ _ _ ?ef ?eu ?ed; (case eu => assumption); (case ed => assumption); (case ef => assumption); (case er => skip))
theorem law_power_d3 (n : Int) (tx tn : Tok) (hn : 64 < n) : Deed w 376 [.int (-1) tx, .int n tn] news 3 (OutO (some (1 - 2 * n.fmod 2))) False := by
  intro prog p loose mean mg mb dp un gd cn cs a ccd cl outer A₀ base h₀ L m s Q E B F X N T hk hd hu ret hE
  refine wpAny_call ?_
  k_dflt cell_enter
  k_steps
  all_goals first
    | (refine' ret _ _ _ ?ep ?ef ?en; (case ef => k_asm); (case en => first | k_asm | exact cb_drop (by k_asm) (fun p hp => by repeat (first | exact hp | refine List.Mem.tail _ ?_))); (case ep => exact .some _ _))
    | (refine' hE ?er _ _ _ _ _ _ ?ef ?eu ?ed; (case eu => assumption); (case ed => assumption); (case ef => assumption); (case er => skip))
theorem law_power_d4 (n : Int) (tx tn : Tok) (hn : 64 < n) : Deed w 376 [.int 0 tx, .int n tn] news 3 (OutO (some (0))) False := by
  intro prog p loose mean mg mb dp un gd cn cs a ccd cl outer A₀ base h₀ L m s Q E B F X N T hk hd hu ret hE
  refine wpAny_call ?_
  k_dflt cell_enter
  k_steps
  all_goals first
    | (refine' ret _ _ _ ?ep ?ef ?en; (case ef => k_asm); (case en => first | k_asm | exact cb_drop (by k_asm) (fun p hp => by repeat (first | exact hp | refine List.Mem.tail _ ?_))); (case ep => exact .some _ _))
    | (refine' hE ?er _ _ _ _ _ _ ?ef ?eu ?ed; (case eu => assumption); (case ed => assumption); (case ef => assumption); (case er => skip))
theorem law_power_d5 (n : Int) (tx tn : Tok) (hn : 64 < n) : Deed w 376 [.int 1 tx, .int n tn] news 3 (OutO (some (1))) False := by
  intro prog p loose mean mg mb dp un gd cn cs a ccd cl outer A₀ base h₀ L m s Q E B F X N T hk hd hu ret hE
  refine wpAny_call ?_
  k_dflt cell_enter
  k_steps
  all_goals first
    | (refine' ret _ _ _ ?ep ?ef ?en; (case ef => k_asm); (case en => first | k_asm | exact cb_drop (by k_asm) (fun p hp => by repeat (first | exact hp | refine List.Mem.tail _ ?_))); (case ep => exact .some _ _))
    | (refine' hE ?er _ _ _ _ _ _ ?ef ?eu ?ed; (case eu => assumption); (case ed => assumption); (case ef => assumption); (case er => skip))
theorem law_power_d (x n : Int) (tx tn : Tok) (h1 : -4611686018427387904 < x) (h2 : x < 4611686018427387904) (h0 : 0 ≤ n) : Deed w 376 [.int x tx, .int n tn] news 3 (OutO (lpowO x n)) False := by
  unfold lpowO
  by_cases hn : n ≤ 64
  · rw [if_neg (by omega)]; exact law_power_d2 x n tx tn h1 h2 h0 hn
  · by_cases hx : x < -1 ∨ 1 < x
    · rw [if_pos ⟨hx, by omega⟩]; exact law_power_d1 x n tx tn hx (by omega)
    · rw [if_neg (fun h => hx h.1)]
      rcases (show x = -1 ∨ x = 0 ∨ x = 1 by omega) with rfl | rfl | rfl
      · rw [← neg_one_pow h0]; exact law_power_d3 n tx tn (by omega)
      · rw [Int.zero_pow (by omega)]; exact law_power_d4 n tx tn (by omega)
      · rw [Int.one_pow]; exact law_power_d5 n tx tn (by omega)
local macro_rules | `(tactic| walk_at "call ref") => `(tactic| (k_here; (with_reducible show wpAny _ _ (call (Value.ref 397) _) _ _ _); k_dflt (refine' Deed.use (law_within_d ?ht ?hdt ?gk ?gl ?gh ?gm ?hm _ _) ?kB ?kF ?kX ?kN ?kT ?kK ?kd ?ku ?_ ?ke; walk_at "solve"; (case ht => k_mem); (case hdt => k_mem); (case gk => assumption); (case gl => assumption); (case gh => assumption); (case gm => assumption); (case hm => assumption); (case ke => exact fun h9 => h9.elim); intro r9 h9 tk9 P9 F9 N9; (try k_sweep); skip)))
theorem law_lone_not (ht : (t, instObj 308 dt) ∈ news) (hdt : (dt, dictOf es n) ∈ news) (gk : getL (Str.ofString "kind") es = some (some (.str kd ik))) (gl : getL (Str.ofString "low") es = some (some (.int lo il))) (gh : getL (Str.ofString "high") es = some (some (.int hi ih))) (gm : getL (Str.ofString "modulus") es = some (some (.int md im))) (hm : md ≠ 0) (x : Int) (tx tw : Tok) : Deed w 411 [.ref t, .str (Str.ofString "not") tw, .int x tx] news 6 (OutO (some (hi + lo - x))) False := by
  intro prog p loose mean mg mb dp un gd cn cs a ccd cl outer A₀ base h₀ L m s Q E B F X N T hk hd hu ret hE
  refine wpAny_call ?_
  k_dflt cell_enter
  k_steps
  all_goals first
    | (refine' ret _ _ _ ?ep ?ef ?en; (case ef => k_asm); (case en => first | k_asm | exact cb_drop (by k_asm) (fun p hp => by repeat (first | exact hp | refine List.Mem.tail _ ?_))); (case ep => exact .some _ _))
    | (refine' hE ?er _ _ _ _ _ _ ?ef ?eu ?ed; (case eu => assumption); (case ed => assumption); (case ef => assumption); (case er => skip))
theorem law_lone_pos (ht : (t, instObj 308 dt) ∈ news) (hdt : (dt, dictOf es n) ∈ news) (gk : getL (Str.ofString "kind") es = some (some (.str kd ik))) (gl : getL (Str.ofString "low") es = some (some (.int lo il))) (gh : getL (Str.ofString "high") es = some (some (.int hi ih))) (gm : getL (Str.ofString "modulus") es = some (some (.int md im))) (hm : md ≠ 0) (x : Int) (tx tw : Tok) : Deed w 411 [.ref t, .str (Str.ofString "+") tw, .int x tx] news 6 (OutO (withinO kd lo hi md (x))) False := by
  intro prog p loose mean mg mb dp un gd cn cs a ccd cl outer A₀ base h₀ L m s Q E B F X N T hk hd hu ret hE
  refine wpAny_call ?_
  k_dflt cell_enter
  k_steps
  all_goals first
    | (refine' ret _ _ _ ?ep ?ef ?en; (case ef => k_asm); (case en => first | k_asm | exact cb_drop (by k_asm) (fun p hp => by repeat (first | exact hp | refine List.Mem.tail _ ?_))); (case ep => assumption))
    | (refine' hE ?er _ _ _ _ _ _ ?ef ?eu ?ed; (case eu => assumption); (case ed => assumption); (case ef => assumption); (case er => skip))
theorem law_lone_neg (ht : (t, instObj 308 dt) ∈ news) (hdt : (dt, dictOf es n) ∈ news) (gk : getL (Str.ofString "kind") es = some (some (.str kd ik))) (gl : getL (Str.ofString "low") es = some (some (.int lo il))) (gh : getL (Str.ofString "high") es = some (some (.int hi ih))) (gm : getL (Str.ofString "modulus") es = some (some (.int md im))) (hm : md ≠ 0) (x : Int) (tx tw : Tok) : Deed w 411 [.ref t, .str (Str.ofString "-") tw, .int x tx] news 6 (OutO (withinO kd lo hi md (0 - x))) False := by
  intro prog p loose mean mg mb dp un gd cn cs a ccd cl outer A₀ base h₀ L m s Q E B F X N T hk hd hu ret hE
  refine wpAny_call ?_
  k_dflt cell_enter
  k_steps
  all_goals first
    | (refine' ret _ _ _ ?ep ?ef ?en; (case ef => k_asm); (case en => first | k_asm | exact cb_drop (by k_asm) (fun p hp => by repeat (first | exact hp | refine List.Mem.tail _ ?_))); (case ep => assumption))
    | (refine' hE ?er _ _ _ _ _ _ ?ef ?eu ?ed; (case eu => assumption); (case ed => assumption); (case ef => assumption); (case er => skip))
theorem law_lone_abs (ht : (t, instObj 308 dt) ∈ news) (hdt : (dt, dictOf es n) ∈ news) (gk : getL (Str.ofString "kind") es = some (some (.str kd ik))) (gl : getL (Str.ofString "low") es = some (some (.int lo il))) (gh : getL (Str.ofString "high") es = some (some (.int hi ih))) (gm : getL (Str.ofString "modulus") es = some (some (.int md im))) (hm : md ≠ 0) (x : Int) (tx tw : Tok) : Deed w 411 [.ref t, .str (Str.ofString "abs") tw, .int x tx] news 6 (OutO (withinO kd lo hi md (if 0 - x > x then 0 - x else x))) False := by
  intro prog p loose mean mg mb dp un gd cn cs a ccd cl outer A₀ base h₀ L m s Q E B F X N T hk hd hu ret hE
  refine wpAny_call ?_
  k_dflt cell_enter
  k_steps
  all_goals first
    | (refine' ret _ _ _ ?ep ?ef ?en; (case ef => k_asm); (case en => first | k_asm | exact cb_drop (by k_asm) (fun p hp => by repeat (first | exact hp | refine List.Mem.tail _ ?_))); (case ep => assumption))
    | (refine' hE ?er _ _ _ _ _ _ ?ef ?eu ?ed; (case eu => assumption); (case ed => assumption); (case ef => assumption); (case er => skip))
end
section
variable {prog : Program} {w : World} {A₀ A : Around} {s : Shared} {base h₀ : Heap} {L : Addr} {m : Str → Option Value} {env : Env} {news : List (Addr × Obj)} {K : Frag} {p : Program} {loose : List Str} {mean : ExcName → Option Value} {mg mb : Str → Option Value}
    {R : Result → Shared → Prop} {name qual : Str} {params : Arguments} {body : List Stmt} {scope : Scope} {dV kV doc pm cdv ct oc : Value} {an od : Option Addr} {osl : Array (Option Value)} {f : Addr} {args : Args} {binds : List (Str × Value)}
theorem fs_one (hf : env.frame = some L) : [env].filterMap (·.frame) = [L] := by simp [List.filterMap, hf]
/-- a def with a try in it, entered from a frame whose env may hold cells: an exception that was caught in it may have turned the caller's frame -/
theorem code_tried (B : Below A₀ base [] h₀) (F : Fr h₀ L s.heap m) (X₀ : K.In h₀) (N : News h₀ L s.heap news) (T : Top p loose mean mg mb h₀) (hA : A.frames = some [env]) (hf : env.frame = some L) (hke : env.scope.kind = .function)
    (ho : K.lookup f = some ⟨oc, od, .func (fnOf name qual params body scope dV kV doc pm an cdv ct), osl⟩) (hcd : codeIn K cdv qual = true) (hroom : A.depth < recursionLimit)
    (hbind : BindsTo s (fnOf name qual params body scope dV kV doc pm an cdv ct) args binds) (hloc : ∀ y ∈ binds, scope.names.lookup y.1 = some .local)
    (h : ∀ g L' h₁, Fr h₀ L g m → Fr g L' h₁ (fun y => binds.reverse.lookup y) → News g L' h₁ news → Below A base [env] g → K.In g → Top p loose mean mg mb g → KtsDicts ([env].filterMap (·.frame)) g →
      wpAny (model prog w) (A.deeper (envOf qual scope L' f cdv)) (execs body (envOf qual scope L' f cdv))
        (fun fl s' => LeaveS0 ([env].filterMap (·.frame)) h₀ L m g R (match fl with | .ret v => v | _ => .none) s')
        (fun e s' => wpAny (model prog w) (A.deeper (envOf qual scope L' f cdv)) (leaving (envOf qual scope L' f cdv) e) (fun _ s'' => R (.error e) s'') (fun e' s'' => R (.error e') s'') s')
        { s with heap := h₁, toks := s.toks + binds.length })
    (hco : scope.isCoroutine = false) (hgen : scope.isGenerator = false) (hk : scope.kind = .function)
    (hcell : ∀ x ∈ scope.names, x.2 ≠ .cell) : codeAny (model prog w) A (.call (.ref f) args) R s := by
  have X := X₀.keeps F.keep
  obtain ⟨FG, BG, st, -⟩ := groundX (R := R) B F N hA hf hke
  obtain ⟨oL, es, ep, hL, hLd, hLk, hLf⟩ := FG.ns
  refine codeAny_call_def (fd := fnOf name qual params body scope dV kV doc pm an cdv ct) (body := body) (binds := binds) hroom (X _ _ ho) rfl (T.nolimit.keeps F.keep) (codeRec_of X hcd) rfl hbind hcell hloc (fun h₁ hns hk₁ => ?_) hco hgen hk
  refine wpAny_mono (h _ s.heap.objs.size h₁ FG ⟨hns, fun b o e => hk₁ b o (of_hideAll _ e), Nat.le_of_eq (hideAll_size _ _)⟩
    (fun p hp => ⟨hk₁ _ _ (N p hp).1, Nat.ne_of_lt (Heap.lt_size (N p hp).1), hideAll_none _ (List.mem_map_of_mem hp)⟩) BG (X₀.keeps st) (T.keeps st) (by
      rw [fs_one hf]; intro b hb
      rw [List.mem_singleton.mp hb]
      exact ⟨oL, es, ep, hL, hLd⟩)) (fun fl s' hl => ?_) fun _ _ y => y
  obtain ⟨g', L', m', news', T', F', N', k⟩ := hl
  rw [fs_one hf] at T'
  have nL₀ : h₀.get? L = none := kts_self F
  obtain ⟨sl, hs⟩ := T'.up hL
  refine k ⟨⟨_, es, ep, F'.keep _ _ hs, hLd, hLk, hLf⟩, fun b o e => F'.keep b o (T'.other b o (st b o e) fun q => ?_), F.above⟩ fun p hp => ⟨(N' p hp).1, fun q => ?_, ?_⟩
  · rw [List.mem_singleton.mp q, nL₀] at e; cases e
  · have z := (N' p hp).2.2; rw [q, hs] at z; cases z
  · cases q : h₀.get? p.1 with
    | none => rfl
    | some o =>
      obtain ⟨sl', hs'⟩ := T'.up (st _ _ q)
      have z := (N' p hp).2.2
      rw [hs'] at z; cases z
end
/-- as Deed, from a frame right above the ground, and never raising -/
noncomputable def DeedT (w : World) (f : Addr) (vs : List Value) (news : List (Addr × Obj)) (k : Nat) (P : Value → Prop) : Prop :=
  ∀ (prog : Program) (p : Program) (loose : List Str) (mean : ExcName → Option Value) (mg mb : Str → Option Value) (dp un : Nat) (gd : Option (List Code)) (cn : Str) (cs : Scope) (a : Addr) (ccd : Value) (cl : List (Str × Addr)) (A₀ : Around) (base h₀ : Heap) (L : Addr) (m : Str → Option Value) (s : Shared) (Q E : Value → Shared → Prop),
    Below A₀ base [] h₀ → Fr h₀ L s.heap m → (Mine.K w.params).In h₀ → News h₀ L s.heap news → Top p loose mean mg mb h₀ → (Mine.K w.params).In base → Top p loose mean mg mb base → cs.kind = .function → dp + k < recursionLimit → un + 8 * k < cLine →
    (∀ (r : Value) (h' : Heap) (tk' : Nat), P r → Fr h₀ L h' m → News h₀ L h' news → Q r { s with heap := h', toks := tk' }) →
    wpAny (model prog w) (ktrTop dp un gd cn cs L a ccd cl []) (call (.ref f) vs) Q E s
theorem DeedT.use {w : World} {f : Addr} {vs : List Value} {news : List (Addr × Obj)} {k : Nat} {P : Value → Prop} (D : DeedT w f vs news k P)
    {prog p : Program} {loose : List Str} {mean : ExcName → Option Value} {mg mb : Str → Option Value} {dp un : Nat} {gd : Option (List Code)} {cn : Str} {cs : Scope} {a : Addr} {ccd : Value} {cl : List (Str × Addr)} {A₀ : Around} {base h₀ : Heap} {L : Addr} {m : Str → Option Value} {s : Shared} {Q E : Value → Shared → Prop}
    (B : Below A₀ base [] h₀) (F : Fr h₀ L s.heap m) (X : (Mine.K w.params).In h₀) (N : News h₀ L s.heap news) (T : Top p loose mean mg mb h₀) (XB : (Mine.K w.params).In base) (TB : Top p loose mean mg mb base) (hk : cs.kind = .function) (hd : dp + k < recursionLimit) (hu : un + 8 * k < cLine)
    (ret : ∀ (r : Value) (h' : Heap) (tk' : Nat), P r → Fr h₀ L h' m → News h₀ L h' news → Q r { s with heap := h', toks := tk' }) :
    wpAny (model prog w) (ktrTop dp un gd cn cs L a ccd cl []) (call (.ref f) vs) Q E s := D _ _ _ _ _ _ _ _ _ _ _ _ _ _ _ _ _ _ _ _ _ _ B F X N T XB TB hk hd hu ret
section
local macro_rules | `(tactic| walk_at "LeaveS0") => `(tactic| (k_dflt (refine' leaveS0_ ?F ?N ?T ?_; (case F => k_asm); (case N => k_asm); (case T => first | assumption | exact KtsTurn.refl); k_whole); intro kF kN))
section
variable {w : World} {news : List (Addr × Obj)} {f t : Addr} {x y : Int} {tx ty : Tok} {k : Nat} {o : Option Int}
local macro_rules | `(tactic| walk_at "call ref") => `(tactic| (k_here; k_dflt (refine' Deed.use (by assumption) ?kB ?kF ?kX ?kN ?kT ?kK ?kd ?ku ?_ ?_; walk_at "solve"; (focus (intro r9 h9 tk9 P9 F9 N9; (try k_sweep); skip)); rotate_left; (focus (intro c9 e9 t9 vs9 g9 h9 tk9 F9 U9 R9)); rotate_right)))
local macro_rules | `(tactic| walk_at "callWith ref") => `(tactic| (k_here; k_dflt (refine' callWith_K ?k1 ?k2 ?_; (case k1 => k_asm); (case k2 => assumption); k_whole)))
theorem law_of_two_d (D : Deed w f [.ref t, .int x tx, .int y ty] news k (GiveO o) (o = none)) (hf : keepIn (Mine.K w.params) (.ref f) = true) : DeedT w 418 [.ref f, .ref t, .int x tx, .int y ty] news (k + 2) (OutO o) := by
  intro prog p loose mean mg mb dp un gd cn cs a ccd cl A₀ base h₀ L m s Q E B F X N T XB TB hk hd hu ret
  refine wpAny_call ?_
  k_dflt (refine' code_tried ?k1 ?k2 ?k3 ?k4 ?k5 ?kA ?kF ?kK ?k6 ?k7 ?k8 ?k9 ?kB ?_ ?c2 ?c3 ?c4 ?c5; (case kA => exact rfl); (case kF => exact rfl); (case kK => assumption); (case k1 => k_asm); (case k2 => k_asm); (case k3 => k_asm); (case k4 => k_asm); (case k5 => k_asm); (case k6 => k_is); (case k7 => k_is); (case k8 => ktr_room); (case k9 => exact BindsTo.of_eq rfl); (case c5 => decide); (case kB => exact locs rfl); (case c2 => exact rfl); (case c3 => exact rfl); (case c4 => exact rfl); k_whole; intro g' L' h' FG' F' N' B' X' T' D'; (try dsimp only); (try k_lift B'); (try k_fold))
  k_steps
  all_goals (refine' ret _ _ _ ?ep ?ef ?en; (case ef => k_asm); (case en => k_asm); (case ep => first | (rename GiveO _ _ => P9; obtain ⟨v9, w9, ⟨tk8⟩⟩ := P9; rw [w9]; exact .some _ _) | (have e9 : o = none := (by assumption); rw [e9]; exact .none)))
end
section
variable {w : World} {news : List (Addr × Obj)} {f t : Addr} {x y : Int} {tx ty : Tok} {k : Nat} {o : Option Int}
local macro_rules | `(tactic| walk_at "call ref") => `(tactic| (k_here; k_dflt (refine' Deed.use (by assumption) ?kB ?kF ?kX ?kN ?kT ?kK ?kd ?ku ?_ ?_; walk_at "solve"; (focus (intro r9 h9 tk9 P9 F9 N9; (try k_sweep); skip)); rotate_left; (focus (intro c9 e9 t9 vs9 g9 h9 tk9 F9 U9 R9)); rotate_right)))
local macro_rules | `(tactic| walk_at "callWith ref") => `(tactic| (k_here; k_dflt (refine' callWith_K ?k1 ?k2 ?_; (case k1 => k_asm); (case k2 => assumption); k_whole)))
theorem law_of_one_d (D : Deed w f [.ref t, .int x tx] news k (GiveO o) (o = none)) (hf : keepIn (Mine.K w.params) (.ref f) = true) : DeedT w 425 [.ref f, .ref t, .int x tx] news (k + 2) (OutO o) := by
  intro prog p loose mean mg mb dp un gd cn cs a ccd cl A₀ base h₀ L m s Q E B F X N T XB TB hk hd hu ret
  refine wpAny_call ?_
  k_dflt (refine' code_tried ?k1 ?k2 ?k3 ?k4 ?k5 ?kA ?kF ?kK ?k6 ?k7 ?k8 ?k9 ?kB ?_ ?c2 ?c3 ?c4 ?c5; (case kA => exact rfl); (case kF => exact rfl); (case kK => assumption); (case k1 => k_asm); (case k2 => k_asm); (case k3 => k_asm); (case k4 => k_asm); (case k5 => k_asm); (case k6 => k_is); (case k7 => k_is); (case k8 => ktr_room); (case k9 => exact BindsTo.of_eq rfl); (case c5 => decide); (case kB => exact locs rfl); (case c2 => exact rfl); (case c3 => exact rfl); (case c4 => exact rfl); k_whole; intro g' L' h' FG' F' N' B' X' T' D'; (try dsimp only); (try k_lift B'); (try k_fold))
  k_steps
  all_goals (refine' ret _ _ _ ?ep ?ef ?en; (case ef => k_asm); (case en => k_asm); (case ep => first | (rename GiveO _ _ => P9; obtain ⟨v9, w9, ⟨tk8⟩⟩ := P9; rw [w9]; exact .some _ _) | (have e9 : o = none := (by assumption); rw [e9]; exact .none)))
end
end
/-- the entries of an object's dict, told by a function -/
structure Ent (f : Str → Option Value) (k : Nat) (es : List DictEntry) : Prop where
  keys : ∀ e ∈ es, ∃ s tk, e.key = .str s tk
  get : ∀ x, getL x es = some (f x)
  len : es.length ≤ k
theorem Ent.nil : Ent (fun _ => none) 0 [] := ⟨fun _ h => (nomatch h), fun _ => rfl, Nat.le_refl _⟩
theorem norefs {es : List DictEntry} (h : ∀ e ∈ es, ∃ s tk, e.key = .str s tk) : es.any (·.refKey) = false := by
  rw [List.any_eq_false]
  intro e he
  obtain ⟨s, tk, hk⟩ := h e he
  simp [DictEntry.refKey, hk]
theorem getL_str (x : Str) {es : List DictEntry} (h : ∀ e ∈ es, ∃ s tk, e.key = .str s tk) : getL x es = some ((es.find? (·.key.isStr x)).map (·.val)) := by
  unfold getL
  cases es.find? (·.key.isStr x) with
  | some e => rfl
  | none => show (if es.any (·.refKey) = true then none else some none) = _; rw [norefs h]; rfl
theorem find_put (name : Str) (hs : Int) (tk : Tok) (v : Value) (x : Str) : ∀ {es : List DictEntry}, (∀ e ∈ es, ∃ s tk, e.key = .str s tk) →
    ((putL name hs (.str name tk) v es).find? (·.key.isStr x)).map (·.val) = if x = name then some v else (es.find? (·.key.isStr x)).map (·.val)
  | [], _ => by
    unfold putL
    by_cases h : x = name
    · subst h; simp [Value.isStr]
    · have h' : ¬ name = x := fun q => h q.symm
      simp [Value.isStr, h, h']
  | ⟨eh, ek, ev⟩ :: r, hk => by
    have ih := find_put name hs tk v x (es := r) fun e he => hk e (.tail _ he)
    obtain ⟨s, tk', hs'⟩ := hk ⟨eh, ek, ev⟩ (.head _)
    dsimp only at hs'
    subst hs'
    unfold putL
    by_cases hn : s = name
    · subst hn
      by_cases h : x = s
      · subst h; simp [Value.isStr]
      · have h' : ¬ s = x := fun q => h q.symm
        simp [Value.isStr, h, h']
    · by_cases hx : s = x
      · subst hx; simp [Value.isStr, hn]
      · simpa [Value.isStr, hn, hx] using ih
theorem getL_put (name : Str) (hs : Int) (tk : Tok) (v : Value) (x : Str) {es : List DictEntry} (h : ∀ e ∈ es, ∃ s tk, e.key = .str s tk) (h' : ∀ e ∈ putL name hs (.str name tk) v es, ∃ s tk, e.key = .str s tk) :
    getL x (putL name hs (.str name tk) v es) = if x = name then some (some v) else getL x es := by
  rw [getL_str x h', getL_str x h, find_put name hs tk v x h]
  by_cases q : x = name <;> simp [q]
theorem putL_keys (name : Str) (hs : Int) (tk : Tok) (v : Value) : ∀ {es : List DictEntry}, (∀ e ∈ es, ∃ s tk, e.key = .str s tk) → ∀ e ∈ putL name hs (.str name tk) v es, ∃ s tk, e.key = .str s tk
  | [], _, e, he => by
    rw [List.mem_singleton.mp he]; exact ⟨_, _, rfl⟩
  | e :: r, hk, e', he => by
    unfold putL at he
    split at he
    · rcases List.mem_cons.mp he with rfl | he
      · exact hk e (.head _)
      · exact hk e' (.tail _ he)
    · rcases List.mem_cons.mp he with rfl | he
      · exact hk _ (.head _)
      · exact putL_keys name hs tk v (fun e he => hk e (.tail _ he)) e' he
theorem putL_len (name : Str) (hs : Int) (key v : Value) : ∀ {es : List DictEntry}, (putL name hs key v es).length ≤ es.length + 1
  | [] => Nat.le_refl _
  | e :: r => by
    unfold putL
    split
    · simp
    · simpa using putL_len name hs key v (es := r)
theorem Ent.put {f : Str → Option Value} {k : Nat} {es : List DictEntry} (H : Ent f k es) (name : Str) (hs : Int) (tk : Tok) (v : Value) : Ent (fun y => if y = name then some v else f y) (k + 1) (putL name hs (.str name tk) v es) :=
  ⟨putL_keys name hs tk v H.keys, fun x => by rw [getL_put name hs tk v x H.keys (putL_keys name hs tk v H.keys)]; by_cases h : x = name <;> simp [h, H.get], Nat.le_trans (putL_len ..) (Nat.succ_le_succ H.len)⟩
theorem Ent.at {f : Str → Option Value} {k : Nat} {es : List DictEntry} (H : Ent f k es) (x : Str) {v : Value} (h : f x = some v) : getL x es = some (some v) := by rw [H.get, h]
/-- the two fresh places of an object, above a ledger -/
structure Above2 (rest : List (Addr × Obj)) (d t : Addr) : Prop where
  all : ∀ p ∈ rest, p.1 < d
  lt : d < t
section
variable {prog : Program} {w : World} {A : Around} {E : Value → Shared → Prop} {s : Shared} {L : Addr} {h₀ : Heap} {m : Str → Option Value} {news rest : List (Addr × Obj)} {t d : Addr} {name : Str} {v : Value} {es : List DictEntry} {n k : Nat} {f : Str → Option Value}
theorem set_ent {Q : Unit → Shared → Prop} (F : Fr h₀ L s.heap m) (X₀ : (Mine.K w.params).In h₀) (N : News h₀ L s.heap news) (U : Above2 rest d t) (G : Ent f k es) (ht : (t, instObj 308 d) ∈ news) (hd : (d, dictOf es n) ∈ news) (hsub : ∀ p ∈ rest, p ∈ news) (hk : k < 900)
    (hf : takerIn (Mine.K w.params) 308 name = some none)
    (h : ∀ es' n' h', Ent (fun y => if y = name then some v else f y) (k + 1) es' → Fr h₀ L h' m → News h₀ L h' ((t, instObj 308 d) :: (d, dictOf es' n') :: rest) → Q () { s with heap := h', toks := s.toks + 2 }) :
    wpAny (model prog w) A (setAttr (.ref t) name v) Q E s := by
  have N' : News h₀ L s.heap ((t, instObj 308 d) :: (d, dictOf es n) :: rest) := fun p hp => by
    rcases List.mem_cons.mp hp with rfl | hp
    · exact N _ ht
    rcases List.mem_cons.mp hp with rfl | hp
    · exact N _ hd
    · exact N _ (hsub _ hp)
  have G' := G.put name (PyData.keyHash w.params name) (s.toks + 1) v
  refine set_dict (C := 308) F X₀ N' (InstAt.of_news N ht hd) rfl (by kernel_rfl) (by kernel_rfl) hf (by kernel_rfl) (by rw [G.get]; rfl) rfl
    (.tail (Nat.ne_of_gt U.lt) (.head fun p hp => Nat.ne_of_lt (U.all p hp))) (Nat.le_trans G'.len (by omega)) fun h' F' N'' => ?_
  exact h _ _ _ G' F' N''
end
local macro_rules | `(tactic| walk_at "setAttr ref") => `(tactic| (k_here; k_dflt (refine' set_ent ?k1 ?k2 ?k3 ?k4 ?k5 ?k6 ?k7 ?k8 ?k9 ?k10 ?_; (case k1 => k_asm); (case k2 => k_asm); (case k3 => k_asm); (case k4 => assumption); (case k5 => assumption); (case k6 => k_mem); (case k7 => k_mem); (case k8 => exact (fun p hp => by repeat (first | exact hp | refine List.Mem.tail _ ?_))); (case k9 => exact Nat.le_of_ble_eq_true rfl); (case k10 => k_is); k_whole; (rename Ent _ _ _ => oldE); clear oldE; intro es' n' h' e' F' N'; (try k_sweep))))
section
local macro_rules | `(tactic| walk_at "call ref") => `(tactic| (k_here; (with_reducible show wpAny _ _ (call (Value.ref 308) _) _ _ _); k_dflt (refine' call_cls ?k1 ?k2 ?k3 ?k4 ?k5 ?k6 ?_; (case k1 => k_asm); (case k2 => k_asm); (case k3 => k_asm); (case k4 => k_is); (case k5 => k_is); (case k6 => k_is); k_whole; intro x' d' h' F' N' l1 l2; have ab : Above2 _ d' x' := ⟨l1, l2⟩; have en := Ent.nil; (try k_lt l1); (try k_lt2 l2); (try k_sweep); first | k_enter | k_dflt cell_enter)))
theorem Ent.mono {f : Str → Option Value} {k k' : Nat} {es : List DictEntry} (H : Ent f k es) (h : k ≤ k') : Ent f k' es := ⟨H.keys, H.get, Nat.le_trans H.len h⟩
noncomputable def TypeNewD (w : World) (vs : List Value) (news : List (Addr × Obj)) (k : Nat) (kd : Str) : Prop :=
  ∀ (prog : Program) (p : Program) (loose : List Str) (mean : ExcName → Option Value) (mg mb : Str → Option Value) (dp un : Nat) (gd : Option (List Code)) (cn : Str) (cs : Scope) (a : Addr) (ccd : Value) (cl : List (Str × Addr)) (outer : List Env) (A₀ : Around) (base h₀ : Heap) (L : Addr) (m : Str → Option Value) (s : Shared) (Q E : Value → Shared → Prop),
    Below A₀ base outer h₀ → Fr h₀ L s.heap m → (Mine.K w.params).In h₀ → News h₀ L s.heap news → Top p loose mean mg mb h₀ → cs.kind = .function → dp + k < recursionLimit → un + 8 * k < cLine →
    (∀ (f : Str → Option Value) (t d : Addr) (es : List DictEntry) (n : Nat) (h' : Heap) (tk' : Nat) (t1 t2 : Tok), Ent f 30 es → f (Str.ofString "kind") = some (.str kd t1) → f (Str.ofString "modulus") = some (.int 0 t2) → Above2 news d t → Fr h₀ L h' m → News h₀ L h' ((t, instObj 308 d) :: (d, dictOf es n) :: news) → Q (.ref t) { s with heap := h', toks := tk' }) →
    wpAny (model prog w) (ktrTop dp un gd cn cs L a ccd cl outer) (call (.ref 308) vs) Q E s
theorem type_new_d {w : World} {news : List (Addr × Obj)} (kd nm : Str) (t1 t2 : Tok) : TypeNewD w [.str kd t1, .str nm t2] news 4 kd := by
  intro prog p loose mean mg mb dp un gd cn cs a ccd cl outer A₀ base h₀ L m s Q E B F X N T hk hd hu ret
  k_steps
  all_goals (rename Ent _ _ _ => en; refine' ret _ _ _ _ _ _ _ _ _ (Ent.mono en (Nat.le_of_ble_eq_true rfl)) ?fa ?fb ?fc ?fd ?fe; (case fa => (dsimp only; repeat (first | rw [if_pos rfl] | rw [if_neg (by decide)]); first | rfl | assumption)); (case fb => (dsimp only; repeat (first | rw [if_pos rfl] | rw [if_neg (by decide)]); first | rfl | assumption)); (case fc => assumption); (case fd => k_asm); (case fe => k_asm))
theorem Ent.ex {f : Str → Option Value} {k : Nat} {es : List DictEntry} (H : Ent f k es) (x : Str) {v : Tok → Value} (h : ∃ tk, f x = some (v tk)) : ∃ tk, getL x es = some (some (v tk)) := by
  obtain ⟨tk, h⟩ := h; exact ⟨tk, H.at x h⟩
structure TyIs (kd : Str) (lo hi md : Int) (es : List DictEntry) : Prop where
  kind : ∃ tk, getL (Str.ofString "kind") es = some (some (.str kd tk))
  low : ∃ tk, getL (Str.ofString "low") es = some (some (.int lo tk))
  high : ∃ tk, getL (Str.ofString "high") es = some (some (.int hi tk))
  modulus : ∃ tk, getL (Str.ofString "modulus") es = some (some (.int md tk))
noncomputable def TyD (w : World) (f : Addr) (vs : List Value) (news : List (Addr × Obj)) (k : Nat) (kd : Str) (lo hi md : Int) : Prop :=
  ∀ (prog : Program) (p : Program) (loose : List Str) (mean : ExcName → Option Value) (mg mb : Str → Option Value) (dp un : Nat) (gd : Option (List Code)) (cn : Str) (cs : Scope) (a : Addr) (ccd : Value) (cl : List (Str × Addr)) (outer : List Env) (A₀ : Around) (base h₀ : Heap) (L : Addr) (m : Str → Option Value) (s : Shared) (Q E : Value → Shared → Prop),
    Below A₀ base outer h₀ → Fr h₀ L s.heap m → (Mine.K w.params).In h₀ → News h₀ L s.heap news → Top p loose mean mg mb h₀ → cs.kind = .function → dp + k < recursionLimit → un + 8 * k < cLine →
    (∀ (t d : Addr) (es : List DictEntry) (n : Nat) (h' : Heap) (tk' : Nat), TyIs kd lo hi md es → Fr h₀ L h' m → News h₀ L h' ((t, instObj 308 d) :: (d, dictOf es n) :: news) → Q (.ref t) { s with heap := h', toks := tk' }) →
    wpAny (model prog w) (ktrTop dp un gd cn cs L a ccd cl outer) (call (.ref f) vs) Q E s
theorem TypeNewD.use {w : World} {vs : List Value} {news : List (Addr × Obj)} {k : Nat} {kd : Str} (D : TypeNewD w vs news k kd)
    {prog p : Program} {loose : List Str} {mean : ExcName → Option Value} {mg mb : Str → Option Value} {dp un : Nat} {gd : Option (List Code)} {cn : Str} {cs : Scope} {a : Addr} {ccd : Value} {cl : List (Str × Addr)} {outer : List Env} {A₀ : Around} {base h₀ : Heap} {L : Addr} {m : Str → Option Value} {s : Shared} {Q E : Value → Shared → Prop}
    (B : Below A₀ base outer h₀) (F : Fr h₀ L s.heap m) (X : (Mine.K w.params).In h₀) (N : News h₀ L s.heap news) (T : Top p loose mean mg mb h₀) (hk : cs.kind = .function) (hd : dp + k < recursionLimit) (hu : un + 8 * k < cLine)
    (ret : ∀ (f : Str → Option Value) (t d : Addr) (es : List DictEntry) (n : Nat) (h' : Heap) (tk' : Nat) (t1 t2 : Tok), Ent f 30 es → f (Str.ofString "kind") = some (.str kd t1) → f (Str.ofString "modulus") = some (.int 0 t2) → Above2 news d t → Fr h₀ L h' m → News h₀ L h' ((t, instObj 308 d) :: (d, dictOf es n) :: news) → Q (.ref t) { s with heap := h', toks := tk' }) :
    wpAny (model prog w) (ktrTop dp un gd cn cs L a ccd cl outer) (call (.ref 308) vs) Q E s := D _ _ _ _ _ _ _ _ _ _ _ _ _ _ _ _ _ _ _ _ _ _ _ B F X N T hk hd hu ret
theorem TyD.use {w : World} {f : Addr} {vs : List Value} {news : List (Addr × Obj)} {k : Nat} {kd : Str} {lo hi md : Int} (D : TyD w f vs news k kd lo hi md)
    {prog p : Program} {loose : List Str} {mean : ExcName → Option Value} {mg mb : Str → Option Value} {dp un : Nat} {gd : Option (List Code)} {cn : Str} {cs : Scope} {a : Addr} {ccd : Value} {cl : List (Str × Addr)} {outer : List Env} {A₀ : Around} {base h₀ : Heap} {L : Addr} {m : Str → Option Value} {s : Shared} {Q E : Value → Shared → Prop}
    (B : Below A₀ base outer h₀) (F : Fr h₀ L s.heap m) (X : (Mine.K w.params).In h₀) (N : News h₀ L s.heap news) (T : Top p loose mean mg mb h₀) (hk : cs.kind = .function) (hd : dp + k < recursionLimit) (hu : un + 8 * k < cLine)
    (ret : ∀ (t d : Addr) (es : List DictEntry) (n : Nat) (h' : Heap) (tk' : Nat), TyIs kd lo hi md es → Fr h₀ L h' m → News h₀ L h' ((t, instObj 308 d) :: (d, dictOf es n) :: news) → Q (.ref t) { s with heap := h', toks := tk' }) :
    wpAny (model prog w) (ktrTop dp un gd cn cs L a ccd cl outer) (call (.ref f) vs) Q E s := D _ _ _ _ _ _ _ _ _ _ _ _ _ _ _ _ _ _ _ _ _ _ _ B F X N T hk hd hu ret
local macro_rules | `(tactic| walk_at "call ref") => `(tactic| (k_here; (with_reducible show wpAny _ _ (call (Value.ref 308) _) _ _ _); k_dflt (refine' TypeNewD.use (type_new_d _ _ _ _) ?kB ?kF ?kX ?kN ?kT ?kK ?kd ?ku ?_; walk_at "solve"; intro f9 t9 d9 es9 n9 h9 tk9 u1 u2 G9 fk9 fm9 A9 F9 N9; (try k_sweep))))
theorem int_type_d {w : World} {news : List (Addr × Obj)} (nm : Str) (t1 : Tok) (lo hi : Int) (t2 t3 : Tok) : TyD w 319 [.str nm t1, .int lo t2, .int hi t3] news 6 (Str.ofString "int") lo hi 0 := by
  intro prog p loose mean mg mb dp un gd cn cs a ccd cl outer A₀ base h₀ L m s Q E B F X N T hk hd hu ret
  refine wpAny_call ?_
  k_dflt cell_enter
  k_steps
  all_goals (rename Ent _ _ _ => en; refine' ret _ _ _ _ _ _ ⟨?fa, ?fb, ?fc, ?fd⟩ ?fe ?ff; (case fa => refine en.ex _ ?_; (try dsimp only); repeat (first | rw [if_pos rfl] | rw [if_neg (by decide)]); first | exact ⟨_, rfl⟩ | exact ⟨_, by assumption⟩); (case fb => refine en.ex _ ?_; (try dsimp only); repeat (first | rw [if_pos rfl] | rw [if_neg (by decide)]); first | exact ⟨_, rfl⟩ | exact ⟨_, by assumption⟩); (case fc => refine en.ex _ ?_; (try dsimp only); repeat (first | rw [if_pos rfl] | rw [if_neg (by decide)]); first | exact ⟨_, rfl⟩ | exact ⟨_, by assumption⟩); (case fd => refine en.ex _ ?_; (try dsimp only); repeat (first | rw [if_pos rfl] | rw [if_neg (by decide)]); first | exact ⟨_, rfl⟩ | exact ⟨_, by assumption⟩); (case fe => k_asm); (case ff => k_asm))
theorem mod_type_d {w : World} {news : List (Addr × Obj)} (nm : Str) (t1 : Tok) (md : Int) (t2 : Tok) : TyD w 333 [.str nm t1, .int md t2] news 6 (Str.ofString "mod") 0 (md - 1) md := by
  intro prog p loose mean mg mb dp un gd cn cs a ccd cl outer A₀ base h₀ L m s Q E B F X N T hk hd hu ret
  refine wpAny_call ?_
  k_dflt cell_enter
  k_steps
  all_goals (rename Ent _ _ _ => en; refine' ret _ _ _ _ _ _ ⟨?fa, ?fb, ?fc, ?fd⟩ ?fe ?ff; (case fa => refine en.ex _ ?_; (try dsimp only); repeat (first | rw [if_pos rfl] | rw [if_neg (by decide)]); first | exact ⟨_, rfl⟩ | exact ⟨_, by assumption⟩); (case fb => refine en.ex _ ?_; (try dsimp only); repeat (first | rw [if_pos rfl] | rw [if_neg (by decide)]); first | exact ⟨_, rfl⟩ | exact ⟨_, by assumption⟩); (case fc => refine en.ex _ ?_; (try dsimp only); repeat (first | rw [if_pos rfl] | rw [if_neg (by decide)]); first | exact ⟨_, rfl⟩ | exact ⟨_, by assumption⟩); (case fd => refine en.ex _ ?_; (try dsimp only); repeat (first | rw [if_pos rfl] | rw [if_neg (by decide)]); first | exact ⟨_, rfl⟩ | exact ⟨_, by assumption⟩); (case fe => k_asm); (case ff => k_asm))
end
local macro_rules | `(tactic| walk_at "call ref") => `(tactic| (k_here; (with_reducible show wpAny _ _ (call (Value.ref 308) _) _ _ _); k_dflt (refine' TypeNewD.use (type_new_d _ _ _ _) ?kB ?kF ?kX ?kN ?kT ?kK ?kd ?ku ?_; walk_at "solve"; intro f9 t9 d9 es9 n9 h9 tk9 u1 u2 G9 fk9 fm9 A9 F9 N9; (try k_sweep))))
theorem news_drop3 {h₀ h : Heap} {L : Addr} {a b c : Addr × Obj} {r : List (Addr × Obj)} (N : News h₀ L h (a :: b :: c :: r)) : News h₀ L h (a :: b :: r) := fun p hp => by
  rcases List.mem_cons.mp hp with rfl | hp
  · exact N _ (.head _)
  rcases List.mem_cons.mp hp with rfl | hp
  · exact N _ (.tail _ (.head _))
  · exact N _ (.tail _ (.tail _ (.tail _ hp)))
theorem boolean_type_d {w : World} {news : List (Addr × Obj)} : TyD w 340 [] news 7 (Str.ofString "enum") 0 1 0 := by
  intro prog p loose mean mg mb dp un gd cn cs a ccd cl outer A₀ base h₀ L m s Q E B F X N T hk hd hu ret
  refine wpAny_call ?_
  k_dflt cell_enter
  k_steps
  all_goals (rename Ent _ _ _ => en; refine' ret _ _ _ _ _ _ ⟨?fa, ?fb, ?fc, ?fd⟩ ?fe ?ff; (case fa => refine en.ex _ ?_; (try dsimp only); repeat (first | rw [if_pos rfl] | rw [if_neg (by decide)]); first | exact ⟨_, rfl⟩ | exact ⟨_, by assumption⟩); (case fb => refine en.ex _ ?_; (try dsimp only); repeat (first | rw [if_pos rfl] | rw [if_neg (by decide)]); first | exact ⟨_, rfl⟩ | exact ⟨_, by assumption⟩); (case fc => refine en.ex _ ?_; (try dsimp only); repeat (first | rw [if_pos rfl] | rw [if_neg (by decide)]); first | exact ⟨_, rfl⟩ | exact ⟨_, by assumption⟩); (case fd => refine en.ex _ ?_; (try dsimp only); repeat (first | rw [if_pos rfl] | rw [if_neg (by decide)]); first | exact ⟨_, rfl⟩ | exact ⟨_, by assumption⟩); (case fe => k_asm); (case ff => first | k_asm | exact news_drop3 (by assumption) | (rename News _ _ _ (_ :: _ :: _ :: news) => nq; exact news_drop3 nq)))
inductive TyOk : Str → Int → Int → Int → Prop
  | int (e : Nat) (h1 : 1 ≤ e) (h2 : e ≤ 40) : TyOk (Str.ofString "int") (-(2 ^ e)) (2 ^ e - 1) 0
  | mod (md : Int) (h1 : 1 ≤ md) (h2 : md ≤ 8589934592) : TyOk (Str.ofString "mod") 0 (md - 1) md
  | enum : TyOk (Str.ofString "enum") 0 1 0
noncomputable def TypeD (w : World) (f : Addr) (vs : List Value) (news : List (Addr × Obj)) (k : Nat) : Prop :=
  ∀ (prog : Program) (p : Program) (loose : List Str) (mean : ExcName → Option Value) (mg mb : Str → Option Value) (dp un : Nat) (gd : Option (List Code)) (cn : Str) (cs : Scope) (a : Addr) (ccd : Value) (cl : List (Str × Addr)) (outer : List Env) (A₀ : Around) (base h₀ : Heap) (L : Addr) (m : Str → Option Value) (s : Shared) (Q E : Value → Shared → Prop),
    Below A₀ base outer h₀ → Fr h₀ L s.heap m → (Mine.K w.params).In h₀ → News h₀ L s.heap news → Top p loose mean mg mb h₀ → cs.kind = .function → dp + k < recursionLimit → un + 8 * k < cLine →
    (∀ (kd : Str) (lo hi md : Int) (t d : Addr) (es : List DictEntry) (n : Nat) (h' : Heap) (tk' : Nat), TyOk kd lo hi md → TyIs kd lo hi md es → Fr h₀ L h' m → News h₀ L h' ((t, instObj 308 d) :: (d, dictOf es n) :: news) → Q (.ref t) { s with heap := h', toks := tk' }) →
    wpAny (model prog w) (ktrTop dp un gd cn cs L a ccd cl outer) (call (.ref f) vs) Q E s
theorem TypeD.use {w : World} {f : Addr} {vs : List Value} {news : List (Addr × Obj)} {k : Nat} (D : TypeD w f vs news k)
    {prog p : Program} {loose : List Str} {mean : ExcName → Option Value} {mg mb : Str → Option Value} {dp un : Nat} {gd : Option (List Code)} {cn : Str} {cs : Scope} {a : Addr} {ccd : Value} {cl : List (Str × Addr)} {outer : List Env} {A₀ : Around} {base h₀ : Heap} {L : Addr} {m : Str → Option Value} {s : Shared} {Q E : Value → Shared → Prop}
    (B : Below A₀ base outer h₀) (F : Fr h₀ L s.heap m) (X : (Mine.K w.params).In h₀) (N : News h₀ L s.heap news) (T : Top p loose mean mg mb h₀) (hk : cs.kind = .function) (hd : dp + k < recursionLimit) (hu : un + 8 * k < cLine)
    (ret : ∀ (kd : Str) (lo hi md : Int) (t d : Addr) (es : List DictEntry) (n : Nat) (h' : Heap) (tk' : Nat), TyOk kd lo hi md → TyIs kd lo hi md es → Fr h₀ L h' m → News h₀ L h' ((t, instObj 308 d) :: (d, dictOf es n) :: news) → Q (.ref t) { s with heap := h', toks := tk' }) :
    wpAny (model prog w) (ktrTop dp un gd cn cs L a ccd cl outer) (call (.ref f) vs) Q E s := D _ _ _ _ _ _ _ _ _ _ _ _ _ _ _ _ _ _ _ _ _ _ _ B F X N T hk hd hu ret
section
local macro_rules | `(tactic| walk_at "call ref") => `(tactic| (k_here; (with_reducible show wpAny _ _ (call (Value.ref 319) _) _ _ _); k_dflt (refine' TyD.use (int_type_d _ _ _ _ _ _) ?kB ?kF ?kX ?kN ?kT ?kK ?kd ?ku ?_; walk_at "solve"; intro t9 d9 es9 n9 h9 tk9 I9 F9 N9; (try k_sweep))))
local macro_rules | `(tactic| walk_at "call ref") => `(tactic| (k_here; (with_reducible show wpAny _ _ (call (Value.ref 333) _) _ _ _); k_dflt (refine' TyD.use (mod_type_d _ _ _ _) ?kB ?kF ?kX ?kN ?kT ?kK ?kd ?ku ?_; walk_at "solve"; intro t9 d9 es9 n9 h9 tk9 I9 F9 N9; (try k_sweep))))
local macro_rules | `(tactic| walk_at "call ref") => `(tactic| (k_here; (with_reducible show wpAny _ _ (call (Value.ref 340) _) _ _ _); k_dflt (refine' TyD.use boolean_type_d ?kB ?kF ?kX ?kN ?kT ?kK ?kd ?ku ?_; walk_at "solve"; intro t9 d9 es9 n9 h9 tk9 I9 F9 N9; (try k_sweep))))
theorem pow2_nat (k : Nat) : (2 : Int) ^ k = ((2 ^ k : Nat) : Int) := by simp
theorem pow2_le {k : Nat} (h : k ≤ 33) : (2 : Int) ^ k ≤ 8589934592 := by
  have z : 2 ^ k ≤ 2 ^ 33 := Nat.pow_le_pow_right (by decide) h
  rw [pow2_nat]; omega
theorem e_lo (a : Int) : 1 ≤ (1 + a.fmod 40).toNat := by have h1 := fmod_lo a (n := 40) (by decide); omega
theorem e_hi (a : Int) : (1 + a.fmod 40).toNat ≤ 40 := by have h1 := fmod_hi a (n := 40) (by decide); omega
theorem md_lo (a : Int) : 1 ≤ (2 : Int) ^ (1 + a.fmod 33).toNat := Int.pow_pos (by decide)
theorem md_hi (a : Int) : (2 : Int) ^ (1 + a.fmod 33).toNat ≤ 8589934592 := by
  have h1 := fmod_hi a (n := 33) (by decide)
  exact pow2_le (show (1 + a.fmod 33).toNat ≤ 33 by omega)
theorem mr_lo (a : Int) : 1 ≤ 1 + a.fmod 300 := by have h1 := fmod_lo a (n := 300) (by decide); omega
theorem mr_hi (a : Int) : 1 + a.fmod 300 ≤ 8589934592 := by have h1 := fmod_hi a (n := 300) (by decide); omega
theorem p1_lo (a : Int) {n : Int} (hn : 0 < n) : 0 ≤ 1 + a.fmod n := by have := fmod_lo a hn; omega
theorem p1_hi (a : Int) {n : Int} (hn : 0 < n) (h : n ≤ 1000) : 1 + a.fmod n ≤ 1000000 := by have := fmod_hi a hn; omega
local macro_rules | `(tactic| walk_at "binaryOp Pow int int") => `(tactic| (k_here; (with_reducible refine pow_int_small ?kb1 ?kb2 ?kb3 ?_); (case kb1 => exact p1_lo _ (by decide)); (case kb2 => exact p1_hi _ (by decide) (by decide)); (case kb3 => decide)))
theorem law_type_d {w : World} {news : List (Addr × Obj)} (n : Int) (tn : Tok) : TypeD w 355 [.int n tn] news 10 := by
  intro prog p loose mean mg mb dp un gd cn cs a ccd cl outer A₀ base h₀ L m s Q E B F X N T hk hd hu ret
  refine wpAny_call ?_
  k_dflt cell_enter
  k_steps
  all_goals (rename TyIs _ _ _ _ _ => ti; refine' ret _ _ _ _ _ _ _ _ _ _ ?ok ti ?ef ?en; (case ok => first | exact .enum | exact .int _ (e_lo _) (e_hi _) | exact .mod _ (md_lo _) (md_hi _) | exact .mod _ (mr_lo _) (mr_hi _)); (case ef => k_asm); (case en => k_asm))
end
section
variable {w : World} {news : List (Addr × Obj)} {t dt : Addr} {es : List DictEntry} {n : Nat} {lo hi md : Int} {kd : Str} {ik il ih im : Tok}
noncomputable abbrev InR (lo hi : Int) (r : Value) : Prop := ∃ v tk, r = .int v tk ∧ lo ≤ v ∧ v ≤ hi
theorem v1_lo {lo hi : Int} (h : lo ≤ hi) (a : Int) : lo ≤ [lo, hi].getD (a.fmod 2).toNat 0 := by
  have h1 := fmod_lo a (n := 2) (by decide)
  have h2 := fmod_hi a (n := 2) (by decide)
  rcases (show (a.fmod 2).toNat = 0 ∨ (a.fmod 2).toNat = 1 by omega) with e | e <;> rw [e] <;> simp [h]
theorem v1_hi {lo hi : Int} (h : lo ≤ hi) (a : Int) : [lo, hi].getD (a.fmod 2).toNat 0 ≤ hi := by
  have h1 := fmod_lo a (n := 2) (by decide)
  have h2 := fmod_hi a (n := 2) (by decide)
  rcases (show (a.fmod 2).toNat = 0 ∨ (a.fmod 2).toNat = 1 by omega) with e | e <;> rw [e] <;> simp [h]
theorem v2_lo {lo hi : Int} (h : lo ≤ hi) (a : Int) : lo ≤ if (if a < hi then a else hi) > lo then (if a < hi then a else hi) else lo := by split <;> omega
theorem v2_hi {lo hi : Int} (h : lo ≤ hi) (a : Int) : (if (if a < hi then a else hi) > lo then (if a < hi then a else hi) else lo) ≤ hi := by (split <;> (try split)) <;> omega
theorem v3_lo {lo hi : Int} (h : lo ≤ hi) (a : Int) : lo ≤ lo + a.fmod (hi - lo + 1) := by have h1 := fmod_lo a (n := hi - lo + 1) (by omega); omega
theorem v3_hi {lo hi : Int} (h : lo ≤ hi) (a : Int) : lo + a.fmod (hi - lo + 1) ≤ hi := by have h1 := fmod_hi a (n := hi - lo + 1) (by omega); omega
theorem law_value_d (ht : (t, instObj 308 dt) ∈ news) (hdt : (dt, dictOf es n) ∈ news) (gl : getL (Str.ofString "low") es = some (some (.int lo il))) (gh : getL (Str.ofString "high") es = some (some (.int hi ih))) (hlh : lo ≤ hi) (b1 : -2199023255552 ≤ lo) (b2 : hi ≤ 2199023255552) (x : Int) (tx : Tok) : Deed w 362 [.ref t, .int x tx] news 3 (InR lo hi) False := by
  intro prog p loose mean mg mb dp un gd cn cs a ccd cl outer A₀ base h₀ L m s Q E B F X N T hk hd hu ret hE
  refine wpAny_call ?_
  k_dflt cell_enter
  k_steps
  all_goals first
    | (refine' ret _ _ _ ?ep ?ef ?en; (case ef => k_asm); (case en => first | k_asm | exact cb_drop (by k_asm) (fun p hp => by repeat (first | exact hp | refine List.Mem.tail _ ?_))); (case ep => first | exact ⟨_, _, rfl, v1_lo hlh _, v1_hi hlh _⟩ | exact ⟨_, _, rfl, v2_lo hlh _, v2_hi hlh _⟩ | exact ⟨_, _, rfl, v3_lo hlh _, v3_hi hlh _⟩))
    | (refine' hE ?er _ _ _ _ _ _ ?ef ?eu ?ed; (case eu => assumption); (case ed => assumption); (case ef => assumption); (case er => skip))
end
noncomputable def bval : List Int → Nat
  | [] => 0
  | b :: r => b.toNat + 2 * bval r
theorem bval_append (b : Int) : ∀ bs : List Int, bval (bs ++ [b]) = bval bs + 2 ^ bs.length * b.toNat
  | [] => by simp [bval]
  | c :: r => by
    have ih := bval_append b r
    simp only [List.cons_append, bval, List.length_cons, Nat.pow_succ] at *
    rw [ih, Nat.mul_add, ← Nat.add_assoc, ← Nat.mul_assoc, Nat.mul_comm (2 ^ r.length) 2]
noncomputable def RInv (N : Nat) (e : Int) (bs : List Int) : Prop := 0 ≤ e ∧ (∀ b ∈ bs, b = 0 ∨ b = 1) ∧ N = bval bs + 2 ^ bs.length * e.toNat
theorem rinv_start {n : Int} (h : 0 ≤ n) : RInv n.toNat n [] := ⟨h, fun _ h => (nomatch h), by simp [bval]⟩
theorem rinv_step {N : Nat} {e : Int} {bs : List Int} (h : RInv N e bs) (he : 0 < e) : RInv N (e.fdiv 2) (bs ++ [e.fmod 2]) := by
  obtain ⟨h0, h1, h2⟩ := h
  refine ⟨(fdiv2 h0).2, fun b hb => ?_, ?_⟩
  · rcases List.mem_append.mp hb with hb | hb
    · exact h1 b hb
    · rw [List.mem_singleton.mp hb, fmod2]; omega
  · rw [bval_append, (fdiv2 h0).1, fmod2, List.length_append, List.length_singleton, Nat.pow_succ, h2]
    have e1 : e.toNat = (e % 2).toNat + 2 * (e.toNat / 2) := by omega
    rw [Nat.add_assoc, Nat.mul_assoc, ← Nat.mul_add, ← e1]
theorem rinv_len {N : Nat} {e : Int} {bs : List Int} (h : RInv N e bs) (hN : N < 2 ^ 62) (he : 0 < e) : bs.length ≤ 62 := by
  obtain ⟨h0, h1, h2⟩ := h
  have : 2 ^ bs.length * 1 ≤ 2 ^ bs.length * e.toNat := Nat.mul_le_mul_left _ (by omega)
  have h3 : 2 ^ bs.length < 2 ^ 62 := by omega
  exact Nat.le_of_lt ((Nat.pow_lt_pow_iff_right (by decide)).mp h3)
theorem rinv_fall {N : Nat} {e : Int} {bs : List Int} (h : RInv N e bs) (he : 0 < e) : (e.fdiv 2).toNat < e.toNat := by
  rw [(fdiv2 h.1).1]; omega
theorem rinv_end {N : Nat} {e : Int} {bs : List Int} (h : RInv N e bs) (he : e ≤ 0) : N = bval bs ∧ ∀ b ∈ bs, b = 0 ∨ b = 1 := by
  obtain ⟨h0, h1, h2⟩ := h
  rw [show e.toNat = 0 by omega] at h2
  exact ⟨by simpa using h2, h1⟩
/-- from the highest bit down -/
noncomputable def hval (l : List Int) : Nat := l.foldl (fun a b => 2 * a + b.toNat) 0
theorem hval_foldl (l : List Int) (a : Nat) : l.foldl (fun a b => 2 * a + b.toNat) a = 2 ^ l.length * a + hval l := by
  induction l generalizing a with
  | nil => simp [hval]
  | cons c r ih =>
    have h1 := ih (2 * a + c.toNat)
    have h2 := ih (2 * 0 + c.toNat)
    simp only [hval, List.foldl_cons] at *
    rw [h1, h2, List.length_cons, Nat.pow_succ]
    rw [Nat.mul_add, Nat.mul_add, ← Nat.mul_assoc]; omega
theorem hval_reverse : ∀ bs : List Int, hval bs.reverse = bval bs
  | [] => rfl
  | c :: r => by
    have ih := hval_reverse r
    unfold hval at *
    rw [List.reverse_cons, List.foldl_append, ih]
    simp only [List.foldl_cons, List.foldl_nil, bval]; omega
theorem hval_snoc (l : List Int) (b : Int) : hval (l ++ [b]) = 2 * hval l + b.toNat := by
  unfold hval; rw [List.foldl_append]; rfl
/-- the running product of the ring loop -/
noncomputable def HInv (md X : Int) (l : List Int) (f : Int) : Prop := 0 ≤ f ∧ f < md ∧ f = X ^ hval l % md
theorem hinv_start {md X : Int} (hm : 0 < md) : HInv md X [] (Int.fmod 1 md) := by
  refine ⟨(fmod_bnd hm).1, (fmod_bnd hm).2, ?_⟩
  rw [fmod_pos hm]; simp [hval]
theorem hinv_step {md X f b u : Int} {l : List Int} (hm : 0 < md) (h : HInv md X l f) (hu : (b = 1 ∧ u = X) ∨ (b = 0 ∧ u = 1)) : HInv md X (l ++ [b]) ((f * f * u).fmod md) := by
  obtain ⟨h0, h1, h2⟩ := h
  refine ⟨(fmod_bnd hm).1, (fmod_bnd hm).2, ?_⟩
  rw [fmod_pos hm, hval_snoc, Int.pow_add, Int.pow_mul]
  have hf : f * f % md = (X ^ 2) ^ hval l % md := by
    rw [← Int.pow_mul, Nat.mul_comm 2, Int.pow_mul, Int.pow_succ, Int.pow_succ, Int.pow_zero, Int.one_mul, h2, Int.mul_emod, Int.emod_emod_of_dvd _ (Int.dvd_refl md), ← Int.mul_emod]
  rw [Int.mul_emod, hf, ← Int.mul_emod]
  rcases hu with ⟨rfl, rfl⟩ | ⟨rfl, rfl⟩
  · rw [show (1 : Int).toNat = 1 from rfl, Int.pow_succ _ 0, Int.pow_zero, Int.one_mul]
  · rw [show (0 : Int).toNat = 0 from rfl, Int.pow_zero]
/-- a turn's end in a loop that leaves the ledger as it was -/
noncomputable def FixPost (h₀ : Heap) (L : Addr) (J : (Str → Option Value) → Prop) (news own : List (Addr × Obj)) (s₁ : Shared) (Q : Flow → Shared → Prop) (f : Flow) (s₂ : Shared) : Prop :=
  InvPostN h₀ L (fun m' nx => nx = news ∧ J m') own (news.map (·.1)) s₁ Q f s₂
theorem fix_next {h₀ h' : Heap} {L : Addr} {J : (Str → Option Value) → Prop} {news own news' : List (Addr × Obj)} {s₁ : Shared} {Q : Flow → Shared → Prop} {m' : Str → Option Value} {tk : Nat}
    (F : Fr h₀ L h' m') (N : News h₀ L h' news') (hn : ∀ p ∈ news, p ∈ news') (ho : ∀ p ∈ own, p ∈ news') (hj : J m') : FixPost h₀ L J news own s₁ Q .next { s₁ with heap := h', toks := tk } :=
  ⟨h', tk, m', news', news, rfl, F, N, hn, ho, rfl, rfl, hj⟩
theorem fix_ret {h₀ : Heap} {L : Addr} {J : (Str → Option Value) → Prop} {news own : List (Addr × Obj)} {s₁ s₂ : Shared} {Q : Flow → Shared → Prop} {v : Value} (h : Q (.ret v) s₂) : FixPost h₀ L J news own s₁ Q (.ret v) s₂ := h
section
variable {prog : Program} {w : World} {A : Around} {E : Value → Shared → Prop} {s : Shared} {env : Env} {h₀ : Heap} {x : Str} {body : List Stmt} {Q : Flow → Shared → Prop}
theorem list_fix {l : Addr} {vs : List Value} {ns : List Int} {nn : Nat} {m₀ : Str → Option Value} {news : List (Addr × Obj)} (J : Nat → (Str → Option Value) → Prop)
    (hh : A.handled = none) (hl : (l, W.listOf vs.toArray nn) ∈ news) (hi : IntsAre vs ns) (F : Fr h₀ env.locals s.heap m₀) (N : News h₀ env.locals s.heap news) (hj : J 0 m₀)
    (turn : ∀ i n t m₁ h tk own, ns[i]? = some n → OwnOff own (news.map (·.1)) → J i m₁ → Fr h₀ env.locals h (fun y => if y = x then some (.int n t) else m₁ y) → News h₀ env.locals h (news ++ own) →
      wpAny (model prog w) A (execs body env) (FixPost h₀ env.locals (J (i + 1)) news own { s with heap := h, toks := tk } Q) E { s with heap := h, toks := tk })
    (done : ∀ m₁ h tk, J ns.length m₁ → Fr h₀ env.locals h m₁ → News h₀ env.locals h news → Q .next { s with heap := h, toks := tk }) :
    wpAny (model prog w) A (pyIter (.ref l)) (fun it s₂ => LoopAtV prog w A h₀ env x body Q E it s₂) E s := by
  refine iter_invNL (fun i m nx => nx = news ∧ J i m) hh hl hi F N ⟨rfl, hj⟩ ?_ ?_
  · rintro i n t m₁ _ h tk own hin _ hoff _ ⟨rfl, hJ⟩ F₁ N₁
    refine wpAny_mono (turn i n t m₁ h tk own hin hoff hJ F₁ N₁) (fun f s₂ z => ?_) fun _ _ e => e
    cases f with
    | ret v => exact z
    | brk => exact z
    | next =>
      obtain ⟨h', tk', m', news', nx, e, F', N', hn, ho, ha, rfl, hj'⟩ := z
      exact ⟨h', tk', m', news', _, e, F', N', hn, ho, ha, hl, rfl, hj'⟩
    | cont =>
      obtain ⟨h', tk', m', news', nx, e, F', N', hn, ho, ha, rfl, hj'⟩ := z
      exact ⟨h', tk', m', news', _, e, F', N', hn, ho, ha, hl, rfl, hj'⟩
  · rintro m₁ _ h tk _ ⟨rfl, hJ⟩ F₁ N₁
    exact done m₁ h tk hJ F₁ N₁
theorem range_fix {σ : Type} {r : Addr} {a₀ b₀ : Int} {t₀ u₀ v₀ : Tok} {n : Nat} {m₀ : Str → Option Value} {news : List (Addr × Obj)}
    (R : σ → (Str → Option Value) → Prop) (g : σ → Int → σ) (c₀ : σ)
    (hh : A.handled = none) (hr : IsRange s.heap r a₀ b₀ 1 t₀ u₀ v₀) (hsmall : Builtin.Range.small a₀ b₀ 1 = true) (hn : Builtin.Range.rangeSize a₀ b₀ 1 = (n : Int)) (F : Fr h₀ env.locals s.heap m₀) (N : News h₀ env.locals s.heap news) (hR : R c₀ m₀)
    (turn : ∀ k t a m₁ h tk own, k ∈ rangeKs a₀ n → OwnOff own (news.map (·.1)) → R a m₁ → Fr h₀ env.locals h (fun y => if y = x then some (.int k t) else m₁ y) → News h₀ env.locals h (news ++ own) →
      wpAny (model prog w) A (execs body env) (FixPost h₀ env.locals (R (g a k)) news own { s with heap := h, toks := tk } Q) E { s with heap := h, toks := tk })
    (done : ∀ m₁ h tk, R ((rangeKs a₀ n).foldl g c₀) m₁ → Fr h₀ env.locals h m₁ → News h₀ env.locals h news → Q .next { s with heap := h, toks := tk }) :
    wpAny (model prog w) A (pyIter (.ref r)) (fun it s₂ => LoopAtV prog w A h₀ env x body Q E it s₂) E s := by
  refine iter_rangeS (fun a m nx => nx = news ∧ R a m) g c₀ hh hr hsmall hn F N ⟨rfl, hR⟩ ?_ ?_
  · rintro k t a m₁ _ h tk own hk hoff ⟨rfl, hJ⟩ F₁ N₁
    exact turn k t a m₁ h tk own hk hoff hJ F₁ N₁
  · rintro m₁ _ h tk ⟨rfl, hJ⟩ F₁ N₁
    exact done m₁ h tk hJ F₁ N₁
end
section
local macro_rules | `(tactic| walk_at "exec For Name Subscript cons nil") => `(tactic| (k_here; (rename Fr _ _ _ _ => lF'); (with_unfolding_all refine' For_invVF lF' ?k1 ?k2 ?_; (case k1 => exact rfl); (case k2 => exact rfl); k_whole)))
local macro_rules | `(tactic| walk_at "pyIter ref") => `(tactic| (k_here; refine Hid.out ?_))
theorem sfit {vs : List Value} {bs : List Int} (h : IntsAre vs bs) (hb : bs.length ≤ 63) : vs.toArray.size ≤ sizeLine := by rw [List.size_toArray, h.length, PySem.sizeLine_eq]; exact Nat.le_trans hb (Nat.le_of_ble_eq_true rfl)
local macro_rules | `(tactic| size_fits) => `(tactic| exact sfit (by assumption) (by assumption))
local macro_rules | `(tactic| walk_at "subscriptTail Name Slice ref ref") => `(tactic| (k_here; (with_reducible show wpAny _ _ (subscriptTail _ (PySem.Expr.Slice none none (some _) _) (Value.ref _) (Value.ref _)) _ _ _); k_dflt (refine' krv_ints ?F ?N ?l ?k ?i ?_ ?s ?t ?z; (case F => k_asm); (case N => k_asm); (case l => kmk_list); (case k => exact IsPart.int _ _); (case i => assumption); (case s => with_unfolding_all rfl); (case t => kmk_pure); (case z => exact sfit (by assumption) (by assumption))); intro D' ws' h' F' N' l1 hI' hC'; (try k_lt l1); (try k_sweep)))
theorem ints_snoc {vs : List Value} {ns : List Int} (h : IntsAre vs ns) (n : Int) (t : Tok) : IntsAre (vs ++ [.int n t]) (ns ++ [n]) := by
  induction h with
  | nil => exact .cons n t .nil
  | cons a b _ ih => exact .cons a b ih
theorem ints_push {vs : List Value} {ns : List Int} (h : IntsAre vs ns) (n : Int) (t : Tok) : IntsAre (vs.toArray.push (.int n t)).toList (ns ++ [n]) := by rw [Array.toList_push]; exact ints_snoc h n t
theorem slist_len {vs : List Value} {bs : List Int} (h : IntsAre vs bs) {k : Nat} (hb : bs.length ≤ k) : vs.toArray.size ≤ k := by rw [List.size_toArray, h.length]; exact hb
section
variable {w : World} {news : List (Addr × Obj)}
theorem law_ring_d (x k md : Int) (tx tk tm : Tok) (hm : 0 < md) (hb : md < 4611686018427387904) (h0 : 0 ≤ k) (hk' : k < 4611686018427387904) (x1 : 0 ≤ x) (x2 : x < md) : Deed w 383 [.int x tx, .int k tk, .int md tm] news 6 (OutI (x ^ k.toNat % md)) False := by
  intro prog p loose mean mg mb dp un gd cn cs a ccd cl outer A₀ base h₀ L m s Q E B F X N T hk hd hu ret hE
  refine wpAny_call ?_
  k_dflt cell_enter
  k_steps
  all_goals
    unfold Hid
    (with_reducible rename Fr _ _ _ _ => F1); (with_reducible rename News _ _ _ _ => N1); (with_reducible rename (∀ p ∈ news, p.1 < _) => l1)
    refine' While_inv2 (fun n m₁ nx => ∃ (e : Int) (te tx tm : Tok) (l : Addr) (vs : List Value) (bs : List Int) (nn : Nat), m₁ (Str.ofString "n") = some (.int e te) ∧ m₁ (Str.ofString "bits") = some (.ref l) ∧ m₁ (Str.ofString "modulus") = some (.int md tm) ∧ m₁ (Str.ofString "x") = some (.int x tx) ∧ nx = (l, W.listOf vs.toArray nn) :: news ∧ (∀ p ∈ news, p.1 < l) ∧ IntsAre vs bs ∧ e.toNat = n ∧ RInv k.toNat e bs ∧ bs.length ≤ 63) F1 N1 ⟨_, _, _, _, _, _, _, _, rfl, rfl, rfl, rfl, rfl, l1, .nil, rfl, rinv_start h0, Nat.zero_le _⟩ ?_
    clear F1 N1 l1
    intro n m₁ n₁ h₁ tk₁ F₁ N₁ ⟨e, te, tx', tm', l, vs, bs, nn, ee, eb, em, ex, en, l1, hvs, hn, hP, hlen⟩
    subst en
    have F₂ := fr_at4 F₁ ee eb em ex
    clear F₁
    have p0 := hP.1
    k_steps
    · (refine' ws2 (n' := (e.fdiv 2).toNat) ?ef ?en ?el ⟨_, _, _, _, _, _, _, _, ?e1, ?e2, ?e3, ?e4, rfl, l1, ?hv, rfl, ?hp, ?hl⟩; (case ef => k_asm); (case en => k_asm); (case e1 => rfl); (case e2 => rfl); (case e3 => rfl); (case e4 => rfl); (case el => exact hn ▸ rinv_fall hP (by assumption)); (case hv => exact ints_push hvs _ _); (case hp => exact rinv_step hP (by assumption)); (case hl => rw [List.length_append]; exact Nat.succ_le_succ (rinv_len hP (by omega) (by assumption))))
    · unfold Hid
      (with_reducible rename Fr _ _ _ _ => F3); (with_reducible rename News _ _ _ _ => N3); (with_reducible rename IntsAre _ bs.reverse => hI)
      obtain ⟨hN, hB⟩ := rinv_end hP (by omega)
      have hB' : ∀ b ∈ bs.reverse, b = 0 ∨ b = 1 := fun b h => hB b (List.mem_reverse.mp h)
      with_unfolding_all refine' list_fix (fun i m₁ => ∃ (f : Int) (tf tx tm : Tok), m₁ (Str.ofString "found") = some (.int f tf) ∧ m₁ (Str.ofString "x") = some (.int x tx) ∧ m₁ (Str.ofString "modulus") = some (.int md tm) ∧ HInv md x (bs.reverse.take i) f) ?k1 ?k2 hI F3 N3 ⟨_, _, _, _, rfl, rfl, rfl, hinv_start hm⟩ ?_ ?_
      (case k1 => rfl); (case k2 => k_mem)
      · clear F3 N3
        intro i b tb m₁ h₁ tk₁ own hib hoff ⟨f, tf, tx2, tm2, ef, ex2, em2, hI2⟩ F₁ N₁
        have hb01 := hB' b (List.mem_of_getElem? hib)
        have htk : bs.reverse.take (i + 1) = bs.reverse.take i ++ [b] := by rw [List.take_add_one, hib]; rfl
        have F₂ := fr_at4 F₁ (x := Str.ofString "bit") (if_pos rfl) ((if_neg (by decide)).trans ef) ((if_neg (by decide)).trans ex2) ((if_neg (by decide)).trans em2)
        clear F₁
        obtain ⟨q0, q1, _⟩ := id hI2
        k_steps
        all_goals (refine' fix_next ?ef ?en ?eh ?eo ⟨_, _, _, _, ?e1, ?e2, ?e3, ?ei⟩; (case ef => k_asm); (case e1 => rfl); (case e2 => rfl); (case e3 => rfl); (case en => k_asm); (case eh => exact fun p hp => List.mem_append_left _ hp); (case eo => exact fun p hp => List.mem_append_right _ hp); (case ei => rw [htk]; first | exact hinv_step hm hI2 (.inl ⟨by assumption, rfl⟩) | exact hinv_step hm hI2 (.inr ⟨hb01.resolve_right (by assumption), rfl⟩)))
      · clear F3 N3
        intro m₁ h₁ tk₁ ⟨f, tf, tx2, tm2, ef, ex2, em2, hI2⟩ F₁ N₁
        have F₂ := fr_at3 F₁ ef ex2 em2
        clear F₁
        obtain ⟨q0, q1, _⟩ := id hI2
        k_steps
        all_goals (refine' ret _ _ _ ?ep ?ef ?en; (case ef => k_asm); (case en => first | k_asm | exact cb_drop (by k_asm) (fun p hp => by repeat (first | exact hp | refine List.Mem.tail _ ?_))); (case ep => (have hz := hI2.2.2; rw [List.take_length, hval_reverse, ← hN] at hz; rw [hz]; exact .mk _)))
end
end
section
local macro_rules | `(tactic| walk_at "binaryOp FloorDiv int int") => `(tactic| (k_here; (refine' floordiv_int ?kb ?_ (Or.inl (noPyl ?kp ?kq)); (case kb => first | omega | exact abs_ne (by omega)); (case kp => omega); (case kq => omega); (try dsimp only))))
local macro_rules | `(tactic| walk_at "execs cons") => `(tactic| (k_here; (dsimp only); k_gentoks))
local macro_rules | `(tactic| walk_at "execs nil") => `(tactic| (k_here; (dsimp only); k_gentoks))
local macro_rules | `(tactic| walk_at "exec For Name Call cons nil") => `(tactic| (k_here; (rename Fr _ _ _ _ => lF'); (with_unfolding_all refine' For_invVF lF' ?k1 ?k2 ?_; (case k1 => exact rfl); (case k2 => exact rfl); k_whole)))
local macro_rules | `(tactic| walk_at "pyIter ref") => `(tactic| (k_here; refine Hid.out ?_))
local macro_rules | `(tactic| walk_at "binaryOp Pow int int") => `(tactic| (k_here; (with_reducible refine pow_int_small ?kb1 ?kb2 ?kb3 ?_); (case kb1 => omega); (case kb2 => omega); (case kb3 => decide); (try dsimp only)))
local macro_rules | `(tactic| walk_at "subscriptTail") => `(tactic| (k_here; (with_reducible show wpAny _ _ (subscriptTail _ _ (Value.ref _) (Value.int _ _)) _ _ _); (with_unfolding_all refine' item_anyK ?k1 ?k2 ?k3 ?k4 ?k5 ?_ ?k6; (case k1 => is_list); (case k2 => l_ints); (case k3 => assumption); (case k4 => assumption); (case k5 => omega); (case k6 => with_unfolding_all rfl); k_whole); intro _))
noncomputable def bitsI (l : List Int) (x y : Int) : Int := (rangeKs 0 34).foldl (fun c k => c + 2 ^ k.toNat * l.getD ((x.fdiv (2 ^ k.toNat)).fmod 2 + (y.fdiv (2 ^ k.toNat)).fmod 2).toNat 0) 0
theorem pq_lo (a b : Int) : 0 ≤ a.fmod 2 + b.fmod 2 := by
  have h1 := fmod_lo a (n := 2) (by decide)
  have h2 := fmod_lo b (n := 2) (by decide)
  omega
theorem pq_hi (a b : Int) {u v t : Int} : a.fmod 2 + b.fmod 2 < ([u, v, t] : List Int).length := by
  have h1 := fmod_hi a (n := 2) (by decide)
  have h2 := fmod_hi b (n := 2) (by decide)
  show _ < (3 : Int)
  omega
section
variable {w : World} {news : List (Addr × Obj)}
theorem law_bits_and_d (x y : Int) (tx ty to : Tok) : Deed w 390 [.str (Str.ofString "and") to, .int x tx, .int y ty] news 6 (OutI (bitsI [0, 0, 1] x y)) False := by
  intro prog p loose mean mg mb dp un gd cn cs a ccd cl outer A₀ base h₀ L m s Q E B F X N T hk hd hu ret hE
  refine wpAny_call ?_
  k_dflt cell_enter
  k_steps
  unfold Hid
  (with_reducible rename Fr _ _ _ _ => F3); (with_reducible rename News _ _ _ _ => N3); (with_reducible rename IsRange _ _ _ _ _ _ _ _ => hr)
  with_unfolding_all refine' range_fix (n := 34) (fun (c : Int) m₁ => ∃ (tt t1 t2 t3 : Tok), m₁ (Str.ofString "total") = some (.int c tt) ∧ m₁ (Str.ofString "op") = some (.str (Str.ofString "and") t1) ∧ m₁ (Str.ofString "x") = some (.int x t2) ∧ m₁ (Str.ofString "y") = some (.int y t3)) (fun c k => c + 2 ^ k.toNat * [0, 0, 1].getD ((x.fdiv (2 ^ k.toNat)).fmod 2 + (y.fdiv (2 ^ k.toNat)).fmod 2).toNat 0) 0 ?k1 hr ?k2 ?k3 F3 N3 ⟨_, _, _, _, rfl, rfl, rfl, rfl⟩ ?_ ?_
  (case k1 => rfl); (case k2 => rfl); (case k3 => rfl)
  · clear F3 N3
    intro k tk c m₁ h₁ tk₁ own hk34 hoff ⟨tt, t1, t2, t3, e1, e2, e3, e4⟩ F₁ N₁
    have hk0 := (mem_rangeKs hk34).1
    have hk1 : k < 34 := by have := (mem_rangeKs hk34).2; omega
    have hp1 : 0 < (2 : Int) ^ k.toNat := Int.pow_pos (by decide)
    have hp2 : (2 : Int) ^ k.toNat ≤ 8589934592 := pow2_le (by omega)
    have hq0 : 0 ≤ (x.fdiv (2 ^ k.toNat)).fmod 2 + (y.fdiv (2 ^ k.toNat)).fmod 2 := pq_lo _ _
    have hq1 : (x.fdiv (2 ^ k.toNat)).fmod 2 + (y.fdiv (2 ^ k.toNat)).fmod 2 < ([0, 0, 1] : List Int).length := pq_hi _ _
    have F₂ := fr_at4 (fr_at2 F₁ (x := Str.ofString "k") (if_pos rfl) ((if_neg (by decide)).trans e1)) (x := Str.ofString "op") ((if_neg (by decide)).trans ((if_neg (by decide)).trans ((if_neg (by decide)).trans e2))) ((if_neg (by decide)).trans ((if_neg (by decide)).trans ((if_neg (by decide)).trans e3))) ((if_neg (by decide)).trans ((if_neg (by decide)).trans ((if_neg (by decide)).trans e4))) ((if_neg (by decide)).trans (if_pos rfl))
    clear F₁
    k_steps
    all_goals (refine' fix_next ?ef ?en ?eh ?eo ⟨_, _, _, _, ?e1, ?e2, ?e3, ?e4⟩; (case ef => k_asm); (case en => k_asm); (case e1 => rfl); (case e2 => rfl); (case e3 => rfl); (case e4 => rfl); (case eh => exact fun p hp => by repeat (first | exact List.mem_append_left _ hp | refine List.Mem.tail _ ?_)); (case eo => exact fun p hp => by repeat (first | exact List.mem_append_right _ hp | refine List.Mem.tail _ ?_)))
  · clear F3 N3
    intro m₁ h₁ tk₁ ⟨tt, t1, t2, t3, e1, e2, e3, e4⟩ F₁ N₁
    have F₂ := fr_at4 F₁ e1 e2 e3 e4
    clear F₁
    k_steps
    all_goals (refine' ret _ _ _ ?ep ?ef ?en; (case ef => k_asm); (case en => first | k_asm | exact cb_drop (by k_asm) (fun p hp => by repeat (first | exact hp | refine List.Mem.tail _ ?_))); (case ep => exact .mk _))
theorem law_bits_or_d (x y : Int) (tx ty to : Tok) : Deed w 390 [.str (Str.ofString "or") to, .int x tx, .int y ty] news 6 (OutI (bitsI [0, 1, 1] x y)) False := by
  intro prog p loose mean mg mb dp un gd cn cs a ccd cl outer A₀ base h₀ L m s Q E B F X N T hk hd hu ret hE
  refine wpAny_call ?_
  k_dflt cell_enter
  k_steps
  unfold Hid
  (with_reducible rename Fr _ _ _ _ => F3); (with_reducible rename News _ _ _ _ => N3); (with_reducible rename IsRange _ _ _ _ _ _ _ _ => hr)
  with_unfolding_all refine' range_fix (n := 34) (fun (c : Int) m₁ => ∃ (tt t1 t2 t3 : Tok), m₁ (Str.ofString "total") = some (.int c tt) ∧ m₁ (Str.ofString "op") = some (.str (Str.ofString "or") t1) ∧ m₁ (Str.ofString "x") = some (.int x t2) ∧ m₁ (Str.ofString "y") = some (.int y t3)) (fun c k => c + 2 ^ k.toNat * [0, 1, 1].getD ((x.fdiv (2 ^ k.toNat)).fmod 2 + (y.fdiv (2 ^ k.toNat)).fmod 2).toNat 0) 0 ?k1 hr ?k2 ?k3 F3 N3 ⟨_, _, _, _, rfl, rfl, rfl, rfl⟩ ?_ ?_
  (case k1 => rfl); (case k2 => rfl); (case k3 => rfl)
  · clear F3 N3
    intro k tk c m₁ h₁ tk₁ own hk34 hoff ⟨tt, t1, t2, t3, e1, e2, e3, e4⟩ F₁ N₁
    have hk0 := (mem_rangeKs hk34).1
    have hk1 : k < 34 := by have := (mem_rangeKs hk34).2; omega
    have hp1 : 0 < (2 : Int) ^ k.toNat := Int.pow_pos (by decide)
    have hp2 : (2 : Int) ^ k.toNat ≤ 8589934592 := pow2_le (by omega)
    have hq0 : 0 ≤ (x.fdiv (2 ^ k.toNat)).fmod 2 + (y.fdiv (2 ^ k.toNat)).fmod 2 := pq_lo _ _
    have hq1 : (x.fdiv (2 ^ k.toNat)).fmod 2 + (y.fdiv (2 ^ k.toNat)).fmod 2 < ([0, 1, 1] : List Int).length := pq_hi _ _
    have F₂ := fr_at4 (fr_at2 F₁ (x := Str.ofString "k") (if_pos rfl) ((if_neg (by decide)).trans e1)) (x := Str.ofString "op") ((if_neg (by decide)).trans ((if_neg (by decide)).trans ((if_neg (by decide)).trans e2))) ((if_neg (by decide)).trans ((if_neg (by decide)).trans ((if_neg (by decide)).trans e3))) ((if_neg (by decide)).trans ((if_neg (by decide)).trans ((if_neg (by decide)).trans e4))) ((if_neg (by decide)).trans (if_pos rfl))
    clear F₁
    k_steps
    all_goals (refine' fix_next ?ef ?en ?eh ?eo ⟨_, _, _, _, ?e1, ?e2, ?e3, ?e4⟩; (case ef => k_asm); (case en => k_asm); (case e1 => rfl); (case e2 => rfl); (case e3 => rfl); (case e4 => rfl); (case eh => exact fun p hp => by repeat (first | exact List.mem_append_left _ hp | refine List.Mem.tail _ ?_)); (case eo => exact fun p hp => by repeat (first | exact List.mem_append_right _ hp | refine List.Mem.tail _ ?_)))
  · clear F3 N3
    intro m₁ h₁ tk₁ ⟨tt, t1, t2, t3, e1, e2, e3, e4⟩ F₁ N₁
    have F₂ := fr_at4 F₁ e1 e2 e3 e4
    clear F₁
    k_steps
    all_goals (refine' ret _ _ _ ?ep ?ef ?en; (case ef => k_asm); (case en => first | k_asm | exact cb_drop (by k_asm) (fun p hp => by repeat (first | exact hp | refine List.Mem.tail _ ?_))); (case ep => exact .mk _))
theorem law_bits_xor_d (x y : Int) (tx ty to : Tok) : Deed w 390 [.str (Str.ofString "xor") to, .int x tx, .int y ty] news 6 (OutI (bitsI [0, 1, 0] x y)) False := by
  intro prog p loose mean mg mb dp un gd cn cs a ccd cl outer A₀ base h₀ L m s Q E B F X N T hk hd hu ret hE
  refine wpAny_call ?_
  k_dflt cell_enter
  k_steps
  unfold Hid
  (with_reducible rename Fr _ _ _ _ => F3); (with_reducible rename News _ _ _ _ => N3); (with_reducible rename IsRange _ _ _ _ _ _ _ _ => hr)
  with_unfolding_all refine' range_fix (n := 34) (fun (c : Int) m₁ => ∃ (tt t1 t2 t3 : Tok), m₁ (Str.ofString "total") = some (.int c tt) ∧ m₁ (Str.ofString "op") = some (.str (Str.ofString "xor") t1) ∧ m₁ (Str.ofString "x") = some (.int x t2) ∧ m₁ (Str.ofString "y") = some (.int y t3)) (fun c k => c + 2 ^ k.toNat * [0, 1, 0].getD ((x.fdiv (2 ^ k.toNat)).fmod 2 + (y.fdiv (2 ^ k.toNat)).fmod 2).toNat 0) 0 ?k1 hr ?k2 ?k3 F3 N3 ⟨_, _, _, _, rfl, rfl, rfl, rfl⟩ ?_ ?_
  (case k1 => rfl); (case k2 => rfl); (case k3 => rfl)
  · clear F3 N3
    intro k tk c m₁ h₁ tk₁ own hk34 hoff ⟨tt, t1, t2, t3, e1, e2, e3, e4⟩ F₁ N₁
    have hk0 := (mem_rangeKs hk34).1
    have hk1 : k < 34 := by have := (mem_rangeKs hk34).2; omega
    have hp1 : 0 < (2 : Int) ^ k.toNat := Int.pow_pos (by decide)
    have hp2 : (2 : Int) ^ k.toNat ≤ 8589934592 := pow2_le (by omega)
    have hq0 : 0 ≤ (x.fdiv (2 ^ k.toNat)).fmod 2 + (y.fdiv (2 ^ k.toNat)).fmod 2 := pq_lo _ _
    have hq1 : (x.fdiv (2 ^ k.toNat)).fmod 2 + (y.fdiv (2 ^ k.toNat)).fmod 2 < ([0, 1, 0] : List Int).length := pq_hi _ _
    have F₂ := fr_at4 (fr_at2 F₁ (x := Str.ofString "k") (if_pos rfl) ((if_neg (by decide)).trans e1)) (x := Str.ofString "op") ((if_neg (by decide)).trans ((if_neg (by decide)).trans ((if_neg (by decide)).trans e2))) ((if_neg (by decide)).trans ((if_neg (by decide)).trans ((if_neg (by decide)).trans e3))) ((if_neg (by decide)).trans ((if_neg (by decide)).trans ((if_neg (by decide)).trans e4))) ((if_neg (by decide)).trans (if_pos rfl))
    clear F₁
    k_steps
    all_goals (refine' fix_next ?ef ?en ?eh ?eo ⟨_, _, _, _, ?e1, ?e2, ?e3, ?e4⟩; (case ef => k_asm); (case en => k_asm); (case e1 => rfl); (case e2 => rfl); (case e3 => rfl); (case e4 => rfl); (case eh => exact fun p hp => by repeat (first | exact List.mem_append_left _ hp | refine List.Mem.tail _ ?_)); (case eo => exact fun p hp => by repeat (first | exact List.mem_append_right _ hp | refine List.Mem.tail _ ?_)))
  · clear F3 N3
    intro m₁ h₁ tk₁ ⟨tt, t1, t2, t3, e1, e2, e3, e4⟩ F₁ N₁
    have F₂ := fr_at4 F₁ e1 e2 e3 e4
    clear F₁
    k_steps
    all_goals (refine' ret _ _ _ ?ep ?ef ?en; (case ef => k_asm); (case en => first | k_asm | exact cb_drop (by k_asm) (fun p hp => by repeat (first | exact hp | refine List.Mem.tail _ ?_))); (case ep => exact .mk _))
end
end
local macro_rules | `(tactic| walk_at "execs cons") => `(tactic| (k_here; (dsimp only); k_gentoks))
local macro_rules | `(tactic| walk_at "execs nil") => `(tactic| (k_here; (dsimp only); k_gentoks))
section
variable {w : World} {news : List (Addr × Obj)} {t dt : Addr} {es : List DictEntry} {n : Nat} {lo hi md : Int} {ik il ih im : Tok}
theorem come_round_e (ht : (t, instObj 308 dt) ∈ news) (hdt : (dt, dictOf es n) ∈ news) (gk : getL (Str.ofString "kind") es = some (some (.str (Str.ofString "enum") ik))) (x : Int) (tx : Tok) : Deed w 235 [.ref t, .int x tx] news 3 (OutI x) False := by
  intro prog p loose mean mg mb dp un gd cn cs a ccd cl outer A₀ base h₀ L m s Q E B F X N T hk hd hu ret hE
  refine wpAny_call ?_
  k_dflt cell_enter
  k_steps
  all_goals first
    | (refine' ret _ _ _ ?ep ?ef ?en; (case ef => k_asm); (case en => first | k_asm | exact cb_drop (by k_asm) (fun p hp => by repeat (first | exact hp | refine List.Mem.tail _ ?_))); (case ep => exact .mk _))
    | (refine' hE ?er _ _ _ _ _ _ ?ef ?eu ?ed; (case eu => assumption); (case ed => assumption); (case ef => assumption); (case er => skip))
local macro_rules | `(tactic| walk_at "call ref") => `(tactic| (k_here; (with_reducible show wpAny _ _ (call (Value.ref 235) _) _ _ _); k_dflt (refine' Deed.use (come_round_e ?ht ?hdt ?gk _ _) ?kB ?kF ?kX ?kN ?kT ?kK ?kd ?ku ?_ ?ke; walk_at "solve"; (case ht => k_mem); (case hdt => k_mem); (case gk => assumption); (case ke => exact fun h9 => h9.elim); intro r9 h9 tk9 P9 F9 N9; (try k_sweep); (obtain ⟨tk8⟩ := P9))))
theorem logic_or_e (ht : (t, instObj 308 dt) ∈ news) (hdt : (dt, dictOf es n) ∈ news) (gk : getL (Str.ofString "kind") es = some (some (.str (Str.ofString "enum") ik))) (x y : Int) (tx ty : Tok) : Deed w 221 [.ref t, .int x tx, .int y ty] news 6 (GiveO (some (Builtin.bitOr x y))) False := by
  intro prog p loose mean mg mb dp un gd cn cs a ccd cl outer A₀ base h₀ L m s Q E B F X N T hk hd hu ret hE
  refine wpAny_call ?_
  k_dflt cell_enter
  k_steps
  all_goals first
    | (refine' ret _ _ _ ?ep ?ef ?en; (case ef => k_asm); (case en => first | k_asm | exact cb_drop (by k_asm) (fun p hp => by repeat (first | exact hp | refine List.Mem.tail _ ?_))); (case ep => exact ⟨_, rfl, .mk _⟩))
    | (refine' hE ?er _ _ _ _ _ _ ?ef ?eu ?ed; (case eu => assumption); (case ed => assumption); (case ef => assumption); (case er => skip))
theorem logic_xor_e (ht : (t, instObj 308 dt) ∈ news) (hdt : (dt, dictOf es n) ∈ news) (gk : getL (Str.ofString "kind") es = some (some (.str (Str.ofString "enum") ik))) (x y : Int) (tx ty : Tok) : Deed w 228 [.ref t, .int x tx, .int y ty] news 6 (GiveO (some (Builtin.bitXor x y))) False := by
  intro prog p loose mean mg mb dp un gd cn cs a ccd cl outer A₀ base h₀ L m s Q E B F X N T hk hd hu ret hE
  refine wpAny_call ?_
  k_dflt cell_enter
  k_steps
  all_goals first
    | (refine' ret _ _ _ ?ep ?ef ?en; (case ef => k_asm); (case en => first | k_asm | exact cb_drop (by k_asm) (fun p hp => by repeat (first | exact hp | refine List.Mem.tail _ ?_))); (case ep => exact ⟨_, rfl, .mk _⟩))
    | (refine' hE ?er _ _ _ _ _ _ ?ef ?eu ?ed; (case eu => assumption); (case ed => assumption); (case ef => assumption); (case er => skip))
theorem law_within_i (ht : (t, instObj 308 dt) ∈ news) (hdt : (dt, dictOf es n) ∈ news) (gk : getL (Str.ofString "kind") es = some (some (.str (Str.ofString "int") ik))) (gl : getL (Str.ofString "low") es = some (some (.int lo il))) (gh : getL (Str.ofString "high") es = some (some (.int hi ih))) (x : Int) (tx : Tok) : Deed w 397 [.ref t, .int x tx] news 3 (OutO (wi lo hi x)) False := by
  intro prog p loose mean mg mb dp un gd cn cs a ccd cl outer A₀ base h₀ L m s Q E B F X N T hk hd hu ret hE
  refine wpAny_call ?_
  k_dflt cell_enter
  k_steps
  all_goals first
    | (refine' ret _ _ _ ?ep ?ef ?en; (case ef => k_asm); (case en => first | k_asm | exact cb_drop (by k_asm) (fun p hp => by repeat (first | exact hp | refine List.Mem.tail _ ?_))); (case ep => (first | (rw [wi_in (by assumption) (by assumption)]; exact .some _ _) | (rw [wi_out (by omega)]; exact .none))))
    | (refine' hE ?er _ _ _ _ _ _ ?ef ?eu ?ed; (case eu => assumption); (case ed => assumption); (case ef => assumption); (case er => skip))
theorem law_within_e (ht : (t, instObj 308 dt) ∈ news) (hdt : (dt, dictOf es n) ∈ news) (gk : getL (Str.ofString "kind") es = some (some (.str (Str.ofString "enum") ik))) (gl : getL (Str.ofString "low") es = some (some (.int lo il))) (gh : getL (Str.ofString "high") es = some (some (.int hi ih))) (x : Int) (tx : Tok) : Deed w 397 [.ref t, .int x tx] news 3 (OutO (wi lo hi x)) False := by
  intro prog p loose mean mg mb dp un gd cn cs a ccd cl outer A₀ base h₀ L m s Q E B F X N T hk hd hu ret hE
  refine wpAny_call ?_
  k_dflt cell_enter
  k_steps
  all_goals first
    | (refine' ret _ _ _ ?ep ?ef ?en; (case ef => k_asm); (case en => first | k_asm | exact cb_drop (by k_asm) (fun p hp => by repeat (first | exact hp | refine List.Mem.tail _ ?_))); (case ep => (first | (rw [wi_in (by assumption) (by assumption)]; exact .some _ _) | (rw [wi_out (by omega)]; exact .none))))
    | (refine' hE ?er _ _ _ _ _ _ ?ef ?eu ?ed; (case eu => assumption); (case ed => assumption); (case ef => assumption); (case er => skip))
local macro_rules | `(tactic| walk_at "call ref") => `(tactic| (k_here; (with_reducible show wpAny _ _ (call (Value.ref 397) _) _ _ _); k_dflt (refine' Deed.use (law_within_i ?ht ?hdt ?gk ?gl ?gh _ _) ?kB ?kF ?kX ?kN ?kT ?kK ?kd ?ku ?_ ?ke; walk_at "solve"; (case ht => k_mem); (case hdt => k_mem); (case gk => assumption); (case gl => assumption); (case gh => assumption); (case ke => exact fun h9 => h9.elim); intro r9 h9 tk9 P9 F9 N9; (try k_sweep); skip)))
theorem law_lone_pos_i (ht : (t, instObj 308 dt) ∈ news) (hdt : (dt, dictOf es n) ∈ news) (gk : getL (Str.ofString "kind") es = some (some (.str (Str.ofString "int") ik))) (gl : getL (Str.ofString "low") es = some (some (.int lo il))) (gh : getL (Str.ofString "high") es = some (some (.int hi ih))) (x : Int) (tx tw : Tok) : Deed w 411 [.ref t, .str (Str.ofString "+") tw, .int x tx] news 6 (OutO (wi lo hi (x))) False := by
  intro prog p loose mean mg mb dp un gd cn cs a ccd cl outer A₀ base h₀ L m s Q E B F X N T hk hd hu ret hE
  refine wpAny_call ?_
  k_dflt cell_enter
  k_steps
  all_goals first
    | (refine' ret _ _ _ ?ep ?ef ?en; (case ef => k_asm); (case en => first | k_asm | exact cb_drop (by k_asm) (fun p hp => by repeat (first | exact hp | refine List.Mem.tail _ ?_))); (case ep => assumption))
    | (refine' hE ?er _ _ _ _ _ _ ?ef ?eu ?ed; (case eu => assumption); (case ed => assumption); (case ef => assumption); (case er => skip))
theorem law_lone_neg_i (ht : (t, instObj 308 dt) ∈ news) (hdt : (dt, dictOf es n) ∈ news) (gk : getL (Str.ofString "kind") es = some (some (.str (Str.ofString "int") ik))) (gl : getL (Str.ofString "low") es = some (some (.int lo il))) (gh : getL (Str.ofString "high") es = some (some (.int hi ih))) (x : Int) (tx tw : Tok) : Deed w 411 [.ref t, .str (Str.ofString "-") tw, .int x tx] news 6 (OutO (wi lo hi (0 - x))) False := by
  intro prog p loose mean mg mb dp un gd cn cs a ccd cl outer A₀ base h₀ L m s Q E B F X N T hk hd hu ret hE
  refine wpAny_call ?_
  k_dflt cell_enter
  k_steps
  all_goals first
    | (refine' ret _ _ _ ?ep ?ef ?en; (case ef => k_asm); (case en => first | k_asm | exact cb_drop (by k_asm) (fun p hp => by repeat (first | exact hp | refine List.Mem.tail _ ?_))); (case ep => assumption))
    | (refine' hE ?er _ _ _ _ _ _ ?ef ?eu ?ed; (case eu => assumption); (case ed => assumption); (case ef => assumption); (case er => skip))
theorem law_lone_abs_i (ht : (t, instObj 308 dt) ∈ news) (hdt : (dt, dictOf es n) ∈ news) (gk : getL (Str.ofString "kind") es = some (some (.str (Str.ofString "int") ik))) (gl : getL (Str.ofString "low") es = some (some (.int lo il))) (gh : getL (Str.ofString "high") es = some (some (.int hi ih))) (x : Int) (tx tw : Tok) : Deed w 411 [.ref t, .str (Str.ofString "abs") tw, .int x tx] news 6 (OutO (wi lo hi (if 0 - x > x then 0 - x else x))) False := by
  intro prog p loose mean mg mb dp un gd cn cs a ccd cl outer A₀ base h₀ L m s Q E B F X N T hk hd hu ret hE
  refine wpAny_call ?_
  k_dflt cell_enter
  k_steps
  all_goals first
    | (refine' ret _ _ _ ?ep ?ef ?en; (case ef => k_asm); (case en => first | k_asm | exact cb_drop (by k_asm) (fun p hp => by repeat (first | exact hp | refine List.Mem.tail _ ?_))); (case ep => assumption))
    | (refine' hE ?er _ _ _ _ _ _ ?ef ?eu ?ed; (case eu => assumption); (case ed => assumption); (case ef => assumption); (case er => skip))
theorem law_lone_not_g (ht : (t, instObj 308 dt) ∈ news) (hdt : (dt, dictOf es n) ∈ news) (gl : getL (Str.ofString "low") es = some (some (.int lo il))) (gh : getL (Str.ofString "high") es = some (some (.int hi ih))) (x : Int) (tx tw : Tok) : Deed w 411 [.ref t, .str (Str.ofString "not") tw, .int x tx] news 6 (OutO (some (hi + lo - x))) False := by
  intro prog p loose mean mg mb dp un gd cn cs a ccd cl outer A₀ base h₀ L m s Q E B F X N T hk hd hu ret hE
  refine wpAny_call ?_
  k_dflt cell_enter
  k_steps
  all_goals first
    | (refine' ret _ _ _ ?ep ?ef ?en; (case ef => k_asm); (case en => first | k_asm | exact cb_drop (by k_asm) (fun p hp => by repeat (first | exact hp | refine List.Mem.tail _ ?_))); (case ep => exact .some _ _))
    | (refine' hE ?er _ _ _ _ _ _ ?ef ?eu ?ed; (case eu => assumption); (case ed => assumption); (case ef => assumption); (case er => skip))
end
local macro_rules | `(tactic| walk_at "call ref") => `(tactic| (k_here; (with_reducible show wpAny _ _ (call (Value.ref 397) _) _ _ _); k_dflt (refine' Deed.use (law_within_i ?ht ?hdt ?gk ?gl ?gh _ _) ?kB ?kF ?kX ?kN ?kT ?kK ?kd ?ku ?_ ?ke; walk_at "solve"; (case ht => k_mem); (case hdt => k_mem); (case gk => assumption); (case gl => assumption); (case gh => assumption); (case ke => exact fun h9 => h9.elim); intro r9 h9 tk9 P9 F9 N9; (try k_sweep); skip)))
section
variable {w : World} {news : List (Addr × Obj)} {t dt : Addr} {es : List DictEntry} {n : Nat} {lo hi md : Int} {ik il ih im : Tok}
local macro_rules | `(tactic| walk_at "call ref") => `(tactic| (k_here; (with_reducible show wpAny _ _ (call (Value.ref 390) _) _ _ _); k_dflt (refine' Deed.use (law_bits_and_d _ _ _ _ _) ?kB ?kF ?kX ?kN ?kT ?kK ?kd ?ku ?_ ?ke; walk_at "solve"; (case ke => exact fun h9 => h9.elim); intro r9 h9 tk9 P9 F9 N9; (try k_sweep); (obtain ⟨tk8⟩ := P9))))
local macro_rules | `(tactic| walk_at "call ref") => `(tactic| (k_here; (with_reducible show wpAny _ _ (call (Value.ref 390) _) _ _ _); k_dflt (refine' Deed.use (law_bits_or_d _ _ _ _ _) ?kB ?kF ?kX ?kN ?kT ?kK ?kd ?ku ?_ ?ke; walk_at "solve"; (case ke => exact fun h9 => h9.elim); intro r9 h9 tk9 P9 F9 N9; (try k_sweep); (obtain ⟨tk8⟩ := P9))))
local macro_rules | `(tactic| walk_at "call ref") => `(tactic| (k_here; (with_reducible show wpAny _ _ (call (Value.ref 390) _) _ _ _); k_dflt (refine' Deed.use (law_bits_xor_d _ _ _ _ _) ?kB ?kF ?kX ?kN ?kT ?kK ?kd ?ku ?_ ?ke; walk_at "solve"; (case ke => exact fun h9 => h9.elim); intro r9 h9 tk9 P9 F9 N9; (try k_sweep); (obtain ⟨tk8⟩ := P9))))
local macro_rules | `(tactic| walk_at "call ref") => `(tactic| (k_here; (with_reducible show wpAny _ _ (call (Value.ref 369) _) _ _ _); k_dflt (refine' Deed.use (law_quotient_d _ _ _ _ ?hy ?y1 ?y2) ?kB ?kF ?kX ?kN ?kT ?kK ?kd ?ku ?_ ?ke; walk_at "solve"; (case hy => assumption); (case y1 => assumption); (case y2 => assumption); (case ke => exact fun h9 => h9.elim); intro r9 h9 tk9 P9 F9 N9; (try k_sweep); (obtain ⟨tk8⟩ := P9))))
local macro_rules | `(tactic| walk_at "call ref") => `(tactic| (k_here; (with_reducible show wpAny _ _ (call (Value.ref 397) _) _ _ _); k_dflt (refine' Deed.use (law_within_e ?ht ?hdt ?gk ?gl ?gh _ _) ?kB ?kF ?kX ?kN ?kT ?kK ?kd ?ku ?_ ?ke; walk_at "solve"; (case ht => k_mem); (case hdt => k_mem); (case gk => assumption); (case gl => assumption); (case gh => assumption); (case ke => exact fun h9 => h9.elim); intro r9 h9 tk9 P9 F9 N9; (try k_sweep); skip)))
theorem due_e_and (ht : (t, instObj 308 dt) ∈ news) (hdt : (dt, dictOf es n) ∈ news) (gk : getL (Str.ofString "kind") es = some (some (.str (Str.ofString "enum") ik))) (gl : getL (Str.ofString "low") es = some (some (.int lo il))) (gh : getL (Str.ofString "high") es = some (some (.int hi ih))) (x y : Int) (to tx ty : Tok)  : Deed w 404 [.ref t, .str (Str.ofString "and") to, .int x tx, .int y ty] news 10 (OutO (wi lo hi (bitsI [0, 0, 1] x y))) False := by
  intro prog p loose mean mg mb dp un gd cn cs a ccd cl outer A₀ base h₀ L m s Q E B F X N T hk hd hu ret hE
  refine wpAny_call ?_
  k_dflt cell_enter
  k_steps
  all_goals first
    | (refine' ret _ _ _ ?ep ?ef ?en; (case ef => k_asm); (case en => first | k_asm | exact cb_drop (by k_asm) (fun p hp => by repeat (first | exact hp | refine List.Mem.tail _ ?_))); (case ep => first | assumption | exact .some _ _ | exact .none))
    | (refine' hE ?er _ _ _ _ _ _ ?ef ?eu ?ed; (case eu => assumption); (case ed => assumption); (case ef => assumption); (case er => skip))
theorem due_e_or (ht : (t, instObj 308 dt) ∈ news) (hdt : (dt, dictOf es n) ∈ news) (gk : getL (Str.ofString "kind") es = some (some (.str (Str.ofString "enum") ik))) (gl : getL (Str.ofString "low") es = some (some (.int lo il))) (gh : getL (Str.ofString "high") es = some (some (.int hi ih))) (x y : Int) (to tx ty : Tok)  : Deed w 404 [.ref t, .str (Str.ofString "or") to, .int x tx, .int y ty] news 10 (OutO (wi lo hi (bitsI [0, 1, 1] x y))) False := by
  intro prog p loose mean mg mb dp un gd cn cs a ccd cl outer A₀ base h₀ L m s Q E B F X N T hk hd hu ret hE
  refine wpAny_call ?_
  k_dflt cell_enter
  k_steps
  all_goals first
    | (refine' ret _ _ _ ?ep ?ef ?en; (case ef => k_asm); (case en => first | k_asm | exact cb_drop (by k_asm) (fun p hp => by repeat (first | exact hp | refine List.Mem.tail _ ?_))); (case ep => first | assumption | exact .some _ _ | exact .none))
    | (refine' hE ?er _ _ _ _ _ _ ?ef ?eu ?ed; (case eu => assumption); (case ed => assumption); (case ef => assumption); (case er => skip))
theorem due_e_xor (ht : (t, instObj 308 dt) ∈ news) (hdt : (dt, dictOf es n) ∈ news) (gk : getL (Str.ofString "kind") es = some (some (.str (Str.ofString "enum") ik))) (gl : getL (Str.ofString "low") es = some (some (.int lo il))) (gh : getL (Str.ofString "high") es = some (some (.int hi ih))) (x y : Int) (to tx ty : Tok)  : Deed w 404 [.ref t, .str (Str.ofString "xor") to, .int x tx, .int y ty] news 10 (OutO (wi lo hi (bitsI [0, 1, 0] x y))) False := by
  intro prog p loose mean mg mb dp un gd cn cs a ccd cl outer A₀ base h₀ L m s Q E B F X N T hk hd hu ret hE
  refine wpAny_call ?_
  k_dflt cell_enter
  k_steps
  all_goals first
    | (refine' ret _ _ _ ?ep ?ef ?en; (case ef => k_asm); (case en => first | k_asm | exact cb_drop (by k_asm) (fun p hp => by repeat (first | exact hp | refine List.Mem.tail _ ?_))); (case ep => first | assumption | exact .some _ _ | exact .none))
    | (refine' hE ?er _ _ _ _ _ _ ?ef ?eu ?ed; (case eu => assumption); (case ed => assumption); (case ef => assumption); (case er => skip))
local macro_rules | `(tactic| walk_at "call ref") => `(tactic| (k_here; (with_reducible show wpAny _ _ (call (Value.ref 397) _) _ _ _); k_dflt (refine' Deed.use (law_within_d ?ht ?hdt ?gk ?gl ?gh ?gm ?hm _ _) ?kB ?kF ?kX ?kN ?kT ?kK ?kd ?ku ?_ ?ke; walk_at "solve"; (case ht => k_mem); (case hdt => k_mem); (case gk => assumption); (case gl => assumption); (case gh => assumption); (case gm => assumption); (case hm => omega); (case ke => exact fun h9 => h9.elim); intro r9 h9 tk9 P9 F9 N9; (try k_sweep); (rw [withinO, if_pos (by decide)] at P9))))
theorem due_m_and (ht : (t, instObj 308 dt) ∈ news) (hdt : (dt, dictOf es n) ∈ news) (gk : getL (Str.ofString "kind") es = some (some (.str (Str.ofString "mod") ik))) (gl : getL (Str.ofString "low") es = some (some (.int lo il))) (gh : getL (Str.ofString "high") es = some (some (.int hi ih))) (gm : getL (Str.ofString "modulus") es = some (some (.int md im))) (hm : 0 < md) (x y : Int) (to tx ty : Tok)  : Deed w 404 [.ref t, .str (Str.ofString "and") to, .int x tx, .int y ty] news 10 (OutO (some ((bitsI [0, 0, 1] x y).fmod md))) False := by
  intro prog p loose mean mg mb dp un gd cn cs a ccd cl outer A₀ base h₀ L m s Q E B F X N T hk hd hu ret hE
  refine wpAny_call ?_
  k_dflt cell_enter
  k_steps
  all_goals first
    | (refine' ret _ _ _ ?ep ?ef ?en; (case ef => k_asm); (case en => first | k_asm | exact cb_drop (by k_asm) (fun p hp => by repeat (first | exact hp | refine List.Mem.tail _ ?_))); (case ep => first | assumption | exact .some _ _ | exact .none))
    | (refine' hE ?er _ _ _ _ _ _ ?ef ?eu ?ed; (case eu => assumption); (case ed => assumption); (case ef => assumption); (case er => skip))
theorem due_m_or (ht : (t, instObj 308 dt) ∈ news) (hdt : (dt, dictOf es n) ∈ news) (gk : getL (Str.ofString "kind") es = some (some (.str (Str.ofString "mod") ik))) (gl : getL (Str.ofString "low") es = some (some (.int lo il))) (gh : getL (Str.ofString "high") es = some (some (.int hi ih))) (gm : getL (Str.ofString "modulus") es = some (some (.int md im))) (hm : 0 < md) (x y : Int) (to tx ty : Tok)  : Deed w 404 [.ref t, .str (Str.ofString "or") to, .int x tx, .int y ty] news 10 (OutO (some ((bitsI [0, 1, 1] x y).fmod md))) False := by
  intro prog p loose mean mg mb dp un gd cn cs a ccd cl outer A₀ base h₀ L m s Q E B F X N T hk hd hu ret hE
  refine wpAny_call ?_
  k_dflt cell_enter
  k_steps
  all_goals first
    | (refine' ret _ _ _ ?ep ?ef ?en; (case ef => k_asm); (case en => first | k_asm | exact cb_drop (by k_asm) (fun p hp => by repeat (first | exact hp | refine List.Mem.tail _ ?_))); (case ep => first | assumption | exact .some _ _ | exact .none))
    | (refine' hE ?er _ _ _ _ _ _ ?ef ?eu ?ed; (case eu => assumption); (case ed => assumption); (case ef => assumption); (case er => skip))
theorem due_m_xor (ht : (t, instObj 308 dt) ∈ news) (hdt : (dt, dictOf es n) ∈ news) (gk : getL (Str.ofString "kind") es = some (some (.str (Str.ofString "mod") ik))) (gl : getL (Str.ofString "low") es = some (some (.int lo il))) (gh : getL (Str.ofString "high") es = some (some (.int hi ih))) (gm : getL (Str.ofString "modulus") es = some (some (.int md im))) (hm : 0 < md) (x y : Int) (to tx ty : Tok)  : Deed w 404 [.ref t, .str (Str.ofString "xor") to, .int x tx, .int y ty] news 10 (OutO (some ((bitsI [0, 1, 0] x y).fmod md))) False := by
  intro prog p loose mean mg mb dp un gd cn cs a ccd cl outer A₀ base h₀ L m s Q E B F X N T hk hd hu ret hE
  refine wpAny_call ?_
  k_dflt cell_enter
  k_steps
  all_goals first
    | (refine' ret _ _ _ ?ep ?ef ?en; (case ef => k_asm); (case en => first | k_asm | exact cb_drop (by k_asm) (fun p hp => by repeat (first | exact hp | refine List.Mem.tail _ ?_))); (case ep => first | assumption | exact .some _ _ | exact .none))
    | (refine' hE ?er _ _ _ _ _ _ ?ef ?eu ?ed; (case eu => assumption); (case ed => assumption); (case ef => assumption); (case er => skip))
theorem due_m_add (ht : (t, instObj 308 dt) ∈ news) (hdt : (dt, dictOf es n) ∈ news) (gk : getL (Str.ofString "kind") es = some (some (.str (Str.ofString "mod") ik))) (gl : getL (Str.ofString "low") es = some (some (.int lo il))) (gh : getL (Str.ofString "high") es = some (some (.int hi ih))) (gm : getL (Str.ofString "modulus") es = some (some (.int md im))) (hm : 0 < md) (x y : Int) (to tx ty : Tok) (y1 : -4611686018427387904 < y) (y2 : y < 4611686018427387904) : Deed w 404 [.ref t, .str (Str.ofString "+") to, .int x tx, .int y ty] news 10 (OutO (some ((x + y).fmod md))) False := by
  intro prog p loose mean mg mb dp un gd cn cs a ccd cl outer A₀ base h₀ L m s Q E B F X N T hk hd hu ret hE
  refine wpAny_call ?_
  k_dflt cell_enter
  k_steps
  all_goals first
    | (refine' ret _ _ _ ?ep ?ef ?en; (case ef => k_asm); (case en => first | k_asm | exact cb_drop (by k_asm) (fun p hp => by repeat (first | exact hp | refine List.Mem.tail _ ?_))); (case ep => first | assumption | exact .some _ _ | exact .none))
    | (refine' hE ?er _ _ _ _ _ _ ?ef ?eu ?ed; (case eu => assumption); (case ed => assumption); (case ef => assumption); (case er => skip))
theorem due_m_sub (ht : (t, instObj 308 dt) ∈ news) (hdt : (dt, dictOf es n) ∈ news) (gk : getL (Str.ofString "kind") es = some (some (.str (Str.ofString "mod") ik))) (gl : getL (Str.ofString "low") es = some (some (.int lo il))) (gh : getL (Str.ofString "high") es = some (some (.int hi ih))) (gm : getL (Str.ofString "modulus") es = some (some (.int md im))) (hm : 0 < md) (x y : Int) (to tx ty : Tok) (y1 : -4611686018427387904 < y) (y2 : y < 4611686018427387904) : Deed w 404 [.ref t, .str (Str.ofString "-") to, .int x tx, .int y ty] news 10 (OutO (some ((x - y).fmod md))) False := by
  intro prog p loose mean mg mb dp un gd cn cs a ccd cl outer A₀ base h₀ L m s Q E B F X N T hk hd hu ret hE
  refine wpAny_call ?_
  k_dflt cell_enter
  k_steps
  all_goals first
    | (refine' ret _ _ _ ?ep ?ef ?en; (case ef => k_asm); (case en => first | k_asm | exact cb_drop (by k_asm) (fun p hp => by repeat (first | exact hp | refine List.Mem.tail _ ?_))); (case ep => first | assumption | exact .some _ _ | exact .none))
    | (refine' hE ?er _ _ _ _ _ _ ?ef ?eu ?ed; (case eu => assumption); (case ed => assumption); (case ef => assumption); (case er => skip))
theorem due_m_mul (ht : (t, instObj 308 dt) ∈ news) (hdt : (dt, dictOf es n) ∈ news) (gk : getL (Str.ofString "kind") es = some (some (.str (Str.ofString "mod") ik))) (gl : getL (Str.ofString "low") es = some (some (.int lo il))) (gh : getL (Str.ofString "high") es = some (some (.int hi ih))) (gm : getL (Str.ofString "modulus") es = some (some (.int md im))) (hm : 0 < md) (x y : Int) (to tx ty : Tok) (y1 : -4611686018427387904 < y) (y2 : y < 4611686018427387904) : Deed w 404 [.ref t, .str (Str.ofString "*") to, .int x tx, .int y ty] news 10 (OutO (some ((x * y).fmod md))) False := by
  intro prog p loose mean mg mb dp un gd cn cs a ccd cl outer A₀ base h₀ L m s Q E B F X N T hk hd hu ret hE
  refine wpAny_call ?_
  k_dflt cell_enter
  k_steps
  all_goals first
    | (refine' ret _ _ _ ?ep ?ef ?en; (case ef => k_asm); (case en => first | k_asm | exact cb_drop (by k_asm) (fun p hp => by repeat (first | exact hp | refine List.Mem.tail _ ?_))); (case ep => first | assumption | exact .some _ _ | exact .none))
    | (refine' hE ?er _ _ _ _ _ _ ?ef ?eu ?ed; (case eu => assumption); (case ed => assumption); (case ef => assumption); (case er => skip))
theorem due_m_div (ht : (t, instObj 308 dt) ∈ news) (hdt : (dt, dictOf es n) ∈ news) (gk : getL (Str.ofString "kind") es = some (some (.str (Str.ofString "mod") ik))) (gl : getL (Str.ofString "low") es = some (some (.int lo il))) (gh : getL (Str.ofString "high") es = some (some (.int hi ih))) (gm : getL (Str.ofString "modulus") es = some (some (.int md im))) (hm : 0 < md) (x y : Int) (to tx ty : Tok) (y1 : -4611686018427387904 < y) (y2 : y < 4611686018427387904) : Deed w 404 [.ref t, .str (Str.ofString "/") to, .int x tx, .int y ty] news 10 (OutO (if y = 0 then none else some ((x.tdiv y).fmod md))) False := by
  intro prog p loose mean mg mb dp un gd cn cs a ccd cl outer A₀ base h₀ L m s Q E B F X N T hk hd hu ret hE
  refine wpAny_call ?_
  k_dflt cell_enter
  k_steps
  all_goals first
    | (refine' ret _ _ _ ?ep ?ef ?en; (case ef => k_asm); (case en => first | k_asm | exact cb_drop (by k_asm) (fun p hp => by repeat (first | exact hp | refine List.Mem.tail _ ?_))); (case ep => first | (rw [if_pos (by assumption)]; exact .none) | (rw [if_neg (by assumption)]; assumption)))
    | (refine' hE ?er _ _ _ _ _ _ ?ef ?eu ?ed; (case eu => assumption); (case ed => assumption); (case ef => assumption); (case er => skip))
theorem due_m_mod (ht : (t, instObj 308 dt) ∈ news) (hdt : (dt, dictOf es n) ∈ news) (gk : getL (Str.ofString "kind") es = some (some (.str (Str.ofString "mod") ik))) (gl : getL (Str.ofString "low") es = some (some (.int lo il))) (gh : getL (Str.ofString "high") es = some (some (.int hi ih))) (gm : getL (Str.ofString "modulus") es = some (some (.int md im))) (hm : 0 < md) (x y : Int) (to tx ty : Tok) (y1 : -4611686018427387904 < y) (y2 : y < 4611686018427387904) : Deed w 404 [.ref t, .str (Str.ofString "mod") to, .int x tx, .int y ty] news 10 (OutO (if y = 0 then none else some (if (x - x.tdiv y * y) * y < 0 then x - x.tdiv y * y + y else x - x.tdiv y * y))) False := by
  intro prog p loose mean mg mb dp un gd cn cs a ccd cl outer A₀ base h₀ L m s Q E B F X N T hk hd hu ret hE
  refine wpAny_call ?_
  k_dflt cell_enter
  k_steps
  all_goals first
    | (refine' ret _ _ _ ?ep ?ef ?en; (case ef => k_asm); (case en => first | k_asm | exact cb_drop (by k_asm) (fun p hp => by repeat (first | exact hp | refine List.Mem.tail _ ?_))); (case ep => first | (rw [if_pos (by assumption)]; exact .none) | (rw [if_neg (by assumption), if_pos (by assumption)]; exact .some _ _) | (rw [if_neg (by assumption), if_neg (by assumption)]; exact .some _ _) | (rw [if_neg (by assumption)]; exact .some _ _)))
    | (refine' hE ?er _ _ _ _ _ _ ?ef ?eu ?ed; (case eu => assumption); (case ed => assumption); (case ef => assumption); (case er => skip))
theorem due_m_rem (ht : (t, instObj 308 dt) ∈ news) (hdt : (dt, dictOf es n) ∈ news) (gk : getL (Str.ofString "kind") es = some (some (.str (Str.ofString "mod") ik))) (gl : getL (Str.ofString "low") es = some (some (.int lo il))) (gh : getL (Str.ofString "high") es = some (some (.int hi ih))) (gm : getL (Str.ofString "modulus") es = some (some (.int md im))) (hm : 0 < md) (x y : Int) (to tx ty : Tok) (y1 : -4611686018427387904 < y) (y2 : y < 4611686018427387904) : Deed w 404 [.ref t, .str (Str.ofString "rem") to, .int x tx, .int y ty] news 10 (OutO (if y = 0 then none else some (x - x.tdiv y * y))) False := by
  intro prog p loose mean mg mb dp un gd cn cs a ccd cl outer A₀ base h₀ L m s Q E B F X N T hk hd hu ret hE
  refine wpAny_call ?_
  k_dflt cell_enter
  k_steps
  all_goals first
    | (refine' ret _ _ _ ?ep ?ef ?en; (case ef => k_asm); (case en => first | k_asm | exact cb_drop (by k_asm) (fun p hp => by repeat (first | exact hp | refine List.Mem.tail _ ?_))); (case ep => first | (rw [if_pos (by assumption)]; exact .none) | (rw [if_neg (by assumption), if_pos (by assumption)]; exact .some _ _) | (rw [if_neg (by assumption), if_neg (by assumption)]; exact .some _ _) | (rw [if_neg (by assumption)]; exact .some _ _)))
    | (refine' hE ?er _ _ _ _ _ _ ?ef ?eu ?ed; (case eu => assumption); (case ed => assumption); (case ef => assumption); (case er => skip))
theorem due_m_pow0 (ht : (t, instObj 308 dt) ∈ news) (hdt : (dt, dictOf es n) ∈ news) (gk : getL (Str.ofString "kind") es = some (some (.str (Str.ofString "mod") ik))) (gl : getL (Str.ofString "low") es = some (some (.int lo il))) (gh : getL (Str.ofString "high") es = some (some (.int hi ih))) (gm : getL (Str.ofString "modulus") es = some (some (.int md im))) (hm : 0 < md) (x y : Int) (to tx ty : Tok) (h0 : y < 0) : Deed w 404 [.ref t, .str (Str.ofString "**") to, .int x tx, .int y ty] news 10 (OutO none) False := by
  intro prog p loose mean mg mb dp un gd cn cs a ccd cl outer A₀ base h₀ L m s Q E B F X N T hk hd hu ret hE
  refine wpAny_call ?_
  k_dflt cell_enter
  k_steps
  all_goals first
    | (refine' ret _ _ _ ?ep ?ef ?en; (case ef => k_asm); (case en => first | k_asm | exact cb_drop (by k_asm) (fun p hp => by repeat (first | exact hp | refine List.Mem.tail _ ?_))); (case ep => first | assumption | exact .some _ _ | exact .none))
    | (refine' hE ?er _ _ _ _ _ _ ?ef ?eu ?ed; (case eu => assumption); (case ed => assumption); (case ef => assumption); (case er => skip))
theorem due_i_add (ht : (t, instObj 308 dt) ∈ news) (hdt : (dt, dictOf es n) ∈ news) (gk : getL (Str.ofString "kind") es = some (some (.str (Str.ofString "int") ik))) (gl : getL (Str.ofString "low") es = some (some (.int lo il))) (gh : getL (Str.ofString "high") es = some (some (.int hi ih))) (x y : Int) (to tx ty : Tok) (y1 : -4611686018427387904 < y) (y2 : y < 4611686018427387904) : Deed w 404 [.ref t, .str (Str.ofString "+") to, .int x tx, .int y ty] news 10 (OutO (wi lo hi (x + y))) False := by
  intro prog p loose mean mg mb dp un gd cn cs a ccd cl outer A₀ base h₀ L m s Q E B F X N T hk hd hu ret hE
  refine wpAny_call ?_
  k_dflt cell_enter
  k_steps
  all_goals first
    | (refine' ret _ _ _ ?ep ?ef ?en; (case ef => k_asm); (case en => first | k_asm | exact cb_drop (by k_asm) (fun p hp => by repeat (first | exact hp | refine List.Mem.tail _ ?_))); (case ep => first | assumption | exact .some _ _ | exact .none))
    | (refine' hE ?er _ _ _ _ _ _ ?ef ?eu ?ed; (case eu => assumption); (case ed => assumption); (case ef => assumption); (case er => skip))
theorem due_i_sub (ht : (t, instObj 308 dt) ∈ news) (hdt : (dt, dictOf es n) ∈ news) (gk : getL (Str.ofString "kind") es = some (some (.str (Str.ofString "int") ik))) (gl : getL (Str.ofString "low") es = some (some (.int lo il))) (gh : getL (Str.ofString "high") es = some (some (.int hi ih))) (x y : Int) (to tx ty : Tok) (y1 : -4611686018427387904 < y) (y2 : y < 4611686018427387904) : Deed w 404 [.ref t, .str (Str.ofString "-") to, .int x tx, .int y ty] news 10 (OutO (wi lo hi (x - y))) False := by
  intro prog p loose mean mg mb dp un gd cn cs a ccd cl outer A₀ base h₀ L m s Q E B F X N T hk hd hu ret hE
  refine wpAny_call ?_
  k_dflt cell_enter
  k_steps
  all_goals first
    | (refine' ret _ _ _ ?ep ?ef ?en; (case ef => k_asm); (case en => first | k_asm | exact cb_drop (by k_asm) (fun p hp => by repeat (first | exact hp | refine List.Mem.tail _ ?_))); (case ep => first | assumption | exact .some _ _ | exact .none))
    | (refine' hE ?er _ _ _ _ _ _ ?ef ?eu ?ed; (case eu => assumption); (case ed => assumption); (case ef => assumption); (case er => skip))
theorem due_i_mul (ht : (t, instObj 308 dt) ∈ news) (hdt : (dt, dictOf es n) ∈ news) (gk : getL (Str.ofString "kind") es = some (some (.str (Str.ofString "int") ik))) (gl : getL (Str.ofString "low") es = some (some (.int lo il))) (gh : getL (Str.ofString "high") es = some (some (.int hi ih))) (x y : Int) (to tx ty : Tok) (y1 : -4611686018427387904 < y) (y2 : y < 4611686018427387904) : Deed w 404 [.ref t, .str (Str.ofString "*") to, .int x tx, .int y ty] news 10 (OutO (wi lo hi (x * y))) False := by
  intro prog p loose mean mg mb dp un gd cn cs a ccd cl outer A₀ base h₀ L m s Q E B F X N T hk hd hu ret hE
  refine wpAny_call ?_
  k_dflt cell_enter
  k_steps
  all_goals first
    | (refine' ret _ _ _ ?ep ?ef ?en; (case ef => k_asm); (case en => first | k_asm | exact cb_drop (by k_asm) (fun p hp => by repeat (first | exact hp | refine List.Mem.tail _ ?_))); (case ep => first | assumption | exact .some _ _ | exact .none))
    | (refine' hE ?er _ _ _ _ _ _ ?ef ?eu ?ed; (case eu => assumption); (case ed => assumption); (case ef => assumption); (case er => skip))
theorem due_i_div (ht : (t, instObj 308 dt) ∈ news) (hdt : (dt, dictOf es n) ∈ news) (gk : getL (Str.ofString "kind") es = some (some (.str (Str.ofString "int") ik))) (gl : getL (Str.ofString "low") es = some (some (.int lo il))) (gh : getL (Str.ofString "high") es = some (some (.int hi ih))) (x y : Int) (to tx ty : Tok) (y1 : -4611686018427387904 < y) (y2 : y < 4611686018427387904) : Deed w 404 [.ref t, .str (Str.ofString "/") to, .int x tx, .int y ty] news 10 (OutO (if y = 0 then none else wi lo hi (x.tdiv y))) False := by
  intro prog p loose mean mg mb dp un gd cn cs a ccd cl outer A₀ base h₀ L m s Q E B F X N T hk hd hu ret hE
  refine wpAny_call ?_
  k_dflt cell_enter
  k_steps
  all_goals first
    | (refine' ret _ _ _ ?ep ?ef ?en; (case ef => k_asm); (case en => first | k_asm | exact cb_drop (by k_asm) (fun p hp => by repeat (first | exact hp | refine List.Mem.tail _ ?_))); (case ep => first | (rw [if_pos (by assumption)]; exact .none) | (rw [if_neg (by assumption)]; assumption)))
    | (refine' hE ?er _ _ _ _ _ _ ?ef ?eu ?ed; (case eu => assumption); (case ed => assumption); (case ef => assumption); (case er => skip))
theorem due_i_mod (ht : (t, instObj 308 dt) ∈ news) (hdt : (dt, dictOf es n) ∈ news) (gk : getL (Str.ofString "kind") es = some (some (.str (Str.ofString "int") ik))) (gl : getL (Str.ofString "low") es = some (some (.int lo il))) (gh : getL (Str.ofString "high") es = some (some (.int hi ih))) (x y : Int) (to tx ty : Tok) (y1 : -4611686018427387904 < y) (y2 : y < 4611686018427387904) : Deed w 404 [.ref t, .str (Str.ofString "mod") to, .int x tx, .int y ty] news 10 (OutO (if y = 0 then none else some (if (x - x.tdiv y * y) * y < 0 then x - x.tdiv y * y + y else x - x.tdiv y * y))) False := by
  intro prog p loose mean mg mb dp un gd cn cs a ccd cl outer A₀ base h₀ L m s Q E B F X N T hk hd hu ret hE
  refine wpAny_call ?_
  k_dflt cell_enter
  k_steps
  all_goals first
    | (refine' ret _ _ _ ?ep ?ef ?en; (case ef => k_asm); (case en => first | k_asm | exact cb_drop (by k_asm) (fun p hp => by repeat (first | exact hp | refine List.Mem.tail _ ?_))); (case ep => first | (rw [if_pos (by assumption)]; exact .none) | (rw [if_neg (by assumption), if_pos (by assumption)]; exact .some _ _) | (rw [if_neg (by assumption), if_neg (by assumption)]; exact .some _ _) | (rw [if_neg (by assumption)]; exact .some _ _)))
    | (refine' hE ?er _ _ _ _ _ _ ?ef ?eu ?ed; (case eu => assumption); (case ed => assumption); (case ef => assumption); (case er => skip))
theorem due_i_rem (ht : (t, instObj 308 dt) ∈ news) (hdt : (dt, dictOf es n) ∈ news) (gk : getL (Str.ofString "kind") es = some (some (.str (Str.ofString "int") ik))) (gl : getL (Str.ofString "low") es = some (some (.int lo il))) (gh : getL (Str.ofString "high") es = some (some (.int hi ih))) (x y : Int) (to tx ty : Tok) (y1 : -4611686018427387904 < y) (y2 : y < 4611686018427387904) : Deed w 404 [.ref t, .str (Str.ofString "rem") to, .int x tx, .int y ty] news 10 (OutO (if y = 0 then none else some (x - x.tdiv y * y))) False := by
  intro prog p loose mean mg mb dp un gd cn cs a ccd cl outer A₀ base h₀ L m s Q E B F X N T hk hd hu ret hE
  refine wpAny_call ?_
  k_dflt cell_enter
  k_steps
  all_goals first
    | (refine' ret _ _ _ ?ep ?ef ?en; (case ef => k_asm); (case en => first | k_asm | exact cb_drop (by k_asm) (fun p hp => by repeat (first | exact hp | refine List.Mem.tail _ ?_))); (case ep => first | (rw [if_pos (by assumption)]; exact .none) | (rw [if_neg (by assumption), if_pos (by assumption)]; exact .some _ _) | (rw [if_neg (by assumption), if_neg (by assumption)]; exact .some _ _) | (rw [if_neg (by assumption)]; exact .some _ _)))
    | (refine' hE ?er _ _ _ _ _ _ ?ef ?eu ?ed; (case eu => assumption); (case ed => assumption); (case ef => assumption); (case er => skip))
theorem due_i_pow0 (ht : (t, instObj 308 dt) ∈ news) (hdt : (dt, dictOf es n) ∈ news) (gk : getL (Str.ofString "kind") es = some (some (.str (Str.ofString "int") ik))) (gl : getL (Str.ofString "low") es = some (some (.int lo il))) (gh : getL (Str.ofString "high") es = some (some (.int hi ih))) (x y : Int) (to tx ty : Tok) (h0 : y < 0) : Deed w 404 [.ref t, .str (Str.ofString "**") to, .int x tx, .int y ty] news 10 (OutO none) False := by
  intro prog p loose mean mg mb dp un gd cn cs a ccd cl outer A₀ base h₀ L m s Q E B F X N T hk hd hu ret hE
  refine wpAny_call ?_
  k_dflt cell_enter
  k_steps
  all_goals first
    | (refine' ret _ _ _ ?ep ?ef ?en; (case ef => k_asm); (case en => first | k_asm | exact cb_drop (by k_asm) (fun p hp => by repeat (first | exact hp | refine List.Mem.tail _ ?_))); (case ep => first | assumption | exact .some _ _ | exact .none))
    | (refine' hE ?er _ _ _ _ _ _ ?ef ?eu ?ed; (case eu => assumption); (case ed => assumption); (case ef => assumption); (case er => skip))
end
section
variable {w : World} {news : List (Addr × Obj)} {t dt : Addr} {es : List DictEntry} {n : Nat} {lo hi md : Int} {ik il ih im : Tok}
local macro_rules | `(tactic| walk_at "call ref") => `(tactic| (k_here; (with_reducible show wpAny _ _ (call (Value.ref 397) _) _ _ _); k_dflt (refine' Deed.use (law_within_n _) ?kB ?kF ?kX ?kN ?kT ?kK ?kd ?ku ?_ ?ke; walk_at "solve"; (case ke => exact fun h9 => h9.elim); intro r9 h9 tk9 P9 F9 N9; (try k_sweep); skip)))
local macro_rules | `(tactic| walk_at "call ref") => `(tactic| (k_here; (with_reducible show wpAny _ _ (call (Value.ref 376) _) _ _ _); k_dflt (refine' Deed.use (law_power_d _ _ _ _ ?h1 ?h2 ?h0) ?kB ?kF ?kX ?kN ?kT ?kK ?kd ?ku ?_ ?ke; walk_at "solve"; (case h1 => assumption); (case h2 => assumption); (case h0 => assumption); (case ke => exact fun h9 => h9.elim); intro r9 h9 tk9 P9 F9 N9; (try k_sweep); (have hl9 : lpowO _ _ = _ := (by assumption)); (rw [hl9] at P9); (cases P9))))
theorem due_i_pow_none (ht : (t, instObj 308 dt) ∈ news) (hdt : (dt, dictOf es n) ∈ news) (gk : getL (Str.ofString "kind") es = some (some (.str (Str.ofString "int") ik))) (gl : getL (Str.ofString "low") es = some (some (.int lo il))) (gh : getL (Str.ofString "high") es = some (some (.int hi ih))) (x y : Int) (to tx ty : Tok) (x1 : -4611686018427387904 < x) (x2 : x < 4611686018427387904) (h0 : 0 ≤ y) (hl : lpowO x y = none) : Deed w 404 [.ref t, .str (Str.ofString "**") to, .int x tx, .int y ty] news 10 (OutO none) False := by
  intro prog p loose mean mg mb dp un gd cn cs a ccd cl outer A₀ base h₀ L m s Q E B F X N T hk hd hu ret hE
  refine wpAny_call ?_
  k_dflt cell_enter
  k_steps
  all_goals first
    | (refine' ret _ _ _ ?ep ?ef ?en; (case ef => k_asm); (case en => first | k_asm | exact cb_drop (by k_asm) (fun p hp => by repeat (first | exact hp | refine List.Mem.tail _ ?_))); (case ep => first | assumption | exact .none))
    | (refine' hE ?er _ _ _ _ _ _ ?ef ?eu ?ed; (case eu => assumption); (case ed => assumption); (case ef => assumption); (case er => skip))
theorem due_i_pow_some (ht : (t, instObj 308 dt) ∈ news) (hdt : (dt, dictOf es n) ∈ news) (gk : getL (Str.ofString "kind") es = some (some (.str (Str.ofString "int") ik))) (gl : getL (Str.ofString "low") es = some (some (.int lo il))) (gh : getL (Str.ofString "high") es = some (some (.int hi ih))) (x y : Int) (to tx ty : Tok) (x1 : -4611686018427387904 < x) (x2 : x < 4611686018427387904) (h0 : 0 ≤ y) (v : Int) (hl : lpowO x y = some v) : Deed w 404 [.ref t, .str (Str.ofString "**") to, .int x tx, .int y ty] news 10 (OutO (wi lo hi v)) False := by
  intro prog p loose mean mg mb dp un gd cn cs a ccd cl outer A₀ base h₀ L m s Q E B F X N T hk hd hu ret hE
  refine wpAny_call ?_
  k_dflt cell_enter
  k_steps
  all_goals first
    | (refine' ret _ _ _ ?ep ?ef ?en; (case ef => k_asm); (case en => first | k_asm | exact cb_drop (by k_asm) (fun p hp => by repeat (first | exact hp | refine List.Mem.tail _ ?_))); (case ep => assumption))
    | (refine' hE ?er _ _ _ _ _ _ ?ef ?eu ?ed; (case eu => assumption); (case ed => assumption); (case ef => assumption); (case er => skip))
theorem due_i_pow (ht : (t, instObj 308 dt) ∈ news) (hdt : (dt, dictOf es n) ∈ news) (gk : getL (Str.ofString "kind") es = some (some (.str (Str.ofString "int") ik))) (gl : getL (Str.ofString "low") es = some (some (.int lo il))) (gh : getL (Str.ofString "high") es = some (some (.int hi ih))) (x y : Int) (to tx ty : Tok) (x1 : -4611686018427387904 < x) (x2 : x < 4611686018427387904) : Deed w 404 [.ref t, .str (Str.ofString "**") to, .int x tx, .int y ty] news 10 (OutO (powO lo hi x y)) False := by
  unfold powO
  by_cases h0 : y < 0
  · rw [if_pos h0]; exact due_i_pow0 ht hdt gk gl gh x y to tx ty h0
  · rw [if_neg h0]
    by_cases h1 : (x < -1 ∨ 1 < x) ∧ 64 < y
    · rw [if_pos h1]; exact due_i_pow_none ht hdt gk gl gh x y to tx ty x1 x2 (by omega) (if_pos h1)
    · rw [if_neg h1]; exact due_i_pow_some ht hdt gk gl gh x y to tx ty x1 x2 (by omega) _ (if_neg h1)
local macro_rules | `(tactic| walk_at "call ref") => `(tactic| (k_here; (with_reducible show wpAny _ _ (call (Value.ref 383) _) _ _ _); k_dflt (refine' Deed.use (law_ring_d _ _ _ _ _ _ ?h1 ?h2 ?h3 ?h4 ?h5 ?h6) ?kB ?kF ?kX ?kN ?kT ?kK ?kd ?ku ?_ ?ke; walk_at "solve"; (case h1 => assumption); (case h2 => assumption); (case h3 => assumption); (case h4 => assumption); (case h5 => assumption); (case h6 => assumption); (case ke => exact fun h9 => h9.elim); intro r9 h9 tk9 P9 F9 N9; (try k_sweep); (obtain ⟨tk8⟩ := P9))))
theorem due_m_pow1 (ht : (t, instObj 308 dt) ∈ news) (hdt : (dt, dictOf es n) ∈ news) (gk : getL (Str.ofString "kind") es = some (some (.str (Str.ofString "mod") ik))) (gl : getL (Str.ofString "low") es = some (some (.int lo il))) (gh : getL (Str.ofString "high") es = some (some (.int hi ih))) (gm : getL (Str.ofString "modulus") es = some (some (.int md im))) (hm : 0 < md) (x y : Int) (to tx ty : Tok) (y2 : y < 4611686018427387904) (hb : md < 4611686018427387904) (h0 : 0 ≤ y) (x1 : 0 ≤ x) (x2 : x < md) : Deed w 404 [.ref t, .str (Str.ofString "**") to, .int x tx, .int y ty] news 10 (OutO (some (x ^ y.toNat % md))) False := by
  intro prog p loose mean mg mb dp un gd cn cs a ccd cl outer A₀ base h₀ L m s Q E B F X N T hk hd hu ret hE
  refine wpAny_call ?_
  k_dflt cell_enter
  k_steps
  all_goals first
    | (refine' ret _ _ _ ?ep ?ef ?en; (case ef => k_asm); (case en => first | k_asm | exact cb_drop (by k_asm) (fun p hp => by repeat (first | exact hp | refine List.Mem.tail _ ?_))); (case ep => exact .some _ _))
    | (refine' hE ?er _ _ _ _ _ _ ?ef ?eu ?ed; (case eu => assumption); (case ed => assumption); (case ef => assumption); (case er => skip))
theorem due_m_pow (ht : (t, instObj 308 dt) ∈ news) (hdt : (dt, dictOf es n) ∈ news) (gk : getL (Str.ofString "kind") es = some (some (.str (Str.ofString "mod") ik))) (gl : getL (Str.ofString "low") es = some (some (.int lo il))) (gh : getL (Str.ofString "high") es = some (some (.int hi ih))) (gm : getL (Str.ofString "modulus") es = some (some (.int md im))) (hm : 0 < md) (x y : Int) (to tx ty : Tok) (y2 : y < 4611686018427387904) (hb : md < 4611686018427387904) (x1 : 0 ≤ x) (x2 : x < md) : Deed w 404 [.ref t, .str (Str.ofString "**") to, .int x tx, .int y ty] news 10 (OutO (mpowO md x y)) False := by
  unfold mpowO
  by_cases h0 : y < 0
  · rw [if_pos h0]; exact due_m_pow0 ht hdt gk gl gh gm hm x y to tx ty h0
  · rw [if_neg h0]; exact due_m_pow1 ht hdt gk gl gh gm hm x y to tx ty y2 hb (by omega) x1 x2
end
noncomputable def gAnd (u v : Nat) : Int := ([0, 0, 1] : List Int).getD (u + v) 0
noncomputable def TT (G : Nat → Nat → Int) : Nat → Nat → Nat → Int
  | 0, _, _ => 0
  | n + 1, a, b => G (a % 2) (b % 2) + 2 * TT G n (a / 2) (b / 2)
theorem div_pow_succ (a k : Nat) : a / 2 ^ (k + 1) = a / 2 ^ k / 2 := by rw [Nat.pow_succ, Nat.div_div_eq_div_mul]
theorem tt_fold (G : Nat → Nat → Int) (a b : Nat) : ∀ (n k : Nat) (c : Int),
    (List.range' k n).foldl (fun c j => c + 2 ^ j * G (a / 2 ^ j % 2) (b / 2 ^ j % 2)) c = c + 2 ^ k * TT G n (a / 2 ^ k) (b / 2 ^ k)
  | 0, k, c => by simp [TT]
  | n + 1, k, c => by
    rw [List.range'_succ, List.foldl_cons, tt_fold G a b n (k + 1), TT, ← div_pow_succ, ← div_pow_succ, Int.pow_succ, Int.mul_add, ← Int.mul_assoc, Int.add_assoc]
theorem tt_and : ∀ (n a b : Nat), a < 2 ^ n → b < 2 ^ n → TT gAnd n a b = ((a &&& b : Nat) : Int)
  | 0, a, b, ha, hb => by
    have h1 : a = 0 := by simpa using ha
    subst h1; simp [TT]
  | n + 1, a, b, ha, hb => by
    rw [Nat.pow_succ] at ha hb
    rw [TT, tt_and n (a / 2) (b / 2) (by omega) (by omega)]
    have h1 : (a &&& b) / 2 = a / 2 &&& b / 2 := Nat.and_div_two
    have h2 : (a &&& b) % 2 = if a % 2 = 1 ∧ b % 2 = 1 then 1 else 0 := by
      have h3 : (a &&& b) % 2 = 1 ↔ a % 2 = 1 ∧ b % 2 = 1 := Nat.and_mod_two_eq_one
      by_cases q : a % 2 = 1 ∧ b % 2 = 1
      · rw [if_pos q]; exact h3.mpr q
      · rw [if_neg q]; have := mt h3.mp q; omega
    have h3 : gAnd (a % 2) (b % 2) = (((a &&& b) % 2 : Nat) : Int) := by
      rw [h2]
      rcases (show a % 2 = 0 ∨ a % 2 = 1 by omega) with e1 | e1 <;> rcases (show b % 2 = 0 ∨ b % 2 = 1 by omega) with e2 | e2 <;> rw [e1, e2] <;> rfl
    rw [h3, ← h1]; omega
theorem tt_lin (G : Nat → Nat → Int) (d : Int) (hG : ∀ u v, u < 2 → v < 2 → G u v = u + v - d * gAnd u v) : ∀ (n a b : Nat), a < 2 ^ n → b < 2 ^ n → TT G n a b = a + b - d * TT gAnd n a b
  | 0, a, b, ha, hb => by
    have h1 : a = 0 := by simpa using ha
    have h2 : b = 0 := by simpa using hb
    subst h1 h2; simp [TT]
  | n + 1, a, b, ha, hb => by
    rw [Nat.pow_succ] at ha hb
    rw [TT, TT, tt_lin G d hG n (a / 2) (b / 2) (by omega) (by omega), hG _ _ (by omega) (by omega), Int.mul_add, ← Int.mul_assoc, Int.mul_comm d 2, Int.mul_assoc]
    omega
theorem bitsI_tt (l : List Int) (a b : Nat) : bitsI l a b = TT (fun u v => l.getD (u + v) 0) 34 a b := by
  unfold bitsI rangeKs
  rw [List.foldl_map, List.range_eq_range']
  have h := tt_fold (fun u v => l.getD (u + v) 0) a b 34 0 0
  rw [Nat.pow_zero, Nat.div_one, Nat.div_one, Int.pow_zero, Int.one_mul, Int.zero_add] at h
  rw [← h]
  congr 1
  funext c j
  have e0 : (0 + (j : Int)).toNat = j := by omega
  have e1 : ∀ z : Nat, ((z : Int).fdiv (2 ^ j)).fmod 2 = ((z / 2 ^ j % 2 : Nat) : Int) := fun z => by
    rw [pow2_nat, Int.fdiv_eq_ediv_of_nonneg _ (Int.natCast_nonneg _), Int.fmod_eq_emod_of_nonneg _ (by decide)]; rfl
  rw [e0, e1, e1, show (((a / 2 ^ j % 2 : Nat) : Int) + ((b / 2 ^ j % 2 : Nat) : Int)).toNat = a / 2 ^ j % 2 + b / 2 ^ j % 2 by omega]
theorem bitAnd_nat (a b : Nat) : Builtin.bitAnd (a : Int) (b : Int) = ((a &&& b : Nat) : Int) := by
  unfold Builtin.bitAnd
  rw [decide_eq_true (show (0 : Int) ≤ (a : Int) by omega), decide_eq_true (show (0 : Int) ≤ (b : Int) by omega)]
  rfl
theorem bitOr_and (x y : Int) : Builtin.bitOr x y = x + y - Builtin.bitAnd x y := by
  have h := bitXor_and x y
  unfold Builtin.bitXor at h
  omega
section
variable {x y : Int} (hx : 0 ≤ x) (hy : 0 ≤ y) (hx' : x < 17179869184) (hy' : y < 17179869184)
include hx hy hx' hy'
theorem bits_and : bitsI [0, 0, 1] x y = Builtin.bitAnd x y := by
  obtain ⟨a, rfl⟩ := Int.eq_ofNat_of_zero_le hx
  obtain ⟨b, rfl⟩ := Int.eq_ofNat_of_zero_le hy
  rw [bitsI_tt, bitAnd_nat]
  exact tt_and 34 a b (by omega) (by omega)
theorem bits_lin (l : List Int) (d : Int) (hG : ∀ u v : Nat, u < 2 → v < 2 → l.getD (u + v) 0 = u + v - d * gAnd u v) : bitsI l x y = x + y - d * Builtin.bitAnd x y := by
  obtain ⟨a, rfl⟩ := Int.eq_ofNat_of_zero_le hx
  obtain ⟨b, rfl⟩ := Int.eq_ofNat_of_zero_le hy
  rw [bitsI_tt, bitAnd_nat, tt_lin _ d hG 34 a b (by omega) (by omega), tt_and 34 a b (by omega) (by omega)]
theorem bits_or : bitsI [0, 1, 1] x y = Builtin.bitOr x y := by
  rw [bits_lin hx hy hx' hy' [0, 1, 1] 1 (fun u v hu hv => by
    rcases (show u = 0 ∨ u = 1 by omega) with rfl | rfl <;> rcases (show v = 0 ∨ v = 1 by omega) with rfl | rfl <;> rfl), bitOr_and]; omega
theorem bits_xor : bitsI [0, 1, 0] x y = Builtin.bitXor x y := by
  rw [bits_lin hx hy hx' hy' [0, 1, 0] 2 (fun u v hu hv => by
    rcases (show u = 0 ∨ u = 1 by omega) with rfl | rfl <;> rcases (show v = 0 ∨ v = 1 by omega) with rfl | rfl <;> rfl), bitXor_and]
end
theorem bitAnd_le {x y : Int} (hx : 0 ≤ x) (hy : 0 ≤ y) : 0 ≤ Builtin.bitAnd x y ∧ Builtin.bitAnd x y ≤ x := by
  obtain ⟨a, rfl⟩ := Int.eq_ofNat_of_zero_le hx
  obtain ⟨b, rfl⟩ := Int.eq_ofNat_of_zero_le hy
  rw [bitAnd_nat]
  have := @Nat.and_le_left a b
  omega
theorem zero_of_small {d y : Int} (h : (d * y).natAbs < y.natAbs) : d = 0 := by
  by_cases q : d = 0
  · exact q
  · rw [Int.natAbs_mul] at h
    have h1 : 1 * y.natAbs ≤ d.natAbs * y.natAbs := Nat.mul_le_mul_right _ (by omega)
    omega
theorem fmod_range {x y : Int} (hy : y ≠ 0) : (0 < y → 0 ≤ x.fmod y ∧ x.fmod y < y) ∧ (y < 0 → y < x.fmod y ∧ x.fmod y ≤ 0) := by
  refine ⟨fun h => fmod_bnd h, fun h => ?_⟩
  have h1 := fmod_bnd (a := -x) (m := -y) (by omega)
  rw [Int.neg_fmod_neg] at h1
  omega
theorem tmod_range {x y : Int} (hy : y ≠ 0) : (x.tmod y).natAbs < y.natAbs := by
  rw [Int.natAbs_tmod]; exact Nat.mod_lt _ (by omega)
theorem sign_mul {r y : Int} (hy : y ≠ 0) : r * y < 0 ↔ (0 < y ∧ r < 0) ∨ (y < 0 ∧ 0 < r) := by
  constructor
  · intro h
    by_cases h1 : 0 < y
    · left; refine ⟨h1, ?_⟩
      by_cases h2 : r < 0
      · exact h2
      · have := Int.mul_nonneg (show 0 ≤ r by omega) (show 0 ≤ y by omega); omega
    · right; refine ⟨by omega, ?_⟩
      by_cases h2 : 0 < r
      · exact h2
      · have := Int.mul_nonneg_of_nonpos_of_nonpos (show r ≤ 0 by omega) (show y ≤ 0 by omega); omega
  · rintro (⟨h1, h2⟩ | ⟨h1, h2⟩)
    · exact Int.mul_neg_of_neg_of_pos h2 h1
    · exact Int.mul_neg_of_pos_of_neg h2 h1
theorem fmod_join {x y : Int} (hy : y ≠ 0) : x - x.fdiv y * y = if (x - x.tdiv y * y) * y < 0 then x - x.tdiv y * y + y else x - x.tdiv y * y := by
  have e1 : x - x.fdiv y * y = x.fmod y := by rw [Int.fmod_def, Int.mul_comm]
  have e2 : x - x.tdiv y * y = x.tmod y := by rw [Int.tmod_def, Int.mul_comm]
  obtain ⟨f1, f2⟩ := fmod_range (x := x) hy
  have t1 := tmod_range (x := x) hy
  have hd : x.fmod y - x.tmod y = (x.tdiv y - x.fdiv y) * y := by rw [← e1, ← e2, Int.sub_mul]; omega
  rw [e2, e1]
  by_cases hs : x.tmod y * y < 0
  · rw [if_pos hs]
    have h1 := (sign_mul hy).mp hs
    have hd2 : x.fmod y - (x.tmod y + y) = (x.tdiv y - x.fdiv y - 1) * y := by rw [Int.sub_mul _ 1, ← hd]; omega
    have hz := zero_of_small (d := x.tdiv y - x.fdiv y - 1) (y := y) (by rw [← hd2]; rcases h1 with ⟨a, b⟩ | ⟨a, b⟩ <;> omega)
    rw [hz, Int.zero_mul] at hd2; omega
  · rw [if_neg hs]
    have h1 := mt (sign_mul hy).mpr hs
    have hz := zero_of_small (d := x.tdiv y - x.fdiv y) (y := y) (by rw [← hd]; omega)
    rw [hz, Int.zero_mul] at hd; omega
theorem modO_join (x y : Int) : modO x y = if y = 0 then none else some (if (x - x.tdiv y * y) * y < 0 then x - x.tdiv y * y + y else x - x.tdiv y * y) := by
  unfold modO
  by_cases h : y = 0
  · rw [if_pos h, if_pos h]
  · rw [if_neg h, if_neg h, fmod_join h]
theorem fmod_small {a m : Int} (h0 : 0 ≤ a) (h1 : a < m) : a.fmod m = a := by
  rw [fmod_pos (by omega)]; exact Int.emod_eq_of_lt h0 h1
theorem divO_mod {md x y : Int} (x0 : 0 ≤ x) (x1 : x < md) (y0 : 0 ≤ y) : divO 0 (md - 1) x y = if y = 0 then none else some ((x.tdiv y).fmod md) := by
  unfold divO
  by_cases h : y = 0
  · rw [if_pos h, if_pos h]
  · rw [if_neg h, if_neg h]
    have h0 : 0 ≤ x.tdiv y := Int.tdiv_nonneg x0 y0
    have h1 : x.tdiv y ≤ x := Int.tdiv_le_self y x0
    rw [wi_in h0 (by omega), fmod_small h0 (by omega)]
theorem abs_int (lo hi x : Int) : wi lo hi (if x < 0 then -x else x) = wi lo hi (if 0 - x > x then 0 - x else x) := by
  congr 1; split <;> split <;> omega
theorem neg_int (lo hi x : Int) : wi lo hi (-x) = wi lo hi (0 - x) := by congr 1; omega
theorem neg_mod (md x : Int) : some ((-x).fmod md) = some ((0 - x).fmod md) := by rw [show -x = 0 - x by omega]
theorem abs_mod {md x : Int} (x0 : 0 ≤ x) (x1 : x < md) : some x = some ((if 0 - x > x then 0 - x else x).fmod md) := by
  rw [if_neg (by omega), fmod_small x0 x1]
theorem same_mod {md x : Int} (x0 : 0 ≤ x) (x1 : x < md) : some x = some (x.fmod md) := by rw [fmod_small x0 x1]
theorem not_mod (hi x : Int) : some (hi - x) = some (hi + 0 - x) := by congr 1; omega
section
variable {md x y : Int} (x0 : 0 ≤ x) (x1 : x < md) (y0 : 0 ≤ y) (y1 : y < md) (hm : md ≤ 8589934592)
include x0 x1 y0 y1 hm
theorem and_mod : some (Builtin.bitAnd x y) = some ((bitsI [0, 0, 1] x y).fmod md) := by
  have h := bitAnd_le x0 y0
  rw [bits_and x0 y0 (by omega) (by omega), fmod_small h.1 (by omega)]
theorem or_mod (kd : Str) (hk : kd = Str.ofString "mod") : some (crI kd md (Builtin.bitOr x y)) = some ((bitsI [0, 1, 1] x y).fmod md) := by
  subst hk; rw [bits_or x0 y0 (by omega) (by omega), crI, if_pos (by decide)]
theorem xor_mod (kd : Str) (hk : kd = Str.ofString "mod") : some (crI kd md (Builtin.bitXor x y)) = some ((bitsI [0, 1, 0] x y).fmod md) := by
  subst hk; rw [bits_xor x0 y0 (by omega) (by omega), crI, if_pos (by decide)]
end
section
variable {x y : Int} (x0 : 0 ≤ x) (x1 : x ≤ 1) (y0 : 0 ≤ y) (y1 : y ≤ 1)
include x0 x1 y0 y1
theorem and_enum : some (Builtin.bitAnd x y) = wi 0 1 (bitsI [0, 0, 1] x y) := by
  rw [bits_and x0 y0 (by omega) (by omega)]
  rcases (show x = 0 ∨ x = 1 by omega) with rfl | rfl <;> rcases (show y = 0 ∨ y = 1 by omega) with rfl | rfl <;> decide +kernel
theorem or_enum : some (Builtin.bitOr x y) = wi 0 1 (bitsI [0, 1, 1] x y) := by
  rw [bits_or x0 y0 (by omega) (by omega)]
  rcases (show x = 0 ∨ x = 1 by omega) with rfl | rfl <;> rcases (show y = 0 ∨ y = 1 by omega) with rfl | rfl <;> decide +kernel
theorem xor_enum : some (Builtin.bitXor x y) = wi 0 1 (bitsI [0, 1, 0] x y) := by
  rw [bits_xor x0 y0 (by omega) (by omega)]
  rcases (show x = 0 ∨ x = 1 by omega) with rfl | rfl <;> rcases (show y = 0 ∨ y = 1 by omega) with rfl | rfl <;> decide +kernel
end
section
variable {w : World} {news : List (Addr × Obj)} {t dt : Addr} {es : List DictEntry} {n : Nat} {lo hi md : Int} {ik il ih im : Tok}
theorem DeedT.le {f : Addr} {vs : List Value} {k k' : Nat} {P : Value → Prop} (D : DeedT w f vs news k P) (h : k ≤ k') : DeedT w f vs news k' P :=
  fun prog p loose mean mg mb dp un gd cn cs a ccd cl A₀ base h₀ L m s Q E B F X N T XB TB hk hd hu ret => D prog p loose mean mg mb dp un gd cn cs a ccd cl A₀ base h₀ L m s Q E B F X N T XB TB hk (by omega) (by omega) ret
theorem sure {f : Addr} {vs : List Value} {k : Nat} {v : Int} (D : Deed w f vs news k (GiveO (some v)) False) : Deed w f vs news k (GiveO (some v)) (some v = none) := D.mono (fun _ h => h) False.elim
theorem two_i_add (ht : (t, instObj 308 dt) ∈ news) (hdt : (dt, dictOf es n) ∈ news) (gl : getL (Str.ofString "low") es = some (some (.int lo il))) (gh : getL (Str.ofString "high") es = some (some (.int hi ih))) (x y : Int) (tx ty : Tok) : DeedT w 418 [.ref 88, .ref t, .int x tx, .int y ty] news 14 (OutO (wi lo hi (x + y))) := by
  have hf : keepIn (Mine.K w.params) (.ref 88) = true := by kernel_rfl
  exact (law_of_two_d (whole_add_d ht hdt gl gh x y tx ty) hf).le (by decide)
theorem two_i_sub (ht : (t, instObj 308 dt) ∈ news) (hdt : (dt, dictOf es n) ∈ news) (gl : getL (Str.ofString "low") es = some (some (.int lo il))) (gh : getL (Str.ofString "high") es = some (some (.int hi ih))) (x y : Int) (tx ty : Tok) : DeedT w 418 [.ref 95, .ref t, .int x tx, .int y ty] news 14 (OutO (wi lo hi (x - y))) := by
  have hf : keepIn (Mine.K w.params) (.ref 95) = true := by kernel_rfl
  exact (law_of_two_d (whole_sub_d ht hdt gl gh x y tx ty) hf).le (by decide)
theorem two_i_mul (ht : (t, instObj 308 dt) ∈ news) (hdt : (dt, dictOf es n) ∈ news) (gl : getL (Str.ofString "low") es = some (some (.int lo il))) (gh : getL (Str.ofString "high") es = some (some (.int hi ih))) (x y : Int) (tx ty : Tok) (y1 : -4611686018427387904 < y) (y2 : y < 4611686018427387904) : DeedT w 418 [.ref 102, .ref t, .int x tx, .int y ty] news 14 (OutO (wi lo hi (x * y))) := by
  have hf : keepIn (Mine.K w.params) (.ref 102) = true := by kernel_rfl
  exact (law_of_two_d (whole_mul_d ht hdt gl gh x y tx ty y1 y2) hf).le (by decide)
theorem two_i_div (ht : (t, instObj 308 dt) ∈ news) (hdt : (dt, dictOf es n) ∈ news) (gl : getL (Str.ofString "low") es = some (some (.int lo il))) (gh : getL (Str.ofString "high") es = some (some (.int hi ih))) (x y : Int) (tx ty : Tok) (y1 : -4611686018427387904 < y) (y2 : y < 4611686018427387904) : DeedT w 418 [.ref 116, .ref t, .int x tx, .int y ty] news 14 (OutO (if y = 0 then none else wi lo hi (x.tdiv y))) := by
  have hf : keepIn (Mine.K w.params) (.ref 116) = true := by kernel_rfl
  exact (law_of_two_d (whole_div_d ht hdt gl gh x y tx ty y1 y2) hf).le (by decide)
theorem two_rem (ht : (t, instObj 308 dt) ∈ news) (hdt : (dt, dictOf es n) ∈ news) (x y : Int) (tx ty : Tok) (y1 : -4611686018427387904 < y) (y2 : y < 4611686018427387904) : DeedT w 418 [.ref 123, .ref t, .int x tx, .int y ty] news 14 (OutO (if y = 0 then none else some (x - x.tdiv y * y))) := by
  have hf : keepIn (Mine.K w.params) (.ref 123) = true := by kernel_rfl
  exact (law_of_two_d (whole_rem_d x y tx ty y1 y2) hf).le (by decide)
theorem two_mod (ht : (t, instObj 308 dt) ∈ news) (hdt : (dt, dictOf es n) ∈ news) (x y : Int) (tx ty : Tok) (y1 : -4611686018427387904 < y) (y2 : y < 4611686018427387904) : DeedT w 418 [.ref 130, .ref t, .int x tx, .int y ty] news 14 (OutO (if y = 0 then none else some (if (x - x.tdiv y * y) * y < 0 then x - x.tdiv y * y + y else x - x.tdiv y * y))) := by
  have hf : keepIn (Mine.K w.params) (.ref 130) = true := by kernel_rfl
  rw [← modO_join]; exact (law_of_two_d (whole_modulo_d x y tx ty y1 y2) hf).le (by decide)
theorem two_i_pow (ht : (t, instObj 308 dt) ∈ news) (hdt : (dt, dictOf es n) ∈ news) (gl : getL (Str.ofString "low") es = some (some (.int lo il))) (gh : getL (Str.ofString "high") es = some (some (.int hi ih))) (x y : Int) (tx ty : Tok) (hlo : lo ≤ -2) (hhi : hi = -lo - 1) (hb : -1099511627776 ≤ lo) (h1 : lo ≤ x) (h2 : x ≤ hi) : DeedT w 418 [.ref 151, .ref t, .int x tx, .int y ty] news 14 (OutO (powO lo hi x y)) := by
  have hf : keepIn (Mine.K w.params) (.ref 151) = true := by kernel_rfl
  exact (law_of_two_d (whole_power_d ht hdt gl gh x y tx ty hlo hhi hb h1 h2) hf).le (by decide)
theorem two_m_add (ht : (t, instObj 308 dt) ∈ news) (hdt : (dt, dictOf es n) ∈ news) (gm : getL (Str.ofString "modulus") es = some (some (.int md im))) (hm : 0 < md) (x y : Int) (tx ty : Tok) : DeedT w 418 [.ref 179, .ref t, .int x tx, .int y ty] news 14 (OutO (some ((x + y).fmod md))) := by
  have hf : keepIn (Mine.K w.params) (.ref 179) = true := by kernel_rfl
  exact (law_of_two_d (sure (modular_add_d ht hdt gm (by omega) x y tx ty)) hf).le (by decide)
theorem two_m_sub (ht : (t, instObj 308 dt) ∈ news) (hdt : (dt, dictOf es n) ∈ news) (gm : getL (Str.ofString "modulus") es = some (some (.int md im))) (hm : 0 < md) (x y : Int) (tx ty : Tok) : DeedT w 418 [.ref 186, .ref t, .int x tx, .int y ty] news 14 (OutO (some ((x - y).fmod md))) := by
  have hf : keepIn (Mine.K w.params) (.ref 186) = true := by kernel_rfl
  exact (law_of_two_d (sure (modular_sub_d ht hdt gm (by omega) x y tx ty)) hf).le (by decide)
theorem two_m_mul (ht : (t, instObj 308 dt) ∈ news) (hdt : (dt, dictOf es n) ∈ news) (gm : getL (Str.ofString "modulus") es = some (some (.int md im))) (hm : 0 < md) (x y : Int) (tx ty : Tok) (y1 : -4611686018427387904 < y) (y2 : y < 4611686018427387904) : DeedT w 418 [.ref 193, .ref t, .int x tx, .int y ty] news 14 (OutO (some ((x * y).fmod md))) := by
  have hf : keepIn (Mine.K w.params) (.ref 193) = true := by kernel_rfl
  exact (law_of_two_d (sure (modular_mul_d ht hdt gm (by omega) x y tx ty y1 y2)) hf).le (by decide)
theorem two_m_div (ht : (t, instObj 308 dt) ∈ news) (hdt : (dt, dictOf es n) ∈ news) (gl : getL (Str.ofString "low") es = some (some (.int 0 il))) (gh : getL (Str.ofString "high") es = some (some (.int (md - 1) ih))) (x y : Int) (tx ty : Tok) (x0 : 0 ≤ x) (x1 : x < md) (y0 : 0 ≤ y) (y1 : -4611686018427387904 < y) (y2 : y < 4611686018427387904) : DeedT w 418 [.ref 116, .ref t, .int x tx, .int y ty] news 14 (OutO (if y = 0 then none else some ((x.tdiv y).fmod md))) := by
  have hf : keepIn (Mine.K w.params) (.ref 116) = true := by kernel_rfl
  rw [← divO_mod x0 x1 y0]; exact (law_of_two_d (whole_div_d ht hdt gl gh x y tx ty y1 y2) hf).le (by decide)
theorem two_m_pow (ht : (t, instObj 308 dt) ∈ news) (hdt : (dt, dictOf es n) ∈ news) (gm : getL (Str.ofString "modulus") es = some (some (.int md im))) (hm : 0 < md) (x y : Int) (tx ty : Tok) (hb : md < 4611686018427387904) (h1 : 0 ≤ x) (h2 : x < md) : DeedT w 418 [.ref 200, .ref t, .int x tx, .int y ty] news 14 (OutO (mpowO md x y)) := by
  have hf : keepIn (Mine.K w.params) (.ref 200) = true := by kernel_rfl
  exact (law_of_two_d (modular_power_d ht hdt gm x y tx ty hm hb h1 h2) hf).le (by decide)
theorem two_m_and (ht : (t, instObj 308 dt) ∈ news) (hdt : (dt, dictOf es n) ∈ news) (x y : Int) (tx ty : Tok) (x0 : 0 ≤ x) (x1 : x < md) (y0 : 0 ≤ y) (y1 : y < md) (hb : md ≤ 8589934592) : DeedT w 418 [.ref 214, .ref t, .int x tx, .int y ty] news 14 (OutO (some ((bitsI [0, 0, 1] x y).fmod md))) := by
  have hf : keepIn (Mine.K w.params) (.ref 214) = true := by kernel_rfl
  rw [← and_mod x0 x1 y0 y1 hb]; exact (law_of_two_d (sure (logic_and_d x y tx ty)) hf).le (by decide)
theorem two_m_or (ht : (t, instObj 308 dt) ∈ news) (hdt : (dt, dictOf es n) ∈ news) (gk : getL (Str.ofString "kind") es = some (some (.str (Str.ofString "mod") ik))) (gm : getL (Str.ofString "modulus") es = some (some (.int md im))) (hm : 0 < md) (x y : Int) (tx ty : Tok) (x0 : 0 ≤ x) (x1 : x < md) (y0 : 0 ≤ y) (y1 : y < md) (hb : md ≤ 8589934592) : DeedT w 418 [.ref 221, .ref t, .int x tx, .int y ty] news 14 (OutO (some ((bitsI [0, 1, 1] x y).fmod md))) := by
  have hf : keepIn (Mine.K w.params) (.ref 221) = true := by kernel_rfl
  rw [← or_mod x0 x1 y0 y1 hb _ rfl]; exact (law_of_two_d (sure (logic_or_d ht hdt gk gm (by omega) x y tx ty)) hf).le (by decide)
theorem two_m_xor (ht : (t, instObj 308 dt) ∈ news) (hdt : (dt, dictOf es n) ∈ news) (gk : getL (Str.ofString "kind") es = some (some (.str (Str.ofString "mod") ik))) (gm : getL (Str.ofString "modulus") es = some (some (.int md im))) (hm : 0 < md) (x y : Int) (tx ty : Tok) (x0 : 0 ≤ x) (x1 : x < md) (y0 : 0 ≤ y) (y1 : y < md) (hb : md ≤ 8589934592) : DeedT w 418 [.ref 228, .ref t, .int x tx, .int y ty] news 14 (OutO (some ((bitsI [0, 1, 0] x y).fmod md))) := by
  have hf : keepIn (Mine.K w.params) (.ref 228) = true := by kernel_rfl
  rw [← xor_mod x0 x1 y0 y1 hb _ rfl]; exact (law_of_two_d (sure (logic_xor_d ht hdt gk gm (by omega) x y tx ty)) hf).le (by decide)
theorem two_e_and (ht : (t, instObj 308 dt) ∈ news) (hdt : (dt, dictOf es n) ∈ news) (x y : Int) (tx ty : Tok) (x0 : 0 ≤ x) (x1 : x ≤ 1) (y0 : 0 ≤ y) (y1 : y ≤ 1) : DeedT w 418 [.ref 214, .ref t, .int x tx, .int y ty] news 14 (OutO (wi 0 1 (bitsI [0, 0, 1] x y))) := by
  have hf : keepIn (Mine.K w.params) (.ref 214) = true := by kernel_rfl
  rw [← and_enum x0 x1 y0 y1]; exact (law_of_two_d (sure (logic_and_d x y tx ty)) hf).le (by decide)
theorem two_e_or (ht : (t, instObj 308 dt) ∈ news) (hdt : (dt, dictOf es n) ∈ news) (gk : getL (Str.ofString "kind") es = some (some (.str (Str.ofString "enum") ik))) (x y : Int) (tx ty : Tok) (x0 : 0 ≤ x) (x1 : x ≤ 1) (y0 : 0 ≤ y) (y1 : y ≤ 1) : DeedT w 418 [.ref 221, .ref t, .int x tx, .int y ty] news 14 (OutO (wi 0 1 (bitsI [0, 1, 1] x y))) := by
  have hf : keepIn (Mine.K w.params) (.ref 221) = true := by kernel_rfl
  rw [← or_enum x0 x1 y0 y1]; exact (law_of_two_d (sure (logic_or_e ht hdt gk x y tx ty)) hf).le (by decide)
theorem two_e_xor (ht : (t, instObj 308 dt) ∈ news) (hdt : (dt, dictOf es n) ∈ news) (gk : getL (Str.ofString "kind") es = some (some (.str (Str.ofString "enum") ik))) (x y : Int) (tx ty : Tok) (x0 : 0 ≤ x) (x1 : x ≤ 1) (y0 : 0 ≤ y) (y1 : y ≤ 1) : DeedT w 418 [.ref 228, .ref t, .int x tx, .int y ty] news 14 (OutO (wi 0 1 (bitsI [0, 1, 0] x y))) := by
  have hf : keepIn (Mine.K w.params) (.ref 228) = true := by kernel_rfl
  rw [← xor_enum x0 x1 y0 y1]; exact (law_of_two_d (sure (logic_xor_e ht hdt gk x y tx ty)) hf).le (by decide)
theorem one_i_pos (ht : (t, instObj 308 dt) ∈ news) (hdt : (dt, dictOf es n) ∈ news) (x : Int) (tx : Tok) (h1 : lo ≤ x) (h2 : x ≤ hi) : DeedT w 425 [.ref 172, .ref t, .int x tx] news 14 (OutO (wi lo hi x)) := by
  have hf : keepIn (Mine.K w.params) (.ref 172) = true := by kernel_rfl
  rw [wi_in h1 h2]; exact (law_of_one_d (sure (same_number_d x tx)) hf).le (by decide)
theorem one_i_neg (ht : (t, instObj 308 dt) ∈ news) (hdt : (dt, dictOf es n) ∈ news) (gl : getL (Str.ofString "low") es = some (some (.int lo il))) (gh : getL (Str.ofString "high") es = some (some (.int hi ih))) (x : Int) (tx : Tok) : DeedT w 425 [.ref 158, .ref t, .int x tx] news 14 (OutO (wi lo hi (0 - x))) := by
  have hf : keepIn (Mine.K w.params) (.ref 158) = true := by kernel_rfl
  rw [← neg_int]; exact (law_of_one_d (whole_neg_d ht hdt gl gh x tx) hf).le (by decide)
theorem one_i_abs (ht : (t, instObj 308 dt) ∈ news) (hdt : (dt, dictOf es n) ∈ news) (gl : getL (Str.ofString "low") es = some (some (.int lo il))) (gh : getL (Str.ofString "high") es = some (some (.int hi ih))) (x : Int) (tx : Tok) : DeedT w 425 [.ref 165, .ref t, .int x tx] news 14 (OutO (wi lo hi (if 0 - x > x then 0 - x else x))) := by
  have hf : keepIn (Mine.K w.params) (.ref 165) = true := by kernel_rfl
  rw [← abs_int]; exact (law_of_one_d (whole_abs_d ht hdt gl gh x tx) hf).le (by decide)
theorem one_m_pos (ht : (t, instObj 308 dt) ∈ news) (hdt : (dt, dictOf es n) ∈ news) (x : Int) (tx : Tok) (h1 : 0 ≤ x) (h2 : x < md) : DeedT w 425 [.ref 172, .ref t, .int x tx] news 14 (OutO (some (x.fmod md))) := by
  have hf : keepIn (Mine.K w.params) (.ref 172) = true := by kernel_rfl
  rw [← same_mod h1 h2]; exact (law_of_one_d (sure (same_number_d x tx)) hf).le (by decide)
theorem one_m_neg (ht : (t, instObj 308 dt) ∈ news) (hdt : (dt, dictOf es n) ∈ news) (gm : getL (Str.ofString "modulus") es = some (some (.int md im))) (hm : 0 < md) (x : Int) (tx : Tok) : DeedT w 425 [.ref 207, .ref t, .int x tx] news 14 (OutO (some ((0 - x).fmod md))) := by
  have hf : keepIn (Mine.K w.params) (.ref 207) = true := by kernel_rfl
  rw [← neg_mod]; exact (law_of_one_d (sure (modular_neg_d ht hdt gm (by omega) x tx)) hf).le (by decide)
theorem one_m_abs (ht : (t, instObj 308 dt) ∈ news) (hdt : (dt, dictOf es n) ∈ news) (x : Int) (tx : Tok) (h1 : 0 ≤ x) (h2 : x < md) : DeedT w 425 [.ref 172, .ref t, .int x tx] news 14 (OutO (some ((if 0 - x > x then 0 - x else x).fmod md))) := by
  have hf : keepIn (Mine.K w.params) (.ref 172) = true := by kernel_rfl
  rw [← abs_mod h1 h2]; exact (law_of_one_d (sure (same_number_d x tx)) hf).le (by decide)
theorem one_not (ht : (t, instObj 308 dt) ∈ news) (hdt : (dt, dictOf es n) ∈ news) (gl : getL (Str.ofString "low") es = some (some (.int 0 il))) (gh : getL (Str.ofString "high") es = some (some (.int hi ih))) (x : Int) (tx : Tok) : DeedT w 425 [.ref 242, .ref t, .int x tx] news 14 (OutO (some (hi + 0 - x))) := by
  have hf : keepIn (Mine.K w.params) (.ref 242) = true := by kernel_rfl
  rw [← not_mod]; exact (law_of_one_d (sure (logic_not_d ht hdt gl gh x tx)) hf).le (by decide)
end
noncomputable def forBody : Stmt → List Stmt | .For _ _ b _ _ => b | _ => []
noncomputable def lawAt (i : Nat) : Stmt := match (fBody (stAt 60))[i]? with | some s => s | none => .Pass ⟨0, 0, 0, 0⟩
noncomputable def turnFrom (i : Nat) : List Stmt := (forBody (lawAt 1)).drop i
section
variable {prog : Program} {w : World} {A : Around} {E : Value → Shared → Prop} {s : Shared} {env : Env} {h₀ : Heap} {x : Str} {body : List Stmt} {Q : Flow → Shared → Prop}
/-- two cells ahead of a ledger -/
noncomputable def Cells2 (a1 a2 : Addr) (rest nx : List (Addr × Obj)) : Prop := ∃ o1 o2 v1 v2, nx = (a1, o1) :: (a2, o2) :: rest ∧ o1.data = .cell v1 ∧ o2.data = .cell v2
noncomputable def CellPost (h₀ : Heap) (L : Addr) (J : (Str → Option Value) → Prop) (a1 a2 : Addr) (rest own : List (Addr × Obj)) (s₁ : Shared) (Q : Flow → Shared → Prop) (f : Flow) (s₂ : Shared) : Prop :=
  InvPostN h₀ L (fun m' nx => Cells2 a1 a2 rest nx ∧ J m') own (a1 :: a2 :: rest.map (·.1)) s₁ Q f s₂
theorem cell_next {h' : Heap} {L : Addr} {J : (Str → Option Value) → Prop} {a1 a2 : Addr} {o1 o2 : Obj} {v1 v2 : Option Value} {rest own news' : List (Addr × Obj)} {s₁ : Shared} {m' : Str → Option Value} {tk : Nat}
    (F : Fr h₀ L h' m') (N : News h₀ L h' news') (h1 : (a1, o1) ∈ news') (h2 : (a2, o2) ∈ news') (d1 : o1.data = .cell v1) (d2 : o2.data = .cell v2) (hn : ∀ p ∈ rest, p ∈ news') (ho : ∀ p ∈ own, p ∈ news') (hj : J m') : CellPost h₀ L J a1 a2 rest own s₁ Q .next { s₁ with heap := h', toks := tk } :=
  ⟨h', tk, m', news', (a1, o1) :: (a2, o2) :: rest, rfl, F, N, (fun p hp => by
    rcases List.mem_cons.mp hp with rfl | hp
    · exact h1
    rcases List.mem_cons.mp hp with rfl | hp
    · exact h2
    · exact hn p hp), ho, rfl, ⟨o1, o2, v1, v2, rfl, d1, d2⟩, hj⟩
theorem range_cells {r : Addr} {a₀ b₀ c : Int} {t₀ u₀ v₀ : Tok} {n : Nat} {m₀ : Str → Option Value} {a1 a2 : Addr} {rest news : List (Addr × Obj)} (J : (Str → Option Value) → Prop)
    (hh : A.handled = none) (hr : IsRange s.heap r a₀ b₀ c t₀ u₀ v₀) (hsmall : Builtin.Range.small a₀ b₀ c = true) (hn : Builtin.Range.rangeSize a₀ b₀ c = (n : Int)) (F : Fr h₀ env.locals s.heap m₀) (N : News h₀ env.locals s.heap news) (hC : Cells2 a1 a2 rest news) (hj : J m₀)
    (turn : ∀ (i : Nat) t m₁ o1 o2 v1 v2 h tk own, i < n → OwnOff own (a1 :: a2 :: rest.map (·.1)) → J m₁ → o1.data = .cell v1 → o2.data = .cell v2 → Fr h₀ env.locals h (fun y => if y = x then some (.int (a₀ + i * c) t) else m₁ y) → News h₀ env.locals h ((a1, o1) :: (a2, o2) :: rest ++ own) →
      wpAny (model prog w) A (execs body env) (CellPost h₀ env.locals J a1 a2 rest own { s with heap := h, toks := tk } Q) E { s with heap := h, toks := tk })
    (done : ∀ m₁ nx h tk, Cells2 a1 a2 rest nx → J m₁ → Fr h₀ env.locals h m₁ → News h₀ env.locals h nx → Q .next { s with heap := h, toks := tk }) :
    wpAny (model prog w) A (pyIter (.ref r)) (fun it s₂ => LoopAtV prog w A h₀ env x body Q E it s₂) E s := by
  refine wpAny_pyIter_range hr hsmall ?_
  have hnew := next_is_new F
  obtain ⟨o1, o2, v1, v2, rfl, d1, d2⟩ := hC
  have W : Walks prog w A s.heap.objs.size [s.heap.objs.size] [s.heap.objs.size] n (fun i v => i < n ∧ ∃ t, v = .int (a₀ + i * c) t)
      (fun i h => IsRangeIter h s.heap.objs.size (a₀ + (i : Nat) * c) ((n : Int) - (i : Nat)) c) := (Walks.range hh _ a₀ c n).bound
  refine loop_invN (m₀ := m₀) (news := (a1, o1) :: (a2, o2) :: rest) (fun _ m nx => Cells2 a1 a2 rest nx ∧ J m) W ?_ ?_ ?_ ?_ (by show IsRangeIter _ _ _ _ _; rw [hn]; simpa using Heap.get?_push_size _ rfl) (F.push _) (fun p hp => ⟨Heap.get?_push_of_some _ (N p hp).1, (N p hp).2⟩) ⟨⟨o1, o2, v1, v2, rfl, d1, d2⟩, hj⟩ ?_ ?_
  · intro hm
    exact absurd F.ns.lt ((List.mem_singleton.mp hm) ▸ Nat.lt_irrefl _)
  · intro b hb
    rw [List.mem_singleton.mp hb]
    exact hnew
  · intro p hp hI
    exact absurd (Heap.lt_size (N p hp).1) ((List.mem_singleton.mp hI) ▸ Nat.lt_irrefl _)
  · intro p hp hI
    exact absurd (Heap.lt_size (N p hp).1) ((List.mem_singleton.mp hI) ▸ Nat.lt_irrefl _)
  · rintro i v m₁ _ h tk own hi ⟨_, t, rfl⟩ _ hoff ⟨⟨o1', o2', v1', v2', rfl, d1', d2'⟩, hJ⟩ F₁ N₁
    exact turn i t m₁ o1' o2' v1' v2' h tk own hi hoff hJ d1' d2' F₁ N₁
  · rintro m₁ nx h tk ⟨hC, hJ⟩ F₁ N₁
    exact done m₁ nx h tk hC hJ F₁ N₁
end
section
variable {prog : Program} {w : World} {A : Around} {E : Value → Shared → Prop} {s : Shared} {h₀ : Heap} {L d : Addr} {m : Str → Option Value} {news : List (Addr × Obj)} {Q : Value → Shared → Prop} {o : Obj} {kvs : List (Str × Value)}
theorem strs_of_keys : ∀ {vs : List Value} {kvs : List (Str × Value)}, vs.length = kvs.length → (∀ (j : Nat) (v : Value), vs[j]? = some v → ∃ k x, kvs[j]? = some (k, x) ∧ (PySem.strKind prog w).is k v = true) → StrsAre vs (kvs.map (·.1))
  | [], [], _, _ => .nil
  | v :: vs, (k, x) :: kvs, hl, h => by
    obtain ⟨k', x', e, hk⟩ := h 0 v rfl
    cases e
    have hv : ∃ t, v = .str k t := by
      cases v with
      | str y t =>
        have : y = k := by simpa [PySem.strKind, Value.isStrOf] using hk
        exact ⟨t, by rw [this]⟩
      | _ => simp [PySem.strKind, Value.isStrOf] at hk
    obtain ⟨t, rfl⟩ := hv
    exact .cons k t (strs_of_keys (by simpa using hl) fun j v hv => h (j + 1) v hv)
/-- sorted of a dict with str keys: the keys go into a new list, which is sorted -/
theorem sorted_keys (hh : A.handled = none) (F : Fr h₀ L s.heap m) (N : News h₀ L s.heap news) (hm : (d, o) ∈ news) (lo : (d == sysModules) = false) (hD : Obj.IsDictOf (PySem.strKind prog w) o kvs) (hn : kvs.length ≤ 1000)
    (h : ∀ (B : Addr) (h' : Heap) (tk : Nat) (vs : List Value), Fr h₀ L h' m → News h₀ L h' ((B, W.listOf vs.toArray 0) :: news) → (∀ q ∈ news, q.1 < B) → StrsAre vs (kvs.map (·.1)) →
      wpAny (model prog w) A.in1 (call (.builtin "list.sort") [.ref B]) (fun _ s' => Q (.ref B) s') E { s with heap := h', toks := tk }) :
    wpAny (model prog w) A (call (.builtin "sorted") [.ref d]) Q E s := by
  obtain ⟨ep, hat⟩ := (Heap.dictOf_iff.mpr ⟨o, (N _ hm).1, hD⟩ : s.heap.DictOf (PySem.strKind prog w) d kvs).dictAt
  refine kdu_sorted (kdl_dict (knd := PySem.strKind prog w) (kvs := kvs) (ep := ep) lo) hh F N hat (by rw [PySem.sizeLine_eq]; exact Nat.le_trans hn (Nat.le_of_ble_eq_true rfl)) fun B h' tk vs F' N' l1 hl hv => ?_
  exact h B h' tk vs F' N' l1 (strs_of_keys hl hv)
end
noncomputable def OpsD (w : World) (f : Addr) (vs : List Value) (news : List (Addr × Obj)) (k : Nat) (kvs : List (Str × Value)) : Prop :=
  ∀ (prog : Program) (p : Program) (loose : List Str) (mean : ExcName → Option Value) (mg mb : Str → Option Value) (dp un : Nat) (gd : Option (List Code)) (cn : Str) (cs : Scope) (a : Addr) (ccd : Value) (cl : List (Str × Addr)) (outer : List Env) (A₀ : Around) (base h₀ : Heap) (L : Addr) (m : Str → Option Value) (s : Shared) (Q E : Value → Shared → Prop),
    Below A₀ base outer h₀ → Fr h₀ L s.heap m → (Mine.K w.params).In h₀ → News h₀ L s.heap news → Top p loose mean mg mb h₀ → cs.kind = .function → dp + k < recursionLimit → un + 8 * k < cLine →
    (∀ (D : Addr) (o : Obj) (h' : Heap) (tk' : Nat), (D == sysModules) = false → Obj.IsDictOf (PySem.strKind prog w) o kvs → Fr h₀ L h' m → News h₀ L h' ((D, o) :: news) → (∀ p ∈ news, p.1 < D) → Q (.ref D) { s with heap := h', toks := tk' }) →
    wpAny (model prog w) (ktrTop dp un gd cn cs L a ccd cl outer) (call (.ref f) vs) Q E s
theorem OpsD.use {w : World} {f : Addr} {vs : List Value} {news : List (Addr × Obj)} {k : Nat} {kvs : List (Str × Value)} (D : OpsD w f vs news k kvs)
    {prog p : Program} {loose : List Str} {mean : ExcName → Option Value} {mg mb : Str → Option Value} {dp un : Nat} {gd : Option (List Code)} {cn : Str} {cs : Scope} {a : Addr} {ccd : Value} {cl : List (Str × Addr)} {outer : List Env} {A₀ : Around} {base h₀ : Heap} {L : Addr} {m : Str → Option Value} {s : Shared} {Q E : Value → Shared → Prop}
    (B : Below A₀ base outer h₀) (F : Fr h₀ L s.heap m) (X : (Mine.K w.params).In h₀) (N : News h₀ L s.heap news) (T : Top p loose mean mg mb h₀) (hk : cs.kind = .function) (hd : dp + k < recursionLimit) (hu : un + 8 * k < cLine)
    (ret : ∀ (D : Addr) (o : Obj) (h' : Heap) (tk' : Nat), (D == sysModules) = false → Obj.IsDictOf (PySem.strKind prog w) o kvs → Fr h₀ L h' m → News h₀ L h' ((D, o) :: news) → (∀ p ∈ news, p.1 < D) → Q (.ref D) { s with heap := h', toks := tk' }) :
    wpAny (model prog w) (ktrTop dp un gd cn cs L a ccd cl outer) (call (.ref f) vs) Q E s := D _ _ _ _ _ _ _ _ _ _ _ _ _ _ _ _ _ _ _ _ _ _ _ B F X N T hk hd hu ret
section
variable {w : World} {news : List (Addr × Obj)} {t dt : Addr} {es : List DictEntry} {n : Nat} {lo hi md : Int} {ik il ih im : Tok}
theorem ops_284_int (ht : (t, instObj 308 dt) ∈ news) (hdt : (dt, dictOf es n) ∈ news) (gk : getL (Str.ofString "kind") es = some (some (.str (Str.ofString "int") ik))) : OpsD w 284 [.ref t] news 5 [(Str.ofString "+", .ref 88), (Str.ofString "-", .ref 95), (Str.ofString "*", .ref 102), (Str.ofString "/", .ref 116), (Str.ofString "mod", .ref 130), (Str.ofString "rem", .ref 123), (Str.ofString "**", .ref 151)] := by
  intro prog p loose mean mg mb dp un gd cn cs a ccd cl outer A₀ base h₀ L m s Q E B F X N T hk hd hu ret
  refine wpAny_call ?_
  k_dflt cell_enter
  k_steps
  all_goals (refine' ret _ _ _ _ ?ea ?eb ?ef ?en ?el; (case ef => k_asm); (case en => k_asm); (case ea => assumption); (case eb => assumption); (case el => assumption))
theorem ops_291_int (ht : (t, instObj 308 dt) ∈ news) (hdt : (dt, dictOf es n) ∈ news) (gk : getL (Str.ofString "kind") es = some (some (.str (Str.ofString "int") ik))) : OpsD w 291 [.ref t] news 5 [(Str.ofString "+", .ref 172), (Str.ofString "-", .ref 158), (Str.ofString "abs", .ref 165)] := by
  intro prog p loose mean mg mb dp un gd cn cs a ccd cl outer A₀ base h₀ L m s Q E B F X N T hk hd hu ret
  refine wpAny_call ?_
  k_dflt cell_enter
  k_steps
  all_goals (refine' ret _ _ _ _ ?ea ?eb ?ef ?en ?el; (case ef => k_asm); (case en => k_asm); (case ea => assumption); (case eb => assumption); (case el => assumption))
theorem ops_284_mod (ht : (t, instObj 308 dt) ∈ news) (hdt : (dt, dictOf es n) ∈ news) (gk : getL (Str.ofString "kind") es = some (some (.str (Str.ofString "mod") ik))) : OpsD w 284 [.ref t] news 5 [(Str.ofString "+", .ref 179), (Str.ofString "-", .ref 186), (Str.ofString "*", .ref 193), (Str.ofString "/", .ref 116), (Str.ofString "mod", .ref 130), (Str.ofString "rem", .ref 123), (Str.ofString "**", .ref 200), (Str.ofString "and", .ref 214), (Str.ofString "or", .ref 221), (Str.ofString "xor", .ref 228)] := by
  intro prog p loose mean mg mb dp un gd cn cs a ccd cl outer A₀ base h₀ L m s Q E B F X N T hk hd hu ret
  refine wpAny_call ?_
  k_dflt cell_enter
  k_steps
  all_goals (refine' ret _ _ _ _ ?ea ?eb ?ef ?en ?el; (case ef => k_asm); (case en => k_asm); (case ea => assumption); (case eb => assumption); (case el => assumption))
theorem ops_291_mod (ht : (t, instObj 308 dt) ∈ news) (hdt : (dt, dictOf es n) ∈ news) (gk : getL (Str.ofString "kind") es = some (some (.str (Str.ofString "mod") ik))) : OpsD w 291 [.ref t] news 5 [(Str.ofString "+", .ref 172), (Str.ofString "-", .ref 207), (Str.ofString "abs", .ref 172), (Str.ofString "not", .ref 242)] := by
  intro prog p loose mean mg mb dp un gd cn cs a ccd cl outer A₀ base h₀ L m s Q E B F X N T hk hd hu ret
  refine wpAny_call ?_
  k_dflt cell_enter
  k_steps
  all_goals (refine' ret _ _ _ _ ?ea ?eb ?ef ?en ?el; (case ef => k_asm); (case en => k_asm); (case ea => assumption); (case eb => assumption); (case el => assumption))
theorem ops_284_enum (ht : (t, instObj 308 dt) ∈ news) (hdt : (dt, dictOf es n) ∈ news) (gk : getL (Str.ofString "kind") es = some (some (.str (Str.ofString "enum") ik))) : OpsD w 284 [.ref t] news 5 [(Str.ofString "and", .ref 214), (Str.ofString "or", .ref 221), (Str.ofString "xor", .ref 228)] := by
  intro prog p loose mean mg mb dp un gd cn cs a ccd cl outer A₀ base h₀ L m s Q E B F X N T hk hd hu ret
  refine wpAny_call ?_
  k_dflt cell_enter
  k_steps
  all_goals (refine' ret _ _ _ _ ?ea ?eb ?ef ?en ?el; (case ef => k_asm); (case en => k_asm); (case ea => assumption); (case eb => assumption); (case el => assumption))
theorem ops_291_enum (ht : (t, instObj 308 dt) ∈ news) (hdt : (dt, dictOf es n) ∈ news) (gk : getL (Str.ofString "kind") es = some (some (.str (Str.ofString "enum") ik))) : OpsD w 291 [.ref t] news 5 [(Str.ofString "not", .ref 242)] := by
  intro prog p loose mean mg mb dp un gd cn cs a ccd cl outer A₀ base h₀ L m s Q E B F X N T hk hd hu ret
  refine wpAny_call ?_
  k_dflt cell_enter
  k_steps
  all_goals (refine' ret _ _ _ _ ?ea ?eb ?ef ?en ?el; (case ef => k_asm); (case en => k_asm); (case ea => assumption); (case eb => assumption); (case el => assumption))
end
theorem swap2 {h₀ h : Heap} {L : Addr} {a b x y : Addr × Obj} {r : List (Addr × Obj)} (N : News h₀ L h (a :: b :: x :: y :: r)) : News h₀ L h (x :: y :: a :: b :: r) := fun p hp => N p (by
  rcases List.mem_cons.mp hp with rfl | hp
  · exact .tail _ (.tail _ (.head _))
  rcases List.mem_cons.mp hp with rfl | hp
  · exact .tail _ (.tail _ (.tail _ (.head _)))
  rcases List.mem_cons.mp hp with rfl | hp
  · exact .head _
  rcases List.mem_cons.mp hp with rfl | hp
  · exact .tail _ (.head _)
  · exact .tail _ (.tail _ (.tail _ (.tail _ hp))))
theorem ne_cell {h₀ h : Heap} {L c : Addr} {o : Obj} {v : Option Value} {p : Addr × Obj} {nw : List (Addr × Obj)} (N : News h₀ L h nw) (hp : p ∈ nw) (hc : (c, o) ∈ nw) (hd : o.data = .cell v) (hn : p.2.data ≠ .cell v) : p.1 ≠ c := fun e => by
  have h1 := (N p hp).1
  have h2 := (N _ hc).1
  rw [e] at h1
  rw [h1] at h2
  have h3 := Option.some.inj h2
  exact hn (by rw [h3]; exact hd)
/-- the ledger of a turn: the two cells, then what is apart from them -/
structure Led (h₀ h : Heap) (L c1 c2 : Addr) (x y : Option Value) (news : List (Addr × Obj)) : Prop where
  led : ∃ o1 o2, News h₀ L h ((c2, o2) :: (c1, o1) :: news) ∧ o1.data = .cell x ∧ o2.data = .cell y
  ne1 : ∀ p ∈ news, p.1 ≠ c1
  ne2 : ∀ p ∈ news, p.1 ≠ c2
theorem apart2 {h₀ h : Heap} {L c1 c2 t d : Addr} {o1 o2 : Obj} {x y : Option Value} {es : List DictEntry} {n : Nat} {news : List (Addr × Obj)} (N : News h₀ L h ((c2, o2) :: (c1, o1) :: (t, instObj 308 d) :: (d, dictOf es n) :: news)) (h1 : o1.data = .cell x) (h2 : o2.data = .cell y)
    (n1 : ∀ p ∈ news, p.1 ≠ c1) (n2 : ∀ p ∈ news, p.1 ≠ c2) : (∀ p ∈ ((t, instObj 308 d) :: (d, dictOf es n) :: news), p.1 ≠ c1) ∧ ∀ p ∈ ((t, instObj 308 d) :: (d, dictOf es n) :: news), p.1 ≠ c2 := by
  constructor
  · intro p hp
    rcases List.mem_cons.mp hp with rfl | hp
    · exact ne_cell N (.tail _ (.tail _ (.head _))) (.tail _ (.head _)) h1 (fun q => by cases q)
    rcases List.mem_cons.mp hp with rfl | hp
    · exact ne_cell N (.tail _ (.tail _ (.tail _ (.head _)))) (.tail _ (.head _)) h1 (fun q => by cases q)
    · exact n1 p hp
  · intro p hp
    rcases List.mem_cons.mp hp with rfl | hp
    · exact ne_cell N (.tail _ (.tail _ (.head _))) (.head _) h2 (fun q => by cases q)
    rcases List.mem_cons.mp hp with rfl | hp
    · exact ne_cell N (.tail _ (.tail _ (.tail _ (.head _)))) (.head _) h2 (fun q => by cases q)
    · exact n2 p hp
section
open PyProof.V
theorem st_sameAll : ∀ ns : List Str, PySem.Spec.sameAll (ns.map PyData.str) (ns.map PyData.str) = true
  | [] => by simp [PySem.Spec.sameAll]
  | a :: r => by simp [PySem.Spec.sameAll, PySem.Spec.same, st_sameAll r]
theorem st_carried : ∀ {vs : List Value} {ns : List Str}, StrsAre vs ns → CarriedAll vs (ns.map PyData.str)
  | _, _, .nil => .nil
  | _, _, .cons _ t r => .cons (.str _ t) (st_carried r)
section
variable {prog : Program} {w : World} {A : Around} {E : Value → Shared → Prop} {s : Shared} {a b : Addr} {xs ys : List Value} {ss : List Str} {Q : Value → Shared → Prop}
theorem ne_strs (ha : s.heap.IsList a xs.toArray) (hb : s.heap.IsList b ys.toArray) (hi : StrsAre xs ss) (hj : StrsAre ys ss) (hsh : SeqAt.shaped (.list (ss.map PyData.str)) = true) (hu : A.units + 64 < cLine) (h : Q (.bool false) s) :
    wpAny (model prog w) A (compareOp .NotEq (.ref a) (.ref b)) Q E s :=
  ne_dataH_same (reads_newData ha (st_carried hi)) (reads_newData hb (st_carried hj)) hsh hsh hu (SeqAt.noMix_of_shape (.list .str) rfl _ _ (list_map_has fun _ => rfl) (list_map_has fun _ => rfl)) (by simp only [PySem.Spec.same, st_sameAll]; exact h)
end
end
noncomputable abbrev notBelow (a b : Str) : Prop := ¬ b.cps.toList < a.cps.toList
theorem lt_le {a b c : List Nat} (h : a < b) (h2 : ¬ c < b) : a < c := by
  by_cases q : a < c
  · exact q
  · exact absurd h (List.not_lt.mpr (List.le_trans (List.not_lt.mp h2) (List.not_lt.mp q)))
theorem rising_pw : ∀ (l : List Str) (p : Str), risingS p l = true → (p :: l).Pairwise notBelow
  | [], p, _ => .cons (fun _ h => by cases h) .nil
  | x :: r, p, h => by
    have h' : (!ltCps x.cps.toList p.cps.toList && risingS x r) = true := h
    rw [Bool.and_eq_true, ltCps_eq] at h'
    have hx : notBelow p x := by simpa using h'.1
    have ih := rising_pw r x h'.2
    refine .cons (fun y hy => ?_) ih
    rcases List.mem_cons.mp hy with rfl | hy
    · exact hx
    · exact fun q => (List.pairwise_cons.mp ih).1 y hy (lt_le q hx)
theorem sorted_pw : ∀ {l : List Str}, sortedS l = true → l.Pairwise notBelow
  | [], _ => .nil
  | x :: r, h => rising_pw r x h
theorem str_anti {a b : Str} (h1 : notBelow a b) (h2 : notBelow b a) : a = b := by
  have h := List.le_antisymm (List.not_lt.mp h1) (List.not_lt.mp h2)
  cases a; cases b
  simpa using h
theorem perm_one : ∀ {a b : List Str}, a.Perm b → a.Pairwise notBelow → b.Pairwise notBelow → a = b
  | [], _, p, _, _ => p.nil_eq
  | x :: r, [], p, _, _ => absurd p.length_eq (by simp)
  | x :: r, y :: t, p, ha, hb => by
    have e : x = y := by
      rcases List.mem_cons.mp (p.mem_iff.mp (.head _)) with h | h
      · exact h
      · rcases List.mem_cons.mp (p.mem_iff.mpr (.head _)) with h' | h'
        · exact h'.symm
        · exact str_anti ((List.pairwise_cons.mp ha).1 y h') ((List.pairwise_cons.mp hb).1 x h)
    subst e
    rw [perm_one (List.Perm.cons_inv p) (List.pairwise_cons.mp ha).2 (List.pairwise_cons.mp hb).2]
section
variable {prog : Program} {w : World} {A : Around} {E : Value → Shared → Prop} {s : Shared} {h₀ : Heap} {L D d : Addr} {m : Str → Option Value} {news : List (Addr × Obj)} {Q : Value → Shared → Prop} {o : Obj} {kvs : List (Str × Value)} {qs : List Str}
theorem lsort_strs {vs : List Value} {ss : List Str} {n : Nat} (F : Fr h₀ L s.heap m) (N : News h₀ L s.heap ((D, W.listOf vs.toArray n) :: news)) (hb : ∀ p ∈ news, p.1 < D) (hS : StrsAre vs ss) (h64 : vs.length < 64)
    (h : ∀ (h' : Heap) (out : List Value) (ss' : List Str) (n' : Nat), Fr h₀ L h' m → News h₀ L h' ((D, W.listOf out.toArray n') :: news) → StrsAre out ss' → ss'.Perm ss → sortedS ss' = true → Q .none { s with heap := h' }) :
    wpAny (model prog w) A (call (.builtin "list.sort") [.ref D]) Q E s := by
  have z := N _ (.head _)
  have b : ∀ p ∈ news, p.1 ≠ D := fun p hp => Nat.ne_of_lt (hb p hp)
  have c : ∀ p ∈ ([] : List (Addr × Obj)), p.1 ≠ D := fun _ hp => by cases hp
  refine wpAny_call_entry slot_list_sort ⟨_, z.1, rfl⟩ entry_list_sort (list_sort_treeK (n := n) (vs := vs) strKind_oneLt z.1 hS.keysOf (fun v₁ v₂ rest e => keyKind_strs (by rw [← e]; exact hS)) h64 fun st' hp hs => ⟨.none, rfl, ?_⟩) (args_list_sort _)
  obtain ⟨ss', h1, h2, h3⟩ := sorted_out_str hS hp hs
  generalize (arrOf st').map (·.2) = arr at h1 ⊢
  obtain ⟨out⟩ := arr
  have F1 : Fr h₀ L (s.heap.update D (Obj.mapSeq fun _ => (#[] : Array Value))) m := F.change (Heap.SameBut.update ..) z.2.1 z.2.2
  have N1 := ki_turn (pre := []) (fun _ => (#[] : Array Value)) N c b rfl rfl
  have N2 := News.grown N1 fun _ _ e => Heap.get?_push_of_some (seqObj "tuple" vs.toArray 0) e
  have N3 := News.grown N2 fun _ _ e => Heap.get?_push_of_some (seqObj "list" #[] 0) e
  have N4 := ki_turn (pre := []) (fun _ => out.toArray) N3 c b rfl rfl
  have F4 : Fr h₀ L ((((s.heap.update D (Obj.mapSeq fun _ => (#[] : Array Value))).push (seqObj "tuple" vs.toArray 0)).push (seqObj "list" #[] 0)).update D (Obj.mapSeq fun _ => out.toArray)) m :=
    ((F1.push (seqObj "tuple" vs.toArray 0)).push (seqObj "list" #[] 0)).change (Heap.SameBut.update ..) z.2.1 z.2.2
  exact h _ out ss' _ F4 N4 h1 h2 h3
/-- sorted of a dict with str keys, the order known -/
theorem sorted_dict (hh : A.handled = none) (F : Fr h₀ L s.heap m) (N : News h₀ L s.heap news) (hm : (d, o) ∈ news) (lo : (d == sysModules) = false) (hD : Obj.IsDictOf (PySem.strKind prog w) o kvs) (hn : kvs.length < 64)
    (hq : ((kvs.map (·.1)).isPerm qs && sortedS qs) = true)
    (h : ∀ (B : Addr) (h' : Heap) (tk : Nat) (vs : List Value) (n' : Nat), Fr h₀ L h' m → News h₀ L h' ((B, W.listOf vs.toArray n') :: news) → (∀ q ∈ news, q.1 < B) → StrsAre vs qs → Q (.ref B) { s with heap := h', toks := tk }) :
    wpAny (model prog w) A (call (.builtin "sorted") [.ref d]) Q E s := by
  refine sorted_keys hh F N hm lo hD (by omega) fun B h' tk vs F' N' l1 hv => ?_
  rw [Bool.and_eq_true] at hq
  refine lsort_strs (s := { s with heap := h', toks := tk }) F' N' l1 hv (by rw [hv.length, List.length_map]; exact hn) fun h2 out ss' n' F2 N2 hS hp hs => ?_
  have e : ss' = qs := perm_one (hp.trans (List.isPerm_iff.mp hq.1)) (sorted_pw hs) (sorted_pw hq.2)
  subst e
  exact h B h2 tk out n' F2 N2 l1 hS
end
noncomputable def TurnEnd (h₀ : Heap) (L c1 c2 sl : Addr) (rest : List (Addr × Obj)) (s : Shared) (Q : Flow → Shared → Prop) : Prop :=
  ∀ (h' : Heap) (tk' : Nat) (m' : Str → Option Value) (news' : List (Addr × Obj)) (o1' o2' : Obj) (v1 v2 : Option Value), Fr h₀ L h' m' → News h₀ L h' news' → (c1, o1') ∈ news' → (c2, o2') ∈ news' → o1'.data = .cell v1 → o2'.data = .cell v2 → (∀ p ∈ rest, p ∈ news') → m' (Str.ofString "s") = some (.ref sl) → Q .next { s with heap := h', toks := tk' }
theorem fr_at6 {h₀ h : Heap} {L : Addr} {m : Str → Option Value} {x1 x2 x3 x4 x5 x6 : Str} {v1 v2 v3 v4 v5 v6 : Value} (F : Fr h₀ L h m) (e1 : m x1 = some v1) (e2 : m x2 = some v2) (e3 : m x3 = some v3) (e4 : m x4 = some v4) (e5 : m x5 = some v5) (e6 : m x6 = some v6) :
    Fr h₀ L h (fun z => if z = x1 then some v1 else if z = x2 then some v2 else if z = x3 then some v3 else if z = x4 then some v4 else if z = x5 then some v5 else if z = x6 then some v6 else m z) :=
  fr_map F (by funext z; (repeat' split) <;> simp_all)
theorem fr_at1 {h₀ h : Heap} {L : Addr} {m : Str → Option Value} {x1 : Str} {v1 : Value} (F : Fr h₀ L h m) (e1 : m x1 = some v1) : Fr h₀ L h (fun z => if z = x1 then some v1 else m z) :=
  fr_map F (by funext z; (repeat' split) <;> simp_all)
theorem tail_in {a : Type} {x : a} {l r : List a} (h : ∀ p ∈ l, p ∈ r) : ∀ p ∈ l, p ∈ x :: r := fun p hp => .tail _ (h p hp)
section
variable {prog : Program} {w : World} {A : Around} {E : Value → Shared → Prop} {s : Shared} {env : Env} {h₀ : Heap} {x : Str} {body : List Stmt} {Q : Flow → Shared → Prop}
theorem ne_out {o1 o2 : Option Int} {r1 r2 : Value} {R : Value → Shared → Prop} (h1 : OutO o1 r1) (h2 : OutO o2 r2) (e : o1 = o2) (h : R (.bool false) s) : wpAny (model prog w) A (compareOp .NotEq r1 r2) R E s := by
  subst e
  cases h1 with
  | none => cases h2; exact SeqAt.RcNeAt.none_none prog w E R h
  | some v tk => cases h2; exact ne_int (by rw [bne_self_eq_false]; exact h)
noncomputable def WordPost (h₀ : Heap) (L : Addr) (J : (Str → Option Value) → Prop) (news own : List (Addr × Obj)) (s₁ : Shared) (Q : Flow → Shared → Prop) (f : Flow) (s₂ : Shared) : Prop :=
  InvPostN h₀ L (fun m' nx => nx = news ∧ J m') own (news.map (·.1)) s₁ Q f s₂
theorem word_next {h' : Heap} {L : Addr} {J : (Str → Option Value) → Prop} {news own news' : List (Addr × Obj)} {s₁ : Shared} {m' : Str → Option Value} {tk : Nat}
    (F : Fr h₀ L h' m') (N : News h₀ L h' news') (hn : ∀ p ∈ news, p ∈ news') (ho : ∀ p ∈ own, p ∈ news') (hj : J m') : WordPost h₀ L J news own s₁ Q .next { s₁ with heap := h', toks := tk } :=
  ⟨h', tk, m', news', news, rfl, F, N, hn, ho, rfl, rfl, hj⟩
theorem list_words {l : Addr} {vs : List Value} {m₀ : Str → Option Value} {news : List (Addr × Obj)} (J : (Str → Option Value) → Prop)
    (hh : A.handled = none) (hl : h₀.IsList l vs.toArray) (F : Fr h₀ env.locals s.heap m₀) (N : News h₀ env.locals s.heap news) (hj : J m₀)
    (turn : ∀ (i : Nat) v m₁ h tk own, vs[i]? = some v → OwnOff own (news.map (·.1)) → J m₁ → Fr h₀ env.locals h (fun y => if y = x then some v else m₁ y) → News h₀ env.locals h (news ++ own) →
      wpAny (model prog w) A (execs body env) (WordPost h₀ env.locals J news own { s with heap := h, toks := tk } Q) E { s with heap := h, toks := tk })
    (done : ∀ m₁ h tk, J m₁ → Fr h₀ env.locals h m₁ → News h₀ env.locals h news → Q .next { s with heap := h, toks := tk }) :
    wpAny (model prog w) A (pyIter (.ref l)) (fun it s₂ => LoopAtV prog w A h₀ env x body Q E it s₂) E s := by
  have hls : s.heap.IsList l vs.toArray := hl.at fun o e => F.keep l o e
  obtain ⟨ol, hol, _⟩ := id hl
  have hlt : l < h₀.objs.size := Heap.lt_size hol
  have hne : l ≠ s.heap.objs.size := Nat.ne_of_lt (Nat.lt_trans (Nat.lt_of_lt_of_le hlt F.above) F.ns.lt)
  refine wpAny_pyIter_list hls ?_
  have W := Walks.list (prog := prog) (w := w) hh s.heap.objs.size l hne vs.toArray
  refine loop_invN (m₀ := m₀) (news := news) (fun _ m nx => nx = news ∧ J m) W ?_ ?_ ?_ ?_ ⟨⟨_, Heap.get?_push_size _ rfl, rfl, rfl⟩, hls.at fun o e => Heap.get?_push_of_some _ e⟩ (F.push _) (fun p hp => ⟨Heap.get?_push_of_some _ (N p hp).1, (N p hp).2⟩) ⟨rfl, hj⟩ ?_ ?_
  · intro hm
    rcases List.mem_cons.mp hm with e | hm
    · exact absurd F.ns.lt (e ▸ Nat.lt_irrefl _)
    · exact absurd (Nat.lt_of_lt_of_le hlt F.above) ((List.mem_singleton.mp hm) ▸ Nat.lt_irrefl _)
  · intro b hb
    rw [List.mem_singleton.mp hb]
    exact next_is_new F
  · intro p hp hI
    exact absurd (Heap.lt_size (N p hp).1) ((List.mem_singleton.mp hI) ▸ Nat.lt_irrefl _)
  · intro q hq hm
    rcases List.mem_cons.mp hm with e | hm
    · exact absurd (Heap.lt_size (N q hq).1) (e ▸ Nat.lt_irrefl _)
    · have h3 := (N q hq).2.2
      rw [List.mem_singleton.mp hm, hol] at h3
      cases h3
  · rintro i v m₁ _ h tk own hi hP _ hoff ⟨rfl, hJ⟩ F₁ N₁
    exact turn i v m₁ h tk own (by simpa using hP) hoff hJ F₁ N₁
  · rintro m₁ nx h tk ⟨rfl, hJ⟩ F₁ N₁
    exact done m₁ h tk hJ F₁ N₁
end
theorem pick_any {prog : Program} {w : World} {A : Around} {E : Value → Shared → Prop} {s : Shared} {value slice : PySem.Expr} {l : Addr} {vs : List Value} {k : Int} {u : Tok} {Q : Value → Shared → Prop} (hl : s.heap.IsList l vs.toArray)
    (h0 : 0 ≤ k) (h1 : k < vs.length) (hfit : k < 2 ^ 63) (h : ∀ (i : Nat) v, vs[i]? = some v → Q v s)
    (hs : subscripted slice false (.ref l) (.int k u) = operate [.ref l, .int k u] (getItem (.ref l) (.int k u)) := by with_unfolding_all rfl) :
    wpAny (model prog w) A (subscriptTail value slice (.ref l) (.int k u)) Q E s := by
  have hlt : k.toNat < vs.length := by omega
  have hx : vs[k.toNat]? = some vs[k.toNat] := List.getElem?_eq_getElem hlt
  exact tail_any hl.typeIs slot_list_getitem.lookup (wpAny_getItem_list hl h0 hfit (x := vs[k.toNat]) (by simpa using hx) (h _ _ hx)) hs
theorem len_dict {prog : Program} {w : World} {A : Around} {E : Value → Shared → Prop} {s : Shared} {h₀ : Heap} {L d : Addr} {news : List (Addr × Obj)} {o : Obj} {kvs : List (Str × Value)} {n : Int} {Q : Value → Shared → Prop} (N : News h₀ L s.heap news) (hp : (d, o) ∈ news) (hd : o.IsDictOf (PySem.strKind prog w) kvs) (lo : (d == sysModules) = false) (hn : (kvs.length : Int) = n) (hfit : kvs.length ≤ 16777216) (h : Q (.int n (s.toks + 1)) { s with toks := s.toks + 1 + 1 }) :
    wpAny (model prog w) A (call (.builtin "len") [.ref d]) Q E s := by
  subst hn
  exact kda_len N hp hd lo hfit h
theorem len_few {prog : Program} {w : World} {A : Around} {E : Value → Shared → Prop} {s : Shared} {l : Addr} {vs : List Value} {ns : List Int} {Q : Value → Shared → Prop} (hl : s.heap.IsList l vs.toArray) (hi : IntsAre vs ns) (hb : ns.length ≤ 63)
    (h : Q (.int ns.length (s.toks + 1)) { s with toks := s.toks + 1 + 1 }) : wpAny (model prog w) A (call (.builtin "len") [.ref l]) Q E s :=
  PyProof.Rows.len_list hl (by rw [List.size_toArray, hi.length]; omega) (by rw [List.size_toArray, hi.length]; exact h)
theorem news_tb {h₀ h : Heap} {L : Addr} {a b l q x2 x1 : Addr × Obj} {r : List (Addr × Obj)} (N : News h₀ L h (a :: b :: l :: q :: x2 :: x1 :: r)) : News h₀ L h (x2 :: x1 :: q :: l :: r) := fun p hp => N p (by
  rcases List.mem_cons.mp hp with rfl | hp
  · exact .tail _ (.tail _ (.tail _ (.tail _ (.head _))))
  rcases List.mem_cons.mp hp with rfl | hp
  · exact .tail _ (.tail _ (.tail _ (.tail _ (.tail _ (.head _)))))
  rcases List.mem_cons.mp hp with rfl | hp
  · exact .tail _ (.tail _ (.tail _ (.head _)))
  rcases List.mem_cons.mp hp with rfl | hp
  · exact .tail _ (.tail _ (.head _))
  · exact .tail _ (.tail _ (.tail _ (.tail _ (.tail _ (.tail _ hp))))))
theorem cons_ne {c d : Addr} {o : Obj} {r : List (Addr × Obj)} (h1 : c ≠ d) (h2 : ∀ p ∈ r, p.1 ≠ d) : ∀ p ∈ (c, o) :: r, p.1 ≠ d := fun p hp => by
  rcases List.mem_cons.mp hp with rfl | hp
  · exact h1
  · exact h2 p hp
theorem base_list {K : Frag} {h₀ : Heap} {a : Addr} {od : Option Addr} {items : Array Value} {n : Nat} {sl : Array (Option Value)} (X : K.In h₀) (ho : K.lookup a = some ⟨.type "list", od, .seq items n, sl⟩) : h₀.IsList a items := ⟨_, X _ _ ho, rfl, n, rfl⟩
noncomputable def wordBody : List Stmt := match turnFrom 10 with | s :: _ => forBody s | [] => []
local macro_rules | `(tactic| k_mem) => `(tactic| (repeat (first | exact List.Mem.head _ | assumption | apply List.Mem.tail)))
theorem news_d2 {h₀ h : Heap} {L : Addr} {a b : Addr × Obj} {r : List (Addr × Obj)} (N : News h₀ L h (a :: b :: r)) : News h₀ L h (a :: r) := fun p hp => N p (by
  rcases List.mem_cons.mp hp with rfl | hp
  · exact .head _
  · exact .tail _ (.tail _ hp))
theorem news_r3 {h₀ h : Heap} {L : Addr} {a b c : Addr × Obj} {r : List (Addr × Obj)} (N : News h₀ L h (a :: b :: c :: r)) : News h₀ L h (b :: c :: a :: r) := fun p hp => N p (by
  rcases List.mem_cons.mp hp with rfl | hp
  · exact .tail _ (.head _)
  rcases List.mem_cons.mp hp with rfl | hp
  · exact .tail _ (.tail _ (.head _))
  rcases List.mem_cons.mp hp with rfl | hp
  · exact .head _
  · exact .tail _ (.tail _ (.tail _ hp)))
noncomputable def cmpL : List Stmt → PySem.Expr | .If (.Compare l _ _ _) _ _ _ :: _ => l | _ => .Name ⟨#[]⟩ ⟨0, 0, 0, 0⟩
noncomputable def cmpR : List Stmt → PySem.Expr | .If (.Compare _ _ (r :: _) _) _ _ _ :: _ => r | _ => .Name ⟨#[]⟩ ⟨0, 0, 0, 0⟩
section
local macro_rules | `(tactic| walk_at "call ref") => `(tactic| (k_here; (with_reducible show wpAny _ _ (call (Value.ref 249) _) _ _ _); k_dflt (refine' Deed.use (holds_between_d _ _ _ _ _ _) ?kB ?kF ?kX ?kN ?kT ?kK ?kd ?ku ?_ ?ke; walk_at "solve"; (case ke => exact fun h9 => h9.elim); intro r9 h9 tk9 P9 F9 N9; (try k_sweep); (obtain ⟨tk8⟩ := P9))))
local macro_rules | `(tactic| walk_at "eval ListComp") => `(tactic| (k_here; k_dflt (refine LCg.ListComp_U (F₀ := by k_asm) (by with_unfolding_all rfl) (by decide) (by rfl) (by decide) (by rfl) ?_)))
local macro_rules | `(tactic| walk_at "CompEnd") => `(tactic| (k_dflt (refine' LCg.CompEnd.intro ?wqF ?wqN _ (fun p hp => hp) ?wqo ?wqs ?_; (case wqF => k_asm); (case wqN => assumption); (case wqo => assumption); (case wqs => lcg_src); k_whole)))
theorem comp_1 {w : World} : (fun (e : PySem.Expr) (_ : cmpL (turnFrom 11) = e) (sc : Scope) (_ : fScope (stAt 60) = sc) =>
  ∀ (fa : Addr) (fcd : Value) (prog : Program) (p : Program) (loose : List Str) (mean : ExcName → Option Value) (mg mb : Str → Option Value) (dp un : Nat) (gd : Option (List Code)) (A₀ : Around) (h₀ : Heap) (L c1 c2 : Addr) (o1 o2 : Obj) (m : Str → Option Value) (news : List (Addr × Obj)) (s : Shared) (Q E : Value → Shared → Prop) (x y : Int) (tx ty : Tok),
    Below A₀ h₀ [] h₀ → Fr h₀ L s.heap m → (Mine.K w.params).In h₀ → News h₀ L s.heap ((c2, o2) :: (c1, o1) :: news) → Top p loose mean mg mb h₀ → dp + 40 < recursionLimit → un + 320 < cLine → o1.data = .cell (some (.int x tx)) → o2.data = .cell (some (.int y ty)) → (∀ h' tk' D t0 t1 t2 t3 t4 t5, Fr h₀ L h' m → News h₀ L h' ((D, LCg.lst [.int (hbI (Str.ofString "=") x y) t0, .int (hbI (Str.ofString "/=") x y) t1, .int (hbI (Str.ofString "<") x y) t2, .int (hbI (Str.ofString "<=") x y) t3, .int (hbI (Str.ofString ">") x y) t4, .int (hbI (Str.ofString ">=") x y) t5]) :: (c2, o2) :: (c1, o1) :: news) → Q (.ref D) { s with heap := h', toks := tk' }) →
    wpAny (model prog w) (ktrTop dp un gd (Str.ofString "law") sc L fa fcd [((Str.ofString "y"), c2), ((Str.ofString "x"), c1)] []) (eval e (envX (Str.ofString "law") sc L fa fcd [((Str.ofString "y"), c2), ((Str.ofString "x"), c1)])) Q E s) _ (by conv => { lhs; whnf }) _ (by conv => { lhs; whnf }) := by
  intro fa fcd prog p loose mean mg mb dp un gd A₀ h₀ L c1 c2 o1 o2 m news s Q E x y tx ty B F X N T hd hu d1 d2 ret
  k_steps
  (with_reducible rename Fr _ _ _ _ => F1); (with_reducible rename News _ _ _ _ => N1)
  exact ret _ _ _ _ _ _ _ _ _ F1 (news_d2 N1)
theorem comp_2 {w : World} : (fun (e : PySem.Expr) (_ : cmpR (turnFrom 11) = e) (sc : Scope) (_ : fScope (stAt 60) = sc) =>
  ∀ (fa : Addr) (fcd : Value) (prog : Program) (p : Program) (loose : List Str) (mean : ExcName → Option Value) (mg mb : Str → Option Value) (dp un : Nat) (gd : Option (List Code)) (A₀ : Around) (h₀ : Heap) (L c1 c2 : Addr) (o1 o2 : Obj) (m : Str → Option Value) (news : List (Addr × Obj)) (s : Shared) (Q E : Value → Shared → Prop) (x y : Int) (tx ty : Tok),
    Below A₀ h₀ [] h₀ → Fr h₀ L s.heap m → (Mine.K w.params).In h₀ → News h₀ L s.heap ((c2, o2) :: (c1, o1) :: news) → Top p loose mean mg mb h₀ → dp + 40 < recursionLimit → un + 320 < cLine → o1.data = .cell (some (.int x tx)) → o2.data = .cell (some (.int y ty)) → (∀ h' tk' D t0 t1 t2 t3 t4 t5, Fr h₀ L h' m → News h₀ L h' ((D, LCg.lst [.int (if (x == y) = true then 1 else 0) t0, .int (if (x != y) = true then 1 else 0) t1, .int (if decide (x < y) = true then 1 else 0) t2, .int (if decide (x ≤ y) = true then 1 else 0) t3, .int (if decide (y < x) = true then 1 else 0) t4, .int (if decide (y ≤ x) = true then 1 else 0) t5]) :: (c2, o2) :: (c1, o1) :: news) → Q (.ref D) { s with heap := h', toks := tk' }) →
    wpAny (model prog w) (ktrTop dp un gd (Str.ofString "law") sc L fa fcd [((Str.ofString "y"), c2), ((Str.ofString "x"), c1)] []) (eval e (envX (Str.ofString "law") sc L fa fcd [((Str.ofString "y"), c2), ((Str.ofString "x"), c1)])) Q E s) _ (by conv => { lhs; whnf }) _ (by conv => { lhs; whnf }) := by
  intro fa fcd prog p loose mean mg mb dp un gd A₀ h₀ L c1 c2 o1 o2 m news s Q E x y tx ty B F X N T hd hu d1 d2 ret
  k_steps
  (with_reducible rename Fr _ _ _ _ => F1); (with_reducible rename News _ _ _ _ => N1)
  exact ret _ _ _ _ _ _ _ _ _ F1 (news_d2 N1)
local macro_rules | `(tactic| walk_at "eval ListComp") => `(tactic| (k_here; (with_reducible show wpAny _ _ (eval (PySem.Expr.ListComp (PySem.Expr.Call (PySem.Expr.Name (PySem.Str.ofString "holds_between") _) _ _ _) _ _ _) _) _ _ _); (refine' comp_1 _ _ _ _ _ _ _ _ _ _ _ _ _ _ _ _ _ _ _ _ _ _ _ _ _ _ _ ?wqB ?wqF ?wqX ?wqN ?wqT ?wqd ?wqu ?wq1 ?wq2 ?_; (case wqB => k_asm); (case wqF => k_asm); (case wqX => k_asm); (case wqN => first | assumption | exact news_r3 (by assumption)); (case wqT => k_asm); (case wqd => assumption); (case wqu => assumption); (case wq1 => assumption); (case wq2 => assumption); k_whole); intro h9 tk9 D9 t0 t1 t2 t3 t4 t5 F9 N9))
local macro_rules | `(tactic| walk_at "eval ListComp") => `(tactic| (k_here; (with_reducible show wpAny _ _ (eval (PySem.Expr.ListComp (PySem.Expr.Call (PySem.Expr.Name (PySem.Str.ofString "int") _) _ _ _) _ _ _) _) _ _ _); (refine' comp_2 _ _ _ _ _ _ _ _ _ _ _ _ _ _ _ _ _ _ _ _ _ _ _ _ _ _ _ ?wqB ?wqF ?wqX ?wqN ?wqT ?wqd ?wqu ?wq1 ?wq2 ?_; (case wqB => k_asm); (case wqF => k_asm); (case wqX => k_asm); (case wqN => first | assumption | exact news_r3 (by assumption)); (case wqT => k_asm); (case wqd => assumption); (case wqu => assumption); (case wq1 => assumption); (case wq2 => assumption); k_whole); intro h9 tk9 D9 t0 t1 t2 t3 t4 t5 F9 N9))
theorem hb_all (x y : Int) : [hbI (Str.ofString "=") x y, hbI (Str.ofString "/=") x y, hbI (Str.ofString "<") x y, hbI (Str.ofString "<=") x y, hbI (Str.ofString ">") x y, hbI (Str.ofString ">=") x y] = [if (x == y) = true then 1 else 0, if (x != y) = true then 1 else 0, if decide (x < y) = true then 1 else 0, if decide (x ≤ y) = true then 1 else 0, if decide (y < x) = true then 1 else 0, if decide (y ≤ x) = true then 1 else 0] := by
  unfold hbI
  rfl
theorem turn_e {w : World} : (fun (b : List Stmt) (_ : turnFrom 11 = b) (sc : Scope) (_ : fScope (stAt 60) = sc) =>
  ∀ (fa : Addr) (fcd : Value) (prog : Program) (p : Program) (loose : List Str) (mean : ExcName → Option Value) (mg mb : Str → Option Value) (dp un : Nat) (gd : Option (List Code)) (A₀ : Around) (h₀ : Heap) (L c1 c2 sl : Addr) (o1 o2 : Obj) (m : Str → Option Value) (news rest : List (Addr × Obj)) (s : Shared) (Q : Flow → Shared → Prop) (x y : Int) (tx ty : Tok),
    Below A₀ h₀ [] h₀ → Fr h₀ L s.heap m → (Mine.K w.params).In h₀ → News h₀ L s.heap ((c2, o2) :: (c1, o1) :: news) → Top p loose mean mg mb h₀ → dp + 40 < recursionLimit → un + 320 < cLine → c2 ≠ c1 → (∀ p ∈ news, p.1 ≠ c1) → (∀ p ∈ news, p.1 ≠ c2) → (∀ p ∈ rest, p ∈ news) → TurnEnd h₀ L c1 c2 sl rest s Q → o1.data = .cell (some (.int x tx)) → o2.data = .cell (some (.int y ty)) → m (Str.ofString "s") = some (.ref sl) → 
    wpAny (model prog w) (ktrTop dp un gd (Str.ofString "law") sc L fa fcd [((Str.ofString "y"), c2), ((Str.ofString "x"), c1)] []) (execs b (envX (Str.ofString "law") sc L fa fcd [((Str.ofString "y"), c2), ((Str.ofString "x"), c1)])) Q (fun _ _ => False) s) _ (by conv => { lhs; whnf }) _ (by conv => { lhs; whnf }) := by
  intro fa fcd prog p loose mean mg mb dp un gd A₀ h₀ L c1 c2 sl o1 o2 m news rest s Q x y tx ty B F X N T hd hu hc n1 n2 hr ret d1 d2 es
  have F₂ := fr_at1 F es
  clear F
  k_steps
  all_goals first
    | (refine' ret _ _ _ _ _ _ _ _ ?wqF ?wqN ?wq1 ?wq2 d1 d2 ?wqr ?wqs; (case wqF => k_asm); (case wqN => k_asm); (case wq1 => k_mem); (case wq2 => k_mem); (case wqr => exact fun p hp => by have := hr p hp; (repeat (first | assumption | apply List.Mem.tail))); (case wqs => exact if_pos rfl))
    | exact absurd (hb_all x y) (by assumption)
end
local macro_rules | `(tactic| walk_at "compareOp NotEq") => `(tactic| (k_here; (refine' ne_out ?wq1 ?wq2 ?wqe ?_; (case wq1 => assumption); (case wq2 => assumption); (case wqe => rfl); k_whole)))
local macro_rules | `(tactic| walk_at "subscriptTail") => `(tactic| (k_here; (with_reducible show wpAny _ _ (subscriptTail _ _ (Value.ref _) (Value.str _ _)) _ _ _); k_dflt (refine kda_item (knd := PySem.strKind _ _) (by k_asm) (by k_mem) (by assumption) (strKind_is _ _ _ _) (by first | assumption | rfl) ?_)))
section
local macro_rules | `(tactic| walk_at "call ref") => `(tactic| (k_here; (with_reducible show wpAny _ _ (call (Value.ref 425) _) _ _ _); (rename ∀ nw, _ → _ → DeedT _ 425 _ _ _ _ => D2); k_dflt (refine' DeedT.use (D2 _ ?ht ?hdt) ?kB ?kF ?kX ?kN ?kT ?kXB ?kTB ?kK ?kd ?ku ?_; walk_at "solve"; (case kXB => k_asm); (case kTB => k_asm); (case ht => k_mem); (case hdt => k_mem); intro r9 h9 tk9 P9 F9 N9; (try k_sweep))))
local macro_rules | `(tactic| walk_at "call ref") => `(tactic| (k_here; (with_reducible show wpAny _ _ (call (Value.ref 411) _) _ _ _); (rename ∀ nw to, _ → _ → Deed _ 411 _ _ _ _ _ => D4); k_dflt (refine' Deed.use (D4 _ _ ?ht ?hdt) ?kB ?kF ?kX ?kN ?kT ?kK ?kd ?ku ?_ ?ke; walk_at "solve"; (case ht => k_mem); (case hdt => k_mem); (case ke => exact fun h9 => h9.elim); intro r8 h8 tk8 P8 F8 N8; (try k_sweep))))
theorem turn_w {w : World} : (fun (b : List Stmt) (_ : wordBody = b) (sc : Scope) (_ : fScope (stAt 60) = sc) =>
  ∀ (fa : Addr) (fcd : Value) (prog : Program) (p : Program) (loose : List Str) (mean : ExcName → Option Value) (mg mb : Str → Option Value) (dp un : Nat) (gd : Option (List Code)) (A₀ : Around) (h₀ : Heap) (L c1 c2 sl : Addr) (o1 o2 : Obj) (m : Str → Option Value) (news : List (Addr × Obj)) (s : Shared) (Q : Flow → Shared → Prop) (x y : Int) (tx ty tw : Tok) (t dt : Addr) (es : List DictEntry) (n0 : Nat) (Dl : Addr) (ol : Obj) (kvs : List (Str × Value)) (wd : Str) (f : Addr) (o : Option Int),
    Below A₀ h₀ [] h₀ → Fr h₀ L s.heap m → (Mine.K w.params).In h₀ → News h₀ L s.heap ((c2, o2) :: (c1, o1) :: news) → Top p loose mean mg mb h₀ → dp + 40 < recursionLimit → un + 320 < cLine → o1.data = .cell (some (.int x tx)) → o2.data = .cell (some (.int y ty)) → m (Str.ofString "s") = some (.ref sl) → m (Str.ofString "t") = some (.ref t) → m (Str.ofString "lone") = some (.ref Dl) → m (Str.ofString "word") = some (.str wd tw) → (t, instObj 308 dt) ∈ news → (dt, dictOf es n0) ∈ news → (Dl, ol) ∈ news → (Dl == sysModules) = false → Obj.IsDictOf (PySem.strKind prog w) ol kvs → valueAt kvs wd = some (.ref f) → (∀ nw, (t, instObj 308 dt) ∈ nw → (dt, dictOf es n0) ∈ nw → DeedT w 425 [.ref f, .ref t, .int x tx] nw 14 (OutO o)) → (∀ nw to, (t, instObj 308 dt) ∈ nw → (dt, dictOf es n0) ∈ nw → Deed w 411 [.ref t, .str wd to, .int x tx] nw 6 (OutO o) False) → (∀ h' tk' m', Fr h₀ L h' m' → News h₀ L h' ((c2, o2) :: (c1, o1) :: news) → m' (Str.ofString "s") = some (.ref sl) → m' (Str.ofString "t") = some (.ref t) → m' (Str.ofString "lone") = some (.ref Dl) → Q .next { s with heap := h', toks := tk' }) → 
    wpAny (model prog w) (ktrTop dp un gd (Str.ofString "law") sc L fa fcd [((Str.ofString "y"), c2), ((Str.ofString "x"), c1)] []) (execs b (envX (Str.ofString "law") sc L fa fcd [((Str.ofString "y"), c2), ((Str.ofString "x"), c1)])) Q (fun _ _ => False) s) _ (by conv => { lhs; whnf }) _ (by conv => { lhs; whnf }) := by
  intro fa fcd prog p loose mean mg mb dp un gd A₀ h₀ L c1 c2 sl o1 o2 m news s Q x y tx ty tw t dt es n0 Dl ol kvs wd f o B F X N T hd hu d1 d2 es' et el ew ht hdt hDl lol hdl hv D2' D4' ret
  have F₂ := fr_at4 F es' et el ew
  clear F
  k_steps
  all_goals (refine' ret _ _ _ ?wqF ?wqN ?wqa ?wqb ?wqc; (case wqF => k_asm); (case wqN => k_asm); (case wqa => ((try dsimp only); (repeat (first | rw [if_pos rfl] | rw [if_neg (by decide)])))); (case wqb => ((try dsimp only); (repeat (first | rw [if_pos rfl] | rw [if_neg (by decide)])))); (case wqc => ((try dsimp only); (repeat (first | rw [if_pos rfl] | rw [if_neg (by decide)])))))
end
section
local macro_rules | `(tactic| walk_at "exec For Name Subscript cons nil") => `(tactic| (k_here; (rename Fr _ _ _ _ => lF'); (with_unfolding_all refine' For_invVF lF' ?k1 ?k2 ?_; (case k1 => exact rfl); (case k2 => exact rfl); k_whole)))
local macro_rules | `(tactic| walk_at "pyIter ref") => `(tactic| (k_here; (with_reducible show wpAny _ _ (pyIter _) (fun it s₂ => LoopAtV _ _ _ _ _ (PySem.Str.ofString "word") _ _ _ it s₂) _ _); refine Hid.out ?_))
theorem wm_eq (lo hi md x : Int) : withinO (Str.ofString "mod") lo hi md x = some (x.fmod md) := by unfold withinO; rfl
theorem wm_deed {w : World} {f : Addr} {vs : List Value} {nw : List (Addr × Obj)} {n : Nat} {lo hi md x : Int} (D : Deed w f vs nw n (OutO (withinO (Str.ofString "mod") lo hi md x)) False) : Deed w f vs nw n (OutO (some (x.fmod md))) False := by
  rwa [wm_eq] at D
local macro_rules | `(tactic| walk_at "pad3") => `(tactic| skip)
theorem turn_d_enum {w : World} : (fun (b : List Stmt) (_ : turnFrom 10 = b) (sc : Scope) (_ : fScope (stAt 60) = sc) =>
  ∀ (fa : Addr) (fcd : Value) (prog : Program) (p : Program) (loose : List Str) (mean : ExcName → Option Value) (mg mb : Str → Option Value) (dp un : Nat) (gd : Option (List Code)) (A₀ : Around) (h₀ : Heap) (L c1 c2 sl : Addr) (o1 o2 : Obj) (m : Str → Option Value) (news rest : List (Addr × Obj)) (s : Shared) (Q : Flow → Shared → Prop) (x y : Int) (tx ty : Tok) (t dt : Addr) (es : List DictEntry) (n0 : Nat) (ik il ih im : Tok) (md : Int) (Dl : Addr) (ol : Obj),
    Below A₀ h₀ [] h₀ → Fr h₀ L s.heap m → (Mine.K w.params).In h₀ → News h₀ L s.heap ((c2, o2) :: (c1, o1) :: news) → Top p loose mean mg mb h₀ → dp + 40 < recursionLimit → un + 320 < cLine → c2 ≠ c1 → (∀ p ∈ news, p.1 ≠ c1) → (∀ p ∈ news, p.1 ≠ c2) → (∀ p ∈ rest, p ∈ news) → TurnEnd h₀ L c1 c2 sl rest s Q → o1.data = .cell (some (.int x tx)) → o2.data = .cell (some (.int y ty)) → m (Str.ofString "s") = some (.ref sl) → m (Str.ofString "t") = some (.ref t) → m (Str.ofString "lone") = some (.ref Dl) → (t, instObj 308 dt) ∈ news → (dt, dictOf es n0) ∈ news → getL (Str.ofString "kind") es = some (some (.str (Str.ofString "enum") ik)) → getL (Str.ofString "low") es = some (some (.int 0 il)) → getL (Str.ofString "high") es = some (some (.int 1 ih)) → getL (Str.ofString "modulus") es = some (some (.int md im)) → 0 ≤ x → x ≤ 1 → (Dl, ol) ∈ news → (Dl == sysModules) = false → Obj.IsDictOf (PySem.strKind prog w) ol [((Str.ofString "not"), .ref 242)] → 
    wpAny (model prog w) (ktrTop dp un gd (Str.ofString "law") sc L fa fcd [((Str.ofString "y"), c2), ((Str.ofString "x"), c1)] []) (execs b (envX (Str.ofString "law") sc L fa fcd [((Str.ofString "y"), c2), ((Str.ofString "x"), c1)])) Q (fun _ _ => False) s) _ (by conv => { lhs; whnf }) _ (by conv => { lhs; whnf }) := by
  intro fa fcd prog p loose mean mg mb dp un gd A₀ h₀ L c1 c2 sl o1 o2 m news rest s Q x y tx ty t dt es n0 ik il ih im md Dl ol B F X N T hd hu hc n1 n2 hr ret d1 d2 es' et el ht hdt gk gl gh gm  x0 x1 hDl lol hdl
  have F₂ := fr_at3 F es' et el
  clear F
  k_steps
  unfold Hid
  (with_reducible rename Fr _ _ _ _ => F1); (with_reducible rename News _ _ _ _ => N1)
  refine list_words (vs := [.str (Str.ofString "not") 652]) (fun m₁ => m₁ (Str.ofString "s") = some (.ref sl) ∧ m₁ (Str.ofString "t") = some (.ref t) ∧ m₁ (Str.ofString "lone") = some (.ref Dl)) rfl (base_list X (by k_is)) F1 N1 ⟨?wja, ?wjb, ?wjc⟩ ?_ ?_
  case wja => ((try dsimp only); (repeat (first | rw [if_pos rfl] | rw [if_neg (by decide)])))
  case wjb => ((try dsimp only); (repeat (first | rw [if_pos rfl] | rw [if_neg (by decide)])))
  case wjc => ((try dsimp only); (repeat (first | rw [if_pos rfl] | rw [if_neg (by decide)])))
  · rintro i v m₁ h tk own hv hoff ⟨js, jt, jl⟩ F₁ N₁
    rcases i with _ | i
    · cases hv
      have D2 : ∀ nw, (t, instObj 308 dt) ∈ nw → (dt, dictOf es n0) ∈ nw → DeedT w 425 [.ref 242, .ref t, .int x tx] nw 14 _ := fun nw h1 h2 => one_not h1 h2 gl gh _ _
      have D4 : ∀ nw to, (t, instObj 308 dt) ∈ nw → (dt, dictOf es n0) ∈ nw → Deed w 411 [.ref t, .str (Str.ofString "not") to, .int x tx] nw 6 _ False := fun nw to h1 h2 => law_lone_not_g h1 h2 gl gh _ _ _
      refine turn_w _ _ _ _ _ _ _ _ _ _ _ _ _ _ _ _ sl _ _ _ _ _ _ _ _ _ _ 652 _ _ _ _ _ _ _ _ _ _ B F₁ X N₁ T hd hu d1 d2 ?vq1_0 ?vq2_0 ?vq3_0 (if_pos rfl) (List.mem_append_left _ ht) (List.mem_append_left _ hdt) (List.mem_append_left _ hDl) lol hdl rfl D2 D4 ?vq5_0
      · rw [if_neg (by decide)]; exact js
      · rw [if_neg (by decide)]; exact jt
      · rw [if_neg (by decide)]; exact jl
      · intro h' tk' m' F' N' a b c
        exact word_next F' N' (fun p hp => List.mem_append_left _ hp) (fun p hp => List.mem_append_right ((c2, o2) :: (c1, o1) :: news) hp) ⟨a, b, c⟩
    · simp at hv
  · rintro m₁ h tk ⟨js, jt, jl⟩ F₁ N₁
    have h2 := @turn_e w fa fcd prog p loose mean mg mb dp un gd A₀ h₀ L c1 c2 sl o1 o2 m₁ news rest { s with heap := h, toks := tk } Q x y tx ty B F₁ X N₁ T hd hu hc n1 n2 hr ret d1 d2 js
    assumption
theorem turn_d_int {w : World} : (fun (b : List Stmt) (_ : turnFrom 10 = b) (sc : Scope) (_ : fScope (stAt 60) = sc) =>
  ∀ (fa : Addr) (fcd : Value) (prog : Program) (p : Program) (loose : List Str) (mean : ExcName → Option Value) (mg mb : Str → Option Value) (dp un : Nat) (gd : Option (List Code)) (A₀ : Around) (h₀ : Heap) (L c1 c2 sl : Addr) (o1 o2 : Obj) (m : Str → Option Value) (news rest : List (Addr × Obj)) (s : Shared) (Q : Flow → Shared → Prop) (x y : Int) (tx ty : Tok) (t dt : Addr) (es : List DictEntry) (n0 : Nat) (ik il ih im : Tok) (lo hi md : Int) (Dl : Addr) (ol : Obj),
    Below A₀ h₀ [] h₀ → Fr h₀ L s.heap m → (Mine.K w.params).In h₀ → News h₀ L s.heap ((c2, o2) :: (c1, o1) :: news) → Top p loose mean mg mb h₀ → dp + 40 < recursionLimit → un + 320 < cLine → c2 ≠ c1 → (∀ p ∈ news, p.1 ≠ c1) → (∀ p ∈ news, p.1 ≠ c2) → (∀ p ∈ rest, p ∈ news) → TurnEnd h₀ L c1 c2 sl rest s Q → o1.data = .cell (some (.int x tx)) → o2.data = .cell (some (.int y ty)) → m (Str.ofString "s") = some (.ref sl) → m (Str.ofString "t") = some (.ref t) → m (Str.ofString "lone") = some (.ref Dl) → (t, instObj 308 dt) ∈ news → (dt, dictOf es n0) ∈ news → getL (Str.ofString "kind") es = some (some (.str (Str.ofString "int") ik)) → getL (Str.ofString "low") es = some (some (.int lo il)) → getL (Str.ofString "high") es = some (some (.int hi ih)) → getL (Str.ofString "modulus") es = some (some (.int md im)) → lo ≤ -2 → hi = -lo - 1 → -1099511627776 ≤ lo → lo ≤ x → x ≤ hi → (Dl, ol) ∈ news → (Dl == sysModules) = false → Obj.IsDictOf (PySem.strKind prog w) ol [((Str.ofString "+"), .ref 172), ((Str.ofString "-"), .ref 158), ((Str.ofString "abs"), .ref 165)] → 
    wpAny (model prog w) (ktrTop dp un gd (Str.ofString "law") sc L fa fcd [((Str.ofString "y"), c2), ((Str.ofString "x"), c1)] []) (execs b (envX (Str.ofString "law") sc L fa fcd [((Str.ofString "y"), c2), ((Str.ofString "x"), c1)])) Q (fun _ _ => False) s) _ (by conv => { lhs; whnf }) _ (by conv => { lhs; whnf }) := by
  intro fa fcd prog p loose mean mg mb dp un gd A₀ h₀ L c1 c2 sl o1 o2 m news rest s Q x y tx ty t dt es n0 ik il ih im lo hi md Dl ol B F X N T hd hu hc n1 n2 hr ret d1 d2 es' et el ht hdt gk gl gh gm q1 q2 q3 x0 x1 hDl lol hdl
  have F₂ := fr_at3 F es' et el
  clear F
  k_steps
  unfold Hid
  (with_reducible rename Fr _ _ _ _ => F1); (with_reducible rename News _ _ _ _ => N1)
  refine list_words (vs := [.str (Str.ofString "+") 648, .str (Str.ofString "-") 649, .str (Str.ofString "abs") 650]) (fun m₁ => m₁ (Str.ofString "s") = some (.ref sl) ∧ m₁ (Str.ofString "t") = some (.ref t) ∧ m₁ (Str.ofString "lone") = some (.ref Dl)) rfl (base_list X (by k_is)) F1 N1 ⟨?wja, ?wjb, ?wjc⟩ ?_ ?_
  case wja => ((try dsimp only); (repeat (first | rw [if_pos rfl] | rw [if_neg (by decide)])))
  case wjb => ((try dsimp only); (repeat (first | rw [if_pos rfl] | rw [if_neg (by decide)])))
  case wjc => ((try dsimp only); (repeat (first | rw [if_pos rfl] | rw [if_neg (by decide)])))
  · rintro i v m₁ h tk own hv hoff ⟨js, jt, jl⟩ F₁ N₁
    rcases i with _ | _ | _ | i
    · cases hv
      have D2 : ∀ nw, (t, instObj 308 dt) ∈ nw → (dt, dictOf es n0) ∈ nw → DeedT w 425 [.ref 172, .ref t, .int x tx] nw 14 _ := fun nw h1 h2 => one_i_pos h1 h2 _ _ x0 x1
      have D4 : ∀ nw to, (t, instObj 308 dt) ∈ nw → (dt, dictOf es n0) ∈ nw → Deed w 411 [.ref t, .str (Str.ofString "+") to, .int x tx] nw 6 _ False := fun nw to h1 h2 => law_lone_pos_i h1 h2 gk gl gh _ _ _
      refine turn_w _ _ _ _ _ _ _ _ _ _ _ _ _ _ _ _ sl _ _ _ _ _ _ _ _ _ _ 648 _ _ _ _ _ _ _ _ _ _ B F₁ X N₁ T hd hu d1 d2 ?vq1_0 ?vq2_0 ?vq3_0 (if_pos rfl) (List.mem_append_left _ ht) (List.mem_append_left _ hdt) (List.mem_append_left _ hDl) lol hdl rfl D2 D4 ?vq5_0
      · rw [if_neg (by decide)]; exact js
      · rw [if_neg (by decide)]; exact jt
      · rw [if_neg (by decide)]; exact jl
      · intro h' tk' m' F' N' a b c
        exact word_next F' N' (fun p hp => List.mem_append_left _ hp) (fun p hp => List.mem_append_right ((c2, o2) :: (c1, o1) :: news) hp) ⟨a, b, c⟩
    · cases hv
      have D2 : ∀ nw, (t, instObj 308 dt) ∈ nw → (dt, dictOf es n0) ∈ nw → DeedT w 425 [.ref 158, .ref t, .int x tx] nw 14 _ := fun nw h1 h2 => one_i_neg h1 h2 gl gh _ _
      have D4 : ∀ nw to, (t, instObj 308 dt) ∈ nw → (dt, dictOf es n0) ∈ nw → Deed w 411 [.ref t, .str (Str.ofString "-") to, .int x tx] nw 6 _ False := fun nw to h1 h2 => law_lone_neg_i h1 h2 gk gl gh _ _ _
      refine turn_w _ _ _ _ _ _ _ _ _ _ _ _ _ _ _ _ sl _ _ _ _ _ _ _ _ _ _ 649 _ _ _ _ _ _ _ _ _ _ B F₁ X N₁ T hd hu d1 d2 ?vq1_1 ?vq2_1 ?vq3_1 (if_pos rfl) (List.mem_append_left _ ht) (List.mem_append_left _ hdt) (List.mem_append_left _ hDl) lol hdl rfl D2 D4 ?vq5_1
      · rw [if_neg (by decide)]; exact js
      · rw [if_neg (by decide)]; exact jt
      · rw [if_neg (by decide)]; exact jl
      · intro h' tk' m' F' N' a b c
        exact word_next F' N' (fun p hp => List.mem_append_left _ hp) (fun p hp => List.mem_append_right ((c2, o2) :: (c1, o1) :: news) hp) ⟨a, b, c⟩
    · cases hv
      have D2 : ∀ nw, (t, instObj 308 dt) ∈ nw → (dt, dictOf es n0) ∈ nw → DeedT w 425 [.ref 165, .ref t, .int x tx] nw 14 _ := fun nw h1 h2 => one_i_abs h1 h2 gl gh _ _
      have D4 : ∀ nw to, (t, instObj 308 dt) ∈ nw → (dt, dictOf es n0) ∈ nw → Deed w 411 [.ref t, .str (Str.ofString "abs") to, .int x tx] nw 6 _ False := fun nw to h1 h2 => law_lone_abs_i h1 h2 gk gl gh _ _ _
      refine turn_w _ _ _ _ _ _ _ _ _ _ _ _ _ _ _ _ sl _ _ _ _ _ _ _ _ _ _ 650 _ _ _ _ _ _ _ _ _ _ B F₁ X N₁ T hd hu d1 d2 ?vq1_2 ?vq2_2 ?vq3_2 (if_pos rfl) (List.mem_append_left _ ht) (List.mem_append_left _ hdt) (List.mem_append_left _ hDl) lol hdl rfl D2 D4 ?vq5_2
      · rw [if_neg (by decide)]; exact js
      · rw [if_neg (by decide)]; exact jt
      · rw [if_neg (by decide)]; exact jl
      · intro h' tk' m' F' N' a b c
        exact word_next F' N' (fun p hp => List.mem_append_left _ hp) (fun p hp => List.mem_append_right ((c2, o2) :: (c1, o1) :: news) hp) ⟨a, b, c⟩
    · simp at hv
  · rintro m₁ h tk ⟨js, jt, jl⟩ F₁ N₁
    have h2 := @turn_e w fa fcd prog p loose mean mg mb dp un gd A₀ h₀ L c1 c2 sl o1 o2 m₁ news rest { s with heap := h, toks := tk } Q x y tx ty B F₁ X N₁ T hd hu hc n1 n2 hr ret d1 d2 js
    assumption
theorem turn_d_mod {w : World} : (fun (b : List Stmt) (_ : turnFrom 10 = b) (sc : Scope) (_ : fScope (stAt 60) = sc) =>
  ∀ (fa : Addr) (fcd : Value) (prog : Program) (p : Program) (loose : List Str) (mean : ExcName → Option Value) (mg mb : Str → Option Value) (dp un : Nat) (gd : Option (List Code)) (A₀ : Around) (h₀ : Heap) (L c1 c2 sl : Addr) (o1 o2 : Obj) (m : Str → Option Value) (news rest : List (Addr × Obj)) (s : Shared) (Q : Flow → Shared → Prop) (x y : Int) (tx ty : Tok) (t dt : Addr) (es : List DictEntry) (n0 : Nat) (ik il ih im : Tok) (md : Int) (Dl : Addr) (ol : Obj),
    Below A₀ h₀ [] h₀ → Fr h₀ L s.heap m → (Mine.K w.params).In h₀ → News h₀ L s.heap ((c2, o2) :: (c1, o1) :: news) → Top p loose mean mg mb h₀ → dp + 40 < recursionLimit → un + 320 < cLine → c2 ≠ c1 → (∀ p ∈ news, p.1 ≠ c1) → (∀ p ∈ news, p.1 ≠ c2) → (∀ p ∈ rest, p ∈ news) → TurnEnd h₀ L c1 c2 sl rest s Q → o1.data = .cell (some (.int x tx)) → o2.data = .cell (some (.int y ty)) → m (Str.ofString "s") = some (.ref sl) → m (Str.ofString "t") = some (.ref t) → m (Str.ofString "lone") = some (.ref Dl) → (t, instObj 308 dt) ∈ news → (dt, dictOf es n0) ∈ news → getL (Str.ofString "kind") es = some (some (.str (Str.ofString "mod") ik)) → getL (Str.ofString "low") es = some (some (.int 0 il)) → getL (Str.ofString "high") es = some (some (.int (md - 1) ih)) → getL (Str.ofString "modulus") es = some (some (.int md im)) → 0 < md → md ≤ 8589934592 → 0 ≤ x → x < md → (Dl, ol) ∈ news → (Dl == sysModules) = false → Obj.IsDictOf (PySem.strKind prog w) ol [((Str.ofString "+"), .ref 172), ((Str.ofString "-"), .ref 207), ((Str.ofString "abs"), .ref 172), ((Str.ofString "not"), .ref 242)] → 
    wpAny (model prog w) (ktrTop dp un gd (Str.ofString "law") sc L fa fcd [((Str.ofString "y"), c2), ((Str.ofString "x"), c1)] []) (execs b (envX (Str.ofString "law") sc L fa fcd [((Str.ofString "y"), c2), ((Str.ofString "x"), c1)])) Q (fun _ _ => False) s) _ (by conv => { lhs; whnf }) _ (by conv => { lhs; whnf }) := by
  intro fa fcd prog p loose mean mg mb dp un gd A₀ h₀ L c1 c2 sl o1 o2 m news rest s Q x y tx ty t dt es n0 ik il ih im md Dl ol B F X N T hd hu hc n1 n2 hr ret d1 d2 es' et el ht hdt gk gl gh gm q1 q2 x0 x1 hDl lol hdl
  have F₂ := fr_at3 F es' et el
  clear F
  k_steps
  unfold Hid
  (with_reducible rename Fr _ _ _ _ => F1); (with_reducible rename News _ _ _ _ => N1)
  refine list_words (vs := [.str (Str.ofString "+") 654, .str (Str.ofString "-") 655, .str (Str.ofString "abs") 656, .str (Str.ofString "not") 657]) (fun m₁ => m₁ (Str.ofString "s") = some (.ref sl) ∧ m₁ (Str.ofString "t") = some (.ref t) ∧ m₁ (Str.ofString "lone") = some (.ref Dl)) rfl (base_list X (by k_is)) F1 N1 ⟨?wja, ?wjb, ?wjc⟩ ?_ ?_
  case wja => ((try dsimp only); (repeat (first | rw [if_pos rfl] | rw [if_neg (by decide)])))
  case wjb => ((try dsimp only); (repeat (first | rw [if_pos rfl] | rw [if_neg (by decide)])))
  case wjc => ((try dsimp only); (repeat (first | rw [if_pos rfl] | rw [if_neg (by decide)])))
  · rintro i v m₁ h tk own hv hoff ⟨js, jt, jl⟩ F₁ N₁
    rcases i with _ | _ | _ | _ | i
    · cases hv
      have D2 : ∀ nw, (t, instObj 308 dt) ∈ nw → (dt, dictOf es n0) ∈ nw → DeedT w 425 [.ref 172, .ref t, .int x tx] nw 14 _ := fun nw h1 h2 => one_m_pos h1 h2 _ _ x0 x1
      have D4 : ∀ nw to, (t, instObj 308 dt) ∈ nw → (dt, dictOf es n0) ∈ nw → Deed w 411 [.ref t, .str (Str.ofString "+") to, .int x tx] nw 6 _ False := fun nw to h1 h2 => wm_deed (law_lone_pos h1 h2 gk gl gh gm (Int.ne_of_gt q1) _ _ _)
      refine turn_w _ _ _ _ _ _ _ _ _ _ _ _ _ _ _ _ sl _ _ _ _ _ _ _ _ _ _ 654 _ _ _ _ _ _ _ _ _ _ B F₁ X N₁ T hd hu d1 d2 ?vq1_0 ?vq2_0 ?vq3_0 (if_pos rfl) (List.mem_append_left _ ht) (List.mem_append_left _ hdt) (List.mem_append_left _ hDl) lol hdl rfl D2 D4 ?vq5_0
      · rw [if_neg (by decide)]; exact js
      · rw [if_neg (by decide)]; exact jt
      · rw [if_neg (by decide)]; exact jl
      · intro h' tk' m' F' N' a b c
        exact word_next F' N' (fun p hp => List.mem_append_left _ hp) (fun p hp => List.mem_append_right ((c2, o2) :: (c1, o1) :: news) hp) ⟨a, b, c⟩
    · cases hv
      have D2 : ∀ nw, (t, instObj 308 dt) ∈ nw → (dt, dictOf es n0) ∈ nw → DeedT w 425 [.ref 207, .ref t, .int x tx] nw 14 _ := fun nw h1 h2 => one_m_neg h1 h2 gm q1 _ _
      have D4 : ∀ nw to, (t, instObj 308 dt) ∈ nw → (dt, dictOf es n0) ∈ nw → Deed w 411 [.ref t, .str (Str.ofString "-") to, .int x tx] nw 6 _ False := fun nw to h1 h2 => wm_deed (law_lone_neg h1 h2 gk gl gh gm (Int.ne_of_gt q1) _ _ _)
      refine turn_w _ _ _ _ _ _ _ _ _ _ _ _ _ _ _ _ sl _ _ _ _ _ _ _ _ _ _ 655 _ _ _ _ _ _ _ _ _ _ B F₁ X N₁ T hd hu d1 d2 ?vq1_1 ?vq2_1 ?vq3_1 (if_pos rfl) (List.mem_append_left _ ht) (List.mem_append_left _ hdt) (List.mem_append_left _ hDl) lol hdl rfl D2 D4 ?vq5_1
      · rw [if_neg (by decide)]; exact js
      · rw [if_neg (by decide)]; exact jt
      · rw [if_neg (by decide)]; exact jl
      · intro h' tk' m' F' N' a b c
        exact word_next F' N' (fun p hp => List.mem_append_left _ hp) (fun p hp => List.mem_append_right ((c2, o2) :: (c1, o1) :: news) hp) ⟨a, b, c⟩
    · cases hv
      have D2 : ∀ nw, (t, instObj 308 dt) ∈ nw → (dt, dictOf es n0) ∈ nw → DeedT w 425 [.ref 172, .ref t, .int x tx] nw 14 _ := fun nw h1 h2 => one_m_abs h1 h2 _ _ x0 x1
      have D4 : ∀ nw to, (t, instObj 308 dt) ∈ nw → (dt, dictOf es n0) ∈ nw → Deed w 411 [.ref t, .str (Str.ofString "abs") to, .int x tx] nw 6 _ False := fun nw to h1 h2 => wm_deed (law_lone_abs h1 h2 gk gl gh gm (Int.ne_of_gt q1) _ _ _)
      refine turn_w _ _ _ _ _ _ _ _ _ _ _ _ _ _ _ _ sl _ _ _ _ _ _ _ _ _ _ 656 _ _ _ _ _ _ _ _ _ _ B F₁ X N₁ T hd hu d1 d2 ?vq1_2 ?vq2_2 ?vq3_2 (if_pos rfl) (List.mem_append_left _ ht) (List.mem_append_left _ hdt) (List.mem_append_left _ hDl) lol hdl rfl D2 D4 ?vq5_2
      · rw [if_neg (by decide)]; exact js
      · rw [if_neg (by decide)]; exact jt
      · rw [if_neg (by decide)]; exact jl
      · intro h' tk' m' F' N' a b c
        exact word_next F' N' (fun p hp => List.mem_append_left _ hp) (fun p hp => List.mem_append_right ((c2, o2) :: (c1, o1) :: news) hp) ⟨a, b, c⟩
    · cases hv
      have D2 : ∀ nw, (t, instObj 308 dt) ∈ nw → (dt, dictOf es n0) ∈ nw → DeedT w 425 [.ref 242, .ref t, .int x tx] nw 14 _ := fun nw h1 h2 => one_not h1 h2 gl gh _ _
      have D4 : ∀ nw to, (t, instObj 308 dt) ∈ nw → (dt, dictOf es n0) ∈ nw → Deed w 411 [.ref t, .str (Str.ofString "not") to, .int x tx] nw 6 _ False := fun nw to h1 h2 => law_lone_not_g h1 h2 gl gh _ _ _
      refine turn_w _ _ _ _ _ _ _ _ _ _ _ _ _ _ _ _ sl _ _ _ _ _ _ _ _ _ _ 657 _ _ _ _ _ _ _ _ _ _ B F₁ X N₁ T hd hu d1 d2 ?vq1_3 ?vq2_3 ?vq3_3 (if_pos rfl) (List.mem_append_left _ ht) (List.mem_append_left _ hdt) (List.mem_append_left _ hDl) lol hdl rfl D2 D4 ?vq5_3
      · rw [if_neg (by decide)]; exact js
      · rw [if_neg (by decide)]; exact jt
      · rw [if_neg (by decide)]; exact jl
      · intro h' tk' m' F' N' a b c
        exact word_next F' N' (fun p hp => List.mem_append_left _ hp) (fun p hp => List.mem_append_right ((c2, o2) :: (c1, o1) :: news) hp) ⟨a, b, c⟩
    · simp at hv
  · rintro m₁ h tk ⟨js, jt, jl⟩ F₁ N₁
    have h2 := @turn_e w fa fcd prog p loose mean mg mb dp un gd A₀ h₀ L c1 c2 sl o1 o2 m₁ news rest { s with heap := h, toks := tk } Q x y tx ty B F₁ X N₁ T hd hu hc n1 n2 hr ret d1 d2 js
    assumption
end
section
local macro_rules | `(tactic| walk_at "execs cons") => `(tactic| (k_here; (with_reducible show wpAny _ _ (execs (Stmt.If (PySem.Expr.Compare (PySem.Expr.Call _ _ _ _) _ _ _) _ _ _ :: _) _) _ _ _); refine Hid.out ?_))
theorem turn_8n {w : World} : (fun (b : List Stmt) (_ : turnFrom 8 = b) (b2 : List Stmt) (_ : turnFrom 9 = b2) (sc : Scope) (_ : fScope (stAt 60) = sc) =>
  ∀ (fa : Addr) (fcd : Value) (prog : Program) (p : Program) (loose : List Str) (mean : ExcName → Option Value) (mg mb : Str → Option Value) (dp un : Nat) (gd : Option (List Code)) (A₀ : Around) (h₀ : Heap) (L c1 c2 sl : Addr) (o1 o2 : Obj) (m : Str → Option Value) (news : List (Addr × Obj)) (s : Shared) (Q : Flow → Shared → Prop) (x y n : Int) (tx ty tp tn : Tok) (t Dp Dl : Addr) (opn : Str),
    Below A₀ h₀ [] h₀ → Fr h₀ L s.heap m → (Mine.K w.params).In h₀ → News h₀ L s.heap ((c2, o2) :: (c1, o1) :: news) → Top p loose mean mg mb h₀ → dp + 40 < recursionLimit → un + 320 < cLine → o1.data = .cell (some (.int x tx)) → o2.data = .cell (some (.int y ty)) → m (Str.ofString "s") = some (.ref sl) → m (Str.ofString "t") = some (.ref t) → m (Str.ofString "pairs") = some (.ref Dp) → m (Str.ofString "lone") = some (.ref Dl) → m (Str.ofString "op") = some (.str opn tp) → m (Str.ofString "n") = some (.int n tn) → (opn == Str.ofString "**") = false → (∀ h' tk' m', Fr h₀ L h' m' → News h₀ L h' ((c2, o2) :: (c1, o1) :: news) → m' (Str.ofString "s") = some (.ref sl) → m' (Str.ofString "t") = some (.ref t) → m' (Str.ofString "pairs") = some (.ref Dp) → m' (Str.ofString "lone") = some (.ref Dl) → m' (Str.ofString "op") = some (.str opn tp) → wpAny (model prog w) (ktrTop dp un gd (Str.ofString "law") sc L fa fcd [((Str.ofString "y"), c2), ((Str.ofString "x"), c1)] []) (execs b2 (envX (Str.ofString "law") sc L fa fcd [((Str.ofString "y"), c2), ((Str.ofString "x"), c1)])) Q (fun _ _ => False) { s with heap := h', toks := tk' }) → 
    wpAny (model prog w) (ktrTop dp un gd (Str.ofString "law") sc L fa fcd [((Str.ofString "y"), c2), ((Str.ofString "x"), c1)] []) (execs b (envX (Str.ofString "law") sc L fa fcd [((Str.ofString "y"), c2), ((Str.ofString "x"), c1)])) Q (fun _ _ => False) s) _ (by conv => { lhs; whnf }) _ (by conv => { lhs; whnf }) _ (by conv => { lhs; whnf }) := by
  intro fa fcd prog p loose mean mg mb dp un gd A₀ h₀ L c1 c2 sl o1 o2 m news s Q x y n tx ty tp tn t Dp Dl opn B F X N T hd hu d1 d2 es' et ep' el eo en hne cont
  have F₂ := fr_at6 F es' et ep' el eo en
  clear F
  k_steps
  unfold Hid
  (with_reducible rename Fr _ _ _ _ => F1); (with_reducible rename News _ _ _ _ => N1)
  apply cont _ _ _ F1 N1
  all_goals ((try dsimp only); (repeat (first | rw [if_pos rfl] | rw [if_neg (by decide)])))
end
section
local macro_rules | `(tactic| walk_at "execs cons") => `(tactic| (k_here; (with_reducible show wpAny _ _ (execs (Stmt.If (PySem.Expr.Compare (PySem.Expr.Call _ _ _ _) _ _ _) _ _ _ :: _) _) _ _ _); refine Hid.out ?_))
theorem menu_b (a : Int) (i : Nat) : -4611686018427387904 < [a.fmod 9, a.fmod 70, 1000000000 + a.fmod 7, 0 - 1 - a.fmod 3].getD i 0 ∧ [a.fmod 9, a.fmod 70, 1000000000 + a.fmod 7, 0 - 1 - a.fmod 3].getD i 0 < 4611686018427387904 := by
  have h1 := fmod_lo a (n := 9) (by decide)
  have h2 := fmod_hi a (n := 9) (by decide)
  have h3 := fmod_lo a (n := 70) (by decide)
  have h4 := fmod_hi a (n := 70) (by decide)
  have h5 := fmod_lo a (n := 7) (by decide)
  have h6 := fmod_hi a (n := 7) (by decide)
  have h7 := fmod_lo a (n := 3) (by decide)
  have h8 := fmod_hi a (n := 3) (by decide)
  rcases i with _ | _ | _ | _ | i
  · show _ < a.fmod 9 ∧ a.fmod 9 < _; omega
  · show _ < a.fmod 70 ∧ a.fmod 70 < _; omega
  · show _ < 1000000000 + a.fmod 7 ∧ 1000000000 + a.fmod 7 < _; omega
  · show _ < 0 - 1 - a.fmod 3 ∧ 0 - 1 - a.fmod 3 < _; omega
  · show _ < (0 : Int) ∧ (0 : Int) < _; omega
local macro_rules | `(tactic| walk_at "storeName") => `(tactic| (k_here; k_dflt (refine' storeX_C ?wqF ?wqN ?wqc ?wqU ?wqd ?_ ?wqa ?wqb; (case wqa => rfl); (case wqb => rfl); (case wqF => k_asm); (case wqN => k_asm); (case wqc => rfl); (case wqU => first | exact UpdF.tail (by k_ne) (UpdF.head (cons_ne (Ne.symm (by assumption)) (by assumption))) | exact UpdF.tail (by assumption) (UpdF.head (by assumption)) | exact UpdF.head (cons_ne (Ne.symm (by assumption)) (by assumption))); (case wqd => assumption); k_whole; intro h' o' F' N' d'; (try dsimp only at N'); (try k_sweep))))
theorem turn_8y {w : World} : (fun (b : List Stmt) (_ : turnFrom 8 = b) (b2 : List Stmt) (_ : turnFrom 9 = b2) (sc : Scope) (_ : fScope (stAt 60) = sc) =>
  ∀ (fa : Addr) (fcd : Value) (prog : Program) (p : Program) (loose : List Str) (mean : ExcName → Option Value) (mg mb : Str → Option Value) (dp un : Nat) (gd : Option (List Code)) (A₀ : Around) (h₀ : Heap) (L c1 c2 sl : Addr) (o1 o2 : Obj) (m : Str → Option Value) (news : List (Addr × Obj)) (s : Shared) (Q : Flow → Shared → Prop) (x y n : Int) (tx ty tp tn : Tok) (t Dp Dl : Addr) (opn : Str),
    Below A₀ h₀ [] h₀ → Fr h₀ L s.heap m → (Mine.K w.params).In h₀ → News h₀ L s.heap ((c2, o2) :: (c1, o1) :: news) → Top p loose mean mg mb h₀ → dp + 40 < recursionLimit → un + 320 < cLine → o1.data = .cell (some (.int x tx)) → o2.data = .cell (some (.int y ty)) → m (Str.ofString "s") = some (.ref sl) → m (Str.ofString "t") = some (.ref t) → m (Str.ofString "pairs") = some (.ref Dp) → m (Str.ofString "lone") = some (.ref Dl) → m (Str.ofString "op") = some (.str opn tp) → m (Str.ofString "n") = some (.int n tn) → opn = Str.ofString "**" → c2 ≠ c1 → (∀ p ∈ news, p.1 ≠ c2) → (∀ h' tk' m' o2' y' ty', -4611686018427387904 < y' → y' < 4611686018427387904 → o2'.data = .cell (some (.int y' ty')) → Fr h₀ L h' m' → News h₀ L h' ((c2, o2') :: (c1, o1) :: news) → m' (Str.ofString "s") = some (.ref sl) → m' (Str.ofString "t") = some (.ref t) → m' (Str.ofString "pairs") = some (.ref Dp) → m' (Str.ofString "lone") = some (.ref Dl) → m' (Str.ofString "op") = some (.str opn tp) → wpAny (model prog w) (ktrTop dp un gd (Str.ofString "law") sc L fa fcd [((Str.ofString "y"), c2), ((Str.ofString "x"), c1)] []) (execs b2 (envX (Str.ofString "law") sc L fa fcd [((Str.ofString "y"), c2), ((Str.ofString "x"), c1)])) Q (fun _ _ => False) { s with heap := h', toks := tk' }) → 
    wpAny (model prog w) (ktrTop dp un gd (Str.ofString "law") sc L fa fcd [((Str.ofString "y"), c2), ((Str.ofString "x"), c1)] []) (execs b (envX (Str.ofString "law") sc L fa fcd [((Str.ofString "y"), c2), ((Str.ofString "x"), c1)])) Q (fun _ _ => False) s) _ (by conv => { lhs; whnf }) _ (by conv => { lhs; whnf }) _ (by conv => { lhs; whnf }) := by
  intro fa fcd prog p loose mean mg mb dp un gd A₀ h₀ L c1 c2 sl o1 o2 m news s Q x y n tx ty tp tn t Dp Dl opn B F X N T hd hu d1 d2 es' et ep' el eo en hne hc n2 cont
  subst hne
  have F₂ := fr_at6 F es' et ep' el eo en
  clear F
  k_steps
  unfold Hid
  (with_reducible rename Fr _ _ _ _ => F1); (with_reducible rename News _ _ _ _ => N1); (with_reducible rename Obj.data _ = _ => d3)
  apply cont _ _ _ _ _ _ (menu_b _ _).1 (menu_b _ _).2 d3 F1 (fun p hp => N1 p (.tail _ hp))
  all_goals ((try dsimp only); (repeat (first | rw [if_pos rfl] | rw [if_neg (by decide)])))
end
local macro_rules | `(tactic| walk_at "storeName") => `(tactic| (k_here; k_dflt (refine' storeX_C ?wqF ?wqN ?wqc ?wqU ?wqd ?_ ?wqa ?wqb; (case wqa => rfl); (case wqb => rfl); (case wqF => k_asm); (case wqN => k_asm); (case wqc => rfl); (case wqU => first | exact UpdF.tail (by k_ne) (UpdF.head (cons_ne (Ne.symm (by assumption)) (by assumption))) | exact UpdF.tail (by assumption) (UpdF.head (by assumption)) | exact UpdF.head (cons_ne (Ne.symm (by assumption)) (by assumption))); (case wqd => assumption); k_whole; intro h' o' F' N' d'; (try dsimp only at N'); (try k_sweep))))
section
local macro_rules | `(tactic| walk_at "call ref") => `(tactic| (k_here; (with_reducible show wpAny _ _ (call (Value.ref 418) _) _ _ _); (rename ∀ nw, _ → _ → DeedT _ 418 _ _ _ _ => D2); k_dflt (refine' DeedT.use (D2 _ ?ht ?hdt) ?kB ?kF ?kX ?kN ?kT ?kXB ?kTB ?kK ?kd ?ku ?_; walk_at "solve"; (case kXB => k_asm); (case kTB => k_asm); (case ht => k_mem); (case hdt => k_mem); intro r9 h9 tk9 P9 F9 N9; (try k_sweep))))
local macro_rules | `(tactic| walk_at "call ref") => `(tactic| (k_here; (with_reducible show wpAny _ _ (call (Value.ref 404) _) _ _ _); (rename ∀ nw to, _ → _ → Deed _ 404 _ _ _ _ _ => D4); k_dflt (refine' Deed.use (D4 _ _ ?ht ?hdt) ?kB ?kF ?kX ?kN ?kT ?kK ?kd ?ku ?_ ?ke; walk_at "solve"; (case ht => k_mem); (case hdt => k_mem); (case ke => exact fun h9 => h9.elim); intro r8 h8 tk8 P8 F8 N8; (try k_sweep))))
local macro_rules | `(tactic| walk_at "execs cons") => `(tactic| (k_here; (with_reducible show wpAny _ _ (execs (Stmt.For (PySem.Expr.Name (PySem.Str.ofString "word") _) _ _ _ _ :: _) _) _ _ _); refine Hid.out ?_))
theorem TurnEnd.at {h₀ : Heap} {L c1 c2 sl : Addr} {rest : List (Addr × Obj)} {s : Shared} {Q : Flow → Shared → Prop} (ret : TurnEnd h₀ L c1 c2 sl rest s Q) (h : Heap) (tk : Nat) : TurnEnd h₀ L c1 c2 sl rest { s with heap := h, toks := tk } Q := ret
theorem turn_9 {w : World} : (fun (b : List Stmt) (_ : turnFrom 9 = b) (b2 : List Stmt) (_ : turnFrom 10 = b2) (sc : Scope) (_ : fScope (stAt 60) = sc) =>
  ∀ (fa : Addr) (fcd : Value) (prog : Program) (p : Program) (loose : List Str) (mean : ExcName → Option Value) (mg mb : Str → Option Value) (dp un : Nat) (gd : Option (List Code)) (A₀ : Around) (h₀ : Heap) (L c1 c2 sl : Addr) (o1 o2 : Obj) (m : Str → Option Value) (news : List (Addr × Obj)) (s : Shared) (Q : Flow → Shared → Prop) (x y : Int) (tx ty tp : Tok) (t dt : Addr) (es : List DictEntry) (n0 : Nat) (Dp Dl : Addr) (op' ol : Obj) (kvs : List (Str × Value)) (opn : Str) (f : Addr) (o : Option Int),
    Below A₀ h₀ [] h₀ → Fr h₀ L s.heap m → (Mine.K w.params).In h₀ → News h₀ L s.heap ((c2, o2) :: (c1, o1) :: news) → Top p loose mean mg mb h₀ → dp + 40 < recursionLimit → un + 320 < cLine → o1.data = .cell (some (.int x tx)) → o2.data = .cell (some (.int y ty)) → m (Str.ofString "s") = some (.ref sl) → m (Str.ofString "t") = some (.ref t) → m (Str.ofString "pairs") = some (.ref Dp) → m (Str.ofString "lone") = some (.ref Dl) → m (Str.ofString "op") = some (.str opn tp) → (t, instObj 308 dt) ∈ news → (dt, dictOf es n0) ∈ news → (Dp, op') ∈ news → (Dp == sysModules) = false → Obj.IsDictOf (PySem.strKind prog w) op' kvs → valueAt kvs opn = some (.ref f) → (∀ nw, (t, instObj 308 dt) ∈ nw → (dt, dictOf es n0) ∈ nw → DeedT w 418 [.ref f, .ref t, .int x tx, .int y ty] nw 14 (OutO o)) → (∀ nw to, (t, instObj 308 dt) ∈ nw → (dt, dictOf es n0) ∈ nw → Deed w 404 [.ref t, .str opn to, .int x tx, .int y ty] nw 10 (OutO o) False) → (∀ h' tk' m', Fr h₀ L h' m' → News h₀ L h' ((c2, o2) :: (c1, o1) :: news) → m' (Str.ofString "s") = some (.ref sl) → m' (Str.ofString "t") = some (.ref t) → m' (Str.ofString "lone") = some (.ref Dl) → wpAny (model prog w) (ktrTop dp un gd (Str.ofString "law") sc L fa fcd [((Str.ofString "y"), c2), ((Str.ofString "x"), c1)] []) (execs b2 (envX (Str.ofString "law") sc L fa fcd [((Str.ofString "y"), c2), ((Str.ofString "x"), c1)])) Q (fun _ _ => False) { s with heap := h', toks := tk' }) → 
    wpAny (model prog w) (ktrTop dp un gd (Str.ofString "law") sc L fa fcd [((Str.ofString "y"), c2), ((Str.ofString "x"), c1)] []) (execs b (envX (Str.ofString "law") sc L fa fcd [((Str.ofString "y"), c2), ((Str.ofString "x"), c1)])) Q (fun _ _ => False) s) _ (by conv => { lhs; whnf }) _ (by conv => { lhs; whnf }) _ (by conv => { lhs; whnf }) := by
  intro fa fcd prog p loose mean mg mb dp un gd A₀ h₀ L c1 c2 sl o1 o2 m news s Q x y tx ty tp t dt es n0 Dp Dl op' ol kvs opn f o B F X N T hd hu d1 d2 es' et ep' el eo ht hdt hDp loq hdq hv D2' D4' cont
  have F₂ := fr_at6 F es' et ep' el eo es'
  clear F
  k_steps
  unfold Hid
  (with_reducible rename Fr _ _ _ _ => F1); (with_reducible rename News _ _ _ _ => N1)
  apply cont _ _ _ F1 N1
  all_goals ((try dsimp only); (repeat (first | rw [if_pos rfl] | rw [if_neg (by decide)])))
end
theorem sq2_enum : ((([((Str.ofString "and"), .ref 214), ((Str.ofString "or"), .ref 221), ((Str.ofString "xor"), .ref 228)] : List (Str × Value)).map (·.1)).isPerm [(Str.ofString "and"), (Str.ofString "or"), (Str.ofString "xor")] && sortedS [(Str.ofString "and"), (Str.ofString "or"), (Str.ofString "xor")]) = true := by decide +kernel
theorem sq1_enum : ((([((Str.ofString "not"), .ref 242)] : List (Str × Value)).map (·.1)).isPerm [(Str.ofString "not")] && sortedS [(Str.ofString "not")]) = true := by decide +kernel
theorem sq2_int : ((([((Str.ofString "+"), .ref 88), ((Str.ofString "-"), .ref 95), ((Str.ofString "*"), .ref 102), ((Str.ofString "/"), .ref 116), ((Str.ofString "mod"), .ref 130), ((Str.ofString "rem"), .ref 123), ((Str.ofString "**"), .ref 151)] : List (Str × Value)).map (·.1)).isPerm [(Str.ofString "*"), (Str.ofString "**"), (Str.ofString "+"), (Str.ofString "-"), (Str.ofString "/"), (Str.ofString "mod"), (Str.ofString "rem")] && sortedS [(Str.ofString "*"), (Str.ofString "**"), (Str.ofString "+"), (Str.ofString "-"), (Str.ofString "/"), (Str.ofString "mod"), (Str.ofString "rem")]) = true := by decide +kernel
theorem sq1_int : ((([((Str.ofString "+"), .ref 172), ((Str.ofString "-"), .ref 158), ((Str.ofString "abs"), .ref 165)] : List (Str × Value)).map (·.1)).isPerm [(Str.ofString "+"), (Str.ofString "-"), (Str.ofString "abs")] && sortedS [(Str.ofString "+"), (Str.ofString "-"), (Str.ofString "abs")]) = true := by decide +kernel
theorem sq2_mod : ((([((Str.ofString "+"), .ref 179), ((Str.ofString "-"), .ref 186), ((Str.ofString "*"), .ref 193), ((Str.ofString "/"), .ref 116), ((Str.ofString "mod"), .ref 130), ((Str.ofString "rem"), .ref 123), ((Str.ofString "**"), .ref 200), ((Str.ofString "and"), .ref 214), ((Str.ofString "or"), .ref 221), ((Str.ofString "xor"), .ref 228)] : List (Str × Value)).map (·.1)).isPerm [(Str.ofString "*"), (Str.ofString "**"), (Str.ofString "+"), (Str.ofString "-"), (Str.ofString "/"), (Str.ofString "and"), (Str.ofString "mod"), (Str.ofString "or"), (Str.ofString "rem"), (Str.ofString "xor")] && sortedS [(Str.ofString "*"), (Str.ofString "**"), (Str.ofString "+"), (Str.ofString "-"), (Str.ofString "/"), (Str.ofString "and"), (Str.ofString "mod"), (Str.ofString "or"), (Str.ofString "rem"), (Str.ofString "xor")]) = true := by decide +kernel
theorem sq1_mod : ((([((Str.ofString "+"), .ref 172), ((Str.ofString "-"), .ref 207), ((Str.ofString "abs"), .ref 172), ((Str.ofString "not"), .ref 242)] : List (Str × Value)).map (·.1)).isPerm [(Str.ofString "+"), (Str.ofString "-"), (Str.ofString "abs"), (Str.ofString "not")] && sortedS [(Str.ofString "+"), (Str.ofString "-"), (Str.ofString "abs"), (Str.ofString "not")]) = true := by decide +kernel
section
local macro_rules | `(tactic| walk_at "call builtin:sorted") => `(tactic| (k_here; (with_reducible show wpAny _ _ (call (Value.builtin "sorted") [Value.ref _]) _ _ _); k_dflt (refine' sorted_dict ?wqh ?wqF ?wqN ?wqm ?wql ?wqD ?wqn ?wqq ?_; (case wqh => exact rfl); (case wqF => k_asm); (case wqN => k_asm); (case wqm => k_mem); (case wql => assumption); (case wqD => assumption); (case wqq => first | exact sq2_enum | exact sq1_enum | exact sq2_int | exact sq1_int | exact sq2_mod | exact sq1_mod); (case wqn => decide); k_whole; intro B9 h9 tk9 vs9 n9 F9 N9 l1 S9; (try k_lt l1))))
local macro_rules | `(tactic| walk_at "compareOp NotEq ref ref") => `(tactic| (k_here; (with_reducible show wpAny _ _ (compareOp CmpOp.NotEq (Value.ref _) (Value.ref _)) _ _ _); k_dflt (refine' ne_strs ?wqa (listIn ?wqx ?wqf ?wqo) ?wqi ?wqj ?wqs ?wqu ?_; (case wqa => exact News.isList (by k_asm) (by k_mem)); (case wqx => k_asm); (case wqf => k_asm); (case wqo => k_is); (case wqi => assumption); (case wqj => exact strsMatch_spec rfl); (case wqs => decide +kernel); (case wqu => ke_room); k_whole)))
local macro_rules | `(tactic| walk_at "subscriptTail") => `(tactic| (k_here; (with_reducible show wpAny _ _ (subscriptTail _ _ (Value.ref _) (Value.int _ _)) _ _ _); (with_unfolding_all refine' pick_any (listIn ?wqx ?wqf ?wqo) ?wq3 ?wq4 ?wq5 ?_ ?wq6; (case wqx => k_asm); (case wqf => k_asm); (case wqo => k_is); (case wq3 => exact fmod_lo _ (by decide)); (case wq4 => exact fmod_hi _ (by decide)); (case wq5 => exact Int.lt_trans (fmod_hi _ (by decide)) (by decide)); (case wq6 => with_unfolding_all rfl); k_whole); intro i9 v9 hv9))
local macro_rules | `(tactic| walk_at "subscriptTail") => `(tactic| (k_here; (with_reducible show wpAny _ _ (subscriptTail _ _ (Value.ref _) (Value.int _ _)) _ _ _); (with_unfolding_all refine' item_anyK ?k1 ?k2 ?k3 ?k4 ?k5 ?_ ?k6; (case k1 => exact News.isList (by k_asm) (by k_mem)); (case k2 => assumption); (case k3 => first | assumption | exact fmod_lo _ (by omega)); (case k4 => first | assumption | exact fmod_hi _ (by omega)); (case k5 => first | omega | exact Int.lt_trans (fmod_hi _ (by omega)) (by omega)); (case k6 => with_unfolding_all rfl); k_whole); intro _))
local macro_rules | `(tactic| walk_at "call builtin:len") => `(tactic| (k_here; (with_reducible show wpAny _ _ (call (Value.builtin "len") [Value.ref _]) _ _ _); (with_unfolding_all refine' len_few ?k1 ?k2 ?k3 ?_; (case k1 => exact News.isList (by k_asm) (by k_mem)); (case k2 => assumption); (case k3 => assumption); k_whole)))
local macro_rules | `(tactic| walk_at "call builtin:len") => `(tactic| (k_here; (with_reducible show wpAny _ _ (call (Value.builtin "len") [Value.ref _]) _ _ _); k_dflt (refine' len_dict ?k1 ?k2 ?k3 ?k4 ?k5 ?k6 ?_; (case k1 => k_asm); (case k2 => k_mem); (case k3 => assumption); (case k4 => assumption); (case k5 => first | exact (show _ = (3 : Int) from rfl) | exact (show _ = (7 : Int) from rfl) | exact (show _ = (10 : Int) from rfl)); (case k6 => decide); k_whole)))
local macro_rules | `(tactic| walk_at "execs cons") => `(tactic| (k_here; (with_reducible show wpAny _ _ (execs (Stmt.If (PySem.Expr.Compare (PySem.Expr.Name (PySem.Str.ofString "op") _) _ _ _) _ _ _ :: _) _) _ _ _); refine Hid.out ?_))
local macro_rules | `(tactic| walk_at "call ref") => `(tactic| (k_here; (with_reducible show wpAny _ _ (call (Value.ref 284) _) _ _ _); k_dflt (refine' OpsD.use (ops_284_enum ?ht ?hdt ?gk) ?kB ?kF ?kX ?kN ?kT ?kK ?kd ?ku ?_; walk_at "solve"; (case ht => k_mem); (case hdt => k_mem); (case gk => assumption); intro D9 od9 h9 tk9 lo9 hd9 F9 N9 l1; (try k_lt l1); (try k_sweep))))
local macro_rules | `(tactic| walk_at "call ref") => `(tactic| (k_here; (with_reducible show wpAny _ _ (call (Value.ref 291) _) _ _ _); k_dflt (refine' OpsD.use (ops_291_enum ?ht ?hdt ?gk) ?kB ?kF ?kX ?kN ?kT ?kK ?kd ?ku ?_; walk_at "solve"; (case ht => k_mem); (case hdt => k_mem); (case gk => assumption); intro D9 od9 h9 tk9 lo9 hd9 F9 N9 l1; (try k_lt l1); (try k_sweep))))
theorem turn_b_enum {w : World} : (fun (b : List Stmt) (_ : turnFrom 4 = b) (b2 : List Stmt) (_ : turnFrom 8 = b2) (sc : Scope) (_ : fScope (stAt 60) = sc) =>
  ∀ (fa : Addr) (fcd : Value) (prog : Program) (p : Program) (loose : List Str) (mean : ExcName → Option Value) (mg mb : Str → Option Value) (dp un : Nat) (gd : Option (List Code)) (A₀ : Around) (h₀ : Heap) (L c1 c2 sl : Addr) (o1 o2 : Obj) (m : Str → Option Value) (news : List (Addr × Obj)) (s : Shared) (Q : Flow → Shared → Prop) (x y n kk : Int) (tx ty tn tk : Tok) (t dt : Addr) (es : List DictEntry) (n0 : Nat) (ik il ih im : Tok) (md : Int) (nn : Nat) (vs : List Value) (ns : List Int),
    Below A₀ h₀ [] h₀ → Fr h₀ L s.heap m → (Mine.K w.params).In h₀ → News h₀ L s.heap ((c2, o2) :: (c1, o1) :: news) → Top p loose mean mg mb h₀ → dp + 40 < recursionLimit → un + 320 < cLine → o1.data = .cell (some (.int x tx)) → o2.data = .cell (some (.int y ty)) → (∀ p ∈ news, p.1 ≠ c1) → (∀ p ∈ news, p.1 ≠ c2) → m (Str.ofString "s") = some (.ref sl) → m (Str.ofString "k") = some (.int kk tk) → m (Str.ofString "t") = some (.ref t) → m (Str.ofString "n") = some (.int n tn) → (sl, W.listOf vs.toArray nn) ∈ news → IntsAre vs ns → ns.length ≤ 63 → 0 ≤ kk → kk < ns.length → (t, instObj 308 dt) ∈ news → (dt, dictOf es n0) ∈ news → getL (Str.ofString "kind") es = some (some (.str (Str.ofString "enum") ik)) → getL (Str.ofString "low") es = some (some (.int 0 il)) → getL (Str.ofString "high") es = some (some (.int 1 ih)) → getL (Str.ofString "modulus") es = some (some (.int md im)) → (∀ h' tk' m' Dp Dl op' ol (i : Nat) (v : Value), ([.str (Str.ofString "and") 629, .str (Str.ofString "or") 630, .str (Str.ofString "xor") 631] : List Value)[i]? = some v → (Dp == sysModules) = false → Obj.IsDictOf (PySem.strKind prog w) op' [((Str.ofString "and"), .ref 214), ((Str.ofString "or"), .ref 221), ((Str.ofString "xor"), .ref 228)] → (Dl == sysModules) = false → Obj.IsDictOf (PySem.strKind prog w) ol [((Str.ofString "not"), .ref 242)] → (∀ p ∈ ((Dp, op') :: (Dl, ol) :: news), p.1 ≠ c1) → (∀ p ∈ ((Dp, op') :: (Dl, ol) :: news), p.1 ≠ c2) → Fr h₀ L h' m' → News h₀ L h' ((c2, o2) :: (c1, o1) :: ((Dp, op') :: (Dl, ol) :: news)) → m' (Str.ofString "s") = some (.ref sl) → m' (Str.ofString "t") = some (.ref t) → m' (Str.ofString "pairs") = some (.ref Dp) → m' (Str.ofString "lone") = some (.ref Dl) → m' (Str.ofString "op") = some v → m' (Str.ofString "n") = some (.int n tn) → wpAny (model prog w) (ktrTop dp un gd (Str.ofString "law") sc L fa fcd [((Str.ofString "y"), c2), ((Str.ofString "x"), c1)] []) (execs b2 (envX (Str.ofString "law") sc L fa fcd [((Str.ofString "y"), c2), ((Str.ofString "x"), c1)])) Q (fun _ _ => False) { s with heap := h', toks := tk' }) → 
    wpAny (model prog w) (ktrTop dp un gd (Str.ofString "law") sc L fa fcd [((Str.ofString "y"), c2), ((Str.ofString "x"), c1)] []) (execs b (envX (Str.ofString "law") sc L fa fcd [((Str.ofString "y"), c2), ((Str.ofString "x"), c1)])) Q (fun _ _ => False) s) _ (by conv => { lhs; whnf }) _ (by conv => { lhs; whnf }) _ (by conv => { lhs; whnf }) := by
  intro fa fcd prog p loose mean mg mb dp un gd A₀ h₀ L c1 c2 sl o1 o2 m news s Q x y n kk tx ty tn tk t dt es n0 ik il ih im md nn vs ns B F X N T hd hu d1 d2 n1 n2 e1 e2 e3 e4 hl hI hlen k0 k1 ht hdt gk gl gh gm  cont
  have F₂ := fr_at4 F e1 e2 e3 e4
  clear F
  k_steps
  unfold Hid
  (with_reducible rename Fr _ _ _ _ => F1); (with_reducible rename News _ _ _ _ => N1)
  refine' cont _ _ _ _ _ _ _ _ _ ?vhv ?vlp ?vdp ?vll ?vdl ?vn1 ?vn2 F1 (news_tb N1) ?vms ?vmt ?vmp ?vml ?vmo ?vmn
  case vms => ((try dsimp only); (repeat (first | rw [if_pos rfl] | rw [if_neg (by decide)])))
  case vmt => ((try dsimp only); (repeat (first | rw [if_pos rfl] | rw [if_neg (by decide)])))
  case vmp => ((try dsimp only); (repeat (first | rw [if_pos rfl] | rw [if_neg (by decide)])))
  case vml => ((try dsimp only); (repeat (first | rw [if_pos rfl] | rw [if_neg (by decide)])))
  case vmo => ((try dsimp only); (repeat (first | rw [if_pos rfl] | rw [if_neg (by decide)])))
  case vmn => ((try dsimp only); (repeat (first | rw [if_pos rfl] | rw [if_neg (by decide)])))
  case vhv => assumption
  case vlp => assumption
  case vll => assumption
  case vdp => assumption
  case vdl => assumption
  case vn1 => exact cons_ne (by k_ne) (cons_ne (by k_ne) n1)
  case vn2 => exact cons_ne (by k_ne) (cons_ne (by k_ne) n2)
local macro_rules | `(tactic| walk_at "call ref") => `(tactic| (k_here; (with_reducible show wpAny _ _ (call (Value.ref 284) _) _ _ _); k_dflt (refine' OpsD.use (ops_284_int ?ht ?hdt ?gk) ?kB ?kF ?kX ?kN ?kT ?kK ?kd ?ku ?_; walk_at "solve"; (case ht => k_mem); (case hdt => k_mem); (case gk => assumption); intro D9 od9 h9 tk9 lo9 hd9 F9 N9 l1; (try k_lt l1); (try k_sweep))))
local macro_rules | `(tactic| walk_at "call ref") => `(tactic| (k_here; (with_reducible show wpAny _ _ (call (Value.ref 291) _) _ _ _); k_dflt (refine' OpsD.use (ops_291_int ?ht ?hdt ?gk) ?kB ?kF ?kX ?kN ?kT ?kK ?kd ?ku ?_; walk_at "solve"; (case ht => k_mem); (case hdt => k_mem); (case gk => assumption); intro D9 od9 h9 tk9 lo9 hd9 F9 N9 l1; (try k_lt l1); (try k_sweep))))
theorem turn_b_int {w : World} : (fun (b : List Stmt) (_ : turnFrom 4 = b) (b2 : List Stmt) (_ : turnFrom 8 = b2) (sc : Scope) (_ : fScope (stAt 60) = sc) =>
  ∀ (fa : Addr) (fcd : Value) (prog : Program) (p : Program) (loose : List Str) (mean : ExcName → Option Value) (mg mb : Str → Option Value) (dp un : Nat) (gd : Option (List Code)) (A₀ : Around) (h₀ : Heap) (L c1 c2 sl : Addr) (o1 o2 : Obj) (m : Str → Option Value) (news : List (Addr × Obj)) (s : Shared) (Q : Flow → Shared → Prop) (x y n kk : Int) (tx ty tn tk : Tok) (t dt : Addr) (es : List DictEntry) (n0 : Nat) (ik il ih im : Tok) (lo hi md : Int) (nn : Nat) (vs : List Value) (ns : List Int),
    Below A₀ h₀ [] h₀ → Fr h₀ L s.heap m → (Mine.K w.params).In h₀ → News h₀ L s.heap ((c2, o2) :: (c1, o1) :: news) → Top p loose mean mg mb h₀ → dp + 40 < recursionLimit → un + 320 < cLine → o1.data = .cell (some (.int x tx)) → o2.data = .cell (some (.int y ty)) → (∀ p ∈ news, p.1 ≠ c1) → (∀ p ∈ news, p.1 ≠ c2) → m (Str.ofString "s") = some (.ref sl) → m (Str.ofString "k") = some (.int kk tk) → m (Str.ofString "t") = some (.ref t) → m (Str.ofString "n") = some (.int n tn) → (sl, W.listOf vs.toArray nn) ∈ news → IntsAre vs ns → ns.length ≤ 63 → 0 ≤ kk → kk < ns.length → (t, instObj 308 dt) ∈ news → (dt, dictOf es n0) ∈ news → getL (Str.ofString "kind") es = some (some (.str (Str.ofString "int") ik)) → getL (Str.ofString "low") es = some (some (.int lo il)) → getL (Str.ofString "high") es = some (some (.int hi ih)) → getL (Str.ofString "modulus") es = some (some (.int md im)) → lo ≤ -2 → hi = -lo - 1 → -1099511627776 ≤ lo → (∀ h' tk' m' Dp Dl op' ol (i : Nat) (v : Value), ([.str (Str.ofString "*") 621, .str (Str.ofString "**") 622, .str (Str.ofString "+") 623, .str (Str.ofString "-") 624, .str (Str.ofString "/") 625, .str (Str.ofString "mod") 626, .str (Str.ofString "rem") 627] : List Value)[i]? = some v → (Dp == sysModules) = false → Obj.IsDictOf (PySem.strKind prog w) op' [((Str.ofString "+"), .ref 88), ((Str.ofString "-"), .ref 95), ((Str.ofString "*"), .ref 102), ((Str.ofString "/"), .ref 116), ((Str.ofString "mod"), .ref 130), ((Str.ofString "rem"), .ref 123), ((Str.ofString "**"), .ref 151)] → (Dl == sysModules) = false → Obj.IsDictOf (PySem.strKind prog w) ol [((Str.ofString "+"), .ref 172), ((Str.ofString "-"), .ref 158), ((Str.ofString "abs"), .ref 165)] → (∀ p ∈ ((Dp, op') :: (Dl, ol) :: news), p.1 ≠ c1) → (∀ p ∈ ((Dp, op') :: (Dl, ol) :: news), p.1 ≠ c2) → Fr h₀ L h' m' → News h₀ L h' ((c2, o2) :: (c1, o1) :: ((Dp, op') :: (Dl, ol) :: news)) → m' (Str.ofString "s") = some (.ref sl) → m' (Str.ofString "t") = some (.ref t) → m' (Str.ofString "pairs") = some (.ref Dp) → m' (Str.ofString "lone") = some (.ref Dl) → m' (Str.ofString "op") = some v → m' (Str.ofString "n") = some (.int n tn) → wpAny (model prog w) (ktrTop dp un gd (Str.ofString "law") sc L fa fcd [((Str.ofString "y"), c2), ((Str.ofString "x"), c1)] []) (execs b2 (envX (Str.ofString "law") sc L fa fcd [((Str.ofString "y"), c2), ((Str.ofString "x"), c1)])) Q (fun _ _ => False) { s with heap := h', toks := tk' }) → 
    wpAny (model prog w) (ktrTop dp un gd (Str.ofString "law") sc L fa fcd [((Str.ofString "y"), c2), ((Str.ofString "x"), c1)] []) (execs b (envX (Str.ofString "law") sc L fa fcd [((Str.ofString "y"), c2), ((Str.ofString "x"), c1)])) Q (fun _ _ => False) s) _ (by conv => { lhs; whnf }) _ (by conv => { lhs; whnf }) _ (by conv => { lhs; whnf }) := by
  intro fa fcd prog p loose mean mg mb dp un gd A₀ h₀ L c1 c2 sl o1 o2 m news s Q x y n kk tx ty tn tk t dt es n0 ik il ih im lo hi md nn vs ns B F X N T hd hu d1 d2 n1 n2 e1 e2 e3 e4 hl hI hlen k0 k1 ht hdt gk gl gh gm q1 q2 q3 cont
  have F₂ := fr_at4 F e1 e2 e3 e4
  clear F
  k_steps
  unfold Hid
  (with_reducible rename Fr _ _ _ _ => F1); (with_reducible rename News _ _ _ _ => N1)
  refine' cont _ _ _ _ _ _ _ _ _ ?vhv ?vlp ?vdp ?vll ?vdl ?vn1 ?vn2 F1 (news_tb N1) ?vms ?vmt ?vmp ?vml ?vmo ?vmn
  case vms => ((try dsimp only); (repeat (first | rw [if_pos rfl] | rw [if_neg (by decide)])))
  case vmt => ((try dsimp only); (repeat (first | rw [if_pos rfl] | rw [if_neg (by decide)])))
  case vmp => ((try dsimp only); (repeat (first | rw [if_pos rfl] | rw [if_neg (by decide)])))
  case vml => ((try dsimp only); (repeat (first | rw [if_pos rfl] | rw [if_neg (by decide)])))
  case vmo => ((try dsimp only); (repeat (first | rw [if_pos rfl] | rw [if_neg (by decide)])))
  case vmn => ((try dsimp only); (repeat (first | rw [if_pos rfl] | rw [if_neg (by decide)])))
  case vhv => assumption
  case vlp => assumption
  case vll => assumption
  case vdp => assumption
  case vdl => assumption
  case vn1 => exact cons_ne (by k_ne) (cons_ne (by k_ne) n1)
  case vn2 => exact cons_ne (by k_ne) (cons_ne (by k_ne) n2)
local macro_rules | `(tactic| walk_at "call ref") => `(tactic| (k_here; (with_reducible show wpAny _ _ (call (Value.ref 284) _) _ _ _); k_dflt (refine' OpsD.use (ops_284_mod ?ht ?hdt ?gk) ?kB ?kF ?kX ?kN ?kT ?kK ?kd ?ku ?_; walk_at "solve"; (case ht => k_mem); (case hdt => k_mem); (case gk => assumption); intro D9 od9 h9 tk9 lo9 hd9 F9 N9 l1; (try k_lt l1); (try k_sweep))))
local macro_rules | `(tactic| walk_at "call ref") => `(tactic| (k_here; (with_reducible show wpAny _ _ (call (Value.ref 291) _) _ _ _); k_dflt (refine' OpsD.use (ops_291_mod ?ht ?hdt ?gk) ?kB ?kF ?kX ?kN ?kT ?kK ?kd ?ku ?_; walk_at "solve"; (case ht => k_mem); (case hdt => k_mem); (case gk => assumption); intro D9 od9 h9 tk9 lo9 hd9 F9 N9 l1; (try k_lt l1); (try k_sweep))))
theorem turn_b_mod {w : World} : (fun (b : List Stmt) (_ : turnFrom 4 = b) (b2 : List Stmt) (_ : turnFrom 8 = b2) (sc : Scope) (_ : fScope (stAt 60) = sc) =>
  ∀ (fa : Addr) (fcd : Value) (prog : Program) (p : Program) (loose : List Str) (mean : ExcName → Option Value) (mg mb : Str → Option Value) (dp un : Nat) (gd : Option (List Code)) (A₀ : Around) (h₀ : Heap) (L c1 c2 sl : Addr) (o1 o2 : Obj) (m : Str → Option Value) (news : List (Addr × Obj)) (s : Shared) (Q : Flow → Shared → Prop) (x y n kk : Int) (tx ty tn tk : Tok) (t dt : Addr) (es : List DictEntry) (n0 : Nat) (ik il ih im : Tok) (md : Int) (nn : Nat) (vs : List Value) (ns : List Int),
    Below A₀ h₀ [] h₀ → Fr h₀ L s.heap m → (Mine.K w.params).In h₀ → News h₀ L s.heap ((c2, o2) :: (c1, o1) :: news) → Top p loose mean mg mb h₀ → dp + 40 < recursionLimit → un + 320 < cLine → o1.data = .cell (some (.int x tx)) → o2.data = .cell (some (.int y ty)) → (∀ p ∈ news, p.1 ≠ c1) → (∀ p ∈ news, p.1 ≠ c2) → m (Str.ofString "s") = some (.ref sl) → m (Str.ofString "k") = some (.int kk tk) → m (Str.ofString "t") = some (.ref t) → m (Str.ofString "n") = some (.int n tn) → (sl, W.listOf vs.toArray nn) ∈ news → IntsAre vs ns → ns.length ≤ 63 → 0 ≤ kk → kk < ns.length → (t, instObj 308 dt) ∈ news → (dt, dictOf es n0) ∈ news → getL (Str.ofString "kind") es = some (some (.str (Str.ofString "mod") ik)) → getL (Str.ofString "low") es = some (some (.int 0 il)) → getL (Str.ofString "high") es = some (some (.int (md - 1) ih)) → getL (Str.ofString "modulus") es = some (some (.int md im)) → 0 < md → md ≤ 8589934592 → (∀ h' tk' m' Dp Dl op' ol (i : Nat) (v : Value), ([.str (Str.ofString "*") 633, .str (Str.ofString "**") 634, .str (Str.ofString "+") 635, .str (Str.ofString "-") 636, .str (Str.ofString "/") 637, .str (Str.ofString "and") 638, .str (Str.ofString "mod") 639, .str (Str.ofString "or") 640, .str (Str.ofString "rem") 641, .str (Str.ofString "xor") 642] : List Value)[i]? = some v → (Dp == sysModules) = false → Obj.IsDictOf (PySem.strKind prog w) op' [((Str.ofString "+"), .ref 179), ((Str.ofString "-"), .ref 186), ((Str.ofString "*"), .ref 193), ((Str.ofString "/"), .ref 116), ((Str.ofString "mod"), .ref 130), ((Str.ofString "rem"), .ref 123), ((Str.ofString "**"), .ref 200), ((Str.ofString "and"), .ref 214), ((Str.ofString "or"), .ref 221), ((Str.ofString "xor"), .ref 228)] → (Dl == sysModules) = false → Obj.IsDictOf (PySem.strKind prog w) ol [((Str.ofString "+"), .ref 172), ((Str.ofString "-"), .ref 207), ((Str.ofString "abs"), .ref 172), ((Str.ofString "not"), .ref 242)] → (∀ p ∈ ((Dp, op') :: (Dl, ol) :: news), p.1 ≠ c1) → (∀ p ∈ ((Dp, op') :: (Dl, ol) :: news), p.1 ≠ c2) → Fr h₀ L h' m' → News h₀ L h' ((c2, o2) :: (c1, o1) :: ((Dp, op') :: (Dl, ol) :: news)) → m' (Str.ofString "s") = some (.ref sl) → m' (Str.ofString "t") = some (.ref t) → m' (Str.ofString "pairs") = some (.ref Dp) → m' (Str.ofString "lone") = some (.ref Dl) → m' (Str.ofString "op") = some v → m' (Str.ofString "n") = some (.int n tn) → wpAny (model prog w) (ktrTop dp un gd (Str.ofString "law") sc L fa fcd [((Str.ofString "y"), c2), ((Str.ofString "x"), c1)] []) (execs b2 (envX (Str.ofString "law") sc L fa fcd [((Str.ofString "y"), c2), ((Str.ofString "x"), c1)])) Q (fun _ _ => False) { s with heap := h', toks := tk' }) → 
    wpAny (model prog w) (ktrTop dp un gd (Str.ofString "law") sc L fa fcd [((Str.ofString "y"), c2), ((Str.ofString "x"), c1)] []) (execs b (envX (Str.ofString "law") sc L fa fcd [((Str.ofString "y"), c2), ((Str.ofString "x"), c1)])) Q (fun _ _ => False) s) _ (by conv => { lhs; whnf }) _ (by conv => { lhs; whnf }) _ (by conv => { lhs; whnf }) := by
  intro fa fcd prog p loose mean mg mb dp un gd A₀ h₀ L c1 c2 sl o1 o2 m news s Q x y n kk tx ty tn tk t dt es n0 ik il ih im md nn vs ns B F X N T hd hu d1 d2 n1 n2 e1 e2 e3 e4 hl hI hlen k0 k1 ht hdt gk gl gh gm q1 q2 cont
  have F₂ := fr_at4 F e1 e2 e3 e4
  clear F
  k_steps
  unfold Hid
  (with_reducible rename Fr _ _ _ _ => F1); (with_reducible rename News _ _ _ _ => N1)
  refine' cont _ _ _ _ _ _ _ _ _ ?vhv ?vlp ?vdp ?vll ?vdl ?vn1 ?vn2 F1 (news_tb N1) ?vms ?vmt ?vmp ?vml ?vmo ?vmn
  case vms => ((try dsimp only); (repeat (first | rw [if_pos rfl] | rw [if_neg (by decide)])))
  case vmt => ((try dsimp only); (repeat (first | rw [if_pos rfl] | rw [if_neg (by decide)])))
  case vmp => ((try dsimp only); (repeat (first | rw [if_pos rfl] | rw [if_neg (by decide)])))
  case vml => ((try dsimp only); (repeat (first | rw [if_pos rfl] | rw [if_neg (by decide)])))
  case vmo => ((try dsimp only); (repeat (first | rw [if_pos rfl] | rw [if_neg (by decide)])))
  case vmn => ((try dsimp only); (repeat (first | rw [if_pos rfl] | rw [if_neg (by decide)])))
  case vhv => assumption
  case vlp => assumption
  case vll => assumption
  case vdp => assumption
  case vdl => assumption
  case vn1 => exact cons_ne (by k_ne) (cons_ne (by k_ne) n1)
  case vn2 => exact cons_ne (by k_ne) (cons_ne (by k_ne) n2)
end
local macro_rules | `(tactic| walk_at "subscriptTail") => `(tactic| (k_here; (with_reducible show wpAny _ _ (subscriptTail _ _ (Value.ref _) (Value.int _ _)) _ _ _); (with_unfolding_all refine' item_anyK ?k1 ?k2 ?k3 ?k4 ?k5 ?_ ?k6; (case k1 => exact News.isList (by k_asm) (by k_mem)); (case k2 => assumption); (case k3 => first | assumption | exact fmod_lo _ (by omega)); (case k4 => first | assumption | exact fmod_hi _ (by omega)); (case k5 => first | omega | exact Int.lt_trans (fmod_hi _ (by omega)) (by omega)); (case k6 => with_unfolding_all rfl); k_whole); intro _))
local macro_rules | `(tactic| walk_at "call builtin:len") => `(tactic| (k_here; (with_reducible show wpAny _ _ (call (Value.builtin "len") [Value.ref _]) _ _ _); (with_unfolding_all refine' len_few ?k1 ?k2 ?k3 ?_; (case k1 => exact News.isList (by k_asm) (by k_mem)); (case k2 => assumption); (case k3 => assumption); k_whole)))
theorem turn_k_enum {w : World} : (fun (b : List Stmt) (_ : turnFrom 4 = b) (sc : Scope) (_ : fScope (stAt 60) = sc) =>
  ∀ (fa : Addr) (fcd : Value) (prog : Program) (p : Program) (loose : List Str) (mean : ExcName → Option Value) (mg mb : Str → Option Value) (dp un : Nat) (gd : Option (List Code)) (A₀ : Around) (h₀ : Heap) (L c1 c2 sl : Addr) (o1 o2 : Obj) (m : Str → Option Value) (news rest : List (Addr × Obj)) (s : Shared) (Q : Flow → Shared → Prop) (x y n kk : Int) (tx ty tn tk : Tok) (t dt : Addr) (es : List DictEntry) (n0 : Nat) (ik il ih im : Tok) (md : Int) (nn : Nat) (vs : List Value) (ns : List Int),
    Below A₀ h₀ [] h₀ → Fr h₀ L s.heap m → (Mine.K w.params).In h₀ → News h₀ L s.heap ((c2, o2) :: (c1, o1) :: news) → Top p loose mean mg mb h₀ → dp + 40 < recursionLimit → un + 320 < cLine → c2 ≠ c1 → (∀ p ∈ news, p.1 ≠ c1) → (∀ p ∈ news, p.1 ≠ c2) → (∀ p ∈ rest, p ∈ news) → TurnEnd h₀ L c1 c2 sl rest s Q → o1.data = .cell (some (.int x tx)) → o2.data = .cell (some (.int y ty)) → m (Str.ofString "s") = some (.ref sl) → m (Str.ofString "k") = some (.int kk tk) → m (Str.ofString "t") = some (.ref t) → m (Str.ofString "n") = some (.int n tn) → (sl, W.listOf vs.toArray nn) ∈ news → IntsAre vs ns → ns.length ≤ 63 → 0 ≤ kk → kk < ns.length → (t, instObj 308 dt) ∈ news → (dt, dictOf es n0) ∈ news → getL (Str.ofString "kind") es = some (some (.str (Str.ofString "enum") ik)) → getL (Str.ofString "low") es = some (some (.int 0 il)) → getL (Str.ofString "high") es = some (some (.int 1 ih)) → getL (Str.ofString "modulus") es = some (some (.int md im)) → 0 ≤ x → x ≤ 1 → 0 ≤ y → y ≤ 1 → 
    wpAny (model prog w) (ktrTop dp un gd (Str.ofString "law") sc L fa fcd [((Str.ofString "y"), c2), ((Str.ofString "x"), c1)] []) (execs b (envX (Str.ofString "law") sc L fa fcd [((Str.ofString "y"), c2), ((Str.ofString "x"), c1)])) Q (fun _ _ => False) s) _ (by conv => { lhs; whnf }) _ (by conv => { lhs; whnf }) := by
  intro fa fcd prog p loose mean mg mb dp un gd A₀ h₀ L c1 c2 sl o1 o2 m news rest s Q x y n kk tx ty tn tk t dt es n0 ik il ih im md nn vs ns B F X N T hd hu hc n1 n2 hr ret d1 d2 e1 e2 e3 e4 hl hI hlen k0 k1 ht hdt gk gl gh gm  x0 x1 y0 y1
  apply turn_b_enum _ _ _ _ _ _ _ _ _ _ _ _ _ _ _ _ _ _ _ _ _ _ _ _ _ _ _ _ _ _ _ _ _ _ _ _ _ _ _ _ _ _ _ B F X N T hd hu d1 d2 n1 n2 e1 e2 e3 e4 hl hI hlen k0 k1 ht hdt gk gl gh gm 
  intro h' tk' m' Dp Dl op' ol i v hv lop hdp lol hdl n1' n2' F1 N1 ms mt mp ml mo mn
  rcases i with _ | _ | _ | i
  · cases hv
    apply turn_8n _ _ _ _ _ _ _ _ _ _ _ _ _ _ _ _ _ _ _ _ _ _ _ _ _ _ _ _ _ _ _ _ _ _ B F1 X N1 T hd hu d1 d2 ms mt mp ml mo mn (by decide)
    intro h2 tk2 m2 F2 N2 ms2 mt2 mp2 ml2 mo2
    have D2 : ∀ nw, (t, instObj 308 dt) ∈ nw → (dt, dictOf es n0) ∈ nw → DeedT w 418 [.ref 214, .ref t, .int x tx, .int y ty] nw 14 _ := fun nw h1 h2 => two_e_and h1 h2 _ _ _ _ x0 x1 y0 y1
    have D4 : ∀ nw to, (t, instObj 308 dt) ∈ nw → (dt, dictOf es n0) ∈ nw → Deed w 404 [.ref t, .str (Str.ofString "and") to, .int x tx, .int y ty] nw 10 _ False := fun nw to h1 h2 => due_e_and h1 h2 gk gl gh _ _ _ _ _
    apply turn_9 _ _ _ _ _ _ _ _ _ _ _ _ _ _ _ _ _ _ _ _ _ _ _ _ _ _ _ _ _ _ _ _ _ _ _ ol _ _ _ _ B F2 X N2 T hd hu d1 d2 ms2 mt2 mp2 ml2 mo2 (.tail _ (.tail _ ht)) (.tail _ (.tail _ hdt)) (.head _) lop hdp (by rfl : valueAt _ _ = some (.ref 214)) D2 D4
    intro h3 tk3 m3 F3 N3 ms3 mt3 ml3
    apply turn_d_enum _ _ _ _ _ _ _ _ _ _ _ _ _ _ _ _ _ _ _ _ _ _ _ _ _ _ _ _ _ _ _ _ _ _ _ _ _ _ _ B F3 X N3 T hd hu hc n1' n2' (tail_in (tail_in hr)) (TurnEnd.at ret h3 tk3) d1 d2 ms3 mt3 ml3 (.tail _ (.tail _ ht)) (.tail _ (.tail _ hdt)) gk gl gh gm  x0 x1 (.tail _ (.head _)) lol hdl
  · cases hv
    apply turn_8n _ _ _ _ _ _ _ _ _ _ _ _ _ _ _ _ _ _ _ _ _ _ _ _ _ _ _ _ _ _ _ _ _ _ B F1 X N1 T hd hu d1 d2 ms mt mp ml mo mn (by decide)
    intro h2 tk2 m2 F2 N2 ms2 mt2 mp2 ml2 mo2
    have D2 : ∀ nw, (t, instObj 308 dt) ∈ nw → (dt, dictOf es n0) ∈ nw → DeedT w 418 [.ref 221, .ref t, .int x tx, .int y ty] nw 14 _ := fun nw h1 h2 => two_e_or h1 h2 gk _ _ _ _ x0 x1 y0 y1
    have D4 : ∀ nw to, (t, instObj 308 dt) ∈ nw → (dt, dictOf es n0) ∈ nw → Deed w 404 [.ref t, .str (Str.ofString "or") to, .int x tx, .int y ty] nw 10 _ False := fun nw to h1 h2 => due_e_or h1 h2 gk gl gh _ _ _ _ _
    apply turn_9 _ _ _ _ _ _ _ _ _ _ _ _ _ _ _ _ _ _ _ _ _ _ _ _ _ _ _ _ _ _ _ _ _ _ _ ol _ _ _ _ B F2 X N2 T hd hu d1 d2 ms2 mt2 mp2 ml2 mo2 (.tail _ (.tail _ ht)) (.tail _ (.tail _ hdt)) (.head _) lop hdp (by rfl : valueAt _ _ = some (.ref 221)) D2 D4
    intro h3 tk3 m3 F3 N3 ms3 mt3 ml3
    apply turn_d_enum _ _ _ _ _ _ _ _ _ _ _ _ _ _ _ _ _ _ _ _ _ _ _ _ _ _ _ _ _ _ _ _ _ _ _ _ _ _ _ B F3 X N3 T hd hu hc n1' n2' (tail_in (tail_in hr)) (TurnEnd.at ret h3 tk3) d1 d2 ms3 mt3 ml3 (.tail _ (.tail _ ht)) (.tail _ (.tail _ hdt)) gk gl gh gm  x0 x1 (.tail _ (.head _)) lol hdl
  · cases hv
    apply turn_8n _ _ _ _ _ _ _ _ _ _ _ _ _ _ _ _ _ _ _ _ _ _ _ _ _ _ _ _ _ _ _ _ _ _ B F1 X N1 T hd hu d1 d2 ms mt mp ml mo mn (by decide)
    intro h2 tk2 m2 F2 N2 ms2 mt2 mp2 ml2 mo2
    have D2 : ∀ nw, (t, instObj 308 dt) ∈ nw → (dt, dictOf es n0) ∈ nw → DeedT w 418 [.ref 228, .ref t, .int x tx, .int y ty] nw 14 _ := fun nw h1 h2 => two_e_xor h1 h2 gk _ _ _ _ x0 x1 y0 y1
    have D4 : ∀ nw to, (t, instObj 308 dt) ∈ nw → (dt, dictOf es n0) ∈ nw → Deed w 404 [.ref t, .str (Str.ofString "xor") to, .int x tx, .int y ty] nw 10 _ False := fun nw to h1 h2 => due_e_xor h1 h2 gk gl gh _ _ _ _ _
    apply turn_9 _ _ _ _ _ _ _ _ _ _ _ _ _ _ _ _ _ _ _ _ _ _ _ _ _ _ _ _ _ _ _ _ _ _ _ ol _ _ _ _ B F2 X N2 T hd hu d1 d2 ms2 mt2 mp2 ml2 mo2 (.tail _ (.tail _ ht)) (.tail _ (.tail _ hdt)) (.head _) lop hdp (by rfl : valueAt _ _ = some (.ref 228)) D2 D4
    intro h3 tk3 m3 F3 N3 ms3 mt3 ml3
    apply turn_d_enum _ _ _ _ _ _ _ _ _ _ _ _ _ _ _ _ _ _ _ _ _ _ _ _ _ _ _ _ _ _ _ _ _ _ _ _ _ _ _ B F3 X N3 T hd hu hc n1' n2' (tail_in (tail_in hr)) (TurnEnd.at ret h3 tk3) d1 d2 ms3 mt3 ml3 (.tail _ (.tail _ ht)) (.tail _ (.tail _ hdt)) gk gl gh gm  x0 x1 (.tail _ (.head _)) lol hdl
  · simp at hv
theorem turn_k_int {w : World} : (fun (b : List Stmt) (_ : turnFrom 4 = b) (sc : Scope) (_ : fScope (stAt 60) = sc) =>
  ∀ (fa : Addr) (fcd : Value) (prog : Program) (p : Program) (loose : List Str) (mean : ExcName → Option Value) (mg mb : Str → Option Value) (dp un : Nat) (gd : Option (List Code)) (A₀ : Around) (h₀ : Heap) (L c1 c2 sl : Addr) (o1 o2 : Obj) (m : Str → Option Value) (news rest : List (Addr × Obj)) (s : Shared) (Q : Flow → Shared → Prop) (x y n kk : Int) (tx ty tn tk : Tok) (t dt : Addr) (es : List DictEntry) (n0 : Nat) (ik il ih im : Tok) (lo hi md : Int) (nn : Nat) (vs : List Value) (ns : List Int),
    Below A₀ h₀ [] h₀ → Fr h₀ L s.heap m → (Mine.K w.params).In h₀ → News h₀ L s.heap ((c2, o2) :: (c1, o1) :: news) → Top p loose mean mg mb h₀ → dp + 40 < recursionLimit → un + 320 < cLine → c2 ≠ c1 → (∀ p ∈ news, p.1 ≠ c1) → (∀ p ∈ news, p.1 ≠ c2) → (∀ p ∈ rest, p ∈ news) → TurnEnd h₀ L c1 c2 sl rest s Q → o1.data = .cell (some (.int x tx)) → o2.data = .cell (some (.int y ty)) → m (Str.ofString "s") = some (.ref sl) → m (Str.ofString "k") = some (.int kk tk) → m (Str.ofString "t") = some (.ref t) → m (Str.ofString "n") = some (.int n tn) → (sl, W.listOf vs.toArray nn) ∈ news → IntsAre vs ns → ns.length ≤ 63 → 0 ≤ kk → kk < ns.length → (t, instObj 308 dt) ∈ news → (dt, dictOf es n0) ∈ news → getL (Str.ofString "kind") es = some (some (.str (Str.ofString "int") ik)) → getL (Str.ofString "low") es = some (some (.int lo il)) → getL (Str.ofString "high") es = some (some (.int hi ih)) → getL (Str.ofString "modulus") es = some (some (.int md im)) → lo ≤ -2 → hi = -lo - 1 → -1099511627776 ≤ lo → lo ≤ x → x ≤ hi → lo ≤ y → y ≤ hi → 
    wpAny (model prog w) (ktrTop dp un gd (Str.ofString "law") sc L fa fcd [((Str.ofString "y"), c2), ((Str.ofString "x"), c1)] []) (execs b (envX (Str.ofString "law") sc L fa fcd [((Str.ofString "y"), c2), ((Str.ofString "x"), c1)])) Q (fun _ _ => False) s) _ (by conv => { lhs; whnf }) _ (by conv => { lhs; whnf }) := by
  intro fa fcd prog p loose mean mg mb dp un gd A₀ h₀ L c1 c2 sl o1 o2 m news rest s Q x y n kk tx ty tn tk t dt es n0 ik il ih im lo hi md nn vs ns B F X N T hd hu hc n1 n2 hr ret d1 d2 e1 e2 e3 e4 hl hI hlen k0 k1 ht hdt gk gl gh gm q1 q2 q3 x0 x1 y0 y1
  apply turn_b_int _ _ _ _ _ _ _ _ _ _ _ _ _ _ _ _ _ _ _ _ _ _ _ _ _ _ _ _ _ _ _ _ _ _ _ _ _ _ _ _ _ _ _ _ _ B F X N T hd hu d1 d2 n1 n2 e1 e2 e3 e4 hl hI hlen k0 k1 ht hdt gk gl gh gm q1 q2 q3
  intro h' tk' m' Dp Dl op' ol i v hv lop hdp lol hdl n1' n2' F1 N1 ms mt mp ml mo mn
  rcases i with _ | _ | _ | _ | _ | _ | _ | i
  · cases hv
    apply turn_8n _ _ _ _ _ _ _ _ _ _ _ _ _ _ _ _ _ _ _ _ _ _ _ _ _ _ _ _ _ _ _ _ _ _ B F1 X N1 T hd hu d1 d2 ms mt mp ml mo mn (by decide)
    intro h2 tk2 m2 F2 N2 ms2 mt2 mp2 ml2 mo2
    have D2 : ∀ nw, (t, instObj 308 dt) ∈ nw → (dt, dictOf es n0) ∈ nw → DeedT w 418 [.ref 102, .ref t, .int x tx, .int y ty] nw 14 _ := fun nw h1 h2 => two_i_mul h1 h2 gl gh _ _ _ _ (by omega) (by omega)
    have D4 : ∀ nw to, (t, instObj 308 dt) ∈ nw → (dt, dictOf es n0) ∈ nw → Deed w 404 [.ref t, .str (Str.ofString "*") to, .int x tx, .int y ty] nw 10 _ False := fun nw to h1 h2 => due_i_mul h1 h2 gk gl gh _ _ _ _ _ (by omega) (by omega)
    apply turn_9 _ _ _ _ _ _ _ _ _ _ _ _ _ _ _ _ _ _ _ _ _ _ _ _ _ _ _ _ _ _ _ _ _ _ _ ol _ _ _ _ B F2 X N2 T hd hu d1 d2 ms2 mt2 mp2 ml2 mo2 (.tail _ (.tail _ ht)) (.tail _ (.tail _ hdt)) (.head _) lop hdp (by rfl : valueAt _ _ = some (.ref 102)) D2 D4
    intro h3 tk3 m3 F3 N3 ms3 mt3 ml3
    apply turn_d_int _ _ _ _ _ _ _ _ _ _ _ _ _ _ _ _ _ _ _ _ _ _ _ _ _ _ _ _ _ _ _ _ _ _ _ _ _ _ _ _ _ B F3 X N3 T hd hu hc n1' n2' (tail_in (tail_in hr)) (TurnEnd.at ret h3 tk3) d1 d2 ms3 mt3 ml3 (.tail _ (.tail _ ht)) (.tail _ (.tail _ hdt)) gk gl gh gm q1 q2 q3 x0 x1 (.tail _ (.head _)) lol hdl
  · cases hv
    apply turn_8y _ _ _ _ _ _ _ _ _ _ _ _ _ _ _ _ _ _ _ _ _ _ _ _ _ _ _ _ _ _ _ _ _ _ B F1 X N1 T hd hu d1 d2 ms mt mp ml mo mn rfl hc (fun p hp => n2' p hp)
    intro h2 tk2 m2 o3 y3 ty3 b1 b2 d3 F2 N2 ms2 mt2 mp2 ml2 mo2
    have D2 : ∀ nw, (t, instObj 308 dt) ∈ nw → (dt, dictOf es n0) ∈ nw → DeedT w 418 [.ref 151, .ref t, .int x tx, .int y3 ty3] nw 14 _ := fun nw h1 h2 => two_i_pow h1 h2 gl gh _ _ _ _ q1 q2 q3 x0 x1
    have D4 : ∀ nw to, (t, instObj 308 dt) ∈ nw → (dt, dictOf es n0) ∈ nw → Deed w 404 [.ref t, .str (Str.ofString "**") to, .int x tx, .int y3 ty3] nw 10 _ False := fun nw to h1 h2 => due_i_pow h1 h2 gk gl gh _ _ _ _ _ (by omega) (by omega)
    apply turn_9 _ _ _ _ _ _ _ _ _ _ _ _ _ _ _ _ _ _ _ _ _ _ _ _ _ _ _ _ _ _ _ _ _ _ _ ol _ _ _ _ B F2 X N2 T hd hu d1 d3 ms2 mt2 mp2 ml2 mo2 (.tail _ (.tail _ ht)) (.tail _ (.tail _ hdt)) (.head _) lop hdp (by rfl : valueAt _ _ = some (.ref 151)) D2 D4
    intro h3 tk3 m3 F3 N3 ms3 mt3 ml3
    apply turn_d_int _ _ _ _ _ _ _ _ _ _ _ _ _ _ _ _ _ _ _ _ _ _ _ _ _ _ _ _ _ _ _ _ _ _ _ _ _ _ _ _ _ B F3 X N3 T hd hu hc n1' n2' (tail_in (tail_in hr)) (TurnEnd.at ret h3 tk3) d1 d3 ms3 mt3 ml3 (.tail _ (.tail _ ht)) (.tail _ (.tail _ hdt)) gk gl gh gm q1 q2 q3 x0 x1 (.tail _ (.head _)) lol hdl
  · cases hv
    apply turn_8n _ _ _ _ _ _ _ _ _ _ _ _ _ _ _ _ _ _ _ _ _ _ _ _ _ _ _ _ _ _ _ _ _ _ B F1 X N1 T hd hu d1 d2 ms mt mp ml mo mn (by decide)
    intro h2 tk2 m2 F2 N2 ms2 mt2 mp2 ml2 mo2
    have D2 : ∀ nw, (t, instObj 308 dt) ∈ nw → (dt, dictOf es n0) ∈ nw → DeedT w 418 [.ref 88, .ref t, .int x tx, .int y ty] nw 14 _ := fun nw h1 h2 => two_i_add h1 h2 gl gh _ _ _ _
    have D4 : ∀ nw to, (t, instObj 308 dt) ∈ nw → (dt, dictOf es n0) ∈ nw → Deed w 404 [.ref t, .str (Str.ofString "+") to, .int x tx, .int y ty] nw 10 _ False := fun nw to h1 h2 => due_i_add h1 h2 gk gl gh _ _ _ _ _ (by omega) (by omega)
    apply turn_9 _ _ _ _ _ _ _ _ _ _ _ _ _ _ _ _ _ _ _ _ _ _ _ _ _ _ _ _ _ _ _ _ _ _ _ ol _ _ _ _ B F2 X N2 T hd hu d1 d2 ms2 mt2 mp2 ml2 mo2 (.tail _ (.tail _ ht)) (.tail _ (.tail _ hdt)) (.head _) lop hdp (by rfl : valueAt _ _ = some (.ref 88)) D2 D4
    intro h3 tk3 m3 F3 N3 ms3 mt3 ml3
    apply turn_d_int _ _ _ _ _ _ _ _ _ _ _ _ _ _ _ _ _ _ _ _ _ _ _ _ _ _ _ _ _ _ _ _ _ _ _ _ _ _ _ _ _ B F3 X N3 T hd hu hc n1' n2' (tail_in (tail_in hr)) (TurnEnd.at ret h3 tk3) d1 d2 ms3 mt3 ml3 (.tail _ (.tail _ ht)) (.tail _ (.tail _ hdt)) gk gl gh gm q1 q2 q3 x0 x1 (.tail _ (.head _)) lol hdl
  · cases hv
    apply turn_8n _ _ _ _ _ _ _ _ _ _ _ _ _ _ _ _ _ _ _ _ _ _ _ _ _ _ _ _ _ _ _ _ _ _ B F1 X N1 T hd hu d1 d2 ms mt mp ml mo mn (by decide)
    intro h2 tk2 m2 F2 N2 ms2 mt2 mp2 ml2 mo2
    have D2 : ∀ nw, (t, instObj 308 dt) ∈ nw → (dt, dictOf es n0) ∈ nw → DeedT w 418 [.ref 95, .ref t, .int x tx, .int y ty] nw 14 _ := fun nw h1 h2 => two_i_sub h1 h2 gl gh _ _ _ _
    have D4 : ∀ nw to, (t, instObj 308 dt) ∈ nw → (dt, dictOf es n0) ∈ nw → Deed w 404 [.ref t, .str (Str.ofString "-") to, .int x tx, .int y ty] nw 10 _ False := fun nw to h1 h2 => due_i_sub h1 h2 gk gl gh _ _ _ _ _ (by omega) (by omega)
    apply turn_9 _ _ _ _ _ _ _ _ _ _ _ _ _ _ _ _ _ _ _ _ _ _ _ _ _ _ _ _ _ _ _ _ _ _ _ ol _ _ _ _ B F2 X N2 T hd hu d1 d2 ms2 mt2 mp2 ml2 mo2 (.tail _ (.tail _ ht)) (.tail _ (.tail _ hdt)) (.head _) lop hdp (by rfl : valueAt _ _ = some (.ref 95)) D2 D4
    intro h3 tk3 m3 F3 N3 ms3 mt3 ml3
    apply turn_d_int _ _ _ _ _ _ _ _ _ _ _ _ _ _ _ _ _ _ _ _ _ _ _ _ _ _ _ _ _ _ _ _ _ _ _ _ _ _ _ _ _ B F3 X N3 T hd hu hc n1' n2' (tail_in (tail_in hr)) (TurnEnd.at ret h3 tk3) d1 d2 ms3 mt3 ml3 (.tail _ (.tail _ ht)) (.tail _ (.tail _ hdt)) gk gl gh gm q1 q2 q3 x0 x1 (.tail _ (.head _)) lol hdl
  · cases hv
    apply turn_8n _ _ _ _ _ _ _ _ _ _ _ _ _ _ _ _ _ _ _ _ _ _ _ _ _ _ _ _ _ _ _ _ _ _ B F1 X N1 T hd hu d1 d2 ms mt mp ml mo mn (by decide)
    intro h2 tk2 m2 F2 N2 ms2 mt2 mp2 ml2 mo2
    have D2 : ∀ nw, (t, instObj 308 dt) ∈ nw → (dt, dictOf es n0) ∈ nw → DeedT w 418 [.ref 116, .ref t, .int x tx, .int y ty] nw 14 _ := fun nw h1 h2 => two_i_div h1 h2 gl gh _ _ _ _ (by omega) (by omega)
    have D4 : ∀ nw to, (t, instObj 308 dt) ∈ nw → (dt, dictOf es n0) ∈ nw → Deed w 404 [.ref t, .str (Str.ofString "/") to, .int x tx, .int y ty] nw 10 _ False := fun nw to h1 h2 => due_i_div h1 h2 gk gl gh _ _ _ _ _ (by omega) (by omega)
    apply turn_9 _ _ _ _ _ _ _ _ _ _ _ _ _ _ _ _ _ _ _ _ _ _ _ _ _ _ _ _ _ _ _ _ _ _ _ ol _ _ _ _ B F2 X N2 T hd hu d1 d2 ms2 mt2 mp2 ml2 mo2 (.tail _ (.tail _ ht)) (.tail _ (.tail _ hdt)) (.head _) lop hdp (by rfl : valueAt _ _ = some (.ref 116)) D2 D4
    intro h3 tk3 m3 F3 N3 ms3 mt3 ml3
    apply turn_d_int _ _ _ _ _ _ _ _ _ _ _ _ _ _ _ _ _ _ _ _ _ _ _ _ _ _ _ _ _ _ _ _ _ _ _ _ _ _ _ _ _ B F3 X N3 T hd hu hc n1' n2' (tail_in (tail_in hr)) (TurnEnd.at ret h3 tk3) d1 d2 ms3 mt3 ml3 (.tail _ (.tail _ ht)) (.tail _ (.tail _ hdt)) gk gl gh gm q1 q2 q3 x0 x1 (.tail _ (.head _)) lol hdl
  · cases hv
    apply turn_8n _ _ _ _ _ _ _ _ _ _ _ _ _ _ _ _ _ _ _ _ _ _ _ _ _ _ _ _ _ _ _ _ _ _ B F1 X N1 T hd hu d1 d2 ms mt mp ml mo mn (by decide)
    intro h2 tk2 m2 F2 N2 ms2 mt2 mp2 ml2 mo2
    have D2 : ∀ nw, (t, instObj 308 dt) ∈ nw → (dt, dictOf es n0) ∈ nw → DeedT w 418 [.ref 130, .ref t, .int x tx, .int y ty] nw 14 _ := fun nw h1 h2 => two_mod h1 h2 _ _ _ _ (by omega) (by omega)
    have D4 : ∀ nw to, (t, instObj 308 dt) ∈ nw → (dt, dictOf es n0) ∈ nw → Deed w 404 [.ref t, .str (Str.ofString "mod") to, .int x tx, .int y ty] nw 10 _ False := fun nw to h1 h2 => due_i_mod h1 h2 gk gl gh _ _ _ _ _ (by omega) (by omega)
    apply turn_9 _ _ _ _ _ _ _ _ _ _ _ _ _ _ _ _ _ _ _ _ _ _ _ _ _ _ _ _ _ _ _ _ _ _ _ ol _ _ _ _ B F2 X N2 T hd hu d1 d2 ms2 mt2 mp2 ml2 mo2 (.tail _ (.tail _ ht)) (.tail _ (.tail _ hdt)) (.head _) lop hdp (by rfl : valueAt _ _ = some (.ref 130)) D2 D4
    intro h3 tk3 m3 F3 N3 ms3 mt3 ml3
    apply turn_d_int _ _ _ _ _ _ _ _ _ _ _ _ _ _ _ _ _ _ _ _ _ _ _ _ _ _ _ _ _ _ _ _ _ _ _ _ _ _ _ _ _ B F3 X N3 T hd hu hc n1' n2' (tail_in (tail_in hr)) (TurnEnd.at ret h3 tk3) d1 d2 ms3 mt3 ml3 (.tail _ (.tail _ ht)) (.tail _ (.tail _ hdt)) gk gl gh gm q1 q2 q3 x0 x1 (.tail _ (.head _)) lol hdl
  · cases hv
    apply turn_8n _ _ _ _ _ _ _ _ _ _ _ _ _ _ _ _ _ _ _ _ _ _ _ _ _ _ _ _ _ _ _ _ _ _ B F1 X N1 T hd hu d1 d2 ms mt mp ml mo mn (by decide)
    intro h2 tk2 m2 F2 N2 ms2 mt2 mp2 ml2 mo2
    have D2 : ∀ nw, (t, instObj 308 dt) ∈ nw → (dt, dictOf es n0) ∈ nw → DeedT w 418 [.ref 123, .ref t, .int x tx, .int y ty] nw 14 _ := fun nw h1 h2 => two_rem h1 h2 _ _ _ _ (by omega) (by omega)
    have D4 : ∀ nw to, (t, instObj 308 dt) ∈ nw → (dt, dictOf es n0) ∈ nw → Deed w 404 [.ref t, .str (Str.ofString "rem") to, .int x tx, .int y ty] nw 10 _ False := fun nw to h1 h2 => due_i_rem h1 h2 gk gl gh _ _ _ _ _ (by omega) (by omega)
    apply turn_9 _ _ _ _ _ _ _ _ _ _ _ _ _ _ _ _ _ _ _ _ _ _ _ _ _ _ _ _ _ _ _ _ _ _ _ ol _ _ _ _ B F2 X N2 T hd hu d1 d2 ms2 mt2 mp2 ml2 mo2 (.tail _ (.tail _ ht)) (.tail _ (.tail _ hdt)) (.head _) lop hdp (by rfl : valueAt _ _ = some (.ref 123)) D2 D4
    intro h3 tk3 m3 F3 N3 ms3 mt3 ml3
    apply turn_d_int _ _ _ _ _ _ _ _ _ _ _ _ _ _ _ _ _ _ _ _ _ _ _ _ _ _ _ _ _ _ _ _ _ _ _ _ _ _ _ _ _ B F3 X N3 T hd hu hc n1' n2' (tail_in (tail_in hr)) (TurnEnd.at ret h3 tk3) d1 d2 ms3 mt3 ml3 (.tail _ (.tail _ ht)) (.tail _ (.tail _ hdt)) gk gl gh gm q1 q2 q3 x0 x1 (.tail _ (.head _)) lol hdl
  · simp at hv
theorem turn_k_mod {w : World} : (fun (b : List Stmt) (_ : turnFrom 4 = b) (sc : Scope) (_ : fScope (stAt 60) = sc) =>
  ∀ (fa : Addr) (fcd : Value) (prog : Program) (p : Program) (loose : List Str) (mean : ExcName → Option Value) (mg mb : Str → Option Value) (dp un : Nat) (gd : Option (List Code)) (A₀ : Around) (h₀ : Heap) (L c1 c2 sl : Addr) (o1 o2 : Obj) (m : Str → Option Value) (news rest : List (Addr × Obj)) (s : Shared) (Q : Flow → Shared → Prop) (x y n kk : Int) (tx ty tn tk : Tok) (t dt : Addr) (es : List DictEntry) (n0 : Nat) (ik il ih im : Tok) (md : Int) (nn : Nat) (vs : List Value) (ns : List Int),
    Below A₀ h₀ [] h₀ → Fr h₀ L s.heap m → (Mine.K w.params).In h₀ → News h₀ L s.heap ((c2, o2) :: (c1, o1) :: news) → Top p loose mean mg mb h₀ → dp + 40 < recursionLimit → un + 320 < cLine → c2 ≠ c1 → (∀ p ∈ news, p.1 ≠ c1) → (∀ p ∈ news, p.1 ≠ c2) → (∀ p ∈ rest, p ∈ news) → TurnEnd h₀ L c1 c2 sl rest s Q → o1.data = .cell (some (.int x tx)) → o2.data = .cell (some (.int y ty)) → m (Str.ofString "s") = some (.ref sl) → m (Str.ofString "k") = some (.int kk tk) → m (Str.ofString "t") = some (.ref t) → m (Str.ofString "n") = some (.int n tn) → (sl, W.listOf vs.toArray nn) ∈ news → IntsAre vs ns → ns.length ≤ 63 → 0 ≤ kk → kk < ns.length → (t, instObj 308 dt) ∈ news → (dt, dictOf es n0) ∈ news → getL (Str.ofString "kind") es = some (some (.str (Str.ofString "mod") ik)) → getL (Str.ofString "low") es = some (some (.int 0 il)) → getL (Str.ofString "high") es = some (some (.int (md - 1) ih)) → getL (Str.ofString "modulus") es = some (some (.int md im)) → 0 < md → md ≤ 8589934592 → 0 ≤ x → x < md → 0 ≤ y → y < md → 
    wpAny (model prog w) (ktrTop dp un gd (Str.ofString "law") sc L fa fcd [((Str.ofString "y"), c2), ((Str.ofString "x"), c1)] []) (execs b (envX (Str.ofString "law") sc L fa fcd [((Str.ofString "y"), c2), ((Str.ofString "x"), c1)])) Q (fun _ _ => False) s) _ (by conv => { lhs; whnf }) _ (by conv => { lhs; whnf }) := by
  intro fa fcd prog p loose mean mg mb dp un gd A₀ h₀ L c1 c2 sl o1 o2 m news rest s Q x y n kk tx ty tn tk t dt es n0 ik il ih im md nn vs ns B F X N T hd hu hc n1 n2 hr ret d1 d2 e1 e2 e3 e4 hl hI hlen k0 k1 ht hdt gk gl gh gm q1 q2 x0 x1 y0 y1
  apply turn_b_mod _ _ _ _ _ _ _ _ _ _ _ _ _ _ _ _ _ _ _ _ _ _ _ _ _ _ _ _ _ _ _ _ _ _ _ _ _ _ _ _ _ _ _ B F X N T hd hu d1 d2 n1 n2 e1 e2 e3 e4 hl hI hlen k0 k1 ht hdt gk gl gh gm q1 q2
  intro h' tk' m' Dp Dl op' ol i v hv lop hdp lol hdl n1' n2' F1 N1 ms mt mp ml mo mn
  rcases i with _ | _ | _ | _ | _ | _ | _ | _ | _ | _ | i
  · cases hv
    apply turn_8n _ _ _ _ _ _ _ _ _ _ _ _ _ _ _ _ _ _ _ _ _ _ _ _ _ _ _ _ _ _ _ _ _ _ B F1 X N1 T hd hu d1 d2 ms mt mp ml mo mn (by decide)
    intro h2 tk2 m2 F2 N2 ms2 mt2 mp2 ml2 mo2
    have D2 : ∀ nw, (t, instObj 308 dt) ∈ nw → (dt, dictOf es n0) ∈ nw → DeedT w 418 [.ref 193, .ref t, .int x tx, .int y ty] nw 14 _ := fun nw h1 h2 => two_m_mul h1 h2 gm q1 _ _ _ _ (by omega) (by omega)
    have D4 : ∀ nw to, (t, instObj 308 dt) ∈ nw → (dt, dictOf es n0) ∈ nw → Deed w 404 [.ref t, .str (Str.ofString "*") to, .int x tx, .int y ty] nw 10 _ False := fun nw to h1 h2 => due_m_mul h1 h2 gk gl gh gm q1 _ _ _ _ _ (by omega) (by omega)
    apply turn_9 _ _ _ _ _ _ _ _ _ _ _ _ _ _ _ _ _ _ _ _ _ _ _ _ _ _ _ _ _ _ _ _ _ _ _ ol _ _ _ _ B F2 X N2 T hd hu d1 d2 ms2 mt2 mp2 ml2 mo2 (.tail _ (.tail _ ht)) (.tail _ (.tail _ hdt)) (.head _) lop hdp (by rfl : valueAt _ _ = some (.ref 193)) D2 D4
    intro h3 tk3 m3 F3 N3 ms3 mt3 ml3
    apply turn_d_mod _ _ _ _ _ _ _ _ _ _ _ _ _ _ _ _ _ _ _ _ _ _ _ _ _ _ _ _ _ _ _ _ _ _ _ _ _ _ _ B F3 X N3 T hd hu hc n1' n2' (tail_in (tail_in hr)) (TurnEnd.at ret h3 tk3) d1 d2 ms3 mt3 ml3 (.tail _ (.tail _ ht)) (.tail _ (.tail _ hdt)) gk gl gh gm q1 q2 x0 x1 (.tail _ (.head _)) lol hdl
  · cases hv
    apply turn_8y _ _ _ _ _ _ _ _ _ _ _ _ _ _ _ _ _ _ _ _ _ _ _ _ _ _ _ _ _ _ _ _ _ _ B F1 X N1 T hd hu d1 d2 ms mt mp ml mo mn rfl hc (fun p hp => n2' p hp)
    intro h2 tk2 m2 o3 y3 ty3 b1 b2 d3 F2 N2 ms2 mt2 mp2 ml2 mo2
    have D2 : ∀ nw, (t, instObj 308 dt) ∈ nw → (dt, dictOf es n0) ∈ nw → DeedT w 418 [.ref 200, .ref t, .int x tx, .int y3 ty3] nw 14 _ := fun nw h1 h2 => two_m_pow h1 h2 gm q1 _ _ _ _ (by omega) x0 x1
    have D4 : ∀ nw to, (t, instObj 308 dt) ∈ nw → (dt, dictOf es n0) ∈ nw → Deed w 404 [.ref t, .str (Str.ofString "**") to, .int x tx, .int y3 ty3] nw 10 _ False := fun nw to h1 h2 => due_m_pow h1 h2 gk gl gh gm q1 _ _ _ _ _ b2 (by omega) x0 x1
    apply turn_9 _ _ _ _ _ _ _ _ _ _ _ _ _ _ _ _ _ _ _ _ _ _ _ _ _ _ _ _ _ _ _ _ _ _ _ ol _ _ _ _ B F2 X N2 T hd hu d1 d3 ms2 mt2 mp2 ml2 mo2 (.tail _ (.tail _ ht)) (.tail _ (.tail _ hdt)) (.head _) lop hdp (by rfl : valueAt _ _ = some (.ref 200)) D2 D4
    intro h3 tk3 m3 F3 N3 ms3 mt3 ml3
    apply turn_d_mod _ _ _ _ _ _ _ _ _ _ _ _ _ _ _ _ _ _ _ _ _ _ _ _ _ _ _ _ _ _ _ _ _ _ _ _ _ _ _ B F3 X N3 T hd hu hc n1' n2' (tail_in (tail_in hr)) (TurnEnd.at ret h3 tk3) d1 d3 ms3 mt3 ml3 (.tail _ (.tail _ ht)) (.tail _ (.tail _ hdt)) gk gl gh gm q1 q2 x0 x1 (.tail _ (.head _)) lol hdl
  · cases hv
    apply turn_8n _ _ _ _ _ _ _ _ _ _ _ _ _ _ _ _ _ _ _ _ _ _ _ _ _ _ _ _ _ _ _ _ _ _ B F1 X N1 T hd hu d1 d2 ms mt mp ml mo mn (by decide)
    intro h2 tk2 m2 F2 N2 ms2 mt2 mp2 ml2 mo2
    have D2 : ∀ nw, (t, instObj 308 dt) ∈ nw → (dt, dictOf es n0) ∈ nw → DeedT w 418 [.ref 179, .ref t, .int x tx, .int y ty] nw 14 _ := fun nw h1 h2 => two_m_add h1 h2 gm q1 _ _ _ _
    have D4 : ∀ nw to, (t, instObj 308 dt) ∈ nw → (dt, dictOf es n0) ∈ nw → Deed w 404 [.ref t, .str (Str.ofString "+") to, .int x tx, .int y ty] nw 10 _ False := fun nw to h1 h2 => due_m_add h1 h2 gk gl gh gm q1 _ _ _ _ _ (by omega) (by omega)
    apply turn_9 _ _ _ _ _ _ _ _ _ _ _ _ _ _ _ _ _ _ _ _ _ _ _ _ _ _ _ _ _ _ _ _ _ _ _ ol _ _ _ _ B F2 X N2 T hd hu d1 d2 ms2 mt2 mp2 ml2 mo2 (.tail _ (.tail _ ht)) (.tail _ (.tail _ hdt)) (.head _) lop hdp (by rfl : valueAt _ _ = some (.ref 179)) D2 D4
    intro h3 tk3 m3 F3 N3 ms3 mt3 ml3
    apply turn_d_mod _ _ _ _ _ _ _ _ _ _ _ _ _ _ _ _ _ _ _ _ _ _ _ _ _ _ _ _ _ _ _ _ _ _ _ _ _ _ _ B F3 X N3 T hd hu hc n1' n2' (tail_in (tail_in hr)) (TurnEnd.at ret h3 tk3) d1 d2 ms3 mt3 ml3 (.tail _ (.tail _ ht)) (.tail _ (.tail _ hdt)) gk gl gh gm q1 q2 x0 x1 (.tail _ (.head _)) lol hdl
  · cases hv
    apply turn_8n _ _ _ _ _ _ _ _ _ _ _ _ _ _ _ _ _ _ _ _ _ _ _ _ _ _ _ _ _ _ _ _ _ _ B F1 X N1 T hd hu d1 d2 ms mt mp ml mo mn (by decide)
    intro h2 tk2 m2 F2 N2 ms2 mt2 mp2 ml2 mo2
    have D2 : ∀ nw, (t, instObj 308 dt) ∈ nw → (dt, dictOf es n0) ∈ nw → DeedT w 418 [.ref 186, .ref t, .int x tx, .int y ty] nw 14 _ := fun nw h1 h2 => two_m_sub h1 h2 gm q1 _ _ _ _
    have D4 : ∀ nw to, (t, instObj 308 dt) ∈ nw → (dt, dictOf es n0) ∈ nw → Deed w 404 [.ref t, .str (Str.ofString "-") to, .int x tx, .int y ty] nw 10 _ False := fun nw to h1 h2 => due_m_sub h1 h2 gk gl gh gm q1 _ _ _ _ _ (by omega) (by omega)
    apply turn_9 _ _ _ _ _ _ _ _ _ _ _ _ _ _ _ _ _ _ _ _ _ _ _ _ _ _ _ _ _ _ _ _ _ _ _ ol _ _ _ _ B F2 X N2 T hd hu d1 d2 ms2 mt2 mp2 ml2 mo2 (.tail _ (.tail _ ht)) (.tail _ (.tail _ hdt)) (.head _) lop hdp (by rfl : valueAt _ _ = some (.ref 186)) D2 D4
    intro h3 tk3 m3 F3 N3 ms3 mt3 ml3
    apply turn_d_mod _ _ _ _ _ _ _ _ _ _ _ _ _ _ _ _ _ _ _ _ _ _ _ _ _ _ _ _ _ _ _ _ _ _ _ _ _ _ _ B F3 X N3 T hd hu hc n1' n2' (tail_in (tail_in hr)) (TurnEnd.at ret h3 tk3) d1 d2 ms3 mt3 ml3 (.tail _ (.tail _ ht)) (.tail _ (.tail _ hdt)) gk gl gh gm q1 q2 x0 x1 (.tail _ (.head _)) lol hdl
  · cases hv
    apply turn_8n _ _ _ _ _ _ _ _ _ _ _ _ _ _ _ _ _ _ _ _ _ _ _ _ _ _ _ _ _ _ _ _ _ _ B F1 X N1 T hd hu d1 d2 ms mt mp ml mo mn (by decide)
    intro h2 tk2 m2 F2 N2 ms2 mt2 mp2 ml2 mo2
    have D2 : ∀ nw, (t, instObj 308 dt) ∈ nw → (dt, dictOf es n0) ∈ nw → DeedT w 418 [.ref 116, .ref t, .int x tx, .int y ty] nw 14 _ := fun nw h1 h2 => two_m_div h1 h2 gl gh _ _ _ _ x0 x1 y0 (by omega) (by omega)
    have D4 : ∀ nw to, (t, instObj 308 dt) ∈ nw → (dt, dictOf es n0) ∈ nw → Deed w 404 [.ref t, .str (Str.ofString "/") to, .int x tx, .int y ty] nw 10 _ False := fun nw to h1 h2 => due_m_div h1 h2 gk gl gh gm q1 _ _ _ _ _ (by omega) (by omega)
    apply turn_9 _ _ _ _ _ _ _ _ _ _ _ _ _ _ _ _ _ _ _ _ _ _ _ _ _ _ _ _ _ _ _ _ _ _ _ ol _ _ _ _ B F2 X N2 T hd hu d1 d2 ms2 mt2 mp2 ml2 mo2 (.tail _ (.tail _ ht)) (.tail _ (.tail _ hdt)) (.head _) lop hdp (by rfl : valueAt _ _ = some (.ref 116)) D2 D4
    intro h3 tk3 m3 F3 N3 ms3 mt3 ml3
    apply turn_d_mod _ _ _ _ _ _ _ _ _ _ _ _ _ _ _ _ _ _ _ _ _ _ _ _ _ _ _ _ _ _ _ _ _ _ _ _ _ _ _ B F3 X N3 T hd hu hc n1' n2' (tail_in (tail_in hr)) (TurnEnd.at ret h3 tk3) d1 d2 ms3 mt3 ml3 (.tail _ (.tail _ ht)) (.tail _ (.tail _ hdt)) gk gl gh gm q1 q2 x0 x1 (.tail _ (.head _)) lol hdl
  · cases hv
    apply turn_8n _ _ _ _ _ _ _ _ _ _ _ _ _ _ _ _ _ _ _ _ _ _ _ _ _ _ _ _ _ _ _ _ _ _ B F1 X N1 T hd hu d1 d2 ms mt mp ml mo mn (by decide)
    intro h2 tk2 m2 F2 N2 ms2 mt2 mp2 ml2 mo2
    have D2 : ∀ nw, (t, instObj 308 dt) ∈ nw → (dt, dictOf es n0) ∈ nw → DeedT w 418 [.ref 214, .ref t, .int x tx, .int y ty] nw 14 _ := fun nw h1 h2 => two_m_and h1 h2 _ _ _ _ x0 x1 y0 y1 q2
    have D4 : ∀ nw to, (t, instObj 308 dt) ∈ nw → (dt, dictOf es n0) ∈ nw → Deed w 404 [.ref t, .str (Str.ofString "and") to, .int x tx, .int y ty] nw 10 _ False := fun nw to h1 h2 => due_m_and h1 h2 gk gl gh gm q1 _ _ _ _ _
    apply turn_9 _ _ _ _ _ _ _ _ _ _ _ _ _ _ _ _ _ _ _ _ _ _ _ _ _ _ _ _ _ _ _ _ _ _ _ ol _ _ _ _ B F2 X N2 T hd hu d1 d2 ms2 mt2 mp2 ml2 mo2 (.tail _ (.tail _ ht)) (.tail _ (.tail _ hdt)) (.head _) lop hdp (by rfl : valueAt _ _ = some (.ref 214)) D2 D4
    intro h3 tk3 m3 F3 N3 ms3 mt3 ml3
    apply turn_d_mod _ _ _ _ _ _ _ _ _ _ _ _ _ _ _ _ _ _ _ _ _ _ _ _ _ _ _ _ _ _ _ _ _ _ _ _ _ _ _ B F3 X N3 T hd hu hc n1' n2' (tail_in (tail_in hr)) (TurnEnd.at ret h3 tk3) d1 d2 ms3 mt3 ml3 (.tail _ (.tail _ ht)) (.tail _ (.tail _ hdt)) gk gl gh gm q1 q2 x0 x1 (.tail _ (.head _)) lol hdl
  · cases hv
    apply turn_8n _ _ _ _ _ _ _ _ _ _ _ _ _ _ _ _ _ _ _ _ _ _ _ _ _ _ _ _ _ _ _ _ _ _ B F1 X N1 T hd hu d1 d2 ms mt mp ml mo mn (by decide)
    intro h2 tk2 m2 F2 N2 ms2 mt2 mp2 ml2 mo2
    have D2 : ∀ nw, (t, instObj 308 dt) ∈ nw → (dt, dictOf es n0) ∈ nw → DeedT w 418 [.ref 130, .ref t, .int x tx, .int y ty] nw 14 _ := fun nw h1 h2 => two_mod h1 h2 _ _ _ _ (by omega) (by omega)
    have D4 : ∀ nw to, (t, instObj 308 dt) ∈ nw → (dt, dictOf es n0) ∈ nw → Deed w 404 [.ref t, .str (Str.ofString "mod") to, .int x tx, .int y ty] nw 10 _ False := fun nw to h1 h2 => due_m_mod h1 h2 gk gl gh gm q1 _ _ _ _ _ (by omega) (by omega)
    apply turn_9 _ _ _ _ _ _ _ _ _ _ _ _ _ _ _ _ _ _ _ _ _ _ _ _ _ _ _ _ _ _ _ _ _ _ _ ol _ _ _ _ B F2 X N2 T hd hu d1 d2 ms2 mt2 mp2 ml2 mo2 (.tail _ (.tail _ ht)) (.tail _ (.tail _ hdt)) (.head _) lop hdp (by rfl : valueAt _ _ = some (.ref 130)) D2 D4
    intro h3 tk3 m3 F3 N3 ms3 mt3 ml3
    apply turn_d_mod _ _ _ _ _ _ _ _ _ _ _ _ _ _ _ _ _ _ _ _ _ _ _ _ _ _ _ _ _ _ _ _ _ _ _ _ _ _ _ B F3 X N3 T hd hu hc n1' n2' (tail_in (tail_in hr)) (TurnEnd.at ret h3 tk3) d1 d2 ms3 mt3 ml3 (.tail _ (.tail _ ht)) (.tail _ (.tail _ hdt)) gk gl gh gm q1 q2 x0 x1 (.tail _ (.head _)) lol hdl
  · cases hv
    apply turn_8n _ _ _ _ _ _ _ _ _ _ _ _ _ _ _ _ _ _ _ _ _ _ _ _ _ _ _ _ _ _ _ _ _ _ B F1 X N1 T hd hu d1 d2 ms mt mp ml mo mn (by decide)
    intro h2 tk2 m2 F2 N2 ms2 mt2 mp2 ml2 mo2
    have D2 : ∀ nw, (t, instObj 308 dt) ∈ nw → (dt, dictOf es n0) ∈ nw → DeedT w 418 [.ref 221, .ref t, .int x tx, .int y ty] nw 14 _ := fun nw h1 h2 => two_m_or h1 h2 gk gm q1 _ _ _ _ x0 x1 y0 y1 q2
    have D4 : ∀ nw to, (t, instObj 308 dt) ∈ nw → (dt, dictOf es n0) ∈ nw → Deed w 404 [.ref t, .str (Str.ofString "or") to, .int x tx, .int y ty] nw 10 _ False := fun nw to h1 h2 => due_m_or h1 h2 gk gl gh gm q1 _ _ _ _ _
    apply turn_9 _ _ _ _ _ _ _ _ _ _ _ _ _ _ _ _ _ _ _ _ _ _ _ _ _ _ _ _ _ _ _ _ _ _ _ ol _ _ _ _ B F2 X N2 T hd hu d1 d2 ms2 mt2 mp2 ml2 mo2 (.tail _ (.tail _ ht)) (.tail _ (.tail _ hdt)) (.head _) lop hdp (by rfl : valueAt _ _ = some (.ref 221)) D2 D4
    intro h3 tk3 m3 F3 N3 ms3 mt3 ml3
    apply turn_d_mod _ _ _ _ _ _ _ _ _ _ _ _ _ _ _ _ _ _ _ _ _ _ _ _ _ _ _ _ _ _ _ _ _ _ _ _ _ _ _ B F3 X N3 T hd hu hc n1' n2' (tail_in (tail_in hr)) (TurnEnd.at ret h3 tk3) d1 d2 ms3 mt3 ml3 (.tail _ (.tail _ ht)) (.tail _ (.tail _ hdt)) gk gl gh gm q1 q2 x0 x1 (.tail _ (.head _)) lol hdl
  · cases hv
    apply turn_8n _ _ _ _ _ _ _ _ _ _ _ _ _ _ _ _ _ _ _ _ _ _ _ _ _ _ _ _ _ _ _ _ _ _ B F1 X N1 T hd hu d1 d2 ms mt mp ml mo mn (by decide)
    intro h2 tk2 m2 F2 N2 ms2 mt2 mp2 ml2 mo2
    have D2 : ∀ nw, (t, instObj 308 dt) ∈ nw → (dt, dictOf es n0) ∈ nw → DeedT w 418 [.ref 123, .ref t, .int x tx, .int y ty] nw 14 _ := fun nw h1 h2 => two_rem h1 h2 _ _ _ _ (by omega) (by omega)
    have D4 : ∀ nw to, (t, instObj 308 dt) ∈ nw → (dt, dictOf es n0) ∈ nw → Deed w 404 [.ref t, .str (Str.ofString "rem") to, .int x tx, .int y ty] nw 10 _ False := fun nw to h1 h2 => due_m_rem h1 h2 gk gl gh gm q1 _ _ _ _ _ (by omega) (by omega)
    apply turn_9 _ _ _ _ _ _ _ _ _ _ _ _ _ _ _ _ _ _ _ _ _ _ _ _ _ _ _ _ _ _ _ _ _ _ _ ol _ _ _ _ B F2 X N2 T hd hu d1 d2 ms2 mt2 mp2 ml2 mo2 (.tail _ (.tail _ ht)) (.tail _ (.tail _ hdt)) (.head _) lop hdp (by rfl : valueAt _ _ = some (.ref 123)) D2 D4
    intro h3 tk3 m3 F3 N3 ms3 mt3 ml3
    apply turn_d_mod _ _ _ _ _ _ _ _ _ _ _ _ _ _ _ _ _ _ _ _ _ _ _ _ _ _ _ _ _ _ _ _ _ _ _ _ _ _ _ B F3 X N3 T hd hu hc n1' n2' (tail_in (tail_in hr)) (TurnEnd.at ret h3 tk3) d1 d2 ms3 mt3 ml3 (.tail _ (.tail _ ht)) (.tail _ (.tail _ hdt)) gk gl gh gm q1 q2 x0 x1 (.tail _ (.head _)) lol hdl
  · cases hv
    apply turn_8n _ _ _ _ _ _ _ _ _ _ _ _ _ _ _ _ _ _ _ _ _ _ _ _ _ _ _ _ _ _ _ _ _ _ B F1 X N1 T hd hu d1 d2 ms mt mp ml mo mn (by decide)
    intro h2 tk2 m2 F2 N2 ms2 mt2 mp2 ml2 mo2
    have D2 : ∀ nw, (t, instObj 308 dt) ∈ nw → (dt, dictOf es n0) ∈ nw → DeedT w 418 [.ref 228, .ref t, .int x tx, .int y ty] nw 14 _ := fun nw h1 h2 => two_m_xor h1 h2 gk gm q1 _ _ _ _ x0 x1 y0 y1 q2
    have D4 : ∀ nw to, (t, instObj 308 dt) ∈ nw → (dt, dictOf es n0) ∈ nw → Deed w 404 [.ref t, .str (Str.ofString "xor") to, .int x tx, .int y ty] nw 10 _ False := fun nw to h1 h2 => due_m_xor h1 h2 gk gl gh gm q1 _ _ _ _ _
    apply turn_9 _ _ _ _ _ _ _ _ _ _ _ _ _ _ _ _ _ _ _ _ _ _ _ _ _ _ _ _ _ _ _ _ _ _ _ ol _ _ _ _ B F2 X N2 T hd hu d1 d2 ms2 mt2 mp2 ml2 mo2 (.tail _ (.tail _ ht)) (.tail _ (.tail _ hdt)) (.head _) lop hdp (by rfl : valueAt _ _ = some (.ref 228)) D2 D4
    intro h3 tk3 m3 F3 N3 ms3 mt3 ml3
    apply turn_d_mod _ _ _ _ _ _ _ _ _ _ _ _ _ _ _ _ _ _ _ _ _ _ _ _ _ _ _ _ _ _ _ _ _ _ _ _ _ _ _ B F3 X N3 T hd hu hc n1' n2' (tail_in (tail_in hr)) (TurnEnd.at ret h3 tk3) d1 d2 ms3 mt3 ml3 (.tail _ (.tail _ ht)) (.tail _ (.tail _ hdt)) gk gl gh gm q1 q2 x0 x1 (.tail _ (.head _)) lol hdl
  · simp at hv
theorem tyok_b {kd : Str} {lo hi md : Int} (h : TyOk kd lo hi md) : lo ≤ hi ∧ -2199023255552 ≤ lo ∧ hi ≤ 2199023255552 := by
  cases h with
  | int e h1 h2 =>
    have z : 2 ^ e ≤ 2 ^ 40 := Nat.pow_le_pow_right (by decide) h2
    have z1 : 0 < 2 ^ e := Nat.pow_pos (by decide)
    rw [pow2_nat]; omega
  | mod _ h1 h2 => omega
  | enum => omega
theorem pow_b (e : Nat) (h1 : 1 ≤ e) (h2 : e ≤ 40) : (2 : Int) ≤ 2 ^ e ∧ (2 : Int) ^ e ≤ 1099511627776 := by
  have z : 2 ^ e ≤ 2 ^ 40 := Nat.pow_le_pow_right (by decide) h2
  have z1 : 2 ^ 1 ≤ 2 ^ e := Nat.pow_le_pow_right (by decide) h1
  rw [pow2_nat]; omega
section
local macro_rules | `(tactic| walk_at "execs cons") => `(tactic| (k_here; (with_reducible show wpAny _ _ (execs (Stmt.Assign [PySem.Expr.Name (PySem.Str.ofString "pairs") _] _ _ :: _) _) _ _ _); refine Hid.out ?_))
local macro_rules | `(tactic| walk_at "call ref") => `(tactic| (k_here; (with_reducible show wpAny _ _ (call (Value.ref 362) _) _ _ _); k_dflt (refine' Deed.use (law_value_d ?ht ?hdt ?gl ?gh ?hlh ?b1 ?b2 _ _) ?kB ?kF ?kX ?kN ?kT ?kK ?kd ?ku ?_ ?ke; walk_at "solve"; (case ht => k_mem); (case hdt => k_mem); (case gl => assumption); (case gh => assumption); (case hlh => exact (tyok_b (by assumption)).1); (case b1 => exact (tyok_b (by assumption)).2.1); (case b2 => exact (tyok_b (by assumption)).2.2); (case ke => exact fun h9 => h9.elim); intro r9 h9 tk9 P9 F9 N9; (try k_sweep); (obtain ⟨v9, t9, ⟨⟩, lo9, hi9⟩ := P9))))
local macro_rules | `(tactic| walk_at "call ref") => `(tactic| (k_here; (with_reducible show wpAny _ _ (call (Value.ref 355) _) _ _ _); k_dflt (refine' TypeD.use (law_type_d _ _) ?kB ?kF ?kX ?kN ?kT ?kK ?kd ?ku ?_; walk_at "solve"; intro kd9 lo9 hi9 md9 t9 d9 es9 n9 h9 tk9 ok9 is9 F9 N9; (try k_sweep); have N8 := swap2 N9; clear N9; obtain ⟨⟨ik9, gk9⟩, ⟨il9, gl9⟩, ⟨ih9, gh9⟩, ⟨im9, gm9⟩⟩ := is9; obtain ⟨ne1, ne2⟩ := apart2 N8 (by assumption) (by assumption) (by assumption) (by assumption))))
theorem turn_a {w : World} : (fun (b : List Stmt) (_ : turnFrom 0 = b) (sc : Scope) (_ : fScope (stAt 60) = sc) =>
  ∀ (fa : Addr) (fcd : Value) (prog : Program) (p : Program) (loose : List Str) (mean : ExcName → Option Value) (mg mb : Str → Option Value) (dp un : Nat) (gd : Option (List Code)) (A₀ : Around) (h₀ : Heap) (L c1 c2 sl : Addr) (o1 o2 : Obj) (m : Str → Option Value) (news rest : List (Addr × Obj)) (s : Shared) (Q : Flow → Shared → Prop) (xv yv : Option Value) (nn : Nat) (vs : List Value) (ns : List Int) (kk : Int) (tk : Tok),
    Below A₀ h₀ [] h₀ → Fr h₀ L s.heap m → (Mine.K w.params).In h₀ → News h₀ L s.heap ((c2, o2) :: (c1, o1) :: news) → Top p loose mean mg mb h₀ → dp + 40 < recursionLimit → un + 320 < cLine → c2 ≠ c1 → (∀ p ∈ news, p.1 ≠ c1) → (∀ p ∈ news, p.1 ≠ c2) → (∀ p ∈ rest, p ∈ news) → TurnEnd h₀ L c1 c2 sl rest s Q → o1.data = .cell xv → o2.data = .cell yv → m (Str.ofString "s") = some (.ref sl) → m (Str.ofString "k") = some (.int kk tk) → (sl, W.listOf vs.toArray nn) ∈ news → IntsAre vs ns → ns.length ≤ 63 → 0 ≤ kk → kk < ns.length → 
    wpAny (model prog w) (ktrTop dp un gd (Str.ofString "law") sc L fa fcd [((Str.ofString "y"), c2), ((Str.ofString "x"), c1)] []) (execs b (envX (Str.ofString "law") sc L fa fcd [((Str.ofString "y"), c2), ((Str.ofString "x"), c1)])) Q (fun _ _ => False) s) _ (by conv => { lhs; whnf }) _ (by conv => { lhs; whnf }) := by
  intro fa fcd prog p loose mean mg mb dp un gd A₀ h₀ L c1 c2 sl o1 o2 m news rest s Q xv yv nn vs ns kk tk B F X N T hd hu hc n1 n2 hr ret d1 d2 es ek hl hi hlen k0 k1
  have F₂ := fr_at2 F es ek
  clear F
  k_steps
  unfold Hid
  (with_reducible rename Fr _ _ _ _ => F1); (with_reducible rename News _ _ _ _ => N1); (with_reducible rename TyOk _ _ _ _ => ok9)
  rename getL (Str.ofString "kind") _ = _ => gk9
  rename getL (Str.ofString "low") _ = _ => gl9
  rename getL (Str.ofString "high") _ = _ => gh9
  rename getL (Str.ofString "modulus") _ = _ => gm9
  rename ∀ p : Addr × Obj, p ∈ (_ :: _ :: news) → p.1 ≠ c1 => ne1
  rename ∀ p : Addr × Obj, p ∈ (_ :: _ :: news) → p.1 ≠ c2 => ne2
  (with_reducible rename Obj.data _ = _ => d2'); revert d2'; (with_reducible rename Obj.data _ = _ => d1'); intro d2'
  cases ok9 with
  | int e h1 h2 =>
    have pb := pow_b e h1 h2
    apply turn_k_int _ _ _ _ _ _ _ _ _ _ _ _ _ _ _ _ _ _ _ _ _ _ _ _ _ _ _ _ _ _ _ _ _ _ _ _ _ _ _ _ _ _ _ _ _ _ B F1 X N1 T hd hu hc ne1 ne2 (tail_in (tail_in hr)) (TurnEnd.at ret _ _) d1' d2' ?_ ?_ ?_ ?_ (.tail _ (.tail _ hl)) hi hlen k0 k1 (.head _) (.tail _ (.head _)) gk9 gl9 gh9 gm9 (by omega) (by omega) (by omega) (by assumption) (by assumption) (by assumption) (by assumption)
    all_goals ((try dsimp only); (repeat (first | rw [if_pos rfl] | rw [if_neg (by decide)])))
  | mod _ h1 h2 =>
    apply turn_k_mod _ _ _ _ _ _ _ _ _ _ _ _ _ _ _ _ _ _ _ _ _ _ _ _ _ _ _ _ _ _ _ _ _ _ _ _ _ _ _ _ _ _ _ _ B F1 X N1 T hd hu hc ne1 ne2 (tail_in (tail_in hr)) (TurnEnd.at ret _ _) d1' d2' ?_ ?_ ?_ ?_ (.tail _ (.tail _ hl)) hi hlen k0 k1 (.head _) (.tail _ (.head _)) gk9 gl9 gh9 gm9 (by omega) h2 (by assumption) (by omega) (by assumption) (by omega)
    all_goals ((try dsimp only); (repeat (first | rw [if_pos rfl] | rw [if_neg (by decide)])))
  | enum =>
    apply turn_k_enum _ _ _ _ _ _ _ _ _ _ _ _ _ _ _ _ _ _ _ _ _ _ _ _ _ _ _ _ _ _ _ _ _ _ _ _ _ _ _ _ _ _ _ _ B F1 X N1 T hd hu hc ne1 ne2 (tail_in (tail_in hr)) (TurnEnd.at ret _ _) d1' d2' ?_ ?_ ?_ ?_ (.tail _ (.tail _ hl)) hi hlen k0 k1 (.head _) (.tail _ (.head _)) gk9 gl9 gh9 gm9 (by assumption) (by assumption) (by assumption) (by assumption)
    all_goals ((try dsimp only); (repeat (first | rw [if_pos rfl] | rw [if_neg (by decide)])))
end
theorem small_few {n : Int} (h0 : 0 ≤ n) (h : n ≤ 63) : Builtin.Range.small 0 n 4 = true := by
  have h1 : ∀ k : Nat, k ≤ 63 → Builtin.Range.small 0 (k : Int) 4 = true := by decide +kernel
  have h2 := h1 n.toNat (by omega)
  rwa [Int.toNat_of_nonneg h0] at h2
theorem turns {w : World} : (fun (b : List Stmt) (_ : turnFrom 0 = b) (sc : Scope) (_ : fScope (stAt 60) = sc) =>
  ∀ (fa : Addr) (fcd : Value) (prog : Program) (p : Program) (loose : List Str) (mean : ExcName → Option Value) (mg mb : Str → Option Value) (dp un : Nat) (gd : Option (List Code)) (A₀ : Around) (h₀ : Heap) (L c1 c2 sl r : Addr) (o1 o2 : Obj) (m : Str → Option Value) (s : Shared) (Q : Flow → Shared → Prop) (vs : List Value) (ns : List Int) (nn : Nat) (t₀ u₀ v₀ : Tok),
    Below A₀ h₀ [] h₀ → Fr h₀ L s.heap m → (Mine.K w.params).In h₀ → News h₀ L s.heap ((c2, o2) :: (c1, o1) :: [(sl, W.listOf vs.toArray nn)]) → Top p loose mean mg mb h₀ → dp + 40 < recursionLimit → un + 320 < cLine → c2 ≠ c1 → sl ≠ c1 → sl ≠ c2 →
    o1.data = .cell none → o2.data = .cell none → m (Str.ofString "s") = some (.ref sl) → IntsAre vs ns → ns.length ≤ 63 → IsRange s.heap r 0 ns.length 4 t₀ u₀ v₀ →
    (∀ h tk m₁ nx, Fr h₀ L h m₁ → News h₀ L h nx → Q .next { s with heap := h, toks := tk }) →
    wpAny (model prog w) (ktrTop dp un gd (Str.ofString "law") sc L fa fcd [((Str.ofString "y"), c2), ((Str.ofString "x"), c1)] []) (pyIter (.ref r)) (fun it s₂ => LoopAtV prog w (ktrTop dp un gd (Str.ofString "law") sc L fa fcd [((Str.ofString "y"), c2), ((Str.ofString "x"), c1)] []) h₀ (envX (Str.ofString "law") sc L fa fcd [((Str.ofString "y"), c2), ((Str.ofString "x"), c1)]) (Str.ofString "k") b Q (fun _ _ => False) it s₂) (fun _ _ => False) s) _ (by conv => { lhs; whnf }) _ (by conv => { lhs; whnf }) := by
  intro fa fcd prog p loose mean mg mb dp un gd A₀ h₀ L c1 c2 sl r o1 o2 m s Q vs ns nn t₀ u₀ v₀ B F X N T hd hu hc s1 s2 d1 d2 es hi hlen hr done
  refine range_cells (n := (Builtin.Range.rangeSize 0 (ns.length : Int) 4).toNat) (a1 := c2) (a2 := c1) (rest := [(sl, W.listOf vs.toArray nn)]) (fun m => m (Str.ofString "s") = some (.ref sl)) rfl hr (small_few (by omega) (by omega)) (rangeSize_toNat _ _ _) F N ⟨o2, o1, none, none, rfl, d2, d1⟩ es ?_ ?_
  · intro i t m₁ o1' o2' v1 v2 h tk own hin hoff hj e1 e2 F₁ N₁
    have z1 : ((Builtin.Range.rangeSize 0 (ns.length : Int) 4).toNat : Int) = Builtin.Range.rangeSize 0 (ns.length : Int) 4 := (rangeSize_toNat _ _ _).symm
    have z := start_inside (c := 4) (len := (ns.length : Int)) (v := (i : Int)) (by decide) (by omega) (by omega) (by omega)
    apply turn_a _ _ _ _ _ _ _ _ _ _ _ _ _ L c1 c2 sl o2' o1' _ ([(sl, W.listOf vs.toArray nn)] ++ own) ([(sl, W.listOf vs.toArray nn)] ++ own) _ _ v2 v1 nn vs ns (0 + (i : Int) * 4) t B F₁ X N₁ T hd hu hc ?_ ?_ (fun p hp => hp) ?_ e2 e1 ?_ (if_pos rfl) (.head _) hi hlen (by omega) (by omega)
    · intro p hp
      rcases List.mem_cons.mp hp with rfl | hp
      · exact s1
      · exact hoff.ne (.tail _ (.head _)) p hp
    · intro p hp
      rcases List.mem_cons.mp hp with rfl | hp
      · exact s2
      · exact hoff.ne (.head _) p hp
    · intro h' tk' m' news' q1 q2 w1 w2 F' N' hm1 hm2 x1 x2 hsub hs
      exact cell_next F' N' hm2 hm1 x2 x1 (fun p hp => hsub p (List.mem_append_left _ hp)) (fun p hp => hsub p (List.mem_append_right _ hp)) hs
    · rw [if_neg (by decide)]; exact hj
  · intro m₁ nx h tk _ _ F₁ N₁
    exact done h tk m₁ nx F₁ N₁
theorem news_w {h₀ h : Heap} {L : Addr} {a b x2 x1 : Addr × Obj} (N : News h₀ L h [a, b, x2, x1]) : News h₀ L h (x2 :: x1 :: [a]) := fun p hp => N p (by
  rcases List.mem_cons.mp hp with rfl | hp
  · exact .tail _ (.tail _ (.head _))
  rcases List.mem_cons.mp hp with rfl | hp
  · exact .tail _ (.tail _ (.tail _ (.head _)))
  rcases List.mem_cons.mp hp with rfl | hp
  · exact .head _
  · cases hp)
section
local macro_rules | `(tactic| walk_at "exec For Name Call cons nil") => `(tactic| (k_here; (rename Fr _ _ _ _ => lF'); (with_unfolding_all refine' For_invVF lF' ?k1 ?k2 ?_; (case k1 => exact rfl); (case k2 => exact rfl); k_whole)))
local macro_rules | `(tactic| walk_at "pyIter ref") => `(tactic| (k_here; (with_reducible show wpAny _ _ (pyIter _) (fun it s₂ => LoopAtV _ _ _ _ _ (PySem.Str.ofString "k") _ _ _ it s₂) _ _); refine Hid.out ?_))
theorem law_body {w : World} : (fun (b : List Stmt) (_ : fBody (stAt 60) = b) (sc : Scope) (_ : fScope (stAt 60) = sc) =>
  ∀ (fa : Addr) (fcd : Value) (prog : Program) (p : Program) (loose : List Str) (mean : ExcName → Option Value) (mg mb : Str → Option Value) (dp un : Nat) (gd : Option (List Code)) (A₀ : Around) (h₀ : Heap) (L c1 c2 l : Addr) (o1 o2 : Obj) (m : Str → Option Value) (s : Shared) (Q : Flow → Shared → Prop) (vs : List Value) (ns : List Int),
    Below A₀ h₀ [] h₀ → Fr h₀ L s.heap m → (Mine.K w.params).In h₀ → News h₀ L s.heap [(c2, o2), (c1, o1)] → Top p loose mean mg mb h₀ → dp + 40 < recursionLimit → un + 320 < cLine →
    o1.data = .cell none → o2.data = .cell none → c1 ≠ c2 → m (Str.ofString "script") = some (.ref l) → h₀.IsList l vs.toArray → IntsAre vs ns → ns.length ≤ 63 →
    (∀ h' tk' m', Fr h₀ L h' m' → Q (.ret (.bool true)) { s with heap := h', toks := tk' }) →
    wpAny (model prog w) (ktrTop dp un gd (Str.ofString "law") sc L fa fcd [((Str.ofString "y"), c2), ((Str.ofString "x"), c1)] []) (execs b (envX (Str.ofString "law") sc L fa fcd [((Str.ofString "y"), c2), ((Str.ofString "x"), c1)])) Q (fun _ _ => False) s) _ (by conv => { lhs; whnf }) _ (by conv => { lhs; whnf }) := by
  intro fa fcd prog p loose mean mg mb dp un gd A₀ h₀ L c1 c2 l o1 o2 m s Q vs ns B F X N T hd hu d1 d2 hc hs hl hi hlen ret
  have F₂ := fr_at1 F hs
  clear F
  k_steps
  all_goals unfold Hid
  all_goals ((with_reducible rename Fr _ _ _ _ => F1); (with_reducible rename News _ _ _ _ => N1); (with_reducible rename IsRange _ _ _ _ _ _ _ _ => R1))
  all_goals first
    | (apply turns _ _ _ _ _ _ _ _ _ _ _ _ _ L c1 c2 _ _ _ _ _ _ _ _ (List.take 20 ns) _ _ _ _ B F1 X (news_w N1) T hd hu (Ne.symm hc) ?_ ?_ d1 d2 ?_ (by assumption) (by omega) R1 ?_)
    | (apply turns _ _ _ _ _ _ _ _ _ _ _ _ _ L c1 c2 _ _ _ _ _ _ _ _ [4, 2, 1, 9] _ _ _ _ B F1 X (news_w N1) T hd hu (Ne.symm hc) ?_ ?_ d1 d2 ?_ (.cons _ _ (.cons _ _ (.cons _ _ (.cons _ _ .nil)))) (by decide) R1 ?_)
  all_goals first
    | k_ne
    | (exact if_pos rfl)
    | (intro h tk m₁ nx F2 N2; clear F1 N1 R1; dsimp only; k_steps; exact ret _ _ _ F2)
end
end Mine
namespace Mine
open PySem PySem.W PyProof.Rows
noncomputable def adds : List Nat := [2, 3, 15, 22, 24, 25, 27, 28, 29, 30, 31, 32, 35, 42, 44, 45, 47, 48, 49, 50, 51, 54, 56, 57, 59, 60, 61, 63, 64, 66, 67, 68, 70, 71, 73, 74, 75, 77, 78, 80, 81, 82, 84, 85, 87, 88, 89, 91, 92, 94, 95, 96, 98, 99, 101, 102, 103, 105, 106, 108, 109, 110, 112, 113, 115, 116, 117, 119, 120, 122, 123, 124, 126, 127, 129, 130, 131, 133, 134, 136, 137, 138, 140, 141, 143, 144, 145, 147, 148, 150, 151, 152, 154, 155, 157, 158, 159, 161, 162, 164, 165, 166, 168, 169, 171, 172, 173, 175, 176, 178, 179, 180, 182, 183, 185, 186, 187, 189, 190, 192, 193, 194, 196, 197, 199, 200, 201, 203, 204, 206, 207, 208, 210, 211, 213, 214, 215, 217, 218, 220, 221, 222, 224, 225, 227, 228, 229, 231, 232, 234, 235, 236, 238, 239, 241, 242, 243, 245, 246, 248, 249, 250, 252, 253, 255, 256, 257, 259, 260, 262, 263, 264, 266, 267, 269, 270, 271, 273, 274, 276, 277, 278, 280, 281, 283, 284, 285, 287, 288, 290, 291, 299, 301, 302, 304, 305, 306, 307, 308, 309, 310, 313, 315, 316, 318, 319, 320, 322, 323, 325, 326, 327, 329, 330, 332, 333, 334, 336, 337, 339, 340, 341, 342, 343, 344, 345, 346, 347, 348, 349, 351, 352, 354, 355, 356, 358, 359, 361, 362, 363, 365, 366, 368, 369, 370, 372, 373, 375, 376, 377, 379, 380, 382, 383, 384, 386, 387, 389, 390, 391, 393, 394, 396, 397, 398, 400, 401, 403, 404, 405, 407, 408, 410, 411, 412, 414, 415, 417, 418, 419, 421, 422, 424, 425, 426, 429, 430]
theorem head.tw3746228215898030841 : True := trivial
theorem head.tw2326617092838664518 : True := trivial
theorem head.tw466721876749952763 : True := trivial
theorem head.tw8912104118211102971 : True := trivial
theorem head.tw18433677622606106133 : True := trivial
theorem head.tw13508044439285423174 : True := trivial
theorem head.tw15436542981012472205 : True := trivial
theorem head.tw14882813523228863612 : True := trivial
theorem head.tw6211381574409162282 : True := trivial
theorem head.tw9062998866958442273 : True := trivial
theorem head.tw16572314662081343053 : True := trivial
theorem head.tw11821203517306503961 : True := trivial
theorem head.tw13246386896891170512 : True := trivial
theorem head.tw17212568112599259466 : True := trivial
theorem head.tw14744981736328886265 : True := trivial
theorem head.tw13942192884097748152 : True := trivial
theorem head.tw8476099583838051002 : True := trivial
theorem head.tw2728595385866086531 : True := trivial
theorem head.tw11290360913936777911 : True := trivial
theorem head.tw15895551434495452948 : True := trivial
theorem head.tw4764554697811233 : True := trivial
theorem head.tw13337238644230332656 : True := trivial
theorem head.tw9388430590476628193 : True := trivial
theorem head.tw17297054508065495485 : True := trivial
theorem head.tw10258521583956687137 : True := trivial
theorem head.tw16800043278716471037 : True := trivial
theorem head.tw10079960370226730655 : True := trivial
theorem head.tw12478146576626367362 : True := trivial
theorem head.tw820421773197932041 : True := trivial
theorem head.tw2355103038987944067 : True := trivial
theorem head.tw13585267454733459922 : True := trivial
theorem head.tw3980653432952411973 : True := trivial
theorem head.tw4964814941381164201 : True := trivial
theorem head.tw10431609616501453582 : True := trivial
theorem head.tw3944913497352057107 : True := trivial
theorem head.tw13412022041919118725 : True := trivial
theorem head.tw16408001845297377827 : True := trivial
theorem head.tw8535708456716222715 : True := trivial
theorem head.tw8812732774380208333 : True := trivial
theorem head.tw4528443807372415038 : True := trivial
theorem head.tw14843749296085226474 : True := trivial
theorem head.tw6161856959107265637 : True := trivial
theorem head.tw11427066125472700054 : True := trivial
theorem head.tw1495726902847802894 : True := trivial
theorem head.tw8874674299285249911 : True := trivial
theorem head.tw14195316510222423288 : True := trivial
theorem head.tw69809265629811306 : True := trivial
theorem head.tw8101760021730824546 : True := trivial
theorem head.tw12398312691204496596 : True := trivial
theorem head.tw12773685731770592110 : True := trivial
theorem head.tw6088685845774392931 : True := trivial
theorem head.tw11105056867450500199 : True := trivial
theorem head.tw11434997419882176723 : True := trivial
theorem head.tw17453365369857097546 : True := trivial
theorem head.tw4857777746444614323 : True := trivial
theorem head.tw15894371620910866019 : True := trivial
theorem head.tw15798066900824788120 : True := trivial
theorem head.tw649443455394278489 : True := trivial
theorem head.tw15539854500240908086 : True := trivial
theorem head.tw15510365090734361527 : True := trivial
theorem head.tw15895748673760503845 : True := trivial
theorem head.tw12310735299239354703 : True := trivial
theorem head.tw1319983325249436295 : True := trivial
theorem head.tw1992862871153497056 : True := trivial
theorem head.tw8534208459206503383 : True := trivial
theorem head.tw14112051064653734678 : True := trivial
theorem head.tw16031315777459398524 : True := trivial
theorem head.tw5932888286366025677 : True := trivial
theorem head.tw48543519692965452 : True := trivial
theorem head.tw18007968972792079559 : True := trivial
theorem head.tw6880043348581005364 : True := trivial
theorem head.tw5737951250597237232 : True := trivial
theorem head.tw4277651752456152607 : True := trivial
theorem head.tw3501597964444990463 : True := trivial
theorem head.tw4972248218790579157 : True := trivial
theorem head.tw17646911460466567920 : True := trivial
theorem head.tw10668533816033670360 : True := trivial
theorem head.tw6871339299614917876 : True := trivial
theorem head.tw3690969761935527329 : True := trivial
theorem head.tw10015159338476511836 : True := trivial
theorem head.tw5723944856813171866 : True := trivial
theorem head.tw12207028300977255130 : True := trivial
theorem head.tw3986194592780655508 : True := trivial
theorem head.tw1315816938146588887 : True := trivial
theorem head.tw4307260679431091991 : True := trivial
theorem head.tw7253898381062576733 : True := trivial
theorem head.tw7802898811600756450 : True := trivial
theorem head.tw5944575059761466720 : True := trivial
theorem head.tw15091486752826498866 : True := trivial
theorem head.tw9407594320385231609 : True := trivial
theorem head.tw5986637957666399235 : True := trivial
theorem head.tw14628233357713752721 : True := trivial
theorem head.tw17197444120159719569 : True := trivial
theorem head.tw8603420104599213669 : True := trivial
theorem head.tw11308087075614649832 : True := trivial
theorem head.tw9978949632667528635 : True := trivial
theorem head.tw9162278640276766204 : True := trivial
theorem head.tw7494366503370351645 : True := trivial
theorem head.tw6973584914630602586 : True := trivial
theorem head.tw14139502460874162764 : True := trivial
theorem head.tw6857060684267632606 : True := trivial
theorem head.tw11988142204041823098 : True := trivial
theorem head.tw17674571679781333832 : True := trivial
theorem head.tw12858780395421280599 : True := trivial
theorem head.tw12704426703380559182 : True := trivial
theorem head.tw5599997604879368025 : True := trivial
theorem head.tw5788964047882338313 : True := trivial
theorem head.tw7994106446794305319 : True := trivial
theorem head.tw14877080517539528568 : True := trivial
theorem head.tw2506711637615833298 : True := trivial
theorem head.tw17844492200522320778 : True := trivial
theorem head.tw14676189674455941282 : True := trivial
theorem head.tw12359489953124434286 : True := trivial
theorem head.tw12475708393154427166 : True := trivial
theorem head.tw10510622979536455646 : True := trivial
theorem head.tw6202090305015876224 : True := trivial
theorem head.tw13295774097974887486 : True := trivial
theorem head.tw17093656651364094606 : True := trivial
theorem head.tw9984397402777080727 : True := trivial
theorem head.tw4160124254940468481 : True := trivial
theorem head.tw17113217626458354986 : True := trivial
theorem head.tw14788773977795034992 : True := trivial
theorem head.tw17782148633632673465 : True := trivial
theorem head.tw18384547517478447814 : True := trivial
theorem head.tw6588589085864783938 : True := trivial
theorem head.tw1618804561499322139 : True := trivial
theorem head.tw8997269238129315039 : True := trivial
theorem head.tw11005904730967762025 : True := trivial
theorem head.tw9082462177598256812 : True := trivial
theorem head.tw3453547403478019728 : True := trivial
theorem head.tw1211024037004892549 : True := trivial
theorem head.tw10519217271611395807 : True := trivial
theorem head.tw7450023128482652576 : True := trivial
theorem head.tw3368030927266983236 : True := trivial
theorem head.tw300626226527484142 : True := trivial
theorem head.tw12903917746401883607 : True := trivial
theorem head.tw976808484645153763 : True := trivial
theorem head.tw2727569469259124728 : True := trivial
theorem head.tw9820158181544301314 : True := trivial
theorem head.tw2237326684586592538 : True := trivial
theorem head.tw12330954535739239725 : True := trivial
theorem head.tw17411354535832351560 : True := trivial
theorem head.tw10205530081349824492 : True := trivial
theorem head.tw533756555076263647 : True := trivial
theorem head.tw7712916153251135833 : True := trivial
theorem head.tw17188972718952451159 : True := trivial
theorem head.tw7906546307943345882 : True := trivial
theorem head.tw315434073420411817 : True := trivial
theorem head.tw12987040726578829979 : True := trivial
theorem head.tw5508695066786827253 : True := trivial
theorem head.tw9103479521544129834 : True := trivial
theorem head.tw13896987355042952010 : True := trivial
theorem head.tw14205479233844494046 : True := trivial
theorem head.tw6100774026682323163 : True := trivial
theorem head.tw15520248196984853422 : True := trivial
theorem head.tw14527164170590304321 : True := trivial
theorem head.tw17725469503822016867 : True := trivial
theorem head.tw10706776884845955466 : True := trivial
theorem head.tw10840385229135970747 : True := trivial
theorem head.tw1748456618969930982 : True := trivial
theorem head.tw7658410731251134818 : True := trivial
theorem head.tw15064752311394979489 : True := trivial
theorem head.tw5506250874072839755 : True := trivial
theorem head.tw10730805705081004914 : True := trivial
theorem head.tw1852205218256702202 : True := trivial
theorem head.tw18332285231265401824 : True := trivial
theorem head.tw10533634037010066435 : True := trivial
theorem head.tw18051680202136193954 : True := trivial
theorem head.tw930087139818521243 : True := trivial
theorem head.tw7833285031277912329 : True := trivial
theorem head.tw16640130746408290383 : True := trivial
theorem head.tw3615648651819825313 : True := trivial
theorem head.tw1620002657737552111 : True := trivial
theorem head.tw4433315090154635215 : True := trivial
theorem head.tw4965378191221513410 : True := trivial
theorem head.tw15296082917334920728 : True := trivial
theorem head.tw16922147877168347812 : True := trivial
theorem head.tw10898857373019930491 : True := trivial
theorem head.tw733406405333840765 : True := trivial
theorem head.tw1832916270232011604 : True := trivial
theorem head.tw16847831306532103052 : True := trivial
theorem head.tw11426403942048686318 : True := trivial
theorem head.tw11296743742662292762 : True := trivial
theorem head.tw16984083398119652359 : True := trivial
theorem head.tw14667470093908496907 : True := trivial
theorem head.tw2154566216772986472 : True := trivial
theorem head.tw14699756766385990792 : True := trivial
theorem head.tw3556061257289618393 : True := trivial
theorem head.tw8773370040425892893 : True := trivial
theorem head.tw4693820183103290663 : True := trivial
theorem head.tw5906749814970224870 : True := trivial
theorem head.tw7013799640231393816 : True := trivial
theorem head.tw12147184966966947637 : True := trivial
theorem head.tw14956133685725647455 : True := trivial
theorem head.tw5961061522943839417 : True := trivial
theorem head.tw2393098407364606883 : True := trivial
theorem head.tw3547240966391284428 : True := trivial
theorem head.tw12043669396524033845 : True := trivial
theorem head.tw4483413254912295219 : True := trivial
theorem head.tw17348764703882912863 : True := trivial
theorem head.tw9515422150858430662 : True := trivial
theorem head.tw44622916816846810 : True := trivial
theorem head.tw2825341998796452840 : True := trivial
theorem head.tw5346772772824661884 : True := trivial
theorem head.tw9715989912806740752 : True := trivial
theorem head.tw13198292447841614426 : True := trivial
theorem head.tw15841401105113185080 : True := trivial
theorem head.tw10018764681926925449 : True := trivial
theorem head.tw18123143868385100064 : True := trivial
theorem head.tw16894197260953374720 : True := trivial
theorem head.tw9464831228461672588 : True := trivial
theorem head.tw9074772780463953568 : True := trivial
theorem head.tw15193404127012564765 : True := trivial
theorem head.tw7287109101882759415 : True := trivial
theorem head.tw9702098958229961203 : True := trivial
theorem head.tw1689142752476645926 : True := trivial
theorem head.tw13294958713779813728 : True := trivial
theorem head.tw14943480678444902952 : True := trivial
theorem head.tw12822298378996975857 : True := trivial
theorem head.tw2581250870941146908 : True := trivial
theorem head.tw16714887947964762639 : True := trivial
theorem head.tw4063747431996464497 : True := trivial
theorem head.tw14417885227837004991 : True := trivial
theorem head.tw2554682012703037696 : True := trivial
theorem head.tw2249667046024356820 : True := trivial
theorem head.tw9186546921256032858 : True := trivial
theorem head.tw10021064610941686981 : True := trivial
theorem head.tw17464823870196871000 : True := trivial
theorem head.tw17014734716931888790 : True := trivial
theorem head.tw7318791098327170449 : True := trivial
theorem head.tw10261356005730403935 : True := trivial
theorem head.tw3088210815446039105 : True := trivial
theorem head.tw13906610036690215845 : True := trivial
theorem head.tw16997897962222511 : True := trivial
theorem head.tw15035418422258542911 : True := trivial
theorem head.tw16172288393029767808 : True := trivial
theorem head.tw15735840784391694233 : True := trivial
theorem head.tw6846866878297920324 : True := trivial
theorem head.tw2571168983127488356 : True := trivial
theorem head.tw9353324838224930552 : True := trivial
theorem head.tw17142359554024780413 : True := trivial
theorem head.tw5141578139466067413 : True := trivial
theorem head.tw1985537357303476512 : True := trivial
theorem head.tw12740806245664736207 : True := trivial
theorem head.tw2525317073905713282 : True := trivial
theorem head.tw13605870324054321959 : True := trivial
theorem head.tw1714602735852981970 : True := trivial
theorem head.tw17525636777796739105 : True := trivial
theorem head.tw5651425540991249520 : True := trivial
theorem head.tw10356212845559719233 : True := trivial
theorem head.tw11770459041652445329 : True := trivial
theorem head.tw467416434755642258 : True := trivial
theorem head.tw5438144065070405397 : True := trivial
theorem head.tw2591067827882107080 : True := trivial
theorem head.tw2864405669816312776 : True := trivial
theorem head.tw6298033893332097587 : True := trivial
theorem head.tw3973953319845086491 : True := trivial
theorem head.tw8367155997540120919 : True := trivial
theorem head.tw6836605351468522007 : True := trivial
theorem head.tw12775505166333009402 : True := trivial
theorem head.tw17698105195316432488 : True := trivial
theorem head.tw2994366008111725845 : True := trivial
theorem head.tw7599496313472250701 : True := trivial
theorem head.tw4009957668330374740 : True := trivial
theorem head.tw5015311536963163689 : True := trivial
theorem head.tw14699528089545365996 : True := trivial
theorem head.tw11484358847640170188 : True := trivial
theorem head.tw5140934472235413692 : True := trivial
theorem head.tw5329762489628065632 : True := trivial
theorem head.tw7523532297153676066 : True := trivial
theorem head.tw17854896373637125580 : True := trivial
theorem head.tw5870146547769353613 : True := trivial
theorem head.tw9746458257258439470 : True := trivial
theorem head.tw2694075680205673411 : True := trivial
theorem head.tw4381510469713062047 : True := trivial
theorem head.tw14512941343882779238 : True := trivial
theorem head.tw8159583801465064534 : True := trivial
theorem head.tw1499353310998574721 : True := trivial
theorem head.tw4976181008148175253 : True := trivial
theorem head.tw12865059321931465230 : True := trivial
theorem head.tw10010264046613662565 : True := trivial
theorem head.tw12998212659555988865 : True := trivial
theorem head.tw3496171461512900480 : True := trivial
theorem head.tw2879759524354350568 : True := trivial
theorem head.tw5629256929840616583 : True := trivial
theorem head.tw13689084217373910675 : True := trivial
theorem head.tw15112835437128306455 : True := trivial
theorem head.tw10987702880554017565 : True := trivial
theorem head.tw8762692973466549995 : True := trivial
theorem head.tw10504981510240967646 : True := trivial
theorem head.tw7512725033676591148 : True := trivial
theorem head.tw5401097623525119610 : True := trivial
theorem head.tw3083302935323014018 : True := trivial
theorem head.tw17826015225549371706 : True := trivial
theorem head.tw15638870477510070732 : True := trivial
theorem head.tw9280153536138602973 : True := trivial
theorem head.tw7789450098604059249 : True := trivial
theorem head.tw3794523003379204399 : True := trivial
theorem head.tw12841863872788715202 : True := trivial
theorem head.tw3715584954343283195 : True := trivial
theorem head.tw6587087628758450585 : True := trivial
theorem head.tw7417405269818204032 : True := trivial
theorem head.tw11862927689305589065 : True := trivial
theorem head.tw12472887615940459650 : True := trivial
theorem head.tw16874305072444578374 : True := trivial
theorem head.tw5479459121986351116 : True := trivial
theorem head.tw13954853420313727417 : True := trivial
theorem head.tw12949380547846470161 : True := trivial
theorem head.tw5569992402112668024 : True := trivial
theorem head.tw8895791426145780158 : True := trivial
theorem head.tw1963959055141433311 : True := trivial
theorem head.tw3512634313551410195 : True := trivial
theorem head.tw13086575352542018947 : True := trivial
theorem head.tw7876399200375917224 : True := trivial
theorem head.tw9561274727076994004 : True := trivial
theorem head.tw9101448428047585222 : True := trivial
theorem head.tw14982685227137828758 : True := trivial
theorem head.tw15037083628117588352 : True := trivial
theorem head.tw16172356507618199906 : True := trivial
theorem head.tw66618190712790079 : True := trivial
theorem head.tw4415685298772064003 : True := trivial
theorem head.tw15506723302920939300 : True := trivial
theorem head.tw17905491414393134947 : True := trivial
theorem head.tw8187629637223713605 : True := trivial
theorem head.tw7090939061502383884 : True := trivial
theorem head.tw5111174896325423537 : True := trivial
theorem head.tw17265401458761052179 : True := trivial
theorem head.tw1506576300011279404 : True := trivial
theorem head.tw17508272824862286709 : True := trivial
theorem head.tw15204471325056678010 : True := trivial
theorem head.tw6121141971511671821 : True := trivial
theorem head.tw1463646239528298992 : True := trivial
theorem head.tw12032222614953749359 : True := trivial
theorem head.tw4607607821588926596 : True := trivial
theorem head.tw3547030090768783262 : True := trivial
theorem head.tw11714945338242495837 : True := trivial
theorem head.tw15253846138512369154 : True := trivial
theorem head.tw12851702773856589430 : True := trivial
theorem head.tw9325057278558614444 : True := trivial
theorem head.tw17988201657351507238 : True := trivial
theorem head.tw2203363585012173787 : True := trivial
theorem head.tw14679116673082234219 : True := trivial
theorem head.tw8382746154173761051 : True := trivial
theorem head.tw17700853532424174462 : True := trivial
theorem head.tw16072502192527678464 : True := trivial
theorem head.tw14999265807660949796 : True := trivial
theorem head.tw9196398404247428943 : True := trivial
theorem head.tw2518057956044344595 : True := trivial
theorem head.tw7688317290187622652 : True := trivial
theorem head.tw14842460003800876886 : True := trivial
theorem head.tw16782820856776367440 : True := trivial
theorem head.tw7661765248129044261 : True := trivial
theorem head.tw6772502638888315869 : True := trivial
theorem head.tw13988103294471073821 : True := trivial
theorem head.tw9145527808636388435 : True := trivial
theorem head.tw15149402430504572791 : True := trivial
theorem head.tw8408249889716310983 : True := trivial
theorem head.tw15782939476341012554 : True := trivial
theorem head.tw14393718171448925343 : True := trivial
theorem head.tw6247268493268985975 : True := trivial
theorem head.tw7758381527925395934 : True := trivial
theorem head.tw13510609219080548989 : True := trivial
theorem head.tw13955511503576765797 : True := trivial
theorem head.tw11124748197601291601 : True := trivial
theorem head.tw10875119458065257276 : True := trivial
theorem head.tw2491421050496283774 : True := trivial
theorem head.tw14492117785962260688 : True := trivial
theorem head.tw3103639331685909893 : True := trivial
theorem head.tw7119846925741900413 : True := trivial
theorem head.tw8414573866900348196 : True := trivial
theorem head.tw5487235932777146282 : True := trivial
theorem head.tw4311042196063409733 : True := trivial
theorem head.tw9625377726130185387 : True := trivial
theorem head.tw2400818531096893172 : True := trivial
theorem head.tw2260579728952749127 : True := trivial
theorem head.tw10786079294511566085 : True := trivial
theorem head.tw6737735255597943219 : True := trivial
theorem head.tw5973763720392745831 : True := trivial
theorem head.tw5638995163158488052 : True := trivial
theorem head.tw10059252607514160932 : True := trivial
theorem head.tw4023466491090337370 : True := trivial
theorem head.tw10865165270600546614 : True := trivial
theorem head.tw6640010369347007910 : True := trivial
theorem head.tw18416563613846182222 : True := trivial
theorem head.tw13199516396595161752 : True := trivial
theorem head.tw5104563664521345299 : True := trivial
theorem head.tw13180129090757240718 : True := trivial
theorem head.tw17243387458012846398 : True := trivial
theorem head.tw1212124681294104184 : True := trivial
theorem head.tw14643560169476415855 : True := trivial
theorem head.tw10571390738373459906 : True := trivial
set_option Elab.async true in
theorem head : PySem.Challenge.rw_pb0018_01.Holds := by
  w_on; o_law; o_head (kHook Mine.K Mine.adds (fun _ => by kernel_rfl)); (case hw => w_witness2)
  w_strict (k_go0
            (with_reducible rename Fr _ _ _ _ => F1); (with_reducible rename News _ _ _ _ => N1); (with_reducible rename Top _ _ _ _ _ _ => T1); (with_reducible rename Below _ _ _ _ => B1); (with_reducible rename Frag.In _ _ => X1); (with_reducible rename Heap.IsList _ _ _ => L1); (with_reducible rename IntsAre _ _ => I1)
            refine wpAny_mono (law_body _ _ _ _ _ _ _ _ _ _ _ _ _ _ _ _ _ _ _ _ _ _ _ _ B1 F1 X1 N1 T1 ?_ ?_ ?_ ?_ ?_ ?_ L1 I1 ?_ ?_) (fun _ _ h => h) (fun _ _ e => e.elim)
            · decide +kernel
            · decide +kernel
            · with_unfolding_all assumption
            · with_unfolding_all assumption
            · exact Nat.ne_of_lt (Nat.lt_succ_self _)
            · with_unfolding_all rfl
            · omega
            · intro h9 tk9 m9 F9
              dsimp only
              wrow_close)
end Mine
set_option maxRecDepth 100000 in
set_option maxHeartbeats 8000000 in
theorem PySem.Challenge.cw_pb0018_01_holds : PySem.Challenge.rw_pb0018_01.Holds :=
  Mine.head
