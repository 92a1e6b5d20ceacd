import PyProof.Rows.All
import Wide.All
import OpenK.AllK
import Wide.FinOn
import Lean
import PySem.Challenge.RW_xm0665_01
open PySem PySem.W PyProof.Rows
set_option Elab.async false
set_option maxRecDepth 100000
set_option maxHeartbeats 8000000
set_option linter.unusedVariables false
set_option compiler.extract_closed false
namespace Mine
def qv : Program := PySem.W.view PySem.Challenge.pw_xm0665_01 [0, 2, 3, 4, 6, 7, 8, 9, 11, 12, 13, 15, 16, 17, 18, 19, 20, 21, 22, 23, 24, 25]
theorem said : PySem.Challenge.rw_xm0665_01.wellSaid = true := by decide +kernel
abbrev PP : Program := (PySem.Challenge.rw_xm0665_01.row).prog
noncomputable def bd : List Stmt := behindTheImports PP
noncomputable def fn : Stmt → Arguments × List Stmt × Scope
  | .FunctionDef _ a b _ _ _ s .. => (a, b, s)
  | .ClassDef _ _ _ b _ _ s .. => (.mk [] [] none [] [] none [], b, s)
  | _ => (.mk [] [] none [] [] none [], [], PP.main.scope)
noncomputable def at1 (i : Nat) : Stmt := bd.getD i (.Pass (.mk 0 0 0 0))
noncomputable def at2 (i j : Nat) : Stmt := (fn (at1 i)).2.1.getD j (.Pass (.mk 0 0 0 0))
noncomputable def hp0 (P : Params) : Heap := .mk (.mk [boot_o_0 P,
 boot_o_1 P,
 boot_o_2 P,
 boot_o_3 P,
 boot_o_4 P,
 boot_o_5 P,
 boot_o_6 P,
 boot_o_7 P,
 boot_o_8 P,
 boot_o_9 P,
 boot_o_10 P,
 (.mk (.type "tuple") .none (.seq (List.toArray []) 0) (List.toArray [])),
 (.mk .none .none (.fields (List.toArray [])) (List.toArray [])),
 (.mk (.type "code") .none (.fields (List.toArray [(.str (Str.ofString "<module>") 182), (.str (Str.ofString "<module>") 183), (.str (Str.ofString "/claim/cut.py") 184), (.int 1 0), (.int 0 0), (.int 0 0), (.int 0 0), (.int 0 0), (.ref 11), (.bool .false), (.int 181 0), (.ref 12), .none, .none, .none, .none, (.int 185 0), (.int 1 0), (.str (Str.ofString "/claim/cut.py") 186)])) (List.toArray [])),
 (.mk (.type "frame") .none .plain (List.toArray [(.some (.ref 13)), (.some (.ref 3)), (.some (.ref 3)), .none, (.some (.str (Str.ofString "__main__") 164)), .none, (.some (.ref 0))]))]) (.mk [] [] [] 0 [] [] .false (List.toArray []) [] 0 .false .false .false 0 [2000, 10, 10] .false 0 .true [] [] 0 .false)
noncomputable def hp1 (P : Params) : Heap := .mk (.mk [boot_o_0 P,
 boot_o_1 P,
 (.mk .none .none (.dict (List.toArray [(.mk (PyData.keyHash P (Str.ofString "type.__subclasses__.Exception.0")) (.str (Str.ofString "type.__subclasses__.Exception.0") 221) (.int 38 0)), (.mk (PyData.keyHash P (Str.ofString "type.__subclasses__.Exception.n")) (.str (Str.ofString "type.__subclasses__.Exception.n") 222) (.int 1 0))]) 2) (List.toArray [])),
 (.mk (.type "dict") .none (.dict (List.toArray [(.mk (PyData.keyHash P (Str.ofString "__name__")) (.str (Str.ofString "__name__") 165) (.str (Str.ofString "markupmill.tree") 299)), (.mk (PyData.keyHash P (Str.ofString "__doc__")) (.str (Str.ofString "__doc__") 166) .none), (.mk (PyData.keyHash P (Str.ofString "__package__")) (.str (Str.ofString "__package__") 167) .none), (.mk (PyData.keyHash P (Str.ofString "__loader__")) (.str (Str.ofString "__loader__") 168) (.builtin "__main__.__loader__#opaque")), (.mk (PyData.keyHash P (Str.ofString "__spec__")) (.str (Str.ofString "__spec__") 169) .none), (.mk (PyData.keyHash P (Str.ofString "__annotations__")) (.str (Str.ofString "__annotations__") 170) (.ref 6)), (.mk (PyData.keyHash P (Str.ofString "__builtins__")) (.str (Str.ofString "__builtins__") 171) (.ref 4)), (.mk (PyData.keyHash P (Str.ofString "__file__")) (.str (Str.ofString "__file__") 173) (.str (Str.ofString "/claim/cut.py") 172)), (.mk (PyData.keyHash P (Str.ofString "__cached__")) (.str (Str.ofString "__cached__") 174) .none), (.mk (PyData.keyHash P (Str.ofString "_wall")) (.str (Str.ofString "_wall") 193) (.ref 21)), (.mk (PyData.keyHash P (Str.ofString "MarkupError")) (.str (Str.ofString "MarkupError") 224) (.ref 38)), (.mk (PyData.keyHash P (Str.ofString "TreeFault")) (.str (Str.ofString "TreeFault") 240) (.ref 51)), (.mk (PyData.keyHash P (Str.ofString "PathFault")) (.str (Str.ofString "PathFault") 256) (.ref 63)), (.mk (PyData.keyHash P (Str.ofString "principal_kind")) (.str (Str.ofString "principal_kind") 265) (.ref 72)), (.mk (PyData.keyHash P (Str.ofString "bound_uri")) (.str (Str.ofString "bound_uri") 273) (.ref 79)), (.mk (PyData.keyHash P (Str.ofString "is_named")) (.str (Str.ofString "is_named") 285) (.ref 86)), (.mk (PyData.keyHash P (Str.ofString "passes")) (.str (Str.ofString "passes") 298) (.ref 93)), (.mk (PyData.keyHash P (Str.ofString "PARENTS")) (.str (Str.ofString "PARENTS") 303) (.ref 94)), (.mk (PyData.keyHash P (Str.ofString "NodeRow")) (.str (Str.ofString "NodeRow") 345) (.ref 111))]) 19) (List.toArray [])),
 boot_o_4 P,
 boot_o_5 P,
 boot_o_6 P,
 boot_o_7 P,
 boot_o_8 P,
 boot_o_9 P,
 boot_o_10 P,
 (.mk (.type "tuple") .none (.seq (List.toArray []) 0) (List.toArray [])),
 (.mk .none .none (.fields (List.toArray [(.int 1 0), (.int 0 0), (.ref 20), (.int 5 0), (.int 0 0), (.ref 27), (.int 10 0), (.int 0 0), (.ref 47), (.int 12 0), (.int 0 0), (.ref 59), (.int 15 0), (.int 0 0), (.ref 71), (.int 17 0), (.int 0 0), (.ref 78), (.int 23 0), (.int 0 0), (.ref 85), (.int 28 0), (.int 0 0), (.ref 92), (.int 44 0), (.int 0 0), (.ref 100)])) (List.toArray [])),
 (.mk (.type "code") .none (.fields (List.toArray [(.str (Str.ofString "<module>") 182), (.str (Str.ofString "<module>") 183), (.str (Str.ofString "/claim/cut.py") 184), (.int 1 0), (.int 0 0), (.int 0 0), (.int 0 0), (.int 0 0), (.ref 11), (.bool .false), (.int 181 0), (.ref 12), .none, .none, .none, .none, (.int 185 0), (.int 1 0), (.str (Str.ofString "/claim/cut.py") 186)])) (List.toArray [])),
 (.mk (.type "frame") .none .plain (List.toArray [(.some (.ref 13)), (.some (.ref 3)), (.some (.ref 3)), .none, (.some (.str (Str.ofString "__main__") 164)), .none, (.some (.ref 0))])),
 (.mk (.type "tuple") .none (.seq (List.toArray []) 0) (List.toArray [])),
 (.mk .none .none (.fields (List.toArray [])) (List.toArray [])),
 (.mk (.type "tuple") .none (.seq (List.toArray [(.str (Str.ofString "k") 190)]) 0) (List.toArray [])),
 (.mk (.type "tuple") .none (.seq (List.toArray []) 0) (List.toArray [])),
 (.mk .none .none (.func (.mk (Str.ofString "_wall") (Str.ofString "_wall") (fn (at1 0)).1 (.stmts (fn (at1 0)).2.1) (fn (at1 0)).2.2 0 [] .none .none .none .none .none .none .none 0)) (List.toArray [])),
 (.mk (.type "code") .none (.fields (List.toArray [(.str (Str.ofString "_wall") 187), (.str (Str.ofString "_wall") 188), (.str (Str.ofString "/claim/cut.py") 189), (.int 1 0), (.int 1 0), (.int 0 0), (.int 0 0), (.int 3 0), (.ref 15), (.bool .true), (.int 181 0), (.ref 16), .none, (.ref 17), (.ref 18), (.ref 19), (.int 191 0), (.int 1 0), (.str (Str.ofString "/claim/cut.py") 192)])) (List.toArray [])),
 (.mk (.type "function") .none (.func (.mk (Str.ofString "_wall") (Str.ofString "_wall") (fn (at1 0)).1 (.stmts (fn (at1 0)).2.1) (fn (at1 0)).2.2 3 [] .none .none .none (.str (Str.ofString "__main__") 164) .none (.ref 20) .none 0)) (List.toArray [])),
 (.mk (.type "tuple") .none (.seq (List.toArray [(.type "Exception")]) 0) (List.toArray [])),
 (.mk (.type "builtin_function_or_method") .none (.fields (List.toArray [(.builtin "type.__prepare__"), (.type "type")])) (List.toArray [])),
 (.mk (.type "dict") .none (.dict (List.toArray [(.mk (PyData.keyHash P (Str.ofString "__module__")) (.str (Str.ofString "__module__") 203) (.str (Str.ofString "markupmill.errors") 194)), (.mk (PyData.keyHash P (Str.ofString "__qualname__")) (.str (Str.ofString "__qualname__") 205) (.str (Str.ofString "MarkupError") 204)), (.mk (PyData.keyHash P (Str.ofString "__firstlineno__")) (.str (Str.ofString "__firstlineno__") 207) (.int 5 206)), (.mk (PyData.keyHash P (Str.ofString "__init__")) (.str (Str.ofString "__init__") 215) (.ref 35)), (.mk (PyData.keyHash P (Str.ofString "__static_attributes__")) (.str (Str.ofString "__static_attributes__") 217) (.ref 36))]) 5) (List.toArray [])),
 (.mk (.type "tuple") .none (.seq (List.toArray []) 0) (List.toArray [])),
 (.mk .none .none (.fields (List.toArray [(.int 7 0), (.int 4 0), (.ref 34)])) (List.toArray [])),
 (.mk (.type "code") .none (.fields (List.toArray [(.str (Str.ofString "MarkupError") 198), (.str (Str.ofString "MarkupError") 199), (.str (Str.ofString "/claim/cut.py") 200), (.int 5 0), (.int 0 0), (.int 0 0), (.int 0 0), (.int 0 0), (.ref 25), (.bool .false), (.int 181 0), (.ref 26), .none, .none, .none, .none, (.int 201 0), (.int 5 0), (.str (Str.ofString "/claim/cut.py") 202)])) (List.toArray [])),
 (.mk (.type "frame") .none .plain (List.toArray [(.some (.ref 27)), (.some (.ref 3)), (.some (.ref 24)), .none, (.some (.str (Str.ofString "markupmill.errors") 194)), .none, (.some (.ref 0))])),
 (.mk (.type "tuple") .none (.seq (List.toArray []) 0) (List.toArray [])),
 (.mk .none .none (.fields (List.toArray [])) (List.toArray [])),
 (.mk (.type "tuple") .none (.seq (List.toArray [(.str (Str.ofString "self") 211), (.str (Str.ofString "message") 212)]) 0) (List.toArray [])),
 (.mk (.type "tuple") .none (.seq (List.toArray []) 0) (List.toArray [])),
 (.mk .none .none (.func (.mk (Str.ofString "__init__") (Str.ofString "MarkupError.__init__") (fn (at2 2 0)).1 (.stmts (fn (at2 2 0)).2.1) (fn (at2 2 0)).2.2 0 [] .none .none .none .none .none .none .none 0)) (List.toArray [])),
 (.mk (.type "code") .none (.fields (List.toArray [(.str (Str.ofString "__init__") 208), (.str (Str.ofString "MarkupError.__init__") 209), (.str (Str.ofString "/claim/cut.py") 210), (.int 7 0), (.int 2 0), (.int 0 0), (.int 0 0), (.int 3 0), (.ref 29), (.bool .true), (.int 181 0), (.ref 30), .none, (.ref 31), (.ref 32), (.ref 33), (.int 213 0), (.int 7 0), (.str (Str.ofString "/claim/cut.py") 214)])) (List.toArray [])),
 (.mk (.type "function") .none (.func (.mk (Str.ofString "__init__") (Str.ofString "MarkupError.__init__") (fn (at2 2 0)).1 (.stmts (fn (at2 2 0)).2.1) (fn (at2 2 0)).2.2 3 [] .none .none .none (.str (Str.ofString "markupmill.errors") 194) .none (.ref 34) .none 0)) (List.toArray [])),
 (.mk (.type "tuple") .none (.seq (List.toArray [(.str (Str.ofString "message") 216)]) 0) (List.toArray [])),
 (.mk (.type "dict") .none (.dict (List.toArray [(.mk (PyData.keyHash P (Str.ofString "__module__")) (.str (Str.ofString "__module__") 203) (.str (Str.ofString "markupmill.errors") 194)), (.mk (PyData.keyHash P (Str.ofString "__firstlineno__")) (.str (Str.ofString "__firstlineno__") 207) (.int 5 206)), (.mk (PyData.keyHash P (Str.ofString "__init__")) (.str (Str.ofString "__init__") 215) (.ref 35)), (.mk (PyData.keyHash P (Str.ofString "__static_attributes__")) (.str (Str.ofString "__static_attributes__") 217) (.ref 36)), (.mk (PyData.keyHash P (Str.ofString "__weakref__")) (.str (Str.ofString "__weakref__") 219) (.ref 39)), (.mk (PyData.keyHash P (Str.ofString "__doc__")) (.str (Str.ofString "__doc__") 220) .none)]) 3) (List.toArray [])),
 (.mk (.type "type") .none (.cls (.mk (Str.ofString "MarkupError") [(.type "Exception")] [(.ref 38), (.type "Exception"), (.type "BaseException"), (.type "object")] 37 (Str.ofString "MarkupError") .true [] [(.ref 51), (.ref 63)] .false .none .false)) (List.toArray [(.some (.ref 22)), .none, (.some (.str (Str.ofString "MarkupError") 196)), (.some (.str (Str.ofString "MarkupError") 204)), (.some (.builtin "Exception.__new__")), (.some (.bool .true))])),
 (.mk (.type "getset_descriptor") .none (.fields (List.toArray [(.str (Str.ofString "__weakref__") 218), (.ref 38), (.builtin "ExceptionGroup.__weakref__"), .none])) (List.toArray [])),
 (.mk (.type "super") .none (.fields (List.toArray [(.ref 38), (.ref 38), (.ref 38)])) (List.toArray [])),
 (.mk (.type "builtin_function_or_method") .none (.fields (List.toArray [(.builtin "object.__init_subclass__"), (.ref 38)])) (List.toArray [])),
 (.mk (.type "tuple") .none (.seq (List.toArray [(.ref 38)]) 0) (List.toArray [])),
 (.mk (.type "builtin_function_or_method") .none (.fields (List.toArray [(.builtin "type.__prepare__"), (.type "type")])) (List.toArray [])),
 (.mk (.type "dict") .none (.dict (List.toArray [(.mk (PyData.keyHash P (Str.ofString "__module__")) (.str (Str.ofString "__module__") 232) (.str (Str.ofString "markupmill.errors") 194)), (.mk (PyData.keyHash P (Str.ofString "__qualname__")) (.str (Str.ofString "__qualname__") 234) (.str (Str.ofString "TreeFault") 233)), (.mk (PyData.keyHash P (Str.ofString "__firstlineno__")) (.str (Str.ofString "__firstlineno__") 236) (.int 10 235)), (.mk (PyData.keyHash P (Str.ofString "__static_attributes__")) (.str (Str.ofString "__static_attributes__") 237) (.ref 49))]) 4) (List.toArray [])),
 (.mk (.type "tuple") .none (.seq (List.toArray []) 0) (List.toArray [])),
 (.mk .none .none (.fields (List.toArray [])) (List.toArray [])),
 (.mk (.type "code") .none (.fields (List.toArray [(.str (Str.ofString "TreeFault") 227), (.str (Str.ofString "TreeFault") 228), (.str (Str.ofString "/claim/cut.py") 229), (.int 10 0), (.int 0 0), (.int 0 0), (.int 0 0), (.int 0 0), (.ref 45), (.bool .false), (.int 181 0), (.ref 46), .none, .none, .none, .none, (.int 230 0), (.int 10 0), (.str (Str.ofString "/claim/cut.py") 231)])) (List.toArray [])),
 (.mk (.type "frame") .none .plain (List.toArray [(.some (.ref 47)), (.some (.ref 3)), (.some (.ref 44)), .none, (.some (.str (Str.ofString "markupmill.errors") 194)), .none, (.some (.ref 0))])),
 (.mk (.type "tuple") .none (.seq (List.toArray []) 0) (List.toArray [])),
 (.mk (.type "dict") .none (.dict (List.toArray [(.mk (PyData.keyHash P (Str.ofString "__module__")) (.str (Str.ofString "__module__") 232) (.str (Str.ofString "markupmill.errors") 194)), (.mk (PyData.keyHash P (Str.ofString "__firstlineno__")) (.str (Str.ofString "__firstlineno__") 236) (.int 10 235)), (.mk (PyData.keyHash P (Str.ofString "__static_attributes__")) (.str (Str.ofString "__static_attributes__") 237) (.ref 49)), (.mk (PyData.keyHash P (Str.ofString "__doc__")) (.str (Str.ofString "__doc__") 238) .none)]) 2) (List.toArray [])),
 (.mk (.type "type") .none (.cls (.mk (Str.ofString "TreeFault") [(.ref 38)] [(.ref 51), (.ref 38), (.type "Exception"), (.type "BaseException"), (.type "object")] 50 (Str.ofString "TreeFault") .true [] [] .false .none .false)) (List.toArray [(.some (.ref 42)), .none, (.some (.str (Str.ofString "TreeFault") 225)), (.some (.str (Str.ofString "TreeFault") 233)), (.some (.builtin "Exception.__new__")), (.some (.bool .true))])),
 (.mk (.type "super") .none (.fields (List.toArray [(.ref 51), (.ref 51), (.ref 51)])) (List.toArray [])),
 (.mk (.type "builtin_function_or_method") .none (.fields (List.toArray [(.builtin "object.__init_subclass__"), (.ref 51)])) (List.toArray [])),
 (.mk (.type "tuple") .none (.seq (List.toArray [(.ref 38)]) 0) (List.toArray [])),
 (.mk (.type "builtin_function_or_method") .none (.fields (List.toArray [(.builtin "type.__prepare__"), (.type "type")])) (List.toArray [])),
 (.mk (.type "dict") .none (.dict (List.toArray [(.mk (PyData.keyHash P (Str.ofString "__module__")) (.str (Str.ofString "__module__") 248) (.str (Str.ofString "markupmill.errors") 194)), (.mk (PyData.keyHash P (Str.ofString "__qualname__")) (.str (Str.ofString "__qualname__") 250) (.str (Str.ofString "PathFault") 249)), (.mk (PyData.keyHash P (Str.ofString "__firstlineno__")) (.str (Str.ofString "__firstlineno__") 252) (.int 12 251)), (.mk (PyData.keyHash P (Str.ofString "__static_attributes__")) (.str (Str.ofString "__static_attributes__") 253) (.ref 61))]) 4) (List.toArray [])),
 (.mk (.type "tuple") .none (.seq (List.toArray []) 0) (List.toArray [])),
 (.mk .none .none (.fields (List.toArray [])) (List.toArray [])),
 (.mk (.type "code") .none (.fields (List.toArray [(.str (Str.ofString "PathFault") 243), (.str (Str.ofString "PathFault") 244), (.str (Str.ofString "/claim/cut.py") 245), (.int 12 0), (.int 0 0), (.int 0 0), (.int 0 0), (.int 0 0), (.ref 57), (.bool .false), (.int 181 0), (.ref 58), .none, .none, .none, .none, (.int 246 0), (.int 12 0), (.str (Str.ofString "/claim/cut.py") 247)])) (List.toArray [])),
 (.mk (.type "frame") .none .plain (List.toArray [(.some (.ref 59)), (.some (.ref 3)), (.some (.ref 56)), .none, (.some (.str (Str.ofString "markupmill.errors") 194)), .none, (.some (.ref 0))])),
 (.mk (.type "tuple") .none (.seq (List.toArray []) 0) (List.toArray [])),
 (.mk (.type "dict") .none (.dict (List.toArray [(.mk (PyData.keyHash P (Str.ofString "__module__")) (.str (Str.ofString "__module__") 248) (.str (Str.ofString "markupmill.errors") 194)), (.mk (PyData.keyHash P (Str.ofString "__firstlineno__")) (.str (Str.ofString "__firstlineno__") 252) (.int 12 251)), (.mk (PyData.keyHash P (Str.ofString "__static_attributes__")) (.str (Str.ofString "__static_attributes__") 253) (.ref 61)), (.mk (PyData.keyHash P (Str.ofString "__doc__")) (.str (Str.ofString "__doc__") 254) .none)]) 2) (List.toArray [])),
 (.mk (.type "type") .none (.cls (.mk (Str.ofString "PathFault") [(.ref 38)] [(.ref 63), (.ref 38), (.type "Exception"), (.type "BaseException"), (.type "object")] 62 (Str.ofString "PathFault") .true [] [] .false .none .false)) (List.toArray [(.some (.ref 54)), .none, (.some (.str (Str.ofString "PathFault") 241)), (.some (.str (Str.ofString "PathFault") 249)), (.some (.builtin "Exception.__new__")), (.some (.bool .true))])),
 (.mk (.type "super") .none (.fields (List.toArray [(.ref 63), (.ref 63), (.ref 63)])) (List.toArray [])),
 (.mk (.type "builtin_function_or_method") .none (.fields (List.toArray [(.builtin "object.__init_subclass__"), (.ref 63)])) (List.toArray [])),
 (.mk (.type "tuple") .none (.seq (List.toArray []) 0) (List.toArray [])),
 (.mk .none .none (.fields (List.toArray [])) (List.toArray [])),
 (.mk (.type "tuple") .none (.seq (List.toArray [(.str (Str.ofString "axis") 262)]) 0) (List.toArray [])),
 (.mk (.type "tuple") .none (.seq (List.toArray []) 0) (List.toArray [])),
 (.mk .none .none (.func (.mk (Str.ofString "principal_kind") (Str.ofString "principal_kind") (fn (at1 6)).1 (.stmts (fn (at1 6)).2.1) (fn (at1 6)).2.2 0 [] .none .none .none .none .none .none .none 0)) (List.toArray [])),
 (.mk (.type "code") .none (.fields (List.toArray [(.str (Str.ofString "principal_kind") 259), (.str (Str.ofString "principal_kind") 260), (.str (Str.ofString "/claim/cut.py") 261), (.int 15 0), (.int 1 0), (.int 0 0), (.int 0 0), (.int 3 0), (.ref 66), (.bool .true), (.int 181 0), (.ref 67), .none, (.ref 68), (.ref 69), (.ref 70), (.int 263 0), (.int 15 0), (.str (Str.ofString "/claim/cut.py") 264)])) (List.toArray [])),
 (.mk (.type "function") .none (.func (.mk (Str.ofString "principal_kind") (Str.ofString "principal_kind") (fn (at1 6)).1 (.stmts (fn (at1 6)).2.1) (fn (at1 6)).2.2 3 [] .none .none .none (.str (Str.ofString "markupmill.node_tests") 257) .none (.ref 71) .none 0)) (List.toArray [])),
 (.mk (.type "tuple") .none (.seq (List.toArray []) 0) (List.toArray [])),
 (.mk .none .none (.fields (List.toArray [])) (List.toArray [])),
 (.mk (.type "tuple") .none (.seq (List.toArray [(.str (Str.ofString "prefix") 269), (.str (Str.ofString "names") 270)]) 0) (List.toArray [])),
 (.mk (.type "tuple") .none (.seq (List.toArray []) 0) (List.toArray [])),
 (.mk .none .none (.func (.mk (Str.ofString "bound_uri") (Str.ofString "bound_uri") (fn (at1 7)).1 (.stmts (fn (at1 7)).2.1) (fn (at1 7)).2.2 0 [] .none .none .none .none .none .none .none 0)) (List.toArray [])),
 (.mk (.type "code") .none (.fields (List.toArray [(.str (Str.ofString "bound_uri") 266), (.str (Str.ofString "bound_uri") 267), (.str (Str.ofString "/claim/cut.py") 268), (.int 17 0), (.int 2 0), (.int 0 0), (.int 0 0), (.int 3 0), (.ref 73), (.bool .true), (.int 181 0), (.ref 74), .none, (.ref 75), (.ref 76), (.ref 77), (.int 271 0), (.int 17 0), (.str (Str.ofString "/claim/cut.py") 272)])) (List.toArray [])),
 (.mk (.type "function") .none (.func (.mk (Str.ofString "bound_uri") (Str.ofString "bound_uri") (fn (at1 7)).1 (.stmts (fn (at1 7)).2.1) (fn (at1 7)).2.2 3 [] .none .none .none (.str (Str.ofString "markupmill.node_tests") 257) .none (.ref 78) .none 0)) (List.toArray [])),
 (.mk (.type "tuple") .none (.seq (List.toArray []) 0) (List.toArray [])),
 (.mk .none .none (.fields (List.toArray [])) (List.toArray [])),
 (.mk (.type "tuple") .none (.seq (List.toArray [(.str (Str.ofString "tree") 277), (.str (Str.ofString "node") 278), (.str (Str.ofString "test") 279), (.str (Str.ofString "names") 280), (.str (Str.ofString "uri") 281), (.str (Str.ofString "kind") 282)]) 0) (List.toArray [])),
 (.mk (.type "tuple") .none (.seq (List.toArray []) 0) (List.toArray [])),
 (.mk .none .none (.func (.mk (Str.ofString "is_named") (Str.ofString "is_named") (fn (at1 8)).1 (.stmts (fn (at1 8)).2.1) (fn (at1 8)).2.2 0 [] .none .none .none .none .none .none .none 0)) (List.toArray [])),
 (.mk (.type "code") .none (.fields (List.toArray [(.str (Str.ofString "is_named") 274), (.str (Str.ofString "is_named") 275), (.str (Str.ofString "/claim/cut.py") 276), (.int 23 0), (.int 4 0), (.int 0 0), (.int 0 0), (.int 3 0), (.ref 80), (.bool .true), (.int 181 0), (.ref 81), .none, (.ref 82), (.ref 83), (.ref 84), (.int 283 0), (.int 23 0), (.str (Str.ofString "/claim/cut.py") 284)])) (List.toArray [])),
 (.mk (.type "function") .none (.func (.mk (Str.ofString "is_named") (Str.ofString "is_named") (fn (at1 8)).1 (.stmts (fn (at1 8)).2.1) (fn (at1 8)).2.2 3 [] .none .none .none (.str (Str.ofString "markupmill.node_tests") 257) .none (.ref 85) .none 0)) (List.toArray [])),
 (.mk (.type "tuple") .none (.seq (List.toArray []) 0) (List.toArray [])),
 (.mk .none .none (.fields (List.toArray [])) (List.toArray [])),
 (.mk (.type "tuple") .none (.seq (List.toArray [(.str (Str.ofString "tree") 289), (.str (Str.ofString "node") 290), (.str (Str.ofString "axis") 291), (.str (Str.ofString "test") 292), (.str (Str.ofString "names") 293), (.str (Str.ofString "kind") 294), (.str (Str.ofString "uri") 295)]) 0) (List.toArray [])),
 (.mk (.type "tuple") .none (.seq (List.toArray []) 0) (List.toArray [])),
 (.mk .none .none (.func (.mk (Str.ofString "passes") (Str.ofString "passes") (fn (at1 9)).1 (.stmts (fn (at1 9)).2.1) (fn (at1 9)).2.2 0 [] .none .none .none .none .none .none .none 0)) (List.toArray [])),
 (.mk (.type "code") .none (.fields (List.toArray [(.str (Str.ofString "passes") 286), (.str (Str.ofString "passes") 287), (.str (Str.ofString "/claim/cut.py") 288), (.int 28 0), (.int 5 0), (.int 0 0), (.int 0 0), (.int 3 0), (.ref 87), (.bool .true), (.int 181 0), (.ref 88), .none, (.ref 89), (.ref 90), (.ref 91), (.int 296 0), (.int 28 0), (.str (Str.ofString "/claim/cut.py") 297)])) (List.toArray [])),
 (.mk (.type "function") .none (.func (.mk (Str.ofString "passes") (Str.ofString "passes") (fn (at1 9)).1 (.stmts (fn (at1 9)).2.1) (fn (at1 9)).2.2 3 [] .none .none .none (.str (Str.ofString "markupmill.node_tests") 257) .none (.ref 92) .none 0)) (List.toArray [])),
 (.mk (.type "tuple") .none (.seq (List.toArray [(.str (Str.ofString "root") 301), (.str (Str.ofString "element") 302)]) 0) (List.toArray [])),
 (.mk (.type "tuple") .none (.seq (List.toArray []) 0) (List.toArray [])),
 (.mk (.type "builtin_function_or_method") .none (.fields (List.toArray [(.builtin "type.__prepare__"), (.type "type")])) (List.toArray [])),
 (.mk (.type "dict") .none (.dict (List.toArray [(.mk (PyData.keyHash P (Str.ofString "__module__")) (.str (Str.ofString "__module__") 311) (.str (Str.ofString "markupmill.tree") 299)), (.mk (PyData.keyHash P (Str.ofString "__qualname__")) (.str (Str.ofString "__qualname__") 313) (.str (Str.ofString "NodeRow") 312)), (.mk (PyData.keyHash P (Str.ofString "__firstlineno__")) (.str (Str.ofString "__firstlineno__") 315) (.int 44 314)), (.mk (PyData.keyHash P (Str.ofString "__init__")) (.str (Str.ofString "__init__") 328) (.ref 108)), (.mk (PyData.keyHash P (Str.ofString "__static_attributes__")) (.str (Str.ofString "__static_attributes__") 338) (.ref 109))]) 5) (List.toArray [])),
 (.mk (.type "tuple") .none (.seq (List.toArray []) 0) (List.toArray [])),
 (.mk .none .none (.fields (List.toArray [(.int 46 0), (.int 4 0), (.ref 107)])) (List.toArray [])),
 (.mk (.type "code") .none (.fields (List.toArray [(.str (Str.ofString "NodeRow") 306), (.str (Str.ofString "NodeRow") 307), (.str (Str.ofString "/claim/cut.py") 308), (.int 44 0), (.int 0 0), (.int 0 0), (.int 0 0), (.int 0 0), (.ref 98), (.bool .false), (.int 181 0), (.ref 99), .none, .none, .none, .none, (.int 309 0), (.int 44 0), (.str (Str.ofString "/claim/cut.py") 310)])) (List.toArray [])),
 (.mk (.type "frame") .none .plain (List.toArray [(.some (.ref 100)), (.some (.ref 3)), (.some (.ref 97)), .none, (.some (.str (Str.ofString "markupmill.tree") 299)), .none, (.some (.ref 0))])),
 (.mk (.type "tuple") .none (.seq (List.toArray []) 0) (List.toArray [])),
 (.mk .none .none (.fields (List.toArray [])) (List.toArray [])),
 (.mk (.type "tuple") .none (.seq (List.toArray [(.str (Str.ofString "self") 319), (.str (Str.ofString "kind") 320), (.str (Str.ofString "name") 321), (.str (Str.ofString "uri") 322), (.str (Str.ofString "local") 323), (.str (Str.ofString "value") 324), (.str (Str.ofString "parent") 325)]) 0) (List.toArray [])),
 (.mk (.type "tuple") .none (.seq (List.toArray []) 0) (List.toArray [])),
 (.mk .none .none (.func (.mk (Str.ofString "__init__") (Str.ofString "NodeRow.__init__") (fn (at2 12 0)).1 (.stmts (fn (at2 12 0)).2.1) (fn (at2 12 0)).2.2 0 [] .none .none .none .none .none .none .none 0)) (List.toArray [])),
 (.mk (.type "code") .none (.fields (List.toArray [(.str (Str.ofString "__init__") 316), (.str (Str.ofString "NodeRow.__init__") 317), (.str (Str.ofString "/claim/cut.py") 318), (.int 46 0), (.int 7 0), (.int 0 0), (.int 0 0), (.int 3 0), (.ref 102), (.bool .true), (.int 181 0), (.ref 103), .none, (.ref 104), (.ref 105), (.ref 106), (.int 326 0), (.int 46 0), (.str (Str.ofString "/claim/cut.py") 327)])) (List.toArray [])),
 (.mk (.type "function") .none (.func (.mk (Str.ofString "__init__") (Str.ofString "NodeRow.__init__") (fn (at2 12 0)).1 (.stmts (fn (at2 12 0)).2.1) (fn (at2 12 0)).2.2 3 [] .none .none .none (.str (Str.ofString "markupmill.tree") 299) .none (.ref 107) .none 0)) (List.toArray [])),
 (.mk (.type "tuple") .none (.seq (List.toArray [(.str (Str.ofString "attributes") 329), (.str (Str.ofString "children") 330), (.str (Str.ofString "kind") 331), (.str (Str.ofString "local") 332), (.str (Str.ofString "name") 333), (.str (Str.ofString "namespaces") 334), (.str (Str.ofString "parent") 335), (.str (Str.ofString "uri") 336), (.str (Str.ofString "value") 337)]) 0) (List.toArray [])),
 (.mk (.type "dict") .none (.dict (List.toArray [(.mk (PyData.keyHash P (Str.ofString "__module__")) (.str (Str.ofString "__module__") 311) (.str (Str.ofString "markupmill.tree") 299)), (.mk (PyData.keyHash P (Str.ofString "__firstlineno__")) (.str (Str.ofString "__firstlineno__") 315) (.int 44 314)), (.mk (PyData.keyHash P (Str.ofString "__init__")) (.str (Str.ofString "__init__") 328) (.ref 108)), (.mk (PyData.keyHash P (Str.ofString "__static_attributes__")) (.str (Str.ofString "__static_attributes__") 338) (.ref 109)), (.mk (PyData.keyHash P (Str.ofString "__dict__")) (.str (Str.ofString "__dict__") 340) (.ref 112)), (.mk (PyData.keyHash P (Str.ofString "__weakref__")) (.str (Str.ofString "__weakref__") 342) (.ref 113)), (.mk (PyData.keyHash P (Str.ofString "__doc__")) (.str (Str.ofString "__doc__") 343) .none)]) 4) (List.toArray [])),
 (.mk (.type "type") .none (.cls (.mk (Str.ofString "NodeRow") [(.type "object")] [(.ref 111), (.type "object")] 110 (Str.ofString "NodeRow") .true [] [] .false .none .false)) (List.toArray [.none, .none, (.some (.str (Str.ofString "NodeRow") 304)), (.some (.str (Str.ofString "NodeRow") 312)), (.some (.builtin "object.__new__")), (.some (.bool .true))])),
 (.mk (.type "getset_descriptor") .none (.fields (List.toArray [(.str (Str.ofString "__dict__") 339), (.ref 111), (.builtin "function.__dict__"), (.builtin "function.__dict__#set")])) (List.toArray [])),
 (.mk (.type "getset_descriptor") .none (.fields (List.toArray [(.str (Str.ofString "__weakref__") 341), (.ref 111), (.builtin "ExceptionGroup.__weakref__"), .none])) (List.toArray [])),
 (.mk (.type "super") .none (.fields (List.toArray [(.ref 111), (.ref 111), (.ref 111)])) (List.toArray [])),
 (.mk (.type "builtin_function_or_method") .none (.fields (List.toArray [(.builtin "object.__init_subclass__"), (.ref 111)])) (List.toArray []))]) (.mk [] [] [] 0 [] [] .false (List.toArray []) [] 0 .false .false .false 0 [2000, 10, 10] .false 0 .true [] [] 0 .false)
noncomputable def hp2 (P : Params) : Heap := .mk (.mk [boot_o_0 P,
 boot_o_1 P,
 (.mk .none .none (.dict (List.toArray [(.mk (PyData.keyHash P (Str.ofString "type.__subclasses__.Exception.0")) (.str (Str.ofString "type.__subclasses__.Exception.0") 221) (.int 38 0)), (.mk (PyData.keyHash P (Str.ofString "type.__subclasses__.Exception.n")) (.str (Str.ofString "type.__subclasses__.Exception.n") 222) (.int 1 0))]) 2) (List.toArray [])),
 (.mk (.type "dict") .none (.dict (List.toArray [(.mk (PyData.keyHash P (Str.ofString "__name__")) (.str (Str.ofString "__name__") 165) (.str (Str.ofString "markupmill.tree") 299)), (.mk (PyData.keyHash P (Str.ofString "__doc__")) (.str (Str.ofString "__doc__") 166) .none), (.mk (PyData.keyHash P (Str.ofString "__package__")) (.str (Str.ofString "__package__") 167) .none), (.mk (PyData.keyHash P (Str.ofString "__loader__")) (.str (Str.ofString "__loader__") 168) (.builtin "__main__.__loader__#opaque")), (.mk (PyData.keyHash P (Str.ofString "__spec__")) (.str (Str.ofString "__spec__") 169) .none), (.mk (PyData.keyHash P (Str.ofString "__annotations__")) (.str (Str.ofString "__annotations__") 170) (.ref 6)), (.mk (PyData.keyHash P (Str.ofString "__builtins__")) (.str (Str.ofString "__builtins__") 171) (.ref 4)), (.mk (PyData.keyHash P (Str.ofString "__file__")) (.str (Str.ofString "__file__") 173) (.str (Str.ofString "/claim/cut.py") 172)), (.mk (PyData.keyHash P (Str.ofString "__cached__")) (.str (Str.ofString "__cached__") 174) .none), (.mk (PyData.keyHash P (Str.ofString "_wall")) (.str (Str.ofString "_wall") 193) (.ref 21)), (.mk (PyData.keyHash P (Str.ofString "MarkupError")) (.str (Str.ofString "MarkupError") 224) (.ref 38)), (.mk (PyData.keyHash P (Str.ofString "TreeFault")) (.str (Str.ofString "TreeFault") 240) (.ref 51)), (.mk (PyData.keyHash P (Str.ofString "PathFault")) (.str (Str.ofString "PathFault") 256) (.ref 63)), (.mk (PyData.keyHash P (Str.ofString "principal_kind")) (.str (Str.ofString "principal_kind") 265) (.ref 72)), (.mk (PyData.keyHash P (Str.ofString "bound_uri")) (.str (Str.ofString "bound_uri") 273) (.ref 79)), (.mk (PyData.keyHash P (Str.ofString "is_named")) (.str (Str.ofString "is_named") 285) (.ref 86)), (.mk (PyData.keyHash P (Str.ofString "passes")) (.str (Str.ofString "passes") 298) (.ref 93)), (.mk (PyData.keyHash P (Str.ofString "PARENTS")) (.str (Str.ofString "PARENTS") 303) (.ref 94)), (.mk (PyData.keyHash P (Str.ofString "NodeRow")) (.str (Str.ofString "NodeRow") 345) (.ref 111)), (.mk (PyData.keyHash P (Str.ofString "Tree")) (.str (Str.ofString "Tree") 598) (.ref 300))]) 20) (List.toArray [])),
 boot_o_4 P,
 boot_o_5 P,
 boot_o_6 P,
 boot_o_7 P,
 boot_o_8 P,
 boot_o_9 P,
 boot_o_10 P,
 (.mk (.type "tuple") .none (.seq (List.toArray []) 0) (List.toArray [])),
 (.mk .none .none (.fields (List.toArray [(.int 1 0), (.int 0 0), (.ref 20), (.int 5 0), (.int 0 0), (.ref 27), (.int 10 0), (.int 0 0), (.ref 47), (.int 12 0), (.int 0 0), (.ref 59), (.int 15 0), (.int 0 0), (.ref 71), (.int 17 0), (.int 0 0), (.ref 78), (.int 23 0), (.int 0 0), (.ref 85), (.int 28 0), (.int 0 0), (.ref 92), (.int 44 0), (.int 0 0), (.ref 100), (.int 56 0), (.int 0 0), (.ref 121)])) (List.toArray [])),
 (.mk (.type "code") .none (.fields (List.toArray [(.str (Str.ofString "<module>") 182), (.str (Str.ofString "<module>") 183), (.str (Str.ofString "/claim/cut.py") 184), (.int 1 0), (.int 0 0), (.int 0 0), (.int 0 0), (.int 0 0), (.ref 11), (.bool .false), (.int 181 0), (.ref 12), .none, .none, .none, .none, (.int 185 0), (.int 1 0), (.str (Str.ofString "/claim/cut.py") 186)])) (List.toArray [])),
 (.mk (.type "frame") .none .plain (List.toArray [(.some (.ref 13)), (.some (.ref 3)), (.some (.ref 3)), .none, (.some (.str (Str.ofString "__main__") 164)), .none, (.some (.ref 0))])),
 (.mk (.type "tuple") .none (.seq (List.toArray []) 0) (List.toArray [])),
 (.mk .none .none (.fields (List.toArray [])) (List.toArray [])),
 (.mk (.type "tuple") .none (.seq (List.toArray [(.str (Str.ofString "k") 190)]) 0) (List.toArray [])),
 (.mk (.type "tuple") .none (.seq (List.toArray []) 0) (List.toArray [])),
 (.mk .none .none (.func (.mk (Str.ofString "_wall") (Str.ofString "_wall") (fn (at1 0)).1 (.stmts (fn (at1 0)).2.1) (fn (at1 0)).2.2 0 [] .none .none .none .none .none .none .none 0)) (List.toArray [])),
 (.mk (.type "code") .none (.fields (List.toArray [(.str (Str.ofString "_wall") 187), (.str (Str.ofString "_wall") 188), (.str (Str.ofString "/claim/cut.py") 189), (.int 1 0), (.int 1 0), (.int 0 0), (.int 0 0), (.int 3 0), (.ref 15), (.bool .true), (.int 181 0), (.ref 16), .none, (.ref 17), (.ref 18), (.ref 19), (.int 191 0), (.int 1 0), (.str (Str.ofString "/claim/cut.py") 192)])) (List.toArray [])),
 (.mk (.type "function") .none (.func (.mk (Str.ofString "_wall") (Str.ofString "_wall") (fn (at1 0)).1 (.stmts (fn (at1 0)).2.1) (fn (at1 0)).2.2 3 [] .none .none .none (.str (Str.ofString "__main__") 164) .none (.ref 20) .none 0)) (List.toArray [])),
 (.mk (.type "tuple") .none (.seq (List.toArray [(.type "Exception")]) 0) (List.toArray [])),
 (.mk (.type "builtin_function_or_method") .none (.fields (List.toArray [(.builtin "type.__prepare__"), (.type "type")])) (List.toArray [])),
 (.mk (.type "dict") .none (.dict (List.toArray [(.mk (PyData.keyHash P (Str.ofString "__module__")) (.str (Str.ofString "__module__") 203) (.str (Str.ofString "markupmill.errors") 194)), (.mk (PyData.keyHash P (Str.ofString "__qualname__")) (.str (Str.ofString "__qualname__") 205) (.str (Str.ofString "MarkupError") 204)), (.mk (PyData.keyHash P (Str.ofString "__firstlineno__")) (.str (Str.ofString "__firstlineno__") 207) (.int 5 206)), (.mk (PyData.keyHash P (Str.ofString "__init__")) (.str (Str.ofString "__init__") 215) (.ref 35)), (.mk (PyData.keyHash P (Str.ofString "__static_attributes__")) (.str (Str.ofString "__static_attributes__") 217) (.ref 36))]) 5) (List.toArray [])),
 (.mk (.type "tuple") .none (.seq (List.toArray []) 0) (List.toArray [])),
 (.mk .none .none (.fields (List.toArray [(.int 7 0), (.int 4 0), (.ref 34)])) (List.toArray [])),
 (.mk (.type "code") .none (.fields (List.toArray [(.str (Str.ofString "MarkupError") 198), (.str (Str.ofString "MarkupError") 199), (.str (Str.ofString "/claim/cut.py") 200), (.int 5 0), (.int 0 0), (.int 0 0), (.int 0 0), (.int 0 0), (.ref 25), (.bool .false), (.int 181 0), (.ref 26), .none, .none, .none, .none, (.int 201 0), (.int 5 0), (.str (Str.ofString "/claim/cut.py") 202)])) (List.toArray [])),
 (.mk (.type "frame") .none .plain (List.toArray [(.some (.ref 27)), (.some (.ref 3)), (.some (.ref 24)), .none, (.some (.str (Str.ofString "markupmill.errors") 194)), .none, (.some (.ref 0))])),
 (.mk (.type "tuple") .none (.seq (List.toArray []) 0) (List.toArray [])),
 (.mk .none .none (.fields (List.toArray [])) (List.toArray [])),
 (.mk (.type "tuple") .none (.seq (List.toArray [(.str (Str.ofString "self") 211), (.str (Str.ofString "message") 212)]) 0) (List.toArray [])),
 (.mk (.type "tuple") .none (.seq (List.toArray []) 0) (List.toArray [])),
 (.mk .none .none (.func (.mk (Str.ofString "__init__") (Str.ofString "MarkupError.__init__") (fn (at2 2 0)).1 (.stmts (fn (at2 2 0)).2.1) (fn (at2 2 0)).2.2 0 [] .none .none .none .none .none .none .none 0)) (List.toArray [])),
 (.mk (.type "code") .none (.fields (List.toArray [(.str (Str.ofString "__init__") 208), (.str (Str.ofString "MarkupError.__init__") 209), (.str (Str.ofString "/claim/cut.py") 210), (.int 7 0), (.int 2 0), (.int 0 0), (.int 0 0), (.int 3 0), (.ref 29), (.bool .true), (.int 181 0), (.ref 30), .none, (.ref 31), (.ref 32), (.ref 33), (.int 213 0), (.int 7 0), (.str (Str.ofString "/claim/cut.py") 214)])) (List.toArray [])),
 (.mk (.type "function") .none (.func (.mk (Str.ofString "__init__") (Str.ofString "MarkupError.__init__") (fn (at2 2 0)).1 (.stmts (fn (at2 2 0)).2.1) (fn (at2 2 0)).2.2 3 [] .none .none .none (.str (Str.ofString "markupmill.errors") 194) .none (.ref 34) .none 0)) (List.toArray [])),
 (.mk (.type "tuple") .none (.seq (List.toArray [(.str (Str.ofString "message") 216)]) 0) (List.toArray [])),
 (.mk (.type "dict") .none (.dict (List.toArray [(.mk (PyData.keyHash P (Str.ofString "__module__")) (.str (Str.ofString "__module__") 203) (.str (Str.ofString "markupmill.errors") 194)), (.mk (PyData.keyHash P (Str.ofString "__firstlineno__")) (.str (Str.ofString "__firstlineno__") 207) (.int 5 206)), (.mk (PyData.keyHash P (Str.ofString "__init__")) (.str (Str.ofString "__init__") 215) (.ref 35)), (.mk (PyData.keyHash P (Str.ofString "__static_attributes__")) (.str (Str.ofString "__static_attributes__") 217) (.ref 36)), (.mk (PyData.keyHash P (Str.ofString "__weakref__")) (.str (Str.ofString "__weakref__") 219) (.ref 39)), (.mk (PyData.keyHash P (Str.ofString "__doc__")) (.str (Str.ofString "__doc__") 220) .none)]) 3) (List.toArray [])),
 (.mk (.type "type") .none (.cls (.mk (Str.ofString "MarkupError") [(.type "Exception")] [(.ref 38), (.type "Exception"), (.type "BaseException"), (.type "object")] 37 (Str.ofString "MarkupError") .true [] [(.ref 51), (.ref 63)] .false .none .false)) (List.toArray [(.some (.ref 22)), .none, (.some (.str (Str.ofString "MarkupError") 196)), (.some (.str (Str.ofString "MarkupError") 204)), (.some (.builtin "Exception.__new__")), (.some (.bool .true))])),
 (.mk (.type "getset_descriptor") .none (.fields (List.toArray [(.str (Str.ofString "__weakref__") 218), (.ref 38), (.builtin "ExceptionGroup.__weakref__"), .none])) (List.toArray [])),
 (.mk (.type "super") .none (.fields (List.toArray [(.ref 38), (.ref 38), (.ref 38)])) (List.toArray [])),
 (.mk (.type "builtin_function_or_method") .none (.fields (List.toArray [(.builtin "object.__init_subclass__"), (.ref 38)])) (List.toArray [])),
 (.mk (.type "tuple") .none (.seq (List.toArray [(.ref 38)]) 0) (List.toArray [])),
 (.mk (.type "builtin_function_or_method") .none (.fields (List.toArray [(.builtin "type.__prepare__"), (.type "type")])) (List.toArray [])),
 (.mk (.type "dict") .none (.dict (List.toArray [(.mk (PyData.keyHash P (Str.ofString "__module__")) (.str (Str.ofString "__module__") 232) (.str (Str.ofString "markupmill.errors") 194)), (.mk (PyData.keyHash P (Str.ofString "__qualname__")) (.str (Str.ofString "__qualname__") 234) (.str (Str.ofString "TreeFault") 233)), (.mk (PyData.keyHash P (Str.ofString "__firstlineno__")) (.str (Str.ofString "__firstlineno__") 236) (.int 10 235)), (.mk (PyData.keyHash P (Str.ofString "__static_attributes__")) (.str (Str.ofString "__static_attributes__") 237) (.ref 49))]) 4) (List.toArray [])),
 (.mk (.type "tuple") .none (.seq (List.toArray []) 0) (List.toArray [])),
 (.mk .none .none (.fields (List.toArray [])) (List.toArray [])),
 (.mk (.type "code") .none (.fields (List.toArray [(.str (Str.ofString "TreeFault") 227), (.str (Str.ofString "TreeFault") 228), (.str (Str.ofString "/claim/cut.py") 229), (.int 10 0), (.int 0 0), (.int 0 0), (.int 0 0), (.int 0 0), (.ref 45), (.bool .false), (.int 181 0), (.ref 46), .none, .none, .none, .none, (.int 230 0), (.int 10 0), (.str (Str.ofString "/claim/cut.py") 231)])) (List.toArray [])),
 (.mk (.type "frame") .none .plain (List.toArray [(.some (.ref 47)), (.some (.ref 3)), (.some (.ref 44)), .none, (.some (.str (Str.ofString "markupmill.errors") 194)), .none, (.some (.ref 0))])),
 (.mk (.type "tuple") .none (.seq (List.toArray []) 0) (List.toArray [])),
 (.mk (.type "dict") .none (.dict (List.toArray [(.mk (PyData.keyHash P (Str.ofString "__module__")) (.str (Str.ofString "__module__") 232) (.str (Str.ofString "markupmill.errors") 194)), (.mk (PyData.keyHash P (Str.ofString "__firstlineno__")) (.str (Str.ofString "__firstlineno__") 236) (.int 10 235)), (.mk (PyData.keyHash P (Str.ofString "__static_attributes__")) (.str (Str.ofString "__static_attributes__") 237) (.ref 49)), (.mk (PyData.keyHash P (Str.ofString "__doc__")) (.str (Str.ofString "__doc__") 238) .none)]) 2) (List.toArray [])),
 (.mk (.type "type") .none (.cls (.mk (Str.ofString "TreeFault") [(.ref 38)] [(.ref 51), (.ref 38), (.type "Exception"), (.type "BaseException"), (.type "object")] 50 (Str.ofString "TreeFault") .true [] [] .false .none .false)) (List.toArray [(.some (.ref 42)), .none, (.some (.str (Str.ofString "TreeFault") 225)), (.some (.str (Str.ofString "TreeFault") 233)), (.some (.builtin "Exception.__new__")), (.some (.bool .true))])),
 (.mk (.type "super") .none (.fields (List.toArray [(.ref 51), (.ref 51), (.ref 51)])) (List.toArray [])),
 (.mk (.type "builtin_function_or_method") .none (.fields (List.toArray [(.builtin "object.__init_subclass__"), (.ref 51)])) (List.toArray [])),
 (.mk (.type "tuple") .none (.seq (List.toArray [(.ref 38)]) 0) (List.toArray [])),
 (.mk (.type "builtin_function_or_method") .none (.fields (List.toArray [(.builtin "type.__prepare__"), (.type "type")])) (List.toArray [])),
 (.mk (.type "dict") .none (.dict (List.toArray [(.mk (PyData.keyHash P (Str.ofString "__module__")) (.str (Str.ofString "__module__") 248) (.str (Str.ofString "markupmill.errors") 194)), (.mk (PyData.keyHash P (Str.ofString "__qualname__")) (.str (Str.ofString "__qualname__") 250) (.str (Str.ofString "PathFault") 249)), (.mk (PyData.keyHash P (Str.ofString "__firstlineno__")) (.str (Str.ofString "__firstlineno__") 252) (.int 12 251)), (.mk (PyData.keyHash P (Str.ofString "__static_attributes__")) (.str (Str.ofString "__static_attributes__") 253) (.ref 61))]) 4) (List.toArray [])),
 (.mk (.type "tuple") .none (.seq (List.toArray []) 0) (List.toArray [])),
 (.mk .none .none (.fields (List.toArray [])) (List.toArray [])),
 (.mk (.type "code") .none (.fields (List.toArray [(.str (Str.ofString "PathFault") 243), (.str (Str.ofString "PathFault") 244), (.str (Str.ofString "/claim/cut.py") 245), (.int 12 0), (.int 0 0), (.int 0 0), (.int 0 0), (.int 0 0), (.ref 57), (.bool .false), (.int 181 0), (.ref 58), .none, .none, .none, .none, (.int 246 0), (.int 12 0), (.str (Str.ofString "/claim/cut.py") 247)])) (List.toArray [])),
 (.mk (.type "frame") .none .plain (List.toArray [(.some (.ref 59)), (.some (.ref 3)), (.some (.ref 56)), .none, (.some (.str (Str.ofString "markupmill.errors") 194)), .none, (.some (.ref 0))])),
 (.mk (.type "tuple") .none (.seq (List.toArray []) 0) (List.toArray [])),
 (.mk (.type "dict") .none (.dict (List.toArray [(.mk (PyData.keyHash P (Str.ofString "__module__")) (.str (Str.ofString "__module__") 248) (.str (Str.ofString "markupmill.errors") 194)), (.mk (PyData.keyHash P (Str.ofString "__firstlineno__")) (.str (Str.ofString "__firstlineno__") 252) (.int 12 251)), (.mk (PyData.keyHash P (Str.ofString "__static_attributes__")) (.str (Str.ofString "__static_attributes__") 253) (.ref 61)), (.mk (PyData.keyHash P (Str.ofString "__doc__")) (.str (Str.ofString "__doc__") 254) .none)]) 2) (List.toArray [])),
 (.mk (.type "type") .none (.cls (.mk (Str.ofString "PathFault") [(.ref 38)] [(.ref 63), (.ref 38), (.type "Exception"), (.type "BaseException"), (.type "object")] 62 (Str.ofString "PathFault") .true [] [] .false .none .false)) (List.toArray [(.some (.ref 54)), .none, (.some (.str (Str.ofString "PathFault") 241)), (.some (.str (Str.ofString "PathFault") 249)), (.some (.builtin "Exception.__new__")), (.some (.bool .true))])),
 (.mk (.type "super") .none (.fields (List.toArray [(.ref 63), (.ref 63), (.ref 63)])) (List.toArray [])),
 (.mk (.type "builtin_function_or_method") .none (.fields (List.toArray [(.builtin "object.__init_subclass__"), (.ref 63)])) (List.toArray [])),
 (.mk (.type "tuple") .none (.seq (List.toArray []) 0) (List.toArray [])),
 (.mk .none .none (.fields (List.toArray [])) (List.toArray [])),
 (.mk (.type "tuple") .none (.seq (List.toArray [(.str (Str.ofString "axis") 262)]) 0) (List.toArray [])),
 (.mk (.type "tuple") .none (.seq (List.toArray []) 0) (List.toArray [])),
 (.mk .none .none (.func (.mk (Str.ofString "principal_kind") (Str.ofString "principal_kind") (fn (at1 6)).1 (.stmts (fn (at1 6)).2.1) (fn (at1 6)).2.2 0 [] .none .none .none .none .none .none .none 0)) (List.toArray [])),
 (.mk (.type "code") .none (.fields (List.toArray [(.str (Str.ofString "principal_kind") 259), (.str (Str.ofString "principal_kind") 260), (.str (Str.ofString "/claim/cut.py") 261), (.int 15 0), (.int 1 0), (.int 0 0), (.int 0 0), (.int 3 0), (.ref 66), (.bool .true), (.int 181 0), (.ref 67), .none, (.ref 68), (.ref 69), (.ref 70), (.int 263 0), (.int 15 0), (.str (Str.ofString "/claim/cut.py") 264)])) (List.toArray [])),
 (.mk (.type "function") .none (.func (.mk (Str.ofString "principal_kind") (Str.ofString "principal_kind") (fn (at1 6)).1 (.stmts (fn (at1 6)).2.1) (fn (at1 6)).2.2 3 [] .none .none .none (.str (Str.ofString "markupmill.node_tests") 257) .none (.ref 71) .none 0)) (List.toArray [])),
 (.mk (.type "tuple") .none (.seq (List.toArray []) 0) (List.toArray [])),
 (.mk .none .none (.fields (List.toArray [])) (List.toArray [])),
 (.mk (.type "tuple") .none (.seq (List.toArray [(.str (Str.ofString "prefix") 269), (.str (Str.ofString "names") 270)]) 0) (List.toArray [])),
 (.mk (.type "tuple") .none (.seq (List.toArray []) 0) (List.toArray [])),
 (.mk .none .none (.func (.mk (Str.ofString "bound_uri") (Str.ofString "bound_uri") (fn (at1 7)).1 (.stmts (fn (at1 7)).2.1) (fn (at1 7)).2.2 0 [] .none .none .none .none .none .none .none 0)) (List.toArray [])),
 (.mk (.type "code") .none (.fields (List.toArray [(.str (Str.ofString "bound_uri") 266), (.str (Str.ofString "bound_uri") 267), (.str (Str.ofString "/claim/cut.py") 268), (.int 17 0), (.int 2 0), (.int 0 0), (.int 0 0), (.int 3 0), (.ref 73), (.bool .true), (.int 181 0), (.ref 74), .none, (.ref 75), (.ref 76), (.ref 77), (.int 271 0), (.int 17 0), (.str (Str.ofString "/claim/cut.py") 272)])) (List.toArray [])),
 (.mk (.type "function") .none (.func (.mk (Str.ofString "bound_uri") (Str.ofString "bound_uri") (fn (at1 7)).1 (.stmts (fn (at1 7)).2.1) (fn (at1 7)).2.2 3 [] .none .none .none (.str (Str.ofString "markupmill.node_tests") 257) .none (.ref 78) .none 0)) (List.toArray [])),
 (.mk (.type "tuple") .none (.seq (List.toArray []) 0) (List.toArray [])),
 (.mk .none .none (.fields (List.toArray [])) (List.toArray [])),
 (.mk (.type "tuple") .none (.seq (List.toArray [(.str (Str.ofString "tree") 277), (.str (Str.ofString "node") 278), (.str (Str.ofString "test") 279), (.str (Str.ofString "names") 280), (.str (Str.ofString "uri") 281), (.str (Str.ofString "kind") 282)]) 0) (List.toArray [])),
 (.mk (.type "tuple") .none (.seq (List.toArray []) 0) (List.toArray [])),
 (.mk .none .none (.func (.mk (Str.ofString "is_named") (Str.ofString "is_named") (fn (at1 8)).1 (.stmts (fn (at1 8)).2.1) (fn (at1 8)).2.2 0 [] .none .none .none .none .none .none .none 0)) (List.toArray [])),
 (.mk (.type "code") .none (.fields (List.toArray [(.str (Str.ofString "is_named") 274), (.str (Str.ofString "is_named") 275), (.str (Str.ofString "/claim/cut.py") 276), (.int 23 0), (.int 4 0), (.int 0 0), (.int 0 0), (.int 3 0), (.ref 80), (.bool .true), (.int 181 0), (.ref 81), .none, (.ref 82), (.ref 83), (.ref 84), (.int 283 0), (.int 23 0), (.str (Str.ofString "/claim/cut.py") 284)])) (List.toArray [])),
 (.mk (.type "function") .none (.func (.mk (Str.ofString "is_named") (Str.ofString "is_named") (fn (at1 8)).1 (.stmts (fn (at1 8)).2.1) (fn (at1 8)).2.2 3 [] .none .none .none (.str (Str.ofString "markupmill.node_tests") 257) .none (.ref 85) .none 0)) (List.toArray [])),
 (.mk (.type "tuple") .none (.seq (List.toArray []) 0) (List.toArray [])),
 (.mk .none .none (.fields (List.toArray [])) (List.toArray [])),
 (.mk (.type "tuple") .none (.seq (List.toArray [(.str (Str.ofString "tree") 289), (.str (Str.ofString "node") 290), (.str (Str.ofString "axis") 291), (.str (Str.ofString "test") 292), (.str (Str.ofString "names") 293), (.str (Str.ofString "kind") 294), (.str (Str.ofString "uri") 295)]) 0) (List.toArray [])),
 (.mk (.type "tuple") .none (.seq (List.toArray []) 0) (List.toArray [])),
 (.mk .none .none (.func (.mk (Str.ofString "passes") (Str.ofString "passes") (fn (at1 9)).1 (.stmts (fn (at1 9)).2.1) (fn (at1 9)).2.2 0 [] .none .none .none .none .none .none .none 0)) (List.toArray [])),
 (.mk (.type "code") .none (.fields (List.toArray [(.str (Str.ofString "passes") 286), (.str (Str.ofString "passes") 287), (.str (Str.ofString "/claim/cut.py") 288), (.int 28 0), (.int 5 0), (.int 0 0), (.int 0 0), (.int 3 0), (.ref 87), (.bool .true), (.int 181 0), (.ref 88), .none, (.ref 89), (.ref 90), (.ref 91), (.int 296 0), (.int 28 0), (.str (Str.ofString "/claim/cut.py") 297)])) (List.toArray [])),
 (.mk (.type "function") .none (.func (.mk (Str.ofString "passes") (Str.ofString "passes") (fn (at1 9)).1 (.stmts (fn (at1 9)).2.1) (fn (at1 9)).2.2 3 [] .none .none .none (.str (Str.ofString "markupmill.node_tests") 257) .none (.ref 92) .none 0)) (List.toArray [])),
 (.mk (.type "tuple") .none (.seq (List.toArray [(.str (Str.ofString "root") 301), (.str (Str.ofString "element") 302)]) 0) (List.toArray [])),
 (.mk (.type "tuple") .none (.seq (List.toArray []) 0) (List.toArray [])),
 (.mk (.type "builtin_function_or_method") .none (.fields (List.toArray [(.builtin "type.__prepare__"), (.type "type")])) (List.toArray [])),
 (.mk (.type "dict") .none (.dict (List.toArray [(.mk (PyData.keyHash P (Str.ofString "__module__")) (.str (Str.ofString "__module__") 311) (.str (Str.ofString "markupmill.tree") 299)), (.mk (PyData.keyHash P (Str.ofString "__qualname__")) (.str (Str.ofString "__qualname__") 313) (.str (Str.ofString "NodeRow") 312)), (.mk (PyData.keyHash P (Str.ofString "__firstlineno__")) (.str (Str.ofString "__firstlineno__") 315) (.int 44 314)), (.mk (PyData.keyHash P (Str.ofString "__init__")) (.str (Str.ofString "__init__") 328) (.ref 108)), (.mk (PyData.keyHash P (Str.ofString "__static_attributes__")) (.str (Str.ofString "__static_attributes__") 338) (.ref 109))]) 5) (List.toArray [])),
 (.mk (.type "tuple") .none (.seq (List.toArray []) 0) (List.toArray [])),
 (.mk .none .none (.fields (List.toArray [(.int 46 0), (.int 4 0), (.ref 107)])) (List.toArray [])),
 (.mk (.type "code") .none (.fields (List.toArray [(.str (Str.ofString "NodeRow") 306), (.str (Str.ofString "NodeRow") 307), (.str (Str.ofString "/claim/cut.py") 308), (.int 44 0), (.int 0 0), (.int 0 0), (.int 0 0), (.int 0 0), (.ref 98), (.bool .false), (.int 181 0), (.ref 99), .none, .none, .none, .none, (.int 309 0), (.int 44 0), (.str (Str.ofString "/claim/cut.py") 310)])) (List.toArray [])),
 (.mk (.type "frame") .none .plain (List.toArray [(.some (.ref 100)), (.some (.ref 3)), (.some (.ref 97)), .none, (.some (.str (Str.ofString "markupmill.tree") 299)), .none, (.some (.ref 0))])),
 (.mk (.type "tuple") .none (.seq (List.toArray []) 0) (List.toArray [])),
 (.mk .none .none (.fields (List.toArray [])) (List.toArray [])),
 (.mk (.type "tuple") .none (.seq (List.toArray [(.str (Str.ofString "self") 319), (.str (Str.ofString "kind") 320), (.str (Str.ofString "name") 321), (.str (Str.ofString "uri") 322), (.str (Str.ofString "local") 323), (.str (Str.ofString "value") 324), (.str (Str.ofString "parent") 325)]) 0) (List.toArray [])),
 (.mk (.type "tuple") .none (.seq (List.toArray []) 0) (List.toArray [])),
 (.mk .none .none (.func (.mk (Str.ofString "__init__") (Str.ofString "NodeRow.__init__") (fn (at2 12 0)).1 (.stmts (fn (at2 12 0)).2.1) (fn (at2 12 0)).2.2 0 [] .none .none .none .none .none .none .none 0)) (List.toArray [])),
 (.mk (.type "code") .none (.fields (List.toArray [(.str (Str.ofString "__init__") 316), (.str (Str.ofString "NodeRow.__init__") 317), (.str (Str.ofString "/claim/cut.py") 318), (.int 46 0), (.int 7 0), (.int 0 0), (.int 0 0), (.int 3 0), (.ref 102), (.bool .true), (.int 181 0), (.ref 103), .none, (.ref 104), (.ref 105), (.ref 106), (.int 326 0), (.int 46 0), (.str (Str.ofString "/claim/cut.py") 327)])) (List.toArray [])),
 (.mk (.type "function") .none (.func (.mk (Str.ofString "__init__") (Str.ofString "NodeRow.__init__") (fn (at2 12 0)).1 (.stmts (fn (at2 12 0)).2.1) (fn (at2 12 0)).2.2 3 [] .none .none .none (.str (Str.ofString "markupmill.tree") 299) .none (.ref 107) .none 0)) (List.toArray [])),
 (.mk (.type "tuple") .none (.seq (List.toArray [(.str (Str.ofString "attributes") 329), (.str (Str.ofString "children") 330), (.str (Str.ofString "kind") 331), (.str (Str.ofString "local") 332), (.str (Str.ofString "name") 333), (.str (Str.ofString "namespaces") 334), (.str (Str.ofString "parent") 335), (.str (Str.ofString "uri") 336), (.str (Str.ofString "value") 337)]) 0) (List.toArray [])),
 (.mk (.type "dict") .none (.dict (List.toArray [(.mk (PyData.keyHash P (Str.ofString "__module__")) (.str (Str.ofString "__module__") 311) (.str (Str.ofString "markupmill.tree") 299)), (.mk (PyData.keyHash P (Str.ofString "__firstlineno__")) (.str (Str.ofString "__firstlineno__") 315) (.int 44 314)), (.mk (PyData.keyHash P (Str.ofString "__init__")) (.str (Str.ofString "__init__") 328) (.ref 108)), (.mk (PyData.keyHash P (Str.ofString "__static_attributes__")) (.str (Str.ofString "__static_attributes__") 338) (.ref 109)), (.mk (PyData.keyHash P (Str.ofString "__dict__")) (.str (Str.ofString "__dict__") 340) (.ref 112)), (.mk (PyData.keyHash P (Str.ofString "__weakref__")) (.str (Str.ofString "__weakref__") 342) (.ref 113)), (.mk (PyData.keyHash P (Str.ofString "__doc__")) (.str (Str.ofString "__doc__") 343) .none)]) 4) (List.toArray [])),
 (.mk (.type "type") .none (.cls (.mk (Str.ofString "NodeRow") [(.type "object")] [(.ref 111), (.type "object")] 110 (Str.ofString "NodeRow") .true [] [] .false .none .false)) (List.toArray [.none, .none, (.some (.str (Str.ofString "NodeRow") 304)), (.some (.str (Str.ofString "NodeRow") 312)), (.some (.builtin "object.__new__")), (.some (.bool .true))])),
 (.mk (.type "getset_descriptor") .none (.fields (List.toArray [(.str (Str.ofString "__dict__") 339), (.ref 111), (.builtin "function.__dict__"), (.builtin "function.__dict__#set")])) (List.toArray [])),
 (.mk (.type "getset_descriptor") .none (.fields (List.toArray [(.str (Str.ofString "__weakref__") 341), (.ref 111), (.builtin "ExceptionGroup.__weakref__"), .none])) (List.toArray [])),
 (.mk (.type "super") .none (.fields (List.toArray [(.ref 111), (.ref 111), (.ref 111)])) (List.toArray [])),
 (.mk (.type "builtin_function_or_method") .none (.fields (List.toArray [(.builtin "object.__init_subclass__"), (.ref 111)])) (List.toArray [])),
 (.mk (.type "tuple") .none (.seq (List.toArray []) 0) (List.toArray [])),
 (.mk (.type "builtin_function_or_method") .none (.fields (List.toArray [(.builtin "type.__prepare__"), (.type "type")])) (List.toArray [])),
 (.mk (.type "dict") .none (.dict (List.toArray [(.mk (PyData.keyHash P (Str.ofString "__module__")) (.str (Str.ofString "__module__") 353) (.str (Str.ofString "markupmill.tree") 299)), (.mk (PyData.keyHash P (Str.ofString "__qualname__")) (.str (Str.ofString "__qualname__") 355) (.str (Str.ofString "Tree") 354)), (.mk (PyData.keyHash P (Str.ofString "__firstlineno__")) (.str (Str.ofString "__firstlineno__") 357) (.int 56 356)), (.mk (PyData.keyHash P (Str.ofString "__init__")) (.str (Str.ofString "__init__") 364) (.ref 129)), (.mk (PyData.keyHash P (Str.ofString "new_row")) (.str (Str.ofString "new_row") 377) (.ref 136)), (.mk (PyData.keyHash P (Str.ofString "row")) (.str (Str.ofString "row") 385) (.ref 143)), (.mk (PyData.keyHash P (Str.ofString "new_root")) (.str (Str.ofString "new_root") 392) (.ref 150)), (.mk (PyData.keyHash P (Str.ofString "add_child")) (.str (Str.ofString "add_child") 406) (.ref 157)), (.mk (PyData.keyHash P (Str.ofString "add_element")) (.str (Str.ofString "add_element") 417) (.ref 164)), (.mk (PyData.keyHash P (Str.ofString "add_text")) (.str (Str.ofString "add_text") 426) (.ref 171)), (.mk (PyData.keyHash P (Str.ofString "add_comment")) (.str (Str.ofString "add_comment") 435) (.ref 178)), (.mk (PyData.keyHash P (Str.ofString "add_instruction")) (.str (Str.ofString "add_instruction") 445) (.ref 185)), (.mk (PyData.keyHash P (Str.ofString "element_row")) (.str (Str.ofString "element_row") 454) (.ref 192)), (.mk (PyData.keyHash P (Str.ofString "set_attribute")) (.str (Str.ofString "set_attribute") 469) (.ref 199)), (.mk (PyData.keyHash P (Str.ofString "add_namespace")) (.str (Str.ofString "add_namespace") 481) (.ref 206)), (.mk (PyData.keyHash P (Str.ofString "set_value")) (.str (Str.ofString "set_value") 490) (.ref 213)), (.mk (PyData.keyHash P (Str.ofString "kind")) (.str (Str.ofString "kind") 498) (.ref 220)), (.mk (PyData.keyHash P (Str.ofString "name")) (.str (Str.ofString "name") 506) (.ref 227)), (.mk (PyData.keyHash P (Str.ofString "uri")) (.str (Str.ofString "uri") 514) (.ref 234)), (.mk (PyData.keyHash P (Str.ofString "local")) (.str (Str.ofString "local") 522) (.ref 241)), (.mk (PyData.keyHash P (Str.ofString "value")) (.str (Str.ofString "value") 530) (.ref 248)), (.mk (PyData.keyHash P (Str.ofString "parent")) (.str (Str.ofString "parent") 538) (.ref 255)), (.mk (PyData.keyHash P (Str.ofString "children")) (.str (Str.ofString "children") 546) (.ref 262)), (.mk (PyData.keyHash P (Str.ofString "attributes")) (.str (Str.ofString "attributes") 554) (.ref 269)), (.mk (PyData.keyHash P (Str.ofString "namespaces")) (.str (Str.ofString "namespaces") 562) (.ref 276)), (.mk (PyData.keyHash P (Str.ofString "root_of")) (.str (Str.ofString "root_of") 570) (.ref 283)), (.mk (PyData.keyHash P (Str.ofString "is_above")) (.str (Str.ofString "is_above") 579) (.ref 290)), (.mk (PyData.keyHash P (Str.ofString "attribute_value")) (.str (Str.ofString "attribute_value") 589) (.ref 297)), (.mk (PyData.keyHash P (Str.ofString "__static_attributes__")) (.str (Str.ofString "__static_attributes__") 591) (.ref 298))]) 29) (List.toArray [])),
 (.mk (.type "tuple") .none (.seq (List.toArray []) 0) (List.toArray [])),
 (.mk .none .none (.fields (List.toArray [(.int 58 0), (.int 4 0), (.ref 128), (.int 61 0), (.int 4 0), (.ref 135), (.int 65 0), (.int 4 0), (.ref 142), (.int 70 0), (.int 4 0), (.ref 149), (.int 73 0), (.int 4 0), (.ref 156), (.int 81 0), (.int 4 0), (.ref 163), (.int 84 0), (.int 4 0), (.ref 170), (.int 87 0), (.int 4 0), (.ref 177), (.int 90 0), (.int 4 0), (.ref 184), (.int 93 0), (.int 4 0), (.ref 191), (.int 99 0), (.int 4 0), (.ref 198), (.int 111 0), (.int 4 0), (.ref 205), (.int 121 0), (.int 4 0), (.ref 212), (.int 124 0), (.int 4 0), (.ref 219), (.int 127 0), (.int 4 0), (.ref 226), (.int 130 0), (.int 4 0), (.ref 233), (.int 133 0), (.int 4 0), (.ref 240), (.int 136 0), (.int 4 0), (.ref 247), (.int 139 0), (.int 4 0), (.ref 254), (.int 142 0), (.int 4 0), (.ref 261), (.int 145 0), (.int 4 0), (.ref 268), (.int 148 0), (.int 4 0), (.ref 275), (.int 151 0), (.int 4 0), (.ref 282), (.int 154 0), (.int 4 0), (.ref 289), (.int 157 0), (.int 4 0), (.ref 296)])) (List.toArray [])),
 (.mk (.type "code") .none (.fields (List.toArray [(.str (Str.ofString "Tree") 348), (.str (Str.ofString "Tree") 349), (.str (Str.ofString "/claim/cut.py") 350), (.int 56 0), (.int 0 0), (.int 0 0), (.int 0 0), (.int 0 0), (.ref 119), (.bool .false), (.int 181 0), (.ref 120), .none, .none, .none, .none, (.int 351 0), (.int 56 0), (.str (Str.ofString "/claim/cut.py") 352)])) (List.toArray [])),
 (.mk (.type "frame") .none .plain (List.toArray [(.some (.ref 121)), (.some (.ref 3)), (.some (.ref 118)), .none, (.some (.str (Str.ofString "markupmill.tree") 299)), .none, (.some (.ref 0))])),
 (.mk (.type "tuple") .none (.seq (List.toArray []) 0) (List.toArray [])),
 (.mk .none .none (.fields (List.toArray [])) (List.toArray [])),
 (.mk (.type "tuple") .none (.seq (List.toArray [(.str (Str.ofString "self") 361)]) 0) (List.toArray [])),
 (.mk (.type "tuple") .none (.seq (List.toArray []) 0) (List.toArray [])),
 (.mk .none .none (.func (.mk (Str.ofString "__init__") (Str.ofString "Tree.__init__") (fn (at2 13 0)).1 (.stmts (fn (at2 13 0)).2.1) (fn (at2 13 0)).2.2 0 [] .none .none .none .none .none .none .none 0)) (List.toArray [])),
 (.mk (.type "code") .none (.fields (List.toArray [(.str (Str.ofString "__init__") 358), (.str (Str.ofString "Tree.__init__") 359), (.str (Str.ofString "/claim/cut.py") 360), (.int 58 0), (.int 1 0), (.int 0 0), (.int 0 0), (.int 3 0), (.ref 123), (.bool .true), (.int 181 0), (.ref 124), .none, (.ref 125), (.ref 126), (.ref 127), (.int 362 0), (.int 58 0), (.str (Str.ofString "/claim/cut.py") 363)])) (List.toArray [])),
 (.mk (.type "function") .none (.func (.mk (Str.ofString "__init__") (Str.ofString "Tree.__init__") (fn (at2 13 0)).1 (.stmts (fn (at2 13 0)).2.1) (fn (at2 13 0)).2.2 3 [] .none .none .none (.str (Str.ofString "markupmill.tree") 299) .none (.ref 128) .none 0)) (List.toArray [])),
 (.mk (.type "tuple") .none (.seq (List.toArray []) 0) (List.toArray [])),
 (.mk .none .none (.fields (List.toArray [])) (List.toArray [])),
 (.mk (.type "tuple") .none (.seq (List.toArray [(.str (Str.ofString "self") 368), (.str (Str.ofString "kind") 369), (.str (Str.ofString "name") 370), (.str (Str.ofString "uri") 371), (.str (Str.ofString "local") 372), (.str (Str.ofString "value") 373), (.str (Str.ofString "parent") 374)]) 0) (List.toArray [])),
 (.mk (.type "tuple") .none (.seq (List.toArray []) 0) (List.toArray [])),
 (.mk .none .none (.func (.mk (Str.ofString "new_row") (Str.ofString "Tree.new_row") (fn (at2 13 1)).1 (.stmts (fn (at2 13 1)).2.1) (fn (at2 13 1)).2.2 0 [] .none .none .none .none .none .none .none 0)) (List.toArray [])),
 (.mk (.type "code") .none (.fields (List.toArray [(.str (Str.ofString "new_row") 365), (.str (Str.ofString "Tree.new_row") 366), (.str (Str.ofString "/claim/cut.py") 367), (.int 61 0), (.int 7 0), (.int 0 0), (.int 0 0), (.int 3 0), (.ref 130), (.bool .true), (.int 181 0), (.ref 131), .none, (.ref 132), (.ref 133), (.ref 134), (.int 375 0), (.int 61 0), (.str (Str.ofString "/claim/cut.py") 376)])) (List.toArray [])),
 (.mk (.type "function") .none (.func (.mk (Str.ofString "new_row") (Str.ofString "Tree.new_row") (fn (at2 13 1)).1 (.stmts (fn (at2 13 1)).2.1) (fn (at2 13 1)).2.2 3 [] .none .none .none (.str (Str.ofString "markupmill.tree") 299) .none (.ref 135) .none 0)) (List.toArray [])),
 (.mk (.type "tuple") .none (.seq (List.toArray []) 0) (List.toArray [])),
 (.mk .none .none (.fields (List.toArray [])) (List.toArray [])),
 (.mk (.type "tuple") .none (.seq (List.toArray [(.str (Str.ofString "self") 381), (.str (Str.ofString "node") 382)]) 0) (List.toArray [])),
 (.mk (.type "tuple") .none (.seq (List.toArray []) 0) (List.toArray [])),
 (.mk .none .none (.func (.mk (Str.ofString "row") (Str.ofString "Tree.row") (fn (at2 13 2)).1 (.stmts (fn (at2 13 2)).2.1) (fn (at2 13 2)).2.2 0 [] .none .none .none .none .none .none .none 0)) (List.toArray [])),
 (.mk (.type "code") .none (.fields (List.toArray [(.str (Str.ofString "row") 378), (.str (Str.ofString "Tree.row") 379), (.str (Str.ofString "/claim/cut.py") 380), (.int 65 0), (.int 2 0), (.int 0 0), (.int 0 0), (.int 3 0), (.ref 137), (.bool .true), (.int 181 0), (.ref 138), .none, (.ref 139), (.ref 140), (.ref 141), (.int 383 0), (.int 65 0), (.str (Str.ofString "/claim/cut.py") 384)])) (List.toArray [])),
 (.mk (.type "function") .none (.func (.mk (Str.ofString "row") (Str.ofString "Tree.row") (fn (at2 13 2)).1 (.stmts (fn (at2 13 2)).2.1) (fn (at2 13 2)).2.2 3 [] .none .none .none (.str (Str.ofString "markupmill.tree") 299) .none (.ref 142) .none 0)) (List.toArray [])),
 (.mk (.type "tuple") .none (.seq (List.toArray []) 0) (List.toArray [])),
 (.mk .none .none (.fields (List.toArray [])) (List.toArray [])),
 (.mk (.type "tuple") .none (.seq (List.toArray [(.str (Str.ofString "self") 389)]) 0) (List.toArray [])),
 (.mk (.type "tuple") .none (.seq (List.toArray []) 0) (List.toArray [])),
 (.mk .none .none (.func (.mk (Str.ofString "new_root") (Str.ofString "Tree.new_root") (fn (at2 13 3)).1 (.stmts (fn (at2 13 3)).2.1) (fn (at2 13 3)).2.2 0 [] .none .none .none .none .none .none .none 0)) (List.toArray [])),
 (.mk (.type "code") .none (.fields (List.toArray [(.str (Str.ofString "new_root") 386), (.str (Str.ofString "Tree.new_root") 387), (.str (Str.ofString "/claim/cut.py") 388), (.int 70 0), (.int 1 0), (.int 0 0), (.int 0 0), (.int 3 0), (.ref 144), (.bool .true), (.int 181 0), (.ref 145), .none, (.ref 146), (.ref 147), (.ref 148), (.int 390 0), (.int 70 0), (.str (Str.ofString "/claim/cut.py") 391)])) (List.toArray [])),
 (.mk (.type "function") .none (.func (.mk (Str.ofString "new_root") (Str.ofString "Tree.new_root") (fn (at2 13 3)).1 (.stmts (fn (at2 13 3)).2.1) (fn (at2 13 3)).2.2 3 [] .none .none .none (.str (Str.ofString "markupmill.tree") 299) .none (.ref 149) .none 0)) (List.toArray [])),
 (.mk (.type "tuple") .none (.seq (List.toArray []) 0) (List.toArray [])),
 (.mk .none .none (.fields (List.toArray [])) (List.toArray [])),
 (.mk (.type "tuple") .none (.seq (List.toArray [(.str (Str.ofString "self") 396), (.str (Str.ofString "parent") 397), (.str (Str.ofString "kind") 398), (.str (Str.ofString "name") 399), (.str (Str.ofString "uri") 400), (.str (Str.ofString "local") 401), (.str (Str.ofString "value") 402), (.str (Str.ofString "node") 403)]) 0) (List.toArray [])),
 (.mk (.type "tuple") .none (.seq (List.toArray []) 0) (List.toArray [])),
 (.mk .none .none (.func (.mk (Str.ofString "add_child") (Str.ofString "Tree.add_child") (fn (at2 13 4)).1 (.stmts (fn (at2 13 4)).2.1) (fn (at2 13 4)).2.2 0 [] .none .none .none .none .none .none .none 0)) (List.toArray [])),
 (.mk (.type "code") .none (.fields (List.toArray [(.str (Str.ofString "add_child") 393), (.str (Str.ofString "Tree.add_child") 394), (.str (Str.ofString "/claim/cut.py") 395), (.int 73 0), (.int 7 0), (.int 0 0), (.int 0 0), (.int 3 0), (.ref 151), (.bool .true), (.int 181 0), (.ref 152), .none, (.ref 153), (.ref 154), (.ref 155), (.int 404 0), (.int 73 0), (.str (Str.ofString "/claim/cut.py") 405)])) (List.toArray [])),
 (.mk (.type "function") .none (.func (.mk (Str.ofString "add_child") (Str.ofString "Tree.add_child") (fn (at2 13 4)).1 (.stmts (fn (at2 13 4)).2.1) (fn (at2 13 4)).2.2 3 [] .none .none .none (.str (Str.ofString "markupmill.tree") 299) .none (.ref 156) .none 0)) (List.toArray [])),
 (.mk (.type "tuple") .none (.seq (List.toArray []) 0) (List.toArray [])),
 (.mk .none .none (.fields (List.toArray [])) (List.toArray [])),
 (.mk (.type "tuple") .none (.seq (List.toArray [(.str (Str.ofString "self") 410), (.str (Str.ofString "parent") 411), (.str (Str.ofString "name") 412), (.str (Str.ofString "uri") 413), (.str (Str.ofString "local") 414)]) 0) (List.toArray [])),
 (.mk (.type "tuple") .none (.seq (List.toArray []) 0) (List.toArray [])),
 (.mk .none .none (.func (.mk (Str.ofString "add_element") (Str.ofString "Tree.add_element") (fn (at2 13 5)).1 (.stmts (fn (at2 13 5)).2.1) (fn (at2 13 5)).2.2 0 [] .none .none .none .none .none .none .none 0)) (List.toArray [])),
 (.mk (.type "code") .none (.fields (List.toArray [(.str (Str.ofString "add_element") 407), (.str (Str.ofString "Tree.add_element") 408), (.str (Str.ofString "/claim/cut.py") 409), (.int 81 0), (.int 5 0), (.int 0 0), (.int 0 0), (.int 3 0), (.ref 158), (.bool .true), (.int 181 0), (.ref 159), .none, (.ref 160), (.ref 161), (.ref 162), (.int 415 0), (.int 81 0), (.str (Str.ofString "/claim/cut.py") 416)])) (List.toArray [])),
 (.mk (.type "function") .none (.func (.mk (Str.ofString "add_element") (Str.ofString "Tree.add_element") (fn (at2 13 5)).1 (.stmts (fn (at2 13 5)).2.1) (fn (at2 13 5)).2.2 3 [] .none .none .none (.str (Str.ofString "markupmill.tree") 299) .none (.ref 163) .none 0)) (List.toArray [])),
 (.mk (.type "tuple") .none (.seq (List.toArray []) 0) (List.toArray [])),
 (.mk .none .none (.fields (List.toArray [])) (List.toArray [])),
 (.mk (.type "tuple") .none (.seq (List.toArray [(.str (Str.ofString "self") 421), (.str (Str.ofString "parent") 422), (.str (Str.ofString "value") 423)]) 0) (List.toArray [])),
 (.mk (.type "tuple") .none (.seq (List.toArray []) 0) (List.toArray [])),
 (.mk .none .none (.func (.mk (Str.ofString "add_text") (Str.ofString "Tree.add_text") (fn (at2 13 6)).1 (.stmts (fn (at2 13 6)).2.1) (fn (at2 13 6)).2.2 0 [] .none .none .none .none .none .none .none 0)) (List.toArray [])),
 (.mk (.type "code") .none (.fields (List.toArray [(.str (Str.ofString "add_text") 418), (.str (Str.ofString "Tree.add_text") 419), (.str (Str.ofString "/claim/cut.py") 420), (.int 84 0), (.int 3 0), (.int 0 0), (.int 0 0), (.int 3 0), (.ref 165), (.bool .true), (.int 181 0), (.ref 166), .none, (.ref 167), (.ref 168), (.ref 169), (.int 424 0), (.int 84 0), (.str (Str.ofString "/claim/cut.py") 425)])) (List.toArray [])),
 (.mk (.type "function") .none (.func (.mk (Str.ofString "add_text") (Str.ofString "Tree.add_text") (fn (at2 13 6)).1 (.stmts (fn (at2 13 6)).2.1) (fn (at2 13 6)).2.2 3 [] .none .none .none (.str (Str.ofString "markupmill.tree") 299) .none (.ref 170) .none 0)) (List.toArray [])),
 (.mk (.type "tuple") .none (.seq (List.toArray []) 0) (List.toArray [])),
 (.mk .none .none (.fields (List.toArray [])) (List.toArray [])),
 (.mk (.type "tuple") .none (.seq (List.toArray [(.str (Str.ofString "self") 430), (.str (Str.ofString "parent") 431), (.str (Str.ofString "value") 432)]) 0) (List.toArray [])),
 (.mk (.type "tuple") .none (.seq (List.toArray []) 0) (List.toArray [])),
 (.mk .none .none (.func (.mk (Str.ofString "add_comment") (Str.ofString "Tree.add_comment") (fn (at2 13 7)).1 (.stmts (fn (at2 13 7)).2.1) (fn (at2 13 7)).2.2 0 [] .none .none .none .none .none .none .none 0)) (List.toArray [])),
 (.mk (.type "code") .none (.fields (List.toArray [(.str (Str.ofString "add_comment") 427), (.str (Str.ofString "Tree.add_comment") 428), (.str (Str.ofString "/claim/cut.py") 429), (.int 87 0), (.int 3 0), (.int 0 0), (.int 0 0), (.int 3 0), (.ref 172), (.bool .true), (.int 181 0), (.ref 173), .none, (.ref 174), (.ref 175), (.ref 176), (.int 433 0), (.int 87 0), (.str (Str.ofString "/claim/cut.py") 434)])) (List.toArray [])),
 (.mk (.type "function") .none (.func (.mk (Str.ofString "add_comment") (Str.ofString "Tree.add_comment") (fn (at2 13 7)).1 (.stmts (fn (at2 13 7)).2.1) (fn (at2 13 7)).2.2 3 [] .none .none .none (.str (Str.ofString "markupmill.tree") 299) .none (.ref 177) .none 0)) (List.toArray [])),
 (.mk (.type "tuple") .none (.seq (List.toArray []) 0) (List.toArray [])),
 (.mk .none .none (.fields (List.toArray [])) (List.toArray [])),
 (.mk (.type "tuple") .none (.seq (List.toArray [(.str (Str.ofString "self") 439), (.str (Str.ofString "parent") 440), (.str (Str.ofString "target") 441), (.str (Str.ofString "data") 442)]) 0) (List.toArray [])),
 (.mk (.type "tuple") .none (.seq (List.toArray []) 0) (List.toArray [])),
 (.mk .none .none (.func (.mk (Str.ofString "add_instruction") (Str.ofString "Tree.add_instruction") (fn (at2 13 8)).1 (.stmts (fn (at2 13 8)).2.1) (fn (at2 13 8)).2.2 0 [] .none .none .none .none .none .none .none 0)) (List.toArray [])),
 (.mk (.type "code") .none (.fields (List.toArray [(.str (Str.ofString "add_instruction") 436), (.str (Str.ofString "Tree.add_instruction") 437), (.str (Str.ofString "/claim/cut.py") 438), (.int 90 0), (.int 4 0), (.int 0 0), (.int 0 0), (.int 3 0), (.ref 179), (.bool .true), (.int 181 0), (.ref 180), .none, (.ref 181), (.ref 182), (.ref 183), (.int 443 0), (.int 90 0), (.str (Str.ofString "/claim/cut.py") 444)])) (List.toArray [])),
 (.mk (.type "function") .none (.func (.mk (Str.ofString "add_instruction") (Str.ofString "Tree.add_instruction") (fn (at2 13 8)).1 (.stmts (fn (at2 13 8)).2.1) (fn (at2 13 8)).2.2 3 [] .none .none .none (.str (Str.ofString "markupmill.tree") 299) .none (.ref 184) .none 0)) (List.toArray [])),
 (.mk (.type "tuple") .none (.seq (List.toArray []) 0) (List.toArray [])),
 (.mk .none .none (.fields (List.toArray [])) (List.toArray [])),
 (.mk (.type "tuple") .none (.seq (List.toArray [(.str (Str.ofString "self") 449), (.str (Str.ofString "element") 450), (.str (Str.ofString "row") 451)]) 0) (List.toArray [])),
 (.mk (.type "tuple") .none (.seq (List.toArray []) 0) (List.toArray [])),
 (.mk .none .none (.func (.mk (Str.ofString "element_row") (Str.ofString "Tree.element_row") (fn (at2 13 9)).1 (.stmts (fn (at2 13 9)).2.1) (fn (at2 13 9)).2.2 0 [] .none .none .none .none .none .none .none 0)) (List.toArray [])),
 (.mk (.type "code") .none (.fields (List.toArray [(.str (Str.ofString "element_row") 446), (.str (Str.ofString "Tree.element_row") 447), (.str (Str.ofString "/claim/cut.py") 448), (.int 93 0), (.int 2 0), (.int 0 0), (.int 0 0), (.int 3 0), (.ref 186), (.bool .true), (.int 181 0), (.ref 187), .none, (.ref 188), (.ref 189), (.ref 190), (.int 452 0), (.int 93 0), (.str (Str.ofString "/claim/cut.py") 453)])) (List.toArray [])),
 (.mk (.type "function") .none (.func (.mk (Str.ofString "element_row") (Str.ofString "Tree.element_row") (fn (at2 13 9)).1 (.stmts (fn (at2 13 9)).2.1) (fn (at2 13 9)).2.2 3 [] .none .none .none (.str (Str.ofString "markupmill.tree") 299) .none (.ref 191) .none 0)) (List.toArray [])),
 (.mk (.type "tuple") .none (.seq (List.toArray []) 0) (List.toArray [])),
 (.mk .none .none (.fields (List.toArray [])) (List.toArray [])),
 (.mk (.type "tuple") .none (.seq (List.toArray [(.str (Str.ofString "self") 458), (.str (Str.ofString "element") 459), (.str (Str.ofString "name") 460), (.str (Str.ofString "uri") 461), (.str (Str.ofString "local") 462), (.str (Str.ofString "value") 463), (.str (Str.ofString "row") 464), (.str (Str.ofString "node") 465), (.str (Str.ofString "known") 466)]) 0) (List.toArray [])),
 (.mk (.type "tuple") .none (.seq (List.toArray []) 0) (List.toArray [])),
 (.mk .none .none (.func (.mk (Str.ofString "set_attribute") (Str.ofString "Tree.set_attribute") (fn (at2 13 10)).1 (.stmts (fn (at2 13 10)).2.1) (fn (at2 13 10)).2.2 0 [] .none .none .none .none .none .none .none 0)) (List.toArray [])),
 (.mk (.type "code") .none (.fields (List.toArray [(.str (Str.ofString "set_attribute") 455), (.str (Str.ofString "Tree.set_attribute") 456), (.str (Str.ofString "/claim/cut.py") 457), (.int 99 0), (.int 6 0), (.int 0 0), (.int 0 0), (.int 3 0), (.ref 193), (.bool .true), (.int 181 0), (.ref 194), .none, (.ref 195), (.ref 196), (.ref 197), (.int 467 0), (.int 99 0), (.str (Str.ofString "/claim/cut.py") 468)])) (List.toArray [])),
 (.mk (.type "function") .none (.func (.mk (Str.ofString "set_attribute") (Str.ofString "Tree.set_attribute") (fn (at2 13 10)).1 (.stmts (fn (at2 13 10)).2.1) (fn (at2 13 10)).2.2 3 [] .none .none .none (.str (Str.ofString "markupmill.tree") 299) .none (.ref 198) .none 0)) (List.toArray [])),
 (.mk (.type "tuple") .none (.seq (List.toArray []) 0) (List.toArray [])),
 (.mk .none .none (.fields (List.toArray [])) (List.toArray [])),
 (.mk (.type "tuple") .none (.seq (List.toArray [(.str (Str.ofString "self") 473), (.str (Str.ofString "element") 474), (.str (Str.ofString "prefix") 475), (.str (Str.ofString "uri") 476), (.str (Str.ofString "row") 477), (.str (Str.ofString "node") 478)]) 0) (List.toArray [])),
 (.mk (.type "tuple") .none (.seq (List.toArray []) 0) (List.toArray [])),
 (.mk .none .none (.func (.mk (Str.ofString "add_namespace") (Str.ofString "Tree.add_namespace") (fn (at2 13 11)).1 (.stmts (fn (at2 13 11)).2.1) (fn (at2 13 11)).2.2 0 [] .none .none .none .none .none .none .none 0)) (List.toArray [])),
 (.mk (.type "code") .none (.fields (List.toArray [(.str (Str.ofString "add_namespace") 470), (.str (Str.ofString "Tree.add_namespace") 471), (.str (Str.ofString "/claim/cut.py") 472), (.int 111 0), (.int 4 0), (.int 0 0), (.int 0 0), (.int 3 0), (.ref 200), (.bool .true), (.int 181 0), (.ref 201), .none, (.ref 202), (.ref 203), (.ref 204), (.int 479 0), (.int 111 0), (.str (Str.ofString "/claim/cut.py") 480)])) (List.toArray [])),
 (.mk (.type "function") .none (.func (.mk (Str.ofString "add_namespace") (Str.ofString "Tree.add_namespace") (fn (at2 13 11)).1 (.stmts (fn (at2 13 11)).2.1) (fn (at2 13 11)).2.2 3 [] .none .none .none (.str (Str.ofString "markupmill.tree") 299) .none (.ref 205) .none 0)) (List.toArray [])),
 (.mk (.type "tuple") .none (.seq (List.toArray []) 0) (List.toArray [])),
 (.mk .none .none (.fields (List.toArray [])) (List.toArray [])),
 (.mk (.type "tuple") .none (.seq (List.toArray [(.str (Str.ofString "self") 485), (.str (Str.ofString "node") 486), (.str (Str.ofString "value") 487)]) 0) (List.toArray [])),
 (.mk (.type "tuple") .none (.seq (List.toArray []) 0) (List.toArray [])),
 (.mk .none .none (.func (.mk (Str.ofString "set_value") (Str.ofString "Tree.set_value") (fn (at2 13 12)).1 (.stmts (fn (at2 13 12)).2.1) (fn (at2 13 12)).2.2 0 [] .none .none .none .none .none .none .none 0)) (List.toArray [])),
 (.mk (.type "code") .none (.fields (List.toArray [(.str (Str.ofString "set_value") 482), (.str (Str.ofString "Tree.set_value") 483), (.str (Str.ofString "/claim/cut.py") 484), (.int 121 0), (.int 3 0), (.int 0 0), (.int 0 0), (.int 3 0), (.ref 207), (.bool .true), (.int 181 0), (.ref 208), .none, (.ref 209), (.ref 210), (.ref 211), (.int 488 0), (.int 121 0), (.str (Str.ofString "/claim/cut.py") 489)])) (List.toArray [])),
 (.mk (.type "function") .none (.func (.mk (Str.ofString "set_value") (Str.ofString "Tree.set_value") (fn (at2 13 12)).1 (.stmts (fn (at2 13 12)).2.1) (fn (at2 13 12)).2.2 3 [] .none .none .none (.str (Str.ofString "markupmill.tree") 299) .none (.ref 212) .none 0)) (List.toArray [])),
 (.mk (.type "tuple") .none (.seq (List.toArray []) 0) (List.toArray [])),
 (.mk .none .none (.fields (List.toArray [])) (List.toArray [])),
 (.mk (.type "tuple") .none (.seq (List.toArray [(.str (Str.ofString "self") 494), (.str (Str.ofString "node") 495)]) 0) (List.toArray [])),
 (.mk (.type "tuple") .none (.seq (List.toArray []) 0) (List.toArray [])),
 (.mk .none .none (.func (.mk (Str.ofString "kind") (Str.ofString "Tree.kind") (fn (at2 13 13)).1 (.stmts (fn (at2 13 13)).2.1) (fn (at2 13 13)).2.2 0 [] .none .none .none .none .none .none .none 0)) (List.toArray [])),
 (.mk (.type "code") .none (.fields (List.toArray [(.str (Str.ofString "kind") 491), (.str (Str.ofString "Tree.kind") 492), (.str (Str.ofString "/claim/cut.py") 493), (.int 124 0), (.int 2 0), (.int 0 0), (.int 0 0), (.int 3 0), (.ref 214), (.bool .true), (.int 181 0), (.ref 215), .none, (.ref 216), (.ref 217), (.ref 218), (.int 496 0), (.int 124 0), (.str (Str.ofString "/claim/cut.py") 497)])) (List.toArray [])),
 (.mk (.type "function") .none (.func (.mk (Str.ofString "kind") (Str.ofString "Tree.kind") (fn (at2 13 13)).1 (.stmts (fn (at2 13 13)).2.1) (fn (at2 13 13)).2.2 3 [] .none .none .none (.str (Str.ofString "markupmill.tree") 299) .none (.ref 219) .none 0)) (List.toArray [])),
 (.mk (.type "tuple") .none (.seq (List.toArray []) 0) (List.toArray [])),
 (.mk .none .none (.fields (List.toArray [])) (List.toArray [])),
 (.mk (.type "tuple") .none (.seq (List.toArray [(.str (Str.ofString "self") 502), (.str (Str.ofString "node") 503)]) 0) (List.toArray [])),
 (.mk (.type "tuple") .none (.seq (List.toArray []) 0) (List.toArray [])),
 (.mk .none .none (.func (.mk (Str.ofString "name") (Str.ofString "Tree.name") (fn (at2 13 14)).1 (.stmts (fn (at2 13 14)).2.1) (fn (at2 13 14)).2.2 0 [] .none .none .none .none .none .none .none 0)) (List.toArray [])),
 (.mk (.type "code") .none (.fields (List.toArray [(.str (Str.ofString "name") 499), (.str (Str.ofString "Tree.name") 500), (.str (Str.ofString "/claim/cut.py") 501), (.int 127 0), (.int 2 0), (.int 0 0), (.int 0 0), (.int 3 0), (.ref 221), (.bool .true), (.int 181 0), (.ref 222), .none, (.ref 223), (.ref 224), (.ref 225), (.int 504 0), (.int 127 0), (.str (Str.ofString "/claim/cut.py") 505)])) (List.toArray [])),
 (.mk (.type "function") .none (.func (.mk (Str.ofString "name") (Str.ofString "Tree.name") (fn (at2 13 14)).1 (.stmts (fn (at2 13 14)).2.1) (fn (at2 13 14)).2.2 3 [] .none .none .none (.str (Str.ofString "markupmill.tree") 299) .none (.ref 226) .none 0)) (List.toArray [])),
 (.mk (.type "tuple") .none (.seq (List.toArray []) 0) (List.toArray [])),
 (.mk .none .none (.fields (List.toArray [])) (List.toArray [])),
 (.mk (.type "tuple") .none (.seq (List.toArray [(.str (Str.ofString "self") 510), (.str (Str.ofString "node") 511)]) 0) (List.toArray [])),
 (.mk (.type "tuple") .none (.seq (List.toArray []) 0) (List.toArray [])),
 (.mk .none .none (.func (.mk (Str.ofString "uri") (Str.ofString "Tree.uri") (fn (at2 13 15)).1 (.stmts (fn (at2 13 15)).2.1) (fn (at2 13 15)).2.2 0 [] .none .none .none .none .none .none .none 0)) (List.toArray [])),
 (.mk (.type "code") .none (.fields (List.toArray [(.str (Str.ofString "uri") 507), (.str (Str.ofString "Tree.uri") 508), (.str (Str.ofString "/claim/cut.py") 509), (.int 130 0), (.int 2 0), (.int 0 0), (.int 0 0), (.int 3 0), (.ref 228), (.bool .true), (.int 181 0), (.ref 229), .none, (.ref 230), (.ref 231), (.ref 232), (.int 512 0), (.int 130 0), (.str (Str.ofString "/claim/cut.py") 513)])) (List.toArray [])),
 (.mk (.type "function") .none (.func (.mk (Str.ofString "uri") (Str.ofString "Tree.uri") (fn (at2 13 15)).1 (.stmts (fn (at2 13 15)).2.1) (fn (at2 13 15)).2.2 3 [] .none .none .none (.str (Str.ofString "markupmill.tree") 299) .none (.ref 233) .none 0)) (List.toArray [])),
 (.mk (.type "tuple") .none (.seq (List.toArray []) 0) (List.toArray [])),
 (.mk .none .none (.fields (List.toArray [])) (List.toArray [])),
 (.mk (.type "tuple") .none (.seq (List.toArray [(.str (Str.ofString "self") 518), (.str (Str.ofString "node") 519)]) 0) (List.toArray [])),
 (.mk (.type "tuple") .none (.seq (List.toArray []) 0) (List.toArray [])),
 (.mk .none .none (.func (.mk (Str.ofString "local") (Str.ofString "Tree.local") (fn (at2 13 16)).1 (.stmts (fn (at2 13 16)).2.1) (fn (at2 13 16)).2.2 0 [] .none .none .none .none .none .none .none 0)) (List.toArray [])),
 (.mk (.type "code") .none (.fields (List.toArray [(.str (Str.ofString "local") 515), (.str (Str.ofString "Tree.local") 516), (.str (Str.ofString "/claim/cut.py") 517), (.int 133 0), (.int 2 0), (.int 0 0), (.int 0 0), (.int 3 0), (.ref 235), (.bool .true), (.int 181 0), (.ref 236), .none, (.ref 237), (.ref 238), (.ref 239), (.int 520 0), (.int 133 0), (.str (Str.ofString "/claim/cut.py") 521)])) (List.toArray [])),
 (.mk (.type "function") .none (.func (.mk (Str.ofString "local") (Str.ofString "Tree.local") (fn (at2 13 16)).1 (.stmts (fn (at2 13 16)).2.1) (fn (at2 13 16)).2.2 3 [] .none .none .none (.str (Str.ofString "markupmill.tree") 299) .none (.ref 240) .none 0)) (List.toArray [])),
 (.mk (.type "tuple") .none (.seq (List.toArray []) 0) (List.toArray [])),
 (.mk .none .none (.fields (List.toArray [])) (List.toArray [])),
 (.mk (.type "tuple") .none (.seq (List.toArray [(.str (Str.ofString "self") 526), (.str (Str.ofString "node") 527)]) 0) (List.toArray [])),
 (.mk (.type "tuple") .none (.seq (List.toArray []) 0) (List.toArray [])),
 (.mk .none .none (.func (.mk (Str.ofString "value") (Str.ofString "Tree.value") (fn (at2 13 17)).1 (.stmts (fn (at2 13 17)).2.1) (fn (at2 13 17)).2.2 0 [] .none .none .none .none .none .none .none 0)) (List.toArray [])),
 (.mk (.type "code") .none (.fields (List.toArray [(.str (Str.ofString "value") 523), (.str (Str.ofString "Tree.value") 524), (.str (Str.ofString "/claim/cut.py") 525), (.int 136 0), (.int 2 0), (.int 0 0), (.int 0 0), (.int 3 0), (.ref 242), (.bool .true), (.int 181 0), (.ref 243), .none, (.ref 244), (.ref 245), (.ref 246), (.int 528 0), (.int 136 0), (.str (Str.ofString "/claim/cut.py") 529)])) (List.toArray [])),
 (.mk (.type "function") .none (.func (.mk (Str.ofString "value") (Str.ofString "Tree.value") (fn (at2 13 17)).1 (.stmts (fn (at2 13 17)).2.1) (fn (at2 13 17)).2.2 3 [] .none .none .none (.str (Str.ofString "markupmill.tree") 299) .none (.ref 247) .none 0)) (List.toArray [])),
 (.mk (.type "tuple") .none (.seq (List.toArray []) 0) (List.toArray [])),
 (.mk .none .none (.fields (List.toArray [])) (List.toArray [])),
 (.mk (.type "tuple") .none (.seq (List.toArray [(.str (Str.ofString "self") 534), (.str (Str.ofString "node") 535)]) 0) (List.toArray [])),
 (.mk (.type "tuple") .none (.seq (List.toArray []) 0) (List.toArray [])),
 (.mk .none .none (.func (.mk (Str.ofString "parent") (Str.ofString "Tree.parent") (fn (at2 13 18)).1 (.stmts (fn (at2 13 18)).2.1) (fn (at2 13 18)).2.2 0 [] .none .none .none .none .none .none .none 0)) (List.toArray [])),
 (.mk (.type "code") .none (.fields (List.toArray [(.str (Str.ofString "parent") 531), (.str (Str.ofString "Tree.parent") 532), (.str (Str.ofString "/claim/cut.py") 533), (.int 139 0), (.int 2 0), (.int 0 0), (.int 0 0), (.int 3 0), (.ref 249), (.bool .true), (.int 181 0), (.ref 250), .none, (.ref 251), (.ref 252), (.ref 253), (.int 536 0), (.int 139 0), (.str (Str.ofString "/claim/cut.py") 537)])) (List.toArray [])),
 (.mk (.type "function") .none (.func (.mk (Str.ofString "parent") (Str.ofString "Tree.parent") (fn (at2 13 18)).1 (.stmts (fn (at2 13 18)).2.1) (fn (at2 13 18)).2.2 3 [] .none .none .none (.str (Str.ofString "markupmill.tree") 299) .none (.ref 254) .none 0)) (List.toArray [])),
 (.mk (.type "tuple") .none (.seq (List.toArray []) 0) (List.toArray [])),
 (.mk .none .none (.fields (List.toArray [])) (List.toArray [])),
 (.mk (.type "tuple") .none (.seq (List.toArray [(.str (Str.ofString "self") 542), (.str (Str.ofString "node") 543)]) 0) (List.toArray [])),
 (.mk (.type "tuple") .none (.seq (List.toArray []) 0) (List.toArray [])),
 (.mk .none .none (.func (.mk (Str.ofString "children") (Str.ofString "Tree.children") (fn (at2 13 19)).1 (.stmts (fn (at2 13 19)).2.1) (fn (at2 13 19)).2.2 0 [] .none .none .none .none .none .none .none 0)) (List.toArray [])),
 (.mk (.type "code") .none (.fields (List.toArray [(.str (Str.ofString "children") 539), (.str (Str.ofString "Tree.children") 540), (.str (Str.ofString "/claim/cut.py") 541), (.int 142 0), (.int 2 0), (.int 0 0), (.int 0 0), (.int 3 0), (.ref 256), (.bool .true), (.int 181 0), (.ref 257), .none, (.ref 258), (.ref 259), (.ref 260), (.int 544 0), (.int 142 0), (.str (Str.ofString "/claim/cut.py") 545)])) (List.toArray [])),
 (.mk (.type "function") .none (.func (.mk (Str.ofString "children") (Str.ofString "Tree.children") (fn (at2 13 19)).1 (.stmts (fn (at2 13 19)).2.1) (fn (at2 13 19)).2.2 3 [] .none .none .none (.str (Str.ofString "markupmill.tree") 299) .none (.ref 261) .none 0)) (List.toArray [])),
 (.mk (.type "tuple") .none (.seq (List.toArray []) 0) (List.toArray [])),
 (.mk .none .none (.fields (List.toArray [])) (List.toArray [])),
 (.mk (.type "tuple") .none (.seq (List.toArray [(.str (Str.ofString "self") 550), (.str (Str.ofString "node") 551)]) 0) (List.toArray [])),
 (.mk (.type "tuple") .none (.seq (List.toArray []) 0) (List.toArray [])),
 (.mk .none .none (.func (.mk (Str.ofString "attributes") (Str.ofString "Tree.attributes") (fn (at2 13 20)).1 (.stmts (fn (at2 13 20)).2.1) (fn (at2 13 20)).2.2 0 [] .none .none .none .none .none .none .none 0)) (List.toArray [])),
 (.mk (.type "code") .none (.fields (List.toArray [(.str (Str.ofString "attributes") 547), (.str (Str.ofString "Tree.attributes") 548), (.str (Str.ofString "/claim/cut.py") 549), (.int 145 0), (.int 2 0), (.int 0 0), (.int 0 0), (.int 3 0), (.ref 263), (.bool .true), (.int 181 0), (.ref 264), .none, (.ref 265), (.ref 266), (.ref 267), (.int 552 0), (.int 145 0), (.str (Str.ofString "/claim/cut.py") 553)])) (List.toArray [])),
 (.mk (.type "function") .none (.func (.mk (Str.ofString "attributes") (Str.ofString "Tree.attributes") (fn (at2 13 20)).1 (.stmts (fn (at2 13 20)).2.1) (fn (at2 13 20)).2.2 3 [] .none .none .none (.str (Str.ofString "markupmill.tree") 299) .none (.ref 268) .none 0)) (List.toArray [])),
 (.mk (.type "tuple") .none (.seq (List.toArray []) 0) (List.toArray [])),
 (.mk .none .none (.fields (List.toArray [])) (List.toArray [])),
 (.mk (.type "tuple") .none (.seq (List.toArray [(.str (Str.ofString "self") 558), (.str (Str.ofString "node") 559)]) 0) (List.toArray [])),
 (.mk (.type "tuple") .none (.seq (List.toArray []) 0) (List.toArray [])),
 (.mk .none .none (.func (.mk (Str.ofString "namespaces") (Str.ofString "Tree.namespaces") (fn (at2 13 21)).1 (.stmts (fn (at2 13 21)).2.1) (fn (at2 13 21)).2.2 0 [] .none .none .none .none .none .none .none 0)) (List.toArray [])),
 (.mk (.type "code") .none (.fields (List.toArray [(.str (Str.ofString "namespaces") 555), (.str (Str.ofString "Tree.namespaces") 556), (.str (Str.ofString "/claim/cut.py") 557), (.int 148 0), (.int 2 0), (.int 0 0), (.int 0 0), (.int 3 0), (.ref 270), (.bool .true), (.int 181 0), (.ref 271), .none, (.ref 272), (.ref 273), (.ref 274), (.int 560 0), (.int 148 0), (.str (Str.ofString "/claim/cut.py") 561)])) (List.toArray [])),
 (.mk (.type "function") .none (.func (.mk (Str.ofString "namespaces") (Str.ofString "Tree.namespaces") (fn (at2 13 21)).1 (.stmts (fn (at2 13 21)).2.1) (fn (at2 13 21)).2.2 3 [] .none .none .none (.str (Str.ofString "markupmill.tree") 299) .none (.ref 275) .none 0)) (List.toArray [])),
 (.mk (.type "tuple") .none (.seq (List.toArray []) 0) (List.toArray [])),
 (.mk .none .none (.fields (List.toArray [])) (List.toArray [])),
 (.mk (.type "tuple") .none (.seq (List.toArray [(.str (Str.ofString "self") 566), (.str (Str.ofString "node") 567)]) 0) (List.toArray [])),
 (.mk (.type "tuple") .none (.seq (List.toArray []) 0) (List.toArray [])),
 (.mk .none .none (.func (.mk (Str.ofString "root_of") (Str.ofString "Tree.root_of") (fn (at2 13 22)).1 (.stmts (fn (at2 13 22)).2.1) (fn (at2 13 22)).2.2 0 [] .none .none .none .none .none .none .none 0)) (List.toArray [])),
 (.mk (.type "code") .none (.fields (List.toArray [(.str (Str.ofString "root_of") 563), (.str (Str.ofString "Tree.root_of") 564), (.str (Str.ofString "/claim/cut.py") 565), (.int 151 0), (.int 2 0), (.int 0 0), (.int 0 0), (.int 3 0), (.ref 277), (.bool .true), (.int 181 0), (.ref 278), .none, (.ref 279), (.ref 280), (.ref 281), (.int 568 0), (.int 151 0), (.str (Str.ofString "/claim/cut.py") 569)])) (List.toArray [])),
 (.mk (.type "function") .none (.func (.mk (Str.ofString "root_of") (Str.ofString "Tree.root_of") (fn (at2 13 22)).1 (.stmts (fn (at2 13 22)).2.1) (fn (at2 13 22)).2.2 3 [] .none .none .none (.str (Str.ofString "markupmill.tree") 299) .none (.ref 282) .none 0)) (List.toArray [])),
 (.mk (.type "tuple") .none (.seq (List.toArray []) 0) (List.toArray [])),
 (.mk .none .none (.fields (List.toArray [])) (List.toArray [])),
 (.mk (.type "tuple") .none (.seq (List.toArray [(.str (Str.ofString "self") 574), (.str (Str.ofString "node") 575), (.str (Str.ofString "other") 576)]) 0) (List.toArray [])),
 (.mk (.type "tuple") .none (.seq (List.toArray []) 0) (List.toArray [])),
 (.mk .none .none (.func (.mk (Str.ofString "is_above") (Str.ofString "Tree.is_above") (fn (at2 13 23)).1 (.stmts (fn (at2 13 23)).2.1) (fn (at2 13 23)).2.2 0 [] .none .none .none .none .none .none .none 0)) (List.toArray [])),
 (.mk (.type "code") .none (.fields (List.toArray [(.str (Str.ofString "is_above") 571), (.str (Str.ofString "Tree.is_above") 572), (.str (Str.ofString "/claim/cut.py") 573), (.int 154 0), (.int 3 0), (.int 0 0), (.int 0 0), (.int 3 0), (.ref 284), (.bool .true), (.int 181 0), (.ref 285), .none, (.ref 286), (.ref 287), (.ref 288), (.int 577 0), (.int 154 0), (.str (Str.ofString "/claim/cut.py") 578)])) (List.toArray [])),
 (.mk (.type "function") .none (.func (.mk (Str.ofString "is_above") (Str.ofString "Tree.is_above") (fn (at2 13 23)).1 (.stmts (fn (at2 13 23)).2.1) (fn (at2 13 23)).2.2 3 [] .none .none .none (.str (Str.ofString "markupmill.tree") 299) .none (.ref 289) .none 0)) (List.toArray [])),
 (.mk (.type "tuple") .none (.seq (List.toArray []) 0) (List.toArray [])),
 (.mk .none .none (.fields (List.toArray [])) (List.toArray [])),
 (.mk (.type "tuple") .none (.seq (List.toArray [(.str (Str.ofString "self") 583), (.str (Str.ofString "element") 584), (.str (Str.ofString "uri") 585), (.str (Str.ofString "local") 586)]) 0) (List.toArray [])),
 (.mk (.type "tuple") .none (.seq (List.toArray []) 0) (List.toArray [])),
 (.mk .none .none (.func (.mk (Str.ofString "attribute_value") (Str.ofString "Tree.attribute_value") (fn (at2 13 24)).1 (.stmts (fn (at2 13 24)).2.1) (fn (at2 13 24)).2.2 0 [] .none .none .none .none .none .none .none 0)) (List.toArray [])),
 (.mk (.type "code") .none (.fields (List.toArray [(.str (Str.ofString "attribute_value") 580), (.str (Str.ofString "Tree.attribute_value") 581), (.str (Str.ofString "/claim/cut.py") 582), (.int 157 0), (.int 4 0), (.int 0 0), (.int 0 0), (.int 3 0), (.ref 291), (.bool .true), (.int 181 0), (.ref 292), .none, (.ref 293), (.ref 294), (.ref 295), (.int 587 0), (.int 157 0), (.str (Str.ofString "/claim/cut.py") 588)])) (List.toArray [])),
 (.mk (.type "function") .none (.func (.mk (Str.ofString "attribute_value") (Str.ofString "Tree.attribute_value") (fn (at2 13 24)).1 (.stmts (fn (at2 13 24)).2.1) (fn (at2 13 24)).2.2 3 [] .none .none .none (.str (Str.ofString "markupmill.tree") 299) .none (.ref 296) .none 0)) (List.toArray [])),
 (.mk (.type "tuple") .none (.seq (List.toArray [(.str (Str.ofString "rows") 590)]) 0) (List.toArray [])),
 (.mk (.type "dict") .none (.dict (List.toArray [(.mk (PyData.keyHash P (Str.ofString "__module__")) (.str (Str.ofString "__module__") 353) (.str (Str.ofString "markupmill.tree") 299)), (.mk (PyData.keyHash P (Str.ofString "__firstlineno__")) (.str (Str.ofString "__firstlineno__") 357) (.int 56 356)), (.mk (PyData.keyHash P (Str.ofString "__init__")) (.str (Str.ofString "__init__") 364) (.ref 129)), (.mk (PyData.keyHash P (Str.ofString "new_row")) (.str (Str.ofString "new_row") 377) (.ref 136)), (.mk (PyData.keyHash P (Str.ofString "row")) (.str (Str.ofString "row") 385) (.ref 143)), (.mk (PyData.keyHash P (Str.ofString "new_root")) (.str (Str.ofString "new_root") 392) (.ref 150)), (.mk (PyData.keyHash P (Str.ofString "add_child")) (.str (Str.ofString "add_child") 406) (.ref 157)), (.mk (PyData.keyHash P (Str.ofString "add_element")) (.str (Str.ofString "add_element") 417) (.ref 164)), (.mk (PyData.keyHash P (Str.ofString "add_text")) (.str (Str.ofString "add_text") 426) (.ref 171)), (.mk (PyData.keyHash P (Str.ofString "add_comment")) (.str (Str.ofString "add_comment") 435) (.ref 178)), (.mk (PyData.keyHash P (Str.ofString "add_instruction")) (.str (Str.ofString "add_instruction") 445) (.ref 185)), (.mk (PyData.keyHash P (Str.ofString "element_row")) (.str (Str.ofString "element_row") 454) (.ref 192)), (.mk (PyData.keyHash P (Str.ofString "set_attribute")) (.str (Str.ofString "set_attribute") 469) (.ref 199)), (.mk (PyData.keyHash P (Str.ofString "add_namespace")) (.str (Str.ofString "add_namespace") 481) (.ref 206)), (.mk (PyData.keyHash P (Str.ofString "set_value")) (.str (Str.ofString "set_value") 490) (.ref 213)), (.mk (PyData.keyHash P (Str.ofString "kind")) (.str (Str.ofString "kind") 498) (.ref 220)), (.mk (PyData.keyHash P (Str.ofString "name")) (.str (Str.ofString "name") 506) (.ref 227)), (.mk (PyData.keyHash P (Str.ofString "uri")) (.str (Str.ofString "uri") 514) (.ref 234)), (.mk (PyData.keyHash P (Str.ofString "local")) (.str (Str.ofString "local") 522) (.ref 241)), (.mk (PyData.keyHash P (Str.ofString "value")) (.str (Str.ofString "value") 530) (.ref 248)), (.mk (PyData.keyHash P (Str.ofString "parent")) (.str (Str.ofString "parent") 538) (.ref 255)), (.mk (PyData.keyHash P (Str.ofString "children")) (.str (Str.ofString "children") 546) (.ref 262)), (.mk (PyData.keyHash P (Str.ofString "attributes")) (.str (Str.ofString "attributes") 554) (.ref 269)), (.mk (PyData.keyHash P (Str.ofString "namespaces")) (.str (Str.ofString "namespaces") 562) (.ref 276)), (.mk (PyData.keyHash P (Str.ofString "root_of")) (.str (Str.ofString "root_of") 570) (.ref 283)), (.mk (PyData.keyHash P (Str.ofString "is_above")) (.str (Str.ofString "is_above") 579) (.ref 290)), (.mk (PyData.keyHash P (Str.ofString "attribute_value")) (.str (Str.ofString "attribute_value") 589) (.ref 297)), (.mk (PyData.keyHash P (Str.ofString "__static_attributes__")) (.str (Str.ofString "__static_attributes__") 591) (.ref 298)), (.mk (PyData.keyHash P (Str.ofString "__dict__")) (.str (Str.ofString "__dict__") 593) (.ref 301)), (.mk (PyData.keyHash P (Str.ofString "__weakref__")) (.str (Str.ofString "__weakref__") 595) (.ref 302)), (.mk (PyData.keyHash P (Str.ofString "__doc__")) (.str (Str.ofString "__doc__") 596) .none)]) 4) (List.toArray [])),
 (.mk (.type "type") .none (.cls (.mk (Str.ofString "Tree") [(.type "object")] [(.ref 300), (.type "object")] 299 (Str.ofString "Tree") .true [] [] .false .none .false)) (List.toArray [.none, .none, (.some (.str (Str.ofString "Tree") 346)), (.some (.str (Str.ofString "Tree") 354)), (.some (.builtin "object.__new__")), (.some (.bool .true))])),
 (.mk (.type "getset_descriptor") .none (.fields (List.toArray [(.str (Str.ofString "__dict__") 592), (.ref 300), (.builtin "function.__dict__"), (.builtin "function.__dict__#set")])) (List.toArray [])),
 (.mk (.type "getset_descriptor") .none (.fields (List.toArray [(.str (Str.ofString "__weakref__") 594), (.ref 300), (.builtin "ExceptionGroup.__weakref__"), .none])) (List.toArray [])),
 (.mk (.type "super") .none (.fields (List.toArray [(.ref 300), (.ref 300), (.ref 300)])) (List.toArray [])),
 (.mk (.type "builtin_function_or_method") .none (.fields (List.toArray [(.builtin "object.__init_subclass__"), (.ref 300)])) (List.toArray []))]) (.mk [] [] [] 0 [] [] .false (List.toArray []) [] 0 .false .false .false 0 [2000, 10, 10] .false 0 .true [] [] 0 .false)
noncomputable def env1 : Env := { scope := PP.main.scope, locals := mainNs, globals := mainNs, cells := [], code := .ref 13, frame := some 14 }
noncomputable def cd1 : Code := .body bd env1
noncomputable def bd1 : List Stmt := bd.drop 13
noncomputable def at0 : Pos := .mk 0 0 0 0
noncomputable def st0 (w : World) (os : OsState) : Shared := ⟨hp0 w.params, Array.mk [], boot_drawn, 187, os⟩
noncomputable def st1 (w : World) (os : OsState) : Shared := ⟨hp1 w.params, Array.mk [], boot_drawn, 346, os⟩
noncomputable def st2 (w : World) (os : OsState) : Shared := ⟨hp2 w.params, Array.mk [], boot_drawn, 599, os⟩
theorem go0 : ∀ w : World, (fun os => topGo treeTable PP w 11 (some (.ref 6)) 12 ⟨boot_heap w.params, Array.mk [], boot_drawn, boot_toks, os⟩ (topStub PP)) = fun os => some (st0 w os, ⟨denote treeTable cd1, cd1, at0, [topFrame at0]⟩) := by
  intro w
  kernel_rfl!
theorem gob : ∀ w : World, (fun os => segRun treeTable PP w 11 (some (.ref 6)) 1 1 (st0 w os) (PySem.W.blockOf bd env1 cd1 at0 [topFrame at0])) = fun os => some (.next, st0 w os, cd1, at0) := by
  intro w
  kernel_rfl!
theorem go1 : ∀ w : World, (fun os => segRun treeTable PP w 11 (some (.ref 6)) 1 1086 (st0 w os) (PySem.W.piecesOf (bd.take 13) env1 cd1 at0 [topFrame at0])) = fun os => some (.next, st1 w os, cd1, .mk 44 0 55 28) := by
  intro w
  kernel_rfl!
theorem go2 : ∀ w : World, (fun os => segRun treeTable PP w 11 (some (.ref 6)) 1 1023 (st1 w os) (PySem.W.piecesOf (bd1.take 1) env1 cd1 (.mk 44 0 55 28) [topFrame at0])) = fun os => some (.next, st2 w os, cd1, .mk 56 0 158 16) := by
  intro w
  kernel_rfl!
noncomputable def rest2 : Thread := restOf (bd1.drop 1) env1 cd1 (.mk 56 0 158 16) [topFrame at0]
theorem go_all (w : World) (os : OsState) (r : Shared) (k : topRun treeTable PP w 11 (some (.ref 6)) 2946 (st2 w os) rest2 = some r) : topRun treeTable PP w 11 (some (.ref 6)) 5068 ⟨boot_heap w.params, Array.mk [], boot_drawn, boot_toks, os⟩ (topStub PP) = some r := by
  have k2 := piece_app (congrFun (go2 w) os) k
  rw [List.take_append_drop] at k2
  have k1 := piece_app (l := bd.take 13) (rest := bd1) (congrFun (go1 w) os) k2
  have e1 : bd.take 13 ++ bd1 = bd := List.take_append_drop 13 bd
  rw [e1] at k1
  exact go_top (congrFun (go0 w) os) (piece_block (congrFun (gob w) os) k1)
theorem left_cut {p q : Program} {loose : List Str} {Xt : Shared → Bool} {α : Type} {Yf : Shared → α} {Ya : World → α} {N M m₀ : Nat} {ann : Option Value} {S : World → OsState → Shared} {T : Thread}
    (e : opening p = plainProg p.main.scope.names) (hN : Nat.ble 600 N = true) (f : ∀ s, fenceModules? p s = some s)
    (z : ∀ w : World, ((boot_heap w.params).isNs mainGlobals && (Array.mk [] : Array GenState).size == 0, (boot_heap w.params).objs.size, (boot_heap w.params).nsMap mainGlobals "__annotations__") = (true, m₀, ann))
    (run : ∀ (w : World) (os : OsState) (r : Shared), topRun treeTable p w m₀ ann M (S w os) T = some r → topRun treeTable p w m₀ ann N ⟨boot_heap w.params, Array.mk [], boot_drawn, boot_toks, os⟩ (topStub p) = some r)
    (r : ∀ w : World, (fun os => (topRun treeTable p w m₀ ann M (S w os) T).map (fun s => (staticsOk (importedModules p.main.body) (boot_heap w.params) s.heap && namesBound p s.heap && gensDone s && laidKept (boot_heap w.params) s.heap, openSeen q loose (importedModules p.main.body) Xt true s))) = fun _ => some (true, openGood q loose))
    (r' : ∀ w : World, (fun os => (topRun treeTable p w m₀ ann M (S w os) T).map Yf) = fun _ => some (Ya w)) :
    LeftO p q loose Xt Yf Ya N := fun w => by
  obtain ⟨⟨h, gs, d, k, os⟩, e1, e2⟩ := Option.map_eq_some_iff.mp (boot_open e hN f w)
  obtain ⟨rfl, rfl, rfl, rfl⟩ : h = boot_heap w.params ∧ gs = Array.mk [] ∧ d = boot_drawn ∧ k = boot_toks := by simpa using e2
  obtain ⟨s, h1, h2⟩ := Option.map_eq_some_iff.mp (congrFun (r w) os)
  obtain ⟨h3, h4⟩ := Prod.mk.inj h2
  have h5 : (topRun treeTable p w m₀ ann M (S w os) T).map Yf = some (Ya w) := congrFun (r' w) os
  rw [h1] at h5
  have h6 := run w os s h1
  obtain ⟨z1, z2⟩ := Prod.mk.inj (z w)
  obtain ⟨z2, z3⟩ := Prod.mk.inj z2
  have t : topFrom treeTable p w N ⟨boot_heap w.params, Array.mk [], boot_drawn, boot_toks, os⟩ = some s := by
    unfold topFrom
    dsimp only
    rw [z1, z2, z3, h6]
    show (match staticsOk (importedModules p.main.body) (boot_heap w.params) s.heap && namesBound p s.heap && gensDone s && laidKept (boot_heap w.params) s.heap with | true => some s | false => none) = _
    rw [h3]
  unfold openEnds
  rw [e1]
  show Option.map _ (topFrom treeTable p w N _) = _
  rw [t]
  show some (_, _) = _
  rw [h4, Option.some.inj h5]
theorem seen_good : ∀ w : World, (fun os => (topRun treeTable PP w 11 (some (.ref 6)) 2946 (st2 w os) rest2).map (fun s => (staticsOk (importedModules PP.main.body) (boot_heap w.params) s.heap && namesBound PP s.heap && gensDone s && laidKept (boot_heap w.params) s.heap, openSeen qv [] (importedModules PP.main.body) (fun s => xlAt qv [] s && recOk (RowW.records (OpenRow.toRowW (PySem.Challenge.rw_xm0665_01.row))) s) true s))) = fun _ => some (true, openGood qv []) := by
  intro w
  kernel_rfl!
local macro_rules | `(tactic| o_law) => `(tactic| (refine holds_law said fun said => ?_))
local macro_rules | `(tactic| o_head $H) => `(tactic| (refine holds_open (q := qv) (loose := []) (Xt := fun s => xlAt qv [] s && recOk (RowW.records (OpenRow.toRowW (PySem.Challenge.rw_xm0665_01.row))) s) (XP := XL qv []) (Yf := Hook.obs $H) (Ya := Hook.val $H) (YP := Hook.says $H) (N := 5068) ?hl (Hook.of $H) (Hook.keeps $H) (fun s e => xl_of s (Bool.and_eq_true_iff.mp e).1) XL.keeps (by rfl) (by rfl) (by rfl) (fun s e => recFacts_of (Bool.and_eq_true_iff.mp e).2) (by rfl) (by first | assumption | decide +kernel) (by decide +kernel) ⟨rfl, rfl, rfl, rfl, rfl, by decide +kernel⟩ ?hw ?hc; (case hl => refine left_cut (by kernel_rfl!) (by decide) (fun s => rfl) (fun w => by kernel_rfl!) go_all seen_good ?_; intro w; kernel_rfl!)))
open_top hd for PySem.Challenge.rw_xm0665_01
end Mine
open PySem.Calls PySem.Spec
namespace Mine
abbrev PR : Program := Challenge.rw_xm0665_01.row.toRowW.prog
theorem fill : Challenge.rw_xm0665_01 = Challenge.rw_xm0665_01 ∧ hd.heap_1 = hd.heap_1 := by
  k_fill
  exact ⟨rfl, rfl⟩
/-- where a call stands -/
structure Site (w : World) (p : Program) (loose : List Str) (mean : ExcName → Option Value) (mg mb : Str → Option Value) (A₀ : Around) (base : Heap) (outer : List Env) (h₀ : Heap) (L : Addr) (m : Str → Option Value) (news : List (Addr × Obj)) (h : Heap) (cs : Scope) (dp un nd nu : Nat) : Prop where
  B : Below A₀ base outer h₀
  F : Fr h₀ L h m
  X : (hd.heap_1 w.params).In h₀
  N : News h₀ L h news
  T : Top p loose mean mg mb h₀
  hk : cs.kind = .function
  hd : dp + nd < recursionLimit
  hu : un + nu < cLine
end Mine
namespace Mine
variable {w : World} {p : Program} {loose : List Str} {mean : ExcName → Option Value} {mg mb : Str → Option Value}
   {dp un : Nat} {gd : Option (List Code)} {cn : Str} {cs : Scope} {a : Addr} {ccd : Value} {cl : List (Str × Addr)} {outer : List Env} {A₀ : Around} {base h₀ : Heap} {L : Addr} {m : Str → Option Value} {s : Shared} {Q E : Value → Shared → Prop} {news : List (Addr × Obj)}
section SCommon
theorem slice_tupleK {prog : Program} {w : World} {A : Around} {E : Value → Shared → Prop} {s : Shared} {h₀ : Heap} {L : Addr} {m : Str → Option Value} {news : List (Addr × Obj)} {value slice : Expr} {t : Addr} {x : Value} {l : List Value} {u : Tok} {vl : Value} {Q : Value → Shared → Prop}
    (F : Fr h₀ L s.heap m) (N : News h₀ L s.heap news) (ht : IsTup s.heap t (x :: l).toArray) (hz : (x :: l).length ≤ sizeLine) (hv : vl = .int ((1 : Nat) : Int) u)
    (h : ∀ D h', Fr h₀ L h' m → News h₀ L h' ((D, ({ cls := .type "tuple", data := .seq l.toArray } : Obj)) :: news) → (∀ p ∈ news, p.1 < D) → Q (.ref D) { s with heap := h' })
    (hs : subscripted slice false (.ref t) (.ref s.heap.objs.size) = operate [.ref s.heap.objs.size, .ref t] (getItem (.ref t) (.ref s.heap.objs.size)))
    (hg : ∀ r, letTemporaryGo value (.ref t) r = pure ()) :
    wpAny (model prog w) A (subscriptTail value slice (.ref t) (.ref s.heap.objs.size)) Q E { s with heap := s.heap.push { cls := .type "slice", data := .fields #[vl, .none, .none] } } := by
  subst hv
  exact slice_tuple_from F N ht (Nat.le_refl 1) (by simp) (fun h' F' N' => h _ h' F' N' fun p hp => Nat.lt_succ_of_lt (Heap.lt_size (N p hp).1)) hs hg (by simpa using hz)

theorem item_tupleM {prog : Program} {w : World} {A : Around} {E : Value → Shared → Prop} {s : Shared} {h₀ : Heap} {L : Addr} {news : List (Addr × Obj)} {value slice : Expr} {t : Addr} {l : List Value} {n : Nat} {k : Int} {u : Tok} {j : Nat} {x : Value} {Q : Value → Shared → Prop}
    (N : News h₀ L s.heap news) (hm : (t, ({ cls := .type "tuple", data := .seq l.toArray n } : Obj)) ∈ news) (hlo : -(2 ^ 63) ≤ k) (hhi : k < 2 ^ 63) (hj : seqIndex? k l.length = some j) (hx : l[j]? = some x) (h : Q x s)
    (hs : subscripted slice false (.ref t) (.int k u) = operate [.ref t, .int k u] (getItem (.ref t) (.int k u))) :
    wpAny (model prog w) A (subscriptTail value slice (.ref t) (.int k u)) Q E s := item_tupleT (News.isTup N hm) hlo hhi hj hx h hs

abbrev ok (x : Str) : Prop := x.cps.all (· < 0x110000) = true
theorem shaped2 {x y : Str} (hx : ok x) (hy : ok y) : SeqAt.shaped (.tuple [.str x, .str y]) = true := by
  unfold SeqAt.shaped
  simp only [PyData.canLay0, PyData.canLayAll0, PyData.strOk, ok] at *
  simp [hx, hy, PyData.depth, PyData.depthAll]
theorem eqv2 (x y x' y' : Str) : PyData.eqv (.tuple [.str x, .str y]) (.tuple [.str x', .str y']) = decide (x = x' ∧ y = y') := by
  simp only [PyData.eqv, PyData.eqvAll]
  by_cases h1 : x = x' <;> by_cases h2 : y = y' <;> simp [h1, h2]
theorem eq_two {prog : Program} {w : World} {A : Around} {E : Value → Shared → Prop} {s : Shared} {h₀ : Heap} {L : Addr} {news : List (Addr × Obj)} {t t' : Addr} {n n' : Nat} {x y x' y' : Str} {k1 k2 k3 k4 : Tok} {Q : Value → Shared → Prop}
    (N : News h₀ L s.heap news) (h1 : (t, ({ cls := .type "tuple", data := .seq #[.str x k1, .str y k2] n } : Obj)) ∈ news) (h2 : (t', ({ cls := .type "tuple", data := .seq #[.str x' k3, .str y' k4] n' } : Obj)) ∈ news)
    (ox : ok x) (oy : ok y) (ox' : ok x') (oy' : ok y') (hu : A.units + 64 < cLine) (h : Q (.bool (decide (x = x' ∧ y = y'))) s) :
    wpAny (model prog w) A (compareOp .Eq (.ref t) (.ref t')) Q E s := by
  refine eq_dataH (reads_tuple_at (N.get h1) rfl rfl (.cons (.str _ _) (.cons (.str _ _) .nil))) (reads_tuple_at (N.get h2) rfl rfl (.cons (.str _ _) (.cons (.str _ _) .nil))) (shaped2 ox oy) (shaped2 ox' oy') hu ?_
  rw [eqv2]
  exact h
theorem in_noneS {prog : Program} {w : World} {A : Around} {E : Value → Shared → Prop} {s : Shared} {h₀ : Heap} {L : Addr} {news : List (Addr × Obj)} {t : Addr} {n : Nat} {c y : Str} {k1 k2 : Tok} {Q : Value → Shared → Prop}
    (N : News h₀ L s.heap news) (h1 : (t, listOf #[.none, .str c k1] n) ∈ news) (oc : ok c) (oy : ok y) (hu : A.units + 64 < cLine) (h : Q (.bool (c == y)) s) :
    wpAny (model prog w) A (compareOp .In (.str y k2) (.ref t)) Q E s := by
  refine SeqAt.in_list_reads (reads_list_at (N.get h1) rfl rfl (.cons .none (.cons (.str _ _) .nil))) (.str _ _) ?_ ?_ ?_ ?_
  · simpa only [PyData.canLayAll0, PyData.canLay0, PyData.strOk, Bool.true_and, Bool.and_true] using oc
  · simpa only [PyData.canLay0, PyData.strOk] using oy
  · simp only [PyData.depthAll, PyData.depth]; omega
  · have e : ([PyData.none, PyData.str c].any fun z => PyData.eqv z (PyData.str y)) = (c == y) := by
      simp only [List.any_cons, List.any_nil, PyData.eqv, Bool.false_or, Bool.or_false]
    rw [e]; exact h
theorem in_noneN {prog : Program} {w : World} {A : Around} {E : Value → Shared → Prop} {s : Shared} {h₀ : Heap} {L : Addr} {news : List (Addr × Obj)} {t : Addr} {n : Nat} {c : Str} {k1 : Tok} {Q : Value → Shared → Prop}
    (N : News h₀ L s.heap news) (h1 : (t, listOf #[.none, .str c k1] n) ∈ news) (oc : ok c) (hu : A.units + 64 < cLine) (h : Q (.bool true) s) :
    wpAny (model prog w) A (compareOp .In .none (.ref t)) Q E s := by
  refine SeqAt.in_list_reads (reads_list_at (N.get h1) rfl rfl (.cons .none (.cons (.str _ _) .nil))) .none ?_ rfl ?_ ?_
  · simpa only [PyData.canLayAll0, PyData.canLay0, PyData.strOk, Bool.true_and, Bool.and_true] using oc
  · simp only [PyData.depthAll, PyData.depth]; omega
  · have e : ([PyData.none, PyData.str c].any fun z => PyData.eqv z PyData.none) = true := by
      simp only [List.any_cons, PyData.eqv, Bool.true_or]
    rw [e]; exact h
section
variable {prog : Program} {w : World} {A A₀ : Around} {E : Value → Shared → Prop} {s : Shared} {base g : Heap} {outer : List Env} {L : Addr} {m : Str → Option Value} {h : Heap} {Q : Value → Shared → Prop}
theorem inst_base {x dx C : Addr} {od : Obj} {sl : Array (Option Value)} (F : Fr g L h m) (B : Below A₀ base outer g) (h1 : base.get? x = some (⟨.ref C, some dx, .plain, sl⟩ : Obj)) (h2 : base.get? dx = some od) :
    InstAt h x ⟨.ref C, some dx, .plain, sl⟩ C (some od) := ⟨F.keep _ _ (B.stays _ _ h1), rfl, rfl, F.keep _ _ (B.stays _ _ h2)⟩
theorem list_base {l : Addr} {vs : List Value} {n : Nat} (F : Fr g L h m) (B : Below A₀ base outer g) (h1 : base.get? l = some (listOf vs.toArray n)) : h.IsList l vs.toArray := ⟨_, F.keep _ _ (B.stays _ _ h1), rfl, _, rfl⟩
theorem len_base {l : Addr} {vs : List Value} (hl : s.heap.IsList l vs.toArray) (hz : vs.length < 2 ^ 32)
    (h : Q (.int (vs.length : Int) (s.toks + 1)) { s with toks := s.toks + 1 + 1 }) : wpAny (model prog w) A (call (.builtin "len") [.ref l]) Q E s :=
  PyProof.Rows.len_list hl (by simp only [List.size_toArray]; omega) (by simpa using h)
end
theorem mul_ok_mod (x y : Int) : IntMulOk x (Int.fmod y 2147483647) := by
  have l := fmod_lo y (n := 2147483647) (by decide)
  have h := fmod_hi y (n := 2147483647) (by decide)
  exact IntMulOk.of_right (PySem.intBits_le_64 (by omega) (by omega))
theorem item_some {prog : Program} {w : World} {A : Around} {E : Value → Shared → Prop} {s : Shared} {value slice : PySem.Expr} {l : Addr} {vs : List Value} {k : Int} {u : Tok} {Q : Value → Shared → Prop} (hl : s.heap.IsList l vs.toArray) (h0 : 0 ≤ k) (hk : k < (vs.length : Int)) (hz : vs.length < 2 ^ 32)
    (h : ∀ v, vs[k.toNat]? = some v → Q v s) (hs : subscripted slice false (.ref l) (.int k u) = operate [.ref l, .int k u] (getItem (.ref l) (.int k u))) :
    wpAny (model prog w) A (subscriptTail value slice (.ref l) (.int k u)) Q E s := by
  have hn : k.toNat < vs.length := by omega
  exact item_litK hl h0 (by omega) (List.getElem?_eq_getElem hn) (h _ (List.getElem?_eq_getElem hn)) hs

theorem and_skip {p q r : Prop} (f : q → r) : p ∧ q → r := fun h => f h.2
theorem and_hit {p q : Prop} : p ∧ q → p := And.left
theorem lt_and {a b x : Nat} {P : Prop} (h : x < a ∧ P) (k : x < a ∧ P → b < a) : b < a := k h
theorem lt_tr {a b c : Nat} (h : c < a) (k : b < c) : b < a := Nat.lt_trans k h
theorem ne_gt {a b : Nat} (h : b < a) : @Ne Nat a b := Nat.ne_of_gt h
theorem ne_lt {a b : Nat} (h : a < b) : @Ne Nat a b := Nat.ne_of_lt h
theorem cb_tail {h₀ h : Heap} {L : Addr} {a : Addr × Obj} {l : List (Addr × Obj)} (N : News h₀ L h (a :: l)) : News h₀ L h l := fun p hp => N p (.tail _ hp)
theorem room0 {x m n l : Nat} (h : x + n < l) (k : Nat.ble m n = true) : x + m < l := by
  have := Nat.le_of_ble_eq_true k
  omega
theorem room1 {x n l : Nat} (h : x + n < l) : x < l := by omega
theorem room2 {x i m n l : Nat} (h : x + n < l) (k : Nat.ble (i + m) n = true) : x + i + m < l := by
  have := Nat.le_of_ble_eq_true k
  omega
theorem room3 {x i j m n l : Nat} (h : x + n < l) (k : Nat.ble (i + j + m) n = true) : x + i + j + m < l := by
  have := Nat.le_of_ble_eq_true k
  omega
theorem lt_self {a : Nat} : a < a + 1 := Nat.lt_succ_self a
theorem lt_suc {b a : Nat} (h : b < a) : b < a + 1 := Nat.lt_succ_of_lt h
def uriF (pf : Str) : Str := if pf = "p" then "u:1" else if pf = "q" then "u:2" else ""
def isNamedF (kd ur lc nm pf nn : Str) : Bool :=
  if kd = "namespace" then decide (pf = "" ∧ nn = nm) else (["element", "attribute"] : List Str).any (· == kd) && decide (lc = nn ∧ ur = uriF pf)
theorem isn1 {kd ur lc nm pf nn : Str} (h : (kd == "namespace") = true) : decide (pf = "" ∧ nn = nm) = isNamedF kd ur lc nm pf nn := by
  unfold isNamedF
  rw [if_pos (eq_of_beq h)]
theorem isn2 {kd ur lc nm pf nn U : Str} (h : (kd == "namespace") = false) (h2 : ((["element", "attribute"] : List Str).any (· == kd)) = true) (hU : uriF pf = U) : decide (lc = nn ∧ ur = U) = isNamedF kd ur lc nm pf nn := by
  unfold isNamedF
  rw [if_neg (by intro e; rw [e] at h; simp at h), h2, hU, Bool.true_and]
theorem isn3 {kd ur lc nm pf nn : Str} (h : (kd == "namespace") = false) (h2 : ((["element", "attribute"] : List Str).any (· == kd)) = false) : ((["element", "attribute"] : List Str).any (· == kd)) = isNamedF kd ur lc nm pf nn := by
  unfold isNamedF
  rw [if_neg (by intro e; rw [e] at h; simp at h), h2, Bool.false_and]
section
variable {kd ur lc nm pf nn U : Str}
theorem nE1 (h : (kd == "namespace") = true) (hp : pf = "") : (nm == nn) = isNamedF kd ur lc nm pf nn := by
  rw [← isn1 h, Bool.eq_iff_iff]
  simp only [beq_iff_eq, decide_eq_true_eq, hp, true_and]
  exact eq_comm
theorem nE1' {b : Bool} (h : (kd == "namespace") = true) (hp : pf ≠ "") (hb : b = false) : b = isNamedF kd ur lc nm pf nn := by
  rw [← isn1 h, hb, eq_comm, decide_eq_false_iff_not]
  exact fun e => hp e.1
theorem nE2 (h : (kd == "namespace") = false) (h2 : ((["element", "attribute"] : List Str).any (· == kd)) = true) (h3 : (lc == nn) = true) (hU : uriF pf = U) : (ur == U) = isNamedF kd ur lc nm pf nn := by
  rw [← isn2 h h2 hU, Bool.eq_iff_iff]
  simp only [beq_iff_eq, decide_eq_true_eq, eq_of_beq h3, true_and]
theorem nE3 (h : (kd == "namespace") = false) (h2 : ((["element", "attribute"] : List Str).any (· == kd)) = true) (h3 : (lc == nn) = false) : (lc == nn) = isNamedF kd ur lc nm pf nn := by
  rw [← isn2 h h2 rfl, h3, eq_comm, decide_eq_false_iff_not]
  exact fun e => by rw [e.1] at h3; simp at h3
end
theorem pE1 {X W : Bool} (h : X = true) : W = (W && X) := by rw [h, Bool.and_true]
theorem pE2 {X W : Bool} (h : X = false) : X = (W && X) := by rw [h, Bool.and_false]
def wantF (ax : Str) : Str := if (["attribute", "namespace"] : List Str).any (· == ax) = true then ax else "element"
theorem want_t {ax : Str} (h : ((["attribute", "namespace"] : List Str).any (· == ax)) = true) : wantF ax = ax := if_pos h
theorem want_f {ax : Str} (h : ((["attribute", "namespace"] : List Str).any (· == ax)) = false) : wantF ax = "element" := if_neg (by rw [h]; decide)
section
variable {kd ur lc nm pf nn U W : Str} {X Y : Bool}
theorem zN1 (hw : (kd == W) = true) (h : (kd == "namespace") = true) : decide (pf = "" ∧ nn = nm) = ((kd == W) && isNamedF kd ur lc nm pf nn) := by rw [hw, Bool.true_and]; exact isn1 h
theorem zN2 (hw : (kd == W) = true) (h : (kd == "namespace") = false) (h2 : ((["element", "attribute"] : List Str).any (· == kd)) = true) (hU : uriF pf = U) : decide (lc = nn ∧ ur = U) = ((kd == W) && isNamedF kd ur lc nm pf nn) := by rw [hw, Bool.true_and]; exact isn2 h h2 hU
theorem zN3 (hw : (kd == W) = true) (h : (kd == "namespace") = false) (h2 : ((["element", "attribute"] : List Str).any (· == kd)) = false) : ((["element", "attribute"] : List Str).any (· == kd)) = ((kd == W) && isNamedF kd ur lc nm pf nn) := by rw [hw, Bool.true_and]; exact isn3 h h2
theorem zF (hw : (kd == W) = false) : (kd == W) = ((kd == W) && X) := by rw [hw, Bool.false_and]
theorem zF3 (hw : (kd == W) = false) : (kd == W) = ((kd == W) && X && Y) := by rw [hw, Bool.false_and, Bool.false_and]
theorem zT (hw : (kd == W) = true) : X = ((kd == W) && X) := by rw [hw, Bool.true_and]
theorem zTt (hw : (kd == W) = true) : true = (kd == W) := hw.symm
theorem zO1 (hw : (kd == W) = true) (h : (kd != "namespace") = true) (hU : uriF pf = U) : (ur == U) = ((kd == W) && (kd != "namespace") && (ur == uriF pf)) := by rw [hw, h, hU, Bool.true_and, Bool.true_and]
theorem zO2 (hw : (kd == W) = true) (h : (kd != "namespace") = false) : (kd != "namespace") = ((kd == W) && (kd != "namespace") && X) := by rw [hw, h, Bool.true_and, Bool.false_and]
theorem zSym (h : (lc == nn) = X) : (nn == lc) = X := by rw [← h]; exact Bool.eq_iff_iff.mpr (by simp only [beq_iff_eq]; exact eq_comm)
theorem zTs (hw : (kd == W) = true) : (lc == nn) = ((kd == W) && (nn == lc)) := by rw [hw, Bool.true_and]; exact (zSym rfl).symm
end
inductive TT where
  | name (pf nn : Str) | of (pf : Str) | insn | inss (nn : Str) | any | node | text | comment
abbrev tupO (vs : List Value) (n : Nat) : Obj := { cls := .type "tuple", data := .seq vs.toArray n }
def TT.obj : TT → Tok → Tok → Tok → Nat → Obj
  | .name pf nn, k0, k1, k2, n => tupO [.str "name" k0, .str pf k1, .str nn k2] n
  | .of pf, k0, k1, _, n => tupO [.str "any of" k0, .str pf k1] n
  | .insn, k0, _, _, n => tupO [.str "instruction" k0, .none] n
  | .inss nn, k0, k1, _, n => tupO [.str "instruction" k0, .str nn k1] n
  | .any, k0, _, _, n => tupO [.str "any" k0] n
  | .node, k0, _, _, n => tupO [.str "node" k0] n
  | .text, k0, _, _, n => tupO [.str "text" k0] n
  | .comment, k0, _, _, n => tupO [.str "comment" k0] n
def TT.okay : TT → Prop
  | .name pf nn => pf ∈ (["", "p", "q", "z"] : List Str) ∧ ok nn
  | .of pf => pf ∈ (["p", "q", "z"] : List Str)
  | .inss nn => ok nn
  | _ => True
theorem ok_mem {u : Str} {us : List Str} (h : u ∈ us) (hus : (us.all fun x => x.cps.all (· < 0x110000)) = true) : ok u := List.all_eq_true.mp hus u h
theorem of_ne {u : Str} (h : u ∈ (["", "p", "q", "z"] : List Str)) (hb : (u != "") = true) : u ∈ (["p", "q", "z"] : List Str) := by
  rcases List.mem_cons.mp h with e | h
  · rw [e] at hb; exact absurd hb (by decide)
  · exact h
theorem ins_at {k1 k2 : Tok} {i : Nat} {v : Value} (h : ([.none, .str "a" k1, .str "go" k2] : List Value)[i]? = some v) : v = .none ∨ ∃ u t, v = .str u t ∧ u ∈ (["a", "go"] : List Str) := by
  match i, h with
  | 0, h => simp at h; exact .inl h.symm
  | 1, h => simp at h; exact .inr ⟨_, _, h.symm, .head _⟩
  | 2, h => simp at h; exact .inr ⟨_, _, h.symm, .tail _ (.head _)⟩
  | i + 3, h => simp at h
theorem four_at {a b c d : Value} {i : Nat} {v : Value} (h : ([a, b, c, d] : List Value)[i]? = some v) : v = a ∨ v = b ∨ v = c ∨ v = d := by
  match i, h with
  | 0, h => simp at h; exact .inl h.symm
  | 1, h => simp at h; exact .inr (.inl h.symm)
  | 2, h => simp at h; exact .inr (.inr (.inl h.symm))
  | 3, h => simp at h; exact .inr (.inr (.inr h.symm))
  | i + 4, h => simp at h
end SCommon
section Lines
local macro_rules | `(tactic| wtm_at "i") => `(tactic| (k_here; (with_reducible show wpAny _ _ (subscriptTail _ _ (Value.ref _) (Value.int _ _)) _ _ _)))
local macro_rules | `(tactic| wtm_at "n") => `(tactic| (k_here; (with_reducible show wpAny _ _ (call (Value.builtin "len") [Value.ref _]) _ _ _)))
local macro_rules | `(tactic| wtm_at "s") => `(tactic| ((try dsimp only); (try k_fold); (try k_sweep)))
local macro_rules | `(tactic| wtm_at "f") => `(tactic| ((try dsimp only); (try k_fold)))
local macro_rules | `(tactic| wtm_at "w") => `(tactic| (first | with_reducible assumption | (simp only [List.length_append, List.length_cons, List.length_nil]; omega)))
local macro_rules | `(tactic| wtm_at "l") => `(tactic| (exact News.isList (by k_asm) (by k_mem)))
local macro_rules | `(tactic| tbr_iter $t) => `(tactic| (k_here; (with_reducible show wpAny _ _ (call (Value.ref $t) _) _ _ _)))
local macro_rules | `(tactic| ktr_room) => `(tactic| (k_dflt (first | exact room2 (by with_reducible assumption) rfl | exact room3 (by with_reducible assumption) rfl | exact room0 (by with_reducible assumption) rfl | exact room1 (by with_reducible assumption))))
local macro_rules | `(tactic| ktr_units) => `(tactic| ktr_room)
local macro_rules | `(tactic| k_room) => `(tactic| ktr_room)
local macro_rules | `(tactic| k_units) => `(tactic| ktr_units)
local macro_rules | `(tactic| ke_room) => `(tactic| ktr_units)
local macro_rules | `(tactic| units_room) => `(tactic| ktr_units)
local macro_rules | `(tactic| k_all) => `(tactic| assumption)
local macro_rules | `(tactic| k_mem) => `(tactic| first | with_reducible assumption | exact List.mem_cons_self | (refine List.mem_cons_of_mem _ ?_; k_mem))
local macro_rules | `(tactic| walk_at "subscriptTail Name Constant ref int") => `(tactic| (wtm_at "i"; k_dflt (refine' item_tupleM ?k1 ?k0 ?k2 ?k3 ?k4 ?k5 ?_ ?k6; (case k1 => k_asm); (case k0 => k_mem); (case k2 | k3 => decide); (case k4 | k5 => rfl); (case k6 => with_unfolding_all rfl); k_whole)))
local macro_rules | `(tactic| walk_at "subscriptTail Name Slice ref ref") => `(tactic| (k_here; (with_reducible show wpAny _ _ (subscriptTail _ (PySem.Expr.Slice (some _) none none _) (Value.ref _) (Value.ref _)) _ _ _); k_dflt (refine' slice_tupleK ?F ?N ?t ?hz ?hv ?_ ?hs ?hg; (case hv => rfl); (case F | N => k_asm); (case t => exact News.isTup (by k_asm) (by k_mem)); (case hz => size_fits); (case hs => with_unfolding_all rfl); (case hg => (intro _; with_unfolding_all rfl)); k_whole); intro D' h' F' N' l1; (try k_lt l1)))
local macro_rules | `(tactic| tb_start) => `(tactic| exact ⟨by k_asm, by k_asm, by k_asm, by k_asm, by k_asm, by (first | exact rfl | assumption), by ktr_room, by ktr_units⟩)
local macro_rules | `(tactic| walk_at "compareOp Eq ref ref") => `(tactic| (k_here; (with_reducible show wpAny _ _ (compareOp CmpOp.Eq (Value.ref _) (Value.ref _)) _ _ _); k_dflt (refine' eq_two ?N ?h1 ?h2 ?o1 ?o2 ?o3 ?o4 ?u ?_; (case N => k_asm); (case h1 | h2 => k_mem); (case o1 | o2 | o3 | o4 => first | assumption | decide +kernel); (case u => ktr_units); k_whole)))
local macro_rules | `(tactic| walk_at "compareOp In str ref") => `(tactic| (k_here; (with_reducible show wpAny _ _ (compareOp CmpOp.In (Value.str _ _) (Value.ref _)) _ _ _); k_dflt (refine' in_noneS ?N ?h1 ?o1 ?o2 ?u ?_; (case N => k_asm); (case h1 => k_mem); (case o1 | o2 => assumption); (case u => ktr_units); k_whole)))
local macro_rules | `(tactic| walk_at "compareOp In none ref") => `(tactic| (k_here; (with_reducible show wpAny _ _ (compareOp CmpOp.In Value.none (Value.ref _)) _ _ _); k_dflt (refine' in_noneN ?N ?h1 ?o1 ?u ?_; (case N => k_asm); (case h1 => k_mem); (case o1 => assumption); (case u => ktr_units); k_whole)))
local macro_rules | `(tactic| k_inst) => `(tactic| (refine' inst_base ?F ?B ?h1 ?h2; (case F | B => k_asm); (case h1 | h2 => assumption)))
local macro_rules | `(tactic| tb_rel) => `(tactic| (refine' list_base ?F ?B ?h1; (case F | B => k_asm); (case h1 => assumption)))
local macro_rules | `(tactic| walk_at "call builtin:len") => `(tactic| (wtm_at "n"; k_dflt (refine' len_base ?l ?z ?_; (case l => tb_rel); (case z => assumption); k_whole)))
local macro_rules | `(tactic| walk_at "subscriptTail Attribute Name Name ref int") => `(tactic| (wtm_at "i"; k_dflt (refine' item_litK ?l ?a ?b ?x ?_ ?hs; (case l => tb_rel); (case x | a => assumption); (case b => omega); (case hs => with_unfolding_all rfl); k_whole)))
local macro_rules | `(tactic| walk_at "binaryOp Mult int int") => `(tactic| (k_here; k_dflt (refine' PyProof.Rows.mul_int ?_ ?hm; (case hm => exact mul_ok_mod _ _); k_whole)))
local macro_rules | `(tactic| walk_at "call builtin:len") => `(tactic| (wtm_at "n"; k_dflt (refine' len_base ?l ?z ?_; (case l => wtm_at "l"); (case z => omega); k_whole)))
local macro_rules | `(tactic| walk_at "subscriptTail Name Call ref int") => `(tactic| (wtm_at "i"; k_dflt (refine' item_some ?l ?a ?b ?z ?_ ?hs; (case l => wtm_at "l"); (case a | b => assumption); (case z => omega); (case hs => with_unfolding_all rfl); k_whole); intros))
local macro_rules | `(tactic| walk_at "subscriptTail List cons BinOp ref int") => `(tactic| (wtm_at "i"; k_dflt (refine' item_some ?l ?a ?b ?z ?_ ?hs; (case l => wtm_at "l"); (case a => omega); (case b => (simp only [List.length_cons, List.length_nil]; omega)); (case z => exact Nat.le_of_ble_eq_true rfl); (case hs => with_unfolding_all rfl); k_whole); intros))
local macro_rules | `(tactic| kat_kinds) => `(tactic| first | with_reducible assumption | with_reducible exact lt_self | (with_reducible refine lt_suc ?_; kat_kinds) | (with_reducible refine lt_and (by with_reducible assumption) ?_; (repeat' (first | with_reducible exact and_hit | with_reducible exact id | with_reducible refine and_skip ?_)); done))
local macro_rules | `(tactic| kas_types) => `(tactic| with_reducible refine lt_tr (by with_reducible assumption) ?_)
local macro_rules | `(tactic| kat_kindO) => `(tactic| first | kat_kinds | (kas_types; kat_kinds) | (kas_types; kas_types; kat_kinds) | (kas_types; kas_types; kas_types; kat_kinds) | (kas_types; kas_types; kas_types; kas_types; kat_kinds))
local macro_rules | `(tactic| k_ne) => `(tactic| (refine neN ?_; (try dsimp only); first | with_reducible assumption | with_reducible exact Ne.symm (by with_reducible assumption) | (with_reducible refine ne_gt ?_; kat_kindO) | (with_reducible refine ne_lt ?_; kat_kindO) | omega))
section SModU
theorem uri_e {tx : Tok} (C : Site w p loose mean mg mb A₀ base outer h₀ L m news s.heap cs dp un 2 20)
   (hret : ∀ (t : Tok) (h' : Heap) (tk' : Nat), Fr h₀ L h' m → News h₀ L h' news → Q (.str "" t) { s with heap := h', toks := tk' }) :
   wpAny (model PR w) (ktrTop dp un gd cn cs L a ccd cl outer) (call (.ref 346) [.str "" tx]) Q E s := by
  obtain ⟨B, F, X, N, T, hk, hd, hu⟩ := C
  w_on
  w_strict (refine wpAny_call ?_; k_dflt cell_enter; k_steps; exact hret _ _ _ (by assumption) (cb_drop (by assumption) (by intro p hp; k_mem)))
theorem uri_p {tx : Tok} (C : Site w p loose mean mg mb A₀ base outer h₀ L m news s.heap cs dp un 2 20)
   (hret : ∀ (t : Tok) (h' : Heap) (tk' : Nat), Fr h₀ L h' m → News h₀ L h' news → Q (.str "u:1" t) { s with heap := h', toks := tk' }) :
   wpAny (model PR w) (ktrTop dp un gd cn cs L a ccd cl outer) (call (.ref 346) [.str "p" tx]) Q E s := by
  obtain ⟨B, F, X, N, T, hk, hd, hu⟩ := C
  w_on
  w_strict (refine wpAny_call ?_; k_dflt cell_enter; k_steps; exact hret _ _ _ (by assumption) (cb_drop (by assumption) (by intro p hp; k_mem)))
theorem uri_q {tx : Tok} (C : Site w p loose mean mg mb A₀ base outer h₀ L m news s.heap cs dp un 2 20)
   (hret : ∀ (t : Tok) (h' : Heap) (tk' : Nat), Fr h₀ L h' m → News h₀ L h' news → Q (.str "u:2" t) { s with heap := h', toks := tk' }) :
   wpAny (model PR w) (ktrTop dp un gd cn cs L a ccd cl outer) (call (.ref 346) [.str "q" tx]) Q E s := by
  obtain ⟨B, F, X, N, T, hk, hd, hu⟩ := C
  w_on
  w_strict (refine wpAny_call ?_; k_dflt cell_enter; k_steps; exact hret _ _ _ (by assumption) (cb_drop (by assumption) (by intro p hp; k_mem)))
theorem uri_z {tx : Tok} (C : Site w p loose mean mg mb A₀ base outer h₀ L m news s.heap cs dp un 2 20)
   (hret : ∀ (h' : Heap) (tk' : Nat), Fr h₀ L h' m → News h₀ L h' news → Q .none { s with heap := h', toks := tk' }) :
   wpAny (model PR w) (ktrTop dp un gd cn cs L a ccd cl outer) (call (.ref 346) [.str "z" tx]) Q E s := by
  obtain ⟨B, F, X, N, T, hk, hd, hu⟩ := C
  w_on
  w_strict (refine wpAny_call ?_; k_dflt cell_enter; k_steps; exact hret _ _ (by assumption) (cb_drop (by assumption) (by intro p hp; k_mem)))
local macro_rules | `(tactic| walk_at "call ref") => `(tactic| (tbr_iter 346; k_dflt (refine' uri_e ?tbS ?_; (case tbS => tb_start)); intros; wtm_at "f"))
local macro_rules | `(tactic| walk_at "call ref") => `(tactic| (tbr_iter 346; k_dflt (refine' uri_p ?tbS ?_; (case tbS => tb_start)); intros; wtm_at "f"))
local macro_rules | `(tactic| walk_at "call ref") => `(tactic| (tbr_iter 346; k_dflt (refine' uri_q ?tbS ?_; (case tbS => tb_start)); intros; wtm_at "f"))
local macro_rules | `(tactic| walk_at "call ref") => `(tactic| (tbr_iter 346; k_dflt (refine' uri_z ?tbS ?_; (case tbS => tb_start)); intros; wtm_at "f"))
theorem isn_e {row ts : Addr} {kd ur lc nm : Str} {t1 t2 t3 t4 t5 t6 t7 : Tok} {nn : Str} {n1 n2 : Nat} (our : ok ur) (olc : ok lc) (onm : ok nm) (onn : ok nn)
   (hr : (row, ({ cls := .type "tuple", data := .seq #[.str kd t1, .str ur t2, .str lc t3, .str nm t4] n1 } : Obj)) ∈ news)
   (ht : (ts, ({ cls := .type "tuple", data := .seq #[.str "name" t5, .str "" t6, .str nn t7] n2 } : Obj)) ∈ news)
   (C : Site w p loose mean mg mb A₀ base outer h₀ L m news s.heap cs dp un 3 100)
   (hret : ∀ (h' : Heap) (tk' : Nat), Fr h₀ L h' m → News h₀ L h' news → Q (.bool (isNamedF kd ur lc nm "" nn)) { s with heap := h', toks := tk' }) :
   wpAny (model PR w) (ktrTop dp un gd cn cs L a ccd cl outer) (call (.ref 360) [.ref row, .ref ts]) Q E s := by
  obtain ⟨B, F, X, N, T, hk, hd, hu⟩ := C
  w_on
  w_strict (refine wpAny_call ?_; k_dflt cell_enter; k_steps; all_goals (refine cb_retB (Q := Q) (fun _ h' tk' => hret h' tk') ?_ (by assumption) (cb_drop (by assumption) (by intro p hp; k_mem)); (try dsimp only); first | exact isn1 (by assumption) | exact isn2 (by assumption) (by assumption) (by decide) | exact isn3 (by assumption) (by assumption)))
theorem isn_p {row ts : Addr} {kd ur lc nm : Str} {t1 t2 t3 t4 t5 t6 t7 : Tok} {nn : Str} {n1 n2 : Nat} (our : ok ur) (olc : ok lc) (onm : ok nm) (onn : ok nn)
   (hr : (row, ({ cls := .type "tuple", data := .seq #[.str kd t1, .str ur t2, .str lc t3, .str nm t4] n1 } : Obj)) ∈ news)
   (ht : (ts, ({ cls := .type "tuple", data := .seq #[.str "name" t5, .str "p" t6, .str nn t7] n2 } : Obj)) ∈ news)
   (C : Site w p loose mean mg mb A₀ base outer h₀ L m news s.heap cs dp un 3 100)
   (hret : ∀ (h' : Heap) (tk' : Nat), Fr h₀ L h' m → News h₀ L h' news → Q (.bool (isNamedF kd ur lc nm "p" nn)) { s with heap := h', toks := tk' }) :
   wpAny (model PR w) (ktrTop dp un gd cn cs L a ccd cl outer) (call (.ref 360) [.ref row, .ref ts]) Q E s := by
  obtain ⟨B, F, X, N, T, hk, hd, hu⟩ := C
  w_on
  w_strict (refine wpAny_call ?_; k_dflt cell_enter; k_steps; all_goals (refine cb_retB (Q := Q) (fun _ h' tk' => hret h' tk') ?_ (by assumption) (cb_drop (by assumption) (by intro p hp; k_mem)); (try dsimp only); first | exact isn1 (by assumption) | exact isn2 (by assumption) (by assumption) (by decide) | exact isn3 (by assumption) (by assumption)))
theorem isn_q {row ts : Addr} {kd ur lc nm : Str} {t1 t2 t3 t4 t5 t6 t7 : Tok} {nn : Str} {n1 n2 : Nat} (our : ok ur) (olc : ok lc) (onm : ok nm) (onn : ok nn)
   (hr : (row, ({ cls := .type "tuple", data := .seq #[.str kd t1, .str ur t2, .str lc t3, .str nm t4] n1 } : Obj)) ∈ news)
   (ht : (ts, ({ cls := .type "tuple", data := .seq #[.str "name" t5, .str "q" t6, .str nn t7] n2 } : Obj)) ∈ news)
   (C : Site w p loose mean mg mb A₀ base outer h₀ L m news s.heap cs dp un 3 100)
   (hret : ∀ (h' : Heap) (tk' : Nat), Fr h₀ L h' m → News h₀ L h' news → Q (.bool (isNamedF kd ur lc nm "q" nn)) { s with heap := h', toks := tk' }) :
   wpAny (model PR w) (ktrTop dp un gd cn cs L a ccd cl outer) (call (.ref 360) [.ref row, .ref ts]) Q E s := by
  obtain ⟨B, F, X, N, T, hk, hd, hu⟩ := C
  w_on
  w_strict (refine wpAny_call ?_; k_dflt cell_enter; k_steps; all_goals (refine cb_retB (Q := Q) (fun _ h' tk' => hret h' tk') ?_ (by assumption) (cb_drop (by assumption) (by intro p hp; k_mem)); (try dsimp only); first | exact isn1 (by assumption) | exact isn2 (by assumption) (by assumption) (by decide) | exact isn3 (by assumption) (by assumption)))
local macro_rules | `(tactic| walk_at "call ref") => `(tactic| (tbr_iter 360; k_dflt (refine' isn_e ?o1 ?o2 ?o3 ?o4 ?hr ?ht ?tbS ?_; (case tbS => tb_start); (case hr | ht => k_mem); (case o1 | o2 | o3 => assumption); (case o4 => first | assumption | decide +kernel)); intros; wtm_at "f"))
local macro_rules | `(tactic| walk_at "call ref") => `(tactic| (tbr_iter 360; k_dflt (refine' isn_p ?o1 ?o2 ?o3 ?o4 ?hr ?ht ?tbS ?_; (case tbS => tb_start); (case hr | ht => k_mem); (case o1 | o2 | o3 => assumption); (case o4 => first | assumption | decide +kernel)); intros; wtm_at "f"))
local macro_rules | `(tactic| walk_at "call ref") => `(tactic| (tbr_iter 360; k_dflt (refine' isn_q ?o1 ?o2 ?o3 ?o4 ?hr ?ht ?tbS ?_; (case tbS => tb_start); (case hr | ht => k_mem); (case o1 | o2 | o3 => assumption); (case o4 => first | assumption | decide +kernel)); intros; wtm_at "f"))
theorem due_name_e {row ts : Addr} {kd ur lc nm ax nn : Str} {t1 t2 t3 t4 tx k0 k1 k2 : Tok} {n1 n2 : Nat} (our : ok ur) (olc : ok lc) (onm : ok nm) (onn : ok nn)
   (hr : (row, ({ cls := .type "tuple", data := .seq #[.str kd t1, .str ur t2, .str lc t3, .str nm t4] n1 } : Obj)) ∈ news)
   (ht : (ts, ({ cls := .type "tuple", data := .seq #[.str "name" k0, .str "" k1, .str nn k2] n2 } : Obj)) ∈ news)
   (C : Site w p loose mean mg mb A₀ base outer h₀ L m news s.heap cs dp un 4 200)
   (hret : ∀ (h' : Heap) (tk' : Nat), Fr h₀ L h' m → News h₀ L h' news → Q (.bool ((kd == wantF ax) && isNamedF kd ur lc nm "" nn)) { s with heap := h', toks := tk' }) :
   wpAny (model PR w) (ktrTop dp un gd cn cs L a ccd cl outer) (call (.ref 353) [.ref row, .str ax tx, .ref ts]) Q E s := by
  obtain ⟨B, F, X, N, T, hk, hd, hu⟩ := C
  w_on
  w_strict (refine wpAny_call ?_; k_dflt cell_enter; k_steps; all_goals (refine cb_retB (Q := Q) (fun _ h9 tk9 => hret h9 tk9) ?_ (by assumption) (cb_drop (by assumption) (by intro p hp; k_mem)); (try dsimp only); first | done | (rw [want_t (by assumption)]; done) | (rw [want_f (by assumption)]; done) | ((first | rw [want_t (by assumption)] | rw [want_f (by assumption)] | skip); first | rfl | exact zN1 (by assumption) (by assumption) | exact zN2 (by assumption) (by assumption) (by assumption) (by decide) | exact zN3 (by assumption) (by assumption) (by assumption) | exact zO1 (by assumption) (by assumption) (by decide) | exact zO2 (by assumption) (by assumption) | exact zTs (by assumption) | exact zT (by assumption) | exact zTt (by assumption) | exact zF (by assumption) | exact zF3 (by assumption))))
theorem due_name_p {row ts : Addr} {kd ur lc nm ax nn : Str} {t1 t2 t3 t4 tx k0 k1 k2 : Tok} {n1 n2 : Nat} (our : ok ur) (olc : ok lc) (onm : ok nm) (onn : ok nn)
   (hr : (row, ({ cls := .type "tuple", data := .seq #[.str kd t1, .str ur t2, .str lc t3, .str nm t4] n1 } : Obj)) ∈ news)
   (ht : (ts, ({ cls := .type "tuple", data := .seq #[.str "name" k0, .str "p" k1, .str nn k2] n2 } : Obj)) ∈ news)
   (C : Site w p loose mean mg mb A₀ base outer h₀ L m news s.heap cs dp un 4 200)
   (hret : ∀ (h' : Heap) (tk' : Nat), Fr h₀ L h' m → News h₀ L h' news → Q (.bool ((kd == wantF ax) && isNamedF kd ur lc nm "p" nn)) { s with heap := h', toks := tk' }) :
   wpAny (model PR w) (ktrTop dp un gd cn cs L a ccd cl outer) (call (.ref 353) [.ref row, .str ax tx, .ref ts]) Q E s := by
  obtain ⟨B, F, X, N, T, hk, hd, hu⟩ := C
  w_on
  w_strict (refine wpAny_call ?_; k_dflt cell_enter; k_steps; all_goals (refine cb_retB (Q := Q) (fun _ h9 tk9 => hret h9 tk9) ?_ (by assumption) (cb_drop (by assumption) (by intro p hp; k_mem)); (try dsimp only); first | done | (rw [want_t (by assumption)]; done) | (rw [want_f (by assumption)]; done) | ((first | rw [want_t (by assumption)] | rw [want_f (by assumption)] | skip); first | rfl | exact zN1 (by assumption) (by assumption) | exact zN2 (by assumption) (by assumption) (by assumption) (by decide) | exact zN3 (by assumption) (by assumption) (by assumption) | exact zO1 (by assumption) (by assumption) (by decide) | exact zO2 (by assumption) (by assumption) | exact zTs (by assumption) | exact zT (by assumption) | exact zTt (by assumption) | exact zF (by assumption) | exact zF3 (by assumption))))
theorem due_name_q {row ts : Addr} {kd ur lc nm ax nn : Str} {t1 t2 t3 t4 tx k0 k1 k2 : Tok} {n1 n2 : Nat} (our : ok ur) (olc : ok lc) (onm : ok nm) (onn : ok nn)
   (hr : (row, ({ cls := .type "tuple", data := .seq #[.str kd t1, .str ur t2, .str lc t3, .str nm t4] n1 } : Obj)) ∈ news)
   (ht : (ts, ({ cls := .type "tuple", data := .seq #[.str "name" k0, .str "q" k1, .str nn k2] n2 } : Obj)) ∈ news)
   (C : Site w p loose mean mg mb A₀ base outer h₀ L m news s.heap cs dp un 4 200)
   (hret : ∀ (h' : Heap) (tk' : Nat), Fr h₀ L h' m → News h₀ L h' news → Q (.bool ((kd == wantF ax) && isNamedF kd ur lc nm "q" nn)) { s with heap := h', toks := tk' }) :
   wpAny (model PR w) (ktrTop dp un gd cn cs L a ccd cl outer) (call (.ref 353) [.ref row, .str ax tx, .ref ts]) Q E s := by
  obtain ⟨B, F, X, N, T, hk, hd, hu⟩ := C
  w_on
  w_strict (refine wpAny_call ?_; k_dflt cell_enter; k_steps; all_goals (refine cb_retB (Q := Q) (fun _ h9 tk9 => hret h9 tk9) ?_ (by assumption) (cb_drop (by assumption) (by intro p hp; k_mem)); (try dsimp only); first | done | (rw [want_t (by assumption)]; done) | (rw [want_f (by assumption)]; done) | ((first | rw [want_t (by assumption)] | rw [want_f (by assumption)] | skip); first | rfl | exact zN1 (by assumption) (by assumption) | exact zN2 (by assumption) (by assumption) (by assumption) (by decide) | exact zN3 (by assumption) (by assumption) (by assumption) | exact zO1 (by assumption) (by assumption) (by decide) | exact zO2 (by assumption) (by assumption) | exact zTs (by assumption) | exact zT (by assumption) | exact zTt (by assumption) | exact zF (by assumption) | exact zF3 (by assumption))))
theorem due_name_z {row ts : Addr} {kd ur lc nm ax nn : Str} {t1 t2 t3 t4 tx k0 k1 k2 : Tok} {n1 n2 : Nat} (our : ok ur) (olc : ok lc) (onm : ok nm) (onn : ok nn)
   (hr : (row, ({ cls := .type "tuple", data := .seq #[.str kd t1, .str ur t2, .str lc t3, .str nm t4] n1 } : Obj)) ∈ news)
   (ht : (ts, ({ cls := .type "tuple", data := .seq #[.str "name" k0, .str "z" k1, .str nn k2] n2 } : Obj)) ∈ news)
   (C : Site w p loose mean mg mb A₀ base outer h₀ L m news s.heap cs dp un 4 200)
   (hret : ∀ (t : Tok) (h' : Heap) (tk' : Nat), Fr h₀ L h' m → News h₀ L h' news → Q (.str "fault" t) { s with heap := h', toks := tk' }) :
   wpAny (model PR w) (ktrTop dp un gd cn cs L a ccd cl outer) (call (.ref 353) [.ref row, .str ax tx, .ref ts]) Q E s := by
  obtain ⟨B, F, X, N, T, hk, hd, hu⟩ := C
  w_on
  w_strict (refine wpAny_call ?_; k_dflt cell_enter; k_steps; all_goals (exact hret _ _ _ (by assumption) (cb_drop (by assumption) (by intro p hp; k_mem))))
theorem due_of_p {row ts : Addr} {kd ur lc nm ax nn : Str} {t1 t2 t3 t4 tx k0 k1 k2 : Tok} {n1 n2 : Nat} (our : ok ur) (olc : ok lc) (onm : ok nm) (onn : ok nn)
   (hr : (row, ({ cls := .type "tuple", data := .seq #[.str kd t1, .str ur t2, .str lc t3, .str nm t4] n1 } : Obj)) ∈ news)
   (ht : (ts, ({ cls := .type "tuple", data := .seq #[.str "any of" k0, .str "p" k1] n2 } : Obj)) ∈ news)
   (C : Site w p loose mean mg mb A₀ base outer h₀ L m news s.heap cs dp un 4 200)
   (hret : ∀ (h' : Heap) (tk' : Nat), Fr h₀ L h' m → News h₀ L h' news → Q (.bool ((kd == wantF ax) && (kd != "namespace") && (ur == uriF "p"))) { s with heap := h', toks := tk' }) :
   wpAny (model PR w) (ktrTop dp un gd cn cs L a ccd cl outer) (call (.ref 353) [.ref row, .str ax tx, .ref ts]) Q E s := by
  obtain ⟨B, F, X, N, T, hk, hd, hu⟩ := C
  w_on
  w_strict (refine wpAny_call ?_; k_dflt cell_enter; k_steps; all_goals (refine cb_retB (Q := Q) (fun _ h9 tk9 => hret h9 tk9) ?_ (by assumption) (cb_drop (by assumption) (by intro p hp; k_mem)); (try dsimp only); first | done | (rw [want_t (by assumption)]; done) | (rw [want_f (by assumption)]; done) | ((first | rw [want_t (by assumption)] | rw [want_f (by assumption)] | skip); first | rfl | exact zN1 (by assumption) (by assumption) | exact zN2 (by assumption) (by assumption) (by assumption) (by decide) | exact zN3 (by assumption) (by assumption) (by assumption) | exact zO1 (by assumption) (by assumption) (by decide) | exact zO2 (by assumption) (by assumption) | exact zTs (by assumption) | exact zT (by assumption) | exact zTt (by assumption) | exact zF (by assumption) | exact zF3 (by assumption))))
theorem due_of_q {row ts : Addr} {kd ur lc nm ax nn : Str} {t1 t2 t3 t4 tx k0 k1 k2 : Tok} {n1 n2 : Nat} (our : ok ur) (olc : ok lc) (onm : ok nm) (onn : ok nn)
   (hr : (row, ({ cls := .type "tuple", data := .seq #[.str kd t1, .str ur t2, .str lc t3, .str nm t4] n1 } : Obj)) ∈ news)
   (ht : (ts, ({ cls := .type "tuple", data := .seq #[.str "any of" k0, .str "q" k1] n2 } : Obj)) ∈ news)
   (C : Site w p loose mean mg mb A₀ base outer h₀ L m news s.heap cs dp un 4 200)
   (hret : ∀ (h' : Heap) (tk' : Nat), Fr h₀ L h' m → News h₀ L h' news → Q (.bool ((kd == wantF ax) && (kd != "namespace") && (ur == uriF "q"))) { s with heap := h', toks := tk' }) :
   wpAny (model PR w) (ktrTop dp un gd cn cs L a ccd cl outer) (call (.ref 353) [.ref row, .str ax tx, .ref ts]) Q E s := by
  obtain ⟨B, F, X, N, T, hk, hd, hu⟩ := C
  w_on
  w_strict (refine wpAny_call ?_; k_dflt cell_enter; k_steps; all_goals (refine cb_retB (Q := Q) (fun _ h9 tk9 => hret h9 tk9) ?_ (by assumption) (cb_drop (by assumption) (by intro p hp; k_mem)); (try dsimp only); first | done | (rw [want_t (by assumption)]; done) | (rw [want_f (by assumption)]; done) | ((first | rw [want_t (by assumption)] | rw [want_f (by assumption)] | skip); first | rfl | exact zN1 (by assumption) (by assumption) | exact zN2 (by assumption) (by assumption) (by assumption) (by decide) | exact zN3 (by assumption) (by assumption) (by assumption) | exact zO1 (by assumption) (by assumption) (by decide) | exact zO2 (by assumption) (by assumption) | exact zTs (by assumption) | exact zT (by assumption) | exact zTt (by assumption) | exact zF (by assumption) | exact zF3 (by assumption))))
theorem due_of_z {row ts : Addr} {kd ur lc nm ax nn : Str} {t1 t2 t3 t4 tx k0 k1 k2 : Tok} {n1 n2 : Nat} (our : ok ur) (olc : ok lc) (onm : ok nm) (onn : ok nn)
   (hr : (row, ({ cls := .type "tuple", data := .seq #[.str kd t1, .str ur t2, .str lc t3, .str nm t4] n1 } : Obj)) ∈ news)
   (ht : (ts, ({ cls := .type "tuple", data := .seq #[.str "any of" k0, .str "z" k1] n2 } : Obj)) ∈ news)
   (C : Site w p loose mean mg mb A₀ base outer h₀ L m news s.heap cs dp un 4 200)
   (hret : ∀ (t : Tok) (h' : Heap) (tk' : Nat), Fr h₀ L h' m → News h₀ L h' news → Q (.str "fault" t) { s with heap := h', toks := tk' }) :
   wpAny (model PR w) (ktrTop dp un gd cn cs L a ccd cl outer) (call (.ref 353) [.ref row, .str ax tx, .ref ts]) Q E s := by
  obtain ⟨B, F, X, N, T, hk, hd, hu⟩ := C
  w_on
  w_strict (refine wpAny_call ?_; k_dflt cell_enter; k_steps; all_goals (exact hret _ _ _ (by assumption) (cb_drop (by assumption) (by intro p hp; k_mem))))
theorem due_ins_n {row ts : Addr} {kd ur lc nm ax nn : Str} {t1 t2 t3 t4 tx k0 k1 k2 : Tok} {n1 n2 : Nat} (our : ok ur) (olc : ok lc) (onm : ok nm) (onn : ok nn)
   (hr : (row, ({ cls := .type "tuple", data := .seq #[.str kd t1, .str ur t2, .str lc t3, .str nm t4] n1 } : Obj)) ∈ news)
   (ht : (ts, ({ cls := .type "tuple", data := .seq #[.str "instruction" k0, .none] n2 } : Obj)) ∈ news)
   (C : Site w p loose mean mg mb A₀ base outer h₀ L m news s.heap cs dp un 4 200)
   (hret : ∀ (h' : Heap) (tk' : Nat), Fr h₀ L h' m → News h₀ L h' news → Q (.bool (kd == "instruction")) { s with heap := h', toks := tk' }) :
   wpAny (model PR w) (ktrTop dp un gd cn cs L a ccd cl outer) (call (.ref 353) [.ref row, .str ax tx, .ref ts]) Q E s := by
  obtain ⟨B, F, X, N, T, hk, hd, hu⟩ := C
  w_on
  w_strict (refine wpAny_call ?_; k_dflt cell_enter; k_steps; all_goals (refine cb_retB (Q := Q) (fun _ h9 tk9 => hret h9 tk9) ?_ (by assumption) (cb_drop (by assumption) (by intro p hp; k_mem)); (try dsimp only); first | done | (rw [want_t (by assumption)]; done) | (rw [want_f (by assumption)]; done) | ((first | rw [want_t (by assumption)] | rw [want_f (by assumption)] | skip); first | rfl | exact zN1 (by assumption) (by assumption) | exact zN2 (by assumption) (by assumption) (by assumption) (by decide) | exact zN3 (by assumption) (by assumption) (by assumption) | exact zO1 (by assumption) (by assumption) (by decide) | exact zO2 (by assumption) (by assumption) | exact zTs (by assumption) | exact zT (by assumption) | exact zTt (by assumption) | exact zF (by assumption) | exact zF3 (by assumption))))
theorem due_ins_s {row ts : Addr} {kd ur lc nm ax nn : Str} {t1 t2 t3 t4 tx k0 k1 k2 : Tok} {n1 n2 : Nat} (our : ok ur) (olc : ok lc) (onm : ok nm) (onn : ok nn)
   (hr : (row, ({ cls := .type "tuple", data := .seq #[.str kd t1, .str ur t2, .str lc t3, .str nm t4] n1 } : Obj)) ∈ news)
   (ht : (ts, ({ cls := .type "tuple", data := .seq #[.str "instruction" k0, .str nn k1] n2 } : Obj)) ∈ news)
   (C : Site w p loose mean mg mb A₀ base outer h₀ L m news s.heap cs dp un 4 200)
   (hret : ∀ (h' : Heap) (tk' : Nat), Fr h₀ L h' m → News h₀ L h' news → Q (.bool ((kd == "instruction") && (nn == lc))) { s with heap := h', toks := tk' }) :
   wpAny (model PR w) (ktrTop dp un gd cn cs L a ccd cl outer) (call (.ref 353) [.ref row, .str ax tx, .ref ts]) Q E s := by
  obtain ⟨B, F, X, N, T, hk, hd, hu⟩ := C
  w_on
  w_strict (refine wpAny_call ?_; k_dflt cell_enter; k_steps; all_goals (refine cb_retB (Q := Q) (fun _ h9 tk9 => hret h9 tk9) ?_ (by assumption) (cb_drop (by assumption) (by intro p hp; k_mem)); (try dsimp only); first | done | (rw [want_t (by assumption)]; done) | (rw [want_f (by assumption)]; done) | ((first | rw [want_t (by assumption)] | rw [want_f (by assumption)] | skip); first | rfl | exact zN1 (by assumption) (by assumption) | exact zN2 (by assumption) (by assumption) (by assumption) (by decide) | exact zN3 (by assumption) (by assumption) (by assumption) | exact zO1 (by assumption) (by assumption) (by decide) | exact zO2 (by assumption) (by assumption) | exact zTs (by assumption) | exact zT (by assumption) | exact zTt (by assumption) | exact zF (by assumption) | exact zF3 (by assumption))))
theorem due_any {row ts : Addr} {kd ur lc nm ax nn : Str} {t1 t2 t3 t4 tx k0 k1 k2 : Tok} {n1 n2 : Nat} (our : ok ur) (olc : ok lc) (onm : ok nm) (onn : ok nn)
   (hr : (row, ({ cls := .type "tuple", data := .seq #[.str kd t1, .str ur t2, .str lc t3, .str nm t4] n1 } : Obj)) ∈ news)
   (ht : (ts, ({ cls := .type "tuple", data := .seq #[.str "any" k0] n2 } : Obj)) ∈ news)
   (C : Site w p loose mean mg mb A₀ base outer h₀ L m news s.heap cs dp un 4 200)
   (hret : ∀ (h' : Heap) (tk' : Nat), Fr h₀ L h' m → News h₀ L h' news → Q (.bool (kd == wantF ax)) { s with heap := h', toks := tk' }) :
   wpAny (model PR w) (ktrTop dp un gd cn cs L a ccd cl outer) (call (.ref 353) [.ref row, .str ax tx, .ref ts]) Q E s := by
  obtain ⟨B, F, X, N, T, hk, hd, hu⟩ := C
  w_on
  w_strict (refine wpAny_call ?_; k_dflt cell_enter; k_steps; all_goals (refine cb_retB (Q := Q) (fun _ h9 tk9 => hret h9 tk9) ?_ (by assumption) (cb_drop (by assumption) (by intro p hp; k_mem)); (try dsimp only); first | done | (rw [want_t (by assumption)]; done) | (rw [want_f (by assumption)]; done) | ((first | rw [want_t (by assumption)] | rw [want_f (by assumption)] | skip); first | rfl | exact zN1 (by assumption) (by assumption) | exact zN2 (by assumption) (by assumption) (by assumption) (by decide) | exact zN3 (by assumption) (by assumption) (by assumption) | exact zO1 (by assumption) (by assumption) (by decide) | exact zO2 (by assumption) (by assumption) | exact zTs (by assumption) | exact zT (by assumption) | exact zTt (by assumption) | exact zF (by assumption) | exact zF3 (by assumption))))
theorem due_node {row ts : Addr} {kd ur lc nm ax nn : Str} {t1 t2 t3 t4 tx k0 k1 k2 : Tok} {n1 n2 : Nat} (our : ok ur) (olc : ok lc) (onm : ok nm) (onn : ok nn)
   (hr : (row, ({ cls := .type "tuple", data := .seq #[.str kd t1, .str ur t2, .str lc t3, .str nm t4] n1 } : Obj)) ∈ news)
   (ht : (ts, ({ cls := .type "tuple", data := .seq #[.str "node" k0] n2 } : Obj)) ∈ news)
   (C : Site w p loose mean mg mb A₀ base outer h₀ L m news s.heap cs dp un 4 200)
   (hret : ∀ (h' : Heap) (tk' : Nat), Fr h₀ L h' m → News h₀ L h' news → Q (.bool true) { s with heap := h', toks := tk' }) :
   wpAny (model PR w) (ktrTop dp un gd cn cs L a ccd cl outer) (call (.ref 353) [.ref row, .str ax tx, .ref ts]) Q E s := by
  obtain ⟨B, F, X, N, T, hk, hd, hu⟩ := C
  w_on
  w_strict (refine wpAny_call ?_; k_dflt cell_enter; k_steps; all_goals (refine cb_retB (Q := Q) (fun _ h9 tk9 => hret h9 tk9) ?_ (by assumption) (cb_drop (by assumption) (by intro p hp; k_mem)); (try dsimp only); first | done | (rw [want_t (by assumption)]; done) | (rw [want_f (by assumption)]; done) | ((first | rw [want_t (by assumption)] | rw [want_f (by assumption)] | skip); first | rfl | exact zN1 (by assumption) (by assumption) | exact zN2 (by assumption) (by assumption) (by assumption) (by decide) | exact zN3 (by assumption) (by assumption) (by assumption) | exact zO1 (by assumption) (by assumption) (by decide) | exact zO2 (by assumption) (by assumption) | exact zTs (by assumption) | exact zT (by assumption) | exact zTt (by assumption) | exact zF (by assumption) | exact zF3 (by assumption))))
theorem due_text {row ts : Addr} {kd ur lc nm ax nn : Str} {t1 t2 t3 t4 tx k0 k1 k2 : Tok} {n1 n2 : Nat} (our : ok ur) (olc : ok lc) (onm : ok nm) (onn : ok nn)
   (hr : (row, ({ cls := .type "tuple", data := .seq #[.str kd t1, .str ur t2, .str lc t3, .str nm t4] n1 } : Obj)) ∈ news)
   (ht : (ts, ({ cls := .type "tuple", data := .seq #[.str "text" k0] n2 } : Obj)) ∈ news)
   (C : Site w p loose mean mg mb A₀ base outer h₀ L m news s.heap cs dp un 4 200)
   (hret : ∀ (h' : Heap) (tk' : Nat), Fr h₀ L h' m → News h₀ L h' news → Q (.bool (kd == "text")) { s with heap := h', toks := tk' }) :
   wpAny (model PR w) (ktrTop dp un gd cn cs L a ccd cl outer) (call (.ref 353) [.ref row, .str ax tx, .ref ts]) Q E s := by
  obtain ⟨B, F, X, N, T, hk, hd, hu⟩ := C
  w_on
  w_strict (refine wpAny_call ?_; k_dflt cell_enter; k_steps; all_goals (refine cb_retB (Q := Q) (fun _ h9 tk9 => hret h9 tk9) ?_ (by assumption) (cb_drop (by assumption) (by intro p hp; k_mem)); (try dsimp only); first | done | (rw [want_t (by assumption)]; done) | (rw [want_f (by assumption)]; done) | ((first | rw [want_t (by assumption)] | rw [want_f (by assumption)] | skip); first | rfl | exact zN1 (by assumption) (by assumption) | exact zN2 (by assumption) (by assumption) (by assumption) (by decide) | exact zN3 (by assumption) (by assumption) (by assumption) | exact zO1 (by assumption) (by assumption) (by decide) | exact zO2 (by assumption) (by assumption) | exact zTs (by assumption) | exact zT (by assumption) | exact zTt (by assumption) | exact zF (by assumption) | exact zF3 (by assumption))))
theorem due_comment {row ts : Addr} {kd ur lc nm ax nn : Str} {t1 t2 t3 t4 tx k0 k1 k2 : Tok} {n1 n2 : Nat} (our : ok ur) (olc : ok lc) (onm : ok nm) (onn : ok nn)
   (hr : (row, ({ cls := .type "tuple", data := .seq #[.str kd t1, .str ur t2, .str lc t3, .str nm t4] n1 } : Obj)) ∈ news)
   (ht : (ts, ({ cls := .type "tuple", data := .seq #[.str "comment" k0] n2 } : Obj)) ∈ news)
   (C : Site w p loose mean mg mb A₀ base outer h₀ L m news s.heap cs dp un 4 200)
   (hret : ∀ (h' : Heap) (tk' : Nat), Fr h₀ L h' m → News h₀ L h' news → Q (.bool (kd == "comment")) { s with heap := h', toks := tk' }) :
   wpAny (model PR w) (ktrTop dp un gd cn cs L a ccd cl outer) (call (.ref 353) [.ref row, .str ax tx, .ref ts]) Q E s := by
  obtain ⟨B, F, X, N, T, hk, hd, hu⟩ := C
  w_on
  w_strict (refine wpAny_call ?_; k_dflt cell_enter; k_steps; all_goals (refine cb_retB (Q := Q) (fun _ h9 tk9 => hret h9 tk9) ?_ (by assumption) (cb_drop (by assumption) (by intro p hp; k_mem)); (try dsimp only); first | done | (rw [want_t (by assumption)]; done) | (rw [want_f (by assumption)]; done) | ((first | rw [want_t (by assumption)] | rw [want_f (by assumption)] | skip); first | rfl | exact zN1 (by assumption) (by assumption) | exact zN2 (by assumption) (by assumption) (by assumption) (by decide) | exact zN3 (by assumption) (by assumption) (by assumption) | exact zO1 (by assumption) (by assumption) (by decide) | exact zO2 (by assumption) (by assumption) | exact zTs (by assumption) | exact zT (by assumption) | exact zTt (by assumption) | exact zF (by assumption) | exact zF3 (by assumption))))
end SModU
theorem tree_kind {tr dT rw rr dr : Addr} {vs : List Value} {nr : Nat} {node : Int} {kd nm ur lc : Str} {q0 q1 q2 q3 q4 q5 q6 q7 q8 q9 q10 q11 q12 q13 tn : Tok} {v1 v2 v3 v4 v5 : Value}
   (hT1 : base.get? tr = some (instObj 300 dT)) (hT2 : base.get? dT = some (dictOf [⟨PyData.keyHash w.params "rows", .str "rows" q0, .ref rw⟩] 1)) (hT3 : base.get? rw = some (listOf vs.toArray nr))
   (hT4 : vs[node.toNat]? = some (.ref rr)) (hn0 : 0 ≤ node) (hn1 : node < vs.length) (hn2 : vs.length < 2 ^ 32) (hT5 : base.get? rr = some (instObj 111 dr))
   (hT6 : base.get? dr = some (dictOf [⟨PyData.keyHash w.params "kind", .str "kind" q1, .str kd q2⟩, ⟨PyData.keyHash w.params "name", .str "name" q3, .str nm q4⟩, ⟨PyData.keyHash w.params "uri", .str "uri" q5, .str ur q6⟩, ⟨PyData.keyHash w.params "local", .str "local" q7, .str lc q8⟩, ⟨PyData.keyHash w.params "value", .str "value" q9, v1⟩, ⟨PyData.keyHash w.params "parent", .str "parent" q10, v2⟩, ⟨PyData.keyHash w.params "children", .str "children" q11, v3⟩, ⟨PyData.keyHash w.params "attributes", .str "attributes" q12, v4⟩, ⟨PyData.keyHash w.params "namespaces", .str "namespaces" q13, v5⟩] 9))
   (C : Site w p loose mean mg mb A₀ base outer h₀ L m news s.heap cs dp un 4 40)
   (hret : ∀ (t : Tok) (h' : Heap) (tk' : Nat), Fr h₀ L h' m → News h₀ L h' news → Q (.str kd t) { s with heap := h', toks := tk' }) :
   wpAny (model PR w) (ktrTop dp un gd cn cs L a ccd cl outer) (call (.ref 220) [.ref tr, .int node tn]) Q E s := by
  obtain ⟨B, F, X, N, T, hk, hd, hu⟩ := C
  w_on
  w_strict (refine wpAny_call ?_; k_dflt cell_enter; k_steps; all_goals (exact hret _ _ _ (by assumption) (cb_drop (by assumption) (by intro p hp; k_mem))))
theorem tree_name {tr dT rw rr dr : Addr} {vs : List Value} {nr : Nat} {node : Int} {kd nm ur lc : Str} {q0 q1 q2 q3 q4 q5 q6 q7 q8 q9 q10 q11 q12 q13 tn : Tok} {v1 v2 v3 v4 v5 : Value}
   (hT1 : base.get? tr = some (instObj 300 dT)) (hT2 : base.get? dT = some (dictOf [⟨PyData.keyHash w.params "rows", .str "rows" q0, .ref rw⟩] 1)) (hT3 : base.get? rw = some (listOf vs.toArray nr))
   (hT4 : vs[node.toNat]? = some (.ref rr)) (hn0 : 0 ≤ node) (hn1 : node < vs.length) (hn2 : vs.length < 2 ^ 32) (hT5 : base.get? rr = some (instObj 111 dr))
   (hT6 : base.get? dr = some (dictOf [⟨PyData.keyHash w.params "kind", .str "kind" q1, .str kd q2⟩, ⟨PyData.keyHash w.params "name", .str "name" q3, .str nm q4⟩, ⟨PyData.keyHash w.params "uri", .str "uri" q5, .str ur q6⟩, ⟨PyData.keyHash w.params "local", .str "local" q7, .str lc q8⟩, ⟨PyData.keyHash w.params "value", .str "value" q9, v1⟩, ⟨PyData.keyHash w.params "parent", .str "parent" q10, v2⟩, ⟨PyData.keyHash w.params "children", .str "children" q11, v3⟩, ⟨PyData.keyHash w.params "attributes", .str "attributes" q12, v4⟩, ⟨PyData.keyHash w.params "namespaces", .str "namespaces" q13, v5⟩] 9))
   (C : Site w p loose mean mg mb A₀ base outer h₀ L m news s.heap cs dp un 4 40)
   (hret : ∀ (t : Tok) (h' : Heap) (tk' : Nat), Fr h₀ L h' m → News h₀ L h' news → Q (.str nm t) { s with heap := h', toks := tk' }) :
   wpAny (model PR w) (ktrTop dp un gd cn cs L a ccd cl outer) (call (.ref 227) [.ref tr, .int node tn]) Q E s := by
  obtain ⟨B, F, X, N, T, hk, hd, hu⟩ := C
  w_on
  w_strict (refine wpAny_call ?_; k_dflt cell_enter; k_steps; all_goals (exact hret _ _ _ (by assumption) (cb_drop (by assumption) (by intro p hp; k_mem))))
theorem tree_uri {tr dT rw rr dr : Addr} {vs : List Value} {nr : Nat} {node : Int} {kd nm ur lc : Str} {q0 q1 q2 q3 q4 q5 q6 q7 q8 q9 q10 q11 q12 q13 tn : Tok} {v1 v2 v3 v4 v5 : Value}
   (hT1 : base.get? tr = some (instObj 300 dT)) (hT2 : base.get? dT = some (dictOf [⟨PyData.keyHash w.params "rows", .str "rows" q0, .ref rw⟩] 1)) (hT3 : base.get? rw = some (listOf vs.toArray nr))
   (hT4 : vs[node.toNat]? = some (.ref rr)) (hn0 : 0 ≤ node) (hn1 : node < vs.length) (hn2 : vs.length < 2 ^ 32) (hT5 : base.get? rr = some (instObj 111 dr))
   (hT6 : base.get? dr = some (dictOf [⟨PyData.keyHash w.params "kind", .str "kind" q1, .str kd q2⟩, ⟨PyData.keyHash w.params "name", .str "name" q3, .str nm q4⟩, ⟨PyData.keyHash w.params "uri", .str "uri" q5, .str ur q6⟩, ⟨PyData.keyHash w.params "local", .str "local" q7, .str lc q8⟩, ⟨PyData.keyHash w.params "value", .str "value" q9, v1⟩, ⟨PyData.keyHash w.params "parent", .str "parent" q10, v2⟩, ⟨PyData.keyHash w.params "children", .str "children" q11, v3⟩, ⟨PyData.keyHash w.params "attributes", .str "attributes" q12, v4⟩, ⟨PyData.keyHash w.params "namespaces", .str "namespaces" q13, v5⟩] 9))
   (C : Site w p loose mean mg mb A₀ base outer h₀ L m news s.heap cs dp un 4 40)
   (hret : ∀ (t : Tok) (h' : Heap) (tk' : Nat), Fr h₀ L h' m → News h₀ L h' news → Q (.str ur t) { s with heap := h', toks := tk' }) :
   wpAny (model PR w) (ktrTop dp un gd cn cs L a ccd cl outer) (call (.ref 234) [.ref tr, .int node tn]) Q E s := by
  obtain ⟨B, F, X, N, T, hk, hd, hu⟩ := C
  w_on
  w_strict (refine wpAny_call ?_; k_dflt cell_enter; k_steps; all_goals (exact hret _ _ _ (by assumption) (cb_drop (by assumption) (by intro p hp; k_mem))))
theorem tree_local {tr dT rw rr dr : Addr} {vs : List Value} {nr : Nat} {node : Int} {kd nm ur lc : Str} {q0 q1 q2 q3 q4 q5 q6 q7 q8 q9 q10 q11 q12 q13 tn : Tok} {v1 v2 v3 v4 v5 : Value}
   (hT1 : base.get? tr = some (instObj 300 dT)) (hT2 : base.get? dT = some (dictOf [⟨PyData.keyHash w.params "rows", .str "rows" q0, .ref rw⟩] 1)) (hT3 : base.get? rw = some (listOf vs.toArray nr))
   (hT4 : vs[node.toNat]? = some (.ref rr)) (hn0 : 0 ≤ node) (hn1 : node < vs.length) (hn2 : vs.length < 2 ^ 32) (hT5 : base.get? rr = some (instObj 111 dr))
   (hT6 : base.get? dr = some (dictOf [⟨PyData.keyHash w.params "kind", .str "kind" q1, .str kd q2⟩, ⟨PyData.keyHash w.params "name", .str "name" q3, .str nm q4⟩, ⟨PyData.keyHash w.params "uri", .str "uri" q5, .str ur q6⟩, ⟨PyData.keyHash w.params "local", .str "local" q7, .str lc q8⟩, ⟨PyData.keyHash w.params "value", .str "value" q9, v1⟩, ⟨PyData.keyHash w.params "parent", .str "parent" q10, v2⟩, ⟨PyData.keyHash w.params "children", .str "children" q11, v3⟩, ⟨PyData.keyHash w.params "attributes", .str "attributes" q12, v4⟩, ⟨PyData.keyHash w.params "namespaces", .str "namespaces" q13, v5⟩] 9))
   (C : Site w p loose mean mg mb A₀ base outer h₀ L m news s.heap cs dp un 4 40)
   (hret : ∀ (t : Tok) (h' : Heap) (tk' : Nat), Fr h₀ L h' m → News h₀ L h' news → Q (.str lc t) { s with heap := h', toks := tk' }) :
   wpAny (model PR w) (ktrTop dp un gd cn cs L a ccd cl outer) (call (.ref 241) [.ref tr, .int node tn]) Q E s := by
  obtain ⟨B, F, X, N, T, hk, hd, hu⟩ := C
  w_on
  w_strict (refine wpAny_call ?_; k_dflt cell_enter; k_steps; all_goals (exact hret _ _ _ (by assumption) (cb_drop (by assumption) (by intro p hp; k_mem))))
local macro_rules | `(tactic| walk_at "call ref") => `(tactic| (tbr_iter 220; k_dflt (refine' tree_kind ?a1 ?a2 ?a3 ?a4 ?a5 ?a6 ?a7 ?a8 ?a9 ?tbS ?_; (case tbS => tb_start); (case a1 | a2 | a3 | a4 | a5 | a6 | a7 | a8 | a9 => assumption)); intros; wtm_at "f"))
local macro_rules | `(tactic| walk_at "call ref") => `(tactic| (tbr_iter 227; k_dflt (refine' tree_name ?a1 ?a2 ?a3 ?a4 ?a5 ?a6 ?a7 ?a8 ?a9 ?tbS ?_; (case tbS => tb_start); (case a1 | a2 | a3 | a4 | a5 | a6 | a7 | a8 | a9 => assumption)); intros; wtm_at "f"))
local macro_rules | `(tactic| walk_at "call ref") => `(tactic| (tbr_iter 234; k_dflt (refine' tree_uri ?a1 ?a2 ?a3 ?a4 ?a5 ?a6 ?a7 ?a8 ?a9 ?tbS ?_; (case tbS => tb_start); (case a1 | a2 | a3 | a4 | a5 | a6 | a7 | a8 | a9 => assumption)); intros; wtm_at "f"))
local macro_rules | `(tactic| walk_at "call ref") => `(tactic| (tbr_iter 241; k_dflt (refine' tree_local ?a1 ?a2 ?a3 ?a4 ?a5 ?a6 ?a7 ?a8 ?a9 ?tbS ?_; (case tbS => tb_start); (case a1 | a2 | a3 | a4 | a5 | a6 | a7 | a8 | a9 => assumption)); intros; wtm_at "f"))

theorem bu_e {tx : Tok} {na : Addr}
   (C : Site w p loose mean mg mb A₀ base outer h₀ L m news s.heap cs dp un 2 20)
   (hret : ∀ (t : Tok) (h' : Heap) (tk' : Nat), Fr h₀ L h' m → News h₀ L h' news → Q (.str "" t) { s with heap := h', toks := tk' }) :
   wpAny (model PR w) (ktrTop dp un gd cn cs L a ccd cl outer) (call (.ref 79) [.str "" tx, .ref na]) Q E s := by
  obtain ⟨B, F, X, N, T, hk, hd, hu⟩ := C
  w_on
  w_strict (refine wpAny_call ?_; k_dflt cell_enter; k_steps; all_goals (exact hret _ _ _ (by assumption) (cb_drop (by assumption) (by intro p hp; k_mem))))
theorem bu_p {tx : Tok} {na : Addr} {on : Obj} {kvs : List (Str × Value)}
   (hn : (na, on) ∈ news) (hno : on.IsDictOf (strKind PR w) kvs) (hnf : PyProof.V.FlatPairs PyData.str kvs [(.str "p", .str "u:1"), (.str "q", .str "u:2")]) (hnl : (na == sysModules) = false)
   (C : Site w p loose mean mg mb A₀ base outer h₀ L m news s.heap cs dp un 2 20)
   (hret : ∀ (t : Tok) (h' : Heap) (tk' : Nat), Fr h₀ L h' m → News h₀ L h' news → Q (.str "u:1" t) { s with heap := h', toks := tk' }) :
   wpAny (model PR w) (ktrTop dp un gd cn cs L a ccd cl outer) (call (.ref 79) [.str "p" tx, .ref na]) Q E s := by
  obtain ⟨B, F, X, N, T, hk, hd, hu⟩ := C
  w_on
  w_strict (refine wpAny_call ?_; k_dflt cell_enter; k_steps; all_goals (exact hret _ _ _ (by assumption) (cb_drop (by assumption) (by intro p hp; k_mem))))
theorem bu_q {tx : Tok} {na : Addr} {on : Obj} {kvs : List (Str × Value)}
   (hn : (na, on) ∈ news) (hno : on.IsDictOf (strKind PR w) kvs) (hnf : PyProof.V.FlatPairs PyData.str kvs [(.str "p", .str "u:1"), (.str "q", .str "u:2")]) (hnl : (na == sysModules) = false)
   (C : Site w p loose mean mg mb A₀ base outer h₀ L m news s.heap cs dp un 2 20)
   (hret : ∀ (t : Tok) (h' : Heap) (tk' : Nat), Fr h₀ L h' m → News h₀ L h' news → Q (.str "u:2" t) { s with heap := h', toks := tk' }) :
   wpAny (model PR w) (ktrTop dp un gd cn cs L a ccd cl outer) (call (.ref 79) [.str "q" tx, .ref na]) Q E s := by
  obtain ⟨B, F, X, N, T, hk, hd, hu⟩ := C
  w_on
  w_strict (refine wpAny_call ?_; k_dflt cell_enter; k_steps; all_goals (exact hret _ _ _ (by assumption) (cb_drop (by assumption) (by intro p hp; k_mem))))
local macro_rules | `(tactic| walk_at "call ref") => `(tactic| (tbr_iter 79; k_dflt (refine' bu_e ?tbS ?_; (case tbS => tb_start)); intros; wtm_at "f"))
local macro_rules | `(tactic| walk_at "call ref") => `(tactic| (tbr_iter 79; k_dflt (refine' bu_p ?n1 ?n2 ?n3 ?n4 ?tbS ?_; (case tbS => tb_start); (case n1 => k_mem); (case n2 | n3 | n4 => assumption)); intros; wtm_at "f"))
local macro_rules | `(tactic| walk_at "call ref") => `(tactic| (tbr_iter 79; k_dflt (refine' bu_q ?n1 ?n2 ?n3 ?n4 ?tbS ?_; (case tbS => tb_start); (case n1 => k_mem); (case n2 | n3 | n4 => assumption)); intros; wtm_at "f"))

theorem nam_e {tr dT rw rr dr : Addr} {vs : List Value} {nr : Nat} {node : Int} {kd nm ur lc : Str} {q0 q1 q2 q3 q4 q5 q6 q7 q8 q9 q10 q11 q12 q13 tn : Tok} {v1 v2 v3 v4 v5 : Value} {na : Addr} {ts : Addr} {nn : Str} {k0 k1 k2 : Tok} {n2 : Nat}
   (hT1 : base.get? tr = some (instObj 300 dT)) (hT2 : base.get? dT = some (dictOf [⟨PyData.keyHash w.params "rows", .str "rows" q0, .ref rw⟩] 1)) (hT3 : base.get? rw = some (listOf vs.toArray nr))
   (hT4 : vs[node.toNat]? = some (.ref rr)) (hn0 : 0 ≤ node) (hn1 : node < vs.length) (hn2 : vs.length < 2 ^ 32) (hT5 : base.get? rr = some (instObj 111 dr))
   (hT6 : base.get? dr = some (dictOf [⟨PyData.keyHash w.params "kind", .str "kind" q1, .str kd q2⟩, ⟨PyData.keyHash w.params "name", .str "name" q3, .str nm q4⟩, ⟨PyData.keyHash w.params "uri", .str "uri" q5, .str ur q6⟩, ⟨PyData.keyHash w.params "local", .str "local" q7, .str lc q8⟩, ⟨PyData.keyHash w.params "value", .str "value" q9, v1⟩, ⟨PyData.keyHash w.params "parent", .str "parent" q10, v2⟩, ⟨PyData.keyHash w.params "children", .str "children" q11, v3⟩, ⟨PyData.keyHash w.params "attributes", .str "attributes" q12, v4⟩, ⟨PyData.keyHash w.params "namespaces", .str "namespaces" q13, v5⟩] 9))
   (ht : (ts, ({ cls := .type "tuple", data := .seq #[.str "name" k0, .str "" k1, .str nn k2] n2 } : Obj)) ∈ news)
   (C : Site w p loose mean mg mb A₀ base outer h₀ L m news s.heap cs dp un 6 60)
   (hret : ∀ (h' : Heap) (tk' : Nat), Fr h₀ L h' m → News h₀ L h' news → Q (.bool (isNamedF kd ur lc nm "" nn)) { s with heap := h', toks := tk' }) :
   wpAny (model PR w) (ktrTop dp un gd cn cs L a ccd cl outer) (call (.ref 86) [.ref tr, .int node tn, .ref ts, .ref na]) Q E s := by
  obtain ⟨B, F, X, N, T, hk, hd, hu⟩ := C
  w_on
  w_strict (refine wpAny_call ?_; k_dflt cell_enter; k_steps; all_goals (refine cb_retB (Q := Q) (fun _ h9 tk9 => hret h9 tk9) ?_ (by assumption) (cb_drop (by assumption) (by intro p hp; k_mem)); (try dsimp only); first | done | rfl | exact nE1 (by assumption) rfl | exact nE1' (by assumption) (by decide) (by first | rfl | decide) | exact nE2 (by assumption) (by assumption) (by assumption) (by decide) | exact nE3 (by assumption) (by assumption) (by assumption) | exact isn3 (by assumption) (by assumption)))
theorem nam_p {tr dT rw rr dr : Addr} {vs : List Value} {nr : Nat} {node : Int} {kd nm ur lc : Str} {q0 q1 q2 q3 q4 q5 q6 q7 q8 q9 q10 q11 q12 q13 tn : Tok} {v1 v2 v3 v4 v5 : Value} {na : Addr} {on : Obj} {kvs : List (Str × Value)} {ts : Addr} {nn : Str} {k0 k1 k2 : Tok} {n2 : Nat}
   (hT1 : base.get? tr = some (instObj 300 dT)) (hT2 : base.get? dT = some (dictOf [⟨PyData.keyHash w.params "rows", .str "rows" q0, .ref rw⟩] 1)) (hT3 : base.get? rw = some (listOf vs.toArray nr))
   (hT4 : vs[node.toNat]? = some (.ref rr)) (hn0 : 0 ≤ node) (hn1 : node < vs.length) (hn2 : vs.length < 2 ^ 32) (hT5 : base.get? rr = some (instObj 111 dr))
   (hT6 : base.get? dr = some (dictOf [⟨PyData.keyHash w.params "kind", .str "kind" q1, .str kd q2⟩, ⟨PyData.keyHash w.params "name", .str "name" q3, .str nm q4⟩, ⟨PyData.keyHash w.params "uri", .str "uri" q5, .str ur q6⟩, ⟨PyData.keyHash w.params "local", .str "local" q7, .str lc q8⟩, ⟨PyData.keyHash w.params "value", .str "value" q9, v1⟩, ⟨PyData.keyHash w.params "parent", .str "parent" q10, v2⟩, ⟨PyData.keyHash w.params "children", .str "children" q11, v3⟩, ⟨PyData.keyHash w.params "attributes", .str "attributes" q12, v4⟩, ⟨PyData.keyHash w.params "namespaces", .str "namespaces" q13, v5⟩] 9))
   (hn : (na, on) ∈ news) (hno : on.IsDictOf (strKind PR w) kvs) (hnf : PyProof.V.FlatPairs PyData.str kvs [(.str "p", .str "u:1"), (.str "q", .str "u:2")]) (hnl : (na == sysModules) = false)
   (ht : (ts, ({ cls := .type "tuple", data := .seq #[.str "name" k0, .str "p" k1, .str nn k2] n2 } : Obj)) ∈ news)
   (C : Site w p loose mean mg mb A₀ base outer h₀ L m news s.heap cs dp un 6 60)
   (hret : ∀ (h' : Heap) (tk' : Nat), Fr h₀ L h' m → News h₀ L h' news → Q (.bool (isNamedF kd ur lc nm "p" nn)) { s with heap := h', toks := tk' }) :
   wpAny (model PR w) (ktrTop dp un gd cn cs L a ccd cl outer) (call (.ref 86) [.ref tr, .int node tn, .ref ts, .ref na]) Q E s := by
  obtain ⟨B, F, X, N, T, hk, hd, hu⟩ := C
  w_on
  w_strict (refine wpAny_call ?_; k_dflt cell_enter; k_steps; all_goals (refine cb_retB (Q := Q) (fun _ h9 tk9 => hret h9 tk9) ?_ (by assumption) (cb_drop (by assumption) (by intro p hp; k_mem)); (try dsimp only); first | done | rfl | exact nE1 (by assumption) rfl | exact nE1' (by assumption) (by decide) (by first | rfl | decide) | exact nE2 (by assumption) (by assumption) (by assumption) (by decide) | exact nE3 (by assumption) (by assumption) (by assumption) | exact isn3 (by assumption) (by assumption)))
theorem nam_q {tr dT rw rr dr : Addr} {vs : List Value} {nr : Nat} {node : Int} {kd nm ur lc : Str} {q0 q1 q2 q3 q4 q5 q6 q7 q8 q9 q10 q11 q12 q13 tn : Tok} {v1 v2 v3 v4 v5 : Value} {na : Addr} {on : Obj} {kvs : List (Str × Value)} {ts : Addr} {nn : Str} {k0 k1 k2 : Tok} {n2 : Nat}
   (hT1 : base.get? tr = some (instObj 300 dT)) (hT2 : base.get? dT = some (dictOf [⟨PyData.keyHash w.params "rows", .str "rows" q0, .ref rw⟩] 1)) (hT3 : base.get? rw = some (listOf vs.toArray nr))
   (hT4 : vs[node.toNat]? = some (.ref rr)) (hn0 : 0 ≤ node) (hn1 : node < vs.length) (hn2 : vs.length < 2 ^ 32) (hT5 : base.get? rr = some (instObj 111 dr))
   (hT6 : base.get? dr = some (dictOf [⟨PyData.keyHash w.params "kind", .str "kind" q1, .str kd q2⟩, ⟨PyData.keyHash w.params "name", .str "name" q3, .str nm q4⟩, ⟨PyData.keyHash w.params "uri", .str "uri" q5, .str ur q6⟩, ⟨PyData.keyHash w.params "local", .str "local" q7, .str lc q8⟩, ⟨PyData.keyHash w.params "value", .str "value" q9, v1⟩, ⟨PyData.keyHash w.params "parent", .str "parent" q10, v2⟩, ⟨PyData.keyHash w.params "children", .str "children" q11, v3⟩, ⟨PyData.keyHash w.params "attributes", .str "attributes" q12, v4⟩, ⟨PyData.keyHash w.params "namespaces", .str "namespaces" q13, v5⟩] 9))
   (hn : (na, on) ∈ news) (hno : on.IsDictOf (strKind PR w) kvs) (hnf : PyProof.V.FlatPairs PyData.str kvs [(.str "p", .str "u:1"), (.str "q", .str "u:2")]) (hnl : (na == sysModules) = false)
   (ht : (ts, ({ cls := .type "tuple", data := .seq #[.str "name" k0, .str "q" k1, .str nn k2] n2 } : Obj)) ∈ news)
   (C : Site w p loose mean mg mb A₀ base outer h₀ L m news s.heap cs dp un 6 60)
   (hret : ∀ (h' : Heap) (tk' : Nat), Fr h₀ L h' m → News h₀ L h' news → Q (.bool (isNamedF kd ur lc nm "q" nn)) { s with heap := h', toks := tk' }) :
   wpAny (model PR w) (ktrTop dp un gd cn cs L a ccd cl outer) (call (.ref 86) [.ref tr, .int node tn, .ref ts, .ref na]) Q E s := by
  obtain ⟨B, F, X, N, T, hk, hd, hu⟩ := C
  w_on
  w_strict (refine wpAny_call ?_; k_dflt cell_enter; k_steps; all_goals (refine cb_retB (Q := Q) (fun _ h9 tk9 => hret h9 tk9) ?_ (by assumption) (cb_drop (by assumption) (by intro p hp; k_mem)); (try dsimp only); first | done | rfl | exact nE1 (by assumption) rfl | exact nE1' (by assumption) (by decide) (by first | rfl | decide) | exact nE2 (by assumption) (by assumption) (by assumption) (by decide) | exact nE3 (by assumption) (by assumption) (by assumption) | exact isn3 (by assumption) (by assumption)))

theorem pk_c {ax : Str} {tx : Tok} (C : Site w p loose mean mg mb A₀ base outer h₀ L m news s.heap cs dp un 2 20)
   (hret : ∀ (t : Tok) (h' : Heap) (tk' : Nat), Fr h₀ L h' m → News h₀ L h' news → Q (.str (wantF ax) t) { s with heap := h', toks := tk' }) :
   wpAny (model PR w) (ktrTop dp un gd cn cs L a ccd cl outer) (call (.ref 72) [.str ax tx]) Q E s := by
  obtain ⟨B, F, X, N, T, hk, hd, hu⟩ := C
  w_on
  w_strict (refine wpAny_call ?_; k_dflt cell_enter; k_steps; all_goals (refine cb_retS (Q := Q) hret ?_ (by assumption) (cb_drop (by assumption) (by intro p hp; k_mem)); first | exact (want_t (by assumption)).symm | exact (want_f (by assumption)).symm))
local macro_rules | `(tactic| walk_at "call ref") => `(tactic| (tbr_iter 72; k_dflt (refine' pk_c ?tbS ?_; (case tbS => tb_start)); intros; wtm_at "f"))

local macro_rules | `(tactic| walk_at "call ref") => `(tactic| (tbr_iter 86; k_dflt (refine' nam_e ?a1 ?a2 ?a3 ?a4 ?a5 ?a6 ?a7 ?a8 ?a9 ?ht ?tbS ?_; (case tbS => tb_start); (case ht => k_mem); (case a1 | a2 | a3 | a4 | a5 | a6 | a7 | a8 | a9 => assumption)); intros; wtm_at "f"))
local macro_rules | `(tactic| walk_at "call ref") => `(tactic| (tbr_iter 86; k_dflt (refine' nam_p ?a1 ?a2 ?a3 ?a4 ?a5 ?a6 ?a7 ?a8 ?a9 ?n1 ?n2 ?n3 ?n4 ?ht ?tbS ?_; (case tbS => tb_start); (case ht => k_mem); (case a1 | a2 | a3 | a4 | a5 | a6 | a7 | a8 | a9 => assumption); (case n1 => k_mem); (case n2 | n3 | n4 => assumption)); intros; wtm_at "f"))
local macro_rules | `(tactic| walk_at "call ref") => `(tactic| (tbr_iter 86; k_dflt (refine' nam_q ?a1 ?a2 ?a3 ?a4 ?a5 ?a6 ?a7 ?a8 ?a9 ?n1 ?n2 ?n3 ?n4 ?ht ?tbS ?_; (case tbS => tb_start); (case ht => k_mem); (case a1 | a2 | a3 | a4 | a5 | a6 | a7 | a8 | a9 => assumption); (case n1 => k_mem); (case n2 | n3 | n4 => assumption)); intros; wtm_at "f"))

theorem pas_name_e {tr dT rw rr dr : Addr} {vs : List Value} {nr : Nat} {node : Int} {kd nm ur lc : Str} {q0 q1 q2 q3 q4 q5 q6 q7 q8 q9 q10 q11 q12 q13 tn : Tok} {v1 v2 v3 v4 v5 : Value} {na : Addr} {on : Obj} {kvs : List (Str × Value)} {ts : Addr} {ax nn : Str} {tx k0 k1 k2 : Tok} {n2 : Nat}
   (hT1 : base.get? tr = some (instObj 300 dT)) (hT2 : base.get? dT = some (dictOf [⟨PyData.keyHash w.params "rows", .str "rows" q0, .ref rw⟩] 1)) (hT3 : base.get? rw = some (listOf vs.toArray nr))
   (hT4 : vs[node.toNat]? = some (.ref rr)) (hn0 : 0 ≤ node) (hn1 : node < vs.length) (hn2 : vs.length < 2 ^ 32) (hT5 : base.get? rr = some (instObj 111 dr))
   (hT6 : base.get? dr = some (dictOf [⟨PyData.keyHash w.params "kind", .str "kind" q1, .str kd q2⟩, ⟨PyData.keyHash w.params "name", .str "name" q3, .str nm q4⟩, ⟨PyData.keyHash w.params "uri", .str "uri" q5, .str ur q6⟩, ⟨PyData.keyHash w.params "local", .str "local" q7, .str lc q8⟩, ⟨PyData.keyHash w.params "value", .str "value" q9, v1⟩, ⟨PyData.keyHash w.params "parent", .str "parent" q10, v2⟩, ⟨PyData.keyHash w.params "children", .str "children" q11, v3⟩, ⟨PyData.keyHash w.params "attributes", .str "attributes" q12, v4⟩, ⟨PyData.keyHash w.params "namespaces", .str "namespaces" q13, v5⟩] 9))
   (hn : (na, on) ∈ news) (hno : on.IsDictOf (strKind PR w) kvs) (hnf : PyProof.V.FlatPairs PyData.str kvs [(.str "p", .str "u:1"), (.str "q", .str "u:2")]) (hnl : (na == sysModules) = false)
   (ht : (ts, ({ cls := .type "tuple", data := .seq #[.str "name" k0, .str "" k1, .str nn k2] n2 } : Obj)) ∈ news)
   (C : Site w p loose mean mg mb A₀ base outer h₀ L m news s.heap cs dp un 7 80)
   (hret : ∀ (h' : Heap) (tk' : Nat), Fr h₀ L h' m → News h₀ L h' news → Q (.bool ((kd == wantF ax) && isNamedF kd ur lc nm "" nn)) { s with heap := h', toks := tk' }) :
   wpAny (model PR w) (ktrTop dp un gd cn cs L a ccd cl outer) (call (.ref 93) [.ref tr, .int node tn, .str ax tx, .ref ts, .ref na]) Q E s := by
  obtain ⟨B, F, X, N, T, hk, hd, hu⟩ := C
  w_on
  w_strict (refine wpAny_call ?_; k_dflt cell_enter; k_steps; all_goals (refine cb_retB (Q := Q) (fun _ h9 tk9 => hret h9 tk9) ?_ (by assumption) (cb_drop (by assumption) (by intro p hp; k_mem)); (try dsimp only); first | done | rfl | exact pE1 (by assumption) | exact pE2 (by assumption) | exact zTt (by assumption) | exact zT (by assumption) | exact zO1 (by assumption) (by assumption) (by decide) | exact zO2 (by assumption) (by assumption) | exact zF (by assumption) | exact zF3 (by assumption)))
theorem pas_name_p {tr dT rw rr dr : Addr} {vs : List Value} {nr : Nat} {node : Int} {kd nm ur lc : Str} {q0 q1 q2 q3 q4 q5 q6 q7 q8 q9 q10 q11 q12 q13 tn : Tok} {v1 v2 v3 v4 v5 : Value} {na : Addr} {on : Obj} {kvs : List (Str × Value)} {ts : Addr} {ax nn : Str} {tx k0 k1 k2 : Tok} {n2 : Nat}
   (hT1 : base.get? tr = some (instObj 300 dT)) (hT2 : base.get? dT = some (dictOf [⟨PyData.keyHash w.params "rows", .str "rows" q0, .ref rw⟩] 1)) (hT3 : base.get? rw = some (listOf vs.toArray nr))
   (hT4 : vs[node.toNat]? = some (.ref rr)) (hn0 : 0 ≤ node) (hn1 : node < vs.length) (hn2 : vs.length < 2 ^ 32) (hT5 : base.get? rr = some (instObj 111 dr))
   (hT6 : base.get? dr = some (dictOf [⟨PyData.keyHash w.params "kind", .str "kind" q1, .str kd q2⟩, ⟨PyData.keyHash w.params "name", .str "name" q3, .str nm q4⟩, ⟨PyData.keyHash w.params "uri", .str "uri" q5, .str ur q6⟩, ⟨PyData.keyHash w.params "local", .str "local" q7, .str lc q8⟩, ⟨PyData.keyHash w.params "value", .str "value" q9, v1⟩, ⟨PyData.keyHash w.params "parent", .str "parent" q10, v2⟩, ⟨PyData.keyHash w.params "children", .str "children" q11, v3⟩, ⟨PyData.keyHash w.params "attributes", .str "attributes" q12, v4⟩, ⟨PyData.keyHash w.params "namespaces", .str "namespaces" q13, v5⟩] 9))
   (hn : (na, on) ∈ news) (hno : on.IsDictOf (strKind PR w) kvs) (hnf : PyProof.V.FlatPairs PyData.str kvs [(.str "p", .str "u:1"), (.str "q", .str "u:2")]) (hnl : (na == sysModules) = false)
   (ht : (ts, ({ cls := .type "tuple", data := .seq #[.str "name" k0, .str "p" k1, .str nn k2] n2 } : Obj)) ∈ news)
   (C : Site w p loose mean mg mb A₀ base outer h₀ L m news s.heap cs dp un 7 80)
   (hret : ∀ (h' : Heap) (tk' : Nat), Fr h₀ L h' m → News h₀ L h' news → Q (.bool ((kd == wantF ax) && isNamedF kd ur lc nm "p" nn)) { s with heap := h', toks := tk' }) :
   wpAny (model PR w) (ktrTop dp un gd cn cs L a ccd cl outer) (call (.ref 93) [.ref tr, .int node tn, .str ax tx, .ref ts, .ref na]) Q E s := by
  obtain ⟨B, F, X, N, T, hk, hd, hu⟩ := C
  w_on
  w_strict (refine wpAny_call ?_; k_dflt cell_enter; k_steps; all_goals (refine cb_retB (Q := Q) (fun _ h9 tk9 => hret h9 tk9) ?_ (by assumption) (cb_drop (by assumption) (by intro p hp; k_mem)); (try dsimp only); first | done | rfl | exact pE1 (by assumption) | exact pE2 (by assumption) | exact zTt (by assumption) | exact zT (by assumption) | exact zO1 (by assumption) (by assumption) (by decide) | exact zO2 (by assumption) (by assumption) | exact zF (by assumption) | exact zF3 (by assumption)))
theorem pas_name_q {tr dT rw rr dr : Addr} {vs : List Value} {nr : Nat} {node : Int} {kd nm ur lc : Str} {q0 q1 q2 q3 q4 q5 q6 q7 q8 q9 q10 q11 q12 q13 tn : Tok} {v1 v2 v3 v4 v5 : Value} {na : Addr} {on : Obj} {kvs : List (Str × Value)} {ts : Addr} {ax nn : Str} {tx k0 k1 k2 : Tok} {n2 : Nat}
   (hT1 : base.get? tr = some (instObj 300 dT)) (hT2 : base.get? dT = some (dictOf [⟨PyData.keyHash w.params "rows", .str "rows" q0, .ref rw⟩] 1)) (hT3 : base.get? rw = some (listOf vs.toArray nr))
   (hT4 : vs[node.toNat]? = some (.ref rr)) (hn0 : 0 ≤ node) (hn1 : node < vs.length) (hn2 : vs.length < 2 ^ 32) (hT5 : base.get? rr = some (instObj 111 dr))
   (hT6 : base.get? dr = some (dictOf [⟨PyData.keyHash w.params "kind", .str "kind" q1, .str kd q2⟩, ⟨PyData.keyHash w.params "name", .str "name" q3, .str nm q4⟩, ⟨PyData.keyHash w.params "uri", .str "uri" q5, .str ur q6⟩, ⟨PyData.keyHash w.params "local", .str "local" q7, .str lc q8⟩, ⟨PyData.keyHash w.params "value", .str "value" q9, v1⟩, ⟨PyData.keyHash w.params "parent", .str "parent" q10, v2⟩, ⟨PyData.keyHash w.params "children", .str "children" q11, v3⟩, ⟨PyData.keyHash w.params "attributes", .str "attributes" q12, v4⟩, ⟨PyData.keyHash w.params "namespaces", .str "namespaces" q13, v5⟩] 9))
   (hn : (na, on) ∈ news) (hno : on.IsDictOf (strKind PR w) kvs) (hnf : PyProof.V.FlatPairs PyData.str kvs [(.str "p", .str "u:1"), (.str "q", .str "u:2")]) (hnl : (na == sysModules) = false)
   (ht : (ts, ({ cls := .type "tuple", data := .seq #[.str "name" k0, .str "q" k1, .str nn k2] n2 } : Obj)) ∈ news)
   (C : Site w p loose mean mg mb A₀ base outer h₀ L m news s.heap cs dp un 7 80)
   (hret : ∀ (h' : Heap) (tk' : Nat), Fr h₀ L h' m → News h₀ L h' news → Q (.bool ((kd == wantF ax) && isNamedF kd ur lc nm "q" nn)) { s with heap := h', toks := tk' }) :
   wpAny (model PR w) (ktrTop dp un gd cn cs L a ccd cl outer) (call (.ref 93) [.ref tr, .int node tn, .str ax tx, .ref ts, .ref na]) Q E s := by
  obtain ⟨B, F, X, N, T, hk, hd, hu⟩ := C
  w_on
  w_strict (refine wpAny_call ?_; k_dflt cell_enter; k_steps; all_goals (refine cb_retB (Q := Q) (fun _ h9 tk9 => hret h9 tk9) ?_ (by assumption) (cb_drop (by assumption) (by intro p hp; k_mem)); (try dsimp only); first | done | rfl | exact pE1 (by assumption) | exact pE2 (by assumption) | exact zTt (by assumption) | exact zT (by assumption) | exact zO1 (by assumption) (by assumption) (by decide) | exact zO2 (by assumption) (by assumption) | exact zF (by assumption) | exact zF3 (by assumption)))
theorem pas_of_p {tr dT rw rr dr : Addr} {vs : List Value} {nr : Nat} {node : Int} {kd nm ur lc : Str} {q0 q1 q2 q3 q4 q5 q6 q7 q8 q9 q10 q11 q12 q13 tn : Tok} {v1 v2 v3 v4 v5 : Value} {na : Addr} {on : Obj} {kvs : List (Str × Value)} {ts : Addr} {ax nn : Str} {tx k0 k1 k2 : Tok} {n2 : Nat}
   (hT1 : base.get? tr = some (instObj 300 dT)) (hT2 : base.get? dT = some (dictOf [⟨PyData.keyHash w.params "rows", .str "rows" q0, .ref rw⟩] 1)) (hT3 : base.get? rw = some (listOf vs.toArray nr))
   (hT4 : vs[node.toNat]? = some (.ref rr)) (hn0 : 0 ≤ node) (hn1 : node < vs.length) (hn2 : vs.length < 2 ^ 32) (hT5 : base.get? rr = some (instObj 111 dr))
   (hT6 : base.get? dr = some (dictOf [⟨PyData.keyHash w.params "kind", .str "kind" q1, .str kd q2⟩, ⟨PyData.keyHash w.params "name", .str "name" q3, .str nm q4⟩, ⟨PyData.keyHash w.params "uri", .str "uri" q5, .str ur q6⟩, ⟨PyData.keyHash w.params "local", .str "local" q7, .str lc q8⟩, ⟨PyData.keyHash w.params "value", .str "value" q9, v1⟩, ⟨PyData.keyHash w.params "parent", .str "parent" q10, v2⟩, ⟨PyData.keyHash w.params "children", .str "children" q11, v3⟩, ⟨PyData.keyHash w.params "attributes", .str "attributes" q12, v4⟩, ⟨PyData.keyHash w.params "namespaces", .str "namespaces" q13, v5⟩] 9))
   (hn : (na, on) ∈ news) (hno : on.IsDictOf (strKind PR w) kvs) (hnf : PyProof.V.FlatPairs PyData.str kvs [(.str "p", .str "u:1"), (.str "q", .str "u:2")]) (hnl : (na == sysModules) = false)
   (ht : (ts, ({ cls := .type "tuple", data := .seq #[.str "any of" k0, .str "p" k1] n2 } : Obj)) ∈ news)
   (C : Site w p loose mean mg mb A₀ base outer h₀ L m news s.heap cs dp un 7 80)
   (hret : ∀ (h' : Heap) (tk' : Nat), Fr h₀ L h' m → News h₀ L h' news → Q (.bool ((kd == wantF ax) && (kd != "namespace") && (ur == uriF "p"))) { s with heap := h', toks := tk' }) :
   wpAny (model PR w) (ktrTop dp un gd cn cs L a ccd cl outer) (call (.ref 93) [.ref tr, .int node tn, .str ax tx, .ref ts, .ref na]) Q E s := by
  obtain ⟨B, F, X, N, T, hk, hd, hu⟩ := C
  w_on
  w_strict (refine wpAny_call ?_; k_dflt cell_enter; k_steps; all_goals (refine cb_retB (Q := Q) (fun _ h9 tk9 => hret h9 tk9) ?_ (by assumption) (cb_drop (by assumption) (by intro p hp; k_mem)); (try dsimp only); first | done | rfl | exact pE1 (by assumption) | exact pE2 (by assumption) | exact zTt (by assumption) | exact zT (by assumption) | exact zO1 (by assumption) (by assumption) (by decide) | exact zO2 (by assumption) (by assumption) | exact zF (by assumption) | exact zF3 (by assumption)))
theorem pas_of_q {tr dT rw rr dr : Addr} {vs : List Value} {nr : Nat} {node : Int} {kd nm ur lc : Str} {q0 q1 q2 q3 q4 q5 q6 q7 q8 q9 q10 q11 q12 q13 tn : Tok} {v1 v2 v3 v4 v5 : Value} {na : Addr} {on : Obj} {kvs : List (Str × Value)} {ts : Addr} {ax nn : Str} {tx k0 k1 k2 : Tok} {n2 : Nat}
   (hT1 : base.get? tr = some (instObj 300 dT)) (hT2 : base.get? dT = some (dictOf [⟨PyData.keyHash w.params "rows", .str "rows" q0, .ref rw⟩] 1)) (hT3 : base.get? rw = some (listOf vs.toArray nr))
   (hT4 : vs[node.toNat]? = some (.ref rr)) (hn0 : 0 ≤ node) (hn1 : node < vs.length) (hn2 : vs.length < 2 ^ 32) (hT5 : base.get? rr = some (instObj 111 dr))
   (hT6 : base.get? dr = some (dictOf [⟨PyData.keyHash w.params "kind", .str "kind" q1, .str kd q2⟩, ⟨PyData.keyHash w.params "name", .str "name" q3, .str nm q4⟩, ⟨PyData.keyHash w.params "uri", .str "uri" q5, .str ur q6⟩, ⟨PyData.keyHash w.params "local", .str "local" q7, .str lc q8⟩, ⟨PyData.keyHash w.params "value", .str "value" q9, v1⟩, ⟨PyData.keyHash w.params "parent", .str "parent" q10, v2⟩, ⟨PyData.keyHash w.params "children", .str "children" q11, v3⟩, ⟨PyData.keyHash w.params "attributes", .str "attributes" q12, v4⟩, ⟨PyData.keyHash w.params "namespaces", .str "namespaces" q13, v5⟩] 9))
   (hn : (na, on) ∈ news) (hno : on.IsDictOf (strKind PR w) kvs) (hnf : PyProof.V.FlatPairs PyData.str kvs [(.str "p", .str "u:1"), (.str "q", .str "u:2")]) (hnl : (na == sysModules) = false)
   (ht : (ts, ({ cls := .type "tuple", data := .seq #[.str "any of" k0, .str "q" k1] n2 } : Obj)) ∈ news)
   (C : Site w p loose mean mg mb A₀ base outer h₀ L m news s.heap cs dp un 7 80)
   (hret : ∀ (h' : Heap) (tk' : Nat), Fr h₀ L h' m → News h₀ L h' news → Q (.bool ((kd == wantF ax) && (kd != "namespace") && (ur == uriF "q"))) { s with heap := h', toks := tk' }) :
   wpAny (model PR w) (ktrTop dp un gd cn cs L a ccd cl outer) (call (.ref 93) [.ref tr, .int node tn, .str ax tx, .ref ts, .ref na]) Q E s := by
  obtain ⟨B, F, X, N, T, hk, hd, hu⟩ := C
  w_on
  w_strict (refine wpAny_call ?_; k_dflt cell_enter; k_steps; all_goals (refine cb_retB (Q := Q) (fun _ h9 tk9 => hret h9 tk9) ?_ (by assumption) (cb_drop (by assumption) (by intro p hp; k_mem)); (try dsimp only); first | done | rfl | exact pE1 (by assumption) | exact pE2 (by assumption) | exact zTt (by assumption) | exact zT (by assumption) | exact zO1 (by assumption) (by assumption) (by decide) | exact zO2 (by assumption) (by assumption) | exact zF (by assumption) | exact zF3 (by assumption)))
theorem pas_ins_n {tr dT rw rr dr : Addr} {vs : List Value} {nr : Nat} {node : Int} {kd nm ur lc : Str} {q0 q1 q2 q3 q4 q5 q6 q7 q8 q9 q10 q11 q12 q13 tn : Tok} {v1 v2 v3 v4 v5 : Value} {na : Addr} {on : Obj} {kvs : List (Str × Value)} {ts : Addr} {ax nn : Str} {tx k0 k1 k2 : Tok} {n2 : Nat}
   (hT1 : base.get? tr = some (instObj 300 dT)) (hT2 : base.get? dT = some (dictOf [⟨PyData.keyHash w.params "rows", .str "rows" q0, .ref rw⟩] 1)) (hT3 : base.get? rw = some (listOf vs.toArray nr))
   (hT4 : vs[node.toNat]? = some (.ref rr)) (hn0 : 0 ≤ node) (hn1 : node < vs.length) (hn2 : vs.length < 2 ^ 32) (hT5 : base.get? rr = some (instObj 111 dr))
   (hT6 : base.get? dr = some (dictOf [⟨PyData.keyHash w.params "kind", .str "kind" q1, .str kd q2⟩, ⟨PyData.keyHash w.params "name", .str "name" q3, .str nm q4⟩, ⟨PyData.keyHash w.params "uri", .str "uri" q5, .str ur q6⟩, ⟨PyData.keyHash w.params "local", .str "local" q7, .str lc q8⟩, ⟨PyData.keyHash w.params "value", .str "value" q9, v1⟩, ⟨PyData.keyHash w.params "parent", .str "parent" q10, v2⟩, ⟨PyData.keyHash w.params "children", .str "children" q11, v3⟩, ⟨PyData.keyHash w.params "attributes", .str "attributes" q12, v4⟩, ⟨PyData.keyHash w.params "namespaces", .str "namespaces" q13, v5⟩] 9))
   (hn : (na, on) ∈ news) (hno : on.IsDictOf (strKind PR w) kvs) (hnf : PyProof.V.FlatPairs PyData.str kvs [(.str "p", .str "u:1"), (.str "q", .str "u:2")]) (hnl : (na == sysModules) = false)
   (ht : (ts, ({ cls := .type "tuple", data := .seq #[.str "instruction" k0, .none] n2 } : Obj)) ∈ news)
   (C : Site w p loose mean mg mb A₀ base outer h₀ L m news s.heap cs dp un 7 80)
   (hret : ∀ (h' : Heap) (tk' : Nat), Fr h₀ L h' m → News h₀ L h' news → Q (.bool (kd == "instruction")) { s with heap := h', toks := tk' }) :
   wpAny (model PR w) (ktrTop dp un gd cn cs L a ccd cl outer) (call (.ref 93) [.ref tr, .int node tn, .str ax tx, .ref ts, .ref na]) Q E s := by
  obtain ⟨B, F, X, N, T, hk, hd, hu⟩ := C
  w_on
  w_strict (refine wpAny_call ?_; k_dflt cell_enter; k_steps; all_goals (refine cb_retB (Q := Q) (fun _ h9 tk9 => hret h9 tk9) ?_ (by assumption) (cb_drop (by assumption) (by intro p hp; k_mem)); (try dsimp only); first | done | rfl | exact pE1 (by assumption) | exact pE2 (by assumption) | exact zTt (by assumption) | exact zT (by assumption) | exact zO1 (by assumption) (by assumption) (by decide) | exact zO2 (by assumption) (by assumption) | exact zF (by assumption) | exact zF3 (by assumption)))
theorem pas_ins_s {tr dT rw rr dr : Addr} {vs : List Value} {nr : Nat} {node : Int} {kd nm ur lc : Str} {q0 q1 q2 q3 q4 q5 q6 q7 q8 q9 q10 q11 q12 q13 tn : Tok} {v1 v2 v3 v4 v5 : Value} {na : Addr} {on : Obj} {kvs : List (Str × Value)} {ts : Addr} {ax nn : Str} {tx k0 k1 k2 : Tok} {n2 : Nat}
   (hT1 : base.get? tr = some (instObj 300 dT)) (hT2 : base.get? dT = some (dictOf [⟨PyData.keyHash w.params "rows", .str "rows" q0, .ref rw⟩] 1)) (hT3 : base.get? rw = some (listOf vs.toArray nr))
   (hT4 : vs[node.toNat]? = some (.ref rr)) (hn0 : 0 ≤ node) (hn1 : node < vs.length) (hn2 : vs.length < 2 ^ 32) (hT5 : base.get? rr = some (instObj 111 dr))
   (hT6 : base.get? dr = some (dictOf [⟨PyData.keyHash w.params "kind", .str "kind" q1, .str kd q2⟩, ⟨PyData.keyHash w.params "name", .str "name" q3, .str nm q4⟩, ⟨PyData.keyHash w.params "uri", .str "uri" q5, .str ur q6⟩, ⟨PyData.keyHash w.params "local", .str "local" q7, .str lc q8⟩, ⟨PyData.keyHash w.params "value", .str "value" q9, v1⟩, ⟨PyData.keyHash w.params "parent", .str "parent" q10, v2⟩, ⟨PyData.keyHash w.params "children", .str "children" q11, v3⟩, ⟨PyData.keyHash w.params "attributes", .str "attributes" q12, v4⟩, ⟨PyData.keyHash w.params "namespaces", .str "namespaces" q13, v5⟩] 9))
   (hn : (na, on) ∈ news) (hno : on.IsDictOf (strKind PR w) kvs) (hnf : PyProof.V.FlatPairs PyData.str kvs [(.str "p", .str "u:1"), (.str "q", .str "u:2")]) (hnl : (na == sysModules) = false)
   (ht : (ts, ({ cls := .type "tuple", data := .seq #[.str "instruction" k0, .str nn k1] n2 } : Obj)) ∈ news)
   (C : Site w p loose mean mg mb A₀ base outer h₀ L m news s.heap cs dp un 7 80)
   (hret : ∀ (h' : Heap) (tk' : Nat), Fr h₀ L h' m → News h₀ L h' news → Q (.bool ((kd == "instruction") && (nm == nn))) { s with heap := h', toks := tk' }) :
   wpAny (model PR w) (ktrTop dp un gd cn cs L a ccd cl outer) (call (.ref 93) [.ref tr, .int node tn, .str ax tx, .ref ts, .ref na]) Q E s := by
  obtain ⟨B, F, X, N, T, hk, hd, hu⟩ := C
  w_on
  w_strict (refine wpAny_call ?_; k_dflt cell_enter; k_steps; all_goals (refine cb_retB (Q := Q) (fun _ h9 tk9 => hret h9 tk9) ?_ (by assumption) (cb_drop (by assumption) (by intro p hp; k_mem)); (try dsimp only); first | done | rfl | exact pE1 (by assumption) | exact pE2 (by assumption) | exact zTt (by assumption) | exact zT (by assumption) | exact zO1 (by assumption) (by assumption) (by decide) | exact zO2 (by assumption) (by assumption) | exact zF (by assumption) | exact zF3 (by assumption)))
theorem pas_any {tr dT rw rr dr : Addr} {vs : List Value} {nr : Nat} {node : Int} {kd nm ur lc : Str} {q0 q1 q2 q3 q4 q5 q6 q7 q8 q9 q10 q11 q12 q13 tn : Tok} {v1 v2 v3 v4 v5 : Value} {na : Addr} {on : Obj} {kvs : List (Str × Value)} {ts : Addr} {ax nn : Str} {tx k0 k1 k2 : Tok} {n2 : Nat}
   (hT1 : base.get? tr = some (instObj 300 dT)) (hT2 : base.get? dT = some (dictOf [⟨PyData.keyHash w.params "rows", .str "rows" q0, .ref rw⟩] 1)) (hT3 : base.get? rw = some (listOf vs.toArray nr))
   (hT4 : vs[node.toNat]? = some (.ref rr)) (hn0 : 0 ≤ node) (hn1 : node < vs.length) (hn2 : vs.length < 2 ^ 32) (hT5 : base.get? rr = some (instObj 111 dr))
   (hT6 : base.get? dr = some (dictOf [⟨PyData.keyHash w.params "kind", .str "kind" q1, .str kd q2⟩, ⟨PyData.keyHash w.params "name", .str "name" q3, .str nm q4⟩, ⟨PyData.keyHash w.params "uri", .str "uri" q5, .str ur q6⟩, ⟨PyData.keyHash w.params "local", .str "local" q7, .str lc q8⟩, ⟨PyData.keyHash w.params "value", .str "value" q9, v1⟩, ⟨PyData.keyHash w.params "parent", .str "parent" q10, v2⟩, ⟨PyData.keyHash w.params "children", .str "children" q11, v3⟩, ⟨PyData.keyHash w.params "attributes", .str "attributes" q12, v4⟩, ⟨PyData.keyHash w.params "namespaces", .str "namespaces" q13, v5⟩] 9))
   (hn : (na, on) ∈ news) (hno : on.IsDictOf (strKind PR w) kvs) (hnf : PyProof.V.FlatPairs PyData.str kvs [(.str "p", .str "u:1"), (.str "q", .str "u:2")]) (hnl : (na == sysModules) = false)
   (ht : (ts, ({ cls := .type "tuple", data := .seq #[.str "any" k0] n2 } : Obj)) ∈ news)
   (C : Site w p loose mean mg mb A₀ base outer h₀ L m news s.heap cs dp un 7 80)
   (hret : ∀ (h' : Heap) (tk' : Nat), Fr h₀ L h' m → News h₀ L h' news → Q (.bool (kd == wantF ax)) { s with heap := h', toks := tk' }) :
   wpAny (model PR w) (ktrTop dp un gd cn cs L a ccd cl outer) (call (.ref 93) [.ref tr, .int node tn, .str ax tx, .ref ts, .ref na]) Q E s := by
  obtain ⟨B, F, X, N, T, hk, hd, hu⟩ := C
  w_on
  w_strict (refine wpAny_call ?_; k_dflt cell_enter; k_steps; all_goals (refine cb_retB (Q := Q) (fun _ h9 tk9 => hret h9 tk9) ?_ (by assumption) (cb_drop (by assumption) (by intro p hp; k_mem)); (try dsimp only); first | done | rfl | exact pE1 (by assumption) | exact pE2 (by assumption) | exact zTt (by assumption) | exact zT (by assumption) | exact zO1 (by assumption) (by assumption) (by decide) | exact zO2 (by assumption) (by assumption) | exact zF (by assumption) | exact zF3 (by assumption)))
theorem pas_node {tr dT rw rr dr : Addr} {vs : List Value} {nr : Nat} {node : Int} {kd nm ur lc : Str} {q0 q1 q2 q3 q4 q5 q6 q7 q8 q9 q10 q11 q12 q13 tn : Tok} {v1 v2 v3 v4 v5 : Value} {na : Addr} {on : Obj} {kvs : List (Str × Value)} {ts : Addr} {ax nn : Str} {tx k0 k1 k2 : Tok} {n2 : Nat}
   (hT1 : base.get? tr = some (instObj 300 dT)) (hT2 : base.get? dT = some (dictOf [⟨PyData.keyHash w.params "rows", .str "rows" q0, .ref rw⟩] 1)) (hT3 : base.get? rw = some (listOf vs.toArray nr))
   (hT4 : vs[node.toNat]? = some (.ref rr)) (hn0 : 0 ≤ node) (hn1 : node < vs.length) (hn2 : vs.length < 2 ^ 32) (hT5 : base.get? rr = some (instObj 111 dr))
   (hT6 : base.get? dr = some (dictOf [⟨PyData.keyHash w.params "kind", .str "kind" q1, .str kd q2⟩, ⟨PyData.keyHash w.params "name", .str "name" q3, .str nm q4⟩, ⟨PyData.keyHash w.params "uri", .str "uri" q5, .str ur q6⟩, ⟨PyData.keyHash w.params "local", .str "local" q7, .str lc q8⟩, ⟨PyData.keyHash w.params "value", .str "value" q9, v1⟩, ⟨PyData.keyHash w.params "parent", .str "parent" q10, v2⟩, ⟨PyData.keyHash w.params "children", .str "children" q11, v3⟩, ⟨PyData.keyHash w.params "attributes", .str "attributes" q12, v4⟩, ⟨PyData.keyHash w.params "namespaces", .str "namespaces" q13, v5⟩] 9))
   (hn : (na, on) ∈ news) (hno : on.IsDictOf (strKind PR w) kvs) (hnf : PyProof.V.FlatPairs PyData.str kvs [(.str "p", .str "u:1"), (.str "q", .str "u:2")]) (hnl : (na == sysModules) = false)
   (ht : (ts, ({ cls := .type "tuple", data := .seq #[.str "node" k0] n2 } : Obj)) ∈ news)
   (C : Site w p loose mean mg mb A₀ base outer h₀ L m news s.heap cs dp un 7 80)
   (hret : ∀ (h' : Heap) (tk' : Nat), Fr h₀ L h' m → News h₀ L h' news → Q (.bool true) { s with heap := h', toks := tk' }) :
   wpAny (model PR w) (ktrTop dp un gd cn cs L a ccd cl outer) (call (.ref 93) [.ref tr, .int node tn, .str ax tx, .ref ts, .ref na]) Q E s := by
  obtain ⟨B, F, X, N, T, hk, hd, hu⟩ := C
  w_on
  w_strict (refine wpAny_call ?_; k_dflt cell_enter; k_steps; all_goals (refine cb_retB (Q := Q) (fun _ h9 tk9 => hret h9 tk9) ?_ (by assumption) (cb_drop (by assumption) (by intro p hp; k_mem)); (try dsimp only); first | done | rfl | exact pE1 (by assumption) | exact pE2 (by assumption) | exact zTt (by assumption) | exact zT (by assumption) | exact zO1 (by assumption) (by assumption) (by decide) | exact zO2 (by assumption) (by assumption) | exact zF (by assumption) | exact zF3 (by assumption)))
theorem pas_text {tr dT rw rr dr : Addr} {vs : List Value} {nr : Nat} {node : Int} {kd nm ur lc : Str} {q0 q1 q2 q3 q4 q5 q6 q7 q8 q9 q10 q11 q12 q13 tn : Tok} {v1 v2 v3 v4 v5 : Value} {na : Addr} {on : Obj} {kvs : List (Str × Value)} {ts : Addr} {ax nn : Str} {tx k0 k1 k2 : Tok} {n2 : Nat}
   (hT1 : base.get? tr = some (instObj 300 dT)) (hT2 : base.get? dT = some (dictOf [⟨PyData.keyHash w.params "rows", .str "rows" q0, .ref rw⟩] 1)) (hT3 : base.get? rw = some (listOf vs.toArray nr))
   (hT4 : vs[node.toNat]? = some (.ref rr)) (hn0 : 0 ≤ node) (hn1 : node < vs.length) (hn2 : vs.length < 2 ^ 32) (hT5 : base.get? rr = some (instObj 111 dr))
   (hT6 : base.get? dr = some (dictOf [⟨PyData.keyHash w.params "kind", .str "kind" q1, .str kd q2⟩, ⟨PyData.keyHash w.params "name", .str "name" q3, .str nm q4⟩, ⟨PyData.keyHash w.params "uri", .str "uri" q5, .str ur q6⟩, ⟨PyData.keyHash w.params "local", .str "local" q7, .str lc q8⟩, ⟨PyData.keyHash w.params "value", .str "value" q9, v1⟩, ⟨PyData.keyHash w.params "parent", .str "parent" q10, v2⟩, ⟨PyData.keyHash w.params "children", .str "children" q11, v3⟩, ⟨PyData.keyHash w.params "attributes", .str "attributes" q12, v4⟩, ⟨PyData.keyHash w.params "namespaces", .str "namespaces" q13, v5⟩] 9))
   (hn : (na, on) ∈ news) (hno : on.IsDictOf (strKind PR w) kvs) (hnf : PyProof.V.FlatPairs PyData.str kvs [(.str "p", .str "u:1"), (.str "q", .str "u:2")]) (hnl : (na == sysModules) = false)
   (ht : (ts, ({ cls := .type "tuple", data := .seq #[.str "text" k0] n2 } : Obj)) ∈ news)
   (C : Site w p loose mean mg mb A₀ base outer h₀ L m news s.heap cs dp un 7 80)
   (hret : ∀ (h' : Heap) (tk' : Nat), Fr h₀ L h' m → News h₀ L h' news → Q (.bool (kd == "text")) { s with heap := h', toks := tk' }) :
   wpAny (model PR w) (ktrTop dp un gd cn cs L a ccd cl outer) (call (.ref 93) [.ref tr, .int node tn, .str ax tx, .ref ts, .ref na]) Q E s := by
  obtain ⟨B, F, X, N, T, hk, hd, hu⟩ := C
  w_on
  w_strict (refine wpAny_call ?_; k_dflt cell_enter; k_steps; all_goals (refine cb_retB (Q := Q) (fun _ h9 tk9 => hret h9 tk9) ?_ (by assumption) (cb_drop (by assumption) (by intro p hp; k_mem)); (try dsimp only); first | done | rfl | exact pE1 (by assumption) | exact pE2 (by assumption) | exact zTt (by assumption) | exact zT (by assumption) | exact zO1 (by assumption) (by assumption) (by decide) | exact zO2 (by assumption) (by assumption) | exact zF (by assumption) | exact zF3 (by assumption)))
theorem pas_comment {tr dT rw rr dr : Addr} {vs : List Value} {nr : Nat} {node : Int} {kd nm ur lc : Str} {q0 q1 q2 q3 q4 q5 q6 q7 q8 q9 q10 q11 q12 q13 tn : Tok} {v1 v2 v3 v4 v5 : Value} {na : Addr} {on : Obj} {kvs : List (Str × Value)} {ts : Addr} {ax nn : Str} {tx k0 k1 k2 : Tok} {n2 : Nat}
   (hT1 : base.get? tr = some (instObj 300 dT)) (hT2 : base.get? dT = some (dictOf [⟨PyData.keyHash w.params "rows", .str "rows" q0, .ref rw⟩] 1)) (hT3 : base.get? rw = some (listOf vs.toArray nr))
   (hT4 : vs[node.toNat]? = some (.ref rr)) (hn0 : 0 ≤ node) (hn1 : node < vs.length) (hn2 : vs.length < 2 ^ 32) (hT5 : base.get? rr = some (instObj 111 dr))
   (hT6 : base.get? dr = some (dictOf [⟨PyData.keyHash w.params "kind", .str "kind" q1, .str kd q2⟩, ⟨PyData.keyHash w.params "name", .str "name" q3, .str nm q4⟩, ⟨PyData.keyHash w.params "uri", .str "uri" q5, .str ur q6⟩, ⟨PyData.keyHash w.params "local", .str "local" q7, .str lc q8⟩, ⟨PyData.keyHash w.params "value", .str "value" q9, v1⟩, ⟨PyData.keyHash w.params "parent", .str "parent" q10, v2⟩, ⟨PyData.keyHash w.params "children", .str "children" q11, v3⟩, ⟨PyData.keyHash w.params "attributes", .str "attributes" q12, v4⟩, ⟨PyData.keyHash w.params "namespaces", .str "namespaces" q13, v5⟩] 9))
   (hn : (na, on) ∈ news) (hno : on.IsDictOf (strKind PR w) kvs) (hnf : PyProof.V.FlatPairs PyData.str kvs [(.str "p", .str "u:1"), (.str "q", .str "u:2")]) (hnl : (na == sysModules) = false)
   (ht : (ts, ({ cls := .type "tuple", data := .seq #[.str "comment" k0] n2 } : Obj)) ∈ news)
   (C : Site w p loose mean mg mb A₀ base outer h₀ L m news s.heap cs dp un 7 80)
   (hret : ∀ (h' : Heap) (tk' : Nat), Fr h₀ L h' m → News h₀ L h' news → Q (.bool (kd == "comment")) { s with heap := h', toks := tk' }) :
   wpAny (model PR w) (ktrTop dp un gd cn cs L a ccd cl outer) (call (.ref 93) [.ref tr, .int node tn, .str ax tx, .ref ts, .ref na]) Q E s := by
  obtain ⟨B, F, X, N, T, hk, hd, hu⟩ := C
  w_on
  w_strict (refine wpAny_call ?_; k_dflt cell_enter; k_steps; all_goals (refine cb_retB (Q := Q) (fun _ h9 tk9 => hret h9 tk9) ?_ (by assumption) (cb_drop (by assumption) (by intro p hp; k_mem)); (try dsimp only); first | done | rfl | exact pE1 (by assumption) | exact pE2 (by assumption) | exact zTt (by assumption) | exact zT (by assumption) | exact zO1 (by assumption) (by assumption) (by decide) | exact zO2 (by assumption) (by assumption) | exact zF (by assumption) | exact zF3 (by assumption)))
theorem take_a {x top : Int} (hx : 0 ≤ x) (h1 : 1 ≤ top) : 0 ≤ Int.fmod x top ∧ Int.fmod x top < top ∧ 0 ≤ Int.fdiv x top := by
  refine ⟨fmod_lo _ (by omega), fmod_hi _ (by omega), ?_⟩
  rw [Int.fdiv_eq_ediv_of_nonneg _ (by omega)]
  exact Int.ediv_nonneg hx (by omega)
theorem take_b {x : Int} : 0 ≤ Int.fmod x 2147483647 ∧ Int.fmod x 2147483647 < 2147483647 := ⟨fmod_lo _ (by decide), fmod_hi _ (by decide)⟩
theorem take_c {src : Addr} {x y : Int} {tx ty tt : Tok} {k : Nat} {rest : List (Addr × Obj)} {top : Int} (hx : 0 ≤ x) (hy : 0 ≤ y) (hy' : y < 2147483647) (h1 : 1 ≤ top) (h2 : top ≤ 16)
   (hap : ∀ p ∈ rest, p.1 ≠ src)
   (C : Site w p loose mean mg mb A₀ base outer h₀ L m ((src, listOf #[.int x tx, .int y ty] k) :: rest) s.heap cs dp un 3 30)
   (hret : ∀ (r x' y' : Int) (t tx' ty' : Tok) (k' : Nat) (h' : Heap) (tk' : Nat), 0 ≤ r → r < top → 0 ≤ x' → 0 ≤ y' → y' < 2147483647 → Fr h₀ L h' m → News h₀ L h' ((src, listOf #[.int x' tx', .int y' ty'] k') :: rest) → Q (.int r t) { s with heap := h', toks := tk' }) :
   wpAny (model PR w) (ktrTop dp un gd cn cs L a ccd cl outer) (call (.ref 318) [.ref src, .int top tt]) Q E s := by
  obtain ⟨B, F, X, N, T, hk, hd, hu⟩ := C
  w_on
  w_strict (refine wpAny_call ?_; k_dflt cell_enter; k_steps; all_goals (refine' hret _ _ _ _ _ _ _ _ _ ?e1 ?e2 ?e3 ?e4 ?e5 ?e6 ?e7; (case e7 => assumption); (case e6 => assumption); (case e1 => exact fmod_lo _ (by omega)); (case e2 => exact fmod_hi _ (by omega)); (case e3 => first | exact (take_a hx h1).2.2 | exact hx); (case e4 => first | exact hy | exact take_b.1); (case e5 => first | exact hy' | exact take_b.2)))
local macro_rules | `(tactic| walk_at "call ref") => `(tactic| (tbr_iter 318; k_dflt (refine' take_c ?a1 ?a2 ?a3 ?a4 ?a5 ?a6 ?tbS ?_; (case tbS => tb_start); (case a1 | a2 | a3 => assumption); (case a4 | a5 => first | assumption | omega); (case a6 => k_all)); intros; wtm_at "f"))
theorem one_c {src th : Addr} {x y : Int} {tx ty : Tok} {k nt : Nat} {rest : List (Addr × Obj)} {vs : List Value} (hx : 0 ≤ x) (hy : 0 ≤ y) (hy' : y < 2147483647)
   (hv1 : 1 ≤ vs.length) (hv2 : vs.length ≤ 16)
   (hap : ∀ p ∈ rest, p.1 ≠ src) (hth : (th, listOf vs.toArray nt) ∈ rest)
   (C : Site w p loose mean mg mb A₀ base outer h₀ L m ((src, listOf #[.int x tx, .int y ty] k) :: rest) s.heap cs dp un 4 50)
   (hret : ∀ (i : Nat) (v : Value) (x' y' : Int) (tx' ty' : Tok) (k' : Nat) (h' : Heap) (tk' : Nat), vs[i]? = some v → 0 ≤ x' → 0 ≤ y' → y' < 2147483647 → Fr h₀ L h' m → News h₀ L h' ((src, listOf #[.int x' tx', .int y' ty'] k') :: rest) → Q v { s with heap := h', toks := tk' }) :
   wpAny (model PR w) (ktrTop dp un gd cn cs L a ccd cl outer) (call (.ref 325) [.ref src, .ref th]) Q E s := by
  obtain ⟨B, F, X, N, T, hk, hd, hu⟩ := C
  w_on
  w_strict (refine wpAny_call ?_; k_dflt cell_enter; k_steps; all_goals (refine' hret _ _ _ _ _ _ _ _ _ ?e0 ?e1 ?e2 ?e3 ?e4 ?e5; (case e5 => assumption); (case e4 => assumption); (case e0 => assumption); (case e1 => assumption); (case e2 => assumption); (case e3 => assumption)))

def Own (src : Addr) (o : Obj) (news : List (Addr × Obj)) : Prop := ∃ pre post, news = pre ++ (src, o) :: post ∧ (∀ p ∈ pre, p.1 ≠ src) ∧ ∀ p ∈ post, p.1 ≠ src
theorem own_of {src : Addr} {o o' : Obj} {news news' : List (Addr × Obj)} (U : Upd src o o' news news') : Own src o news :=
  let ⟨pre, post, a, _, b, c⟩ := U.split
  ⟨pre, post, a, b, c⟩
theorem own_back {src : Addr} {o o' : Obj} {news news' pre post : List (Addr × Obj)} {h₀ h : Heap} {L : Addr} (e : news = pre ++ (src, o) :: post) (N : News h₀ L h ((src, o') :: (pre ++ post))) (U : Upd src o o' news news') : News h₀ L h news' := by
  obtain ⟨pre', post', e1, e2, b, c⟩ := U.split
  have side : ∀ p ∈ news, p.1 ≠ src → p ∈ (src, o') :: (pre ++ post) := fun p hp hne => by
    rw [e] at hp
    rcases List.mem_append.mp hp with q | q
    · exact .tail _ (List.mem_append.mpr (.inl q))
    · rcases List.mem_cons.mp q with rfl | q
      · exact absurd rfl hne
      · exact .tail _ (List.mem_append.mpr (.inr q))
  intro p hp
  rw [e2] at hp
  rcases List.mem_append.mp hp with q | q
  · exact N p (side p (by rw [e1]; exact List.mem_append.mpr (.inl q)) (b p q))
  · rcases List.mem_cons.mp q with rfl | q
    · exact N _ (.head _)
    · exact N p (side p (by rw [e1]; exact List.mem_append.mpr (.inr (.tail _ q))) (c p q))
theorem own_out {src : Addr} {o : Obj} {pre post : List (Addr × Obj)} {h₀ h : Heap} {L : Addr} (N : News h₀ L h (pre ++ (src, o) :: post)) : News h₀ L h ((src, o) :: (pre ++ post)) := by
  intro p hp
  refine N p ?_
  rcases List.mem_cons.mp hp with rfl | q
  · exact List.mem_append.mpr (.inr (.head _))
  · rcases List.mem_append.mp q with q | q
    · exact List.mem_append.mpr (.inl q)
    · exact List.mem_append.mpr (.inr (.tail _ q))
theorem own_ne {src : Addr} {pre post : List (Addr × Obj)} (b : ∀ p ∈ pre, p.1 ≠ src) (c : ∀ p ∈ post, p.1 ≠ src) : ∀ p ∈ pre ++ post, p.1 ≠ src := fun p hp => (List.mem_append.mp hp).elim (b p) (c p)
theorem Site.led {w : World} {p : Program} {loose : List Str} {mean : ExcName → Option Value} {mg mb : Str → Option Value} {A₀ : Around} {base : Heap} {outer : List Env} {h₀ : Heap} {L : Addr} {m : Str → Option Value} {n1 n2 : List (Addr × Obj)} {h : Heap} {cs : Scope} {dp un nd nu : Nat}
    (C : Site w p loose mean mg mb A₀ base outer h₀ L m n1 h cs dp un nd nu) (N : News h₀ L h n2) : Site w p loose mean mg mb A₀ base outer h₀ L m n2 h cs dp un nd nu := ⟨C.B, C.F, C.X, N, C.T, C.hk, C.hd, C.hu⟩
theorem take_u {src : Addr} {x y : Int} {tx ty tt : Tok} {k : Nat} {top : Int} (hx : 0 ≤ x) (hy : 0 ≤ y) (hy' : y < 2147483647) (h1 : 1 ≤ top) (h2 : top ≤ 16)
   (C : Site w p loose mean mg mb A₀ base outer h₀ L m news s.heap cs dp un 3 30) (O : Own src (listOf #[.int x tx, .int y ty] k) news)
   (hret : ∀ (r x' y' : Int) (t tx' ty' : Tok) (k' : Nat) (h' : Heap) (tk' : Nat), 0 ≤ r → r < top → 0 ≤ x' → 0 ≤ y' → y' < 2147483647 → Fr h₀ L h' m →
     (∀ news', Upd src (listOf #[.int x tx, .int y ty] k) (listOf #[.int x' tx', .int y' ty'] k') news news' → News h₀ L h' news') → Q (.int r t) { s with heap := h', toks := tk' }) :
   wpAny (model PR w) (ktrTop dp un gd cn cs L a ccd cl outer) (call (.ref 318) [.ref src, .int top tt]) Q E s := by
  obtain ⟨pre, post, e, b, c⟩ := O
  subst e
  exact take_c hx hy hy' h1 h2 (own_ne b c) (C.led (own_out C.N)) fun r x' y' t tx' ty' k' h' tk' g1 g2 g3 g4 g5 F' N' => hret r x' y' t tx' ty' k' h' tk' g1 g2 g3 g4 g5 F' fun news' U => own_back rfl N' U
theorem one_u {src th : Addr} {x y : Int} {tx ty : Tok} {k nt : Nat} {vs : List Value} (hx : 0 ≤ x) (hy : 0 ≤ y) (hy' : y < 2147483647) (hv1 : 1 ≤ vs.length) (hv2 : vs.length ≤ 16)
   (C : Site w p loose mean mg mb A₀ base outer h₀ L m news s.heap cs dp un 4 50) (hth : (th, listOf vs.toArray nt) ∈ news) (hne : th ≠ src) (O : Own src (listOf #[.int x tx, .int y ty] k) news)
   (hret : ∀ (i : Nat) (v : Value) (x' y' : Int) (tx' ty' : Tok) (k' : Nat) (h' : Heap) (tk' : Nat), vs[i]? = some v → 0 ≤ x' → 0 ≤ y' → y' < 2147483647 → Fr h₀ L h' m →
     (∀ news', Upd src (listOf #[.int x tx, .int y ty] k) (listOf #[.int x' tx', .int y' ty'] k') news news' → News h₀ L h' news') → Q v { s with heap := h', toks := tk' }) :
   wpAny (model PR w) (ktrTop dp un gd cn cs L a ccd cl outer) (call (.ref 325) [.ref src, .ref th]) Q E s := by
  obtain ⟨pre, post, e, b, c⟩ := O
  subst e
  refine one_c (nt := nt) hx hy hy' hv1 hv2 (own_ne b c) ?_ (C.led (own_out C.N)) fun i v x' y' tx' ty' k' h' tk' g1 g2 g3 g4 F' N' => hret i v x' y' tx' ty' k' h' tk' g1 g2 g3 g4 F' fun news' U => own_back rfl N' U
  rcases List.mem_append.mp hth with q | q
  · exact List.mem_append.mpr (.inl q)
  · rcases List.mem_cons.mp q with q | q
    · exact absurd (congrArg Prod.fst q) hne
    · exact List.mem_append.mpr (.inr q)
theorem strs_at {vs : List Value} {us : List Str} (S : StrsAre vs us) : ∀ {i : Nat} {v : Value}, vs[i]? = some v → ∃ u t, v = .str u t ∧ u ∈ us := by
  induction S with
  | nil => intro i v h; simp at h
  | cons y t _ ih =>
    intro i v h
    cases i with
    | zero => simp at h; exact ⟨y, t, h.symm, .head _⟩
    | succ i =>
      obtain ⟨u, t', e, hm⟩ := ih (by simpa using h)
      exact ⟨u, t', e, .tail _ hm⟩
theorem one_s {src th : Addr} {x y : Int} {tx ty : Tok} {k nt : Nat} {vs : List Value} {us : List Str} (hs : StrsAre vs us) (hx : 0 ≤ x) (hy : 0 ≤ y) (hy' : y < 2147483647) (hv1 : 1 ≤ vs.length) (hv2 : vs.length ≤ 16)
   (C : Site w p loose mean mg mb A₀ base outer h₀ L m news s.heap cs dp un 4 50) (hth : (th, listOf vs.toArray nt) ∈ news) (hne : th ≠ src) (O : Own src (listOf #[.int x tx, .int y ty] k) news)
   (hret : ∀ (u : Str) (t : Tok) (x' y' : Int) (tx' ty' : Tok) (k' : Nat) (h' : Heap) (tk' : Nat), u ∈ us → 0 ≤ x' → 0 ≤ y' → y' < 2147483647 → Fr h₀ L h' m →
     (∀ news', Upd src (listOf #[.int x tx, .int y ty] k) (listOf #[.int x' tx', .int y' ty'] k') news news' → News h₀ L h' news') → Q (.str u t) { s with heap := h', toks := tk' }) :
   wpAny (model PR w) (ktrTop dp un gd cn cs L a ccd cl outer) (call (.ref 325) [.ref src, .ref th]) Q E s :=
  one_u hx hy hy' hv1 hv2 C hth hne O fun i v x' y' tx' ty' k' h' tk' g1 g2 g3 g4 F' hN => by
    obtain ⟨u, t, rfl, hm⟩ := strs_at hs g1
    exact hret u t x' y' tx' ty' k' h' tk' hm g2 g3 g4 F' hN
local macro_rules | `(tactic| walk_at "call ref") => `(tactic| (tbr_iter 325; k_dflt (refine' one_u ?a1 ?a2 ?a3 ?a4 ?a5 ?tbS ?th ?ne ?O ?_; (case tbS => tb_start); (case th => k_mem); (case ne => k_ne); (case O => exact own_of (o' := listOf #[] 0) (by k_upd)); (case a1 | a2 | a3 => assumption); (case a4 | a5 => exact Nat.le_of_ble_eq_true rfl); k_whole); intro i9 v9 x9 y9 tx9 ty9 k9 h9 tk9 hv9 hx9 hy9 hz9 F9 hN9; (have N9 := hN9 _ (by k_upd)); clear hN9; (try replace N9 := cb_tail N9); wtm_at "s"))
local macro_rules | `(tactic| walk_at "call ref") => `(tactic| (tbr_iter 325; k_dflt (refine' one_s ?hs ?a1 ?a2 ?a3 ?a4 ?a5 ?tbS ?th ?ne ?O ?_; (case tbS => tb_start); (case th => k_mem); (case ne => k_ne); (case O => exact own_of (o' := listOf #[] 0) (by k_upd)); (case a1 | a2 | a3 => assumption); (case hs => kde_strs); (case a4 | a5 => exact Nat.le_of_ble_eq_true rfl); k_whole); intro u9 t9 x9 y9 tx9 ty9 k9 h9 tk9 hu9 hx9 hy9 hz9 F9 hN9; (have N9 := hN9 _ (by k_upd)); clear hN9; (try replace N9 := cb_tail N9); wtm_at "s"))
local macro_rules | `(tactic| walk_at "call ref") => `(tactic| (tbr_iter 318; k_dflt (refine' take_u ?a1 ?a2 ?a3 ?a4 ?a5 ?tbS ?O ?_; (case tbS => tb_start); (case O => exact own_of (o' := listOf #[] 0) (by k_upd)); (case a1 | a2 | a3 => assumption); (case a4 | a5 => first | assumption | omega); k_whole); intro r9 x9 y9 t9 tx9 ty9 k9 h9 tk9 hr0 hr1 hx9 hy9 hz9 F9 hN9; (have N9 := hN9 _ (by k_upd)); clear hN9; wtm_at "s"))
theorem test_c {src : Addr} {x y : Int} {tx ty : Tok} {k : Nat} {rest : List (Addr × Obj)} (hx : 0 ≤ x) (hy : 0 ≤ y) (hy' : y < 2147483647)
   (hap : ∀ p ∈ rest, p.1 ≠ src)
   (C : Site w p loose mean mg mb A₀ base outer h₀ L m ((src, listOf #[.int x tx, .int y ty] k) :: rest) s.heap cs dp un 5 70)
   (hret : ∀ (T : TT) (k0 k1 k2 : Tok) (n2 : Nat) (ts : Addr) (x' y' : Int) (tx' ty' : Tok) (k' : Nat) (h' : Heap) (tk' : Nat), T.okay → 0 ≤ x' → 0 ≤ y' → y' < 2147483647 → Fr h₀ L h' m → src < ts → AllLt ts rest →
     News h₀ L h' ((ts, T.obj k0 k1 k2 n2) :: (src, listOf #[.int x' tx', .int y' ty'] k') :: rest) → Q (.ref ts) { s with heap := h', toks := tk' }) :
   wpAny (model PR w) (ktrTop dp un gd cn cs L a ccd cl outer) (call (.ref 339) [.ref src]) Q E s := by
  obtain ⟨B, F, X, N, T, hk, hd, hu⟩ := C
  w_on
  w_strict (refine wpAny_call ?_; k_dflt cell_enter; k_steps; all_goals first | (refine' hret (.name _ _) _ _ _ _ _ _ _ _ _ _ _ _ ?o ?g1 ?g2 ?g3 ?F ?lt ?al ?N; (case N => refine' cb_drop ?n1 ?n2; (case n1 => assumption); (case n2 => refine' List.forall_mem_cons.mpr ⟨?a, List.forall_mem_cons.mpr ⟨?b, ?c⟩⟩; (case a => k_mem); (case b => k_mem); (case c => intro p hp; k_mem))); (case F => assumption); (case g1 => assumption); (case g2 => assumption); (case g3 => assumption); (case o => exact ⟨by assumption, ok_mem (by assumption) (by decide +kernel)⟩); (case lt => (repeat (rename And _ _ => q9; obtain ⟨_, _⟩ := q9)); first | assumption | omega); (case al => (repeat (rename And _ _ => q9; obtain ⟨_, _⟩ := q9)); assumption)) | (refine' hret (.of _) _ _ 0 _ _ _ _ _ _ _ _ _ ?o ?g1 ?g2 ?g3 ?F ?lt ?al ?N; (case N => refine' cb_drop ?n1 ?n2; (case n1 => assumption); (case n2 => refine' List.forall_mem_cons.mpr ⟨?a, List.forall_mem_cons.mpr ⟨?b, ?c⟩⟩; (case a => k_mem); (case b => k_mem); (case c => intro p hp; k_mem))); (case F => assumption); (case g1 => assumption); (case g2 => assumption); (case g3 => assumption); (case o => exact of_ne (by assumption) (by assumption)); (case lt => (repeat (rename And _ _ => q9; obtain ⟨_, _⟩ := q9)); first | assumption | omega); (case al => (repeat (rename And _ _ => q9; obtain ⟨_, _⟩ := q9)); assumption)) | (refine' hret (.of _) _ _ 0 _ _ _ _ _ _ _ _ _ ?o ?g1 ?g2 ?g3 ?F ?lt ?al ?N; (case N => refine' cb_drop ?n1 ?n2; (case n1 => assumption); (case n2 => refine' List.forall_mem_cons.mpr ⟨?a, List.forall_mem_cons.mpr ⟨?b, ?c⟩⟩; (case a => k_mem); (case b => k_mem); (case c => intro p hp; k_mem))); (case F => assumption); (case g1 => assumption); (case g2 => assumption); (case g3 => assumption); (case o => exact .head _); (case lt => (repeat (rename And _ _ => q9; obtain ⟨_, _⟩ := q9)); first | assumption | omega); (case al => (repeat (rename And _ _ => q9; obtain ⟨_, _⟩ := q9)); assumption)) | (rcases ins_at (by assumption) with e9 | ⟨u9, t9, e9, hu9⟩; (subst e9; (refine' hret .insn _ 0 0 _ _ _ _ _ _ _ _ _ ?o ?g1 ?g2 ?g3 ?F ?lt ?al ?N; (case N => refine' cb_drop ?n1 ?n2; (case n1 => assumption); (case n2 => refine' List.forall_mem_cons.mpr ⟨?a, List.forall_mem_cons.mpr ⟨?b, ?c⟩⟩; (case a => k_mem); (case b => k_mem); (case c => intro p hp; k_mem))); (case F => assumption); (case g1 => assumption); (case g2 => assumption); (case g3 => assumption); (case o => trivial); (case lt => (repeat (rename And _ _ => q9; obtain ⟨_, _⟩ := q9)); first | assumption | omega); (case al => (repeat (rename And _ _ => q9; obtain ⟨_, _⟩ := q9)); assumption))); (subst e9; (refine' hret (.inss _) _ _ 0 _ _ _ _ _ _ _ _ _ ?o ?g1 ?g2 ?g3 ?F ?lt ?al ?N; (case N => refine' cb_drop ?n1 ?n2; (case n1 => assumption); (case n2 => refine' List.forall_mem_cons.mpr ⟨?a, List.forall_mem_cons.mpr ⟨?b, ?c⟩⟩; (case a => k_mem); (case b => k_mem); (case c => intro p hp; k_mem))); (case F => assumption); (case g1 => assumption); (case g2 => assumption); (case g3 => assumption); (case o => exact ok_mem hu9 (by decide +kernel)); (case lt => (repeat (rename And _ _ => q9; obtain ⟨_, _⟩ := q9)); first | assumption | omega); (case al => (repeat (rename And _ _ => q9; obtain ⟨_, _⟩ := q9)); assumption)))) | (rcases four_at (by assumption) with e9 | e9 | e9 | e9; (subst e9; (refine' hret .any _ 0 0 _ _ _ _ _ _ _ _ _ ?o ?g1 ?g2 ?g3 ?F ?lt ?al ?N; (case N => refine' cb_drop ?n1 ?n2; (case n1 => assumption); (case n2 => refine' List.forall_mem_cons.mpr ⟨?a, List.forall_mem_cons.mpr ⟨?b, ?c⟩⟩; (case a => k_mem); (case b => k_mem); (case c => intro p hp; k_mem))); (case F => assumption); (case g1 => assumption); (case g2 => assumption); (case g3 => assumption); (case o => trivial); (case lt => (repeat (rename And _ _ => q9; obtain ⟨_, _⟩ := q9)); first | assumption | omega); (case al => (repeat (rename And _ _ => q9; obtain ⟨_, _⟩ := q9)); assumption))); (subst e9; (refine' hret .node _ 0 0 _ _ _ _ _ _ _ _ _ ?o ?g1 ?g2 ?g3 ?F ?lt ?al ?N; (case N => refine' cb_drop ?n1 ?n2; (case n1 => assumption); (case n2 => refine' List.forall_mem_cons.mpr ⟨?a, List.forall_mem_cons.mpr ⟨?b, ?c⟩⟩; (case a => k_mem); (case b => k_mem); (case c => intro p hp; k_mem))); (case F => assumption); (case g1 => assumption); (case g2 => assumption); (case g3 => assumption); (case o => trivial); (case lt => (repeat (rename And _ _ => q9; obtain ⟨_, _⟩ := q9)); first | assumption | omega); (case al => (repeat (rename And _ _ => q9; obtain ⟨_, _⟩ := q9)); assumption))); (subst e9; (refine' hret .text _ 0 0 _ _ _ _ _ _ _ _ _ ?o ?g1 ?g2 ?g3 ?F ?lt ?al ?N; (case N => refine' cb_drop ?n1 ?n2; (case n1 => assumption); (case n2 => refine' List.forall_mem_cons.mpr ⟨?a, List.forall_mem_cons.mpr ⟨?b, ?c⟩⟩; (case a => k_mem); (case b => k_mem); (case c => intro p hp; k_mem))); (case F => assumption); (case g1 => assumption); (case g2 => assumption); (case g3 => assumption); (case o => trivial); (case lt => (repeat (rename And _ _ => q9; obtain ⟨_, _⟩ := q9)); first | assumption | omega); (case al => (repeat (rename And _ _ => q9; obtain ⟨_, _⟩ := q9)); assumption))); (subst e9; (refine' hret .comment _ 0 0 _ _ _ _ _ _ _ _ _ ?o ?g1 ?g2 ?g3 ?F ?lt ?al ?N; (case N => refine' cb_drop ?n1 ?n2; (case n1 => assumption); (case n2 => refine' List.forall_mem_cons.mpr ⟨?a, List.forall_mem_cons.mpr ⟨?b, ?c⟩⟩; (case a => k_mem); (case b => k_mem); (case c => intro p hp; k_mem))); (case F => assumption); (case g1 => assumption); (case g2 => assumption); (case g3 => assumption); (case o => trivial); (case lt => (repeat (rename And _ _ => q9; obtain ⟨_, _⟩ := q9)); first | assumption | omega); (case al => (repeat (rename And _ _ => q9; obtain ⟨_, _⟩ := q9)); assumption)))))
theorem test_u {src : Addr} {x y : Int} {tx ty : Tok} {k : Nat} (hx : 0 ≤ x) (hy : 0 ≤ y) (hy' : y < 2147483647)
   (C : Site w p loose mean mg mb A₀ base outer h₀ L m news s.heap cs dp un 5 70) (O : Own src (listOf #[.int x tx, .int y ty] k) news)
   (hret : ∀ (T : TT) (k0 k1 k2 : Tok) (n2 : Nat) (ts : Addr) (x' y' : Int) (tx' ty' : Tok) (k' : Nat) (h' : Heap) (tk' : Nat), T.okay → 0 ≤ x' → 0 ≤ y' → y' < 2147483647 → Fr h₀ L h' m → (∀ p ∈ news, p.1 < ts) →
     (∀ news', Upd src (listOf #[.int x tx, .int y ty] k) (listOf #[.int x' tx', .int y' ty'] k') news news' → News h₀ L h' ((ts, T.obj k0 k1 k2 n2) :: news')) → Q (.ref ts) { s with heap := h', toks := tk' }) :
   wpAny (model PR w) (ktrTop dp un gd cn cs L a ccd cl outer) (call (.ref 339) [.ref src]) Q E s := by
  obtain ⟨pre, post, e, b, c⟩ := O
  subst e
  refine test_c hx hy hy' (own_ne b c) (C.led (own_out C.N)) fun T k0 k1 k2 n2 ts x' y' tx' ty' k' h' tk' o g2 g3 g4 F' lt al N' => hret T k0 k1 k2 n2 ts x' y' tx' ty' k' h' tk' o g2 g3 g4 F' ?_ fun news' U => ?_
  · intro q hq
    have al' := tb_ltOf al
    rcases List.mem_append.mp hq with z | z
    · exact al' q (List.mem_append.mpr (.inl z))
    · rcases List.mem_cons.mp z with rfl | z
      · exact lt
      · exact al' q (List.mem_append.mpr (.inr z))
  · have N1 := own_back rfl (cb_drop N' fun q hq => .tail _ hq) U
    intro q hq
    rcases List.mem_cons.mp hq with rfl | z
    · exact N' _ (.head _)
    · exact N1 q z
abbrev excO (tp : Addr) (dd : Option Addr) : Obj := { cls := .ref 63, dict := dd, data := .fields #[.ref tp, .none, .none, .none, .bool false, .none] }
section
variable {prog : Program} {w : World} {A : Around} {E : Value → Shared → Prop} {h : Heap} {g : Array GenState} {d : Drawn} {t : Nat} {os : OsState}
variable {nm q : Str} {C N : Addr} {bs bm bmB : List Value} {hdct : Bool} {sn : List Str} {sub : List Value} {ab : Bool} {col : Option Bool} {dd : Option Addr} {k0 k1 k2 k3 k5 : Option Value} {B newId initId : String}
theorem xCheckNew (F : ExcBaseFacts B newId initId bmB) (hb : bm.contains (.type B) = true) {M : Model} {rest : List Value} {Q : Unit → Shared → Prop} (hC : h.get? C = some (excClassObj nm q C N bs bm hdct sn sub ab col dd k0 k1 k2 k3 k5 newId))
    (hq : Q () ⟨h, g, d, t, os⟩) : wpAny M A (checkBuiltinCall newId ⟨.ref C :: rest, []⟩) Q E ⟨h, g, d, t, os⟩ := by
  have hin : (Value.ref C :: bm).contains (.type B) = true := by rw [List.contains_cons, hb, Bool.or_true]
  have hstar := F.noStar
  simp only [checkBuiltinCall, F.newKind, F.newSplit, F.newRow]
  repeat (first | refine wpAny_loadPart_at hC ?_ | (refine wpAny_isSubtype_exc hC ?_; rw [hin]) | refine wpAny_staticBase_exc hC ?_ | refine wpAny_madeBy_exc hC ?_ | simp only [bne_self_eq_false, Bool.false_eq_true, if_false] | wp_step)
  exact hq
theorem xNew {R : Result → Shared → Prop} (F : ExcBaseFacts B newId initId bmB) (hb : bm.contains (.type B) = true) (ha : bm.contains (.type "AttributeError") = false) (hn : bm.contains (.type "NameError") = false) {rest : List Value}
    (hC : h.get? C = some (excClassObj nm q C N bs bm hdct sn sub ab col dd k0 k1 k2 k3 k5 newId))
    (hq : R (.ok (.ret (.ref (h.objs.size + 1)))) ⟨(h.push { cls := .type "tuple", data := .seq rest.toArray }).push { cls := .ref C, data := .fields #[.ref h.objs.size, .none, .none, .none, .bool false, .none] }, g, d, t, os⟩)
    (hrest : rest.length ≤ sizeLine) : codeAny (model prog w) A (.builtin newId ⟨.ref C :: rest, []⟩) R ⟨h, g, d, t, os⟩ := by
  have hends := F.ends
  have iB : (Value.ref C :: bm).contains (.type B) = true := by rw [List.contains_cons, hb, Bool.or_true]
  have iA : (Value.ref C :: bm).contains (.type "AttributeError") = false := by rw [List.contains_cons, ha]; rfl
  have iN : (Value.ref C :: bm).contains (.type "NameError") = false := by rw [List.contains_cons, hn]; rfl
  refine codeAny_builtinAt F.entry ?_
  unfold Builtin.«BaseException.__new__»
  refine PySem.wpAt_bind ?_
  show PySem.wpAt _ _ _ (stack >>= _) _ _ _
  refine PySem.wpAt_bind (PySem.wpAt_stack fun p below => PySem.wpAt_of_wpAny ?_)
  wp_walk
  refine PySem.wpAt_of_wpAny ?_
  rw [F.owner]
  repeat (first | with_reducible refine wpAny_madeHere_exc F.canon hC ?_ | with_reducible refine wpAny_loadPart_at hC ?_ | (with_reducible refine wpAny_isSubtype_exc hC ?_; first | rw [iB] | rw [iA] | rw [iN]) | wp_step)
  show R _ _
  rw [Heap.size_push]
  exact hq
theorem xCheckInit (F : ExcBaseFacts B newId initId bmB) (hb : bm.contains (.type B) = true) {M : Model} {e : Addr} {oe : Obj} {rest : List Value} {Q : Unit → Shared → Prop}
    (hC : h.get? C = some (excClassObj nm q C N bs bm hdct sn sub ab col dd k0 k1 k2 k3 k5 newId)) (he : h.get? e = some oe) (hcls : oe.cls = .ref C) (hq : Q () ⟨h, g, d, t, os⟩) :
    wpAny M A (checkBuiltinCall initId ⟨.ref e :: rest, []⟩) Q E ⟨h, g, d, t, os⟩ := by
  have hin : (Value.ref C :: bm).contains (.type B) = true := by rw [List.contains_cons, hb, Bool.or_true]
  have hshort := F.noStar
  simp only [checkBuiltinCall, F.initKind, F.initSplit, F.initRow]
  repeat (first | (with_reducible refine wpAny_loadPart_at he ?_; rw [hcls]) | with_reducible refine wpAny_loadPart_at hC ?_ | (with_reducible refine wpAny_isSubtype_exc hC ?_; rw [hin]) | wp_step)
  refine PySem.wpAny_onRaise ?_
  rw [show ∀ (a b : String) (n : Nat), Bind.check ⟨.positional, "*", B, .self, [⟨"args", .varPos, false⟩]⟩ a b n (List.map (fun x => x.fst) ({ pos := Value.ref e :: rest } : Args).kw) = pure () from
    fun a b n => check_star_args _ _ _ _ _ _]
  exact wpAny_pure hq
theorem xTypeCall (F : ExcBaseFacts B newId initId bmB) (hb : bm.contains (.type B) = true) (ha : bm.contains (.type "AttributeError") = false) (hn : bm.contains (.type "NameError") = false) {K : Frag} {f : Addr} {rest : List Value} {Q : Fin → Shared → Prop}
    (X : K.In h) (hC : h.get? C = some (excClassObj nm q C N bs bm hdct sn sub ab col dd k0 k1 k2 k3 k5 newId)) (hi : findIn K (.ref C) "__init__" = some (some (.ref f))) (hf : typeIn K (.ref f) = some (.type "function"))
    (hq : wpAny (model prog w) A (call (.ref f) (.ref (h.objs.size + 1) :: rest)) (fun v s' => v = .none ∧ Q (.done (.ret (.ref (h.objs.size + 1)))) s') E
      ⟨(h.push { cls := .type "tuple", data := .seq rest.toArray }).push { cls := .ref C, data := .fields #[.ref h.objs.size, .none, .none, .none, .bool false, .none] }, g, d, t, os⟩)
    (hrest : rest.length ≤ sizeLine) : wpAny (model prog w) A (Builtin.«type.__call__» ⟨.ref C :: rest, []⟩) Q E ⟨h, g, d, t, os⟩ := by
  repeat (first | with_reducible refine wpAny_loadPart_at hC ?_ | with_reducible refine wpAny_madeBy_exc hC ?_ | wp_step)
  refine codeAny_call_builtin_code (Code.quiet_builtin _ F.quiet) (xCheckNew F hb hC ?_)
  refine xNew F hb ha hn hC ?_ hrest
  show wpAny _ _ _ _ _ _
  have hC₁ := Heap.get?_push_of_some { cls := .ref C, data := .fields #[.ref h.objs.size, .none, .none, .none, .bool false, .none] } (Heap.get?_push_of_some { cls := .type "tuple", data := .seq rest.toArray } hC)
  have hget : ((h.push { cls := .type "tuple", data := .seq rest.toArray }).push { cls := .ref C, data := .fields #[.ref h.objs.size, .none, .none, .none, .bool false, .none] }).get? (h.objs.size + 1) = some
      { cls := .ref C, data := .fields #[.ref h.objs.size, .none, .none, .none, .bool false, .none] } := by heap_get
  have X₁ : K.In ((h.push { cls := .type "tuple", data := .seq rest.toArray }).push { cls := .ref C, data := .fields #[.ref h.objs.size, .none, .none, .none, .bool false, .none] }) := X.keeps fun b o e => Heap.get?_push_of_some _ (Heap.get?_push_of_some _ e)
  have hcC : (Value.ref C :: bm).contains (.ref C) = true := by simp
  unfold isInstance
  repeat (first | with_reducible refine wpAny_loadPart_at hget ?_ | (with_reducible refine wpAny_isSubtype_exc hC₁ ?_; rw [hcC]) | wp_step)
  show wpAny _ _ (typeLookup (.ref C) _) _ _ _
  refine (looks_findIn X₁ hi).here ?_
  refine wpAny_holding ?_
  refine wpAny_bind ((bind_fn X₁ _ hf).here ?_)
  refine wpAny_bind (wpAny_mono hq (fun v s' z => ?_) fun _ _ z => z)
  obtain ⟨rfl, z⟩ := z
  refine wpAny_pure ?_
  show wpAny _ _ (if (Value.none != Value.none) = true then _ else _) _ _ _
  rw [if_neg (by decide)]
  exact wpAny_pure z
end
section
variable {prog : Program} {w : World} {A : Around} {E : Value → Shared → Prop} {h : Heap} {g : Array GenState} {d : Drawn} {t : Nat} {os : OsState}
variable {nm q : Str} {C N : Addr} {bs bm bmB : List Value} {hdct : Bool} {sn : List Str} {sub : List Value} {ab : Bool} {col : Option Bool} {dd : Option Addr} {k0 k1 k2 k3 k5 : Option Value} {B newId initId : String}
theorem xCall (F : ExcBaseFacts B newId initId bmB) (hb : bm.contains (.type B) = true) (ha : bm.contains (.type "AttributeError") = false) (hn : bm.contains (.type "NameError") = false) {K : Frag} {f : Addr} {rest : List Value} {Q : Value → Shared → Prop}
    (X : K.In h) (hC : h.get? C = some (excClassObj nm q C N bs bm hdct sn sub ab col dd k0 k1 k2 k3 k5 newId)) (hi : findIn K (.ref C) "__init__" = some (some (.ref f))) (hf : typeIn K (.ref f) = some (.type "function"))
    (hq : wpAny (model prog w) (A.under (.builtin "type.__call__" ⟨.ref C :: rest, []⟩)) (call (.ref f) (.ref (h.objs.size + 1) :: rest)) (fun v s' => v = .none ∧ Q (.ref (h.objs.size + 1)) s') E
      ⟨(h.push { cls := .type "tuple", data := .seq rest.toArray }).push { cls := .ref C, data := .fields #[.ref h.objs.size, .none, .none, .none, .bool false, .none] }, g, d, t, os⟩)
    (hrest : rest.length ≤ sizeLine) : wpAny (model prog w) A (call (.ref C) rest) Q E ⟨h, g, d, t, os⟩ := by
  have f1 := tc_lookup
  have f2 := tc_bind (.ref C)
  have hT : (⟨h, g, d, t, os⟩ : Shared).TypeIs (.ref C) "type" := ⟨_, hC, rfl⟩
  refine PySem.wpAny_call (PySem.codeAny_of_tree ?_)
  show wpAny _ _ (callAny (.ref C) _) _ _ _
  repeat (any_goals (first | assumption | with_reducible refine wpAny_loadPart_at hC ?_ | wp_step))
  refine ⟨rfl, ?_⟩
  refine codeAny_call_builtin_at (Code.quiet_builtin _ (by decide +kernel)) entry_typeCall (wpAny_check_type_call_sub hC (xTypeCall F hb ha hn X hC hi hf ?_ hrest))
  exact hq
theorem xInitCall {rest : List Value} {Q : Value → Shared → Prop} {e tp : Addr} (F : ExcBaseFacts B newId initId bmB) (hb : bm.contains (.type B) = true)
   (hC : h.get? C = some (excClassObj nm q C N bs bm hdct sn sub ab col dd k0 k1 k2 k3 k5 newId)) (he : h.get? e = some { cls := .ref C, data := .fields #[.ref tp, .none, .none, .none, .bool false, .none] }) (hrest : rest.length ≤ sizeLine)
   (hq : Q .none ⟨(h.push { cls := .type "tuple", data := .seq rest.toArray }).update e (Obj.mapFields (·.setIfInBounds 0 (.ref h.objs.size))), g, d, t, os⟩) :
   wpAny (model prog w) A (call (.builtin initId) (.ref e :: rest)) Q E ⟨h, g, d, t, os⟩ := by
  have he₁ := Heap.get?_push_of_some { cls := .type "tuple", data := .seq rest.toArray } he
  refine PySem.wpAny_call (codeAny_call_builtin F.init.plain F.initEntry (xCheckInit F hb hC he rfl ?_))
  wp_walk
  first | exact hq | (trace_state; done)
end
theorem mf_set (tp tp' : Addr) (dd : Option Addr) : Obj.mapFields (·.setIfInBounds 0 (.ref tp')) (excO tp dd) = excO tp' dd := by
  simp [Obj.mapFields, excO]
section
variable {prog : Program} {w : World} {A : Around} {E : Value → Shared → Prop} {s : Shared} {h₀ : Heap} {L : Addr} {m : Str → Option Value} {rest : List (Addr × Obj)} {K : Frag}
variable {nm q : Str} {N : Addr} {bs bm bmB : List Value} {hdct : Bool} {sn : List Str} {sub : List Value} {ab : Bool} {col : Option Bool} {dd : Option Addr} {k0 k1 k2 k3 k5 : Option Value} {B newId initId : String}
theorem initLine {v : Value} {e tp : Addr} {Q : Value → Shared → Prop} (FB : ExcBaseFacts B newId initId bmB) (F : Fr h₀ L s.heap m) (X₀ : K.In h₀) (N₀ : News h₀ L s.heap ((e, excO tp none) :: rest)) (hap : ∀ p ∈ rest, p.1 ≠ e)
   (hlk : K.lookup 63 = some (excClassObj nm q 63 N bs bm hdct sn sub ab col dd k0 k1 k2 k3 k5 newId)) (hb : bm.contains (.type B) = true)
   (h : ∀ tp' h', Fr h₀ L h' m → News h₀ L h' ((e, excO tp' none) :: (tp', tupO [v] 0) :: rest) → (∀ p ∈ (tp', tupO [v] 0) :: rest, p.1 ≠ e) → (∀ p ∈ rest, p.1 ≠ tp') → Q .none { s with heap := h' }) :
   wpAny (model prog w) A (call (.builtin initId) [.ref e, v]) Q E s := by
  obtain ⟨hp, g, d, t, os⟩ := s
  have X := X₀.keeps F.keep
  refine xInitCall FB hb (X _ _ hlk) (N₀.get (.head _)) (by simp [sizeLine]) ?_
  have F1 := F.push (tupO [v] 0)
  have N1 := N₀.push F (tupO [v] 0)
  have N2 : News h₀ L (hp.push (tupO [v] 0)) ([] ++ (e, excO tp none) :: ((hp.objs.size, tupO [v] 0) :: rest)) := fun p hp' => N1 p (by
    rcases List.mem_cons.mp hp' with rfl | z
    · exact .tail _ (.head _)
    · rcases List.mem_cons.mp z with rfl | z
      · exact .head _
      · exact .tail _ (.tail _ z))
  have lt : e < hp.objs.size := Heap.lt_size (N₀.get (.head _))
  obtain ⟨F3, N3⟩ := news_upd F1 N2 (fun _ hq => nomatch hq) (List.forall_mem_cons.mpr ⟨Nat.ne_of_gt lt, hap⟩) (mf_set tp hp.objs.size none) rfl
  exact h _ _ F3 N3 (List.forall_mem_cons.mpr ⟨Nat.ne_of_gt lt, hap⟩) (fun p hp' => Nat.ne_of_lt (Heap.lt_size (N₀.get (.tail _ hp'))))
theorem callLine {rest' : List Value} {f : Addr} {Q : Value → Shared → Prop} (FB : ExcBaseFacts B newId initId bmB) (F : Fr h₀ L s.heap m) (X₀ : K.In h₀) (N₀ : News h₀ L s.heap rest)
   (hlk : K.lookup 63 = some (excClassObj nm q 63 N bs bm hdct sn sub ab col dd k0 k1 k2 k3 k5 newId)) (hb : bm.contains (.type B) = true) (ha : bm.contains (.type "AttributeError") = false) (hn : bm.contains (.type "NameError") = false)
   (hi : findIn K (.ref 63) "__init__" = some (some (.ref f))) (hf : typeIn K (.ref f) = some (.type "function")) (hz : rest'.length ≤ sizeLine)
   (h : ∀ e tp h', s.heap.get? e = none → s.heap.get? tp = none → (∀ b o, s.heap.get? b = some o → h'.get? b = some o) → tp < e → (∀ p ∈ rest, p.1 < tp) → Fr h₀ L h' m → News h₀ L h' ((e, excO tp none) :: (tp, tupO rest' 0) :: rest) →
     wpAny (model prog w) (A.under (.builtin "type.__call__" ⟨.ref 63 :: rest', []⟩)) (call (.ref f) (.ref e :: rest')) (fun v s' => v = .none ∧ Q (.ref e) s') E { s with heap := h' }) :
   wpAny (model prog w) A (call (.ref 63) rest') Q E s := by
  obtain ⟨hp, g, d, t, os⟩ := s
  have X := X₀.keeps F.keep
  have N2 := (N₀.push F (tupO rest' 0)).push (F.push _) (excO hp.objs.size none)
  rw [Heap.size_push] at N2
  refine xCall FB hb ha hn X (X _ _ hlk) hi hf (h (hp.objs.size + 1) hp.objs.size _ (Heap.get?_none_of_le (Nat.le_succ _)) (Heap.get?_none_of_le (Nat.le_refl _)) (fun b o q => Heap.get?_push_of_some _ (Heap.get?_push_of_some _ q)) (Nat.lt_succ_self _) (fun p hp' => Heap.lt_size (N₀.get hp')) ((F.push _).push _) N2) hz
end
section
variable {prog : Program} {w : World} {A : Around} {E : Value → Shared → Prop} {s : Shared} {h₀ : Heap} {L : Addr} {m : Str → Option Value} {rest : List (Addr × Obj)} {K : Frag}
theorem refuse_exc (self : Value) : refuseLoop self "__setattr__" [.ref 63, .ref 38, .type "Exception", .type "BaseException", .type "object"] = pure () := by
  rw [refuseLoop_ref, refuseLoop_ref]
  kernel_rfl
theorem excSet {name : Str} {v : Value} {e tp : Addr} {cd : ClassData} {Q : Unit → Shared → Prop} (F : Fr h₀ L s.heap m) (X₀ : K.In h₀) (N₀ : News h₀ L s.heap ((e, excO tp none) :: rest)) (hap : ∀ p ∈ rest, p.1 ≠ e)
   (hs : findIn K (.ref 63) "__setattr__" = some (some (.builtin "object.__setattr__"))) (hm : findIn K (.ref 63) name = some none) (hmo : mroIn K 63 (.type "object") = some true)
   (hc : clsIn K 63 = some cd) (hmro : cd.mro = [.ref 63, .ref 38, .type "Exception", .type "BaseException", .type "object"]) (hdi : cd.hasDict = true)
   (h : ∀ dd h' tk', Fr h₀ L h' m → News h₀ L h' ((e, excO tp (some dd)) :: rest) → Q () { s with heap := h', toks := tk' }) :
   wpAny (model prog w) A (setAttr (.ref e) name v) Q E s := by
  obtain ⟨hp, g, d, t, os⟩ := s
  have X := X₀.keeps F.keep
  have he : hp.get? e = some (excO tp none) := N₀.get (.head _)
  have I : InstAt hp e (excO tp none) 63 none := ⟨he, rfl, rfl, trivial⟩
  refine set_plain X I hs ?_
  have SF := PySem.F.store_object
  have sub : Looks (model prog w) hp (isInstance (.ref e) (.type "object")) true := I.type.andThen (looks_mroIn X hmo)
  refine codeAny_call_builtin SF.slot.plain SF.entry (@check_slot (model prog w) _ _ _ "object.__setattr__" "object" "__setattr__" (.ref e) [.str name t, v] [] _ SF.kind SF.split sub (SF.args (.ref e) (.str name t) v) ?_)
  rw [osa_eq, refuse_eq]
  have hmL : Looks (model prog w) hp (mroOf (.ref 63)) cd.mro := (looks_clsIn X hc).andThen .now
  refine wpAny_bind (wpAny_bind (I.type.here (wpAny_bind (hmL.here ?_))))
  rw [hmro, refuse_exc]
  refine wpAny_pure ?_
  refine wpAny_bind ?_
  refine Looks.here (s := ⟨hp, g, d, t + 1, os⟩) I.type ?_
  refine wpAny_bind ?_
  refine Looks.here (s := ⟨hp, g, d, t + 1, os⟩) (looks_findIn X hm) ?_
  refine wpAny_bind (wpAny_pure ?_)
  have F1 := F.push emptyDict
  have N1 := N₀.push F emptyDict
  have lt : e < hp.objs.size := Heap.lt_size he
  have N2 : News h₀ L (hp.push emptyDict) ([] ++ (e, excO tp none) :: ((hp.objs.size, emptyDict) :: rest)) := fun p hp' => N1 p (by
    rcases List.mem_cons.mp hp' with rfl | z
    · exact .tail _ (.head _)
    · rcases List.mem_cons.mp z with rfl | z
      · exact .head _
      · exact .tail _ (.tail _ z))
  obtain ⟨F3, N3⟩ := news_upd (f := fun o => { o with dict := some hp.objs.size }) (o' := excO tp (some hp.objs.size)) F1 N2 (fun _ hq => nomatch hq) (List.forall_mem_cons.mpr ⟨Nat.ne_of_gt lt, hap⟩) rfl rfl
  have D := N3.get (.tail _ (.head _))
  dsimp only
  show wpAny _ _ (PySem.Builtin.ObjectAttr.storeInOwnDict _ _ _ _ _ _) _ _ _
  unfold PySem.Builtin.ObjectAttr.storeInOwnDict
  refine wpAny_bind (wpAny_pure ?_)
  dsimp only
  rw [if_neg (by simp)]
  refine wpAny_bind ?_
  show wpAny _ _ (instanceDict e true) _ _ _
  unfold instanceDict
  refine wpAny_bind (wpAny_loadPart he ?_)
  dsimp only
  refine wpAny_bind ?_
  refine Looks.here (s := ⟨hp, g, d, t + 1, os⟩) (looks_clsIn X hc) ?_
  rw [hdi]
  rw [if_neg (by decide)]
  rw [if_neg (by decide)]
  refine wpAny_bind (wpAny_alloc ?_)
  refine wpAny_bind (wpAny_update (N1.get (.tail _ (.head _))) ?_)
  show wpAny _ _ (dictMade _ _ _) _ _ _
  unfold dictMade
  refine wpAny_pure ?_
  dsimp only
  show wpAny _ _ (PySem.Builtin.ObjectAttr.storeInDict _ _ _ _) _ _ _
  unfold PySem.Builtin.ObjectAttr.storeInDict
  refine wpAny_bind (wpAny_pure ?_)
  refine wpAny_bind ?_
  unfold nsSet
  refine wpAny_bind (wpAny_bind (wpAny_askSetting (wpAny_pure (wpAny_bind (wpAny_mkText (wpAny_bind (wpAny_loadPart D ?_)))))))
  show wpAny _ _ (if aRefKeyMayBeTheName name #[] = true then _ else _) _ _ _
  rw [if_neg (by rw [aRefKeyMayBeTheName_at]; simp)]
  have ltr : ∀ p ∈ rest, p.1 ≠ hp.objs.size := fun p hp' => Nat.ne_of_lt (Heap.lt_size (N₀.get (.tail _ hp')))
  have kk : ∀ (hsh : Int) (kv : Value), ∃ es n, Obj.putName name hsh kv v emptyDict = { cls := .type "dict", data := .dict es n } ∧ es.size ≤ 1 := fun hsh kv => by
    refine ⟨#[⟨hsh, kv, v⟩], 1, ?_, by simp⟩
    exact putName_dict name hsh kv v [] 0
  refine wpAny_updatePart D ?_
  obtain ⟨es, n, e1, e2⟩ := kk _ _
  obtain ⟨F5, N5⟩ := news_upd (pre := [(e, excO tp (some hp.objs.size))]) F3 N3 (fun p hq => by rw [List.mem_singleton.mp hq]; exact Nat.ne_of_lt lt) ltr e1 rfl
  have D' := N5.get (List.mem_append.mpr (.inr (.head _)))
  refine wpAny_bind (wpAny_lookBehind D' ?_ ?_)
  · exact pastItsLine_dict (by rw [sizeLine_eq]; omega)
  · refine wpAny_pure ?_
    exact h _ _ _ F5 (cb_drop N5 fun p hq => by
      rcases List.mem_cons.mp hq with rfl | z
      · exact .head _
      · exact List.mem_append.mpr (.inr (.tail _ z)))
end
local macro_rules | `(tactic| walk_at "getMethod type:Exception") => `(tactic| (k_here; refine' method_type ?F ?X ?m (by decide +kernel) ?e ?h ?_; (case F | X => k_asm); (case m => first | rfl | kernel_rfl); (case e => k_dflt k_is); (case h => k_handed)))
local macro_rules | `(tactic| walk_at "call builtin:Exception.__init__") => `(tactic| (k_here; k_dflt (refine' initLine PySem.F.excBase_Exception ?F ?X ?N ?ap ?k ?b ?_; (case F | X | N => k_asm); (case ap => k_all); (case k => k_is); (case b => rfl); k_whole); intros))
local macro_rules | `(tactic| walk_at "setAttr ref str") => `(tactic| (k_here; k_dflt (refine' excSet ?F ?X ?N ?ap ?a ?b ?c ?d ?e ?f ?_; (case F | X | N => k_asm); (case ap => k_all); (case a | b | c | d => k_is); (case e | f => rfl); k_whole); intros))
section
variable {M : Model} {A : Around} {s' : Shared} {E : Value → Shared → Prop} {base g : Heap} {outer : List Env} {L a e tp : Addr} {m : Str → Option Value} {name : Str} {scope : Scope} {cd : Value} {Q : Unit → Shared → Prop} {news : List (Addr × Obj)}
theorem leaveExc {vs : List Value} {dd : Option Addr} {n : Nat} (K : Below A base outer g) (F : Fr g L s'.heap m) (N : News g L s'.heap ((e, excO tp dd) :: (tp, tupO vs n) :: news)) (he : ∀ p ∈ news, p.1 ≠ e) (ht : ∀ p ∈ news, p.1 ≠ tp)
    (hQ : ∀ h', RaisedS base g outer e (.ref 63) tp vs news h' → RaisedK base outer e (.ref 63) tp vs news h' → g.UpToSlots h' → Q () { s' with heap := h' }) (hk : scope.kind = .function) :
    wpAny M (A.deeper (envOf name scope L a cd)) (leaving (envOf name scope L a cd) (.ref e)) Q E s' := by
  have K' := K.push (name := name) (a := a) (cd := cd) F hk
  generalize hfs : (envOf name scope L a cd :: outer).filterMap (·.frame) = fs at *
  have hin : ∀ env ∈ (envOf name scope L a cd :: outer), ∀ b, env.frame = some b → b ∈ fs ++ [e, tp] := fun env hm b hb => List.mem_append.mpr (.inl (hfs ▸ List.mem_filterMap.mpr ⟨env, hm, hb⟩))
  have nE := N.get (.head _)
  have nT := N.get (.tail _ (.head _))
  have gE : g.get? e = none := N.fresh (.head _)
  have gT : g.get? tp = none := N.fresh (.tail _ (.head _))
  have bE := fresh_of_stays K.stays gE
  have bT := fresh_of_stays K.stays gT
  have two : ∀ {b : Addr}, b ∉ fs → b ≠ e → b ≠ tp → b ∉ fs ++ [e, tp] := fun h1 h2 h3 hm => by
    rcases List.mem_append.mp hm with z | z
    · exact h1 z
    · rcases List.mem_cons.mp z with z | z
      · exact h2 z
      · exact h3 (List.mem_singleton.mp z)
  have st : base.StaysIn (hideAll s'.heap (fs ++ [e, tp])) := fun b o q => hideAll_get _ (K'.stays b o q) (two (fun hm => by rw [(K'.frames.mem (hfs ▸ hm)).1] at q; cases q) (fun z => by rw [z, bE] at q; cases q) fun z => by rw [z, bT] at q; cases q)
  have sg : ∀ b o, g.get? b = some o → b ∉ outer.filterMap (·.frame) → (hideAll s'.heap (fs ++ [e, tp])).get? b = some o := fun b o q nm => hideAll_get _ (F.keep b o q) (two (fun hm => by
    rcases kts_mem (hfs ▸ hm) with z | z
    · rw [z, kts_self F] at q; cases q
    · exact nm z) (fun z => by rw [z, gE] at q; cases q) fun z => by rw [z, gT] at q; cases q)
  have hl : ∀ q ∈ news, (hideAll s'.heap (fs ++ [e, tp])).get? q.1 = some q.2 ∧ g.get? q.1 = none ∧ base.get? q.1 = none := fun q hq => by
    have Nq := N q (.tail _ (.tail _ hq))
    refine ⟨hideAll_get _ Nq.1 (two (fun hm => ?_) (he q hq) (ht q hq)), Nq.2.2, fresh_of_stays K.stays Nq.2.2⟩
    rw [← hfs] at hm
    obtain ⟨env, hv, hf⟩ := List.mem_filterMap.mp hm
    rcases List.mem_cons.mp hv with rfl | hv
    · exact Nq.2.1 (Option.some.inj hf).symm
    · obtain ⟨o, ho, _⟩ := (K.frames.mem (List.mem_filterMap.mpr ⟨env, hv, hf⟩)).2
      rw [Nq.2.2] at ho; cases ho
  have hE : (hideAll s'.heap (fs ++ [e, tp])).get? e = none := hideAll_none _ (List.mem_append.mpr (.inr (.head _)))
  have hT : (hideAll s'.heap (fs ++ [e, tp])).get? tp = none := hideAll_none _ (List.mem_append.mpr (.inr (.tail _ (.head _))))
  refine wpAny_leaving_firstW (a0 := .ref tp) K'.stack (funFrames_hide K'.frames hin) rfl nE (fun b o q => of_hideAll _ q) hE rfl rfl rfl fun h' hL => ?_
  obtain ⟨k1, ⟨_, _, k2⟩, k3, k4⟩ := hL
  have R : RaisedS base g outer e (.ref 63) tp vs news h' := ⟨⟨_, st, sg, hl, ⟨k1, hE, k2, k3⟩, hT⟩, Heap.TupAt.of_slots ⟨_, _, nT, rfl, rfl⟩ k4⟩
  exact hQ h' R R.toK ((Heap.UpToSlots.of_keeps F.keep).trans k4)
end
section
variable {M : Model} {A : Around} {E : Value → Shared → Prop} {env : Env}
variable {nm q : Str} {N : Addr} {bs bm : List Value} {hdct : Bool} {sn : List Str} {sub : List Value} {ab : Bool} {col : Option Bool} {dd : Option Addr} {k0 k1 k2 k3 k5 : Option Value} {newId : String}
theorem xRaise {s : Shared} {x : Sem Value} {Q : Flow → Shared → Prop} (hbase : bm.contains (.type "BaseException") = true) (hh : A.handled = none)
    (h : wpAny M A x (fun v s₁ => ∃ e t d, v = .ref e ∧ s₁.heap.get? 63 = some (excClassObj nm q 63 N bs bm hdct sn sub ab col dd k0 k1 k2 k3 k5 newId) ∧ s₁.heap.get? e = some (excO t d) ∧ E (.ref e) s₁) E s) :
    wpAny M A (raiseStmt env (some x) none) Q E s := by
  have hcB : (Value.ref 63 :: bm).contains (.type "BaseException") = true := by rw [List.contains_cons, hbase, Bool.or_true]
  unfold raiseStmt
  refine wpAny_bind (wpAny_mono h (fun v s₁ h₁ => ?_) fun _ _ x => x)
  obtain ⟨e, t, d, rfl, hC, he, hE⟩ := h₁
  obtain ⟨hp, g, dr, tk, os⟩ := s₁
  repeat (first | with_reducible refine wpAny_loadPart_at he ?_ | with_reducible refine wpAny_loadPart_at hC ?_ | (with_reducible refine wpAny_isSubtype_exc hC ?_; rw [hcB]) | wp_step)
  exact wpAny_raiseNew_none hh hE
theorem xRaiseStmt {s : Shared} {c : Expr} {pos : Pos} {Q : Flow → Shared → Prop} (hbase : bm.contains (.type "BaseException") = true) (hh : A.handled = none)
    (h : wpAny M A (eval c env) (fun v s₁ => ∃ e t d, v = .ref e ∧ s₁.heap.get? 63 = some (excClassObj nm q 63 N bs bm hdct sn sub ab col dd k0 k1 k2 k3 k5 newId) ∧ s₁.heap.get? e = some (excO t d) ∧ E (.ref e) s₁) E s) :
    wpAny M A (exec (.Raise (some c) none pos) env) Q E s := by
  rw [arm_exec_Raise]
  have h' : wpAny M A (eval c env >>= fun v => standAt pos >>= fun _ => pure v) (fun v s₁ => ∃ e t d, v = .ref e ∧ s₁.heap.get? 63 = some (excClassObj nm q 63 N bs bm hdct sn sub ab col dd k0 k1 k2 k3 k5 newId) ∧ s₁.heap.get? e = some (excO t d) ∧ E (.ref e) s₁) E s :=
    wpAny_bind (wpAny_mono h (fun v s₃ h₃ => wpAny_bind (wpAny_standAt (wpAny_pure h₃))) fun _ _ x => x)
  first
    | exact wpAny_bind (wpAny_standAt (xRaise hbase hh h'))
    | exact xRaise hbase hh h'
    | (simp only [evalOpt, Option.map]; exact wpAny_bind (wpAny_standAt (xRaise hbase hh h')))
    | (simp only [evalOpt, Option.map]; exact wpAny_bind (wpAny_bind (wpAny_standAt (wpAny_pure (xRaise hbase hh h')))))
    | (trace_state; done)
end
section
variable {h9 : Heap} {A9 : Around}
theorem init_c {e tp : Addr} {msg : Str} {t : Tok} {n : Nat} (hap : ∀ p ∈ (tp, tupO [.str msg t] n) :: news, p.1 ≠ e) 
   (C : Site w p loose mean mg mb A₀ base outer h₀ L m ((e, excO tp none) :: (tp, tupO [.str msg t] n) :: news) s.heap cs dp un 5 70)
   (hret : ∀ (dd tp' : Addr) (h' : Heap) (tk' : Nat),  Fr h₀ L h' m → News h₀ L h' ((e, excO tp' (some dd)) :: (tp', tupO [.str msg t] 0) :: news) → (∀ q ∈ news, q.1 ≠ tp') → Q .none { s with heap := h', toks := tk' }) :
   wpAny (model PR w) (ktrTop dp un gd cn cs L a ccd cl outer) (call (.ref 35) [.ref e, .str msg t]) Q E s := by
  obtain ⟨B, F, X, N, T, hk, hd, hu⟩ := C
  w_on
  w_strict (refine wpAny_call ?_; k_dflt cell_enter; k_steps; all_goals (refine hret _ _ _ _ (by assumption) (cb_drop (by assumption) (by intro p hp; (rcases List.mem_cons.mp hp with rfl | hp); exact .head _; (rcases List.mem_cons.mp hp with rfl | hp); exact .tail _ (.head _); exact .tail _ (.tail _ (.tail _ hp)))) (fun q hq => by exact ‹∀ p ∈ (tp, tupO [.str msg t] n) :: news, p.1 ≠ _› q (.tail _ hq))))
theorem pf_c {msg : Str} {t : Tok} (C : Site w p loose mean mg mb A₀ base outer h₀ L m news s.heap cs dp un 8 80)
   (hret : ∀ (e dd tp' : Addr) (h' : Heap) (tk' : Nat), Fr h₀ L h' m → News h₀ L h' ((e, excO tp' (some dd)) :: (tp', tupO [.str msg t] 0) :: news) → (∀ q ∈ news, q.1 ≠ e) → (∀ q ∈ news, q.1 ≠ tp') → Q (.ref e) { s with heap := h', toks := tk' }) :
   wpAny (model PR w) (ktrTop dp un gd cn cs L a ccd cl outer) (call (.ref 63) [.str msg t]) Q E s := by
  obtain ⟨B, F, X, N, T, hk, hd, hu⟩ := C
  refine callLine (f := 35) PySem.F.excBase_Exception F X N (by k_is) rfl rfl rfl (by k_is) (by k_is) (by simp [sizeLine]) (fun e tp h' _ _ _ hlt hap F' N' => ?_)
  have hA : (ktrTop dp un gd cn cs L a ccd cl outer).under (.builtin "type.__call__" ⟨[.ref 63, .str msg t], []⟩) = ktrTop (dp + 1) (un + 1) gd cn cs L a ccd cl outer := rfl
  rw [hA]
  have hap9 : ∀ p ∈ (tp, tupO [.str msg t] 0) :: news, p.1 ≠ e := List.forall_mem_cons.mpr ⟨Nat.ne_of_lt hlt, fun q hq => Nat.ne_of_lt (Nat.lt_trans (hap q hq) hlt)⟩
  exact init_c (dp := dp + 1) (un := un + 1) (s := { s with heap := h' }) hap9 ⟨B, F', X, N', T, hk, by omega, by omega⟩ (fun dd tp' h2 tk2 F2 N2 ht2 => ⟨rfl, hret e dd tp' h2 tk2 F2 N2 (fun q hq => hap9 q (.tail _ hq)) ht2⟩)
end
def RaisableK (E : Value → Shared → Prop) (h₀ : Heap) (L : Addr) (v : Value) (s₁ : Shared) : Prop :=
  ∃ e t d rest m', v = .ref e ∧ Fr h₀ L s₁.heap m' ∧ News h₀ L s₁.heap ((e, excO t d) :: rest) ∧ E (.ref e) s₁
theorem xRaiseK {prog : Program} {A : Around} {E : Value → Shared → Prop} {env : Env} {K : Frag} {nm q : Str} {N : Addr} {bs bm : List Value} {hdct : Bool} {sn : List Str} {sub : List Value} {ab : Bool} {col : Option Bool} {dd : Option Addr} {k0 k1 k2 k3 k5 : Option Value} {newId : String}
   {c : Expr} {pos : Pos} {Q : Flow → Shared → Prop} (F₀ : Fr h₀ L s.heap m) (X : K.In h₀) (hlk : K.lookup 63 = some (excClassObj nm q 63 N bs bm hdct sn sub ab col dd k0 k1 k2 k3 k5 newId)) (hbase : bm.contains (.type "BaseException") = true) (hh : A.handled = none)
   (h : wpAny (model prog w) A (eval c env) (RaisableK E h₀ L) E s) : wpAny (model prog w) A (exec (.Raise (some c) none pos) env) Q E s :=
  xRaiseStmt hbase hh (wpAny_mono h (fun v s₁ h₁ => by
    obtain ⟨e, t, d, rest, m', rfl, F, N, hE⟩ := h₁
    exact ⟨e, t, d, rfl, X.keeps F.keep _ _ hlk, N.get (.head _), hE⟩) fun _ _ x => x)
theorem raisableK_mk {E : Value → Shared → Prop} {e t : Addr} {d : Option Addr} {rest : List (Addr × Obj)} (F : Fr h₀ L s.heap m) (N : News h₀ L s.heap ((e, excO t d) :: rest)) (h : E (.ref e) s) : RaisableK E h₀ L (.ref e) s :=
  ⟨e, t, d, rest, m, rfl, F, N, h⟩
local macro_rules | `(tactic| walk_at "call ref") => `(tactic| (tbr_iter 63; k_dflt (refine' pf_c ?tbS ?_; (case tbS => tb_start)); intro e9 dd9 tp9 h9 tk9 F9 N9 he9 ht9; (try dsimp only); (try (refine raisableK_mk F9 N9 ?_))))
local macro_rules | `(tactic| walk_at "exec Raise some none") => `(tactic| (k_here; (with_reducible rename Fr _ _ _ _ => kF); k_dflt (refine' xRaiseK kF ?X ?hlk ?hb ?hh ?_; (case X => k_asm); (case hlk => k_is); (case hb | hh => rfl))))
local macro_rules | `(tactic| walk_at "leaving ref") => `(tactic| (k_here; (refine' leaveExc ?K ?F ?N ?he ?ht ?_ ?hk; (case N | F | K => k_asm); (case he | ht => assumption); (case hk => rfl); k_whole; intro h8 R8 K8 U8; (try dsimp only at R8 K8 U8 ⊢))))
theorem bu_z {tx : Tok} {na : Addr} {on : Obj} {kvs : List (Str × Value)}
   (hn : (na, on) ∈ news) (hno : on.IsDictOf (strKind PR w) kvs) (hnf : PyProof.V.FlatPairs PyData.str kvs [(.str "p", .str "u:1"), (.str "q", .str "u:2")]) (hnl : (na == sysModules) = false)
   (C : Site w p loose mean mg mb A₀ base outer h₀ L m news s.heap cs dp un 12 120)
   (hraise : ∀ (e t : Addr) (vs : List Value) (g₂ h' : Heap) (tk' : Nat), Fr h₀ L g₂ m → RaisedS base g₂ (envX cn cs L a ccd cl :: outer) e (.ref 63) t vs news h' → g₂.UpToSlots h' → E (.ref e) { s with heap := h', toks := tk' }) :
   wpAny (model PR w) (ktrTop dp un gd cn cs L a ccd cl outer) (call (.ref 79) [.str "z" tx, .ref na]) Q E s := by
  obtain ⟨B, F, X, N, T, hk, hd, hu⟩ := C
  w_on
  w_strict (refine wpAny_call ?_; k_dflt cell_enter; k_steps; all_goals (exact hraise _ _ _ _ _ _ (by assumption) (by assumption) (by assumption)))
local macro_rules | `(tactic| walk_at "leaving ref") => `(tactic| (k_here; (refine' leave_onS ?k1 ?k2 ?k3 ?k4 ?_; (case k3 | k2 | k1 | k4 => assumption); k_whole; intro h8 R8 K8 U8; (try dsimp only at R8 K8 U8 ⊢))))
local macro_rules | `(tactic| walk_at "call ref") => `(tactic| (tbr_iter 79; k_dflt (refine' bu_z ?n1 ?n2 ?n3 ?n4 ?tbS ?_; (case tbS => tb_start); (case n1 => k_mem); (case n2 | n3 | n4 => assumption)); intros; wtm_at "f"))
theorem nam_z {tr : Addr} {node : Int} {tn : Tok} {na : Addr} {on : Obj} {kvs : List (Str × Value)} {ts : Addr} {nn : Str} {k0 k1 k2 : Tok} {n2 : Nat}
   (hn : (na, on) ∈ news) (hno : on.IsDictOf (strKind PR w) kvs) (hnf : PyProof.V.FlatPairs PyData.str kvs [(.str "p", .str "u:1"), (.str "q", .str "u:2")]) (hnl : (na == sysModules) = false)
   (ht : (ts, ({ cls := .type "tuple", data := .seq #[.str "name" k0, .str "z" k1, .str nn k2] n2 } : Obj)) ∈ news)
   (C : Site w p loose mean mg mb A₀ base outer h₀ L m news s.heap cs dp un 16 160)
   (hraise : ∀ (e t : Addr) (vs : List Value) (g₂ h' : Heap) (tk' : Nat), Fr h₀ L g₂ m → RaisedS base g₂ (envX cn cs L a ccd cl :: outer) e (.ref 63) t vs news h' → g₂.UpToSlots h' → E (.ref e) { s with heap := h', toks := tk' }) :
   wpAny (model PR w) (ktrTop dp un gd cn cs L a ccd cl outer) (call (.ref 86) [.ref tr, .int node tn, .ref ts, .ref na]) Q E s := by
  obtain ⟨B, F, X, N, T, hk, hd, hu⟩ := C
  w_on
  w_strict (refine wpAny_call ?_; k_dflt cell_enter; k_steps; all_goals (exact hraise _ _ _ _ _ _ (by assumption) (by assumption) (by assumption)))
theorem raisedS_drop {cls : Value} {e t : Addr} {vs : List Value} {g h : Heap} {news' : List (Addr × Obj)} (R : RaisedS base g outer e cls t vs news h) (hs : ∀ p ∈ news', p ∈ news) : RaisedS base g outer e cls t vs news' h := by
  obtain ⟨⟨B, hB, hBG, hl, hfl, hnew⟩, htup⟩ := R
  exact ⟨⟨B, hB, hBG, fun q hq => hl q (hs q hq), hfl, hnew⟩, htup⟩
local macro_rules | `(tactic| walk_at "call ref") => `(tactic| (tbr_iter 86; k_dflt (refine' nam_z ?n1 ?n2 ?n3 ?n4 ?ht ?tbS ?_; (case tbS => tb_start); (case ht | n1 => k_mem); (case n2 | n3 | n4 => assumption)); intros; wtm_at "f"))
theorem pas_name_z {tr dT rw rr dr : Addr} {vs : List Value} {nr : Nat} {node : Int} {kd nm ur lc : Str} {q0 q1 q2 q3 q4 q5 q6 q7 q8 q9 q10 q11 q12 q13 tn : Tok} {v1 v2 v3 v4 v5 : Value} {na : Addr} {on : Obj} {kvs : List (Str × Value)} {ts : Addr} {ax nn : Str} {tx k0 k1 k2 : Tok} {n2 : Nat}
   (hT1 : base.get? tr = some (instObj 300 dT)) (hT2 : base.get? dT = some (dictOf [⟨PyData.keyHash w.params "rows", .str "rows" q0, .ref rw⟩] 1)) (hT3 : base.get? rw = some (listOf vs.toArray nr))
   (hT4 : vs[node.toNat]? = some (.ref rr)) (hn0 : 0 ≤ node) (hn1 : node < vs.length) (hn2 : vs.length < 2 ^ 32) (hT5 : base.get? rr = some (instObj 111 dr))
   (hT6 : base.get? dr = some (dictOf [⟨PyData.keyHash w.params "kind", .str "kind" q1, .str kd q2⟩, ⟨PyData.keyHash w.params "name", .str "name" q3, .str nm q4⟩, ⟨PyData.keyHash w.params "uri", .str "uri" q5, .str ur q6⟩, ⟨PyData.keyHash w.params "local", .str "local" q7, .str lc q8⟩, ⟨PyData.keyHash w.params "value", .str "value" q9, v1⟩, ⟨PyData.keyHash w.params "parent", .str "parent" q10, v2⟩, ⟨PyData.keyHash w.params "children", .str "children" q11, v3⟩, ⟨PyData.keyHash w.params "attributes", .str "attributes" q12, v4⟩, ⟨PyData.keyHash w.params "namespaces", .str "namespaces" q13, v5⟩] 9))
   (hn : (na, on) ∈ news) (hno : on.IsDictOf (strKind PR w) kvs) (hnf : PyProof.V.FlatPairs PyData.str kvs [(.str "p", .str "u:1"), (.str "q", .str "u:2")]) (hnl : (na == sysModules) = false)
   (ht : (ts, ({ cls := .type "tuple", data := .seq #[.str "name" k0, .str "z" k1, .str nn k2] n2 } : Obj)) ∈ news)
   (C : Site w p loose mean mg mb A₀ base outer h₀ L m news s.heap cs dp un 20 200)
   (hraise : ∀ (e t : Addr) (vs : List Value) (g₂ h' : Heap) (tk' : Nat), Fr h₀ L g₂ m → RaisedS base g₂ (envX cn cs L a ccd cl :: outer) e (.ref 63) t vs news h' → g₂.UpToSlots h' → E (.ref e) { s with heap := h', toks := tk' }) :
   wpAny (model PR w) (ktrTop dp un gd cn cs L a ccd cl outer) (call (.ref 93) [.ref tr, .int node tn, .str ax tx, .ref ts, .ref na]) Q E s := by
  obtain ⟨B, F, X, N, T, hk, hd, hu⟩ := C
  w_on
  w_strict (refine wpAny_call ?_; k_dflt cell_enter; k_steps; all_goals (exact hraise _ _ _ _ _ _ (by assumption) (raisedS_drop (by assumption) (by intro p hp; k_mem)) (by assumption)))
theorem pas_of_z {tr dT rw rr dr : Addr} {vs : List Value} {nr : Nat} {node : Int} {kd nm ur lc : Str} {q0 q1 q2 q3 q4 q5 q6 q7 q8 q9 q10 q11 q12 q13 tn : Tok} {v1 v2 v3 v4 v5 : Value} {na : Addr} {on : Obj} {kvs : List (Str × Value)} {ts : Addr} {ax nn : Str} {tx k0 k1 k2 : Tok} {n2 : Nat}
   (hT1 : base.get? tr = some (instObj 300 dT)) (hT2 : base.get? dT = some (dictOf [⟨PyData.keyHash w.params "rows", .str "rows" q0, .ref rw⟩] 1)) (hT3 : base.get? rw = some (listOf vs.toArray nr))
   (hT4 : vs[node.toNat]? = some (.ref rr)) (hn0 : 0 ≤ node) (hn1 : node < vs.length) (hn2 : vs.length < 2 ^ 32) (hT5 : base.get? rr = some (instObj 111 dr))
   (hT6 : base.get? dr = some (dictOf [⟨PyData.keyHash w.params "kind", .str "kind" q1, .str kd q2⟩, ⟨PyData.keyHash w.params "name", .str "name" q3, .str nm q4⟩, ⟨PyData.keyHash w.params "uri", .str "uri" q5, .str ur q6⟩, ⟨PyData.keyHash w.params "local", .str "local" q7, .str lc q8⟩, ⟨PyData.keyHash w.params "value", .str "value" q9, v1⟩, ⟨PyData.keyHash w.params "parent", .str "parent" q10, v2⟩, ⟨PyData.keyHash w.params "children", .str "children" q11, v3⟩, ⟨PyData.keyHash w.params "attributes", .str "attributes" q12, v4⟩, ⟨PyData.keyHash w.params "namespaces", .str "namespaces" q13, v5⟩] 9))
   (hn : (na, on) ∈ news) (hno : on.IsDictOf (strKind PR w) kvs) (hnf : PyProof.V.FlatPairs PyData.str kvs [(.str "p", .str "u:1"), (.str "q", .str "u:2")]) (hnl : (na == sysModules) = false)
   (ht : (ts, ({ cls := .type "tuple", data := .seq #[.str "any of" k0, .str "z" k1] n2 } : Obj)) ∈ news)
   (C : Site w p loose mean mg mb A₀ base outer h₀ L m news s.heap cs dp un 20 200)
   (hraise : ∀ (e t : Addr) (vs : List Value) (g₂ h' : Heap) (tk' : Nat), Fr h₀ L g₂ m → RaisedS base g₂ (envX cn cs L a ccd cl :: outer) e (.ref 63) t vs news h' → g₂.UpToSlots h' → E (.ref e) { s with heap := h', toks := tk' }) :
   wpAny (model PR w) (ktrTop dp un gd cn cs L a ccd cl outer) (call (.ref 93) [.ref tr, .int node tn, .str ax tx, .ref ts, .ref na]) Q E s := by
  obtain ⟨B, F, X, N, T, hk, hd, hu⟩ := C
  w_on
  w_strict (refine wpAny_call ?_; k_dflt cell_enter; k_steps; all_goals (exact hraise _ _ _ _ _ _ (by assumption) (raisedS_drop (by assumption) (by intro p hp; k_mem)) (by assumption)))
section SModC
def LeaveT (A₀ : Around) (base : Heap) (outer : List Env) (env : Env) (h₀ : Heap) (L : Addr) (m : Str → Option Value) (g : Heap) (R : Result → Shared → Prop) (v : Value) (s' : Shared) : Prop :=
  ∃ g' L' m' news', KtsTurn ((env :: outer).filterMap (·.frame)) g g' ∧ Fr g' L' s'.heap m' ∧ News g' L' s'.heap news' ∧
    ∀ h₀', KtsTurn (outer.filterMap (·.frame)) h₀ h₀' → Fr h₀' L s'.heap m → News h₀' L s'.heap news' → Below A₀ base outer h₀' → R (.ok (.ret v)) s'
theorem groundT {A : Around} {env : Env} {R : Result → Shared → Prop} (B : Below A₀ base outer h₀) (F : Fr h₀ L s.heap m) (N : News h₀ L s.heap news) (hA : A.frames = some (env :: outer)) (hf : env.frame = some L) (hke : env.scope.kind = .function) (v : Value) (s' : Shared)
    (hl : LeaveT A₀ base outer env h₀ L m (hideAll s.heap (news.map (·.1))) R v s') : R (.ok (.ret v)) s' := by
  obtain ⟨FG, BG, st, _⟩ := groundX (R := R) B F N hA hf hke
  obtain ⟨g', L', m', news', T', F', N', k⟩ := hl
  obtain ⟨oL, es, ep, hLg, hLd, hLk, hLf⟩ := FG.ns
  have nL₀ : h₀.get? L = none := kts_self F
  obtain ⟨sl, hs⟩ := T'.up hLg
  have mem : ∀ b, b ∈ (env :: outer).filterMap (·.frame) → b = L ∨ b ∈ outer.filterMap (·.frame) := fun b hb => by
    rw [List.filterMap_cons, hf] at hb
    exact List.mem_cons.mp hb
  obtain ⟨T₁, S₁⟩ := kts_turn_at (h := s'.heap) (fs := outer.filterMap (·.frame)) (g := h₀)
    (fun b hb => by
      obtain ⟨_, o, ho', _⟩ := B.frames.mem hb
      exact ⟨o, ho'⟩)
    (fun b o e nmem => F'.keep b o (T'.other b o (st b o e) (fun q => by
      rcases mem b q with z | z
      · rw [z, nL₀] at e; cases e
      · exact nmem z)))
    (fun b o e hm => by
      obtain ⟨sl', hs'⟩ := T'.up (st b o e)
      exact ⟨sl', F'.keep _ _ hs'⟩)
  have B₃ : Below A₀ base outer (ktsHeap s'.heap (outer.filterMap (·.frame)) h₀) := ⟨B.stack, fun b o e => T₁.other b o (B.stays b o e) (fun hm => by
    rw [(B.frames.mem hm).1] at e
    cases e), B.frames.of_keeps fun b o e _ => by
    obtain ⟨sl', hs'⟩ := T₁.up e
    exact ⟨_, hs', rfl⟩⟩
  refine k _ T₁ ⟨⟨_, es, ep, F'.keep _ _ hs, hLd, hLk, hLf⟩, S₁, by rw [T₁.size]; exact F.above⟩ (fun p hp => ⟨(N' p hp).1, fun q => ?_, ?_⟩) B₃
  · have := (N' p hp).2.2; rw [q, hs] at this; cases this
  · cases q : h₀.get? p.1 with
    | none => exact T₁.none_ _ q
    | some o =>
      obtain ⟨sl', hs'⟩ := T'.up (st _ _ q)
      have := (N' p hp).2.2
      rw [hs'] at this
      cases this
theorem callT {prog : Program} {A : Around} {K : Frag} {env : Env} {R : Result → Shared → Prop} {name qual : Str} {params : Arguments} {body : List Stmt} {scope : Scope} {dV kV doc pm cdv ct oc : Value} {an od : Option Addr} {osl : Array (Option Value)} {f : Addr} {args : Args} {binds : List (Str × Value)}
    (B : Below A₀ base outer h₀) (F : Fr h₀ L s.heap m) (X₀ : K.In h₀) (N : News h₀ L s.heap news) (T : Top p loose mean mg mb h₀) (D : KtsDicts (outer.filterMap (·.frame)) h₀) (hA : A.frames = some (env :: outer)) (hf : env.frame = some L) (hke : env.scope.kind = .function)
    (ho : K.lookup f = some ⟨oc, od, .func (fnOf name qual params body scope dV kV doc pm an cdv ct), osl⟩) (hcd : codeIn K cdv qual = true) (hroom : A.depth < recursionLimit)
    (hbind : BindsTo s (fnOf name qual params body scope dV kV doc pm an cdv ct) args binds) (hloc : ∀ y ∈ binds, scope.names.lookup y.1 = some .local)
    (h : ∀ g L' h₁, Fr h₀ L g m → Fr g L' h₁ (fun y => binds.reverse.lookup y) → News g L' h₁ news → Below A base (env :: outer) g → K.In g → Top p loose mean mg mb g → KtsDicts ((env :: outer).filterMap (·.frame)) g →
      wpAny (model prog w) (A.deeper (envOf qual scope L' f cdv)) (execs body (envOf qual scope L' f cdv))
        (fun fl s' => LeaveT A₀ base outer env h₀ L m g R (match fl with | .ret v => v | _ => .none) s')
        (fun e s' => wpAny (model prog w) (A.deeper (envOf qual scope L' f cdv)) (leaving (envOf qual scope L' f cdv) e) (fun _ s'' => R (.error e) s'') (fun e' s'' => R (.error e') s'') s')
        { s with heap := h₁, toks := s.toks + binds.length })
    (hcell : ∀ x ∈ scope.names, x.2 ≠ .cell) (hco : scope.isCoroutine = false := by rfl) (hgen : scope.isGenerator = false := by rfl) (hk : scope.kind = .function := by rfl) : codeAny (model prog w) A (.call (.ref f) args) R s := by
  obtain ⟨FG, BG, st, _⟩ := groundX (R := R) B F N hA hf hke
  have X := X₀.keeps F.keep
  refine codeAny_call_def (fd := fnOf name qual params body scope dV kV doc pm an cdv ct) (body := body) (binds := binds) hroom (X _ _ ho) rfl (T.nolimit.keeps F.keep) (codeRec_of X hcd) rfl hbind hcell hloc (fun h₁ hns hk₁ => ?_) hco hgen hk
  refine wpAny_mono (h _ s.heap.objs.size h₁ FG ⟨hns, fun b o e => hk₁ b o (of_hideAll _ e), Nat.le_of_eq (hideAll_size _ _)⟩
    (fun p hp => ⟨hk₁ _ _ (N p hp).1, Nat.ne_of_lt (Heap.lt_size (N p hp).1), hideAll_none _ (List.mem_map_of_mem hp)⟩) BG (X₀.keeps st) (T.keeps st) (fun b hb => ?_)) (fun fl s' hl => groundT B F N hA hf hke _ _ hl) fun _ _ y => y
  rw [List.filterMap_cons, hf] at hb
  rcases List.mem_cons.mp hb with rfl | hb
  · obtain ⟨oL, es, ep, hLg, hLd, _⟩ := FG.ns
    exact ⟨oL, es, ep, hLg, hLd⟩
  · obtain ⟨o, es', n', ho', hd'⟩ := D b hb
    exact ⟨o, es', n', st b o ho', hd'⟩
end SModC
section SModD
def Callee (w : World) (p : Program) (loose : List Str) (mean : ExcName → Option Value) (mg mb : Str → Option Value) (base : Heap) (news : List (Addr × Obj)) (fa : Addr) (V : Value → Prop) (R : Prop) : Prop :=
  ∀ (dp un : Nat) (gd : Option (List Code)) (cn : Str) (cs : Scope) (L a : Addr) (ccd : Value) (cl : List (Str × Addr)) (outer : List Env) (A₀ : Around) (g : Heap) (m : Str → Option Value) (s : Shared) (Q E : Value → Shared → Prop),
    Site w p loose mean mg mb A₀ base outer g L m news s.heap cs dp un 25 300 →
    (∀ v h' tk', V v → Fr g L h' m → News g L h' news → Q v { s with heap := h', toks := tk' }) →
    (R → ∀ (e t : Addr) (vs : List Value) (g₂ h' : Heap) (tk' : Nat), Fr g L g₂ m → RaisedS base g₂ (envX cn cs L a ccd cl :: outer) e (.ref 63) t vs news h' → g₂.UpToSlots h' → E (.ref e) { s with heap := h', toks := tk' }) →
    wpAny (model PR w) (ktrTop dp un gd cn cs L a ccd cl outer) (call (.ref fa) []) Q E s
theorem cw0 {M : Model} {A : Around} {env : Env} {pos : Pos} {f : Addr} {o : Obj} {fd : FuncData} {first : List Value} (N : News h₀ L s.heap news) (hm : (f, o) ∈ news) (hdat : o.data = .func fd) (h : wpAny M A (call (.ref f) first) Q E s) : wpAny M A (callWith pos (.ref f) first (backTo pos (starEach [] env)) []) Q E s :=
  callWith_meth0 hdat (N.get hm) h
local macro_rules | `(tactic| walk_at "callWith ref nil nil") => `(tactic| (k_here; k_dflt (refine' cw0 ?n ?m ?d ?_; (case n => k_asm); (case m => k_mem); (case d => assumption); k_whole)))
theorem told_c {of : Obj} {fd : FuncData} {fa : Addr} {V : Value → Prop} {R : Prop} (XB : (hd.heap_1 w.params).In base) (TB : Top p loose mean mg mb base) (D : KtsDicts (outer.filterMap (·.frame)) h₀)
   (hfa : (fa, of) ∈ news) (hfd : of.data = .func fd) (hc : Callee w p loose mean mg mb base news fa V R)
   (C : Site w p loose mean mg mb A₀ base outer h₀ L m news s.heap cs dp un 30 350)
   (hret : ∀ v h' tk' h₀', (V v ∨ (R ∧ ∃ t, v = .str "fault" t)) → KtsTurn (outer.filterMap (·.frame)) h₀ h₀' → Fr h₀' L h' m → News h₀' L h' news → Below A₀ base outer h₀' → Q v { s with heap := h', toks := tk' }) :
   wpAny (model PR w) (ktrTop dp un gd cn cs L a ccd cl outer) (call (.ref 367) [.ref fa]) Q E s := by
  obtain ⟨B, F, X, N, T, hk, hd, hu⟩ := C
  w_on
  w_strict (refine wpAny_call ?_; (refine' callT ?k1 ?k2 ?k3 ?k4 ?k5 ?kD ?kA ?kF ?kK ?k6 ?k7 ?k8 ?k9 ?kB ?_ ?c2 ?c3 ?c4 ?c5; (case kA => exact rfl); (case kF => exact rfl); (case kK => assumption); (case kD => assumption); (case k1 => k_asm); (case k2 => k_asm); (case k3 => k_asm); (case k4 => k_asm); (case k5 => k_asm); (case k6 => k_is); (case k7 => k_is); (case k8 => ktr_room); (case k9 => exact BindsTo.of_eq rfl); (case c2 => decide); (case kB => exact locs rfl); (case c5 => exact rfl); (case c3 => exact rfl); (case c4 => exact rfl); k_whole; intro g' L' h' FG' F' N' B' X' T' D'; (try dsimp only); (try k_lift B'); (try k_fold)); k_steps; (refine' hc _ _ _ _ _ _ _ _ _ _ _ _ _ _ _ _ ?tbS ?hV ?hR); (case tbS => tb_start); (case hV => intro v9 h9 tk9 hv9 F9 N9; (try dsimp only); (try k_fold); k_steps; exact ⟨_, _, _, _, KtsTurn.refl, F9, N9, fun h9' T9 F9' N9' B9' => hret _ _ _ h9' (.inl hv9) T9 F9' N9' B9'⟩); (case hR => intro hr9 e9 t9 vs9 g9 h9 tk9 F9 R9 U9; (try dsimp only); (try k_fold); k_steps; (try dsimp only); k_unfold; (try dsimp only); exact ⟨_, _, _, _, by assumption, by assumption, by (with_reducible assumption), fun h9' T9 F9' N9' B9' => hret _ _ _ h9' (.inr ⟨hr9, _, rfl⟩) T9 F9' N9' B9'⟩))
end SModD
section SModB
theorem ints_of : ∀ (vs : List Value), (∀ (j : Nat) (v : Value), vs[j]? = some v → ∃ (k : Int) (t : Tok), v = .int k t) → ∃ ns, IntsAre vs ns
  | [], _ => ⟨[], .nil⟩
  | x :: r, h => by
    obtain ⟨k, t, e⟩ := h 0 x rfl
    obtain ⟨ns, I⟩ := ints_of r fun j v e => h (j + 1) v (by simpa using e)
    subst e
    exact ⟨k :: ns, .cons k t I⟩
theorem ints_mem : ∀ {vs : List Value} {ns : List Int}, IntsAre vs ns → ∀ (i : Nat) (v : Value), vs[i]? = some v → ∃ (k : Int) (t : Tok), v = .int k t ∧ k ∈ ns
  | _, _, .nil, i, v, h => by simp at h
  | _, _, .cons a u r, 0, v, h => by simp at h; exact ⟨a, u, h.symm, .head _⟩
  | _, _, .cons a u r, i + 1, v, h => by
    obtain ⟨k, t, e, hm⟩ := ints_mem r i v (by simpa using h)
    exact ⟨k, t, e, .tail _ hm⟩
theorem ints_back : ∀ {vs : List Value} {ns : List Int}, IntsAre vs ns → ∀ k ∈ ns, ∃ (i : Nat) (t : Tok), vs[i]? = some (.int k t)
  | _, _, .nil, k, h => nomatch h
  | _, _, .cons a u r, k, h => by
    rcases List.mem_cons.mp h with e | h
    · exact ⟨0, u, by rw [e]; rfl⟩
    · obtain ⟨i, t, e⟩ := ints_back r k h
      exact ⟨i + 1, t, by simpa using e⟩
theorem value_mem {K : Type} [DecidableEq K] : ∀ {kvs : List (K × Value)} {k : K} {x : Value}, (kvs.map (·.1)).Nodup → (k, x) ∈ kvs → valueAt kvs k = some x
  | [], _, _, _, h => nomatch h
  | (k', x') :: r, k, x, hn, h => by
    unfold valueAt
    rw [List.map_cons, List.nodup_cons] at hn
    rw [List.find?_cons]
    rcases List.mem_cons.mp h with e | h
    · cases e
      simp
    · have ne : ¬ k' = k := fun e => hn.1 (by subst e; exact List.mem_map.mpr ⟨_, h, rfl⟩)
      simp only [ne, decide_false]
      exact value_mem hn.2 h
theorem book_sorted {prog : Program} {A : Around} {bk : Addr} {ob : Obj} {kvs : List (Int × Value)} {Q : Value → Shared → Prop} (hh : A.handled = none) (F : Fr h₀ L s.heap m) (N : News h₀ L s.heap news) (hm : (bk, ob) ∈ news) (hd : ob.IsDictOf (intKind prog w) kvs) (lo : (bk == sysModules) = false) (hz : kvs.length < 64)
   (h : ∀ (D : Addr) (vs : List Value) (n : Nat) (h' : Heap) (tk : Nat), Fr h₀ L h' m → News h₀ L h' ((D, listOf vs.toArray n) :: news) → (∀ q ∈ news, q.1 < D) → vs.length = kvs.length →
     (∀ (i : Nat) (v : Value), vs[i]? = some v → ∃ (k : Int) (t : Tok) (x : Value), v = .int k t ∧ (k, x) ∈ kvs) → Q (.ref D) { s with heap := h', toks := tk }) :
   wpAny (model prog w) A (call (.builtin "sorted") [.ref bk]) Q E s := by
  obtain ⟨ep, hat⟩ := (kda_dict N hm hd).dictAt
  refine kdu_sorted (kdl_dict (knd := intKind prog w) (kvs := kvs) (ep := ep) lo) hh F N hat (by rw [sizeLine_eq]; omega) fun D h' tk vs F' N' l1 hl hP => ?_
  have each : ∀ (j : Nat) (v : Value), vs[j]? = some v → ∃ (k : Int) (t : Tok) (x : Value), v = .int k t ∧ (k, x) ∈ kvs := fun j v e => by
    obtain ⟨k, x, e1, e2⟩ := hP j v e
    obtain ⟨t, e3⟩ := PyProof.V.Flat.int_inv (kdl_flat_int e2)
    exact ⟨k, t, x, e3, List.mem_of_getElem? e1⟩
  obtain ⟨ns, I⟩ := ints_of vs fun j v e => by
    obtain ⟨k, t, _, e1, _⟩ := each j v e
    exact ⟨k, t, e1⟩
  refine ksk_lsort (news' := fun o => (D, o) :: news) F' N' (fun o => Upd.head fun p hp => Nat.ne_of_lt (l1 p hp)) rfl I (by rw [← I.length, hl]; exact hz) fun vs' ns' c h'' F'' N'' I' hl' hp _ _ => ?_
  refine h D vs' c h'' tk F'' N'' l1 (by rw [I'.length, hl', ← I.length, hl]) fun i v e => ?_
  obtain ⟨k, t, e1, hk⟩ := ints_mem I' i v e
  obtain ⟨j, t', e2⟩ := ints_back I k (hp.mem_iff.mp hk)
  obtain ⟨k', t'', x, e3, hx⟩ := each j _ e2
  cases e3
  exact ⟨k, t, x, e1, hx⟩
theorem book_item {prog : Program} {A : Around} {bk : Addr} {ob : Obj} {kvs : List (Int × Value)} {k : Int} {t : Tok} {x : Value} {value slice : PySem.Expr} {Q : Value → Shared → Prop} (N : News h₀ L s.heap news) (hm : (bk, ob) ∈ news) (hd : ob.IsDictOf (intKind prog w) kvs) (hk : (k, x) ∈ kvs) (h : Q x { s with toks := s.toks + 1 })
   (hs : subscripted slice false (.ref bk) (.int k t) = operate [.ref bk, .int k t] (getItem (.ref bk) (.int k t))) (hg : ∀ r, letTemporaryGo value (.ref bk) r = pure ()) :
   wpAny (model prog w) A (subscriptTail value slice (.ref bk) (.int k t)) Q E s :=
  kda_item (knd := intKind prog w) N hm hd (intKind_is _ _ _ _) (value_mem (keysNodup_of_isDictOf hd) hk) h hs hg
theorem book_get {prog : Program} {A : Around} {bk : Addr} {ob : Obj} {kvs : List (Int × Value)} {k : Int} {t : Tok} {x : Value} {Q : Value → Shared → Prop} (N : News h₀ L s.heap news) (hm : (bk, ob) ∈ news) (hd : ob.IsDictOf (intKind prog w) kvs) (hk : (k, x) ∈ kvs) (h : Q x { s with toks := s.toks + 1 }) :
   wpAny (model prog w) A (getItem (.ref bk) (.int k t)) Q E s :=
  kdt_getItem (knd := intKind prog w) N hm hd (intKind_is _ _ _ _) (value_mem (keysNodup_of_isDictOf hd) hk) h
theorem value_none {K : Type} [DecidableEq K] {kvs : List (K × Value)} {k : K} (h : ∀ q ∈ kvs, q.1 ≠ k) : valueAt kvs k = none := by
  unfold valueAt
  rw [List.find?_eq_none.mpr fun q hq => by simpa using h q hq]
  rfl
theorem book_store {prog : Program} {A : Around} {bk : Addr} {ob : Obj} {kvs : List (Int × Value)} {k : Int} {t : Tok} {x : Value} {g : Obj → List (Addr × Obj)} {Q : Unit → Shared → Prop} (F : Fr h₀ L s.heap m) (N : News h₀ L s.heap news) (U : UpdF bk ob news g) (hd : ob.IsDictOf (intKind prog w) kvs) (hz : kvs.length < 64) (hk : ∀ q ∈ kvs, q.1 ≠ k)
   (h : ∀ (h' : Heap) (o' : Obj), Fr h₀ L h' m → News h₀ L h' (g o') → o'.IsDictOf (intKind prog w) (kvs ++ [(k, x)]) → Q () { s with heap := h', toks := s.toks + 1 }) :
   wpAny (model prog w) A (setItem (.ref bk) (.int k t) x) Q E s :=
  kda_set (knd := intKind prog w) F N U hd (intKind_is _ _ _ _) (by rw [sizeLine_eq]; omega) fun h' o' F' N' hd' => h h' o' F' N' (by rw [stored_absent (value_none hk)] at hd'; exact hd')
end SModB
section SModA
def TreeAt (w : World) (b : Heap) (tr : Addr) (vs : List Value) : Prop := ∃ (dT rw : Addr) (nr : Nat) (q0 : Tok), b.get? tr = some (instObj 300 dT) ∧ b.get? dT = some (dictOf [⟨PyData.keyHash w.params "rows", .str "rows" q0, .ref rw⟩] 1) ∧ b.get? rw = some (listOf vs.toArray nr) ∧ vs.length < 2 ^ 32
def rowO (w : World) (kd nm ur lc : Str) (q1 q2 q3 q4 q5 q6 q7 q8 q9 q10 q11 q12 q13 : Tok) (v1 v2 v3 v4 v5 : Value) : Obj := dictOf [⟨PyData.keyHash w.params "kind", .str "kind" q1, .str kd q2⟩, ⟨PyData.keyHash w.params "name", .str "name" q3, .str nm q4⟩, ⟨PyData.keyHash w.params "uri", .str "uri" q5, .str ur q6⟩, ⟨PyData.keyHash w.params "local", .str "local" q7, .str lc q8⟩, ⟨PyData.keyHash w.params "value", .str "value" q9, v1⟩, ⟨PyData.keyHash w.params "parent", .str "parent" q10, v2⟩, ⟨PyData.keyHash w.params "children", .str "children" q11, v3⟩, ⟨PyData.keyHash w.params "attributes", .str "attributes" q12, v4⟩, ⟨PyData.keyHash w.params "namespaces", .str "namespaces" q13, v5⟩] 9
def RowAt (w : World) (b : Heap) (vs : List Value) (node : Int) (kd ur lc nm : Str) : Prop := ∃ (rr dr : Addr) (q1 q2 q3 q4 q5 q6 q7 q8 q9 q10 q11 q12 q13 : Tok) (v1 v2 v3 v4 v5 : Value), vs[node.toNat]? = some (.ref rr) ∧ 0 ≤ node ∧ node < vs.length ∧ b.get? rr = some (instObj 111 dr) ∧ b.get? dr = some (rowO w kd nm ur lc q1 q2 q3 q4 q5 q6 q7 q8 q9 q10 q11 q12 q13 v1 v2 v3 v4 v5)
def NamesAt (w : World) (news : List (Addr × Obj)) (na : Addr) : Prop := ∃ (on : Obj) (kvs : List (Str × Value)), (na, on) ∈ news ∧ on.IsDictOf (strKind PR w) kvs ∧ PyProof.V.FlatPairs PyData.str kvs [(.str "p", .str "u:1"), (.str "q", .str "u:2")] ∧ (na == sysModules) = false
theorem Site.less {A₀ : Around} {base h₀ : Heap} {outer : List Env} {L : Addr} {m : Str → Option Value} {news : List (Addr × Obj)} {h : Heap} {cs : Scope} {dp un nd nu : Nat} (nd' nu' : Nat) (C : Site w p loose mean mg mb A₀ base outer h₀ L m news h cs dp un nd nu) (h1 : nd' ≤ nd) (h2 : nu' ≤ nu) : Site w p loose mean mg mb A₀ base outer h₀ L m news h cs dp un nd' nu' :=
  ⟨C.B, C.F, C.X, C.N, C.T, C.hk, by have := C.hd; omega, by have := C.hu; omega⟩
def TT.fl : TT → Bool
  | .name pf _ => pf == "z"
  | .of pf => pf == "z"
  | _ => false
def TT.val (kd ur lc nm ax : Str) : TT → Bool
  | .name pf nn => (kd == wantF ax) && isNamedF kd ur lc nm pf nn
  | .of pf => (kd == wantF ax) && (kd != "namespace") && (ur == uriF pf)
  | .insn => kd == "instruction"
  | .inss nn => (kd == "instruction") && (nm == nn)
  | .any => kd == wantF ax
  | .node => true
  | .text => kd == "text"
  | .comment => kd == "comment"
def TT.hd : TT → Str
  | .name _ _ => "name"
  | .of _ => "any of"
  | .insn => "instruction"
  | .inss _ => "instruction"
  | .any => "any"
  | .node => "node"
  | .text => "text"
  | .comment => "comment"
theorem z_e : (("" : Str) == "z") = false := by decide
theorem z_p : (("p" : Str) == "z") = false := by decide
theorem z_q : (("q" : Str) == "z") = false := by decide
theorem z_z : (("z" : Str) == "z") = true := by decide
theorem four_pf {pf : Str} (h : pf ∈ (["", "p", "q", "z"] : List Str)) : pf = "" ∨ pf = "p" ∨ pf = "q" ∨ pf = "z" := by simpa using h
theorem three_pf {pf : Str} (h : pf ∈ (["p", "q", "z"] : List Str)) : pf = "p" ∨ pf = "q" ∨ pf = "z" := by simpa using h
abbrev RaiseTo (E : Value → Shared → Prop) (base h₀ : Heap) (L : Addr) (m : Str → Option Value) (envs : List Env) (news : List (Addr × Obj)) (s : Shared) : Prop :=
  ∀ (e t : Addr) (vs : List Value) (g₂ h' : Heap) (tk' : Nat), Fr h₀ L g₂ m → RaisedS base g₂ envs e (.ref 63) t vs news h' → g₂.UpToSlots h' → E (.ref e) { s with heap := h', toks := tk' }
theorem bu_all {pf : Str} {tx : Tok} {na : Addr} (hp : pf ∈ (["", "p", "q", "z"] : List Str)) (NA : NamesAt w news na)
   (C : Site w p loose mean mg mb A₀ base outer h₀ L m news s.heap cs dp un 12 120)
   (hret : (pf == "z") = false → ∀ (t : Tok) (h' : Heap) (tk' : Nat), Fr h₀ L h' m → News h₀ L h' news → Q (.str (uriF pf) t) { s with heap := h', toks := tk' })
   (hraise : (pf == "z") = true → RaiseTo E base h₀ L m (envX cn cs L a ccd cl :: outer) news s) :
   wpAny (model PR w) (ktrTop dp un gd cn cs L a ccd cl outer) (call (.ref 79) [.str pf tx, .ref na]) Q E s := by
  obtain ⟨on, kvs, n1, n2, n3, n4⟩ := NA
  rcases four_pf hp with rfl | rfl | rfl | rfl
  · exact bu_e (C.less _ _ (by omega) (by omega)) (hret (by decide))
  · exact bu_p n1 n2 n3 n4 (C.less _ _ (by omega) (by omega)) (hret (by decide))
  · exact bu_q n1 n2 n3 n4 (C.less _ _ (by omega) (by omega)) (hret (by decide))
  · exact bu_z n1 n2 n3 n4 C (hraise (by decide))
theorem nam_all {tr : Addr} {vs : List Value} {node : Int} {kd nm ur lc : Str} {tn : Tok} {na ts : Addr} {pf nn : Str} {k0 k1 k2 : Tok} {n2 : Nat} (hp : pf ∈ (["", "p", "q", "z"] : List Str))
   (TA : TreeAt w base tr vs) (RA : RowAt w base vs node kd ur lc nm) (NA : NamesAt w news na) (ht : (ts, TT.obj (.name pf nn) k0 k1 k2 n2) ∈ news)
   (C : Site w p loose mean mg mb A₀ base outer h₀ L m news s.heap cs dp un 16 160)
   (hret : (pf == "z") = false → ∀ (h' : Heap) (tk' : Nat), Fr h₀ L h' m → News h₀ L h' news → Q (.bool (isNamedF kd ur lc nm pf nn)) { s with heap := h', toks := tk' })
   (hraise : (pf == "z") = true → RaiseTo E base h₀ L m (envX cn cs L a ccd cl :: outer) news s) :
   wpAny (model PR w) (ktrTop dp un gd cn cs L a ccd cl outer) (call (.ref 86) [.ref tr, .int node tn, .ref ts, .ref na]) Q E s := by
  obtain ⟨on, kvs, n1, n2, n3, n4⟩ := NA
  obtain ⟨dT, rw, nr, q0, hT1, hT2, hT3, hn2⟩ := TA
  obtain ⟨rr, dr, q1, q2, q3, q4, q5, q6, q7, q8, q9, q10, q11, q12, q13, v1, v2, v3, v4, v5, hT4, hn0, hn1, hT5, hT6⟩ := RA
  rcases four_pf hp with rfl | rfl | rfl | rfl
  · exact nam_e hT1 hT2 hT3 hT4 hn0 hn1 hn2 hT5 hT6 ht (C.less _ _ (by omega) (by omega)) (hret (by decide))
  · exact nam_p hT1 hT2 hT3 hT4 hn0 hn1 hn2 hT5 hT6 n1 n2 n3 n4 ht (C.less _ _ (by omega) (by omega)) (hret (by decide))
  · exact nam_q hT1 hT2 hT3 hT4 hn0 hn1 hn2 hT5 hT6 n1 n2 n3 n4 ht (C.less _ _ (by omega) (by omega)) (hret (by decide))
  · exact nam_z n1 n2 n3 n4 ht C (hraise (by decide))
theorem pas_all {T : TT} {tr : Addr} {vs : List Value} {node : Int} {kd nm ur lc ax : Str} {tn tx : Tok} {na ts : Addr} {k0 k1 k2 : Tok} {n2 : Nat} (hT : T.okay)
   (TA : TreeAt w base tr vs) (RA : RowAt w base vs node kd ur lc nm) (NA : NamesAt w news na) (ht : (ts, T.obj k0 k1 k2 n2) ∈ news)
   (C : Site w p loose mean mg mb A₀ base outer h₀ L m news s.heap cs dp un 20 200)
   (hret : T.fl = false → ∀ (h' : Heap) (tk' : Nat), Fr h₀ L h' m → News h₀ L h' news → Q (.bool (T.val kd ur lc nm ax)) { s with heap := h', toks := tk' })
   (hraise : T.fl = true → RaiseTo E base h₀ L m (envX cn cs L a ccd cl :: outer) news s) :
   wpAny (model PR w) (ktrTop dp un gd cn cs L a ccd cl outer) (call (.ref 93) [.ref tr, .int node tn, .str ax tx, .ref ts, .ref na]) Q E s := by
  obtain ⟨on, kvs, n1, n2, n3, n4⟩ := NA
  obtain ⟨dT, rw, nr, q0, hT1, hT2, hT3, hn2⟩ := TA
  obtain ⟨rr, dr, q1, q2, q3, q4, q5, q6, q7, q8, q9, q10, q11, q12, q13, v1, v2, v3, v4, v5, hT4, hn0, hn1, hT5, hT6⟩ := RA
  have C7 : Site w p loose mean mg mb A₀ base outer h₀ L m news s.heap cs dp un 7 80 := C.less _ _ (by omega) (by omega)
  cases T with
  | name pf nn =>
    rcases four_pf hT.1 with rfl | rfl | rfl | rfl
    · exact pas_name_e hT1 hT2 hT3 hT4 hn0 hn1 hn2 hT5 hT6 n1 n2 n3 n4 ht C7 (hret z_e)
    · exact pas_name_p hT1 hT2 hT3 hT4 hn0 hn1 hn2 hT5 hT6 n1 n2 n3 n4 ht C7 (hret z_p)
    · exact pas_name_q hT1 hT2 hT3 hT4 hn0 hn1 hn2 hT5 hT6 n1 n2 n3 n4 ht C7 (hret z_q)
    · exact pas_name_z hT1 hT2 hT3 hT4 hn0 hn1 hn2 hT5 hT6 n1 n2 n3 n4 ht C (hraise z_z)
  | of pf =>
    rcases three_pf hT with rfl | rfl | rfl
    · exact pas_of_p (nn := "") (k2 := 0) hT1 hT2 hT3 hT4 hn0 hn1 hn2 hT5 hT6 n1 n2 n3 n4 ht C7 (hret (by decide))
    · exact pas_of_q (nn := "") (k2 := 0) hT1 hT2 hT3 hT4 hn0 hn1 hn2 hT5 hT6 n1 n2 n3 n4 ht C7 (hret (by decide))
    · exact pas_of_z (nn := "") (k2 := 0) hT1 hT2 hT3 hT4 hn0 hn1 hn2 hT5 hT6 n1 n2 n3 n4 ht C (hraise (by decide))
  | insn => exact pas_ins_n (nn := "") (k1 := 0) (k2 := 0) hT1 hT2 hT3 hT4 hn0 hn1 hn2 hT5 hT6 n1 n2 n3 n4 ht C7 (hret rfl)
  | inss nn => exact pas_ins_s (k2 := 0) hT1 hT2 hT3 hT4 hn0 hn1 hn2 hT5 hT6 n1 n2 n3 n4 ht C7 (hret rfl)
  | any => exact pas_any (nn := "") (k1 := 0) (k2 := 0) hT1 hT2 hT3 hT4 hn0 hn1 hn2 hT5 hT6 n1 n2 n3 n4 ht C7 (hret rfl)
  | node => exact pas_node (nn := "") (k1 := 0) (k2 := 0) hT1 hT2 hT3 hT4 hn0 hn1 hn2 hT5 hT6 n1 n2 n3 n4 ht C7 (hret rfl)
  | text => exact pas_text (nn := "") (k1 := 0) (k2 := 0) hT1 hT2 hT3 hT4 hn0 hn1 hn2 hT5 hT6 n1 n2 n3 n4 ht C7 (hret rfl)
  | comment => exact pas_comment (nn := "") (k1 := 0) (k2 := 0) hT1 hT2 hT3 hT4 hn0 hn1 hn2 hT5 hT6 n1 n2 n3 n4 ht C7 (hret rfl)
theorem inss_val {kd nm lc nn : Str} (h : kd = "instruction" → nm = lc) : ((kd == "instruction") && (nn == lc)) = ((kd == "instruction") && (nm == nn)) := by
  by_cases e : kd = "instruction"
  · rw [h e]; exact congrArg _ (zSym rfl)
  · rw [show (kd == ("instruction" : Str)) = false from by simpa using e, Bool.false_and, Bool.false_and]
theorem due_all {T : TT} {row ts : Addr} {kd ur lc nm ax : Str} {t1 t2 t3 t4 tx k0 k1 k2 : Tok} {n1 n2 : Nat} (hT : T.okay) (our : ok ur) (olc : ok lc) (onm : ok nm) (hin : kd = "instruction" → nm = lc)
   (hr : (row, ({ cls := .type "tuple", data := .seq #[.str kd t1, .str ur t2, .str lc t3, .str nm t4] n1 } : Obj)) ∈ news) (ht : (ts, T.obj k0 k1 k2 n2) ∈ news)
   (C : Site w p loose mean mg mb A₀ base outer h₀ L m news s.heap cs dp un 4 200)
   (hret : T.fl = false → ∀ (h' : Heap) (tk' : Nat), Fr h₀ L h' m → News h₀ L h' news → Q (.bool (T.val kd ur lc nm ax)) { s with heap := h', toks := tk' })
   (hfault : T.fl = true → ∀ (t : Tok) (h' : Heap) (tk' : Nat), Fr h₀ L h' m → News h₀ L h' news → Q (.str "fault" t) { s with heap := h', toks := tk' }) :
   wpAny (model PR w) (ktrTop dp un gd cn cs L a ccd cl outer) (call (.ref 353) [.ref row, .str ax tx, .ref ts]) Q E s := by
  have oe : ok ("" : Str) := by decide +kernel
  cases T with
  | name pf nn =>
    rcases four_pf hT.1 with rfl | rfl | rfl | rfl
    · exact due_name_e our olc onm hT.2 hr ht C (hret z_e)
    · exact due_name_p our olc onm hT.2 hr ht C (hret z_p)
    · exact due_name_q our olc onm hT.2 hr ht C (hret z_q)
    · exact due_name_z our olc onm hT.2 hr ht C (hfault z_z)
  | of pf =>
    rcases three_pf hT with rfl | rfl | rfl
    · exact due_of_p (nn := "") (k2 := 0) our olc onm oe hr ht C (hret (by decide))
    · exact due_of_q (nn := "") (k2 := 0) our olc onm oe hr ht C (hret (by decide))
    · exact due_of_z (nn := "") (k2 := 0) our olc onm oe hr ht C (hfault (by decide))
  | insn => exact due_ins_n (nn := "") (k1 := 0) (k2 := 0) our olc onm oe hr ht C (hret rfl)
  | inss nn => exact due_ins_s (k2 := 0) our olc onm hT hr ht C (fun h' tk' F' N' => by rw [inss_val hin]; exact hret rfl h' tk' F' N')
  | any => exact due_any (nn := "") (k1 := 0) (k2 := 0) our olc onm oe hr ht C (hret rfl)
  | node => exact due_node (nn := "") (k1 := 0) (k2 := 0) our olc onm oe hr ht C (hret rfl)
  | text => exact due_text (nn := "") (k1 := 0) (k2 := 0) our olc onm oe hr ht C (hret rfl)
  | comment => exact due_comment (nn := "") (k1 := 0) (k2 := 0) our olc onm oe hr ht C (hret rfl)
end SModA
section SModZ
theorem FunFrames_rebase {h base base' : Heap} {l : List Env} (hl : h.FunFrames base l) (hn : ∀ b ∈ l.filterMap (·.frame), base'.get? b = none) : h.FunFrames base' l := by
  induction l with
  | nil => trivial
  | cons env rest ih =>
    obtain ⟨hk, ⟨L, o, hf, _, ho, hd⟩, hr⟩ := hl
    have e : (env :: rest).filterMap (·.frame) = L :: rest.filterMap (·.frame) := by rw [List.filterMap_cons, hf]
    rw [e] at hn
    exact ⟨hk, ⟨L, o, hf, hn L (.head _), ho, hd⟩, ih hr fun b hb => hn b (.tail _ hb)⟩
def LeaveZ (A₀ : Around) (base : Heap) (outer : List Env) (env : Env) (h₀ : Heap) (L : Addr) (m : Str → Option Value) (g : Heap) (fz : List (Addr × Obj)) (R : Result → Shared → Prop) (v : Value) (s' : Shared) : Prop :=
  ∃ g' L' m' news', KtsTurn ((env :: outer).filterMap (·.frame)) g g' ∧ Fr g' L' s'.heap m' ∧ News g' L' s'.heap news' ∧
    ∀ h₀', KtsTurn (outer.filterMap (·.frame)) h₀ h₀' → Fr h₀' L s'.heap m → News h₀' L s'.heap news' → News h₀' L s'.heap fz → (∀ p ∈ fz, ∀ q ∈ news', p.1 ≠ q.1) → Below A₀ base outer h₀' → R (.ok (.ret v)) s'
section
variable {prog : Program} {A : Around} {K : Frag} {env : Env} {R : Result → Shared → Prop} {fz : List (Addr × Obj)}
theorem groundZ (B : Below A₀ base outer h₀) (F : Fr h₀ L s.heap m) (N : News h₀ L s.heap news) (NZ : News h₀ L s.heap fz) (hz : ∀ p ∈ fz, ∀ q ∈ news, p.1 ≠ q.1) (hA : A.frames = some (env :: outer)) (hf : env.frame = some L) (hke : env.scope.kind = .function) (v : Value) (s' : Shared)
    (hl : LeaveZ A₀ base outer env h₀ L m (hideAll s.heap (news.map (·.1))) fz R v s') : R (.ok (.ret v)) s' := by
  obtain ⟨g', L', m', news', T', F', N', k⟩ := hl
  have old : ∀ p ∈ fz, g'.get? p.1 = some p.2 := fun p hp => by
    have n := NZ p hp
    have hg : (hideAll s.heap (news.map (·.1))).get? p.1 = some p.2 := hideAll_get _ n.1 fun q => by
      obtain ⟨r, hr, e⟩ := List.mem_map.mp q
      exact hz p hp r hr e.symm
    have nf : p.1 ∉ (env :: outer).filterMap (·.frame) := fun q => by
      rw [List.filterMap_cons, hf] at q
      rcases List.mem_cons.mp q with q | q
      · exact n.2.1 q
      · obtain ⟨_, o, ho, _⟩ := B.frames.mem q
        rw [n.2.2] at ho
        cases ho
    exact T'.other _ _ hg nf
  refine groundT B F N hA hf hke v s' ⟨g', L', m', news', T', F', N', fun h₀' T₁ F₁ N₁ B₁ => k h₀' T₁ F₁ N₁ (fun p hp => ?_) (fun p hp q hq e => ?_) B₁⟩
  · have n := NZ p hp
    exact ⟨F'.keep _ _ (old p hp), n.2.1, T₁.none_ _ n.2.2⟩
  · have := (N' q hq).2.2
    rw [← e, old p hp] at this
    cases this
theorem callTC {name qual : Str} {params : Arguments} {body : List Stmt} {scope : Scope} {dV kV doc pm cdv ct oc : Value} {an od : Option Addr} {osl : Array (Option Value)} {f : Addr} {args : Args} {binds : List (Str × Value)}
    (B : Below A₀ base outer h₀) (F : Fr h₀ L s.heap m) (X₀ : K.In h₀) (XB : K.In base) (TB : Top p loose mean mg mb base) (N : News h₀ L s.heap news) (NZ : News h₀ L s.heap fz) (hz : ∀ p ∈ fz, ∀ q ∈ news, p.1 ≠ q.1) (T : Top p loose mean mg mb h₀) (D : KtsDicts (outer.filterMap (·.frame)) h₀)
    (hA : A.frames = some (env :: outer)) (hf : env.frame = some L) (hke : env.scope.kind = .function)
    (ho : K.lookup f = some ⟨oc, od, .func (fnOf name qual params body scope dV kV doc pm an cdv ct), osl⟩) (hcd : codeIn K cdv qual = true) (hroom : A.depth < recursionLimit)
    (hbind : BindsTo s (fnOf name qual params body scope dV kV doc pm an cdv ct) args binds) (hkind : (binds.all fun y => scope.names.lookup y.1 == some .local || scope.names.lookup y.1 == some .cell) = true)
    (hnd : ((cellsFrom 0 scope.names []).map (·.1)).Nodup)
    (h : ∀ g L' h₁ tk cells base', (∀ q ∈ fz, base'.get? q.1 = some q.2) → base.StaysIn base' → K.In base' → Top p loose mean mg mb base' → Fr h₀ L g m → Fr g L' h₁ (bindL (envOfC qual scope L' f cdv).kindOf binds fun _ => none) → News g L' h₁ (cells ++ news) →
      CellsAre (bindC (envOfC qual scope L' f cdv).kindOf binds fun _ => none) (cellsFrom (L' + 1) scope.names []) cells → Below A base' (env :: outer) g → K.In g → Top p loose mean mg mb g → KtsDicts ((env :: outer).filterMap (·.frame)) g → (∀ p ∈ news, p.1 < L') →
      wpAny (model prog w) (A.deeper (envOfC qual scope L' f cdv)) (execs body (envOfC qual scope L' f cdv))
        (fun fl s' => LeaveZ A₀ base outer env h₀ L m g fz R (match fl with | .ret v => v | _ => .none) s')
        (fun e s' => wpAny (model prog w) (A.deeper (envOfC qual scope L' f cdv)) (leaving (envOfC qual scope L' f cdv) e) (fun _ s'' => R (.error e) s'') (fun e' s'' => R (.error e') s'') s')
        { s with heap := h₁, toks := tk })
    (hco : scope.isCoroutine = false := by rfl) (hgen : scope.isGenerator = false := by rfl) (hk : scope.kind = .function := by rfl) : codeAny (model prog w) A (.call (.ref f) args) R s := by
  obtain ⟨FG, BG, st, _⟩ := groundX (R := R) B F N hA hf hke
  have X := X₀.keeps F.keep
  refine codeAny_call_function hroom (X _ _ ho) rfl hco hgen rfl (codeRec_of X hcd) (hbind _ _ _ _ ?_)
  refine wpAny_newFunctionEnv_cells hk (kindsX hkind _) fun env' he s' x => ?_
  subst he
  refine ⟨(T.nolimit.keeps F.keep).keeps x.toInCall.keep, codeAny_func ?_⟩
  obtain ⟨h₁, tk, rfl, _⟩ := x.done
  have hk₁ := x.toInCall.keep
  obtain ⟨cells, NC, Y⟩ := Cl.news (h₀ := s.heap) (Nat.le_refl _) fun n c hm => ⟨x.cell n c (lookup_of_mem_nodup (cellsFrom_names scope.names 0 (s.heap.objs.size + 1) [] [] rfl ▸ hnd) hm), x.above n c hm⟩
  have zs : ∀ q ∈ fz, q.1 ∉ news.map (·.1) := fun q hq z => by
    obtain ⟨r, hr, e⟩ := List.mem_map.mp z
    exact hz q hq r hr e.symm
  have zf : ∀ b ∈ (env :: outer).filterMap (·.frame), b = L ∨ ∃ o, h₀.get? b = some o := fun b hb => by
    rw [List.filterMap_cons, hf] at hb
    rcases List.mem_cons.mp hb with z | z
    · exact .inl z
    · obtain ⟨_, o, e, _⟩ := B.frames.mem z
      exact .inr ⟨o, e⟩
  have nb : ∀ b ∈ (env :: outer).filterMap (·.frame), base.get? b = none := fun b hb => (BG.frames.mem hb).1
  have sb : base.StaysIn (hideAll s.heap (news.map (·.1) ++ (env :: outer).filterMap (·.frame))) := fun b o e => hideAll_get _ (F.keep b o (B.stays b o e)) fun z => by
    rcases List.mem_append.mp z with z | z
    · obtain ⟨r, hr, e2⟩ := List.mem_map.mp z
      have := (N r hr).2.2
      rw [e2, B.stays b o e] at this
      cases this
    · rw [nb b z] at e
      cases e
  have sg : (hideAll s.heap (news.map (·.1) ++ (env :: outer).filterMap (·.frame))).StaysIn (hideAll s.heap (news.map (·.1))) := fun b o e => hideAll_get _ (of_hideAll _ e) fun z => by
    rw [hideAll_none _ (List.mem_append_left _ z)] at e
    cases e
  refine wpAny_mono (h _ s.heap.objs.size h₁ tk cells (hideAll s.heap (news.map (·.1) ++ (env :: outer).filterMap (·.frame))) (fun q hq => ?_) sb (XB.keeps sb) (TB.keeps sb) FG
    ⟨x.toInCall.ns, fun b o e => hk₁ b o (of_hideAll _ e), Nat.le_of_eq (hideAll_size _ _)⟩ (fun p hp => ?_) Y ⟨BG.stack, sg, FunFrames_rebase BG.frames fun b hb => hideAll_none _ (List.mem_append_right _ hb)⟩ (X₀.keeps st) (T.keeps st) (fun b hb => ?_) (fun p hp => Heap.lt_size (N p hp).1))
    (fun fl s' hl => groundZ B F N NZ hz hA hf hke _ _ hl) fun _ _ y => y
  · refine hideAll_get _ (NZ q hq).1 fun z => ?_
    rcases List.mem_append.mp z with z | z
    · exact zs q hq z
    · rcases zf _ z with e | ⟨o, e⟩
      · exact (NZ q hq).2.1 e
      · rw [(NZ q hq).2.2] at e; cases e
  · rcases List.mem_append.mp hp with hp | hp
    · refine ⟨(NC p hp).1, (NC p hp).2.1, ?_⟩
      cases q : (hideAll s.heap (news.map (·.1))).get? p.1 with
      | none => rfl
      | some o => have := of_hideAll _ q; rw [(NC p hp).2.2] at this; cases this
    · exact ⟨hk₁ _ _ (N p hp).1, Nat.ne_of_lt (Heap.lt_size (N p hp).1), hideAll_none _ (List.mem_map_of_mem hp)⟩
  · rw [List.filterMap_cons, hf] at hb
    rcases List.mem_cons.mp hb with rfl | hb
    · obtain ⟨oL, es, ep, hLg, hLd, _⟩ := FG.ns
      exact ⟨oL, es, ep, hLg, hLd⟩
    · obtain ⟨o, es', n', ho', hd'⟩ := D b hb
      exact ⟨o, es', n', st b o ho', hd'⟩
end
theorem cells_five {cm : Str → Option Value} {n₁ n₂ n₃ n₄ n₅ : Str} {c₁ c₂ c₃ c₄ c₅ : Addr} {cells : List (Addr × Obj)} (x : CellsAre cm [(n₁, c₁), (n₂, c₂), (n₃, c₃), (n₄, c₄), (n₅, c₅)] cells) :
    ∃ o₁ o₂ o₃ o₄ o₅, cells = [(c₁, o₁), (c₂, o₂), (c₃, o₃), (c₄, o₄), (c₅, o₅)] ∧ o₁.data = .cell (cm n₁) ∧ o₂.data = .cell (cm n₂) ∧ o₃.data = .cell (cm n₃) ∧ o₄.data = .cell (cm n₄) ∧ o₅.data = .cell (cm n₅) := by
  cases x with | cons h r => obtain ⟨o₂, o₃, o₄, o₅, rfl, h₂, h₃, h₄, h₅⟩ := r.four; exact ⟨_, o₂, o₃, o₄, o₅, rfl, h, h₂, h₃, h₄, h₅⟩
end SModZ
section SModL
def TabOK (qual : Str) (ps : Array Value) (news : List (Addr × Obj)) : Prop := TriplesOk ps.toList ∧ ∀ (pos : Pos) (c : Value), codeAmong pos ps.toList = some c → ∃ (c' : Addr) (oc : Obj) (vs : Array Value) (t : Tok), c = .ref c' ∧ (c', oc) ∈ news ∧ oc.data = .fields vs ∧ vs[1]? = some (.str qual t)
theorem TabOK.sub {qual : Str} {ps : Array Value} {n1 n2 : List (Addr × Obj)} (h : TabOK qual ps n1) (hs : ∀ q ∈ n1, q ∈ n2) : TabOK qual ps n2 :=
  ⟨h.1, fun pos c e => let ⟨c', oc, vs, t, a, b, r⟩ := h.2 pos c e; ⟨c', oc, vs, t, a, hs _ b, r⟩⟩
theorem TabOK.nil {qual : Str} {n : List (Addr × Obj)} : TabOK qual #[] n := ⟨trivial, fun pos c e => by cases e⟩
theorem among_snoc {pos pos' : Pos} {c x : Value} (l : List Value) (h : TriplesOk l) (e : codeAmong pos' (l ++ [rawInt pos.line, rawInt pos.col, c]) = some x) : codeAmong pos' l = some x ∨ x = c := by
  fun_induction TriplesOk l with
  | case1 =>
    simp only [List.nil_append, codeAmong, rawInt] at e
    split at e
    · exact .inr (Option.some.inj e).symm
    · cases e
  | case2 a t b u y rest ih =>
    simp only [List.cons_append, codeAmong] at e ⊢
    split at e
    · rename_i hc; rw [if_pos hc]; exact .inl e
    · rename_i hc; rw [if_neg hc]; exact ih h e
  | case3 l h1 h2 => exact h.elim
theorem triples_second : ∀ {l : List Value} {q : Str} {t : Tok}, TriplesOk l → l[1]? = some (.str q t) → False
  | [], _, _, _, e => by simp at e
  | .int _ _ :: .int _ _ :: _ :: _, _, _, _, e => by simp at e
  | [x], _, _, _, e => by simp at e
  | .none :: y :: r, _, _, h, _ => by simp [TriplesOk] at h
  | .bool _ :: y :: r, _, _, h, _ => by simp [TriplesOk] at h
  | .str _ _ :: y :: r, _, _, h, _ => by simp [TriplesOk] at h
  | .ref _ :: y :: r, _, _, h, _ => by simp [TriplesOk] at h
  | x :: .str _ _ :: r, _, _, h, _ => by cases x <;> simp [TriplesOk] at h
  | x :: y :: [], _, _, h, _ => by cases x <;> cases y <;> simp [TriplesOk] at h
  | x :: y :: z :: r, q, t, h, e => by cases x <;> cases y <;> first | (simp [TriplesOk] at h; done) | (simp at e; done)
theorem lam_any {M : Model} {A : Around} {a c P : Addr} {g : Obj → List (Addr × Obj)} {name qual : Str} {params : Arguments} {body : PySem.Expr} {scope : Scope} {ps : Array Value} {pos : Pos} {firstLine : Nat} {clos : List (Str × Addr)} {Q : Value → Shared → Prop}
    (F : Fr h₀ L s.heap m) (N : News h₀ L s.heap news) (T : Top p loose mean mg mb h₀) (C : CodeHd h₀ c P) (hcd : ccd = .ref c) (U : UpdF P (tabObj ps) news g) {nt : List (Addr × Obj)} (hok : TabOK qual ps nt) (hsub : ∀ q ∈ nt, q ∈ news)
    (hcl : closureFor scope (envX cn cs L a ccd cl) = pure clos)
    (h : ∀ f c' oc vs t ctv ps' h' tk, Fr h₀ L h' m → News h₀ L h' ((f, kla_obj name qual params body scope clos ((mg "__name__").getD .none) c' ctv) :: (c', oc) :: g (tabObj ps')) →
      oc.data = .fields vs → vs[1]? = some (.str qual t) → TabOK qual ps' ((c', oc) :: nt) → (∀ q ∈ news, q.1 < f) → c' < f → c' ≠ P → Q (.ref f) { s with heap := h', toks := tk }) :
    wpAny M A (makeFunction name qual params (.expr body) scope (envX cn cs L a ccd cl) [] [] [] pos firstLine) Q E s := by
  have hmem : (P, tabObj ps) ∈ news := by
    obtain ⟨own, rest, rfl, _⟩ := U.split
    exact List.mem_append_right _ (.head _)
  have hgid : g (tabObj ps) = news := by
    obtain ⟨own, rest, rfl, hgr, _⟩ := U.split
    exact hgr _
  cases hf : codeAmong pos ps.toList with
  | none =>
    refine kla_nest F N T C hcd U hok.1 hf hcl fun f c' oc vs t ctv h' tk F' N' d1 d2 l1 l2 => ?_
    refine h f c' oc vs t ctv _ h' tk F' N' d1 d2 ⟨?_, fun pos' x e => ?_⟩ (fun q hq => Nat.lt_trans (l1 q hq) l2) l2 (Nat.ne_of_gt (l1 _ hmem))
    · rw [Array.toList_append]
      exact TriplesOk_snoc _ _ _ _ hok.1
    · rw [Array.toList_append] at e
      rcases among_snoc _ hok.1 e with e | rfl
      · obtain ⟨c2, oc2, vs2, t2, a, b, r⟩ := hok.2 _ _ e
        exact ⟨c2, oc2, vs2, t2, a, .tail _ b, r⟩
      · exact ⟨c', oc, vs, t, rfl, .head _, d1, d2⟩
  | some cv =>
    obtain ⟨c', oc, vs, t, rfl, hm, d1, d2⟩ := hok.2 _ _ hf
    have hm := hsub _ hm
    refine kla_hit F N T C hcd hmem hok.1 hf hcl fun f ctv h' tk F' N' l1 => ?_
    refine h f c' oc vs t ctv ps h' tk F' (fun q hq => ?_) d1 d2 (hok.sub fun q hq => .tail _ hq) l1 (l1 _ hm) fun e => ?_
    · rw [hgid] at hq
      rcases List.mem_cons.mp hq with rfl | hq
      · exact N' _ (.head _)
      · rcases List.mem_cons.mp hq with rfl | hq
        · exact N' _ (.tail _ hm)
        · exact N' _ (.tail _ hq)
    · subst e
      have e1 := (N _ hm).1
      rw [(N _ hmem).1] at e1
      cases e1
      cases d1
      exact triples_second (l := ps.toList) hok.1 (by rw [Array.getElem?_toList]; exact d2)
end SModL
section SModF
theorem leave_onE {M : Model} {A : Around} {env : Env} {s' : Shared} {g g₂ : Heap} {e t : Addr} {cls : Value} {vs : List Value} {Q : Unit → Shared → Prop} (hf : env.frame = some L) (K : Below A base outer g) (F : Fr g L g₂ m) (R : RaisedS base g₂ (env :: outer) e cls t vs news s'.heap) (hsm : g₂.UpToSlots s'.heap)
    (hQ : ∀ h', RaisedS base g outer e cls t vs news h' → RaisedK base outer e cls t vs news h' → g.UpToSlots h' → Q () { s' with heap := h' }) :
    wpAny M (A.deeper env) (leaving env (.ref e)) Q E s' := by
  obtain ⟨⟨B, hB, hBG, hl, hfl, hnew⟩, htup⟩ := R
  exact wpAny_leaves_onW (Around.frames_deeper K.stack) hf hfl fun h' x1 x2 =>
    have R : RaisedS base g outer e cls t vs news h' := ⟨⟨B, hB, fun b o q nm => hBG b o (F.keep b o q) (fun hm => by
      rw [List.filterMap_cons, hf] at hm
      rcases List.mem_cons.mp hm with z | z
      · rw [z, kts_self F] at q
        cases q
      · exact nm z), fun q hq => ⟨(hl q hq).1, kts_none F.keep (hl q hq).2.1, (hl q hq).2.2⟩, x1, hnew⟩, htup.of_slots x2⟩
    hQ h' R R.toK ((Heap.UpToSlots.of_keeps F.keep).trans (hsm.trans x2))
local macro_rules | `(tactic| walk_at "leaving ref") => `(tactic| (k_here; (refine' leave_onE ?k0 ?k1 ?k2 ?k3 ?k4 ?_; (case k3 | k2 | k1 | k4 => assumption); (case k0 => exact rfl); k_whole; intro h8 R8 K8 U8; (try dsimp only at R8 K8 U8 ⊢))))
local macro_rules | `(tactic| walk_at "call ref") => `(tactic| (tbr_iter 93; k_dflt (refine' pas_all ?hT ?TA ?RA ?NA ?ht ?tbS ?hV ?hR; (case tbS => tb_start); (case hT | TA | RA | NA => assumption); (case ht => k_mem)); (case' hV => intro hf9 h9 tk9 F9 N9; wtm_at "f"); (case' hR => intros; wtm_at "f")))
theorem lamC_pas {fa c' : Addr} {oc : Obj} {vc : Array Value} {tq : Tok} {lnm qu : Str} {pm ctv : Value} {p0 p1 p2 p3 p4 p5 pc : Pos} {ctr cte cno cna cax : Addr} {o1 o2 o3 o4 o5 : Obj} {tr na ts : Addr} {vs : List Value} {node : Int} {kd ur lc nm ax : Str} {tn tx k0 k1 k2 : Tok} {n2 : Nat}  {T : TT} (hfa : (fa, kla_obj lnm qu ({ posonlyargs := [], args := [], vararg := none, kwonlyargs := [], kw_defaults := [], kwarg := none, defaults := [] } : Arguments) (.Call (.Name "passes" p0) [.Name "tree" p1, .Name "node" p2, .Name "axis" p3, .Name "test" p4, .Name "names" p5] [] pc) ({ kind := .function, names := [("axis", .free), ("names", .free), ("node", .free), ("test", .free), ("tree", .free), ("passes", .globalImplicit)], isGenerator := false, isCoroutine := false } : Scope) [("tree", ctr), ("test", cte), ("node", cno), ("names", cna), ("axis", cax)] pm c' ctv) ∈ news)
   (hoc : (c', oc) ∈ news) (e1 : oc.data = .fields vc) (e2 : vc[1]? = some (.str qu tq)) (CH : CodeHd base 373 369) (m1 : (ctr, o1) ∈ news) (f1 : o1.data = .cell (some (.ref tr))) (m2 : (cte, o2) ∈ news) (f2 : o2.data = .cell (some (.ref ts))) (m3 : (cno, o3) ∈ news) (f3 : o3.data = .cell (some (.int node tn))) (m4 : (cna, o4) ∈ news) (f4 : o4.data = .cell (some (.ref na))) (m5 : (cax, o5) ∈ news) (f5 : o5.data = .cell (some (.str ax tx))) (hT : T.okay) (TA : TreeAt w base tr vs) (RA : RowAt w base vs node kd ur lc nm) (NA : NamesAt w news na) (ht : (ts, T.obj k0 k1 k2 n2) ∈ news) :
   Callee w p loose mean mg mb base news fa (fun v => T.fl = false ∧ v = .bool (T.val kd ur lc nm ax)) (T.fl = true) := by
  intro dp un gd cn cs L a ccd cl outer A₀ g m s Q E C hV hR
  obtain ⟨B, F, X, N, T, hk, hd, hu⟩ := C
  w_on
  w_strict (refine wpAny_call ?_; (refine' kla_code ?k1 ?k2 ?k3 ?k4 ?k5 ?kA ?kF ?kK ?k6 ?k7 ?k8 ?k9 ?kB ?_ ?c2 ?c3 ?c4 ?c5; (case kA => exact rfl); (case kF => exact rfl); (case kK => assumption); (case k1 => k_asm); (case k2 => k_asm); (case k3 => k_asm); (case k4 => k_asm); (case k5 => k_asm); (case k6 => k_mem); (case k7 => exact codeRec_news (by k_asm) (by k_mem) (by assumption) (by assumption)); (case k8 => ktr_room); (case k9 => exact rfl); (case c5 => decide); (case kB => exact locs rfl); (case c2 => exact rfl); (case c3 => exact rfl); (case c4 => exact rfl); k_whole; intro g' L' h' FG' F' N' B' X' T'; (try dsimp only); (try k_lift B'); (try k_fold)); k_steps; all_goals first | (refine' hV _ _ _ ?v9 ?F9 ?N9; (case F9 => assumption); (case N9 => exact cb_drop (by assumption) (by intro p hp; k_mem)); (case v9 => first | exact ⟨by assumption, rfl⟩ | exact ⟨by assumption, _, rfl⟩)) | (exact hR (by assumption) _ _ _ _ _ _ (by assumption) (raisedS_drop (by assumption) (by intro p hp; k_mem)) (by assumption)))
theorem told_pas {fa c' : Addr} {oc : Obj} {vc : Array Value} {tq : Tok} {lnm qu : Str} {pm ctv : Value} {p0 p1 p2 p3 p4 p5 pc : Pos} {ctr cte cno cna cax : Addr} {o1 o2 o3 o4 o5 : Obj} {tr na ts : Addr} {vs : List Value} {node : Int} {kd ur lc nm ax : Str} {tn tx k0 k1 k2 : Tok} {n2 : Nat}  {T : TT} (hfa : (fa, kla_obj lnm qu ({ posonlyargs := [], args := [], vararg := none, kwonlyargs := [], kw_defaults := [], kwarg := none, defaults := [] } : Arguments) (.Call (.Name "passes" p0) [.Name "tree" p1, .Name "node" p2, .Name "axis" p3, .Name "test" p4, .Name "names" p5] [] pc) ({ kind := .function, names := [("axis", .free), ("names", .free), ("node", .free), ("test", .free), ("tree", .free), ("passes", .globalImplicit)], isGenerator := false, isCoroutine := false } : Scope) [("tree", ctr), ("test", cte), ("node", cno), ("names", cna), ("axis", cax)] pm c' ctv) ∈ news)
   (hoc : (c', oc) ∈ news) (e1 : oc.data = .fields vc) (e2 : vc[1]? = some (.str qu tq)) (CH : CodeHd base 373 369) (m1 : (ctr, o1) ∈ news) (f1 : o1.data = .cell (some (.ref tr))) (m2 : (cte, o2) ∈ news) (f2 : o2.data = .cell (some (.ref ts))) (m3 : (cno, o3) ∈ news) (f3 : o3.data = .cell (some (.int node tn))) (m4 : (cna, o4) ∈ news) (f4 : o4.data = .cell (some (.ref na))) (m5 : (cax, o5) ∈ news) (f5 : o5.data = .cell (some (.str ax tx))) (hT : T.okay) (TA : TreeAt w base tr vs) (RA : RowAt w base vs node kd ur lc nm) (NA : NamesAt w news na) (ht : (ts, T.obj k0 k1 k2 n2) ∈ news) (XB : (hd.heap_1 w.params).In base) (TB : Top p loose mean mg mb base) (D : KtsDicts (outer.filterMap (·.frame)) h₀)
   (C : Site w p loose mean mg mb A₀ base outer h₀ L m news s.heap cs dp un 30 350)
   (hret : ∀ v h' tk' h₀', ((T.fl = false ∧ v = .bool (T.val kd ur lc nm ax)) ∨ ((T.fl = true) ∧ ∃ t, v = .str "fault" t)) → KtsTurn (outer.filterMap (·.frame)) h₀ h₀' → Fr h₀' L h' m → News h₀' L h' news → Below A₀ base outer h₀' → (hd.heap_1 w.params).In h₀' → Top p loose mean mg mb h₀' → KtsDicts (outer.filterMap (·.frame)) h₀' → Q v { s with heap := h', toks := tk' }) :
   wpAny (model PR w) (ktrTop dp un gd cn cs L a ccd cl outer) (call (.ref 367) [.ref fa]) Q E s :=
  told_c XB TB D hfa rfl (lamC_pas hfa hoc e1 e2 CH m1 f1 m2 f2 m3 f3 m4 f4 m5 f5 hT TA RA NA ht) C fun v h' tk' h₀' hv T F N B => hret v h' tk' h₀' hv T F N B (XB.keeps B.stays) (TB.keeps B.stays) (D.turn T)
local macro_rules | `(tactic| walk_at "call ref") => `(tactic| (tbr_iter 79; k_dflt (refine' bu_all ?hT ?NA ?tbS ?hV ?hR; (case tbS => tb_start); (case hT | NA => assumption)); (case' hV => intro hf9 t9 h9 tk9 F9 N9; wtm_at "f"); (case' hR => intros; wtm_at "f")))
theorem lamC_bu {fa c' : Addr} {oc : Obj} {vc : Array Value} {tq : Tok} {lnm qu : Str} {pm ctv : Value} {p0 p1 p2 p3 p4 pc : Pos} {cte cna : Addr} {o2 o4 : Obj} {na ts : Addr} {k0 k1 k2 : Tok} {n2 : Nat}  {pf nn : Str} {kk : Nat} (hfa : (fa, kla_obj lnm qu ({ posonlyargs := [], args := [], vararg := none, kwonlyargs := [], kw_defaults := [], kwarg := none, defaults := [] } : Arguments) (.Call (.Name "bound_uri" p0) [.Subscript (.Name "test" p1) (.Constant (.int 1) kk p2) p3, .Name "names" p4] [] pc) ({ kind := .function, names := [("names", .free), ("test", .free), ("bound_uri", .globalImplicit)], isGenerator := false, isCoroutine := false } : Scope) [("test", cte), ("names", cna)] pm c' ctv) ∈ news)
   (hoc : (c', oc) ∈ news) (e1 : oc.data = .fields vc) (e2 : vc[1]? = some (.str qu tq)) (CH : CodeHd base 373 369) (m2 : (cte, o2) ∈ news) (f2 : o2.data = .cell (some (.ref ts))) (m4 : (cna, o4) ∈ news) (f4 : o4.data = .cell (some (.ref na))) (hT : pf ∈ (["", "p", "q", "z"] : List Str)) (NA : NamesAt w news na) (ht : (ts, TT.obj (.name pf nn) k0 k1 k2 n2) ∈ news) :
   Callee w p loose mean mg mb base news fa (fun v => (pf == "z") = false ∧ ∃ t, v = .str (uriF pf) t) ((pf == "z") = true) := by
  intro dp un gd cn cs L a ccd cl outer A₀ g m s Q E C hV hR
  obtain ⟨B, F, X, N, T, hk, hd, hu⟩ := C
  w_on
  w_strict (refine wpAny_call ?_; (refine' kla_code ?k1 ?k2 ?k3 ?k4 ?k5 ?kA ?kF ?kK ?k6 ?k7 ?k8 ?k9 ?kB ?_ ?c2 ?c3 ?c4 ?c5; (case kA => exact rfl); (case kF => exact rfl); (case kK => assumption); (case k1 => k_asm); (case k2 => k_asm); (case k3 => k_asm); (case k4 => k_asm); (case k5 => k_asm); (case k6 => k_mem); (case k7 => exact codeRec_news (by k_asm) (by k_mem) (by assumption) (by assumption)); (case k8 => ktr_room); (case k9 => exact rfl); (case c5 => decide); (case kB => exact locs rfl); (case c2 => exact rfl); (case c3 => exact rfl); (case c4 => exact rfl); k_whole; intro g' L' h' FG' F' N' B' X' T'; (try dsimp only); (try k_lift B'); (try k_fold)); k_steps; all_goals first | (refine' hV _ _ _ ?v9 ?F9 ?N9; (case F9 => assumption); (case N9 => exact cb_drop (by assumption) (by intro p hp; k_mem)); (case v9 => first | exact ⟨by assumption, rfl⟩ | exact ⟨by assumption, _, rfl⟩)) | (exact hR (by assumption) _ _ _ _ _ _ (by assumption) (raisedS_drop (by assumption) (by intro p hp; k_mem)) (by assumption)))
theorem told_bu {fa c' : Addr} {oc : Obj} {vc : Array Value} {tq : Tok} {lnm qu : Str} {pm ctv : Value} {p0 p1 p2 p3 p4 pc : Pos} {cte cna : Addr} {o2 o4 : Obj} {na ts : Addr} {k0 k1 k2 : Tok} {n2 : Nat}  {pf nn : Str} {kk : Nat} (hfa : (fa, kla_obj lnm qu ({ posonlyargs := [], args := [], vararg := none, kwonlyargs := [], kw_defaults := [], kwarg := none, defaults := [] } : Arguments) (.Call (.Name "bound_uri" p0) [.Subscript (.Name "test" p1) (.Constant (.int 1) kk p2) p3, .Name "names" p4] [] pc) ({ kind := .function, names := [("names", .free), ("test", .free), ("bound_uri", .globalImplicit)], isGenerator := false, isCoroutine := false } : Scope) [("test", cte), ("names", cna)] pm c' ctv) ∈ news)
   (hoc : (c', oc) ∈ news) (e1 : oc.data = .fields vc) (e2 : vc[1]? = some (.str qu tq)) (CH : CodeHd base 373 369) (m2 : (cte, o2) ∈ news) (f2 : o2.data = .cell (some (.ref ts))) (m4 : (cna, o4) ∈ news) (f4 : o4.data = .cell (some (.ref na))) (hT : pf ∈ (["", "p", "q", "z"] : List Str)) (NA : NamesAt w news na) (ht : (ts, TT.obj (.name pf nn) k0 k1 k2 n2) ∈ news) (XB : (hd.heap_1 w.params).In base) (TB : Top p loose mean mg mb base) (D : KtsDicts (outer.filterMap (·.frame)) h₀)
   (C : Site w p loose mean mg mb A₀ base outer h₀ L m news s.heap cs dp un 30 350)
   (hret : ∀ v h' tk' h₀', (((pf == "z") = false ∧ ∃ t, v = .str (uriF pf) t) ∨ (((pf == "z") = true) ∧ ∃ t, v = .str "fault" t)) → KtsTurn (outer.filterMap (·.frame)) h₀ h₀' → Fr h₀' L h' m → News h₀' L h' news → Below A₀ base outer h₀' → (hd.heap_1 w.params).In h₀' → Top p loose mean mg mb h₀' → KtsDicts (outer.filterMap (·.frame)) h₀' → Q v { s with heap := h', toks := tk' }) :
   wpAny (model PR w) (ktrTop dp un gd cn cs L a ccd cl outer) (call (.ref 367) [.ref fa]) Q E s :=
  told_c XB TB D hfa rfl (lamC_bu hfa hoc e1 e2 CH m2 f2 m4 f4 hT NA ht) C fun v h' tk' h₀' hv T F N B => hret v h' tk' h₀' hv T F N B (XB.keeps B.stays) (TB.keeps B.stays) (D.turn T)
local macro_rules | `(tactic| walk_at "call ref") => `(tactic| (tbr_iter 86; k_dflt (refine' nam_all ?hT ?TA ?RA ?NA ?ht ?tbS ?hV ?hR; (case tbS => tb_start); (case hT | TA | RA | NA => assumption); (case ht => k_mem)); (case' hV => intro hf9 h9 tk9 F9 N9; wtm_at "f"); (case' hR => intros; wtm_at "f")))
theorem lamC_nam {fa c' : Addr} {oc : Obj} {vc : Array Value} {tq : Tok} {lnm qu : Str} {pm ctv : Value} {p0 p1 p2 p3 p4 pc : Pos} {ctr cte cno cna : Addr} {o1 o2 o3 o4 : Obj} {tr na ts : Addr} {vs : List Value} {node : Int} {kd ur lc nm : Str} {tn k0 k1 k2 : Tok} {n2 : Nat}  {pf nn : Str} (hfa : (fa, kla_obj lnm qu ({ posonlyargs := [], args := [], vararg := none, kwonlyargs := [], kw_defaults := [], kwarg := none, defaults := [] } : Arguments) (.Call (.Name "is_named" p0) [.Name "tree" p1, .Name "node" p2, .Name "test" p3, .Name "names" p4] [] pc) ({ kind := .function, names := [("names", .free), ("node", .free), ("test", .free), ("tree", .free), ("is_named", .globalImplicit)], isGenerator := false, isCoroutine := false } : Scope) [("tree", ctr), ("test", cte), ("node", cno), ("names", cna)] pm c' ctv) ∈ news)
   (hoc : (c', oc) ∈ news) (e1 : oc.data = .fields vc) (e2 : vc[1]? = some (.str qu tq)) (CH : CodeHd base 373 369) (m1 : (ctr, o1) ∈ news) (f1 : o1.data = .cell (some (.ref tr))) (m2 : (cte, o2) ∈ news) (f2 : o2.data = .cell (some (.ref ts))) (m3 : (cno, o3) ∈ news) (f3 : o3.data = .cell (some (.int node tn))) (m4 : (cna, o4) ∈ news) (f4 : o4.data = .cell (some (.ref na))) (hT : pf ∈ (["", "p", "q", "z"] : List Str)) (TA : TreeAt w base tr vs) (RA : RowAt w base vs node kd ur lc nm) (NA : NamesAt w news na) (ht : (ts, TT.obj (.name pf nn) k0 k1 k2 n2) ∈ news) :
   Callee w p loose mean mg mb base news fa (fun v => (pf == "z") = false ∧ v = .bool (isNamedF kd ur lc nm pf nn)) ((pf == "z") = true) := by
  intro dp un gd cn cs L a ccd cl outer A₀ g m s Q E C hV hR
  obtain ⟨B, F, X, N, T, hk, hd, hu⟩ := C
  w_on
  w_strict (refine wpAny_call ?_; (refine' kla_code ?k1 ?k2 ?k3 ?k4 ?k5 ?kA ?kF ?kK ?k6 ?k7 ?k8 ?k9 ?kB ?_ ?c2 ?c3 ?c4 ?c5; (case kA => exact rfl); (case kF => exact rfl); (case kK => assumption); (case k1 => k_asm); (case k2 => k_asm); (case k3 => k_asm); (case k4 => k_asm); (case k5 => k_asm); (case k6 => k_mem); (case k7 => exact codeRec_news (by k_asm) (by k_mem) (by assumption) (by assumption)); (case k8 => ktr_room); (case k9 => exact rfl); (case c5 => decide); (case kB => exact locs rfl); (case c2 => exact rfl); (case c3 => exact rfl); (case c4 => exact rfl); k_whole; intro g' L' h' FG' F' N' B' X' T'; (try dsimp only); (try k_lift B'); (try k_fold)); k_steps; all_goals first | (refine' hV _ _ _ ?v9 ?F9 ?N9; (case F9 => assumption); (case N9 => exact cb_drop (by assumption) (by intro p hp; k_mem)); (case v9 => first | exact ⟨by assumption, rfl⟩ | exact ⟨by assumption, _, rfl⟩)) | (exact hR (by assumption) _ _ _ _ _ _ (by assumption) (raisedS_drop (by assumption) (by intro p hp; k_mem)) (by assumption)))
theorem told_nam {fa c' : Addr} {oc : Obj} {vc : Array Value} {tq : Tok} {lnm qu : Str} {pm ctv : Value} {p0 p1 p2 p3 p4 pc : Pos} {ctr cte cno cna : Addr} {o1 o2 o3 o4 : Obj} {tr na ts : Addr} {vs : List Value} {node : Int} {kd ur lc nm : Str} {tn k0 k1 k2 : Tok} {n2 : Nat}  {pf nn : Str} (hfa : (fa, kla_obj lnm qu ({ posonlyargs := [], args := [], vararg := none, kwonlyargs := [], kw_defaults := [], kwarg := none, defaults := [] } : Arguments) (.Call (.Name "is_named" p0) [.Name "tree" p1, .Name "node" p2, .Name "test" p3, .Name "names" p4] [] pc) ({ kind := .function, names := [("names", .free), ("node", .free), ("test", .free), ("tree", .free), ("is_named", .globalImplicit)], isGenerator := false, isCoroutine := false } : Scope) [("tree", ctr), ("test", cte), ("node", cno), ("names", cna)] pm c' ctv) ∈ news)
   (hoc : (c', oc) ∈ news) (e1 : oc.data = .fields vc) (e2 : vc[1]? = some (.str qu tq)) (CH : CodeHd base 373 369) (m1 : (ctr, o1) ∈ news) (f1 : o1.data = .cell (some (.ref tr))) (m2 : (cte, o2) ∈ news) (f2 : o2.data = .cell (some (.ref ts))) (m3 : (cno, o3) ∈ news) (f3 : o3.data = .cell (some (.int node tn))) (m4 : (cna, o4) ∈ news) (f4 : o4.data = .cell (some (.ref na))) (hT : pf ∈ (["", "p", "q", "z"] : List Str)) (TA : TreeAt w base tr vs) (RA : RowAt w base vs node kd ur lc nm) (NA : NamesAt w news na) (ht : (ts, TT.obj (.name pf nn) k0 k1 k2 n2) ∈ news) (XB : (hd.heap_1 w.params).In base) (TB : Top p loose mean mg mb base) (D : KtsDicts (outer.filterMap (·.frame)) h₀)
   (C : Site w p loose mean mg mb A₀ base outer h₀ L m news s.heap cs dp un 30 350)
   (hret : ∀ v h' tk' h₀', (((pf == "z") = false ∧ v = .bool (isNamedF kd ur lc nm pf nn)) ∨ (((pf == "z") = true) ∧ ∃ t, v = .str "fault" t)) → KtsTurn (outer.filterMap (·.frame)) h₀ h₀' → Fr h₀' L h' m → News h₀' L h' news → Below A₀ base outer h₀' → (hd.heap_1 w.params).In h₀' → Top p loose mean mg mb h₀' → KtsDicts (outer.filterMap (·.frame)) h₀' → Q v { s with heap := h', toks := tk' }) :
   wpAny (model PR w) (ktrTop dp un gd cn cs L a ccd cl outer) (call (.ref 367) [.ref fa]) Q E s :=
  told_c XB TB D hfa rfl (lamC_nam hfa hoc e1 e2 CH m1 f1 m2 f2 m3 f3 m4 f4 hT TA RA NA ht) C fun v h' tk' h₀' hv T F N B => hret v h' tk' h₀' hv T F N B (XB.keeps B.stays) (TB.keeps B.stays) (D.turn T)
end SModF
section SModW

theorem tf {b : Bool} {P : Prop} (h1 : b = true) (h2 : b = false) : P := by rw [h1] at h2; cases h2
theorem one_k {src th : Addr} {x y : Int} {tx ty : Tok} {k nt : Nat} {vs : List Value} {kvs : List (Int × Value)} {P : Int × Value → Prop} (hP : ∀ (i : Nat) (v : Value), vs[i]? = some v → ∃ (k : Int) (t : Tok) (x : Value), v = .int k t ∧ (k, x) ∈ kvs) (hR : ∀ q ∈ kvs, P q)
   (hx : 0 ≤ x) (hy : 0 ≤ y) (hy' : y < 2147483647) (hv1 : 1 ≤ vs.length) (hv2 : vs.length ≤ 16)
   (C : Site w p loose mean mg mb A₀ base outer h₀ L m news s.heap cs dp un 4 50) (hth : (th, listOf vs.toArray nt) ∈ news) (hne : th ≠ src) (O : Own src (listOf #[.int x tx, .int y ty] k) news)
   (hret : ∀ (u : Int) (t : Tok) (xv : Value) (x' y' : Int) (tx' ty' : Tok) (k' : Nat) (h' : Heap) (tk' : Nat), (u, xv) ∈ kvs → P (u, xv) → 0 ≤ x' → 0 ≤ y' → y' < 2147483647 → Fr h₀ L h' m →
     (∀ news', Upd src (listOf #[.int x tx, .int y ty] k) (listOf #[.int x' tx', .int y' ty'] k') news news' → News h₀ L h' news') → Q (.int u t) { s with heap := h', toks := tk' }) :
   wpAny (model PR w) (ktrTop dp un gd cn cs L a ccd cl outer) (call (.ref 325) [.ref src, .ref th]) Q E s :=
  one_u hx hy hy' hv1 hv2 C hth hne O fun i v x' y' tx' ty' k' h' tk' g1 g2 g3 g4 F' hN => by
    obtain ⟨u, t, xv, rfl, hm⟩ := hP i v g1
    exact hret u t xv x' y' tx' ty' k' h' tk' hm (hR _ hm) g2 g3 g4 F' hN
theorem want_get {prog : Program} {A : Around} {d : Addr} {o : Obj} {ax : Str} {tx b1 b2 t2 : Tok} {Q : Value → Shared → Prop} (N : News h₀ L s.heap news) (hp : (d, o) ∈ news) (hd : o.IsDictOf (strKind prog w) [("attribute", .str "attribute" b1), ("namespace", .str "namespace" b2)]) (lo : (d == sysModules) = false)
   (h : ∀ t, Q (.str (wantF ax) t) { s with toks := s.toks + 1 }) : wpAny (model prog w) A (call (.builtin "dict.get") [.ref d, .str ax tx, .str "element" t2]) Q E s := by
  refine kdg_get2 (knd := strKind prog w) N hp hd lo (strKind_is _ _ _ _) _ rfl ?_
  by_cases e1 : ax = "attribute"
  · subst e1
    exact h b1
  · by_cases e2 : ax = "namespace"
    · subst e2
      exact h b2
    · have e3 : valueAt [(("attribute" : Str), Value.str "attribute" b1), ("namespace", .str "namespace" b2)] ax = none := value_none fun q hq => by
        rcases List.mem_cons.mp hq with rfl | hq
        · exact fun e => e1 e.symm
        · rcases List.mem_cons.mp hq with rfl | hq
          · exact fun e => e2 e.symm
          · cases hq
      rw [e3]
      have e4 : wantF ax = "element" := want_f (by rw [List.any_cons, List.any_cons, List.any_nil, beq_eq_false_iff_ne.mpr (fun e => e1 e.symm), beq_eq_false_iff_ne.mpr (fun e => e2 e.symm)]; rfl)
      rw [← e4]
      exact h t2
local macro_rules | `(tactic| walk_at "getMethod ref") => `(tactic| (k_here; (with_reducible show wpAny _ _ (getMethod (Value.ref _) (PySem.Str.ofString "get") _) _ _ _); k_dflt (refine' kdg_method (knd := PySem.strKind _ _) ?N ?hp ?hd ?_; (case N => k_asm); (case hp => exact List.mem_cons_self); (case hd => assumption); k_whole)))
local macro_rules | `(tactic| walk_at "call builtin:dict.get") => `(tactic| (k_here; k_dflt (refine' want_get ?N ?hp ?hd ?lo ?_; (case N => k_asm); (case hp => exact List.mem_cons_self); (case hd | lo => assumption)); intro t9; (try dsimp only)))
theorem bne_absB {x : Bool} {P : Prop} (h : (x != x) = true) : P := by simp at h
theorem bne_absS {x : Str} {P : Prop} (h : (x != x) = true) : P := by simp at h
theorem item_T0 {prog : Program} {A : Around} {value slice : PySem.Expr} {t : Addr} {T : TT} {k0 k1 k2 : Tok} {n : Nat} {k : Int} {u : Tok} {Q : Value → Shared → Prop} (N : News h₀ L s.heap news) (hm : (t, T.obj k0 k1 k2 n) ∈ news) (hk : k = 0) (h : Q (.str T.hd k0) s)
    (hs : ∀ k u, subscripted slice false (.ref t) (.int k u) = operate [.ref t, .int k u] (getItem (.ref t) (.int k u))) :
    wpAny (model prog w) A (subscriptTail value slice (.ref t) (.int k u)) Q E s := by
  subst hk
  cases T <;> exact item_tupleM N hm (by decide) (by decide) rfl rfl h (hs _ _)
theorem item_T1 {prog : Program} {A : Around} {value slice : PySem.Expr} {t : Addr} {T : TT} {k0 k1 k2 : Tok} {n : Nat} {k : Int} {u : Tok} {b : Bool} {Q : Value → Shared → Prop} (N : News h₀ L s.heap news) (hm : (t, T.obj k0 k1 k2 n) ∈ news) (hk : k = 1) (hd : (T.hd != "name") = false) (hT : T.okay) (hfl : T.fl = b)
    (h : ∀ pf nn, T = .name pf nn → pf ∈ (["", "p", "q", "z"] : List Str) → ok nn → (pf == "z") = b → Q (.str pf k1) s)
    (hs : ∀ k u, subscripted slice false (.ref t) (.int k u) = operate [.ref t, .int k u] (getItem (.ref t) (.int k u))) :
    wpAny (model prog w) A (subscriptTail value slice (.ref t) (.int k u)) Q E s := by
  subst hk
  cases T with
  | name pf nn => exact item_tupleM N hm (by decide) (by decide) rfl rfl (h pf nn rfl hT.1 hT.2 hfl) (hs _ _)
  | of pf => exact absurd (show (("any of" : Str) != "name") = false from hd) (by decide)
  | insn => exact absurd hd (by decide)
  | inss nn => exact absurd (show (("instruction" : Str) != "name") = false from hd) (by decide)
  | any => exact absurd hd (by decide)
  | node => exact absurd hd (by decide)
  | text => exact absurd hd (by decide)
  | comment => exact absurd hd (by decide)
theorem uri_ok {pf : Str} {tx : Tok} (hp : pf ∈ (["", "p", "q", "z"] : List Str)) (hz : (pf == "z") = false) (C : Site w p loose mean mg mb A₀ base outer h₀ L m news s.heap cs dp un 2 20)
   (hret : ∀ (t : Tok) (h' : Heap) (tk' : Nat), Fr h₀ L h' m → News h₀ L h' news → Q (.str (uriF pf) t) { s with heap := h', toks := tk' }) :
   wpAny (model PR w) (ktrTop dp un gd cn cs L a ccd cl outer) (call (.ref 346) [.str pf tx]) Q E s := by
  rcases four_pf hp with rfl | rfl | rfl | rfl
  · exact uri_e C hret
  · exact uri_p C hret
  · exact uri_q C hret
  · exact absurd hz (by decide)
theorem uri_bad {pf : Str} {tx : Tok} (hz : (pf == "z") = true) (C : Site w p loose mean mg mb A₀ base outer h₀ L m news s.heap cs dp un 2 20)
   (hret : ∀ (h' : Heap) (tk' : Nat), Fr h₀ L h' m → News h₀ L h' news → Q .none { s with heap := h', toks := tk' }) :
   wpAny (model PR w) (ktrTop dp un gd cn cs L a ccd cl outer) (call (.ref 346) [.str pf tx]) Q E s := by
  have e := eq_of_beq hz
  subst e
  exact uri_z C hret
theorem isn_all {row ts : Addr} {kd ur lc nm pf nn : Str} {t1 t2 t3 t4 k0 k1 k2 : Tok} {n1 n2 : Nat} (hp : pf ∈ (["", "p", "q", "z"] : List Str)) (hz : (pf == "z") = false) (our : ok ur) (olc : ok lc) (onm : ok nm) (onn : ok nn)
   (hr : (row, ({ cls := .type "tuple", data := .seq #[.str kd t1, .str ur t2, .str lc t3, .str nm t4] n1 } : Obj)) ∈ news) (ht : (ts, TT.obj (.name pf nn) k0 k1 k2 n2) ∈ news)
   (C : Site w p loose mean mg mb A₀ base outer h₀ L m news s.heap cs dp un 3 100)
   (hret : ∀ (h' : Heap) (tk' : Nat), Fr h₀ L h' m → News h₀ L h' news → Q (.bool (isNamedF kd ur lc nm pf nn)) { s with heap := h', toks := tk' }) :
   wpAny (model PR w) (ktrTop dp un gd cn cs L a ccd cl outer) (call (.ref 360) [.ref row, .ref ts]) Q E s := by
  rcases four_pf hp with rfl | rfl | rfl | rfl
  · exact isn_e our olc onm onn hr ht C hret
  · exact isn_p our olc onm onn hr ht C hret
  · exact isn_q our olc onm onn hr ht C hret
  · exact absurd hz (by decide)
theorem code_ne {h : Heap} {c src : Addr} {oc : Obj} {vs : Array Value} {k : Nat} {ws : Array Value} (N : News h₀ L h news) (hm : (c, oc) ∈ news) (hd : oc.data = .fields vs) (hs : (src, listOf ws k) ∈ news) : c ≠ src := fun e => by
  have e1 := (N _ hm).1
  have e2 := (N _ hs).1
  rw [show ((c, oc) : Addr × Obj).1 = src from e] at e1
  rw [e2] at e1
  cases e1
  cases hd
theorem turn_leave {R : Result → Shared → Prop} {env : Env} {g g' : Heap} {L' src : Addr} {m' : Str → Option Value} {v : Value} {ws : Array Value} {k₁ : Nat} {nt rest fz : List (Addr × Obj)} {ps' : Array Value} {qual : Str} (hv : v = .bool true) (hT : KtsTurn ((env :: outer).filterMap (·.frame)) g g') (F : Fr g' L' s.heap m') (N : News g' L' s.heap news)
    (m2 : (369, tabObj ps') ∈ news) (m1 : (src, listOf ws k₁) ∈ news) (hok : TabOK qual ps' nt) (hsub : ∀ q ∈ nt, q ∈ news) (hrest : ∀ q ∈ rest, q ∈ nt) (hne : ∀ q ∈ nt, q.1 ≠ src) (hn3 : ∀ q ∈ nt, q.1 ≠ 369)
    (k : TabOK qual ps' nt → (∀ q ∈ rest, q ∈ nt) → (∀ q ∈ nt, q.1 ≠ src) → (∀ q ∈ nt, q.1 ≠ 369) → ∀ h₀', KtsTurn (outer.filterMap (·.frame)) h₀ h₀' → Fr h₀' L s.heap m → News h₀' L s.heap ((src, listOf ws k₁) :: (369, tabObj ps') :: nt) → News h₀' L s.heap fz → (∀ q ∈ fz, ∀ r ∈ (src, listOf ws k₁) :: (369, tabObj ps') :: nt, q.1 ≠ r.1) → Below A₀ base outer h₀' → R (.ok (.ret (.bool true))) s) :
    LeaveZ A₀ base outer env h₀ L m g fz R v s := by
  subst hv
  exact ⟨g', L', m', (src, listOf ws k₁) :: (369, tabObj ps') :: nt, hT, F, fun q hq => by
    rcases List.mem_cons.mp hq with rfl | hq
    · exact N _ m1
    · rcases List.mem_cons.mp hq with rfl | hq
      · exact N _ m2
      · exact N q (hsub q hq), fun h₀' T₁ F₁ N₁ NZ hz B => k hok hrest hne hn3 h₀' T₁ F₁ N₁ NZ hz B⟩
end SModW
section STurn



local macro_rules | `(tactic| walk_at "getMethod ref") => `(tactic| (k_here; (with_reducible show wpAny _ _ (getMethod (Value.ref _) (PySem.Str.ofString "get") _) _ _ _); k_dflt (refine' kdg_method (knd := PySem.strKind _ _) ?N ?hp ?hd ?_; (case N => k_asm); (case hp => exact List.mem_cons_self); (case hd => assumption); k_whole)))
local macro_rules | `(tactic| walk_at "call builtin:dict.get") => `(tactic| (k_here; k_dflt (refine' want_get ?N ?hp ?hd ?lo ?_; (case N => k_asm); (case hp => exact List.mem_cons_self); (case hd | lo => assumption)); intro t9; (try dsimp only)))
def Hold (P : Prop) : Prop := P
theorem hold_in {P : Prop} (h : Hold P) : P := h
theorem hold_out {P : Prop} (h : P) : Hold P := h
local macro_rules | `(tactic| walk_at "call ref") => `(tactic| (tbr_iter 367; (with_reducible refine hold_in ?_)))
local macro_rules | `(tactic| walk_at "call builtin:sorted") => `(tactic| (k_here; (with_reducible show wpAny _ _ (call (Value.builtin "sorted") [Value.ref _]) _ _ _); k_dflt (refine' book_sorted ?hh ?F ?N ?m ?d ?lo ?z ?_; (case hh => rfl); (case F | N => k_asm); (case d => assumption); (case m => k_mem); (case lo => assumption); (case z => omega); k_whole); intro D9 vs9 n9 h9 tk9 F9 N9 l9 hl9 hv9; (try k_lt l9); (try k_sweep)))
local macro_rules | `(tactic| walk_at "call ref") => `(tactic| (tbr_iter 325; k_dflt (refine' one_k ?hP ?hR ?a1 ?a2 ?a3 ?a4 ?a5 ?tbS ?th ?ne ?O ?_; (case tbS => tb_start); (case th => k_mem); (case hP | hR => assumption); (case ne => k_ne); (case O => exact own_of (o' := listOf #[] 0) (by k_upd)); (case a1 | a2 | a3 => assumption); (case a4 | a5 => omega); k_whole); intro u9 t9 xv9 x9 y9 tx9 ty9 k9 h9 tk9 hu9 hp9 hx9 hy9 hz9 F9 hN9; (have N9 := hN9 _ (by k_upd)); clear hN9; (obtain ⟨ra9, kd9, ur9, lc9, nm9, s19, s29, s39, s49, n19, e9, hm9, hrow9, okk9, oku9, okl9, okn9, hin9⟩ := hp9); (dsimp only at e9 hrow9); subst e9; wtm_at "s"))
local macro_rules | `(tactic| walk_at "call ref") => `(tactic| (tbr_iter 339; k_dflt (refine' test_u ?a1 ?a2 ?a3 ?tbS ?O ?_; (case tbS => tb_start); (case O => exact own_of (o' := listOf #[] 0) (by k_upd)); (case a1 | a2 | a3 => assumption); k_whole); intro T9 k09 k19 k29 n29 ts9 x9 y9 tx9 ty9 k9 h9 tk9 hT9 hx9 hy9 hz9 F9 l9 hN9; (have N9 := hN9 _ (by k_upd)); clear hN9; (try k_lt l9); wtm_at "s"))
local macro_rules | `(tactic| walk_at "subscriptTail Name Name ref int") => `(tactic| (wtm_at "i"; k_dflt (refine' book_item ?N ?m ?d ?k ?_ ?hs ?hg; (case N => k_asm); (case m => k_mem); (case d | k => assumption); (case hs => with_unfolding_all rfl); (case hg => (intro _; with_unfolding_all rfl)); k_whole)))
local macro_rules | `(tactic| walk_at "eval Lambda") => `(tactic| (k_here; kn_here; k_dflt (refine' kla_eval ?d0 ?_; (case d0 => exact rfl)); k_dflt (refine' lam_any ?F ?N ?T ?C ?cd ?U ?hok ?hsub ?cl ?_; (case F | N | T => k_asm); (case cd => exact rfl); (case C => kn_code); (case U => k_updF); (case hok => assumption); (case hsub => ((repeat ((with_reducible refine' List.forall_mem_cons.mpr ⟨?a9, ?_⟩); (case a9 => k_mem))); (intros; k_mem))); (case cl => exact rfl); k_whole); intro f' c' oc' vs' t' ct' ps' h' tk' F' N' d1' d2' hok' l1 l2 l3; (try dsimp only at N'); (try k_lt l1); (try k_lt2 l2)))
local macro_rules | `(tactic| walk_at "callWith ref") => `(tactic| (k_here; k_dflt (refine' callWith_K ?k1 ?k2 ?_; (case k1 => k_asm); (case k2 => k_is); k_whole)))
local macro_rules | `(tactic| walk_at "subscriptTail Subscript Name Name Constant ref int") => `(tactic| (wtm_at "i"; k_dflt (refine' item_tupleM ?k1 ?k0 ?k2 ?k3 ?k4 ?k5 ?_ ?k6; (case k1 => k_asm); (case k0 => k_mem); (case k2 | k3 => decide); (case k4 | k5 => rfl); (case k6 => with_unfolding_all rfl); k_whole)))
local macro_rules | `(tactic| walk_at "subscriptTail Name Constant ref int") => `(tactic| (wtm_at "i"; k_dflt (refine' item_T0 ?N ?m ?k ?_ ?hs; (case N => k_asm); (case m => k_mem); (case k => with_reducible rfl); (case hs => (intros; with_unfolding_all rfl)); k_whole)))
local macro_rules | `(tactic| walk_at "subscriptTail Name Constant ref int") => `(tactic| (wtm_at "i"; k_dflt (refine' item_T1 ?N ?m ?k ?d ?T ?f ?_ ?hs; (case N => k_asm); (case k => with_reducible rfl); (case d => with_reducible assumption); (case m => k_mem); (case T | f => with_reducible assumption); (case hs => (intros; with_unfolding_all rfl)); k_whole); intro pf9 nn9 e9 hpf9 hnn9 hz9; subst e9; (try dsimp only)))
local macro_rules | `(tactic| walk_at "call ref") => `(tactic| (tbr_iter 346; k_dflt (refine' uri_ok ?hp ?hz ?tbS ?_; (case hp | hz => with_reducible assumption); (case tbS => tb_start)); intros; wtm_at "s"))
local macro_rules | `(tactic| walk_at "call ref") => `(tactic| (tbr_iter 346; k_dflt (refine' uri_bad ?hz ?tbS ?_; (case hz => with_reducible assumption); (case tbS => tb_start)); intros; wtm_at "s"))
local macro_rules | `(tactic| walk_at "call ref") => `(tactic| (tbr_iter 360; k_dflt (refine' isn_all ?hp ?hz ?our ?olc ?onm ?onn ?hr ?ht ?tbS ?_; (case tbS => tb_start); (case hr | ht => k_mem); (case hp | hz | our | olc | onm | onn => with_reducible assumption)); intros; wtm_at "s"))
local macro_rules | `(tactic| walk_at "call ref") => `(tactic| (tbr_iter 367; k_dflt (refine' told_pas ?hfa ?hoc ?e1 ?e2 ?CH ?m1 ?f1 ?m2 ?f2 ?m3 ?f3 ?m4 ?f4 ?m5 ?f5 ?hT ?TA ?RA ?NA ?ht ?XB ?TB ?D ?tbS ?_; (case tbS => tb_start); (case hfa => with_reducible exact List.mem_cons_self); (case hoc => k_mem); (case e1 | e2 | CH => assumption); (case m1 => k_mem); (case f1 => assumption); (case m2 => k_mem); (case f2 => assumption); (case m3 => k_mem); (case f3 => assumption); (case m4 => k_mem); (case f4 => assumption); (case m5 => k_mem); (case f5 => assumption); (case hT => with_reducible assumption); (case ht => k_mem); (case TA | RA => assumption); (case NA => exact ⟨_, _, by k_mem, by assumption, by assumption, by assumption⟩); (case XB | TB | D => assumption)); intro v9 h9 tk9 g9 hv9 T9 F9 N9 B9 X9 P9 D9; (rcases hv9 with ⟨hf9, e9⟩ | ⟨hf9, t9, e9⟩) <;> (subst e9; first | (wtm_at "s"))))
local macro_rules | `(tactic| walk_at "call ref") => `(tactic| (tbr_iter 367; k_dflt (refine' told_bu ?hfa ?hoc ?e1 ?e2 ?CH ?m2 ?f2 ?m4 ?f4 ?hT ?NA ?ht ?XB ?TB ?D ?tbS ?_; (case tbS => tb_start); (case hfa => with_reducible exact List.mem_cons_self); (case hoc => k_mem); (case e1 | e2 | CH => assumption); (case m2 => k_mem); (case f2 => assumption); (case m4 => k_mem); (case f4 => assumption); (case hT => with_reducible assumption); (case ht => k_mem); (case NA => exact ⟨_, _, by k_mem, by assumption, by assumption, by assumption⟩); (case XB | TB | D => assumption)); intro v9 h9 tk9 g9 hv9 T9 F9 N9 B9 X9 P9 D9; (rcases hv9 with ⟨hf9, t9, e9⟩ | ⟨hf9, t9, e9⟩) <;> (subst e9; first | with_reducible exact tf (by assumption) hf9 | with_reducible exact tf hf9 (by assumption) | (wtm_at "s"))))
local macro_rules | `(tactic| walk_at "call ref") => `(tactic| (tbr_iter 367; k_dflt (refine' told_nam ?hfa ?hoc ?e1 ?e2 ?CH ?m1 ?f1 ?m2 ?f2 ?m3 ?f3 ?m4 ?f4 ?hT ?TA ?RA ?NA ?ht ?XB ?TB ?D ?tbS ?_; (case tbS => tb_start); (case hfa => with_reducible exact List.mem_cons_self); (case hoc => k_mem); (case e1 | e2 | CH => assumption); (case m1 => k_mem); (case f1 => assumption); (case m2 => k_mem); (case f2 => assumption); (case m3 => k_mem); (case f3 => assumption); (case m4 => k_mem); (case f4 => assumption); (case hT => with_reducible assumption); (case ht => k_mem); (case TA | RA => assumption); (case NA => exact ⟨_, _, by k_mem, by assumption, by assumption, by assumption⟩); (case XB | TB | D => assumption)); intro v9 h9 tk9 g9 hv9 T9 F9 N9 B9 X9 P9 D9; (rcases hv9 with ⟨hf9, e9⟩ | ⟨hf9, t9, e9⟩) <;> (subst e9; first | with_reducible exact tf (by assumption) hf9 | with_reducible exact tf hf9 (by assumption) | (wtm_at "s"))))
local macro_rules | `(tactic| walk_at "call ref") => `(tactic| (tbr_iter 353; k_dflt (refine' due_all ?hT ?our ?olc ?onm ?hin ?hr ?ht ?tbS ?_ ?_; (case tbS => tb_start); (case hr | ht => k_mem); (case hT | our | olc | onm | hin => with_reducible assumption)); (all_goals first | (intro hf9 t9 h9 tk9 F9 N9; first | (with_reducible exact tf hf9 (by assumption)) | (wtm_at "s")) | (intro hf9 h9 tk9 F9 N9; first | (with_reducible exact tf (by assumption) hf9) | (wtm_at "s")))))
theorem all_ne {l : List (Addr × Obj)} {d c : Addr} (h : ∀ p ∈ l, p.1 < d) (hc : @LE.le Nat _ d c) : ∀ p ∈ l, p.1 ≠ c := fun p hp => Nat.ne_of_lt (Nat.lt_of_lt_of_le (h p hp) hc)
local macro_rules | `(tactic| k_all) => `(tactic| exact all_ne (by with_reducible assumption) (by (try dsimp only); omega))
abbrev qLam : Str := (("_law_turn_right" : Str) ++ ".<locals>.") ++ "<lambda>"
structure TreeBook (w : World) (tr bk : Addr) (ob : Obj) (kvs : List (Int × Value)) (vs : List Value) (rest fz : List (Addr × Obj)) : Prop where
  hbk : (bk, ob) ∈ rest
  hbd : ob.IsDictOf (intKind PR w) kvs
  hbl : (bk == sysModules) = false
  hb1 : 1 ≤ kvs.length
  hb2 : kvs.length ≤ 16
  tree : ∀ b : Heap, (∀ q ∈ fz, b.get? q.1 = some q.2) → TreeAt w b tr vs
  rows : ∀ q ∈ kvs, ∃ (ra : Addr) (kd ur lc nm : Str) (t1 t2 t3 t4 : Tok) (n1 : Nat), q.2 = .ref ra ∧ (ra, ({ cls := .type "tuple", data := .seq #[.str kd t1, .str ur t2, .str lc t3, .str nm t4] n1 } : Obj)) ∈ rest ∧
    (∀ b : Heap, (∀ q ∈ fz, b.get? q.1 = some q.2) → RowAt w b vs q.1 kd ur lc nm) ∧ ok kd ∧ ok ur ∧ ok lc ∧ ok nm ∧ (kd = "instruction" → nm = lc)
theorem turn_c {src tr bk : Addr} {x y : Int} {tx ty t1 t2 t3 : Tok} {k : Nat} {ps : Array Value} {ob : Obj} {kvs : List (Int × Value)} {vs : List Value} {rest fz : List (Addr × Obj)}
   (XB : (hd.heap_1 w.params).In base) (TB : Top p loose mean mg mb base) (D : KtsDicts (outer.filterMap (·.frame)) h₀) (CH : CodeHd base 373 369)
   (hx : 0 ≤ x) (hy : 0 ≤ y) (hy' : y < 2147483647) (hs : ∀ q ∈ rest, q.1 ≠ src) (h3 : ∀ q ∈ rest, q.1 ≠ 369) (hsp : @Ne Nat src 369)
   (NZ : News h₀ L s.heap fz) (hz : ∀ q ∈ fz, ∀ r ∈ (src, listOf #[.int x tx, .int y ty] k) :: (369, tabObj ps) :: rest, q.1 ≠ r.1) (hok : TabOK qLam ps rest)
   (TBK : TreeBook w tr bk ob kvs vs rest fz)
   (C : Site w p loose mean mg mb A₀ base outer h₀ L m ((src, listOf #[.int x tx, .int y ty] k) :: (369, tabObj ps) :: rest) s.heap cs dp un 60 700)
   (hret : ∀ (x' y' : Int) (tx' ty' : Tok) (k' : Nat) (ps' : Array Value) (rest' : List (Addr × Obj)) (h' : Heap) (tk' : Nat) (h₀' : Heap), 0 ≤ x' → 0 ≤ y' → y' < 2147483647 → (∀ q ∈ rest, q ∈ rest') → (∀ q ∈ rest', q.1 ≠ src) → (∀ q ∈ rest', q.1 ≠ 369) →
      (∀ q ∈ fz, ∀ r ∈ (src, listOf #[.int x' tx', .int y' ty'] k') :: (369, tabObj ps') :: rest', q.1 ≠ r.1) → TabOK qLam ps' rest' → KtsTurn (outer.filterMap (·.frame)) h₀ h₀' → Fr h₀' L h' m →
      News h₀' L h' ((src, listOf #[.int x' tx', .int y' ty'] k') :: (369, tabObj ps') :: rest') → News h₀' L h' fz → Below A₀ base outer h₀' → Q (.bool true) { s with heap := h', toks := tk' }) :
   wpAny (model PR w) (ktrTop dp un gd cn cs L a ccd cl outer) (call (.ref 374) [.ref src, .ref tr, .ref bk]) Q E s := by
  obtain ⟨B, F, X, N, T, hk, hd, hu⟩ := C
  obtain ⟨hbk, hbd, hbl, hb1, hb2, tree, rows⟩ := TBK
  w_on
  w_strict (refine wpAny_call ?_; refine' callTC ?k1 ?k2 ?k3 ?kXB ?kTB ?k4 ?kNZ ?kz ?k5 ?kD ?kA ?kF ?kK ?k6 ?k7 ?k8 ?k9 ?kB ?kN ?_ ?c2 ?c3 ?c4; (case kA => exact rfl); (case kF => exact rfl); (case kK => assumption); (case k1 => k_asm); (case kD => assumption); (case kXB => assumption); (case kTB => assumption); (case kz => assumption); (case kNZ => assumption); (case k2 => k_asm); (case k3 => k_asm); (case k4 => k_asm); (case k5 => k_asm); (case k6 => k_is); (case k7 => k_is); (case k8 => ktr_room); (case k9 => exact BindsTo.of_eq rfl); (case kB => exact rfl); (case kN => decide +kernel); (case c2 => exact rfl); (case c3 => exact rfl); (case c4 => exact rfl); k_whole; intro g' L' h' tk' cells' base' Z' sb' XB' TB' FG' F' N' Y' B' X' T' D' l1; (obtain ⟨o1, o2, o3, o4, o5, rfl, d1, d2, d3, d4, d5⟩ := cells_five Y'); clear Y'; (simp only [List.cons_append, List.nil_append] at N'); (have lr : ∀ q ∈ rest, q.1 < L' := fun q hq => l1 q (List.Mem.tail _ (List.Mem.tail _ hq))); (k_lt l1); (try dsimp only); (try k_fold); (have CH' := CH.keeps sb'); clear CH; (replace d5 : o5.data = .cell (some (.ref tr)) := d5); (have TA9 := tree base' Z'); (have rows9 : ∀ q ∈ kvs, ∃ (ra : Addr) (kd ur lc nm : Str) (t1 t2 t3 t4 : Tok) (n1 : Nat), q.2 = .ref ra ∧ (ra, ({ cls := .type "tuple", data := .seq #[.str kd t1, .str ur t2, .str lc t3, .str nm t4] n1 } : Obj)) ∈ rest ∧ RowAt w base' vs q.1 kd ur lc nm ∧ ok kd ∧ ok ur ∧ ok lc ∧ ok nm ∧ (kd = "instruction" → nm = lc) := fun q hq => by (obtain ⟨ra, kd, ur, lc, nm, t1, t2, t3, t4, n1, e, hm, hr, r⟩ := rows q hq; exact ⟨ra, kd, ur, lc, nm, t1, t2, t3, t4, n1, e, hm, hr base' Z', r⟩)); clear rows; clear tree; k_steps; all_goals first | exact bne_absB (by with_reducible assumption) | exact bne_absS (by with_reducible assumption) | (refine' turn_leave (rest := rest) (src := src) ?hv ?hT ?F ?N ?m2 ?m1 ?hok ?hsub ?hrest ?hne ?hn3 ?k; (case F => k_asm); (case N => k_asm); (case m2 => k_mem); (case m1 => k_mem); (case hok => with_reducible assumption); (case hsub => ((repeat ((with_reducible refine' List.forall_mem_cons.mpr ⟨?a9, ?_⟩); (case a9 => k_mem))); (intro q9 hq9; k_mem))); (case hrest => (intro q9 hq9; k_mem)); (case hne => ((repeat ((with_reducible refine' List.forall_mem_cons.mpr ⟨?a9, ?_⟩); (case a9 => exact code_ne (by k_asm) (by k_mem) (by assumption) (by k_mem)))); exact hs)); (case hn3 => ((repeat ((with_reducible refine' List.forall_mem_cons.mpr ⟨?a9, ?_⟩); (case a9 => assumption))); exact h3)); (case hT => first | with_reducible assumption | exact KtsTurn.trans (by with_reducible assumption) (KtsTurn.trans (by with_reducible assumption) (by with_reducible assumption)) | exact KtsTurn.trans (by with_reducible assumption) (by with_reducible assumption)); (case hv => first | rfl | (simp; done) | decide); (case k => exact fun z1 z2 z3 z4 h₀' T₁ F₁ N₁ NZ₁ hz₁ B₁ => hret _ _ _ _ _ _ _ _ _ h₀' (by with_reducible assumption) (by with_reducible assumption) (by with_reducible assumption) z2 z3 z4 hz₁ z1 T₁ F₁ N₁ NZ₁ B₁)))
end STurn
local macro_rules | `(tactic| walk_at "call builtin:len") => `(tactic| (wtm_at "n"; k_dflt (refine' len_base ?l ?z ?_; (case l => wtm_at "l"); (case z => (simp only [List.length_append, List.length_cons, List.length_nil]; omega)); k_whole)))
theorem newrow_c {tr dT rw : Addr} {vs : List Value} {nr : Nat} {q0 : Tok} {kd nm ur lc vl : Str} {a1 a2 a3 a4 a5 : Tok} {par : Value} {rest : List (Addr × Obj)} (hz : vs.length < 1000)
   (hap : ∀ p ∈ rest, p.1 ≠ rw) (h1 : (tr, instObj 300 dT) ∈ rest) (h2 : (dT, dictOf [⟨PyData.keyHash w.params "rows", .str "rows" q0, .ref rw⟩] 1) ∈ rest)
   (C : Site w p loose mean mg mb A₀ base outer h₀ L m ((rw, listOf vs.toArray nr) :: rest) s.heap cs dp un 8 150)
   (hret : ∀ (rr dr c1 c2 c3 : Addr) (q1 q2 q3 q4 q5 q6 q7 q8 q9 q10 q11 q12 q13 t : Tok) (k : Int) (nr' : Nat) (h' : Heap) (tk' : Nat), k = (vs.length : Int) → Fr h₀ L h' m →
      @LT.lt Nat _ rw dr ∧ AllLt dr rest → @LT.lt Nat _ dr rr → @LT.lt Nat _ rr c1 → @LT.lt Nat _ c1 c2 → @LT.lt Nat _ c2 c3 →
      News h₀ L h' ((c3, listOf #[] 0) :: (c2, listOf #[] 0) :: (c1, listOf #[] 0) :: (rr, instObj 111 dr) :: (dr, rowO w kd nm ur lc q1 q2 q3 q4 q5 q6 q7 q8 q9 q10 q11 q12 q13 (.str vl a5) par (.ref c1) (.ref c2) (.ref c3)) :: (rw, listOf (vs ++ [Value.ref rr]).toArray nr') :: rest) → Q (.int k t) { s with heap := h', toks := tk' }) :
   wpAny (model PR w) (ktrTop dp un gd cn cs L a ccd cl outer) (call (.ref 136) [.ref tr, .str kd a1, .str nm a2, .str ur a3, .str lc a4, .str vl a5, par]) Q E s := by
  obtain ⟨B, F, X, N, T, hk, hd, hu⟩ := C
  w_on
  w_strict (refine wpAny_call ?_; k_dflt cell_enter; k_steps; all_goals (k_dflt (refine' hret _ _ _ _ _ _ _ _ _ _ _ _ _ _ _ _ _ _ _ _ _ _ _ ?e ?F ?l1 ?l2 ?l3 ?l4 ?l5 ?N; (case N => assumption); (case F => assumption); (case l1 => with_reducible assumption); (case e => (simp only [List.length_append, List.length_cons, List.length_nil]; omega)); (case l2 => omega); (case l3 => omega); (case l4 => omega); (case l5 => omega))))
local macro_rules | `(tactic| walk_at "call ref") => `(tactic| (tbr_iter 136; k_dflt (refine' newrow_c ?hz ?hap ?h1 ?h2 ?tbS ?_; (case tbS => tb_start); (case hz => first | assumption | omega); (case hap => k_all); (case h1 | h2 => k_mem)); intro rr9 dr9 c19 c29 c39 q19 q29 q39 q49 q59 q69 q79 q89 q99 q109 q119 q129 q139 t9 k9 nr9 h9 tk9 ek9 F9 lA9 l19 l29 l39 l49 N9; (try simp only [AllLt, and_true] at lA9); wtm_at "s"))
theorem app_get {l r : List Value} {i : Nat} {v : Value} (h : l[i]? = some v) : (l ++ r)[i]? = some v := by
  have hlt : i < l.length := by
    rcases Nat.lt_or_ge i l.length with q | q
    · exact q
    · rw [List.getElem?_eq_none q] at h; cases h
  rw [List.getElem?_append_left hlt]; exact h
theorem notin_par {prog : Program} {A : Around} {t : Addr} {items : Array Value} {pk : Str} {u : Tok} {Q : Value → Shared → Prop} (ht : IsTup s.heap t items) (hi : StrsAre items.toList ["root", "element"]) (hpk : (["root", "element"] : List Str).any (· == pk) = true) (h : Q (.bool false) s) :
   wpAny (model prog w) A (compareOp .NotIn (.str pk u) (.ref t)) Q E s := notin_tuple_strs ht hi (by rw [hpk]; exact h)
local macro_rules | `(tactic| walk_at "compareOp NotIn str ref") => `(tactic| (k_here; k_dflt (refine' notin_par ?t ?i ?p ?_; (case t => exact Fr.tup (by k_asm) (tupK (by k_asm) (by k_is))); (case i => exact .cons _ _ (.cons _ _ .nil)); (case p => first | with_reducible assumption | decide))))
local macro_rules | `(tactic| walk_at "subscriptTail Attribute Name Name ref int") => `(tactic| (wtm_at "i"; k_dflt (refine' item_litK ?l ?a ?b ?x ?_ ?hs; (case l => wtm_at "l"); (case x => first | with_reducible assumption | exact app_get (by with_reducible assumption)); (case a => assumption); (case b => omega); (case hs => with_unfolding_all rfl); k_whole)))
local macro_rules | `(tactic| walk_at "call builtin:list.append") => `(tactic| (k_here; (try dsimp only [List.cons_append, List.nil_append]); (with_reducible show wpAny _ _ (call (Value.builtin _) [Value.ref _, _]) _ _ _); k_dflt (refine' append_K ?k1 ?k2 ?k3 ?_ ?z; (case k1 | k2 => k_asm); (case k3 => k_upd); (case z => (rw [sizeLine_eq, List.size_toArray]; omega)); k_whole); intros; (try k_sweep)))
theorem addch_c {tr dT rw ch pr dpp : Addr} {vs cv : List Value} {nr nc : Nat} {q0 : Tok} {kd nm ur lc vl pk pn pu pl : Str} {a1 a2 a3 a4 a5 tj b1 b2 b3 b4 b5 b6 b7 b8 b9 b10 b11 b12 b13 : Tok} {w1 w2 w4 w5 : Value} {j : Int} {rest : List (Addr × Obj)} (hz : vs.length < 1000) (hcz : cv.length < 1000) (hj0 : 0 ≤ j) (hj1 : j < vs.length) (hj : vs[j.toNat]? = some (.ref pr))
   (hrc : @Ne Nat rw ch) (hap : ∀ p ∈ rest, p.1 ≠ rw) (hap2 : ∀ p ∈ rest, p.1 ≠ ch) (h1 : (tr, instObj 300 dT) ∈ rest) (h2 : (dT, dictOf [⟨PyData.keyHash w.params "rows", .str "rows" q0, .ref rw⟩] 1) ∈ rest)
   (h3 : (pr, instObj 111 dpp) ∈ rest) (h4 : (dpp, rowO w pk pn pu pl b1 b2 b3 b4 b5 b6 b7 b8 b9 b10 b11 b12 b13 w1 w2 (.ref ch) w4 w5) ∈ rest) (hpk : (["root", "element"] : List Str).any (· == pk) = true)
   (C : Site w p loose mean mg mb A₀ base outer h₀ L m ((rw, listOf vs.toArray nr) :: (ch, listOf cv.toArray nc) :: rest) s.heap cs dp un 12 250)
   (hret : ∀ (rr dr c1 c2 c3 : Addr) (q1 q2 q3 q4 q5 q6 q7 q8 q9 q10 q11 q12 q13 t : Tok) (k : Int) (nr' nc' : Nat) (h' : Heap) (tk' : Nat), k = (vs.length : Int) → Fr h₀ L h' m →
      @LT.lt Nat _ rw dr ∧ @LT.lt Nat _ ch dr ∧ AllLt dr rest → @LT.lt Nat _ dr rr → @LT.lt Nat _ rr c1 → @LT.lt Nat _ c1 c2 → @LT.lt Nat _ c2 c3 →
      News h₀ L h' ((c3, listOf #[] 0) :: (c2, listOf #[] 0) :: (c1, listOf #[] 0) :: (rr, instObj 111 dr) :: (dr, rowO w kd nm ur lc q1 q2 q3 q4 q5 q6 q7 q8 q9 q10 q11 q12 q13 (.str vl a5) (.int j tj) (.ref c1) (.ref c2) (.ref c3)) :: (rw, listOf (vs ++ [Value.ref rr]).toArray nr') :: (ch, listOf (cv ++ [Value.int k t]).toArray nc') :: rest) → Q (.int k t) { s with heap := h', toks := tk' }) :
   wpAny (model PR w) (ktrTop dp un gd cn cs L a ccd cl outer) (call (.ref 157) [.ref tr, .int j tj, .str kd a1, .str nm a2, .str ur a3, .str lc a4, .str vl a5]) Q E s := by
  unfold rowO at h4
  obtain ⟨B, F, X, N, T, hk, hd, hu⟩ := C
  w_on
  w_strict (refine wpAny_call ?_; k_dflt cell_enter; k_steps; all_goals (k_dflt (refine' hret _ _ _ _ _ _ _ _ _ _ _ _ _ _ _ _ _ _ _ _ _ _ _ _ ?e ?F ?l1 ?l2 ?l3 ?l4 ?l5 ?N; (case F => assumption); (case e => assumption); (case l1 => with_reducible assumption); (case N => (rw [← List.push_toArray cv]; assumption)); (case l2 => with_reducible assumption); (case l3 => with_reducible assumption); (case l4 => with_reducible assumption); (case l5 => with_reducible assumption))))
section SModO
def IsRow (w : World) (od : Obj) (kd nm ur lc : Str) (v1 v2 v3 v4 v5 : Value) : Prop := ∃ q1 q2 q3 q4 q5 q6 q7 q8 q9 q10 q11 q12 q13 : Tok, od = rowO w kd nm ur lc q1 q2 q3 q4 q5 q6 q7 q8 q9 q10 q11 q12 q13 v1 v2 v3 v4 v5
theorem upd_mem {a : Addr} {o o' : Obj} {n n' : List (Addr × Obj)} (U : Upd a o o' n n') : ∀ q ∈ n', q = (a, o') ∨ (q ∈ n ∧ q.1 ≠ a) := fun q hq => by
  obtain ⟨pre, post, e1, e2, b, c⟩ := U.split
  rw [e2] at hq
  rcases List.mem_append.mp hq with hq | hq
  · exact .inr ⟨e1 ▸ List.mem_append_left _ hq, b q hq⟩
  · rcases List.mem_cons.mp hq with rfl | hq
    · exact .inl rfl
    · exact .inr ⟨e1 ▸ List.mem_append_right _ (.tail _ hq), c q hq⟩
theorem ne_obj {h : Heap} {a b : Addr} {o o' : Obj} (N : News h₀ L h news) (h1 : (a, o) ∈ news) (h2 : (b, o') ∈ news) (hne : o ≠ o') : a ≠ b := fun e => by
  have e1 := (N _ h1).1
  have e2 := (N _ h2).1
  rw [show ((a, o) : Addr × Obj).1 = b from e, e2] at e1
  exact hne (Option.some.inj e1).symm
theorem inst_list {C dx : Addr} {vs : List Value} {n : Nat} : instObj C dx ≠ listOf vs.toArray n := fun e => by cases e
theorem dict_list {es : List DictEntry} {m n : Nat} {vs : List Value} : dictOf es m ≠ listOf vs.toArray n := fun e => by have h := congrArg Obj.data e; cases h
theorem newrow_u {tr dT rw : Addr} {vs : List Value} {nr : Nat} {q0 : Tok} {kd nm ur lc vl : Str} {a1 a2 a3 a4 a5 : Tok} {par : Value} (hz : vs.length < 1000) (hrw : (rw, listOf vs.toArray nr) ∈ news)
   (h1 : (tr, instObj 300 dT) ∈ news) (h2 : (dT, dictOf [⟨PyData.keyHash w.params "rows", .str "rows" q0, .ref rw⟩] 1) ∈ news)
   (C : Site w p loose mean mg mb A₀ base outer h₀ L m news s.heap cs dp un 8 150)
   (hret : ∀ (rr dr c1 c2 c3 : Addr) (od : Obj) (t : Tok) (k : Int) (nr' : Nat) (h' : Heap) (tk' : Nat), k = (vs.length : Int) → IsRow w od kd nm ur lc (.str vl a5) par (.ref c1) (.ref c2) (.ref c3) → Fr h₀ L h' m →
      (∀ q ∈ news, q.1 < dr) → @LT.lt Nat _ dr rr → @LT.lt Nat _ rr c1 → @LT.lt Nat _ c1 c2 → @LT.lt Nat _ c2 c3 →
      (∀ n1, Upd rw (listOf vs.toArray nr) (listOf (vs ++ [Value.ref rr]).toArray nr') news n1 → News h₀ L h' ((c3, listOf #[] 0) :: (c2, listOf #[] 0) :: (c1, listOf #[] 0) :: (rr, instObj 111 dr) :: (dr, od) :: n1)) → Q (.int k t) { s with heap := h', toks := tk' }) :
   wpAny (model PR w) (ktrTop dp un gd cn cs L a ccd cl outer) (call (.ref 136) [.ref tr, .str kd a1, .str nm a2, .str ur a3, .str lc a4, .str vl a5, par]) Q E s := by
  have N := C.N
  have keep : ∀ {a : Addr} {o : Obj}, (a, o) ∈ news → o ≠ listOf vs.toArray nr → (a, o) ∈ news.filter (fun q => decide (q.1 ≠ rw)) := fun hm hne => List.mem_filter.mpr ⟨hm, by simpa using ne_obj N hm hrw hne⟩
  refine newrow_c (rest := news.filter (fun q => decide (q.1 ≠ rw))) hz (fun q hq => by simpa using (List.mem_filter.mp hq).2) (keep h1 inst_list) (keep h2 dict_list) (C.led fun q hq => by
    rcases List.mem_cons.mp hq with rfl | hq
    · exact N _ hrw
    · exact N q (List.mem_filter.mp hq).1) fun rr dr c1 c2 c3 q1 q2 q3 q4 q5 q6 q7 q8 q9 q10 q11 q12 q13 t k nr' h' tk' e F' l1 l2 l3 l4 l5 N' => hret rr dr c1 c2 c3 _ t k nr' h' tk' e ⟨q1, q2, q3, q4, q5, q6, q7, q8, q9, q10, q11, q12, q13, rfl⟩ F' (fun q hq => ?_) l2 l3 l4 l5 fun n1 U q hq => ?_
  · by_cases e : q.1 = rw
    · rw [e]; exact l1.1
    · exact tb_ltOf l1.2 q (List.mem_filter.mpr ⟨hq, by simpa using e⟩)
  · rcases List.mem_cons.mp hq with rfl | hq
    · exact N' _ (.head _)
    · rcases List.mem_cons.mp hq with rfl | hq
      · exact N' _ (.tail _ (.head _))
      · rcases List.mem_cons.mp hq with rfl | hq
        · exact N' _ (.tail _ (.tail _ (.head _)))
        · rcases List.mem_cons.mp hq with rfl | hq
          · exact N' _ (.tail _ (.tail _ (.tail _ (.head _))))
          · rcases List.mem_cons.mp hq with rfl | hq
            · exact N' _ (.tail _ (.tail _ (.tail _ (.tail _ (.head _)))))
            · rcases upd_mem U q hq with rfl | ⟨hq, hne⟩
              · exact N' _ (.tail _ (.tail _ (.tail _ (.tail _ (.tail _ (.head _))))))
              · exact N' _ (.tail _ (.tail _ (.tail _ (.tail _ (.tail _ (.tail _ (List.mem_filter.mpr ⟨hq, by simpa using hne⟩)))))))
theorem addch_u {tr dT rw ch pr dpp : Addr} {vs cv : List Value} {nr nc : Nat} {q0 : Tok} {kd nm ur lc vl pk pn pu pl : Str} {a1 a2 a3 a4 a5 tj : Tok} {op : Obj} {w1 w2 w4 w5 : Value} {j : Int} (hz : vs.length < 1000) (hcz : cv.length < 1000) (hj0 : 0 ≤ j) (hj1 : j < vs.length) (hj : vs[j.toNat]? = some (.ref pr))
   (hrc : @Ne Nat rw ch) (hrw : (rw, listOf vs.toArray nr) ∈ news) (hch : (ch, listOf cv.toArray nc) ∈ news) (h1 : (tr, instObj 300 dT) ∈ news) (h2 : (dT, dictOf [⟨PyData.keyHash w.params "rows", .str "rows" q0, .ref rw⟩] 1) ∈ news)
   (h3 : (pr, instObj 111 dpp) ∈ news) (h4 : (dpp, op) ∈ news) (h4r : IsRow w op pk pn pu pl w1 w2 (.ref ch) w4 w5) (hpk : (["root", "element"] : List Str).any (· == pk) = true)
   (C : Site w p loose mean mg mb A₀ base outer h₀ L m news s.heap cs dp un 12 250)
   (hret : ∀ (rr dr c1 c2 c3 : Addr) (od : Obj) (t : Tok) (k : Int) (nr' nc' : Nat) (h' : Heap) (tk' : Nat), k = (vs.length : Int) → IsRow w od kd nm ur lc (.str vl a5) (.int j tj) (.ref c1) (.ref c2) (.ref c3) → Fr h₀ L h' m →
      (∀ q ∈ news, q.1 < dr) → @LT.lt Nat _ dr rr → @LT.lt Nat _ rr c1 → @LT.lt Nat _ c1 c2 → @LT.lt Nat _ c2 c3 →
      (∀ n1 n2, Upd rw (listOf vs.toArray nr) (listOf (vs ++ [Value.ref rr]).toArray nr') news n1 → Upd ch (listOf cv.toArray nc) (listOf (cv ++ [Value.int k t]).toArray nc') n1 n2 →
        News h₀ L h' ((c3, listOf #[] 0) :: (c2, listOf #[] 0) :: (c1, listOf #[] 0) :: (rr, instObj 111 dr) :: (dr, od) :: n2)) → Q (.int k t) { s with heap := h', toks := tk' }) :
   wpAny (model PR w) (ktrTop dp un gd cn cs L a ccd cl outer) (call (.ref 157) [.ref tr, .int j tj, .str kd a1, .str nm a2, .str ur a3, .str lc a4, .str vl a5]) Q E s := by
  obtain ⟨b1, b2, b3, b4, b5, b6, b7, b8, b9, b10, b11, b12, b13, rfl⟩ := h4r
  have N := C.N
  have keep : ∀ {a : Addr} {o : Obj}, (a, o) ∈ news → (∀ l n, o ≠ listOf (List.toArray l) n) → (a, o) ∈ news.filter (fun q => decide (q.1 ≠ rw ∧ q.1 ≠ ch)) := fun hm hne => List.mem_filter.mpr ⟨hm, by simpa using ⟨ne_obj N hm hrw (hne _ _), ne_obj N hm hch (hne _ _)⟩⟩
  refine addch_c (rest := news.filter (fun q => decide (q.1 ≠ rw ∧ q.1 ≠ ch))) hz hcz hj0 hj1 hj hrc (fun q hq => (by simpa using (List.mem_filter.mp hq).2 : q.1 ≠ rw ∧ q.1 ≠ ch).1) (fun q hq => (by simpa using (List.mem_filter.mp hq).2 : q.1 ≠ rw ∧ q.1 ≠ ch).2)
    (keep h1 fun _ _ => inst_list) (keep h2 fun _ _ => dict_list) (keep h3 fun _ _ => inst_list) (keep h4 fun _ _ => dict_list) hpk (C.led fun q hq => by
    rcases List.mem_cons.mp hq with rfl | hq
    · exact N _ hrw
    · rcases List.mem_cons.mp hq with rfl | hq
      · exact N _ hch
      · exact N q (List.mem_filter.mp hq).1) fun rr dr c1 c2 c3 q1 q2 q3 q4 q5 q6 q7 q8 q9 q10 q11 q12 q13 t k nr' nc' h' tk' e F' l1 l2 l3 l4 l5 N' => hret rr dr c1 c2 c3 _ t k nr' nc' h' tk' e ⟨q1, q2, q3, q4, q5, q6, q7, q8, q9, q10, q11, q12, q13, rfl⟩ F' (fun q hq => ?_) l2 l3 l4 l5 fun n1 n2 U1 U2 q hq => ?_
  · by_cases e : q.1 = rw
    · rw [e]; exact l1.1
    · by_cases e2 : q.1 = ch
      · rw [e2]; exact l1.2.1
      · exact tb_ltOf l1.2.2 q (List.mem_filter.mpr ⟨hq, by simpa using ⟨e, e2⟩⟩)
  · rcases List.mem_cons.mp hq with rfl | hq
    · exact N' _ (.head _)
    · rcases List.mem_cons.mp hq with rfl | hq
      · exact N' _ (.tail _ (.head _))
      · rcases List.mem_cons.mp hq with rfl | hq
        · exact N' _ (.tail _ (.tail _ (.head _)))
        · rcases List.mem_cons.mp hq with rfl | hq
          · exact N' _ (.tail _ (.tail _ (.tail _ (.head _))))
          · rcases List.mem_cons.mp hq with rfl | hq
            · exact N' _ (.tail _ (.tail _ (.tail _ (.tail _ (.head _)))))
            · rcases upd_mem U2 q hq with rfl | ⟨hq, hne2⟩
              · exact N' _ (.tail _ (.tail _ (.tail _ (.tail _ (.tail _ (.tail _ (.head _)))))))
              · rcases upd_mem U1 q hq with rfl | ⟨hq, hne⟩
                · exact N' _ (.tail _ (.tail _ (.tail _ (.tail _ (.tail _ (.head _))))))
                · exact N' _ (.tail _ (.tail _ (.tail _ (.tail _ (.tail _ (.tail _ (.tail _ (List.mem_filter.mpr ⟨hq, by simpa using ⟨hne, hne2⟩⟩))))))))
theorem len_eq {prog : Program} {A : Around} {l : Addr} {vs : List Value} {Q : Value → Shared → Prop} (hl : s.heap.IsList l vs.toArray) (hz : vs.length < 2 ^ 32)
    (h : ∀ n : Int, n = (vs.length : Int) → Q (.int n (s.toks + 1)) { s with toks := s.toks + 1 + 1 }) : wpAny (model prog w) A (call (.builtin "len") [.ref l]) Q E s := len_base hl hz (h _ rfl)
theorem append_L {prog : Program} {A : Around} {D : Addr} {vs : List Value} {n : Nat} {x : Value} {news' : List (Addr × Obj)} {Q : Value → Shared → Prop} (F : Fr h₀ L s.heap m) (N : News h₀ L s.heap news) (U : Upd D (listOf vs.toArray n) (listOf (vs ++ [x]).toArray (n + 1)) news news')
    (h : ∀ h', Fr h₀ L h' m → News h₀ L h' news' → Q .none { s with heap := h' }) (hz : vs.length ≤ 1000) : wpAny (model prog w) A (call (.builtin "list.append") [.ref D, x]) Q E s :=
  append_K F N (by rw [List.push_toArray]; exact U) h (by rw [sizeLine_eq, List.size_toArray]; omega)
theorem tail_lt {a : Addr × Obj} {l : List (Addr × Obj)} {d : Addr} (h : ∀ p ∈ a :: l, p.1 < d) : ∀ p ∈ l, p.1 < d := fun p hp => h p (.tail _ hp)
theorem all_ne2 {l : List (Addr × Obj)} {d c : Addr} (h : ∀ p ∈ l, p.1 < d) (hc : @LE.le Nat _ d c) : ∀ p ∈ l, p.1 ≠ c := fun p hp => Nat.ne_of_lt (Nat.lt_of_lt_of_le (h p hp) hc)
theorem cat_mem {prog : Program} {A : Around} {x u : Str} {us : List Str} {t t2 : Tok} {Q : Value → Shared → Prop} (hu : u ∈ us) (hus : (us.all fun v => decide (v.length ≤ 64)) = true) (hx : x.length ≤ 64) (h : ∀ t' tk, Q (.str (x ++ u) t') { s with toks := tk }) :
   wpAny (model prog w) A (binaryOp .Add (.str x t) (.str u t2)) Q E s := PyProof.Rows.add_str h (by
    have := of_decide_eq_true (List.all_eq_true.mp hus u hu)
    rw [sizeLine_eq]; omega)
theorem ok_app {x y : Str} (hx : ok x) (hy : ok y) : ok (x ++ y) := by
  show (x.cps ++ y.cps).all _ = true
  rw [Array.all_append, hx, hy]; rfl
theorem iter_nil {prog : Program} {A : Around} {env : Env} {x : Str} {body : List Stmt} {l : Addr} {n : Nat} {m₀ : Str → Option Value} {Q : Flow → Shared → Prop} (hh : A.handled = none) (hl : (l, listOf ([] : List Value).toArray n) ∈ news) (F : Fr h₀ env.locals s.heap m₀) (N : News h₀ env.locals s.heap news)
    (done : ∀ h tk, Fr h₀ env.locals h m₀ → News h₀ env.locals h news → Q .next { s with heap := h, toks := tk }) :
    wpAny (model prog w) A (pyIter (.ref l)) (fun it s₂ => LoopAtV prog w A h₀ env x body Q E it s₂) E s :=
  kdl_iter (fun _ m' nx => m' = m₀ ∧ nx = news) hh hl F N ⟨rfl, rfl⟩ (fun i v m₁ news₁ h tk own hv => by simp at hv) (fun m₁ news₁ h tk e F' N' => by
    obtain ⟨rfl, rfl⟩ := e
    exact done h tk F' N')
def HoldB (P : Prop) : Prop := P
theorem hold_inB {P : Prop} (h : HoldB P) : P := h
theorem hold_outB {P : Prop} (h : P) : HoldB P := h
end SModO
section SModR
theorem range_loop {prog : Program} {A : Around} {env : Env} {x : Str} {body : List Stmt} {r : Addr} {b₀ : Int} {t₀ u₀ v₀ : Tok} {n : Nat} {m₀ : Str → Option Value} {Q : Flow → Shared → Prop} (J : Nat → (Str → Option Value) → List (Addr × Obj) → Prop)
    (hh : A.handled = none) (hr : IsRange s.heap r 0 b₀ 1 t₀ u₀ v₀) (hsmall : Builtin.Range.small 0 b₀ 1 = true) (hsz : Builtin.Range.rangeSize 0 b₀ 1 = (n : Int)) (F : Fr h₀ env.locals s.heap m₀) (N : News h₀ env.locals s.heap news) (hj : J 0 m₀ news)
    (turn : ∀ i t m₁ nx h tk own, i < n → OwnOff own (nx.map (·.1)) → J i m₁ nx → Fr h₀ env.locals h (fun y => if y = x then some (.int ((i : Nat) : Int) t) else m₁ y) → News h₀ env.locals h (nx ++ own) →
      wpAny (model prog w) A (execs body env) (InvPostG h₀ env.locals (J (i + 1)) own { s with heap := h, toks := tk } Q) E { s with heap := h, toks := tk })
    (done : ∀ m₁ nx h tk, J n m₁ nx → Fr h₀ env.locals h m₁ → News h₀ env.locals h nx → Q .next { s with heap := h, toks := tk }) :
    wpAny (model prog w) A (pyIter (.ref r)) (fun it s₂ => LoopAtV prog w A h₀ env x body Q E it s₂) E s := by
  refine wpAny_pyIter_range hr hsmall ?_
  have W : Walks prog w A s.heap.objs.size [s.heap.objs.size] [s.heap.objs.size] n (fun i v => i < n ∧ ∃ t, v = .int (0 + i * 1) t)
      (fun i h => IsRangeIter h s.heap.objs.size (0 + (i : Nat) * 1) ((n : Int) - (i : Nat)) 1) := (Walks.range hh _ 0 1 n).bound
  refine kdr_loop J W (fun _ h => h) (fun _ h => h) ?_ ?_ ?_ ?_ (by show IsRangeIter _ _ _ _ _; rw [hsz]; simpa using Heap.get?_push_size _ rfl) (F.push _) (fun p hp => ⟨Heap.get?_push_of_some _ (N p hp).1, (N p hp).2⟩) hj ?_ ?_
  · intro i h hi b hb
    rw [List.mem_singleton.mp hb]
    exact ⟨_, hi⟩
  · intro hm
    exact absurd F.ns.lt ((List.mem_singleton.mp hm) ▸ Nat.lt_irrefl _)
  · intro b hb
    rw [List.mem_singleton.mp hb]
    exact next_is_new F
  · intro p hp hI
    exact absurd (Heap.lt_size (N p hp).1) ((List.mem_singleton.mp hI) ▸ Nat.lt_irrefl _)
  · rintro i v m₁ nx h tk own hi ⟨_, t, rfl⟩ hoff hj F₁ N₁
    have e1 : (0 : Int) + (i : Int) * 1 = (i : Int) := by omega
    rw [e1] at F₁
    exact turn i t m₁ nx h tk own hi hoff hj F₁ N₁
  · rintro m₁ nx h tk hj F₁ N₁
    exact done m₁ nx h tk hj F₁ N₁
end SModR
section SModI
abbrev rowTup (kd ur lc nm : Str) (t1 t2 t3 t4 : Tok) (n1 : Nat) : Obj := { cls := .type "tuple", data := .seq #[.str kd t1, .str ur t2, .str lc t3, .str nm t4] n1 }
def RowL (w : World) (ext : List (Addr × Obj)) (vs : List Value) (q : Int × Value) : Prop := ∃ (ra : Addr) (kd ur lc nm : Str) (t1 t2 t3 t4 : Tok) (n1 : Nat) (rr dr : Addr) (od : Obj) (v1 v2 v3 v4 v5 : Value),
  q.2 = .ref ra ∧ (ra, rowTup kd ur lc nm t1 t2 t3 t4 n1) ∈ ext ∧ vs[q.1.toNat]? = some (.ref rr) ∧ (rr, instObj 111 dr) ∈ ext ∧ (dr, od) ∈ ext ∧ IsRow w od kd nm ur lc v1 v2 v3 v4 v5 ∧ ok kd ∧ ok ur ∧ ok lc ∧ ok nm ∧ (kd = "instruction" → nm = lc)
def TreeL (w : World) (ext : List (Addr × Obj)) (tr rw ch : Addr) (vs : List Value) : Prop := ∃ (dT : Addr) (q0 : Tok) (pr dpp : Addr) (pn pu pl : Str) (od : Obj) (w1 w2 w4 w5 : Value),
  (tr, instObj 300 dT) ∈ ext ∧ (dT, dictOf [⟨PyData.keyHash w.params "rows", .str "rows" q0, .ref rw⟩] 1) ∈ ext ∧ (pr, instObj 111 dpp) ∈ ext ∧ (dpp, od) ∈ ext ∧ IsRow w od "element" pn pu pl w1 w2 (.ref ch) w4 w5 ∧ vs[(1 : Int).toNat]? = some (.ref pr)
theorem RowL.grow {ext ext' : List (Addr × Obj)} {vs more : List Value} {q : Int × Value} (R : RowL w ext vs q) (hs : ∀ p ∈ ext, p ∈ ext') : RowL w ext' (vs ++ more) q := by
  obtain ⟨ra, kd, ur, lc, nm, t1, t2, t3, t4, n1, rr, dr, od, v1, v2, v3, v4, v5, e, m1, g, m2, m3, r⟩ := R
  exact ⟨ra, kd, ur, lc, nm, t1, t2, t3, t4, n1, rr, dr, od, v1, v2, v3, v4, v5, e, hs _ m1, app_get g, hs _ m2, hs _ m3, r⟩
theorem TreeL.grow {ext ext' : List (Addr × Obj)} {tr rw ch : Addr} {vs more : List Value} (R : TreeL w ext tr rw ch vs) (hs : ∀ p ∈ ext, p ∈ ext') : TreeL w ext' tr rw ch (vs ++ more) := by
  obtain ⟨dT, q0, pr, dpp, pn, pu, pl, od, w1, w2, w4, w5, m1, m2, m3, m4, hr, g⟩ := R
  exact ⟨dT, q0, pr, dpp, pn, pu, pl, od, w1, w2, w4, w5, hs _ m1, hs _ m2, hs _ m3, hs _ m4, hr, app_get g⟩
structure BInv (w : World) (src tr rw ch bk : Addr) (n : Nat) (x y : Int) (vs cv : List Value) (kvs : List (Int × Value)) (ob : Obj) (ext : List (Addr × Obj)) : Prop where
  hx : 0 ≤ x
  hy : 0 ≤ y
  hy' : y < 2147483647
  hvs : vs.length = 4 + n
  hcv : cv.length = n
  hkl : kvs.length = 3 + n
  hkb : ∀ q ∈ kvs, 0 ≤ q.1 ∧ q.1 < (vs.length : Int)
  hob : ob.IsDictOf (intKind PR w) kvs
  hbl : (bk == sysModules) = false
  rows : ∀ q ∈ kvs, RowL w ext vs q
  tree : TreeL w ext tr rw ch vs
  apS : ∀ p ∈ ext, p.1 ≠ src
  apR : ∀ p ∈ ext, p.1 ≠ rw
  apC : ∀ p ∈ ext, p.1 ≠ ch
  apB : ∀ p ∈ ext, p.1 ≠ bk
  neq : @Ne Nat src rw ∧ @Ne Nat src ch ∧ @Ne Nat src bk ∧ @Ne Nat rw ch ∧ @Ne Nat rw bk ∧ @Ne Nat ch bk
theorem BInv.step {src tr rw ch bk : Addr} {n : Nat} {x y x' y' : Int} {vs cv : List Value} {kvs : List (Int × Value)} {ob ob' : Obj} {ext : List (Addr × Obj)} {c : Value} {ra rr dr : Addr} {kd ur lc nm : Str} {t1 t2 t3 t4 : Tok} {n1 : Nat} {od : Obj} {v1 v2 v3 v4 v5 : Value}
   (I : BInv w src tr rw ch bk n x y vs cv kvs ob ext) (hx : 0 ≤ x') (hy : 0 ≤ y') (hy' : y' < 2147483647) (hob : ob'.IsDictOf (intKind PR w) (kvs ++ [((vs.length : Int), .ref ra)])) (okk : ok kd) (oku : ok ur) (okl : ok lc) (okn : ok nm) (hin : kd = "instruction" → nm = lc) (hrow : IsRow w od kd nm ur lc v1 v2 v3 v4 v5)
   (a1 : @Ne Nat ra src ∧ @Ne Nat ra rw ∧ @Ne Nat ra ch ∧ @Ne Nat ra bk) (a2 : @Ne Nat rr src ∧ @Ne Nat rr rw ∧ @Ne Nat rr ch ∧ @Ne Nat rr bk) (a3 : @Ne Nat dr src ∧ @Ne Nat dr rw ∧ @Ne Nat dr ch ∧ @Ne Nat dr bk) :
   BInv w src tr rw ch bk (n + 1) x' y' (vs ++ [.ref rr]) (cv ++ [c]) (kvs ++ [((vs.length : Int), .ref ra)]) ob' ((ra, rowTup kd ur lc nm t1 t2 t3 t4 n1) :: (rr, instObj 111 dr) :: (dr, od) :: ext) where
  hx := hx
  hy := hy
  hy' := hy'
  hvs := by rw [List.length_append, I.hvs]; rfl
  hcv := by rw [List.length_append, I.hcv]; rfl
  hkl := by rw [List.length_append, I.hkl]; rfl
  hkb := fun q hq => by
    rw [List.length_append]
    rcases List.mem_append.mp hq with hq | hq
    · have := I.hkb q hq
      simp only [List.length_cons, List.length_nil]
      omega
    · rw [List.mem_singleton.mp hq]
      simp only [List.length_cons, List.length_nil]
      omega
  hob := hob
  hbl := I.hbl
  rows := fun q hq => by
    rcases List.mem_append.mp hq with hq | hq
    · exact (I.rows q hq).grow fun p hp => .tail _ (.tail _ (.tail _ hp))
    · rw [List.mem_singleton.mp hq]
      refine ⟨ra, kd, ur, lc, nm, t1, t2, t3, t4, n1, rr, dr, od, v1, v2, v3, v4, v5, rfl, .head _, ?_, .tail _ (.head _), .tail _ (.tail _ (.head _)), hrow, okk, oku, okl, okn, hin⟩
      show (vs ++ [Value.ref rr])[((vs.length : Int)).toNat]? = _
      rw [Int.toNat_natCast, List.getElem?_append_right (Nat.le_refl _), Nat.sub_self]
      rfl
  tree := I.tree.grow fun p hp => .tail _ (.tail _ (.tail _ hp))
  apS := List.forall_mem_cons.mpr ⟨a1.1, List.forall_mem_cons.mpr ⟨a2.1, List.forall_mem_cons.mpr ⟨a3.1, I.apS⟩⟩⟩
  apR := List.forall_mem_cons.mpr ⟨a1.2.1, List.forall_mem_cons.mpr ⟨a2.2.1, List.forall_mem_cons.mpr ⟨a3.2.1, I.apR⟩⟩⟩
  apC := List.forall_mem_cons.mpr ⟨a1.2.2.1, List.forall_mem_cons.mpr ⟨a2.2.2.1, List.forall_mem_cons.mpr ⟨a3.2.2.1, I.apC⟩⟩⟩
  apB := List.forall_mem_cons.mpr ⟨a1.2.2.2, List.forall_mem_cons.mpr ⟨a2.2.2.2, List.forall_mem_cons.mpr ⟨a3.2.2.2, I.apB⟩⟩⟩
  neq := I.neq
end SModI
section SModK
def isT (q : Addr × Obj) : Bool := match q.2.data with | .seq _ _ => q.2.cls == .type "tuple" | _ => false
theorem BInv.book {src tr rw ch bk : Addr} {n nr : Nat} {x y : Int} {vs cv : List Value} {kvs : List (Int × Value)} {ob : Obj} {ext : List (Addr × Obj)} (I : BInv w src tr rw ch bk n x y vs cv kvs ob ext) (hn : n ≤ 3) :
   TreeBook w tr bk ob kvs vs ((bk, ob) :: ext.filter isT) ((rw, listOf vs.toArray nr) :: ext.filter (fun q => !isT q)) := by
  have keep : ∀ {b : Heap}, (∀ q ∈ (rw, listOf vs.toArray nr) :: ext.filter (fun q => !isT q), b.get? q.1 = some q.2) → ∀ {a : Addr} {o : Obj}, (a, o) ∈ ext → isT (a, o) = false → b.get? a = some o := fun hb a o hm ht => hb (a, o) (.tail _ (List.mem_filter.mpr ⟨hm, by rw [ht]; rfl⟩))
  refine ⟨.head _, I.hob, I.hbl, by have := I.hkl; omega, by have := I.hkl; omega, fun b hb => ?_, fun q hq => ?_⟩
  · obtain ⟨dT, q0, pr, dpp, pn, pu, pl, od, w1, w2, w4, w5, m1, m2, m3, m4, hr, g⟩ := I.tree
    exact ⟨dT, rw, nr, q0, keep hb m1 rfl, keep hb m2 rfl, hb _ (.head _), by have := I.hvs; omega⟩
  · obtain ⟨ra, kd, ur, lc, nm, t1, t2, t3, t4, n1, rr, dr, od, v1, v2, v3, v4, v5, e, m1, g, m2, m3, ⟨q1, q2, q3, q4, q5, q6, q7, q8, q9, q10, q11, q12, q13, rfl⟩, okk, oku, okl, okn, hin⟩ := I.rows q hq
    have hb2 := I.hkb q hq
    exact ⟨ra, kd, ur, lc, nm, t1, t2, t3, t4, n1, e, .tail _ (List.mem_filter.mpr ⟨m1, rfl⟩), fun b hb => ⟨rr, dr, q1, q2, q3, q4, q5, q6, q7, q8, q9, q10, q11, q12, q13, v1, v2, v3, v4, v5, g, hb2.1, hb2.2, keep hb m2 rfl, keep hb m3 rfl⟩, okk, oku, okl, okn, hin⟩
theorem book_apart {src bk rw : Addr} {o₁ o₂ ob orw : Obj} {ext : List (Addr × Obj)} {h : Heap} (N : News h₀ L h ext) (a1 : ∀ p ∈ ext, p.1 ≠ src) (a2 : ∀ p ∈ ext, p.1 ≠ bk) (a3 : ∀ p ∈ ext, p.1 ≠ rw) (a4 : ∀ p ∈ ext, p.1 ≠ 369) (n1 : @Ne Nat src rw) (n2 : @Ne Nat rw bk) (n3 : @Ne Nat rw 369) :
   ∀ q ∈ (rw, orw) :: ext.filter (fun q => !isT q), ∀ r ∈ (src, o₁) :: (369, o₂) :: (bk, ob) :: ext.filter isT, q.1 ≠ r.1 := fun q hq r hr => by
  rcases List.mem_cons.mp hq with rfl | hq
  · rcases List.mem_cons.mp hr with rfl | hr
    · exact Ne.symm n1
    · rcases List.mem_cons.mp hr with rfl | hr
      · exact n3
      · rcases List.mem_cons.mp hr with rfl | hr
        · exact n2
        · exact (a3 r (List.mem_filter.mp hr).1).symm
  · have hq1 := (List.mem_filter.mp hq).1
    rcases List.mem_cons.mp hr with rfl | hr
    · exact a1 q hq1
    · rcases List.mem_cons.mp hr with rfl | hr
      · exact a4 q hq1
      · rcases List.mem_cons.mp hr with rfl | hr
        · exact a2 q hq1
        · intro e
          have e1 := (N q hq1).1
          have e2 := (N r (List.mem_filter.mp hr).1).1
          rw [e, e2] at e1
          have h1 := (List.mem_filter.mp hq).2
          have h2 := (List.mem_filter.mp hr).2
          have e3 : q.2 = r.2 := (Option.some.inj e1).symm
          have e4 : isT q = isT r := by unfold isT; rw [e3]
          rw [e4, h2] at h1
          cases h1
end SModK
section SModJ
def extOf (d0 rw ch bk : Addr) (news : List (Addr × Obj)) : List (Addr × Obj) := news.filter fun q => decide (@LE.le Nat _ d0 q.1 ∧ @Ne Nat q.1 rw ∧ @Ne Nat q.1 ch ∧ @Ne Nat q.1 bk)
theorem mem_ext {d0 rw ch bk a : Addr} {o : Obj} (hm : (a, o) ∈ news) (h0 : @LE.le Nat _ d0 a) (h1 : @Ne Nat a rw) (h2 : @Ne Nat a ch) (h3 : @Ne Nat a bk) : (a, o) ∈ extOf d0 rw ch bk news := List.mem_filter.mpr ⟨hm, decide_eq_true ⟨h0, h1, h2, h3⟩⟩
theorem ext_mem {d0 rw ch bk : Addr} {q : Addr × Obj} (h : q ∈ extOf d0 rw ch bk news) : q ∈ news ∧ @LE.le Nat _ d0 q.1 ∧ @Ne Nat q.1 rw ∧ @Ne Nat q.1 ch ∧ @Ne Nat q.1 bk := ⟨(List.mem_filter.mp h).1, of_decide_eq_true (List.mem_filter.mp h).2⟩
def LoopJ (w : World) (src tr rw ch bk d0 : Addr) (rest : List (Addr × Obj)) (m₀ : Str → Option Value) (i : Nat) (m : Str → Option Value) (nx : List (Addr × Obj)) : Prop :=
  (∀ z, (["turn", "kind", "target", "uri"] : List Str).contains z = false → m z = m₀ z) ∧ ∃ (x y : Int) (tx ty : Tok) (k : Nat) (vs : List Value) (nr : Nat) (cv : List Value) (nc : Nat) (ob : Obj) (kvs : List (Int × Value)) (ext : List (Addr × Obj)),
    nx = (src, listOf #[.int x tx, .int y ty] k) :: (rw, listOf vs.toArray nr) :: (ch, listOf cv.toArray nc) :: (bk, ob) :: (ext ++ rest) ∧ BInv w src tr rw ch bk i x y vs cv kvs ob ext ∧ (∀ q ∈ ext, @LE.le Nat _ d0 q.1)
theorem loop_start {src tr rw ch bk d0 : Addr} {rest : List (Addr × Obj)} {m₀ : Str → Option Value} {x y : Int} {tx ty : Tok} {k nr nc : Nat} {vs : List Value} {kvs : List (Int × Value)} {ob : Obj} {h : Heap} (N : News h₀ L h news)
   (hsrc : (src, listOf #[.int x tx, .int y ty] k) ∈ news) (hrw : (rw, listOf vs.toArray nr) ∈ news) (hch : (ch, listOf ([] : List Value).toArray nc) ∈ news) (hbk : (bk, ob) ∈ news) (hrest : ∀ q ∈ rest, q ∈ news)
   (hx : 0 ≤ x) (hy : 0 ≤ y) (hy' : y < 2147483647) (hvs : vs.length = 4) (hkl : kvs.length = 3) (hkb : ∀ q ∈ kvs, 0 ≤ q.1 ∧ q.1 < (vs.length : Int)) (hob : ob.IsDictOf (intKind PR w) kvs) (hbl : (bk == sysModules) = false)
   (hr : ∀ q ∈ kvs, RowL w (extOf d0 rw ch bk news) vs q) (ht : TreeL w (extOf d0 rw ch bk news) tr rw ch vs) (h0 : @LT.lt Nat _ src d0) (h1 : @LE.le Nat _ d0 rw) (h2 : @LE.le Nat _ d0 ch) (h3 : @LE.le Nat _ d0 bk) (n1 : @Ne Nat rw ch) (n2 : @Ne Nat rw bk) (n3 : @Ne Nat ch bk) :
   ∃ nx, News h₀ L h nx ∧ LoopJ w src tr rw ch bk d0 rest m₀ 0 m₀ nx := by
  refine ⟨_, fun q hq => ?_, fun _ _ => rfl, x, y, tx, ty, k, vs, nr, [], nc, ob, kvs, extOf d0 rw ch bk news, rfl, ⟨hx, hy, hy', hvs, rfl, hkl, hkb, hob, hbl, hr, ht, fun p hp => ?_, fun p hp => (ext_mem hp).2.2.1, fun p hp => (ext_mem hp).2.2.2.1, fun p hp => (ext_mem hp).2.2.2.2, ⟨?_, ?_, ?_, n1, n2, n3⟩⟩, fun q hq => (ext_mem hq).2.1⟩
  · rcases List.mem_cons.mp hq with rfl | hq
    · exact N _ hsrc
    · rcases List.mem_cons.mp hq with rfl | hq
      · exact N _ hrw
      · rcases List.mem_cons.mp hq with rfl | hq
        · exact N _ hch
        · rcases List.mem_cons.mp hq with rfl | hq
          · exact N _ hbk
          · rcases List.mem_append.mp hq with hq | hq
            · exact N q (ext_mem hq).1
            · exact N q (hrest q hq)
  · exact Nat.ne_of_gt (Nat.lt_of_lt_of_le h0 (ext_mem hp).2.1)
  · exact Nat.ne_of_lt (Nat.lt_of_lt_of_le h0 h1)
  · exact Nat.ne_of_lt (Nat.lt_of_lt_of_le h0 h2)
  · exact Nat.ne_of_lt (Nat.lt_of_lt_of_le h0 h3)
theorem rowL_mk {d0 rw ch bk ra rr dr : Addr} {vs : List Value} {q : Int × Value} {kd ur lc nm : Str} {t1 t2 t3 t4 : Tok} {n1 : Nat} {od : Obj} {v1 v2 v3 v4 v5 : Value} (e : q.2 = .ref ra) (m1 : (ra, rowTup kd ur lc nm t1 t2 t3 t4 n1) ∈ news) (g : vs[q.1.toNat]? = some (.ref rr)) (m2 : (rr, instObj 111 dr) ∈ news)
   (m3 : (dr, od) ∈ news) (mr : IsRow w od kd nm ur lc v1 v2 v3 v4 v5) (okk : ok kd) (oku : ok ur) (okl : ok lc) (okn : ok nm) (hin : kd = "instruction" → nm = lc)
   (a1 : @LE.le Nat _ d0 ra ∧ @Ne Nat ra rw ∧ @Ne Nat ra ch ∧ @Ne Nat ra bk) (a2 : @LE.le Nat _ d0 rr ∧ @Ne Nat rr rw ∧ @Ne Nat rr ch ∧ @Ne Nat rr bk) (a3 : @LE.le Nat _ d0 dr ∧ @Ne Nat dr rw ∧ @Ne Nat dr ch ∧ @Ne Nat dr bk) : RowL w (extOf d0 rw ch bk news) vs q :=
  ⟨ra, kd, ur, lc, nm, t1, t2, t3, t4, n1, rr, dr, od, v1, v2, v3, v4, v5, e, mem_ext m1 a1.1 a1.2.1 a1.2.2.1 a1.2.2.2, g, mem_ext m2 a2.1 a2.2.1 a2.2.2.1 a2.2.2.2, mem_ext m3 a3.1 a3.2.1 a3.2.2.1 a3.2.2.2, mr, okk, oku, okl, okn, hin⟩
theorem treeL_mk {tr d0 rw ch bk dT pr dpp : Addr} {q0 : Tok} {pn pu pl : Str} {vs : List Value} {od : Obj} {w1 w2 w4 w5 : Value} (m1 : (tr, instObj 300 dT) ∈ news) (m2 : (dT, dictOf [⟨PyData.keyHash w.params "rows", .str "rows" q0, .ref rw⟩] 1) ∈ news) (g : vs[(1 : Int).toNat]? = some (.ref pr)) (m3 : (pr, instObj 111 dpp) ∈ news)
   (m4 : (dpp, od) ∈ news) (mr : IsRow w od "element" pn pu pl w1 w2 (.ref ch) w4 w5)
   (a1 : @LE.le Nat _ d0 tr ∧ @Ne Nat tr rw ∧ @Ne Nat tr ch ∧ @Ne Nat tr bk) (a2 : @LE.le Nat _ d0 dT ∧ @Ne Nat dT rw ∧ @Ne Nat dT ch ∧ @Ne Nat dT bk) (a3 : @LE.le Nat _ d0 pr ∧ @Ne Nat pr rw ∧ @Ne Nat pr ch ∧ @Ne Nat pr bk) (a4 : @LE.le Nat _ d0 dpp ∧ @Ne Nat dpp rw ∧ @Ne Nat dpp ch ∧ @Ne Nat dpp bk) : TreeL w (extOf d0 rw ch bk news) tr rw ch vs :=
  ⟨dT, q0, pr, dpp, pn, pu, pl, od, w1, w2, w4, w5, mem_ext m1 a1.1 a1.2.1 a1.2.2.1 a1.2.2.2, mem_ext m2 a2.1 a2.2.1 a2.2.2.1 a2.2.2.2, mem_ext m3 a3.1 a3.2.1 a3.2.2.1 a3.2.2.2, mem_ext m4 a4.1 a4.2.1 a4.2.2.1 a4.2.2.2, mr, g⟩
theorem start_use {P : Prop} {src tr rw ch bk d0 dT pr dpp a1 a2 a3 r2 d2 r3 d3 : Addr} {rest : List (Addr × Obj)} {m₀ : Str → Option Value} {x y : Int} {tx ty q0 : Tok} {k nr nc i1 i2 i3 : Nat} {vs : List Value} {ob : Obj} {h : Heap}
   {ur1 lc1 nm1 kd2 ur2 lc2 nm2 kd3 ur3 lc3 nm3 : Str} {s1 s2 s3 s4 s5 s6 s7 s8 s9 s10 s11 s12 : Tok} {od1 od2 od3 : Obj} {w1 w2 w4 w5 u1 u2 u3 u4 u5 z1 z2 z3 z4 z5 : Value}
   (F : Fr h₀ L h m₀) (htr : m₀ "tree" = some (.ref tr)) (hbm : m₀ "book" = some (.ref bk)) (N : News h₀ L h news) (hlr : ∀ p ∈ rest, p.1 < d0) (hsrc : (src, listOf #[.int x tx, .int y ty] k) ∈ news) (hrest : ∀ q ∈ rest, q ∈ news)
   (m1 : (tr, instObj 300 dT) ∈ news) (m2 : (dT, dictOf [⟨PyData.keyHash w.params "rows", .str "rows" q0, .ref rw⟩] 1) ∈ news) (hrw : (rw, listOf vs.toArray nr) ∈ news) (hvs : vs.length = 4)
   (g1 : vs[(1 : Int).toNat]? = some (.ref pr)) (m3 : (pr, instObj 111 dpp) ∈ news) (m4 : (dpp, od1) ∈ news) (hr1 : IsRow w od1 "element" nm1 ur1 lc1 w1 w2 (.ref ch) w4 w5) (hch : (ch, listOf ([] : List Value).toArray nc) ∈ news)
   (hbk : (bk, ob) ∈ news) (hob : ob.IsDictOf (intKind PR w) [(1, .ref a1), (2, .ref a2), (3, .ref a3)]) (hbl : (bk == sysModules) = false)
   (n1 : (a1, rowTup "element" ur1 lc1 nm1 s1 s2 s3 s4 i1) ∈ news)
   (g2 : vs[(2 : Int).toNat]? = some (.ref r2)) (m5 : (r2, instObj 111 d2) ∈ news) (m6 : (d2, od2) ∈ news) (hr2 : IsRow w od2 kd2 nm2 ur2 lc2 u1 u2 u3 u4 u5) (n2 : (a2, rowTup kd2 ur2 lc2 nm2 s5 s6 s7 s8 i2) ∈ news)
   (g3 : vs[(3 : Int).toNat]? = some (.ref r3)) (m7 : (r3, instObj 111 d3) ∈ news) (m8 : (d3, od3) ∈ news) (hr3 : IsRow w od3 kd3 nm3 ur3 lc3 z1 z2 z3 z4 z5) (n3 : (a3, rowTup kd3 ur3 lc3 nm3 s9 s10 s11 s12 i3) ∈ news)
   (hx : 0 ≤ x) (hy : 0 ≤ y) (hy' : y < 2147483647) (o1 : ok ur1 ∧ ok lc1 ∧ ok nm1) (o2 : ok kd2 ∧ ok ur2 ∧ ok lc2 ∧ ok nm2) (o3 : ok kd3 ∧ ok ur3 ∧ ok lc3 ∧ ok nm3) (c2 : ¬ kd2 = "instruction") (c3 : ¬ kd3 = "instruction")
   (h0 : @LT.lt Nat _ src d0) (h1 : @LE.le Nat _ d0 rw) (h2 : @LE.le Nat _ d0 ch) (h3 : @LE.le Nat _ d0 bk) (q1 : @Ne Nat rw ch) (q2 : @Ne Nat rw bk) (q3 : @Ne Nat ch bk)
   (t1 : @LE.le Nat _ d0 tr ∧ @Ne Nat tr rw ∧ @Ne Nat tr ch ∧ @Ne Nat tr bk) (t2 : @LE.le Nat _ d0 dT ∧ @Ne Nat dT rw ∧ @Ne Nat dT ch ∧ @Ne Nat dT bk) (t3 : @LE.le Nat _ d0 pr ∧ @Ne Nat pr rw ∧ @Ne Nat pr ch ∧ @Ne Nat pr bk) (t4 : @LE.le Nat _ d0 dpp ∧ @Ne Nat dpp rw ∧ @Ne Nat dpp ch ∧ @Ne Nat dpp bk)
   (t5 : @LE.le Nat _ d0 a1 ∧ @Ne Nat a1 rw ∧ @Ne Nat a1 ch ∧ @Ne Nat a1 bk) (t6 : @LE.le Nat _ d0 a2 ∧ @Ne Nat a2 rw ∧ @Ne Nat a2 ch ∧ @Ne Nat a2 bk) (t7 : @LE.le Nat _ d0 a3 ∧ @Ne Nat a3 rw ∧ @Ne Nat a3 ch ∧ @Ne Nat a3 bk)
   (t8 : @LE.le Nat _ d0 r2 ∧ @Ne Nat r2 rw ∧ @Ne Nat r2 ch ∧ @Ne Nat r2 bk) (t9 : @LE.le Nat _ d0 d2 ∧ @Ne Nat d2 rw ∧ @Ne Nat d2 ch ∧ @Ne Nat d2 bk) (t10 : @LE.le Nat _ d0 r3 ∧ @Ne Nat r3 rw ∧ @Ne Nat r3 ch ∧ @Ne Nat r3 bk) (t11 : @LE.le Nat _ d0 d3 ∧ @Ne Nat d3 rw ∧ @Ne Nat d3 ch ∧ @Ne Nat d3 bk)
   (kk : ∀ nx, News h₀ L h nx → LoopJ w src tr rw ch bk d0 rest m₀ 0 m₀ nx → P) : P := by
  have oe : ok ("element" : Str) := by decide +kernel
  obtain ⟨nx, NX, J⟩ := loop_start (w := w) (src := src) (tr := tr) (rw := rw) (ch := ch) (bk := bk) (d0 := d0) (rest := rest) (m₀ := m₀) (kvs := [(1, .ref a1), (2, .ref a2), (3, .ref a3)]) N hsrc hrw hch hbk hrest hx hy hy' hvs rfl
    (fun q hq => by
      rw [hvs]
      rcases List.mem_cons.mp hq with rfl | hq
      · exact ⟨by show (0 : Int) ≤ _; omega, by show _ < ((4 : Nat) : Int); omega⟩
      · rcases List.mem_cons.mp hq with rfl | hq
        · exact ⟨by show (0 : Int) ≤ _; omega, by show _ < ((4 : Nat) : Int); omega⟩
        · rw [List.mem_singleton.mp hq]; exact ⟨by show (0 : Int) ≤ _; omega, by show _ < ((4 : Nat) : Int); omega⟩) hob hbl
    (fun q hq => by
      rcases List.mem_cons.mp hq with rfl | hq
      · exact rowL_mk rfl n1 g1 m3 m4 hr1 oe o1.1 o1.2.1 o1.2.2 (fun e => absurd e (by decide)) t5 t3 t4
      · rcases List.mem_cons.mp hq with rfl | hq
        · exact rowL_mk rfl n2 g2 m5 m6 hr2 o2.1 o2.2.1 o2.2.2.1 o2.2.2.2 (fun e => absurd e c2) t6 t8 t9
        · rw [List.mem_singleton.mp hq]
          exact rowL_mk rfl n3 g3 m7 m8 hr3 o3.1 o3.2.1 o3.2.2.1 o3.2.2.2 (fun e => absurd e c3) t7 t10 t11)
    (treeL_mk m1 m2 g1 m3 m4 hr1 t1 t2 t3 t4) h0 h1 h2 h3 q1 q2 q3
  exact kk nx NX J
end SModJ
section SModY
theorem loop_open {P : Prop} {src tr rw ch bk d0 : Addr} {rest own nx : List (Addr × Obj)} {m₀ m : Str → Option Value} {i : Nat} {g h : Heap} {v : Value} {t0 : Tok}
   (J : LoopJ w src tr rw ch bk d0 rest m₀ i m nx) (hi : i < 3) (F : Fr g L h (fun y => if y = "turn" then some v else m y)) (N : News g L h (nx ++ own)) (O : OwnOff own (nx.map (·.1)))
   (hs : ∀ q ∈ rest, q.1 ≠ src) (hl : ∀ q ∈ rest, q.1 < d0) (h1 : @LE.le Nat _ d0 rw) (h2 : @LE.le Nat _ d0 ch) (h3 : @LE.le Nat _ d0 bk)
   (msrc : m₀ "source" = some (.ref src)) (mtr : m₀ "tree" = some (.ref tr)) (mbk : m₀ "book" = some (.ref bk)) (mtop : m₀ "top" = some (.int 1 t0))
   (kk : ∀ (x y : Int) (tx ty : Tok) (k : Nat) (vs : List Value) (nr : Nat) (cv : List Value) (nc : Nat) (ob : Obj) (kvs : List (Int × Value)) (ext tl : List (Addr × Obj)) (dT : Addr) (q0 : Tok) (pr dpp : Addr) (pn pu pl : Str) (od : Obj) (w1 w2 w4 w5 : Value),
      tl = (ext ++ rest) ++ own → nx = (src, listOf #[.int x tx, .int y ty] k) :: (rw, listOf vs.toArray nr) :: (ch, listOf cv.toArray nc) :: (bk, ob) :: (ext ++ rest) → BInv w src tr rw ch bk i x y vs cv kvs ob ext → (∀ q ∈ ext, @LE.le Nat _ d0 q.1) →
      OwnOff own (nx.map (·.1)) → (∀ z, (["turn", "kind", "target", "uri"] : List Str).contains z = false → m z = m₀ z) →
      (∀ q ∈ tl, q.1 ≠ src) → (∀ q ∈ tl, q.1 ≠ rw) → (∀ q ∈ tl, q.1 ≠ ch) → (∀ q ∈ tl, q.1 ≠ bk) → 0 ≤ x → 0 ≤ y → y < 2147483647 → vs.length < 1000 → cv.length < 1000 → (1 : Int) < (vs.length : Int) → kvs.length < 64 → (∀ q ∈ kvs, q.1 ≠ (vs.length : Int)) →
      ob.IsDictOf (intKind PR w) kvs → (bk == sysModules) = false → @Ne Nat src rw → @Ne Nat src ch → @Ne Nat src bk → @Ne Nat rw ch → @Ne Nat rw bk → @Ne Nat ch bk →
      (tr, instObj 300 dT) ∈ tl → (dT, dictOf [⟨PyData.keyHash w.params "rows", .str "rows" q0, .ref rw⟩] 1) ∈ tl → (pr, instObj 111 dpp) ∈ tl → (dpp, od) ∈ tl → IsRow w od "element" pn pu pl w1 w2 (.ref ch) w4 w5 → vs[(1 : Int).toNat]? = some (.ref pr) →
      Fr g L h (fun y => if y = "turn" then some v else if y = "source" then some (.ref src) else if y = "tree" then some (.ref tr) else if y = "book" then some (.ref bk) else if y = "top" then some (.int 1 t0) else m y) →
      News g L h ((src, listOf #[.int x tx, .int y ty] k) :: (rw, listOf vs.toArray nr) :: (ch, listOf cv.toArray nc) :: (bk, ob) :: tl) → P) : P := by
  obtain ⟨hm, x, y, tx, ty, k, vs, nr, cv, nc, ob, kvs, ext, e, I, hd⟩ := J
  obtain ⟨dT, q0, pr, dpp, pn, pu, pl, od, w1, w2, w4, w5, m1, m2, m3, m4, hr, gp⟩ := I.tree
  have up : ∀ q ∈ ext, q ∈ (ext ++ rest) ++ own := fun q hq => List.mem_append_left _ (List.mem_append_left _ hq)
  have off : ∀ (c : Addr), c ∈ nx.map (·.1) → (∀ q ∈ ext, q.1 ≠ c) → (∀ q ∈ rest, q.1 ≠ c) → ∀ q ∈ (ext ++ rest) ++ own, q.1 ≠ c := fun c hc a1 a2 q hq => by
    rcases List.mem_append.mp hq with hq | hq
    · rcases List.mem_append.mp hq with hq | hq
      · exact a1 q hq
      · exact a2 q hq
    · exact O q hq c hc
  have hlo : ∀ (c : Addr), @LE.le Nat _ d0 c → ∀ q ∈ rest, q.1 ≠ c := fun c hc q hq => Nat.ne_of_lt (Nat.lt_of_lt_of_le (hl q hq) hc)
  have eF : (fun y : Str => if y = "turn" then some v else m y) = (fun y : Str => if y = "turn" then some v else if y = "source" then some (.ref src) else if y = "tree" then some (.ref tr) else if y = "book" then some (.ref bk) else if y = "top" then some (.int 1 t0) else m y) := by
    funext y
    by_cases e0 : y = "turn"
    · rw [if_pos e0, if_pos e0]
    · rw [if_neg e0, if_neg e0]
      by_cases e1 : y = "source"
      · rw [if_pos e1, e1, hm _ (by decide), msrc]
      · rw [if_neg e1]
        by_cases e2 : y = "tree"
        · rw [if_pos e2, e2, hm _ (by decide), mtr]
        · rw [if_neg e2]
          by_cases e3 : y = "book"
          · rw [if_pos e3, e3, hm _ (by decide), mbk]
          · rw [if_neg e3]
            by_cases e4 : y = "top"
            · rw [if_pos e4, e4, hm _ (by decide), mtop]
            · rw [if_neg e4]
  have hv := I.hvs
  refine kk x y tx ty k vs nr cv nc ob kvs ext _ dT q0 pr dpp pn pu pl od w1 w2 w4 w5 rfl e I hd O hm (off src ?_ I.apS hs) (off rw ?_ I.apR (hlo _ h1)) (off ch ?_ I.apC (hlo _ h2)) (off bk ?_ I.apB (hlo _ h3))
    I.hx I.hy I.hy' (by omega) (by have := I.hcv; omega) (by omega) (by have := I.hkl; omega) (fun q hq => by have := I.hkb q hq; omega) I.hob I.hbl I.neq.1 I.neq.2.1 I.neq.2.2.1 I.neq.2.2.2.1 I.neq.2.2.2.2.1 I.neq.2.2.2.2.2 (up _ m1) (up _ m2) (up _ m3) (up _ m4) hr gp (by rw [← eF]; exact F) ?_
  · rw [e]; exact .head _
  · rw [e]; exact .tail _ (.head _)
  · rw [e]; exact .tail _ (.tail _ (.head _))
  · rw [e]; exact .tail _ (.tail _ (.tail _ (.head _)))
  · subst e
    simpa using N
theorem same_set {x : Str} {v : Option Value} {m m₀ : Str → Option Value} (hx : (["turn", "kind", "target", "uri"] : List Str).contains x = true) (h : ∀ z, (["turn", "kind", "target", "uri"] : List Str).contains z = false → m z = m₀ z) :
   ∀ z, (["turn", "kind", "target", "uri"] : List Str).contains z = false → (fun y => if y = x then v else m y) z = m₀ z := fun z hz => by
  have : ¬ z = x := fun e => by rw [e, hx] at hz; cases hz
  show (if z = x then v else m z) = _
  rw [if_neg this]
  exact h z hz
theorem same_known {x : Str} {v : Option Value} {m m₀ : Str → Option Value} (hx : m₀ x = v) (h : ∀ z, (["turn", "kind", "target", "uri"] : List Str).contains z = false → m z = m₀ z) :
   ∀ z, (["turn", "kind", "target", "uri"] : List Str).contains z = false → (fun y => if y = x then v else m y) z = m₀ z := fun z hz => by
  show (if z = x then v else m z) = _
  by_cases e : z = x
  · rw [if_pos e, e, hx]
  · rw [if_neg e]; exact h z hz
structure Keep4 (src rw ch bk d0 : Addr) (rest : List (Addr × Obj)) : Prop where
  h1 : @LE.le Nat _ d0 rw
  h2 : @LE.le Nat _ d0 ch
  h3 : @LE.le Nat _ d0 bk
  h0 : @LT.lt Nat _ src d0
  hl : ∀ q ∈ rest, q.1 < d0
  hs : ∀ q ∈ rest, q.1 ≠ src
theorem keep4 {src tr rw ch bk d0 : Addr} {rest nx : List (Addr × Obj)} {m₀ m : Str → Option Value} {i : Nat} (J : LoopJ w src tr rw ch bk d0 rest m₀ i m nx) (h1 : @LE.le Nat _ d0 rw) (h2 : @LE.le Nat _ d0 ch) (h3 : @LE.le Nat _ d0 bk) (h0 : @LT.lt Nat _ src d0) (hl : ∀ q ∈ rest, q.1 < d0) (hs : ∀ q ∈ rest, q.1 ≠ src) : Keep4 src rw ch bk d0 rest := ⟨h1, h2, h3, h0, hl, hs⟩
structure Room2 (dp un a b : Nat) : Prop where
  hd : dp + a < recursionLimit
  hu : un + b < cLine
theorem kd4 {u : Str} (h : u ∈ (["element", "text", "comment", "instruction", "element"] : List Str)) (h1 : (u == "element") = false) (h2 : (u == "instruction") = false) (h3 : (u == "text") = false) : u = "comment" := by
  have n1 := ne_of_beq_false h1
  have n2 := ne_of_beq_false h2
  have n3 := ne_of_beq_false h3
  rcases List.mem_cons.mp h with e | h
  · exact absurd e n1
  · rcases List.mem_cons.mp h with e | h
    · exact absurd e n3
    · rcases List.mem_cons.mp h with e | h
      · exact e
      · rcases List.mem_cons.mp h with e | h
        · exact absurd e n2
        · exact absurd (List.mem_singleton.mp h) n1
theorem loop_close {src tr rw ch bk d0 ra rr dr : Addr} {rest own nx news' ext tl : List (Addr × Obj)} {m₀ m' : Str → Option Value} {i k nr nc k' nr' nc' n1 : Nat} {g h' : Heap} {s₁ : Shared} {tk' : Nat} {x y x' y' : Int} {tx ty tx' ty' : Tok} {vs cv : List Value} {kvs : List (Int × Value)} {ob ob' : Obj} {c : Value} {kd' kd ur lc nm : Str} {t1 t2 t3 t4 : Tok} {od : Obj} {v1 v2 v3 v4 v5 : Value}
   (K : Keep4 src rw ch bk d0 rest) (etl : tl = (ext ++ rest) ++ own) (enx : nx = (src, listOf #[.int x tx, .int y ty] k) :: (rw, listOf vs.toArray nr) :: (ch, listOf cv.toArray nc) :: (bk, ob) :: (ext ++ rest)) (I : BInv w src tr rw ch bk i x y vs cv kvs ob ext) (hd : ∀ q ∈ ext, @LE.le Nat _ d0 q.1) (O : OwnOff own (nx.map (·.1)))
   (F : Fr g L h' m') (N : News g L h' news') (hm : ∀ z, (["turn", "kind", "target", "uri"] : List Str).contains z = false → m' z = m₀ z)
   (hob : ob'.IsDictOf (intKind PR w) (kvs ++ [((vs.length : Int), .ref ra)])) (k1 : (src, listOf #[.int x' tx', .int y' ty'] k') ∈ news') (k2 : (rw, listOf (vs ++ [Value.ref rr]).toArray nr') ∈ news') (k3 : (ch, listOf (cv ++ [c]).toArray nc') ∈ news') (k4 : (bk, ob') ∈ news') (k5 : (ra, rowTup kd' ur lc nm t1 t2 t3 t4 n1) ∈ news') (k6 : (rr, instObj 111 dr) ∈ news')
   (k7 : (dr, od) ∈ news') (krow : IsRow w od kd nm ur lc v1 v2 v3 v4 v5) (ktl : ∀ q ∈ tl, q ∈ news') (hkd : kd' = kd) (hx : 0 ≤ x') (hy : 0 ≤ y') (hy' : y' < 2147483647) (okk : ok kd) (oku : ok ur) (okl : ok lc) (okn : ok nm) (hin : kd = "instruction" → nm = lc)
   (b1 : @LT.lt Nat _ src ra ∧ @LT.lt Nat _ rw ra ∧ @LT.lt Nat _ ch ra ∧ @LT.lt Nat _ bk ra) (b2 : @LT.lt Nat _ ra dr) (b3 : @LT.lt Nat _ dr rr) (bt : ∀ q ∈ tl, q.1 < ra) :
   InvEndG g L (LoopJ w src tr rw ch bk d0 rest m₀ (i + 1)) own s₁ { s₁ with heap := h', toks := tk' } := by
  subst hkd
  have lo : @LE.le Nat _ d0 ra := Nat.le_trans K.h1 (Nat.le_of_lt b1.2.1)
  have up : ∀ {c : Addr}, @LT.lt Nat _ c ra → @Ne Nat ra c ∧ @Ne Nat rr c ∧ @Ne Nat dr c := fun {c} hc => ⟨Nat.ne_of_gt hc, Nat.ne_of_gt (Nat.lt_trans hc (Nat.lt_trans b2 b3)), Nat.ne_of_gt (Nat.lt_trans hc b2)⟩
  have intl : ∀ q ∈ ext ++ rest, q ∈ tl := fun q hq => by rw [etl]; exact List.mem_append_left _ hq
  have ownin : ∀ q ∈ own, q ∈ tl := fun q hq => by rw [etl]; exact List.mem_append_right _ hq
  subst enx
  refine InvEndG.intro (nx := (src, listOf #[.int x' tx', .int y' ty'] k') :: (rw, listOf (vs ++ [Value.ref rr]).toArray nr') :: (ch, listOf (cv ++ [c]).toArray nc') :: (bk, ob') :: (((ra, rowTup kd' ur lc nm t1 t2 t3 t4 n1) :: (rr, instObj 111 dr) :: (dr, od) :: ext) ++ rest)) F N
    ⟨hm, x', y', tx', ty', k', vs ++ [Value.ref rr], nr', cv ++ [c], nc', ob', kvs ++ [((vs.length : Int), .ref ra)], _, rfl,
      I.step hx hy hy' hob okk oku okl okn hin krow ⟨(up b1.1).1, (up b1.2.1).1, (up b1.2.2.1).1, (up b1.2.2.2).1⟩ ⟨(up b1.1).2.1, (up b1.2.1).2.1, (up b1.2.2.1).2.1, (up b1.2.2.2).2.1⟩ ⟨(up b1.1).2.2, (up b1.2.1).2.2, (up b1.2.2.1).2.2, (up b1.2.2.2).2.2⟩,
      List.forall_mem_cons.mpr ⟨lo, List.forall_mem_cons.mpr ⟨Nat.le_trans lo (Nat.le_of_lt (Nat.lt_trans b2 b3)), List.forall_mem_cons.mpr ⟨Nat.le_trans lo (Nat.le_of_lt b2), hd⟩⟩⟩⟩ ?_ ?_ (fun q hq => ktl q (ownin q hq))
  · intro q hq b hb
    have lq := bt q (ownin q hq)
    have O4 : ∀ b ∈ [src, rw, ch, bk], q.1 ≠ b := fun b hb => O q hq b (by
      simp only [List.map_cons, List.mem_cons] at hb ⊢
      rcases hb with h | h | h | h | h
      · exact .inl h
      · exact .inr (.inl h)
      · exact .inr (.inr (.inl h))
      · exact .inr (.inr (.inr (.inl h)))
      · cases h)
    have O5 : ∀ b ∈ (ext ++ rest).map (·.1), q.1 ≠ b := fun b hb => O q hq b (.tail _ (.tail _ (.tail _ (.tail _ hb))))
    simp only [List.cons_append, List.map_cons] at hb
    rcases List.mem_cons.mp hb with rfl | hb
    · exact O4 _ (.head _)
    · rcases List.mem_cons.mp hb with rfl | hb
      · exact O4 _ (.tail _ (.head _))
      · rcases List.mem_cons.mp hb with rfl | hb
        · exact O4 _ (.tail _ (.tail _ (.head _)))
        · rcases List.mem_cons.mp hb with rfl | hb
          · exact O4 _ (.tail _ (.tail _ (.tail _ (.head _))))
          · rcases List.mem_cons.mp hb with rfl | hb
            · exact Nat.ne_of_lt lq
            · rcases List.mem_cons.mp hb with rfl | hb
              · exact Nat.ne_of_lt (Nat.lt_trans lq (Nat.lt_trans b2 b3))
              · rcases List.mem_cons.mp hb with rfl | hb
                · exact Nat.ne_of_lt (Nat.lt_trans lq b2)
                · exact O5 b hb
  · intro q hq
    rcases List.mem_cons.mp hq with rfl | hq
    · exact k1
    · rcases List.mem_cons.mp hq with rfl | hq
      · exact k2
      · rcases List.mem_cons.mp hq with rfl | hq
        · exact k3
        · rcases List.mem_cons.mp hq with rfl | hq
          · exact k4
          · rcases List.mem_cons.mp hq with rfl | hq
            · exact k5
            · rcases List.mem_cons.mp hq with rfl | hq
              · exact k6
              · rcases List.mem_cons.mp hq with rfl | hq
                · exact k7
                · exact ktl q (intl q hq)
theorem done_open {P : Prop} {src tr rw ch bk d0 : Addr} {rest nx : List (Addr × Obj)} {m₀ m : Str → Option Value} {i : Nat} {g h : Heap}
   (J : LoopJ w src tr rw ch bk d0 rest m₀ i m nx) (F : Fr g L h m) (N : News g L h nx) (mtr : m₀ "tree" = some (.ref tr)) (mbk : m₀ "book" = some (.ref bk))
   (kk : ∀ (x y : Int) (tx ty : Tok) (k : Nat) (vs : List Value) (nr : Nat) (cv : List Value) (nc : Nat) (ob : Obj) (kvs : List (Int × Value)) (ext : List (Addr × Obj)), BInv w src tr rw ch bk i x y vs cv kvs ob ext → (∀ q ∈ ext, @LE.le Nat _ d0 q.1) →
      Fr g L h (fun y => if y = "tree" then some (.ref tr) else if y = "book" then some (.ref bk) else m y) → News g L h ((src, listOf #[.int x tx, .int y ty] k) :: (rw, listOf vs.toArray nr) :: (ch, listOf cv.toArray nc) :: (bk, ob) :: (ext ++ rest)) → P) : P := by
  obtain ⟨hm, x, y, tx, ty, k, vs, nr, cv, nc, ob, kvs, ext, e, I, hd⟩ := J
  have eF : m = (fun y : Str => if y = "tree" then some (.ref tr) else if y = "book" then some (.ref bk) else m y) := by
    funext y
    by_cases e2 : y = "tree"
    · rw [if_pos e2, e2, hm _ (by decide), mtr]
    · rw [if_neg e2]
      by_cases e3 : y = "book"
      · rw [if_pos e3, e3, hm _ (by decide), mbk]
      · rw [if_neg e3]
  exact kk x y tx ty k vs nr cv nc ob kvs ext I hd (by rw [← eF]; exact F) (e ▸ N)
end SModY
section Tree
local macro_rules | `(tactic| walk_at "call ref") => `(tactic| (tbr_iter 136; k_dflt (refine' newrow_u ?hz ?hrw ?h1 ?h2 ?tbS ?_; (case tbS => tb_start); (case h1 | h2 | hrw => k_mem); (case hz => wtm_at "w")); intro rr9 dr9 c19 c29 c39 od9 t9 k9 nr9 h9 tk9 ek9 row9 F9 lA9 l19 l29 l39 l49 hN9; (have N9 := hN9 _ (by k_upd)); clear hN9; (try simp at ek9); subst ek9; (try k_lt lA9); wtm_at "s"))
local macro_rules | `(tactic| walk_at "call ref") => `(tactic| (tbr_iter 157; k_dflt (refine' addch_u ?hz ?hcz ?hj0 ?hj1 ?hj ?hrc ?hrw ?hch ?h1 ?h2 ?h3 ?h4 ?h4r ?hpk ?tbS ?_; (case tbS => tb_start); (case h1 | h2 | hrw => k_mem); (case hj => first | with_reducible assumption | rfl); (case h3 | h4 => k_mem); (case h4r => with_reducible assumption); (case hch => k_mem); (case hrc => k_ne); (case hpk | hj0 => first | with_reducible assumption | decide); (case hj1 | hcz | hz => wtm_at "w")); intro rr9 dr9 c19 c29 c39 od9 t9 k9 nr9 nc9 h9 tk9 ek9 row9 F9 lA9 l19 l29 l39 l49 hN9; (have N9 := hN9 _ _ (by k_upd) (by k_upd)); clear hN9; (try simp at ek9); subst ek9; (try k_lt lA9); wtm_at "s"))
local macro_rules | `(tactic| walk_at "subscriptTail Attribute Name Name ref int") => `(tactic| (wtm_at "i"; k_dflt (refine' item_litK ?l ?a ?b ?x ?_ ?hs; (case l => wtm_at "l"); (case x => first | with_reducible assumption | exact app_get (by with_reducible assumption) | rfl); (case a => first | with_reducible assumption | decide); (case b => omega); (case hs => with_unfolding_all rfl); k_whole)))
local macro_rules | `(tactic| walk_at "call builtin:len") => `(tactic| (wtm_at "n"; k_dflt (refine' len_eq ?l ?z ?_; (case l => wtm_at "l"); (case z => (simp only [List.length_append, List.length_cons, List.length_nil]; omega)); k_whole); intro n9 en9; (try simp at en9); subst en9; (try dsimp only)))
local macro_rules | `(tactic| walk_at "call builtin:list.append") => `(tactic| (k_here; (try dsimp only [List.cons_append, List.nil_append]); (with_reducible show wpAny _ _ (call (Value.builtin _) [Value.ref _, _]) _ _ _); k_dflt (refine' append_L ?k1 ?k2 ?k3 ?_ ?z; (case k1 | k2 => k_asm); (case k3 => k_upd); (case z => (simp only [List.length_append, List.length_cons, List.length_nil]; omega)); k_whole); intros; (try k_sweep)))
local macro_rules | `(tactic| walk_at "call ref") => `(tactic| ((first | tbr_iter 150 | tbr_iter 164 | tbr_iter 171 | tbr_iter 178 | tbr_iter 185 | tbr_iter 192 | tbr_iter 199 | tbr_iter 206 | tbr_iter 143 | tbr_iter 220 | tbr_iter 227 | tbr_iter 79); (refine wpAny_call ?_; k_dflt (refine' code_def ?k1 ?k2 ?k3 ?k4 ?k5 ?kA ?kF ?kK ?k6 ?k7 ?k8 ?k9 ?kB ?_ ?c2 ?c3 ?c4 ?c5; (case kA | kF => exact rfl); (case kK => first | exact rfl | assumption); (case k1 | k2 | k3 | k4 | k5 => k_asm); (case k6 | k7 => k_is); (case k8 => ktr_room); (case k9 => exact BindsTo.of_eq rfl); (case c5 => decide); (case kB => exact locs rfl); (case c2 | c3 | c4 => exact rfl); k_whole; intro g' L' h' FG' F' N' B' X' T'; (try dsimp only); (try k_lift B'); (try k_fold)))))
local macro_rules | `(tactic| k_all) => `(tactic| exact all_ne2 (by with_reducible assumption) (by (try dsimp only); omega))
local macro_rules | `(tactic| walk_at "call ref") => `(tactic| (tbr_iter 300; k_dflt (refine' call_cls ?k1 ?k2 ?k3 ?k4 ?k5 ?k6 ?_; (case k1 | k2 | k3 => k_asm); (case k4 | k5 | k6 => k_is); k_whole; intro x' d' h' F' N' l1 l2; (have lr9 := tail_lt l1); (try k_lt l1); (try k_lt2 l2); (try k_sweep); k_enter)))
local macro_rules | `(tactic| walk_at "binaryOp Add str str") => `(tactic| (k_here; (with_reducible show wpAny _ _ (binaryOp Operator.Add (Value.str _ _) (Value.str _ _)) _ _ _); k_dflt (refine' cat_mem ?hu ?hus ?hx ?_; (case hu => with_reducible assumption); (case hus | hx => decide)); intros; (try dsimp only)))
local macro_rules | `(tactic| walk_at "pyIter ref") => `(tactic| (k_here; (with_reducible refine hold_inB ?_)))
local macro_rules | `(tactic| walk_at "pyIter ref") => `(tactic| (k_here; k_dflt (refine' iter_nil ?hh ?hl ?F ?N ?_; (case hh => rfl); (case F | N => k_asm); (case hl => with_reducible k_mem)); intros; wtm_at "s"))
section SModSa
theorem setattr_c {tr dT rw ch pr dpp : Addr} {vs : List Value} {nr nc : Nat} {q0 : Tok} {nm ur lc vl pn pu pl : Str} {a1 a2 a3 a4 tj b1 b2 b3 b4 b5 b6 b7 b8 b9 b10 b11 b12 b13 : Tok} {w1 w2 w3 w5 : Value} {j : Int} {rest : List (Addr × Obj)} (hz : vs.length < 1000) (hj0 : 0 ≤ j) (hj1 : j < vs.length) (hj : vs[j.toNat]? = some (.ref pr))
   (hrc : @Ne Nat rw ch) (hap : ∀ p ∈ rest, p.1 ≠ rw) (hap2 : ∀ p ∈ rest, p.1 ≠ ch) (h1 : (tr, instObj 300 dT) ∈ rest) (h2 : (dT, dictOf [⟨PyData.keyHash w.params "rows", .str "rows" q0, .ref rw⟩] 1) ∈ rest)
   (h3 : (pr, instObj 111 dpp) ∈ rest) (h4 : (dpp, rowO w "element" pn pu pl b1 b2 b3 b4 b5 b6 b7 b8 b9 b10 b11 b12 b13 w1 w2 w3 (.ref ch) w5) ∈ rest)
   (C : Site w p loose mean mg mb A₀ base outer h₀ L m ((rw, listOf vs.toArray nr) :: (ch, listOf ([] : List Value).toArray nc) :: rest) s.heap cs dp un 14 280)
   (hret : ∀ (rr dr c1 c2 c3 : Addr) (od : Obj) (t : Tok) (k : Int) (nr' nc' : Nat) (h' : Heap) (tk' : Nat), k = (vs.length : Int) → IsRow w od "attribute" nm ur lc (.str vl a4) (.int j tj) (.ref c1) (.ref c2) (.ref c3) → Fr h₀ L h' m →
      @LT.lt Nat _ rw dr ∧ @LT.lt Nat _ ch dr ∧ AllLt dr rest → @LT.lt Nat _ dr rr → @LT.lt Nat _ rr c1 → @LT.lt Nat _ c1 c2 → @LT.lt Nat _ c2 c3 →
      News h₀ L h' ((c3, listOf #[] 0) :: (c2, listOf #[] 0) :: (c1, listOf #[] 0) :: (rr, instObj 111 dr) :: (dr, od) :: (rw, listOf (vs ++ [Value.ref rr]).toArray nr') :: (ch, listOf [Value.int k t].toArray nc') :: rest) → Q (.int k t) { s with heap := h', toks := tk' }) :
   wpAny (model PR w) (ktrTop dp un gd cn cs L a ccd cl outer) (call (.ref 199) [.ref tr, .int j tj, .str nm a1, .str ur a2, .str lc a3, .str vl a4]) Q E s := by
  unfold rowO at h4
  obtain ⟨B, F, X, N, T, hk, hd, hu⟩ := C
  w_on
  w_strict (refine wpAny_call ?_; k_dflt cell_enter; k_steps; all_goals (k_dflt (refine' hret _ _ _ _ _ _ _ _ _ _ _ _ ?e ?row ?F ?l1 ?l2 ?l3 ?l4 ?l5 ?N; (case N => assumption); (case F => assumption); (case row => assumption); (case e => first | assumption | rfl); (case l1 => with_reducible assumption); (case l2 => with_reducible assumption); (case l3 => with_reducible assumption); (case l4 => with_reducible assumption); (case l5 => with_reducible assumption))))
theorem setattr_u {tr dT rw ch pr dpp : Addr} {vs : List Value} {nr nc : Nat} {q0 : Tok} {nm ur lc vl pn pu pl : Str} {a1 a2 a3 a4 tj : Tok} {op : Obj} {w1 w2 w3 w5 : Value} {j : Int} (hz : vs.length < 1000) (hj0 : 0 ≤ j) (hj1 : j < vs.length) (hj : vs[j.toNat]? = some (.ref pr))
   (hrc : @Ne Nat rw ch) (hrw : (rw, listOf vs.toArray nr) ∈ news) (hch : (ch, listOf ([] : List Value).toArray nc) ∈ news) (h1 : (tr, instObj 300 dT) ∈ news) (h2 : (dT, dictOf [⟨PyData.keyHash w.params "rows", .str "rows" q0, .ref rw⟩] 1) ∈ news)
   (h3 : (pr, instObj 111 dpp) ∈ news) (h4 : (dpp, op) ∈ news) (h4r : IsRow w op "element" pn pu pl w1 w2 w3 (.ref ch) w5)
   (C : Site w p loose mean mg mb A₀ base outer h₀ L m news s.heap cs dp un 14 280)
   (hret : ∀ (rr dr c1 c2 c3 : Addr) (od : Obj) (t : Tok) (k : Int) (nr' nc' : Nat) (h' : Heap) (tk' : Nat), k = (vs.length : Int) → IsRow w od "attribute" nm ur lc (.str vl a4) (.int j tj) (.ref c1) (.ref c2) (.ref c3) → Fr h₀ L h' m →
      (∀ q ∈ news, q.1 < dr) → @LT.lt Nat _ dr rr → @LT.lt Nat _ rr c1 → @LT.lt Nat _ c1 c2 → @LT.lt Nat _ c2 c3 →
      (∀ n1 n2, Upd rw (listOf vs.toArray nr) (listOf (vs ++ [Value.ref rr]).toArray nr') news n1 → Upd ch (listOf ([] : List Value).toArray nc) (listOf [Value.int k t].toArray nc') n1 n2 →
        News h₀ L h' ((c3, listOf #[] 0) :: (c2, listOf #[] 0) :: (c1, listOf #[] 0) :: (rr, instObj 111 dr) :: (dr, od) :: n2)) → Q (.int k t) { s with heap := h', toks := tk' }) :
   wpAny (model PR w) (ktrTop dp un gd cn cs L a ccd cl outer) (call (.ref 199) [.ref tr, .int j tj, .str nm a1, .str ur a2, .str lc a3, .str vl a4]) Q E s := by
  obtain ⟨b1, b2, b3, b4, b5, b6, b7, b8, b9, b10, b11, b12, b13, rfl⟩ := h4r
  have N := C.N
  have keep : ∀ {a : Addr} {o : Obj}, (a, o) ∈ news → (∀ l n, o ≠ listOf (List.toArray l) n) → (a, o) ∈ news.filter (fun q => decide (q.1 ≠ rw ∧ q.1 ≠ ch)) := fun hm hne => List.mem_filter.mpr ⟨hm, by simpa using ⟨ne_obj N hm hrw (hne _ _), ne_obj N hm hch (hne _ _)⟩⟩
  refine setattr_c (rest := news.filter (fun q => decide (q.1 ≠ rw ∧ q.1 ≠ ch))) hz hj0 hj1 hj hrc (fun q hq => (by simpa using (List.mem_filter.mp hq).2 : q.1 ≠ rw ∧ q.1 ≠ ch).1) (fun q hq => (by simpa using (List.mem_filter.mp hq).2 : q.1 ≠ rw ∧ q.1 ≠ ch).2)
    (keep h1 fun _ _ => inst_list) (keep h2 fun _ _ => dict_list) (keep h3 fun _ _ => inst_list) (keep h4 fun _ _ => dict_list) (C.led fun q hq => by
    rcases List.mem_cons.mp hq with rfl | hq
    · exact N _ hrw
    · rcases List.mem_cons.mp hq with rfl | hq
      · exact N _ hch
      · exact N q (List.mem_filter.mp hq).1) fun rr dr c1 c2 c3 od t k nr' nc' h' tk' e hrow F' l1 l2 l3 l4 l5 N' => hret rr dr c1 c2 c3 od t k nr' nc' h' tk' e hrow F' (fun q hq => ?_) l2 l3 l4 l5 fun n1 n2 U1 U2 q hq => ?_
  · by_cases e : q.1 = rw
    · rw [e]; exact l1.1
    · by_cases e2 : q.1 = ch
      · rw [e2]; exact l1.2.1
      · exact tb_ltOf l1.2.2 q (List.mem_filter.mpr ⟨hq, by simpa using ⟨e, e2⟩⟩)
  · rcases List.mem_cons.mp hq with rfl | hq
    · exact N' _ (.head _)
    · rcases List.mem_cons.mp hq with rfl | hq
      · exact N' _ (.tail _ (.head _))
      · rcases List.mem_cons.mp hq with rfl | hq
        · exact N' _ (.tail _ (.tail _ (.head _)))
        · rcases List.mem_cons.mp hq with rfl | hq
          · exact N' _ (.tail _ (.tail _ (.tail _ (.head _))))
          · rcases List.mem_cons.mp hq with rfl | hq
            · exact N' _ (.tail _ (.tail _ (.tail _ (.tail _ (.head _)))))
            · rcases upd_mem U2 q hq with rfl | ⟨hq, hne2⟩
              · exact N' _ (.tail _ (.tail _ (.tail _ (.tail _ (.tail _ (.tail _ (.head _)))))))
              · rcases upd_mem U1 q hq with rfl | ⟨hq, hne⟩
                · exact N' _ (.tail _ (.tail _ (.tail _ (.tail _ (.tail _ (.head _))))))
                · exact N' _ (.tail _ (.tail _ (.tail _ (.tail _ (.tail _ (.tail _ (.tail _ (List.mem_filter.mpr ⟨hq, by simpa using ⟨hne, hne2⟩⟩))))))))
theorem addns_c {tr dT rw ch pr dpp : Addr} {vs : List Value} {nr nc : Nat} {q0 : Tok} {nm vl pn pu pl : Str} {a1 a2 tj b1 b2 b3 b4 b5 b6 b7 b8 b9 b10 b11 b12 b13 : Tok} {w1 w2 w3 w4 : Value} {j : Int} {rest : List (Addr × Obj)} (hz : vs.length < 1000) (hj0 : 0 ≤ j) (hj1 : j < vs.length) (hj : vs[j.toNat]? = some (.ref pr))
   (hrc : @Ne Nat rw ch) (hap : ∀ p ∈ rest, p.1 ≠ rw) (hap2 : ∀ p ∈ rest, p.1 ≠ ch) (h1 : (tr, instObj 300 dT) ∈ rest) (h2 : (dT, dictOf [⟨PyData.keyHash w.params "rows", .str "rows" q0, .ref rw⟩] 1) ∈ rest)
   (h3 : (pr, instObj 111 dpp) ∈ rest) (h4 : (dpp, rowO w "element" pn pu pl b1 b2 b3 b4 b5 b6 b7 b8 b9 b10 b11 b12 b13 w1 w2 w3 w4 (.ref ch)) ∈ rest)
   (C : Site w p loose mean mg mb A₀ base outer h₀ L m ((rw, listOf vs.toArray nr) :: (ch, listOf ([] : List Value).toArray nc) :: rest) s.heap cs dp un 14 280)
   (hret : ∀ (rr dr c1 c2 c3 : Addr) (od : Obj) (t : Tok) (k : Int) (nr' nc' : Nat) (h' : Heap) (tk' : Nat), k = (vs.length : Int) → IsRow w od "namespace" nm "" nm (.str vl a2) (.int j tj) (.ref c1) (.ref c2) (.ref c3) → Fr h₀ L h' m →
      @LT.lt Nat _ rw dr ∧ @LT.lt Nat _ ch dr ∧ AllLt dr rest → @LT.lt Nat _ dr rr → @LT.lt Nat _ rr c1 → @LT.lt Nat _ c1 c2 → @LT.lt Nat _ c2 c3 →
      News h₀ L h' ((c3, listOf #[] 0) :: (c2, listOf #[] 0) :: (c1, listOf #[] 0) :: (rr, instObj 111 dr) :: (dr, od) :: (rw, listOf (vs ++ [Value.ref rr]).toArray nr') :: (ch, listOf [Value.int k t].toArray nc') :: rest) → Q (.int k t) { s with heap := h', toks := tk' }) :
   wpAny (model PR w) (ktrTop dp un gd cn cs L a ccd cl outer) (call (.ref 206) [.ref tr, .int j tj, .str nm a1, .str vl a2]) Q E s := by
  unfold rowO at h4
  obtain ⟨B, F, X, N, T, hk, hd, hu⟩ := C
  w_on
  w_strict (refine wpAny_call ?_; k_dflt cell_enter; k_steps; all_goals (k_dflt (refine' hret _ _ _ _ _ _ _ _ _ _ _ _ ?e ?row ?F ?l1 ?l2 ?l3 ?l4 ?l5 ?N; (case N => assumption); (case F => assumption); (case row => assumption); (case e => first | assumption | rfl); (case l1 => with_reducible assumption); (case l2 => with_reducible assumption); (case l3 => with_reducible assumption); (case l4 => with_reducible assumption); (case l5 => with_reducible assumption))))
theorem addns_u {tr dT rw ch pr dpp : Addr} {vs : List Value} {nr nc : Nat} {q0 : Tok} {nm vl pn pu pl : Str} {a1 a2 tj : Tok} {op : Obj} {w1 w2 w3 w4 : Value} {j : Int} (hz : vs.length < 1000) (hj0 : 0 ≤ j) (hj1 : j < vs.length) (hj : vs[j.toNat]? = some (.ref pr))
   (hrc : @Ne Nat rw ch) (hrw : (rw, listOf vs.toArray nr) ∈ news) (hch : (ch, listOf ([] : List Value).toArray nc) ∈ news) (h1 : (tr, instObj 300 dT) ∈ news) (h2 : (dT, dictOf [⟨PyData.keyHash w.params "rows", .str "rows" q0, .ref rw⟩] 1) ∈ news)
   (h3 : (pr, instObj 111 dpp) ∈ news) (h4 : (dpp, op) ∈ news) (h4r : IsRow w op "element" pn pu pl w1 w2 w3 w4 (.ref ch))
   (C : Site w p loose mean mg mb A₀ base outer h₀ L m news s.heap cs dp un 14 280)
   (hret : ∀ (rr dr c1 c2 c3 : Addr) (od : Obj) (t : Tok) (k : Int) (nr' nc' : Nat) (h' : Heap) (tk' : Nat), k = (vs.length : Int) → IsRow w od "namespace" nm "" nm (.str vl a2) (.int j tj) (.ref c1) (.ref c2) (.ref c3) → Fr h₀ L h' m →
      (∀ q ∈ news, q.1 < dr) → @LT.lt Nat _ dr rr → @LT.lt Nat _ rr c1 → @LT.lt Nat _ c1 c2 → @LT.lt Nat _ c2 c3 →
      (∀ n1 n2, Upd rw (listOf vs.toArray nr) (listOf (vs ++ [Value.ref rr]).toArray nr') news n1 → Upd ch (listOf ([] : List Value).toArray nc) (listOf [Value.int k t].toArray nc') n1 n2 →
        News h₀ L h' ((c3, listOf #[] 0) :: (c2, listOf #[] 0) :: (c1, listOf #[] 0) :: (rr, instObj 111 dr) :: (dr, od) :: n2)) → Q (.int k t) { s with heap := h', toks := tk' }) :
   wpAny (model PR w) (ktrTop dp un gd cn cs L a ccd cl outer) (call (.ref 206) [.ref tr, .int j tj, .str nm a1, .str vl a2]) Q E s := by
  obtain ⟨b1, b2, b3, b4, b5, b6, b7, b8, b9, b10, b11, b12, b13, rfl⟩ := h4r
  have N := C.N
  have keep : ∀ {a : Addr} {o : Obj}, (a, o) ∈ news → (∀ l n, o ≠ listOf (List.toArray l) n) → (a, o) ∈ news.filter (fun q => decide (q.1 ≠ rw ∧ q.1 ≠ ch)) := fun hm hne => List.mem_filter.mpr ⟨hm, by simpa using ⟨ne_obj N hm hrw (hne _ _), ne_obj N hm hch (hne _ _)⟩⟩
  refine addns_c (rest := news.filter (fun q => decide (q.1 ≠ rw ∧ q.1 ≠ ch))) hz hj0 hj1 hj hrc (fun q hq => (by simpa using (List.mem_filter.mp hq).2 : q.1 ≠ rw ∧ q.1 ≠ ch).1) (fun q hq => (by simpa using (List.mem_filter.mp hq).2 : q.1 ≠ rw ∧ q.1 ≠ ch).2)
    (keep h1 fun _ _ => inst_list) (keep h2 fun _ _ => dict_list) (keep h3 fun _ _ => inst_list) (keep h4 fun _ _ => dict_list) (C.led fun q hq => by
    rcases List.mem_cons.mp hq with rfl | hq
    · exact N _ hrw
    · rcases List.mem_cons.mp hq with rfl | hq
      · exact N _ hch
      · exact N q (List.mem_filter.mp hq).1) fun rr dr c1 c2 c3 od t k nr' nc' h' tk' e hrow F' l1 l2 l3 l4 l5 N' => hret rr dr c1 c2 c3 od t k nr' nc' h' tk' e hrow F' (fun q hq => ?_) l2 l3 l4 l5 fun n1 n2 U1 U2 q hq => ?_
  · by_cases e : q.1 = rw
    · rw [e]; exact l1.1
    · by_cases e2 : q.1 = ch
      · rw [e2]; exact l1.2.1
      · exact tb_ltOf l1.2.2 q (List.mem_filter.mpr ⟨hq, by simpa using ⟨e, e2⟩⟩)
  · rcases List.mem_cons.mp hq with rfl | hq
    · exact N' _ (.head _)
    · rcases List.mem_cons.mp hq with rfl | hq
      · exact N' _ (.tail _ (.head _))
      · rcases List.mem_cons.mp hq with rfl | hq
        · exact N' _ (.tail _ (.tail _ (.head _)))
        · rcases List.mem_cons.mp hq with rfl | hq
          · exact N' _ (.tail _ (.tail _ (.tail _ (.head _))))
          · rcases List.mem_cons.mp hq with rfl | hq
            · exact N' _ (.tail _ (.tail _ (.tail _ (.tail _ (.head _)))))
            · rcases upd_mem U2 q hq with rfl | ⟨hq, hne2⟩
              · exact N' _ (.tail _ (.tail _ (.tail _ (.tail _ (.tail _ (.tail _ (.head _)))))))
              · rcases upd_mem U1 q hq with rfl | ⟨hq, hne⟩
                · exact N' _ (.tail _ (.tail _ (.tail _ (.tail _ (.tail _ (.head _))))))
                · exact N' _ (.tail _ (.tail _ (.tail _ (.tail _ (.tail _ (.tail _ (.tail _ (List.mem_filter.mpr ⟨hq, by simpa using ⟨hne, hne2⟩⟩))))))))
end SModSa
section Tree2
local macro_rules | `(tactic| walk_at "call ref") => `(tactic| (tbr_iter 199; k_dflt (refine' setattr_u ?hz ?hj0 ?hj1 ?hj ?hrc ?hrw ?hch ?h1 ?h2 ?h3 ?h4 ?h4r ?tbS ?_; (case tbS => tb_start); (case h1 | h2 | hrw => k_mem); (case hj => first | with_reducible assumption | rfl); (case h3 | h4 => k_mem); (case h4r => with_reducible assumption); (case hch => k_mem); (case hrc => k_ne); (case hj0 => first | with_reducible assumption | decide); (case hj1 | hz => wtm_at "w")); intro rr9 dr9 c19 c29 c39 od9 t9 k9 nr9 nc9 h9 tk9 ek9 row9 F9 lA9 l19 l29 l39 l49 hN9; (have N9 := hN9 _ _ (by k_upd) (by k_upd)); clear hN9; (try simp at ek9); subst ek9; (try k_lt lA9); wtm_at "s"))
local macro_rules | `(tactic| walk_at "call ref") => `(tactic| (tbr_iter 206; k_dflt (refine' addns_u ?hz ?hj0 ?hj1 ?hj ?hrc ?hrw ?hch ?h1 ?h2 ?h3 ?h4 ?h4r ?tbS ?_; (case tbS => tb_start); (case h1 | h2 | hrw => k_mem); (case hj => first | with_reducible assumption | rfl); (case h3 | h4 => k_mem); (case h4r => with_reducible assumption); (case hch => k_mem); (case hrc => k_ne); (case hj0 => first | with_reducible assumption | decide); (case hj1 | hz => wtm_at "w")); intro rr9 dr9 c19 c29 c39 od9 t9 k9 nr9 nc9 h9 tk9 ek9 row9 F9 lA9 l19 l29 l39 l49 hN9; (have N9 := hN9 _ _ (by k_upd) (by k_upd)); clear hN9; (try simp at ek9); subst ek9; (try k_lt lA9); wtm_at "s"))
section SModIs
theorem isnl_e {tr dT rw t na rr dr : Addr} {vs : List Value} {nr n1 : Nat} {q0 tj k1 k2 k3 : Tok} {od : Obj} {v1 v2 v3 v4 v5 : Value} (hl : vs.length = 3) (hj : vs[(2 : Int).toNat]? = some (.ref rr)) (h1 : (tr, instObj 300 dT) ∈ news) (h2 : (dT, dictOf [⟨PyData.keyHash w.params "rows", .str "rows" q0, .ref rw⟩] 1) ∈ news) (hrw : (rw, listOf vs.toArray nr) ∈ news)
   (h3 : (rr, instObj 111 dr) ∈ news) (h4 : (dr, od) ∈ news) (h4r : IsRow w od "namespace" "a" "" "a" v1 v2 v3 v4 v5) (ht : (t, ({ cls := .type "tuple", data := .seq #[.str "name" k1, .str "" k2, .str "a" k3] n1 } : Obj)) ∈ news)
   (C : Site w p loose mean mg mb A₀ base outer h₀ L m news s.heap cs dp un 10 200)
   (hret : ∀ (h' : Heap) (tk' : Nat), Fr h₀ L h' m → News h₀ L h' news → Q (.bool true) { s with heap := h', toks := tk' }) :
   wpAny (model PR w) (ktrTop dp un gd cn cs L a ccd cl outer) (call (.ref 86) [.ref tr, .int 2 tj, .ref t, .ref na]) Q E s := by
  obtain ⟨q1, q2, q3, q4, q5, q6, q7, q8, q9, q10, q11, q12, q13, rfl⟩ := h4r
  unfold rowO at h4
  obtain ⟨B, F, X, N, T, hk, hd, hu⟩ := C
  w_on
  w_strict (refine wpAny_call ?_; k_dflt cell_enter; k_steps; all_goals (exact hret _ _ (by assumption) (cb_drop (by assumption) (by intro p hp; k_mem))))
theorem isnl_p {tr dT rw t na rr dr : Addr} {vs : List Value} {nr n1 : Nat} {q0 tj k1 k2 k3 : Tok} {od : Obj} {v1 v2 v3 v4 v5 : Value} {on : Obj} {kvs : List (Str × Value)} (hl : vs.length = 3) (hj : vs[(2 : Int).toNat]? = some (.ref rr)) (h1 : (tr, instObj 300 dT) ∈ news) (h2 : (dT, dictOf [⟨PyData.keyHash w.params "rows", .str "rows" q0, .ref rw⟩] 1) ∈ news) (hrw : (rw, listOf vs.toArray nr) ∈ news)
   (h3 : (rr, instObj 111 dr) ∈ news) (h4 : (dr, od) ∈ news) (h4r : IsRow w od "namespace" "a" "" "a" v1 v2 v3 v4 v5) (ht : (t, ({ cls := .type "tuple", data := .seq #[.str "name" k1, .str "p" k2, .str "a" k3] n1 } : Obj)) ∈ news) (hn : (na, on) ∈ news) (hno : on.IsDictOf (strKind PR w) kvs) (hnf : PyProof.V.FlatPairs PyData.str kvs [(.str "p", .str "u:1")]) (hnl : (na == sysModules) = false)
   (C : Site w p loose mean mg mb A₀ base outer h₀ L m news s.heap cs dp un 10 200)
   (hret : ∀ (h' : Heap) (tk' : Nat), Fr h₀ L h' m → News h₀ L h' news → Q (.bool false) { s with heap := h', toks := tk' }) :
   wpAny (model PR w) (ktrTop dp un gd cn cs L a ccd cl outer) (call (.ref 86) [.ref tr, .int 2 tj, .ref t, .ref na]) Q E s := by
  obtain ⟨q1, q2, q3, q4, q5, q6, q7, q8, q9, q10, q11, q12, q13, rfl⟩ := h4r
  unfold rowO at h4
  obtain ⟨B, F, X, N, T, hk, hd, hu⟩ := C
  w_on
  w_strict (refine wpAny_call ?_; k_dflt cell_enter; k_steps; all_goals (exact hret _ _ (by assumption) (cb_drop (by assumption) (by intro p hp; k_mem))))
end SModIs
section SModM


local macro_rules | `(tactic| walk_at "newTuple") => `(tactic| (k_here; k_dflt (refine' kup_newTuple ?F ?N ?_ ?z; (case F | N => k_asm); (case z => kmk_size)); intro D' h' F' N' l1; (try k_lt l1); (try k_sweep)))
local macro_rules | `(tactic| walk_at "setItem ref int") => `(tactic| (k_here; (with_reducible show wpAny _ _ (setItem (Value.ref _) (Value.int _ _) (Value.ref _)) _ _ _); k_dflt (refine' book_store ?F ?N ?U ?hd ?hz ?hk ?_; (case F | N => k_asm); (case U => k_updF); (case hd | hz | hk => with_reducible assumption)); intro h' o' F' N' hd'; (try dsimp only at N'); (try k_sweep)))
theorem built_c {src : Addr} {x y : Int} {tx ty : Tok} {k : Nat} {rest : List (Addr × Obj)} (hx : 0 ≤ x) (hy : 0 ≤ y) (hy' : y < 2147483647) (hs : ∀ q ∈ rest, q.1 ≠ src)
   (C : Site w p loose mean mg mb A₀ base outer h₀ L m ((src, listOf #[.int x tx, .int y ty] k) :: rest) s.heap cs dp un 40 500)
   (hret : ∀ (tr rw ch bk tp d0 : Addr) (n : Nat) (x y : Int) (tx ty : Tok) (k nr nc n1 : Nat) (vs cv : List Value) (ob : Obj) (kvs : List (Int × Value)) (ext : List (Addr × Obj)) (h' : Heap) (tk' : Nat), n ≤ 3 → BInv w src tr rw ch bk n x y vs cv kvs ob ext → (∀ q ∈ ext, @LE.le Nat _ d0 q.1) → Keep4 src rw ch bk d0 rest → Fr h₀ L h' m →
      News h₀ L h' ((tp, ({ cls := .type "tuple", data := .seq #[.ref tr, .ref bk] n1 } : Obj)) :: (src, listOf #[.int x tx, .int y ty] k) :: (rw, listOf vs.toArray nr) :: (ch, listOf cv.toArray nc) :: (bk, ob) :: (ext ++ rest)) → Q (.ref tp) { s with heap := h', toks := tk' }) :
   wpAny (model PR w) (ktrTop dp un gd cn cs L a ccd cl outer) (call (.ref 332) [.ref src]) Q E s := by
  obtain ⟨B, F, X, N, T, hk, hd, hu⟩ := C
  w_on
  w_strict (refine wpAny_call ?_; k_dflt cell_enter; k_steps; (with_reducible refine hold_outB ?_); (refine' start_use (src := src) (rest := rest) ?sF ?shtr ?shbm ?sN ?shlr ?shsrc ?shrest ?sm1 ?sm2 ?shrw ?shvs ?sg1 ?sm3 ?sm4 ?shr1 ?shch ?shbk ?shob ?shbl ?sn1 ?sg2 ?sm5 ?sm6 ?shr2 ?sn2 ?sg3 ?sm7 ?sm8 ?shr3 ?sn3 ?shx ?shy ?shyp ?so1 ?so2 ?so3 ?sc2 ?sc3 ?sh0 ?sh1 ?sh2 ?sh3 ?sq1 ?sq2 ?sq3 ?st1 ?st2 ?st3 ?st4 ?st5 ?st6 ?st7 ?st8 ?st9 ?st10 ?st11 ?_); (case sF => k_asm); (case sN => k_asm); (case shtr => rfl); (case shbm => rfl); (case shlr => with_reducible assumption); (case shsrc => k_mem); (case sm1 => k_mem); (case sm2 => k_mem); (case shrw => k_mem); (case shrest => (intro q9 hq9; k_mem)); (case shvs => rfl); (case sg1 => rfl); (case sm3 => k_mem); (case sm4 => k_mem); (case shr1 => with_reducible assumption); (case shch => k_mem); (case shbk => k_mem); (case shob => assumption); (case shbl => assumption); (case sn1 => k_mem); (case sg2 => rfl); (case sm5 => k_mem); (case sm6 => k_mem); (case shr2 => with_reducible assumption); (case sn2 => k_mem); (case sg3 => rfl); (case sm7 => k_mem); (case sm8 => k_mem); (case shr3 => with_reducible assumption); (case sn3 => k_mem); (case shx => with_reducible assumption); (case shy => with_reducible assumption); (case shyp => with_reducible assumption); (case so1 => exact ⟨by decide +kernel, by decide +kernel, by decide +kernel⟩); (case so2 => refine ⟨?_, ?_, ?_, ?_⟩ <;> (first | (decide +kernel) | exact ok_mem (by with_reducible assumption) (by decide +kernel) | exact ok_app (by decide +kernel) (ok_mem (by with_reducible assumption) (by decide +kernel)))); (case so3 => refine ⟨?_, ?_, ?_, ?_⟩ <;> (first | (decide +kernel) | exact ok_mem (by with_reducible assumption) (by decide +kernel) | exact ok_app (by decide +kernel) (ok_mem (by with_reducible assumption) (by decide +kernel)))); (case sc2 => decide); (case sc3 => decide); (case sh0 => (try dsimp only); (first | kat_kindO | omega)); (case sh1 => (try dsimp only); (first | exact Nat.le_refl _ | exact Nat.le_of_lt (by kat_kindO) | omega)); (case sh2 => (try dsimp only); (first | exact Nat.le_refl _ | exact Nat.le_of_lt (by kat_kindO) | omega)); (case sh3 => (try dsimp only); (first | exact Nat.le_refl _ | exact Nat.le_of_lt (by kat_kindO) | omega)); (case sq1 => (try dsimp only); (first | with_reducible exact ne_gt (by kat_kindO) | with_reducible exact ne_lt (by kat_kindO) | omega)); (case sq2 => (try dsimp only); (first | with_reducible exact ne_gt (by kat_kindO) | with_reducible exact ne_lt (by kat_kindO) | omega)); (case sq3 => (try dsimp only); (first | with_reducible exact ne_gt (by kat_kindO) | with_reducible exact ne_lt (by kat_kindO) | omega)); (case st1 => (try dsimp only); (refine ⟨?_, ?_, ?_, ?_⟩; (first | exact Nat.le_refl _ | exact Nat.le_of_lt (by kat_kindO) | omega); (first | with_reducible exact ne_gt (by kat_kindO) | with_reducible exact ne_lt (by kat_kindO) | omega); (first | with_reducible exact ne_gt (by kat_kindO) | with_reducible exact ne_lt (by kat_kindO) | omega); (first | with_reducible exact ne_gt (by kat_kindO) | with_reducible exact ne_lt (by kat_kindO) | omega))); (case st2 => (try dsimp only); (refine ⟨?_, ?_, ?_, ?_⟩; (first | exact Nat.le_refl _ | exact Nat.le_of_lt (by kat_kindO) | omega); (first | with_reducible exact ne_gt (by kat_kindO) | with_reducible exact ne_lt (by kat_kindO) | omega); (first | with_reducible exact ne_gt (by kat_kindO) | with_reducible exact ne_lt (by kat_kindO) | omega); (first | with_reducible exact ne_gt (by kat_kindO) | with_reducible exact ne_lt (by kat_kindO) | omega))); (case st3 => (try dsimp only); (refine ⟨?_, ?_, ?_, ?_⟩; (first | exact Nat.le_refl _ | exact Nat.le_of_lt (by kat_kindO) | omega); (first | with_reducible exact ne_gt (by kat_kindO) | with_reducible exact ne_lt (by kat_kindO) | omega); (first | with_reducible exact ne_gt (by kat_kindO) | with_reducible exact ne_lt (by kat_kindO) | omega); (first | with_reducible exact ne_gt (by kat_kindO) | with_reducible exact ne_lt (by kat_kindO) | omega))); (case st4 => (try dsimp only); (refine ⟨?_, ?_, ?_, ?_⟩; (first | exact Nat.le_refl _ | exact Nat.le_of_lt (by kat_kindO) | omega); (first | with_reducible exact ne_gt (by kat_kindO) | with_reducible exact ne_lt (by kat_kindO) | omega); (first | with_reducible exact ne_gt (by kat_kindO) | with_reducible exact ne_lt (by kat_kindO) | omega); (first | with_reducible exact ne_gt (by kat_kindO) | with_reducible exact ne_lt (by kat_kindO) | omega))); (case st5 => (try dsimp only); (refine ⟨?_, ?_, ?_, ?_⟩; (first | exact Nat.le_refl _ | exact Nat.le_of_lt (by kat_kindO) | omega); (first | with_reducible exact ne_gt (by kat_kindO) | with_reducible exact ne_lt (by kat_kindO) | omega); (first | with_reducible exact ne_gt (by kat_kindO) | with_reducible exact ne_lt (by kat_kindO) | omega); (first | with_reducible exact ne_gt (by kat_kindO) | with_reducible exact ne_lt (by kat_kindO) | omega))); (case st6 => (try dsimp only); (refine ⟨?_, ?_, ?_, ?_⟩; (first | exact Nat.le_refl _ | exact Nat.le_of_lt (by kat_kindO) | omega); (first | with_reducible exact ne_gt (by kat_kindO) | with_reducible exact ne_lt (by kat_kindO) | omega); (first | with_reducible exact ne_gt (by kat_kindO) | with_reducible exact ne_lt (by kat_kindO) | omega); (first | with_reducible exact ne_gt (by kat_kindO) | with_reducible exact ne_lt (by kat_kindO) | omega))); (case st7 => (try dsimp only); (refine ⟨?_, ?_, ?_, ?_⟩; (first | exact Nat.le_refl _ | exact Nat.le_of_lt (by kat_kindO) | omega); (first | with_reducible exact ne_gt (by kat_kindO) | with_reducible exact ne_lt (by kat_kindO) | omega); (first | with_reducible exact ne_gt (by kat_kindO) | with_reducible exact ne_lt (by kat_kindO) | omega); (first | with_reducible exact ne_gt (by kat_kindO) | with_reducible exact ne_lt (by kat_kindO) | omega))); (case st8 => (try dsimp only); (refine ⟨?_, ?_, ?_, ?_⟩; (first | exact Nat.le_refl _ | exact Nat.le_of_lt (by kat_kindO) | omega); (first | with_reducible exact ne_gt (by kat_kindO) | with_reducible exact ne_lt (by kat_kindO) | omega); (first | with_reducible exact ne_gt (by kat_kindO) | with_reducible exact ne_lt (by kat_kindO) | omega); (first | with_reducible exact ne_gt (by kat_kindO) | with_reducible exact ne_lt (by kat_kindO) | omega))); (case st9 => (try dsimp only); (refine ⟨?_, ?_, ?_, ?_⟩; (first | exact Nat.le_refl _ | exact Nat.le_of_lt (by kat_kindO) | omega); (first | with_reducible exact ne_gt (by kat_kindO) | with_reducible exact ne_lt (by kat_kindO) | omega); (first | with_reducible exact ne_gt (by kat_kindO) | with_reducible exact ne_lt (by kat_kindO) | omega); (first | with_reducible exact ne_gt (by kat_kindO) | with_reducible exact ne_lt (by kat_kindO) | omega))); (case st10 => (try dsimp only); (refine ⟨?_, ?_, ?_, ?_⟩; (first | exact Nat.le_refl _ | exact Nat.le_of_lt (by kat_kindO) | omega); (first | with_reducible exact ne_gt (by kat_kindO) | with_reducible exact ne_lt (by kat_kindO) | omega); (first | with_reducible exact ne_gt (by kat_kindO) | with_reducible exact ne_lt (by kat_kindO) | omega); (first | with_reducible exact ne_gt (by kat_kindO) | with_reducible exact ne_lt (by kat_kindO) | omega))); (case st11 => (try dsimp only); (refine ⟨?_, ?_, ?_, ?_⟩; (first | exact Nat.le_refl _ | exact Nat.le_of_lt (by kat_kindO) | omega); (first | with_reducible exact ne_gt (by kat_kindO) | with_reducible exact ne_lt (by kat_kindO) | omega); (first | with_reducible exact ne_gt (by kat_kindO) | with_reducible exact ne_lt (by kat_kindO) | omega); (first | with_reducible exact ne_gt (by kat_kindO) | with_reducible exact ne_lt (by kat_kindO) | omega))); intro nx9 NX9 J9; (have K9 := keep4 J9 (by (first | exact Nat.le_refl _ | exact Nat.le_of_lt (by kat_kindO) | omega)) (by (first | exact Nat.le_refl _ | exact Nat.le_of_lt (by kat_kindO) | omega)) (by (first | exact Nat.le_refl _ | exact Nat.le_of_lt (by kat_kindO) | omega)) (by (first | kat_kindO | omega)) (by with_reducible assumption) hs); (have HD9 : Room2 _ _ _ _ := ⟨hd, hu⟩); (repeat (with_reducible rename (@LT.lt Nat _ _ _) => z9; clear z9)); (have hd9 := HD9.hd); (have hu9 := HD9.hu); clear HD9; (repeat (with_reducible rename (_ ∧ _) => z9; clear z9)); (repeat (with_reducible rename (Obj.IsDictOf _ _ _) => z9; clear z9)); (refine' range_loop (J := LoopJ _ _ _ _ _ _ _ _ _) ?hh ?hr ?hs ?hz ?F ?N J9 ?turn ?done); (case hh => rfl); (case hr => assumption); (case hs => exact small_one (by omega) (by omega) (by omega) (by omega)); (case hz => exact rangeSize_nat _ _); (case F => k_asm); (case N => exact NX9); (case done => intro m9 nx8 h9 tk9 hJ9 F9 N9; clear NX9 J9; (try dsimp only at F9 N9); (refine' done_open hJ9 F9 N9 ?mt ?mb ?_; (case mt => rfl); (case mb => rfl); clear hJ9 F9 N9; intro x9 y9 tx9 ty9 k9 vs9 nr9 cv9 nc9 ob9 kvs9 ext9 I9 hd9' F9 N9); (try k_fold); k_steps; all_goals (k_dflt (refine' hret _ _ _ _ _ _ _ _ _ _ _ _ _ _ _ _ _ _ _ _ _ _ ?n ?I ?hd ?K ?F ?N; (case I => exact I9); (case hd => exact hd9'); (case K => exact K9); (case n => omega); (case F => k_asm); (case N => k_asm))); all_goals w_report); (case turn => intro i9 t9 m9 nx8 h9 tk9 own9 hi9 ho9 hJ9 F9 N9; (have hi3 : i9 < 3 := by omega); clear NX9 J9; (try dsimp only at F9 N9); (refine' loop_open hJ9 hi3 F9 N9 ho9 K9.hs K9.hl K9.h1 K9.h2 K9.h3 ?ms ?mt ?mb ?mp ?_; (case ms => rfl); (case mt => rfl); (case mb => rfl); (case mp => rfl); clear hJ9 F9 N9 ho9; intro x9 y9 tx9 ty9 k9 vs9 nr9 cv9 nc9 ob9 kvs9 ext9 tl9 dT9 q09 pr9 dpp9 pn9 pu9 pl9 od9 w19 w29 w49 w59 etl9 enx9 I9 hd9' ho9 hm9 as9 ar9 ac9 ab9 hx9 hy9 hz9 hv9 hc9 h19 hk9 hkn9 hob9 hbl9 n19 n29 n39 n49 n59 n69 m19 m29 m39 m49 row9 g9 F9 N9); (try k_fold); k_steps; all_goals ((refine' loop_close K9 etl9 enx9 I9 hd9' ho9 ?F ?N ?hm ?hob ?k1 ?k2 ?k3 ?k4 ?k5 ?k6 ?k7 ?krow ?ktl ?hkd ?hx ?hy ?hyy ?okk ?oku ?okl ?okn ?hin ?b1 ?b2 ?b3 ?bt); (case F => k_asm); (case N => k_asm); (case hm => ((repeat (first | (with_reducible refine same_set (by decide) ?_) | (with_reducible refine same_known rfl ?_))); exact hm9)); (case hob => with_reducible assumption); (case k1 => k_mem); (case k2 => k_mem); (case k3 => k_mem); (case k4 => k_mem); (case k5 => k_mem); (case k6 => k_mem); (case k7 => k_mem); (case krow => with_reducible assumption); (case ktl => (intro q9 hq9; k_mem)); (case hkd => first | (with_reducible rfl) | exact eq_of_beq (by with_reducible assumption) | exact kd4 (by with_reducible assumption) (by with_reducible assumption) (by with_reducible assumption) (by with_reducible assumption)); (case hx => with_reducible assumption); (case hy => with_reducible assumption); (case hyy => with_reducible assumption); (case okk => decide +kernel); (case oku => (first | (decide +kernel) | exact ok_mem (by with_reducible assumption) (by decide +kernel) | exact ok_app (by decide +kernel) (ok_mem (by with_reducible assumption) (by decide +kernel)))); (case okl => (first | (decide +kernel) | exact ok_mem (by with_reducible assumption) (by decide +kernel) | exact ok_app (by decide +kernel) (ok_mem (by with_reducible assumption) (by decide +kernel)))); (case okn => (first | (decide +kernel) | exact ok_mem (by with_reducible assumption) (by decide +kernel) | exact ok_app (by decide +kernel) (ok_mem (by with_reducible assumption) (by decide +kernel)))); (case hin => first | exact fun _ => rfl | exact fun e => absurd e (by decide)); (case b1 => (refine ⟨?_, ?_, ?_, ?_⟩ <;> (first | kat_kindO | omega))); (case b2 => (first | kat_kindO | omega)); (case b3 => (first | kat_kindO | omega)); (case bt => ((repeat (with_reducible rename (_ ∧ _) => z8; obtain ⟨_, z9⟩ := z8)); exact tb_ltOf (by with_reducible assumption)))); all_goals w_report))
end SModM
section SModP
theorem great_nonneg (c : Int) : 0 ≤ (if (-1 - c) > c then (-1 - c) else c) := by split <;> omega
theorem bit_nonneg (b : Bool) : (0 : Int) ≤ (if b = true then 1 else 0) := by cases b <;> decide
theorem pool_c {l : Addr} {vs : List Value} {ns : List Int} {t : Tok} (hL : base.IsList l vs.toArray) (hI : IntsAre vs ns) (hn : ns.length ≤ 63) (C : Site w p loose mean mg mb A₀ base outer h₀ L m news s.heap cs dp un 10 200)
   (hret : ∀ (D : Addr) (x y : Int) (tx ty : Tok) (k : Nat) (h' : Heap) (tk' : Nat), 0 ≤ x → 0 ≤ y → y < 2147483647 → (∀ q ∈ news, q.1 < D) → Fr h₀ L h' m → News h₀ L h' ((D, listOf #[.int x tx, .int y ty] k) :: news) → Q (.ref D) { s with heap := h', toks := tk' }) :
   wpAny (model PR w) (ktrTop dp un gd cn cs L a ccd cl outer) (call (.ref 311) [.ref l, .int 0 t]) Q E s := by
  obtain ⟨B, F, X, N, T, hk, hd, hu⟩ := C
  w_on
  w_strict (refine wpAny_call ?_; k_dflt cell_enter; k_steps; all_goals ((refine' hret _ _ _ _ _ _ _ _ ?zx ?zy ?zyy ?zl ?zF ?zN); (case zN => assumption); (case zF => assumption); (case zl => assumption); (case zx => first | exact Int.mul_nonneg (great_nonneg _) (bit_nonneg _) | (exact Int.mul_nonneg (by decide) (by decide))); (case zy => exact fmod_lo _ (by decide)); (case zyy => exact fmod_hi _ (by decide))))
end SModP
section SModQ
theorem hold_box {P : Prop} (h : P) : Hold P := h
theorem map_set {x : Str} {v : Option Value} {m : Str → Option Value} (h : m x = v) : m = (fun y : Str => if y = x then v else m y) := by
  funext y
  by_cases e : y = x
  · rw [if_pos e, e, h]
  · rw [if_neg e]
theorem law_open {g h : Heap} {x : Str} {v : Value} {m : Str → Option Value} {P : Prop} (F : Fr g L h m) (hm : m x = some v) (kk : ∀ m' : Str → Option Value, Fr g L h (fun y => if y = x then some v else m' y) → P) : P := kk m ((map_set hm) ▸ F)
theorem kts_nilF {g g' h : Heap} {m : Str → Option Value} (T : KtsTurn [] g g') (F : Fr g' L h m) : Fr g L h m := ⟨F.ns, fun b o e => F.keep b o (T.other b o e (fun q => nomatch q)), by rw [← T.size]; exact F.above⟩
theorem kts_nilN {g g' h : Heap} {l : List (Addr × Obj)} (T : KtsTurn [] g g') (N : News g' L h l) : News g L h l := fun p hp => ⟨(N p hp).1, (N p hp).2.1, by
  cases e : g.get? p.1 with
  | none => rfl
  | some o =>
    have := T.other _ _ e (fun q => nomatch q)
    rw [(N p hp).2.2] at this
    cases this⟩
theorem TreeBook.grow {tr bk : Addr} {ob : Obj} {kvs : List (Int × Value)} {vs : List Value} {rest rest' fz fz' : List (Addr × Obj)} (T : TreeBook w tr bk ob kvs vs rest fz) (h1 : ∀ q ∈ rest, q ∈ rest') (h2 : ∀ q ∈ fz, q ∈ fz') : TreeBook w tr bk ob kvs vs rest' fz' where
  hbk := h1 _ T.hbk
  hbd := T.hbd
  hbl := T.hbl
  hb1 := T.hb1
  hb2 := T.hb2
  tree := fun b hb => T.tree b fun q hq => hb q (h2 q hq)
  rows := fun q hq => by
    obtain ⟨ra, kd, ur, lc, nm, t1, t2, t3, t4, n1, e, hm, hr, r⟩ := T.rows q hq
    exact ⟨ra, kd, ur, lc, nm, t1, t2, t3, t4, n1, e, h1 _ hm, fun b hb => hr b fun q hq => hb q (h2 q hq), r⟩
theorem turn_led {src tr bk : Addr} {x y : Int} {tx ty : Tok} {k : Nat} {ps : Array Value} {ob : Obj} {kvs : List (Int × Value)} {vs : List Value} {rest fz own : List (Addr × Obj)}
   (XB : (hd.heap_1 w.params).In base) (TB : Top p loose mean mg mb base) (CH : CodeHd base 373 369)
   (hx : 0 ≤ x) (hy : 0 ≤ y) (hy' : y < 2147483647) (hs : ∀ q ∈ rest, q.1 ≠ src) (h3 : ∀ q ∈ rest, q.1 ≠ 369) (hsp : @Ne Nat src 369)
   (hz : ∀ q ∈ fz ++ own, ∀ r ∈ (src, listOf #[.int x tx, .int y ty] k) :: (369, tabObj ps) :: rest, q.1 ≠ r.1) (hok : TabOK qLam ps rest) (TBK : TreeBook w tr bk ob kvs vs rest fz)
   (m1 : (src, listOf #[.int x tx, .int y ty] k) ∈ news) (m2 : (369, tabObj ps) ∈ news) (mr : ∀ q ∈ rest, q ∈ news) (mf : ∀ q ∈ fz ++ own, q ∈ news)
   (C : Site w p loose mean mg mb A₀ base [] h₀ L m news s.heap cs dp un 60 700)
   (hret : ∀ (x' y' : Int) (tx' ty' : Tok) (k' : Nat) (ps' : Array Value) (rest' : List (Addr × Obj)) (h' : Heap) (tk' : Nat), 0 ≤ x' → 0 ≤ y' → y' < 2147483647 → (∀ q ∈ rest, q ∈ rest') → (∀ q ∈ rest', q.1 ≠ src) → (∀ q ∈ rest', q.1 ≠ 369) →
      (∀ q ∈ fz ++ own, ∀ r ∈ (src, listOf #[.int x' tx', .int y' ty'] k') :: (369, tabObj ps') :: rest', q.1 ≠ r.1) → TabOK qLam ps' rest' → TreeBook w tr bk ob kvs vs rest' fz → Fr h₀ L h' m →
      News h₀ L h' ((src, listOf #[.int x' tx', .int y' ty'] k') :: (369, tabObj ps') :: (rest' ++ (fz ++ own))) → Q (.bool true) { s with heap := h', toks := tk' }) :
   wpAny (model PR w) (ktrTop dp un gd cn cs L a ccd cl []) (call (.ref 374) [.ref src, .ref tr, .ref bk]) Q E s :=
  turn_c (t1 := tx) (t2 := tx) (t3 := tx) XB TB (fun b hb => nomatch hb) CH hx hy hy' hs h3 hsp (fun q hq => C.N q (mf q hq)) hz hok (TBK.grow (fun _ h => h) fun q hq => List.mem_append_left _ hq)
    ⟨C.B, C.F, C.X, fun q hq => by
      rcases List.mem_cons.mp hq with rfl | hq
      · exact C.N _ m1
      · rcases List.mem_cons.mp hq with rfl | hq
        · exact C.N _ m2
        · exact C.N q (mr q hq), C.T, C.hk, C.hd, C.hu⟩
    fun x' y' tx' ty' k' ps' rest' h' tk' h₀' z1 z2 z3 z4 z5 z6 z7 z8 T F N NZ B => hret x' y' tx' ty' k' ps' rest' h' tk' z1 z2 z3 z4 z5 z6 z7 z8 (TBK.grow z4 fun _ h => h) (kts_nilF T F) fun q hq => by
      rcases List.mem_cons.mp hq with rfl | hq
      · exact kts_nilN T N _ (.head _)
      · rcases List.mem_cons.mp hq with rfl | hq
        · exact kts_nilN T N _ (.tail _ (.head _))
        · rcases List.mem_append.mp hq with hq | hq
          · exact kts_nilN T N q (.tail _ (.tail _ hq))
          · exact kts_nilN T NZ q hq
def LawJ (w : World) (src tr bk : Addr) (ob : Obj) (kvs : List (Int × Value)) (vs : List Value) (c1 : Addr) (oc : Obj) (fz : List (Addr × Obj)) (m₀ : Str → Option Value) (i : Nat) (m : Str → Option Value) (nx : List (Addr × Obj)) : Prop :=
  (∀ z : Str, z ≠ "turn" → m z = m₀ z) ∧ ∃ (x y : Int) (tx ty : Tok) (k : Nat) (ps : Array Value) (rest : List (Addr × Obj)), nx = (src, listOf #[.int x tx, .int y ty] k) :: (369, tabObj ps) :: (rest ++ fz) ∧ 0 ≤ x ∧ 0 ≤ y ∧ y < 2147483647 ∧ (∀ q ∈ rest, q.1 ≠ src) ∧ (∀ q ∈ rest, q.1 ≠ 369) ∧
    (∀ q ∈ fz, ∀ r ∈ (src, listOf #[.int x tx, .int y ty] k) :: (369, tabObj ps) :: rest, q.1 ≠ r.1) ∧ TabOK qLam ps rest ∧ TreeBook w tr bk ob kvs vs rest fz ∧ (c1, oc) ∈ rest
theorem lawj_open {P : Prop} {src tr bk c1 : Addr} {ob oc : Obj} {kvs : List (Int × Value)} {vs : List Value} {fz own nx : List (Addr × Obj)} {m₀ m : Str → Option Value} {i : Nat} {g h : Heap} {v : Value}
   (J : LawJ w src tr bk ob kvs vs c1 oc fz m₀ i m nx) (F : Fr g L h (fun y => if y = "turn" then some v else m y)) (N : News g L h (nx ++ own)) (O : OwnOff own (nx.map (·.1))) (ms : m₀ "source" = some (.ref src)) (mb : m₀ "book" = some (.ref bk))
   (kk : ∀ (x y : Int) (tx ty : Tok) (k : Nat) (ps : Array Value) (rest tl : List (Addr × Obj)), nx = (src, listOf #[.int x tx, .int y ty] k) :: (369, tabObj ps) :: (rest ++ fz) → tl = (rest ++ fz) ++ own → OwnOff own (nx.map (·.1)) → (∀ z : Str, z ≠ "turn" → m z = m₀ z) → 0 ≤ x → 0 ≤ y → y < 2147483647 → (∀ q ∈ rest, q.1 ≠ src) → (∀ q ∈ rest, q.1 ≠ 369) →
      (∀ q ∈ fz ++ own, ∀ r ∈ (src, listOf #[.int x tx, .int y ty] k) :: (369, tabObj ps) :: rest, q.1 ≠ r.1) → TabOK qLam ps rest → TreeBook w tr bk ob kvs vs rest fz → (∀ q ∈ rest, q ∈ tl) → (∀ q ∈ fz ++ own, q ∈ tl) → (c1, oc) ∈ tl → (c1, oc) ∈ rest →
      Fr g L h (fun y => if y = "turn" then some v else if y = "source" then some (.ref src) else if y = "book" then some (.ref bk) else m y) → News g L h ((src, listOf #[.int x tx, .int y ty] k) :: (369, tabObj ps) :: tl) → P) : P := by
  obtain ⟨hm, x, y, tx, ty, k, ps, rest, e, hx, hy, hy', hs, h3, hz, hok, TBK, hc⟩ := J
  have eF : (fun y : Str => if y = "turn" then some v else m y) = (fun y : Str => if y = "turn" then some v else if y = "source" then some (.ref src) else if y = "book" then some (.ref bk) else m y) := by
    funext y
    by_cases e0 : y = "turn"
    · rw [if_pos e0, if_pos e0]
    · rw [if_neg e0, if_neg e0]
      by_cases e1 : y = "source"
      · rw [if_pos e1, e1, hm _ (by decide), ms]
      · rw [if_neg e1]
        by_cases e2 : y = "book"
        · rw [if_pos e2, e2, hm _ (by decide), mb]
        · rw [if_neg e2]
  refine kk x y tx ty k ps rest _ e rfl O hm hx hy hy' hs h3 (fun q hq r hr => ?_) hok TBK (fun q hq => List.mem_append_left _ (List.mem_append_left _ hq)) (fun q hq => ?_) (List.mem_append_left _ (List.mem_append_left _ hc)) hc (by rw [← eF]; exact F) ?_
  · rcases List.mem_append.mp hq with hq | hq
    · exact hz q hq r hr
    · refine O q hq r.1 ?_
      rw [e]
      rcases List.mem_cons.mp hr with rfl | hr
      · exact .head _
      · rcases List.mem_cons.mp hr with rfl | hr
        · exact .tail _ (.head _)
        · exact .tail _ (.tail _ (List.mem_map_of_mem (List.mem_append_left _ hr)))
  · rcases List.mem_append.mp hq with hq | hq
    · exact List.mem_append_left _ (List.mem_append_right _ hq)
    · exact List.mem_append_right _ hq
  · subst e
    simpa using N
theorem lawj_close {src tr bk c1 : Addr} {ob oc : Obj} {kvs : List (Int × Value)} {vs : List Value} {fz own nx rest rest' : List (Addr × Obj)} {m₀ m' : Str → Option Value} {i k k' : Nat} {g h' : Heap} {s₁ : Shared} {tk' : Nat} {x y x' y' : Int} {tx ty tx' ty' : Tok} {ps ps' : Array Value}
   (enx : nx = (src, listOf #[.int x tx, .int y ty] k) :: (369, tabObj ps) :: (rest ++ fz)) (O : OwnOff own (nx.map (·.1))) (hm : ∀ z : Str, z ≠ "turn" → m' z = m₀ z) (hc : (c1, oc) ∈ rest) (hx : 0 ≤ x') (hy : 0 ≤ y') (hy' : y' < 2147483647) (hsub : ∀ q ∈ rest, q ∈ rest') (hs : ∀ q ∈ rest', q.1 ≠ src) (h3 : ∀ q ∈ rest', q.1 ≠ 369)
   (hz : ∀ q ∈ fz ++ own, ∀ r ∈ (src, listOf #[.int x' tx', .int y' ty'] k') :: (369, tabObj ps') :: rest', q.1 ≠ r.1) (hok : TabOK qLam ps' rest') (TBK : TreeBook w tr bk ob kvs vs rest' fz) (F : Fr g L h' m') (N : News g L h' ((src, listOf #[.int x' tx', .int y' ty'] k') :: (369, tabObj ps') :: (rest' ++ (fz ++ own)))) :
   InvEndG g L (LawJ w src tr bk ob kvs vs c1 oc fz m₀ (i + 1)) own s₁ { s₁ with heap := h', toks := tk' } := by
  subst enx
  refine InvEndG.intro (nx := (src, listOf #[.int x' tx', .int y' ty'] k') :: (369, tabObj ps') :: (rest' ++ fz)) F N ⟨hm, x', y', tx', ty', k', ps', rest', rfl, hx, hy, hy', hs, h3, fun q hq => hz q (List.mem_append_left _ hq), hok, TBK, hsub _ hc⟩ ?_ ?_ ?_
  · intro q hq b hb
    have z := hz q (List.mem_append_right _ hq)
    simp only [List.map_cons] at hb
    rcases List.mem_cons.mp hb with rfl | hb
    · exact z _ (.head _)
    · rcases List.mem_cons.mp hb with rfl | hb
      · exact z _ (.tail _ (.head _))
      · rw [List.map_append] at hb
        rcases List.mem_append.mp hb with hb | hb
        · obtain ⟨r, hr, rfl⟩ := List.mem_map.mp hb
          exact z r (.tail _ (.tail _ hr))
        · refine O q hq b ?_
          simp only [List.map_cons, List.map_append]
          exact .tail _ (.tail _ (List.mem_append_right _ hb))
  · intro p hp
    rcases List.mem_cons.mp hp with rfl | hp
    · exact .head _
    · rcases List.mem_cons.mp hp with rfl | hp
      · exact .tail _ (.head _)
      · rcases List.mem_append.mp hp with hp | hp
        · exact .tail _ (.tail _ (List.mem_append_left _ hp))
        · exact .tail _ (.tail _ (List.mem_append_right _ (List.mem_append_left _ hp)))
  · intro p hp
    exact .tail _ (.tail _ (List.mem_append_right _ (List.mem_append_right _ hp)))
theorem built_law {src c1 c2 : Addr} {x y : Int} {tx ty : Tok} {k : Nat} {o1 o2 : Obj} {ps : Array Value} {z1 z2 : Option Value} (hx : 0 ≤ x) (hy : 0 ≤ y) (hy' : y < 2147483647) (hd1 : o1.data = .cell z1) (hd2 : o2.data = .cell z2) (l1 : @LT.lt Nat _ c1 src) (l2 : @LT.lt Nat _ c2 src) (l3 : @LT.lt Nat _ 369 src)
   (m0 : (src, listOf #[.int x tx, .int y ty] k) ∈ news) (m1 : (c1, o1) ∈ news) (m2 : (c2, o2) ∈ news) (m3 : (369, tabObj ps) ∈ news)
   (C : Site w p loose mean mg mb A₀ base outer h₀ L m news s.heap cs dp un 40 500)
   (hret : ∀ (tr rw ch bk tp : Addr) (n : Nat) (x y : Int) (tx ty : Tok) (k nr nc n1 : Nat) (vs cv : List Value) (ob : Obj) (kvs : List (Int × Value)) (ext : List (Addr × Obj)) (h' : Heap) (tk' : Nat), n ≤ 3 → BInv w src tr rw ch bk n x y vs cv kvs ob ext →
      (∀ c : Addr, c = c1 ∨ c = c2 ∨ c = 369 → @Ne Nat src c ∧ @Ne Nat rw c ∧ @Ne Nat ch c ∧ @Ne Nat bk c ∧ @Ne Nat tp c ∧ ∀ q ∈ ext, q.1 ≠ c) → Fr h₀ L h' m →
      News h₀ L h' ((tp, ({ cls := .type "tuple", data := .seq #[.ref tr, .ref bk] n1 } : Obj)) :: (src, listOf #[.int x tx, .int y ty] k) :: (rw, listOf vs.toArray nr) :: (ch, listOf cv.toArray nc) :: (bk, ob) :: (c2, o2) :: (c1, o1) :: (369, tabObj ps) :: ext) → Q (.ref tp) { s with heap := h', toks := tk' }) :
   wpAny (model PR w) (ktrTop dp un gd cn cs L a ccd cl outer) (call (.ref 332) [.ref src]) Q E s := by
  refine built_c (tx := tx) (ty := ty) (k := k) (rest := [(c2, o2), (c1, o1), (369, tabObj ps)]) hx hy hy' (fun q hq => ?_) ⟨C.B, C.F, C.X, fun q hq => ?_, C.T, C.hk, C.hd, C.hu⟩ fun tr rw ch bk tp d0 n x y tx ty k nr nc n1 vs cv ob kvs ext h' tk' hn I hd K F N => hret tr rw ch bk tp n x y tx ty k nr nc n1 vs cv ob kvs ext h' tk' hn I (fun c hc => ?_) F fun q hq => ?_
  · rcases List.mem_cons.mp hq with rfl | hq
    · exact Nat.ne_of_lt l2
    · rcases List.mem_cons.mp hq with rfl | hq
      · exact Nat.ne_of_lt l1
      · rw [List.mem_singleton.mp hq]; exact Nat.ne_of_lt l3
  · rcases List.mem_cons.mp hq with rfl | hq
    · exact C.N _ m0
    · rcases List.mem_cons.mp hq with rfl | hq
      · exact C.N _ m2
      · rcases List.mem_cons.mp hq with rfl | hq
        · exact C.N _ m1
        · rw [List.mem_singleton.mp hq]; exact C.N _ m3
  · have lc : @LT.lt Nat _ c src := by rcases hc with rfl | rfl | rfl <;> assumption
    have ld : @LT.lt Nat _ c d0 := Nat.lt_trans lc K.h0
    refine ⟨Nat.ne_of_gt lc, Nat.ne_of_gt (Nat.lt_of_lt_of_le ld K.h1), Nat.ne_of_gt (Nat.lt_of_lt_of_le ld K.h2), Nat.ne_of_gt (Nat.lt_of_lt_of_le ld K.h3), ?_, fun q hq => Nat.ne_of_gt (Nat.lt_of_lt_of_le ld (hd q hq))⟩
    rcases hc with rfl | rfl | rfl
    · exact ne_obj N (.head _) (.tail _ (.tail _ (.tail _ (.tail _ (.tail _ (List.mem_append_right _ (.tail _ (.head _)))))))) (fun e => by have := congrArg Obj.data e; rw [hd1] at this; cases this)
    · exact ne_obj N (.head _) (.tail _ (.tail _ (.tail _ (.tail _ (.tail _ (List.mem_append_right _ (.head _))))))) (fun e => by have := congrArg Obj.data e; rw [hd2] at this; cases this)
    · exact ne_obj N (.head _) (.tail _ (.tail _ (.tail _ (.tail _ (.tail _ (List.mem_append_right _ (.tail _ (.tail _ (.head _))))))))) (fun e => by cases e)
  · rcases List.mem_cons.mp hq with rfl | hq
    · exact N _ (.head _)
    · rcases List.mem_cons.mp hq with rfl | hq
      · exact N _ (.tail _ (.head _))
      · rcases List.mem_cons.mp hq with rfl | hq
        · exact N _ (.tail _ (.tail _ (.head _)))
        · rcases List.mem_cons.mp hq with rfl | hq
          · exact N _ (.tail _ (.tail _ (.tail _ (.head _))))
          · rcases List.mem_cons.mp hq with rfl | hq
            · exact N _ (.tail _ (.tail _ (.tail _ (.tail _ (.head _)))))
            · have up : ∀ q ∈ ext ++ [(c2, o2), (c1, o1), (369, tabObj ps)], h'.get? q.1 = some q.2 ∧ q.1 ≠ L ∧ h₀.get? q.1 = none := fun q hq => N q (.tail _ (.tail _ (.tail _ (.tail _ (.tail _ hq)))))
              rcases List.mem_cons.mp hq with rfl | hq
              · exact up _ (List.mem_append_right _ (.head _))
              · rcases List.mem_cons.mp hq with rfl | hq
                · exact up _ (List.mem_append_right _ (.tail _ (.head _)))
                · rcases List.mem_cons.mp hq with rfl | hq
                  · exact up _ (List.mem_append_right _ (.tail _ (.tail _ (.head _))))
                  · exact up _ (List.mem_append_left _ hq)
theorem law_start {P : Prop} {src tr rw ch bk c1 : Addr} {n k nr : Nat} {x y : Int} {tx ty : Tok} {vs cv : List Value} {kvs : List (Int × Value)} {ob oc : Obj} {ext : List (Addr × Obj)} {g h : Heap} {m₀ : Str → Option Value} (F : Fr g L h m₀) (hn : n ≤ 3) (I : BInv w src tr rw ch bk n x y vs cv kvs ob ext) (hd : oc.data = .cell (some (.ref tr))) (N : News g L h news)
   (m0 : (src, listOf #[.int x tx, .int y ty] k) ∈ news) (m1 : (rw, listOf vs.toArray nr) ∈ news) (m2 : (bk, ob) ∈ news) (m3 : (c1, oc) ∈ news) (m4 : (369, tabObj #[]) ∈ news) (me : ∀ q ∈ ext, q ∈ news) (hc : @Ne Nat c1 369)
   (a1 : @Ne Nat src c1 ∧ @Ne Nat rw c1 ∧ ∀ q ∈ ext, q.1 ≠ c1) (a3 : @Ne Nat src 369 ∧ @Ne Nat rw 369 ∧ @Ne Nat bk 369 ∧ ∀ q ∈ ext, q.1 ≠ 369)
   (kk : ∀ nx fz, News g L h nx → LawJ w src tr bk ob kvs vs c1 oc fz m₀ 0 m₀ nx → P) : P := by
  have TB := I.book (nr := nr) hn
  have hap := book_apart (src := src) (bk := bk) (rw := rw) (o₁ := listOf #[.int x tx, .int y ty] k) (o₂ := tabObj #[]) (ob := ob) (orw := listOf vs.toArray nr) (fun q hq => N q (me q hq)) I.apS I.apB I.apR a3.2.2.2 I.neq.1 I.neq.2.2.2.2.1 a3.2.1
  refine kk ((src, listOf #[.int x tx, .int y ty] k) :: (369, tabObj #[]) :: (((c1, oc) :: (bk, ob) :: ext.filter isT) ++ ((rw, listOf vs.toArray nr) :: ext.filter (fun q => !isT q)))) ((rw, listOf vs.toArray nr) :: ext.filter (fun q => !isT q)) (fun q hq => ?_)
    ⟨fun _ _ => rfl, x, y, tx, ty, k, #[], _, rfl, I.hx, I.hy, I.hy', ?_, ?_, fun q hq r hr => ?_, TabOK.nil, TB.grow (fun q hq => .tail _ hq) (fun _ h => h), .head _⟩
  · rcases List.mem_cons.mp hq with rfl | hq
    · exact N _ m0
    · rcases List.mem_cons.mp hq with rfl | hq
      · exact N _ m4
      · rcases List.mem_append.mp hq with hq | hq
        · rcases List.mem_cons.mp hq with rfl | hq
          · exact N _ m3
          · rcases List.mem_cons.mp hq with rfl | hq
            · exact N _ m2
            · exact N q (me q (List.mem_filter.mp hq).1)
        · rcases List.mem_cons.mp hq with rfl | hq
          · exact N _ m1
          · exact N q (me q (List.mem_filter.mp hq).1)
  · exact List.forall_mem_cons.mpr ⟨a1.1.symm, List.forall_mem_cons.mpr ⟨I.neq.2.2.1.symm, fun q hq => I.apS q (List.mem_filter.mp hq).1⟩⟩
  · exact List.forall_mem_cons.mpr ⟨hc, List.forall_mem_cons.mpr ⟨a3.2.2.1, fun q hq => a3.2.2.2 q (List.mem_filter.mp hq).1⟩⟩
  · rcases List.mem_cons.mp hr with rfl | hr
    · exact hap q hq _ (.head _)
    · rcases List.mem_cons.mp hr with rfl | hr
      · exact hap q hq _ (.tail _ (.head _))
      · rcases List.mem_cons.mp hr with rfl | hr
        · rcases List.mem_cons.mp hq with rfl | hq
          · exact a1.2.1
          · exact a1.2.2 q (List.mem_filter.mp hq).1
        · exact hap q hq r (.tail _ (.tail _ hr))
theorem hold_un {P : Prop} (h : Hold P) : P := h
theorem len_63 {ns : List Int} (h : ¬ ((63 : Nat) : Int) < ((ns.length : Nat) : Int)) : ns.length ≤ 63 := by omega
theorem sameT_turn {v : Option Value} {m m₀ : Str → Option Value} (h : ∀ z : Str, z ≠ "turn" → m z = m₀ z) : ∀ z : Str, z ≠ "turn" → (fun y : Str => if y = "turn" then v else m y) z = m₀ z := fun z hz => by
  show (if z = "turn" then v else m z) = _
  rw [if_neg hz]; exact h z hz
theorem sameT_known {x : Str} {v : Option Value} {m m₀ : Str → Option Value} (hx : m₀ x = v) (h : ∀ z : Str, z ≠ "turn" → m z = m₀ z) : ∀ z : Str, z ≠ "turn" → (fun y => if y = x then v else m y) z = m₀ z := fun z hz => by
  show (if z = x then v else m z) = _
  by_cases e : z = x
  · rw [if_pos e, e, hx]
  · rw [if_neg e]; exact h z hz
theorem mem_of2 {a b : List (Addr × Obj)} {q : Addr × Obj} (h : ∀ q ∈ a, q ∈ b) (hq : q ∈ a) : q ∈ b := h q hq
end SModQ
section SModLX


local macro_rules | `(tactic| lcg_off) => `(tactic| ((k_dflt (refine And.intro ⟨?_, ?_, ?_⟩ (And.intro ⟨?_, ?_, ?_⟩ ?_))) <;> (first | (with_reducible rename (@LT.lt Nat _ _ _ ∧ _) => lA; first | with_reducible exact Nat.ne_of_gt lA.2.1 | with_reducible exact Nat.ne_of_gt lA.2.2.1 | with_reducible exact Nat.ne_of_gt lA.2.2.2.1) | (with_reducible rename (@LT.lt Nat _ _ _ ∧ _) => lA; clear lA; with_reducible rename (@LT.lt Nat _ _ _ ∧ _) => lB; first | with_reducible exact Nat.ne_of_gt lB.1 | with_reducible exact Nat.ne_of_gt lB.2.1 | with_reducible exact Nat.ne_of_gt lB.2.2.1) | (with_reducible rename ((@Ne Nat _ _ ∧ _) ∧ _) => oX; simpa only [LCg.Off3, and_true] using oX))))
local macro_rules | `(tactic| k_ne) => `(tactic| (refine neN ?_; (try dsimp only); first | with_reducible assumption | exact Ne.symm (by with_reducible assumption)))
local macro_rules | `(tactic| walk_at "call ref") => `(tactic| ((first | tbr_iter 86 | tbr_iter 311 | tbr_iter 332 | tbr_iter 374); (with_reducible refine hold_inB ?_)))
theorem law_holds : Challenge.rw_xm0665_01.Holds := hd (by w_on; w_strict (k_go0; (all_goals try k_fold); (have CH9 := hold_box codeHd); clear codeHd; (refine law_open (x := "script") (by k_asm) rfl ?_); (with_reducible rename Fr _ _ _ _ => F8); clear F8; intro m8 F9; k_steps; (with_reducible refine hold_outB ?_); (k_dflt (refine' isnl_e ?hl ?hj ?h1 ?h2 ?hrw ?h3 ?h4 ?h4r ?ht ?tbS ?_; (case tbS => tb_start); (case h1 | h2 | hrw => k_mem); (case hl | hj => rfl); (case h3 | h4 => k_mem); (case h4r => with_reducible assumption); (case ht => with_reducible k_mem)); intros; wtm_at "f"); k_steps; (with_reducible refine hold_outB ?_); (k_dflt (refine' isnl_p ?hl ?hj ?h1 ?h2 ?hrw ?h3 ?h4 ?h4r ?ht ?hn ?hno ?hnf ?hnl ?tbS ?_; (case tbS => tb_start); (case h1 | h2 | hrw => k_mem); (case hl | hj => rfl); (case h3 | h4 => k_mem); (case h4r => with_reducible assumption); (case ht => with_reducible k_mem); (case hn => k_mem); (case hno | hnf | hnl => assumption)); intros; wtm_at "f"); k_steps; (with_reducible refine hold_outB ?_); ((repeat (with_reducible rename (_ ∧ _) => z9; clear z9)); k_dflt (refine' pool_c ?hL ?hI ?hn ?tbS ?_; (case tbS => tb_start); (case hL | hI => assumption); (case hn => exact len_63 (by assumption))); intro D9 x9 y9 tx9 ty9 k9 h9 tk9 hx9 hy9 hz9 l9 F9 N9; (try k_lt l9); wtm_at "s"); k_steps; (with_reducible refine hold_outB ?_); (k_dflt (refine' built_law (z1 := some (.ref _)) (z2 := some (.int _ _)) ?hx ?hy ?hyy ?hd1 ?hd2 ?l1 ?l2 ?l3 ?m0 ?m1 ?m2 ?m3 ?tbS ?_; (case tbS => tb_start); (case m0 => with_reducible k_mem); (case hx | hy | hyy | hd1 | hd2 => with_reducible assumption); (case m1 | m2 | m3 => with_reducible k_mem); (case l1 | l2 | l3 => omega)); intro tr9 rw9 ch9 bk9 tp9 n9 x9 y9 tx9 ty9 k9 nr9 nc9 n19 vs9 cv9 ob9 kvs9 ext9 h9 tk9 hn9 I9 hap9 F9 N9; (have hc1 := hap9 _ (.inl rfl)); (have hc2 := hap9 _ (.inr (.inl rfl))); (have hc3 := hap9 _ (.inr (.inr rfl))); clear hap9; (obtain ⟨a11, a12, a13, a14, a15, a16⟩ := hc1); (obtain ⟨a21, a22, a23, a24, a25, a26⟩ := hc2); (obtain ⟨a31, a32, a33, a34, a35, a36⟩ := hc3); wtm_at "s"); k_steps; (with_reducible refine hold_outB ?_); (refine' law_start ?sF ?sn ?sI ?sd ?sN ?s0 ?s1 ?s2 ?s3 ?s4 ?se ?sc ?sa1 ?sa3 ?_; (case sF => k_asm); (case sI => with_reducible assumption); (case sn => with_reducible assumption); (case sN => k_asm); (case sd => with_reducible assumption); (case s0 => with_reducible k_mem); (case s1 => with_reducible k_mem); (case s2 => with_reducible k_mem); (case s3 => with_reducible k_mem); (case s4 => with_reducible k_mem); (case se => (intro q9 hq9; with_reducible k_mem)); (case sc => exact Nat.ne_of_gt (Nat.lt_succ_of_lt (by with_reducible assumption))); (case sa1 => exact ⟨by with_reducible assumption, by with_reducible assumption, by with_reducible assumption⟩); (case sa3 => exact ⟨by with_reducible assumption, by with_reducible assumption, by with_reducible assumption, by with_reducible assumption⟩)); intro nx9 fz9 NX9 J9; (refine' range_loop (n := 3) (J := LawJ _ _ _ _ _ _ _ _ _ _ _) ?hh ?hr ?hs ?hz ?rF ?rN J9 ?turn ?done); (case hh => rfl); (case hr => assumption); (case hs => decide); (case hz => decide); (case rF => k_asm); (case rN => exact NX9); (case done => intro m9 nx8 h9 tk9 hJ9 F9 N9; clear NX9 J9; (obtain ⟨_, x9, y9, tx9, ty9, k9, ps9, rest9, rfl, _⟩ := hJ9); (repeat (with_reducible rename (_ ∧ _) => z9; clear z9)); (repeat (with_reducible rename (@Ne Nat _ _) => z9; clear z9)); (repeat (with_reducible rename (@LT.lt Nat _ _ _) => z9; clear z9)); (repeat (with_reducible rename (Obj.IsDictOf _ _ _) => z9; clear z9)); k_steps); (case turn => intro i9 t9 m9 nx8 h9 tk9 own9 hi9 ho9 hJ9 F9 N9; clear NX9 J9; (try dsimp only at F9 N9); (refine' lawj_open hJ9 F9 N9 ho9 ?ms ?mb ?_; (case ms => rfl); (case mb => rfl); clear hJ9 F9 N9 ho9; intro x9 y9 tx9 ty9 k9 ps9 rest9 tl9 enx9 etl9 ho9 hm9 hx9 hy9 hz9 hs9 h39 hap9 hok9 TBK9 hr9 hf9 hc9 hcr9 F9 N9); (try k_fold); k_steps; (with_reducible refine hold_outB ?_); (k_dflt (refine' turn_led ?XB ?TB ?CH ?hx ?hy ?hyy ?hs ?h3 ?hsp ?hz ?hok ?TBK ?m1 ?m2 ?mr ?mf ?tbS ?_; (case tbS => tb_start); (case m1 | m2 => with_reducible k_mem); (case TBK => with_reducible assumption); (case XB | TB => k_asm); (case CH => exact hold_un (by with_reducible assumption)); (case hx | hy | hyy | hs | h3 | hsp | hz | hok => with_reducible assumption); (case mr | mf => exact fun q9 hq9 => .tail _ (.tail _ (mem_of2 (by with_reducible assumption) hq9)))); intros; wtm_at "s"); k_steps; all_goals ((refine' lawj_close enx9 ho9 ?hm hcr9 ?gx ?gy ?gyy ?hsub ?gs ?g3 ?gz ?gok ?gT ?gF ?gN); (case gN => k_asm); (case gF => k_asm); (case hm => ((repeat (first | (with_reducible refine sameT_turn ?_) | (with_reducible refine sameT_known rfl ?_))); exact hm9)); (case gx => with_reducible assumption); (case gy => with_reducible assumption); (case gyy => with_reducible assumption); (case hsub => with_reducible assumption); (case gs => with_reducible assumption); (case g3 => with_reducible assumption); (case gz => with_reducible assumption); (case gok => with_reducible assumption); (case gT => with_reducible assumption)))))
end SModLX
end Tree2
end Tree
end Lines
end Mine
theorem PySem.Challenge.cw_xm0665_01_holds : PySem.Challenge.rw_xm0665_01.Holds :=
  Mine.law_holds
