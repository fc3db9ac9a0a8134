import PyProof.Rows.All
import Wide.All
import OpenK.AllK
import Wide.FinOn
import Lean
import PySem.Challenge.RW_no0180_01
set_option Elab.async false
set_option genInjectivity false
set_option genSizeOf false
section
open PySem PySem.W PyProof.Rows
set_option Elab.async false
set_option maxRecDepth 100000
set_option maxHeartbeats 8000000
noncomputable section
namespace Mine
noncomputable abbrev pw : Program := PySem.Challenge.pw_no0180_01
noncomputable def nth : List Stmt → Nat → Stmt
  | [], _ => .Pass ⟨0, 0, 0, 0⟩
  | s :: _, 0 => s
  | _ :: l, n + 1 => nth l n
noncomputable def sT (i : Nat) : Stmt := nth pw.main.body i
noncomputable def sM (i j : Nat) : Stmt := match sT i with
  | .ClassDef _ _ _ b .. => nth b j
  | s => s
noncomputable def fP : Stmt → Arguments
  | .FunctionDef _ a .. => a
  | _ => ⟨[], [], none, [], [], none, []⟩
noncomputable def fB : Stmt → List Stmt
  | .FunctionDef _ _ b .. => b
  | _ => []
noncomputable def fS : Stmt → Scope
  | .FunctionDef _ _ _ _ _ _ s .. => s
  | _ => ⟨.module, [], false, false, []⟩
noncomputable def K0 (P : Params) : Frag :=
((nat_lit 2), ⟨.none, none, (.dict (List.toArray [⟨(PySem.PyData.keyHash P (.ofString "type.__subclasses__.Exception.0")), (.str (.ofString "type.__subclasses__.Exception.0") 212), (.int 31 0)⟩, ⟨(PySem.PyData.keyHash P (.ofString "type.__subclasses__.Exception.n")), (.str (.ofString "type.__subclasses__.Exception.n") 213), (.int 1 0)⟩]) 2), (List.toArray [])⟩) ::
((nat_lit 3), ⟨(.type "dict"), none, (.dict (List.toArray [⟨(PySem.PyData.keyHash P (.ofString "__name__")), (.str (.ofString "__name__") 165), (.str (.ofString "law_no0180_01") 836)⟩, ⟨(PySem.PyData.keyHash P (.ofString "__doc__")), (.str (.ofString "__doc__") 166), .none⟩, ⟨(PySem.PyData.keyHash P (.ofString "__package__")), (.str (.ofString "__package__") 167), .none⟩, ⟨(PySem.PyData.keyHash P (.ofString "__loader__")), (.str (.ofString "__loader__") 168), (.builtin "__main__.__loader__#opaque")⟩, ⟨(PySem.PyData.keyHash P (.ofString "__spec__")), (.str (.ofString "__spec__") 169), .none⟩, ⟨(PySem.PyData.keyHash P (.ofString "__annotations__")), (.str (.ofString "__annotations__") 170), (.ref 6)⟩, ⟨(PySem.PyData.keyHash P (.ofString "__builtins__")), (.str (.ofString "__builtins__") 171), (.ref 4)⟩, ⟨(PySem.PyData.keyHash P (.ofString "__file__")), (.str (.ofString "__file__") 173), (.str (.ofString "/claim/cut.py") 172)⟩, ⟨(PySem.PyData.keyHash P (.ofString "__cached__")), (.str (.ofString "__cached__") 174), .none⟩, ⟨(PySem.PyData.keyHash P (.ofString "_wall")), (.str (.ofString "_wall") 193), (.ref 21)⟩, ⟨(PySem.PyData.keyHash P (.ofString "ClausemillError")), (.str (.ofString "ClausemillError") 215), (.ref 31)⟩, ⟨(PySem.PyData.keyHash P (.ofString "PrologError")), (.str (.ofString "PrologError") 240), (.ref 51)⟩, ⟨(PySem.PyData.keyHash P (.ofString "A_NIL")), (.str (.ofString "A_NIL") 242), (.int 0 241)⟩, ⟨(PySem.PyData.keyHash P (.ofString "A_PLUS")), (.str (.ofString "A_PLUS") 244), (.int 4 243)⟩, ⟨(PySem.PyData.keyHash P (.ofString "A_SYSTEM")), (.str (.ofString "A_SYSTEM") 246), (.int 25 245)⟩, ⟨(PySem.PyData.keyHash P (.ofString "F_DOT")), (.str (.ofString "F_DOT") 248), (.int 0 247)⟩, ⟨(PySem.PyData.keyHash P (.ofString "F_MINUS")), (.str (.ofString "F_MINUS") 250), (.int 13 249)⟩, ⟨(PySem.PyData.keyHash P (.ofString "F_ERROR")), (.str (.ofString "F_ERROR") 252), (.int 16 251)⟩, ⟨(PySem.PyData.keyHash P (.ofString "fixed_atoms")), (.str (.ofString "fixed_atoms") 258), (.ref 60)⟩, ⟨(PySem.PyData.keyHash P (.ofString "fixed_functors")), (.str (.ofString "fixed_functors") 264), (.ref 67)⟩, ⟨(PySem.PyData.keyHash P (.ofString "Symbols")), (.str (.ofString "Symbols") 384), (.ref 154)⟩, ⟨(PySem.PyData.keyHash P (.ofString "system_error")), (.str (.ofString "system_error") 393), (.ref 165)⟩, ⟨(PySem.PyData.keyHash P (.ofString "formal_of")), (.str (.ofString "formal_of") 404), (.ref 172)⟩, ⟨(PySem.PyData.keyHash P (.ofString "resource_error")), (.str (.ofString "resource_error") 412), (.ref 179)⟩, ⟨(PySem.PyData.keyHash P (.ofString "REF")), (.str (.ofString "REF") 416), (.int 0 415)⟩, ⟨(PySem.PyData.keyHash P (.ofString "SRF")), (.str (.ofString "SRF") 418), (.int 1 417)⟩, ⟨(PySem.PyData.keyHash P (.ofString "STR")), (.str (.ofString "STR") 420), (.int 2 419)⟩, ⟨(PySem.PyData.keyHash P (.ofString "LIS")), (.str (.ofString "LIS") 422), (.int 3 421)⟩, ⟨(PySem.PyData.keyHash P (.ofString "CON")), (.str (.ofString "CON") 424), (.int 4 423)⟩, ⟨(PySem.PyData.keyHash P (.ofString "INT")), (.str (.ofString "INT") 426), (.int 5 425)⟩, ⟨(PySem.PyData.keyHash P (.ofString "FUN")), (.str (.ofString "FUN") 428), (.int 6 427)⟩, ⟨(PySem.PyData.keyHash P (.ofString "Cells")), (.str (.ofString "Cells") 622), (.ref 323)⟩, ⟨(PySem.PyData.keyHash P (.ofString "Store")), (.str (.ofString "Store") 696), (.ref 373)⟩, ⟨(PySem.PyData.keyHash P (.ofString "PairSet")), (.str (.ofString "PairSet") 738), (.ref 399)⟩, ⟨(PySem.PyData.keyHash P (.ofString "push_pairs")), (.str (.ofString "push_pairs") 751), (.ref 410)⟩, ⟨(PySem.PyData.keyHash P (.ofString "rank")), (.str (.ofString "rank") 759), (.ref 417)⟩, ⟨(PySem.PyData.keyHash P (.ofString "order")), (.str (.ofString "order") 767), (.ref 424)⟩, ⟨(PySem.PyData.keyHash P (.ofString "compare_shapes")), (.str (.ofString "compare_shapes") 780), (.ref 431)⟩, ⟨(PySem.PyData.keyHash P (.ofString "compare_tops")), (.str (.ofString "compare_tops") 791), (.ref 438)⟩, ⟨(PySem.PyData.keyHash P (.ofString "compare")), (.str (.ofString "compare") 805), (.ref 445)⟩, ⟨(PySem.PyData.keyHash P (.ofString "merge")), (.str (.ofString "merge") 820), (.ref 452)⟩, ⟨(PySem.PyData.keyHash P (.ofString "merge_sort")), (.str (.ofString "merge_sort") 835), (.ref 459)⟩, ⟨(PySem.PyData.keyHash P (.ofString "_law_row")), (.str (.ofString "_law_row") 848), (.ref 466)⟩, ⟨(PySem.PyData.keyHash P (.ofString "_law_next")), (.str (.ofString "_law_next") 855), (.ref 473)⟩, ⟨(PySem.PyData.keyHash P (.ofString "_law_key")), (.str (.ofString "_law_key") 863), (.ref 480)⟩, ⟨(PySem.PyData.keyHash P (.ofString "_law_weight")), (.str (.ofString "_law_weight") 870), (.ref 487)⟩, ⟨(PySem.PyData.keyHash P (.ofString "law")), (.str (.ofString "law") 876), (.ref 492)⟩]) 47), (List.toArray [])⟩) ::
((nat_lit 15), ⟨(.type "tuple"), none, (.seq (List.toArray []) 0), (List.toArray [])⟩) ::
((nat_lit 17), ⟨(.type "tuple"), none, (.seq (List.toArray [(.str (.ofString "k") 190)]) 0), (List.toArray [])⟩) ::
((nat_lit 18), ⟨(.type "tuple"), none, (.seq (List.toArray []) 0), (List.toArray [])⟩) ::
((nat_lit 20), ⟨(.type "code"), none, (.fields (List.toArray [(.str (.ofString "_wall") 187), (.str (.ofString "_wall") 188), (.str (.ofString "/claim/cut.py") 189), (.int 1 0), (.int 1 0), (.int 0 0), (.int 0 0), (.int 3 0), (.ref 15), (.bool true), (.int 181 0), (.ref 16), .none, (.ref 17), (.ref 18), (.ref 19), (.int 191 0), (.int 1 0), (.str (.ofString "/claim/cut.py") 192)])), (List.toArray [])⟩) ::
((nat_lit 21), ⟨(.type "function"), none, (.func ⟨(.ofString "_wall"), (.ofString "_wall"), (fP (sT 0)), (.stmts (fB (sT 0))), (fS (sT 0)), 3, [], .none, .none, .none, (.str (.ofString "__main__") 164), none, (.ref 20), .none, 0⟩), (List.toArray [])⟩) ::
((nat_lit 22), ⟨(.type "tuple"), none, (.seq (List.toArray [(.type "Exception")]) 0), (List.toArray [])⟩) ::
((nat_lit 29), ⟨(.type "tuple"), none, (.seq (List.toArray []) 0), (List.toArray [])⟩) ::
((nat_lit 30), ⟨(.type "dict"), none, (.dict (List.toArray [⟨(PySem.PyData.keyHash P (.ofString "__module__")), (.str (.ofString "__module__") 203), (.str (.ofString "clausemill.symbols") 194)⟩, ⟨(PySem.PyData.keyHash P (.ofString "__firstlineno__")), (.str (.ofString "__firstlineno__") 207), (.int 5 206)⟩, ⟨(PySem.PyData.keyHash P (.ofString "__static_attributes__")), (.str (.ofString "__static_attributes__") 208), (.ref 29)⟩, ⟨(PySem.PyData.keyHash P (.ofString "__weakref__")), (.str (.ofString "__weakref__") 210), (.ref 32)⟩, ⟨(PySem.PyData.keyHash P (.ofString "__doc__")), (.str (.ofString "__doc__") 211), .none⟩]) 3), (List.toArray [])⟩) ::
((nat_lit 31), ⟨(.type "type"), none, (.cls ⟨(.ofString "ClausemillError"), [(.type "Exception")], [(.ref 31), (.type "Exception"), (.type "BaseException"), (.type "object")], 30, (.ofString "ClausemillError"), true, [], [(.ref 51)], false, none, false⟩), (List.toArray [(some (.ref 22)), none, (some (.str (.ofString "ClausemillError") 196)), (some (.str (.ofString "ClausemillError") 204)), (some (.builtin "Exception.__new__")), (some (.bool true))])⟩) ::
((nat_lit 32), ⟨(.type "getset_descriptor"), none, (.fields (List.toArray [(.str (.ofString "__weakref__") 209), (.ref 31), (.builtin "ExceptionGroup.__weakref__"), .none])), (List.toArray [])⟩) ::
((nat_lit 35), ⟨(.type "tuple"), none, (.seq (List.toArray [(.ref 31)]) 0), (List.toArray [])⟩) ::
((nat_lit 42), ⟨(.type "tuple"), none, (.seq (List.toArray []) 0), (List.toArray [])⟩) ::
((nat_lit 44), ⟨(.type "tuple"), none, (.seq (List.toArray [(.str (.ofString "self") 231), (.str (.ofString "ball") 232)]) 0), (List.toArray [])⟩) ::
((nat_lit 45), ⟨(.type "tuple"), none, (.seq (List.toArray []) 0), (List.toArray [])⟩) ::
((nat_lit 47), ⟨(.type "code"), none, (.fields (List.toArray [(.str (.ofString "__init__") 228), (.str (.ofString "PrologError.__init__") 229), (.str (.ofString "/claim/cut.py") 230), (.int 9 0), (.int 2 0), (.int 0 0), (.int 0 0), (.int 3 0), (.ref 42), (.bool true), (.int 181 0), (.ref 43), .none, (.ref 44), (.ref 45), (.ref 46), (.int 233 0), (.int 9 0), (.str (.ofString "/claim/cut.py") 234)])), (List.toArray [])⟩) ::
((nat_lit 48), ⟨(.type "function"), none, (.func ⟨(.ofString "__init__"), (.ofString "PrologError.__init__"), (fP (sM 3 0)), (.stmts (fB (sM 3 0))), (fS (sM 3 0)), 3, [], .none, .none, .none, (.str (.ofString "clausemill.symbols") 194), none, (.ref 47), .none, 0⟩), (List.toArray [])⟩) ::
((nat_lit 49), ⟨(.type "tuple"), none, (.seq (List.toArray [(.str (.ofString "ball") 236)]) 0), (List.toArray [])⟩) ::
((nat_lit 50), ⟨(.type "dict"), none, (.dict (List.toArray [⟨(PySem.PyData.keyHash P (.ofString "__module__")), (.str (.ofString "__module__") 223), (.str (.ofString "clausemill.symbols") 194)⟩, ⟨(PySem.PyData.keyHash P (.ofString "__firstlineno__")), (.str (.ofString "__firstlineno__") 227), (.int 7 226)⟩, ⟨(PySem.PyData.keyHash P (.ofString "__init__")), (.str (.ofString "__init__") 235), (.ref 48)⟩, ⟨(PySem.PyData.keyHash P (.ofString "__static_attributes__")), (.str (.ofString "__static_attributes__") 237), (.ref 49)⟩, ⟨(PySem.PyData.keyHash P (.ofString "__doc__")), (.str (.ofString "__doc__") 238), .none⟩]) 2), (List.toArray [])⟩) ::
((nat_lit 51), ⟨(.type "type"), none, (.cls ⟨(.ofString "PrologError"), [(.ref 31)], [(.ref 51), (.ref 31), (.type "Exception"), (.type "BaseException"), (.type "object")], 50, (.ofString "PrologError"), true, [], [], false, none, false⟩), (List.toArray [(some (.ref 35)), none, (some (.str (.ofString "PrologError") 216)), (some (.str (.ofString "PrologError") 224)), (some (.builtin "Exception.__new__")), (some (.bool true))])⟩) ::
((nat_lit 54), ⟨(.type "tuple"), none, (.seq (List.toArray []) 0), (List.toArray [])⟩) ::
((nat_lit 56), ⟨(.type "tuple"), none, (.seq (List.toArray []) 0), (List.toArray [])⟩) ::
((nat_lit 57), ⟨(.type "tuple"), none, (.seq (List.toArray []) 0), (List.toArray [])⟩) ::
((nat_lit 59), ⟨(.type "code"), none, (.fields (List.toArray [(.str (.ofString "fixed_atoms") 253), (.str (.ofString "fixed_atoms") 254), (.str (.ofString "/claim/cut.py") 255), (.int 17 0), (.int 0 0), (.int 0 0), (.int 0 0), (.int 3 0), (.ref 54), (.bool true), (.int 181 0), (.ref 55), .none, (.ref 56), (.ref 57), (.ref 58), (.int 256 0), (.int 17 0), (.str (.ofString "/claim/cut.py") 257)])), (List.toArray [])⟩) ::
((nat_lit 60), ⟨(.type "function"), none, (.func ⟨(.ofString "fixed_atoms"), (.ofString "fixed_atoms"), (fP (sT 10)), (.stmts (fB (sT 10))), (fS (sT 10)), 3, [], .none, .none, .none, (.str (.ofString "clausemill.symbols") 194), none, (.ref 59), .none, 0⟩), (List.toArray [])⟩) ::
((nat_lit 61), ⟨(.type "tuple"), none, (.seq (List.toArray []) 0), (List.toArray [])⟩) ::
((nat_lit 63), ⟨(.type "tuple"), none, (.seq (List.toArray []) 0), (List.toArray [])⟩) ::
((nat_lit 64), ⟨(.type "tuple"), none, (.seq (List.toArray []) 0), (List.toArray [])⟩) ::
((nat_lit 66), ⟨(.type "code"), none, (.fields (List.toArray [(.str (.ofString "fixed_functors") 259), (.str (.ofString "fixed_functors") 260), (.str (.ofString "/claim/cut.py") 261), (.int 19 0), (.int 0 0), (.int 0 0), (.int 0 0), (.int 3 0), (.ref 61), (.bool true), (.int 181 0), (.ref 62), .none, (.ref 63), (.ref 64), (.ref 65), (.int 262 0), (.int 19 0), (.str (.ofString "/claim/cut.py") 263)])), (List.toArray [])⟩) ::
((nat_lit 67), ⟨(.type "function"), none, (.func ⟨(.ofString "fixed_functors"), (.ofString "fixed_functors"), (fP (sT 11)), (.stmts (fB (sT 11))), (fS (sT 11)), 3, [], .none, .none, .none, (.str (.ofString "clausemill.symbols") 194), none, (.ref 66), .none, 0⟩), (List.toArray [])⟩) ::
((nat_lit 75), ⟨(.type "tuple"), none, (.seq (List.toArray []) 0), (List.toArray [])⟩) ::
((nat_lit 77), ⟨(.type "tuple"), none, (.seq (List.toArray [(.str (.ofString "self") 280), (.str (.ofString "text") 281), (.str (.ofString "row") 282)]) 0), (List.toArray [])⟩) ::
((nat_lit 78), ⟨(.type "tuple"), none, (.seq (List.toArray []) 0), (List.toArray [])⟩) ::
((nat_lit 80), ⟨(.type "code"), none, (.fields (List.toArray [(.str (.ofString "__init__") 277), (.str (.ofString "Symbols.__init__") 278), (.str (.ofString "/claim/cut.py") 279), (.int 23 0), (.int 1 0), (.int 0 0), (.int 0 0), (.int 3 0), (.ref 75), (.bool true), (.int 181 0), (.ref 76), .none, (.ref 77), (.ref 78), (.ref 79), (.int 283 0), (.int 23 0), (.str (.ofString "/claim/cut.py") 284)])), (List.toArray [])⟩) ::
((nat_lit 81), ⟨(.type "function"), none, (.func ⟨(.ofString "__init__"), (.ofString "Symbols.__init__"), (fP (sM 12 0)), (.stmts (fB (sM 12 0))), (fS (sM 12 0)), 3, [], .none, .none, .none, (.str (.ofString "clausemill.symbols") 194), none, (.ref 80), .none, 0⟩), (List.toArray [])⟩) ::
((nat_lit 82), ⟨(.type "tuple"), none, (.seq (List.toArray []) 0), (List.toArray [])⟩) ::
((nat_lit 84), ⟨(.type "tuple"), none, (.seq (List.toArray [(.str (.ofString "self") 289), (.str (.ofString "text") 290), (.str (.ofString "found") 291), (.str (.ofString "number") 292)]) 0), (List.toArray [])⟩) ::
((nat_lit 85), ⟨(.type "tuple"), none, (.seq (List.toArray []) 0), (List.toArray [])⟩) ::
((nat_lit 87), ⟨(.type "code"), none, (.fields (List.toArray [(.str (.ofString "atom") 286), (.str (.ofString "Symbols.atom") 287), (.str (.ofString "/claim/cut.py") 288), (.int 33 0), (.int 2 0), (.int 0 0), (.int 0 0), (.int 3 0), (.ref 82), (.bool true), (.int 181 0), (.ref 83), .none, (.ref 84), (.ref 85), (.ref 86), (.int 293 0), (.int 33 0), (.str (.ofString "/claim/cut.py") 294)])), (List.toArray [])⟩) ::
((nat_lit 88), ⟨(.type "function"), none, (.func ⟨(.ofString "atom"), (.ofString "Symbols.atom"), (fP (sM 12 1)), (.stmts (fB (sM 12 1))), (fS (sM 12 1)), 3, [], .none, .none, .none, (.str (.ofString "clausemill.symbols") 194), none, (.ref 87), .none, 0⟩), (List.toArray [])⟩) ::
((nat_lit 89), ⟨(.type "tuple"), none, (.seq (List.toArray []) 0), (List.toArray [])⟩) ::
((nat_lit 91), ⟨(.type "tuple"), none, (.seq (List.toArray [(.str (.ofString "self") 299), (.str (.ofString "number") 300)]) 0), (List.toArray [])⟩) ::
((nat_lit 92), ⟨(.type "tuple"), none, (.seq (List.toArray []) 0), (List.toArray [])⟩) ::
((nat_lit 94), ⟨(.type "code"), none, (.fields (List.toArray [(.str (.ofString "text") 296), (.str (.ofString "Symbols.text") 297), (.str (.ofString "/claim/cut.py") 298), (.int 42 0), (.int 2 0), (.int 0 0), (.int 0 0), (.int 3 0), (.ref 89), (.bool true), (.int 181 0), (.ref 90), .none, (.ref 91), (.ref 92), (.ref 93), (.int 301 0), (.int 42 0), (.str (.ofString "/claim/cut.py") 302)])), (List.toArray [])⟩) ::
((nat_lit 95), ⟨(.type "function"), none, (.func ⟨(.ofString "text"), (.ofString "Symbols.text"), (fP (sM 12 2)), (.stmts (fB (sM 12 2))), (fS (sM 12 2)), 3, [], .none, .none, .none, (.str (.ofString "clausemill.symbols") 194), none, (.ref 94), .none, 0⟩), (List.toArray [])⟩) ::
((nat_lit 96), ⟨(.type "tuple"), none, (.seq (List.toArray []) 0), (List.toArray [])⟩) ::
((nat_lit 98), ⟨(.type "tuple"), none, (.seq (List.toArray [(.str (.ofString "self") 307), (.str (.ofString "atom") 308), (.str (.ofString "arity") 309), (.str (.ofString "key") 310), (.str (.ofString "found") 311), (.str (.ofString "number") 312)]) 0), (List.toArray [])⟩) ::
((nat_lit 99), ⟨(.type "tuple"), none, (.seq (List.toArray []) 0), (List.toArray [])⟩) ::
((nat_lit 101), ⟨(.type "code"), none, (.fields (List.toArray [(.str (.ofString "functor") 304), (.str (.ofString "Symbols.functor") 305), (.str (.ofString "/claim/cut.py") 306), (.int 45 0), (.int 3 0), (.int 0 0), (.int 0 0), (.int 3 0), (.ref 96), (.bool true), (.int 181 0), (.ref 97), .none, (.ref 98), (.ref 99), (.ref 100), (.int 313 0), (.int 45 0), (.str (.ofString "/claim/cut.py") 314)])), (List.toArray [])⟩) ::
((nat_lit 102), ⟨(.type "function"), none, (.func ⟨(.ofString "functor"), (.ofString "Symbols.functor"), (fP (sM 12 3)), (.stmts (fB (sM 12 3))), (fS (sM 12 3)), 3, [], .none, .none, .none, (.str (.ofString "clausemill.symbols") 194), none, (.ref 101), .none, 0⟩), (List.toArray [])⟩) ::
((nat_lit 103), ⟨(.type "tuple"), none, (.seq (List.toArray []) 0), (List.toArray [])⟩) ::
((nat_lit 105), ⟨(.type "tuple"), none, (.seq (List.toArray [(.str (.ofString "self") 319), (.str (.ofString "text") 320), (.str (.ofString "arity") 321)]) 0), (List.toArray [])⟩) ::
((nat_lit 106), ⟨(.type "tuple"), none, (.seq (List.toArray []) 0), (List.toArray [])⟩) ::
((nat_lit 108), ⟨(.type "code"), none, (.fields (List.toArray [(.str (.ofString "func") 316), (.str (.ofString "Symbols.func") 317), (.str (.ofString "/claim/cut.py") 318), (.int 55 0), (.int 3 0), (.int 0 0), (.int 0 0), (.int 3 0), (.ref 103), (.bool true), (.int 181 0), (.ref 104), .none, (.ref 105), (.ref 106), (.ref 107), (.int 322 0), (.int 55 0), (.str (.ofString "/claim/cut.py") 323)])), (List.toArray [])⟩) ::
((nat_lit 109), ⟨(.type "function"), none, (.func ⟨(.ofString "func"), (.ofString "Symbols.func"), (fP (sM 12 4)), (.stmts (fB (sM 12 4))), (fS (sM 12 4)), 3, [], .none, .none, .none, (.str (.ofString "clausemill.symbols") 194), none, (.ref 108), .none, 0⟩), (List.toArray [])⟩) ::
((nat_lit 110), ⟨(.type "tuple"), none, (.seq (List.toArray []) 0), (List.toArray [])⟩) ::
((nat_lit 112), ⟨(.type "tuple"), none, (.seq (List.toArray [(.str (.ofString "self") 328), (.str (.ofString "functor") 329)]) 0), (List.toArray [])⟩) ::
((nat_lit 113), ⟨(.type "tuple"), none, (.seq (List.toArray []) 0), (List.toArray [])⟩) ::
((nat_lit 115), ⟨(.type "code"), none, (.fields (List.toArray [(.str (.ofString "name") 325), (.str (.ofString "Symbols.name") 326), (.str (.ofString "/claim/cut.py") 327), (.int 58 0), (.int 2 0), (.int 0 0), (.int 0 0), (.int 3 0), (.ref 110), (.bool true), (.int 181 0), (.ref 111), .none, (.ref 112), (.ref 113), (.ref 114), (.int 330 0), (.int 58 0), (.str (.ofString "/claim/cut.py") 331)])), (List.toArray [])⟩) ::
((nat_lit 116), ⟨(.type "function"), none, (.func ⟨(.ofString "name"), (.ofString "Symbols.name"), (fP (sM 12 5)), (.stmts (fB (sM 12 5))), (fS (sM 12 5)), 3, [], .none, .none, .none, (.str (.ofString "clausemill.symbols") 194), none, (.ref 115), .none, 0⟩), (List.toArray [])⟩) ::
((nat_lit 117), ⟨(.type "tuple"), none, (.seq (List.toArray []) 0), (List.toArray [])⟩) ::
((nat_lit 119), ⟨(.type "tuple"), none, (.seq (List.toArray [(.str (.ofString "self") 336), (.str (.ofString "functor") 337)]) 0), (List.toArray [])⟩) ::
((nat_lit 120), ⟨(.type "tuple"), none, (.seq (List.toArray []) 0), (List.toArray [])⟩) ::
((nat_lit 122), ⟨(.type "code"), none, (.fields (List.toArray [(.str (.ofString "arity") 333), (.str (.ofString "Symbols.arity") 334), (.str (.ofString "/claim/cut.py") 335), (.int 61 0), (.int 2 0), (.int 0 0), (.int 0 0), (.int 3 0), (.ref 117), (.bool true), (.int 181 0), (.ref 118), .none, (.ref 119), (.ref 120), (.ref 121), (.int 338 0), (.int 61 0), (.str (.ofString "/claim/cut.py") 339)])), (List.toArray [])⟩) ::
((nat_lit 123), ⟨(.type "function"), none, (.func ⟨(.ofString "arity"), (.ofString "Symbols.arity"), (fP (sM 12 6)), (.stmts (fB (sM 12 6))), (fS (sM 12 6)), 3, [], .none, .none, .none, (.str (.ofString "clausemill.symbols") 194), none, (.ref 122), .none, 0⟩), (List.toArray [])⟩) ::
((nat_lit 124), ⟨(.type "tuple"), none, (.seq (List.toArray []) 0), (List.toArray [])⟩) ::
((nat_lit 126), ⟨(.type "tuple"), none, (.seq (List.toArray [(.str (.ofString "self") 344), (.str (.ofString "functor") 345)]) 0), (List.toArray [])⟩) ::
((nat_lit 127), ⟨(.type "tuple"), none, (.seq (List.toArray []) 0), (List.toArray [])⟩) ::
((nat_lit 129), ⟨(.type "code"), none, (.fields (List.toArray [(.str (.ofString "label") 341), (.str (.ofString "Symbols.label") 342), (.str (.ofString "/claim/cut.py") 343), (.int 64 0), (.int 2 0), (.int 0 0), (.int 0 0), (.int 3 0), (.ref 124), (.bool true), (.int 181 0), (.ref 125), .none, (.ref 126), (.ref 127), (.ref 128), (.int 346 0), (.int 64 0), (.str (.ofString "/claim/cut.py") 347)])), (List.toArray [])⟩) ::
((nat_lit 130), ⟨(.type "function"), none, (.func ⟨(.ofString "label"), (.ofString "Symbols.label"), (fP (sM 12 7)), (.stmts (fB (sM 12 7))), (fS (sM 12 7)), 3, [], .none, .none, .none, (.str (.ofString "clausemill.symbols") 194), none, (.ref 129), .none, 0⟩), (List.toArray [])⟩) ::
((nat_lit 131), ⟨(.type "tuple"), none, (.seq (List.toArray []) 0), (List.toArray [])⟩) ::
((nat_lit 133), ⟨(.type "tuple"), none, (.seq (List.toArray [(.str (.ofString "self") 352)]) 0), (List.toArray [])⟩) ::
((nat_lit 134), ⟨(.type "tuple"), none, (.seq (List.toArray []) 0), (List.toArray [])⟩) ::
((nat_lit 136), ⟨(.type "code"), none, (.fields (List.toArray [(.str (.ofString "count") 349), (.str (.ofString "Symbols.count") 350), (.str (.ofString "/claim/cut.py") 351), (.int 67 0), (.int 1 0), (.int 0 0), (.int 0 0), (.int 3 0), (.ref 131), (.bool true), (.int 181 0), (.ref 132), .none, (.ref 133), (.ref 134), (.ref 135), (.int 353 0), (.int 67 0), (.str (.ofString "/claim/cut.py") 354)])), (List.toArray [])⟩) ::
((nat_lit 137), ⟨(.type "function"), none, (.func ⟨(.ofString "count"), (.ofString "Symbols.count"), (fP (sM 12 8)), (.stmts (fB (sM 12 8))), (fS (sM 12 8)), 3, [], .none, .none, .none, (.str (.ofString "clausemill.symbols") 194), none, (.ref 136), .none, 0⟩), (List.toArray [])⟩) ::
((nat_lit 138), ⟨(.type "tuple"), none, (.seq (List.toArray []) 0), (List.toArray [])⟩) ::
((nat_lit 140), ⟨(.type "tuple"), none, (.seq (List.toArray [(.str (.ofString "self") 359)]) 0), (List.toArray [])⟩) ::
((nat_lit 141), ⟨(.type "tuple"), none, (.seq (List.toArray []) 0), (List.toArray [])⟩) ::
((nat_lit 143), ⟨(.type "code"), none, (.fields (List.toArray [(.str (.ofString "functor_count") 356), (.str (.ofString "Symbols.functor_count") 357), (.str (.ofString "/claim/cut.py") 358), (.int 70 0), (.int 1 0), (.int 0 0), (.int 0 0), (.int 3 0), (.ref 138), (.bool true), (.int 181 0), (.ref 139), .none, (.ref 140), (.ref 141), (.ref 142), (.int 360 0), (.int 70 0), (.str (.ofString "/claim/cut.py") 361)])), (List.toArray [])⟩) ::
((nat_lit 144), ⟨(.type "function"), none, (.func ⟨(.ofString "functor_count"), (.ofString "Symbols.functor_count"), (fP (sM 12 9)), (.stmts (fB (sM 12 9))), (fS (sM 12 9)), 3, [], .none, .none, .none, (.str (.ofString "clausemill.symbols") 194), none, (.ref 143), .none, 0⟩), (List.toArray [])⟩) ::
((nat_lit 145), ⟨(.type "tuple"), none, (.seq (List.toArray []) 0), (List.toArray [])⟩) ::
((nat_lit 147), ⟨(.type "tuple"), none, (.seq (List.toArray [(.str (.ofString "self") 366), (.str (.ofString "text") 367), (.str (.ofString "arity") 368), (.str (.ofString "atom") 369)]) 0), (List.toArray [])⟩) ::
((nat_lit 148), ⟨(.type "tuple"), none, (.seq (List.toArray []) 0), (List.toArray [])⟩) ::
((nat_lit 150), ⟨(.type "code"), none, (.fields (List.toArray [(.str (.ofString "known") 363), (.str (.ofString "Symbols.known") 364), (.str (.ofString "/claim/cut.py") 365), (.int 73 0), (.int 3 0), (.int 0 0), (.int 0 0), (.int 3 0), (.ref 145), (.bool true), (.int 181 0), (.ref 146), .none, (.ref 147), (.ref 148), (.ref 149), (.int 370 0), (.int 73 0), (.str (.ofString "/claim/cut.py") 371)])), (List.toArray [])⟩) ::
((nat_lit 151), ⟨(.type "function"), none, (.func ⟨(.ofString "known"), (.ofString "Symbols.known"), (fP (sM 12 10)), (.stmts (fB (sM 12 10))), (fS (sM 12 10)), 3, [], .none, .none, .none, (.str (.ofString "clausemill.symbols") 194), none, (.ref 150), .none, 0⟩), (List.toArray [])⟩) ::
((nat_lit 152), ⟨(.type "tuple"), none, (.seq (List.toArray [(.str (.ofString "atom_numbers") 373), (.str (.ofString "functor_numbers") 374), (.str (.ofString "functors") 375), (.str (.ofString "texts") 376)]) 0), (List.toArray [])⟩) ::
((nat_lit 153), ⟨(.type "dict"), none, (.dict (List.toArray [⟨(PySem.PyData.keyHash P (.ofString "__module__")), (.str (.ofString "__module__") 272), (.str (.ofString "clausemill.symbols") 194)⟩, ⟨(PySem.PyData.keyHash P (.ofString "__firstlineno__")), (.str (.ofString "__firstlineno__") 276), (.int 21 275)⟩, ⟨(PySem.PyData.keyHash P (.ofString "__init__")), (.str (.ofString "__init__") 285), (.ref 81)⟩, ⟨(PySem.PyData.keyHash P (.ofString "atom")), (.str (.ofString "atom") 295), (.ref 88)⟩, ⟨(PySem.PyData.keyHash P (.ofString "text")), (.str (.ofString "text") 303), (.ref 95)⟩, ⟨(PySem.PyData.keyHash P (.ofString "functor")), (.str (.ofString "functor") 315), (.ref 102)⟩, ⟨(PySem.PyData.keyHash P (.ofString "func")), (.str (.ofString "func") 324), (.ref 109)⟩, ⟨(PySem.PyData.keyHash P (.ofString "name")), (.str (.ofString "name") 332), (.ref 116)⟩, ⟨(PySem.PyData.keyHash P (.ofString "arity")), (.str (.ofString "arity") 340), (.ref 123)⟩, ⟨(PySem.PyData.keyHash P (.ofString "label")), (.str (.ofString "label") 348), (.ref 130)⟩, ⟨(PySem.PyData.keyHash P (.ofString "count")), (.str (.ofString "count") 355), (.ref 137)⟩, ⟨(PySem.PyData.keyHash P (.ofString "functor_count")), (.str (.ofString "functor_count") 362), (.ref 144)⟩, ⟨(PySem.PyData.keyHash P (.ofString "known")), (.str (.ofString "known") 372), (.ref 151)⟩, ⟨(PySem.PyData.keyHash P (.ofString "__static_attributes__")), (.str (.ofString "__static_attributes__") 377), (.ref 152)⟩, ⟨(PySem.PyData.keyHash P (.ofString "__dict__")), (.str (.ofString "__dict__") 379), (.ref 155)⟩, ⟨(PySem.PyData.keyHash P (.ofString "__weakref__")), (.str (.ofString "__weakref__") 381), (.ref 156)⟩, ⟨(PySem.PyData.keyHash P (.ofString "__doc__")), (.str (.ofString "__doc__") 382), .none⟩]) 4), (List.toArray [])⟩) ::
((nat_lit 154), ⟨(.type "type"), none, (.cls ⟨(.ofString "Symbols"), [(.type "object")], [(.ref 154), (.type "object")], 153, (.ofString "Symbols"), true, [], [], false, none, false⟩), (List.toArray [none, none, (some (.str (.ofString "Symbols") 265)), (some (.str (.ofString "Symbols") 273)), (some (.builtin "object.__new__")), (some (.bool true))])⟩) ::
((nat_lit 155), ⟨(.type "getset_descriptor"), none, (.fields (List.toArray [(.str (.ofString "__dict__") 378), (.ref 154), (.builtin "function.__dict__"), (.builtin "function.__dict__#set")])), (List.toArray [])⟩) ::
((nat_lit 156), ⟨(.type "getset_descriptor"), none, (.fields (List.toArray [(.str (.ofString "__weakref__") 380), (.ref 154), (.builtin "ExceptionGroup.__weakref__"), .none])), (List.toArray [])⟩) ::
((nat_lit 159), ⟨(.type "tuple"), none, (.seq (List.toArray []) 0), (List.toArray [])⟩) ::
((nat_lit 161), ⟨(.type "tuple"), none, (.seq (List.toArray [(.str (.ofString "formal") 390)]) 0), (List.toArray [])⟩) ::
((nat_lit 162), ⟨(.type "tuple"), none, (.seq (List.toArray []) 0), (List.toArray [])⟩) ::
((nat_lit 164), ⟨(.type "code"), none, (.fields (List.toArray [(.str (.ofString "system_error") 387), (.str (.ofString "system_error") 388), (.str (.ofString "/claim/cut.py") 389), (.int 79 0), (.int 1 0), (.int 0 0), (.int 0 0), (.int 3 0), (.ref 159), (.bool true), (.int 181 0), (.ref 160), .none, (.ref 161), (.ref 162), (.ref 163), (.int 391 0), (.int 79 0), (.str (.ofString "/claim/cut.py") 392)])), (List.toArray [])⟩) ::
((nat_lit 165), ⟨(.type "function"), none, (.func ⟨(.ofString "system_error"), (.ofString "system_error"), (fP (sT 14)), (.stmts (fB (sT 14))), (fS (sT 14)), 3, [], .none, .none, .none, (.str (.ofString "clausemill.terms") 385), none, (.ref 164), .none, 0⟩), (List.toArray [])⟩) ::
((nat_lit 166), ⟨(.type "tuple"), none, (.seq (List.toArray []) 0), (List.toArray [])⟩) ::
((nat_lit 168), ⟨(.type "tuple"), none, (.seq (List.toArray [(.str (.ofString "symbols") 397), (.str (.ofString "name") 398), (.str (.ofString "parts") 399), (.str (.ofString "args") 400), (.str (.ofString "part") 401)]) 0), (List.toArray [])⟩) ::
((nat_lit 169), ⟨(.type "tuple"), none, (.seq (List.toArray []) 0), (List.toArray [])⟩) ::
((nat_lit 171), ⟨(.type "code"), none, (.fields (List.toArray [(.str (.ofString "formal_of") 394), (.str (.ofString "formal_of") 395), (.str (.ofString "/claim/cut.py") 396), (.int 81 0), (.int 3 0), (.int 0 0), (.int 0 0), (.int 3 0), (.ref 166), (.bool true), (.int 181 0), (.ref 167), .none, (.ref 168), (.ref 169), (.ref 170), (.int 402 0), (.int 81 0), (.str (.ofString "/claim/cut.py") 403)])), (List.toArray [])⟩) ::
((nat_lit 172), ⟨(.type "function"), none, (.func ⟨(.ofString "formal_of"), (.ofString "formal_of"), (fP (sT 15)), (.stmts (fB (sT 15))), (fS (sT 15)), 3, [], .none, .none, .none, (.str (.ofString "clausemill.terms") 385), none, (.ref 171), .none, 0⟩), (List.toArray [])⟩) ::
((nat_lit 173), ⟨(.type "tuple"), none, (.seq (List.toArray []) 0), (List.toArray [])⟩) ::
((nat_lit 175), ⟨(.type "tuple"), none, (.seq (List.toArray [(.str (.ofString "symbols") 408), (.str (.ofString "what") 409)]) 0), (List.toArray [])⟩) ::
((nat_lit 176), ⟨(.type "tuple"), none, (.seq (List.toArray []) 0), (List.toArray [])⟩) ::
((nat_lit 178), ⟨(.type "code"), none, (.fields (List.toArray [(.str (.ofString "resource_error") 405), (.str (.ofString "resource_error") 406), (.str (.ofString "/claim/cut.py") 407), (.int 86 0), (.int 2 0), (.int 0 0), (.int 0 0), (.int 3 0), (.ref 173), (.bool true), (.int 181 0), (.ref 174), .none, (.ref 175), (.ref 176), (.ref 177), (.int 410 0), (.int 86 0), (.str (.ofString "/claim/cut.py") 411)])), (List.toArray [])⟩) ::
((nat_lit 179), ⟨(.type "function"), none, (.func ⟨(.ofString "resource_error"), (.ofString "resource_error"), (fP (sT 16)), (.stmts (fB (sT 16))), (fS (sT 16)), 3, [], .none, .none, .none, (.str (.ofString "clausemill.terms") 385), none, (.ref 178), .none, 0⟩), (List.toArray [])⟩) ::
((nat_lit 187), ⟨(.type "tuple"), none, (.seq (List.toArray [(.int 100000 441)]) 0), (List.toArray [])⟩) ::
((nat_lit 188), ⟨(.type "tuple"), none, (.seq (List.toArray []) 0), (List.toArray [])⟩) ::
((nat_lit 190), ⟨(.type "tuple"), none, (.seq (List.toArray [(.str (.ofString "self") 445), (.str (.ofString "symbols") 446), (.str (.ofString "max_heap") 447)]) 0), (List.toArray [])⟩) ::
((nat_lit 191), ⟨(.type "tuple"), none, (.seq (List.toArray []) 0), (List.toArray [])⟩) ::
((nat_lit 193), ⟨(.type "code"), none, (.fields (List.toArray [(.str (.ofString "__init__") 442), (.str (.ofString "Cells.__init__") 443), (.str (.ofString "/claim/cut.py") 444), (.int 98 0), (.int 3 0), (.int 0 0), (.int 0 0), (.int 3 0), (.ref 188), (.bool true), (.int 181 0), (.ref 189), .none, (.ref 190), (.ref 191), (.ref 192), (.int 448 0), (.int 98 0), (.str (.ofString "/claim/cut.py") 449)])), (List.toArray [])⟩) ::
((nat_lit 194), ⟨(.type "function"), none, (.func ⟨(.ofString "__init__"), (.ofString "Cells.__init__"), (fP (sM 25 0)), (.stmts (fB (sM 25 0))), (fS (sM 25 0)), 3, [], (.ref 187), .none, .none, (.str (.ofString "clausemill.store") 413), none, (.ref 193), .none, 0⟩), (List.toArray [])⟩) ::
((nat_lit 195), ⟨(.type "tuple"), none, (.seq (List.toArray []) 0), (List.toArray [])⟩) ::
((nat_lit 197), ⟨(.type "tuple"), none, (.seq (List.toArray [(.str (.ofString "self") 454), (.str (.ofString "cell") 455), (.str (.ofString "address") 456)]) 0), (List.toArray [])⟩) ::
((nat_lit 198), ⟨(.type "tuple"), none, (.seq (List.toArray []) 0), (List.toArray [])⟩) ::
((nat_lit 200), ⟨(.type "code"), none, (.fields (List.toArray [(.str (.ofString "push") 451), (.str (.ofString "Cells.push") 452), (.str (.ofString "/claim/cut.py") 453), (.int 107 0), (.int 2 0), (.int 0 0), (.int 0 0), (.int 3 0), (.ref 195), (.bool true), (.int 181 0), (.ref 196), .none, (.ref 197), (.ref 198), (.ref 199), (.int 457 0), (.int 107 0), (.str (.ofString "/claim/cut.py") 458)])), (List.toArray [])⟩) ::
((nat_lit 201), ⟨(.type "function"), none, (.func ⟨(.ofString "push"), (.ofString "Cells.push"), (fP (sM 25 1)), (.stmts (fB (sM 25 1))), (fS (sM 25 1)), 3, [], .none, .none, .none, (.str (.ofString "clausemill.store") 413), none, (.ref 200), .none, 0⟩), (List.toArray [])⟩) ::
((nat_lit 202), ⟨(.type "tuple"), none, (.seq (List.toArray []) 0), (List.toArray [])⟩) ::
((nat_lit 204), ⟨(.type "tuple"), none, (.seq (List.toArray [(.str (.ofString "self") 463), (.str (.ofString "cell") 464)]) 0), (List.toArray [])⟩) ::
((nat_lit 205), ⟨(.type "tuple"), none, (.seq (List.toArray []) 0), (List.toArray [])⟩) ::
((nat_lit 207), ⟨(.type "code"), none, (.fields (List.toArray [(.str (.ofString "new_var") 460), (.str (.ofString "Cells.new_var") 461), (.str (.ofString "/claim/cut.py") 462), (.int 114 0), (.int 1 0), (.int 0 0), (.int 0 0), (.int 3 0), (.ref 202), (.bool true), (.int 181 0), (.ref 203), .none, (.ref 204), (.ref 205), (.ref 206), (.int 465 0), (.int 114 0), (.str (.ofString "/claim/cut.py") 466)])), (List.toArray [])⟩) ::
((nat_lit 208), ⟨(.type "function"), none, (.func ⟨(.ofString "new_var"), (.ofString "Cells.new_var"), (fP (sM 25 2)), (.stmts (fB (sM 25 2))), (fS (sM 25 2)), 3, [], .none, .none, .none, (.str (.ofString "clausemill.store") 413), none, (.ref 207), .none, 0⟩), (List.toArray [])⟩) ::
((nat_lit 209), ⟨(.type "tuple"), none, (.seq (List.toArray []) 0), (List.toArray [])⟩) ::
((nat_lit 211), ⟨(.type "tuple"), none, (.seq (List.toArray [(.str (.ofString "self") 471), (.str (.ofString "count") 472), (.str (.ofString "first") 473), (.str (.ofString "step") 474)]) 0), (List.toArray [])⟩) ::
((nat_lit 212), ⟨(.type "tuple"), none, (.seq (List.toArray []) 0), (List.toArray [])⟩) ::
((nat_lit 214), ⟨(.type "code"), none, (.fields (List.toArray [(.str (.ofString "reserve") 468), (.str (.ofString "Cells.reserve") 469), (.str (.ofString "/claim/cut.py") 470), (.int 119 0), (.int 2 0), (.int 0 0), (.int 0 0), (.int 3 0), (.ref 209), (.bool true), (.int 181 0), (.ref 210), .none, (.ref 211), (.ref 212), (.ref 213), (.int 475 0), (.int 119 0), (.str (.ofString "/claim/cut.py") 476)])), (List.toArray [])⟩) ::
((nat_lit 215), ⟨(.type "function"), none, (.func ⟨(.ofString "reserve"), (.ofString "Cells.reserve"), (fP (sM 25 3)), (.stmts (fB (sM 25 3))), (fS (sM 25 3)), 3, [], .none, .none, .none, (.str (.ofString "clausemill.store") 413), none, (.ref 214), .none, 0⟩), (List.toArray [])⟩) ::
((nat_lit 216), ⟨(.type "tuple"), none, (.seq (List.toArray []) 0), (List.toArray [])⟩) ::
((nat_lit 218), ⟨(.type "tuple"), none, (.seq (List.toArray [(.str (.ofString "self") 481), (.str (.ofString "h") 482)]) 0), (List.toArray [])⟩) ::
((nat_lit 219), ⟨(.type "tuple"), none, (.seq (List.toArray []) 0), (List.toArray [])⟩) ::
((nat_lit 221), ⟨(.type "code"), none, (.fields (List.toArray [(.str (.ofString "trim") 478), (.str (.ofString "Cells.trim") 479), (.str (.ofString "/claim/cut.py") 480), (.int 127 0), (.int 2 0), (.int 0 0), (.int 0 0), (.int 3 0), (.ref 216), (.bool true), (.int 181 0), (.ref 217), .none, (.ref 218), (.ref 219), (.ref 220), (.int 483 0), (.int 127 0), (.str (.ofString "/claim/cut.py") 484)])), (List.toArray [])⟩) ::
((nat_lit 222), ⟨(.type "function"), none, (.func ⟨(.ofString "trim"), (.ofString "Cells.trim"), (fP (sM 25 4)), (.stmts (fB (sM 25 4))), (fS (sM 25 4)), 3, [], .none, .none, .none, (.str (.ofString "clausemill.store") 413), none, (.ref 221), .none, 0⟩), (List.toArray [])⟩) ::
((nat_lit 223), ⟨(.type "tuple"), none, (.seq (List.toArray []) 0), (List.toArray [])⟩) ::
((nat_lit 225), ⟨(.type "tuple"), none, (.seq (List.toArray [(.str (.ofString "self") 489), (.str (.ofString "cell") 490), (.str (.ofString "tag") 491), (.str (.ofString "found") 492)]) 0), (List.toArray [])⟩) ::
((nat_lit 226), ⟨(.type "tuple"), none, (.seq (List.toArray []) 0), (List.toArray [])⟩) ::
((nat_lit 228), ⟨(.type "code"), none, (.fields (List.toArray [(.str (.ofString "deref") 486), (.str (.ofString "Cells.deref") 487), (.str (.ofString "/claim/cut.py") 488), (.int 130 0), (.int 2 0), (.int 0 0), (.int 0 0), (.int 3 0), (.ref 223), (.bool true), (.int 181 0), (.ref 224), .none, (.ref 225), (.ref 226), (.ref 227), (.int 493 0), (.int 130 0), (.str (.ofString "/claim/cut.py") 494)])), (List.toArray [])⟩) ::
((nat_lit 229), ⟨(.type "function"), none, (.func ⟨(.ofString "deref"), (.ofString "Cells.deref"), (fP (sM 25 5)), (.stmts (fB (sM 25 5))), (fS (sM 25 5)), 3, [], .none, .none, .none, (.str (.ofString "clausemill.store") 413), none, (.ref 228), .none, 0⟩), (List.toArray [])⟩) ::
((nat_lit 230), ⟨(.type "tuple"), none, (.seq (List.toArray []) 0), (List.toArray [])⟩) ::
((nat_lit 232), ⟨(.type "tuple"), none, (.seq (List.toArray [(.str (.ofString "self") 499), (.str (.ofString "cell") 500)]) 0), (List.toArray [])⟩) ::
((nat_lit 233), ⟨(.type "tuple"), none, (.seq (List.toArray []) 0), (List.toArray [])⟩) ::
((nat_lit 235), ⟨(.type "code"), none, (.fields (List.toArray [(.str (.ofString "is_unbound") 496), (.str (.ofString "Cells.is_unbound") 497), (.str (.ofString "/claim/cut.py") 498), (.int 143 0), (.int 2 0), (.int 0 0), (.int 0 0), (.int 3 0), (.ref 230), (.bool true), (.int 181 0), (.ref 231), .none, (.ref 232), (.ref 233), (.ref 234), (.int 501 0), (.int 143 0), (.str (.ofString "/claim/cut.py") 502)])), (List.toArray [])⟩) ::
((nat_lit 236), ⟨(.type "function"), none, (.func ⟨(.ofString "is_unbound"), (.ofString "Cells.is_unbound"), (fP (sM 25 6)), (.stmts (fB (sM 25 6))), (fS (sM 25 6)), 3, [], .none, .none, .none, (.str (.ofString "clausemill.store") 413), none, (.ref 235), .none, 0⟩), (List.toArray [])⟩) ::
((nat_lit 237), ⟨(.type "tuple"), none, (.seq (List.toArray []) 0), (List.toArray [])⟩) ::
((nat_lit 239), ⟨(.type "tuple"), none, (.seq (List.toArray [(.str (.ofString "self") 507), (.str (.ofString "cell") 508), (.str (.ofString "value") 509), (.str (.ofString "place") 510)]) 0), (List.toArray [])⟩) ::
((nat_lit 240), ⟨(.type "tuple"), none, (.seq (List.toArray []) 0), (List.toArray [])⟩) ::
((nat_lit 242), ⟨(.type "code"), none, (.fields (List.toArray [(.str (.ofString "bind") 504), (.str (.ofString "Cells.bind") 505), (.str (.ofString "/claim/cut.py") 506), (.int 146 0), (.int 3 0), (.int 0 0), (.int 0 0), (.int 3 0), (.ref 237), (.bool true), (.int 181 0), (.ref 238), .none, (.ref 239), (.ref 240), (.ref 241), (.int 511 0), (.int 146 0), (.str (.ofString "/claim/cut.py") 512)])), (List.toArray [])⟩) ::
((nat_lit 243), ⟨(.type "function"), none, (.func ⟨(.ofString "bind"), (.ofString "Cells.bind"), (fP (sM 25 7)), (.stmts (fB (sM 25 7))), (fS (sM 25 7)), 3, [], .none, .none, .none, (.str (.ofString "clausemill.store") 413), none, (.ref 242), .none, 0⟩), (List.toArray [])⟩) ::
((nat_lit 244), ⟨(.type "tuple"), none, (.seq (List.toArray []) 0), (List.toArray [])⟩) ::
((nat_lit 246), ⟨(.type "tuple"), none, (.seq (List.toArray [(.str (.ofString "self") 517), (.str (.ofString "c1") 518), (.str (.ofString "c2") 519)]) 0), (List.toArray [])⟩) ::
((nat_lit 247), ⟨(.type "tuple"), none, (.seq (List.toArray []) 0), (List.toArray [])⟩) ::
((nat_lit 249), ⟨(.type "code"), none, (.fields (List.toArray [(.str (.ofString "bind_pair") 514), (.str (.ofString "Cells.bind_pair") 515), (.str (.ofString "/claim/cut.py") 516), (.int 157 0), (.int 3 0), (.int 0 0), (.int 0 0), (.int 3 0), (.ref 244), (.bool true), (.int 181 0), (.ref 245), .none, (.ref 246), (.ref 247), (.ref 248), (.int 520 0), (.int 157 0), (.str (.ofString "/claim/cut.py") 521)])), (List.toArray [])⟩) ::
((nat_lit 250), ⟨(.type "function"), none, (.func ⟨(.ofString "bind_pair"), (.ofString "Cells.bind_pair"), (fP (sM 25 8)), (.stmts (fB (sM 25 8))), (fS (sM 25 8)), 3, [], .none, .none, .none, (.str (.ofString "clausemill.store") 413), none, (.ref 249), .none, 0⟩), (List.toArray [])⟩) ::
((nat_lit 251), ⟨(.type "tuple"), none, (.seq (List.toArray []) 0), (List.toArray [])⟩) ::
((nat_lit 253), ⟨(.type "tuple"), none, (.seq (List.toArray [(.str (.ofString "self") 526), (.str (.ofString "cell") 527), (.str (.ofString "fresh") 528)]) 0), (List.toArray [])⟩) ::
((nat_lit 254), ⟨(.type "tuple"), none, (.seq (List.toArray []) 0), (List.toArray [])⟩) ::
((nat_lit 256), ⟨(.type "code"), none, (.fields (List.toArray [(.str (.ofString "globalise") 523), (.str (.ofString "Cells.globalise") 524), (.str (.ofString "/claim/cut.py") 525), (.int 160 0), (.int 2 0), (.int 0 0), (.int 0 0), (.int 3 0), (.ref 251), (.bool true), (.int 181 0), (.ref 252), .none, (.ref 253), (.ref 254), (.ref 255), (.int 529 0), (.int 160 0), (.str (.ofString "/claim/cut.py") 530)])), (List.toArray [])⟩) ::
((nat_lit 257), ⟨(.type "function"), none, (.func ⟨(.ofString "globalise"), (.ofString "Cells.globalise"), (fP (sM 25 9)), (.stmts (fB (sM 25 9))), (fS (sM 25 9)), 3, [], .none, .none, .none, (.str (.ofString "clausemill.store") 413), none, (.ref 256), .none, 0⟩), (List.toArray [])⟩) ::
((nat_lit 258), ⟨(.type "tuple"), none, (.seq (List.toArray []) 0), (List.toArray [])⟩) ::
((nat_lit 260), ⟨(.type "tuple"), none, (.seq (List.toArray [(.str (.ofString "self") 535)]) 0), (List.toArray [])⟩) ::
((nat_lit 261), ⟨(.type "tuple"), none, (.seq (List.toArray []) 0), (List.toArray [])⟩) ::
((nat_lit 263), ⟨(.type "code"), none, (.fields (List.toArray [(.str (.ofString "mark") 532), (.str (.ofString "Cells.mark") 533), (.str (.ofString "/claim/cut.py") 534), (.int 168 0), (.int 1 0), (.int 0 0), (.int 0 0), (.int 3 0), (.ref 258), (.bool true), (.int 181 0), (.ref 259), .none, (.ref 260), (.ref 261), (.ref 262), (.int 536 0), (.int 168 0), (.str (.ofString "/claim/cut.py") 537)])), (List.toArray [])⟩) ::
((nat_lit 264), ⟨(.type "function"), none, (.func ⟨(.ofString "mark"), (.ofString "Cells.mark"), (fP (sM 25 10)), (.stmts (fB (sM 25 10))), (fS (sM 25 10)), 3, [], .none, .none, .none, (.str (.ofString "clausemill.store") 413), none, (.ref 263), .none, 0⟩), (List.toArray [])⟩) ::
((nat_lit 265), ⟨(.type "tuple"), none, (.seq (List.toArray []) 0), (List.toArray [])⟩) ::
((nat_lit 267), ⟨(.type "tuple"), none, (.seq (List.toArray [(.str (.ofString "self") 542), (.str (.ofString "mark") 543)]) 0), (List.toArray [])⟩) ::
((nat_lit 268), ⟨(.type "tuple"), none, (.seq (List.toArray []) 0), (List.toArray [])⟩) ::
((nat_lit 270), ⟨(.type "code"), none, (.fields (List.toArray [(.str (.ofString "undo_to") 539), (.str (.ofString "Cells.undo_to") 540), (.str (.ofString "/claim/cut.py") 541), (.int 171 0), (.int 2 0), (.int 0 0), (.int 0 0), (.int 3 0), (.ref 265), (.bool true), (.int 181 0), (.ref 266), .none, (.ref 267), (.ref 268), (.ref 269), (.int 544 0), (.int 171 0), (.str (.ofString "/claim/cut.py") 545)])), (List.toArray [])⟩) ::
((nat_lit 271), ⟨(.type "function"), none, (.func ⟨(.ofString "undo_to"), (.ofString "Cells.undo_to"), (fP (sM 25 11)), (.stmts (fB (sM 25 11))), (fS (sM 25 11)), 3, [], .none, .none, .none, (.str (.ofString "clausemill.store") 413), none, (.ref 270), .none, 0⟩), (List.toArray [])⟩) ::
((nat_lit 272), ⟨(.type "tuple"), none, (.seq (List.toArray []) 0), (List.toArray [])⟩) ::
((nat_lit 274), ⟨(.type "tuple"), none, (.seq (List.toArray [(.str (.ofString "self") 550), (.str (.ofString "i") 551), (.str (.ofString "value") 552)]) 0), (List.toArray [])⟩) ::
((nat_lit 275), ⟨(.type "tuple"), none, (.seq (List.toArray []) 0), (List.toArray [])⟩) ::
((nat_lit 277), ⟨(.type "code"), none, (.fields (List.toArray [(.str (.ofString "stack_put") 547), (.str (.ofString "Cells.stack_put") 548), (.str (.ofString "/claim/cut.py") 549), (.int 174 0), (.int 3 0), (.int 0 0), (.int 0 0), (.int 3 0), (.ref 272), (.bool true), (.int 181 0), (.ref 273), .none, (.ref 274), (.ref 275), (.ref 276), (.int 553 0), (.int 174 0), (.str (.ofString "/claim/cut.py") 554)])), (List.toArray [])⟩) ::
((nat_lit 278), ⟨(.type "function"), none, (.func ⟨(.ofString "stack_put"), (.ofString "Cells.stack_put"), (fP (sM 25 12)), (.stmts (fB (sM 25 12))), (fS (sM 25 12)), 3, [], .none, .none, .none, (.str (.ofString "clausemill.store") 413), none, (.ref 277), .none, 0⟩), (List.toArray [])⟩) ::
((nat_lit 279), ⟨(.type "tuple"), none, (.seq (List.toArray []) 0), (List.toArray [])⟩) ::
((nat_lit 281), ⟨(.type "tuple"), none, (.seq (List.toArray [(.str (.ofString "self") 559), (.str (.ofString "cell") 560)]) 0), (List.toArray [])⟩) ::
((nat_lit 282), ⟨(.type "tuple"), none, (.seq (List.toArray []) 0), (List.toArray [])⟩) ::
((nat_lit 284), ⟨(.type "code"), none, (.fields (List.toArray [(.str (.ofString "is_compound") 556), (.str (.ofString "Cells.is_compound") 557), (.str (.ofString "/claim/cut.py") 558), (.int 177 0), (.int 2 0), (.int 0 0), (.int 0 0), (.int 3 0), (.ref 279), (.bool true), (.int 181 0), (.ref 280), .none, (.ref 281), (.ref 282), (.ref 283), (.int 561 0), (.int 177 0), (.str (.ofString "/claim/cut.py") 562)])), (List.toArray [])⟩) ::
((nat_lit 285), ⟨(.type "function"), none, (.func ⟨(.ofString "is_compound"), (.ofString "Cells.is_compound"), (fP (sM 25 13)), (.stmts (fB (sM 25 13))), (fS (sM 25 13)), 3, [], .none, .none, .none, (.str (.ofString "clausemill.store") 413), none, (.ref 284), .none, 0⟩), (List.toArray [])⟩) ::
((nat_lit 286), ⟨(.type "tuple"), none, (.seq (List.toArray []) 0), (List.toArray [])⟩) ::
((nat_lit 288), ⟨(.type "tuple"), none, (.seq (List.toArray [(.str (.ofString "self") 567), (.str (.ofString "cell") 568), (.str (.ofString "tag") 569)]) 0), (List.toArray [])⟩) ::
((nat_lit 289), ⟨(.type "tuple"), none, (.seq (List.toArray []) 0), (List.toArray [])⟩) ::
((nat_lit 291), ⟨(.type "code"), none, (.fields (List.toArray [(.str (.ofString "functor_of") 564), (.str (.ofString "Cells.functor_of") 565), (.str (.ofString "/claim/cut.py") 566), (.int 180 0), (.int 2 0), (.int 0 0), (.int 0 0), (.int 3 0), (.ref 286), (.bool true), (.int 181 0), (.ref 287), .none, (.ref 288), (.ref 289), (.ref 290), (.int 570 0), (.int 180 0), (.str (.ofString "/claim/cut.py") 571)])), (List.toArray [])⟩) ::
((nat_lit 292), ⟨(.type "function"), none, (.func ⟨(.ofString "functor_of"), (.ofString "Cells.functor_of"), (fP (sM 25 14)), (.stmts (fB (sM 25 14))), (fS (sM 25 14)), 3, [], .none, .none, .none, (.str (.ofString "clausemill.store") 413), none, (.ref 291), .none, 0⟩), (List.toArray [])⟩) ::
((nat_lit 293), ⟨(.type "tuple"), none, (.seq (List.toArray []) 0), (List.toArray [])⟩) ::
((nat_lit 295), ⟨(.type "tuple"), none, (.seq (List.toArray [(.str (.ofString "self") 576), (.str (.ofString "cell") 577), (.str (.ofString "tag") 578)]) 0), (List.toArray [])⟩) ::
((nat_lit 296), ⟨(.type "tuple"), none, (.seq (List.toArray []) 0), (List.toArray [])⟩) ::
((nat_lit 298), ⟨(.type "code"), none, (.fields (List.toArray [(.str (.ofString "width") 573), (.str (.ofString "Cells.width") 574), (.str (.ofString "/claim/cut.py") 575), (.int 190 0), (.int 2 0), (.int 0 0), (.int 0 0), (.int 3 0), (.ref 293), (.bool true), (.int 181 0), (.ref 294), .none, (.ref 295), (.ref 296), (.ref 297), (.int 579 0), (.int 190 0), (.str (.ofString "/claim/cut.py") 580)])), (List.toArray [])⟩) ::
((nat_lit 299), ⟨(.type "function"), none, (.func ⟨(.ofString "width"), (.ofString "Cells.width"), (fP (sM 25 15)), (.stmts (fB (sM 25 15))), (fS (sM 25 15)), 3, [], .none, .none, .none, (.str (.ofString "clausemill.store") 413), none, (.ref 298), .none, 0⟩), (List.toArray [])⟩) ::
((nat_lit 300), ⟨(.type "tuple"), none, (.seq (List.toArray []) 0), (List.toArray [])⟩) ::
((nat_lit 302), ⟨(.type "tuple"), none, (.seq (List.toArray [(.str (.ofString "self") 585), (.str (.ofString "cell") 586)]) 0), (List.toArray [])⟩) ::
((nat_lit 303), ⟨(.type "tuple"), none, (.seq (List.toArray []) 0), (List.toArray [])⟩) ::
((nat_lit 305), ⟨(.type "code"), none, (.fields (List.toArray [(.str (.ofString "base") 582), (.str (.ofString "Cells.base") 583), (.str (.ofString "/claim/cut.py") 584), (.int 198 0), (.int 2 0), (.int 0 0), (.int 0 0), (.int 3 0), (.ref 300), (.bool true), (.int 181 0), (.ref 301), .none, (.ref 302), (.ref 303), (.ref 304), (.int 587 0), (.int 198 0), (.str (.ofString "/claim/cut.py") 588)])), (List.toArray [])⟩) ::
((nat_lit 306), ⟨(.type "function"), none, (.func ⟨(.ofString "base"), (.ofString "Cells.base"), (fP (sM 25 16)), (.stmts (fB (sM 25 16))), (fS (sM 25 16)), 3, [], .none, .none, .none, (.str (.ofString "clausemill.store") 413), none, (.ref 305), .none, 0⟩), (List.toArray [])⟩) ::
((nat_lit 307), ⟨(.type "tuple"), none, (.seq (List.toArray []) 0), (List.toArray [])⟩) ::
((nat_lit 309), ⟨(.type "tuple"), none, (.seq (List.toArray [(.str (.ofString "self") 593), (.str (.ofString "cell") 594), (.str (.ofString "i") 595)]) 0), (List.toArray [])⟩) ::
((nat_lit 310), ⟨(.type "tuple"), none, (.seq (List.toArray []) 0), (List.toArray [])⟩) ::
((nat_lit 312), ⟨(.type "code"), none, (.fields (List.toArray [(.str (.ofString "arg") 590), (.str (.ofString "Cells.arg") 591), (.str (.ofString "/claim/cut.py") 592), (.int 203 0), (.int 3 0), (.int 0 0), (.int 0 0), (.int 3 0), (.ref 307), (.bool true), (.int 181 0), (.ref 308), .none, (.ref 309), (.ref 310), (.ref 311), (.int 596 0), (.int 203 0), (.str (.ofString "/claim/cut.py") 597)])), (List.toArray [])⟩) ::
((nat_lit 313), ⟨(.type "function"), none, (.func ⟨(.ofString "arg"), (.ofString "Cells.arg"), (fP (sM 25 17)), (.stmts (fB (sM 25 17))), (fS (sM 25 17)), 3, [], .none, .none, .none, (.str (.ofString "clausemill.store") 413), none, (.ref 312), .none, 0⟩), (List.toArray [])⟩) ::
((nat_lit 314), ⟨(.type "tuple"), none, (.seq (List.toArray []) 0), (List.toArray [])⟩) ::
((nat_lit 316), ⟨(.type "tuple"), none, (.seq (List.toArray [(.str (.ofString "self") 602), (.str (.ofString "f") 603), (.str (.ofString "start") 604)]) 0), (List.toArray [])⟩) ::
((nat_lit 317), ⟨(.type "tuple"), none, (.seq (List.toArray []) 0), (List.toArray [])⟩) ::
((nat_lit 319), ⟨(.type "code"), none, (.fields (List.toArray [(.str (.ofString "new_block") 599), (.str (.ofString "Cells.new_block") 600), (.str (.ofString "/claim/cut.py") 601), (.int 206 0), (.int 2 0), (.int 0 0), (.int 0 0), (.int 3 0), (.ref 314), (.bool true), (.int 181 0), (.ref 315), .none, (.ref 316), (.ref 317), (.ref 318), (.int 605 0), (.int 206 0), (.str (.ofString "/claim/cut.py") 606)])), (List.toArray [])⟩) ::
((nat_lit 320), ⟨(.type "function"), none, (.func ⟨(.ofString "new_block"), (.ofString "Cells.new_block"), (fP (sM 25 18)), (.stmts (fB (sM 25 18))), (fS (sM 25 18)), 3, [], .none, .none, .none, (.str (.ofString "clausemill.store") 413), none, (.ref 319), .none, 0⟩), (List.toArray [])⟩) ::
((nat_lit 321), ⟨(.type "tuple"), none, (.seq (List.toArray [(.str (.ofString "bb") 608), (.str (.ofString "hb") 609), (.str (.ofString "heap") 610), (.str (.ofString "max_heap") 611), (.str (.ofString "stack") 612), (.str (.ofString "symbols") 613), (.str (.ofString "trail") 614)]) 0), (List.toArray [])⟩) ::
((nat_lit 322), ⟨(.type "dict"), none, (.dict (List.toArray [⟨(PySem.PyData.keyHash P (.ofString "__module__")), (.str (.ofString "__module__") 436), (.str (.ofString "clausemill.store") 413)⟩, ⟨(PySem.PyData.keyHash P (.ofString "__firstlineno__")), (.str (.ofString "__firstlineno__") 440), (.int 96 439)⟩, ⟨(PySem.PyData.keyHash P (.ofString "__init__")), (.str (.ofString "__init__") 450), (.ref 194)⟩, ⟨(PySem.PyData.keyHash P (.ofString "push")), (.str (.ofString "push") 459), (.ref 201)⟩, ⟨(PySem.PyData.keyHash P (.ofString "new_var")), (.str (.ofString "new_var") 467), (.ref 208)⟩, ⟨(PySem.PyData.keyHash P (.ofString "reserve")), (.str (.ofString "reserve") 477), (.ref 215)⟩, ⟨(PySem.PyData.keyHash P (.ofString "trim")), (.str (.ofString "trim") 485), (.ref 222)⟩, ⟨(PySem.PyData.keyHash P (.ofString "deref")), (.str (.ofString "deref") 495), (.ref 229)⟩, ⟨(PySem.PyData.keyHash P (.ofString "is_unbound")), (.str (.ofString "is_unbound") 503), (.ref 236)⟩, ⟨(PySem.PyData.keyHash P (.ofString "bind")), (.str (.ofString "bind") 513), (.ref 243)⟩, ⟨(PySem.PyData.keyHash P (.ofString "bind_pair")), (.str (.ofString "bind_pair") 522), (.ref 250)⟩, ⟨(PySem.PyData.keyHash P (.ofString "globalise")), (.str (.ofString "globalise") 531), (.ref 257)⟩, ⟨(PySem.PyData.keyHash P (.ofString "mark")), (.str (.ofString "mark") 538), (.ref 264)⟩, ⟨(PySem.PyData.keyHash P (.ofString "undo_to")), (.str (.ofString "undo_to") 546), (.ref 271)⟩, ⟨(PySem.PyData.keyHash P (.ofString "stack_put")), (.str (.ofString "stack_put") 555), (.ref 278)⟩, ⟨(PySem.PyData.keyHash P (.ofString "is_compound")), (.str (.ofString "is_compound") 563), (.ref 285)⟩, ⟨(PySem.PyData.keyHash P (.ofString "functor_of")), (.str (.ofString "functor_of") 572), (.ref 292)⟩, ⟨(PySem.PyData.keyHash P (.ofString "width")), (.str (.ofString "width") 581), (.ref 299)⟩, ⟨(PySem.PyData.keyHash P (.ofString "base")), (.str (.ofString "base") 589), (.ref 306)⟩, ⟨(PySem.PyData.keyHash P (.ofString "arg")), (.str (.ofString "arg") 598), (.ref 313)⟩, ⟨(PySem.PyData.keyHash P (.ofString "new_block")), (.str (.ofString "new_block") 607), (.ref 320)⟩, ⟨(PySem.PyData.keyHash P (.ofString "__static_attributes__")), (.str (.ofString "__static_attributes__") 615), (.ref 321)⟩, ⟨(PySem.PyData.keyHash P (.ofString "__dict__")), (.str (.ofString "__dict__") 617), (.ref 324)⟩, ⟨(PySem.PyData.keyHash P (.ofString "__weakref__")), (.str (.ofString "__weakref__") 619), (.ref 325)⟩, ⟨(PySem.PyData.keyHash P (.ofString "__doc__")), (.str (.ofString "__doc__") 620), .none⟩]) 4), (List.toArray [])⟩) ::
((nat_lit 323), ⟨(.type "type"), none, (.cls ⟨(.ofString "Cells"), [(.type "object")], [(.ref 323), (.type "object")], 322, (.ofString "Cells"), true, [], [(.ref 373)], false, none, false⟩), (List.toArray [none, none, (some (.str (.ofString "Cells") 429)), (some (.str (.ofString "Cells") 437)), (some (.builtin "object.__new__")), (some (.bool true))])⟩) ::
((nat_lit 324), ⟨(.type "getset_descriptor"), none, (.fields (List.toArray [(.str (.ofString "__dict__") 616), (.ref 323), (.builtin "function.__dict__"), (.builtin "function.__dict__#set")])), (List.toArray [])⟩) ::
((nat_lit 325), ⟨(.type "getset_descriptor"), none, (.fields (List.toArray [(.str (.ofString "__weakref__") 618), (.ref 323), (.builtin "ExceptionGroup.__weakref__"), .none])), (List.toArray [])⟩) ::
((nat_lit 328), ⟨(.type "tuple"), none, (.seq (List.toArray [(.ref 323)]) 0), (List.toArray [])⟩) ::
((nat_lit 335), ⟨(.type "tuple"), none, (.seq (List.toArray []) 0), (List.toArray [])⟩) ::
((nat_lit 337), ⟨(.type "tuple"), none, (.seq (List.toArray [(.str (.ofString "self") 638), (.str (.ofString "f") 639), (.str (.ofString "cells") 640), (.str (.ofString "values") 641), (.str (.ofString "cell") 642), (.str (.ofString "made") 643), (.str (.ofString "place") 644), (.str (.ofString "value") 645)]) 0), (List.toArray [])⟩) ::
((nat_lit 338), ⟨(.type "tuple"), none, (.seq (List.toArray []) 0), (List.toArray [])⟩) ::
((nat_lit 340), ⟨(.type "code"), none, (.fields (List.toArray [(.str (.ofString "new_struct") 635), (.str (.ofString "Store.new_struct") 636), (.str (.ofString "/claim/cut.py") 637), (.int 214 0), (.int 3 0), (.int 0 0), (.int 0 0), (.int 3 0), (.ref 335), (.bool true), (.int 181 0), (.ref 336), .none, (.ref 337), (.ref 338), (.ref 339), (.int 646 0), (.int 214 0), (.str (.ofString "/claim/cut.py") 647)])), (List.toArray [])⟩) ::
((nat_lit 341), ⟨(.type "function"), none, (.func ⟨(.ofString "new_struct"), (.ofString "Store.new_struct"), (fP (sM 26 0)), (.stmts (fB (sM 26 0))), (fS (sM 26 0)), 3, [], .none, .none, .none, (.str (.ofString "clausemill.store") 413), none, (.ref 340), .none, 0⟩), (List.toArray [])⟩) ::
((nat_lit 342), ⟨(.type "tuple"), none, (.seq (List.toArray [.none]) 0), (List.toArray [])⟩) ::
((nat_lit 343), ⟨(.type "tuple"), none, (.seq (List.toArray []) 0), (List.toArray [])⟩) ::
((nat_lit 345), ⟨(.type "tuple"), none, (.seq (List.toArray [(.str (.ofString "self") 652), (.str (.ofString "cells") 653), (.str (.ofString "tail") 654)]) 0), (List.toArray [])⟩) ::
((nat_lit 346), ⟨(.type "tuple"), none, (.seq (List.toArray []) 0), (List.toArray [])⟩) ::
((nat_lit 348), ⟨(.type "code"), none, (.fields (List.toArray [(.str (.ofString "build_list") 649), (.str (.ofString "Store.build_list") 650), (.str (.ofString "/claim/cut.py") 651), (.int 227 0), (.int 3 0), (.int 0 0), (.int 0 0), (.int 3 0), (.ref 343), (.bool true), (.int 181 0), (.ref 344), .none, (.ref 345), (.ref 346), (.ref 347), (.int 655 0), (.int 227 0), (.str (.ofString "/claim/cut.py") 656)])), (List.toArray [])⟩) ::
((nat_lit 349), ⟨(.type "function"), none, (.func ⟨(.ofString "build_list"), (.ofString "Store.build_list"), (fP (sM 26 1)), (.stmts (fB (sM 26 1))), (fS (sM 26 1)), 3, [], (.ref 342), .none, .none, (.str (.ofString "clausemill.store") 413), none, (.ref 348), .none, 0⟩), (List.toArray [])⟩) ::
((nat_lit 350), ⟨(.type "tuple"), none, (.seq (List.toArray []) 0), (List.toArray [])⟩) ::
((nat_lit 352), ⟨(.type "tuple"), none, (.seq (List.toArray [(.str (.ofString "self") 661), (.str (.ofString "cell") 662)]) 0), (List.toArray [])⟩) ::
((nat_lit 353), ⟨(.type "tuple"), none, (.seq (List.toArray []) 0), (List.toArray [])⟩) ::
((nat_lit 355), ⟨(.type "code"), none, (.fields (List.toArray [(.str (.ofString "list_cells") 658), (.str (.ofString "Store.list_cells") 659), (.str (.ofString "/claim/cut.py") 660), (.int 230 0), (.int 2 0), (.int 0 0), (.int 0 0), (.int 3 0), (.ref 350), (.bool true), (.int 181 0), (.ref 351), .none, (.ref 352), (.ref 353), (.ref 354), (.int 663 0), (.int 230 0), (.str (.ofString "/claim/cut.py") 664)])), (List.toArray [])⟩) ::
((nat_lit 356), ⟨(.type "function"), none, (.func ⟨(.ofString "list_cells"), (.ofString "Store.list_cells"), (fP (sM 26 2)), (.stmts (fB (sM 26 2))), (fS (sM 26 2)), 3, [], .none, .none, .none, (.str (.ofString "clausemill.store") 413), none, (.ref 355), .none, 0⟩), (List.toArray [])⟩) ::
((nat_lit 357), ⟨(.type "tuple"), none, (.seq (List.toArray []) 0), (List.toArray [])⟩) ::
((nat_lit 359), ⟨(.type "tuple"), none, (.seq (List.toArray [(.str (.ofString "self") 669), (.str (.ofString "term") 670), (.str (.ofString "table") 671), (.str (.ofString "k") 672), (.str (.ofString "kind") 673), (.str (.ofString "made") 674), (.str (.ofString "waiting") 675), (.str (.ofString "at") 676), (.str (.ofString "place") 677), (.str (.ofString "items") 678), (.str (.ofString "item") 679), (.str (.ofString "inner") 680)]) 0), (List.toArray [])⟩) ::
((nat_lit 360), ⟨(.type "tuple"), none, (.seq (List.toArray []) 0), (List.toArray [])⟩) ::
((nat_lit 362), ⟨(.type "code"), none, (.fields (List.toArray [(.str (.ofString "put_term") 666), (.str (.ofString "Store.put_term") 667), (.str (.ofString "/claim/cut.py") 668), (.int 233 0), (.int 3 0), (.int 0 0), (.int 0 0), (.int 3 0), (.ref 357), (.bool true), (.int 181 0), (.ref 358), .none, (.ref 359), (.ref 360), (.ref 361), (.int 681 0), (.int 233 0), (.str (.ofString "/claim/cut.py") 682)])), (List.toArray [])⟩) ::
((nat_lit 363), ⟨(.type "function"), none, (.func ⟨(.ofString "put_term"), (.ofString "Store.put_term"), (fP (sM 26 3)), (.stmts (fB (sM 26 3))), (fS (sM 26 3)), 3, [], .none, .none, .none, (.str (.ofString "clausemill.store") 413), none, (.ref 362), .none, 0⟩), (List.toArray [])⟩) ::
((nat_lit 364), ⟨(.type "tuple"), none, (.seq (List.toArray []) 0), (List.toArray [])⟩) ::
((nat_lit 366), ⟨(.type "tuple"), none, (.seq (List.toArray [(.str (.ofString "self") 687), (.str (.ofString "cell") 688), (.str (.ofString "table") 689)]) 0), (List.toArray [])⟩) ::
((nat_lit 367), ⟨(.type "tuple"), none, (.seq (List.toArray []) 0), (List.toArray [])⟩) ::
((nat_lit 369), ⟨(.type "code"), none, (.fields (List.toArray [(.str (.ofString "take_term") 684), (.str (.ofString "Store.take_term") 685), (.str (.ofString "/claim/cut.py") 686), (.int 270 0), (.int 3 0), (.int 0 0), (.int 0 0), (.int 3 0), (.ref 364), (.bool true), (.int 181 0), (.ref 365), .none, (.ref 366), (.ref 367), (.ref 368), (.int 690 0), (.int 270 0), (.str (.ofString "/claim/cut.py") 691)])), (List.toArray [])⟩) ::
((nat_lit 370), ⟨(.type "function"), none, (.func ⟨(.ofString "take_term"), (.ofString "Store.take_term"), (fP (sM 26 4)), (.stmts (fB (sM 26 4))), (fS (sM 26 4)), 3, [], .none, .none, .none, (.str (.ofString "clausemill.store") 413), none, (.ref 369), .none, 0⟩), (List.toArray [])⟩) ::
((nat_lit 371), ⟨(.type "tuple"), none, (.seq (List.toArray []) 0), (List.toArray [])⟩) ::
((nat_lit 372), ⟨(.type "dict"), none, (.dict (List.toArray [⟨(PySem.PyData.keyHash P (.ofString "__module__")), (.str (.ofString "__module__") 630), (.str (.ofString "clausemill.store") 413)⟩, ⟨(PySem.PyData.keyHash P (.ofString "__firstlineno__")), (.str (.ofString "__firstlineno__") 634), (.int 212 633)⟩, ⟨(PySem.PyData.keyHash P (.ofString "new_struct")), (.str (.ofString "new_struct") 648), (.ref 341)⟩, ⟨(PySem.PyData.keyHash P (.ofString "build_list")), (.str (.ofString "build_list") 657), (.ref 349)⟩, ⟨(PySem.PyData.keyHash P (.ofString "list_cells")), (.str (.ofString "list_cells") 665), (.ref 356)⟩, ⟨(PySem.PyData.keyHash P (.ofString "put_term")), (.str (.ofString "put_term") 683), (.ref 363)⟩, ⟨(PySem.PyData.keyHash P (.ofString "take_term")), (.str (.ofString "take_term") 692), (.ref 370)⟩, ⟨(PySem.PyData.keyHash P (.ofString "__static_attributes__")), (.str (.ofString "__static_attributes__") 693), (.ref 371)⟩, ⟨(PySem.PyData.keyHash P (.ofString "__doc__")), (.str (.ofString "__doc__") 694), .none⟩]) 2), (List.toArray [])⟩) ::
((nat_lit 373), ⟨(.type "type"), none, (.cls ⟨(.ofString "Store"), [(.ref 323)], [(.ref 373), (.ref 323), (.type "object")], 372, (.ofString "Store"), true, [], [], false, none, false⟩), (List.toArray [(some (.ref 328)), none, (some (.str (.ofString "Store") 623)), (some (.str (.ofString "Store") 631)), (some (.builtin "object.__new__")), (some (.bool true))])⟩) ::
((nat_lit 383), ⟨(.type "tuple"), none, (.seq (List.toArray []) 0), (List.toArray [])⟩) ::
((nat_lit 385), ⟨(.type "tuple"), none, (.seq (List.toArray [(.str (.ofString "self") 714), (.str (.ofString "store") 715)]) 0), (List.toArray [])⟩) ::
((nat_lit 386), ⟨(.type "tuple"), none, (.seq (List.toArray []) 0), (List.toArray [])⟩) ::
((nat_lit 388), ⟨(.type "code"), none, (.fields (List.toArray [(.str (.ofString "__init__") 711), (.str (.ofString "PairSet.__init__") 712), (.str (.ofString "/claim/cut.py") 713), (.int 275 0), (.int 2 0), (.int 0 0), (.int 0 0), (.int 3 0), (.ref 383), (.bool true), (.int 181 0), (.ref 384), .none, (.ref 385), (.ref 386), (.ref 387), (.int 716 0), (.int 275 0), (.str (.ofString "/claim/cut.py") 717)])), (List.toArray [])⟩) ::
((nat_lit 389), ⟨(.type "function"), none, (.func ⟨(.ofString "__init__"), (.ofString "PairSet.__init__"), (fP (sM 28 0)), (.stmts (fB (sM 28 0))), (fS (sM 28 0)), 3, [], .none, .none, .none, (.str (.ofString "clausemill.unify") 697), none, (.ref 388), .none, 0⟩), (List.toArray [])⟩) ::
((nat_lit 390), ⟨(.type "tuple"), none, (.seq (List.toArray []) 0), (List.toArray [])⟩) ::
((nat_lit 392), ⟨(.type "tuple"), none, (.seq (List.toArray [(.str (.ofString "self") 722), (.str (.ofString "left") 723), (.str (.ofString "right") 724), (.str (.ofString "number") 725)]) 0), (List.toArray [])⟩) ::
((nat_lit 393), ⟨(.type "tuple"), none, (.seq (List.toArray []) 0), (List.toArray [])⟩) ::
((nat_lit 395), ⟨(.type "code"), none, (.fields (List.toArray [(.str (.ofString "add") 719), (.str (.ofString "PairSet.add") 720), (.str (.ofString "/claim/cut.py") 721), (.int 279 0), (.int 3 0), (.int 0 0), (.int 0 0), (.int 3 0), (.ref 390), (.bool true), (.int 181 0), (.ref 391), .none, (.ref 392), (.ref 393), (.ref 394), (.int 726 0), (.int 279 0), (.str (.ofString "/claim/cut.py") 727)])), (List.toArray [])⟩) ::
((nat_lit 396), ⟨(.type "function"), none, (.func ⟨(.ofString "add"), (.ofString "PairSet.add"), (fP (sM 28 1)), (.stmts (fB (sM 28 1))), (fS (sM 28 1)), 3, [], .none, .none, .none, (.str (.ofString "clausemill.unify") 697), none, (.ref 395), .none, 0⟩), (List.toArray [])⟩) ::
((nat_lit 397), ⟨(.type "tuple"), none, (.seq (List.toArray [(.str (.ofString "met") 729), (.str (.ofString "span") 730)]) 0), (List.toArray [])⟩) ::
((nat_lit 398), ⟨(.type "dict"), none, (.dict (List.toArray [⟨(PySem.PyData.keyHash P (.ofString "__module__")), (.str (.ofString "__module__") 706), (.str (.ofString "clausemill.unify") 697)⟩, ⟨(PySem.PyData.keyHash P (.ofString "__firstlineno__")), (.str (.ofString "__firstlineno__") 710), (.int 273 709)⟩, ⟨(PySem.PyData.keyHash P (.ofString "__init__")), (.str (.ofString "__init__") 718), (.ref 389)⟩, ⟨(PySem.PyData.keyHash P (.ofString "add")), (.str (.ofString "add") 728), (.ref 396)⟩, ⟨(PySem.PyData.keyHash P (.ofString "__static_attributes__")), (.str (.ofString "__static_attributes__") 731), (.ref 397)⟩, ⟨(PySem.PyData.keyHash P (.ofString "__dict__")), (.str (.ofString "__dict__") 733), (.ref 400)⟩, ⟨(PySem.PyData.keyHash P (.ofString "__weakref__")), (.str (.ofString "__weakref__") 735), (.ref 401)⟩, ⟨(PySem.PyData.keyHash P (.ofString "__doc__")), (.str (.ofString "__doc__") 736), .none⟩]) 4), (List.toArray [])⟩) ::
((nat_lit 399), ⟨(.type "type"), none, (.cls ⟨(.ofString "PairSet"), [(.type "object")], [(.ref 399), (.type "object")], 398, (.ofString "PairSet"), true, [], [], false, none, false⟩), (List.toArray [none, none, (some (.str (.ofString "PairSet") 699)), (some (.str (.ofString "PairSet") 707)), (some (.builtin "object.__new__")), (some (.bool true))])⟩) ::
((nat_lit 400), ⟨(.type "getset_descriptor"), none, (.fields (List.toArray [(.str (.ofString "__dict__") 732), (.ref 399), (.builtin "function.__dict__"), (.builtin "function.__dict__#set")])), (List.toArray [])⟩) ::
((nat_lit 401), ⟨(.type "getset_descriptor"), none, (.fields (List.toArray [(.str (.ofString "__weakref__") 734), (.ref 399), (.builtin "ExceptionGroup.__weakref__"), .none])), (List.toArray [])⟩) ::
((nat_lit 404), ⟨(.type "tuple"), none, (.seq (List.toArray []) 0), (List.toArray [])⟩) ::
((nat_lit 406), ⟨(.type "tuple"), none, (.seq (List.toArray [(.str (.ofString "store") 742), (.str (.ofString "left") 743), (.str (.ofString "right") 744), (.str (.ofString "work") 745), (.str (.ofString "left_place") 746), (.str (.ofString "right_place") 747), (.str (.ofString "step") 748)]) 0), (List.toArray [])⟩) ::
((nat_lit 407), ⟨(.type "tuple"), none, (.seq (List.toArray []) 0), (List.toArray [])⟩) ::
((nat_lit 409), ⟨(.type "code"), none, (.fields (List.toArray [(.str (.ofString "push_pairs") 739), (.str (.ofString "push_pairs") 740), (.str (.ofString "/claim/cut.py") 741), (.int 285 0), (.int 4 0), (.int 0 0), (.int 0 0), (.int 3 0), (.ref 404), (.bool true), (.int 181 0), (.ref 405), .none, (.ref 406), (.ref 407), (.ref 408), (.int 749 0), (.int 285 0), (.str (.ofString "/claim/cut.py") 750)])), (List.toArray [])⟩) ::
((nat_lit 410), ⟨(.type "function"), none, (.func ⟨(.ofString "push_pairs"), (.ofString "push_pairs"), (fP (sT 29)), (.stmts (fB (sT 29))), (fS (sT 29)), 3, [], .none, .none, .none, (.str (.ofString "clausemill.unify") 697), none, (.ref 409), .none, 0⟩), (List.toArray [])⟩) ::
((nat_lit 411), ⟨(.type "tuple"), none, (.seq (List.toArray []) 0), (List.toArray [])⟩) ::
((nat_lit 413), ⟨(.type "tuple"), none, (.seq (List.toArray [(.str (.ofString "cell") 755), (.str (.ofString "tag") 756)]) 0), (List.toArray [])⟩) ::
((nat_lit 414), ⟨(.type "tuple"), none, (.seq (List.toArray []) 0), (List.toArray [])⟩) ::
((nat_lit 416), ⟨(.type "code"), none, (.fields (List.toArray [(.str (.ofString "rank") 752), (.str (.ofString "rank") 753), (.str (.ofString "/claim/cut.py") 754), (.int 290 0), (.int 1 0), (.int 0 0), (.int 0 0), (.int 3 0), (.ref 411), (.bool true), (.int 181 0), (.ref 412), .none, (.ref 413), (.ref 414), (.ref 415), (.int 757 0), (.int 290 0), (.str (.ofString "/claim/cut.py") 758)])), (List.toArray [])⟩) ::
((nat_lit 417), ⟨(.type "function"), none, (.func ⟨(.ofString "rank"), (.ofString "rank"), (fP (sT 30)), (.stmts (fB (sT 30))), (fS (sT 30)), 3, [], .none, .none, .none, (.str (.ofString "clausemill.unify") 697), none, (.ref 416), .none, 0⟩), (List.toArray [])⟩) ::
((nat_lit 418), ⟨(.type "tuple"), none, (.seq (List.toArray []) 0), (List.toArray [])⟩) ::
((nat_lit 420), ⟨(.type "tuple"), none, (.seq (List.toArray [(.str (.ofString "left") 763), (.str (.ofString "right") 764)]) 0), (List.toArray [])⟩) ::
((nat_lit 421), ⟨(.type "tuple"), none, (.seq (List.toArray []) 0), (List.toArray [])⟩) ::
((nat_lit 423), ⟨(.type "code"), none, (.fields (List.toArray [(.str (.ofString "order") 760), (.str (.ofString "order") 761), (.str (.ofString "/claim/cut.py") 762), (.int 299 0), (.int 2 0), (.int 0 0), (.int 0 0), (.int 3 0), (.ref 418), (.bool true), (.int 181 0), (.ref 419), .none, (.ref 420), (.ref 421), (.ref 422), (.int 765 0), (.int 299 0), (.str (.ofString "/claim/cut.py") 766)])), (List.toArray [])⟩) ::
((nat_lit 424), ⟨(.type "function"), none, (.func ⟨(.ofString "order"), (.ofString "order"), (fP (sT 31)), (.stmts (fB (sT 31))), (fS (sT 31)), 3, [], .none, .none, .none, (.str (.ofString "clausemill.unify") 697), none, (.ref 423), .none, 0⟩), (List.toArray [])⟩) ::
((nat_lit 425), ⟨(.type "tuple"), none, (.seq (List.toArray []) 0), (List.toArray [])⟩) ::
((nat_lit 427), ⟨(.type "tuple"), none, (.seq (List.toArray [(.str (.ofString "store") 771), (.str (.ofString "left") 772), (.str (.ofString "right") 773), (.str (.ofString "symbols") 774), (.str (.ofString "f") 775), (.str (.ofString "g") 776), (.str (.ofString "result") 777)]) 0), (List.toArray [])⟩) ::
((nat_lit 428), ⟨(.type "tuple"), none, (.seq (List.toArray []) 0), (List.toArray [])⟩) ::
((nat_lit 430), ⟨(.type "code"), none, (.fields (List.toArray [(.str (.ofString "compare_shapes") 768), (.str (.ofString "compare_shapes") 769), (.str (.ofString "/claim/cut.py") 770), (.int 305 0), (.int 3 0), (.int 0 0), (.int 0 0), (.int 3 0), (.ref 425), (.bool true), (.int 181 0), (.ref 426), .none, (.ref 427), (.ref 428), (.ref 429), (.int 778 0), (.int 305 0), (.str (.ofString "/claim/cut.py") 779)])), (List.toArray [])⟩) ::
((nat_lit 431), ⟨(.type "function"), none, (.func ⟨(.ofString "compare_shapes"), (.ofString "compare_shapes"), (fP (sT 32)), (.stmts (fB (sT 32))), (fS (sT 32)), 3, [], .none, .none, .none, (.str (.ofString "clausemill.unify") 697), none, (.ref 430), .none, 0⟩), (List.toArray [])⟩) ::
((nat_lit 432), ⟨(.type "tuple"), none, (.seq (List.toArray []) 0), (List.toArray [])⟩) ::
((nat_lit 434), ⟨(.type "tuple"), none, (.seq (List.toArray [(.str (.ofString "store") 784), (.str (.ofString "left") 785), (.str (.ofString "right") 786), (.str (.ofString "kind") 787), (.str (.ofString "result") 788)]) 0), (List.toArray [])⟩) ::
((nat_lit 435), ⟨(.type "tuple"), none, (.seq (List.toArray []) 0), (List.toArray [])⟩) ::
((nat_lit 437), ⟨(.type "code"), none, (.fields (List.toArray [(.str (.ofString "compare_tops") 781), (.str (.ofString "compare_tops") 782), (.str (.ofString "/claim/cut.py") 783), (.int 315 0), (.int 3 0), (.int 0 0), (.int 0 0), (.int 3 0), (.ref 432), (.bool true), (.int 181 0), (.ref 433), .none, (.ref 434), (.ref 435), (.ref 436), (.int 789 0), (.int 315 0), (.str (.ofString "/claim/cut.py") 790)])), (List.toArray [])⟩) ::
((nat_lit 438), ⟨(.type "function"), none, (.func ⟨(.ofString "compare_tops"), (.ofString "compare_tops"), (fP (sT 33)), (.stmts (fB (sT 33))), (fS (sT 33)), 3, [], .none, .none, .none, (.str (.ofString "clausemill.unify") 697), none, (.ref 437), .none, 0⟩), (List.toArray [])⟩) ::
((nat_lit 439), ⟨(.type "tuple"), none, (.seq (List.toArray []) 0), (List.toArray [])⟩) ::
((nat_lit 441), ⟨(.type "tuple"), none, (.seq (List.toArray [(.str (.ofString "store") 795), (.str (.ofString "c1") 796), (.str (.ofString "c2") 797), (.str (.ofString "met") 798), (.str (.ofString "work") 799), (.str (.ofString "left") 800), (.str (.ofString "right") 801), (.str (.ofString "result") 802)]) 0), (List.toArray [])⟩) ::
((nat_lit 442), ⟨(.type "tuple"), none, (.seq (List.toArray []) 0), (List.toArray [])⟩) ::
((nat_lit 444), ⟨(.type "code"), none, (.fields (List.toArray [(.str (.ofString "compare") 792), (.str (.ofString "compare") 793), (.str (.ofString "/claim/cut.py") 794), (.int 327 0), (.int 3 0), (.int 0 0), (.int 0 0), (.int 3 0), (.ref 439), (.bool true), (.int 181 0), (.ref 440), .none, (.ref 441), (.ref 442), (.ref 443), (.int 803 0), (.int 327 0), (.str (.ofString "/claim/cut.py") 804)])), (List.toArray [])⟩) ::
((nat_lit 445), ⟨(.type "function"), none, (.func ⟨(.ofString "compare"), (.ofString "compare"), (fP (sT 34)), (.stmts (fB (sT 34))), (fS (sT 34)), 3, [], .none, .none, .none, (.str (.ofString "clausemill.unify") 697), none, (.ref 444), .none, 0⟩), (List.toArray [])⟩) ::
((nat_lit 446), ⟨(.type "tuple"), none, (.seq (List.toArray []) 0), (List.toArray [])⟩) ::
((nat_lit 448), ⟨(.type "tuple"), none, (.seq (List.toArray [(.str (.ofString "store") 809), (.str (.ofString "keys") 810), (.str (.ofString "left") 811), (.str (.ofString "right") 812), (.str (.ofString "unique") 813), (.str (.ofString "merged") 814), (.str (.ofString "i") 815), (.str (.ofString "j") 816), (.str (.ofString "result") 817)]) 0), (List.toArray [])⟩) ::
((nat_lit 449), ⟨(.type "tuple"), none, (.seq (List.toArray []) 0), (List.toArray [])⟩) ::
((nat_lit 451), ⟨(.type "code"), none, (.fields (List.toArray [(.str (.ofString "merge") 806), (.str (.ofString "merge") 807), (.str (.ofString "/claim/cut.py") 808), (.int 342 0), (.int 5 0), (.int 0 0), (.int 0 0), (.int 3 0), (.ref 446), (.bool true), (.int 181 0), (.ref 447), .none, (.ref 448), (.ref 449), (.ref 450), (.int 818 0), (.int 342 0), (.str (.ofString "/claim/cut.py") 819)])), (List.toArray [])⟩) ::
((nat_lit 452), ⟨(.type "function"), none, (.func ⟨(.ofString "merge"), (.ofString "merge"), (fP (sT 35)), (.stmts (fB (sT 35))), (fS (sT 35)), 3, [], .none, .none, .none, (.str (.ofString "clausemill.unify") 697), none, (.ref 451), .none, 0⟩), (List.toArray [])⟩) ::
((nat_lit 453), ⟨(.type "tuple"), none, (.seq (List.toArray []) 0), (List.toArray [])⟩) ::
((nat_lit 455), ⟨(.type "tuple"), none, (.seq (List.toArray [(.str (.ofString "store") 824), (.str (.ofString "cells") 825), (.str (.ofString "unique") 826), (.str (.ofString "keyed") 827), (.str (.ofString "keys") 828), (.str (.ofString "runs") 829), (.str (.ofString "i") 830), (.str (.ofString "longer") 831), (.str (.ofString "found") 832)]) 0), (List.toArray [])⟩) ::
((nat_lit 456), ⟨(.type "tuple"), none, (.seq (List.toArray []) 0), (List.toArray [])⟩) ::
((nat_lit 458), ⟨(.type "code"), none, (.fields (List.toArray [(.str (.ofString "merge_sort") 821), (.str (.ofString "merge_sort") 822), (.str (.ofString "/claim/cut.py") 823), (.int 359 0), (.int 4 0), (.int 0 0), (.int 0 0), (.int 3 0), (.ref 453), (.bool true), (.int 181 0), (.ref 454), .none, (.ref 455), (.ref 456), (.ref 457), (.int 833 0), (.int 359 0), (.str (.ofString "/claim/cut.py") 834)])), (List.toArray [])⟩) ::
((nat_lit 459), ⟨(.type "function"), none, (.func ⟨(.ofString "merge_sort"), (.ofString "merge_sort"), (fP (sT 36)), (.stmts (fB (sT 36))), (fS (sT 36)), 3, [], .none, .none, .none, (.str (.ofString "clausemill.unify") 697), none, (.ref 458), .none, 0⟩), (List.toArray [])⟩) ::
((nat_lit 460), ⟨(.type "tuple"), none, (.seq (List.toArray []) 0), (List.toArray [])⟩) ::
((nat_lit 462), ⟨(.type "tuple"), none, (.seq (List.toArray [(.str (.ofString "script") 841), (.str (.ofString "row") 842), (.str (.ofString "cell") 843), (.str (.ofString "number") 844), (.str (.ofString "turn") 845)]) 0), (List.toArray [])⟩) ::
((nat_lit 463), ⟨(.type "tuple"), none, (.seq (List.toArray []) 0), (List.toArray [])⟩) ::
((nat_lit 465), ⟨(.type "code"), none, (.fields (List.toArray [(.str (.ofString "_law_row") 838), (.str (.ofString "_law_row") 839), (.str (.ofString "/claim/cut.py") 840), (.int 382 0), (.int 1 0), (.int 0 0), (.int 0 0), (.int 3 0), (.ref 460), (.bool true), (.int 181 0), (.ref 461), .none, (.ref 462), (.ref 463), (.ref 464), (.int 846 0), (.int 382 0), (.str (.ofString "/claim/cut.py") 847)])), (List.toArray [])⟩) ::
((nat_lit 466), ⟨(.type "function"), none, (.func ⟨(.ofString "_law_row"), (.ofString "_law_row"), (fP (sT 38)), (.stmts (fB (sT 38))), (fS (sT 38)), 3, [], .none, .none, .none, (.str (.ofString "law_no0180_01") 836), none, (.ref 465), .none, 0⟩), (List.toArray [])⟩) ::
((nat_lit 467), ⟨(.type "tuple"), none, (.seq (List.toArray []) 0), (List.toArray [])⟩) ::
((nat_lit 469), ⟨(.type "tuple"), none, (.seq (List.toArray [(.str (.ofString "row") 852)]) 0), (List.toArray [])⟩) ::
((nat_lit 470), ⟨(.type "tuple"), none, (.seq (List.toArray []) 0), (List.toArray [])⟩) ::
((nat_lit 472), ⟨(.type "code"), none, (.fields (List.toArray [(.str (.ofString "_law_next") 849), (.str (.ofString "_law_next") 850), (.str (.ofString "/claim/cut.py") 851), (.int 395 0), (.int 1 0), (.int 0 0), (.int 0 0), (.int 3 0), (.ref 467), (.bool true), (.int 181 0), (.ref 468), .none, (.ref 469), (.ref 470), (.ref 471), (.int 853 0), (.int 395 0), (.str (.ofString "/claim/cut.py") 854)])), (List.toArray [])⟩) ::
((nat_lit 473), ⟨(.type "function"), none, (.func ⟨(.ofString "_law_next"), (.ofString "_law_next"), (fP (sT 39)), (.stmts (fB (sT 39))), (fS (sT 39)), 3, [], .none, .none, .none, (.str (.ofString "law_no0180_01") 836), none, (.ref 472), .none, 0⟩), (List.toArray [])⟩) ::
((nat_lit 474), ⟨(.type "tuple"), none, (.seq (List.toArray []) 0), (List.toArray [])⟩) ::
((nat_lit 476), ⟨(.type "tuple"), none, (.seq (List.toArray [(.str (.ofString "row") 859), (.str (.ofString "kind") 860)]) 0), (List.toArray [])⟩) ::
((nat_lit 477), ⟨(.type "tuple"), none, (.seq (List.toArray []) 0), (List.toArray [])⟩) ::
((nat_lit 479), ⟨(.type "code"), none, (.fields (List.toArray [(.str (.ofString "_law_key") 856), (.str (.ofString "_law_key") 857), (.str (.ofString "/claim/cut.py") 858), (.int 397 0), (.int 1 0), (.int 0 0), (.int 0 0), (.int 3 0), (.ref 474), (.bool true), (.int 181 0), (.ref 475), .none, (.ref 476), (.ref 477), (.ref 478), (.int 861 0), (.int 397 0), (.str (.ofString "/claim/cut.py") 862)])), (List.toArray [])⟩) ::
((nat_lit 480), ⟨(.type "function"), none, (.func ⟨(.ofString "_law_key"), (.ofString "_law_key"), (fP (sT 40)), (.stmts (fB (sT 40))), (fS (sT 40)), 3, [], .none, .none, .none, (.str (.ofString "law_no0180_01") 836), none, (.ref 479), .none, 0⟩), (List.toArray [])⟩) ::
((nat_lit 481), ⟨(.type "tuple"), none, (.seq (List.toArray []) 0), (List.toArray [])⟩) ::
((nat_lit 483), ⟨(.type "tuple"), none, (.seq (List.toArray [(.str (.ofString "key") 867)]) 0), (List.toArray [])⟩) ::
((nat_lit 484), ⟨(.type "tuple"), none, (.seq (List.toArray []) 0), (List.toArray [])⟩) ::
((nat_lit 486), ⟨(.type "code"), none, (.fields (List.toArray [(.str (.ofString "_law_weight") 864), (.str (.ofString "_law_weight") 865), (.str (.ofString "/claim/cut.py") 866), (.int 406 0), (.int 1 0), (.int 0 0), (.int 0 0), (.int 3 0), (.ref 481), (.bool true), (.int 181 0), (.ref 482), .none, (.ref 483), (.ref 484), (.ref 485), (.int 868 0), (.int 406 0), (.str (.ofString "/claim/cut.py") 869)])), (List.toArray [])⟩) ::
((nat_lit 487), ⟨(.type "function"), none, (.func ⟨(.ofString "_law_weight"), (.ofString "_law_weight"), (fP (sT 41)), (.stmts (fB (sT 41))), (fS (sT 41)), 3, [], .none, .none, .none, (.str (.ofString "law_no0180_01") 836), none, (.ref 486), .none, 0⟩), (List.toArray [])⟩) ::
((nat_lit 488), ⟨(.type "tuple"), none, (.seq (List.toArray []) 0), (List.toArray [])⟩) ::
((nat_lit 491), ⟨(.type "code"), none, (.fields (List.toArray [(.str (.ofString "law") 871), (.str (.ofString "law") 872), (.str (.ofString "/claim/cut.py") 873), (.int 414 0), (.int 1 0), (.int 0 0), (.int 0 0), (.int 3 0), (.ref 488), (.bool true), (.int 181 0), (.ref 489), .none, .none, .none, (.ref 490), (.int 874 0), (.int 414 0), (.str (.ofString "/claim/cut.py") 875)])), (List.toArray [])⟩) ::
((nat_lit 492), ⟨(.type "function"), none, (.func ⟨(.ofString "law"), (.ofString "law"), (fP (sT 42)), (.stmts (fB (sT 42))), (fS (sT 42)), 3, [], .none, .none, .none, (.str (.ofString "law_no0180_01") 836), none, (.ref 491), .none, 0⟩), (List.toArray [])⟩) :: []
noncomputable def V0 : Program := view pw [0,2,3,4,5,6,7,8,9,10,11,12,14,15,16,18,19,20,21,22,23,24,25,26,28,29,30,31,32,33,34,35,36,38,39,40,41,42]
noncomputable abbrev las : List Addr := [2, 3, 15, 17, 18, 20, 21, 22, 29, 30, 31, 32, 35, 42, 44, 45, 47, 48, 49, 50, 51, 54, 56, 57, 59, 60, 61, 63, 64, 66, 67, 75, 77, 78, 80, 81, 82, 84, 85, 87, 88, 89, 91, 92, 94, 95, 96, 98, 99, 101, 102, 103, 105, 106, 108, 109, 110, 112, 113, 115, 116, 117, 119, 120, 122, 123, 124, 126, 127, 129, 130, 131, 133, 134, 136, 137, 138, 140, 141, 143, 144, 145, 147, 148, 150, 151, 152, 153, 154, 155, 156, 159, 161, 162, 164, 165, 166, 168, 169, 171, 172, 173, 175, 176, 178, 179, 187, 188, 190, 191, 193, 194, 195, 197, 198, 200, 201, 202, 204, 205, 207, 208, 209, 211, 212, 214, 215, 216, 218, 219, 221, 222, 223, 225, 226, 228, 229, 230, 232, 233, 235, 236, 237, 239, 240, 242, 243, 244, 246, 247, 249, 250, 251, 253, 254, 256, 257, 258, 260, 261, 263, 264, 265, 267, 268, 270, 271, 272, 274, 275, 277, 278, 279, 281, 282, 284, 285, 286, 288, 289, 291, 292, 293, 295, 296, 298, 299, 300, 302, 303, 305, 306, 307, 309, 310, 312, 313, 314, 316, 317, 319, 320, 321, 322, 323, 324, 325, 328, 335, 337, 338, 340, 341, 342, 343, 345, 346, 348, 349, 350, 352, 353, 355, 356, 357, 359, 360, 362, 363, 364, 366, 367, 369, 370, 371, 372, 373, 383, 385, 386, 388, 389, 390, 392, 393, 395, 396, 397, 398, 399, 400, 401, 404, 406, 407, 409, 410, 411, 413, 414, 416, 417, 418, 420, 421, 423, 424, 425, 427, 428, 430, 431, 432, 434, 435, 437, 438, 439, 441, 442, 444, 445, 446, 448, 449, 451, 452, 453, 455, 456, 458, 459, 460, 462, 463, 465, 466, 467, 469, 470, 472, 473, 474, 476, 477, 479, 480, 481, 483, 484, 486, 487, 488, 491, 492]
noncomputable abbrev loo : List Str := [Str.ofString "Store"]
theorem hkp : ∀ P, las = (K0 P).map (·.1) := fun _ => by kernel_rfl
noncomputable abbrev HK : Hook := kHook K0 las hkp
noncomputable abbrev Xt0 : Shared → Bool := fun s => xlAt V0 [] s && recOk (RowW.records PySem.Challenge.rw_no0180_01.row.toRowW) s
noncomputable def treC : List Obj → BT → Nat → Option BT
  | [], t, _ => some t
  | o :: l, t, n => match ((t.ins n o).get n).isSome with
    | true => treC l (t.ins n o) (n + 1)
    | false => none
theorem treC_abs {life : Life} : ∀ (l : List Obj) (t t' : BT) (n : Nat) (as : List Obj), absHeap t n life = ⟨as.toArray, life⟩ → treC l t n = some t' → absHeap t' (n + l.length) life = ⟨(as ++ l).toArray, life⟩
  | [], t, t', n, as, h, e => by
    cases e
    simpa using h
  | o :: l, t, t', n, as, h, e => by
    unfold treC at e
    cases q : ((t.ins n o).get n).isSome with
    | false => rw [q] at e; cases e
    | true =>
      rw [q] at e
      have h2 : absHeap (t.ins n o) (n + 1) life = ⟨(as ++ [o]).toArray, life⟩ := by
        rw [absHeap_ins q, h]
        simp [Heap.push]
      have := treC_abs l (t.ins n o) t' (n + 1) (as ++ [o]) h2 e
      rw [List.append_assoc] at this
      rw [show n + (o :: l).length = n + 1 + l.length by simp; omega]
      exact this
noncomputable def env0 : Env := { scope := pw.main.scope, locals := mainNs, globals := mainNs, cells := [], code := .ref 13, frame := some 14 }
noncomputable abbrev p0 : Pos := ⟨0, 0, 0, 0⟩
noncomputable abbrev bod : List Stmt := behindTheImports pw
noncomputable abbrev cod : Code := .body bod env0
noncomputable abbrev thr0 : Thread := ⟨denote treeTable cod, cod, p0, [topFrame p0]⟩
noncomputable abbrev s0 (w : World) (os : OsState) : Shared := ⟨boot_heap w.params, Array.mk [], boot_drawn, boot_toks, os⟩
noncomputable abbrev flags (w : World) (s : Shared) : Bool := staticsOk (importedModules pw.main.body) (boot_heap w.params) s.heap && namesBound pw s.heap && gensDone s && laidKept (boot_heap w.params) s.heap
noncomputable abbrev obsv (w : World) (s : Shared) := ((staticsOk (importedModules pw.main.body) (boot_heap w.params) s.heap && namesBound pw s.heap && gensDone s && laidKept (boot_heap w.params) s.heap),
  openSeen V0 loo (importedModules pw.main.body) Xt0 true s, HK.obs s)
theorem top_a (w : World) (os : OsState) : ((topGo treeTable pw w 11 (some (.ref 6)) 12 (s0 w os) (topStub pw)).bind fun x => (treC x.1.heap.objs.toList .nil 0).bind fun T =>
    (segRunT treeTable pw w 11 (some (.ref 6)) 1 3300 ⟨T, x.1.heap.objs.toList.length, x.1.heap.life, x.1.gens, x.1.drawn, x.1.toks, x.1.os⟩ (piecesOf bod env0 cod p0 [topFrame p0])).map fun r => (x.2, r.1, r.2.2.1, flags w r.2.1.abs)) =
    some (thr0, .next, cod, true) := by
  unfold thr0 flags
  try rw [PySem.W.Fast.te15667345088766844465]
  try rw [PySem.W.Fast.te10110043849684766642]
  try rw [PySem.W.Fast.te14364793385576792824]
  try rw [PySem.W.Fast.te11892475500146522536]
  try rw [PySem.W.Fast.te4187177175401517315]
  kernel_rfl
theorem top_b (w : World) (os : OsState) : ((topGo treeTable pw w 11 (some (.ref 6)) 12 (s0 w os) (topStub pw)).bind fun x => (treC x.1.heap.objs.toList .nil 0).bind fun T =>
    (segRunT treeTable pw w 11 (some (.ref 6)) 1 3300 ⟨T, x.1.heap.objs.toList.length, x.1.heap.life, x.1.gens, x.1.drawn, x.1.toks, x.1.os⟩ (piecesOf bod env0 cod p0 [topFrame p0])).map fun r => openSeen V0 loo (importedModules pw.main.body) Xt0 true r.2.1.abs) =
    some (openGood V0 loo) := by
  try rw [PySem.W.Fast.te15667345088766844465]
  try rw [PySem.W.Fast.te10110043849684766642]
  try rw [PySem.W.Fast.te14364793385576792824]
  try rw [PySem.W.Fast.te11892475500146522536]
  try rw [PySem.W.Fast.te4187177175401517315]
  kernel_rfl
theorem top_c (w : World) (os : OsState) : ((topGo treeTable pw w 11 (some (.ref 6)) 12 (s0 w os) (topStub pw)).bind fun x => (treC x.1.heap.objs.toList .nil 0).bind fun T =>
    (segRunT treeTable pw w 11 (some (.ref 6)) 1 3300 ⟨T, x.1.heap.objs.toList.length, x.1.heap.life, x.1.gens, x.1.drawn, x.1.toks, x.1.os⟩ (piecesOf bod env0 cod p0 [topFrame p0])).map fun r => HK.obs r.2.1.abs) =
    some (HK.val w) := by
  try rw [PySem.W.Fast.te15667345088766844465]
  try rw [PySem.W.Fast.te10110043849684766642]
  try rw [PySem.W.Fast.te14364793385576792824]
  try rw [PySem.W.Fast.te11892475500146522536]
  try rw [PySem.W.Fast.te4187177175401517315]
  kernel_rfl
theorem join3 {X T R α β γ : Type} {A : Option X} {B : X → Option T} {C : X → T → Option R} {f : X → R → α} {g : X → R → β} {k : X → R → γ} {a : α} {b : β} {c : γ} (ha : (A.bind fun x => (B x).bind fun t => (C x t).map fun r => f x r) = some a)
    (hb : (A.bind fun x => (B x).bind fun t => (C x t).map fun r => g x r) = some b) (hc : (A.bind fun x => (B x).bind fun t => (C x t).map fun r => k x r) = some c) : ∃ x t r, A = some x ∧ B x = some t ∧ C x t = some r ∧ f x r = a ∧ g x r = b ∧ k x r = c := by
  obtain ⟨x, h1, ha⟩ := Option.bind_eq_some_iff.mp ha
  obtain ⟨t, h2, ha⟩ := Option.bind_eq_some_iff.mp ha
  obtain ⟨r, h3, ha⟩ := Option.map_eq_some_iff.mp ha
  rw [h1, Option.bind_some, h2, Option.bind_some, h3, Option.map_some] at hb hc
  exact ⟨x, t, r, h1, h2, h3, ha, Option.some.inj hb, Option.some.inj hc⟩
end Mine
end
section
open PySem PySem.W PyProof.Rows
set_option Elab.async false
set_option maxRecDepth 100000
set_option maxHeartbeats 8000000
noncomputable section
namespace Mine
theorem top_run (w : World) (os : OsState) : ∃ s₁, topRun treeTable pw w 11 (some (.ref 6)) (12 + (1 + (3300 + 2))) (s0 w os) (topStub pw) = some s₁ ∧ obsv w s₁ = (true, openGood V0 loo, HK.val w) := by
  obtain ⟨⟨sa, th⟩, T, ⟨fl, s1, c, p'⟩, h1, h2, h3, h, hg, hk⟩ := join3 (top_a w os) (top_b w os) (top_c w os)
  have h : (th, fl, c, flags w s1.abs) = (thr0, .next, cod, true) := h
  have e1 : th = thr0 := congrArg Prod.fst h
  have e2 : fl = .next := congrArg (fun x => x.2.1) h
  have e3 : c = cod := congrArg (fun x => x.2.2.1) h
  have e4 : obsv w s1.abs = (true, openGood V0 loo, HK.val w) := Prod.ext (congrArg (fun x => x.2.2.2) h) (Prod.ext hg hk)
  subst e1 e2 e3
  have ab : SharedT.abs ⟨T, sa.heap.objs.toList.length, sa.heap.life, sa.gens, sa.drawn, sa.toks, sa.os⟩ = sa := by
    have := treC_abs (life := sa.heap.life) _ .nil T 0 [] rfl h2
    rw [Nat.zero_add, List.nil_append] at this
    unfold SharedT.abs
    dsimp only
    rw [this]
  have h3' := segRun_of h3
  rw [ab] at h3'
  have k0 : topRun treeTable pw w 11 (some (.ref 6)) 2 s1.abs ⟨doneF .next, cod, p', [topFrame p0]⟩ = some s1.abs := rfl
  have k1 := piece_app (rest := []) h3' (piece_nil k0)
  rw [List.append_nil] at k1
  have hb : segRun treeTable pw w 11 (some (.ref 6)) 1 1 sa (blockOf bod env0 cod p0 [topFrame p0]) = some (.next, sa, cod, p0) := rfl
  exact ⟨s1.abs, go_top h1 (piece_block hb k1), e4⟩
theorem left_glue {tb : String → Option Builtin} {p : Program} {w : World} {N : Nat} {s s₁ : Shared} {α : Type} {f : Shared → α} {a : α} (e : fencedOpening tb p w N = some s) (t : topFrom tb p w N s = some s₁) (l : f s₁ = a) : (openEnds tb p w N).map f = some a := by
  unfold openEnds
  rw [e]
  show (topFrom tb p w N s).map f = _
  rw [t]
  exact congrArg some l
theorem left : LeftO PySem.Challenge.rw_no0180_01.row.toRowW.prog V0 loo Xt0 HK.obs HK.val 6568 := fun w => by
  show (openEnds treeTable pw w 6568).map (fun s => (openSeen V0 loo (importedModules pw.main.body) Xt0 true s, HK.obs s)) = some (openGood V0 loo, HK.val w)
  obtain ⟨⟨h, gs, d, k, os⟩, e, e'⟩ := Option.map_eq_some_iff.mp (boot_open (p := pw) (N := 6568) rfl rfl (fun _ => rfl) w)
  obtain ⟨rfl, rfl, rfl, rfl⟩ : h = boot_heap w.params ∧ gs = Array.mk [] ∧ d = boot_drawn ∧ k = boot_toks := by simpa using e'
  have z : ((boot_heap w.params).isNs mainGlobals && (Array.mk [] : Array GenState).size == 0, (boot_heap w.params).objs.size, (boot_heap w.params).nsMap mainGlobals "__annotations__") = (true, 11, some (.ref 6)) := by kernel_rfl
  obtain ⟨z1, z2, z3⟩ : _ ∧ _ ∧ _ := by simpa only [Prod.mk.injEq] using z
  obtain ⟨s₁, r, o⟩ := top_run w os
  have r := topRun_mono (6568 - (12 + (1 + (3300 + 2)))) _ _ _ _ r
  have r : topRun treeTable pw w 11 (some (.ref 6)) 6568 (s0 w os) (topStub pw) = some s₁ := r
  have l1 : (staticsOk (importedModules pw.main.body) (boot_heap w.params) s₁.heap && namesBound pw s₁.heap && gensDone s₁ && laidKept (boot_heap w.params) s₁.heap) = true := congrArg Prod.fst o
  have l2 := congrArg (fun x => x.2) o
  have t : topFrom treeTable pw w 6568 (s0 w os) = some s₁ := by
    unfold topFrom
    dsimp only
    rw [z1, z2, z3, r]
    show (match staticsOk (importedModules pw.main.body) (boot_heap w.params) s₁.heap && namesBound pw s₁.heap && gensDone s₁ && laidKept (boot_heap w.params) s₁.heap with | true => _ | false => _) = _
    rw [l1]
  exact left_glue e t l2
theorem looks : OpenLaw.wellSaid PySem.Challenge.rw_no0180_01 = true := by decide +kernel
noncomputable def hd := fun walk => (holds_law looks fun said => holds_open (q := V0) (loose := loo) (Xt := Xt0) (XP := XL V0 []) (Yf := Hook.obs (kHook K0 las hkp)) (Ya := Hook.val (kHook K0 las hkp)) (YP := Hook.says (kHook K0 las hkp)) (N := 6568) left (Hook.of (kHook K0 las hkp)) (Hook.keeps (kHook K0 las hkp))
  (fun s e => xl_of s (Bool.and_eq_true_iff.mp e).1) XL.keeps (by rfl) (by rfl) (by rfl) (fun s e => recFacts_of (Bool.and_eq_true_iff.mp e).2) (by rfl) said (by decide +kernel) ⟨rfl, rfl, rfl, rfl, rfl, by decide +kernel⟩ (by w_witness2) walk : PySem.Challenge.rw_no0180_01.Holds)
end Mine
end
section
set_option Elab.async false
set_option maxRecDepth 100000
set_option linter.unusedVariables false
namespace Mine
noncomputable section
open PySem PySem.W PySem.Calls PyProof.Rows
noncomputable abbrev aro (dp un : Nat) (gd : Option (List Code)) (outer : List Env) : Around := { handled := none, depth := dp, frames := some outer, guards := gd, units := un }
theorem in_le {Γ : Ctx} {dp un dp' un' : Nat} {gd : Option (List Code)} {outer : List Env} (h : Γ.Below (aro dp un gd outer)) (hd : dp ≤ dp') (hu : un ≤ un') : Γ.Below (aro dp' un' gd outer) :=
  ⟨h.1, Nat.le_trans h.2.1 hd, h.2.2.1, h.2.2.2.1, Nat.le_trans h.2.2.2.2 hu⟩
theorem codeAny_le {M : Model} {c : Code} {R : Result → Shared → Prop} {s : Shared} {dp un dp' un' : Nat} {gd : Option (List Code)} {outer : List Env}
    (h : codeAny M (aro dp' un' gd outer) c R s) (hd : dp ≤ dp') (hu : un ≤ un') : codeAny M (aro dp un gd outer) c R s :=
  fun Γ p hc hΓ => h Γ p hc (in_le hΓ hd hu)
noncomputable def Own (g h : Heap) (need : List (Addr × Obj)) : Prop := ∀ p ∈ need, h.get? p.1 = some p.2 ∧ g.get? p.1 = none
noncomputable def Spec (w : World) (f : Addr) (args : List Value) (D U : Nat) (need : List (Addr × Obj)) (pre : Heap → Prop) (post : Value → List (Addr × Obj) → Prop) : Prop :=
  ∀ (gd : Option (List Code)) (outer : List Env) (A₀ : Around) (base g : Heap) (mean : ExcName → Option Value) (mg mb : Str → Option Value) (s : Shared) (R : Result → Shared → Prop),
    Below A₀ base outer g → (K0 w.params).In g → Top V0 (looseW V0 loo) mean mg mb g → g.StaysIn s.heap → g.objs.size ≤ s.heap.objs.size → Own g s.heap need → pre g →
    (∀ v h' tk need', g.StaysIn h' → Own g h' need' → post v need' → R (.ok (.ret v)) { s with heap := h', toks := tk }) →
    codeAny (model PySem.Challenge.rw_no0180_01.row.toRowW.prog w) (aro D U gd outer) (.call (.ref f) ⟨args, []⟩) R s
noncomputable def zipA : List Arg → List Value → List (Str × Value)
  | a :: r, v :: vs => (a.arg, v) :: zipA r vs
  | _, _ => []
theorem own_of {g h : Heap} {L : Addr} {news : List (Addr × Obj)} (N : News g L h news) : Own g h news := fun p hp => ⟨(N p hp).1, (N p hp).2.2⟩
theorem Spec.use {w : World} {f : Addr} {args : List Value} {D U : Nat} {need : List (Addr × Obj)} {pre : Heap → Prop} {post : Value → List (Addr × Obj) → Prop} (S : Spec w f args D U need pre post)
    {dp un : Nat} {gd : Option (List Code)} {env : Env} {outer : List Env} {A₀ : Around} {base h₀ : Heap} {L : Addr} {m : Str → Option Value} {mean : ExcName → Option Value} {mg mb : Str → Option Value} {s : Shared} {Q E : Value → Shared → Prop} {news rest : List (Addr × Obj)}
    (B : Below A₀ base outer h₀) (F : Fr h₀ L s.heap m) (X : (K0 w.params).In h₀) (T : Top V0 (looseW V0 loo) mean mg mb h₀) (N : News h₀ L s.heap news) (hf : env.frame = some L) (hke : env.scope.kind = .function)
    (hd : dp ≤ D) (hu : un ≤ U) (hsub : ∀ p ∈ need, p ∈ news) (hrest : ∀ p ∈ rest, p ∈ news) (hdis : ∀ p ∈ rest, ∀ q ∈ need, p.1 ≠ q.1)
    (hpre : ∀ g, h₀.StaysIn g → g.StaysIn s.heap → (∀ p ∈ rest, g.get? p.1 = some p.2) → pre g)
    (h : ∀ v h' tk need', Fr h₀ L h' m → News h₀ L h' (need' ++ rest) → (∀ p ∈ rest, ∀ q ∈ need', p.1 ≠ q.1) → post v need' → Q v { s with heap := h', toks := tk }) :
    wpAny (model PySem.Challenge.rw_no0180_01.row.toRowW.prog w) (aro dp un gd (env :: outer)) (call (.ref f) args) Q E s := by
  refine wpAny_call (codeAny_le ?_ hd hu)
  have Nn : News h₀ L s.heap need := fun p hp => N p (hsub p hp)
  obtain ⟨FG, BG, st, lv⟩ := groundX (A := aro dp un gd (env :: outer)) (R := fun _ _ => True) B F Nn rfl hf hke
  have hr : ∀ p ∈ rest, (hideAll s.heap (need.map (·.1))).get? p.1 = some p.2 := fun p hp => hideAll_get _ (N p (hrest p hp)).1 fun q => by
    obtain ⟨q', hq, e⟩ := List.mem_map.mp q
    exact hdis p hp q' hq e.symm
  refine S gd (env :: outer) _ base (hideAll s.heap (need.map (fun x : Addr × Obj => x.1))) mean mg mb s _ BG (Frag.In.keeps X st) (Top.keeps T st) (fun b o e => of_hideAll _ e) (Nat.le_of_eq (hideAll_size _ _))
    (fun p hp => ⟨(Nn p hp).1, hideAll_none _ (List.mem_map_of_mem hp)⟩) (hpre _ st (fun b o e => of_hideAll _ e) hr) ?_
  intro v h' tk need' st' O' hpost
  obtain ⟨oL, es, ep, hL, hLr⟩ := FG.ns
  refine h v h' tk need' ⟨⟨oL, es, ep, st' _ _ hL, hLr⟩, fun b o e => st' b o (st b o e), F.above⟩ (fun p hp => ?_) (fun p hp q hq e => ?_) hpost
  · rcases List.mem_append.mp hp with hp | hp
    · refine ⟨(O' p hp).1, fun e => ?_, ?_⟩
      · have := (O' p hp).2; rw [e, hL] at this; cases this
      · cases q : h₀.get? p.1 with
        | none => rfl
        | some o => have := (O' p hp).2; rw [st _ _ q] at this; cases this
    · exact ⟨st' _ _ (hr p hp), (N p (hrest p hp)).2⟩
  · have h1 := (O' q hq).2
    rw [← e, hr p hp] at h1; cases h1
noncomputable def PSpec (w : World) (f : Addr) (args : List Value) (D U : Nat) (pre : Heap → Prop) (V : Tok → Value) : Prop :=
  Spec w f args D U [] pre (fun v need' => need' = [] ∧ ∃ t, v = V t)
section
variable {prog : Program} {w : World} {A : Around} {E : Value → Shared → Prop} {s : Shared}
theorem item_listT {value slice : Expr} {Q : Value → Shared → Prop} {l : Addr} {vs : List Value} {k : Int} {u : Tok} {v : Value} (hl : s.heap.IsList l vs.toArray) (h0 : 0 ≤ k) (hhi : k < 2 ^ 63) (hx : vs[k.toNat]? = some v) (h : Q v s)
    (hs : subscripted slice false (.ref l) (.int k u) = operate [.ref l, .int k u] (getItem (.ref l) (.int k u)) := by with_unfolding_all rfl) :
    wpAny (model prog w) A (subscriptTail value slice (.ref l) (.int k u)) Q E s :=
  tail_any hl.typeIs slot_list_getitem.lookup (wpAny_getItem_list hl h0 hhi (by simpa using hx) h) hs
end
theorem isList_keeps {g h : Heap} {l : Addr} {items : Array Value} (x : g.IsList l items) (k : ∀ b o, g.get? b = some o → h.get? b = some o) : h.IsList l items := let ⟨o, ho, r⟩ := x; ⟨o, k l o ho, r⟩
theorem isTup_of {g : Heap} {a : Addr} {items : Array Value} {n : Nat} (h : g.get? a = some { cls := .type "tuple", data := .seq items n }) : IsTup g a items := ⟨_, h, rfl, _, rfl⟩
theorem isList_of {g : Heap} {a : Addr} {items : Array Value} {n : Nat} (h : g.get? a = some (listOf items n)) : g.IsList a items := ⟨_, h, rfl, _, rfl⟩
noncomputable def stEs (P : Params) (k : Nat → Tok) (sy hl sk tr : Addr) : List DictEntry := [
  ⟨PyData.keyHash P (Str.ofString "symbols"), .str (Str.ofString "symbols") (k 0), .ref sy⟩,
  ⟨PyData.keyHash P (Str.ofString "max_heap"), .str (Str.ofString "max_heap") (k 1), .int 100000 (k 2)⟩,
  ⟨PyData.keyHash P (Str.ofString "heap"), .str (Str.ofString "heap") (k 3), .ref hl⟩,
  ⟨PyData.keyHash P (Str.ofString "stack"), .str (Str.ofString "stack") (k 4), .ref sk⟩,
  ⟨PyData.keyHash P (Str.ofString "trail"), .str (Str.ofString "trail") (k 5), .ref tr⟩,
  ⟨PyData.keyHash P (Str.ofString "hb"), .str (Str.ofString "hb") (k 6), .int 0 (k 7)⟩,
  ⟨PyData.keyHash P (Str.ofString "bb"), .str (Str.ofString "bb") (k 8), .int 0 (k 9)⟩]
noncomputable def syEs (P : Params) (k : Nat → Tok) (tx an fs fn : Addr) : List DictEntry := [
  ⟨PyData.keyHash P (Str.ofString "texts"), .str (Str.ofString "texts") (k 0), .ref tx⟩,
  ⟨PyData.keyHash P (Str.ofString "atom_numbers"), .str (Str.ofString "atom_numbers") (k 1), .ref an⟩,
  ⟨PyData.keyHash P (Str.ofString "functors"), .str (Str.ofString "functors") (k 2), .ref fs⟩,
  ⟨PyData.keyHash P (Str.ofString "functor_numbers"), .str (Str.ofString "functor_numbers") (k 3), .ref fn⟩]
structure StG (w : World) (g : Heap) (st sy hl : Addr) (xs : List Value) (ds sk tr : Addr) (k : Nat → Tok) (n : Nat) : Prop where
  i : g.get? st = some (instObj 373 ds)
  d : g.get? ds = some (dictOf (stEs w.params k sy hl sk tr) n)
  h : g.IsList hl xs.toArray
theorem StG.keeps {w : World} {g h : Heap} {st sy hl : Addr} {xs : List Value} {ds sk tr : Addr} {k : Nat → Tok} {n : Nat} (x : StG w g st sy hl xs ds sk tr k n) (q : ∀ b o, g.get? b = some o → h.get? b = some o) : StG w h st sy hl xs ds sk tr k n :=
  ⟨q _ _ x.i, q _ _ x.d, isList_keeps x.h q⟩
structure SyG (w : World) (g : Heap) (sy : Addr) (txs fns : List Value) (dy tx an fs fn : Addr) (k : Nat → Tok) (n : Nat) : Prop where
  i : g.get? sy = some (instObj 154 dy)
  d : g.get? dy = some (dictOf (syEs w.params k tx an fs fn) n)
  t : g.IsList tx txs.toArray
  f : g.IsList fs fns.toArray
theorem SyG.keeps {w : World} {g h : Heap} {sy : Addr} {txs fns : List Value} {dy tx an fs fn : Addr} {k : Nat → Tok} {n : Nat} (x : SyG w g sy txs fns dy tx an fs fn k n) (q : ∀ b o, g.get? b = some o → h.get? b = some o) : SyG w h sy txs fns dy tx an fs fn k n :=
  ⟨q _ _ x.i, q _ _ x.d, isList_keeps x.t q, isList_keeps x.f q⟩
noncomputable def sg (a b : Int) : Int := if a < b then -1 else if b < a then 1 else 0
end
end Mine
end
section
set_option Elab.async false
set_option maxRecDepth 100000
set_option linter.unusedVariables false
namespace Mine
open PySem PySem.W PySem.Calls PyProof.Rows
section
variable {prog : Program} {w : World} {A : Around} {E : Value → Shared → Prop} {s : Shared}
theorem tup2_lt_tree {i a b : Int} {t1 t2 t3 t4 : Tok} {p q : Addr} {P : Fin → Shared → Prop} (hp : IsTup s.heap p [Value.int i t1, .int a t2].toArray) (hq : IsTup s.heap q [Value.int i t3, .int b t4].toArray)
    (h : P (.done (.ret (.bool (decide (a < b))))) s) : wpAny (model prog w) A (Builtin.«tuple.__lt__» ⟨[.ref p, .ref q], []⟩) P E s := by
  have hTb := hq.typeIs
  obtain ⟨oa, hoa, _, na, hda⟩ := hp
  obtain ⟨ob, hob, _, nb, hdb⟩ := hq
  show wpAny _ _ (isInstance (.ref q) (.type "tuple") >>= _) _ _ s
  refine wpAny_bind (wpAny_isInstance hTb isSubtype_tuple_tuple ?_)
  simp only [Bool.not_true, Bool.false_eq_true, if_false]
  refine wpAny_bind (wpAny_tupleItemsOf hoa hda ?_)
  refine wpAny_bind (wpAny_tupleItemsOf hob hdb ?_)
  refine wpAny_bind ?_
  simp only [List.zip_cons_cons, List.zip_nil_left, List.forIn_cons, List.forIn_nil]
  refine wpAny_bind (wpAny_bind (wpAny_eqBool_int ?_))
  simp only [beq_self_eq_true, Bool.not_true, Bool.false_eq_true, if_false]
  refine wpAny_pure ?_
  simp only
  refine wpAny_bind (wpAny_bind (wpAny_eqBool_int ?_))
  by_cases hab : a = b
  · subst hab
    simp only [beq_self_eq_true, Bool.not_true, Bool.false_eq_true, if_false]
    refine wpAny_pure ?_
    simp only
    refine wpAny_pure (wpAny_pure ?_)
    simp only [Int.lt_irrefl, decide_false] at h
    exact h
  · have e : (a == b) = false := by simpa using hab
    simp only [e, Bool.not_false, if_true]
    refine wpAny_bind (wpAny_rule (wpAny_bind (wpAny_lt_int ?_)))
    refine wpAny_bind (wpAny_pure (wpAny_pure ?_))
    simp only
    exact wpAny_pure (wpAny_pure h)
theorem tup2_gt_tree {i a b : Int} {t1 t2 t3 t4 : Tok} {p q : Addr} {P : Fin → Shared → Prop} (hp : IsTup s.heap p [Value.int i t1, .int a t2].toArray) (hq : IsTup s.heap q [Value.int i t3, .int b t4].toArray)
    (h : P (.done (.ret (.bool (decide (b < a))))) s) : wpAny (model prog w) A (Builtin.«tuple.__gt__» ⟨[.ref p, .ref q], []⟩) P E s := by
  have hTb := hq.typeIs
  obtain ⟨oa, hoa, _, na, hda⟩ := hp
  obtain ⟨ob, hob, _, nb, hdb⟩ := hq
  show wpAny _ _ (isInstance (.ref q) (.type "tuple") >>= _) _ _ s
  refine wpAny_bind (wpAny_isInstance hTb isSubtype_tuple_tuple ?_)
  simp only [Bool.not_true, Bool.false_eq_true, if_false]
  refine wpAny_bind (wpAny_tupleItemsOf hoa hda ?_)
  refine wpAny_bind (wpAny_tupleItemsOf hob hdb ?_)
  refine wpAny_bind ?_
  simp only [List.zip_cons_cons, List.zip_nil_left, List.forIn_cons, List.forIn_nil]
  refine wpAny_bind (wpAny_bind (wpAny_eqBool_int ?_))
  simp only [beq_self_eq_true, Bool.not_true, Bool.false_eq_true, if_false]
  refine wpAny_pure ?_
  simp only
  refine wpAny_bind (wpAny_bind (wpAny_eqBool_int ?_))
  by_cases hab : a = b
  · subst hab
    simp only [beq_self_eq_true, Bool.not_true, Bool.false_eq_true, if_false]
    refine wpAny_pure ?_
    simp only
    refine wpAny_pure (wpAny_pure ?_)
    simp only [Int.lt_irrefl, decide_false] at h
    exact h
  · have e : (a == b) = false := by simpa using hab
    simp only [e, Bool.not_false, if_true]
    refine wpAny_bind (wpAny_rule (wpAny_bind (PyProof.Rows.gt_int ?_)))
    refine wpAny_bind (wpAny_pure (wpAny_pure ?_))
    simp only
    exact wpAny_pure (wpAny_pure h)
theorem tup2_lt {i a b : Int} {t1 t2 t3 t4 : Tok} {p q : Addr} {Q : Value → Shared → Prop} (hp : IsTup s.heap p [Value.int i t1, .int a t2].toArray) (hq : IsTup s.heap q [Value.int i t3, .int b t4].toArray) (hu : A.units < cLine)
    (h : Q (.bool (decide (a < b))) s) : wpAny (model prog w) A (compareOp .Lt (.ref p) (.ref q)) Q E s :=
  wpAny_richCompare_same_room (op := .Lt) hp.typeIs hq.typeIs F.slot_tuple_lt
      (wpAny_call_entry F.slot_tuple_lt hp.typeIs F.entry_tuple_lt (tup2_lt_tree hp hq ⟨_, rfl, (fun e => nomatch e), h⟩) (F.args_tuple_lt_2 _ _)) hu
theorem tup2_gt {i a b : Int} {t1 t2 t3 t4 : Tok} {p q : Addr} {Q : Value → Shared → Prop} (hp : IsTup s.heap p [Value.int i t1, .int a t2].toArray) (hq : IsTup s.heap q [Value.int i t3, .int b t4].toArray) (hu : A.units < cLine)
    (h : Q (.bool (decide (b < a))) s) : wpAny (model prog w) A (compareOp .Gt (.ref p) (.ref q)) Q E s :=
  wpAny_richCompare_same_room (op := .Gt) hp.typeIs hq.typeIs F.slot_tuple_gt
      (wpAny_call_entry F.slot_tuple_gt hp.typeIs F.entry_tuple_gt (tup2_gt_tree hp hq ⟨_, rfl, (fun e => nomatch e), h⟩) (F.args_tuple_gt_2 _ _)) hu
theorem reads_tup2 {h : Heap} {p : Addr} {i a : Int} {t1 t2 : Tok} (hp : IsTup h p [Value.int i t1, .int a t2].toArray) : Reads h (.ref p) (.tuple [.int i, .int a]) [] := by
  obtain ⟨o, ho, hc, n, hd⟩ := hp
  exact reads_tuple_at ho hc hd (ReadsAll.cons (as := []) (Reads.int _ _) (ReadsAll.cons (as := []) (Reads.int _ _) ReadsAll.nil))
theorem tup2_eq {i j a b : Int} {t1 t2 t3 t4 : Tok} {p q : Addr} {Q : Value → Shared → Prop} (hp : IsTup s.heap p [Value.int i t1, .int a t2].toArray) (hq : IsTup s.heap q [Value.int j t3, .int b t4].toArray) (hu : A.units + 64 < cLine)
    (h : Q (.bool (decide (i = j ∧ a = b))) s) : wpAny (model prog w) A (compareOp .Eq (.ref p) (.ref q)) Q E s := by
  refine eq_dataH (reads_tup2 hp) (reads_tup2 hq) (by rfl) (by rfl) hu ?_
  have e : PyData.eqv (.tuple [.int i, .int a]) (.tuple [.int j, .int b]) = decide (i = j ∧ a = b) := by
    simp only [PyData.eqv, PyData.eqvAll, Bool.and_true]
    by_cases h1 : i = j <;> by_cases h2 : a = b <;> simp [h1, h2]
  rw [e]; exact h
end
noncomputable def psEs (P : Params) (k0 k1 k2 : Tok) (sp : Int) (sa : Addr) : List DictEntry := [
  ⟨PyData.keyHash P (Str.ofString "span"), .str (Str.ofString "span") k0, .int sp k1⟩,
  ⟨PyData.keyHash P (Str.ofString "met"), .str (Str.ofString "met") k2, .ref sa⟩]
theorem len_listG {prog : Program} {w : World} {A : Around} {E : Value → Shared → Prop} {s : Shared} {l : Addr} {xs : List Value} {Q : Value → Shared → Prop} (hl : s.heap.IsList l xs.toArray) (hfit : (xs.length : Int) < 2 ^ 63)
    (h : Q (.int xs.length (s.toks + 1)) { s with toks := s.toks + 1 + 1 }) : wpAny (model prog w) A (call (.builtin "len") [.ref l]) Q E s :=
  PyProof.Rows.len_list hl (by rw [List.size_toArray]; exact hfit) (by rw [List.size_toArray]; exact h)
end Mine
end
section
set_option Elab.async false
set_option maxRecDepth 100000
set_option linter.unusedVariables false
namespace Mine
open PySem PySem.W PySem.Calls PyProof.Rows
section
variable {prog : Program} {w : World} {A : Around} {E : Value → Shared → Prop} {s : Shared} {h₀ h : Heap} {L D b l : Addr} {m : Str → Option Value} {news : List (Addr × Obj)} {vs vs2 : List Value} {n n2 : Nat}
theorem extend_any {news' : Nat → List (Addr × Obj)} {Q : Value → Shared → Prop} (F : Fr h₀ L s.heap m) (N : News h₀ L s.heap news) (hb : (b, listOf vs2.toArray n2) ∈ news)
    (U : ∀ n', Upd D (listOf vs.toArray n) (listOf (vs ++ vs2).toArray n') news (news' n')) (hlen : vs.length + vs2.length ≤ 100000)
    (h : ∀ h' n', Fr h₀ L h' m → News h₀ L h' (news' n') → Q .none { s with heap := h' }) : wpAny (model prog w) A (call (.builtin "list.extend") [.ref D, .ref b]) Q E s := by
  have hd : ¬(!vs.toArray.isEmpty && Builtin.List.listTooLong (vs.toArray.size + vs2.toArray.size)) = true := by
    have : Builtin.List.listTooLong (vs.toArray.size + vs2.toArray.size) = false := by
      unfold Builtin.List.listTooLong
      simp only [List.size_toArray]
      rw [decide_eq_false_iff_not, PySem.sizeLine_eq]; omega
    rw [this]; simp
  have hz : vs.toArray.toList.length ≤ sizeLine := by rw [PySem.sizeLine_eq]; simp; omega
  have hz2 : vs.toArray.size + vs2.toArray.size ≤ sizeLine + 1 := by rw [PySem.sizeLine_eq]; simp only [List.size_toArray]; omega
  by_cases h2 : vs2 = []
  · subst h2
    have U' := U n
    rw [List.append_nil] at U'
    exact kxn_extend F N hb rfl U' hd hz hz2 fun h' F' N' => h h' n F' N'
  · exact kl_extend F N hb rfl (by simpa using h2) (U (n + 1)) hd hz hz2 fun h' F' N' => h h' (n + 1) F' N'
theorem slice_from {value slice : PySem.Expr} {x : Int} {u : Tok} {Q : Value → Shared → Prop} (F : Fr h₀ L s.heap m) (N : News h₀ L s.heap news) (hl : s.heap.IsList l vs.toArray) (hx : 0 ≤ x) (hx2 : x < 2 ^ 62) (hlen : vs.length ≤ 100000)
    (h : ∀ D h', Fr h₀ L h' m → News h₀ L h' ((D, listOf (vs.drop x.toNat).toArray 0) :: news) → (∀ p ∈ news, p.1 < D) → Q (.ref D) { s with heap := h' })
    (hs : subscripted slice false (.ref l) (.ref s.heap.objs.size) = operate [.ref s.heap.objs.size, .ref l] (getItem (.ref l) (.ref s.heap.objs.size))) (ht : ∀ r, letTemporaryGo value (.ref l) r = pure ()) :
    wpAny (model prog w) A (subscriptTail value slice (.ref l) (.ref s.heap.objs.size)) Q E { s with heap := s.heap.push { cls := .type "slice", data := .fields #[.int x u, .none, .none] } } := by
  refine kmk_slice_lit (lo := some x) (hi := none) F N hl (by first | exact IsPart.int _ _ | constructor | exact .inr ⟨_, _, rfl, rfl⟩) (by first | exact IsPart.none | constructor | exact .inl ⟨rfl, rfl⟩) ?_ h hs ht (by rw [PySem.sizeLine_eq]; simp; omega)
  have e : sliceBounds (some x) none none vs.toArray.size = (((min x.toNat vs.toArray.size : Nat) : Int), ((vs.toArray.size : Nat) : Int), 1) := by
    simp only [sliceBounds, Option.getD_none, show (1 : Int) > 0 by decide, if_true, if_neg (show ¬ (x < 0) by omega)]
    congr 1
    omega
  rw [kmk_pick_nat _ e]
  show (vs.drop (min x.toNat vs.toArray.size)).take (vs.toArray.size - min x.toNat vs.toArray.size) = _
  rw [List.size_toArray, kmk_drop_min, List.take_of_length_le (by rw [List.length_drop]; omega)]
theorem append_list {v : Value} {news' : List (Addr × Obj)} {Q : Value → Shared → Prop} (F : Fr h₀ L s.heap m) (N : News h₀ L s.heap news) (U : Upd D (listOf vs.toArray n) (listOf (vs ++ [v]).toArray (n + 1)) news news') (hlen : vs.length ≤ 1000000)
    (h : ∀ h', Fr h₀ L h' m → News h₀ L h' news' → Q .none { s with heap := h' }) : wpAny (model prog w) A (call (.builtin "list.append") [.ref D, v]) Q E s := by
  rw [← List.push_toArray] at U
  exact append_K F N U h (by first | (rw [PySem.sizeLine_eq, List.size_toArray]; omega) | (rw [PySem.sizeLine_eq]; simp; omega))
end
end Mine
end
section
set_option Elab.async false
set_option maxRecDepth 100000
set_option linter.unusedVariables false
namespace Mine
open PySem PySem.W PySem.Calls PyProof.Rows
section
variable {prog : Program} {w : World} {A : Around} {E : Value → Shared → Prop} {Q : Flow → Shared → Prop} {s : Shared} {env : Env} {h₀ : Heap} {x : Str} {body : List Stmt}
theorem rangeSize_one (n : Nat) : Builtin.Range.rangeSize 0 n 1 = (n : Int) := by
  unfold Builtin.Range.rangeSize
  rw [if_pos (by decide)]
  split <;> omega
theorem rangeSize_two (n : Nat) (h : 2 ≤ n) : Builtin.Range.rangeSize 0 (n - 1) 2 = ((n / 2 : Nat) : Int) := by
  unfold Builtin.Range.rangeSize
  rw [if_pos (by decide)]
  split <;> omega
theorem range_small {n : Int} {c : Int} (h0 : -1 ≤ n) (hn : n < 1000000) (hc : c = 1 ∨ c = 2) : Builtin.Range.small 0 n c = true := by
  rcases hc with rfl | rfl
  · exact small_one (by decide) (by decide) (by omega) (by omega)
  · unfold Builtin.Range.small Builtin.Range.rangeSize
    simp only [Builtin.Range.rangeFitsLong, Bool.and_eq_true, Bool.or_eq_true, decide_eq_true_eq, beq_iff_eq, show (2 : Int) > 0 by decide, if_true]
    split <;> omega
theorem item_listNeg {value slice : Expr} {Q : Value → Shared → Prop} {l : Addr} {vs : List Value} {u : Tok} {v : Value} (hl : s.heap.IsList l vs.toArray) (hne : 0 < vs.length) (hx : vs[vs.length - 1]? = some v) (h : Q v s)
    (hs : subscripted slice false (.ref l) (.int (-1) u) = operate [.ref l, .int (-1) u] (getItem (.ref l) (.int (-1) u)) := by with_unfolding_all rfl) :
    wpAny (model prog w) A (subscriptTail value slice (.ref l) (.int (-1) u)) Q E s :=
  tail_any hl.typeIs slot_list_getitem.lookup (wpAny_getItem_list_neg hl (by decide) (by simp; omega) (by decide) (by
    have : (-1 + (vs.toArray.size : Int)).toNat = vs.length - 1 := by simp; omega
    rw [this]; simpa using hx) h) hs
end
end Mine
end
section
set_option Elab.async false
set_option maxRecDepth 100000
set_option linter.unusedVariables false
namespace Mine
open PySem PySem.W PySem.Calls PyProof.Rows
section
variable {prog : Program} {w : World} {A : Around} {E : Value → Shared → Prop} {Q : Flow → Shared → Prop} {s : Shared} {env : Env} {h₀ : Heap} {x : Str} {body : List Stmt}
end
theorem list_keysI {prog : Program} {w : World} {A : Around} {E : Value → Shared → Prop} {s : Shared} {h₀ : Heap} {L d : Addr} {m : Str → Option Value} {news : List (Addr × Obj)} {Q : Value → Shared → Prop} {o : Obj} {kvs : List (Int × Value)} (hh : A.handled = none) (F : Fr h₀ L s.heap m) (N : News h₀ L s.heap news) (hp : (d, o) ∈ news) (hd : o.IsDictOf (PySem.intKind prog w) kvs) (lo : (d == sysModules) = false) (hn : kvs.length ≤ 16777216)
    (h : ∀ (B : Addr) c h' tk, KdlKeysI kvs fun vs => Fr h₀ L h' m → News h₀ L h' ((B, listOf vs.toArray c) :: news) → (∀ q ∈ news, q.1 < B) → Q (.ref B) { s with heap := h', toks := tk }) :
    wpAny (model prog w) A (call (.type "list") [.ref d]) Q E s := by
  obtain ⟨ep, hat⟩ := (kda_dict N hp hd).dictAt
  refine kdl_N (kdl_dict (knd := PySem.intKind prog w) (kvs := kvs) (ep := ep) lo) hh F N hat (kdl_size hn) fun B c h' tk vs F' N' l1 hl hv => ?_
  refine kdl_openI (h B c h' tk) vs hl (fun j u hu => ?_) F' N' l1
  obtain ⟨k, x, hx, hk⟩ := hv j u hu
  exact ⟨k, x, hx, Value.isInt_shape hk⟩
theorem set_app0 {xs l q : List Value} {i : Nat} {v : Value} (e : ki_setL l i v = some q) : ki_setL (xs ++ l) (xs.length + i) v = some (xs ++ q) := by
  induction xs with
  | nil => simpa using e
  | cons y ys ih =>
    show ki_setL (y :: (ys ++ l)) (ys.length + 1 + i) v = _
    rw [show ys.length + 1 + i = (ys.length + i) + 1 by omega]
    simp only [ki_setL, ih, Option.map_some, List.cons_append]
theorem set_app {xs l q : List Value} {i : Nat} {v : Value} {k : Int} (hk : k.toNat = xs.length + i) (e : ki_setL l i v = some q) : ki_setL (xs ++ l).toArray.toList k.toNat v = some (xs ++ q) := by
  rw [hk]; exact set_app0 e
end Mine
end
section
set_option Elab.async false
set_option maxRecDepth 100000
set_option maxHeartbeats 2000000
set_option linter.unusedVariables false
namespace Mine
open PySem PySem.W PySem.Calls PyProof.Rows PyProof.V PySem.Spec
section
variable {prog : Program} {w : World}
noncomputable def FnF (prog : Program) (w : World) (fr : List (Addr × Obj)) (o : Obj) (ys : List (List Int × Addr × Value)) : Prop :=
  ∃ es ep, o.ExactDict ∧ o.data = .dict es ep ∧ es.toList = ys.map (entryOfKey (tupleKind (intKind prog w))) ∧ (ys.map (·.1)).Nodup ∧ ∀ x ∈ ys, ∃ ok, (x.2.1, ok) ∈ fr ∧ TupKeyObj (intKind prog w) x.1 ok
theorem FnF.at {h : Heap} {fn : Addr} {fr : List (Addr × Obj)} {o : Obj} {ys : List (List Int × Addr × Value)} (x : FnF prog w fr o ys) (hfr : ∀ p ∈ fr, h.get? p.1 = some p.2) (hm : h.get? fn = some o) : h.DictOfH (tupleKind (intKind prog w)) fn ys :=
  let ⟨es, ep, a, b, c, d, e⟩ := x
  ⟨o, es, ep, hm, a, b, c, fun y hy => let ⟨ok, h1, h2⟩ := e y hy; h2.key (hfr _ h1), d⟩
theorem FnF.empty {fr : List (Addr × Obj)} {o : Obj} (hd : o.IsDictOf (intKind prog w) []) : FnF prog w fr o [] := by
  obtain ⟨es, ep, hc, hdat, _, hp, _⟩ := hd
  have he : es.toList = [] := List.length_eq_zero_iff.mp hp.length
  exact ⟨es, ep, hc, hdat, he, List.nodup_nil, fun _ hx => by simp at hx⟩
variable {A : Around} {E : Value → Shared → Prop} {s : Shared} {h₀ : Heap} {L fn a : Addr} {m : Str → Option Value} {news fr : List (Addr × Obj)} {o : Obj} {ys : List (List Int × Addr × Value)} {ks : List Int} {ok : Obj}
theorem fn_method {pl : Sem Bool} {Q : Value × List Value → Shared → Prop} (N : News h₀ L s.heap news) (hp : (fn, o) ∈ news) (x : FnF prog w fr o ys) (k : ∀ p ∈ fr, s.heap.get? p.1 = some p.2) (h : Q (.builtin "dict.get", [.ref fn]) s) :
    wpAny (model prog w) A (getMethod (.ref fn) "get" pl) Q E s :=
  have hd := x.at k (N _ hp).1
  getMethod_builtin hd.typeIs PySem.F.plainAttrs_dict PySem.F.slot_dict_get PySem.F.type_dict_get (dictOfH_noDict hd) h
theorem fn_get {dflt : Value} {Q : Value → Shared → Prop} (hu : A.units + 1 < cLine) (N : News h₀ L s.heap news) (hp : (fn, o) ∈ news) (x : FnF prog w fr o ys) (k : ∀ p ∈ fr, s.heap.get? p.1 = some p.2) (lo : (fn == sysModules) = false)
    (hka : (a, ok) ∈ news) (tk : TupKeyObj (intKind prog w) ks ok) (hno : ks ∉ ys.map (·.1)) (h : ∀ t, Q dflt { s with toks := t }) : wpAny (model prog w) A (call (.builtin "dict.get") [.ref fn, .ref a, dflt]) Q E s := by
  have hd := x.at k (N _ hp).1
  refine call_meetsIn PySem.F.slot_dict_get hd.typeIs PySem.F.entry_dict_get (PySem.F.args_dict_get_3 _ _ _) (meetsH_dict_get_default (tupleKind (intKind prog w)) fn a lo dflt) ⟨tupleKind_room_in1 hu, ks, ys, tk.key (N _ hka).1, hd, ?_⟩
  have e : atKey ys ks = none := by
    cases q : atKey ys ks with
    | none => rfl
    | some y =>
      have h1 : (atKey ys ks).isSome = true := by rw [q]; rfl
      rw [← any_kvsOf] at h1
      obtain ⟨z, hz, hz2⟩ := List.any_eq_true.mp h1
      obtain ⟨y', hy', rfl⟩ := List.mem_map.mp hz
      exact absurd (List.mem_map.mpr ⟨y', hy', of_decide_eq_true hz2⟩) hno
  rw [e]
  exact h _
theorem fn_set {v : Value} {G : Obj → List (Addr × Obj)} {Q : Unit → Shared → Prop} (hu : A.units + 1 < cLine) (F : Fr h₀ L s.heap m) (N : News h₀ L s.heap news) (U : UpdF fn o news G) (x : FnF prog w fr o ys) (k : ∀ p ∈ fr, s.heap.get? p.1 = some p.2)
    (hka : (a, ok) ∈ news) (tk : TupKeyObj (intKind prog w) ks ok) (hno : ks ∉ ys.map (·.1)) (hsz : ys.length ≤ 1000)
    (h : ∀ h' o' t, Fr h₀ L h' m → News h₀ L h' (G o') → FnF prog w ((a, ok) :: fr) o' (ys ++ [(ks, a, v)]) → Q () { s with heap := h', toks := t }) :
    wpAny (model prog w) A (setItem (.ref fn) (.ref a) v) Q E s := by
  obtain ⟨pre, post, rfl, hg, a1, b1⟩ := U.split
  have hm := N (fn, o) (List.mem_append_right _ (.head _))
  have hd := x.at k hm.1
  refine wpAny_setItem_heap (hsz := by rw [PySem.sizeLine_eq]; omega) (knd := tupleKind (intKind prog w)) (tupleKind_room_in1 hu) (tk.key (N _ hka).1) hd fun h' hmm hs => ?_
  obtain ⟨o', es', ep', ho', hc', hd', he', hk', hn'⟩ := hmm
  have e : storedH ys ks a v = ys ++ [(ks, a, v)] := by
    unfold storedH
    rw [if_neg]
    intro q
    have h1 : ((kvsOf ys).any fun kv => decide (kv.1 = ks)) = true := by rw [any_kvsOf]; exact q
    obtain ⟨z, hz, hz2⟩ := List.any_eq_true.mp h1
    obtain ⟨y', hy', rfl⟩ := List.mem_map.mp hz
    exact absurd (List.mem_map.mpr ⟨y', hy', of_decide_eq_true hz2⟩) hno
  rw [e] at he' hn'
  refine h h' o' _ (F.change hs hm.2.1 hm.2.2) (hg o' ▸ N.setIn a1 b1 hs ho') ?_
  obtain ⟨es, ep, z1, z2, z3, z4, z5⟩ := x
  refine ⟨es', ep', hc', hd', he', hn', fun y hy => ?_⟩
  rcases List.mem_append.mp hy with hy | hy
  · obtain ⟨ok', h1, h2⟩ := z5 y hy; exact ⟨ok', .tail _ h1, h2⟩
  · rw [List.mem_singleton.mp hy]; exact ⟨ok, .head _, tk⟩
end
theorem Spec.make {w : World} {f C : Addr} {rest : List Value} {D U : Nat} {pre : Heap → Prop} {post : Addr → Addr → Value → List (Addr × Obj) → Prop}
    (S : ∀ x dx, x ≠ dx → Spec w f (.ref x :: rest) D U [(x, instObj C dx), (dx, emptyDict)] pre (fun v n => v = .none ∧ post x dx v n))
    {dp un : Nat} {gd : Option (List Code)} {env : Env} {outer : List Env} {A₀ : Around} {base h₀ : Heap} {L : Addr} {m : Str → Option Value} {mean : ExcName → Option Value} {mg mb : Str → Option Value} {s : Shared} {Q E : Value → Shared → Prop} {news : List (Addr × Obj)}
    (B : Below A₀ base outer h₀) (F : Fr h₀ L s.heap m) (X : (K0 w.params).In h₀) (T : Top V0 (looseW V0 loo) mean mg mb h₀) (N : News h₀ L s.heap news) (hf : env.frame = some L) (hke : env.scope.kind = .function)
    (hm : makesIn (K0 w.params) C = true) (hi : findIn (K0 w.params) (.ref C) "__init__" = some (some (.ref f))) (hft : typeIn (K0 w.params) (.ref f) = some (.type "function"))
    (hd : dp + 8 ≤ D) (hu : un + 8 ≤ U)
    (hpre : ∀ g, h₀.StaysIn g → (∀ p ∈ news, g.get? p.1 = some p.2) → pre g)
    (h : ∀ x dx h' tk need', x ≠ dx → Fr h₀ L h' m → News h₀ L h' (need' ++ news) → (∀ p ∈ news, ∀ q ∈ need', p.1 ≠ q.1) → post x dx .none need' → Q (.ref x) { s with heap := h', toks := tk }) :
    wpAny (model PySem.Challenge.rw_no0180_01.row.toRowW.prog w) (aro dp un gd (env :: outer)) (call (.ref C) rest) Q E s := by
  refine wpAny_call (make_K F N (X.keeps F.keep) hm hi hft fun x dx h₁ F₁ N₁ lt1 lt2 => ?_)
  have e1 : (Code.builtin "type.__call__" ⟨.ref C :: rest, []⟩).envs = [] := rfl
  have e2 : (Code.builtin "type.__call__" ⟨.ref C :: rest, []⟩).weight = 1 := rfl
  have e3 : (Code.builtin "type.__call__" ⟨.ref C :: rest, []⟩).cUnits = 1 := rfl
  obtain ⟨gd9, ee⟩ : ∃ gd9, (aro dp un gd (env :: outer)).under (.builtin "type.__call__" ⟨.ref C :: rest, []⟩) = aro (dp + 1) (un + 1) gd9 (env :: outer) := by
    unfold Around.under
    rw [e1, e2, e3]
    exact ⟨_, rfl⟩
  rw [ee]
  refine codeAny_le (dp' := D) (un' := U) ?_ (by omega) (by omega)
  have Nn : News h₀ L h₁ [(x, instObj C dx), (dx, emptyDict)] := fun p hp => N₁ p (by rcases List.mem_cons.mp hp with rfl | hp; exact .head _; rw [List.mem_singleton.mp hp]; exact .tail _ (.head _))
  obtain ⟨FG, BG, st, lv⟩ := groundX (A := aro dp un gd (env :: outer)) (R := fun _ _ => True) (s := { s with heap := h₁ }) B F₁ Nn rfl hf hke
  have hne : ∀ p ∈ news, p.1 ≠ dx ∧ p.1 ≠ x := fun p hp => ⟨Nat.ne_of_lt (lt1 p hp), Nat.ne_of_lt (Nat.lt_trans (lt1 p hp) lt2)⟩
  have hr : ∀ p ∈ news, (hideAll h₁ [x, dx]).get? p.1 = some p.2 := fun p hp => hideAll_get _ (N₁ p (.tail _ (.tail _ hp))).1 fun q => by
    rcases List.mem_cons.mp q with e | q
    · exact (hne p hp).2 e
    · exact (hne p hp).1 (List.mem_singleton.mp q)
  refine S x dx (Nat.ne_of_gt lt2) gd9 (env :: outer) _ base (hideAll h₁ [x, dx]) mean mg mb { s with heap := h₁ } _ BG (Frag.In.keeps X st) (Top.keeps T st) (fun b o e => of_hideAll _ e) (Nat.le_of_eq (hideAll_size _ _))
    (fun p hp => ⟨(Nn p hp).1, hideAll_none _ (by rcases List.mem_cons.mp hp with rfl | hp; exact .head _; rw [List.mem_singleton.mp hp]; exact .tail _ (.head _))⟩) (hpre _ st hr) ?_
  rintro v h' tk need' st' O' ⟨rfl, hpost⟩
  refine ⟨rfl, ?_⟩
  obtain ⟨oL, es, ep, hL, hLr⟩ := FG.ns
  refine h x dx h' tk need' (Nat.ne_of_gt lt2) ⟨⟨oL, es, ep, st' _ _ hL, hLr⟩, fun b o e => st' b o (st b o e), F.above⟩ (fun p hp => ?_) (fun p hp q hq e => ?_) hpost
  · rcases List.mem_append.mp hp with hp | hp
    · refine ⟨(O' p hp).1, fun e => ?_, ?_⟩
      · have := (O' p hp).2; rw [e] at this; exact absurd (this.symm.trans hL) (by simp)
      · cases q : h₀.get? p.1 with
        | none => rfl
        | some o => have := (O' p hp).2; exact absurd (this.symm.trans (st _ _ q)) (by simp)
    · exact ⟨st' _ _ (hr p hp), (N p hp).2⟩
  · have h1 := (O' q hq).2
    rw [← e, hr p hp] at h1; cases h1
end Mine
end
section
set_option Elab.async false
set_option maxRecDepth 100000
set_option linter.unusedVariables false
namespace Mine
open PySem PySem.W PySem.Calls PyProof.Rows
theorem compRest_inv {σ : Type} {prog : Program} {w : World} {A : Around} {h₀ : Heap} {L : Addr} {m : Str → Option Value} {env : Env} {elt : Expr} {x : Str} {scope : Scope} {cl : List (Str × Addr)} {s : Shared} {S : List (Addr × Obj) → Prop} {P : Nat → Value → Prop} {Fin : List Value → List (Addr × Obj) → Prop}
    (Led : σ → List (Addr × Obj)) (P2 : Nat → List Value → σ → Prop) {n : Nat}
    (turn : ∀ i ys c v I oI C oC D m₂ h tk (E' : Value → Shared → Prop), i < n → P i v → P2 i ys c → LCg.NsObj oC m₂ → m₂ x = some v → Fr h₀ L h m → News h₀ L h ((I, oI) :: (C, oC) :: (D, LCg.lst ys) :: Led c) → LCg.Off3 I C D (Led c) → ((@Ne Nat I C) ∧ (@Ne Nat I D) ∧ (@Ne Nat C D)) →
      wpAny (model prog w) A (eval elt (compEnvC scope cl C env)) (LCg.CompEnd h₀ L m { s with heap := h, toks := tk } I oI C oC D (LCg.lst ys) S (fun y news' => ∃ c', news' = Led c' ∧ P2 (i + 1) (ys ++ [y]) c')) E' { s with heap := h, toks := tk })
    (fin : ∀ ys c, P2 n ys c → Fin ys (Led c)) : ∀ (k i : Nat) (ys : List Value) (c : σ), i + k = n → P2 i ys c → LCg.CompRest prog w A h₀ L m env elt x scope cl s S P Fin k i ys (Led c)
  | 0, i, ys, c, hi, hp => LCg.CompRest.zero (fin ys c (by rw [← hi]; exact hp))
  | k + 1, i, ys, c, hi, hp => LCg.CompRest.succ fun v I oI C oC D m₂ h tk E' hv hC hx F N off ne =>
      wpAny_mono (turn i ys c v I oI C oC D m₂ h tk E' (by omega) hv hp hC hx F N off ne) (fun y s₂ hy => by
        obtain ⟨h', tk', news', rfl, F', N', off', hS, c', rfl, hp'⟩ := hy
        exact ⟨h', tk', Led c', rfl, F', N', off', hS, compRest_inv Led P2 turn fin k (i + 1) (ys ++ [y]) c' (by omega) hp'⟩) fun _ _ e => e
end Mine
end
section
set_option Elab.async false
set_option linter.unusedVariables false
namespace Mine
open PySem PySem.W PySem.Calls PyProof.Rows
theorem compRestT_inv {σ : Type} {prog : Program} {w : World} {A : Around} {h₀ : Heap} {L : Addr} {m : Str → Option Value} {env : Env} {ct elt : Expr} {x : Str} {scope : Scope} {cl : List (Str × Addr)} {s : Shared} {S : List (Addr × Obj) → Prop} {P : Nat → Value → Prop} {Fin : List Value → List (Addr × Obj) → Prop}
    (Led : σ → List (Addr × Obj)) (P2 : Nat → List Value → σ → Prop) {n : Nat}
    (turn : ∀ i ys c v I oI C oC D m₂ h tk (E' : Value → Shared → Prop), i < n → P i v → P2 i ys c → LCg.NsObj oC m₂ → m₂ x = some v → Fr h₀ L h m → News h₀ L h ((I, oI) :: (C, oC) :: (D, LCg.lst ys) :: Led c) → LCg.Off3 I C D (Led c) → ((@Ne Nat I C) ∧ (@Ne Nat I D) ∧ (@Ne Nat C D)) →
      wpAny (model prog w) A (isTrue ct (compEnvC scope cl C env) (eval ct (compEnvC scope cl C env))) (fun ok s' => if ok = true then
        wpAny (model prog w) A (eval elt (compEnvC scope cl C env)) (LCg.CompEnd h₀ L m { s with heap := h, toks := tk } I oI C oC D (LCg.lst ys) S (fun y news' => ∃ c', news' = Led c' ∧ P2 (i + 1) (ys ++ [y]) c')) E' s'
        else LCg.CompEnd h₀ L m { s with heap := h, toks := tk } I oI C oC D (LCg.lst ys) S (fun _ news' => ∃ c', news' = Led c' ∧ P2 (i + 1) ys c') Value.none s') E' { s with heap := h, toks := tk })
    (fin : ∀ ys c, P2 n ys c → Fin ys (Led c)) : ∀ (k i : Nat) (ys : List Value) (c : σ), i + k = n → P2 i ys c → LCt.CompRestT prog w A h₀ L m env ct elt x scope cl s S P Fin k i ys (Led c)
  | 0, i, ys, c, hi, hp => LCt.CompRestT.zero (fin ys c (by rw [← hi]; exact hp))
  | k + 1, i, ys, c, hi, hp => LCt.CompRestT.succ fun v I oI C oC D m₂ h tk E' hv hC hx F N off ne =>
      wpAny_mono (turn i ys c v I oI C oC D m₂ h tk E' (by omega) hv hp hC hx F N off ne) (fun ok s' hy => by
        by_cases hok : ok = true
        · rw [if_pos hok] at hy ⊢
          exact wpAny_mono hy (fun y s₂ hy => by
            obtain ⟨h', tk', news', rfl, F', N', off', hS, c', rfl, hp'⟩ := hy
            exact ⟨h', tk', Led c', rfl, F', N', off', hS, compRestT_inv Led P2 turn fin k (i + 1) (ys ++ [y]) c' (by omega) hp'⟩) fun _ _ e => e
        · rw [if_neg hok] at hy ⊢
          obtain ⟨h', tk', news', rfl, F', N', off', hS, c', rfl, hp'⟩ := hy
          exact ⟨h', tk', Led c', rfl, F', N', off', hS, compRestT_inv Led P2 turn fin k (i + 1) ys c' (by omega) hp'⟩) fun _ _ e => e
end Mine
end
section
set_option Elab.async false
set_option maxRecDepth 100000
namespace Mine
noncomputable section
open PySem PySem.W PySem.Calls PyProof.Rows
theorem subI {α : Type} {a r : List α} {y : α} (i : Nat) (e : a[i]? = some y) (h : ∀ p ∈ r, p ∈ a) : ∀ p ∈ y :: r, p ∈ a :=
  List.forall_mem_cons.mpr ⟨List.mem_of_getElem? e, h⟩
end
end Mine
end
section
set_option Elab.async false
set_option maxRecDepth 100000
set_option maxHeartbeats 1000000
namespace Mine
noncomputable section
open PySem PySem.W PySem.Calls PyProof.Rows
noncomputable def gT : List (Str × Value) := [
  (Str.ofString "_wall", (.ref 21)), (Str.ofString "ClausemillError", (.ref 31)), (Str.ofString "PrologError", (.ref 51)), (Str.ofString "A_NIL", (.int 0 241)), (Str.ofString "A_PLUS", (.int 4 243)), (Str.ofString "A_SYSTEM", (.int 25 245)), (Str.ofString "F_DOT", (.int 0 247)), (Str.ofString "F_MINUS", (.int 13 249)), (Str.ofString "F_ERROR", (.int 16 251)), (Str.ofString "fixed_atoms", (.ref 60)), (Str.ofString "fixed_functors", (.ref 67)), (Str.ofString "Symbols", (.ref 154)), (Str.ofString "system_error", (.ref 165)), (Str.ofString "formal_of", (.ref 172)), (Str.ofString "resource_error", (.ref 179)), (Str.ofString "REF", (.int 0 415)), (Str.ofString "SRF", (.int 1 417)), (Str.ofString "STR", (.int 2 419)), (Str.ofString "LIS", (.int 3 421)), (Str.ofString "CON", (.int 4 423)), (Str.ofString "INT", (.int 5 425)), (Str.ofString "FUN", (.int 6 427)), (Str.ofString "Cells", (.ref 323)), (Str.ofString "Store", (.ref 373)), (Str.ofString "PairSet", (.ref 399)), (Str.ofString "push_pairs", (.ref 410)), (Str.ofString "rank", (.ref 417)), (Str.ofString "order", (.ref 424)), (Str.ofString "compare_shapes", (.ref 431)), (Str.ofString "compare_tops", (.ref 438)), (Str.ofString "compare", (.ref 445)), (Str.ofString "merge", (.ref 452)), (Str.ofString "merge_sort", (.ref 459)), (Str.ofString "_law_row", (.ref 466)), (Str.ofString "_law_next", (.ref 473)), (Str.ofString "_law_key", (.ref 480)), (Str.ofString "_law_weight", (.ref 487)), (Str.ofString "law", (.ref 492))]
theorem gT_ok {P : Params} {x : Str} {v : Value} (h : gT.lookup x = some v) : nsIn (K0 P) mainGlobals x = some (some v) := by
  have e : gT.map (fun p => nsIn (K0 P) mainGlobals p.1) = gT.map (fun p => some (some p.2)) := by kernel_rfl
  have key : ∀ l : List (Str × Value), l.map (fun p => nsIn (K0 P) mainGlobals p.1) = l.map (fun p => some (some p.2)) → l.lookup x = some v → nsIn (K0 P) mainGlobals x = some (some v) := by
    intro l
    induction l with
    | nil => intro _ h; cases h
    | cons p l ih =>
      intro e h
      rw [List.map_cons, List.map_cons, List.cons.injEq] at e
      rw [List.lookup_cons] at h
      cases q : (x == p.1) with
      | true =>
        rw [q] at h
        have hx : x = p.1 := eq_of_beq q
        rw [hx, e.1, ← Option.some.inj h]
      | false =>
        rw [q] at h
        exact ih e.2 h
  exact key gT e h
noncomputable def cmP (op : CmpOp) (a b : Int) : Option Bool := match op with
  | .Eq => some (a == b)
  | .NotEq => some (a != b)
  | .Lt => some (decide (a < b))
  | .Gt => some (decide (b < a))
  | .LtE => some (decide (a ≤ b))
  | .GtE => some (decide (b ≤ a))
  | _ => none
section
variable {w : World} {A : Around} {E : Value → Shared → Prop} {s : Shared} {h₀ : Heap} {L a : Addr} {m mg mb : Str → Option Value} {cn : Str} {cs : Scope} {ccd : Value} {cl : List (Str × Addr)} {p : Program} {loose : List Str} {prog : Program}
theorem cmP_ok {op : CmpOp} {x y : Int} {t u : Tok} {c : Bool} {Q : Value → Shared → Prop} (e : cmP op x y = some c) (h : Q (.bool c) s) : wpAny (model prog w) A (compareOp op (.int x t) (.int y u)) Q E s := by
  cases op with
  | Eq => cases e; exact PyProof.Rows.eq_int h
  | NotEq => cases e; exact PyProof.Rows.ne_int h
  | Lt => cases e; exact PyProof.Rows.lt_int h
  | Gt => cases e; exact PyProof.Rows.gt_int h
  | LtE => cases e; exact PyProof.Rows.le_int h
  | GtE => cases e; exact PyProof.Rows.ge_int h
  | _ => cases e
variable {h : Heap} {ge : Array GenState} {dr : Drawn} {tk : Nat} {os : OsState}
end
end
end Mine
end
section
set_option Elab.async false
set_option maxRecDepth 100000
set_option maxHeartbeats 1000000
set_option linter.unusedVariables false
namespace Mine
noncomputable section
open PySem PySem.W PySem.Calls PyProof.Rows
structure Fn where
  qual : Str
  cs : Scope
  f : Addr
  cd : Value
  D : Nat
  U : Nat
  hk : cs.kind = .function
  m : Option (Str → Option Value)
noncomputable abbrev Fn.cl (F : Fn) (L : Addr) : List (Str × Addr) := cellsFrom (L + 1) F.cs.names []
noncomputable abbrev Fn.env (F : Fn) (L : Addr) : Env := envX F.qual F.cs L F.f F.cd (F.cl L)
noncomputable def fz (F : Fn) (m : Str → Option Value) : Prop := ∀ m₀, F.m = some m₀ → m = m₀
theorem fz_of {F : Fn} (h : F.m = none) (m : Str → Option Value) : fz F m := fun m₀ e => by rw [h] at e; cases e
structure Cx where
  w : World
  gd : Option (List Code)
  outer : List Env
  A₀ : Around
  base : Heap
  mean : ExcName → Option Value
  mg : Str → Option Value
  mb : Str → Option Value
  g : Heap
  L : Addr
  ge : Array GenState
  dr : Drawn
  os : OsState
noncomputable abbrev mdl (w : World) : Model := model PySem.Challenge.rw_no0180_01.row.toRowW.prog w
noncomputable abbrev Cx.A (c : Cx) (F : Fn) : Around := (aro F.D F.U c.gd c.outer).deeper (F.env c.L)
structure Cx.Ok (c : Cx) : Prop where
  B : Below c.A₀ c.base c.outer c.g
  X : (K0 c.w.params).In c.g
  T : Top V0 (looseW V0 loo) c.mean c.mg c.mb c.g
noncomputable abbrev Loc := List (Str × Value)
noncomputable abbrev Led := List (Addr × Obj)
noncomputable def Knows (F : Fn) (ls : Loc) (m : Str → Option Value) : Prop := fz F m ∧ ∀ x v, ls.lookup x = some v → m x = some v
structure St (F : Fn) (c : Cx) (ls : Loc) (ld : Led) (s : Shared) : Prop where
  F : ∃ m, Fr c.g c.L s.heap m ∧ Knows F ls m
  N : News c.g c.L s.heap ld
  nd : (ld.map (·.1)).Nodup
  ge : s.gens = c.ge
  dr : s.drawn = c.dr
  os : s.os = c.os
noncomputable def W (F : Fn) (c : Cx) {α : Type} (x : Sem α) (k : α → Loc → Led → Prop) (ls : Loc) (ld : Led) : Prop :=
  c.Ok → ∀ s, St F c ls ld s → wpAny (mdl c.w) (c.A F) x (fun v s' => ∃ ls' ld', St F c ls' ld' s' ∧ k v ls' ld') (fun _ _ => False) s
section
variable {F : Fn} {c : Cx} {ls : Loc} {ld : Led}
theorem W.step {α : Type} {x : Sem α} {k : α → Loc → Led → Prop} (h : W F c x k ls ld) (ok : c.Ok) {s : Shared} (hs : St F c ls ld s) {Q : α → Shared → Prop} {E : Value → Shared → Prop}
    (hQ : ∀ v ls' ld' s', St F c ls' ld' s' → k v ls' ld' → Q v s') : wpAny (mdl c.w) (c.A F) x Q E s :=
  wpAny_mono (h ok s hs) (fun v s' ⟨ls', ld', st, hk⟩ => hQ v ls' ld' s' st hk) (fun _ _ x => x.elim)
theorem St.toks {s : Shared} (st : St F c ls ld s) (t : Nat) : St F c ls ld { s with toks := t } := ⟨st.F, st.N, st.nd, st.ge, st.dr, st.os⟩
noncomputable def bT : List (Str × Value) := [(Str.ofString "len", .builtin "len"), (Str.ofString "range", .type "range"), (Str.ofString "set", .type "set"), (Str.ofString "list", .type "list"), (Str.ofString "tuple", .type "tuple"), (Str.ofString "isinstance", .builtin "isinstance"), (Str.ofString "sorted", .builtin "sorted")]
theorem bT_ok {P : Params} {x : Str} {v : Value} (h : bT.lookup x = some v) : nsIn (K0 P) mainGlobals x = some none ∧ bootBuiltins x = some v ∧ x ≠ "__name__" := by
  have e : bT.map (fun p => (nsIn (K0 P) mainGlobals p.1, bootBuiltins p.1, p.1 == ("__name__" : Str))) = bT.map (fun p => (some none, some p.2, false)) := by kernel_rfl
  have key : ∀ l : List (Str × Value), l.map (fun p => (nsIn (K0 P) mainGlobals p.1, bootBuiltins p.1, p.1 == ("__name__" : Str))) = l.map (fun p => (some none, some p.2, false)) → l.lookup x = some v → nsIn (K0 P) mainGlobals x = some none ∧ bootBuiltins x = some v ∧ x ≠ "__name__" := by
    intro l
    induction l with
    | nil => intro _ h; cases h
    | cons p l ih =>
      intro e h
      rw [List.map_cons, List.map_cons, List.cons.injEq] at e
      rw [List.lookup_cons] at h
      cases q : (x == p.1) with
      | true =>
        rw [q] at h
        have hx : x = p.1 := eq_of_beq q
        have e1 := congrArg Prod.fst e.1
        have e2 := congrArg (fun z => z.2.1) e.1
        have e3 := congrArg (fun z => z.2.2) e.1
        rw [hx]
        exact ⟨e1, e2.trans h, beq_eq_false_iff_ne.mp e3⟩
      | false =>
        rw [q] at h
        exact ih e.2 h
  exact key bT e h
noncomputable def nmQ (cs : Scope) (ls : Loc) (x : Str) : Option Value := match (x == ("__debug__" : Str)) with
  | true => none
  | false => match cs.names.lookup x with
    | some .local => ls.lookup x
    | some .globalImplicit => match gT.lookup x with
      | some v => some v
      | none => bT.lookup x
    | _ => none
theorem W.name {x : Str} {pos : Pos} {v : Value} {k : Value → Loc → Led → Prop} (e : nmQ F.cs ls x = some v) (h : k v ls ld) : W F c (eval (.Name x pos) (F.env c.L)) k ls ld := fun ok s st => by
  obtain ⟨m, Fm, hm⟩ := st.F
  unfold nmQ at e
  cases hd : (x == ("__debug__" : Str)) with
  | true => rw [hd] at e; cases e
  | false =>
    rw [hd] at e
    dsimp only at e
    split at e
    · rename_i q; exact nameX_L Fm (hm.2 _ _ e) ⟨ls, ld, st, h⟩ F.hk q hd
    · rename_i q
      split at e
      · rename_i v' q2
        cases e
        exact nameX_K Fm ok.X (topRead_of ok.T) (gT_ok q2) ⟨ls, ld, st, h⟩ F.hk q hd
      · obtain ⟨b1, b2, b3⟩ := bT_ok (P := c.w.params) e
        exact nameX_B Fm ok.X (topRead_of ok.T) b1 b2 b3 ⟨ls, ld, st, h⟩ F.hk q hd
    · cases e
end
noncomputable def fnT : List Addr := [399,154,373,21,48,60,67,81,88,95,102,109,116,123,130,137,144,151,165,172,179,194,201,208,215,222,229,236,243,250,257,264,271,278,285,292,299,306,313,320,341,349,356,363,370,389,396,410,417,424,431,438,445,452,459,466,473,480,487,492]
theorem fnT_ok {P : Params} {a : Addr} (h : fnT.contains a = true) : keepIn (K0 P) (.ref a) = true := by
  have e : fnT.all (fun a => keepIn (K0 P) (.ref a)) = true := by kernel_rfl
  exact List.all_eq_true.mp e a (List.contains_iff_mem.mp h)
noncomputable def keepT : Value → Bool
  | .ref a => fnT.contains a
  | .builtin _ => true
  | .type _ => true
  | _ => false
noncomputable def noStar : List Expr → Bool
  | [] => true
  | .Starred _ _ :: _ => false
  | _ :: r => noStar r
noncomputable def wpL (ev : Expr → (Value → Loc → Led → Prop) → Loc → Led → Prop) : List Expr → (List Value → Loc → Led → Prop) → Loc → Led → Prop
  | [], k, ls, ld => k [] ls ld
  | e :: r, k, ls, ld => ev e (fun v => wpL ev r (fun vs => k (v :: vs))) ls ld
noncomputable def cmpV (F : Fn) (c : Cx) (op : CmpOp) (a b : Value) (k : Value → Loc → Led → Prop) (ls : Loc) (ld : Led) : Prop := match a, b with
  | .int x _, .int y _ => match cmP op x y with
    | some r => k (.bool r) ls ld
    | none => False
  | a, b => W F c (compareOp op a b) k ls ld
noncomputable def binV (F : Fn) (c : Cx) (op : Operator) (a b : Value) (k : Value → Loc → Led → Prop) (ls : Loc) (ld : Led) : Prop := match op, a, b with
  | .Add, .int x _, .int y _ => ∀ t, k (.int (x + y) t) ls ld
  | .Sub, .int x _, .int y _ => ∀ t, k (.int (x - y) t) ls ld
  | op, a, b => W F c (binaryOp op a b) k ls ld
noncomputable def argV (ev : Expr → (Value → Loc → Led → Prop) → Loc → Led → Prop) (es : List Expr) (k : List Value → Loc → Led → Prop) (ls : Loc) (ld : Led) : Prop := match noStar es with
  | true => wpL ev es k ls ld
  | false => False
noncomputable def callV (F : Fn) (c : Cx) (ev : Expr → (Value → Loc → Led → Prop) → Loc → Led → Prop) (fv : Value) (first : List Value) (es : List Expr) (k : Value → Loc → Led → Prop) (ls : Loc) (ld : Led) : Prop := match keepT fv with
  | true => argV ev es (fun vs => W F c (call fv (first ++ vs)) k) ls ld
  | false => False
noncomputable def Meth (F : Fn) (c : Cx) (o : Value) (name : Str) (fv : Value) (first : List Value) (ls : Loc) (ld : Led) : Prop := ∀ (pl : Sem Bool) (Q : Value × List Value → Shared → Prop) (E : Value → Shared → Prop) (s : Shared), c.Ok → St F c ls ld s → Q (fv, first) s → wpAny (mdl c.w) (c.A F) (getMethod o name pl) Q E s
noncomputable def mForm (o : Expr) (apos pos : Pos) (es : List Expr) : Bool := noStar es && decide (es.length < 30) && (apos.endLine == pos.line) && (match o with | .Name .. => true | .Attribute .. => true | _ => false)
noncomputable def noSlice : Expr → Bool
  | .Slice .. => false
  | _ => true
noncomputable def conW (co : Const) (k : Value → Loc → Led → Prop) (ls : Loc) (ld : Led) : Prop := match co with
  | .int i => ∀ t, k (.int i t) ls ld
  | .str x => ∀ t, k (.str x t) ls ld
  | .bool b => k (.bool b) ls ld
  | .none => k .none ls ld
  | _ => False
noncomputable def namW (F : Fn) (c : Cx) (x : Str) (k : Value → Loc → Led → Prop) (ls : Loc) (ld : Led) : Prop := match nmQ F.cs ls x with
  | some v => k v ls ld
  | none => match F.cs.names.lookup x with
    | some .cell => ∃ a o v, (F.cl c.L).lookup x = some a ∧ (a, o) ∈ ld ∧ o.data = .cell (some v) ∧ (x == ("__debug__" : Str)) = false ∧ k v ls ld
    | _ => False
noncomputable def one {α : Type} (l : List α) (d : α → Prop) : Prop := match l with
  | [x] => d x
  | _ => False
noncomputable def calW (F : Fn) (c : Cx) (rd : Str → (Value → Loc → Led → Prop) → Loc → Led → Prop) (ev : Expr → (Value → Loc → Led → Prop) → Loc → Led → Prop) (f : Expr) (es : List Expr) (pos : Pos) (k : Value → Loc → Led → Prop) (ls : Loc) (ld : Led) : Prop := match f with
  | .Name x _ => rd x (fun fv => callV F c ev fv [] es k) ls ld
  | .Attribute o name apos => match mForm o apos pos es with
    | true => ev o (fun ov ls ld => ∃ fv first, Meth F c ov name fv first ls ld ∧ callV F c ev fv first es k ls ld) ls ld
    | false => False
  | _ => False
structure Rd (F : Fn) (c : Cx) where
  env : Env
  rd : Str → (Value → Loc → Led → Prop) → Loc → Led → Prop
  ok : ∀ {x : Str} {pos : Pos} {k : Value → Loc → Led → Prop} {ls : Loc} {ld : Led}, rd x k ls ld → W F c (eval (.Name x pos) env) k ls ld
noncomputable def wpG {F : Fn} {c : Cx} (R : Rd F c) : Nat → Expr → (Value → Loc → Led → Prop) → Loc → Led → Prop
  | 0, _, _, _, _ => False
  | n + 1, e, k, ls, ld => match e with
    | .Constant co _ _ => conW co k ls ld
    | .Name x _ => R.rd x k ls ld
    | .Compare l ops rs _ => one ops fun op => one rs fun r => match behindInMarks op r with
      | false => wpG R n l (fun a => wpG R n r (fun b => cmpV F c op a b k)) ls ld
      | true => False
    | .BinOp l op r _ => wpG R n l (fun a => wpG R n r (fun b => binV F c op a b k)) ls ld
    | .UnaryOp op x _ => wpG R n x (fun a => W F c (unaryOp op a) k) ls ld
    | .Subscript v i pos => match noSlice i with
      | false => W F c (eval (.Subscript v i pos) R.env) k ls ld
      | true => wpG R n v (fun o => wpG R n i (fun j => W F c (subscriptTail v i o j) k)) ls ld
    | .Attribute v name _ => match v with
      | .Name x _ => R.rd x (fun o => W F c (getAttr o name true) k) ls ld
      | _ => False
    | .Tuple es _ _ => argV (wpG R n) es (fun vs => W F c (newTuple vs) k) ls ld
    | .List es _ => argV (wpG R n) es (fun vs => W F c (newList vs) k) ls ld
    | .Call f es ks pos => match ks with
      | [] => calW F c R.rd (wpG R n) f es pos k ls ld
      | _ => False
    | e => W F c (eval e R.env) k ls ld
theorem starEach_plain {e : Expr} {r : List Expr} {env : Env} (h : noStar (e :: r) = true) : starEach (e :: r) env = (false, eval e env) :: starEach r env := by
  cases e <;> first | rfl | cases h
theorem noStar_tail {e : Expr} {r : List Expr} (h : noStar (e :: r) = true) : noStar r = true := by
  cases e <;> first | exact h | cases h
theorem any_plain {env : Env} {pos : Pos} : ∀ (es : List Expr), noStar es = true → (backTo pos (starEach es env)).any (·.1) = false
  | [], _ => rfl
  | e :: es, h => by
    rw [starEach_plain h]
    show (false || (backTo pos (starEach es env)).any (·.1)) = false
    rw [any_plain es (noStar_tail h)]; rfl
section
variable {F : Fn} {c : Cx}
theorem wpL_ok {env : Env} {ev : Expr → (Value → Loc → Led → Prop) → Loc → Led → Prop} (hev : ∀ e k ls ld, ev e k ls ld → W F c (eval e env) k ls ld) {pos : Pos} : ∀ (es : List Expr) (k : List Value → Loc → Led → Prop) (ls : Loc) (ld : Led), noStar es = true → wpL ev es k ls ld →
    W F c (spliced (backTo pos (starEach es env))) k ls ld
  | [], k, ls, ld, _, h => fun _ s st => args_nil ⟨ls, ld, st, h⟩
  | e :: es, k, ls, ld, hn, h => fun ok s st => args_cons ((hev e _ ls ld h).step ok st fun v ls1 ld1 s1 st1 h1 => (wpL_ok hev es _ ls1 ld1 (noStar_tail hn) h1).step ok st1 fun vs ls2 ld2 s2 st2 h2 => ⟨ls2, ld2, st2, h2⟩) (starEach_plain hn)
theorem argV_ok {env : Env} {ev : Expr → (Value → Loc → Led → Prop) → Loc → Led → Prop} (hev : ∀ e k ls ld, ev e k ls ld → W F c (eval e env) k ls ld) {pos : Pos} {es : List Expr} {k : List Value → Loc → Led → Prop} {ls : Loc} {ld : Led} (h : argV ev es k ls ld) :
    noStar es = true ∧ W F c (spliced (backTo pos (starEach es env))) k ls ld := by
  unfold argV at h
  cases q : noStar es with
  | false => rw [q] at h; exact h.elim
  | true => rw [q] at h; exact ⟨rfl, wpL_ok hev es k ls ld q h⟩
theorem callV_ok {env : Env} {ev : Expr → (Value → Loc → Led → Prop) → Loc → Led → Prop} (hev : ∀ e k ls ld, ev e k ls ld → W F c (eval e env) k ls ld) {pos : Pos} {fv : Value} {first : List Value} {es : List Expr} {k : Value → Loc → Led → Prop} {ls : Loc} {ld : Led} (h : callV F c ev fv first es k ls ld) :
    W F c (callWith pos fv first (backTo pos (starEach es env)) []) k ls ld := fun ok s st => by
  unfold callV at h
  cases q : keepT fv with
  | false => rw [q] at h; exact h.elim
  | true =>
    rw [q] at h
    obtain ⟨hn, hw⟩ := argV_ok (pos := pos) hev h
    obtain ⟨m, Fm, hm⟩ := st.F
    have fin : ∀ s1 : Shared, ∀ ls1 ld1 vs, St F c ls1 ld1 s1 → W F c (call fv (first ++ vs)) k ls1 ld1 → wpAny (mdl c.w) (c.A F) (call fv (first ++ vs)) (fun v s' => ∃ ls' ld', St F c ls' ld' s' ∧ k v ls' ld') (fun _ _ => False) s1 :=
      fun s1 ls1 ld1 vs st1 h1 => h1 ok s1 st1
    have hx : ∀ s1 : Shared, ∀ ls1 ld1, St F c ls1 ld1 s1 → (K0 c.w.params).In s1.heap := fun s1 ls1 ld1 st1 => by
      obtain ⟨m1, F1, _⟩ := st1.F
      exact Frag.In.keeps ok.X F1.keep
    cases es with
    | nil =>
      have h0 : W F c (call fv (first ++ [])) k ls ld := h
      cases fv with
      | ref a => exact callWith_K0 (hx s ls ld st) (fnT_ok q) (fin s ls ld [] st h0)
      | builtin id => exact Calls.callWith_builtin rfl (evalArgs_nil3 (fin s ls ld [] st h0))
      | type T => exact PyProof.Rows.callWith_type rfl (evalArgs_nil3 (fin s ls ld [] st h0))
      | _ => cases q
    | cons e es =>
      have hp := any_plain (env := env) (pos := pos) es (noStar_tail hn)
      have hp2 := any_plain (env := env) (pos := pos) (e :: es) hn
      cases fv with
      | ref a => exact callWith_K ok.X (fnT_ok q) (hw.step ok st fun vs ls1 ld1 s1 st1 h1 => ⟨hx s1 ls1 ld1 st1, fin s1 ls1 ld1 vs st1 h1⟩) (starEach_plain hn) hp
      | builtin id =>
        refine Calls.callWith_builtin hp2 ?_
        rw [starEach_plain hn] at hw ⊢
        exact Calls.evalArgs_plain (hw.step ok st fun vs ls1 ld1 s1 st1 h1 => fin s1 ls1 ld1 vs st1 h1)
      | type T =>
        refine PyProof.Rows.callWith_type hp2 ?_
        rw [starEach_plain hn] at hw ⊢
        exact Calls.evalArgs_plain (hw.step ok st fun vs ls1 ld1 s1 st1 h1 => fin s1 ls1 ld1 vs st1 h1)
      | _ => cases q
theorem cmpV_ok {op : CmpOp} {a b : Value} {k : Value → Loc → Led → Prop} {ls : Loc} {ld : Led} (h : cmpV F c op a b k ls ld) : W F c (compareOp op a b) k ls ld := by
  unfold cmpV at h
  split at h
  · split at h
    · rename_i q
      exact fun _ s st => cmP_ok q ⟨ls, ld, st, h⟩
    · exact h.elim
  · exact h
theorem binV_ok {op : Operator} {a b : Value} {k : Value → Loc → Led → Prop} {ls : Loc} {ld : Led} (h : binV F c op a b k ls ld) : W F c (binaryOp op a b) k ls ld := by
  unfold binV at h
  split at h
  · exact fun _ s st => add_int ⟨ls, ld, st.toks _, h _⟩
  · exact fun _ s st => sub_int ⟨ls, ld, st.toks _, h _⟩
  · exact h
theorem mForm_ok {o : Expr} {name : Str} {apos pos : Pos} {es : List Expr} {env : Env} (h : mForm o apos pos es = true) : eval (.Call (.Attribute o name apos) es [] pos) env = (do
      let ov ← eval o env
      standAt apos.atName
      let (f, first) ← holding [ov] (getMethod ov name (do return (← importBound o env).getD true))
      callWith pos f first (backTo pos (starEach es env)) []) := by
  unfold mForm at h
  simp only [Bool.and_eq_true] at h
  obtain ⟨⟨⟨h1, h2⟩, h3⟩, h4⟩ := h
  have hf : methodCallForm (es.length + 0) (backTo pos (starEach es env)) [] = true := by
    unfold methodCallForm
    have hp := any_plain (env := env) (pos := pos) es h1
    have ha : (backTo pos (starEach es env)).all (!·.1) = true := by
      rw [List.all_eq_not_any_not]; simp only [Bool.not_not]; rw [hp]; rfl
    rw [ha]
    simpa using h2
  have e0 : eval (.Call (.Attribute o name apos) es [] pos) env = (do
      let ov ← attributeBase o name env (eval o env)
      standAt apos.atName
      methodCall o name apos pos env ov (es.length + 0) (backTo pos (starEach es env)) []) := rfl
  rw [e0]
  have e1 : attributeBase o name env (eval o env) = eval o env := by
    cases o <;> first | rfl | cases h4
  rw [e1]
  unfold methodCall
  rw [hf]
  have e2 : ∀ ov, calleeOf true o env ov name = getMethod ov name (do return (← importBound o env).getD true) := fun _ => rfl
  have e3 : methodCallPos true o env apos pos = pure pos := by
    unfold methodCallPos
    rw [h3]
    rfl
  simp only [e2, e3]
  rfl
theorem conW_ok {env : Env} {co : Const} {i : Nat} {pos : Pos} {k : Value → Loc → Led → Prop} {ls : Loc} {ld : Led} (h : conW co k ls ld) : W F c (eval (.Constant co i pos) env) k ls ld := by
  cases co with
  | int i => exact fun _ s st => wpAny_Constant_int ⟨ls, ld, st.toks _, h _⟩
  | str x => exact fun _ s st => Calls.Constant_str ⟨ls, ld, st.toks _, h _⟩
  | bool b => exact fun _ s st => wpAny_Constant_bool ⟨ls, ld, st, h⟩
  | none => exact fun _ s st => wpAny_Constant_none ⟨ls, ld, st, h⟩
  | _ => exact False.elim h
theorem namW_ok {x : Str} {pos : Pos} {k : Value → Loc → Led → Prop} {ls : Loc} {ld : Led} (h : namW F c x k ls ld) : W F c (eval (.Name x pos) (F.env c.L)) k ls ld := by
  unfold namW at h
  cases q : nmQ F.cs ls x with
  | some v => rw [q] at h; exact W.name q h
  | none =>
    rw [q] at h
    dsimp only at h
    split at h
    · rename_i q2
      obtain ⟨a, o, v, h1, h2, h3, h4, h5⟩ := h
      exact fun ok s st => nameX_C st.N h1 h2 h3 ⟨ls, ld, st, h5⟩ F.hk q2 h4
    · exact h.elim
noncomputable def Rd.own (F : Fn) (c : Cx) : Rd F c := ⟨F.env c.L, namW F c, namW_ok⟩
noncomputable abbrev wpE (F : Fn) (c : Cx) : Nat → Expr → (Value → Loc → Led → Prop) → Loc → Led → Prop := wpG (Rd.own F c)
theorem one_ok {α : Type} {l : List α} {d : α → Prop} (h : one l d) : ∃ x, l = [x] ∧ d x := match l, h with
  | [x], h => ⟨x, rfl, h⟩
  | [], h => h.elim
  | _ :: _ :: _, h => h.elim
theorem calW_ok (R : Rd F c) {ev : Expr → (Value → Loc → Led → Prop) → Loc → Led → Prop} (hev : ∀ e k ls ld, ev e k ls ld → W F c (eval e R.env) k ls ld) {f : Expr} {es : List Expr} {pos : Pos} {k : Value → Loc → Led → Prop} {ls : Loc} {ld : Led} (h : calW F c R.rd ev f es pos k ls ld) :
    W F c (eval (.Call f es [] pos) R.env) k ls ld := by
  cases f with
  | Name x xp => exact fun ok s st => Call_ ((R.ok (pos := xp) h).step ok st fun fv ls1 ld1 s1 st1 h1 => callV_ok hev h1 ok s1 st1)
  | Attribute o name apos =>
    unfold calW at h
    dsimp only at h
    cases q : mForm o apos pos es with
    | true =>
      rw [q] at h
      exact fun ok s st => MethodCall_ ((hev _ _ _ _ h).step ok st fun ov ls1 ld1 s1 st1 ⟨fv, first, hm, h1⟩ => hm _ _ _ s1 ok st1 (callV_ok hev h1 ok s1 st1)) (mForm_ok q)
    | false => rw [q] at h; exact h.elim
  | _ => exact False.elim h
theorem wpG_ok (R : Rd F c) : ∀ (n : Nat) (e : Expr) (k : Value → Loc → Led → Prop) (ls : Loc) (ld : Led), wpG R n e k ls ld → W F c (eval e R.env) k ls ld
  | 0, _, _, _, _, h => False.elim h
  | n + 1, e, k, ls, ld, h => by
    cases e with
    | Constant co i pos => exact conW_ok h
    | Name x pos => exact R.ok h
    | Compare l ops rs pos =>
      obtain ⟨op, rfl, h2⟩ := one_ok h
      obtain ⟨r, rfl, h3⟩ := one_ok h2
      clear h h2
      cases q : behindInMarks op r with
      | true => rw [q] at h3; exact h3.elim
      | false =>
        rw [q] at h3
        exact fun ok s st => wpAny_Compare1 ((wpG_ok R n _ _ _ _ h3).step ok st fun a ls1 ld1 s1 st1 h1 => (wpG_ok R n _ _ _ _ h1).step ok st1 fun b ls2 ld2 s2 st2 h2 => cmpV_ok h2 ok s2 st2) q
    | BinOp l op r pos => exact fun ok s st => wpAny_BinOp ((wpG_ok R n _ _ _ _ h).step ok st fun a ls1 ld1 s1 st1 h1 => (wpG_ok R n _ _ _ _ h1).step ok st1 fun b ls2 ld2 s2 st2 h2 => binV_ok h2 ok s2 st2)
    | UnaryOp op x pos => exact fun ok s st => UnaryOp_ ((wpG_ok R n _ _ _ _ h).step ok st fun a ls1 ld1 s1 st1 h1 => h1 ok s1 st1)
    | Subscript v i pos =>
      have h2 : (match noSlice i with
        | false => W F c (eval (.Subscript v i pos) R.env) k ls ld
        | true => wpG R n v (fun o => wpG R n i (fun j => W F c (subscriptTail v i o j) k)) ls ld) := h
      cases q : noSlice i with
      | false => rw [q] at h2; exact h2
      | true =>
        rw [q] at h2
        exact fun ok s st => Subscript_ ((wpG_ok R n _ _ _ _ h2).step ok st fun a ls1 ld1 s1 st1 h1 => (wpG_ok R n _ _ _ _ h1).step ok st1 fun b ls2 ld2 s2 st2 h2 => h2 ok s2 st2)
    | Attribute v name pos =>
      cases v with
      | Name x xp => exact fun ok s st => Attribute_Name_ ((R.ok (pos := xp) h).step ok st fun a ls1 ld1 s1 st1 h1 => h1 ok s1 st1)
      | _ => exact False.elim h
    | Tuple es i pos => exact fun ok s st => Tuple_ ((argV_ok (wpG_ok R n) h).2.step ok st fun vs ls1 ld1 s1 st1 h1 => h1 ok s1 st1)
    | List es pos => exact fun ok s st => List_ ((argV_ok (wpG_ok R n) h).2.step ok st fun vs ls1 ld1 s1 st1 h1 => h1 ok s1 st1)
    | Call f es ks pos =>
      cases ks with
      | nil => exact calW_ok R (wpG_ok R n) h
      | cons _ _ => exact False.elim h
    | _ => exact h
theorem wpE_ok (n : Nat) (e : Expr) (k : Value → Loc → Led → Prop) (ls : Loc) (ld : Led) (h : wpE F c n e k ls ld) : W F c (eval e (F.env c.L)) k ls ld := wpG_ok (Rd.own F c) n e k ls ld h
end
end
end Mine
end
section
set_option Elab.async false
set_option maxRecDepth 100000
set_option maxHeartbeats 1000000
set_option linter.unusedVariables false
namespace Mine
noncomputable section
open PySem PySem.W PySem.Calls PyProof.Rows
noncomputable def noComp : Expr → Bool
  | .ListComp .. => false
  | .SetComp .. => false
  | .DictComp .. => false
  | _ => true
theorem noComp_ok {e : Expr} (h : noComp e = true) (t : Option Expr) (n : Nat) (env : Env) : swapsWith e t n env = pure false := by
  cases e <;> first | rfl | cases h
noncomputable def cmpB (F : Fn) (c : Cx) (op : CmpOp) (a b : Value) (k : Bool → Loc → Led → Prop) (ls : Loc) (ld : Led) : Prop := match a, b with
  | .int x _, .int y _ => match cmP op x y with
    | some r => k r ls ld
    | none => False
  | a, b => W F c (compareOp op a b) (fun v ls ld => ∃ r, v = .bool r ∧ k r ls ld) ls ld
noncomputable def truV (F : Fn) (c : Cx) (v : Value) (k : Bool → Loc → Led → Prop) (ls : Loc) (ld : Led) : Prop := match v with
  | .bool b => k b ls ld
  | v => W F c (truthy v) k ls ld
noncomputable def wpTG {F : Fn} {c : Cx} (R : Rd F c) : Nat → Expr → (Bool → Loc → Led → Prop) → Loc → Led → Prop
  | 0, _, _, _, _ => False
  | n + 1, e, k, ls, ld => match e with
    | .Compare l ops rs _ => one ops fun op => one rs fun r => match behindInMarks op r with
      | false => wpG R 20 l (fun a => wpG R 20 r (fun b => cmpB F c op a b k)) ls ld
      | true => False
    | .BoolOp op es _ => match es with
      | [a, b] => match op with
        | .And => wpTG R n a (fun x ls ld => (x = true → wpTG R n b k ls ld) ∧ (x = false → k false ls ld)) ls ld
        | .Or => wpTG R n a (fun x ls ld => (x = true → k true ls ld) ∧ (x = false → wpTG R n b k ls ld)) ls ld
      | _ => False
    | .Constant co _ _ => match co with
      | .bool b => k b ls ld
      | _ => False
    | .Name x _ => R.rd x (fun v => truV F c v k) ls ld
    | .Call f es ks pos => match ks with
      | [] => calW F c R.rd (wpG R 20) f es pos (fun v => truV F c v k) ls ld
      | _ => False
    | _ => False
noncomputable abbrev wpT (F : Fn) (c : Cx) : Nat → Expr → (Bool → Loc → Led → Prop) → Loc → Led → Prop := wpTG (Rd.own F c)
noncomputable def stoV (F : Fn) (c : Cx) (x : Str) (v : Value) (k : Loc → Led → Prop) (ls : Loc) (ld : Led) : Prop := match F.cs.names.lookup x with
  | some .local => match F.m with
    | none => k ((x, v) :: ls) ld
    | some _ => False
  | some .cell => ∃ i a o v₀, (F.cl c.L).lookup x = some a ∧ ld[i]? = some (a, o) ∧ o.data = .cell v₀ ∧ ∀ o', o'.data = .cell (some v) → k ls (ld.set i (a, o'))
  | _ => False
noncomputable def thn (k : Flow → Loc → Led → Prop) (r : Loc → Led → Prop) : Flow → Loc → Led → Prop
  | .next, ls, ld => r ls ld
  | f, ls, ld => k f ls ld
noncomputable def asgW (F : Fn) (c : Cx) (ts : List Expr) (e : Expr) (esc : Prop) (r : Loc → Led → Prop) (ls : Loc) (ld : Led) : Prop := match ts with
  | [t] => match t with
    | .Name x _ => match noComp e with
      | true => wpE F c 20 e (fun v => stoV F c x v r) ls ld
      | false => esc
    | _ => esc
  | _ => esc
noncomputable def augW (F : Fn) (c : Cx) (t : Expr) (op : Operator) (e : Expr) (esc : Prop) (r : Loc → Led → Prop) (ls : Loc) (ld : Led) : Prop := match t with
  | .Name x _ => match F.cs.names.lookup x, ls.lookup x with
    | some .local, some old => wpE F c 20 e (fun v => W F c (inplaceOp op old v) (fun r' => stoV F c x r' r)) ls ld
    | _, _ => False
  | _ => esc
noncomputable def wpS (F : Fn) (c : Cx) : Nat → List Stmt → (Flow → Loc → Led → Prop) → Loc → Led → Prop
  | 0, _, _, _, _ => False
  | n + 1, b, k, ls, ld => match b with
    | [] => k .next ls ld
    | st :: rest => match st with
      | .Assign ts e pos => asgW F c ts e (W F c (exec (.Assign ts e pos) (F.env c.L)) (thn k (wpS F c n rest k)) ls ld) (wpS F c n rest k) ls ld
      | .If t b o _ => wpT F c 10 t (fun r ls ld => (r = true → wpS F c n b (thn k (wpS F c n rest k)) ls ld) ∧ (r = false → wpS F c n o (thn k (wpS F c n rest k)) ls ld)) ls ld
      | .Return e _ => match e with
        | some e => wpE F c 20 e (fun v => k (.ret v)) ls ld
        | none => k (.ret .none) ls ld
      | .Expr e _ => match noComp e with
        | true => wpE F c 20 e (fun _ => wpS F c n rest k) ls ld
        | false => False
      | .AugAssign t op e pos => augW F c t op e (W F c (exec (.AugAssign t op e pos) (F.env c.L)) (thn k (wpS F c n rest k)) ls ld) (wpS F c n rest k) ls ld
      | st => W F c (exec st (F.env c.L)) (thn k (wpS F c n rest k)) ls ld
theorem upd_of {d : Addr} {o o' : Obj} : ∀ {ld : Led} {i : Nat}, (ld.map (·.1)).Nodup → ld[i]? = some (d, o) → Upd d o o' ld (ld.set i (d, o'))
  | p :: r, 0, nd, h => by
    obtain rfl : p = (d, o) := Option.some.inj h
    rw [List.map_cons, List.nodup_cons] at nd
    exact .head fun q hq e => nd.1 (e ▸ List.mem_map.mpr ⟨q, hq, rfl⟩)
  | p :: r, i + 1, nd, h => by
    rw [List.map_cons, List.nodup_cons] at nd
    have hm : (d, o) ∈ r := List.mem_of_getElem? h
    exact .tail (fun e => nd.1 (e ▸ List.mem_map.mpr ⟨_, hm, rfl⟩)) (upd_of nd.2 h)
  | [], _, _, h => by cases h
theorem set_nd {d : Addr} {o o' : Obj} : ∀ {ld : Led} {i : Nat}, (ld.map (·.1)).Nodup → ld[i]? = some (d, o) → ((ld.set i (d, o')).map (·.1)).Nodup
  | p :: r, 0, nd, h => by
    obtain rfl : p = (d, o) := Option.some.inj h
    exact nd
  | p :: r, i + 1, nd, h => by
    have nd2 := nd
    rw [List.map_cons, List.nodup_cons] at nd2
    have : ((p :: r).set (i + 1) (d, o')).map (·.1) = p.1 :: (r.set i (d, o')).map (·.1) := rfl
    rw [this, List.nodup_cons]
    refine ⟨fun hm => nd2.1 ?_, set_nd nd2.2 h⟩
    obtain ⟨q, hq, e⟩ := List.mem_map.mp hm
    rcases List.mem_or_eq_of_mem_set hq with hq | hq
    · exact List.mem_map.mpr ⟨q, hq, e⟩
    · exact List.mem_map.mpr ⟨(d, o), List.mem_of_getElem? h, by rw [← e, hq]⟩
  | [], _, _, h => by cases h
theorem updF_of {ld : Led} {d : Addr} {o : Obj} {i : Nat} (nd : (ld.map (·.1)).Nodup) (h : ld[i]? = some (d, o)) : UpdF d o ld (fun o' => ld.set i (d, o')) := by
  induction ld generalizing i with
  | nil => cases h
  | cons p r ih =>
    rw [List.map_cons, List.nodup_cons] at nd
    cases i with
    | zero =>
      obtain rfl : p = (d, o) := Option.some.inj h
      exact .head fun q hq e => nd.1 (e ▸ List.mem_map.mpr ⟨q, hq, rfl⟩)
    | succ i =>
      have hm : (d, o) ∈ r := List.mem_of_getElem? h
      exact .tail (fun e => nd.1 (e ▸ List.mem_map.mpr ⟨_, hm, rfl⟩)) (ih nd.2 h)
section
variable {F : Fn} {c : Cx}
theorem cmpB_ok {op : CmpOp} {a b : Value} {k : Bool → Loc → Led → Prop} {ls : Loc} {ld : Led} (h : cmpB F c op a b k ls ld) (ok : c.Ok) {s : Shared} (st : St F c ls ld s) :
    wpAny (mdl c.w) (c.A F) (compareOp op a b) (fun v s₁ => wpAny (mdl c.w) (c.A F) (truthy v) (fun v s' => ∃ ls' ld', St F c ls' ld' s' ∧ k v ls' ld') (fun _ _ => False) s₁) (fun _ _ => False) s := by
  unfold cmpB at h
  split at h
  · split at h
    · rename_i q
      exact cmP_ok q (wpAny_truthy_bool ⟨ls, ld, st, h⟩)
    · exact h.elim
  · exact W.step h ok st fun v ls1 ld1 s1 st1 ⟨r, e, h1⟩ => e ▸ wpAny_truthy_bool ⟨ls1, ld1, st1, h1⟩
theorem truV_ok {v : Value} {k : Bool → Loc → Led → Prop} {ls : Loc} {ld : Led} (h : truV F c v k ls ld) : W F c (truthy v) k ls ld := by
  unfold truV at h
  split at h
  · exact fun _ s st => wpAny_truthy_bool ⟨ls, ld, st, h⟩
  · exact h
theorem wpTG_ok (R : Rd F c) : ∀ (n : Nat) (e : Expr) (k : Bool → Loc → Led → Prop) (ls : Loc) (ld : Led), wpTG R n e k ls ld → W F c (isTrue e R.env (eval e R.env)) k ls ld
  | 0, _, _, _, _, h => False.elim h
  | n + 1, e, k, ls, ld, h => by
    cases e with
    | Compare l ops rs pos =>
      obtain ⟨op, rfl, h2⟩ := one_ok h
      obtain ⟨r, rfl, h3⟩ := one_ok h2
      clear h h2
      cases q : behindInMarks op r with
      | true => rw [q] at h3; exact h3.elim
      | false =>
        rw [q] at h3
        exact fun ok s st => wpAny_isTrue_Compare1 ((wpG_ok R 20 _ _ _ _ h3).step ok st fun a ls1 ld1 s1 st1 h1 => (wpG_ok R 20 _ _ _ _ h1).step ok st1 fun b ls2 ld2 s2 st2 h2 => cmpB_ok h2 ok st2) q
    | BoolOp op es pos =>
      match es, op, h with
      | [], _, h => exact False.elim h
      | [_], _, h => exact False.elim h
      | _ :: _ :: _ :: _, _, h => exact False.elim h
      | [a, b], .And, h =>
        refine fun ok s st => isTrue_and ((wpTG_ok R n _ _ _ _ h).step ok st fun x ls1 ld1 s1 st1 h1 => ?_)
        cases x with
        | true =>
          refine isTrue_and ((wpTG_ok R n _ _ _ _ (h1.1 rfl)).step ok st1 fun y ls2 ld2 s2 st2 h2 => ?_)
          cases y with
          | true => exact isTrue_and_nil ⟨ls2, ld2, st2, h2⟩
          | false => exact ⟨ls2, ld2, st2, h2⟩
        | false => exact ⟨ls1, ld1, st1, h1.2 rfl⟩
      | [a, b], .Or, h =>
        refine fun ok s st => isTrue_or ((wpTG_ok R n _ _ _ _ h).step ok st fun x ls1 ld1 s1 st1 h1 => ?_)
        cases x with
        | true => exact ⟨ls1, ld1, st1, h1.1 rfl⟩
        | false =>
          refine isTrue_or ((wpTG_ok R n _ _ _ _ (h1.2 rfl)).step ok st1 fun y ls2 ld2 s2 st2 h2 => ?_)
          cases y with
          | true => exact ⟨ls2, ld2, st2, h2⟩
          | false => exact isTrue_or_nil ⟨ls2, ld2, st2, h2⟩
    | Constant co i pos =>
      cases co with
      | bool b => exact fun ok s st => isTrue_plain (wpAny_Constant_bool (wpAny_truthy_bool ⟨ls, ld, st, h⟩))
      | _ => exact False.elim h
    | Name x pos => exact fun ok s st => isTrue_plain ((R.ok (pos := pos) h).step ok st fun v ls1 ld1 s1 st1 h1 => truV_ok h1 ok s1 st1)
    | Call f es ks pos =>
      cases ks with
      | nil => exact fun ok s st => isTrue_plain ((calW_ok (pos := pos) R (wpG_ok R 20) h).step ok st fun v ls1 ld1 s1 st1 h1 => truV_ok h1 ok s1 st1)
      | cons _ _ => exact False.elim h
    | _ => exact False.elim h
theorem wpT_ok (n : Nat) (e : Expr) (k : Bool → Loc → Led → Prop) (ls : Loc) (ld : Led) (h : wpT F c n e k ls ld) : W F c (isTrue e (F.env c.L) (eval e (F.env c.L))) k ls ld := wpTG_ok (Rd.own F c) n e k ls ld h
theorem stoV_ok {x : Str} {v : Value} {k : Loc → Led → Prop} {ls : Loc} {ld : Led} (h : stoV F c x v k ls ld) (ok : c.Ok) {s : Shared} (st : St F c ls ld s) {Q : Unit → Shared → Prop} {E : Value → Shared → Prop}
    (hQ : ∀ ls' ld' s', St F c ls' ld' s' → k ls' ld' → Q () s') : wpAny (mdl c.w) (c.A F) (storeName (F.env c.L) x v) Q E s := by
  unfold stoV at h
  split at h
  · rename_i q
    split at h
    · rename_i q2
      obtain ⟨m, Fm, hm⟩ := st.F
      refine storeX_L Fm st.N (fun h' F' N' => hQ _ _ _ ⟨⟨_, F', fz_of q2 _, fun y u e => ?_⟩, N', st.nd, st.ge, st.dr, st.os⟩ h) F.hk q
      rw [List.lookup_cons] at e
      cases hy : (y == x) with
      | true => rw [hy] at e; exact (if_pos (eq_of_beq hy)).trans e
      | false => rw [hy] at e; exact (if_neg (beq_eq_false_iff_ne.mp hy)).trans (hm.2 _ _ e)
    · exact h.elim
  · rename_i q
    obtain ⟨i, a, o, v₀, h1, h2, h3, h4⟩ := h
    obtain ⟨m, Fm, hm⟩ := st.F
    exact storeX_C Fm st.N h1 (updF_of st.nd h2) h3 (fun h' o' F' N' hd => hQ _ _ _ ⟨⟨m, F', hm⟩, N', set_nd st.nd h2, st.ge, st.dr, st.os⟩ (h4 o' hd)) F.hk q
  · exact h.elim
theorem wpS_ok : ∀ (n : Nat) (b : List Stmt) (k : Flow → Loc → Led → Prop) (ls : Loc) (ld : Led), wpS F c n b k ls ld → W F c (execs b (F.env c.L)) k ls ld
  | 0, _, _, _, _, h => False.elim h
  | _ + 1, [], k, ls, ld, h => fun ok s st => wpAny_execs_nil ⟨ls, ld, st, h⟩
  | n + 1, st :: rest, k, ls, ld, h => by
    have fin : ∀ (f : Flow) (ls1 : Loc) (ld1 : Led) (s1 : Shared), c.Ok → St F c ls1 ld1 s1 → thn k (wpS F c n rest k) f ls1 ld1 →
        (match f with | .next => wpAny (mdl c.w) (c.A F) (execs rest (F.env c.L)) (fun v s' => ∃ ls' ld', St F c ls' ld' s' ∧ k v ls' ld') (fun _ _ => False) s1 | f => ∃ ls' ld', St F c ls' ld' s1 ∧ k f ls' ld') := by
      intro f ls1 ld1 s1 ok st1 h1
      cases f with
      | next => exact wpS_ok n rest k ls1 ld1 h1 ok s1 st1
      | _ => exact ⟨ls1, ld1, st1, h1⟩
    have esc : W F c (exec st (F.env c.L)) (thn k (wpS F c n rest k)) ls ld → W F c (execs (st :: rest) (F.env c.L)) k ls ld := fun h ok s st => wpAny_execs_cons (W.step h ok st fun f ls1 ld1 s1 st1 h1 => fin f ls1 ld1 s1 ok st1 h1)
    cases st with
    | Assign ts e pos =>
      match ts, h, esc with
      | [], h, esc => exact esc h
      | _ :: _ :: _, h, esc => exact esc h
      | [t], h, esc =>
        cases t with
        | Name x xp =>
          cases q : noComp e with
          | true =>
            have h1 : wpE F c 20 e (fun v => stoV F c x v (wpS F c n rest k)) ls ld := by
              have h2 : (match noComp e with | true => wpE F c 20 e (fun v => stoV F c x v (wpS F c n rest k)) ls ld | false => W F c (exec (.Assign [.Name x xp] e pos) (F.env c.L)) (thn k (wpS F c n rest k)) ls ld) := h
              rw [q] at h2; exact h2
            exact fun ok s st => wpAny_execs_cons (wpAny_Assign_Name ((wpE_ok 20 _ _ _ _ h1).step ok st fun v ls1 ld1 s1 st1 h1 => stoV_ok h1 ok st1 fun ls2 ld2 s2 st2 h2 => wpS_ok n rest k ls2 ld2 h2 ok s2 st2) (noComp_ok q _ _ _))
          | false =>
            have h2 : (match noComp e with | true => wpE F c 20 e (fun v => stoV F c x v (wpS F c n rest k)) ls ld | false => W F c (exec (.Assign [.Name x xp] e pos) (F.env c.L)) (thn k (wpS F c n rest k)) ls ld) := h
            rw [q] at h2; exact esc h2
        | _ => exact esc h
    | If t b o pos =>
      refine fun ok s st => wpAny_execs_cons (wpAny_If ((wpT_ok 10 _ _ _ _ h).step ok st fun r ls1 ld1 s1 st1 h1 => ?_))
      cases r with
      | true => exact (wpS_ok n _ _ _ _ (h1.1 rfl)).step ok st1 fun f ls2 ld2 s2 st2 h2 => fin f ls2 ld2 s2 ok st2 h2
      | false => exact (wpS_ok n _ _ _ _ (h1.2 rfl)).step ok st1 fun f ls2 ld2 s2 st2 h2 => fin f ls2 ld2 s2 ok st2 h2
    | Return e pos =>
      cases e with
      | some e => exact fun ok s st => wpAny_execs_cons (wpAny_Return_some ((wpE_ok 20 _ _ _ _ h).step ok st fun v ls1 ld1 s1 st1 h1 => ⟨ls1, ld1, st1, h1⟩))
      | none => exact fun ok s st => wpAny_execs_cons (wpAny_Return_none ⟨ls, ld, st, h⟩)
    | Expr e pos =>
      have h2 : (match noComp e with | true => wpE F c 20 e (fun _ => wpS F c n rest k) ls ld | false => False) := h
      cases q : noComp e with
      | true =>
        rw [q] at h2
        refine fun ok s st => wpAny_execs_cons (wpAny_Expr_any ((wpE_ok 20 _ _ _ _ h2).step ok st fun v ls1 ld1 s1 st1 h1 => wpS_ok n rest k ls1 ld1 h1 ok s1 st1) ?_ (noComp_ok q _ _ _))
        show (F.cs.kind == .module && _) = false
        rw [F.hk]; rfl
      | false => rw [q] at h2; exact h2.elim
    | AugAssign t op e pos =>
      cases t with
      | Name x xp =>
        have h2 : (match F.cs.names.lookup x, ls.lookup x with
          | some .local, some old => wpE F c 20 e (fun v => W F c (inplaceOp op old v) (fun r' => stoV F c x r' (wpS F c n rest k))) ls ld
          | _, _ => False) := h
        split at h2
        · rename_i q q2
          refine fun ok s st => wpAny_execs_cons (wpAny_AugAssign_Name ?_)
          obtain ⟨m, Fm, hm⟩ := st.F
          exact wpAny_loadName_local F.hk q Fm.ns (hm.2 _ _ q2) ((wpE_ok 20 _ _ _ _ h2).step ok st fun v ls1 ld1 s1 st1 h1 => W.step h1 ok st1 fun r ls2 ld2 s2 st2 h2 => stoV_ok h2 ok st2 fun ls3 ld3 s3 st3 h3 => wpS_ok n rest k ls3 ld3 h3 ok s3 st3)
        · exact h2.elim
      | _ => exact esc h
    | _ => exact esc h
end
end
end Mine
end
section
set_option Elab.async false
set_option maxRecDepth 100000
set_option maxHeartbeats 1000000
set_option linter.unusedVariables false
namespace Mine
noncomputable section
open PySem PySem.W PySem.Calls PyProof.Rows
noncomputable def Has (c : Cx) (ld : Led) (a : Addr) (o : Obj) : Prop := c.g.get? a = some o ∨ (a, o) ∈ ld
section
variable {F : Fn} {c : Cx} {ls : Loc} {ld : Led}
theorem Has.get {a : Addr} {o : Obj} (h : Has c ld a o) {s : Shared} (st : St F c ls ld s) : s.heap.get? a = some o := by
  obtain ⟨m, Fm, _⟩ := st.F
  exact h.elim (Fm.keep _ _) fun hm => (st.N _ hm).1
inductive TupIs (c : Cx) (ld : Led) (a : Addr) (l : List Value) : Prop where
  | inl (h : IsTup c.g a l.toArray)
  | inr (h : ∃ n, (a, ({ cls := .type "tuple", data := .seq l.toArray n } : Obj)) ∈ ld)
  | see (h : ∀ g, c.g.StaysIn g → (∀ p ∈ ld, g.get? p.1 = some p.2) → IsTup g a l.toArray)
theorem TupIs.at {a : Addr} {l : List Value} (h : TupIs c ld a l) {s : Shared} (st : St F c ls ld s) : IsTup s.heap a l.toArray := by
  obtain ⟨m, Fm, _⟩ := st.F
  cases h with
  | inl h => exact IsTup.keeps h Fm.keep
  | inr h => exact isTup_of (st.N _ h.choose_spec).1
  | see h => exact h _ Fm.keep fun p hp => (st.N p hp).1
inductive ListIs (c : Cx) (ld : Led) (a : Addr) (l : List Value) : Prop where
  | inl (h : c.g.IsList a l.toArray)
  | inr (h : ∃ n, (a, listOf l.toArray n) ∈ ld)
  | see (h : ∀ g, c.g.StaysIn g → (∀ p ∈ ld, g.get? p.1 = some p.2) → g.IsList a l.toArray)
theorem ListIs.at {a : Addr} {l : List Value} (h : ListIs c ld a l) {s : Shared} (st : St F c ls ld s) : s.heap.IsList a l.toArray := by
  obtain ⟨m, Fm, _⟩ := st.F
  cases h with
  | inl h => exact isList_keeps h Fm.keep
  | inr h => exact isList_of (st.N _ h.choose_spec).1
  | see h => exact h _ Fm.keep fun p hp => (st.N p hp).1
theorem noSlice_ok {e : Expr} (h : noSlice e = true) (o : Value) (i : Int) (u : Tok) : subscripted e false o (.int i u) = operate [o, .int i u] (getItem o (.int i u)) := by
  cases e <;> first | rfl | cases h
theorem W.itup {value slice : Expr} {a : Addr} {l : List Value} {i : Int} {u : Tok} {j : Nat} {v : Value} {k : Value → Loc → Led → Prop} (h : TupIs c ld a l) (hj : seqIndex? i l.length = some j) (hx : l[j]? = some v) (hk : k v ls ld)
    (hi : (decide (-(2 ^ 63) ≤ i) && decide (i < 2 ^ 63)) = true := by rfl) (hs : noSlice slice = true := by rfl) : W F c (subscriptTail value slice (.ref a) (.int i u)) k ls ld := fun _ s st =>
  item_tupleT (h.at st) (of_decide_eq_true (Bool.and_eq_true_iff.mp hi).1) (of_decide_eq_true (Bool.and_eq_true_iff.mp hi).2) hj hx ⟨ls, ld, st, hk⟩ (noSlice_ok hs _ _ _)
theorem W.ilist {value slice : Expr} {a : Addr} {l : List Value} {i : Int} {u : Tok} {v : Value} {k : Value → Loc → Led → Prop} (h : ListIs c ld a l) (h0 : 0 ≤ i) (hi : i < 2 ^ 63) (hx : l[i.toNat]? = some v) (hk : k v ls ld) (hs : noSlice slice = true := by rfl) :
    W F c (subscriptTail value slice (.ref a) (.int i u)) k ls ld := fun _ s st => item_listT (h.at st) h0 hi hx ⟨ls, ld, st, hk⟩ (noSlice_ok hs _ _ _)
structure InsIs (c : Cx) (ld : Led) (x C dx : Addr) (es : List DictEntry) (n : Nat) : Prop where
  i : Has c ld x (instObj C dx)
  d : Has c ld dx (dictOf es n)
theorem InsIs.at {x C dx : Addr} {es : List DictEntry} {n : Nat} (h : InsIs c ld x C dx es n) {s : Shared} (st : St F c ls ld s) : InstAt s.heap x ⟨.ref C, some dx, .plain, #[]⟩ C (some (dictOf es n)) :=
  ⟨h.i.get st, rfl, rfl, h.d.get st⟩
noncomputable def attrB (P : Params) (C : Addr) (name : Str) : Bool := match findIn (K0 P) (.ref C) name with
  | some a => plainGet (K0 P) C name && hasDictIn (K0 P) C && noGet (K0 P) a
  | none => false
noncomputable def tabA : List (Addr × Str) := [(373, Str.ofString "symbols"), (373, Str.ofString "max_heap"), (373, Str.ofString "heap"), (373, Str.ofString "stack"), (373, Str.ofString "trail"), (373, Str.ofString "hb"), (373, Str.ofString "bb"), (154, Str.ofString "texts"), (154, Str.ofString "atom_numbers"), (154, Str.ofString "functors"), (154, Str.ofString "functor_numbers"), (399, Str.ofString "span"), (399, Str.ofString "met")]
theorem tabA_ok {P : Params} {C : Addr} {name : Str} (h : tabA.contains (C, name) = true) : attrB P C name = true := by
  have e : tabA.all (fun p => attrB P p.1 p.2) = true := by kernel_rfl
  exact List.all_eq_true.mp e (C, name) (List.contains_iff_mem.mp h)
theorem W.attr {x C dx : Addr} {es : List DictEntry} {n : Nat} {name : Str} {ex : Bool} {v : Value} {k : Value → Loc → Led → Prop} (hI : InsIs c ld x C dx es n) (ht : tabA.contains (C, name) = true) (hl : getL name es = some (some v)) (hk : k v ls ld) (hv : handedIn v = true := by rfl) :
    W F c (getAttr (.ref x) name ex) k ls ld := fun ok s st => by
  obtain ⟨m, Fm, _⟩ := st.F
  have hb := tabA_ok (P := c.w.params) ht
  unfold attrB at hb
  cases q : findIn (K0 c.w.params) (.ref C) name with
  | none => rw [q] at hb; cases hb
  | some a =>
    rw [q] at hb
    simp only [Bool.and_eq_true] at hb
    exact get_own Fm ok.X (hI.at st) hb.1.1 hb.1.2 q hb.2 hl hv ⟨ls, ld, st.toks _, hk⟩
noncomputable def methB (P : Params) (C : Addr) (name : Str) (f : Addr) : Bool := plainGet (K0 P) C name && decide (findIn (K0 P) (.ref C) name = some (some (.ref f))) && isFn (K0 P) (.ref f)
noncomputable def tabM : List (Addr × Str × Addr) := [(373, Str.ofString "new_struct", 341), (373, Str.ofString "build_list", 349), (373, Str.ofString "list_cells", 356), (373, Str.ofString "put_term", 363), (373, Str.ofString "take_term", 370), (373, Str.ofString "push", 201), (373, Str.ofString "new_var", 208), (373, Str.ofString "reserve", 215), (373, Str.ofString "trim", 222), (373, Str.ofString "deref", 229), (373, Str.ofString "is_unbound", 236), (373, Str.ofString "bind", 243), (373, Str.ofString "bind_pair", 250), (373, Str.ofString "globalise", 257), (373, Str.ofString "mark", 264), (373, Str.ofString "undo_to", 271), (373, Str.ofString "stack_put", 278), (373, Str.ofString "is_compound", 285), (373, Str.ofString "functor_of", 292), (373, Str.ofString "width", 299), (373, Str.ofString "base", 306), (373, Str.ofString "arg", 313), (373, Str.ofString "new_block", 320), (154, Str.ofString "atom", 88), (154, Str.ofString "text", 95), (154, Str.ofString "functor", 102), (154, Str.ofString "func", 109), (154, Str.ofString "name", 116), (154, Str.ofString "arity", 123), (154, Str.ofString "label", 130), (154, Str.ofString "count", 137), (154, Str.ofString "functor_count", 144), (154, Str.ofString "known", 151), (399, Str.ofString "add", 396)]
theorem tabM_ok {P : Params} {C f : Addr} {name : Str} (h : tabM.contains (C, name, f) = true) : methB P C name f = true := by
  have e : tabM.all (fun p => methB P p.1 p.2.1 p.2.2) = true := by kernel_rfl
  exact List.all_eq_true.mp e (C, name, f) (List.contains_iff_mem.mp h)
theorem Meth.ins {x C dx f : Addr} {es : List DictEntry} {n : Nat} {name : Str} (hI : InsIs c ld x C dx es n) (ht : tabM.contains (C, name, f) = true) (hl : getL name es = some none) : Meth F c (.ref x) name (.ref f) [.ref x] ls ld := fun pl Q E s ok st h => by
  obtain ⟨m, Fm, _⟩ := st.F
  have hb := tabM_ok (P := c.w.params) ht
  unfold methB at hb
  simp only [Bool.and_eq_true, decide_eq_true_eq] at hb
  exact method_inst Fm ok.X (hI.at st) hb.1.1 hb.1.2 hb.2 hl h
noncomputable def fnRec (P : Params) (a : Addr) : Option FuncData := match (K0 P).lookup a with
  | some ⟨_, _, .func fd, _⟩ => some fd
  | _ => none
noncomputable def StandsV (F : Fn) (st : Stmt) (dv : Value) : Prop := ∀ P : Params, ((fnRec P F.f).map fun fd => (fd.qualname, fd.params, fd.body, fd.scope, fd.globals, fd.closure, fd.code, fd.builtins, fd.defaults, fd.kwdefaults, codeIn (K0 P) fd.code fd.qualname)) =
  some (F.qual, fP st, .stmts (fB st), F.cs, mainGlobals, [], F.cd, builtinsNs, dv, .none, true)
noncomputable abbrev Stands (F : Fn) (st : Stmt) : Prop := StandsV F st .none
theorem StandsV.rec {F : Fn} {st : Stmt} {dv : Value} (h : StandsV F st dv) (P : Params) : ∃ oc od osl name doc pm an ct, (K0 P).lookup F.f = some ⟨oc, od, .func (fnOf name F.qual (fP st) (fB st) F.cs dv .none doc pm an F.cd ct), osl⟩ ∧ codeIn (K0 P) F.cd F.qual = true := by
  obtain ⟨fd, h1, h2⟩ := Option.map_eq_some_iff.mp (h P)
  simp only [Prod.mk.injEq] at h2
  obtain ⟨e1, e2, e3, e4, e5, e6, e7, e8, e9, e10, e11⟩ := h2
  unfold fnRec at h1
  split at h1
  · rename_i oc od fd' osl q
    cases h1
    obtain ⟨name, qual, params, body, scope, globals, closure, defaults, kwdefaults, doc, pm, an, code, ct, bi⟩ := fd
    dsimp only at e1 e2 e3 e4 e5 e6 e7 e8 e9 e10 e11
    subst e1 e2 e3 e4 e5 e6 e7 e8 e9 e10
    exact ⟨oc, od, osl, name, doc, pm, an, ct, q, e11⟩
  · cases h1
theorem cellsNil {n : Nat} : ∀ {l : List (Str × NameKind)} {acc : List (Str × Addr)}, l.all (fun x => x.2 != .cell) = true → cellsFrom n l acc = acc
  | [], _, _ => rfl
  | (_, k) :: r, acc, h => by
    rw [List.all_cons, Bool.and_eq_true] at h
    have e : (k == NameKind.cell) = false := by have := h.1; simpa [bne] using this
    show (if (k == NameKind.cell) = true then _ else _) = acc
    rw [e]
    exact cellsNil h.2
theorem Spec.ofWV {w : World} (F : Fn) (st : Stmt) {dv : Value} {args : List Value} {need : Led} {pre : Heap → Prop} {post K : Value → Led → Prop} (hK : StandsV F st dv) (hroom : Nat.ble (F.D + 1) recursionLimit = true)
    {binds : List (Str × Value)} (hbind : ∀ name doc pm an ct s, (K0 w.params).In s.heap → BindsTo s (fnOf name F.qual (fP st) (fB st) F.cs dv .none doc pm an F.cd ct) ⟨args, []⟩ binds) (hloc : binds.all (fun y => F.cs.names.lookup y.1 == some .local) = true)
    (hs : (!F.cs.isCoroutine && !F.cs.isGenerator && F.cs.names.all (fun x => x.2 != .cell)) = true)
    (hnd : ∀ g, pre g → (need.map (·.1)).Nodup) (h : ∀ c : Cx, c.w = w → pre c.g → wpS F c 200 (fB st) (fun fl _ ld => K (match fl with | .ret v => v | _ => .none) ld) binds.reverse need)
    (hfin : ∀ v ld, (ld.map (·.1)).Nodup → K v ld → ∃ need', (∀ p ∈ need', p ∈ ld) ∧ post v need') (hm : F.m = none := by rfl) : Spec w F.f args F.D F.U need pre post := by
  obtain ⟨oc, od, osl, name, doc, pm, an, ct, ho, hcd⟩ := hK.rec w.params
  intro gd outer A₀ base g mean mg mb s R B X T stg hz O hpre hR
  simp only [Bool.and_eq_true, Bool.not_eq_true'] at hs
  refine codeAny_call_def (fd := fnOf name F.qual (fP st) (fB st) F.cs dv .none doc pm an F.cd ct) (body := fB st) (binds := binds) (Nat.le_of_ble_eq_true hroom) (stg _ _ (X _ _ ho)) rfl (T.nolimit.keeps stg) ((codeRec_of X hcd).keeps stg) rfl (hbind _ _ _ _ _ _ (fun b o e => stg _ _ (X b o e)))
    (fun x hx => by have := List.all_eq_true.mp hs.2 x hx; simpa using this) (fun y hy => by have := List.all_eq_true.mp hloc y hy; simpa using this) (fun h₁ hns hk₁ => ?_) hs.1.1 hs.1.2 F.hk
  let c : Cx := ⟨w, gd, outer, A₀, base, mean, mg, mb, g, s.heap.objs.size, s.gens, s.drawn, s.os⟩
  have hw := wpS_ok 200 _ _ _ _ (h c rfl hpre) ⟨B, X, T⟩ { s with heap := h₁, toks := s.toks + binds.length } ⟨⟨_, ⟨hns, fun b o e => hk₁ b o (stg b o e), hz⟩, fz_of hm _, fun _ _ e => e⟩, fun p hp => ⟨hk₁ _ _ (O p hp).1, Nat.ne_of_lt (Heap.lt_size (O p hp).1), (O p hp).2⟩, hnd g hpre, rfl, rfl, rfl⟩
  have e : F.env c.L = envX F.qual F.cs s.heap.objs.size F.f F.cd [] := by
    show envX F.qual F.cs s.heap.objs.size F.f F.cd (cellsFrom (s.heap.objs.size + 1) F.cs.names []) = _
    rw [cellsNil hs.2]
  have eA : c.A F = (aro F.D F.U gd outer).deeper (envX F.qual F.cs s.heap.objs.size F.f F.cd []) := congrArg (Around.deeper (aro F.D F.U gd outer)) e
  rw [eA, e] at hw
  refine wpAny_mono hw ?_ fun _ _ x => x.elim
  rintro fl ⟨hp', ge', dr', tk', os'⟩ ⟨ls', ld', st', hKv⟩
  obtain ⟨need', hsub, hpost⟩ := hfin _ _ st'.nd hKv
  obtain ⟨⟨m', F', _⟩, N', _, rfl, rfl, rfl⟩ := st'
  exact hR _ hp' tk' need' F'.keep (own_of fun p hp => N' p (hsub p hp)) hpost
theorem Spec.ofW0 {w : World} (F : Fn) (st : Stmt) {args : List Value} {need : Led} {pre : Heap → Prop} {post K : Value → Led → Prop} (hK : Stands F st) (hroom : Nat.ble (F.D + 1) recursionLimit = true)
    (hbind : ∀ name doc pm an ct, bindArgs (fnOf name F.qual (fP st) (fB st) F.cs .none .none doc pm an F.cd ct) ⟨args, []⟩ = pure (zipA (fP st).args args)) (hloc : (zipA (fP st).args args).all (fun y => F.cs.names.lookup y.1 == some .local) = true)
    (hs : (!F.cs.isCoroutine && !F.cs.isGenerator && F.cs.names.all (fun x => x.2 != .cell)) = true)
    (hnd : ∀ g, pre g → (need.map (·.1)).Nodup) (h : ∀ c : Cx, c.w = w → pre c.g → wpS F c 200 (fB st) (fun fl _ ld => K (match fl with | .ret v => v | _ => .none) ld) (zipA (fP st).args args).reverse need)
    (hfin : ∀ v ld, (ld.map (·.1)).Nodup → K v ld → ∃ need', (∀ p ∈ need', p ∈ ld) ∧ post v need') (hm : F.m = none := by rfl) : Spec w F.f args F.D F.U need pre post :=
  Spec.ofWV F st hK hroom (fun _ _ _ _ _ _ _ => BindsTo.of_eq (hbind _ _ _ _ _)) hloc hs hnd h hfin hm
theorem Spec.ofW {w : World} (F : Fn) (st : Stmt) {args : List Value} {need : Led} {pre : Heap → Prop} {post : Value → Led → Prop} (hK : Stands F st) (hroom : Nat.ble (F.D + 1) recursionLimit = true)
    (hbind : ∀ name doc pm an ct, bindArgs (fnOf name F.qual (fP st) (fB st) F.cs .none .none doc pm an F.cd ct) ⟨args, []⟩ = pure (zipA (fP st).args args)) (hloc : (zipA (fP st).args args).all (fun y => F.cs.names.lookup y.1 == some .local) = true)
    (hs : (!F.cs.isCoroutine && !F.cs.isGenerator && F.cs.names.all (fun x => x.2 != .cell)) = true)
    (hnd : ∀ g, pre g → (need.map (·.1)).Nodup) (h : ∀ c : Cx, c.w = w → pre c.g → wpS F c 200 (fB st) (fun fl _ ld => ∃ need', (∀ p ∈ need', p ∈ ld) ∧ post (match fl with | .ret v => v | _ => .none) need') (zipA (fP st).args args).reverse need) (hm : F.m = none := by rfl) : Spec w F.f args F.D F.U need pre post :=
  Spec.ofW0 F st (K := fun v ld => ∃ need', (∀ p ∈ need', p ∈ ld) ∧ post v need') hK hroom hbind hloc hs hnd h (fun _ _ _ h => h) hm
theorem W.call {f : Addr} {args : List Value} {D U : Nat} {need : Led} {pre : Heap → Prop} {post : Value → Led → Prop} (S : Spec c.w f args D U need pre post) (rest : Led) (hdu : (Nat.ble (F.D + 1) D && Nat.ble (F.U + 3) U) = true) {k : Value → Loc → Led → Prop}
    (hsub : ∀ p ∈ need, p ∈ ld) (hrest : ∀ p ∈ rest, p ∈ ld) (hdis : (ld.map (·.1)).Nodup → ∀ p ∈ rest, ∀ q ∈ need, p.1 ≠ q.1) (hpre : (ld.map (·.1)).Nodup → ∀ g, c.g.StaysIn g → (∀ p ∈ rest, g.get? p.1 = some p.2) → pre g)
    (hk : (ld.map (·.1)).Nodup → ∀ v need', (∀ p ∈ rest, ∀ q ∈ need', p.1 ≠ q.1) → post v need' → ∃ ld2, (∀ p ∈ ld2, p ∈ need' ++ rest) ∧ (ld2.map (·.1)).Nodup ∧ k v ls ld2) : W F c (PySem.call (.ref f) args) k ls ld := fun ok s st => by
  obtain ⟨m, Fm, hm⟩ := st.F
  exact Spec.use S ok.B Fm ok.X ok.T st.N rfl F.hk (Nat.le_of_ble_eq_true (Bool.and_eq_true_iff.mp hdu).1) (Nat.le_of_ble_eq_true (Bool.and_eq_true_iff.mp hdu).2) hsub hrest (hdis st.nd) (fun g h1 _ h3 => hpre st.nd g h1 h3)
    fun v h' tk need' F' N' hd hp => let ⟨ld2, h1, h2, h3⟩ := hk st.nd v need' hd hp; ⟨ls, ld2, ⟨⟨m, F', hm⟩, fun p hp => N' p (h1 p hp), h2, st.ge, st.dr, st.os⟩, h3⟩
theorem W.callP {f : Addr} {args : List Value} {D U : Nat} {pre : Heap → Prop} {V : Tok → Value} (S : PSpec c.w f args D U pre V) {k : Value → Loc → Led → Prop} (hpre : ∀ g, c.g.StaysIn g → (∀ p ∈ ld, g.get? p.1 = some p.2) → pre g)
    (hk : ∀ t, k (V t) ls ld) (hdu : (Nat.ble (F.D + 1) D && Nat.ble (F.U + 3) U) = true := by rfl) : W F c (PySem.call (.ref f) args) k ls ld :=
  W.call S ld hdu (fun _ hp => nomatch hp) (fun _ hp => hp) (fun _ _ _ _ hq => nomatch hq) (fun _ => hpre) fun nd v need' _ hp => by
    obtain ⟨rfl, t, rfl⟩ := hp
    exact ⟨ld, fun _ h => h, nd, hk t⟩
theorem StG.ins {w : World} {c : Cx} {st sy hl ds sk tr : Addr} {xs : List Value} {k : Nat → Tok} {n : Nat} {ld : Led} (h : StG w c.g st sy hl xs ds sk tr k n) : InsIs c ld st 373 ds (stEs w.params k sy hl sk tr) n := ⟨.inl h.i, .inl h.d⟩
theorem SyG.ins {w : World} {c : Cx} {sy dy tx an fs fn : Addr} {txs fns : List Value} {k : Nat → Tok} {n : Nat} {ld : Led} (h : SyG w c.g sy txs fns dy tx an fs fn k n) : InsIs c ld sy 154 dy (syEs w.params k tx an fs fn) n := ⟨.inl h.i, .inl h.d⟩
theorem tf {P : Prop} (h : true = false) : P := nomatch h
theorem ft {P : Prop} (h : false = true) : P := nomatch h
theorem pend {V : Tok → Value} {v : Value} {t : Tok} (h : v = V t) : ∃ need', (∀ p ∈ need', p ∈ ld) ∧ need' = [] ∧ ∃ t, v = V t := ⟨[], (fun _ hp => nomatch hp), rfl, t, h⟩
end
end
end Mine
end
section
set_option Elab.async false
set_option maxRecDepth 100000
set_option maxHeartbeats 1000000
set_option linter.unusedVariables false
namespace Mine
noncomputable section
open PySem PySem.W PySem.Calls PyProof.Rows
noncomputable def Sub2 (a b : Led) : Prop := (∀ p ∈ a, p ∈ b) ∧ ((b.map (·.1)).Nodup → (a.map (·.1)).Nodup)
theorem Sub2.refl {a : Led} : Sub2 a a := ⟨fun _ h => h, id⟩
theorem Sub2.of {a b : Led} (h : a.Sublist b) : Sub2 a b := ⟨fun p hp => h.subset hp, fun n => n.sublist (h.map _)⟩
theorem Sub2.drop {b : Led} (k : Nat) : Sub2 (b.drop k) b := .of (List.drop_sublist k b)
theorem Sub2.dr {a b : Led} (k : Nat) (h : b.drop k = a) : Sub2 a b := h ▸ Sub2.drop k
theorem Sub2.mid {b : Led} {p : Addr × Obj} (k : Nat) : Sub2 (b.take k ++ p :: b.drop k) (p :: b) := ⟨fun q hq => by
    rcases List.mem_append.mp hq with h | h
    · exact .tail _ (List.mem_of_mem_take h)
    · rcases List.mem_cons.mp h with rfl | h
      · exact .head _
      · exact .tail _ (List.mem_of_mem_drop h), fun n => by
    have e : (b.take k ++ p :: b.drop k).Perm (p :: b) := List.perm_middle.trans (by rw [List.take_append_drop])
    exact ((e.map (·.1)).nodup_iff).mpr n⟩
theorem Sub2.mi {a b : Led} {p : Addr × Obj} (k : Nat) (h : b.take k ++ p :: b.drop k = a) : Sub2 a (p :: b) := h ▸ Sub2.mid k
theorem Sub2.perm {a b : Led} (h : a.Perm b) : Sub2 a b := ⟨fun p hp => h.mem_iff.mp hp, fun n => ((h.map (·.1)).nodup_iff).mpr n⟩
theorem Sub2.trans {a b d : Led} (h : Sub2 a b) (h2 : Sub2 b d) : Sub2 a d := ⟨fun p hp => h2.1 p (h.1 p hp), fun n => h.2 (h2.2 n)⟩
theorem Sub2.cons {a b : Led} {p : Addr × Obj} (h : Sub2 a b) : Sub2 (p :: a) (p :: b) := ⟨fun q hq => by
    rcases List.mem_cons.mp hq with rfl | hq
    · exact .head _
    · exact .tail _ (h.1 q hq), fun n => by
    rw [List.map_cons, List.nodup_cons] at n ⊢
    refine ⟨fun hm => n.1 ?_, h.2 n.2⟩
    obtain ⟨q, hq, e⟩ := List.mem_map.mp hm
    exact List.mem_map.mpr ⟨q, h.1 q hq, e⟩⟩
noncomputable def KnowsL : Loc → Loc → Prop
  | [], _ => True
  | p :: r, b => b.lookup p.1 = some p.2 ∧ KnowsL r b
theorem KnowsL.get {b : Loc} : ∀ {a : Loc}, KnowsL a b → ∀ x v, a.lookup x = some v → b.lookup x = some v
  | [], _, _, _, h => by cases h
  | (y, u) :: r, h, x, v, e => by
    rw [List.lookup_cons] at e
    cases q : (x == y) with
    | true => rw [q] at e; rw [eq_of_beq q, ← Option.some.inj e]; exact h.1
    | false => rw [q] at e; exact KnowsL.get h.2 x v e
section
variable {F : Fn} {c : Cx} {ls : Loc} {ld : Led}
theorem W.weaken {α : Type} {x : Sem α} {k : α → Loc → Led → Prop} {ls' : Loc} {ld' : Led} (h1 : KnowsL ls' ls) (h2 : Sub2 ld' ld) (h : W F c x k ls' ld') : W F c x k ls ld := fun ok s st => by
  obtain ⟨m, Fm, hm⟩ := st.F
  exact h ok s ⟨⟨m, Fm, hm.1, fun y v e => hm.2 y v (h1.get y v e)⟩, fun p hp => st.N p (h2.1 p hp), h2.2 st.nd, st.ge, st.dr, st.os⟩
noncomputable def forK {σ : Type} (Ls : σ → Loc) (Ld : σ → Led) (P : σ → Prop) (I : Addr × Obj) (k : Flow → Loc → Led → Prop) : Flow → Loc → Led → Prop
  | .ret v, ls, ld => k (.ret v) ls ld
  | .brk, ls, ld => k .next ls ld
  | _, ls, ld => ∃ y, KnowsL (Ls y) ls ∧ Sub2 (I :: Ld y) ld ∧ P y
theorem for_walkW {σ : Type} {I : Addr} {fp : List Addr} {n : Nat} {Pv : Nat → Value → Prop} {Stt : Nat → Heap → Prop} {x : Str} {body : List Stmt} (Ls : σ → Loc) (Ld : σ → Led) (P : Nat → σ → Prop) (c₀ : σ) {k : Flow → Loc → Led → Prop} {s : Shared} (hz : F.m = none) (ok : c.Ok)
    (Wk : Walks PySem.Challenge.rw_no0180_01.row.toRowW.prog c.w (c.A F) I fp [I] n Pv Stt) (hg0 : c.g.get? I = none) (hIfp : I ∈ fp) (hLf : c.L ∉ fp) (hfp : ∀ b ∈ fp, b = I ∨ (c.g.get? b).isSome = true ∨ ∃ o, ∀ y, (b, o) ∈ Ld y) (hst0 : Stt 0 s.heap) (hStI : ∀ i h, Stt i h → ∃ o, h.get? I = some o)
    (st : St F c (Ls c₀) (Ld c₀) s) (hoff0 : ∀ p ∈ Ld c₀, p.1 ≠ I) (hp : P 0 c₀)
    (turn : ∀ (i : Nat) (y : σ) v o, i < n → Pv i v → P i y → (∀ p ∈ Ld y, p.1 ≠ I) → wpS F c 200 body (forK Ls Ld (P (i + 1)) (I, o) k) ((x, v) :: Ls y) ((I, o) :: Ld y))
    (done : ∀ y, P n y → k .next (Ls y) (Ld y)) :
    LoopAtV PySem.Challenge.rw_no0180_01.row.toRowW.prog c.w (c.A F) c.g (F.env c.L) x body (fun v s' => ∃ ls' ld', St F c ls' ld' s' ∧ k v ls' ld') (fun _ _ => False) (.ref I) s := by
  obtain ⟨m₀, F₀, hm₀⟩ := st.F
  refine ⟨I, fp, [I], n, Pv, Stt, m₀, Ld c₀, fun i m nx => ∃ y, nx = Ld y ∧ Knows F (Ls y) m ∧ ((Ld y).map (·.1)).Nodup ∧ P i y, rfl, Wk, hLf, (fun b hb => by rw [List.mem_singleton.mp hb]; exact hg0), (fun p hp hI => hoff0 p hp (List.mem_singleton.mp hI)), hst0, F₀, st.N, ⟨c₀, rfl, hm₀, st.nd, hp⟩, ?_, ?_⟩
  · rintro i v m₁ nx s₁ own ⟨hh', tk', rfl⟩ hi hPv ⟨y, rfl, h1, hnd, hp'⟩ hoff hsub hget hall hst F₁ N₁
    obtain ⟨o, ho⟩ := hStI _ _ hst
    have hmem : (I, o) ∈ own := hall _ hIfp hg0 o ho
    have hoff' : ∀ p ∈ Ld y, p.1 ≠ I := fun p hp e => hoff p hp (by rw [e]; exact .head _)
    have N₂ : News c.g c.L hh' ((I, o) :: Ld y) := List.forall_mem_cons.mpr ⟨N₁ _ (List.mem_append_left _ hmem), fun p hp => N₁ p (List.mem_append_right _ hp)⟩
    have st1 : St F c ((x, v) :: Ls y) ((I, o) :: Ld y) { s with heap := hh', toks := tk' } := ⟨⟨_, F₁, fz_of hz _, fun z u e => by
      rw [List.lookup_cons] at e
      cases hz : (z == x) with
      | true => rw [hz] at e; show (if z = x then _ else _) = _; rw [if_pos (eq_of_beq hz)]; exact e
      | false => rw [hz] at e; show (if z = x then _ else _) = _; rw [if_neg (beq_eq_false_iff_ne.mp hz)]; exact h1.2 _ _ e⟩, N₂, by
      rw [List.map_cons, List.nodup_cons]
      refine ⟨fun hm => ?_, hnd⟩
      obtain ⟨q, hq, e⟩ := List.mem_map.mp hm
      exact hoff' q hq e, st.ge, st.dr, st.os⟩
    refine wpAny_mono (wpS_ok 200 _ _ _ _ (turn i y v o hi hPv hp' hoff') ok _ st1) (fun f s₂ p => ?_) fun _ _ e => e.elim
    obtain ⟨ls2, ld2, st2, hk2⟩ := p
    have fin : (∃ y, KnowsL (Ls y) ls2 ∧ Sub2 ((I, o) :: Ld y) ld2 ∧ P (i + 1) y) → LoopStepU c.g c.L [I] own (fun m nx => ∃ y, nx = Ld y ∧ Knows F (Ls y) m ∧ ((Ld y).map (·.1)).Nodup ∧ P (i + 1) y) { s with heap := hh', toks := tk' } .next s₂ := by
      rintro ⟨y', hkn, hs2, hP'⟩
      obtain ⟨⟨m', F', hm'⟩, N', nd', g1, g2, g3⟩ := st2
      have N3 : News c.g c.L s₂.heap ((I, o) :: Ld y') := fun p hp => N' p (hs2.1 p hp)
      have nd3 := hs2.2 nd'
      rw [List.map_cons, List.nodup_cons] at nd3
      obtain ⟨hp2, ge2, dr2, tk2, os2⟩ := s₂
      refine ⟨rfl, hp2, tk2, m', Ld y', ?_, F', fun p hp => ?_, fun p hp hq => nd3.1 ?_, y', rfl, ⟨hm'.1, fun z u e => hm'.2 z u (hkn.get z u e)⟩, nd3.2, hP'⟩
      · show Shared.mk hp2 ge2 dr2 tk2 os2 = Shared.mk hp2 s.gens s.drawn tk2 s.os
        rw [show ge2 = s.gens from g1.trans st.ge.symm, show dr2 = s.drawn from g2.trans st.dr.symm, show os2 = s.os from g3.trans st.os.symm]
      · rcases List.mem_append.mp hp with hp | hp
        · obtain ⟨pa, po⟩ := p
          have hpo : hh'.get? pa = some po := hget _ hp
          rcases hfp pa (hsub _ hp) with rfl | hs | ⟨o', ho'⟩
          · rw [ho] at hpo
            rw [← Option.some.inj hpo]; exact N3 _ (.head _)
          · have := (N₁ _ (List.mem_append_left _ hp)).2.2
            rw [this] at hs; cases hs
          · have := (N₁ _ (List.mem_append_right _ (ho' y))).1
            rw [hpo] at this
            have e5 := Option.some.inj this
            simp only at e5
            rw [e5]
            exact N3 _ (.tail _ (ho' y'))
        · exact N3 p (.tail _ hp)
      · rw [← List.mem_singleton.mp hq]; exact List.mem_map.mpr ⟨p, hp, rfl⟩
    cases f with
    | ret v => exact .ret ⟨ls2, ld2, st2, hk2⟩
    | brk => exact .brk ⟨ls2, ld2, st2, hk2⟩
    | next => exact .next (fin hk2)
    | cont => exact .cont (fin hk2)
  · rintro h' tk m' news' F' N' _ ⟨y, rfl, h1, hnd, hp'⟩
    exact ⟨Ls y, Ld y, ⟨⟨m', F', h1⟩, N', hnd, st.ge, st.dr, st.os⟩, done y hp'⟩
end
end
end Mine
end
section
set_option Elab.async false
set_option maxRecDepth 100000
set_option maxHeartbeats 1000000
set_option linter.unusedVariables false
namespace Mine
noncomputable section
open PySem PySem.W PySem.Calls PyProof.Rows
section
variable {F : Fn} {c : Cx} {ls : Loc} {ld : Led}
noncomputable def IterW (F : Fn) (c : Cx) (x : Str) (body : List Stmt) (k : Flow → Loc → Led → Prop) (xv : Value) (ls : Loc) (ld : Led) : Prop := F.m = none → c.Ok → ∀ s, St F c ls ld s →
  wpAny (mdl c.w) (c.A F) (pyIter xv) (fun it s₂ => LoopAtV PySem.Challenge.rw_no0180_01.row.toRowW.prog c.w (c.A F) c.g (F.env c.L) x body (fun v s' => ∃ ls' ld', St F c ls' ld' s' ∧ k v ls' ld') (fun _ _ => False) it s₂) (fun _ _ => False) s
noncomputable def noSet : Expr → Bool
  | .Set .. => false
  | _ => true
theorem W.for {x : Str} {px pos : Pos} {iter : Expr} {body : List Stmt} {k : Flow → Loc → Led → Prop} (h : wpE F c 20 iter (fun xv => IterW F c x body k xv) ls ld) (hx : F.cs.names.lookup x = some .local := by rfl) (hn : noSet iter = true := by rfl) (hz : F.m = none := by rfl) :
    W F c (exec (.For (.Name x px) iter body [] pos) (F.env c.L)) k ls ld := fun ok s st =>
  For_invV c.g hx (by show (F.cs.kind == .class || (F.cs.kind == .module && _)) = false; rw [F.hk]; rfl) ((wpE_ok 20 _ _ _ _ h).step ok st fun xv ls1 ld1 s1 st1 h1 => h1 hz ok s1 st1)
    (by intro v; cases iter <;> first | rfl | cases hn) PassesOwn.never
theorem St.size {s : Shared} (st : St F c ls ld s) : ∀ p ∈ ld, p.1 < s.heap.objs.size := fun p hp => Heap.lt_size (st.N p hp).1
theorem St.push {s : Shared} (st : St F c ls ld s) (o : Obj) : St F c ls ld { s with heap := s.heap.push o } := by
  obtain ⟨m, Fm, hm⟩ := st.F
  exact ⟨⟨m, Fm.push _, hm⟩, fun p hp => ⟨Heap.get?_push_of_some _ (st.N p hp).1, (st.N p hp).2⟩, st.nd, st.ge, st.dr, st.os⟩
theorem IterW.weaken {x : Str} {body : List Stmt} {k : Flow → Loc → Led → Prop} {xv : Value} {ls' : Loc} {ld' : Led} (h1 : KnowsL ls' ls) (h2 : Sub2 ld' ld) (h : IterW F c x body k xv ls' ld') : IterW F c x body k xv ls ld := fun hz ok s st => by
  obtain ⟨m, Fm, hm⟩ := st.F
  exact h hz ok s ⟨⟨m, Fm, hm.1, fun y v e => hm.2 y v (h1.get y v e)⟩, fun p hp => st.N p (h2.1 p hp), h2.2 st.nd, st.ge, st.dr, st.os⟩
theorem IterW.list0 {σ : Type} {x : Str} {body : List Stmt} {l : Addr} {vs : List Value} (Ls : σ → Loc) (Ld : σ → Led) (P : Nat → σ → Prop) (c₀ : σ) {k : Flow → Loc → Led → Prop} (hl : ListIs c (Ld c₀) l vs) (hl2 : c.g.IsList l vs.toArray ∨ ∃ o, ∀ y, (l, o) ∈ Ld y)
    (hp : P 0 c₀)
    (turn : ∀ (i : Nat) (y : σ) v I o, i < vs.length → vs[i]? = some v → P i y → (∀ p ∈ Ld y, p.1 ≠ I) → wpS F c 200 body (forK Ls Ld (P (i + 1)) (I, o) k) ((x, v) :: Ls y) ((I, o) :: Ld y))
    (done : ∀ y, P vs.length y → k .next (Ls y) (Ld y)) : IterW F c x body k (.ref l) (Ls c₀) (Ld c₀) := fun hz ok s st => by
  have hls := hl.at st
  obtain ⟨ol, hol, _⟩ := id hls
  have hne : l ≠ s.heap.objs.size := Nat.ne_of_lt (Heap.lt_size hol)
  refine wpAny_pyIter_list hls ?_
  have Wk := Walks.list (prog := PySem.Challenge.rw_no0180_01.row.toRowW.prog) (w := c.w) (A := c.A F) rfl s.heap.objs.size l hne vs.toArray
  rw [show vs.toArray.size = vs.length by simp] at Wk
  obtain ⟨m, Fm, hm⟩ := st.F
  refine for_walkW Ls Ld P c₀ (k := k) hz ok Wk (next_is_new Fm) (.head _) (fun q => ?_) (fun b hb => ?_) ⟨⟨_, Heap.get?_push_size _ rfl, rfl, rfl⟩, hls.at fun o e => Heap.get?_push_of_some _ e⟩ (fun i h hs => let ⟨o, ho, _⟩ := hs.1; ⟨o, ho⟩) (st.push _)
    (fun p hp e => absurd (st.size p hp) (by rw [e]; exact Nat.lt_irrefl _)) hp (fun i y v o hi hv hP hof => turn i y v _ o hi (by simpa using hv) hP hof) done
  · rcases List.mem_cons.mp q with e | q
    · exact absurd Fm.ns.lt (e ▸ Nat.lt_irrefl _)
    · have e : c.L = l := List.mem_singleton.mp q
      rcases hl2 with ⟨o, ho, _⟩ | ⟨o, ho⟩
      · exact absurd (Nat.lt_of_lt_of_le (Heap.lt_size ho) Fm.above) (e ▸ Nat.lt_irrefl _)
      · exact (st.N _ (ho c₀)).2.1 e.symm
  · rcases List.mem_cons.mp hb with e | hb
    · exact .inl e
    · rw [List.mem_singleton.mp hb]
      exact .inr (hl2.imp (fun ⟨o, ho, _⟩ => by rw [ho]; rfl) id)
theorem IterW.list {σ : Type} {x : Str} {body : List Stmt} {l : Addr} {vs : List Value} (Ls : σ → Loc) (Ld : σ → Led) (P : Nat → σ → Prop) (c₀ : σ) {k : Flow → Loc → Led → Prop} (hl : ListIs c (Ld c₀) l vs) (hl2 : c.g.IsList l vs.toArray ∨ ∃ o, ∀ y, (l, o) ∈ Ld y)
    (h1 : KnowsL (Ls c₀) ls) (h2 : Sub2 (Ld c₀) ld) (hp : P 0 c₀)
    (turn : ∀ (i : Nat) (y : σ) v I o, i < vs.length → vs[i]? = some v → P i y → (∀ p ∈ Ld y, p.1 ≠ I) → wpS F c 200 body (forK Ls Ld (P (i + 1)) (I, o) k) ((x, v) :: Ls y) ((I, o) :: Ld y))
    (done : ∀ y, P vs.length y → k .next (Ls y) (Ld y)) : IterW F c x body k (.ref l) ls ld :=
  IterW.weaken h1 h2 (IterW.list0 Ls Ld P c₀ hl hl2 hp turn done)
theorem IterW.tup0 {σ : Type} {x : Str} {body : List Stmt} {l : Addr} {vs : List Value} (Ls : σ → Loc) (Ld : σ → Led) (P : Nat → σ → Prop) (c₀ : σ) {k : Flow → Loc → Led → Prop} (hl : TupIs c (Ld c₀) l vs) (hl2 : IsTup c.g l vs.toArray ∨ ∃ o, ∀ y, (l, o) ∈ Ld y)
    (hp : P 0 c₀)
    (turn : ∀ (i : Nat) (y : σ) v I o, i < vs.length → vs[i]? = some v → P i y → (∀ p ∈ Ld y, p.1 ≠ I) → wpS F c 200 body (forK Ls Ld (P (i + 1)) (I, o) k) ((x, v) :: Ls y) ((I, o) :: Ld y))
    (done : ∀ y, P vs.length y → k .next (Ls y) (Ld y)) : IterW F c x body k (.ref l) (Ls c₀) (Ld c₀) := fun hz ok s st => by
  have hls : s.heap.IsTuple l vs.toArray := hl.at st
  obtain ⟨ol, hol, _⟩ := id hls
  have hne : l ≠ s.heap.objs.size := Nat.ne_of_lt (Heap.lt_size hol)
  refine wpAny_pyIter_tuple hls ?_
  have Wk := Walks.tuple (prog := PySem.Challenge.rw_no0180_01.row.toRowW.prog) (w := c.w) (A := c.A F) rfl s.heap.objs.size l hne vs.toArray
  rw [show vs.toArray.size = vs.length by simp] at Wk
  obtain ⟨m, Fm, hm⟩ := st.F
  refine for_walkW Ls Ld P c₀ (k := k) hz ok Wk (next_is_new Fm) (.head _) (fun q => ?_) (fun b hb => ?_) ⟨⟨_, Heap.get?_push_size _ rfl, rfl, rfl⟩, hls.at fun o e => Heap.get?_push_of_some _ e⟩ (fun i h hs => let ⟨o, ho, _⟩ := hs.1; ⟨o, ho⟩) (st.push _)
    (fun p hp e => absurd (st.size p hp) (by rw [e]; exact Nat.lt_irrefl _)) hp (fun i y v o hi hv hP hof => turn i y v _ o hi (by simpa using hv) hP hof) done
  · rcases List.mem_cons.mp q with e | q
    · exact absurd Fm.ns.lt (e ▸ Nat.lt_irrefl _)
    · have e : c.L = l := List.mem_singleton.mp q
      rcases hl2 with ⟨o, ho, _⟩ | ⟨o, ho⟩
      · exact absurd (Nat.lt_of_lt_of_le (Heap.lt_size ho) Fm.above) (e ▸ Nat.lt_irrefl _)
      · exact (st.N _ (ho c₀)).2.1 e.symm
  · rcases List.mem_cons.mp hb with e | hb
    · exact .inl e
    · rw [List.mem_singleton.mp hb]
      exact .inr (hl2.imp (fun ⟨o, ho, _⟩ => by rw [ho]; rfl) id)
theorem IterW.tup {σ : Type} {x : Str} {body : List Stmt} {l : Addr} {vs : List Value} (Ls : σ → Loc) (Ld : σ → Led) (P : Nat → σ → Prop) (c₀ : σ) {k : Flow → Loc → Led → Prop} (hl : TupIs c (Ld c₀) l vs) (hl2 : IsTup c.g l vs.toArray ∨ ∃ o, ∀ y, (l, o) ∈ Ld y)
    (h1 : KnowsL (Ls c₀) ls) (h2 : Sub2 (Ld c₀) ld) (hp : P 0 c₀)
    (turn : ∀ (i : Nat) (y : σ) v I o, i < vs.length → vs[i]? = some v → P i y → (∀ p ∈ Ld y, p.1 ≠ I) → wpS F c 200 body (forK Ls Ld (P (i + 1)) (I, o) k) ((x, v) :: Ls y) ((I, o) :: Ld y))
    (done : ∀ y, P vs.length y → k .next (Ls y) (Ld y)) : IterW F c x body k (.ref l) ls ld :=
  IterW.weaken h1 h2 (IterW.tup0 Ls Ld P c₀ hl hl2 hp turn done)
end
end
end Mine
end
section
set_option Elab.async false
set_option maxRecDepth 100000
set_option maxHeartbeats 1000000
set_option linter.unusedVariables false
namespace Mine
noncomputable section
open PySem PySem.W PySem.Calls PyProof.Rows
section
variable {F : Fn} {c : Cx} {ls : Loc} {ld : Led}
noncomputable def whK {σ : Type} (Ls : σ → Loc) (Ld : σ → Led) (P : σ → Prop) (μ : σ → Nat) (b : Nat) (k : Flow → Loc → Led → Prop) : Flow → Loc → Led → Prop
  | .ret v, ls, ld => k (.ret v) ls ld
  | .brk, ls, ld => k .next ls ld
  | _, ls, ld => ∃ y, μ y < b ∧ KnowsL (Ls y) ls ∧ Sub2 (Ld y) ld ∧ P y
theorem W.while {σ : Type} {test : Expr} {body : List Stmt} {pos : Pos} (Ls : σ → Loc) (Ld : σ → Led) (P : σ → Prop) (μ : σ → Nat) (y₀ : σ) {k : Flow → Loc → Led → Prop} (h1 : KnowsL (Ls y₀) ls) (h2 : Sub2 (Ld y₀) ld) (hp : P y₀)
    (turn : ∀ y, P y → wpT F c 10 test (fun b ls1 ld1 => (b = true → wpS F c 200 body (whK Ls Ld P μ (μ y) k) ls1 ld1) ∧ (b = false → k .next ls1 ld1)) (Ls y) (Ld y)) :
    W F c (exec (.While test body [] pos) (F.env c.L)) k ls ld := by
  refine W.weaken h1 h2 fun ok s st => ?_
  refine wpAny_While (codeAny_whileLoop (fun n s' => ∃ y, μ y = n ∧ P y ∧ St F c (Ls y) (Ld y) s') ?_ (μ y₀) ⟨y₀, rfl, hp, st⟩)
  rintro n s' ⟨y, rfl, hy, st'⟩
  refine wpAny_mono (wpT_ok 10 _ _ _ _ (turn y hy) ok s' st') (fun b s₂ h₂ => ?_) PassesOwn.never
  obtain ⟨ls2, ld2, st2, hb⟩ := h₂
  cases b with
  | false => exact wpAny_execs_nil ⟨ls2, ld2, st2, hb.2 rfl⟩
  | true =>
    refine wpAny_mono (wpS_ok 200 _ _ _ _ (hb.1 rfl) ok s₂ st2) (fun f s₃ h₃ => ?_) PassesOwn.never
    obtain ⟨ls3, ld3, st3, hf⟩ := h₃
    have fin : (∃ y', μ y' < μ y ∧ KnowsL (Ls y') ls3 ∧ Sub2 (Ld y') ld3 ∧ P y') → ∃ m, m < μ y ∧ ∃ z, μ z = m ∧ P z ∧ St F c (Ls z) (Ld z) s₃ := fun ⟨y', h4, h5, h6, h7⟩ => by
      obtain ⟨m, Fm, hm⟩ := st3.F
      exact ⟨_, h4, y', rfl, h7, ⟨m, Fm, hm.1, fun z u e => hm.2 z u (h5.get z u e)⟩, fun p hp => st3.N p (h6.1 p hp), h6.2 st3.nd, st3.ge, st3.dr, st3.os⟩
    cases f with
    | next => exact fin hf
    | cont => exact fin hf
    | brk => exact ⟨ls3, ld3, st3, hf⟩
    | ret v => exact ⟨ls3, ld3, st3, hf⟩
theorem St.alloc {x : Addr} {o : Obj} {s : Shared} (st : St F c ls ld s) {h' : Heap} {m : Str → Option Value} (F' : Fr c.g c.L h' m) (hm : Knows F ls m) (N' : News c.g c.L h' ((x, o) :: ld)) (l1 : ∀ p ∈ ld, p.1 < x) {tk : Nat} : St F c ls ((x, o) :: ld) ⟨h', s.gens, s.drawn, tk, s.os⟩ :=
  ⟨⟨m, F', hm⟩, N', by
    rw [List.map_cons, List.nodup_cons]
    refine ⟨fun hm => ?_, st.nd⟩
    obtain ⟨q, hq, e⟩ := List.mem_map.mp hm
    exact absurd (l1 q hq) (by rw [e]; exact Nat.lt_irrefl _), st.ge, st.dr, st.os⟩
noncomputable abbrev tupA (vs : List Value) : Obj := { cls := .type "tuple", data := .seq vs.toArray }
theorem W.newTuple {vs : List Value} {k : Value → Loc → Led → Prop} (hk : ∀ x, (∀ p ∈ ld, p.1 < x) → k (.ref x) ls ((x, tupA vs) :: ld)) (hz : Nat.ble vs.length 1000 = true := by rfl) : W F c (PySem.newTuple vs) k ls ld := fun ok s st => by
  obtain ⟨m, Fm, hm⟩ := st.F
  exact kup_newTuple Fm st.N (fun x h' F' N' l1 => ⟨ls, _, st.alloc F' hm N' l1, hk x l1⟩) (by have := Nat.le_of_ble_eq_true hz; rw [PySem.sizeLine_eq]; omega)
theorem W.newList {vs : List Value} {k : Value → Loc → Led → Prop} (hk : ∀ x, (∀ p ∈ ld, p.1 < x) → k (.ref x) ls ((x, listOf vs.toArray 0) :: ld)) (hz : Nat.ble vs.length 1000 = true := by rfl) : W F c (PySem.newList vs) k ls ld := fun ok s st => by
  obtain ⟨m, Fm, hm⟩ := st.F
  exact newList_K Fm st.N (fun x h' F' N' l1 => ⟨ls, _, st.alloc F' hm N' l1, hk x l1⟩) (by have := Nat.le_of_ble_eq_true hz; rw [PySem.sizeLine_eq]; omega)
theorem Meth.append {l : Addr} {its : Array Value} {n : Nat} (i : Nat) (h : ld[i]? = some (l, listOf its n)) : Meth F c (.ref l) (Str.ofString "append") (.builtin "list.append") [.ref l] ls ld :=
  fun pl Q E s ok st hq => listMethod_K st.N (List.mem_of_getElem? h) PySem.F.slot_list_append PySem.F.type_list_append hq
theorem Meth.pop {l : Addr} {its : Array Value} {n : Nat} (i : Nat) (h : ld[i]? = some (l, listOf its n)) : Meth F c (.ref l) (Str.ofString "pop") (.builtin "list.pop") [.ref l] ls ld :=
  fun pl Q E s ok st hq => listMethod_K st.N (List.mem_of_getElem? h) PySem.F.slot_list_pop PySem.F.type_list_pop hq
theorem Meth.extend {l : Addr} {its : Array Value} {n : Nat} (i : Nat) (h : ld[i]? = some (l, listOf its n)) : Meth F c (.ref l) (Str.ofString "extend") (.builtin "list.extend") [.ref l] ls ld :=
  fun pl Q E s ok st hq => listMethod_K st.N (List.mem_of_getElem? h) PySem.F.slot_list_extend PySem.F.type_list_extend hq
theorem W.append {l : Addr} {vs : List Value} {n : Nat} {v : Value} (i : Nat) (h : ld[i]? = some (l, listOf vs.toArray n)) {k : Value → Loc → Led → Prop} (hlen : vs.length ≤ 1000000) (hk : k .none ls (ld.set i (l, listOf (vs ++ [v]).toArray (n + 1)))) :
    W F c (PySem.call (.builtin "list.append") [.ref l, v]) k ls ld := fun ok s st => by
  obtain ⟨m, Fm, hm⟩ := st.F
  exact append_list Fm st.N (upd_of st.nd h) hlen fun h' F' N' => ⟨ls, _, ⟨⟨m, F', hm⟩, N', set_nd st.nd h, st.ge, st.dr, st.os⟩, hk⟩
theorem W.pop {l : Addr} {vs : List Value} {n : Nat} {v : Value} (i : Nat) (h : ld[i]? = some (l, listOf (vs ++ [v]).toArray n)) {k : Value → Loc → Led → Prop} (hlen : vs.length ≤ 1000000) (hk : k v ls (ld.set i (l, listOf vs.toArray (n + 1)))) :
    W F c (PySem.call (.builtin "list.pop") [.ref l]) k ls ld := fun ok s st => by
  obtain ⟨m, Fm, hm⟩ := st.F
  exact kl_pop Fm st.N (kpa_last v vs) (upd_of st.nd h) (by rw [PySem.sizeLine_eq]; simp; omega) fun h' F' N' => ⟨ls, _, ⟨⟨m, F', hm⟩, N', set_nd st.nd h, st.ge, st.dr, st.os⟩, hk⟩
theorem W.len {l : Addr} {vs : List Value} {k : Value → Loc → Led → Prop} (h : ListIs c ld l vs) (hfit : (vs.length : Int) < 2 ^ 63) (hk : ∀ t, k (.int (vs.length : Nat) t) ls ld) : W F c (PySem.call (.builtin "len") [.ref l]) k ls ld := fun ok s st =>
  len_listG (h.at st) hfit ⟨ls, ld, st.toks _, hk _⟩
theorem W.iadd {a b : Int} {t u : Tok} {k : Value → Loc → Led → Prop} (hk : ∀ t, k (.int (a + b) t) ls ld) : W F c (inplaceOp .Add (.int a t) (.int b u)) k ls ld := fun ok s st => iadd_int ⟨ls, ld, st.toks _, hk _⟩
theorem W.neg {a : Int} {t : Tok} {k : Value → Loc → Led → Prop} (hk : ∀ t, k (.int (-a) t) ls ld) : W F c (unaryOp .USub (.int a t)) k ls ld := fun ok s st => PyProof.Rows.neg_int ⟨ls, ld, st.toks _, hk _⟩
noncomputable abbrev rangeO (a b d : Int) (t u v : Tok) : Obj := { cls := .type "range", dict := none, data := .fields #[.int a t, .int b u, .int d v], slots := #[] }
theorem W.range1 {n : Int} {t : Tok} {k : Value → Loc → Led → Prop} (hk : ∀ x t1 u1 v1, (∀ p ∈ ld, p.1 < x) → k (.ref x) ls ((x, rangeO 0 n 1 t1 u1 v1) :: ld)) : W F c (PySem.call (.type "range") [.int n t]) k ls ld := fun ok s st => by
  obtain ⟨m, Fm, hm⟩ := st.F
  exact range1_rows Fm st.N fun h' tk t1 u1 v1 hr F' N' _ => ⟨ls, _, st.alloc F' hm (List.forall_mem_cons.mpr ⟨⟨hr, fun e => absurd Fm.ns.lt (e ▸ Nat.lt_irrefl _), next_is_new Fm⟩, N'⟩) st.size, hk _ t1 u1 v1 st.size⟩
theorem W.range3 {a b d : Int} {t u v : Tok} {k : Value → Loc → Led → Prop} (hd : d ≠ 0) (hp : Builtin.divisionGoesByPylong (b - a) d = false) (hk : ∀ x t1 u1 v1, (∀ p ∈ ld, p.1 < x) → k (.ref x) ls ((x, rangeO a b d t1 u1 v1) :: ld)) :
    W F c (PySem.call (.type "range") [.int a t, .int b u, .int d v]) k ls ld := fun ok s st => by
  obtain ⟨m, Fm, hm⟩ := st.F
  exact range3_rows Fm st.N hd (fun h' tk t1 u1 v1 hr F' N' _ => ⟨ls, _, st.alloc F' hm (List.forall_mem_cons.mpr ⟨⟨hr, fun e => absurd Fm.ns.lt (e ▸ Nat.lt_irrefl _), next_is_new Fm⟩, N'⟩) st.size, hk _ t1 u1 v1 st.size⟩) (.inl hp)
theorem IterW.rangeK {σ : Type} {x : Str} {body : List Stmt} {r : Addr} {a b d : Int} {t u v : Tok} {n : Nat} (Ls : σ → Loc) (Ld : σ → Led) (P : Nat → σ → Prop) (c₀ : σ) {k : Flow → Loc → Led → Prop} (hr : (r, rangeO a b d t u v) ∈ ld) (hsmall : Builtin.Range.small a b d = true) (hn : Builtin.Range.rangeSize a b d = (n : Int))
    (h1 : ∀ y v, (Ls c₀).lookup y = some v → ls.lookup y = some v) (h2 : Sub2 (Ld c₀) ld) (hp : P 0 c₀)
    (turn : ∀ (i : Nat) (y : σ) w I o, i < n → P i y → (∀ p ∈ Ld y, p.1 ≠ I) → wpS F c 200 body (forK Ls Ld (P (i + 1)) (I, o) k) ((x, .int (a + (i : Int) * d) w) :: Ls y) ((I, o) :: Ld y))
    (done : ∀ y, P n y → k .next (Ls y) (Ld y)) : IterW F c x body k (.ref r) ls ld := fun hz ok s st => by
  have hrs := (st.N _ hr).1
  refine wpAny_pyIter_range hrs hsmall ?_
  obtain ⟨m, Fm, hm⟩ := st.F
  have st2 : St F c (Ls c₀) (Ld c₀) s := ⟨⟨m, Fm, hm.1, fun y v e => hm.2 y v (h1 y v e)⟩, fun p hp => st.N p (h2.1 p hp), h2.2 st.nd, st.ge, st.dr, st.os⟩
  have Wk := Walks.range (prog := PySem.Challenge.rw_no0180_01.row.toRowW.prog) (w := c.w) (A := c.A F) rfl s.heap.objs.size a d n
  refine for_walkW Ls Ld P c₀ (k := k) hz ok Wk (next_is_new Fm) (.head _) (fun q => absurd Fm.ns.lt ((List.mem_singleton.mp q) ▸ Nat.lt_irrefl _)) (fun b hb => .inl (List.mem_singleton.mp hb)) (by show IsRangeIter _ _ _ _ _; rw [hn]; simpa using Heap.get?_push_size _ rfl) (fun i h hs => ⟨_, hs⟩) (st2.push _)
    (fun p hp e => absurd (st2.size p hp) (by rw [e]; exact Nat.lt_irrefl _)) hp (fun i y v o hi hv hP hof => ?_) done
  obtain ⟨w, rfl⟩ := hv
  exact turn i y w _ o hi hP hof
theorem IterW.range {σ : Type} {x : Str} {body : List Stmt} {r : Addr} {a b d : Int} {t u v : Tok} {n : Nat} (Ls : σ → Loc) (Ld : σ → Led) (P : Nat → σ → Prop) (c₀ : σ) {k : Flow → Loc → Led → Prop} (hr : (r, rangeO a b d t u v) ∈ ld) (hsmall : Builtin.Range.small a b d = true) (hn : Builtin.Range.rangeSize a b d = (n : Int))
    (h1 : KnowsL (Ls c₀) ls) (h2 : Sub2 (Ld c₀) ld) (hp : P 0 c₀)
    (turn : ∀ (i : Nat) (y : σ) w I o, i < n → P i y → (∀ p ∈ Ld y, p.1 ≠ I) → wpS F c 200 body (forK Ls Ld (P (i + 1)) (I, o) k) ((x, .int (a + (i : Int) * d) w) :: Ls y) ((I, o) :: Ld y))
    (done : ∀ y, P n y → k .next (Ls y) (Ld y)) : IterW F c x body k (.ref r) ls ld :=
  IterW.rangeK Ls Ld P c₀ hr hsmall hn h1.get h2 hp turn done
theorem W.extend {l b : Addr} {vs vs2 : List Value} {n n2 : Nat} (i : Nat) (h : ld[i]? = some (l, listOf vs.toArray n)) (j : Nat) (hb : ld[j]? = some (b, listOf vs2.toArray n2)) {k : Value → Loc → Led → Prop} (hlen : vs.length + vs2.length ≤ 100000)
    (hk : ∀ e, k .none ls (ld.set i (l, listOf (vs ++ vs2).toArray e))) : W F c (PySem.call (.builtin "list.extend") [.ref l, .ref b]) k ls ld := fun ok s st => by
  obtain ⟨m, Fm, hm⟩ := st.F
  exact extend_any Fm st.N (List.mem_of_getElem? hb) (fun e => upd_of st.nd h) hlen fun h' e F' N' => ⟨ls, _, ⟨⟨m, F', hm⟩, N', set_nd st.nd h, st.ge, st.dr, st.os⟩, hk e⟩
theorem W.sliceFrom {x y : Str} {xp yp sp pos : Pos} {l : Addr} {vs : List Value} {i : Int} {u : Tok} {k : Value → Loc → Led → Prop} (h1 : nmQ F.cs ls x = some (.ref l)) (h2 : nmQ F.cs ls y = some (.int i u)) (hl : ListIs c ld l vs) (hi : 0 ≤ i) (hi2 : i < 2 ^ 62) (hlen : vs.length ≤ 100000)
    (hk : ∀ D, (∀ p ∈ ld, p.1 < D) → k (.ref D) ls ((D, listOf (vs.drop i.toNat).toArray 0) :: ld)) : W F c (eval (.Subscript (.Name x xp) (.Slice (some (.Name y yp)) none none sp) pos) (F.env c.L)) k ls ld := fun ok s st => by
  refine Subscript_ ((W.name h1 (k := fun v ls' ld' => v = .ref l ∧ ls' = ls ∧ ld' = ld) ⟨rfl, rfl, rfl⟩).step ok st ?_)
  rintro v ls' ld' s' st' ⟨rfl, rfl, rfl⟩
  refine wpAny_Slice (wpAny_evalPart_some ((W.name h2 (k := fun v ls1 ld1 => v = .int i u ∧ ls1 = ls' ∧ ld1 = ld') ⟨rfl, rfl, rfl⟩).step ok st' ?_))
  rintro v ls1 ld1 s1 st1 ⟨rfl, rfl, rfl⟩
  refine wpAny_evalPart_none (wpAny_evalPart_none ?_)
  obtain ⟨m, Fm, hm⟩ := st1.F
  exact slice_from Fm st1.N (hl.at st1) hi hi2 hlen (fun D h' F' N' l1 => ⟨_, _, st1.alloc F' hm N' l1, hk D l1⟩) (by with_unfolding_all rfl) (fun _ => by with_unfolding_all rfl)
theorem W.mod {a b : Int} {t u : Tok} {k : Value → Loc → Led → Prop} (hb : b ≠ 0) (hk : ∀ t, k (.int (a.fmod b) t) ls ld) : W F c (binaryOp .Mod (.int a t) (.int b u)) k ls ld := fun ok s st => mod_int hb ⟨ls, ld, st.toks _, hk _⟩
theorem W.ilast {value slice : Expr} {a : Addr} {l : List Value} {u : Tok} {v : Value} {k : Value → Loc → Led → Prop} (h : ListIs c ld a l) (hne : 0 < l.length) (hx : l[l.length - 1]? = some v) (hk : k v ls ld) (hs : noSlice slice = true := by rfl) :
    W F c (subscriptTail value slice (.ref a) (.int (-1) u)) k ls ld := fun _ s st => item_listNeg (h.at st) hne hx ⟨ls, ld, st, hk⟩ (noSlice_ok hs _ _ _)
theorem Sub2.toEnd {a b : Led} {p : Addr × Obj} (h : b ++ [p] = a) : Sub2 a (p :: b) := h ▸ .perm (List.perm_append_comm (l₁ := b) (l₂ := [p]))
theorem nd_cons {D : Addr} {o : Obj} {ld : Led} (nd : (ld.map (·.1)).Nodup) (h : ∀ p ∈ ld, ∀ q ∈ [(D, o)], p.1 ≠ q.1) : (((D, o) :: ld).map (·.1)).Nodup := by
  rw [List.map_cons, List.nodup_cons]
  refine ⟨fun hm => ?_, nd⟩
  obtain ⟨q, hq, e⟩ := List.mem_map.mp hm
  exact h q hq _ (.head _) e
theorem W.call1 {f : Addr} {args : List Value} {D U : Nat} {pre : Heap → Prop} {post : Value → Led → Prop} (S : Spec c.w f args D U [] pre post) {k : Value → Loc → Led → Prop} (hpre : ∀ g, c.g.StaysIn g → (∀ p ∈ ld, g.get? p.1 = some p.2) → pre g)
    (hpost : ∀ v need', post v need' → ∃ x o, v = .ref x ∧ need' = [(x, o)]) (hk : ∀ x o, post (.ref x) [(x, o)] → k (.ref x) ls ((x, o) :: ld)) (hdu : (Nat.ble (F.D + 1) D && Nat.ble (F.U + 3) U) = true := by rfl) : W F c (PySem.call (.ref f) args) k ls ld :=
  W.call S ld hdu (fun _ hp => nomatch hp) (fun _ hp => hp) (fun _ _ _ _ hq => nomatch hq) (fun _ => hpre) fun nd v need' hd hp => by
    obtain ⟨x, o, rfl, rfl⟩ := hpost v need' hp
    exact ⟨(x, o) :: ld, fun _ h => h, nd_cons nd hd, hk x o hp⟩
end
end
end Mine
end
section
set_option Elab.async false
set_option maxRecDepth 100000
set_option maxHeartbeats 1000000
set_option linter.unusedVariables false
namespace Mine
noncomputable section
open PySem PySem.W PySem.Calls PyProof.Rows
section
variable {F : Fn} {c : Cx} {ls : Loc} {ld : Led}
theorem W.cont {pos : Pos} {k : Flow → Loc → Led → Prop} (h : k .cont ls ld) : W F c (exec (.Continue pos) (F.env c.L)) k ls ld := fun _ s st => wpAny_Continue ⟨ls, ld, st, h⟩
theorem W.eqTup {i j a b : Int} {t1 t2 t3 t4 : Tok} {p q : Addr} {k : Value → Loc → Led → Prop} (hp : TupIs c ld p [.int i t1, .int a t2]) (hq : TupIs c ld q [.int j t3, .int b t4]) (hk : k (.bool (decide (i = j ∧ a = b))) ls ld) (hu : Nat.ble ((c.A F).units + 65) cLine = true := by rfl) :
    W F c (compareOp .Eq (.ref p) (.ref q)) k ls ld := fun _ s st => tup2_eq (hp.at st) (hq.at st) (Nat.le_of_ble_eq_true hu) ⟨ls, ld, st, hk⟩
theorem W.unpack2 {x y : Str} {xp yp tp pos : Pos} {kk : Nat} {value : Expr} {k : Flow → Loc → Led → Prop}
    (h : wpE F c 20 value (fun v ls ld => ∃ t a b, v = .ref t ∧ TupIs c ld t [a, b] ∧ stoV F c x a (fun ls ld => stoV F c y b (fun ls ld => k .next ls ld) ls ld) ls ld) ls ld)
    (hs : swapsWithSole [.Tuple [.Name x xp, .Name y yp] kk tp] value pos.line (F.env c.L) = pure false := by rfl) (hw : swappedStores [.Tuple [.Name x xp, .Name y yp] kk tp] value (F.env c.L) = pure none := by rfl) :
    W F c (exec (.Assign [.Tuple [.Name x xp, .Name y yp] kk tp] value pos) (F.env c.L)) k ls ld := fun ok s st => by
  refine Assign_Tuple ((wpE_ok 20 _ _ _ _ h).step ok st ?_) hs hw
  rintro v ls1 ld1 s1 st1 ⟨t, a, b, rfl, ht, h1⟩
  obtain ⟨m, Fm, hm⟩ := st1.F
  refine unpackN_ Fm st1.N (ht.at st1) rfl rfl rfl fun h' F' N' => ?_
  have st2 : St F c ls1 ld1 { s1 with heap := h' } := ⟨⟨m, F', hm⟩, N', st1.nd, st1.ge, st1.dr, st1.os⟩
  refine assignInOrder_cons (PyProof.Rows.assign_Name (stoV_ok h1 ok st2 fun ls2 ld2 s2 st3 h2 => ?_))
  refine assignInOrder_cons (PyProof.Rows.assign_Name (stoV_ok h2 ok st3 fun ls3 ld3 s3 st4 h3 => ?_))
  exact assignInOrder_nil ⟨ls3, ld3, st4, h3⟩
theorem W.newSet {k : Value → Loc → Led → Prop} (hk : ∀ x so, (∀ p ∈ ld, p.1 < x) → so.SetObjOf (intKind PySem.Challenge.rw_no0180_01.row.toRowW.prog c.w) (fun _ => false) 0 → k (.ref x) ls ((x, so) :: ld)) : W F c (PySem.call (.type "set") []) k ls ld := fun ok s st => by
  obtain ⟨m, Fm, hm⟩ := st.F
  exact kse_new Fm st.N fun D h' led F' N' l1 hs _ => ⟨ls, _, st.alloc F' hm N' l1, hk D _ l1 hs⟩
theorem Meth.add {x : Addr} {so : Obj} {S : Int → Bool} {n : Nat} (i : Nat) (h : ld[i]? = some (x, so)) (hso : so.SetObjOf (intKind PySem.Challenge.rw_no0180_01.row.toRowW.prog c.w) S n) (hn : n < 100) : Meth F c (.ref x) (Str.ofString "add") (.builtin "set.add") [.ref x] ls ld :=
  fun pl Q E s ok st hq => kse_method st.N (updF_of st.nd h) hso (by unfold scanBound; omega) hq
theorem W.setAdd {x : Addr} {so : Obj} {S : Int → Bool} {n : Nat} {a : Int} {t : Tok} {k : Value → Loc → Led → Prop} (i : Nat) (h : ld[i]? = some (x, so)) (hso : so.SetObjOf (intKind PySem.Challenge.rw_no0180_01.row.toRowW.prog c.w) S n) (hn : n < 100)
    (hk : ∀ so', so'.SetObjOf (intKind PySem.Challenge.rw_no0180_01.row.toRowW.prog c.w) (fun k' => S k' || decide (k' = a)) (if S a then n else n + 1) → k .none ls (ld.set i (x, so'))) : W F c (PySem.call (.builtin "set.add") [.ref x, .int a t]) k ls ld := fun ok s st => by
  obtain ⟨m, Fm, hm⟩ := st.F
  exact kse_add Fm st.N (updF_of st.nd h) hso (by unfold scanBound; omega) (intKind_is _ _ _ _) rfl fun h' so' F' N' x => ⟨ls, _, ⟨⟨m, F', hm⟩, N', set_nd st.nd h, st.ge, st.dr, st.os⟩, hk so' x⟩
theorem W.inSet {x : Addr} {so : Obj} {S : Int → Bool} {n : Nat} {a : Int} {t : Tok} {k : Value → Loc → Led → Prop} (i : Nat) (h : ld[i]? = some (x, so)) (hso : so.SetObjOf (intKind PySem.Challenge.rw_no0180_01.row.toRowW.prog c.w) S n) (hn : n < 100)
    (hk : k (.bool (S a)) ls ld) : W F c (compareOp .In (.int a t) (.ref x)) k ls ld := fun ok s st => kse_in st.N (updF_of st.nd h) hso (by unfold scanBound; omega) (intKind_is _ _ _ _) rfl ⟨ls, ld, st.toks _, hk⟩
theorem W.setAttr {x name : Str} {xp ap pos : Pos} {e : Expr} {k : Flow → Loc → Led → Prop} (h : wpE F c 20 e (fun v ls ld => namW F c x (fun o => W F c (PySem.setAttr o name v) (fun _ => k .next)) ls ld) ls ld)
    (hs : swapsWith e (some (.Attribute (.Name x xp) name ap)) pos.line (F.env c.L) = pure false := by rfl) : W F c (exec (.Assign [.Attribute (.Name x xp) name ap] e pos) (F.env c.L)) k ls ld := fun ok s st =>
  plainObj_wpAny_Assign_Attribute ((wpE_ok 20 _ _ _ _ h).step ok st fun v ls1 ld1 s1 st1 h1 => (namW_ok (pos := xp) h1).step ok st1 fun o ls2 ld2 s2 st2 h2 => h2 ok s2 st2) hs
noncomputable def setB (P : Params) (C : Addr) (name : Str) : Bool := decide (findIn (K0 P) (.ref C) "__setattr__" = some (some (.builtin "object.__setattr__"))) && plainOver (K0 P) C && decide (takerIn (K0 P) C name = some none) && hasDictIn (K0 P) C
noncomputable def tabS : List (Addr × Str) := [(399, Str.ofString "span"), (399, Str.ofString "met"), (154, Str.ofString "texts"), (154, Str.ofString "atom_numbers"), (154, Str.ofString "functors"), (154, Str.ofString "functor_numbers"),
  (373, Str.ofString "symbols"), (373, Str.ofString "max_heap"), (373, Str.ofString "heap"), (373, Str.ofString "stack"), (373, Str.ofString "trail"), (373, Str.ofString "hb"), (373, Str.ofString "bb")]
theorem tabS_ok {P : Params} {C : Addr} {name : Str} (h : tabS.contains (C, name) = true) : setB P C name = true := by
  have e : tabS.all (fun p => setB P p.1 p.2) = true := by kernel_rfl
  exact List.all_eq_true.mp e (C, name) (List.contains_iff_mem.mp h)
theorem putL_len (name : Str) (hsh : Int) (key v : Value) : ∀ es : List DictEntry, (putL name hsh key v es).length ≤ es.length + 1
  | [] => Nat.le_refl _
  | e :: r => by
    unfold putL
    split
    · exact Nat.le_succ _
    · exact Nat.succ_le_succ (putL_len name hsh key v r)
theorem W.setIns {x C dx : Addr} {es : List DictEntry} {n : Nat} {name : Str} {v : Value} {k : Unit → Loc → Led → Prop} (j : Nat) (hj : ld[j]? = some (dx, dictOf es n)) (hI : Has c ld x (instObj C dx)) (ht : tabS.contains (C, name) = true) (hl : (getL name es).isSome = true)
    (hk : ∀ t, k () ls (ld.set j (dx, dictOf (putL name (PyData.keyHash c.w.params name) (.str name t) v es) (putN name es n)))) (hz : Nat.ble es.length 900 = true := by rfl) : W F c (PySem.setAttr (.ref x) name v) k ls ld := fun ok s st => by
  obtain ⟨m, Fm, hm⟩ := st.F
  have hb := tabS_ok (P := c.w.params) ht
  unfold setB at hb
  simp only [Bool.and_eq_true, decide_eq_true_eq] at hb
  have I : InstAt s.heap x ⟨.ref C, some dx, .plain, #[]⟩ C (some (dictOf es n)) := ⟨hI.get st, rfl, rfl, (st.N _ (List.mem_of_getElem? hj)).1⟩
  exact set_dict Fm ok.X st.N I rfl hb.1.1.1 hb.1.1.2 hb.1.2 hb.2 hl rfl (upd_of st.nd hj) (Nat.le_trans (putL_len ..) (Nat.le_trans (Nat.succ_le_succ (Nat.le_of_ble_eq_true hz)) (by decide))) fun h' F' N' => ⟨ls, _, ⟨⟨m, F', hm⟩, N', set_nd st.nd hj, st.ge, st.dr, st.os⟩, hk _⟩
noncomputable def makB (P : Params) (C f : Addr) : Bool := makesIn (K0 P) C && decide (findIn (K0 P) (.ref C) "__init__" = some (some (.ref f))) && decide (typeIn (K0 P) (.ref f) = some (.type "function"))
noncomputable def tabC : List (Addr × Addr) := [(399, 389), (154, 81), (373, 194)]
theorem tabC_ok {P : Params} {C f : Addr} (h : tabC.contains (C, f) = true) : makB P C f = true := by
  have e : tabC.all (fun p => makB P p.1 p.2) = true := by kernel_rfl
  exact List.all_eq_true.mp e (C, f) (List.contains_iff_mem.mp h)
theorem nd_app {a b : Led} (ha : (a.map (·.1)).Nodup) (hb : (b.map (·.1)).Nodup) (h : ∀ p ∈ b, ∀ q ∈ a, p.1 ≠ q.1) : ((a ++ b).map (·.1)).Nodup := by
  rw [List.map_append]
  refine List.nodup_append.mpr ⟨ha, hb, fun x hx y hy e => ?_⟩
  obtain ⟨p, hp, rfl⟩ := List.mem_map.mp hx
  obtain ⟨q, hq, rfl⟩ := List.mem_map.mp hy
  exact h q hq p hp e.symm
theorem W.make {C f : Addr} {rest : List Value} {D U : Nat} {pre : Heap → Prop} {post : Addr → Addr → Value → Led → Prop} (S : ∀ x dx, x ≠ dx → Spec c.w f (.ref x :: rest) D U [(x, instObj C dx), (dx, emptyDict)] pre (fun v n => v = .none ∧ post x dx v n)) {k : Value → Loc → Led → Prop}
    (ht : tabC.contains (C, f) = true) (hdu : (Nat.ble (F.D + 9) D && Nat.ble (F.U + 11) U) = true) (hpre : ∀ g, c.g.StaysIn g → (∀ p ∈ ld, g.get? p.1 = some p.2) → pre g)
    (hk : ∀ x dx need', post x dx .none need' → (need'.map (·.1)).Nodup ∧ k (.ref x) ls (need' ++ ld)) : W F c (PySem.call (.ref C) rest) k ls ld := fun ok s st => by
  obtain ⟨m, Fm, hm⟩ := st.F
  have hb := tabC_ok (P := c.w.params) ht
  unfold makB at hb
  simp only [Bool.and_eq_true, decide_eq_true_eq] at hb
  exact Spec.make S ok.B Fm ok.X ok.T st.N rfl F.hk hb.1.1 hb.1.2 hb.2 (Nat.le_of_ble_eq_true (Bool.and_eq_true_iff.mp hdu).1) (Nat.le_of_ble_eq_true (Bool.and_eq_true_iff.mp hdu).2) hpre
    fun x dx h' tk need' _ F' N' hd hp => ⟨ls, _, ⟨⟨m, F', hm⟩, N', nd_app (hk x dx need' hp).1 st.nd hd, st.ge, st.dr, st.os⟩, (hk x dx need' hp).2⟩
end
end
end Mine
end
section
set_option linter.unusedVariables false
namespace Mine
noncomputable def mgN (u : Bool) (f : Nat → Nat → Int) : List Nat → List Nat → List Nat
  | [], r => r
  | a :: l, [] => a :: l
  | a :: l, b :: r => if f a b ≤ 0 then (if f a b = 0 ∧ u = true then a :: mgN u f l r else a :: mgN u f l (b :: r)) else b :: mgN u f (a :: l) r
termination_by l r => l.length + r.length
structure Ord (f : Nat → Nat → Int) : Prop where
  anti : ∀ i j, f j i = - f i j
  trans : ∀ i j k, f i j ≤ 0 → f j k ≤ 0 → f i k ≤ 0
theorem Ord.self {f : Nat → Nat → Int} (h : Ord f) (i : Nat) : f i i = 0 := by have := h.anti i i; omega
theorem Ord.lt_le {f : Nat → Nat → Int} (h : Ord f) {i j k : Nat} (h1 : f i j < 0) (h2 : f j k ≤ 0) : f i k < 0 := by
  have h3 := h.trans i j k (by omega) h2
  by_cases h4 : f i k = 0
  · have h5 : f k i ≤ 0 := by rw [h.anti i k]; omega
    have h6 := h.trans j k i h2 h5
    rw [h.anti i j] at h6; omega
  · omega
theorem Ord.le_lt {f : Nat → Nat → Int} (h : Ord f) {i j k : Nat} (h1 : f i j ≤ 0) (h2 : f j k < 0) : f i k < 0 := by
  have h3 := h.trans i j k h1 (by omega)
  by_cases h4 : f i k = 0
  · have h5 : f k i ≤ 0 := by rw [h.anti i k]; omega
    have h6 := h.trans k i j h5 h1
    rw [h.anti j k] at h6; omega
  · omega
noncomputable def RR (u : Bool) (f : Nat → Nat → Int) (i j : Nat) : Prop := f i j < 0 ∨ (u = false ∧ f i j = 0 ∧ i < j)
theorem RR.le {u : Bool} {f : Nat → Nat → Int} {i j : Nat} (h : RR u f i j) : f i j ≤ 0 := by rcases h with h | ⟨_, h, _⟩ <;> omega
theorem mgN_mem {u : Bool} {f : Nat → Nat → Int} (hf : Ord f) : ∀ (l r : List Nat), l.Pairwise (RR u f) → r.Pairwise (RR u f) → ∀ i, i ∈ mgN u f l r ↔ i ∈ l ∨ (i ∈ r ∧ (u = true → ∀ x ∈ l, f x i ≠ 0)) := by
  intro l r
  induction l, r using mgN.induct u f with
  | case1 r => intro _ _ i; simp [mgN]
  | case2 a l => intro _ _ i; simp [mgN]
  | case3 a l b r hle hu ih =>
    intro hl hr i
    have hl' := List.pairwise_cons.mp hl
    have hr' := List.pairwise_cons.mp hr
    rw [mgN, if_pos hle, if_pos hu, List.mem_cons, ih hl'.2 hr'.2 i]
    constructor
    · rintro (h | h | ⟨h, h2⟩)
      · exact .inl (h ▸ .head _)
      · exact .inl (.tail _ h)
      · refine .inr ⟨.tail _ h, fun _ x hx => ?_⟩
        rcases List.mem_cons.mp hx with rfl | hx
        · have h3 : f b i < 0 := by
            rcases hr'.1 i h with h3 | ⟨h3, _⟩
            · exact h3
            · rw [hu.2] at h3; cases h3
          have := hf.le_lt hle h3; omega
        · exact h2 hu.2 x hx
    · rintro (h | ⟨h, h2⟩)
      · rcases List.mem_cons.mp h with h | h
        · exact .inl h
        · exact .inr (.inl h)
      · rcases List.mem_cons.mp h with rfl | h
        · exact absurd hu.1 (h2 hu.2 a (.head _))
        · exact .inr (.inr ⟨h, fun _ x hx => h2 hu.2 x (.tail _ hx)⟩)
  | case4 a l b r hle hu ih =>
    intro hl hr i
    have hl' := List.pairwise_cons.mp hl
    have hr' := List.pairwise_cons.mp hr
    rw [mgN, if_pos hle, if_neg hu, List.mem_cons, ih hl'.2 hr i]
    have key : u = true → i ∈ b :: r → f a i ≠ 0 := fun h1 h => by
      have h2 : f a b < 0 := by
        have : f a b ≠ 0 := fun e => hu ⟨e, h1⟩
        omega
      rcases List.mem_cons.mp h with rfl | h
      · omega
      · have := hf.lt_le h2 (hr'.1 i h).le; omega
    constructor
    · rintro (h | h | ⟨h, h2⟩)
      · exact .inl (h ▸ .head _)
      · exact .inl (.tail _ h)
      · refine .inr ⟨h, fun h1 x hx => ?_⟩
        rcases List.mem_cons.mp hx with rfl | hx
        · exact key h1 h
        · exact h2 h1 x hx
    · rintro (h | ⟨h, h2⟩)
      · rcases List.mem_cons.mp h with h | h
        · exact .inl h
        · exact .inr (.inl h)
      · exact .inr (.inr ⟨h, fun h1 x hx => h2 h1 x (.tail _ hx)⟩)
  | case5 a l b r hle ih =>
    intro hl hr i
    have hl' := List.pairwise_cons.mp hl
    have hr' := List.pairwise_cons.mp hr
    rw [mgN, if_neg hle, List.mem_cons, ih hl hr'.2 i]
    have key : ∀ x ∈ a :: l, f x b ≠ 0 := fun x hx => by
      rcases List.mem_cons.mp hx with rfl | hx
      · omega
      · intro e
        have := hf.trans a x b (hl'.1 x hx).le (by omega)
        omega
    constructor
    · rintro (h | h | ⟨h, h2⟩)
      · exact .inr ⟨h ▸ .head _, fun _ => h ▸ key⟩
      · exact .inl h
      · exact .inr ⟨.tail _ h, h2⟩
    · rintro (h | ⟨h, h2⟩)
      · exact .inr (.inl h)
      · rcases List.mem_cons.mp h with h | h
        · exact .inl h
        · exact .inr (.inr ⟨h, h2⟩)
theorem mgN_sorted {u : Bool} {f : Nat → Nat → Int} (hf : Ord f) : ∀ (l r : List Nat), l.Pairwise (RR u f) → r.Pairwise (RR u f) → (∀ x ∈ l, ∀ y ∈ r, x < y) → (mgN u f l r).Pairwise (RR u f) := by
  intro l r
  induction l, r using mgN.induct u f with
  | case1 r => intro _ h _; simpa [mgN] using h
  | case2 a l => intro h _ _; simpa [mgN] using h
  | case3 a l b r hle hu ih =>
    intro hl hr hx
    have hl' := List.pairwise_cons.mp hl
    have hr' := List.pairwise_cons.mp hr
    rw [mgN, if_pos hle, if_pos hu]
    refine List.pairwise_cons.mpr ⟨fun i hi => ?_, ih hl'.2 hr'.2 fun x h y h' => hx x (.tail _ h) y (.tail _ h')⟩
    rcases (mgN_mem hf l r hl'.2 hr'.2 i).mp hi with h | ⟨h, _⟩
    · exact hl'.1 i h
    · have h3 : f b i < 0 := by
        rcases hr'.1 i h with h3 | ⟨h3, _⟩
        · exact h3
        · rw [hu.2] at h3; cases h3
      exact .inl (hf.le_lt hle h3)
  | case4 a l b r hle hu ih =>
    intro hl hr hx
    have hl' := List.pairwise_cons.mp hl
    have hr' := List.pairwise_cons.mp hr
    rw [mgN, if_pos hle, if_neg hu]
    refine List.pairwise_cons.mpr ⟨fun i hi => ?_, ih hl'.2 hr fun x h y h' => hx x (.tail _ h) y h'⟩
    rcases (mgN_mem hf l (b :: r) hl'.2 hr i).mp hi with h | ⟨h, _⟩
    · exact hl'.1 i h
    · have h2 : f a i ≤ 0 := by
        rcases List.mem_cons.mp h with rfl | h
        · exact hle
        · exact hf.trans a b i hle (hr'.1 i h).le
      by_cases h3 : f a i = 0
      · refine .inr ⟨?_, h3, hx a (.head _) i h⟩
        cases u with
        | false => rfl
        | true =>
          exfalso
          have h4 : f a b < 0 := by
            have : f a b ≠ 0 := fun e => hu ⟨e, rfl⟩
            omega
          rcases List.mem_cons.mp h with rfl | h
          · omega
          · have := hf.lt_le h4 (hr'.1 i h).le; omega
      · exact .inl (by omega)
  | case5 a l b r hle ih =>
    intro hl hr hx
    have hl' := List.pairwise_cons.mp hl
    have hr' := List.pairwise_cons.mp hr
    rw [mgN, if_neg hle]
    refine List.pairwise_cons.mpr ⟨fun i hi => ?_, ih hl hr'.2 fun x h y h' => hx x h y (.tail _ h')⟩
    have h4 : f b a < 0 := by rw [hf.anti a b]; omega
    rcases (mgN_mem hf (a :: l) r hl hr'.2 i).mp hi with h | ⟨h, _⟩
    · rcases List.mem_cons.mp h with rfl | h
      · exact .inl h4
      · exact .inl (hf.lt_le h4 (hl'.1 i h).le)
    · exact hr'.1 i h
structure Blk (u : Bool) (f : Nat → Nat → Int) (lo hi : Nat) (l : List Nat) : Prop where
  mem : ∀ i, i ∈ l ↔ (lo ≤ i ∧ i < hi ∧ (u = true → ∀ j, lo ≤ j → j < i → f j i ≠ 0))
  sorted : l.Pairwise (RR u f)
theorem Blk.rep {f : Nat → Nat → Int} {lo hi : Nat} {l : List Nat} (hf : Ord f) (h : Blk true f lo hi l) : ∀ i, lo ≤ i → i < hi → ∃ x ∈ l, f x i = 0 := by
  intro i
  induction i using Nat.strongRecOn with
  | ind i ih =>
    intro h1 h2
    by_cases hm : i ∈ l
    · exact ⟨i, hm, hf.self i⟩
    · have : ¬ ∀ j, lo ≤ j → j < i → f j i ≠ 0 := fun q => hm ((h.mem i).mpr ⟨h1, h2, fun _ => q⟩)
      obtain ⟨j, hj⟩ := Classical.not_forall.mp this
      obtain ⟨hj1, hj⟩ := Classical.not_imp.mp hj
      obtain ⟨hj2, hj⟩ := Classical.not_imp.mp hj
      have hj3 : f j i = 0 := Decidable.not_not.mp hj
      obtain ⟨x, hx, hx2⟩ := ih j hj2 hj1 (by omega)
      refine ⟨x, hx, ?_⟩
      have e1 := hf.trans x j i (by omega) (by omega)
      have e2 := hf.trans i j x (by rw [hf.anti j i]; omega) (by rw [hf.anti x j]; omega)
      rw [hf.anti x i] at e2
      omega
theorem Blk.merge {u : Bool} {f : Nat → Nat → Int} {lo mid hi : Nat} {a b : List Nat} (hf : Ord f) (h1 : Blk u f lo mid a) (h2 : Blk u f mid hi b) (hl : lo ≤ mid) (hm : mid ≤ hi) : Blk u f lo hi (mgN u f a b) where
  mem := fun i => by
    rw [mgN_mem hf a b h1.sorted h2.sorted, h1.mem, h2.mem]
    constructor
    · rintro (⟨q1, q2, q3⟩ | ⟨⟨q1, q2, q3⟩, q4⟩)
      · exact ⟨q1, by omega, q3⟩
      · refine ⟨by omega, q2, fun hu j hj1 hj2 => ?_⟩
        by_cases hj : j < mid
        · subst hu
          obtain ⟨x, hx, hx2⟩ := h1.rep hf j hj1 hj
          intro e
          refine q4 rfl x hx ?_
          have e1 := hf.trans x j i (by omega) (by omega)
          have e2 := hf.trans i j x (by rw [hf.anti j i]; omega) (by rw [hf.anti x j]; omega)
          rw [hf.anti x i] at e2
          omega
        · exact q3 hu j (by omega) hj2
    · rintro ⟨q1, q2, q3⟩
      by_cases hi : i < mid
      · exact .inl ⟨q1, hi, q3⟩
      · refine .inr ⟨⟨by omega, q2, fun hu j hj1 hj2 => q3 hu j (by omega) hj2⟩, fun hu x hx => ?_⟩
        have := (h1.mem x).mp hx
        exact q3 hu x this.1 (by omega)
  sorted := mgN_sorted hf a b h1.sorted h2.sorted fun x hx y hy => by
    have := (h1.mem x).mp hx
    have := (h2.mem y).mp hy
    omega
inductive Chain (u : Bool) (f : Nat → Nat → Int) : Nat → List (List Nat) → Nat → Prop
  | nil (lo : Nat) : Chain u f lo [] lo
  | cons {lo mid hi : Nat} {a : List Nat} {L : List (List Nat)} : lo ≤ mid → Blk u f lo mid a → Chain u f mid L hi → Chain u f lo (a :: L) hi
theorem Chain.snoc {u : Bool} {f : Nat → Nat → Int} {lo mid hi : Nat} {L : List (List Nat)} {a : List Nat} (h : Chain u f lo L mid) (hm : mid ≤ hi) (hb : Blk u f mid hi a) : Chain u f lo (L ++ [a]) hi := by
  induction h with
  | nil => exact .cons hm hb (.nil _)
  | cons h1 h2 _ ih => exact .cons h1 h2 (ih hm hb)
theorem Chain.one {u : Bool} {f : Nat → Nat → Int} {lo hi : Nat} {a : List Nat} (h : Chain u f lo [a] hi) : Blk u f lo hi a := by
  cases h with
  | cons h1 h2 h3 => cases h3; exact h2
theorem Blk.single (u : Bool) {f : Nat → Nat → Int} (i : Nat) : Blk u f i (i + 1) [i] where
  mem := fun j => by
    rw [List.mem_singleton]
    constructor
    · rintro rfl; exact ⟨Nat.le_refl _, Nat.lt_succ_self _, fun _ k h1 h2 => by omega⟩
    · rintro ⟨h1, h2, _⟩; omega
  sorted := List.pairwise_singleton _ _
theorem Blk.empty (u : Bool) {f : Nat → Nat → Int} : Blk u f 0 0 [] where
  mem := fun j => ⟨fun h => (nomatch h), fun h => absurd h.2.1 (Nat.not_lt_zero _)⟩
  sorted := .nil
theorem sorted_unique {R : Nat → Nat → Prop} (irr : ∀ i, ¬ R i i) (asy : ∀ i j, R i j → ¬ R j i) : ∀ {l l' : List Nat}, l.Pairwise R → l'.Pairwise R → (∀ i, i ∈ l ↔ i ∈ l') → l = l'
  | [], [], _, _, _ => rfl
  | [], b :: l', _, _, h => absurd ((h b).mpr (.head _)) (by simp)
  | a :: l, [], _, _, h => absurd ((h a).mp (.head _)) (by simp)
  | a :: l, b :: l', h1, h2, h => by
    have g1 := List.pairwise_cons.mp h1
    have g2 := List.pairwise_cons.mp h2
    have e : a = b := by
      rcases List.mem_cons.mp ((h a).mp (.head _)) with q | q
      · exact q
      · rcases List.mem_cons.mp ((h b).mpr (.head _)) with q' | q'
        · exact q'.symm
        · exact absurd (g2.1 a q) (asy _ _ (g1.1 b q'))
    subst e
    have : ∀ i, i ∈ l ↔ i ∈ l' := fun i => by
      constructor
      · intro hi
        rcases List.mem_cons.mp ((h i).mp (.tail _ hi)) with q | q
        · subst q; exact absurd (g1.1 _ hi) (irr _)
        · exact q
      · intro hi
        rcases List.mem_cons.mp ((h i).mpr (.tail _ hi)) with q | q
        · subst q; exact absurd (g2.1 _ hi) (irr _)
        · exact q
    rw [sorted_unique irr asy g1.2 g2.2 this]
theorem Blk.unique {u : Bool} {f : Nat → Nat → Int} {lo hi : Nat} {l l' : List Nat} (hf : Ord f) (h : Blk u f lo hi l) (h' : Blk u f lo hi l') : l = l' :=
  sorted_unique (R := RR u f) (fun i q => by
    rcases q with q | ⟨_, _, q⟩
    · rw [hf.self] at q; omega
    · omega) (fun i j q q' => by
    have e := hf.anti i j
    rcases q with q | ⟨_, q, q2⟩ <;> rcases q' with q' | ⟨_, q', q2'⟩ <;> omega) h.sorted h'.sorted fun i => (h.mem i).trans (h'.mem i).symm
end Mine
end
section
set_option Elab.async false
set_option maxRecDepth 100000
set_option maxHeartbeats 1000000
set_option linter.unusedVariables false
namespace Mine
open PySem PySem.W PySem.Calls PyProof.Rows
noncomputable def rankOf (tag : Int) : Int := if tag = 5 then 1 else if tag = 4 then 2 else if tag = 2 ∨ tag = 3 then 3 else 0
noncomputable def txtOf (n : Int) : Str := if n = 0 then Str.ofString "[]" else Str.ofString "+"
noncomputable def akey (n : Int) : Int := if n = 0 then 1 else 0
inductive Tm where
  | var (k : Nat)
  | int (i : Int)
  | atom (n : Int)
  | node (f : Bool) (p : Nat) (a b : Tm)
noncomputable def tagOf : Tm → Int
  | .var _ => 0
  | .int _ => 5
  | .atom _ => 4
  | .node true _ _ _ => 3
  | .node false _ _ _ => 2
noncomputable def valOf : Tm → Int
  | .var k => k
  | .int i => i
  | .atom n => n
  | .node _ p _ _ => p
noncomputable def At (g : Heap) (xs : List Value) : Tm → Addr → Prop
  | .var k, c => (∃ t1 t2, IsTup g c [.int 0 t1, .int k t2].toArray) ∧ xs[k]? = some (.ref c) ∧ k < 2 ^ 62
  | .int i, c => ∃ t1 t2, IsTup g c [.int 5 t1, .int i t2].toArray
  | .atom n, c => (∃ t1 t2, IsTup g c [.int 4 t1, .int n t2].toArray) ∧ (n = 0 ∨ n = 4)
  | .node true p a b, c => (∃ t1 t2, IsTup g c [.int 3 t1, .int p t2].toArray) ∧ p < 2 ^ 62 ∧ ∃ c1 c2, xs[p]? = some (.ref c1) ∧ xs[p + 1]? = some (.ref c2) ∧ At g xs a c1 ∧ At g xs b c2
  | .node false p a b, c => (∃ t1 t2, IsTup g c [.int 2 t1, .int p t2].toArray) ∧ p < 2 ^ 62 ∧ ∃ cf c1 c2, xs[p]? = some (.ref cf) ∧ (∃ t1 t2, IsTup g cf [.int 6 t1, .int 13 t2].toArray) ∧ xs[p + 1]? = some (.ref c1) ∧ xs[p + 2]? = some (.ref c2) ∧ At g xs a c1 ∧ At g xs b c2
theorem At.tup {g : Heap} {xs : List Value} {t : Tm} {c : Addr} (h : At g xs t c) : ∃ t1 t2, IsTup g c [.int (tagOf t) t1, .int (valOf t) t2].toArray := by
  cases t with
  | var k => exact h.1
  | int i => exact h
  | atom n => exact h.1
  | node f p a b => cases f <;> exact h.1
theorem At.keeps {g h : Heap} {xs : List Value} {t : Tm} : ∀ {c : Addr}, At g xs t c → (∀ b o, g.get? b = some o → h.get? b = some o) → At h xs t c := by
  induction t with
  | var k => intro c x q; exact ⟨let ⟨t1, t2, e⟩ := x.1; ⟨t1, t2, e.keeps q⟩, x.2⟩
  | int i => intro c x q; exact let ⟨t1, t2, e⟩ := x; ⟨t1, t2, e.keeps q⟩
  | atom n => intro c x q; exact ⟨let ⟨t1, t2, e⟩ := x.1; ⟨t1, t2, e.keeps q⟩, x.2⟩
  | node f p a b iha ihb =>
    intro c x q
    cases f with
    | true =>
      obtain ⟨⟨t1, t2, e⟩, hp, c1, c2, e1, e2, xa, xb⟩ := x
      exact ⟨⟨t1, t2, e.keeps q⟩, hp, c1, c2, e1, e2, iha xa q, ihb xb q⟩
    | false =>
      obtain ⟨⟨t1, t2, e⟩, hp, cf, c1, c2, e0, ⟨t3, t4, e'⟩, e1, e2, xa, xb⟩ := x
      exact ⟨⟨t1, t2, e.keeps q⟩, hp, cf, c1, c2, e0, ⟨t3, t4, e'.keeps q⟩, e1, e2, iha xa q, ihb xb q⟩
noncomputable def compat : Tm → Tm → Prop
  | .node f _ a b, .node f' _ a' b' => f = f' ∧ compat a a' ∧ compat b b'
  | _, _ => True
noncomputable def topsC (t t' : Tm) : Int := if sg (rankOf (tagOf t)) (rankOf (tagOf t')) ≠ 0 then sg (rankOf (tagOf t)) (rankOf (tagOf t')) else match t, t' with
  | .var k, .var k' => sg k k'
  | .int i, .int j => sg i j
  | .atom n, .atom m => sg (akey n) (akey m)
  | _, _ => 0
structure SyOk (g : Heap) (txs fns : List Value) : Prop where
  t : ∀ n : Int, n = 0 ∨ n = 4 → ∃ t, txs[n.toNat]? = some (.str (txtOf n) t)
  f : ∃ q t1 t2, fns[13]? = some (.ref q) ∧ IsTup g q [.int 3 t1, .int 2 t2].toArray
theorem SyOk.keeps {g h : Heap} {txs fns : List Value} (x : SyOk g txs fns) (k : ∀ b o, g.get? b = some o → h.get? b = some o) : SyOk h txs fns :=
  ⟨x.t, let ⟨q, t1, t2, e, y⟩ := x.f; ⟨q, t1, t2, e, y.keeps k⟩⟩
theorem sg_zero {a b : Int} : sg a b = 0 ↔ a = b := by unfold sg; split <;> (try split) <;> omega
noncomputable def Tm.size : Tm → Nat
  | .node _ _ a b => a.size + b.size + 1
  | _ => 1
theorem Tm.size_pos : ∀ t : Tm, 0 < t.size
  | .var _ => Nat.zero_lt_one
  | .int _ => Nat.zero_lt_one
  | .atom _ => Nat.zero_lt_one
  | .node _ _ a b => Nat.succ_pos _
noncomputable def cmpT : Tm → Tm → Int
  | .node _ _ a b, .node _ _ a' b' => if cmpT a a' ≠ 0 then cmpT a a' else cmpT b b'
  | t, t' => topsC t t'
noncomputable def nums (sp : Int) : Tm → Tm → List Int
  | .node _ p a b, .node _ p' a' b' => (p * sp + p') :: (nums sp a a' ++ nums sp b b')
  | _, _ => []
theorem sg_self (a : Int) : sg a a = 0 := sg_zero.mpr rfl
theorem topsC_self (t : Tm) : topsC t t = 0 := by
  unfold topsC
  rw [if_neg (by simp [sg_self])]
  cases t <;> simp [sg_self]
theorem cmpT_self (t : Tm) : cmpT t t = 0 := by
  induction t with
  | node f p a b iha ihb => simp [cmpT, iha, ihb]
  | _ => exact topsC_self _
theorem isTup_inj {h : Heap} {c : Addr} {i i' v v' : Int} {t1 t2 t3 t4 : Tok} (x : IsTup h c [Value.int i t1, .int v t2].toArray) (y : IsTup h c [Value.int i' t3, .int v' t4].toArray) : i = i' ∧ v = v' := by
  obtain ⟨o, ho, _, n, hd⟩ := x
  obtain ⟨o', ho', _, n', hd'⟩ := y
  rw [ho] at ho'; cases ho'
  rw [hd] at hd'
  simp at hd'
  exact ⟨hd'.1.1.1, hd'.1.2.1⟩
theorem At.det {g : Heap} {xs : List Value} : ∀ {t t' : Tm} {c c' : Addr}, At g xs t c → At g xs t' c' → tagOf t = tagOf t' → valOf t = valOf t' → t = t' := by
  intro t
  induction t with
  | var k => intro t' c c' _ _ h1 h2; cases t' with
    | var k' => (simp only [valOf] at h2); exact congrArg Tm.var (by omega)
    | node f p a b => cases f <;> simp [tagOf] at h1
    | _ => simp [tagOf] at h1
  | int k => intro t' c c' _ _ h1 h2; cases t' with
    | int k' => simp [valOf] at h2; rw [h2]
    | node f p a b => cases f <;> simp [tagOf] at h1
    | _ => simp [tagOf] at h1
  | atom k => intro t' c c' _ _ h1 h2; cases t' with
    | atom k' => simp [valOf] at h2; rw [h2]
    | node f p a b => cases f <;> simp [tagOf] at h1
    | _ => simp [tagOf] at h1
  | node f p a b iha ihb =>
    intro t' c c' x y h1 h2
    have same : ∀ {u u' : Tm} {d : Addr}, At g xs u d → At g xs u' d → tagOf u = tagOf u' ∧ valOf u = valOf u' := fun hu hu' => by
      obtain ⟨_, _, e⟩ := hu.tup
      obtain ⟨_, _, e'⟩ := hu'.tup
      exact isTup_inj e e'
    cases t' with
    | node f' p' a' b' =>
      have hf : f = f' := by cases f <;> cases f' <;> simp [tagOf] at h1 <;> rfl
      subst hf
      have hp : p = p' := by (simp only [valOf] at h2); omega
      subst hp
      cases f with
      | true =>
        obtain ⟨_, _, c1, c2, e1, e2, xa, xb⟩ := x
        obtain ⟨_, _, d1, d2, e3, e4, ya, yb⟩ := y
        rw [e1] at e3; rw [e2] at e4; cases e3; cases e4
        obtain ⟨q1, q2⟩ := same xa ya
        obtain ⟨q3, q4⟩ := same xb yb
        rw [iha xa ya q1 q2, ihb xb yb q3 q4]
      | false =>
        obtain ⟨_, _, cf, c1, c2, _, _, e1, e2, xa, xb⟩ := x
        obtain ⟨_, _, df, d1, d2, _, _, e3, e4, ya, yb⟩ := y
        rw [e1] at e3; rw [e2] at e4; cases e3; cases e4
        obtain ⟨q1, q2⟩ := same xa ya
        obtain ⟨q3, q4⟩ := same xb yb
        rw [iha xa ya q1 q2, ihb xb yb q3 q4]
    | _ => cases f <;> simp [tagOf] at h1
theorem At.deref {g : Heap} {xs : List Value} {t : Tm} {c : Addr} (x : At g xs t c) : tagOf t ≠ 1 ∧ (tagOf t = 0 → 0 ≤ valOf t ∧ valOf t < 2 ^ 63 ∧ xs[(valOf t).toNat]? = some (.ref c)) := by
  cases t with
  | var k =>
    refine ⟨by simp [tagOf], fun _ => ⟨?_, ?_, ?_⟩⟩
    · simp [valOf]
    · have := x.2.2; simp [valOf]; omega
    · simpa [valOf] using x.2.1
  | node f p a b => cases f <;> exact ⟨by simp [tagOf], fun h => by simp [tagOf] at h⟩
  | _ => exact ⟨by simp [tagOf], fun h => by simp [tagOf] at h⟩
structure Ent where
  q : Addr
  c : Addr
  c' : Addr
  n : Nat
  t : Tm
  t' : Tm
noncomputable def Ent.row (r : Ent) : Addr × Obj := (r.q, { cls := .type "tuple", data := .seq #[.ref r.c, .ref r.c'] r.n })
noncomputable def lexC : List Ent → Int
  | [] => 0
  | r :: rest => if cmpT r.t r.t' ≠ 0 then cmpT r.t r.t' else lexC rest
noncomputable def total (l : List Ent) : Nat := (l.map fun r => r.t.size).sum
noncomputable def numsL (sp : Int) (l : List Ent) : List Int := l.flatMap fun r => nums sp r.t r.t'
structure CSt where
  ents : List Ent
  so : Obj
  S : Int → Bool
  m : Nat
  e : Nat
theorem len_total : ∀ l : List Ent, l.length ≤ total l
  | [] => Nat.le_refl _
  | r :: l => by
    have h := len_total l
    have h2 := r.t.size_pos
    simp only [total, List.map_cons, List.sum_cons, List.length_cons] at h ⊢
    omega
structure CInv (w : World) (g : Heap) (xs : List Value) (wk sa dp ps : Addr) (C : Int) (c : CSt) : Prop where
  ok : ∀ r ∈ c.ents, At g xs r.t r.c ∧ At g xs r.t' r.c' ∧ compat r.t r.t'
  off : ∀ r ∈ c.ents, r.q ≠ wk ∧ r.q ≠ sa ∧ r.q ≠ dp ∧ r.q ≠ ps
  lex : lexC c.ents = C
  set : c.so.SetObjOf (intKind PySem.Challenge.rw_no0180_01.row.toRowW.prog w) c.S c.m
  nd : (numsL (xs.length + 1) c.ents).Nodup
  free : ∀ x ∈ numsL (xs.length + 1) c.ents, c.S x = false
  tot : c.m + total c.ents ≤ 60
theorem tops_node {f : Bool} {p p' : Nat} {a b a' b' : Tm} : topsC (.node f p a b) (.node f p' a' b') = 0 := by
  unfold topsC
  cases f <;> simp [tagOf, sg_self]
theorem cmpT_tops {a b : Tm} (hc : compat a b) (h : topsC a b ≠ 0) : cmpT a b = topsC a b := by
  cases a with
  | node f p x y =>
    cases b with
    | node f' p' x' y' =>
      obtain ⟨rfl, _⟩ := hc
      exact absurd tops_node h
    | _ => rfl
  | _ => rfl
theorem cmpT_leaf {a b : Tm} (h : ¬ (tagOf a = 2 ∨ tagOf a = 3)) : cmpT a b = topsC a b := by
  cases a with
  | node f p x y => cases f <;> simp [tagOf] at h
  | _ => rfl
theorem node_of {a : Tm} (h : tagOf a = 2 ∨ tagOf a = 3) : ∃ f p x y, a = .node f p x y := by
  cases a with
  | node f p x y => exact ⟨f, p, x, y, rfl⟩
  | _ => simp [tagOf] at h
theorem node_of2 {f : Bool} {p : Nat} {x y b : Tm} (h : topsC (.node f p x y) b = 0) : ∃ f p x y, b = .node f p x y := by
  unfold topsC at h
  split at h
  · rename_i h1; exact absurd h h1
  · rename_i h1
    have h2 : rankOf (tagOf (.node f p x y)) = rankOf (tagOf b) := sg_zero.mp (Decidable.not_not.mp h1)
    cases b with
    | node f p x y => exact ⟨f, p, x, y, rfl⟩
    | _ => cases f <;> simp [tagOf, rankOf] at h2
theorem total_cons (r : Ent) (l : List Ent) : total (r :: l) = r.t.size + total l := by simp [total]
noncomputable def mgV (u : Bool) (cmp : Value → Value → Int) : List Value → List Value → List Value
  | [], r => r
  | a :: l, [] => a :: l
  | a :: l, b :: r => if cmp a b ≤ 0 then (if cmp a b = 0 ∧ u = true then a :: mgV u cmp l r else a :: mgV u cmp l (b :: r)) else b :: mgV u cmp (a :: l) r
termination_by l r => l.length + r.length
theorem mgV_nil {u : Bool} {cmp : Value → Value → Int} (l : List Value) : mgV u cmp l [] = l := by cases l <;> simp [mgV]
noncomputable def vi : Value → Int
  | .int i _ => i
  | _ => 0
structure KeysOk (w : World) (g : Heap) (xs ks : List Value) (T : Nat → Tm) (c : Nat → Addr) (N : Nat) : Prop where
  k : ∀ i, i < N → ks[i]? = some (.ref (c i)) ∧ At g xs (T i) (c i) ∧ (T i).size ≤ 50
  p : ∀ i j, i < N → j < N → compat (T i) (T j) ∧ (nums (xs.length + 1) (T i) (T j)).Nodup
noncomputable def Ix (N : Nat) (l : List Value) : Prop := ∀ v ∈ l, ∃ (i : Nat) (t : Tok), v = .int i t ∧ i < N
noncomputable def CellsOk (g : Heap) (xs cs : List Value) (kd : Bool) (c : Nat → Addr) (N : Nat) : Prop :=
  ∀ i, i < N → ∃ a, cs[i]? = some (.ref a) ∧ (kd = false → a = c i) ∧ (kd = true → ∃ (p : Nat) (t1 t2 : Tok), IsTup g a [.int 2 t1, .int p t2].toArray ∧ p < 2 ^ 62 ∧ xs[p + 1]? = some (.ref (c i)))
structure TermsOk (w : World) (g : Heap) (xs : List Value) (T : Nat → Tm) (c : Nat → Addr) (N : Nat) : Prop where
  k : ∀ i, i < N → At g xs (T i) (c i) ∧ (T i).size ≤ 50
  p : ∀ i j, i < N → j < N → compat (T i) (T j) ∧ (nums (xs.length + 1) (T i) (T j)).Nodup
structure Run where
  a : Addr
  vs : List Value
  e : Nat
noncomputable def Run.row (r : Run) : Addr × Obj := (r.a, listOf r.vs.toArray r.e)
noncomputable def vn (v : Value) : Nat := (vi v).toNat
noncomputable def runL (rs : List Run) : List (List Nat) := rs.map fun r => r.vs.map vn
noncomputable def refs (rs : List Run) : List Value := rs.map fun r => .ref r.a
noncomputable def sumL (rs : List Run) : Nat := (rs.map fun r => r.vs.length).sum
structure SSt where
  rs : List Run
  er : Nat
  ek : Nat
noncomputable def keyVals (c : Nat → Addr) (n : Nat) : List Value := (List.range n).map fun i => .ref (c i)
noncomputable def sLed1 (RU KE : Addr) (c : Nat → Addr) (q : SSt) : List (Addr × Obj) := (RU, listOf (refs q.rs).toArray q.er) :: (KE, listOf (keyVals c q.rs.length).toArray q.ek) :: q.rs.map Run.row
theorem refs_len (rs : List Run) : (refs rs).length = rs.length := by simp [refs]
theorem keyVals_len (c : Nat → Addr) (n : Nat) : (keyVals c n).length = n := by simp [keyVals]
theorem keyVals_succ (c : Nat → Addr) (n : Nat) : keyVals c (n + 1) = keyVals c n ++ [.ref (c n)] := by simp [keyVals, List.range_succ]
theorem mgV_map {u : Bool} {f : Nat → Nat → Int} {cmp : Value → Value → Int} (h : ∀ a b, cmp a b = f (vn a) (vn b)) (l r : List Value) : (mgV u cmp l r).map vn = mgN u f (l.map vn) (r.map vn) := by
  induction l, r using mgV.induct u cmp with
  | case1 r => simp [mgV, mgN]
  | case2 a l => simp [mgV, mgN]
  | case3 a l b r h1 h2 ih =>
    rw [mgV, if_pos h1, if_pos h2, List.map_cons, List.map_cons, List.map_cons, mgN, ← h a b, if_pos h1, if_pos h2, ih]
  | case4 a l b r h1 h2 ih =>
    rw [mgV, if_pos h1, if_neg h2, List.map_cons, List.map_cons, List.map_cons, mgN, ← h a b, if_pos h1, if_neg h2, ih, List.map_cons]
  | case5 a l b r h1 ih =>
    rw [mgV, if_neg h1, List.map_cons, List.map_cons, List.map_cons, mgN, ← h a b, if_neg h1, ih, List.map_cons]
theorem mgV_mem {u : Bool} {cmp : Value → Value → Int} (l r : List Value) : ∀ v ∈ mgV u cmp l r, v ∈ l ∨ v ∈ r := by
  induction l, r using mgV.induct u cmp with
  | case1 r => intro v hv; exact .inr (by simpa [mgV] using hv)
  | case2 a l => intro v hv; exact .inl (by simpa [mgV] using hv)
  | case3 a l b r h1 h2 ih =>
    intro v hv
    rw [mgV, if_pos h1, if_pos h2] at hv
    rcases List.mem_cons.mp hv with rfl | hv
    · exact .inl (.head _)
    · exact (ih v hv).imp (.tail _) (.tail _)
  | case4 a l b r h1 h2 ih =>
    intro v hv
    rw [mgV, if_pos h1, if_neg h2] at hv
    rcases List.mem_cons.mp hv with rfl | hv
    · exact .inl (.head _)
    · exact (ih v hv).imp (.tail _) id
  | case5 a l b r h1 ih =>
    intro v hv
    rw [mgV, if_neg h1] at hv
    rcases List.mem_cons.mp hv with rfl | hv
    · exact .inr (.head _)
    · exact (ih v hv).imp id (.tail _)
theorem mgV_len {u : Bool} {cmp : Value → Value → Int} (l r : List Value) : (mgV u cmp l r).length ≤ l.length + r.length := by
  induction l, r using mgV.induct u cmp with
  | case1 r => simp [mgV]
  | case2 a l => simp [mgV]
  | case3 a l b r h1 h2 ih => rw [mgV, if_pos h1, if_pos h2]; simp only [List.length_cons]; omega
  | case4 a l b r h1 h2 ih => rw [mgV, if_pos h1, if_neg h2]; simp only [List.length_cons] at ih ⊢; omega
  | case5 a l b r h1 ih => rw [mgV, if_neg h1]; simp only [List.length_cons] at ih ⊢; omega
theorem sumL_app (a b : List Run) : sumL (a ++ b) = sumL a + sumL b := by simp [sumL]
theorem sumL_cons (r : Run) (b : List Run) : sumL (r :: b) = r.vs.length + sumL b := by simp [sumL]
theorem sumL_mem {rs : List Run} {r : Run} (h : r ∈ rs) : r.vs.length ≤ sumL rs := by
  induction rs with
  | nil => cases h
  | cons a l ih =>
    rw [sumL_cons]
    rcases List.mem_cons.mp h with rfl | h
    · omega
    · have := ih h; omega
theorem runL_app (a b : List Run) : runL (a ++ b) = runL a ++ runL b := by simp [runL]
structure WSt where
  ru : Addr
  rs : List Run
  er : Nat
noncomputable def sLed2 (KE : Addr) (c : Nat → Addr) (N ek : Nat) (q : WSt) : List (Addr × Obj) := (q.ru, listOf (refs q.rs).toArray q.er) :: (KE, listOf (keyVals c N).toArray ek) :: q.rs.map Run.row
structure VSt where
  lo : List Run
  el : Nat
noncomputable def sLed3 (LO RU KE : Addr) (rs : List Run) (er : Nat) (c : Nat → Addr) (N ek : Nat) (q : VSt) : List (Addr × Obj) :=
  (LO, listOf (refs q.lo).toArray q.el) :: (RU, listOf (refs rs).toArray er) :: (KE, listOf (keyVals c N).toArray ek) :: (rs.map Run.row ++ q.lo.map Run.row)
structure FSt where
  fo : List Value
  ef : Nat
inductive Key where
  | v (j : Nat)
  | a (n : Int)
  | i (n : Int)
  | l (j : Int)
noncomputable def KeyAt (g : Heap) : Key → Addr → Prop
  | .v j, c => j < 3 ∧ ∃ t1 t2, IsTup g c [.str (Str.ofString "v") t1, .int j t2].toArray
  | .a n, c => (n = 0 ∨ n = 4) ∧ ∃ t1 t2, IsTup g c [.str (Str.ofString "a") t1, .int n t2].toArray
  | .i n, c => ∃ t1 t2, IsTup g c [.str (Str.ofString "i") t1, .int n t2].toArray
  | .l j, c => ∃ t1 t2 q, IsTup g c [.str (Str.ofString "s") t1, .int 0 t2, .ref q].toArray ∧ ∃ q1 q2, IsTup g q [.ref q1, .ref q2].toArray ∧ (∃ t3 t4, IsTup g q1 [.str (Str.ofString "i") t3, .int j t4].toArray) ∧ ∃ t5 t6, IsTup g q2 [.str (Str.ofString "a") t5, .int 0 t6].toArray
noncomputable def wOf : Key → Int × Int
  | .v j => (0, j)
  | .i n => (1, n)
  | .a n => (2, if n = 0 then 1 else 0)
  | .l j => (3, j)
noncomputable def KeyOk : Key → Prop
  | .v j => j < 3
  | .a n => n = 0 ∨ n = 4
  | .i n => -1 ≤ n ∧ n ≤ 10 ^ 20
  | .l j => 0 ≤ j ∧ j < 2
noncomputable def atomsL : List Str := (["[]", ".", "{}", "-", "+", "*", "/", ",", "|", ";", "->", "\\+", ":-", "?-", "-->", "!", "true", "fail", "false", "call", "=", "^", "error", "", "end_of_file", "system", "$VAR", "catch", "throw"] : List String).map Str.ofString
noncomputable def fnL : List (String × Int) := [(".", 2), (",", 2), (";", 2), ("->", 2), ("\\+", 1), (":-", 2), (":-", 1), ("?-", 1), ("-->", 2), ("{}", 1), ("=", 2), ("^", 2), ("-", 1), ("-", 2), ("+", 2), ("/", 2), ("error", 2), ("$VAR", 1), ("catch", 3), ("throw", 1), ("!", 0), ("true", 0), ("fail", 0), ("false", 0), ("call", 1), ("call", 2), ("call", 3), ("call", 4), ("call", 5), ("call", 6), ("call", 7), ("call", 8)]
noncomputable def RowsAre (fr : List (Addr × Obj)) : List Value → List (String × Int) → Prop
  | [], [] => True
  | v :: vs, (t, a) :: r => (∃ q t1 t2, v = .ref q ∧ (q, ({ cls := .type "tuple", data := .seq [Value.str (Str.ofString t) t1, Value.int a t2].toArray } : Obj)) ∈ fr) ∧ RowsAre fr vs r
  | _, _ => False
noncomputable abbrev tupO (vs : List Value) : Obj := { cls := .type "tuple", data := .seq (List.toArray vs) }
noncomputable def keyTm : Key → Nat → Tm
  | .v j, _ => .var j
  | .i n, _ => .int n
  | .a n, _ => .atom n
  | .l j, p => .node true p (.int j) (.atom 0)
structure V3 (g : Heap) (xs : List Value) (v0 v1 v2 : Addr) : Prop where
  x0 : xs[0]? = some (.ref v0)
  x1 : xs[1]? = some (.ref v1)
  x2 : xs[2]? = some (.ref v2)
  a0 : ∃ t1 t2, IsTup g v0 [.int 0 t1, .int 0 t2].toArray
  a1 : ∃ t1 t2, IsTup g v1 [.int 0 t1, .int 1 t2].toArray
  a2 : ∃ t1 t2, IsTup g v2 [.int 0 t1, .int 2 t2].toArray
theorem getApp {xs ys : List Value} {i : Nat} {v : Value} (h : xs[i]? = some v) : (xs ++ ys)[i]? = some v := by
  rw [List.getElem?_append_left (List.getElem?_eq_some_iff.mp h).1]; exact h
end Mine
end
section
set_option Elab.async false
set_option maxRecDepth 100000
set_option maxHeartbeats 1000000
set_option linter.unusedVariables false
namespace Mine
noncomputable section
open PySem PySem.W PySem.Calls PyProof.Rows
theorem W.callN {F : Fn} {c : Cx} {ls : Loc} {ld : Led} {f : Addr} {args : List Value} {D U : Nat} {need : Led} {pre : Heap → Prop} {post : Value → Led → Prop} (S : Spec c.w f args D U need pre post) (rest : Led) {k : Value → Loc → Led → Prop} (hs : Sub2 (need ++ rest) ld)
    (hpre : (need.map (·.1)).Nodup → ∀ g, c.g.StaysIn g → (∀ p ∈ rest, g.get? p.1 = some p.2) → pre g) (hnd : ∀ v need', post v need' → (need.map (·.1)).Nodup → (need'.map (·.1)).Nodup) (hk : ∀ v need', post v need' → k v ls (need' ++ rest))
    (hdu : (Nat.ble (F.D + 1) D && Nat.ble (F.U + 3) U) = true := by rfl) : W F c (PySem.call (.ref f) args) k ls ld := by
  have key : (ld.map (·.1)).Nodup → (need.map (·.1)).Nodup ∧ (rest.map (·.1)).Nodup ∧ ∀ p ∈ rest, ∀ q ∈ need, p.1 ≠ q.1 := fun nd => by
    have h := hs.2 nd
    rw [List.map_append] at h
    obtain ⟨h1, h2, h3⟩ := List.nodup_append.mp h
    exact ⟨h1, h2, fun p hp q hq e => h3 _ (List.mem_map.mpr ⟨q, hq, rfl⟩) _ (List.mem_map.mpr ⟨p, hp, rfl⟩) e.symm⟩
  exact W.call S rest hdu (fun p hp => hs.1 p (List.mem_append_left _ hp)) (fun p hp => hs.1 p (List.mem_append_right _ hp)) (fun nd => (key nd).2.2) (fun nd => hpre (key nd).1)
    fun nd v need' hd hp => ⟨need' ++ rest, fun _ h => h, nd_app (hnd v need' hp (key nd).1) (key nd).2.1 hd, hk v need' hp⟩
noncomputable def SpecN (w : World) (f : Addr) (args : List Value) (D U : Nat) (need : Led) (pre : Heap → Prop) (post : Value → Led → Prop) : Prop :=
  Spec w f args D U need (fun g => (need.map (·.1)).Nodup ∧ pre g) (fun v n => (n.map (·.1)).Nodup ∧ post v n)
theorem SpecN.ofWV {w : World} (F : Fn) (st : Stmt) {dv : Value} {args : List Value} {need : Led} {pre : Heap → Prop} {post : Value → Led → Prop} (hK : StandsV F st dv) (hroom : Nat.ble (F.D + 1) recursionLimit = true)
    {binds : List (Str × Value)} (hbind : ∀ name doc pm an ct s, (K0 w.params).In s.heap → BindsTo s (fnOf name F.qual (fP st) (fB st) F.cs dv .none doc pm an F.cd ct) ⟨args, []⟩ binds) (hloc : binds.all (fun y => F.cs.names.lookup y.1 == some .local) = true)
    (hs : (!F.cs.isCoroutine && !F.cs.isGenerator && F.cs.names.all (fun x => x.2 != .cell)) = true)
    (h : ∀ c : Cx, c.w = w → pre c.g → wpS F c 200 (fB st) (fun fl _ ld => ∃ need', Sub2 need' ld ∧ post (match fl with | .ret v => v | _ => .none) need') binds.reverse need) (hm : F.m = none := by rfl) : SpecN w F.f args F.D F.U need pre post :=
  Spec.ofWV F st (K := fun v ld => ∃ need', Sub2 need' ld ∧ post v need') hK hroom hbind hloc hs (fun g h => h.1) (fun c hw hp => h c hw hp.2) (fun v ld nd ⟨need', h1, h2⟩ => ⟨need', h1.1, h1.2 nd, h2⟩) hm
theorem SpecN.ofW {w : World} (F : Fn) (st : Stmt) {args : List Value} {need : Led} {pre : Heap → Prop} {post : Value → Led → Prop} (hK : Stands F st) (hroom : Nat.ble (F.D + 1) recursionLimit = true)
    (hbind : ∀ name doc pm an ct, bindArgs (fnOf name F.qual (fP st) (fB st) F.cs .none .none doc pm an F.cd ct) ⟨args, []⟩ = pure (zipA (fP st).args args)) (hloc : (zipA (fP st).args args).all (fun y => F.cs.names.lookup y.1 == some .local) = true)
    (hs : (!F.cs.isCoroutine && !F.cs.isGenerator && F.cs.names.all (fun x => x.2 != .cell)) = true)
    (h : ∀ c : Cx, c.w = w → pre c.g → wpS F c 200 (fB st) (fun fl _ ld => ∃ need', Sub2 need' ld ∧ post (match fl with | .ret v => v | _ => .none) need') (zipA (fP st).args args).reverse need) (hm : F.m = none := by rfl) : SpecN w F.f args F.D F.U need pre post :=
  SpecN.ofWV F st hK hroom (fun _ _ _ _ _ _ _ => BindsTo.of_eq (hbind _ _ _ _ _)) hloc hs h hm
section
variable {F : Fn} {c : Cx} {ls : Loc} {ld : Led}
theorem W.callS {f : Addr} {args : List Value} {D U : Nat} {need : Led} {pre : Heap → Prop} {post : Value → Led → Prop} (S : SpecN c.w f args D U need pre post) (rest : Led) {k : Value → Loc → Led → Prop} (hs : Sub2 (need ++ rest) ld)
    (hpre : ∀ g, c.g.StaysIn g → (∀ p ∈ rest, g.get? p.1 = some p.2) → pre g) (hk : ∀ v need', post v need' → k v ls (need' ++ rest)) (hdu : (Nat.ble (F.D + 1) D && Nat.ble (F.U + 3) U) = true := by rfl) : W F c (PySem.call (.ref f) args) k ls ld :=
  W.callN S rest hs (fun nd g h1 h2 => ⟨nd, hpre g h1 h2⟩) (fun v n h _ => h.1) (fun v n h => hk v n h.2) hdu
noncomputable def unK (I : Addr × Obj) (M : Led → Prop) (k : Flow → Loc → Led → Prop) (r : Loc → Led → Prop) : Flow → Loc → Led → Prop
  | .ret v, ls, ld => k (.ret v) ls ld
  | .brk, ls, ld => k .next ls ld
  | _, ls, ld => ∃ ls2 ld2, KnowsL ls2 ls ∧ Sub2 (I :: ld2) ld ∧ M ld2 ∧ r ls2 ld2
noncomputable def forU (F : Fn) (c : Cx) (x : Str) (body : List Stmt) (M : Led → Prop) (k : Flow → Loc → Led → Prop) : List (Value → Prop) → Loc → Led → Prop
  | [], ls, ld => k .next ls ld
  | Pv :: r, ls, ld => ∀ v I o, Pv v → (∀ p ∈ ld, p.1 ≠ I) → wpS F c 200 body (unK (I, o) M k (forU F c x body M k r)) ((x, v) :: ls) ((I, o) :: ld)
structure FU (M : Led → Prop) where
  ls : Loc
  ld : Led
  m : M ld
theorem forU_turn {x : Str} {body : List Stmt} {M : Led → Prop} {k : Flow → Loc → Led → Prop} {Ps : List (Value → Prop)} {i : Nat} {y : FU M} {v : Value} {I : Addr} {o : Obj} (hi : i < Ps.length) (hv : ∀ P, Ps[i]? = some P → P v) (hP : forU F c x body M k (Ps.drop i) y.ls y.ld) (hoff : ∀ p ∈ y.ld, p.1 ≠ I)
    (mono : ∀ (r : Loc → Led → Prop), wpS F c 200 body (unK (I, o) M k r) ((x, v) :: y.ls) ((I, o) :: y.ld) → True) : wpS F c 200 body (unK (I, o) M k (forU F c x body M k (Ps.drop (i + 1)))) ((x, v) :: y.ls) ((I, o) :: y.ld) := by
  rw [List.drop_eq_getElem_cons hi] at hP
  exact hP v I o (hv _ (List.getElem?_eq_getElem hi)) hoff
theorem unK_for {I : Addr × Obj} {M : Led → Prop} {k : Flow → Loc → Led → Prop} {r : Loc → Led → Prop} : unK I M k r = forK (σ := FU M) FU.ls FU.ld (fun y => r y.ls y.ld) I k := by
  funext f ls ld
  have e : (∃ ls2 ld2, KnowsL ls2 ls ∧ Sub2 (I :: ld2) ld ∧ M ld2 ∧ r ls2 ld2) = ∃ y : FU M, KnowsL y.ls ls ∧ Sub2 (I :: y.ld) ld ∧ r y.ls y.ld :=
    propext ⟨fun ⟨a, b, h1, h2, h3, h4⟩ => ⟨⟨a, b, h3⟩, h1, h2, h4⟩, fun ⟨y, h1, h2, h4⟩ => ⟨y.ls, y.ld, h1, h2, y.m, h4⟩⟩
  cases f with
  | ret v => rfl
  | brk => rfl
  | next => exact e
  | cont => exact e
theorem drop_end {α : Type} {Ps : List α} : Ps.drop Ps.length = [] := List.drop_length
theorem IterW.tupU {x : Str} {body : List Stmt} {l : Addr} {vs : List Value} {k : Flow → Loc → Led → Prop} (hl : IsTup c.g l vs.toArray) (h : forU F c x body (fun _ => True) k (vs.map fun v u => u = v) ls ld) : IterW F c x body k (.ref l) ls ld := by
  have hlen : (vs.map fun v u => u = v).length = vs.length := List.length_map _
  refine IterW.tup0 (σ := FU fun _ => True) (vs := vs) FU.ls FU.ld (fun i y => forU F c x body (fun _ => True) k ((vs.map fun v u => u = v).drop i) y.ls y.ld) ⟨ls, ld, trivial⟩ (.inl hl) (.inl hl) h (fun i y v I o hi hv hP hof => ?_) fun y hP => ?_
  · rw [← unK_for]
    exact forU_turn (by rw [hlen]; exact hi) (fun P hP => by rw [List.getElem?_map, hv] at hP; cases hP; rfl) hP hof fun _ _ => trivial
  · rw [← hlen, drop_end] at hP; exact hP
theorem IterW.listU {x : Str} {body : List Stmt} {l : Addr} {vs : List Value} {n : Nat} {k : Flow → Loc → Led → Prop} (hl : (l, listOf vs.toArray n) ∈ ld) (h : forU F c x body (fun ld => (l, listOf vs.toArray n) ∈ ld) k (vs.map fun v u => u = v) ls ld) : IterW F c x body k (.ref l) ls ld := by
  have hlen : (vs.map fun v u => u = v).length = vs.length := List.length_map _
  refine IterW.list0 (σ := FU fun ld => (l, listOf vs.toArray n) ∈ ld) (vs := vs) FU.ls FU.ld (fun i y => forU F c x body (fun ld => (l, listOf vs.toArray n) ∈ ld) k ((vs.map fun v u => u = v).drop i) y.ls y.ld) ⟨ls, ld, hl⟩ (.inr ⟨n, hl⟩) (.inr ⟨_, fun y => y.m⟩) h (fun i y v I o hi hv hP hof => ?_) fun y hP => ?_
  · rw [← unK_for]
    exact forU_turn (by rw [hlen]; exact hi) (fun P hP => by rw [List.getElem?_map, hv] at hP; cases hP; rfl) hP hof fun _ _ => trivial
  · rw [← hlen, drop_end] at hP; exact hP
noncomputable def whU (F : Fn) (c : Cx) (test : Expr) (body : List Stmt) (k : Flow → Loc → Led → Prop) : Nat → Loc → Led → Prop
  | 0, _, _ => False
  | n + 1, ls, ld => wpT F c 10 test (fun b ls1 ld1 => (b = true → wpS F c 200 body (fun f => match f with | .ret v => k (.ret v) | .brk => k .next | _ => whU F c test body k n) ls1 ld1) ∧ (b = false → k .next ls1 ld1)) ls ld
theorem W.whileU {test : Expr} {body : List Stmt} {pos : Pos} {k : Flow → Loc → Led → Prop} (n : Nat) (h : whU F c test body k n ls ld) : W F c (exec (.While test body [] pos) (F.env c.L)) k ls ld := fun ok s st => by
  refine wpAny_While (codeAny_whileLoop (fun n s' => ∃ ls ld, St F c ls ld s' ∧ whU F c test body k n ls ld) ?_ n ⟨ls, ld, st, h⟩)
  rintro n s' ⟨ls1, ld1, st', h'⟩
  cases n with
  | zero => exact h'.elim
  | succ n =>
    refine wpAny_mono (wpT_ok 10 _ _ _ _ h' ok s' st') (fun b s₂ h₂ => ?_) PassesOwn.never
    obtain ⟨ls2, ld2, st2, hb⟩ := h₂
    cases b with
    | false => exact wpAny_execs_nil ⟨ls2, ld2, st2, hb.2 rfl⟩
    | true =>
      refine wpAny_mono (wpS_ok 200 _ _ _ _ (hb.1 rfl) ok s₂ st2) (fun f s₃ h₃ => ?_) PassesOwn.never
      obtain ⟨ls3, ld3, st3, hf⟩ := h₃
      cases f with
      | next => exact ⟨n, Nat.lt_succ_self n, ls3, ld3, st3, hf⟩
      | cont => exact ⟨n, Nat.lt_succ_self n, ls3, ld3, st3, hf⟩
      | brk => exact ⟨ls3, ld3, st3, hf⟩
      | ret v => exact ⟨ls3, ld3, st3, hf⟩
theorem W.eqStr {a b : Str} {t u : Tok} {k : Value → Loc → Led → Prop} (hk : k (.bool (a == b)) ls ld) : W F c (compareOp .Eq (.str a t) (.str b u)) k ls ld := fun ok s st => eq_str ⟨ls, ld, st, hk⟩
noncomputable abbrev DictI (c : Cx) (o : Obj) (kvs : List (Int × Value)) : Prop := o.IsDictOf (intKind PySem.Challenge.rw_no0180_01.row.toRowW.prog c.w) kvs
theorem W.ditem {value slice : Expr} {d : Addr} {o : Obj} {kvs : List (Int × Value)} {i : Int} {t : Tok} {v : Value} {k : Value → Loc → Led → Prop} (hp : (d, o) ∈ ld) (hd : DictI c o kvs) (hl : valueAt kvs i = some v) (hk : k v ls ld) (hs : noSlice slice = true := by rfl) (hg : ∀ r, letTemporaryGo value (.ref d) r = pure () := by intro _; with_unfolding_all rfl) :
    W F c (subscriptTail value slice (.ref d) (.int i t)) k ls ld := fun ok s st => kda_item st.N hp hd (intKind_is _ _ _ _) hl ⟨ls, ld, st.toks _, hk⟩ (noSlice_ok hs _ _ _) hg
theorem W.dnotin {d : Addr} {o : Obj} {kvs : List (Int × Value)} {i : Int} {t : Tok} {v : Value} {k : Value → Loc → Led → Prop} (hp : (d, o) ∈ ld) (hd : DictI c o kvs) (lo : (d == sysModules) = false) (hl : valueAt kvs i = some v) (hk : k (.bool false) ls ld) :
    W F c (compareOp .NotIn (.int i t) (.ref d)) k ls ld := fun ok s st => kdg_notin st.N hp hd lo (intKind_is _ _ _ _) true (by rw [hl]; rfl) ⟨ls, ld, st.toks _, hk⟩
theorem W.dkeys {d : Addr} {o : Obj} {kvs : List (Int × Value)} {k : Value → Loc → Led → Prop} (hp : (d, o) ∈ ld) (hd : DictI c o kvs) (lo : (d == sysModules) = false) (hn : Nat.ble kvs.length 1000 = true) (hk : ∀ B e, KdlKeysI kvs fun vs => k (.ref B) ls ((B, listOf vs.toArray e) :: ld)) :
    W F c (PySem.call (.type "list") [.ref d]) k ls ld := fun ok s st => by
  obtain ⟨m, Fm, hm⟩ := st.F
  refine list_keysI rfl Fm st.N hp hd lo (Nat.le_trans (Nat.le_of_ble_eq_true hn) (by decide)) fun B e h' tk => ?_
  have : ∀ (kvs : List (Int × Value)) (P Q : List Value → Prop), (∀ vs, P vs → Q vs) → KdlKeysI kvs P → KdlKeysI kvs Q := by
    intro kvs
    induction kvs with
    | nil => exact fun P Q h => h []
    | cons p r ih => exact fun P Q h hk t => ih _ _ (fun vs => h (_ :: vs)) (hk t)
  exact this kvs _ _ (fun vs hv F' N' l1 => ⟨ls, _, st.alloc F' hm N' l1, hv⟩) (hk B e)
theorem W.setl {D : Addr} {xs l q : List Value} {n : Nat} {p : Int} {t : Tok} {v : Value} {k : Unit → Loc → Led → Prop} (j : Nat) (h : ld[j]? = some (D, listOf (xs ++ l).toArray n)) (i : Nat) (hp : p = ((xs.length + i : Nat) : Int)) (hfit : xs.length + i < 2 ^ 62) (e : ki_setL l i v = some q)
    (hk : k () ls (ld.set j (D, listOf (xs ++ q).toArray n))) : W F c (setItem (.ref D) (.int p t) v) k ls ld := fun ok s st => by
  obtain ⟨m, Fm, hm⟩ := st.F
  subst hp
  refine ki_set Fm st.N (Int.natCast_nonneg _) (by omega) (set_app (by exact Int.toNat_natCast _) e) (upd_of st.nd h) fun h' F' N' => ⟨ls, _, ⟨⟨m, F', hm⟩, N', set_nd st.nd h, st.ge, st.dr, st.os⟩, hk⟩
theorem W.setSub {o i : Expr} {sp pos : Pos} {e : Expr} {k : Flow → Loc → Led → Prop} (h : wpE F c 20 e (fun v => wpE F c 20 o (fun ov => wpE F c 20 i (fun iv => W F c (setItem ov iv v) (fun _ => k .next)))) ls ld)
    (hs : swapsWith e (some (.Subscript o i sp)) pos.line (F.env c.L) = pure false := by rfl) : W F c (exec (.Assign [.Subscript o i sp] e pos) (F.env c.L)) k ls ld := fun ok s st =>
  wpAny_Assign_Subscript ((wpE_ok 20 _ _ _ _ h).step ok st fun v ls1 ld1 s1 st1 h1 => (wpE_ok 20 _ _ _ _ h1).step ok st1 fun ov ls2 ld2 s2 st2 h2 => (wpE_ok 20 _ _ _ _ h2).step ok st2 fun iv ls3 ld3 s3 st3 h3 => h3 ok s3 st3) hs
end
end
end Mine
end
section
set_option Elab.async false
set_option maxRecDepth 100000
set_option maxHeartbeats 1000000
set_option linter.unusedVariables false
namespace Mine
noncomputable section
open PySem PySem.W PySem.Calls PyProof.Rows
noncomputable abbrev Fn.fix (F : Fn) (m : Str → Option Value) : Fn := ⟨F.qual, F.cs, F.f, F.cd, F.D, F.U, F.hk, some m⟩
noncomputable def cmpW (F : Fn) (c : Cx) (scope : Scope) (cl : List (Str × Addr)) (C : Addr) (oC : Obj) (x : Str) (v : Value) (y : Str) (k : Value → Loc → Led → Prop) (ls : Loc) (ld : Led) : Prop := match (y == ("__debug__" : Str)) with
  | true => False
  | false => match (compEnvC scope cl C (F.env c.L)).kindOf y with
    | some .local => match (y == x) with
      | true => (C, oC) ∈ ld ∧ k v ls ld
      | false => False
    | some .cell => ∃ a o u, cl.lookup y = some a ∧ (a, o) ∈ ld ∧ o.data = .cell (some u) ∧ k u ls ld
    | some .globalImplicit => match gT.lookup y with
      | some u => k u ls ld
      | none => match bT.lookup y with
        | some u => k u ls ld
        | none => False
    | _ => False
section
variable {F : Fn} {c : Cx} {ls : Loc} {ld : Led}
theorem cmpW_ok {m : Str → Option Value} {scope : Scope} {cl : List (Str × Addr)} {C : Addr} {oC : Obj} {x : Str} {v : Value} (hk : scope.kind = .function) (hC : ∃ m₂, LCg.NsObj oC m₂ ∧ m₂ x = some v) {y : Str} {pos : Pos} {k : Value → Loc → Led → Prop} (h : cmpW F c scope cl C oC x v y k ls ld) :
    W (F.fix m) c (eval (.Name y pos) (compEnvC scope cl C (F.env c.L))) k ls ld := fun ok s st => by
  obtain ⟨m₂, hC, hx⟩ := hC
  obtain ⟨mm, Fm, hm⟩ := st.F
  unfold cmpW at h
  split at h
  · exact h.elim
  · rename_i hd
    split at h
    · rename_i q
      split at h
      · rename_i q2
        cases eq_of_beq q2
        exact LCgL.ld_own st.N h.1 hC hx ⟨ls, ld, st, h.2⟩ hk q hd
      · exact h.elim
    · rename_i q
      obtain ⟨a, o, u, h1, h2, h3, h4⟩ := h
      exact kcf_cell st.N h1 h2 h3 ⟨ls, ld, st, h4⟩ hk q hd
    · rename_i q
      split at h
      · rename_i u q2
        exact LCgL.ld_global Fm ok.X ok.T (gT_ok q2) ⟨ls, ld, st, h⟩ rfl hk q hd
      · split at h
        · rename_i u q3
          obtain ⟨b1, b2, b3⟩ := bT_ok (P := c.w.params) q3
          exact LCgL.ld_built Fm ok.X ok.T b1 b2 b3 ⟨ls, ld, st, h⟩ rfl rfl hk q hd
        · exact h.elim
    · exact h.elim
noncomputable def Rd.comp (F : Fn) (c : Cx) (m : Str → Option Value) (scope : Scope) (cl : List (Str × Addr)) (C : Addr) (oC : Obj) (x : Str) (v : Value) (hk : scope.kind = .function) (hC : ∃ m₂, LCg.NsObj oC m₂ ∧ m₂ x = some v) : Rd (F.fix m) c :=
  ⟨compEnvC scope cl C (F.env c.L), cmpW F c scope cl C oC x v, cmpW_ok hk hC⟩
noncomputable def CompW (F : Fn) (c : Cx) (m : Str → Option Value) (elt : Expr) (x : Str) (scope : Scope) (cl : List (Str × Addr)) (fin : List Value → Loc → Led → Prop) (xv : Value) (ls : Loc) (ld : Led) : Prop :=
  c.Ok → ∀ s, St (F.fix m) c ls ld s → ∀ Fin : Shared → List Value → Led → Prop, (∀ g ys ld', (ld'.map (·.1)).Nodup → fin ys ls ld' → Fin { s with heap := g } ys ld') → LCg.CompSrc PySem.Challenge.rw_no0180_01.row.toRowW.prog c.w (c.A F) c.g c.L m (F.env c.L) elt x scope cl Fin xv s
noncomputable def CompWT (F : Fn) (c : Cx) (m : Str → Option Value) (ct elt : Expr) (x : Str) (scope : Scope) (cl : List (Str × Addr)) (fin : List Value → Loc → Led → Prop) (xv : Value) (ls : Loc) (ld : Led) : Prop :=
  c.Ok → ∀ s, St (F.fix m) c ls ld s → ∀ Fin : Shared → List Value → Led → Prop, (∀ g ys ld', (ld'.map (·.1)).Nodup → fin ys ls ld' → Fin { s with heap := g } ys ld') → LCt.CompSrcT PySem.Challenge.rw_no0180_01.row.toRowW.prog c.w (c.A F) c.g c.L m (F.env c.L) ct elt x scope cl Fin xv s
theorem St.fix {s : Shared} (st : St F c ls ld s) : ∃ m, Fr c.g c.L s.heap m ∧ St (F.fix m) c ls ld s := by
  obtain ⟨m, Fm, hm⟩ := st.F
  exact ⟨m, Fm, ⟨m, Fm, fun m₀ e => Option.some.inj e, hm.2⟩, st.N, st.nd, st.ge, st.dr, st.os⟩
theorem St.fixed {m : Str → Option Value} {s : Shared} (st : St (F.fix m) c ls ld s) : Fr c.g c.L s.heap m ∧ ∀ x v, ls.lookup x = some v → m x = some v := by
  obtain ⟨m', Fm, h1, h2⟩ := st.F
  rw [h1 m rfl] at Fm h2
  exact ⟨Fm, h2⟩
theorem off1_nd {D : Addr} {o : Obj} {l : Led} (nd : (l.map (·.1)).Nodup) (h : LCg.Off1 D l) : (((D, o) :: l).map (·.1)).Nodup := by
  rw [List.map_cons, List.nodup_cons]
  refine ⟨fun hm => ?_, nd⟩
  obtain ⟨q, hq, e⟩ := List.mem_map.mp hm
  have : ∀ {l : Led}, LCg.Off1 D l → ∀ p ∈ l, p.1 ≠ D := by
    intro l
    induction l with
    | nil => intro _ p hp; cases hp
    | cons a r ih =>
      intro h p hp
      rcases List.mem_cons.mp hp with rfl | hp
      · exact h.1
      · exact ih h.2 p hp
  exact this h q hq e
theorem W.compE {elt iter : Expr} {x : Str} {px : Pos} {scope : Scope} {pos : Pos} {k : Value → Loc → Led → Prop} (cl : List (Str × Addr)) (hm : F.m = none)
    (hclos : closureFor scope (F.env c.L) = pure cl) (hcell : ∀ y ∈ scope.names, y.2 ≠ .cell) (hkind : scope.kind = .function)
    (hnames : ∀ y ∈ scope.names, y.2 = .local → scope.names.lookup y.1 = some .local) (hx : scope.names.lookup x = some .local)
    (h : ∀ m, wpE (F.fix m) c 20 iter (CompW F c m elt x scope cl (fun ys ls ld => ∀ D, k (.ref D) ls ((D, LCg.lst ys) :: ld))) ls ld)
    (hs : ∀ x, foldedSetIterable iter (F.env c.L) x = pure x := by intro _; rfl) : W F c (eval (.ListComp elt [⟨.Name x px, iter, [], 0⟩] scope pos) (F.env c.L)) k ls ld := fun ok s st => by
  obtain ⟨m, Fm, st'⟩ := st.fix
  refine LCg.ListComp_U Fm hclos hcell hkind hnames hx ?_ hs
  refine (wpE_ok 20 _ _ _ _ (h m)).step ok st' fun xv ls1 ld1 s1 st1 h1 => h1 ok s1 st1 _ fun g ys ld' nd hf D h tk F' N' o1 => ?_
  exact ⟨_, _, ⟨⟨m, F', fz_of hm _, st1.fixed.2⟩, N', off1_nd nd o1, st1.ge, st1.dr, st1.os⟩, hf D⟩
theorem W.compA {elt iter : Expr} {x y : Str} {px py : Pos} {scope : Scope} {pos spos : Pos} {k : Flow → Loc → Led → Prop} (cl : List (Str × Addr)) (hm : F.m = none)
    (hsw : swapsWith (.ListComp elt [⟨.Name x px, iter, [], 0⟩] scope pos) (some (.Name y py)) spos.line (F.env c.L) = pure true)
    (hclos : closureFor scope (F.env c.L) = pure cl) (hcell : ∀ y ∈ scope.names, y.2 ≠ .cell) (hkind : scope.kind = .function)
    (hnames : ∀ y ∈ scope.names, y.2 = .local → scope.names.lookup y.1 = some .local) (hx : scope.names.lookup x = some .local) (hy : F.cs.names.lookup y = some .local)
    (h : ∀ m, wpE (F.fix m) c 20 iter (CompW F c m elt x scope cl (fun ys ls ld => ∀ D, k .next ((y, .ref D) :: ls) ((D, LCg.lst ys) :: ld))) ls ld)
    (hs : ∀ x, foldedSetIterable iter (F.env c.L) x = pure x := by intro _; rfl) : W F c (exec (.Assign [.Name y py] (.ListComp elt [⟨.Name x px, iter, [], 0⟩] scope pos) spos) (F.env c.L)) k ls ld := fun ok s st => by
  obtain ⟨m, Fm, st'⟩ := st.fix
  refine LCg.Assign_ListComp_U Fm rfl hsw hclos hcell hkind hnames hx hy (by show (F.cs.kind == .class || (F.cs.kind == .module && _)) = false; rw [F.hk]; rfl) ?_ hs
  refine (wpE_ok 20 _ _ _ _ (h m)).step ok st' fun xv ls1 ld1 s1 st1 h1 => h1 ok s1 st1 _ fun g ys ld' nd hf D h tk F' N' o1 => ?_
  refine ⟨_, _, ⟨⟨_, F', fz_of hm _, fun z u e => ?_⟩, N', off1_nd nd o1, st1.ge, st1.dr, st1.os⟩, hf D⟩
  rw [List.lookup_cons] at e
  cases hz : (z == y) with
  | true => rw [hz] at e; exact (if_pos (eq_of_beq hz)).trans e
  | false => rw [hz] at e; exact (if_neg (beq_eq_false_iff_ne.mp hz)).trans (st1.fixed.2 _ _ e)
theorem W.compT {ct elt iter : Expr} {x y : Str} {px py : Pos} {scope : Scope} {pos spos : Pos} {k : Flow → Loc → Led → Prop} (cl : List (Str × Addr)) (hm : F.m = none)
    (hsw : swapsWith (.ListComp elt [⟨.Name x px, iter, [ct], 0⟩] scope pos) (some (.Name y py)) spos.line (F.env c.L) = pure true)
    (hclos : closureFor scope (F.env c.L) = pure cl) (hcell : ∀ y ∈ scope.names, y.2 ≠ .cell) (hkind : scope.kind = .function)
    (hnames : ∀ y ∈ scope.names, y.2 = .local → scope.names.lookup y.1 = some .local) (hx : scope.names.lookup x = some .local) (hy : F.cs.names.lookup y = some .local)
    (h : ∀ m, wpE (F.fix m) c 20 iter (CompWT F c m ct elt x scope cl (fun ys ls ld => ∀ D, k .next ((y, .ref D) :: ls) ((D, LCg.lst ys) :: ld))) ls ld)
    (hs : ∀ x, foldedSetIterable iter (F.env c.L) x = pure x := by intro _; rfl) : W F c (exec (.Assign [.Name y py] (.ListComp elt [⟨.Name x px, iter, [ct], 0⟩] scope pos) spos) (F.env c.L)) k ls ld := fun ok s st => by
  obtain ⟨m, Fm, st'⟩ := st.fix
  refine LCt.Assign_ListComp_T Fm rfl hsw hclos hcell hkind hnames hx hy (by show (F.cs.kind == .class || (F.cs.kind == .module && _)) = false; rw [F.hk]; rfl) ?_ hs
  refine (wpE_ok 20 _ _ _ _ (h m)).step ok st' fun xv ls1 ld1 s1 st1 h1 => h1 ok s1 st1 _ fun g ys ld' nd hf D h tk F' N' o1 => ?_
  refine ⟨_, _, ⟨⟨_, F', fz_of hm _, fun z u e => ?_⟩, N', off1_nd nd o1, st1.ge, st1.dr, st1.os⟩, hf D⟩
  rw [List.lookup_cons] at e
  cases hz : (z == y) with
  | true => rw [hz] at e; exact (if_pos (eq_of_beq hz)).trans e
  | false => rw [hz] at e; exact (if_neg (beq_eq_false_iff_ne.mp hz)).trans (st1.fixed.2 _ _ e)
noncomputable abbrev tri (I C D : Addr) (oI oC : Obj) (ys : List Value) (l : Led) : Led := (I, oI) :: (C, oC) :: (D, LCg.lst ys) :: l
theorem tri_nd {I C D : Addr} {oI oC : Obj} {ys : List Value} {l : Led} (nd : (l.map (·.1)).Nodup) (off : LCg.Off3 I C D l) (ne : ((@Ne Nat I C) ∧ (@Ne Nat I D) ∧ (@Ne Nat C D))) : ((tri I C D oI oC ys l).map (·.1)).Nodup := by
  have hl : ∀ a, (∀ p ∈ l, p.1 ≠ a) → a ∉ l.map (·.1) := fun a h hm => by
    obtain ⟨q, hq, e⟩ := List.mem_map.mp hm
    exact h q hq e
  have o := off.mem
  have n1 : I ∉ l.map (·.1) := hl I fun p hp => (o p hp).1
  have n2 : C ∉ l.map (·.1) := hl C fun p hp => (o p hp).2.1
  have n3 : D ∉ l.map (·.1) := hl D fun p hp => (o p hp).2.2
  refine List.nodup_cons.mpr ⟨?_, List.nodup_cons.mpr ⟨?_, List.nodup_cons.mpr ⟨n3, nd⟩⟩⟩
  · intro hm
    rcases List.mem_cons.mp hm with h | hm
    · exact ne.1 h
    rcases List.mem_cons.mp hm with h | hm
    · exact ne.2.1 h
    · exact n1 hm
  · intro hm
    rcases List.mem_cons.mp hm with h | hm
    · exact ne.2.2 h
    · exact n2 hm
theorem tri_off {I C D : Addr} {oI oC : Obj} {ys : List Value} {l : Led} (nd : ((tri I C D oI oC ys l).map (·.1)).Nodup) : LCg.Off3 I C D l ∧ (l.map (·.1)).Nodup := by
  obtain ⟨n1, nd⟩ := List.nodup_cons.mp nd
  obtain ⟨n2, nd⟩ := List.nodup_cons.mp nd
  obtain ⟨n3, nd⟩ := List.nodup_cons.mp nd
  exact ⟨LCg.Off3.of fun p hp => ⟨fun e => n1 (.tail _ (.tail _ (List.mem_map.mpr ⟨p, hp, e⟩))), fun e => n2 (.tail _ (List.mem_map.mpr ⟨p, hp, e⟩)), fun e => n3 (List.mem_map.mpr ⟨p, hp, e⟩)⟩, nd⟩
noncomputable def cmpK {σ : Type} (Ld : σ → Led) (P : List Value → σ → Prop) (ys : List Value) (I C D : Addr) (oI oC : Obj) (v : Value) (_ : Loc) (ld : Led) : Prop := ∃ y, Sub2 (tri I C D oI oC ys (Ld y)) ld ∧ P (ys ++ [v]) y
noncomputable def cmpK0 {σ : Type} (Ld : σ → Led) (P : List Value → σ → Prop) (ys : List Value) (I C D : Addr) (oI oC : Obj) (_ : Loc) (ld : Led) : Prop := ∃ y, Sub2 (tri I C D oI oC ys (Ld y)) ld ∧ P ys y
section
variable {m : Str → Option Value} {elt ct : Expr} {x : Str} {scope : Scope} {cl : List (Str × Addr)} {fin : List Value → Loc → Led → Prop} {σ : Type}
theorem comp_end {I C D : Addr} {oI oC : Obj} {ys zs : List Value} {Ld : σ → Led} {P : List Value → σ → Prop} {s s1 : Shared} {S : Led → Prop} {ls2 : Loc} {ld2 : Led} {v : Value} (hge : s.gens = c.ge) (hdr : s.drawn = c.dr) (hos : s.os = c.os) (st2 : St (F.fix m) c ls2 ld2 s1)
    (hS : ∀ y, S (Ld y)) {h0 : Heap} {t0 : Nat} (he : ∃ y, Sub2 (tri I C D oI oC ys (Ld y)) ld2 ∧ P zs y) {rest : Value → Led → Prop} (hr : ∀ y, P zs y → ((Ld y).map (·.1)).Nodup → rest v (Ld y)) : LCg.CompEnd c.g c.L m { s with heap := h0, toks := t0 } I oI C oC D (LCg.lst ys) S rest v s1 := by
  obtain ⟨y, hs, hP⟩ := he
  obtain ⟨o1, o2⟩ := tri_off (hs.2 st2.nd)
  obtain ⟨h1, g1, d1, t1, q1⟩ := s1
  refine ⟨h1, t1, Ld y, ?_, st2.fixed.1, fun p hp => st2.N p (hs.1 p hp), o1, hS y, hr y hP o2⟩
  have e1 : g1 = c.ge := st2.ge
  have e2 : d1 = c.dr := st2.dr
  have e3 : q1 = c.os := st2.os
  show Shared.mk h1 g1 d1 t1 q1 = Shared.mk h1 s.gens s.drawn t1 s.os
  rw [e1, e2, e3, hge, hdr, hos]
theorem comp_turns {n : Nat} {S : Led → Prop} {Pv : Nat → Value → Prop} {Fin : List Value → Led → Prop} (ok : c.Ok) (hkind : scope.kind = .function) {s : Shared} {ld₀ : Led} (st0 : St (F.fix m) c ls ld₀ s) (Ld : σ → Led) (P : Nat → List Value → σ → Prop) (y₀ : σ) (h2 : Sub2 (Ld y₀) ld₀) (hp : P 0 [] y₀) (hS : ∀ y, S (Ld y))
    (turn : ∀ i ys y v I C D oI oC (hC : ∃ m₂, LCg.NsObj oC m₂ ∧ m₂ x = some v), i < n → Pv i v → P i ys y → wpG (Rd.comp F c m scope cl C oC x v hkind hC) 20 elt (cmpK Ld (P (i + 1)) ys I C D oI oC) ls (tri I C D oI oC ys (Ld y)))
    (done : ∀ ys y, P n ys y → ((Ld y).map (·.1)).Nodup → Fin ys (Ld y)) {g : Heap} : LCg.CompRest PySem.Challenge.rw_no0180_01.row.toRowW.prog c.w (c.A F) c.g c.L m (F.env c.L) elt x scope cl { s with heap := g } S Pv Fin n 0 [] (Ld y₀) := by
  refine compRest_inv (σ := σ) Ld (fun i ys y => P i ys y ∧ ((Ld y).map (·.1)).Nodup) (n := n) ?_ (fun ys y h => done ys y h.1 h.2) n 0 [] y₀ (Nat.zero_add n) ⟨hp, h2.2 st0.nd⟩
  rintro i ys y v I oI C oC D m₂ h tk E' hi hv ⟨hP, hn⟩ hC hx F' N' off ne
  have hw := wpG_ok (Rd.comp F c m scope cl C oC x v hkind ⟨m₂, hC, hx⟩) 20 _ _ _ _ (turn i ys y v I C D oI oC ⟨m₂, hC, hx⟩ hi hv hP)
  refine W.step hw ok (s := { s with heap := h, toks := tk }) ⟨⟨m, F', fun m₀ e => Option.some.inj e, st0.fixed.2⟩, N', tri_nd hn off ne, st0.ge, st0.dr, st0.os⟩ ?_
  intro v' ls' ld' s' st' he
  exact comp_end st0.ge st0.dr st0.os st' hS he fun y hP hn => ⟨y, rfl, hP, hn⟩
theorem comp_turnsT {n : Nat} {S : Led → Prop} {Pv : Nat → Value → Prop} {Fin : List Value → Led → Prop} (ok : c.Ok) (hkind : scope.kind = .function) {s : Shared} {ld₀ : Led} (st0 : St (F.fix m) c ls ld₀ s) (Ld : σ → Led) (P : Nat → List Value → σ → Prop) (y₀ : σ) (h2 : Sub2 (Ld y₀) ld₀) (hp : P 0 [] y₀) (hS : ∀ y, S (Ld y))
    (turn : ∀ i ys y v I C D oI oC (hC : ∃ m₂, LCg.NsObj oC m₂ ∧ m₂ x = some v), i < n → Pv i v → P i ys y → wpTG (Rd.comp F c m scope cl C oC x v hkind hC) 10 ct (fun b ls1 ld1 => (b = true → wpG (Rd.comp F c m scope cl C oC x v hkind hC) 20 elt (cmpK Ld (P (i + 1)) ys I C D oI oC) ls1 ld1) ∧ (b = false → cmpK0 Ld (P (i + 1)) ys I C D oI oC ls1 ld1)) ls (tri I C D oI oC ys (Ld y)))
    (done : ∀ ys y, P n ys y → ((Ld y).map (·.1)).Nodup → Fin ys (Ld y)) {g : Heap} : LCt.CompRestT PySem.Challenge.rw_no0180_01.row.toRowW.prog c.w (c.A F) c.g c.L m (F.env c.L) ct elt x scope cl { s with heap := g } S Pv Fin n 0 [] (Ld y₀) := by
  refine compRestT_inv (σ := σ) Ld (fun i ys y => P i ys y ∧ ((Ld y).map (·.1)).Nodup) (n := n) ?_ (fun ys y h => done ys y h.1 h.2) n 0 [] y₀ (Nat.zero_add n) ⟨hp, h2.2 st0.nd⟩
  rintro i ys y v I oI C oC D m₂ h tk E' hi hv ⟨hP, hn⟩ hC hx F' N' off ne
  have hw := wpTG_ok (Rd.comp F c m scope cl C oC x v hkind ⟨m₂, hC, hx⟩) 10 _ _ _ _ (turn i ys y v I C D oI oC ⟨m₂, hC, hx⟩ hi hv hP)
  refine W.step hw ok (s := { s with heap := h, toks := tk }) ⟨⟨m, F', fun m₀ e => Option.some.inj e, st0.fixed.2⟩, N', tri_nd hn off ne, st0.ge, st0.dr, st0.os⟩ ?_
  rintro b ls' ld' s' st' ⟨he1, he2⟩
  cases b with
  | true =>
    rw [if_pos rfl]
    refine W.step (wpG_ok (Rd.comp F c m scope cl C oC x v hkind ⟨m₂, hC, hx⟩) 20 _ _ _ _ (he1 rfl)) ok st' ?_
    intro v' ls2 ld2 s2 st2 he
    exact comp_end st0.ge st0.dr st0.os st2 hS he fun y hP hn => ⟨y, rfl, hP, hn⟩
  | false =>
    rw [if_neg (by decide)]
    exact comp_end st0.ge st0.dr st0.os st' hS (he2 rfl) fun y hP hn => ⟨y, rfl, hP, hn⟩
theorem CompW.list {l : Addr} {vs : List Value} {n : Nat} (hkind : scope.kind = .function) (Ld : σ → Led) (P : Nat → List Value → σ → Prop) (y₀ : σ) (h2 : Sub2 (Ld y₀) ld) (hp : P 0 [] y₀) (hl : ∀ y, (l, listOf vs.toArray n) ∈ Ld y) (hz : vs.length ≤ 1000)
    (turn : ∀ i ys y v I C D oI oC (hC : ∃ m₂, LCg.NsObj oC m₂ ∧ m₂ x = some v), i < vs.length → vs[i]? = some v → P i ys y → wpG (Rd.comp F c m scope cl C oC x v hkind hC) 20 elt (cmpK Ld (P (i + 1)) ys I C D oI oC) ls (tri I C D oI oC ys (Ld y)))
    (done : ∀ ys y, P vs.length ys y → fin ys ls (Ld y)) : CompW F c m elt x scope cl fin (.ref l) ls ld := fun ok s st Fin hF => by
  have N' : News c.g c.L s.heap (Ld y₀) := fun p hp => st.N p (h2.1 p hp)
  have e : vs.toArray.size = vs.length := by simp
  refine LCg.CompSrc.ledger rfl st.fixed.1 N' (hl y₀) (by rw [e, PySem.sizeLine_eq]; omega) fun g => ?_
  rw [e]
  exact comp_turns ok hkind st Ld P y₀ h2 hp (fun y => .inr ⟨_, hl y, rfl, _, rfl⟩) (fun i ys y v I C D oI oC hC hi hv hP => turn i ys y v I C D oI oC hC hi (by simpa using hv) hP) fun ys y hP hn => hF g ys _ hn (done ys y hP)
theorem CompWT.list {l : Addr} {vs : List Value} {n : Nat} (hkind : scope.kind = .function) (Ld : σ → Led) (P : Nat → List Value → σ → Prop) (y₀ : σ) (h2 : Sub2 (Ld y₀) ld) (hp : P 0 [] y₀) (hl : ∀ y, (l, listOf vs.toArray n) ∈ Ld y) (hz : vs.length ≤ 1000)
    (turn : ∀ i ys y v I C D oI oC (hC : ∃ m₂, LCg.NsObj oC m₂ ∧ m₂ x = some v), i < vs.length → vs[i]? = some v → P i ys y → wpTG (Rd.comp F c m scope cl C oC x v hkind hC) 10 ct (fun b ls1 ld1 => (b = true → wpG (Rd.comp F c m scope cl C oC x v hkind hC) 20 elt (cmpK Ld (P (i + 1)) ys I C D oI oC) ls1 ld1) ∧ (b = false → cmpK0 Ld (P (i + 1)) ys I C D oI oC ls1 ld1)) ls (tri I C D oI oC ys (Ld y)))
    (done : ∀ ys y, P vs.length ys y → fin ys ls (Ld y)) : CompWT F c m ct elt x scope cl fin (.ref l) ls ld := fun ok s st Fin hF => by
  have N' : News c.g c.L s.heap (Ld y₀) := fun p hp => st.N p (h2.1 p hp)
  have e : vs.toArray.size = vs.length := by simp
  refine LCt.CompSrcT.ledger rfl st.fixed.1 N' (hl y₀) (by rw [e, PySem.sizeLine_eq]; omega) fun g => ?_
  rw [e]
  exact comp_turnsT ok hkind st Ld P y₀ h2 hp (fun y => .inr ⟨_, hl y, rfl, _, rfl⟩) (fun i ys y v I C D oI oC hC hi hv hP => turn i ys y v I C D oI oC hC hi (by simpa using hv) hP) fun ys y hP hn => hF g ys _ hn (done ys y hP)
theorem CompW.range {r : Addr} {b : Int} {t u v : Tok} {n : Nat} (hkind : scope.kind = .function) (Ld : σ → Led) (P : Nat → List Value → σ → Prop) (y₀ : σ) (hr : (r, rangeO 0 b 1 t u v) ∈ ld) (hsm : Builtin.Range.small 0 b 1 = true) (hn : Builtin.Range.rangeSize 0 b 1 = (n : Int)) (hz : n ≤ 1000) (h2 : Sub2 (Ld y₀) ld) (hp : P 0 [] y₀)
    (turn : ∀ i ys y v I C D oI oC (hC : ∃ m₂, LCg.NsObj oC m₂ ∧ m₂ x = some v), i < n → (∃ t, v = .int (i : Int) t) → P i ys y → wpG (Rd.comp F c m scope cl C oC x v hkind hC) 20 elt (cmpK Ld (P (i + 1)) ys I C D oI oC) ls (tri I C D oI oC ys (Ld y)))
    (done : ∀ ys y, P n ys y → fin ys ls (Ld y)) : CompW F c m elt x scope cl fin (.ref r) ls ld := fun ok s st Fin hF => by
  have N' : News c.g c.L s.heap (Ld y₀) := fun p hp => st.N p (h2.1 p hp)
  refine LCg.CompSrc.range rfl st.fixed.1 N' (st.N _ hr).1 hsm hn (by rw [PySem.sizeLine_eq]; omega) fun g => ?_
  exact comp_turns ok hkind st Ld P y₀ h2 hp (fun y => trivial) (fun i ys y v I C D oI oC hC hi hv hP => turn i ys y v I C D oI oC hC hi (by obtain ⟨t, rfl⟩ := hv; exact ⟨t, by rw [Int.zero_add]⟩) hP) fun ys y hP hn => hF g ys _ hn (done ys y hP)
end
theorem W.asg {y : Str} {py spos : Pos} {e : Expr} {k : Flow → Loc → Led → Prop} (h : W F c (eval e (F.env c.L)) (fun v => stoV F c y v (k .next)) ls ld) (hs : swapsWith e (some (.Name y py)) spos.line (F.env c.L) = pure false) : W F c (exec (.Assign [.Name y py] e spos) (F.env c.L)) k ls ld := fun ok s st =>
  wpAny_Assign_Name (W.step h ok st fun v ls1 ld1 s1 st1 h1 => stoV_ok h1 ok st1 fun ls2 ld2 s2 st2 h2 => ⟨ls2, ld2, st2, h2⟩) hs
end
end
end Mine
end
section
set_option Elab.async false
set_option maxRecDepth 100000
set_option maxHeartbeats 4000000
set_option linter.unusedVariables false
namespace Mine
noncomputable section
open PySem PySem.W PySem.Calls PyProof.Rows
noncomputable def fRank : Fn := ⟨Str.ofString "rank", fS (sT 30), 417, .ref 416, 900, 9000, rfl, none⟩
theorem sRank : Stands fRank (sT 30) := fun _ => by kernel_rfl
theorem rank_spec (w : World) (c : Addr) (tag val : Int) (t1 t2 : Tok) : PSpec w 417 [.ref c] 900 9000 (fun g => IsTup g c [.int tag t1, .int val t2].toArray) (fun t => .int (rankOf tag) t) := by
  refine Spec.ofW fRank (sT 30) sRank rfl (fun _ _ _ _ _ => rfl) rfl rfl (fun _ _ => .nil) ?_
  intro c hw hp
  intro t0
  refine W.itup (.inl hp) rfl rfl ?_
  refine And.intro (fun h t => pend (t := t) (by rw [rankOf, if_pos (eq_of_beq h)])) (fun h => ?_)
  have n5 := ne_of_beq_false h
  refine And.intro (fun h t => pend (t := t) (by rw [rankOf, if_neg n5, if_pos (eq_of_beq h)])) (fun h => ?_)
  have n4 := ne_of_beq_false h
  refine And.intro (fun h => ?_) (fun h => ?_)
  · refine And.intro (fun _ t => pend (t := t) (by rw [rankOf, if_neg n5, if_neg n4, if_pos (.inl (eq_of_beq h))])) (fun h => nomatch h)
  · have n2 := ne_of_beq_false h
    refine And.intro (fun h t => pend (t := t) (by rw [rankOf, if_neg n5, if_neg n4, if_pos (.inr (eq_of_beq h))])) (fun h t => pend (t := t) (by rw [rankOf, if_neg n5, if_neg n4, if_neg (fun q => q.elim n2 (ne_of_beq_false h))]))
end
end Mine
end
section
set_option Elab.async false
set_option maxRecDepth 100000
set_option maxHeartbeats 1000000
set_option linter.unusedVariables false
namespace Mine
noncomputable section
open PySem PySem.W PySem.Calls PyProof.Rows
section
variable {F : Fn} {c : Cx} {ls : Loc} {ld : Led}
theorem W.ltTup {i a b : Int} {t1 t2 t3 t4 : Tok} {p q : Addr} {k : Value → Loc → Led → Prop} (hp : TupIs c ld p [.int i t1, .int a t2]) (hq : TupIs c ld q [.int i t3, .int b t4]) (hk : k (.bool (decide (a < b))) ls ld) (hu : Nat.ble ((c.A F).units + 1) cLine = true := by rfl) :
    W F c (compareOp .Lt (.ref p) (.ref q)) k ls ld := fun _ s st => tup2_lt (hp.at st) (hq.at st) (Nat.le_of_ble_eq_true hu) ⟨ls, ld, st, hk⟩
theorem W.gtTup {i a b : Int} {t1 t2 t3 t4 : Tok} {p q : Addr} {k : Value → Loc → Led → Prop} (hp : TupIs c ld p [.int i t1, .int a t2]) (hq : TupIs c ld q [.int i t3, .int b t4]) (hk : k (.bool (decide (b < a))) ls ld) (hu : Nat.ble ((c.A F).units + 1) cLine = true := by rfl) :
    W F c (compareOp .Gt (.ref p) (.ref q)) k ls ld := fun _ s st => tup2_gt (hp.at st) (hq.at st) (Nat.le_of_ble_eq_true hu) ⟨ls, ld, st, hk⟩
theorem W.ltStr {a b : Str} {t u : Tok} {k : Value → Loc → Led → Prop} (hk : k (.bool (decide (a.cps.toList < b.cps.toList))) ls ld) : W F c (compareOp .Lt (.str a t) (.str b u)) k ls ld := fun ok s st => lt_str ⟨ls, ld, st, hk⟩
theorem W.gtStr {a b : Str} {t u : Tok} {k : Value → Loc → Led → Prop} (hk : k (.bool (decide (b.cps.toList < a.cps.toList))) ls ld) : W F c (compareOp .Gt (.str a t) (.str b u)) k ls ld := fun ok s st => P.gt_str ⟨ls, ld, st, hk⟩
theorem W.orE {a b : Expr} {pos : Pos} {k : Value → Loc → Led → Prop} (h : wpE F c 20 a (fun v ls ld => ∃ r, v = .bool r ∧ (r = true → k (.bool true) ls ld) ∧ (r = false → wpE F c 20 b k ls ld)) ls ld) : W F c (eval (.BoolOp .Or [a, b] pos) (F.env c.L)) k ls ld := fun ok s st => by
  refine BoolOp_or ((wpE_ok 20 _ _ _ _ h).step ok st ?_)
  rintro v ls1 ld1 s1 st1 ⟨r, rfl, h1, h2⟩
  refine wpAny_truthy_bool ?_
  cases r with
  | true => rw [if_pos rfl]; exact ⟨ls1, ld1, st1, h1 rfl⟩
  | false => rw [if_neg (by decide)]; exact BoolOp_one (wpE_ok 20 _ _ _ _ (h2 rfl) ok s1 st1)
theorem W.ifE {t a b : Expr} {pos : Pos} {k : Value → Loc → Led → Prop} (h : wpT F c 10 t (fun r ls ld => (r = true → wpE F c 20 a k ls ld) ∧ (r = false → wpE F c 20 b k ls ld)) ls ld) : W F c (eval (.IfExp t a b pos) (F.env c.L)) k ls ld := fun ok s st => by
  refine IfExp_ ((wpT_ok 10 _ _ _ _ h).step ok st ?_)
  rintro r ls1 ld1 s1 st1 ⟨h1, h2⟩
  cases r with
  | true => rw [if_pos rfl]; exact wpE_ok 20 _ _ _ _ (h1 rfl) ok s1 st1
  | false => rw [if_neg (by decide)]; exact wpE_ok 20 _ _ _ _ (h2 rfl) ok s1 st1
end
noncomputable def fOrd : Fn := ⟨Str.ofString "order", fS (sT 31), 424, .ref 423, 900, 9000, rfl, none⟩
theorem sOrd : Stands fOrd (sT 31) := fun _ => by kernel_rfl
theorem order_int (w : World) (a b : Int) (t1 t2 : Tok) : PSpec w 424 [.int a t1, .int b t2] 900 9000 (fun _ => True) (fun t => .int (sg a b) t) := by
  refine Spec.ofW fOrd (sT 31) sOrd rfl (fun _ _ _ _ _ => rfl) rfl rfl (fun _ _ => .nil) ?_
  intro x hw hp
  refine And.intro (fun h t => W.neg fun t2 => pend (t := t2) ?_) (fun h => And.intro (fun h2 t => pend (t := t) ?_) (fun h2 t => pend (t := t) ?_))
  · rw [sg, if_pos (of_decide_eq_true h)]
  · rw [sg, if_neg (of_decide_eq_false h), if_pos (of_decide_eq_true h2)]
  · rw [sg, if_neg (of_decide_eq_false h), if_neg (of_decide_eq_false h2)]
theorem order_tup (w : World) (p q : Addr) (a b : Int) (t1 t2 t3 t4: Tok) : PSpec w 424 [.ref p, .ref q] 900 9000 (fun g => IsTup g p [.int 0 t1, .int a t2].toArray ∧ IsTup g q [.int 0 t3, .int b t4].toArray) (fun t => .int (sg a b) t) := by
  refine Spec.ofW fOrd (sT 31) sOrd rfl (fun _ _ _ _ _ => rfl) rfl rfl (fun _ _ => .nil) ?_
  intro x hw hp
  refine W.ltTup (.inl hp.1) (.inl hp.2) ⟨_, rfl, And.intro (fun h t => W.neg fun t2 => pend (t := t2) ?_) (fun h => W.gtTup (.inl hp.1) (.inl hp.2) ⟨_, rfl, And.intro (fun h2 t => pend (t := t) ?_) (fun h2 t => pend (t := t) ?_)⟩)⟩
  · rw [sg, if_pos (of_decide_eq_true h)]
  · rw [sg, if_neg (of_decide_eq_false h), if_pos (of_decide_eq_true h2)]
  · rw [sg, if_neg (of_decide_eq_false h), if_neg (of_decide_eq_false h2)]
theorem txt_lt {a b : Int} (ha : a = 0 ∨ a = 4) (hb : b = 0 ∨ b = 4) : decide ((txtOf a).cps.toList < (txtOf b).cps.toList) = decide (akey a < akey b) := by
  rcases ha with rfl | rfl <;> rcases hb with rfl | rfl <;> decide
theorem order_txt (w : World) (a b : Int) (ha : a = 0 ∨ a = 4) (hb : b = 0 ∨ b = 4) (t1 t2 : Tok) : PSpec w 424 [.str (txtOf a) t1, .str (txtOf b) t2] 900 9000 (fun _ => True) (fun t => .int (sg (akey a) (akey b)) t) := by
  refine Spec.ofW fOrd (sT 31) sOrd rfl (fun _ _ _ _ _ => rfl) rfl rfl (fun _ _ => .nil) ?_
  intro x hw hp
  refine W.ltStr ⟨_, rfl, ?_⟩
  rw [txt_lt ha hb]
  refine And.intro (fun h t => W.neg fun t2 => pend (t := t2) ?_) (fun h => W.gtStr ⟨_, rfl, ?_⟩)
  · rw [sg, if_pos (of_decide_eq_true h)]
  rw [txt_lt hb ha]
  refine And.intro (fun h2 t => pend (t := t) ?_) (fun h2 t => pend (t := t) ?_)
  · rw [sg, if_neg (of_decide_eq_false h), if_pos (of_decide_eq_true h2)]
  · rw [sg, if_neg (of_decide_eq_false h), if_neg (of_decide_eq_false h2)]
noncomputable def fDer : Fn := ⟨Str.ofString "Cells.deref", fS (sM 25 5), 229, .ref 228, 900, 9000, rfl, none⟩
theorem sDer : Stands fDer (sM 25 5) := fun _ => by kernel_rfl
theorem deref_spec (w : World) (st c sy hl ds sk tr : Addr) (xs : List Value) (k : Nat → Tok) (n : Nat) (tag val : Int) (t1 t2 : Tok) :
    PSpec w 229 [.ref st, .ref c] 900 9000 (fun g => StG w g st sy hl xs ds sk tr k n ∧ IsTup g c [.int tag t1, .int val t2].toArray ∧ tag ≠ 1 ∧ (tag = 0 → 0 ≤ val ∧ val < 2 ^ 63 ∧ xs[val.toNat]? = some (.ref c))) (fun t => .ref c) := by
  refine Spec.ofW fDer (sM 25 5) sDer rfl (fun _ _ _ _ _ => rfl) rfl rfl (fun _ _ => .nil) ?_
  intro x hw hp
  subst hw
  obtain ⟨hS, h2, h3, h4⟩ := hp
  refine W.whileU 1 (And.intro (fun _ t => W.itup (.inl h2) rfl rfl (And.intro (fun h => ?_) (fun h => And.intro (fun h1 => absurd (eq_of_beq h1) h3) (fun _ => pend (t := t) rfl)))) tf)
  obtain ⟨h5, h6, h7⟩ := h4 (eq_of_beq h)
  exact W.attr hS.ins rfl rfl fun u => W.itup (.inl h2) rfl rfl (W.ilist (.inl hS.h) h5 h6 h7 (W.eqTup (.inl h2) (.inl h2) ⟨_, rfl, And.intro (fun _ => pend (t := t) rfl) (fun h8 => absurd ⟨rfl, rfl⟩ (of_decide_eq_false h8))⟩))
noncomputable def fIsC : Fn := ⟨Str.ofString "Cells.is_compound", fS (sM 25 13), 285, .ref 284, 900, 9000, rfl, none⟩
theorem sIsC : Stands fIsC (sM 25 13) := fun _ => by kernel_rfl
theorem is_compound_spec (w : World) (st c : Addr) (tag val : Int) (t1 t2 : Tok) :
    PSpec w 285 [.ref st, .ref c] 900 9000 (fun g => IsTup g c [.int tag t1, .int val t2].toArray) (fun t => .bool (decide (tag = 2 ∨ tag = 3))) := by
  refine Spec.ofW fIsC (sM 25 13) sIsC rfl (fun _ _ _ _ _ => rfl) rfl rfl (fun _ _ => .nil) ?_
  intro x hw hp
  refine W.orE fun t => W.itup (.inl hp) rfl rfl ⟨_, rfl, fun h => pend (t := t) ?_, fun h t => W.itup (.inl hp) rfl rfl (pend (t := t) ?_)⟩
  · rw [decide_eq_true (.inl (eq_of_beq h))]
  · refine congrArg Value.bool ?_
    have n2 := ne_of_beq_false h
    show decide (tag = 3) = decide (tag = 2 ∨ tag = 3)
    by_cases h3 : tag = 3
    · rw [decide_eq_true h3, decide_eq_true (.inr h3)]
    · rw [decide_eq_false h3, decide_eq_false (fun q => q.elim n2 h3)]
noncomputable def fBase : Fn := ⟨Str.ofString "Cells.base", fS (sM 25 16), 306, .ref 305, 900, 9000, rfl, none⟩
theorem sBase : Stands fBase (sM 25 16) := fun _ => by kernel_rfl
theorem base_spec (w : World) (st c : Addr) (tag val : Int) (t1 t2 : Tok) :
    PSpec w 306 [.ref st, .ref c] 900 9000 (fun g => IsTup g c [.int tag t1, .int val t2].toArray) (fun t => .int (if tag = 3 then val else val + 1) t) := by
  refine Spec.ofW fBase (sM 25 16) sBase rfl (fun _ _ _ _ _ => rfl) rfl rfl (fun _ _ => .nil) ?_
  intro x hw hp
  refine fun t => W.itup (.inl hp) rfl rfl (And.intro (fun h t => W.itup (.inl hp) rfl rfl (pend (t := t2) ?_)) (fun h t => W.itup (.inl hp) rfl rfl fun t t3 => pend (t := t3) ?_))
  · rw [if_pos (eq_of_beq h)]
  · rw [if_neg (ne_of_beq_false h)]
noncomputable def fAri : Fn := ⟨Str.ofString "Symbols.arity", fS (sM 12 6), 123, .ref 122, 950, 9300, rfl, none⟩
theorem sAri : Stands fAri (sM 12 6) := fun _ => by kernel_rfl
theorem arity_spec (w : World) (sy dy tx an fs fn q : Addr) (txs fns : List Value) (k : Nat → Tok) (n : Nat) (f x a : Int) (t1 t2 t3 : Tok) :
    PSpec w 123 [.ref sy, .int f t1] 950 9300 (fun g => SyG w g sy txs fns dy tx an fs fn k n ∧ 0 ≤ f ∧ f < 2 ^ 63 ∧ fns[f.toNat]? = some (.ref q) ∧ IsTup g q [.int x t2, .int a t3].toArray) (fun t => .int a t3) := by
  refine Spec.ofW fAri (sM 12 6) sAri rfl (fun _ _ _ _ _ => rfl) rfl rfl (fun _ _ => .nil) ?_
  intro x hw hp
  subst hw
  obtain ⟨hY, h1, h2, h3, h4⟩ := hp
  exact W.attr hY.ins rfl rfl (W.ilist (.inl hY.f) h1 h2 h3 fun t => W.itup (.inl h4) rfl rfl (pend (t := t) rfl))
noncomputable def fTxt : Fn := ⟨Str.ofString "Symbols.text", fS (sM 12 2), 95, .ref 94, 950, 9300, rfl, none⟩
theorem sTxt : Stands fTxt (sM 12 2) := fun _ => by kernel_rfl
theorem text_spec (w : World) (sy dy tx an fs fn : Addr) (txs fns : List Value) (k : Nat → Tok) (n : Nat) (f : Int) (x : Str) (t1 t2 : Tok) :
    PSpec w 95 [.ref sy, .int f t1] 950 9300 (fun g => SyG w g sy txs fns dy tx an fs fn k n ∧ 0 ≤ f ∧ f < 2 ^ 63 ∧ txs[f.toNat]? = some (.str x t2)) (fun t => .str x t2) := by
  refine Spec.ofW fTxt (sM 12 2) sTxt rfl (fun _ _ _ _ _ => rfl) rfl rfl (fun _ _ => .nil) ?_
  intro x hw hp
  subst hw
  obtain ⟨hY, h1, h2, h3⟩ := hp
  exact W.attr hY.ins rfl rfl (W.ilist (.inl hY.t) h1 h2 h3 (pend (t := t1) rfl))
noncomputable def fFof : Fn := ⟨Str.ofString "Cells.functor_of", fS (sM 25 14), 292, .ref 291, 950, 9300, rfl, none⟩
theorem sFof : Stands fFof (sM 25 14) := fun _ => by kernel_rfl
theorem functor_lis (w : World) (st c : Addr) (val : Int) (t1 t2 : Tok) :
    PSpec w 292 [.ref st, .ref c] 950 9300 (fun g => IsTup g c [.int 3 t1, .int val t2].toArray) (fun _ => .int 0 247) := by
  refine Spec.ofW fFof (sM 25 14) sFof rfl (fun _ _ _ _ _ => rfl) rfl rfl (fun _ _ => .nil) ?_
  intro x hw hp
  exact fun t => W.itup (.inl hp) rfl rfl (And.intro ft fun _ => And.intro (fun _ => pend (t := t) rfl) tf)
theorem functor_str (w : World) (st c cf sy hl ds sk tr : Addr) (xs : List Value) (k : Nat → Tok) (n : Nat) (p : Nat) (f : Int) (t1 t2 t3 t4 : Tok) :
    PSpec w 292 [.ref st, .ref c] 950 9300 (fun g => StG w g st sy hl xs ds sk tr k n ∧ IsTup g c [.int 2 t1, .int p t2].toArray ∧ p < 2 ^ 62 ∧ xs[p]? = some (.ref cf) ∧ IsTup g cf [.int 6 t3, .int f t4].toArray) (fun _ => .int f t4) := by
  refine Spec.ofW fFof (sM 25 14) sFof rfl (fun _ _ _ _ _ => rfl) rfl rfl (fun _ _ => .nil) ?_
  intro x hw hp
  subst hw
  obtain ⟨hS, h2, h3, h4, h5⟩ := hp
  exact fun t => W.itup (.inl h2) rfl rfl (And.intro (fun _ => W.attr hS.ins rfl rfl fun u => W.itup (.inl h2) rfl rfl (W.ilist (.inl hS.h) (Int.natCast_nonneg p) (by omega) h4 fun u2 => W.itup (.inl h5) rfl rfl (pend (t := t) rfl))) tf)
noncomputable def fShp : Fn := ⟨Str.ofString "compare_shapes", fS (sT 32), 431, .ref 430, 900, 9000, rfl, none⟩
theorem sShp : Stands fShp (sT 32) := fun _ => by kernel_rfl
theorem shapes_lis (w : World) (st c c' sy hl ds sk tr : Addr) (xs : List Value) (k : Nat → Tok) (n : Nat) (p p' : Int) (t1 t2 t3 t4 : Tok) :
    PSpec w 431 [.ref st, .ref c, .ref c'] 900 9000 (fun g => StG w g st sy hl xs ds sk tr k n ∧ IsTup g c [.int 3 t1, .int p t2].toArray ∧ IsTup g c' [.int 3 t3, .int p' t4].toArray) (fun t => .int 0 t) := by
  refine Spec.ofW fShp (sT 32) sShp rfl (fun _ _ _ _ _ => rfl) rfl rfl (fun _ _ => .nil) ?_
  intro x hw hp
  subst hw
  obtain ⟨hS, h2, h3⟩ := hp
  refine W.attr hS.ins rfl rfl (Exists.intro (.ref 292) (Exists.intro [.ref st] (And.intro (Meth.ins hS.ins rfl rfl) (W.callP (functor_lis _ st c p t1 t2) (fun g sg _ => h2.keeps sg) fun t => ?_))))
  exact Exists.intro (.ref 292) (Exists.intro [.ref st] (And.intro (Meth.ins hS.ins rfl rfl) (W.callP (functor_lis _ st c' p' t3 t4) (fun g sg _ => h3.keeps sg) fun t => And.intro (fun _ t => pend (t := t) rfl) tf)))
theorem shapes_str (w : World) (st c c' cf cf' sy hl ds sk tr : Addr) (xs : List Value) (k : Nat → Tok) (n : Nat) (p p' : Nat) (f : Int) (t1 t2 t3 t4 t5 t6 t7 t8 : Tok) :
    PSpec w 431 [.ref st, .ref c, .ref c'] 900 9000 (fun g => StG w g st sy hl xs ds sk tr k n ∧ IsTup g c [.int 2 t1, .int p t2].toArray ∧ IsTup g c' [.int 2 t3, .int p' t4].toArray ∧ p < 2 ^ 62 ∧ p' < 2 ^ 62 ∧
      xs[p]? = some (.ref cf) ∧ IsTup g cf [.int 6 t5, .int f t6].toArray ∧ xs[p']? = some (.ref cf') ∧ IsTup g cf' [.int 6 t7, .int f t8].toArray) (fun t => .int 0 t) := by
  refine Spec.ofW fShp (sT 32) sShp rfl (fun _ _ _ _ _ => rfl) rfl rfl (fun _ _ => .nil) ?_
  intro x hw hp
  subst hw
  obtain ⟨hS, h2, h3, h4, h5, h6, h7, h8, h9⟩ := hp
  refine W.attr hS.ins rfl rfl (Exists.intro (.ref 292) (Exists.intro [.ref st] (And.intro (Meth.ins hS.ins rfl rfl) (W.callP (functor_str _ st c cf sy hl ds sk tr xs k n p f t1 t2 t5 t6) (fun g sg _ => ⟨hS.keeps sg, h2.keeps sg, h4, h6, h7.keeps sg⟩) fun t => ?_))))
  refine Exists.intro (.ref 292) (Exists.intro [.ref st] (And.intro (Meth.ins hS.ins rfl rfl) (W.callP (functor_str _ st c' cf' sy hl ds sk tr xs k n p' f t3 t4 t7 t8) (fun g sg _ => ⟨hS.keeps sg, h3.keeps sg, h5, h8, h9.keeps sg⟩) fun t => And.intro (fun _ t => pend (t := t) rfl) fun h => ?_)))
  exact absurd rfl (ne_of_beq_false h)
noncomputable def fWid : Fn := ⟨Str.ofString "Cells.width", fS (sM 25 15), 299, .ref 298, 900, 9000, rfl, none⟩
theorem sWid : Stands fWid (sM 25 15) := fun _ => by kernel_rfl
theorem width_lis (w : World) (st c : Addr) (p : Int) (t1 t2 : Tok) :
    PSpec w 299 [.ref st, .ref c] 900 9000 (fun g => IsTup g c [.int 3 t1, .int p t2].toArray) (fun t => .int 2 t) := by
  refine Spec.ofW fWid (sM 25 15) sWid rfl (fun _ _ _ _ _ => rfl) rfl rfl (fun _ _ => .nil) ?_
  intro x hw hp
  exact fun t => W.itup (.inl hp) rfl rfl (And.intro (fun _ t => pend (t := t) rfl) tf)
theorem width_str (w : World) (st c cf sy hl ds sk tr dy tx an fs fn q : Addr) (xs txs fns : List Value) (k k2 : Nat → Tok) (n n2 p : Nat) (x : Int) (t1 t2 t5 t6 t7 t8 : Tok) :
    PSpec w 299 [.ref st, .ref c] 900 9000 (fun g => StG w g st sy hl xs ds sk tr k n ∧ SyG w g sy txs fns dy tx an fs fn k2 n2 ∧ IsTup g c [.int 2 t1, .int p t2].toArray ∧ p < 2 ^ 62 ∧
      xs[p]? = some (.ref cf) ∧ IsTup g cf [.int 6 t5, .int 13 t6].toArray ∧ fns[13]? = some (.ref q) ∧ IsTup g q [.int x t7, .int 2 t8].toArray) (fun t => .int 2 t8) := by
  refine Spec.ofW fWid (sM 25 15) sWid rfl (fun _ _ _ _ _ => rfl) rfl rfl (fun _ _ => .nil) ?_
  intro y hw hp
  subst hw
  obtain ⟨hS, hY, h2, h3, h4, h5, h6, h7⟩ := hp
  refine fun t => W.itup (.inl h2) rfl rfl (And.intro ft fun _ => And.intro (fun _ => ?_) tf)
  refine W.attr hS.ins rfl rfl (Exists.intro (.ref 123) (Exists.intro [.ref sy] (And.intro (Meth.ins hY.ins rfl rfl) (W.attr hS.ins rfl rfl fun u => W.itup (.inl h2) rfl rfl (W.ilist (.inl hS.h) (Int.natCast_nonneg p) (by omega) h4 fun u2 => W.itup (.inl h5) rfl rfl ?_)))))
  exact W.callP (arity_spec _ sy dy tx an fs fn q txs fns k2 n2 13 x 2 t6 t7 t8) (fun g sg _ => ⟨hY.keeps sg, by decide, by decide, h6, h7.keeps sg⟩) fun t => pend (t := t) rfl
noncomputable def fArg : Fn := ⟨Str.ofString "Cells.arg", fS (sM 25 17), 313, .ref 312, 850, 8500, rfl, none⟩
theorem sArg : Stands fArg (sM 25 17) := fun _ => by kernel_rfl
theorem arg_spec (w : World) (st c a sy hl ds sk tr : Addr) (xs : List Value) (k : Nat → Tok) (n p : Nat) (t1 t2 t3 : Tok) :
    PSpec w 313 [.ref st, .ref c, .int 1 t3] 850 8500 (fun g => StG w g st sy hl xs ds sk tr k n ∧ IsTup g c [.int 2 t1, .int p t2].toArray ∧ p < 2 ^ 62 ∧ xs[p + 1]? = some (.ref a)) (fun _ => .ref a) := by
  refine Spec.ofW fArg (sM 25 17) sArg rfl (fun _ _ _ _ _ => rfl) rfl rfl (fun _ _ => .nil) ?_
  intro x hw hp
  subst hw
  obtain ⟨hS, h2, h3, h4⟩ := hp
  refine W.attr hS.ins rfl rfl (Exists.intro (.ref 306) (Exists.intro [.ref st] (And.intro (Meth.ins hS.ins rfl rfl) (W.callP (base_spec _ st c 2 p t1 t2) (fun g sg _ => h2.keeps sg) fun t u1 u2 u3 => ?_))))
  have e : (if (2 : Int) = 3 then (p : Int) else p + 1) + 1 - 1 = ((p + 1 : Nat) : Int) := by rw [if_neg (by decide)]; omega
  rw [e]
  exact W.ilist (.inl hS.h) (Int.natCast_nonneg _) (by omega) h4 (pend (t := t) rfl)
noncomputable def fGlb : Fn := ⟨Str.ofString "Cells.globalise", fS (sM 25 9), 257, .ref 256, 850, 8500, rfl, none⟩
theorem sGlb : Stands fGlb (sM 25 9) := fun _ => by kernel_rfl
theorem glob_spec (w : World) (st c sy hl ds sk tr : Addr) (xs : List Value) (k : Nat → Tok) (n : Nat) (tag val : Int) (t1 t2 : Tok) :
    PSpec w 257 [.ref st, .ref c] 850 8500 (fun g => StG w g st sy hl xs ds sk tr k n ∧ IsTup g c [.int tag t1, .int val t2].toArray ∧ tag ≠ 1 ∧ (tag = 0 → 0 ≤ val ∧ val < 2 ^ 63 ∧ xs[val.toNat]? = some (.ref c))) (fun t => .ref c) := by
  refine Spec.ofW fGlb (sM 25 9) sGlb rfl (fun _ _ _ _ _ => rfl) rfl rfl (fun _ _ => .nil) ?_
  intro x hw hp
  subst hw
  obtain ⟨hS, h2, h3, h4⟩ := hp
  refine Exists.intro (.ref 229) (Exists.intro [.ref st] (And.intro (Meth.ins hS.ins rfl rfl) (W.callP (deref_spec _ st c sy hl ds sk tr xs k n tag val t1 t2) (fun g sg _ => ⟨hS.keeps sg, h2.keeps sg, h3, h4⟩) fun t u => ?_)))
  exact W.itup (.inl h2) rfl rfl (And.intro (fun h => absurd (eq_of_beq h) h3) fun _ => pend (t := t) rfl)
end
end Mine
end
section
set_option Elab.async false
set_option maxRecDepth 100000
set_option maxHeartbeats 4000000
set_option linter.unusedVariables false
namespace Mine
noncomputable section
open PySem PySem.W PySem.Calls PyProof.Rows
noncomputable def fTops : Fn := ⟨Str.ofString "compare_tops", fS (sT 33), 438, .ref 437, 850, 8500, rfl, none⟩
theorem sTops : Stands fTops (sT 33) := fun _ => by kernel_rfl
theorem tops_spec2 (w : World) (st c c' sy hl ds sk tr dy tx an fs fn : Addr) (xs txs fns : List Value) (k k2 : Nat → Tok) (n n2 : Nat) (t t' : Tm) :
    PSpec w 438 [.ref st, .ref c, .ref c'] 850 8500 (fun g => StG w g st sy hl xs ds sk tr k n ∧ SyG w g sy txs fns dy tx an fs fn k2 n2 ∧ SyOk g txs fns ∧ At g xs t c ∧ At g xs t' c' ∧ compat t t') (fun u => .int (topsC t t') u) := by
  refine Spec.ofW fTops (sT 33) sTops rfl (fun _ _ _ _ _ => rfl) rfl rfl (fun _ _ => .nil) ?_
  intro x hw hp
  subst hw
  obtain ⟨hS, hY, hO, h1, h2, h3⟩ := hp
  obtain ⟨u1, u2, i1⟩ := h1.tup
  obtain ⟨u3, u4, i2⟩ := h2.tup
  refine W.callP (rank_spec _ c (tagOf t) (valOf t) u1 u2) (fun g sg _ => IsTup.keeps i1 sg) fun t1 => ?_
  refine W.callP (rank_spec _ c' (tagOf t') (valOf t') u3 u4) (fun g sg _ => IsTup.keeps i2 sg) fun t2 => ?_
  refine W.callP (order_int _ _ _ t1 t2) (fun _ _ _ => trivial) fun t3 => ?_
  intro t4
  refine And.intro (fun h => pend (t := t3) (congrArg (Value.int · t3) (if_pos (bne_iff_ne.mp h) : topsC t t' = _).symm)) (fun h => ?_)
  have hz : sg (rankOf (tagOf t)) (rankOf (tagOf t')) = 0 := by simpa using h
  have hr' := sg_zero.mp hz
  have hT : topsC t t' = _ := if_neg (fun q => q hz)
  rw [hT]
  intro t5
  cases t with
  | var k =>
    cases t' with
    | var k' => exact And.intro (fun _ => W.callP (order_tup _ c c' _ _ u1 u2 u3 u4) (fun g sg _ => ⟨IsTup.keeps i1 sg, IsTup.keeps i2 sg⟩) fun t6 => pend rfl) (fun h => tf h)
    | int i => exact absurd hr' (by simp [rankOf, tagOf])
    | atom i => exact absurd hr' (by simp [rankOf, tagOf])
    | node f p a b => cases f <;> exact absurd hr' (by simp [rankOf, tagOf])
  | int i =>
    cases t' with
    | int i' =>
      refine And.intro (fun h => ft h) (fun _ t6 => And.intro (fun _ t7 => ?_) (fun h => tf h))
      exact W.itup (.inl i1) rfl rfl fun t8 => W.itup (.inl i2) rfl rfl (W.callP (order_int _ _ _ u2 u4) (fun _ _ _ => trivial) fun t9 => pend rfl)
    | var k' => exact absurd hr' (by simp [rankOf, tagOf])
    | atom i => exact absurd hr' (by simp [rankOf, tagOf])
    | node f p a b => cases f <;> exact absurd hr' (by simp [rankOf, tagOf])
  | atom i =>
    cases t' with
    | atom i' =>
      obtain ⟨v1, h6⟩ := hO.t i h1.2
      obtain ⟨v2, h7⟩ := hO.t i' h2.2
      refine And.intro (fun h => ft h) (fun _ t6 => And.intro (fun h => ft h) (fun _ t7 => And.intro (fun _ => ?_) (fun h => tf h)))
      refine W.attr hS.ins rfl rfl (Exists.intro (.ref 95) (Exists.intro [.ref sy] (And.intro (Meth.ins hY.ins rfl rfl) fun t8 => W.itup (.inl i1) rfl rfl ?_)))
      refine W.callP (text_spec _ sy dy tx an fs fn txs fns k2 n2 i (txtOf i) u2 v1) (fun g sg _ => ⟨hY.keeps sg, by rcases h1.2 with rfl | rfl <;> decide, by rcases h1.2 with rfl | rfl <;> decide, h6⟩) fun t9 => ?_
      refine W.attr hS.ins rfl rfl (Exists.intro (.ref 95) (Exists.intro [.ref sy] (And.intro (Meth.ins hY.ins rfl rfl) fun t8 => W.itup (.inl i2) rfl rfl ?_)))
      refine W.callP (text_spec _ sy dy tx an fs fn txs fns k2 n2 i' (txtOf i') u4 v2) (fun g sg _ => ⟨hY.keeps sg, by rcases h2.2 with rfl | rfl <;> decide, by rcases h2.2 with rfl | rfl <;> decide, h7⟩) fun t10 => ?_
      exact W.callP (order_txt _ _ _ h1.2 h2.2 v1 v2) (fun _ _ _ => trivial) fun t11 => pend rfl
    | var k' => exact absurd hr' (by simp [rankOf, tagOf])
    | int i => exact absurd hr' (by simp [rankOf, tagOf])
    | node f p a b => cases f <;> exact absurd hr' (by simp [rankOf, tagOf])
  | node f p a b =>
    cases t' with
    | node f' p' a' b' =>
      obtain ⟨rfl, _, _⟩ := h3
      cases f with
      | true =>
        refine And.intro (fun h => ft h) (fun _ t6 => And.intro (fun h => ft h) (fun _ t7 => And.intro (fun h => ft h) (fun _ => ?_)))
        exact W.callP (shapes_lis _ st c c' sy hl ds sk tr xs k n _ _ u1 u2 u3 u4) (fun g sg _ => ⟨hS.keeps sg, IsTup.keeps i1 sg, IsTup.keeps i2 sg⟩) fun t9 => pend rfl
      | false =>
        refine And.intro (fun h => ft h) (fun _ t6 => And.intro (fun h => ft h) (fun _ t7 => And.intro (fun h => ft h) (fun _ => ?_)))
        obtain ⟨_, h4, cf, _, _, h5, ⟨u5, u6, h6⟩, _⟩ := h1
        obtain ⟨_, h7, cf', _, _, h8, ⟨u7, u8, h9⟩, _⟩ := h2
        exact W.callP (shapes_str _ st c c' cf cf' sy hl ds sk tr xs k n _ _ 13 u1 u2 u3 u4 u5 u6 u7 u8) (fun g sg _ => ⟨hS.keeps sg, IsTup.keeps i1 sg, IsTup.keeps i2 sg, h4, h7, h5, IsTup.keeps h6 sg, h8, IsTup.keeps h9 sg⟩) fun t9 => pend rfl
    | var k' => cases f <;> exact absurd hr' (by simp [rankOf, tagOf])
    | int i => cases f <;> exact absurd hr' (by simp [rankOf, tagOf])
    | atom i => cases f <;> exact absurd hr' (by simp [rankOf, tagOf])
end
end Mine
end
section
set_option Elab.async false
set_option maxRecDepth 100000
set_option maxHeartbeats 4000000
set_option linter.unusedVariables false
namespace Mine
noncomputable section
open PySem PySem.W PySem.Calls PyProof.Rows
noncomputable def fPush : Fn := ⟨Str.ofString "push_pairs", fS (sT 29), 410, .ref 409, 800, 8000, rfl, none⟩
theorem sPush : Stands fPush (sT 29) := fun _ => by kernel_rfl
structure PuSt where
  l : List Value
  e : Nat
  d : Led
noncomputable def puLd (wk : Addr) (y : PuSt) : Led := (wk, listOf y.l.toArray y.e) :: y.d
noncomputable def PuP (wk a b a' b' : Addr) (ws : List Value) : Nat → PuSt → Prop
  | 0, y => y.l = ws ∧ y.d = []
  | 1, y => ∃ q1, wk < q1 ∧ y.l = ws ++ [.ref q1] ∧ y.d = [(q1, tupA [.ref b, .ref b'])]
  | _, y => ∃ q1 q2, wk < q1 ∧ q1 < q2 ∧ y.l = ws ++ [.ref q1, .ref q2] ∧ y.d = [(q2, tupA [.ref a, .ref a']), (q1, tupA [.ref b, .ref b'])]
theorem push_spec2 (w : World) (st c c' a b a' b' wk : Addr) (sy hl ds sk tr dy tx an fs fn : Addr) (xs txs fns ws : List Value) (k k2 : Nat → Tok) (n n2 e : Nat) (tag : Int) (p p' off : Nat) (t1 t2 t3 t4 : Tok) :
    Spec w 410 [.ref st, .ref c, .ref c', .ref wk] 800 8000 [(wk, listOf ws.toArray e)]
      (fun g => StG w g st sy hl xs ds sk tr k n ∧ SyG w g sy txs fns dy tx an fs fn k2 n2 ∧ SyOk g txs fns ∧ ws.length < 1000 ∧ p < 2 ^ 62 ∧ p' < 2 ^ 62 ∧
        (tag = 3 ∧ off = 0 ∨ tag = 2 ∧ off = 1 ∧ ∃ cf t5 t6, xs[p]? = some (.ref cf) ∧ IsTup g cf [.int 6 t5, .int 13 t6].toArray) ∧
        IsTup g c [.int tag t1, .int p t2].toArray ∧ IsTup g c' [.int tag t3, .int p' t4].toArray ∧
        xs[p + off]? = some (.ref a) ∧ xs[p + off + 1]? = some (.ref b) ∧ xs[p' + off]? = some (.ref a') ∧ xs[p' + off + 1]? = some (.ref b'))
      (fun v need' => v = Value.none ∧ ∃ (q1 q2 : Addr) (e' n1 n2 : Nat), wk < q1 ∧ q1 < q2 ∧ need' = [(q2, ({ cls := .type "tuple", data := .seq #[Value.ref a, Value.ref a'] n2 } : Obj)), (q1, ({ cls := .type "tuple", data := .seq #[Value.ref b, Value.ref b'] n1 } : Obj)), (wk, listOf (ws ++ [Value.ref q1, Value.ref q2]).toArray e')]) := by
  refine Spec.ofW fPush (sT 29) sPush rfl (fun _ _ _ _ _ => rfl) rfl rfl (fun _ _ => List.nodup_cons.mpr ⟨List.not_mem_nil, .nil⟩) ?_
  intro x hw hp
  subst hw
  obtain ⟨hS, hY, hO, h1, h2, h3, h4, h5, h6, h7, h8, h9, h10⟩ := hp
  have hoff : (if tag = 3 then (p : Int) else (p : Int) + 1) = ((p + off : Nat) : Int) := by rcases h4 with ⟨rfl, rfl⟩ | ⟨rfl, rfl, _⟩ <;> simp
  have hoff' : (if tag = 3 then (p' : Int) else (p' : Int) + 1) = ((p' + off : Nat) : Int) := by rcases h4 with ⟨rfl, rfl⟩ | ⟨rfl, rfl, _⟩ <;> simp
  have hof1 : off ≤ 1 := by rcases h4 with ⟨_, rfl⟩ | ⟨_, rfl, _⟩ <;> decide
  refine Exists.intro (.ref 306) (Exists.intro [.ref st] (And.intro (Meth.ins hS.ins rfl rfl) (W.callP (base_spec _ st c tag p t1 t2) (fun g sg _ => IsTup.keeps h5 sg) fun u1 => ?_)))
  refine Exists.intro (.ref 306) (Exists.intro [.ref st] (And.intro (Meth.ins hS.ins rfl rfl) (W.callP (base_spec _ st c' tag p' t3 t4) (fun g sg _ => IsTup.keeps h6 sg) fun u2 => ?_)))
  rw [hoff, hoff']
  have hwid : ∀ (F : Fn) (ls : Loc) (ld : Led) (kk : Value → Loc → Led → Prop), (Nat.ble (F.D + 1) 900 && Nat.ble (F.U + 3) 9000) = true → (∀ t, kk (.int 2 t) ls ld) → W F x (PySem.call (.ref 299) [.ref st, .ref c]) kk ls ld := by
    intro F ls ld kk hdu hk
    rcases h4 with ⟨rfl, rfl⟩ | ⟨rfl, rfl, cf, t5, t6, h13, h14⟩
    · exact W.callP (width_lis _ st c p t1 t2) (fun g sg _ => IsTup.keeps h5 sg) hk hdu
    · obtain ⟨q, u1, u2, h11, h12⟩ := hO.f
      exact W.callP (width_str _ st c cf sy hl ds sk tr dy tx an fs fn q xs txs fns k k2 n n2 p 3 t1 t2 t5 t6 u1 u2) (fun g sg _ => ⟨hS.keeps sg, hY.keeps sg, IsTup.keeps h5 sg, h2, h13, IsTup.keeps h14 sg, h11, IsTup.keeps h12 sg⟩) (fun _ => hk u2) hdu
  refine W.for (Exists.intro (.ref 299) (Exists.intro [.ref st] (And.intro (Meth.ins hS.ins rfl rfl) (hwid _ _ _ _ rfl fun v1 v2 v3 v4 => W.neg fun v5 v6 => W.neg fun v7 => W.range3 (by decide) (PyProof.noPylong_small (by decide)) fun R r1 r2 r3 hR => ?_))))
  refine IterW.range (n := 2) (fun _ => [(Str.ofString "store", .ref st), (Str.ofString "work", .ref wk), (Str.ofString "left_place", .int ((p + off : Nat) : Int) u1), (Str.ofString "right_place", .int ((p' + off : Nat) : Int) u2)]) (puLd wk) (PuP wk a b a' b' ws) ⟨ws, e, []⟩ (.head _) (by decide) (by decide) ⟨rfl, rfl, rfl, rfl, trivial⟩ (.dr 1 rfl) ⟨rfl, rfl⟩ ?turn ?done
  case done =>
    rintro ⟨l, e', d⟩ ⟨q1, q2, l1, l2, rfl, rfl⟩
    refine ⟨_, ?_, rfl, q1, q2, e', 0, 0, l1, l2, rfl⟩
    exact subI 1 rfl (subI 2 rfl (subI 0 rfl (fun _ h => nomatch h)))
  case turn =>
    have body : ∀ (l : List Value) (e' : Nat) (d : Led) (I : Addr) (o : Obj) (j : Nat) (st9 : Int) (v : Tok) (A B : Addr) (k9 : Flow → Loc → Led → Prop), st9 = j → j ≤ 1 → l.length ≤ 1001 → xs[p + off + j]? = some (.ref A) → xs[p' + off + j]? = some (.ref B) →
        (∀ q ls, (∀ r ∈ (I, o) :: puLd wk ⟨l, e', d⟩, r.1 < q) → KnowsL [(Str.ofString "store", .ref st), (Str.ofString "work", .ref wk), (Str.ofString "left_place", .int ((p + off : Nat) : Int) u1), (Str.ofString "right_place", .int ((p' + off : Nat) : Int) u2)] ls → k9 .next ls ((q, tupA [.ref A, .ref B]) :: (I, o) :: puLd wk ⟨l ++ [.ref q], e' + 1, d⟩)) →
        wpS fPush x 200 (match fB (sT 29) with | [_, _, .For _ _ b _ _] => b | _ => []) k9 ((Str.ofString "step", .int st9 v) :: [(Str.ofString "store", .ref st), (Str.ofString "work", .ref wk), (Str.ofString "left_place", .int ((p + off : Nat) : Int) u1), (Str.ofString "right_place", .int ((p' + off : Nat) : Int) u2)]) ((I, o) :: puLd wk ⟨l, e', d⟩) := by
      intro l e' d I o j st9 v A B k9 hj hj1 hl hA hB fin
      subst hj
      have a1 : (0 : Int) ≤ ((p + off : Nat) : Int) + (j : Int) := by omega
      have a2 : ((p + off : Nat) : Int) + (j : Int) < 2 ^ 63 := by omega
      have a3 : (0 : Int) ≤ ((p' + off : Nat) : Int) + (j : Int) := by omega
      have a4 : ((p' + off : Nat) : Int) + (j : Int) < 2 ^ 63 := by omega
      refine Exists.intro (.builtin "list.append") (Exists.intro [.ref wk] (And.intro (Meth.append (its := l.toArray) (n := e') 1 rfl) ?_))
      refine W.attr hS.ins rfl rfl (fun t5 => W.ilist (.inl hS.h) a1 a2 hA (W.attr hS.ins rfl rfl (fun t6 => W.ilist (.inl hS.h) a3 a4 hB (W.newTuple fun q hq => W.append 2 rfl (by omega) (fin q _ hq ⟨rfl, rfl, rfl, rfl, trivial⟩)))))
    rintro i ⟨l, e', d⟩ v I o hi hP hoI
    match i, hi, hP with
    | 0, _, hP =>
      obtain ⟨e1, e2⟩ : l = ws ∧ d = [] := hP
      subst e1 e2
      exact body l e' [] I o 1 _ v b b' _ (by decide) (by decide) (by omega) h8 h10 fun q ls hq hk => ⟨⟨l ++ [.ref q], e' + 1, [(q, tupA [.ref b, .ref b'])]⟩, hk, .mi 2 rfl, q, hq _ (.tail _ (.head _)), rfl, rfl⟩
    | 1, _, hP =>
      obtain ⟨q1, l1, e1, e2⟩ : ∃ q1, wk < q1 ∧ l = ws ++ [Value.ref q1] ∧ d = [(q1, tupA [Value.ref b, Value.ref b'])] := hP
      subst e1 e2
      exact body _ e' _ I o 0 _ v a a' _ (by decide) (by decide) (by simp; omega) h7 h9 fun q ls hq hk => ⟨⟨(ws ++ [.ref q1]) ++ [.ref q], e' + 1, [(q, tupA [.ref a, .ref a']), (q1, tupA [.ref b, .ref b'])]⟩, hk, .mi 2 rfl, q1, q, l1, hq _ (.tail _ (.tail _ (.head _))), List.append_assoc .., rfl⟩
end
end Mine
end
section
set_option Elab.async false
set_option maxRecDepth 100000
set_option maxHeartbeats 4000000
set_option linter.unusedVariables false
namespace Mine
noncomputable section
open PySem PySem.W PySem.Calls PyProof.Rows
theorem W.mul {F : Fn} {c : Cx} {ls : Loc} {ld : Led} {a b : Int} {t u : Tok} {k : Value → Loc → Led → Prop} (ha : 0 ≤ a ∧ a < 2 ^ 62) (hb : 0 ≤ b ∧ b < 2 ^ 62) (hk : ∀ t, k (.int (a * b) t) ls ld) : W F c (binaryOp .Mult (.int a t) (.int b u)) k ls ld := fun ok s st => by
  obtain ⟨h1, h2⟩ := ha
  obtain ⟨h3, h4⟩ := hb
  exact mul_int ⟨ls, ld, st.toks _, hk _⟩
noncomputable def fPset : Fn := ⟨Str.ofString "PairSet.__init__", fS (sM 28 0), 389, .ref 388, 800, 8000, rfl, none⟩
theorem sPset : Stands fPset (sM 28 0) := fun _ => by kernel_rfl
theorem pset_init (w : World) (st sy hl ds sk tr : Addr) (xs : List Value) (k : Nat → Tok) (n : Nat) (ps dp : Addr) (hne : ps ≠ dp) :
    Spec w 389 [.ref ps, .ref st] 800 8000 [(ps, instObj 399 dp), (dp, emptyDict)] (fun g => StG w g st sy hl xs ds sk tr k n ∧ xs.length < 2 ^ 60)
      (fun v need' => v = .none ∧ ∃ k0 k1 k2 sa so nn, ps < sa ∧ dp < sa ∧ ps ≠ dp ∧ need' = [(sa, so), (dp, dictOf (psEs w.params k0 k1 k2 (xs.length + 1) sa) nn), (ps, instObj 399 dp)] ∧ so.SetObjOf (intKind PySem.Challenge.rw_no0180_01.row.toRowW.prog w) (fun _ => false) 0) := by
  refine Spec.ofW fPset (sM 28 0) sPset rfl (fun _ _ _ _ _ => rfl) rfl rfl (fun _ _ => List.nodup_cons.mpr ⟨fun h => hne (List.mem_singleton.mp h), List.nodup_cons.mpr ⟨List.not_mem_nil, .nil⟩⟩) ?_
  intro x hw hp
  subst hw
  obtain ⟨hS, hl⟩ := hp
  refine W.setAttr (W.attr hS.ins rfl rfl (W.len (.inl hS.h) (by omega) fun t1 t2 t3 => W.setIns (es := []) (n := 0) 1 rfl (.inr (.head _)) rfl rfl fun k0 => ?_))
  refine W.setAttr (W.newSet fun sa so l1 hs => W.setIns 2 rfl (.inr (.tail _ (.head _))) rfl rfl fun k2 => ?_)
  refine ⟨_, ?_, rfl, k0, t3, k2, sa, so, 2, l1 _ (.head _), l1 _ (.tail _ (.head _)), hne, rfl, hs⟩
  exact subI 0 rfl (subI 2 rfl (subI 1 rfl (fun _ h => nomatch h)))
noncomputable def fAdd : Fn := ⟨Str.ofString "PairSet.add", fS (sM 28 1), 396, .ref 395, 850, 8500, rfl, none⟩
theorem sAdd : Stands fAdd (sM 28 1) := fun _ => by kernel_rfl
theorem add_spec2 (w : World) (ps dp sa c c' : Addr) (k0 k1 k2 : Tok) (n m : Nat) (sp tag tag' p p' : Int) (so : Obj) (S : Int → Bool) (t1 t2 t3 t4 : Tok) :
    Spec w 396 [.ref ps, .ref c, .ref c'] 850 8500 [(sa, so), (dp, dictOf (psEs w.params k0 k1 k2 sp sa) n), (ps, instObj 399 dp)]
      (fun g => IsTup g c [.int tag t1, .int p t2].toArray ∧ IsTup g c' [.int tag' t3, .int p' t4].toArray ∧ so.SetObjOf (intKind PySem.Challenge.rw_no0180_01.row.toRowW.prog w) S m ∧ m < 100 ∧ S (p * sp + p') = false ∧ (0 ≤ p ∧ p < 2 ^ 62) ∧ (0 ≤ sp ∧ sp < 2 ^ 62) ∧ ps ≠ sa ∧ dp ≠ sa ∧ ps ≠ dp)
      (fun v need' => v = .bool true ∧ ∃ (so' : Obj) (m' : Nat), need' = [(sa, so'), (dp, dictOf (psEs w.params k0 k1 k2 sp sa) n), (ps, instObj 399 dp)] ∧ m' ≤ m + 1 ∧ so'.SetObjOf (intKind PySem.Challenge.rw_no0180_01.row.toRowW.prog w) (fun x => S x || decide (x = p * sp + p')) m') := by
  refine Spec.ofW fAdd (sM 28 1) sAdd rfl (fun _ _ _ _ _ => rfl) rfl rfl (fun g h => ?_) ?_
  · obtain ⟨-, -, -, -, -, -, -, h1, h2, h3⟩ := h
    exact List.nodup_cons.mpr ⟨fun h => (List.mem_cons.mp h).elim h2.symm fun h => h1.symm (List.mem_singleton.mp h), List.nodup_cons.mpr ⟨fun h => h3.symm (List.mem_singleton.mp h), List.nodup_cons.mpr ⟨List.not_mem_nil, .nil⟩⟩⟩
  intro x hw hp
  subst hw
  obtain ⟨h1, h2, h3, h4, h5, hp1, hp2, -⟩ := hp
  have hI : ∀ so', InsIs x [(sa, so'), (dp, dictOf (psEs x.w.params k0 k1 k2 sp sa) n), (ps, instObj 399 dp)] ps 399 dp (psEs x.w.params k0 k1 k2 sp sa) n := fun so' => ⟨.inr (.tail _ (.tail _ (.head _))), .inr (.tail _ (.head _))⟩
  refine fun u1 => W.itup (.inl h1) rfl rfl (W.attr (hI so) rfl rfl (W.mul hp1 hp2 fun u2 u3 => W.itup (.inl h2) rfl rfl fun u4 => ?_))
  refine W.attr (hI so) rfl rfl (W.inSet 0 rfl h3 h4 ⟨_, rfl, fun h => absurd (h5.symm.trans h) (by decide), fun _ => ?_⟩)
  refine W.attr (hI so) rfl rfl (Exists.intro (.builtin "set.add") (Exists.intro [.ref sa] (And.intro (Meth.add 0 rfl h3 h4) (W.setAdd 0 rfl h3 h4 fun so' hs => ?_))))
  refine ⟨_, fun _ h => h, rfl, so', _, rfl, ?_, hs⟩
  rw [h5]; exact Nat.le_refl _
end
end Mine
end
section
set_option Elab.async false
set_option maxRecDepth 100000
set_option maxHeartbeats 4000000
set_option linter.unusedVariables false
namespace Mine
noncomputable section
open PySem PySem.W PySem.Calls PyProof.Rows
noncomputable def backR : List Ent → List Value
  | [] => []
  | r :: rest => backR rest ++ [.ref r.q]
theorem backR_len : ∀ l : List Ent, (backR l).length = l.length
  | [] => rfl
  | r :: rest => by rw [backR, List.length_append, backR_len rest]; rfl
structure CIv (w : World) (g : Heap) (xs : List Value) (C : Int) (c : CSt) : Prop where
  ok : ∀ r ∈ c.ents, At g xs r.t r.c ∧ At g xs r.t' r.c' ∧ compat r.t r.t'
  lex : lexC c.ents = C
  set : c.so.SetObjOf (intKind PySem.Challenge.rw_no0180_01.row.toRowW.prog w) c.S c.m
  nd : (numsL (xs.length + 1) c.ents).Nodup
  free : ∀ x ∈ numsL (xs.length + 1) c.ents, c.S x = false
  tot : c.m + total c.ents ≤ 60
noncomputable def cLe (P : Params) (wk sa dp ps : Addr) (k0 k1 k2 : Tok) (sp : Int) (n : Nat) (c : CSt) : Led :=
  (wk, listOf (backR c.ents).toArray c.e) :: (sa, c.so) :: (dp, dictOf (psEs P k0 k1 k2 sp sa) n) :: (ps, instObj 399 dp) :: c.ents.map Ent.row
theorem CIv.drop {w : World} {g : Heap} {xs : List Value} {C : Int} {r : Ent} {rest : List Ent} {so : Obj} {S : Int → Bool} {m e e' : Nat} (h : CIv w g xs C ⟨r :: rest, so, S, m, e⟩) (hc : cmpT r.t r.t' = 0) : CIv w g xs C ⟨rest, so, S, m, e'⟩ where
  ok := fun q hq => h.ok q (.tail _ hq)
  lex := by have := h.lex; rw [lexC, if_neg (fun x => x hc)] at this; exact this
  set := h.set
  nd := (List.nodup_append.mp (show (nums _ r.t r.t' ++ numsL _ rest).Nodup from h.nd)).2.1
  free := fun x hx => h.free x (List.mem_append_right _ hx)
  tot := Nat.le_trans (Nat.add_le_add_left (Nat.le_trans (Nat.le_add_left _ _) (Nat.le_of_eq (total_cons r rest).symm)) _) h.tot
theorem CIv.push {w : World} {g : Heap} {xs : List Value} {C : Int} {q c c' : Addr} {n : Nat} {f f' : Bool} {p p' : Nat} {a b a' b' : Tm} {rest : List Ent} {so so' : Obj} {S : Int → Bool} {m m' e e' : Nat}
    (h : CIv w g xs C ⟨⟨q, c, c', n, .node f p a b, .node f' p' a' b'⟩ :: rest, so, S, m, e⟩) {q1 q2 c1 c1' c2 c2' : Addr} {n1 n2 : Nat} (ha : At g xs a c1) (ha' : At g xs a' c1') (hb : At g xs b c2) (hb' : At g xs b' c2')
    (hs : so'.SetObjOf (intKind PySem.Challenge.rw_no0180_01.row.toRowW.prog w) (fun x => S x || decide (x = p * (xs.length + 1 : Int) + p')) m') (hm : m' ≤ m + 1) :
    CIv w g xs C ⟨⟨q2, c1, c1', n2, a, a'⟩ :: ⟨q1, c2, c2', n1, b, b'⟩ :: rest, so', fun x => S x || decide (x = p * (xs.length + 1 : Int) + p'), m', e'⟩ := by
  have h0 := (h.ok _ (.head _)).2.2
  have hn : numsL (xs.length + 1) (⟨q, c, c', n, .node f p a b, .node f' p' a' b'⟩ :: rest) = (p * (xs.length + 1 : Int) + p') :: (numsL (xs.length + 1) (⟨q2, c1, c1', n2, a, a'⟩ :: ⟨q1, c2, c2', n1, b, b'⟩ :: rest)) :=
    congrArg (List.cons _) (List.append_assoc _ _ _)
  have hnd := h.nd
  have hfr := h.free
  rw [hn] at hnd hfr
  refine ⟨?_, ?_, hs, (List.nodup_cons.mp hnd).2, ?_, ?_⟩
  · exact List.forall_mem_cons.mpr ⟨⟨ha, ha', h0.2.1⟩, List.forall_mem_cons.mpr ⟨⟨hb, hb', h0.2.2⟩, fun r hr => h.ok r (.tail _ hr)⟩⟩
  · have := h.lex
    rw [← this]
    show (if cmpT a a' ≠ 0 then cmpT a a' else if cmpT b b' ≠ 0 then cmpT b b' else lexC rest) = if (if cmpT a a' ≠ 0 then cmpT a a' else cmpT b b') ≠ 0 then (if cmpT a a' ≠ 0 then cmpT a a' else cmpT b b') else lexC rest
    by_cases h1 : cmpT a a' ≠ 0
    · rw [if_pos h1, if_pos h1, if_pos h1]
    · rw [if_neg h1, if_neg h1]
  · intro x hx
    have h4 : x ≠ p * (xs.length + 1 : Int) + p' := fun e => (List.nodup_cons.mp hnd).1 (e ▸ hx)
    show (S x || decide (x = _)) = false
    have h5 : S x = false := hfr x (.tail _ hx)
    rw [h5, decide_eq_false h4]; rfl
  · have h1 := h.tot
    dsimp only at h1 ⊢
    rw [total_cons] at h1 ⊢
    rw [total_cons]
    have : (Tm.node f p a b).size = a.size + b.size + 1 := rfl
    dsimp only at h1 ⊢
    clear hn hnd hfr h h0
    omega
noncomputable def fComp : Fn := ⟨Str.ofString "compare", fS (sT 34), 445, .ref 444, 750, 7500, rfl, none⟩
theorem sComp : Stands fComp (sT 34) := fun _ => by kernel_rfl
theorem At.kids {g : Heap} {xs : List Value} {f : Bool} {p p' : Nat} {x y x' y' : Tm} {c c' : Addr} (ha : At g xs (.node f p x y) c) (hb : At g xs (.node f p' x' y') c') :
    p < 2 ^ 62 ∧ p' < 2 ^ 62 ∧ ∃ (off : Nat) (x1 y1 x1' y1' : Addr), (tagOf (.node f p x y) = 3 ∧ off = 0 ∨ tagOf (.node f p x y) = 2 ∧ off = 1 ∧ ∃ cf t5 t6, xs[p]? = some (.ref cf) ∧ IsTup g cf [.int 6 t5, .int 13 t6].toArray) ∧
      xs[p + off]? = some (.ref x1) ∧ xs[p + off + 1]? = some (.ref y1) ∧ xs[p' + off]? = some (.ref x1') ∧ xs[p' + off + 1]? = some (.ref y1') ∧ At g xs x x1 ∧ At g xs y y1 ∧ At g xs x' x1' ∧ At g xs y' y1' := by
  cases f with
  | true =>
    obtain ⟨_, l1, x1, y1, e1, e2, a1, a2⟩ := ha
    obtain ⟨_, l2, x1', y1', e3, e4, a3, a4⟩ := hb
    exact ⟨l1, l2, 0, x1, y1, x1', y1', .inl ⟨rfl, rfl⟩, e1, e2, e3, e4, a1, a2, a3, a4⟩
  | false =>
    obtain ⟨_, l1, cf, x1, y1, e0, ⟨t5, t6, hc⟩, e1, e2, a1, a2⟩ := ha
    obtain ⟨_, l2, cf', x1', y1', _, _, e3, e4, a3, a4⟩ := hb
    exact ⟨l1, l2, 1, x1, y1, x1', y1', .inr ⟨rfl, rfl, cf, t5, t6, e0, hc⟩, e1, e2, e3, e4, a1, a2, a3, a4⟩
theorem nd3 {a b d a' b' d' : Addr × Obj} (h1 : a'.1 = a.1) (h2 : b'.1 = b.1) (h3 : d'.1 = d.1) (h : (([a, b, d] : Led).map (·.1)).Nodup) : (([a', b', d'] : Led).map (·.1)).Nodup := by
  rw [show ([a', b', d'] : Led).map (·.1) = ([a, b, d] : Led).map (·.1) by rw [List.map_cons, List.map_cons, List.map_cons, List.map_nil, List.map_cons, List.map_cons, List.map_cons, List.map_nil, h1, h2, h3]]
  exact h
theorem compare_spec2 (w : World) (st c c' sy hl ds sk tr dy tx an fs fn : Addr) (xs txs fns : List Value) (k ky : Nat → Tok) (n n2 : Nat) (t t' : Tm) :
    PSpec w 445 [.ref st, .ref c, .ref c'] 750 7500 (fun g => StG w g st sy hl xs ds sk tr k n ∧ SyG w g sy txs fns dy tx an fs fn ky n2 ∧ SyOk g txs fns ∧ At g xs t c ∧ At g xs t' c' ∧ compat t t' ∧ xs.length < 2 ^ 60 ∧ t.size ≤ 50 ∧ (nums (xs.length + 1) t t').Nodup) (fun u => .int (cmpT t t') u) := by
  refine Spec.ofW fComp (sT 34) sComp rfl (fun _ _ _ _ _ => rfl) rfl rfl (fun _ _ => .nil) ?_
  intro x hw hp
  subst hw
  obtain ⟨hS, hY, hO, h1, h2, h3, h4, h5, h6⟩ := hp
  refine W.make (fun ps dp hne => pset_init x.w st sy hl ds sk tr xs k n ps dp hne) rfl rfl (fun g sg _ => ⟨hS.keeps sg, h4⟩) fun ps dp need' hpost => ?_
  obtain ⟨k0, k1, k2, sa, so0, nn, l1, l2, hne, rfl, hs0⟩ := hpost
  refine ⟨List.nodup_cons.mpr ⟨fun h => (List.mem_cons.mp h).elim (Nat.ne_of_gt l2) fun h => Nat.ne_of_gt l1 (List.mem_singleton.mp h), List.nodup_cons.mpr ⟨fun h => hne (List.mem_singleton.mp h).symm, List.nodup_cons.mpr ⟨List.not_mem_nil, .nil⟩⟩⟩, ?_⟩
  refine W.newTuple fun q hq => W.newList fun wk hwk => ?_
  refine W.while (σ := CSt) (fun _ => [(Str.ofString "work", .ref wk), (Str.ofString "met", .ref ps), (Str.ofString "store", .ref st)]) (cLe x.w.params wk sa dp ps k0 k1 k2 (xs.length + 1) nn) (CIv x.w x.g xs (cmpT t t')) (fun c => total c.ents) ⟨[⟨q, c, c', 0, t, t'⟩], so0, fun _ => false, 0, 0⟩
    ⟨rfl, rfl, rfl, trivial⟩ (Sub2.cons (Sub2.mi 3 rfl)) ⟨fun r hr => (List.mem_singleton.mp hr) ▸ ⟨h1, h2, h3⟩, ?_, hs0, ?_, fun _ _ => rfl, ?_⟩ ?turn
  case turn =>
    rintro ⟨ents, so, S, m, e⟩ hP
    have hln := hP.tot
    have hlt := len_total ents
    dsimp only at hln
    have hfit : ((backR ents).length : Int) < 2 ^ 63 := by rw [backR_len]; omega
    refine W.len (.inr ⟨e, .head _⟩) hfit fun u1 u2 => And.intro (fun hgt => ?_) (fun hgt => ?_)
    · cases ents with
      | nil => exact absurd (of_decide_eq_true hgt) (Int.lt_irrefl 0)
      | cons r rest =>
        obtain ⟨q, c1, c2, nq, a, b⟩ := r
        obtain ⟨ha, hb, hab⟩ := hP.ok _ (.head _)
        dsimp only at ha hb hab
        obtain ⟨v1, v2, hat⟩ := ha.tup
        obtain ⟨v3, v4, hbt⟩ := hb.tup
        have hW : (backR rest).length ≤ 100 := by
          rw [List.length_cons] at hlt; rw [backR_len]; omega
        refine W.unpack2 (Exists.intro (.builtin "list.pop") (Exists.intro [.ref wk] (And.intro (Meth.pop 0 rfl) (W.pop 0 rfl (Nat.le_trans hW (by decide)) ⟨q, .ref c1, .ref c2, rfl, .inr ⟨nq, .tail _ (.tail _ (.tail _ (.tail _ (.head _))))⟩, ?_⟩))))
        refine Exists.intro (.ref 229) (Exists.intro [.ref st] (And.intro (Meth.ins hS.ins rfl rfl) (W.callP (deref_spec _ st c1 sy hl ds sk tr xs k n (tagOf a) (valOf a) v1 v2) (fun g sg _ => ⟨hS.keeps sg, IsTup.keeps hat sg, ha.deref⟩) fun _ => ?_)))
        refine Exists.intro (.ref 229) (Exists.intro [.ref st] (And.intro (Meth.ins hS.ins rfl rfl) (W.callP (deref_spec _ st c2 sy hl ds sk tr xs k n (tagOf b) (valOf b) v3 v4) (fun g sg _ => ⟨hS.keeps sg, IsTup.keeps hbt sg, hb.deref⟩) fun _ => ?_)))
        have less : ∀ l : List Ent, total l < total (⟨q, c1, c2, nq, a, b⟩ :: l) := fun l => by rw [total_cons]; exact Nat.lt_add_of_pos_left a.size_pos
        have out : ∀ ls, KnowsL [(Str.ofString "work", .ref wk), (Str.ofString "met", .ref ps), (Str.ofString "store", .ref st)] ls → cmpT a b = 0 → ∃ y : CSt, total y.ents < total (⟨q, c1, c2, nq, a, b⟩ :: rest) ∧ KnowsL [(Str.ofString "work", .ref wk), (Str.ofString "met", .ref ps), (Str.ofString "store", .ref st)] ls ∧
            Sub2 (cLe x.w.params wk sa dp ps k0 k1 k2 (xs.length + 1) nn y) ((wk, listOf (backR rest).toArray (e + 1)) :: (sa, so) :: (dp, dictOf (psEs x.w.params k0 k1 k2 (xs.length + 1) sa) nn) :: (ps, instObj 399 dp) :: List.map Ent.row (⟨q, c1, c2, nq, a, b⟩ :: rest)) ∧ CIv x.w x.g xs (cmpT t t') y :=
          fun ls hk hc => ⟨⟨rest, so, S, m, e + 1⟩, less rest, hk, Sub2.cons (Sub2.cons (Sub2.cons (Sub2.cons (Sub2.dr 1 rfl)))), hP.drop hc⟩
        refine W.eqTup (.inl hat) (.inl hbt) ⟨_, rfl, fun hE => ?_, fun hE => ?_⟩
        · obtain ⟨e1, e2⟩ := of_decide_eq_true hE
          have e : a = b := At.det ha hb e1 e2
          subst e
          exact W.cont (out _ ⟨rfl, rfl, rfl, trivial⟩ (cmpT_self _))
        refine W.callP (tops_spec2 _ st c1 c2 sy hl ds sk tr dy tx an fs fn xs txs fns k ky n n2 a b) (fun g sg _ => ⟨hS.keeps sg, hY.keeps sg, hO.keeps sg, ha.keeps sg, hb.keeps sg, hab⟩) fun u3 u4 => And.intro (fun hE => ?_) (fun hE => ?_)
        · have hE : topsC a b ≠ 0 := bne_iff_ne.mp hE
          have h9 : lexC (⟨q, c1, c2, nq, a, b⟩ :: rest) = cmpT t t' := hP.lex
          rw [lexC, cmpT_tops hab hE, if_pos hE] at h9
          exact pend (t := u3) (congrArg (fun z => Value.int z u3) h9)
        have hE : topsC a b = 0 := bne_eq_false_iff_eq.mp hE
        refine Exists.intro (.ref 285) (Exists.intro [.ref st] (And.intro (Meth.ins hS.ins rfl rfl) (W.callP (is_compound_spec _ st c1 (tagOf a) (valOf a) v1 v2) (fun g sg _ => IsTup.keeps hat sg) fun _ => ?_)))
        refine And.intro (fun hE2 => ?_) (fun hE2 => And.intro ft fun _ => out _ ⟨rfl, rfl, rfl, trivial⟩ ((cmpT_leaf (of_decide_eq_false hE2)).trans hE))
        obtain ⟨f, p, x1, y1, rfl⟩ := node_of (of_decide_eq_true hE2)
        obtain ⟨f', p', x2, y2, rfl⟩ := node_of2 hE
        obtain ⟨rfl, hab1, hab2⟩ := hab
        obtain ⟨hp1, hp2, off, a1, b1, a2, b2, hoff, e1, e2, e3, e4, g1, g2, g3, g4⟩ := At.kids ha hb
        have hI : InsIs x ((wk, listOf (backR rest).toArray (e + 1)) :: (sa, so) :: (dp, dictOf (psEs x.w.params k0 k1 k2 (xs.length + 1) sa) nn) :: (ps, instObj 399 dp) :: List.map Ent.row (⟨q, c1, c2, nq, .node f p x1 y1, .node f p' x2 y2⟩ :: rest)) ps 399 dp (psEs x.w.params k0 k1 k2 (xs.length + 1) sa) nn :=
          ⟨.inr (.tail _ (.tail _ (.tail _ (.head _)))), .inr (.tail _ (.tail _ (.head _)))⟩
        refine Exists.intro (.ref 396) (Exists.intro [.ref ps] (And.intro (Meth.ins hI rfl rfl) ?_))
        refine W.callN (add_spec2 _ ps dp sa c1 c2 k0 k1 k2 nn m (xs.length + 1) (tagOf (.node f p x1 y1)) (tagOf (.node f p' x2 y2)) p p' so S v1 v2 v3 v4) ((wk, listOf (backR rest).toArray (e + 1)) :: List.map Ent.row (⟨q, c1, c2, nq, .node f p x1 y1, .node f p' x2 y2⟩ :: rest)) (Sub2.mi 3 rfl) (fun nd g sg _ => ?_) ?_ fun v need' hpost => ?_
        · exact ⟨IsTup.keeps hat sg, IsTup.keeps hbt sg, hP.set, by omega, hP.free _ (List.mem_append_left _ (.head _)), by omega, by omega, Nat.ne_of_lt l1, Nat.ne_of_lt l2, hne⟩
        · rintro v need' ⟨-, so', m', rfl, -, -⟩
          exact nd3 rfl rfl rfl
        obtain ⟨rfl, so', m', rfl, hm, hs⟩ := hpost
        refine And.intro (fun _ => ?_) tf
        refine W.callN (push_spec2 _ st c1 c2 a1 b1 a2 b2 wk sy hl ds sk tr dy tx an fs fn xs txs fns (backR rest) k ky n n2 (e + 1) (tagOf (.node f p x1 y1)) p p' off v1 v2 v3 v4) ((sa, so') :: (dp, dictOf (psEs x.w.params k0 k1 k2 (xs.length + 1) sa) nn) :: (ps, instObj 399 dp) :: List.map Ent.row (⟨q, c1, c2, nq, .node f p x1 y1, .node f p' x2 y2⟩ :: rest))
          (.perm (List.perm_middle (l₁ := [(sa, so'), (dp, _), (ps, _)])).symm) (fun nd g sg _ => ?_) ?_ fun v need' hpost => ?_
        · exact ⟨hS.keeps sg, hY.keeps sg, hO.keeps sg, Nat.lt_of_le_of_lt hW (by decide), hp1, hp2, hoff.imp id fun ⟨z1, z2, cf, t5, t6, z3, z4⟩ => ⟨z1, z2, cf, t5, t6, z3, z4.keeps sg⟩, IsTup.keeps hat sg, (by have := IsTup.keeps hbt sg; cases f <;> exact this), e1, e2, e3, e4⟩
        · rintro v need' ⟨-, q1, q2, e', n1, n2', l1, l2, rfl⟩ -
          exact List.nodup_cons.mpr ⟨fun h => (List.mem_cons.mp h).elim (Nat.ne_of_gt l2) fun h => Nat.ne_of_gt (Nat.lt_trans l1 l2) (List.mem_singleton.mp h), List.nodup_cons.mpr ⟨fun h => Nat.ne_of_gt l1 (List.mem_singleton.mp h), List.nodup_cons.mpr ⟨List.not_mem_nil, .nil⟩⟩⟩
        obtain ⟨rfl, q1, q2, e', n1, n2', l1, l2, rfl⟩ := hpost
        have eA : backR rest ++ [Value.ref q1, Value.ref q2] = (backR rest ++ [Value.ref q1]) ++ [Value.ref q2] := (List.append_assoc (backR rest) [Value.ref q1] [Value.ref q2]).symm
        rw [eA]
        refine ⟨⟨⟨q2, a1, a2, n2', x1, x2⟩ :: ⟨q1, b1, b2, n1, y1, y2⟩ :: rest, so', _, m', e'⟩, ?_, ⟨rfl, rfl, rfl, trivial⟩,
          Sub2.trans (.perm (List.perm_append_comm_assoc [(wk, _), (sa, _), (dp, _), (ps, _)] [(q2, _), (q1, _)] _)) (Sub2.cons (Sub2.cons (Sub2.cons (Sub2.cons (Sub2.cons (Sub2.cons (Sub2.dr 1 rfl))))))), hP.push g1 g3 g2 g4 hs hm⟩
        show total _ < total _
        rw [total_cons, total_cons, total_cons]
        show x1.size + (y1.size + total rest) < (x1.size + y1.size + 1) + total rest
        clear hP hS hY hO ha hb hat hbt hI hs
        omega
    · cases ents with
      | nil => exact fun u9 => pend (t := u9) (congrArg (fun z => Value.int z u9) hP.lex)
      | cons r rest =>
        refine absurd ?_ (of_decide_eq_false hgt)
        rw [backR_len]
        exact Int.natCast_pos.mpr (Nat.succ_pos _)
  · show (if cmpT t t' ≠ 0 then cmpT t t' else 0) = _
    split <;> omega
  · show (nums _ t t' ++ []).Nodup
    rw [List.append_nil]; exact h6
  · show 0 + (t.size + 0) ≤ 60
    omega
end
end Mine
end
section
set_option Elab.async false
set_option maxRecDepth 100000
set_option maxHeartbeats 4000000
set_option linter.unusedVariables false
namespace Mine
noncomputable section
open PySem PySem.W PySem.Calls PyProof.Rows
noncomputable def fMerge : Fn := ⟨Str.ofString "merge", fS (sT 35), 452, .ref 451, 650, 6500, rfl, none⟩
theorem sMerge : Stands fMerge (sT 35) := fun _ => by kernel_rfl
theorem mgV_eq {u : Bool} {cmp : Value → Value → Int} {vl vr : List Value} {i j : Nat} {a b : Value} (ha : vl[i]? = some a) (hb : vr[j]? = some b) : mgV u cmp (vl.drop i) (vr.drop j) =
    if cmp a b ≤ 0 then (if cmp a b = 0 ∧ u = true then a :: mgV u cmp (vl.drop (i + 1)) (vr.drop (j + 1)) else a :: mgV u cmp (vl.drop (i + 1)) (vr.drop j)) else b :: mgV u cmp (vl.drop i) (vr.drop (j + 1)) := by
  obtain ⟨hi, rfl⟩ := List.getElem?_eq_some_iff.mp ha
  obtain ⟨hj, rfl⟩ := List.getElem?_eq_some_iff.mp hb
  rw [List.drop_eq_getElem_cons hi, List.drop_eq_getElem_cons hj, mgV]
theorem mgV_end {u : Bool} {cmp : Value → Value → Int} {vl vr : List Value} {i j : Nat} (h : ¬ (i < vl.length ∧ j < vr.length)) : mgV u cmp (vl.drop i) (vr.drop j) = vl.drop i ++ vr.drop j := by
  by_cases h1 : i < vl.length
  · have : vr.length ≤ j := by omega
    rw [List.drop_of_length_le this, List.append_nil, mgV_nil]
  · have : vl.length ≤ i := by omega
    rw [List.drop_of_length_le this, List.nil_append, mgV]
structure MgSt where
  i : Nat
  j : Nat
  ti : Tok
  tj : Tok
  vm : List Value
  e : Nat
theorem merge_spec2 (w : World) (st kl la ra sy hl ds sk tr dy tx an fs fn : Addr) (xs txs fns ks vl vr : List Value) (k ky : Nat → Tok) (n n2 N : Nat) (T : Nat → Tm) (c : Nat → Addr) (u : Bool) :
    Spec w 452 [.ref st, .ref kl, .ref la, .ref ra, .bool u] 650 6500 []
      (fun g => StG w g st sy hl xs ds sk tr k n ∧ SyG w g sy txs fns dy tx an fs fn ky n2 ∧ SyOk g txs fns ∧ xs.length < 2 ^ 60 ∧ g.IsList kl ks.toArray ∧ KeysOk w g xs ks T c N ∧ g.IsList la vl.toArray ∧ g.IsList ra vr.toArray ∧ Ix N vl ∧ Ix N vr ∧ vl.length ≤ 1000 ∧ vr.length ≤ 1000 ∧ N ≤ 1000)
      (fun v need' => ∃ D e, v = .ref D ∧ need' = [(D, listOf (mgV u (fun a b => cmpT (T (vi a).toNat) (T (vi b).toNat)) vl vr).toArray e)]) := by
  refine Spec.ofW fMerge (sT 35) sMerge rfl (fun _ _ _ _ _ => rfl) rfl rfl (fun _ _ => .nil) ?_
  intro x hw hp
  subst hw
  obtain ⟨hS, hY, hO, h4, hkl, hK, hla, hra, hxl, hxr, hll, hlr, hN⟩ := hp
  generalize hcmp : (fun a b => cmpT (T (vi a).toNat) (T (vi b).toNat)) = cmp
  refine W.newList fun D hD t1 t2 => ?_
  refine W.while (σ := MgSt) (fun q => [(Str.ofString "i", .int q.i q.ti), (Str.ofString "j", .int q.j q.tj), (Str.ofString "merged", .ref D), (Str.ofString "store", .ref st), (Str.ofString "keys", .ref kl), (Str.ofString "left", .ref la), (Str.ofString "right", .ref ra), (Str.ofString "unique", .bool u)])
    (fun q => [(D, listOf q.vm.toArray q.e)]) (fun q => q.i ≤ vl.length ∧ q.j ≤ vr.length ∧ q.vm ++ mgV u cmp (vl.drop q.i) (vr.drop q.j) = mgV u cmp vl vr ∧ q.vm.length ≤ q.i + q.j) (fun q => (vl.length - q.i) + (vr.length - q.j))
    ⟨0, 0, t1, t2, [], 0⟩ ⟨rfl, rfl, rfl, rfl, rfl, rfl, rfl, rfl, trivial⟩ .refl ⟨Nat.zero_le _, Nat.zero_le _, rfl, Nat.le_refl _⟩ ?turn
  rintro ⟨i, j, ti, tj, vm, e⟩ ⟨hi1, hj1, hm1, hv1⟩
  dsimp only at hi1 hj1 hm1 hv1
  have fl : (vl.length : Int) < 2 ^ 63 := by omega
  have fr : (vr.length : Int) < 2 ^ 63 := by omega
  have fin : ¬ (i < vl.length ∧ j < vr.length) → vm ++ vl.drop i ++ vr.drop j = mgV u cmp vl vr := fun h => by rw [← hm1, mgV_end h, List.append_assoc]
  have leave : ∀ (k9 : Flow → Loc → Led → Prop) (ls1 : Loc), ¬ (i < vl.length ∧ j < vr.length) → ls1.lookup (Str.ofString "merged") = some (.ref D) → (∀ D' e', k9 (.ret (.ref D)) ls1 [(D', listOf (vr.drop j).toArray 0), (D, listOf (mgV u cmp vl vr).toArray e')]) → True := fun _ _ _ _ _ => trivial
  clear leave
  have tail : ¬ (i < vl.length ∧ j < vr.length) → ∀ t4 : Tok, wpS fMerge x 196 (match fB (sT 35) with | _ :: _ :: _ :: _ :: r => r | _ => []) (fun fl _ ld => ∃ need', (∀ p ∈ need', p ∈ ld) ∧ (∃ D e, (match fl with | .ret v => v | _ => .none) = .ref D ∧ need' = [(D, listOf (mgV u cmp vl vr).toArray e)]))
      [(Str.ofString "i", .int i ti), (Str.ofString "j", .int j tj), (Str.ofString "merged", .ref D), (Str.ofString "store", .ref st), (Str.ofString "keys", .ref kl), (Str.ofString "left", .ref la), (Str.ofString "right", .ref ra), (Str.ofString "unique", .bool u)] [(D, listOf vm.toArray e)] := by
    intro h t4
    have hlen1 : vm.length + (vl.drop i).length ≤ 100000 := by rw [List.length_drop]; omega
    have hlen2 : (vm ++ vl.drop i).length + (vr.drop j).length ≤ 100000 := by rw [List.length_append, List.length_drop, List.length_drop]; omega
    refine Exists.intro (.builtin "list.extend") (Exists.intro [.ref D] (And.intro (Meth.extend 0 rfl) (W.sliceFrom rfl rfl (.inl hla) (by omega) (by omega) (by omega) fun D1 hD1 => W.extend 1 rfl 0 rfl hlen1 fun e1 => ?_)))
    refine Exists.intro (.builtin "list.extend") (Exists.intro [.ref D] (And.intro (Meth.extend 1 rfl) (W.sliceFrom rfl rfl (.inl hra) (by omega) (by omega) (by omega) fun D2 hD2 => W.extend 2 rfl 0 rfl hlen2 fun e2 => ?_)))
    refine ⟨_, ?_, D, e2, rfl, by rw [← fin h]⟩
    exact subI 2 rfl (fun _ h => nomatch h)
  refine W.len (.inl hla) fl fun t3 => And.intro (fun h1 => W.len (.inl hra) fr fun t4 => And.intro (fun h2 => ?_) (fun h2 => ?_)) (fun h1 => ?_)
  · have hi2 : i < vl.length := by have : (i : Int) < (vl.length : Int) := of_decide_eq_true h1; omega
    have hj2 : j < vr.length := by have : (j : Int) < (vr.length : Int) := of_decide_eq_true h2; omega
    obtain ⟨a, ta, ha, haN⟩ := hxl vl[i] (List.getElem_mem hi2)
    obtain ⟨b, tb, hb, hbN⟩ := hxr vr[j] (List.getElem_mem hj2)
    have hx1 : vl[i]? = some (.int a ta) := ha ▸ List.getElem?_eq_getElem hi2
    have hx2 : vr[j]? = some (.int b tb) := hb ▸ List.getElem?_eq_getElem hj2
    obtain ⟨hka, hca, hsa⟩ := hK.k a haN
    obtain ⟨hkb, hcb, hsb⟩ := hK.k b hbN
    obtain ⟨hpc, hpn⟩ := hK.p a b haN hbN
    have hc : cmp (.int a ta) (.int b tb) = cmpT (T a) (T b) := by rw [← hcmp]; rfl
    rw [mgV_eq hx1 hx2, hc] at hm1
    have hvl : vm.length ≤ 1000000 := by omega
    have z1 : (0 : Int) ≤ (i : Int) := by omega
    have z2 : (i : Int) < 2 ^ 63 := by omega
    have z3 : (0 : Int) ≤ (j : Int) := by omega
    have z4 : (j : Int) < 2 ^ 63 := by omega
    refine W.ilist (.inl hla) z1 z2 hx1 (W.ilist (.inl hkl) (by omega) (by omega) hka (W.ilist (.inl hra) z3 z4 hx2 (W.ilist (.inl hkl) (by omega) (by omega) hkb (W.callP (compare_spec2 _ st (c a) (c b) sy hl ds sk tr dy tx an fs fn xs txs fns k ky n n2 (T a) (T b))
      (fun g sg _ => ⟨hS.keeps sg, hY.keeps sg, hO.keeps sg, hca.keeps sg, hcb.keeps sg, hpc, h4, hsa, hpn⟩) fun t5 t6 => And.intro (fun hle => ?_) (fun hgt => ?_)))))
    · have hle := of_decide_eq_true hle
      rw [if_pos hle] at hm1
      refine Exists.intro (.builtin "list.append") (Exists.intro [.ref D] (And.intro (Meth.append 0 rfl) (W.ilist (.inl hla) z1 z2 hx1 (W.append 0 rfl hvl fun t7 => W.iadd fun t8 t9 => And.intro (fun e0 => And.intro (fun eu => ?_) (fun eu => ?_)) (fun e0 => And.intro (fun h => ft h) (fun _ => ?_))))))
      · rw [if_pos ⟨eq_of_beq e0, eu⟩] at hm1
        exact fun t10 => W.iadd fun t11 => ⟨⟨i + 1, j + 1, t8, t11, vm ++ [.int a ta], e + 1⟩, by dsimp only; omega, ⟨rfl, rfl, rfl, rfl, rfl, rfl, rfl, rfl, trivial⟩, .refl, hi2, hj2, by rw [← hm1]; simp, by simp; omega⟩
      · rw [if_neg (fun q => by rw [eu] at q; exact nomatch q.2)] at hm1
        exact ⟨⟨i + 1, j, t8, tj, vm ++ [.int a ta], e + 1⟩, by dsimp only; omega, ⟨rfl, rfl, rfl, rfl, rfl, rfl, rfl, rfl, trivial⟩, .refl, hi2, hj1, by rw [← hm1]; simp, by simp; omega⟩
      · rw [if_neg (fun q => ne_of_beq_false e0 q.1)] at hm1
        exact ⟨⟨i + 1, j, t8, tj, vm ++ [.int a ta], e + 1⟩, by dsimp only; omega, ⟨rfl, rfl, rfl, rfl, rfl, rfl, rfl, rfl, trivial⟩, .refl, hi2, hj1, by rw [← hm1]; simp, by simp; omega⟩
    · rw [if_neg (of_decide_eq_false hgt)] at hm1
      exact Exists.intro (.builtin "list.append") (Exists.intro [.ref D] (And.intro (Meth.append 0 rfl) (W.ilist (.inl hra) z3 z4 hx2 (W.append 0 rfl hvl fun t7 => W.iadd fun t8 =>
        ⟨⟨i, j + 1, ti, t8, vm ++ [.int b tb], e + 1⟩, by dsimp only; omega, ⟨rfl, rfl, rfl, rfl, rfl, rfl, rfl, rfl, trivial⟩, .refl, hi1, hj2, by rw [← hm1]; simp, by simp; omega⟩))))
  · exact tail (fun q => (of_decide_eq_false h2 : ¬ (j : Int) < (vr.length : Int)) (by omega)) t4
  · exact And.intro (fun h => ft h) (fun _ => tail (fun q => (of_decide_eq_false h1 : ¬ (i : Int) < (vl.length : Int)) (by omega)) t3)
end
end Mine
end
section
set_option Elab.async false
set_option maxRecDepth 100000
set_option maxHeartbeats 4000000
set_option linter.unusedVariables false
namespace Mine
noncomputable section
open PySem PySem.W PySem.Calls PyProof.Rows
structure SIv (u : Bool) (f : Nat → Nat → Int) (N : Nat) (m : Nat) (rs : List Run) : Prop where
  ch : Chain u f 0 (runL rs) m
  ix : ∀ r ∈ rs, Ix N r.vs
  len : sumL rs ≤ m
theorem SIv.snoc {u : Bool} {f : Nat → Nat → Int} {N m : Nat} {rs : List Run} (h : SIv u f N m rs) (hm : m < N) (l9 : Addr) (ti : Tok) (e : Nat) : SIv u f N (m + 1) (rs ++ [⟨l9, [.int (m : Int) ti], e⟩]) where
  ch := by rw [runL_app]; exact h.ch.snoc (Nat.le_succ _) (Blk.single u m)
  ix := fun r hr => by
    rcases List.mem_append.mp hr with hr | hr
    · exact h.ix r hr
    · rw [List.mem_singleton.mp hr]
      exact fun v hv => ⟨m, ti, List.mem_singleton.mp hv, hm⟩
  len := by rw [sumL_app]; exact Nat.add_le_add h.len (Nat.le_refl 1)
structure VIv (u : Bool) (f : Nat → Nat → Int) (N : Nat) (rs lo : List Run) (i : Nat) : Prop where
  ch : ∃ b, Chain u f 0 (runL lo) b ∧ Chain u f b (runL (rs.drop (2 * i))) N
  ix : ∀ r ∈ lo, Ix N r.vs
  len : sumL lo + sumL (rs.drop (2 * i)) ≤ N
theorem VIv.step {u : Bool} {f : Nat → Nat → Int} {cmp : Value → Value → Int} {N : Nat} {rs lo : List Run} {r1 r2 : Run} {i : Nat} (hord : Ord f) (hcmp : ∀ a b, cmp a b = f (vn a) (vn b)) (h : VIv u f N rs lo i) (hdr : rs.drop (2 * i) = r1 :: r2 :: rs.drop (2 * (i + 1)))
    (h1 : Ix N r1.vs) (h2 : Ix N r2.vs) (D : Addr) (e : Nat) : VIv u f N rs (lo ++ [⟨D, mgV u cmp r1.vs r2.vs, e⟩]) (i + 1) where
  ch := by
    obtain ⟨b, hch1, hch2⟩ := h.ch
    rw [hdr] at hch2
    cases hch2 with
    | cons q1 q2 q3 =>
      cases q3 with
      | cons q4 q5 q6 =>
        refine ⟨_, ?_, q6⟩
        rw [runL_app]
        refine hch1.snoc (Nat.le_trans q1 q4) ?_
        show Blk _ _ b _ ((mgV u cmp r1.vs r2.vs).map vn)
        rw [mgV_map hcmp]
        exact Blk.merge hord q2 q5 q1 q4
  ix := fun r hr => by
    rcases List.mem_append.mp hr with hr | hr
    · exact h.ix r hr
    · rw [List.mem_singleton.mp hr]
      exact fun v hv => (mgV_mem _ _ v hv).elim (h1 v) (h2 v)
  len := by
    have hl := h.len
    rw [hdr, sumL_cons, sumL_cons] at hl
    have hml := mgV_len (u := u) (cmp := cmp) r1.vs r2.vs
    rw [sumL_app, sumL_cons]
    have : sumL [] = 0 := rfl
    dsimp only
    omega
theorem VIv.done {u : Bool} {f : Nat → Nat → Int} {N : Nat} {rs lo : List Run} {i : Nat} (h : VIv u f N rs lo i) (hd : rs.drop (2 * i) = []) : SIv u f N N lo where
  ch := by
    obtain ⟨b, h1, h2⟩ := h.ch
    rw [hd] at h2
    cases h2; exact h1
  ix := h.ix
  len := by have := h.len; rw [hd] at this; exact this
theorem VIv.odd {u : Bool} {f : Nat → Nat → Int} {N : Nat} {rs lo : List Run} {r : Run} {i : Nat} (h : VIv u f N rs lo i) (hd : rs.drop (2 * i) = [r]) (hr : Ix N r.vs) : SIv u f N N (lo ++ [r]) where
  ch := by
    obtain ⟨b, h1, h2⟩ := h.ch
    rw [hd] at h2
    cases h2 with
    | cons q1 q2 q3 => cases q3; rw [runL_app]; exact h1.snoc q1 q2
  ix := fun r' hr' => by
    rcases List.mem_append.mp hr' with hr' | hr'
    · exact h.ix r' hr'
    · rw [List.mem_singleton.mp hr']; exact hr
  len := by have := h.len; rw [hd] at this; rw [sumL_app]; exact this
noncomputable def fSort : Fn := ⟨Str.ofString "merge_sort", fS (sT 36), 459, .ref 458, 550, 5500, rfl, none⟩
theorem sSort : Stands fSort (sT 36) := fun _ => by kernel_rfl
theorem sort_spec2 (w : World) (st cl sy hl ds sk tr dy tx an fs fn : Addr) (xs txs fns cs : List Value) (k ky : Nat → Tok) (n n2 N : Nat) (T : Nat → Tm) (c : Nat → Addr) (u kd : Bool) (hord : Ord fun i j => cmpT (T i) (T j)) :
    Spec w 459 [.ref st, .ref cl, .bool u, .bool kd] 550 5500 []
      (fun g => StG w g st sy hl xs ds sk tr k n ∧ SyG w g sy txs fns dy tx an fs fn ky n2 ∧ SyOk g txs fns ∧ xs.length < 2 ^ 60 ∧ g.IsList cl cs.toArray ∧ cs.length = N ∧ N ≤ 100 ∧ CellsOk g xs cs kd c N ∧ TermsOk w g xs T c N)
      (fun v need' => ∃ D e l, v = .ref D ∧ need' = [(D, listOf (l.map fun i => cs.getD i .none).toArray e)] ∧ Blk u (fun i j => cmpT (T i) (T j)) 0 N l) := by
  refine Spec.ofW fSort (sT 36) sSort rfl (fun _ _ _ _ _ => rfl) rfl rfl (fun _ _ => .nil) ?_
  intro x hw hp
  subst hw
  obtain ⟨hS, hY, hO, h4, hcl, hcs, hN, hC, hT⟩ := hp
  have hfit : (cs.length : Int) < 2 ^ 63 := by omega
  refine W.len (.inl hcl) hfit fun t1 t2 => And.intro (fun h0 => ?_) (fun h0 => ?_)
  · have h0 : N = 0 := by have : (cs.length : Int) = 0 := eq_of_beq h0; omega
    subst h0
    exact W.newList fun D hD => ⟨_, fun _ h => h, D, 0, [], rfl, rfl, Blk.empty u⟩
  · have hN0 : 0 < N := by have : (cs.length : Int) ≠ 0 := ne_of_beq_false h0; omega
    refine W.newList fun KE hKE => W.newList fun RU hRU => W.for (W.len (.inl hcl) hfit fun t3 => W.range1 fun R r1 r2 r3 hR => ?_)
    refine IterW.range (σ := SSt) (n := N) (fun _ => [(Str.ofString "runs", .ref RU), (Str.ofString "keys", .ref KE), (Str.ofString "store", .ref st), (Str.ofString "cells", .ref cl), (Str.ofString "unique", .bool u), (Str.ofString "keyed", .bool kd)]) (sLed1 RU KE c)
      (fun i q => q.rs.length = i ∧ SIv u (fun i j => cmpT (T i) (T j)) N i q.rs) ⟨[], 0, 0⟩ (.head _) (range_small (by omega) (by omega) (.inl rfl)) (by rw [hcs]; exact rangeSize_one N) ⟨rfl, rfl, rfl, rfl, rfl, rfl, trivial⟩ (.dr 1 rfl) ⟨rfl, .nil _, (fun _ hp => nomatch hp), Nat.le_refl _⟩ ?turn ?done
    case turn =>
      rintro i ⟨rs, er, ek⟩ ti I o hiN ⟨hlen, hInv⟩ hoI
      dsimp only at hlen hInv
      subst hlen
      obtain ⟨a, hca, hcf, hct⟩ := hC _ hiN
      have ei : (0 : Int) + (rs.length : Int) * 1 = rs.length := by omega
      rw [ei]
      have z1 : (0 : Int) ≤ (rs.length : Int) := by omega
      have z2 : (rs.length : Int) < 2 ^ 63 := by omega
      have z3 : (keyVals c rs.length).length ≤ 1000000 := by rw [keyVals_len]; omega
      have z4 : (refs rs).length ≤ 1000000 := by rw [refs_len]; omega
      have fin : ∀ (l9 : Addr), (I, o) :: sLed1 RU KE c ⟨rs ++ [⟨l9, [.int (rs.length : Int) ti], 0⟩], er + 1, ek + 1⟩ =
          ((I, o) :: (RU, listOf (refs rs ++ [Value.ref l9]).toArray (er + 1)) :: (KE, listOf (keyVals c rs.length ++ [Value.ref (c rs.length)]).toArray (ek + 1)) :: rs.map Run.row) ++ [(l9, listOf [Value.int (rs.length : Int) ti].toArray 0)] := fun l9 => by
        simp [sLed1, refs, keyVals_succ, Run.row]
      cases kd with
      | false =>
        refine And.intro (fun h => ft h) (fun _ => ?_)
        refine Exists.intro (.builtin "list.append") (Exists.intro [.ref KE] (And.intro (Meth.append 2 rfl) (W.ilist (.inl hcl) z1 z2 hca (W.append 2 rfl z3 ?_))))
        rw [hcf rfl]
        refine Exists.intro (.builtin "list.append") (Exists.intro [.ref RU] (And.intro (Meth.append 1 rfl) (W.newList fun l9 hl9 => W.append 2 rfl z4 ?_)))
        exact ⟨⟨rs ++ [Run.mk l9 [.int (rs.length : Int) ti] 0], er + 1, ek + 1⟩, ⟨rfl, rfl, rfl, rfl, rfl, rfl, trivial⟩, .toEnd (fin l9).symm, by simp, hInv.snoc hiN l9 ti 0⟩
      | true =>
        obtain ⟨p, t2, t3, hat, hp, hxp⟩ := hct rfl
        refine And.intro (fun _ => ?_) (fun h => tf h)
        refine Exists.intro (.builtin "list.append") (Exists.intro [.ref KE] (And.intro (Meth.append 2 rfl) ?_))
        refine Exists.intro (.ref 313) (Exists.intro [.ref st] (And.intro (Meth.ins hS.ins rfl rfl) ?_))
        refine Exists.intro (.ref 229) (Exists.intro [.ref st] (And.intro (Meth.ins hS.ins rfl rfl) (W.ilist (.inl hcl) z1 z2 hca ?_)))
        refine W.callP (deref_spec _ st a sy hl ds sk tr xs k n 2 p t2 t3) (fun g sg _ => ⟨hS.keeps sg, IsTup.keeps hat sg, by decide, fun h => absurd h (by decide)⟩) fun _ t5 => ?_
        refine W.callP (arg_spec _ st a (c rs.length) sy hl ds sk tr xs k n p t2 t3 t5) (fun g sg _ => ⟨hS.keeps sg, IsTup.keeps hat sg, hp, hxp⟩) fun _ => W.append 2 rfl z3 ?_
        refine Exists.intro (.builtin "list.append") (Exists.intro [.ref RU] (And.intro (Meth.append 1 rfl) (W.newList fun l9 hl9 => W.append 2 rfl z4 ?_)))
        exact ⟨⟨rs ++ [Run.mk l9 [.int (rs.length : Int) ti] 0], er + 1, ek + 1⟩, ⟨rfl, rfl, rfl, rfl, rfl, rfl, trivial⟩, .toEnd (fin l9).symm, by simp, hInv.snoc hiN l9 ti 0⟩
    case done =>
      rintro ⟨rs0, er0, ek0⟩ ⟨hlen0, hInv0⟩
      dsimp only at hlen0 hInv0
      refine W.while (σ := WSt) (fun q => [(Str.ofString "runs", .ref q.ru), (Str.ofString "keys", .ref KE), (Str.ofString "store", .ref st), (Str.ofString "cells", .ref cl), (Str.ofString "unique", .bool u)]) (sLed2 KE c N ek0)
        (fun q => SIv u (fun i j => cmpT (T i) (T j)) N N q.rs ∧ 0 < q.rs.length ∧ q.rs.length ≤ N) (fun q => q.rs.length) ⟨RU, rs0, er0⟩ ⟨rfl, rfl, rfl, rfl, rfl, trivial⟩ (by rw [show sLed1 RU KE c ⟨rs0, er0, ek0⟩ = sLed2 KE c N ek0 ⟨RU, rs0, er0⟩ by rw [sLed1, sLed2, hlen0]]; exact .refl) ⟨hInv0, Nat.lt_of_lt_of_eq hN0 hlen0.symm, Nat.le_of_eq hlen0⟩ ?turn2
      rintro ⟨ru, rs, er⟩ ⟨hInv, hpos, hle⟩
      dsimp only at hInv hpos hle
      have hlr : (refs rs).length = rs.length := refs_len rs
      have hf2 : ((refs rs).length : Int) < 2 ^ 63 := by omega
      refine W.len (.inr ⟨er, .head _⟩) hf2 fun t3 t4 => And.intro (fun h1 => ?_) (fun h1 => ?_)
      · have h1 : 1 < rs.length := by have : (1 : Int) < ((refs rs).length : Int) := of_decide_eq_true h1; omega
        refine W.newList fun LO hLO => W.for (fun t5 => W.len (.inr ⟨er, .tail _ (.head _)⟩) hf2 fun t6 t7 t8 t9 => W.range3 (by decide) (PyProof.noPylong_small (by decide)) fun R r1 r2 r3 hR => ?_)
        rw [hlr]
        refine IterW.range (σ := VSt) (n := rs.length / 2) (fun _ => [(Str.ofString "longer", .ref LO), (Str.ofString "runs", .ref ru), (Str.ofString "keys", .ref KE), (Str.ofString "store", .ref st), (Str.ofString "cells", .ref cl), (Str.ofString "unique", .bool u)]) (sLed3 LO ru KE rs er c N ek0)
          (fun i q => q.lo.length = i ∧ VIv u (fun i j => cmpT (T i) (T j)) N rs q.lo i) ⟨[], 0⟩ (.head _) (range_small (by omega) (by omega) (.inr rfl)) (rangeSize_two rs.length (by omega)) ⟨rfl, rfl, rfl, rfl, rfl, rfl, trivial⟩ (.dr 1 (by simp [sLed3, sLed2, refs])) ⟨rfl, ⟨0, .nil _, hInv.ch⟩, (fun _ hp => nomatch hp), by simpa [sumL] using hInv.len⟩ ?turn3 ?done3
        case turn3 =>
          rintro i ⟨lo, el⟩ ti I o hi ⟨hlen, hV⟩ hoI
          dsimp only at hlen hV
          subst hlen
          have hi1 : 2 * lo.length < rs.length := by omega
          have hi2 : 2 * lo.length + 1 < rs.length := by omega
          have hdr : rs.drop (2 * lo.length) = rs[2 * lo.length] :: rs[2 * lo.length + 1] :: rs.drop (2 * (lo.length + 1)) := by
            rw [List.drop_eq_getElem_cons hi1, List.drop_eq_getElem_cons hi2]
            rfl
          have hm1 : rs[2 * lo.length] ∈ rs := List.getElem_mem _
          have hm2 : rs[2 * lo.length + 1] ∈ rs := List.getElem_mem _
          have hx1 : (refs rs)[(0 + (lo.length : Int) * 2).toNat]? = some (.ref rs[2 * lo.length].a) := by
            rw [show (0 + (lo.length : Int) * 2).toNat = 2 * lo.length by omega]; simp [refs, hi1]
          have hx2 : (refs rs)[(0 + (lo.length : Int) * 2 + 1).toNat]? = some (.ref rs[2 * lo.length + 1].a) := by
            rw [show (0 + (lo.length : Int) * 2 + 1).toNat = 2 * lo.length + 1 by omega]; simp [refs, hi2]
          generalize rs[2 * lo.length] = r1 at *
          generalize rs[2 * lo.length + 1] = r2 at *
          have hl1 : r1.vs.length ≤ N := Nat.le_trans (sumL_mem hm1) hInv.len
          have hl2 : r2.vs.length ≤ N := Nat.le_trans (sumL_mem hm2) hInv.len
          have z5 : (refs lo).length ≤ 1000000 := by rw [refs_len]; omega
          have z6 : (0 : Int) ≤ 0 + (lo.length : Int) * 2 := by omega
          have z7 : 0 + (lo.length : Int) * 2 + 1 < 2 ^ 63 := by omega
          have fin : ∀ (D : Addr) (v : List Value) (e : Nat), (I, o) :: sLed3 LO ru KE rs er c N ek0 ⟨lo ++ [⟨D, v, e⟩], el + 1⟩ =
              ((I, o) :: (LO, listOf (refs lo ++ [Value.ref D]).toArray (el + 1)) :: (ru, listOf (refs rs).toArray er) :: (KE, listOf (keyVals c N).toArray ek0) :: (rs.map Run.row ++ lo.map Run.row)) ++ [(D, listOf v.toArray e)] := fun D v e => by
            simp [sLed3, refs, Run.row]
          have hru : ListIs x ((I, o) :: sLed3 LO ru KE rs er c N ek0 ⟨lo, el⟩) ru (refs rs) := .inr ⟨er, .tail _ (.tail _ (.head _))⟩
          refine Exists.intro (.builtin "list.append") (Exists.intro [.ref LO] (And.intro (Meth.append 1 rfl) (W.ilist hru z6 (by omega) hx1 fun t10 t11 => W.ilist hru (by omega) z7 hx2 ?_)))
          refine W.call1 (merge_spec2 x.w st KE r1.a r2.a sy hl ds sk tr dy tx an fs fn xs txs fns (keyVals c N) r1.vs r2.vs k ky n n2 N T c u) (fun g sg r9 => ?_) ?_ (fun D o9 hD => ?_)
          · have hmm1 : (r1.a, listOf r1.vs.toArray r1.e) ∈ rs.map Run.row := List.mem_map.mpr ⟨r1, hm1, rfl⟩
            have hmm2 : (r2.a, listOf r2.vs.toArray r2.e) ∈ rs.map Run.row := List.mem_map.mpr ⟨r2, hm2, rfl⟩
            exact ⟨hS.keeps sg, hY.keeps sg, hO.keeps sg, h4, isList_of (r9 (KE, _) (.tail _ (.tail _ (.tail _ (.head _))))), ⟨fun j hj => ⟨by simp [keyVals, hj], (hT.k j hj).1.keeps sg, (hT.k j hj).2⟩, hT.p⟩,
              isList_of (r9 (r1.a, _) (.tail _ (.tail _ (.tail _ (.tail _ (List.mem_append_left _ hmm1)))))), isList_of (r9 (r2.a, _) (.tail _ (.tail _ (.tail _ (.tail _ (List.mem_append_left _ hmm2)))))), hInv.ix r1 hm1, hInv.ix r2 hm2, by omega, by omega, by omega⟩
          · rintro v need' ⟨D, e, rfl, rfl⟩
            exact ⟨D, _, rfl, rfl⟩
          · obtain ⟨D', e, hDD, hoo⟩ := hD
            obtain rfl : D = D' := by injection hDD
            obtain ⟨-, rfl⟩ := Prod.mk.inj (List.cons.inj hoo).1
            refine W.append 2 rfl z5 ?_
            exact ⟨⟨lo ++ [Run.mk D _ e], el + 1⟩, ⟨rfl, rfl, rfl, rfl, rfl, rfl, trivial⟩, .toEnd (fin D _ e).symm, by simp, hV.step hord (fun _ _ => rfl) hdr (hInv.ix r1 hm1) (hInv.ix r2 hm2) D e⟩
        case done3 =>
          rintro ⟨lo, el⟩ ⟨hlen, hV⟩
          dsimp only at hlen hV
          have z5 : (refs lo).length ≤ 1000000 := by rw [refs_len]; omega
          have hru : ListIs x (sLed3 LO ru KE rs er c N ek0 ⟨lo, el⟩) ru (refs rs) := .inr ⟨er, .tail _ (.head _)⟩
          refine W.len hru hf2 fun t10 t11 => W.mod (by decide) fun t12 t13 => And.intro (fun ho => ?_) (fun ho => ?_)
          · have hodd : rs.length % 2 = 1 := by
              have := eq_of_beq ho
              rw [hlr, Int.fmod_eq_emod_of_nonneg _ (by decide)] at this; omega
            have hlast : rs.length - 1 < rs.length := by omega
            have hdr : rs.drop (2 * (rs.length / 2)) = [rs[rs.length - 1]] := by
              rw [show 2 * (rs.length / 2) = rs.length - 1 by omega, List.drop_eq_getElem_cons hlast, List.drop_of_length_le (by omega)]
            have hx1 : (refs rs)[(refs rs).length - 1]? = some (.ref rs[rs.length - 1].a) := by simp [refs, hlast]
            have hm1 : rs[rs.length - 1] ∈ rs := List.getElem_mem _
            generalize rs[rs.length - 1] = r at *
            have hmm : r.row ∈ rs.map Run.row := List.mem_map.mpr ⟨r, hm1, rfl⟩
            refine Exists.intro (.builtin "list.append") (Exists.intro [.ref LO] (And.intro (Meth.append 0 rfl) (fun t14 => W.neg fun t15 => W.ilast hru (by omega) hx1 (W.append 0 rfl z5 ?_))))
            refine ⟨WSt.mk LO (lo ++ [r]) (el + 1), ?_, ⟨rfl, rfl, rfl, rfl, rfl, trivial⟩, ?_, hV.odd hdr (hInv.ix r hm1), ?_, ?_⟩
            · show (lo ++ [r]).length < rs.length
              rw [List.length_append]; show lo.length + 1 < _; omega
            · refine Sub2.trans (b := (LO, listOf (refs (lo ++ [r])).toArray (el + 1)) :: (KE, listOf (keyVals c N).toArray ek0) :: ([r.row] ++ lo.map Run.row)) (.perm (.cons _ (.cons _ ?_))) (.of ?_)
              · show (List.map Run.row (lo ++ [r])).Perm _
                rw [List.map_append]; exact List.perm_append_comm
              · have e1 : refs lo ++ [Value.ref r.a] = refs (lo ++ [r]) := by simp [refs]
                show List.Sublist _ ((LO, listOf (refs lo ++ [Value.ref r.a]).toArray (el + 1)) :: (ru, _) :: (KE, _) :: (rs.map Run.row ++ lo.map Run.row))
                rw [e1]
                exact .cons_cons _ (.cons _ (.cons_cons _ (List.Sublist.append (List.singleton_sublist.mpr hmm) (.refl _))))
            · show 0 < (lo ++ [r]).length
              rw [List.length_append]; exact Nat.succ_pos _
            · show (lo ++ [r]).length ≤ N
              rw [List.length_append]; show lo.length + 1 ≤ _; omega
          · have hodd : rs.length % 2 = 0 := by
              have := ne_of_beq_false ho
              rw [hlr, Int.fmod_eq_emod_of_nonneg _ (by decide)] at this; omega
            have hdr : rs.drop (2 * (rs.length / 2)) = [] := by
              rw [show 2 * (rs.length / 2) = rs.length by omega, List.drop_length]
            refine ⟨WSt.mk LO lo el, ?_, ⟨rfl, rfl, rfl, rfl, rfl, trivial⟩, .of (.cons_cons _ (.cons _ (.cons_cons _ (List.sublist_append_right _ _)))), hV.done hdr, ?_, ?_⟩
            · show lo.length < rs.length; omega
            · show 0 < lo.length; omega
            · show lo.length ≤ N; omega
      · have h1 : rs.length ≤ 1 := by have : ¬ (1 : Int) < ((refs rs).length : Int) := of_decide_eq_false h1; omega
        obtain ⟨r, rfl⟩ : ∃ r, rs = [r] := List.length_eq_one_iff.mp (by omega)
        have hblk := hInv.ch.one
        have hrl : r.vs.length ≤ N := Nat.le_trans (sumL_mem (.head _)) hInv.len
        refine W.newList fun FO hFO => W.for fun t5 => W.ilist (l := refs [r]) (.inr ⟨er, .tail _ (.head _)⟩) (by decide) (by decide) rfl ?_
        refine IterW.list (σ := FSt) (vs := r.vs) (fun _ => [(Str.ofString "found", .ref FO), (Str.ofString "cells", .ref cl)]) (fun q => [(FO, listOf q.fo.toArray q.ef), (r.a, listOf r.vs.toArray r.e)]) (fun i q => q.fo = (r.vs.take i).map fun v => cs.getD (vn v) .none) ⟨[], 0⟩
          (.inr ⟨_, .tail _ (.head _)⟩) (.inr ⟨_, fun _ => .tail _ (.head _)⟩) ⟨rfl, rfl, trivial⟩ (.of (.cons_cons _ (.cons _ (.cons _ (.cons_cons _ (List.nil_sublist _)))))) rfl ?turn4 ?done4
        case turn4 =>
          rintro i ⟨fo, ef⟩ v I o hi hv hP hoI
          dsimp only at hP
          obtain ⟨j, tj, rfl, hj⟩ := hInv.ix r (.head _) v (List.mem_of_getElem? hv)
          have hxc : cs[(j : Int).toNat]? = some (cs.getD j .none) := by
            rw [show (j : Int).toNat = j by omega]; simp [show j < cs.length by omega]
          have hfl : fo.length ≤ 1000000 := by rw [hP]; simp; omega
          refine Exists.intro (.builtin "list.append") (Exists.intro [.ref FO] (And.intro (Meth.append 1 rfl) (W.ilist (.inl hcl) (by omega) (by omega) hxc (W.append 1 rfl hfl ?_))))
          refine ⟨FSt.mk (fo ++ [cs.getD j .none]) (ef + 1), ⟨rfl, rfl, trivial⟩, .refl, ?_⟩
          dsimp only
          rw [hP, List.take_add_one, hv]
          simp [vn, vi]
        case done4 =>
          rintro ⟨fo, ef⟩ hP
          dsimp only at hP
          have hfo : fo = (r.vs.map vn).map fun i => cs.getD i .none := by rw [hP]; simp [List.map_map, Function.comp_def]
          refine ⟨[(FO, listOf fo.toArray ef)], fun p hp => (List.mem_singleton.mp hp) ▸ .head _, FO, ef, r.vs.map vn, rfl, ?_, hblk⟩
          rw [← hfo]
end
end Mine
end
section
set_option Elab.async false
set_option maxRecDepth 100000
set_option maxHeartbeats 4000000
set_option linter.unusedVariables false
namespace Mine
noncomputable section
open PySem PySem.W PySem.Calls PyProof.Rows
structure YS where
  ys : List Value
  e : Nat
noncomputable def fResv : Fn := ⟨Str.ofString "Cells.reserve", fS (sM 25 3), 215, .ref 214, 850, 8500, rfl, none⟩
theorem sResv : Stands fResv (sM 25 3) := fun _ => by kernel_rfl
noncomputable abbrev stL (P : Params) (st ds hl sy sk tr : Addr) (k : Nat → Tok) (n : Nat) (xs : List Value) (e : Nat) : Led := [(st, instObj 373 ds), (ds, dictOf (stEs P k sy hl sk tr) n), (hl, listOf xs.toArray e)]
theorem reserve_spec (w : World) (st hl ds sy sk tr : Addr) (xs : List Value) (k : Nat → Tok) (n e m : Nat) (tc : Tok) :
    SpecN w 215 [.ref st, .int m tc] 850 8500 (stL w.params st ds hl sy sk tr k n xs e) (fun _ => xs.length ≤ 1000 ∧ m ≤ 3)
      (fun v need' => ∃ t ys e', v = .int xs.length t ∧ ys.length = m ∧ need' = stL w.params st ds hl sy sk tr k n (xs ++ ys) e') := by
  refine SpecN.ofW fResv (sM 25 3) sResv rfl (fun _ _ _ _ _ => rfl) rfl rfl ?_
  intro x hw hp
  subst hw
  obtain ⟨h1, h2⟩ := hp
  have hI : ∀ xs e l, InsIs x (l ++ stL x.w.params st ds hl sy sk tr k n xs e) st 373 ds (stEs x.w.params k sy hl sk tr) n := fun xs e l => ⟨.inr (List.mem_append_right _ (.head _)), .inr (List.mem_append_right _ (.tail _ (.head _)))⟩
  refine W.attr (hI xs e []) rfl rfl (W.len (vs := xs) (.inr ⟨e, .tail _ (.tail _ (.head _))⟩) (by omega) fun t1 t2 => W.attr (hI xs e []) rfl rfl (And.intro (fun h => absurd (of_decide_eq_true h) (by omega)) fun _ => ?_))
  refine W.for (W.range1 fun R r1 r2 r3 hR => ?_)
  refine IterW.range (σ := YS) (n := m) (fun _ => [(Str.ofString "first", .int xs.length t1), (Str.ofString "self", .ref st)]) (fun q => stL x.w.params st ds hl sy sk tr k n (xs ++ q.ys) q.e) (fun i q => q.ys.length = i) ⟨[], e⟩ (.head _) (range_small (by omega) (by omega) (.inl rfl)) (rangeSize_one m)
    ⟨rfl, rfl, trivial⟩ (.dr 1 (by rw [List.append_nil]; rfl)) rfl ?turn ?done
  case turn =>
    rintro i ⟨ys, e2⟩ v I o hi hP hoI
    dsimp only at hP
    refine W.attr (hI (xs ++ ys) e2 [(I, o)]) rfl rfl (Exists.intro (.builtin "list.append") (Exists.intro [.ref hl] (And.intro (Meth.append (its := (xs ++ ys).toArray) (n := e2) 3 rfl) fun t => W.newTuple fun q hq => W.append (vs := xs ++ ys) 4 rfl (by rw [List.length_append]; omega) ?_)))
    rw [List.append_assoc]
    exact ⟨⟨ys ++ [.ref q], e2 + 1⟩, ⟨rfl, rfl, trivial⟩, .dr 1 rfl, by show (ys ++ [Value.ref q]).length = i + 1; rw [List.length_append, hP]; rfl⟩
  case done =>
    rintro ⟨ys, e2⟩ hP
    exact ⟨_, .refl, t1, ys, e2, rfl, hP, rfl⟩
noncomputable def fBlk : Fn := ⟨Str.ofString "Cells.new_block", fS (sM 25 18), 320, .ref 319, 800, 8000, rfl, none⟩
theorem sBlk : Stands fBlk (sM 25 18) := fun _ => by kernel_rfl
theorem insSt {x : Cx} (l : Led) {st ds hl sy sk tr : Addr} {k : Nat → Tok} {n : Nat} {xs : List Value} {e : Nat} {r : Led} : InsIs x (l ++ (stL x.w.params st ds hl sy sk tr k n xs e ++ r)) st 373 ds (stEs x.w.params k sy hl sk tr) n := ⟨.inr (List.mem_append_right _ (.head _)), .inr (List.mem_append_right _ (.tail _ (.head _)))⟩
theorem block0_spec (w : World) (st hl ds sy sk tr : Addr) (xs : List Value) (k : Nat → Tok) (n e : Nat) (tc : Tok) :
    SpecN w 320 [.ref st, .int 0 tc] 800 8000 (stL w.params st ds hl sy sk tr k n xs e) (fun _ => xs.length ≤ 1000)
      (fun v need' => ∃ M a b y0 y1 e', v = .ref M ∧ need' = (M, tupA [.int 3 a, .int xs.length b]) :: stL w.params st ds hl sy sk tr k n (xs ++ [y0, y1]) e') := by
  refine SpecN.ofW fBlk (sM 25 18) sBlk rfl (fun _ _ _ _ _ => rfl) rfl rfl ?_
  intro x hw h1
  subst hw
  refine And.intro (fun _ => ?_) tf
  refine Exists.intro (.ref 215) (Exists.intro [.ref st] (And.intro (Meth.ins (insSt [] (r := [])) rfl rfl) fun t2 => W.callS (reserve_spec _ st hl ds sy sk tr xs k n e 2 t2) [] .refl (fun _ _ _ => ⟨h1, by decide⟩) fun v need' hp => ?_))
  obtain ⟨t, ys, e', rfl, hl2, rfl⟩ := hp
  obtain ⟨y0, y1, rfl⟩ : ∃ y0 y1, ys = [y0, y1] := by
    match ys, hl2 with
    | [a, b], _ => exact ⟨a, b, rfl⟩
  exact W.newTuple fun M hM => ⟨_, .refl, M, _, t, y0, y1, e', rfl, rfl⟩
theorem blockF_spec (w : World) (st hl ds sy sk tr dy tx an fs fn : Addr) (xs txs fns : List Value) (k ky : Nat → Tok) (n n2 e : Nat) (tc : Tok) :
    SpecN w 320 [.ref st, .int 13 tc] 800 8000 (stL w.params st ds hl sy sk tr k n xs e) (fun g => xs.length ≤ 1000 ∧ SyG w g sy txs fns dy tx an fs fn ky n2 ∧ SyOk g txs fns)
      (fun v need' => ∃ M cf a b a1 b1 y0 y1 e', v = .ref M ∧ need' = (M, tupA [.int 2 a, .int xs.length b]) :: (cf, tupA [.int 6 a1, .int 13 b1]) :: stL w.params st ds hl sy sk tr k n (xs ++ [.ref cf, y0, y1]) e') := by
  refine SpecN.ofW fBlk (sM 25 18) sBlk rfl (fun _ _ _ _ _ => rfl) rfl rfl ?_
  intro x hw hp
  subst hw
  obtain ⟨h1, hY, hO⟩ := hp
  obtain ⟨q, u1, u2, h11, h12⟩ := hO.f
  refine And.intro ft fun _ => ?_
  refine Exists.intro (.ref 215) (Exists.intro [.ref st] (And.intro (Meth.ins (insSt [] (r := [])) rfl rfl) fun t2 => W.attr (insSt [] (r := [])) rfl rfl (Exists.intro (.ref 123) (Exists.intro [.ref sy] (And.intro (Meth.ins hY.ins rfl rfl) ?_)))))
  refine W.callP (arity_spec _ sy dy tx an fs fn q txs fns ky n2 13 3 2 tc u1 u2) (fun g sg _ => ⟨hY.keeps sg, by decide, by decide, h11, IsTup.keeps h12 sg⟩) fun _ t3 => ?_
  refine W.callS (reserve_spec _ st hl ds sy sk tr xs k n e 3 t3) [] .refl (fun _ _ _ => ⟨h1, by decide⟩) fun v need' hp => ?_
  obtain ⟨t, ys, e', rfl, hl2, rfl⟩ := hp
  obtain ⟨y, y0, y1, rfl⟩ : ∃ y y0 y1, ys = [y, y0, y1] := by
    match ys, hl2 with
    | [y, a, b], _ => exact ⟨y, a, b, rfl⟩
  refine W.setSub (W.newTuple fun cf hcf => W.attr (insSt [_] (r := [])) rfl rfl (W.setl (xs := xs) (l := [y, y0, y1]) (n := e') 3 rfl 0 rfl (by omega) rfl ?_))
  exact W.newTuple fun M hM => ⟨_, .refl, M, cf, _, t, _, tc, y0, y1, e', rfl, rfl⟩
end
end Mine
end
section
set_option Elab.async false
set_option maxRecDepth 100000
set_option maxHeartbeats 1000000
set_option linter.unusedVariables false
namespace Mine
noncomputable section
open PySem PySem.W PySem.Calls PyProof.Rows
section
variable {F : Fn} {c : Cx} {ls : Loc} {ld : Led}
theorem W.mono {α : Type} {x : Sem α} {k k' : α → Loc → Led → Prop} (h : W F c x k' ls ld) (hk : ∀ v ls' ld', k' v ls' ld' → k v ls' ld') : W F c x k ls ld := fun ok s st => W.step h ok st fun v ls' ld' s' st' h' => ⟨ls', ld', st', hk v ls' ld' h'⟩
theorem W.neInts {a b : Addr} {xs ys : List Value} {ns ms : List Int} {k : Value → Loc → Led → Prop} (ha : ListIs c ld a xs) (hb : ListIs c ld b ys) (hi : IntsAre xs ns) (hj : IntsAre ys ms) (hk : k (.bool (!decide (ns = ms))) ls ld) (hu : Nat.ble ((c.A F).units + 65) cLine = true := by rfl) :
    W F c (compareOp .NotEq (.ref a) (.ref b)) k ls ld := fun ok s st => ke_ne_ints (ha.at st) (hb.at st) hi hj (Nat.le_of_ble_eq_true hu) ⟨ls, ld, st, hk⟩
theorem W.fdiv {a b : Int} {t u : Tok} {k : Value → Loc → Led → Prop} (hb : b ≠ 0) (hp : b.natAbs.log2 < 9000) (hk : ∀ t, k (.int (a.fdiv b) t) ls ld) : W F c (binaryOp .FloorDiv (.int a t) (.int b u)) k ls ld := fun ok s st => floordiv_int hb ⟨ls, ld, st.toks _, hk _⟩ (.inl (PyProof.noPylong_of_log2 hp))
theorem W.pow {a n : Int} {t u : Tok} {k : Value → Loc → Led → Prop} (hn : 0 ≤ n) (hn2 : n ≤ 1000000) (ha : a.natAbs < 2 ^ 64) (hk : ∀ t, k (.int (a ^ n.toNat) t) ls ld) : W F c (binaryOp .Pow (.int a t) (.int n u)) k ls ld := fun ok s st => pow_int_small hn hn2 ha ⟨ls, ld, st.toks _, hk _⟩
theorem W.sliceTo {x : Str} {xp sp pos cp : Pos} {ci : Nat} {l : Addr} {vs : List Value} {n : Nat} {k : Value → Loc → Led → Prop} (h1 : nmQ F.cs ls x = some (.ref l)) (hl : ListIs c ld l vs) (hlen : vs.length ≤ 100000)
    (hk : ∀ D, (∀ p ∈ ld, p.1 < D) → k (.ref D) ls ((D, listOf (vs.take n).toArray 0) :: ld)) : W F c (eval (.Subscript (.Name x xp) (.Slice none (some (.Constant (.int (n : Int)) ci cp)) none sp) pos) (F.env c.L)) k ls ld := fun ok s st => by
  refine Subscript_ ((W.name h1 (k := fun v ls' ld' => v = .ref l ∧ ls' = ls ∧ ld' = ld) ⟨rfl, rfl, rfl⟩).step ok st ?_)
  rintro v ls' ld' s' st' ⟨rfl, rfl, rfl⟩
  refine wpAny_Slice ?_
  refine wpAny_evalPart_none ?_
  refine wpAny_evalPart_some ?_
  refine wpAny_Constant_int ?_
  refine wpAny_evalPart_none ?_
  obtain ⟨m, Fm, hm⟩ := (st'.toks (s'.toks + 1)).F
  refine kms_slice_lit (vl := .none) (vu := .int (n : Int) s'.toks) (lo := none) (hi := some (n : Int)) (zs := vs.take n) (h₀ := c.g) (L := c.L) (m := m) Fm (st'.toks (s'.toks + 1)).N (hl.at (st'.toks (s'.toks + 1))) (by first | exact IsPart.none | constructor | exact .inl ⟨rfl, rfl⟩) (by first | exact IsPart.int _ _ | constructor | exact .inr ⟨_, _, rfl, rfl⟩) ?_ (fun D h' F' N' l1 => ⟨_, _, (st'.toks (s'.toks + 1)).alloc F' hm N' l1, hk D l1⟩) (by with_unfolding_all rfl) (fun _ => by with_unfolding_all rfl) (by rw [PySem.sizeLine_eq]; simp; omega)
  have e1 : kms_hi (some (n : Int)) vs.toArray.toList.length = min n vs.length := by
    unfold kms_hi
    simp only [Int.toNat_natCast]
    rw [if_neg (by omega)]
  unfold kms_pick
  rw [e1]
  exact kmk_take_min vs n
theorem Meth.reverse {l : Addr} {its : Array Value} {n : Nat} (i : Nat) (h : ld[i]? = some (l, listOf its n)) : Meth F c (.ref l) (Str.ofString "reverse") (.builtin "list.reverse") [.ref l] ls ld :=
  fun pl Q E s ok st hq => listMethod_K st.N (List.mem_of_getElem? h) PySem.F.slot_list_reverse PySem.F.type_list_reverse hq
theorem W.reverse {l : Addr} {vs : List Value} {n : Nat} (i : Nat) (h : ld[i]? = some (l, listOf vs.toArray n)) {k : Value → Loc → Led → Prop} (hlen : vs.length ≤ 1000000) (hk : k .none ls (ld.set i (l, listOf vs.reverse.toArray n))) :
    W F c (PySem.call (.builtin "list.reverse") [.ref l]) k ls ld := fun ok s st => by
  obtain ⟨m, Fm, hm⟩ := st.F
  exact kl_reverse Fm st.N rfl (upd_of st.nd h) (by rw [PySem.sizeLine_eq]; simp; omega) fun h' F' N' => ⟨ls, _, ⟨⟨m, F', hm⟩, N', set_nd st.nd h, st.ge, st.dr, st.os⟩, hk⟩
end
noncomputable def IntsL (vs : List Value) : Prop := (∃ ns, IntsAre vs ns) ∧ vs.length ≤ 1000
noncomputable def fNxt : Fn := ⟨Str.ofString "_law_next", fS (sT 39), 473, .ref 472, 850, 8500, rfl, none⟩
theorem sNxt : Stands fNxt (sT 39) := fun _ => by kernel_rfl
theorem next_spec2 (w : World) (rl : Addr) (vs : List Value) (e : Nat) :
    SpecN w 473 [.ref rl] 850 8500 [(rl, listOf vs.toArray e)] (fun _ => IntsL vs) (fun v need' => ∃ n t vs' e', v = .int n t ∧ need' = [(rl, listOf (List.toArray vs') e')] ∧ IntsL vs') := by
  refine SpecN.ofW fNxt (sT 39) sNxt rfl (fun _ _ _ _ _ => rfl) rfl rfl ?_
  intro x hw hp
  obtain ⟨⟨ns, hI⟩, hl⟩ := hp
  refine W.ifE (W.newList fun D hD => W.neInts (xs := vs) (ys := []) (ms := []) (.inr ⟨e, .tail _ (.head _)⟩) (.inr ⟨0, .head _⟩) hI .nil ⟨_, rfl, And.intro (fun h => ?_) (fun h t => ⟨_, .dr 1 rfl, 0, t, vs, e, rfl, rfl, ⟨ns, hI⟩, hl⟩)⟩)
  have hpos : 0 < vs.length := by
    rw [hI.length]
    cases ns with
    | nil => cases h
    | cons _ _ => exact Nat.succ_pos _
  obtain ⟨y, t, hy, rfl, hI2⟩ := kpa_ints hI hpos
  have hlen : vs.dropLast.length ≤ 1000 := by rw [List.length_dropLast]; omega
  generalize vs.dropLast = us at *
  subst hy
  exact Exists.intro (.builtin "list.pop") (Exists.intro [.ref rl] (And.intro (Meth.pop 1 rfl) (W.pop 1 rfl (Nat.le_trans hlen (by decide)) ⟨_, .dr 1 rfl, _, t, us, _, rfl, rfl, ⟨_, hI2⟩, hlen⟩)))
noncomputable def fPsh : Fn := ⟨Str.ofString "Cells.push", fS (sM 25 1), 201, .ref 200, 900, 9000, rfl, none⟩
theorem sPsh : Stands fPsh (sM 25 1) := fun _ => by kernel_rfl
theorem pushC_spec (w : World) (st hl ds sy sk tr : Addr) (xs : List Value) (k : Nat → Tok) (n e : Nat) (v : Value) :
    SpecN w 201 [.ref st, v] 900 9000 (stL w.params st ds hl sy sk tr k n xs e) (fun _ => xs.length ≤ 1000) (fun r need' => ∃ t, r = .int xs.length t ∧ need' = stL w.params st ds hl sy sk tr k n (xs ++ [v]) (e + 1)) := by
  refine SpecN.ofW fPsh (sM 25 1) sPsh rfl (fun _ _ _ _ _ => rfl) rfl rfl ?_
  intro x hw h1
  subst hw
  refine W.attr (insSt [] (r := [])) rfl rfl (W.len (vs := xs) (.inr ⟨e, .tail _ (.tail _ (.head _))⟩) (by omega) fun t => W.attr (insSt [] (r := [])) rfl rfl (And.intro (fun h => absurd (of_decide_eq_true h) (by omega)) fun _ => ?_))
  exact W.attr (insSt [] (r := [])) rfl rfl (Exists.intro (.builtin "list.append") (Exists.intro [.ref hl] (And.intro (Meth.append 2 rfl) (W.append 2 rfl (Nat.le_trans h1 (by decide)) ⟨_, .refl, t, rfl, rfl⟩))))
noncomputable def fNew : Fn := ⟨Str.ofString "Cells.new_var", fS (sM 25 2), 208, .ref 207, 850, 8500, rfl, none⟩
theorem sNew : Stands fNew (sM 25 2) := fun _ => by kernel_rfl
theorem new_var2 (w : World) (st hl ds sy sk tr : Addr) (xs : List Value) (k : Nat → Tok) (n e : Nat) :
    SpecN w 208 [.ref st] 850 8500 (stL w.params st ds hl sy sk tr k n xs e) (fun _ => xs.length ≤ 1000) (fun v need' => ∃ c t1 t2 e', v = .ref c ∧ need' = (c, tupA [.int 0 t1, .int xs.length t2]) :: stL w.params st ds hl sy sk tr k n (xs ++ [.ref c]) e') := by
  refine SpecN.ofW fNew (sM 25 2) sNew rfl (fun _ _ _ _ _ => rfl) rfl rfl ?_
  intro x hw h1
  subst hw
  refine W.attr (insSt [] (r := [])) rfl rfl (W.len (vs := xs) (.inr ⟨e, .tail _ (.tail _ (.head _))⟩) (by omega) fun t => W.newTuple fun C hC => ?_)
  refine Exists.intro (.ref 201) (Exists.intro [.ref st] (And.intro (Meth.ins (insSt [(C, tupA [.int 0 _, .int xs.length t])] (r := [])) rfl rfl) (W.callS (pushC_spec _ st hl ds sy sk tr xs k n e (.ref C)) [(C, tupA [.int 0 _, .int xs.length t])] (.mi 3 rfl) (fun _ _ _ => h1) fun v need' hp => ?_)))
  obtain ⟨t2, rfl, rfl⟩ := hp
  exact ⟨_, Sub2.perm (List.perm_append_comm (l₁ := [(C, tupA [.int 0 _, .int xs.length t])])), C, _, t, e + 1, rfl, rfl⟩
end
end Mine
end
section
set_option Elab.async false
set_option maxRecDepth 100000
set_option maxHeartbeats 1000000
set_option linter.unusedVariables false
namespace Mine
noncomputable section
open PySem PySem.W PySem.Calls PyProof.Rows
noncomputable def fWgt : Fn := ⟨Str.ofString "_law_weight", fS (sT 41), 487, .ref 486, 850, 8500, rfl, none⟩
theorem sWgt : Stands fWgt (sT 41) := fun _ => by kernel_rfl
theorem weight2 (w : World) (kc : Addr) (k : Key) :
    SpecN w 487 [.ref kc] 850 8500 [] (fun g => KeyAt g k kc) (fun v need' => ∃ c a b, v = .ref c ∧ need' = [(c, tupA [.int (wOf k).1 a, .int (wOf k).2 b])]) := by
  refine SpecN.ofW fWgt (sT 41) sWgt rfl (fun _ _ _ _ _ => rfl) rfl rfl ?_
  intro x hw hk
  have one : ∀ D : Addr, ∀ a b : Tok, ∃ need', Sub2 need' [(D, tupA [.int (wOf k).1 a, .int (wOf k).2 b])] ∧ ∃ c a b, Value.ref D = .ref c ∧ need' = [(c, tupA [.int (wOf k).1 a, .int (wOf k).2 b])] := fun D a b => ⟨_, .refl, D, a, b, rfl, rfl⟩
  cases k with
  | v j =>
    obtain ⟨_, t1, t2, h⟩ := hk
    exact fun t => W.itup (.inl h) rfl rfl fun t3 => W.eqStr ⟨_, rfl, And.intro (fun _ t4 t5 => W.itup (.inl h) rfl rfl (W.newTuple fun D _ => one D t4 t2)) tf⟩
  | i n =>
    obtain ⟨t1, t2, h⟩ := hk
    refine fun t => W.itup (.inl h) rfl rfl fun t3 => W.eqStr ⟨_, rfl, And.intro ft fun _ => ?_⟩
    exact fun t => W.itup (.inl h) rfl rfl fun t3 => W.eqStr ⟨_, rfl, And.intro (fun _ t4 t5 => W.itup (.inl h) rfl rfl (W.newTuple fun D _ => one D t4 t2)) tf⟩
  | a n =>
    obtain ⟨_, t1, t2, h⟩ := hk
    refine fun t => W.itup (.inl h) rfl rfl fun t3 => W.eqStr ⟨_, rfl, And.intro ft fun _ => ?_⟩
    refine fun t => W.itup (.inl h) rfl rfl fun t3 => W.eqStr ⟨_, rfl, And.intro ft fun _ => ?_⟩
    refine fun t => W.itup (.inl h) rfl rfl fun t3 => W.eqStr ⟨_, rfl, And.intro (fun _ t4 => ?_) tf⟩
    refine W.ifE fun t5 => W.itup (.inl h) rfl rfl (And.intro (fun e t6 => W.newTuple fun D _ => ?_) (fun e t6 => W.newTuple fun D _ => ?_))
    · have := one D t4 t6
      simp only [wOf, if_pos (eq_of_beq e)] at this ⊢
      exact this
    · have := one D t4 t6
      simp only [wOf, if_neg (ne_of_beq_false e)] at this ⊢
      exact this
  | l j =>
    obtain ⟨t1, t2, q, h, q1, q2, h2, ⟨t3, t4, h3⟩, _⟩ := hk
    refine fun t => W.itup (.inl h) rfl rfl fun t3 => W.eqStr ⟨_, rfl, And.intro ft fun _ => ?_⟩
    refine fun t => W.itup (.inl h) rfl rfl fun t3 => W.eqStr ⟨_, rfl, And.intro ft fun _ => ?_⟩
    refine fun t => W.itup (.inl h) rfl rfl fun t3 => W.eqStr ⟨_, rfl, And.intro ft fun _ => ?_⟩
    exact fun t5 t6 => W.itup (.inl h) rfl rfl fun t7 => W.itup (.inl h2) rfl rfl fun t8 => W.itup (.inl h3) rfl rfl (W.newTuple fun D _ => one D t5 t4)
noncomputable def fKey : Fn := ⟨Str.ofString "_law_key", fS (sT 40), 480, .ref 479, 800, 8000, rfl, none⟩
theorem sKey : Stands fKey (sT 40) := fun _ => by kernel_rfl
theorem fmod_in (n : Int) (m : Nat) (hm : 0 < m) : ∃ j : Nat, n.fmod m = (j : Int) ∧ j < m := by
  rw [Int.fmod_eq_emod_of_nonneg _ (by omega)]
  have h1 := Int.emod_nonneg n (b := (m : Int)) (by omega)
  have h2 := Int.emod_lt_of_pos n (b := (m : Int)) (by omega)
  exact ⟨(n % m).toNat, (Int.toNat_of_nonneg h1).symm, by omega⟩
noncomputable def KeyPost (rl : Addr) (v : Value) (need' : Led) : Prop := ∃ c kk vs' e' fr, v = .ref c ∧ need' = fr ++ [(rl, listOf (List.toArray vs') e')] ∧ IntsL vs' ∧ KeyOk kk ∧ (∀ p ∈ fr, p.2.cls = .type "tuple") ∧ ∀ g, (∀ p ∈ fr, g.get? p.1 = some p.2) → KeyAt g kk c
theorem key2 (w : World) (rl : Addr) (vs : List Value) (e : Nat) : SpecN w 480 [.ref rl] 800 8000 [(rl, listOf vs.toArray e)] (fun _ => IntsL vs) (KeyPost rl) := by
  refine SpecN.ofW fKey (sT 40) sKey rfl (fun _ _ _ _ _ => rfl) rfl rfl ?_
  intro x hw h1
  refine W.callS (next_spec2 _ rl vs e) [] .refl (fun _ _ _ => h1) fun v need' hp => ?_
  obtain ⟨n, t, vs, e, rfl, rfl, h1⟩ := hp
  clear hw
  have one : ∀ (D : Addr) (a : String) (q : Int) (ta tb : Tok) (vs : List Value) (e : Nat) (kk : Key) (r : Led), IntsL vs → KeyOk kk → (∀ g, IsTup g D [.str (Str.ofString a) ta, .int q tb].toArray → KeyAt g kk D) → ∃ need', Sub2 need' ((D, tupA [.str (Str.ofString a) ta, .int q tb]) :: (rl, listOf vs.toArray e) :: r) ∧ KeyPost rl (.ref D) need' :=
    fun D a q ta tb vs e kk r h1 h2 h3 => ⟨_, Sub2.of (.cons_cons _ (.cons_cons _ (List.nil_sublist r))), D, kk, vs, e, [_], rfl, rfl, h1, h2, List.forall_mem_cons.mpr ⟨rfl, List.forall_mem_nil _⟩, fun g hg => h3 g (isTup_of (hg _ (.head _)))⟩
  refine fun t2 => W.mod (by decide) fun t3 t4 => And.intro (fun _ ta => ?_) (fun h0 t4 => And.intro (fun _ ta => ?_) (fun h1' t4 => And.intro (fun _ ta => ?_) (fun h5 ta => ?_)))
  · refine W.callS (next_spec2 _ rl vs e) [] .refl (fun _ _ _ => h1) fun v need' hp => ?_
    obtain ⟨n, t, vs, e, rfl, rfl, h1⟩ := hp
    obtain ⟨j, hj, hj2⟩ := fmod_in n 3 (by decide)
    refine fun t5 => W.mod (by decide) fun t6 => W.newTuple fun D _ => ?_
    rw [show n.fmod 3 = (j : Int) from hj]
    exact one D "v" j ta t6 vs e (.v j) [] h1 hj2 fun g hg => ⟨hj2, _, _, hg⟩
  · refine W.newList fun L hL => W.callS (next_spec2 _ rl vs e) [(L, _)] (.mi 1 rfl) (fun _ _ _ => h1) fun v need' hp => ?_
    obtain ⟨n, t, vs, e, rfl, rfl, h1⟩ := hp
    obtain ⟨j, hj, hj2⟩ := fmod_in n 2 (by decide)
    refine fun t5 => W.mod (by decide) fun t6 => ?_
    rw [show n.fmod 2 = (j : Int) from hj]
    have hv : ∀ a b, ∃ q u, [Value.int 0 a, .int 4 b][(j : Int).toNat]? = some (.int q u) ∧ (q = 0 ∨ q = 4) := fun a b => by
      match j, hj2 with
      | 0, _ => exact ⟨0, a, rfl, .inl rfl⟩
      | 1, _ => exact ⟨4, b, rfl, .inr rfl⟩
    obtain ⟨q, u, hq, hq2⟩ := hv _ _
    refine W.ilist (.inr ⟨0, .tail _ (.head _)⟩) (Int.natCast_nonneg j) (by omega) hq (W.newTuple fun D _ => ?_)
    exact one D "a" q ta u vs e (.a q) _ h1 hq2 fun g hg => ⟨hq2, _, _, hg⟩
  · refine fun tb => W.callS (next_spec2 _ rl vs e) [] .refl (fun _ _ _ => h1) fun v need' hp => ?_
    obtain ⟨n, t, vs, e, rfl, rfl, h1⟩ := hp
    obtain ⟨j, hj, hj2⟩ := fmod_in n 2 (by decide)
    refine fun t5 => W.mod (by decide) fun t6 => W.newTuple fun Q1 _ tc => W.newTuple fun Q2 _ => W.newTuple fun Q _ => W.newTuple fun D _ => ?_
    rw [show n.fmod 2 = (j : Int) from hj]
    exact ⟨_, .refl, D, .l j, vs, e, [_, _, _, _], rfl, rfl, h1, ⟨Int.natCast_nonneg j, by omega⟩, List.forall_mem_cons.mpr ⟨rfl, List.forall_mem_cons.mpr ⟨rfl, List.forall_mem_cons.mpr ⟨rfl, List.forall_mem_cons.mpr ⟨rfl, List.forall_mem_nil _⟩⟩⟩⟩,
      fun g hg => ⟨_, _, Q, isTup_of (hg _ (.head _)), Q1, Q2, isTup_of (hg _ (.tail _ (.head _))), ⟨_, _, isTup_of (hg _ (.tail _ (.tail _ (.tail _ (.head _)))))⟩, _, _, isTup_of (hg _ (.tail _ (.tail _ (.head _))))⟩⟩
  · refine fun u0 u1 => W.neg fun u2 u3 u4 u5 => W.pow (by decide) (by decide) (by decide) fun u6 => W.newList fun L hL => W.callS (next_spec2 _ rl vs e) [(L, _)] (.mi 1 rfl) (fun _ _ _ => h1) fun v need' hp => ?_
    obtain ⟨n, t, vs, e, rfl, rfl, h1⟩ := hp
    obtain ⟨j, hj, hj2⟩ := fmod_in n 4 (by decide)
    refine fun t5 => W.mod (by decide) fun t6 => ?_
    rw [show n.fmod 4 = (j : Int) from hj]
    have hv : ∃ q u, [Value.int 0 u0, .int (-1) u2, .int 3 u3, .int (10 ^ (20 : Int).toNat) u6][(j : Int).toNat]? = some (.int q u) ∧ (-1 ≤ q ∧ q ≤ 10 ^ 20) := by
      match j, hj2 with
      | 0, _ => exact ⟨_, _, rfl, by decide⟩
      | 1, _ => exact ⟨_, _, rfl, by decide⟩
      | 2, _ => exact ⟨_, _, rfl, by decide⟩
      | 3, _ => exact ⟨_, _, rfl, by decide⟩
    obtain ⟨q, u, hq, hq2⟩ := hv
    exact W.ilist (.inr ⟨0, .tail _ (.head _)⟩) (Int.natCast_nonneg j) (by omega) hq (W.newTuple fun D _ => one D "i" q ta u vs e (.i q) _ h1 hq2 fun g hg => ⟨_, _, hg⟩)
end
end Mine
end
section
set_option Elab.async false
set_option maxRecDepth 100000
set_option maxHeartbeats 1000000
set_option linter.unusedVariables false
namespace Mine
noncomputable section
open PySem PySem.W PySem.Calls PyProof.Rows
structure RwS where
  rs : List Value
  e : Nat
structure RnS where
  rs : List Value
  e : Nat
  n : Int
  t : Tok
noncomputable def fRow : Fn := ⟨Str.ofString "_law_row", fS (sT 38), 466, .ref 465, 320, 3200, rfl, none⟩
theorem sRow : Stands fRow (sT 38) := fun _ => by kernel_rfl
theorem ints_snoc {rs : List Value} {n : Int} {t : Tok} (h : ∃ ns, IntsAre rs ns) : ∃ ns, IntsAre (rs ++ [.int n t]) ns := let ⟨_, h⟩ := h; ⟨_, h.append (.cons _ _ .nil)⟩
theorem snoc_le {rs : List Value} {v : Value} {a b : Nat} (h : rs.length ≤ a) (hb : a + 1 ≤ b) : (rs ++ [v]).length ≤ b := by rw [List.length_append]; exact Nat.le_trans (Nat.succ_le_succ h) hb
theorem row2 (w : World) (sc : Addr) (vs : List Value) : SpecN w 466 [.ref sc] 320 3200 [] (fun g => g.IsList sc vs.toArray ∧ (∃ ns, IntsAre vs ns) ∧ vs.length ≤ 63) (fun v need' => ∃ D vs' e, v = .ref D ∧ need' = [(D, listOf (List.toArray vs') e)] ∧ IntsL vs') := by
  refine SpecN.ofW fRow (sT 38) sRow rfl (fun _ _ _ _ _ => rfl) rfl rfl ?_
  intro x hw hp
  obtain ⟨hl, ⟨ns, hI⟩, hlen⟩ := hp
  refine W.newList fun D hD => W.for (W.sliceTo (n := 40) rfl (.inl hl) (by omega) fun D2 hD2 => ?_)
  have h40 : (vs.take 40).length ≤ 40 := by rw [List.length_take]; omega
  refine IterW.list (σ := RwS) (vs := vs.take 40) (fun _ => [(Str.ofString "row", .ref D)]) (fun q => [(D2, listOf (vs.take 40).toArray 0), (D, listOf q.rs.toArray q.e)]) (fun i q => (∃ ns, IntsAre q.rs ns) ∧ q.rs.length ≤ 31 * i) ⟨[], 0⟩ (.inr ⟨0, .head _⟩) (.inr ⟨_, fun _ => .head _⟩)
    ⟨rfl, trivial⟩ .refl ⟨⟨_, .nil⟩, Nat.zero_le _⟩ ?turn ?done
  case turn =>
    rintro i ⟨rs, e⟩ v I o hi hv ⟨p1, p2⟩ hof
    dsimp only at p1 p2
    have hr : rs.length ≤ 1000000 := by omega
    obtain ⟨n, t, rfl, _⟩ := IntsAre.at (hI.take 40) i v hv
    refine W.mono (k' := fun v ls' ld' => (∃ n t, v = .int n t) ∧ ls' = _ ∧ ld' = _) (W.ifE fun t0 => And.intro (fun _ => ⟨⟨_, _, rfl⟩, rfl, rfl⟩) (fun _ t1 t2 => ⟨⟨_, _, rfl⟩, rfl, rfl⟩)) ?_
    rintro v ls' ld' ⟨⟨m, t, rfl⟩, rfl, rfl⟩
    refine Exists.intro (.builtin "list.append") (Exists.intro [.ref D] (And.intro (Meth.append 2 rfl) fun t1 => W.mod (by decide) fun t2 => W.append 2 rfl hr fun t3 => W.fdiv (by decide) (by decide) fun t4 => ?_))
    refine W.for fun t5 => W.range1 fun R r1 r2 r3 hR => ?_
    refine IterW.range (σ := RnS) (n := 30) (fun q => [(Str.ofString "number", .int q.n q.t), (Str.ofString "row", .ref D)]) (fun q => [(I, o), (D2, listOf (vs.take 40).toArray 0), (D, listOf q.rs.toArray q.e)]) (fun k q => (∃ ns, IntsAre q.rs ns) ∧ q.rs.length ≤ 31 * i + 1 + k) ⟨rs ++ [.int _ t2], e + 1, _, t4⟩ (.head _) (by decide) (by decide)
      ⟨rfl, rfl, trivial⟩ (.dr 1 rfl) ⟨ints_snoc p1, snoc_le p2 (Nat.le_refl _)⟩ ?turn2 ?done2
    case turn2 =>
      rintro k ⟨rs, e, n2, t6⟩ u J oJ hk ⟨q1, q2⟩ hoJ
      dsimp only at q1 q2
      have hr : rs.length ≤ 1000000 := by omega
      refine fun t7 => And.intro (fun _ => ?_) (fun _ => ⟨⟨rs, e, n2, t6⟩, ⟨rfl, rfl, trivial⟩, .refl, q1, Nat.le_succ_of_le q2⟩)
      exact Exists.intro (.builtin "list.append") (Exists.intro [.ref D] (And.intro (Meth.append 3 rfl) fun t1 => W.mod (by decide) fun t2 => W.append 3 rfl hr fun t3 => W.fdiv (by decide) (by decide) fun t4 =>
        ⟨⟨rs ++ [.int _ t2], e + 1, _, t4⟩, ⟨rfl, rfl, trivial⟩, .refl, ints_snoc q1, snoc_le q2 (Nat.le_refl _)⟩))
    case done2 =>
      rintro ⟨rs, e, n2, t6⟩ ⟨q1, q2⟩
      exact ⟨⟨rs, e⟩, ⟨rfl, trivial⟩, .refl, q1, by dsimp only at q2 ⊢; omega⟩
  case done =>
    rintro ⟨rs, e⟩ ⟨⟨ns2, p1⟩, p2⟩
    dsimp only at p1 p2
    have hr : rs.length ≤ 100000 := by omega
    have h120 : (rs.take 120).length ≤ 120 := by rw [List.length_take]; omega
    refine W.sliceTo (n := 120) rfl (.inr ⟨e, .tail _ (.head _)⟩) hr fun D3 hD3 => ?_
    exact Exists.intro (.builtin "list.reverse") (Exists.intro [.ref D3] (And.intro (Meth.reverse 0 rfl) (W.reverse 0 rfl (by omega) ⟨_, Sub2.of (.cons_cons _ (List.nil_sublist _)), D3, (rs.take 120).reverse, 0, rfl, rfl, ⟨_, (p1.take 120).reverse⟩, by rw [List.length_reverse]; omega⟩)))
end
end Mine
end
section
set_option Elab.async false
set_option maxRecDepth 100000
set_option maxHeartbeats 1000000
set_option linter.unusedVariables false
namespace Mine
noncomputable section
open PySem PySem.W PySem.Calls PyProof.Rows
noncomputable def fSto : Fn := ⟨Str.ofString "Cells.__init__", fS (sM 25 0), 194, .ref 193, 320, 3200, rfl, none⟩
theorem sSto : StandsV fSto (sM 25 0) (.ref 187) := fun _ => by kernel_rfl
theorem dflt187 (P : Params) : ((K0 P).lookup 187).map (fun o => o.data) = some (.seq #[.int 100000 441] 0) := by kernel_rfl
theorem store_init2 (w : World) (st dx sy : Addr) :
    SpecN w 194 [.ref st, .ref sy] 320 3200 [(st, instObj 373 dx), (dx, emptyDict)] (fun _ => True) (fun v need' => v = .none ∧ ∃ hl sk tr k n, need' = stL w.params st dx hl sy sk tr k n [] 0) := by
  obtain ⟨o, ho, hd⟩ := Option.map_eq_some_iff.mp (dflt187 w.params)
  refine SpecN.ofWV fSto (sM 25 0) (binds := [(Str.ofString "self", .ref st), (Str.ofString "symbols", .ref sy), (Str.ofString "max_heap", .int 100000 441)]) sSto rfl (fun _ _ _ _ _ _ X => binds_K X rfl ho hd rfl rfl) rfl rfl ?_
  intro x hw hp
  subst hw
  refine W.setAttr (W.setIns (es := []) (n := 0) 1 rfl (.inr (.head _)) rfl rfl fun k0 => ?_)
  refine W.setAttr (W.setIns 1 rfl (.inr (.head _)) rfl rfl fun k1 => ?_)
  refine W.setAttr (W.newList fun HL hHL => W.setIns 2 rfl (.inr (.tail _ (.head _))) rfl rfl fun k2 => ?_)
  refine W.setAttr (W.newList fun SK hSK => W.setIns 3 rfl (.inr (.tail _ (.tail _ (.head _)))) rfl rfl fun k3 => ?_)
  refine W.setAttr (W.newList fun TR hTR => W.setIns 4 rfl (.inr (.tail _ (.tail _ (.tail _ (.head _))))) rfl rfl fun k4 => ?_)
  refine W.setAttr fun u5 => W.setIns 4 rfl (.inr (.tail _ (.tail _ (.tail _ (.head _))))) rfl rfl fun k5 => ?_
  refine W.setAttr fun u6 => W.setIns 4 rfl (.inr (.tail _ (.tail _ (.tail _ (.head _))))) rfl rfl fun k6 => ?_
  exact ⟨_, (Sub2.toEnd rfl).trans (.dr 2 rfl), rfl, HL, SK, TR, fun i => [k0, k1, 441, k2, k3, k4, k5, u5, k6, u6].getD i 0, _, rfl⟩
end
end Mine
end
section
set_option linter.unusedVariables false
namespace Mine
open PySem PySem.W PyProof.Rows
noncomputable def KH {α : Type} (n : Nat) (W : Nat → Int) : KasT α → (α → Prop) → Prop
  | .ret a, Q => Q a
  | .ask i j k, Q => i < n ∧ j < n ∧ KH n W (k (decide (W i < W j))) Q
theorem KH.bind {α β : Type} {n : Nat} {W : Nat → Int} {f : α → KasT β} {Q : β → Prop} : ∀ {t : KasT α}, KH n W t (fun a => KH n W (f a) Q) → KH n W (t.bind f) Q
  | .ret a, h => h
  | .ask i j k, ⟨h1, h2, h3⟩ => ⟨h1, h2, KH.bind h3⟩
theorem KH.mono {α : Type} {n : Nat} {W : Nat → Int} {Q Q' : α → Prop} (hq : ∀ a, Q a → Q' a) : ∀ {t : KasT α}, KH n W t Q → KH n W t Q'
  | .ret a, h => hq a h
  | .ask i j k, ⟨h1, h2, h3⟩ => ⟨h1, h2, KH.mono hq h3⟩
theorem KH.ask {α : Type} {n : Nat} {W : Nat → Int} {i j : Nat} {k : Bool → KasT α} {Q : α → Prop} (hi : i < n) (hj : j < n) (h1 : W i < W j → KH n W (k true) Q) (h2 : W j ≤ W i → KH n W (k false) Q) : KH n W (.ask i j k) Q := by
  refine ⟨hi, hj, ?_⟩
  by_cases h : W i < W j
  · rw [decide_eq_true h]; exact h1 h
  · rw [decide_eq_false h]; exact h2 (by omega)
noncomputable def VW (W : Nat → Int) (p : Array Nat) (i : Nat) : Int := W (p.getD i 0)
theorem vw_congr {W : Nat → Int} {p q : Array Nat} {i j : Nat} (h : p[i]? = q[j]?) : VW W p i = VW W q j := by
  unfold VW; rw [Array.getD_eq_getD_getElem?, Array.getD_eq_getD_getElem?, h]
structure PermN (n : Nat) (p : Array Nat) : Prop where
  pos : 0 < n
  perm : p.toList.Perm (List.range n)
theorem PermN.size {n : Nat} {p : Array Nat} (h : PermN n p) : p.size = n := by
  have := h.perm.length_eq; simpa using this
theorem PermN.lt {n : Nat} {p : Array Nat} (h : PermN n p) (i : Nat) : p.getD i 0 < n := by
  rw [Array.getD_eq_getD_getElem?]
  cases e : p[i]? with
  | none => exact h.pos
  | some x =>
    have hm : x ∈ p.toList := by
      obtain ⟨hi, rfl⟩ := Array.getElem?_eq_some_iff.mp e
      simp
    exact List.mem_range.mp (h.perm.mem_iff.mp hm)
theorem PermN.of {n : Nat} {p q : Array Nat} (h : PermN n p) (hp : q.Perm p) : PermN n q := ⟨h.pos, (Array.perm_iff_toList_perm.mp hp).trans h.perm⟩
noncomputable def Up (W : Nat → Int) (p : Array Nat) (k : Nat) : Prop := ∀ i j, i ≤ j → j < k → VW W p i ≤ VW W p j
noncomputable def Dn (W : Nat → Int) (p : Array Nat) (k : Nat) : Prop := ∀ i j, i ≤ j → j < k → VW W p j ≤ VW W p i
theorem vw_rev {W : Nat → Int} {p : Array Nat} {i j : Nat} (hj : j ≤ p.size) (k : Nat) : VW W (kas_rev p i j) k = if i ≤ k ∧ k < j then VW W p (i + j - 1 - k) else VW W p k := by
  have e := getElem?_mirror_all (i := i) hj k
  by_cases h1 : i ≤ k ∧ k < j
  · rw [if_pos h1] at e ⊢; exact vw_congr e
  · rw [if_neg h1] at e ⊢; exact vw_congr e
theorem vw_rev_eq {W : Nat → Int} {p : Array Nat} {i j : Nat} (hj : j ≤ p.size) (he : ∀ k, i ≤ k → k < j → VW W p k = VW W p (j - 1)) (k : Nat) : VW W (kas_rev p i j) k = VW W p k := by
  rw [vw_rev hj]
  split
  · rw [he _ (by omega) (by omega), he k (by omega) (by omega)]
  · rfl
theorem PermN.rev {n : Nat} {p : Array Nat} (h : PermN n p) (i j : Nat) : PermN n (kas_rev p i j) := h.of (mirror_perm _ _ _ _)
theorem up_one {W : Nat → Int} {p : Array Nat} : Up W p 1 := fun i j hij hj => by
  have : i = j := by omega
  subst this; exact Int.le_refl _
theorem up_step {W : Nat → Int} {p : Array Nat} {k : Nat} (h : Up W p k) (h1 : 1 ≤ k) (hk : VW W p (k - 1) ≤ VW W p k) : Up W p (k + 1) := fun i j hij hj => by
  by_cases hjk : j < k
  · exact h i j hij hjk
  · have : j = k := by omega
    subst this
    by_cases hi : i = j
    · subst hi; exact Int.le_refl _
    · exact Int.le_trans (h i (j - 1) (by omega) (by omega)) hk
theorem dn_step {W : Nat → Int} {p : Array Nat} {k : Nat} (h : Dn W p k) (h1 : 1 ≤ k) (hk : VW W p k ≤ VW W p (k - 1)) : Dn W p (k + 1) := fun i j hij hj => by
  by_cases hjk : j < k
  · exact h i j hij hjk
  · have : j = k := by omega
    subst this
    by_cases hi : i = j
    · subst hi; exact Int.le_refl _
    · exact Int.le_trans hk (h i (j - 1) (by omega) (by omega))
theorem asc_kh {n : Nat} {W : Nat → Int} {p : Array Nat} (hp : PermN n p) : ∀ (f k : Nat), 1 ≤ k → k + f ≤ n → Up W p k →
    KH n W (kas_asc p f k) (fun m => k ≤ m ∧ m ≤ k + f ∧ Up W p m ∧ (m = k + f ∨ VW W p m < VW W p (m - 1)))
  | 0, k, _, _, h => ⟨Nat.le_refl _, Nat.le_refl _, h, .inl rfl⟩
  | f + 1, k, h1, h2, h => by
    refine KH.ask (hp.lt _) (hp.lt _) (fun hl => ?_) fun hl => ?_
    · exact ⟨Nat.le_refl _, by omega, h, .inr hl⟩
    · refine KH.mono (fun m hm => ⟨by omega, by omega, hm.2.2.1, ?_⟩) (asc_kh hp f (k + 1) (by omega) (by omega) (up_step h h1 hl))
      rcases hm.2.2.2 with e | e
      · exact .inl (by omega)
      · exact .inr e
theorem desc_kh {n : Nat} {W : Nat → Int} : ∀ (f : Nat) (p : Array Nat) (k q : Nat), PermN n p → 1 ≤ k → k + f ≤ n → Dn W p k → q + 1 ≤ k → (∀ i, k - (q + 1) ≤ i → i < k → VW W p i = VW W p (k - 1)) →
    KH n W (kas_desc f p k q) (fun r => PermN n r.1 ∧ k ≤ r.2.1 ∧ r.2.1 ≤ k + f ∧ Dn W r.1 r.2.1 ∧ r.2.2 + 1 ≤ r.2.1 ∧ ∀ i, r.2.1 - (r.2.2 + 1) ≤ i → i < r.2.1 → VW W r.1 i = VW W r.1 (r.2.1 - 1))
  | 0, p, k, q, hp, h1, h2, hd, hq, he => ⟨hp, Nat.le_refl _, Nat.le_refl _, hd, hq, he⟩
  | f + 1, p, k, q, hp, h1, h2, hd, hq, he => by
    have hsz := hp.size
    have self : ∀ (p : Array Nat) i, k + 1 - (0 + 1) ≤ i → i < k + 1 → VW W p i = VW W p (k + 1 - 1) := fun p i h3 h4 => by
      have : i = k + 1 - 1 := by omega
      rw [this]
    refine KH.ask (hp.lt _) (hp.lt _) (fun hl => ?_) fun hl => ?_
    · rw [if_pos rfl]
      by_cases hq0 : q > 0
      · rw [if_pos hq0]
        have hv := vw_rev_eq (W := W) (by omega : k ≤ p.size) he
        refine KH.mono (fun r hr => ⟨hr.1, by omega, by omega, hr.2.2.2⟩) (desc_kh f _ (k + 1) 0 (hp.rev _ _) (by omega) (by omega) ?_ (by omega) (self _))
        refine dn_step (fun i j a b => by rw [hv, hv]; exact hd i j a b) h1 ?_
        rw [hv, hv]; exact Int.le_of_lt hl
      · rw [if_neg hq0]
        exact KH.mono (fun r hr => ⟨hr.1, by omega, by omega, hr.2.2.2⟩) (desc_kh f _ (k + 1) 0 hp (by omega) (by omega) (dn_step hd h1 (Int.le_of_lt hl)) (by omega) (self _))
    · rw [if_neg (by simp)]
      refine KH.ask (hp.lt _) (hp.lt _) (fun hg => ?_) fun hg => ?_
      · exact ⟨hp, Nat.le_refl _, (by show k ≤ k + (f + 1); omega), hd, hq, he⟩
      · have e : VW W p k = VW W p (k - 1) := Int.le_antisymm hg hl
        refine KH.mono (fun r hr => ⟨hr.1, by omega, by omega, hr.2.2.2⟩) (desc_kh f p (k + 1) (q + 1) hp (by omega) (by omega) (dn_step hd h1 hg) (by omega) fun i h3 h4 => ?_)
        rw [show k + 1 - 1 = k by omega]
        by_cases hi : i = k
        · rw [hi]
        · rw [e]; exact he i (by omega) (by omega)
noncomputable def CntQ (n : Nat) (W : Nat → Int) (r : Nat × Array Nat) : Prop := PermN n r.2 ∧ 1 ≤ r.1 ∧ r.1 ≤ n ∧ Up W r.2 r.1
theorem tail3_kh {n : Nat} {W : Nat → Int} {k : Nat} {p : Array Nat} (hp : PermN n p) (h1 : 1 ≤ k) (h2 : k ≤ n) (hd : Dn W p k) : KH n W (kas_tail3 k n p) (CntQ n W) := by
  unfold kas_tail3
  have hsz := hp.size
  refine KH.bind (KH.mono (fun m hm => ?_) (asc_kh (hp.rev 0 k) (n - k) k h1 (by omega) fun i j a b => ?_))
  · exact ⟨hp.rev 0 k, by omega, by omega, hm.2.2.1⟩
  · rw [vw_rev (by omega), vw_rev (by omega), if_pos (by omega), if_pos (by omega)]
    exact hd _ _ (by omega) (by omega)
theorem descPart_kh {n : Nat} {W : Nat → Int} {k : Nat} {p : Array Nat} (hp : PermN n p) (h2 : k + 1 ≤ n) (hd : Dn W p (k + 1)) : KH n W (kas_descPart k n p) (CntQ n W) := by
  unfold kas_descPart
  refine KH.bind (KH.mono (fun r hr => ?_) (desc_kh (n - (k + 1)) p (k + 1) 0 hp (by omega) (by omega) hd (by omega) fun i h3 h4 => by rw [show i = k + 1 - 1 by omega]))
  obtain ⟨a1, a2, a3, a4, a5, a6⟩ := hr
  have hsz := a1.size
  split
  · have hv := vw_rev_eq (W := W) (by omega : r.2.1 ≤ r.1.size) a6
    exact tail3_kh (a1.rev _ _) (by omega) (by omega) fun i j a b => by rw [hv, hv]; exact a4 i j a b
  · exact tail3_kh a1 (by omega) (by omega) a4
theorem count_kh {n : Nat} {W : Nat → Int} {p : Array Nat} (hp : PermN n p) : KH n W (kas_count n p) (CntQ n W) := by
  unfold kas_count
  have hpos := hp.pos
  have hsz := hp.size
  refine KH.bind (KH.mono (fun m hm => ?_) (asc_kh hp (n - 1) 1 (Nat.le_refl _) (by omega) up_one))
  obtain ⟨h1, h2, h3, h4⟩ := hm
  by_cases hmn : m = n
  · rw [if_pos (by simpa using hmn)]
    exact ⟨hp, h1, by omega, h3⟩
  · rw [if_neg (by simpa using hmn)]
    have hlt : VW W p m < VW W p (m - 1) := by
      rcases h4 with e | e
      · omega
      · exact e
    by_cases hm1 : m > 1
    · rw [if_pos hm1]
      refine KH.ask (hp.lt _) (hp.lt _) (fun hl => ?_) fun hl => ?_
      · rw [if_pos rfl]; exact ⟨hp, h1, by omega, h3⟩
      · rw [if_neg (by simp)]
        have hall : ∀ k, 0 ≤ k → k < m → VW W p k = VW W p (m - 1) := fun k _ hk => by
          have a1 := h3 0 k (by omega) hk
          have a2 := h3 k (m - 1) (by omega) (by omega)
          have a3 : VW W p (m - 1) ≤ VW W p 0 := hl
          omega
        have hv := vw_rev_eq (W := W) (by omega : m ≤ p.size) hall
        refine descPart_kh (hp.rev _ _) (by omega) fun i j a b => ?_
        rw [hv, hv]
        by_cases hj : j < m
        · rw [hall i (by omega) (by omega), hall j (by omega) hj]; exact Int.le_refl _
        · have hj' : j = m := by omega
          subst hj'
          by_cases hi : i = j
          · subst hi; exact Int.le_refl _
          · rw [hall i (by omega) (by omega)]; exact Int.le_of_lt hlt
    · rw [if_neg hm1]
      have : m = 1 := by omega
      subst this
      refine descPart_kh hp (by omega) (dn_step (fun i j a b => ?_) (Nat.le_refl _) (Int.le_of_lt hlt))
      have : i = j := by omega
      subst this; exact Int.le_refl _
theorem place_kh {n : Nat} {W : Nat → Int} {p : Array Nat} {k : Nat} (hp : PermN n p) : ∀ (f l r : Nat), l ≤ r → r ≤ k → r - l ≤ f → (∀ i, i < l → VW W p i ≤ VW W p k) → (∀ i, r ≤ i → i < k → VW W p k ≤ VW W p i) → Up W p k →
    KH n W (kas_place p k f l r) (fun x => x ≤ k ∧ (∀ i, i < x → VW W p i ≤ VW W p k) ∧ ∀ i, x ≤ i → i < k → VW W p k ≤ VW W p i)
  | 0, l, r, h1, h2, h3, h4, h5, hu => by
    have : l = r := by omega
    subst this
    exact ⟨h2, h4, h5⟩
  | f + 1, l, r, h1, h2, h3, h4, h5, hu => by
    unfold kas_place
    split
    · have : l = r := by omega
      subst this
      exact ⟨h2, h4, h5⟩
    · refine KH.ask (hp.lt _) (hp.lt _) (fun hl => ?_) fun hl => ?_
      · rw [if_pos rfl]
        refine place_kh hp f l _ (by omega) (by omega) (by omega) h4 (fun i h6 h7 => ?_) hu
        have := hu ((l + r) / 2) i h6 h7
        exact Int.le_trans (Int.le_of_lt hl) this
      · rw [if_neg (by simp)]
        refine place_kh hp f _ r (by omega) (by omega) (by omega) (fun i h6 => ?_) h5 hu
        have := hu i ((l + r) / 2) (by omega) (by omega)
        exact Int.le_trans this hl
theorem vw_bubble {W : Nat → Int} {p : Array Nat} {src d : Nat} (hs : src < p.size) (hd : d ≤ src) (k : Nat) :
    VW W (bubble p src d) k = if k = src - d then VW W p src else if src - d < k ∧ k ≤ src then VW W p (k - 1) else VW W p k := by
  have e := getElem?_bubble hs d hd k
  by_cases h1 : k = src - d
  · rw [if_pos h1] at e ⊢; exact vw_congr e
  · rw [if_neg h1] at e ⊢
    by_cases h2 : src - d < k ∧ k ≤ src
    · rw [if_pos h2] at e ⊢; exact vw_congr e
    · rw [if_neg h2] at e ⊢; exact vw_congr e
theorem bin_kh {n : Nat} {W : Nat → Int} : ∀ (f : Nat) (p : Array Nat) (k : Nat), PermN n p → k + f = n → Up W p k → KH n W (kas_bin f p k) (fun q => PermN n q ∧ Up W q n)
  | 0, p, k, hp, h, hu => ⟨hp, by rw [← h]; exact hu⟩
  | f + 1, p, k, hp, h, hu => by
    unfold kas_bin
    have hsz := hp.size
    refine KH.bind (KH.mono (fun l hl => ?_) (place_kh hp k 0 k (by omega) (by omega) (by omega) (fun i hi => by omega) (fun i h1 h2 => by omega) hu))
    obtain ⟨h1, h2, h3⟩ := hl
    refine bin_kh f _ (k + 1) (hp.of (bubble_perm _ _ _)) (by omega) fun i j hij hj => ?_
    rw [vw_bubble (by omega) (by omega), vw_bubble (by omega) (by omega)]
    rw [show k - (k - l) = l by omega]
    repeat' split
    all_goals first
      | exact Int.le_refl _
      | (exfalso; omega)
      | exact h2 _ (by omega)
      | exact h3 _ (by omega) (by omega)
      | exact hu _ _ (by omega) (by omega)
theorem sort_kh {n : Nat} (W : Nat → Int) (hn : 0 < n) : KH n W (kas_sort n) (fun p => PermN n p ∧ Up W p n) := by
  unfold kas_sort
  have hp : PermN n (List.toArray (List.range n)) := ⟨hn, by simp⟩
  refine KH.bind (KH.mono (fun r hr => ?_) (count_kh hp))
  obtain ⟨h1, h2, h3, h4⟩ := hr
  split
  · exact bin_kh _ _ _ h1 (by omega) (by rw [show max r.1 1 = r.1 by omega]; exact h4)
  · have : r.1 = n := by omega
    exact ⟨h1, by rw [← this]; exact h4⟩
theorem kh_wp {α : Type} {n : Nat} {W : Nat → Int} {cmp : Nat → Nat → (Bool → Shared → Prop) → Shared → Prop} {I : Shared → Prop} (hc : ∀ i j C s, i < n → j < n → I s → (∀ s', I s' → C (decide (W i < W j)) s') → cmp i j C s) {Q : α → Prop} {G : α → Shared → Prop}
    (hG : ∀ a s, Q a → I s → G a s) : ∀ {t : KasT α} {s : Shared}, KH n W t Q → I s → t.kasWp cmp G s
  | .ret a, s, h, hi => hG a s h hi
  | .ask i j k, s, ⟨h1, h2, h3⟩, hi => hc i j _ s h1 h2 hi fun s' hi' => kh_wp hc hG h3 hi'
end Mine
end
section
set_option linter.unusedVariables false
namespace Mine
noncomputable def ByW (f : Nat → Nat → Int) (W : Nat → Int) : Prop := ∀ i j, (f i j < 0 ↔ W i < W j) ∧ (f i j = 0 ↔ W i = W j)
noncomputable def dueStep (N : Nat) (W : Nat → Int) (d : List Nat) (w : Int) : List Nat := d ++ (List.range N).filter fun p => decide (W p = w) && !d.contains p
noncomputable def dueL (N : Nat) (W : Nat → Int) (l : List Int) : List Nat := l.foldl (dueStep N W) []
theorem mem_dueStep {N : Nat} {W : Nat → Int} {d : List Nat} {w : Int} {i : Nat} : i ∈ dueStep N W d w ↔ i ∈ d ∨ (i < N ∧ W i = w ∧ i ∉ d) := by
  unfold dueStep
  rw [List.mem_append, List.mem_filter, List.mem_range]
  simp [and_assoc]
structure DueInv (N : Nat) (f : Nat → Nat → Int) (W : Nat → Int) (pre : List Int) (d : List Nat) : Prop where
  mem : ∀ i, i ∈ d ↔ i < N ∧ W i ∈ pre
  srt : d.Pairwise (RR false f)
theorem DueInv.step {N : Nat} {f : Nat → Nat → Int} {W : Nat → Int} {pre : List Int} {d : List Nat} {w : Int} (hf : ByW f W) (h : DueInv N f W pre d) (hw : ∀ x ∈ pre, x ≤ w) : DueInv N f W (pre ++ [w]) (dueStep N W d w) where
  mem := fun i => by
    rw [mem_dueStep, h.mem]
    constructor
    · rintro (⟨a, b⟩ | ⟨a, b, _⟩)
      · exact ⟨a, List.mem_append_left _ b⟩
      · exact ⟨a, by rw [b]; simp⟩
    · rintro ⟨a, b⟩
      by_cases hp : W i ∈ pre
      · exact .inl ⟨a, hp⟩
      · refine .inr ⟨a, ?_, fun q => hp q.2⟩
        rcases List.mem_append.mp b with b | b
        · exact absurd b hp
        · exact List.mem_singleton.mp b
  srt := by
    unfold dueStep
    refine List.pairwise_append.mpr ⟨h.srt, ?_, ?_⟩
    · have hr : (List.range N).Pairwise (· < ·) := List.pairwise_lt_range
      refine List.Pairwise.imp_of_mem (fun {a b} ha hb hab => ?_) (hr.filter _)
      have ha' := (List.mem_filter.mp ha).2
      have hb' := (List.mem_filter.mp hb).2
      simp only [Bool.and_eq_true, decide_eq_true_eq] at ha' hb'
      exact .inr ⟨rfl, (hf a b).2.mpr (by rw [ha'.1, hb'.1]), hab⟩
    · intro a ha b hb
      have hb' := (List.mem_filter.mp hb)
      simp only [Bool.and_eq_true, decide_eq_true_eq, Bool.not_eq_true', List.contains_eq_mem, decide_eq_false_iff_not, List.mem_range] at hb'
      have h1 := ((h.mem a).mp ha)
      have h2 := hw _ h1.2
      refine .inl ((hf a b).1.mpr ?_)
      have h3 : W a ≠ w := fun e => hb'.2.2 ((h.mem b).mpr ⟨hb'.1, by rw [hb'.2.1, ← e]; exact h1.2⟩)
      rw [hb'.2.1]; omega
theorem dueL_inv {N : Nat} {f : Nat → Nat → Int} {W : Nat → Int} (hf : ByW f W) : ∀ (l pre : List Int) (d : List Nat), DueInv N f W pre d → (pre ++ l).Pairwise (· ≤ ·) → DueInv N f W (pre ++ l) (l.foldl (dueStep N W) d)
  | [], pre, d, h, _ => by simpa using h
  | w :: l, pre, d, h, hs => by
    have e : pre ++ w :: l = pre ++ [w] ++ l := by simp
    rw [e] at hs ⊢
    refine dueL_inv hf l (pre ++ [w]) _ (h.step hf fun x hx => ?_) hs
    have := List.pairwise_append.mp (List.pairwise_append.mp hs).1
    exact this.2.2 x hx w (by simp)
theorem due_blk {N : Nat} {f : Nat → Nat → Int} {W : Nat → Int} (hf : ByW f W) {l : List Int} (hs : l.Pairwise (· ≤ ·)) (hall : ∀ i, i < N → W i ∈ l) : Blk false f 0 N (dueL N W l) := by
  have h := dueL_inv (N := N) hf l [] [] ⟨fun i => by simp, .nil⟩ (by simpa using hs)
  rw [List.nil_append] at h
  exact ⟨fun i => by
    rw [show (i ∈ dueL N W l ↔ i < N ∧ W i ∈ l) from h.mem i]
    constructor
    · rintro ⟨a, _⟩; exact ⟨Nat.zero_le _, a, fun e => by cases e⟩
    · rintro ⟨_, a, _⟩; exact ⟨a, hall i a⟩, h.srt⟩
noncomputable def isFirst (W : Nat → Int) (p : Nat) : Bool := decide (∀ j, j < p → W j ≠ W p)
theorem first_blk {N : Nat} {f : Nat → Nat → Int} {W : Nat → Int} (hf : ByW f W) {d : List Nat} (h : Blk false f 0 N d) : Blk true f 0 N (d.filter (isFirst W)) where
  mem := fun i => by
    rw [List.mem_filter, h.mem]
    unfold isFirst
    rw [decide_eq_true_iff]
    constructor
    · rintro ⟨⟨a, b, _⟩, c⟩
      exact ⟨a, b, fun _ j _ hj e => c j hj ((hf j i).2.mp e)⟩
    · rintro ⟨a, b, c⟩
      exact ⟨⟨a, b, fun e => by cases e⟩, fun j hj e => c rfl j (Nat.zero_le _) hj ((hf j i).2.mpr e)⟩
  sorted := by
    refine List.Pairwise.imp_of_mem (fun {a b} ha hb hab => ?_) (h.sorted.filter _)
    have hb' := (List.mem_filter.mp hb).2
    unfold isFirst at hb'
    rw [decide_eq_true_iff] at hb'
    rcases hab with hab | ⟨_, e, hlt⟩
    · exact .inl hab
    · exact absurd ((hf a b).2.mp e) (hb' a hlt)
theorem blk_lex {N : Nat} {f g : Nat → Nat → Int} {d : List Nat} (hg : ∀ i j, g i j = if f i j ≠ 0 then f i j else (if i < j then -1 else if j < i then 1 else 0)) (h : Blk false f 0 N d) : Blk false g 0 N d where
  mem := fun i => by
    rw [h.mem]
    constructor
    · rintro ⟨a, b, _⟩; exact ⟨a, b, fun e => by cases e⟩
    · rintro ⟨a, b, _⟩; exact ⟨a, b, fun e => by cases e⟩
  sorted := h.sorted.imp fun {a b} hab => by
    refine .inl ?_
    rw [hg]
    rcases hab with hab | ⟨_, e, hlt⟩
    · rw [if_pos (by omega)]; exact hab
    · rw [if_neg (by omega), if_pos hlt]; decide
theorem ord_of {f : Nat → Nat → Int} {W : Nat → Int} (hf : ByW f W) (hr : ∀ i j, f j i = - f i j) : Ord f where
  anti := hr
  trans := fun i j k h1 h2 => by
    have a := hf i j
    have b := hf j k
    have c := hf i k
    by_cases e1 : f i j = 0
    · have := a.2.mp e1
      by_cases e2 : f j k = 0
      · have := b.2.mp e2
        have : f i k = 0 := c.2.mpr (by omega)
        omega
      · have := b.1.mp (by omega)
        have : f i k < 0 := c.1.mpr (by omega)
        omega
    · have := a.1.mp (by omega)
      by_cases e2 : f j k = 0
      · have := b.2.mp e2
        have : f i k < 0 := c.1.mpr (by omega)
        omega
      · have := b.1.mp (by omega)
        have : f i k < 0 := c.1.mpr (by omega)
        omega
end Mine
end
section
set_option Elab.async false
set_option linter.unusedVariables false
namespace Mine
open PySem PySem.W PySem.Calls PyProof.Rows
noncomputable def encK (k : Key) : Int := (wOf k).1 * 1000000000000000000000000000000 + (wOf k).2
theorem wOf_range {k : Key} (h : KeyOk k) : 0 ≤ (wOf k).1 ∧ (wOf k).1 ≤ 3 ∧ -1 ≤ (wOf k).2 ∧ (wOf k).2 ≤ 100000000000000000000 := by
  cases k with
  | v j => simp only [wOf, KeyOk] at *; omega
  | i n => simp only [wOf, KeyOk] at *; omega
  | a n => simp only [wOf, KeyOk] at *; split <;> omega
  | l j => simp only [wOf, KeyOk] at *; omega
theorem encK_lt {k k' : Key} (h : KeyOk k) (h' : KeyOk k') : (encK k < encK k' ↔ (wOf k).1 < (wOf k').1 ∨ ((wOf k).1 = (wOf k').1 ∧ (wOf k).2 < (wOf k').2)) := by
  have a := wOf_range h
  have b := wOf_range h'
  unfold encK
  omega
theorem encK_eq {k k' : Key} (h : KeyOk k) (h' : KeyOk k') : (encK k = encK k' ↔ (wOf k).1 = (wOf k').1 ∧ (wOf k).2 = (wOf k').2) := by
  have a := wOf_range h
  have b := wOf_range h'
  unfold encK
  omega
theorem sg_lt {a b : Int} (h : a < b) : sg a b = -1 := by unfold sg; rw [if_pos h]
theorem sg_gt {a b : Int} (h : b < a) : sg a b = 1 := by unfold sg; rw [if_neg (by omega), if_pos h]
theorem sg_eq {a b : Int} (h : a = b) : sg a b = 0 := by unfold sg; rw [if_neg (by omega), if_neg (by omega)]
theorem sg_lex {a b c d : Int} (ha : 0 ≤ a ∧ a ≤ 3) (hb : 0 ≤ b ∧ b ≤ 3) (hc : -1 ≤ c ∧ c ≤ 100000000000000000000) (hd : -1 ≤ d ∧ d ≤ 100000000000000000000) :
    sg (a * 1000000000000000000000000000000 + c) (b * 1000000000000000000000000000000 + d) = if sg a b ≠ 0 then sg a b else sg c d := by
  rcases Int.lt_trichotomy a b with h | h | h
  · rw [sg_lt h, sg_lt (by omega)]; rfl
  · subst h
    rw [sg_eq rfl, if_neg (by decide)]
    rcases Int.lt_trichotomy c d with h | h | h
    · rw [sg_lt h, sg_lt (by omega)]
    · rw [sg_eq h, sg_eq (by omega)]
    · rw [sg_gt h, sg_gt (by omega)]
  · rw [sg_gt h, sg_gt (by omega)]; rfl
theorem cmp_key {k k' : Key} {p p' : Nat} (h : KeyOk k) (h' : KeyOk k') : cmpT (keyTm k p) (keyTm k' p') = sg (encK k) (encK k') := by
  have a := wOf_range h
  have b := wOf_range h'
  unfold encK
  rw [sg_lex ⟨a.1, a.2.1⟩ ⟨b.1, b.2.1⟩ ⟨a.2.2.1, a.2.2.2⟩ ⟨b.2.2.1, b.2.2.2⟩]
  have z : sg 0 0 = 0 := rfl
  cases k with
  | v j => cases k' <;> rfl
  | i n => cases k' <;> rfl
  | a n =>
    cases k' with
    | a m => rfl
    | v _ => rfl
    | i _ => rfl
    | l _ => rfl
  | l j =>
    cases k' with
    | l j' =>
      show (if sg j j' ≠ 0 then sg j j' else (0 : Int)) = (if sg 3 3 ≠ 0 then sg 3 3 else sg j j')
      rw [if_neg (show ¬ sg 3 3 ≠ 0 by decide)]
      split
      · rfl
      · omega
    | v _ => rfl
    | i _ => rfl
    | a _ => rfl
end Mine
end
section
set_option Elab.async false
set_option maxRecDepth 100000
set_option maxHeartbeats 1000000
set_option linter.unusedVariables false
namespace Mine
open PySem PySem.W PySem.Calls PyProof.Rows
section
variable {prog : Program} {w : World} {A : Around} {E : Value → Shared → Prop} {s : Shared} {h₀ : Heap} {L a : Addr} {m : Str → Option Value} {news : List (Addr × Obj)} {vs : List Value}
theorem sort_short {n : Nat} {P : PySem.Fin → Shared → Prop} (F : Fr h₀ L s.heap m) (N : News h₀ L s.heap news) (ho : s.heap.get? a = some (seqObj "list" vs.toArray n)) (haL : a ≠ L) (ha0 : h₀.get? a = none) (hna : ∀ p ∈ news, p.1 ≠ a) (h2 : vs.length < 2)
    (h : ∀ h' c, Fr h₀ L h' m → News h₀ L h' ((a, listOf vs.toArray c) :: news) → P (.done (.ret .none)) { s with heap := h' }) : wpAny (model prog w) A (Builtin.«list.sort» ⟨[.ref a], []⟩) P E s := by
  have ha : a < s.heap.objs.size := Heap.lt_size ho
  have q1 := Heap.SameBut.update s.heap a (Obj.mapSeq fun _ => (#[] : Array Value))
  obtain ⟨e1, ho1⟩ : ∃ e1, (s.heap.update a (Obj.mapSeq fun _ => (#[] : Array Value))).get? a = some (seqObj "list" #[] e1) := ⟨_, get?_update_seq ho fun _ => #[]⟩
  have F3 : Fr h₀ L (((s.heap.update a (Obj.mapSeq fun _ => (#[] : Array Value))).push (seqObj "tuple" vs.toArray 0)).push (seqObj "list" #[] 0)) m := ((kas_fr F q1 haL ha0).push _).push _
  have N3 : News h₀ L (((s.heap.update a (Obj.mapSeq fun _ => (#[] : Array Value))).push (seqObj "tuple" vs.toArray 0)).push (seqObj "list" #[] 0)) news :=
    (kas_news N q1 hna).grown fun b x e => Heap.get?_push_of_some _ (Heap.get?_push_of_some _ e)
  have ho3 : (((s.heap.update a (Obj.mapSeq fun _ => (#[] : Array Value))).push (seqObj "tuple" vs.toArray 0)).push (seqObj "list" #[] 0)).get? a = some (seqObj "list" #[] e1) := Heap.get?_push_of_some _ (Heap.get?_push_of_some _ ho1)
  have hs : vs.toArray.size < 2 := by simpa using h2
  have hout : ((vs.toArray.zip vs.toArray).map (·.2)) = vs.toArray := by
    apply Array.toList_inj.mp
    rw [Array.toList_map, Array.toList_zip]
    exact List.map_snd_zip (Nat.le_refl _)
  rw [list_sort_plain]
  refine wpAny_bind (listItems_at ho rfl ?_)
  refine wpAny_bind (listUpdate_at ho rfl ?_ (by rw [List.size_toArray, sizeLine_eq]; omega) (Nat.zero_le _))
  refine wpAny_bind (seqEpoch_at ho1 rfl ?_)
  refine wpAny_bind (wpAny_newTuple ?_ (by show vs.length ≤ _; rw [sizeLine_eq]; omega))
  refine wpAny_bind (wpAny_newList ?_ (Nat.zero_le _))
  refine wpAny_holding ?_
  show wpAny (model prog w) A _ P E { s with heap := ((s.heap.update a (Obj.mapSeq fun _ => (#[] : Array Value))).push (seqObj "tuple" vs.toArray 0)).push (seqObj "list" #[] 0) }
  dsimp only
  rw [if_pos hs, if_pos hs]
  refine wpAny_bind (wpAny_pure ?_)
  rw [StateT.run_pure]
  refine wpAny_bind (wpAny_pure ?_)
  dsimp only
  have har : (arrOf (SortSt.mk' general' (vs.toArray.zip vs.toArray) #[] 7 none)).map (·.2) = vs.toArray := hout
  rw [har]
  have s2 := Heap.SameBut.update (((s.heap.update a (Obj.mapSeq fun _ => (#[] : Array Value))).push (seqObj "tuple" vs.toArray 0)).push (seqObj "list" #[] 0)) a (Obj.mapSeq fun _ => vs.toArray)
  obtain ⟨c2, hc2⟩ : ∃ c2, ((((s.heap.update a (Obj.mapSeq fun _ => (#[] : Array Value))).push (seqObj "tuple" vs.toArray 0)).push (seqObj "list" #[] 0)).update a (Obj.mapSeq fun _ => vs.toArray)).get? a = some (seqObj "list" vs.toArray c2) := ⟨_, get?_update_seq ho3 fun _ => vs.toArray⟩
  refine wpAny_bind (seqEpoch_at ho3 rfl ?_)
  refine wpAny_bind (listUpdate_at ho3 rfl ?_ (Nat.zero_le _) (by rw [List.size_toArray, sizeLine_eq]; omega))
  simp only [bne_self_eq_false, Bool.false_eq_true, if_false]
  refine wpAny_pure (h _ c2 (kas_fr F3 s2 haL ha0) fun p hp => ?_)
  rcases List.mem_cons.mp hp with rfl | hp
  · exact ⟨hc2, haL, ha0⟩
  · exact kas_news N3 s2 hna p hp
theorem sorted_short {l : Addr} {Q : Value → Shared → Prop} (F : Fr h₀ L s.heap m) (N : News h₀ L s.heap news) (hl : s.heap.IsList l vs.toArray) (h2 : vs.length < 2)
    (h : ∀ D c h', Fr h₀ L h' m → News h₀ L h' ((D, listOf vs.toArray c) :: news) → (∀ q ∈ news, q.1 < D) → Q (.ref D) { s with heap := h' }) : wpAny (model prog w) A (call (.builtin "sorted") [.ref l]) Q E s := by
  refine Calls.call_function_entry kind_sorted plain_sorted entry_sorted (args_sorted1 _) ?_
  unfold Builtin.«sorted»
  refine wpAny_bind (m := checkCount "sorted" 1 1 _) (wpAny_pure ?_)
  refine wpAny_bind (collect_list hl ?_ (by rw [sizeLine_eq]; omega))
  refine wpAny_bind (wpAny_newList ?_ (by rw [sizeLine_eq]; omega))
  have hsz : ((s.heap.push (seqObj "list" #[] 0)).update s.heap.objs.size (Obj.mapSeq (· ++ vs.toArray))).objs.size = s.heap.objs.size + 1 := by
    rw [Heap.size_update, size_push']
  have hoL : (((s.heap.push (seqObj "list" #[] 0)).update s.heap.objs.size (Obj.mapSeq (· ++ vs.toArray))).push (seqObj "list" vs.toArray 0)).get? (s.heap.objs.size + 1) = some (seqObj "list" vs.toArray 0) := by
    rw [← hsz]; exact Heap.get?_push_size _ rfl
  have keep : ∀ b o, s.heap.get? b = some o → (((s.heap.push (seqObj "list" #[] 0)).update s.heap.objs.size (Obj.mapSeq (· ++ vs.toArray))).push (seqObj "list" vs.toArray 0)).get? b = some o := fun b o q => by
    have hlt : b < s.heap.objs.size := Heap.lt_size q
    rw [Heap.get?_push_ne _ _ _ (by rw [hsz]; exact Nat.ne_of_lt (Nat.lt_succ_of_lt hlt)), Heap.get?_update_ne _ _ _ _ (Nat.ne_of_lt hlt), Heap.get?_push_ne _ _ _ (Nat.ne_of_lt hlt)]
    exact q
  have hL : L < s.heap.objs.size := F.ns.lt
  show wpAny _ _ _ _ _ { s with heap := ((s.heap.push (seqObj "list" #[] 0)).update s.heap.objs.size (Obj.mapSeq (· ++ vs.toArray))).push (seqObj "list" vs.toArray 0) }
  rw [hsz]
  refine wpAny_bind (wpAny_holding (wpAny_call_entry slot_list_sort ⟨_, hoL, rfl⟩ entry_list_sort ?body (args_list_sort _)))
  refine sort_short (s := { s with heap := ((s.heap.push (seqObj "list" #[] 0)).update s.heap.objs.size (Obj.mapSeq (· ++ vs.toArray))).push (seqObj "list" vs.toArray 0) })
    (F.kept keep) (N.grown keep) hoL (Nat.ne_of_gt (Nat.lt_succ_of_lt hL)) (Heap.get?_none_of_le (Nat.le_trans F.above (Nat.le_succ_of_le (Nat.le_of_lt hL))))
    (fun p hp => Nat.ne_of_lt (Nat.lt_succ_of_lt (Heap.lt_size (N p hp).1))) h2 fun h' c F' N' => ?_
  exact ⟨_, rfl, wpAny_pure ⟨_, rfl, h _ c h' F' N' fun q hq => Nat.lt_succ_of_lt (Heap.lt_size (N q hq).1)⟩⟩
theorem katTups_of {h : Heap} : ∀ (vs : List Value), (∀ v ∈ vs, ∃ a x t1 y t2, v = .ref a ∧ h.get? a = some (tupO [.int x t1, .int y t2])) → ∃ fs, fs.length = vs.length ∧ KatTups h vs fs ∧ ∀ v ∈ fs, ∃ x t, v = Value.int x t
  | [], _ => ⟨[], rfl, KatTups.nil, fun _ h => by simp at h⟩
  | v :: vs, hv => by
    obtain ⟨fs, h1, h2, h3⟩ := katTups_of vs fun u hu => hv u (.tail _ hu)
    obtain ⟨a, x, t1, y, t2, rfl, ha⟩ := hv v (.head _)
    refine ⟨.int x t1 :: fs, by rw [List.length_cons, List.length_cons, h1], KatTups.cons ha rfl rfl rfl h2, fun u hu => ?_⟩
    rcases List.mem_cons.mp hu with rfl | hu
    · exact ⟨x, t1, rfl⟩
    · exact h3 u hu
theorem up_pairwise {W : Nat → Int} {p : Array Nat} {n : Nat} (hs : p.size = n) (h : Up W p n) : (p.toList.map W).Pairwise (· ≤ ·) := by
  rw [List.pairwise_iff_getElem]
  intro i j hi hj hij
  rw [List.getElem_map, List.getElem_map]
  simp only [List.length_map, Array.length_toList] at hi hj
  have := h i j (by omega) (by omega)
  unfold VW at this
  have e1 : p.getD i 0 = p[i] := by simp [Array.getD, hi]
  have e2 : p.getD j 0 = p[j] := by simp [Array.getD, hj]
  rw [e1, e2] at this
  simpa using this
theorem sorted_pairs {n : Nat} {l : Addr} {Q : Value → Shared → Prop} {X Y : Nat → Int} {W : Nat → Int} (hu : A.units + 8 < cLine) (hlen : vs.length = n) (hn : n ≤ 32) (F : Fr h₀ L s.heap m) (N : News h₀ L s.heap news) (hl : s.heap.IsList l vs.toArray)
    (hv : ∀ i, i < n → ∃ c t1 t2, vs[i]? = some (.ref c) ∧ (c, tupO [.int (X i) t1, .int (Y i) t2]) ∈ news)
    (hW : ∀ i j, i < n → j < n → (W i < W j ↔ X i < X j ∨ (X i = X j ∧ Y i < Y j)))
    (h : ∀ (D : Addr) c h' tk (p : List Nat), Fr h₀ L h' m → News h₀ L h' ((D, listOf (List.toArray (p.map fun i => vs.getD i Value.none)) c) :: news) → (∀ q ∈ news, q.1 < D) → p.Perm (List.range n) → (p.map W).Pairwise (· ≤ ·) → Q (.ref D) { s with heap := h', toks := tk }) :
    wpAny (model prog w) A (call (.builtin "sorted") [.ref l]) Q E s := by
  by_cases h2 : vs.length < 2
  · refine sorted_short F N hl h2 fun D c h' F' N' hlt => ?_
    have e : vs = (List.range n).map fun i => vs.getD i Value.none := by
      rw [← hlen]
      clear hv hlen hl h N' F' hlt N F
      rcases vs with _ | ⟨x, _ | ⟨y, r⟩⟩
      · rfl
      · rfl
      · exact absurd h2 (by simp)
    rw [e] at N'
    refine h D c h' s.toks (List.range n) F' N' hlt (List.Perm.refl _) ?_
    match n, hlen, h2 with
    | 0, _, _ => simp
    | 1, _, _ => simp
    | n + 2, hl0, h => omega
  · have hn0 : 0 < n := by omega
    refine kat_sorted F N hl (by omega) (by omega) fun D e1 h' F' N' hlt => ?_
    subst hlen
    have hna : ∀ p ∈ news, p.1 ≠ D := fun p hp => Nat.ne_of_lt (hlt p hp)
    have hget : ∀ i, i < vs.length → ∃ c t1 t2, vs.getD i Value.none = .ref c ∧ h'.get? c = some (tupO [.int (X i) t1, .int (Y i) t2]) := fun i hi => by
      obtain ⟨c, t1, t2, h3, h4⟩ := hv i hi
      exact ⟨c, t1, t2, by rw [List.getD_eq_getElem?_getD, h3]; rfl, (N' _ (.tail _ h4)).1⟩
    obtain ⟨fs, hf1, hf2, hf3⟩ := katTups_of (h := h') vs fun v hm => by
      obtain ⟨i, hi, rfl⟩ := List.mem_iff_getElem.mp hm
      obtain ⟨c, t1, t2, h3, h4⟩ := hv i hi
      rw [List.getElem?_eq_getElem hi] at h3
      exact ⟨c, _, t1, _, t2, Option.some.inj h3, (N' _ (.tail _ h4)).1⟩
    refine kat_kind (T := Value.type "int") hf2 (by omega) (fun v hm => by obtain ⟨x, t, rfl⟩ := hf3 v hm; exact Looks.of_pure rfl) (by decide) ?_
    refine kh_wp (n := vs.length) (W := W) (I := fun s' => ∃ tk, s' = { s with heap := h', toks := tk }) ?hc ?hG (sort_kh W hn0) ⟨s.toks, rfl⟩
    case hG =>
      rintro p s'' ⟨hp, hu⟩ ⟨tk, rfl⟩
      exact KasFin.intro F' N' (UpdF.head hna) fun h'' c F'' N'' => h D c h'' tk p.toList F'' N'' hlt hp.perm (up_pairwise hp.size hu)
    case hc =>
      rintro i j C s' hi hj ⟨tk, rfl⟩ hk
      obtain ⟨c, t1, t2, e1, g1⟩ := hget i hi
      obtain ⟨d, t3, t4, e2, g2⟩ := hget j hj
      have hk' := hk _ ⟨tk, rfl⟩
      have hw := hW i j hi hj
      unfold kas_ask
      rw [e1, e2]
      refine kat_lt g1 rfl g2 rfl ?_
      refine kat_cons (wpAny_eqBool_int ?_)
      by_cases hx : X i = X j
      · have hb : (X i == X j) = true := by simpa using hx
        rw [hb]
        refine kat_yes (kat_cons (wpAny_eqBool_int ?_))
        by_cases hy : Y i = Y j
        · have hb2 : (Y i == Y j) = true := by simpa using hy
          rw [hb2]
          refine kat_yes (kat_nil ?_)
          have : decide (W i < W j) = false := by rw [decide_eq_false_iff_not, hw]; omega
          rw [this] at hk'
          exact hk'
        · have hb2 : (Y i == Y j) = false := by simpa using hy
          rw [hb2]
          refine kat_no ?_
          show wpAny _ _ (oneLt' false _ _) _ _ _
          refine kat_one _ _ (wpAny_lt_int ?_)
          have : decide (W i < W j) = decide (Y i < Y j) := by rw [decide_eq_decide, hw]; omega
          rw [this] at hk'
          exact hk'
      · have hb : (X i == X j) = false := by simpa using hx
        rw [hb]
        refine kat_no ?_
        show wpAny _ _ (oneLt' true _ _) _ _ _
        refine oneLt_int ?_
        have : decide (W i < W j) = decide (X i < X j) := by rw [decide_eq_decide, hw]; omega
        rw [this] at hk'
        exact hk'
end
end Mine
end
section
set_option Elab.async false
set_option maxRecDepth 100000
set_option maxHeartbeats 1000000
set_option linter.unusedVariables false
namespace Mine
open PySem PySem.W PySem.Calls PyProof.Rows PySem.SeqAt
section
variable {prog : Program} {w : World} {A : Around} {E : Value → Shared → Prop} {s : Shared}
theorem eqAt_pair {p q : Addr} {i j a b : Int} {t1 t2 t3 t4 : Tok} {r : Bool} (hp : IsTup s.heap p [Value.int i t1, .int a t2].toArray) (hq : IsTup s.heap q [Value.int j t3, .int b t4].toArray) (hu : A.units + 64 < cLine)
    (hr : decide (i = j ∧ a = b) = r) : EqAt A s (.ref p) (.ref q) r := by
  by_cases h : p = q
  · subst h
    obtain ⟨e1, e2⟩ := isTup_inj hp hq
    have : r = true := by rw [← hr]; simp [e1, e2]
    rw [this]
    exact EqAt.same _
  · refine EqAt.of_refs h fun prog w E Q hq' => ?_
    exact tup2_eq hp hq hu (by rw [hr]; exact hq')
theorem ne_same {l b : Addr} {vs : List Value} {Q : Value → Shared → Prop} (hl : s.heap.IsList l vs.toArray) (hb : s.heap.IsList b vs.toArray) (hu : A.units < cLine) (h : Q (.bool false) s) : wpAny (model prog w) A (compareOp .NotEq (.ref l) (.ref b)) Q E s :=
  RcNeAt.lists (e := fun _ => true) hl hb rfl hu (fun j h1 h2 => EqAt.same _) prog w E Q (by
    have : (!(List.range vs.toArray.size).all (fun _ => true)) = false := by simp
    rw [this]; exact h)
theorem notin_nats {l : Addr} {vs : List Value} {ds : List Nat} {k : Int} {t : Tok} {q : Nat} {r : Bool} {Q : Value → Shared → Prop} (hl : s.heap.IsList l vs.toArray) (hI : IntsAre vs (ds.map fun (i : Nat) => (i : Int))) (hk : k = (q : Int)) (hr : (!ds.contains q) = r) (h : Q (.bool r) s) :
    wpAny (model prog w) A (compareOp .NotIn (.int k t) (.ref l)) Q E s := by
  subst hk
  refine notIn_listAt (fun y => match y with | .int i _ => i == (q : Int) | _ => false) hl (fun y hy => ?_) ?_
  · have hm : y ∈ vs := by simpa using hy
    obtain ⟨a, u, rfl⟩ := hI.all y hm
    exact (MeetsSeq.EqGives.int a (q : Int) u t).at _ _
  · have : vs.toArray.any (fun y => match y with | .int i _ => i == (q : Int) | _ => false) = ds.contains q := by
      rw [← Array.any_toList]
      show vs.any _ = _
      clear hl hr h
      generalize hns : (ds.map fun (i : Nat) => (i : Int)) = ns at hI
      induction hI generalizing ds with
      | nil =>
        have : ds = [] := by simpa using hns
        subst this; rfl
      | cons n t' r ih =>
        match ds, hns with
        | d :: ds, hns =>
          simp only [List.map_cons, List.cons.injEq] at hns
          rw [List.any_cons, ih hns.2, List.contains_cons, ← hns.1]
          congr 1
          by_cases hq : d = q
          · subst hq; simp
          · have h1 : ((d : Int) == (q : Int)) = false := by simp; omega
            have h2 : (q == d) = false := by simp; omega
            rw [h2]; exact h1
    rw [this, hr]; exact h
theorem index_pair {l x : Addr} {vs : List Value} {n j : Nat} {X Y : Nat → Int} {Q : Value → Shared → Prop} (hl : s.heap.IsList l vs.toArray) (hlen : vs.length = n) (hn : n ≤ 1000) (hu : A.units + 80 < cLine)
    (hv : ∀ i, i < n → ∃ c t1 t2, vs[i]? = some (.ref c) ∧ IsTup s.heap c [.int (X i) t1, .int (Y i) t2].toArray) {a b : Int} {t1 t2 : Tok} (hx : IsTup s.heap x [.int a t1, .int b t2].toArray)
    (hj : j < n) (h1 : X j = a ∧ Y j = b) (h2 : ∀ i, i < j → ¬ (X i = a ∧ Y i = b)) (h : Q (.int (j : Int) s.toks) { s with toks := s.toks + 1 }) : wpAny (model prog w) A (call (.builtin "list.index") [.ref l, .ref x]) Q E s := by
  obtain ⟨⟨cls, dd, data, sl⟩, ho, hc, m, hd⟩ := id hl
  simp only at hc hd
  subst hc hd hlen
  have hany : ∀ (i : Nat) (hi : i < vs.length) (c : Addr), vs[i] = .ref c → ∃ t1 t2, IsTup s.heap c [.int (X i) t1, .int (Y i) t2].toArray := fun i hi c e => by
    obtain ⟨c', t3, t4, e1, e2⟩ := hv i hi
    rw [List.getElem?_eq_getElem hi, e] at e1
    cases e1
    exact ⟨t3, t4, e2⟩
  classical
  let e : Value → Bool := fun y => match y with
    | .ref c => decide (∃ t3 t4, IsTup s.heap c [.int a t3, .int b t4].toArray)
    | _ => false
  have he : ∀ (i : Nat) (hi : i < vs.length), e vs[i] = decide (X i = a ∧ Y i = b) := fun i hi => by
    obtain ⟨c, t3, t4, e1, e2⟩ := hv i hi
    rw [List.getElem?_eq_getElem hi] at e1
    have e3 : vs[i] = .ref c := Option.some.inj e1
    rw [e3]
    show decide _ = decide _
    rw [decide_eq_decide]
    constructor
    · rintro ⟨t5, t6, e4⟩
      exact isTup_inj e2 e4
    · rintro ⟨rfl, rfl⟩
      exact ⟨t3, t4, e2⟩
  have hsz : vs.toArray.size = vs.length := by simp
  refine call_meets PySem.F.slot_list_index ⟨_, ho, rfl⟩ PySem.F.entry_list_index (PySem.F.args_list_index_2 _ _)
    (list_indexAt l vs.toArray m dd sl (.ref x) e j (by simpa using hj) (by omega) ?_ ?_) ⟨ho, fun y hy => ?_, h⟩
  · show e vs[j] = true
    rw [he j hj]; simpa using h1
  · intro i hi hij
    show e vs[i] = false
    rw [he i (by omega)]; simpa using h2 i hij
  · have hm : y ∈ vs := by simpa using hy
    obtain ⟨i, hi, rfl⟩ := List.mem_iff_getElem.mp hm
    obtain ⟨c, t3, t4, e1, e2⟩ := hv i hi
    rw [List.getElem?_eq_getElem hi] at e1
    have e3 : vs[i] = .ref c := Option.some.inj e1
    rw [he i hi, e3]
    exact eqAt_pair e2 hx (by show A.units + 1 + 64 < cLine; omega) rfl
end
end Mine
end
section
set_option Elab.async false
set_option maxRecDepth 100000
set_option maxHeartbeats 1000000
set_option linter.unusedVariables false
namespace Mine
open PySem PySem.W PySem.Calls PyProof.Rows
theorem sg_anti (a b : Int) : sg b a = - sg a b := by
  unfold sg
  (repeat' split) <;> omega
theorem byW_sg2 (W : Nat → Int) : ByW (fun i j => sg (W i) (W j)) W := fun i j => by
  show (sg (W i) (W j) < 0 ↔ W i < W j) ∧ (sg (W i) (W j) = 0 ↔ W i = W j)
  rcases Int.lt_trichotomy (W i) (W j) with h | h | h
  · rw [sg_lt h]; exact ⟨⟨fun _ => h, fun _ => by decide⟩, ⟨fun e => by omega, fun e => by omega⟩⟩
  · rw [sg_eq h]; exact ⟨⟨fun e => by omega, fun e => by omega⟩, ⟨fun _ => h, fun _ => rfl⟩⟩
  · rw [sg_gt h]; exact ⟨⟨fun e => by omega, fun e => by omega⟩, ⟨fun e => by omega, fun e => by omega⟩⟩
theorem ord_sg (W : Nat → Int) : Ord fun i j => sg (W i) (W j) := ord_of (byW_sg2 W) fun i j => sg_anti _ _
theorem ord_lex {f : Nat → Nat → Int} (hf : Ord f) : Ord fun i j => if f i j ≠ 0 then f i j else sg (i : Int) (j : Int) where
  anti := fun i j => by
    have h := hf.anti i j
    by_cases h0 : f i j = 0
    · rw [if_neg (by omega), if_neg (by omega)]; exact sg_anti _ _
    · rw [if_pos (by omega), if_pos h0]; exact h
  trans := fun i j k h1 h2 => by
    have a1 := hf.trans i j k
    by_cases h0 : f i j = 0
    · rw [if_neg (by omega)] at h1
      by_cases h3 : f j k = 0
      · rw [if_neg (by omega)] at h2
        have h4 : f i k = 0 := by
          have b1 := a1 (by omega) (by omega)
          have b2 := hf.trans k j i (by rw [hf.anti j k]; omega) (by rw [hf.anti i j]; omega)
          rw [hf.anti i k] at b2; omega
        rw [if_neg (by omega)]
        have c1 : (i : Int) ≤ j := by
          rcases Int.lt_trichotomy (i : Int) j with h | h | h
          · omega
          · omega
          · rw [sg_gt h] at h1; omega
        have c2 : (j : Int) ≤ k := by
          rcases Int.lt_trichotomy (j : Int) k with h | h | h
          · omega
          · omega
          · rw [sg_gt h] at h2; omega
        rcases Int.lt_trichotomy (i : Int) k with h | h | h
        · rw [sg_lt h]; decide
        · rw [sg_eq h]; decide
        · omega
      · rw [if_pos (by omega)] at h2
        have h4 := hf.le_lt (i := i) (j := j) (k := k) (by omega) (by omega)
        rw [if_pos (by omega)]; omega
    · rw [if_pos (by omega)] at h1
      have h5 : f j k ≤ 0 := by
        by_cases h3 : f j k = 0
        · omega
        · rw [if_pos (by omega)] at h2; exact h2
      have h4 := hf.lt_le (i := i) (j := j) (k := k) (by omega) h5
      rw [if_pos (by omega)]; omega
noncomputable abbrev T1 (kx : Nat → Key) (ps : List Nat) (i : Nat) : Tm := keyTm (kx i) (ps.getD i 0)
noncomputable abbrev T2 (kx : Nat → Key) (ps qs : List Nat) (i : Nat) : Tm := .node false (qs.getD i 0) (T1 kx ps i) (.int i)
structure Fin8 (g : Heap) (x1 : Nat) (xs : List Value) (bs pd : List Addr) (ps qs : List Nat) (kx : Nat → Key) (N : Nat) : Prop where
  b : ∀ i, i < N → At g xs (T1 kx ps i) (bs.getD i 0)
  bp : ∀ i, i < N → (∃ q, kx i = .l q) → ps.getD i 0 + 2 ≤ x1
  p : ∀ i, i < N → At g xs (T2 kx ps qs i) (pd.getD i 0)
  q : ∀ i, i < N → xs[qs.getD i 0 + 1]? = some (.ref (bs.getD i 0)) ∧ x1 ≤ qs.getD i 0 ∧ qs.getD i 0 < xs.length
theorem size_key (k : Key) (p : Nat) : (keyTm k p).size ≤ 3 := by cases k <;> simp [keyTm, Tm.size]
theorem compat_key (k k' : Key) (p p' : Nat) : compat (keyTm k p) (keyTm k' p') := by cases k <;> cases k' <;> simp [keyTm, compat]
theorem nums_key (sp : Int) (k k' : Key) (p p' : Nat) : nums sp (keyTm k p) (keyTm k' p') = [] ∨ ((∃ q, k = .l q) ∧ (∃ q, k' = .l q) ∧ nums sp (keyTm k p) (keyTm k' p') = [(p : Int) * sp + p']) := by
  cases k <;> cases k' <;> first | exact .inl rfl | exact .inr ⟨⟨_, rfl⟩, ⟨_, rfl⟩, rfl⟩
theorem Fin8.terms1 {w : World} {g : Heap} {x1 : Nat} {xs : List Value} {bs pd : List Addr} {ps qs : List Nat} {kx : Nat → Key} {N : Nat} (h : Fin8 g x1 xs bs pd ps qs kx N) : TermsOk w g xs (T1 kx ps) (fun i => bs.getD i 0) N where
  k := fun i hi => ⟨h.b i hi, Nat.le_trans (size_key _ _) (by omega)⟩
  p := fun i j hi hj => ⟨compat_key _ _ _ _, by
    rcases nums_key (xs.length + 1) (kx i) (kx j) (ps.getD i 0) (ps.getD j 0) with e | ⟨_, _, e⟩
    · rw [e]; exact List.nodup_nil
    · rw [e]; exact List.nodup_cons.mpr ⟨by simp, List.nodup_nil⟩⟩
theorem Fin8.terms2 {w : World} {g : Heap} {x1 : Nat} {xs : List Value} {bs pd : List Addr} {ps qs : List Nat} {kx : Nat → Key} {N : Nat} (h : Fin8 g x1 xs bs pd ps qs kx N) (hx : x1 ≤ xs.length) : TermsOk w g xs (T2 kx ps qs) (fun i => pd.getD i 0) N where
  k := fun i hi => ⟨h.p i hi, by
    have := size_key (kx i) (ps.getD i 0)
    show (keyTm (kx i) (ps.getD i 0)).size + 1 + 1 ≤ 50
    omega⟩
  p := fun i j hi hj => ⟨⟨rfl, compat_key _ _ _ _, trivial⟩, by
    show ((((qs.getD i 0 : Nat) : Int) * ((xs.length : Int) + 1) + (qs.getD j 0 : Nat)) :: (nums ((xs.length : Int) + 1) (keyTm (kx i) (ps.getD i 0)) (keyTm (kx j) (ps.getD j 0)) ++ [])).Nodup
    rw [List.append_nil]
    rcases nums_key (xs.length + 1) (kx i) (kx j) (ps.getD i 0) (ps.getD j 0) with e | ⟨h1, h2, e⟩
    · rw [e]; exact List.nodup_cons.mpr ⟨by simp, List.nodup_nil⟩
    · rw [e]
      refine List.nodup_cons.mpr ⟨?_, List.nodup_cons.mpr ⟨by simp, List.nodup_nil⟩⟩
      rw [List.mem_singleton]
      have a1 := h.bp i hi h1
      have a2 := h.bp j hj h2
      have a3 := h.q i hi
      have a4 := h.q j hj
      have a5 : ((ps.getD i 0 + 1 : Nat) : Int) * ((xs.length : Int) + 1) ≤ ((qs.getD i 0 : Nat) : Int) * ((xs.length : Int) + 1) := Int.mul_le_mul_of_nonneg_right (by omega) (by omega)
      have a6 : ((ps.getD i 0 + 1 : Nat) : Int) * ((xs.length : Int) + 1) = ((ps.getD i 0 : Nat) : Int) * ((xs.length : Int) + 1) + ((xs.length : Int) + 1) := by
        rw [Int.natCast_add, Int.add_mul]; simp
      omega⟩
theorem Fin8.cellsA {g : Heap} {x1 : Nat} {xs : List Value} {bs pd : List Addr} {ps qs : List Nat} {kx : Nat → Key} {N : Nat} (h : Fin8 g x1 xs bs pd ps qs kx N) (hp : pd.length = N) (hx : xs.length ≤ 1000) : CellsOk g xs (pd.map Value.ref) true (fun i => bs.getD i 0) N := fun i hi => by
  refine ⟨pd.getD i 0, ?_, (fun e => by cases e), fun _ => ?_⟩
  · rw [List.getElem?_map, List.getD_eq_getElem?_getD, List.getElem?_eq_getElem (by omega)]; rfl
  · obtain ⟨⟨t1, t2, e⟩, h2, _⟩ := h.p i hi
    exact ⟨_, t1, t2, e, h2, (h.q i hi).1⟩
theorem cellsB {g : Heap} {xs : List Value} {as : List Addr} {N : Nat} (hp : as.length = N) : CellsOk g xs (as.map Value.ref) false (fun i => as.getD i 0) N := fun i hi => by
  refine ⟨as.getD i 0, ?_, fun _ => rfl, fun e => by cases e⟩
  rw [List.getElem?_map, List.getD_eq_getElem?_getD, List.getElem?_eq_getElem (by omega)]; rfl
theorem cmp_T1 {kx : Nat → Key} {ps : List Nat} (hk : ∀ i, KeyOk (kx i)) : (fun i j => cmpT (T1 kx ps i) (T1 kx ps j)) = fun i j => sg (encK (kx i)) (encK (kx j)) := by
  funext i j; exact cmp_key (hk i) (hk j)
theorem cmp_T2 {kx : Nat → Key} {ps qs : List Nat} (hk : ∀ i, KeyOk (kx i)) : (fun i j => cmpT (T2 kx ps qs i) (T2 kx ps qs j)) = fun i j => if sg (encK (kx i)) (encK (kx j)) ≠ 0 then sg (encK (kx i)) (encK (kx j)) else sg (i : Int) (j : Int) := by
  funext i j
  show (if cmpT (keyTm (kx i) _) (keyTm (kx j) _) ≠ 0 then cmpT (keyTm (kx i) _) (keyTm (kx j) _) else cmpT (.int i) (.int j)) = _
  rw [cmp_key (hk i) (hk j)]
  rfl
theorem sg_nat (i j : Nat) : sg (i : Int) (j : Int) = if i < j then -1 else if j < i then 1 else 0 := by
  unfold sg
  by_cases h : i < j
  · rw [if_pos (by omega), if_pos h]
  · rw [if_neg (by omega), if_neg h]
    by_cases h2 : j < i
    · rw [if_pos (by omega), if_pos h2]
    · rw [if_neg (by omega), if_neg h2]
end Mine
end
section
set_option Elab.async false
set_option maxRecDepth 100000
set_option linter.unusedVariables false
namespace Mine
open PySem PySem.W PySem.Calls PyProof.Rows
theorem atoms_len : atomsL.length = 29 := by decide +kernel
theorem atoms_nodup : atomsL.Nodup := by decide +kernel
structure AtTab (kvs : List (Str × Value)) (i : Nat) : Prop where
  keys : kvs.map (·.1) = atomsL.take i
  vals : ∀ j, j < i → ∃ t, (kvs[j]?).map (·.2) = some (.int j t)
theorem AtTab.len {kvs : List (Str × Value)} {i : Nat} (h : AtTab kvs i) (hi : i ≤ 29) : kvs.length = i := by
  have := congrArg List.length h.keys
  rw [List.length_map, List.length_take, atoms_len] at this
  omega
theorem AtTab.none {kvs : List (Str × Value)} {i : Nat} {t : Str} (h : AtTab kvs i) (ht : atomsL[i]? = some t) : valueAt kvs t = none := by
  unfold valueAt
  rw [Option.map_eq_none_iff, List.find?_eq_none]
  intro kv hkv
  rw [decide_eq_true_iff]
  intro e
  have hm : t ∈ atomsL.take i := by rw [← h.keys, ← e]; exact List.mem_map_of_mem hkv
  obtain ⟨j, hj, hj2⟩ := List.mem_take_iff_getElem.mp hm
  have h1 : atomsL[j]? = some t := by rw [← hj2]; exact List.getElem?_eq_getElem _
  obtain ⟨hi', hi2⟩ := List.getElem?_eq_some_iff.mp ht
  have := (List.getElem?_inj (i := j) (j := i) (by omega) atoms_nodup).mp (h1.trans ht.symm)
  omega
theorem AtTab.step {kvs : List (Str × Value)} {i : Nat} {t : Str} {tv : Tok} (h : AtTab kvs i) (ht : atomsL[i]? = some t) : AtTab (stored kvs t (.int i tv)) (i + 1) := by
  have hn := h.none ht
  have hi : i < 29 := by rw [← atoms_len]; exact (List.getElem?_eq_some_iff.mp ht).1
  have hl := h.len (by omega)
  have e : stored kvs t (.int i tv) = kvs ++ [(t, .int i tv)] := by
    unfold stored
    rw [if_neg]
    intro q
    obtain ⟨z, hz, hz2⟩ := List.any_eq_true.mp q
    unfold valueAt at hn
    rw [Option.map_eq_none_iff, List.find?_eq_none] at hn
    exact hn z hz hz2
  rw [e]
  refine ⟨?_, fun j hj => ?_⟩
  · rw [List.map_append, h.keys, List.take_add_one, ht]; rfl
  · by_cases hji : j < i
    · obtain ⟨t', ht'⟩ := h.vals j hji
      exact ⟨t', by rw [List.getElem?_append_left (by omega)]; exact ht'⟩
    · have : j = i := by omega
      subst this
      exact ⟨tv, by rw [List.getElem?_append_right (by omega), hl]; simp⟩
theorem AtTab.get {kvs : List (Str × Value)} {t : Str} {j : Nat} (h : AtTab kvs 29) (ht : atomsL[j]? = some t) : ∃ tv, valueAt kvs t = some (.int j tv) := by
  have hj : j < 29 := by rw [← atoms_len]; exact (List.getElem?_eq_some_iff.mp ht).1
  have hl := h.len (by omega)
  obtain ⟨tv, htv⟩ := h.vals j hj
  refine ⟨tv, ?_⟩
  have hk : kvs[j]? = some (t, .int j tv) := by
    have e1 : (kvs.map (·.1))[j]? = some t := by rw [h.keys, List.getElem?_take_of_lt hj]; exact ht
    rw [List.getElem?_map] at e1
    cases q : kvs[j]? with
    | none => rw [q] at e1; cases e1
    | some z =>
      rw [q] at e1 htv
      have e2 : z.1 = t := Option.some.inj e1
      have e3 : z.2 = .int j tv := Option.some.inj htv
      rw [← e2, ← e3]
  unfold valueAt
  have hf : kvs.find? (fun kv => decide (kv.1 = t)) = some (t, .int j tv) := by
    rw [List.find?_eq_some_iff_getElem]
    obtain ⟨hj', hj2⟩ := List.getElem?_eq_some_iff.mp hk
    refine ⟨by simp, j, hj', hj2, fun i hi => ?_⟩
    rw [Bool.not_eq_true', decide_eq_false_iff_not]
    intro e
    have e1 : (kvs.map (·.1))[i]? = some t := by rw [List.getElem?_map, List.getElem?_eq_getElem (by omega), Option.map_some, e]
    rw [h.keys, List.getElem?_take_of_lt (by omega)] at e1
    have := (List.getElem?_inj (i := i) (j := j) (by rw [atoms_len]; omega) atoms_nodup).mp (e1.trans ht.symm)
    omega
  rw [hf]; rfl
noncomputable def fnKeys : List (List Int) := [[1, 2], [7, 2], [9, 2], [10, 2], [11, 1], [12, 2], [12, 1], [13, 1], [14, 2], [2, 1], [20, 2], [21, 2], [3, 1], [3, 2], [4, 2], [6, 2], [22, 2], [26, 1], [27, 3], [28, 1], [15, 0], [16, 0], [17, 0], [18, 0], [19, 1], [19, 2], [19, 3], [19, 4], [19, 5], [19, 6], [19, 7], [19, 8]]
theorem fnKeys_nodup : fnKeys.Nodup := by decide +kernel
theorem fnKeys_len : fnKeys.length = 32 := by decide +kernel
theorem fn_rows : ∀ i : Nat, i < 32 → ∃ (t : String) (a : Int) (j : Nat), fnL[i]? = some (t, a) ∧ atomsL[j]? = some (Str.ofString t) ∧ fnKeys[i]? = some [(j : Int), a] := by
  have h : ∀ i : Fin 32, (match fnL[i.val]?, fnKeys[i.val]? with | some (t, a), some [j, a'] => decide (0 ≤ j) && decide (atomsL[j.toNat]? = some (Str.ofString t)) && decide (a = a') | _, _ => false) = true := by decide +kernel
  intro i hi
  have := h ⟨i, hi⟩
  dsimp only at this
  split at this
  · rename_i t a j a' h1 h2
    simp only [Bool.and_eq_true, decide_eq_true_eq] at this
    obtain ⟨⟨h3, h4⟩, h5⟩ := this
    exact ⟨t, a, j.toNat, h1, h4, by rw [h2, Int.toNat_of_nonneg h3, h5]⟩
  · cases this
theorem RowsAre.at {fr : List (Addr × Obj)} : ∀ {vs : List Value} {r : List (String × Int)} {i : Nat} {v : Value} {t : String} {a : Int}, RowsAre fr vs r → vs[i]? = some v → r[i]? = some (t, a) →
    ∃ q t1 t2, v = .ref q ∧ (q, ({ cls := .type "tuple", data := .seq [Value.str (Str.ofString t) t1, Value.int a t2].toArray } : Obj)) ∈ fr
  | [], [], i, v, t, a, _, h1, _ => by simp at h1
  | [], _ :: _, i, v, t, a, _, h1, _ => by simp at h1
  | _ :: _, [], i, v, t, a, _, _, h2 => by simp at h2
  | v' :: vs, (t', a') :: r, i, v, t, a, h, h1, h2 => by
    cases i with
    | zero =>
      simp only [List.getElem?_cons_zero, Option.some.injEq, Prod.mk.injEq] at h1 h2
      obtain ⟨rfl, rfl⟩ := h2
      subst h1
      exact h.1
    | succ i =>
      simp only [List.getElem?_cons_succ] at h1 h2
      exact RowsAre.at h.2 h1 h2
theorem RowsAre.len {fr : List (Addr × Obj)} : ∀ {vs : List Value} {r : List (String × Int)}, RowsAre fr vs r → vs.length = r.length
  | [], [], _ => rfl
  | [], _ :: _, h => h.elim
  | _ :: _, [], h => h.elim
  | _ :: vs, _ :: r, h => by rw [List.length_cons, List.length_cons, RowsAre.len h.2]
theorem fnL_len : fnL.length = 32 := rfl
end Mine
end
section
set_option Elab.async false
set_option maxRecDepth 100000
set_option maxHeartbeats 4000000
set_option linter.unusedVariables false
namespace Mine
noncomputable section
open PySem PySem.W PySem.Calls PyProof.Rows
theorem IterW.listV {F : Fn} {c : Cx} {ls : Loc} {ld : Led} {x : Str} {body : List Stmt} {l : Addr} {vs : List Value} {k : Flow → Loc → Led → Prop} (hl : c.g.IsList l vs.toArray) (h : forU F c x body (fun _ => True) k (vs.map fun v u => u = v) ls ld) : IterW F c x body k (.ref l) ls ld := by
  have hlen : (vs.map fun v u => u = v).length = vs.length := List.length_map _
  refine IterW.list0 (σ := FU fun _ => True) (vs := vs) FU.ls FU.ld (fun i y => forU F c x body (fun _ => True) k ((vs.map fun v u => u = v).drop i) y.ls y.ld) ⟨ls, ld, trivial⟩ (.inl hl) (.inl hl) h (fun i y v I o hi hv hP hof => ?_) fun y hP => ?_
  · rw [← unK_for]
    exact forU_turn (by rw [hlen]; exact hi) (fun P hP => by rw [List.getElem?_map, hv] at hP; cases hP; rfl) hP hof fun _ _ => trivial
  · rw [← hlen, drop_end] at hP; exact hP
noncomputable def fStru : Fn := ⟨Str.ofString "Store.new_struct", fS (sM 26 0), 341, .ref 340, 700, 7000, rfl, none⟩
theorem sStru : Stands fStru (sM 26 0) := fun _ => by kernel_rfl
theorem stGof {w : World} {g : Heap} {st ds hl sy sk tr : Addr} {k : Nat → Tok} {n : Nat} {xs : List Value} {e : Nat} (h : ∀ p ∈ stL w.params st ds hl sy sk tr k n xs e, g.get? p.1 = some p.2) : StG w g st sy hl xs ds sk tr k n :=
  ⟨h _ (.head _), h _ (.tail _ (.head _)), isList_of (h _ (.tail _ (.tail _ (.head _))))⟩
theorem struct_spec2 (w : World) (st hl ds sy sk tr c0 c1 cs dy tx an fs fn : Addr) (xs txs fns : List Value) (k ky : Nat → Tok) (n n2 e : Nat) (t : Tm) (j : Int) (t0 t3 t4 : Tok) :
    SpecN w 341 [.ref st, .int 13 t0, .ref cs] 700 7000 (stL w.params st ds hl sy sk tr k n xs e)
      (fun g => xs.length ≤ 1000 ∧ SyG w g sy txs fns dy tx an fs fn ky n2 ∧ SyOk g txs fns ∧ g.IsList cs [Value.ref c0, .ref c1].toArray ∧ At g xs t c0 ∧ IsTup g c1 [.int 5 t3, .int j t4].toArray)
      (fun v need' => ∃ M cf a b a1 b1 e', v = .ref M ∧ need' = (M, tupA [.int 2 a, .int xs.length b]) :: (cf, tupA [.int 6 a1, .int 13 b1]) :: stL w.params st ds hl sy sk tr k n (xs ++ [.ref cf, .ref c0, .ref c1]) e') := by
  refine SpecN.ofW fStru (sM 26 0) sStru rfl (fun _ _ _ _ _ => rfl) rfl rfl ?_
  intro x hw hp
  subst hw
  obtain ⟨h1, hY, hO, hc, hA, hc1⟩ := hp
  obtain ⟨t1, t2, hc0⟩ := hA.tup
  refine W.len (.inl hc) (show (2 : Int) < 2 ^ 63 by decide) fun u1 u2 => And.intro ft fun _ => ?_
  refine W.newList fun VL hVL => W.for (IterW.listV hc ?_)
  have glob : ∀ (a : Addr) (tag val : Int) (t1 t2 : Tok) (I VL : Addr × Obj) (ls : Loc) (kk : Value → Loc → Led → Prop), IsTup x.g a [.int tag t1, .int val t2].toArray → (tag ≠ 1 ∧ (tag = 0 → 0 ≤ val ∧ val < 2 ^ 63 ∧ xs[val.toNat]? = some (.ref a))) → kk (.ref a) ls (I :: VL :: stL x.w.params st ds hl sy sk tr k n xs e) →
      W fStru x (PySem.call (.ref 257) [.ref st, .ref a]) kk ls (I :: VL :: stL x.w.params st ds hl sy sk tr k n xs e) := fun a tag val t1 t2 I VL ls kk ha hd hk =>
    W.callP (glob_spec _ st a sy hl ds sk tr xs k n tag val t1 t2) (fun g sg r9 => ⟨stGof fun p hp => r9 p (.tail _ (.tail _ hp)), IsTup.keeps ha sg, hd⟩) fun _ => hk
  rintro v I o rfl hI
  refine Exists.intro (.builtin "list.append") (Exists.intro [.ref VL] (And.intro (Meth.append (its := #[]) (n := 0) 1 rfl) (Exists.intro (.ref 257) (Exists.intro [.ref st] (And.intro (Meth.ins (insSt [(I, o), _] (r := [])) rfl rfl) (glob c0 _ _ t1 t2 _ _ _ _ hc0 hA.deref (W.append (vs := []) 1 rfl (by decide) ?_)))))))
  refine ⟨[(Str.ofString "values", .ref VL), (Str.ofString "self", .ref st), (Str.ofString "f", .int 13 t0)], _, ⟨rfl, rfl, rfl, trivial⟩, .refl, trivial, ?_⟩
  clear hI
  rintro v I o rfl hI
  refine Exists.intro (.builtin "list.append") (Exists.intro [.ref VL] (And.intro (Meth.append (its := #[.ref c0]) (n := 1) 1 rfl) (Exists.intro (.ref 257) (Exists.intro [.ref st] (And.intro (Meth.ins (insSt [(I, o), _] (r := [])) rfl rfl) (glob c1 _ _ t3 t4 _ _ _ _ hc1 ⟨by decide, fun h => absurd h (by decide)⟩ (W.append (vs := [.ref c0]) 1 rfl (show 1 ≤ 1000000 by decide) ?_)))))))
  refine ⟨[(Str.ofString "values", .ref VL), (Str.ofString "self", .ref st), (Str.ofString "f", .int 13 t0)], _, ⟨rfl, rfl, rfl, trivial⟩, .refl, trivial, ?_⟩
  refine Exists.intro (.ref 320) (Exists.intro [.ref st] (And.intro (Meth.ins (insSt [_] (r := [])) rfl rfl) (W.callS (blockF_spec _ st hl ds sy sk tr dy tx an fs fn xs txs fns k ky n n2 e t0) [(VL, listOf #[.ref c0, .ref c1] 2)] (.toEnd rfl) (fun g sg _ => ⟨h1, hY.keeps sg, hO.keeps sg⟩) fun v need' hp => ?_)))
  obtain ⟨M, cf, a, b, a1, b1, y0, y1, e', rfl, rfl⟩ := hp
  refine Exists.intro (.ref 306) (Exists.intro [.ref st] (And.intro (Meth.ins (insSt [_, _] (r := [_])) rfl rfl) (W.callP (base_spec _ st M 2 xs.length a b) (fun g sg r9 => isTup_of (r9 (M, _) (.head _))) fun u => ?_)))
  rw [if_neg (show ¬ (2 : Int) = 3 by decide)]
  refine W.for (IterW.listU (vs := [.ref c0, .ref c1]) (n := 2) (.tail _ (.tail _ (.tail _ (.tail _ (.tail _ (.head _)))))) ?_)
  clear hI
  rintro v I o rfl hI
  refine W.setSub (W.attr (insSt [(I, o), _, _] (r := [_])) rfl rfl (W.setl (xs := xs) (l := [.ref cf, y0, y1]) (n := e') 5 rfl 1 rfl (by omega) rfl (fun u3 => W.iadd fun u4 => ?_)))
  refine ⟨[(Str.ofString "place", .int (xs.length + 1 + 1) u4), (Str.ofString "made", .ref M), (Str.ofString "self", .ref st)], _, ⟨rfl, rfl, rfl, trivial⟩, .refl, .tail _ (.tail _ (.tail _ (.tail _ (.tail _ (.head _))))), ?_⟩
  clear hI
  rintro v I o rfl hI
  refine W.setSub (W.attr (insSt [(I, o), _, _] (r := [_])) rfl rfl (W.setl (xs := xs) (l := [.ref cf, .ref c0, y1]) (n := e') 5 rfl 2 rfl (by omega) rfl (fun u5 => W.iadd fun u6 => ?_)))
  refine ⟨[(Str.ofString "made", .ref M)], _, ⟨rfl, trivial⟩, .refl, .tail _ (.tail _ (.tail _ (.tail _ (.tail _ (.head _))))), ?_⟩
  exact ⟨_, .of (List.sublist_append_left _ [(VL, _)]), M, cf, a, b, a1, b1, e', rfl, rfl⟩
end
end Mine
end
section
set_option Elab.async false
set_option maxRecDepth 100000
set_option maxHeartbeats 4000000
set_option linter.unusedVariables false
namespace Mine
noncomputable section
open PySem PySem.W PySem.Calls PyProof.Rows
noncomputable def fPut : Fn := ⟨Str.ofString "Store.put_term", fS (sM 26 3), 363, .ref 362, 700, 7000, rfl, none⟩
theorem sPut : Stands fPut (sM 26 3) := fun _ => by kernel_rfl
noncomputable abbrev kn3 (v0 v1 v2 : Addr) : List (Int × Value) := [(0, .ref v0), (1, .ref v1), (2, .ref v2)]
theorem put_spec2 (w : World) (st hl ds sy sk tr kc tb v0 v1 v2 : Addr) (od : Obj) (xs : List Value) (k : Nat → Tok) (n e : Nat) (kk : Key) :
    SpecN w 363 [.ref st, .ref kc, .ref tb] 700 7000 (stL w.params st ds hl sy sk tr k n xs e ++ [(tb, od)])
      (fun g => xs.length ≤ 1000 ∧ (tb == sysModules) = false ∧ od.IsDictOf (intKind PySem.Challenge.rw_no0180_01.row.toRowW.prog w) (kn3 v0 v1 v2) ∧ KeyAt g kk kc ∧ V3 g xs v0 v1 v2)
      (fun v need' => ∃ c fr ys e', v = .ref c ∧ need' = fr ++ (stL w.params st ds hl sy sk tr k n (xs ++ ys) e' ++ [(tb, od)]) ∧ ys.length ≤ 2 ∧ fr.length ≤ 3 ∧ (∀ p ∈ fr, p.2.cls = .type "tuple") ∧
        (∃ p, keyTm kk xs.length = keyTm kk p ∧ p + 2 ≤ xs.length + 2) ∧ ((∃ j, kk = .l j) → ys.length = 2) ∧
        ∀ g zs, (∀ p ∈ fr, g.get? p.1 = some p.2) → V3 g xs v0 v1 v2 → At g (xs ++ ys ++ zs) (keyTm kk xs.length) c) := by
  refine SpecN.ofW fPut (sM 26 3) sPut rfl (fun _ _ _ _ _ => rfl) rfl rfl ?_
  intro x hw hp
  subst hw
  obtain ⟨h1, lo, hd, hk, hV⟩ := hp
  have cellAt : ∀ j : Nat, j < 3 → ∃ vj u u', valueAt (kn3 v0 v1 v2) (j : Int) = some (.ref vj) ∧ IsTup x.g vj [.int 0 u, .int (j : Int) u'].toArray ∧ ∀ g zs, V3 g xs v0 v1 v2 → At g (xs ++ zs) (.var j) vj := by
    obtain ⟨-, -, -, ⟨u0, u1, a0⟩, ⟨u2, u3, a1⟩, ⟨u4, u5, a2⟩⟩ := hV
    intro j hj
    match j, hj with
    | 0, _ => exact ⟨v0, u0, u1, rfl, a0, fun g zs hv => ⟨hv.a0, getApp hv.x0, by decide⟩⟩
    | 1, _ => exact ⟨v1, u2, u3, rfl, a1, fun g zs hv => ⟨hv.a1, getApp hv.x1, by decide⟩⟩
    | 2, _ => exact ⟨v2, u4, u5, rfl, a2, fun g zs hv => ⟨hv.a2, getApp hv.x2, by decide⟩⟩
  have keys : ∀ (vs : List Value) (t0 t1 t2 : Tok), vs = [.int 0 t0, .int 1 t1, .int 2 t2] → ∀ (i : Nat) v, vs[i]? = some v → ∃ (j : Nat) (t : Tok), v = .int (j : Int) t ∧ j < 3 := by
    rintro _ t0 t1 t2 rfl i v hv
    match i, hv with
    | 0, h => exact ⟨0, t0, (Option.some.inj h).symm, by decide⟩
    | 1, h => exact ⟨1, t1, (Option.some.inj h).symm, by decide⟩
    | 2, h => exact ⟨2, t2, (Option.some.inj h).symm, by decide⟩
  refine W.for (W.dkeys (kvs := kn3 v0 v1 v2) (.tail _ (.tail _ (.tail _ (.head _)))) hd lo rfl fun B e9 t0 t1 t2 => ?_)
  refine IterW.list (σ := Unit) (vs := [.int 0 t0, .int 1 t1, .int 2 t2]) (fun _ => [(Str.ofString "table", .ref tb), (Str.ofString "self", .ref st), (Str.ofString "term", .ref kc)]) (fun _ => (B, listOf (List.toArray [Value.int 0 t0, .int 1 t1, .int 2 t2]) e9) :: (stL x.w.params st ds hl sy sk tr k n xs e ++ [(tb, od)])) (fun _ _ => True) ()
    (.inr ⟨_, .head _⟩) (.inr ⟨_, fun _ => .head _⟩) ⟨rfl, rfl, rfl, trivial⟩ .refl trivial ?turn ?done
  case turn =>
    rintro i - v I o hi hv - hI
    obtain ⟨j, t, rfl, hj⟩ := keys _ _ _ _ rfl i v hv
    obtain ⟨vj, u, u', e1, e2, -⟩ := cellAt j hj
    refine W.ditem (.tail _ (.tail _ (.tail _ (.tail _ (.tail _ (.head _)))))) hd e1 fun t9 => W.itup (.inl e2) rfl rfl (And.intro ft fun _ => ⟨(), ⟨rfl, rfl, rfl, trivial⟩, .refl, trivial⟩)
  case done =>
    rintro - -
    cases kk with
    | v j =>
      obtain ⟨hj, t1, t2, hk⟩ := hk
      obtain ⟨vj, u, u', e1, e2, e3⟩ := cellAt j hj
      refine fun a1 => W.itup (.inl hk) rfl rfl fun a2 => W.eqStr ⟨_, rfl, fun _ => ?_, fun h => tf h⟩
      refine fun a3 => W.itup (.inl hk) rfl rfl (W.dnotin (.tail _ (.tail _ (.tail _ (.tail _ (.head _))))) hd lo e1 ⟨_, rfl, ft, fun _ => ?_⟩)
      refine fun a4 => W.itup (.inl hk) rfl rfl (W.ditem (.tail _ (.tail _ (.tail _ (.tail _ (.head _))))) hd e1 ?_)
      exact ⟨_, .dr 1 rfl, vj, [], [], e, rfl, by rw [List.append_nil]; rfl, by decide, by decide, (fun _ h => nomatch h), ⟨_, rfl, Nat.le_refl _⟩, (fun ⟨j, e⟩ => nomatch e), fun g' zs hg hv => by rw [List.append_nil]; exact e3 g' zs hv⟩
    | a m =>
      obtain ⟨hm, t1, t2, hk⟩ := hk
      refine fun a1 => W.itup (.inl hk) rfl rfl fun a2 => W.eqStr ⟨_, rfl, fun h => ft h, fun _ a3 => W.eqStr ⟨_, rfl, fun _ => ?_, fun h => tf h⟩⟩
      refine fun a4 => W.itup (.inl hk) rfl rfl (W.newTuple fun c hc => ?_)
      exact ⟨_, .cons (.dr 1 rfl), c, [_], [], e, rfl, by rw [List.append_nil]; rfl, by decide, Nat.le_of_ble_eq_true rfl, (fun p hp => (List.mem_singleton.mp hp) ▸ rfl), ⟨_, rfl, Nat.le_refl _⟩, (fun ⟨j, e⟩ => nomatch e), fun g' zs hg hv => ⟨⟨_, _, isTup_of (hg _ (.head _))⟩, hm⟩⟩
    | i m =>
      obtain ⟨t1, t2, hk⟩ := hk
      refine fun a1 => W.itup (.inl hk) rfl rfl fun a2 => W.eqStr ⟨_, rfl, fun h => ft h, fun _ a3 => W.eqStr ⟨_, rfl, fun h => ft h, fun _ a4 => W.eqStr ⟨_, rfl, fun _ => ?_, fun h => tf h⟩⟩⟩
      refine fun a4 => W.itup (.inl hk) rfl rfl (W.newTuple fun c hc => ?_)
      exact ⟨_, .cons (.dr 1 rfl), c, [_], [], e, rfl, by rw [List.append_nil]; rfl, by decide, Nat.le_of_ble_eq_true rfl, (fun p hp => (List.mem_singleton.mp hp) ▸ rfl), ⟨_, rfl, Nat.le_refl _⟩, (fun ⟨j, e⟩ => nomatch e), fun g' zs hg hv => ⟨_, _, isTup_of (hg _ (.head _))⟩⟩
    | l j =>
      obtain ⟨t1, t2, q, hk, q1, q2, hq, ⟨t3, t4, hq1⟩, t5, t6, hq2⟩ := hk
      refine fun a1 => W.itup (.inl hk) rfl rfl fun a2 => W.eqStr ⟨_, rfl, fun h => ft h, fun _ a3 => W.eqStr ⟨_, rfl, fun h => ft h, fun _ a4 => W.eqStr ⟨_, rfl, fun h => ft h, fun _ => ?_⟩⟩⟩
      refine Exists.intro (.ref 320) (Exists.intro [.ref st] (And.intro (Meth.ins (insSt [_] (r := [_])) rfl rfl) (fun a5 => W.itup (.inl hk) rfl rfl ?_)))
      refine W.callS (block0_spec _ st hl ds sy sk tr xs k n e t2) [(tb, od)] (.dr 1 rfl) (fun g sg _ => h1) fun v need' hp => ?_
      obtain ⟨M, a, b, y0, y1, e', rfl, rfl⟩ := hp
      refine Exists.intro (.ref 306) (Exists.intro [.ref st] (And.intro (Meth.ins (insSt [_] (r := [_])) rfl rfl) (W.callP (base_spec _ st M 3 xs.length a b) (fun g sg r9 => isTup_of (r9 (M, _) (.head _))) fun u => ?_)))
      rw [if_pos (show (3 : Int) = 3 from rfl)]
      refine fun a6 => W.itup (.inl hk) rfl rfl (W.newTuple fun WT hWT => W.newList fun WL hWL a7 => W.whileU 2 ?_)
      refine W.len (vs := [.ref WT]) (.inr ⟨0, .head _⟩) (show (1 : Int) < 2 ^ 63 by decide) fun a8 => And.intro (fun _ => ?_) tf
      refine W.unpack2 (W.ilist (l := [.ref WT]) (.inr ⟨0, .head _⟩) (by decide) (by decide) rfl ⟨WT, .int xs.length u, .ref q, rfl, .inr ⟨0, .tail _ (.head _)⟩, ?_⟩)
      refine fun b1 => W.iadd fun b2 => W.for (IterW.tupU hq ?_)
      rintro v I o rfl hI
      refine fun c1 => W.itup (.inl hq1) rfl rfl fun c2 => W.eqStr ⟨_, rfl, fun h => ft h, fun _ c3 => W.eqStr ⟨_, rfl, fun h => ft h, fun _ c4 => W.eqStr ⟨_, rfl, fun _ => ?_, fun h => tf h⟩⟩⟩
      refine W.setSub (fun c5 => W.itup (.inl hq1) rfl rfl (W.newTuple fun cc1 hcc1 => W.attr (insSt [_, (I, o), _, _, _] (r := [_])) rfl rfl (W.setl (xs := xs) (l := [y0, y1]) (n := e') 7 rfl 0 rfl (by omega) rfl fun c6 => W.iadd fun c7 => ?_)))
      refine ⟨[(Str.ofString "place", .int (xs.length + 1) c7), (Str.ofString "at", .int (0 + 1) b2), (Str.ofString "waiting", .ref WL), (Str.ofString "made", .ref M), (Str.ofString "table", .ref tb), (Str.ofString "self", .ref st)], _, ⟨rfl, rfl, rfl, rfl, rfl, rfl, trivial⟩, .mi 1 rfl, trivial, ?_⟩
      clear hI
      rintro v I o rfl hI
      refine fun c1 => W.itup (.inl hq2) rfl rfl fun c2 => W.eqStr ⟨_, rfl, fun h => ft h, fun _ c3 => W.eqStr ⟨_, rfl, fun _ => ?_, fun h => tf h⟩⟩
      refine W.setSub (fun c5 => W.itup (.inl hq2) rfl rfl (W.newTuple fun cc2 hcc2 => W.attr (insSt [_, (I, o), _, _, _, _] (r := [_])) rfl rfl (W.setl (xs := xs) (l := [.ref cc1, y1]) (n := e') 8 rfl 1 rfl (by omega) rfl fun c6 => W.iadd fun c7 => ?_)))
      refine ⟨[(Str.ofString "at", .int (0 + 1) b2), (Str.ofString "waiting", .ref WL), (Str.ofString "made", .ref M)], _, ⟨rfl, rfl, rfl, trivial⟩, .mi 1 rfl, trivial, ?_⟩
      refine W.len (vs := [.ref WT]) (.inr ⟨0, .tail _ (.tail _ (.head _))⟩) (show (1 : Int) < 2 ^ 63 by decide) fun a8 => And.intro ft fun _ => ?_
      refine ⟨_, .cons (.cons (.dr 2 rfl)), M, [(cc2, _), (cc1, _), (M, _)], [.ref cc1, .ref cc2], e', rfl, rfl, Nat.le_refl _, Nat.le_refl _, ?_, ⟨_, rfl, Nat.le_refl _⟩, (fun _ => rfl), fun g' zs hg hv => ?_⟩
      · exact List.forall_mem_cons.mpr ⟨rfl, List.forall_mem_cons.mpr ⟨rfl, List.forall_mem_cons.mpr ⟨rfl, fun _ h => nomatch h⟩⟩⟩
      · refine ⟨⟨_, _, isTup_of (hg _ (.tail _ (.tail _ (.head _))))⟩, by omega, cc1, cc2, ?_, ?_, ⟨_, _, isTup_of (hg _ (.tail _ (.head _)))⟩, ⟨_, _, isTup_of (hg _ (.head _))⟩, .inl rfl⟩
        · refine getApp ?_; rw [List.getElem?_append_right (Nat.le_refl _), Nat.sub_self]; rfl
        · refine getApp ?_; rw [List.getElem?_append_right (Nat.le_succ _), Nat.succ_sub (Nat.le_refl _), Nat.sub_self]; rfl
end
end Mine
end
section
set_option Elab.async false
set_option maxRecDepth 100000
set_option maxHeartbeats 4000000
set_option linter.unusedVariables false
namespace Mine
noncomputable section
open PySem PySem.W PySem.Calls PyProof.Rows
section
variable {F : Fn} {c : Cx} {ls : Loc} {ld : Led}
noncomputable abbrev DictS (c : Cx) (o : Obj) (kvs : List (Str × Value)) : Prop := o.IsDictOf (strKind PySem.Challenge.rw_no0180_01.row.toRowW.prog c.w) kvs
theorem Meth.getS {d : Addr} {o : Obj} {kvs : List (Str × Value)} (hp : (d, o) ∈ ld) (hd : DictS c o kvs) : Meth F c (.ref d) (Str.ofString "get") (.builtin "dict.get") [.ref d] ls ld := fun pl Q E s ok st h => kdg_method st.N hp hd h
theorem W.getS {d : Addr} {o : Obj} {kvs : List (Str × Value)} {t : Str} {u : Tok} {dflt : Value} {k : Value → Loc → Led → Prop} (hp : (d, o) ∈ ld) (hd : DictS c o kvs) (lo : (d == sysModules) = false) (x : Option Value) (hl : valueAt kvs t = x) (hk : k (x.getD dflt) ls ld) :
    W F c (PySem.call (.builtin "dict.get") [.ref d, .str t u, dflt]) k ls ld := fun ok s st => kdg_get2 st.N hp hd lo (strKind_is _ _ _ _) x hl ⟨ls, ld, st.toks _, hk⟩
theorem W.dsetS {d : Addr} {o : Obj} {kvs : List (Str × Value)} {t : Str} {u : Tok} {v : Value} {k : Unit → Loc → Led → Prop} (i : Nat) (h : ld[i]? = some (d, o)) (hd : DictS c o kvs) (hz : kvs.length ≤ 1000) (hk : ∀ o', DictS c o' (stored kvs t v) → k () ls (ld.set i (d, o'))) :
    W F c (setItem (.ref d) (.str t u) v) k ls ld := fun ok s st => by
  obtain ⟨m, Fm, hm⟩ := st.F
  exact kda_set Fm st.N (updF_of st.nd h) hd (strKind_is _ _ _ _) (by rw [PySem.sizeLine_eq]; omega) fun h' o' F' N' hd' => ⟨ls, _, ⟨⟨m, F', hm⟩, N', set_nd st.nd h, st.ge, st.dr, st.os⟩, hk o' hd'⟩
noncomputable abbrev FnX (c : Cx) (fr : Led) (o : Obj) (ys : List (List Int × Addr × Value)) : Prop := FnF PySem.Challenge.rw_no0180_01.row.toRowW.prog c.w fr o ys
theorem frSt {fr : Led} (hfr : ∀ p ∈ fr, c.g.get? p.1 = some p.2) {s : Shared} (st : St F c ls ld s) : ∀ p ∈ fr, s.heap.get? p.1 = some p.2 := by
  obtain ⟨m, Fm, _⟩ := st.F
  exact fun p hp => Fm.keep _ _ (hfr p hp)
theorem Meth.getF {d : Addr} {o : Obj} {fr : Led} {ys : List (List Int × Addr × Value)} (hp : (d, o) ∈ ld) (hd : FnX c fr o ys) (hfr : ∀ p ∈ fr, c.g.get? p.1 = some p.2) : Meth F c (.ref d) (Str.ofString "get") (.builtin "dict.get") [.ref d] ls ld :=
  fun pl Q E s ok st h => fn_method st.N hp hd (frSt hfr st) h
theorem tupKey {c : Cx} {a r : Int} {t u : Tok} : TupKeyObj (intKind PySem.Challenge.rw_no0180_01.row.toRowW.prog c.w) [a, r] (tupA [.int a t, .int r u]) := TupKeyObj.made (.cons (intKind_is _ _ _ _) (.cons (intKind_is _ _ _ _) .nil))
theorem W.getF {d q : Addr} {o : Obj} {fr : Led} {ys : List (List Int × Addr × Value)} {a r : Int} {t u : Tok} {dflt : Value} {k : Value → Loc → Led → Prop} (hp : (d, o) ∈ ld) (hd : FnX c fr o ys) (hfr : ∀ p ∈ fr, c.g.get? p.1 = some p.2) (lo : (d == sysModules) = false)
    (hq : (q, tupA [.int a t, .int r u]) ∈ ld) (hno : [a, r] ∉ ys.map (·.1)) (hk : k dflt ls ld) (hu : Nat.ble ((c.A F).units + 2) cLine = true := by rfl) : W F c (PySem.call (.builtin "dict.get") [.ref d, .ref q, dflt]) k ls ld := fun ok s st =>
  fn_get (Nat.le_of_ble_eq_true hu) st.N hp hd (frSt hfr st) lo hq tupKey hno fun t => ⟨ls, ld, st.toks _, hk⟩
theorem W.dsetF {d q : Addr} {o : Obj} {fr : Led} {ys : List (List Int × Addr × Value)} {a r : Int} {t u : Tok} {v : Value} {k : Unit → Loc → Led → Prop} (i : Nat) (h : ld[i]? = some (d, o)) (hd : FnX c fr o ys) (hfr : ∀ p ∈ fr, c.g.get? p.1 = some p.2)
    (hq : (q, tupA [.int a t, .int r u]) ∈ ld) (hno : [a, r] ∉ ys.map (·.1)) (hz : ys.length ≤ 1000) (hk : ∀ o', FnX c ((q, tupA [.int a t, .int r u]) :: fr) o' (ys ++ [([a, r], q, v)]) → k () ls (ld.set i (d, o'))) (hu : Nat.ble ((c.A F).units + 2) cLine = true := by rfl) :
    W F c (setItem (.ref d) (.ref q) v) k ls ld := fun ok s st => by
  obtain ⟨m, Fm, hm⟩ := st.F
  exact fn_set (Nat.le_of_ble_eq_true hu) Fm st.N (updF_of st.nd h) hd (frSt hfr st) hq tupKey hno hz fun h' o' tk F' N' hd' => ⟨ls, _, ⟨⟨m, F', hm⟩, N', set_nd st.nd h, st.ge, st.dr, st.os⟩, hk o' hd'⟩
theorem W.newDict {pos : Pos} {k : Value → Loc → Led → Prop} (hk : ∀ d o, (∀ p ∈ ld, p.1 < d) → (d == sysModules) = false → DictS c o [] → DictI c o [] → k (.ref d) ls ((d, o) :: ld)) : W F c (eval (.Dict [] [] pos) (F.env c.L)) k ls ld := fun ok s st => by
  obtain ⟨m, Fm, hm⟩ := st.F
  exact newDict_K Fm st.N ok.T.nolimit fun d h' o F' N' l1 lo a _ b _ => ⟨ls, _, st.alloc F' hm N' l1, hk d o l1 lo a b⟩
end
noncomputable def fAtom : Fn := ⟨Str.ofString "Symbols.atom", fS (sM 12 1), 88, .ref 87, 850, 8500, rfl, none⟩
theorem sAtom : Stands fAtom (sM 12 1) := fun _ => by kernel_rfl
noncomputable def fFtor : Fn := ⟨Str.ofString "Symbols.functor", fS (sM 12 3), 102, .ref 101, 850, 8500, rfl, none⟩
theorem sFtor : Stands fFtor (sM 12 3) := fun _ => by kernel_rfl
noncomputable def fFunc : Fn := ⟨Str.ofString "Symbols.func", fS (sM 12 4), 109, .ref 108, 650, 6500, rfl, none⟩
theorem sFunc : Stands fFunc (sM 12 4) := fun _ => by kernel_rfl
noncomputable def SyI (w : World) (g : Heap) (sy dy tx an fs fn : Addr) (k : Nat → Tok) (n : Nat) : Prop := g.get? sy = some (instObj 154 dy) ∧ g.get? dy = some (dictOf (syEs w.params k tx an fs fn) n)
theorem SyI.ins {c : Cx} {ld : Led} {sy dy tx an fs fn : Addr} {k : Nat → Tok} {n : Nat} (h : SyI c.w c.g sy dy tx an fs fn k n) : InsIs c ld sy 154 dy (syEs c.w.params k tx an fs fn) n := ⟨.inl h.1, .inl h.2⟩
theorem atom_found2 (w : World) (sy dy tx an fs fn : Addr) (k : Nat → Tok) (n : Nat) (o : Obj) (kvs : List (Str × Value)) (t : Str) (t1 tj : Tok) (j : Int) :
    SpecN w 88 [.ref sy, .str t t1] 850 8500 [(an, o)] (fun g => SyI w g sy dy tx an fs fn k n ∧ (an == sysModules) = false ∧ o.IsDictOf (strKind PySem.Challenge.rw_no0180_01.row.toRowW.prog w) kvs ∧ valueAt kvs t = some (.int j tj) ∧ 0 ≤ j)
      (fun v need' => v = .int j tj ∧ need' = [(an, o)]) := by
  refine SpecN.ofW fAtom (sM 12 1) sAtom rfl (fun _ _ _ _ _ => rfl) rfl rfl ?_
  intro x hw hp
  subst hw
  obtain ⟨hI, lo, hd, hv, hj⟩ := hp
  refine W.attr hI.ins rfl rfl (Exists.intro (.builtin "dict.get") (Exists.intro [.ref an] (And.intro (Meth.getS (.head _) hd) fun t2 => W.neg fun t3 => W.getS (.head _) hd lo _ hv ?_)))
  exact fun t4 => And.intro (fun _ => ⟨_, .refl, rfl, rfl⟩) fun h => absurd (of_decide_eq_false h) (fun h => h hj)
theorem atom_new2 (w : World) (sy dy tx an fs fn : Addr) (k : Nat → Tok) (n e : Nat) (o : Obj) (xs : List Value) (kvs : List (Str × Value)) (t : Str) (t1 : Tok) :
    SpecN w 88 [.ref sy, .str t t1] 850 8500 [(an, o), (tx, listOf xs.toArray e)]
      (fun g => SyI w g sy dy tx an fs fn k n ∧ (an == sysModules) = false ∧ o.IsDictOf (strKind PySem.Challenge.rw_no0180_01.row.toRowW.prog w) kvs ∧ valueAt kvs t = none ∧ xs.length ≤ 100 ∧ kvs.length ≤ 100)
      (fun v need' => ∃ tv e' o', need' = [(an, o'), (tx, listOf (xs ++ [Value.str t t1]).toArray e')] ∧ o'.IsDictOf (strKind PySem.Challenge.rw_no0180_01.row.toRowW.prog w) (stored kvs t (.int xs.length tv))) := by
  refine SpecN.ofW fAtom (sM 12 1) sAtom rfl (fun _ _ _ _ _ => rfl) rfl rfl ?_
  intro x hw hp
  subst hw
  obtain ⟨hI, lo, hd, hv, hx, hk⟩ := hp
  refine W.attr hI.ins rfl rfl (Exists.intro (.builtin "dict.get") (Exists.intro [.ref an] (And.intro (Meth.getS (.head _) hd) fun t2 => W.neg fun t3 => W.getS (.head _) hd lo _ hv fun t9 => And.intro ft fun _ => ?_)))
  refine W.attr hI.ins rfl rfl (W.len (vs := xs) (.inr ⟨e, .tail _ (.head _)⟩) (by omega) fun t4 => W.attr hI.ins rfl rfl (Exists.intro (.builtin "list.append") (Exists.intro [.ref tx] (And.intro (Meth.append (its := xs.toArray) (n := e) 1 rfl) (W.append (vs := xs) 1 rfl (by omega) ?_)))))
  exact W.setSub (W.attr hI.ins rfl rfl (W.dsetS 0 rfl hd (by omega) fun o' hd' => ⟨_, .refl, t4, e + 1, o', rfl, hd'⟩))
theorem functor_new2 (w : World) (sy dy tx an fs fn : Addr) (k : Nat → Tok) (n e : Nat) (o : Obj) (xs : List Value) (fr : Led) (ys : List (List Int × Addr × Value)) (a r : Int) (t1 t2 : Tok) :
    SpecN w 102 [.ref sy, .int a t1, .int r t2] 850 8500 [(fn, o), (fs, listOf xs.toArray e)]
      (fun g => SyI w g sy dy tx an fs fn k n ∧ (fn == sysModules) = false ∧ (∀ p ∈ fr, g.get? p.1 = some p.2) ∧ FnF PySem.Challenge.rw_no0180_01.row.toRowW.prog w fr o ys ∧ [a, r] ∉ ys.map (·.1) ∧ xs.length ≤ 100 ∧ ys.length ≤ 100)
      (fun v need' => ∃ kc u1 u2 e' o' vv, need' = [(kc, tupA [.int a u1, .int r u2]), (fn, o'), (fs, listOf (xs ++ [Value.ref kc]).toArray e')] ∧ FnF PySem.Challenge.rw_no0180_01.row.toRowW.prog w ((kc, tupA [.int a u1, .int r u2]) :: fr) o' (ys ++ [([a, r], kc, vv)])) := by
  refine SpecN.ofW fFtor (sM 12 3) sFtor rfl (fun _ _ _ _ _ => rfl) rfl rfl ?_
  intro x hw hp
  subst hw
  obtain ⟨hI, lo, hfr, hd, hno, hx, hy⟩ := hp
  refine W.newTuple fun kc hkc => W.attr hI.ins rfl rfl (Exists.intro (.builtin "dict.get") (Exists.intro [.ref fn] (And.intro (Meth.getF (.tail _ (.head _)) hd hfr) fun t3 => W.neg fun t4 => W.getF (.tail _ (.head _)) hd hfr lo (.head _) hno fun t9 => And.intro ft fun _ => ?_)))
  refine W.attr hI.ins rfl rfl (W.len (vs := xs) (.inr ⟨e, .tail _ (.tail _ (.head _))⟩) (by omega) fun t5 => W.attr hI.ins rfl rfl (Exists.intro (.builtin "list.append") (Exists.intro [.ref fs] (And.intro (Meth.append (its := xs.toArray) (n := e) 2 rfl) (W.append (vs := xs) 2 rfl (by omega) ?_)))))
  exact W.setSub (W.attr hI.ins rfl rfl (W.dsetF 1 rfl hd hfr (.head _) hno (by omega) fun o' hd' => ⟨_, .refl, kc, t1, t2, e + 1, o', _, rfl, hd'⟩))
theorem func_spec2 (w : World) (sy dy tx an fs fn : Addr) (k : Nat → Tok) (n e : Nat) (oa o : Obj) (xs : List Value) (kvs : List (Str × Value)) (fr : Led) (ys : List (List Int × Addr × Value)) (t : Str) (a r : Int) (t1 t2 tj : Tok) :
    SpecN w 109 [.ref sy, .str t t1, .int r t2] 650 6500 [(fn, o), (fs, listOf xs.toArray e), (an, oa)]
      (fun g => SyI w g sy dy tx an fs fn k n ∧ (an == sysModules) = false ∧ (fn == sysModules) = false ∧ oa.IsDictOf (strKind PySem.Challenge.rw_no0180_01.row.toRowW.prog w) kvs ∧ valueAt kvs t = some (.int a tj) ∧ 0 ≤ a ∧
        (∀ p ∈ fr, g.get? p.1 = some p.2) ∧ FnF PySem.Challenge.rw_no0180_01.row.toRowW.prog w fr o ys ∧ [a, r] ∉ ys.map (·.1) ∧ xs.length ≤ 100 ∧ ys.length ≤ 100)
      (fun v need' => ∃ kc u1 u2 e' o' vv, need' = [(kc, tupA [.int a u1, .int r u2]), (fn, o'), (fs, listOf (xs ++ [Value.ref kc]).toArray e'), (an, oa)] ∧ FnF PySem.Challenge.rw_no0180_01.row.toRowW.prog w ((kc, tupA [.int a u1, .int r u2]) :: fr) o' (ys ++ [([a, r], kc, vv)])) := by
  refine SpecN.ofW fFunc (sM 12 4) sFunc rfl (fun _ _ _ _ _ => rfl) rfl rfl ?_
  intro x hw hp
  subst hw
  obtain ⟨hI, lo, lo2, hd, hv, ha, hfr, hf, hno, hx, hy⟩ := hp
  refine Exists.intro (.ref 102) (Exists.intro [.ref sy] (And.intro (Meth.ins hI.ins rfl rfl) (Exists.intro (.ref 88) (Exists.intro [.ref sy] (And.intro (Meth.ins hI.ins rfl rfl) ?_)))))
  refine W.callS (atom_found2 _ sy dy tx an fs fn k n oa kvs t t1 tj a) [(fn, o), (fs, listOf xs.toArray e)] (.perm (List.perm_append_comm (l₁ := [(an, oa)]) (l₂ := [_, _]))) (fun g sg _ => ⟨⟨sg _ _ hI.1, sg _ _ hI.2⟩, lo, hd, hv, ha⟩) fun v need' hp => ?_
  obtain ⟨rfl, rfl⟩ := hp
  refine W.callS (functor_new2 _ sy dy tx an fs fn k n e o xs fr ys a r tj t2) [(an, oa)] (.toEnd rfl) (fun g sg _ => ⟨⟨sg _ _ hI.1, sg _ _ hI.2⟩, lo2, fun p hp => sg _ _ (hfr p hp), hf, hno, hx, hy⟩) fun v need' hp => ?_
  obtain ⟨kc, u1, u2, e', o', vv, rfl, hf'⟩ := hp
  exact ⟨_, .refl, kc, u1, u2, e', o', vv, rfl, hf'⟩
end
end Mine
end
section
set_option Elab.async false
set_option maxRecDepth 100000
set_option maxHeartbeats 4000000
set_option linter.unusedVariables false
namespace Mine
noncomputable section
open PySem PySem.W PySem.Calls PyProof.Rows
noncomputable def conQ : Expr → Option Const
  | .Constant co _ _ => some co
  | _ => none
noncomputable def tupQ : Expr → Option (List Expr)
  | .Tuple es _ _ => some es
  | _ => none
theorem conQ_ok {e : Expr} {co : Const} (h : conQ e = some co) : ∃ i p, e = .Constant co i p := by
  cases e <;> first | exact ⟨_, _, congrArg (fun z => Expr.Constant z _ _) (Option.some.inj h)⟩ | cases h
theorem tupQ_ok {e : Expr} {es : List Expr} (h : tupQ e = some es) : ∃ i p, e = .Tuple es i p := by
  cases e <;> first | exact ⟨_, _, congrArg (fun z => Expr.Tuple z _ _) (Option.some.inj h)⟩ | cases h
noncomputable def conSB (e : Expr) (t : Str) : Bool := match conQ e with
  | some (.str x) => x == t
  | _ => false
noncomputable def conIB (e : Expr) (a : Int) : Bool := match conQ e with
  | some (.int x) => x == a
  | _ => false
theorem conSB_ok {e : Expr} {t : Str} (h : conSB e t = true) : ∃ i p, e = .Constant (.str t) i p := by
  unfold conSB at h
  split at h
  · rename_i q
    obtain ⟨i, p, rfl⟩ := conQ_ok q
    exact ⟨i, p, by rw [eq_of_beq h]⟩
  · cases h
theorem conIB_ok {e : Expr} {t : Int} (h : conIB e t = true) : ∃ i p, e = .Constant (.int t) i p := by
  unfold conIB at h
  split at h
  · rename_i q
    obtain ⟨i, p, rfl⟩ := conQ_ok q
    exact ⟨i, p, by rw [eq_of_beq h]⟩
  · cases h
noncomputable def strExB : List Expr → List Str → Bool
  | [], [] => true
  | e :: r, t :: r' => conSB e t && strExB r r'
  | _, _ => false
noncomputable def two (l : Option (List Expr)) (p : Expr → Expr → Bool) : Bool := match l with
  | some [a, b] => p a b
  | _ => false
noncomputable def rowExB : List Expr → List (String × Int) → Bool
  | [], [] => true
  | e :: r, p :: r' => two (tupQ e) (fun a b => conSB a (Str.ofString p.1) && conIB b p.2) && rowExB r r'
  | _, _ => false
theorem two_ok {l : Option (List Expr)} {p : Expr → Expr → Bool} (h : two l p = true) : ∃ a b, l = some [a, b] ∧ p a b = true := by
  unfold two at h
  split at h
  · exact ⟨_, _, rfl, h⟩
  · cases h
section
variable {F : Fn} {c : Cx}
theorem strsW {n : Nat} : ∀ (es : List Expr) (l : List Str), strExB es l = true → noStar es = true ∧ ∀ (k : List Value → Loc → Led → Prop) (ls : Loc) (ld : Led), (∀ vs, StrsAre vs l → k vs ls ld) → wpL (wpE F c (n + 1)) es k ls ld
  | [], [], _ => ⟨rfl, fun k ls ld hk => hk [] .nil⟩
  | [], _ :: _, h => nomatch h
  | _ :: _, [], h => nomatch h
  | e :: r, t :: r', h => by
    obtain ⟨h1, h2⟩ := Bool.and_eq_true_iff.mp h
    obtain ⟨i1, i2⟩ := strsW (n := n) r r' h2
    obtain ⟨i, p, rfl⟩ := conSB_ok h1
    exact ⟨i1, fun k ls ld hk u => i2 _ ls ld fun vs hvs => hk _ (.cons _ _ hvs)⟩
theorem W.tupStrs {n : Nat} {es : List Expr} {ls : Loc} {ld : Led} {k : Value → Loc → Led → Prop} (l : List Str) (h : strExB es l = true) (hk : ∀ vs, StrsAre vs l → W F c (PySem.newTuple vs) k ls ld) : argV (wpE F c (n + 1)) es (fun vs => W F c (PySem.newTuple vs) k) ls ld := by
  obtain ⟨h1, h2⟩ := strsW (F := F) (c := c) (n := n) es l h
  unfold argV
  rw [h1]
  exact h2 _ ls ld hk
theorem RowsAre.mono {fr fr' : Led} (h : ∀ p ∈ fr, p ∈ fr') : ∀ {vs : List Value} {l : List (String × Int)}, RowsAre fr vs l → RowsAre fr' vs l
  | [], [], _ => trivial
  | [], _ :: _, x => x.elim
  | _ :: _, [], x => x.elim
  | _ :: _, (_, _) :: _, ⟨⟨q, t1, t2, e, m⟩, x⟩ => ⟨⟨q, t1, t2, e, h _ m⟩, RowsAre.mono h x⟩
theorem rowsW {n : Nat} : ∀ (es : List Expr) (l : List (String × Int)), rowExB es l = true → noStar es = true ∧ ∀ (k : List Value → Loc → Led → Prop) (ls : Loc) (ld : Led), (∀ vs fr, RowsAre fr vs l → k vs ls (fr ++ ld)) → wpL (wpE F c (n + 2)) es k ls ld
  | [], [], _ => ⟨rfl, fun k ls ld hk => hk [] [] trivial⟩
  | [], _ :: _, h => nomatch h
  | _ :: _, [], h => nomatch h
  | e :: r, (t, i) :: r', h => by
    obtain ⟨h1, h2⟩ := Bool.and_eq_true_iff.mp h
    obtain ⟨a, b, e1, h3⟩ := two_ok h1
    obtain ⟨h3, h4⟩ := Bool.and_eq_true_iff.mp h3
    obtain ⟨i1, i2⟩ := rowsW (n := n) r r' h2
    obtain ⟨_, _, rfl⟩ := tupQ_ok e1
    obtain ⟨_, _, rfl⟩ := conSB_ok h3
    obtain ⟨_, _, rfl⟩ := conIB_ok h4
    refine ⟨i1, fun k ls ld hk u1 u2 => W.newTuple fun q hq => i2 _ ls _ fun vs fr hr => ?_⟩
    have := hk (.ref q :: vs) (fr ++ [(q, tupA [.str (Str.ofString t) u1, .int i u2])]) ⟨⟨q, u1, u2, rfl, List.mem_append_right _ (.head _)⟩, RowsAre.mono (fun p hp => List.mem_append_left _ hp) hr⟩
    rw [List.append_assoc] at this
    exact this
theorem W.tupRows {n : Nat} {es : List Expr} {ls : Loc} {ld : Led} {k : Value → Loc → Led → Prop} (l : List (String × Int)) (h : rowExB es l = true) (hk : ∀ vs fr, RowsAre fr vs l → W F c (PySem.newTuple vs) k ls (fr ++ ld)) : argV (wpE F c (n + 2)) es (fun vs => W F c (PySem.newTuple vs) k) ls ld := by
  obtain ⟨h1, h2⟩ := rowsW (F := F) (c := c) (n := n) es l h
  unfold argV
  rw [h1]
  exact h2 _ ls ld hk
end
noncomputable def retQ : Stmt → Option (Option Expr)
  | .Return e _ => some e
  | _ => none
theorem retQ_ok {st : Stmt} {e : Option Expr} (h : retQ st = some e) : ∃ p, st = .Return e p := by
  cases st <;> first | exact ⟨_, congrArg (fun z => Stmt.Return z _) (Option.some.inj h)⟩ | cases h
noncomputable def retEs (b : List Stmt) : Option (List Expr) := match b with
  | [st] => match retQ st with
    | some (some e) => tupQ e
    | _ => none
  | _ => none
theorem wpS_ret {F : Fn} {c : Cx} {n : Nat} {k : Flow → Loc → Led → Prop} {ls : Loc} {ld : Led} {b : List Stmt} {es : List Expr} (h : retEs b = some es) (hk : argV (wpE F c 19) es (fun vs => W F c (PySem.newTuple vs) (fun v => k (.ret v))) ls ld) : wpS F c (n + 1) b k ls ld := by
  unfold retEs at h
  split at h
  · split at h
    · rename_i q
      obtain ⟨_, rfl⟩ := retQ_ok q
      obtain ⟨_, _, rfl⟩ := tupQ_ok h
      exact hk
    · cases h
  · cases h
noncomputable def onQ {α : Type} (o : Option α) (p : α → Bool) : Bool := match o with
  | some a => p a
  | none => false
theorem onQ_ok {α : Type} {o : Option α} {p : α → Bool} (h : onQ o p = true) : ∃ a, o = some a ∧ p a = true := by
  unfold onQ at h
  split at h
  · exact ⟨_, rfl, h⟩
  · cases h
noncomputable def fFixA : Fn := ⟨Str.ofString "fixed_atoms", fS (sT 10), 60, .ref 59, 850, 8500, rfl, none⟩
noncomputable def fFixF : Fn := ⟨Str.ofString "fixed_functors", fS (sT 11), 67, .ref 66, 850, 8500, rfl, none⟩
theorem sFixA : Stands fFixA (sT 10) := fun _ => by kernel_rfl
theorem sFixF : Stands fFixF (sT 11) := fun _ => by kernel_rfl
theorem atoms_spec2 (w : World) : SpecN w 60 [] 850 8500 [] (fun _ => True) (fun v need' => ∃ D vs, v = .ref D ∧ need' = [(D, tupA vs)] ∧ StrsAre vs atomsL) := by
  refine SpecN.ofW fFixA (sT 10) sFixA rfl (fun _ _ _ _ _ => rfl) rfl rfl ?_
  intro x hw hp
  obtain ⟨es, e1, e2⟩ := onQ_ok (show onQ (retEs (fB (sT 10))) (fun es => strExB es atomsL) = true by kernel_rfl)
  refine wpS_ret (n := 199) e1 (W.tupStrs (n := 18) atomsL e2 fun vs hvs => W.newTuple ?_ (by rw [StrsAre.len_eq hvs, atoms_len]; rfl))
  exact fun D hD => ⟨_, .refl, D, vs, rfl, rfl, hvs⟩
theorem functors_spec2 (w : World) : SpecN w 67 [] 850 8500 [] (fun _ => True) (fun v need' => ∃ D vs fr, v = .ref D ∧ need' = (D, tupA vs) :: fr ∧ RowsAre fr vs fnL) := by
  refine SpecN.ofW fFixF (sT 11) sFixF rfl (fun _ _ _ _ _ => rfl) rfl rfl ?_
  intro x hw hp
  obtain ⟨es, e1, e2⟩ := onQ_ok (show onQ (retEs (fB (sT 11))) (fun es => rowExB es fnL) = true by kernel_rfl)
  refine wpS_ret (n := 199) e1 (W.tupRows (n := 17) fnL e2 fun vs fr hvs => W.newTuple ?_ (by rw [RowsAre.len hvs, fnL_len]; rfl))
  exact fun D hD => ⟨_, .refl, D, vs, fr, rfl, by rw [List.append_nil], hvs⟩
end
end Mine
end
section
set_option Elab.async false
set_option maxRecDepth 100000
set_option maxHeartbeats 4000000
set_option linter.unusedVariables false
namespace Mine
noncomputable section
open PySem PySem.W PySem.Calls PyProof.Rows
structure ASt where
  xs : List Value
  e : Nat
  o : Obj
  kvs : List (Str × Value)
structure AOk (w : World) (i : Nat) (c : ASt) : Prop where
  s : StrsAre c.xs (atomsL.take i)
  d : c.o.IsDictOf (strKind PySem.Challenge.rw_no0180_01.row.toRowW.prog w) c.kvs
  t : AtTab c.kvs i
structure FSt2 where
  xs : List Value
  e : Nat
  o : Obj
  fr : Led
  ys : List (List Int × Addr × Value)
structure FOk (w : World) (i : Nat) (c : FSt2) : Prop where
  x : c.xs.length = i
  k : c.ys.map (·.1) = fnKeys.take i
  d : FnF PySem.Challenge.rw_no0180_01.row.toRowW.prog w c.fr c.o c.ys
  t : 13 < i → ∃ q t1 t2, c.xs[13]? = some (.ref q) ∧ (q, tupA [.int 3 t1, .int 2 t2]) ∈ c.fr
theorem AOk.len {w : World} {i : Nat} {c : ASt} (h : AOk w i c) (hi : i ≤ 29) : c.xs.length = i ∧ c.kvs.length = i := by
  have h1 := StrsAre.len_eq h.s
  rw [List.length_take, atoms_len] at h1
  exact ⟨by omega, h.t.len hi⟩
theorem AOk.step {w : World} {i : Nat} {c : ASt} {t : Str} {tt tv : Tok} {o' : Obj} {e' : Nat} (h : AOk w i c) (hi : i < 29) (ht : atomsL[i]? = some t) (hd : o'.IsDictOf (strKind PySem.Challenge.rw_no0180_01.row.toRowW.prog w) (stored c.kvs t (.int c.xs.length tv))) :
    AOk w (i + 1) ⟨c.xs ++ [.str t tt], e', o', stored c.kvs t (.int c.xs.length tv)⟩ where
  s := by rw [List.take_add_one, ht]; exact StrsAre.append' h.s (.cons _ _ .nil)
  d := hd
  t := by dsimp only; rw [(h.len (Nat.le_of_lt hi)).1]; exact h.t.step ht
theorem FOk.no {w : World} {i j : Nat} {a : Int} {c : FSt2} (h : FOk w i c) (hi : i < 32) (r3 : fnKeys[i]? = some [(j : Int), a]) : [(j : Int), a] ∉ c.ys.map (·.1) ∧ c.ys.length = i := by
  refine ⟨fun hm => ?_, ?_⟩
  · rw [h.k] at hm
    obtain ⟨j', hj', hj2⟩ := List.mem_take_iff_getElem.mp hm
    have h1 : fnKeys[j']? = some [(j : Int), a] := by rw [← hj2]; exact List.getElem?_eq_getElem _
    have := (List.getElem?_inj (i := j') (j := i) (by omega) fnKeys_nodup).mp (h1.trans r3.symm)
    omega
  · have := congrArg List.length h.k
    rw [List.length_map, List.length_take, fnKeys_len] at this; omega
theorem FOk.step {w : World} {i j : Nat} {a : Int} {c : FSt2} {kc : Addr} {u1 u2 : Tok} {e' : Nat} {o' : Obj} {vv : Value} (h : FOk w i c) (r3 : fnKeys[i]? = some [(j : Int), a])
    (hd : FnF PySem.Challenge.rw_no0180_01.row.toRowW.prog w ((kc, tupA [.int (j : Int) u1, .int a u2]) :: c.fr) o' (c.ys ++ [([(j : Int), a], kc, vv)])) : FOk w (i + 1) ⟨c.xs ++ [.ref kc], e', o', (kc, tupA [.int (j : Int) u1, .int a u2]) :: c.fr, c.ys ++ [([(j : Int), a], kc, vv)]⟩ where
  x := by dsimp only; rw [List.length_append, h.x]; rfl
  k := by dsimp only; rw [List.map_append, h.k, List.take_add_one, r3]; rfl
  d := hd
  t := fun h13 => by
    have hx := h.x
    by_cases hh : 13 < i
    · obtain ⟨q', a1, a2, a3, a4⟩ := h.t hh
      exact ⟨q', a1, a2, by dsimp only; rw [List.getElem?_append_left (by omega)]; exact a3, .tail _ a4⟩
    · have : i = 13 := by omega
      subst this
      have e3 : [(j : Int), a] = [3, 2] := Option.some.inj (r3.symm.trans (by decide +kernel))
      have e4 : (j : Int) = 3 := (List.cons.inj e3).1
      have e5 : a = 2 := (List.cons.inj (List.cons.inj e3).2).1
      refine ⟨kc, u1, u2, by dsimp only; rw [List.getElem?_append_right (by omega), hx]; rfl, ?_⟩
      rw [e4, e5]; exact .head _
noncomputable def fSymI : Fn := ⟨Str.ofString "Symbols.__init__", fS (sM 12 0), 81, .ref 80, 320, 3200, rfl, none⟩
theorem sSymI : Stands fSymI (sM 12 0) := fun _ => by kernel_rfl
theorem sym_init2 (w : World) (sy dx : Addr) :
    SpecN w 81 [.ref sy] 320 3200 [(sy, instObj 154 dx), (dx, emptyDict)] (fun _ => True) (fun v need' => v = .none ∧ ∃ txs fns tx an fs fn k n2, ∀ g, (∀ p ∈ need', g.get? p.1 = some p.2) → SyG w g sy txs fns dx tx an fs fn k n2 ∧ SyOk g txs fns) := by
  refine SpecN.ofW fSymI (sM 12 0) sSymI rfl (fun _ _ _ _ _ => rfl) rfl rfl ?_
  intro x hw hp
  subst hw
  refine W.setAttr (W.newList fun TX hTX => W.setIns (es := []) (n := 0) 2 rfl (.inr (.tail _ (.head _))) rfl rfl fun k0 => ?_)
  refine W.setAttr (W.newDict fun AN oA hAN loA hsA _ => W.setIns 3 rfl (.inr (.tail _ (.tail _ (.head _)))) rfl rfl fun k1 => ?_)
  refine W.setAttr (W.newList fun FS hFS => W.setIns 4 rfl (.inr (.tail _ (.tail _ (.tail _ (.head _))))) rfl rfl fun k2 => ?_)
  refine W.setAttr (W.newDict fun FN oF hFN loF _ hiF => W.setIns 5 rfl (.inr (.tail _ (.tail _ (.tail _ (.tail _ (.head _)))))) rfl rfl fun k3 => ?_)
  refine W.for (W.callS (atoms_spec2 _) _ .refl (fun _ _ _ => trivial) fun v need' hp => ?_)
  obtain ⟨D, vs, rfl, rfl, hvs⟩ := hp
  generalize hkf : (fun i : Nat => [k0, k1, k2, k3].getD i 0) = kf
  have hdx : dictOf (syEs x.w.params (fun i : Nat => [k0, k1, k2, k3].getD i 0) TX AN FS FN) 4 = dictOf (syEs x.w.params kf TX AN FS FN) 4 := by rw [hkf]
  refine IterW.tup (σ := ASt) (vs := vs) (fun _ => [(Str.ofString "self", .ref sy)]) (fun c => [(D, tupA vs), (FN, oF), (FS, listOf #[] 0)] ++ ([(AN, c.o), (TX, listOf c.xs.toArray c.e)] ++ [(sy, instObj 154 dx), (dx, dictOf (syEs x.w.params kf TX AN FS FN) 4)])) (AOk x.w) ⟨[], 0, oA, []⟩
    (.inr ⟨0, .head _⟩) (.inr ⟨_, fun _ => .head _⟩) ⟨rfl, trivial⟩ (by rw [← hdx]; exact .refl) ⟨.nil, hsA, ⟨rfl, fun j hj => absurd hj (Nat.not_lt_zero _)⟩⟩ ?turn ?done
  case turn =>
    rintro i ⟨xs, e, o, kvs⟩ v I oI hi hv hP hI
    obtain ⟨t, tt, rfl, ht⟩ := hvs.item i v hv
    have hi29 : i < 29 := by rw [← atoms_len]; exact (List.getElem?_eq_some_iff.mp ht).1
    obtain ⟨hl1, hl2⟩ := hP.len (Nat.le_of_lt hi29)
    dsimp only at hl1 hl2
    refine Exists.intro (.ref 88) (Exists.intro [.ref sy] (And.intro (Meth.ins (C := 154) (dx := dx) (es := syEs x.w.params kf TX AN FS FN) (n := 4) ⟨.inr (.tail _ (.tail _ (.tail _ (.tail _ (.tail _ (.tail _ (.head _))))))), .inr (.tail _ (.tail _ (.tail _ (.tail _ (.tail _ (.tail _ (.tail _ (.head _))))))))⟩ rfl rfl) ?_))
    refine W.callS (atom_new2 _ sy dx TX AN FS FN kf 4 e o xs kvs t tt) ([(I, oI), (D, tupA vs), (FN, oF), (FS, listOf #[] 0)] ++ [(sy, instObj 154 dx), (dx, dictOf (syEs x.w.params kf TX AN FS FN) 4)]) (.perm (List.perm_append_comm_assoc _ _ _))
      (fun g sg r9 => ⟨⟨r9 (sy, _) (.tail _ (.tail _ (.tail _ (.tail _ (.head _))))), r9 (dx, _) (.tail _ (.tail _ (.tail _ (.tail _ (.tail _ (.head _))))))⟩, loA, hP.d, hP.t.none ht, by omega, by omega⟩) fun v need' hp => ?_
    obtain ⟨tv, e', o', rfl, hd'⟩ := hp
    exact ⟨_, ⟨rfl, trivial⟩, .perm (List.perm_append_comm_assoc [(I, oI), (D, tupA vs), (FN, oF), (FS, listOf #[] 0)] [(AN, o'), (TX, _)] _), hP.step (e' := e') hi29 ht hd'⟩
  case done =>
    rintro ⟨xs, e, o, kvs⟩ hP
    rw [StrsAre.len_eq hvs, atoms_len] at hP
    refine W.for (W.callS (functors_spec2 _) ([(FN, oF), (FS, listOf #[] 0), (AN, o)] ++ ([] ++ [(TX, listOf xs.toArray e), (sy, instObj 154 dx), (dx, dictOf (syEs x.w.params kf TX AN FS FN) 4)])) (.dr 1 rfl) (fun _ _ _ => trivial) fun v need' hp => ?_)
    obtain ⟨D2, vs2, frR, rfl, rfl, hrows⟩ := hp
    refine IterW.tup (σ := FSt2) (vs := vs2) (fun _ => [(Str.ofString "self", .ref sy)]) (fun c => ((D2, tupA vs2) :: frR) ++ ([(FN, c.o), (FS, listOf c.xs.toArray c.e), (AN, o)] ++ (c.fr ++ [(TX, listOf xs.toArray e), (sy, instObj 154 dx), (dx, dictOf (syEs x.w.params kf TX AN FS FN) 4)]))) (FOk x.w) ⟨[], 0, oF, [], []⟩
      (.inr ⟨0, .head _⟩) (.inr ⟨_, fun _ => .head _⟩) ⟨rfl, trivial⟩ .refl ⟨rfl, rfl, FnF.empty hiF, fun h => absurd h (Nat.not_lt_zero _)⟩ ?turn ?done
    case turn =>
      rintro i ⟨xs2, e2, o2, fr, ys⟩ v I oI hi hv hQ hI
      have hi32 : i < 32 := by rw [RowsAre.len hrows, fnL_len] at hi; exact hi
      obtain ⟨t, a, j, r1, r2, r3⟩ := fn_rows i hi32
      obtain ⟨q, t1, t2, rfl, hq⟩ := hrows.at hv r1
      obtain ⟨tv, htv⟩ := hP.t.get r2
      obtain ⟨hno, hyl⟩ := hQ.no hi32 r3
      have hxl := hQ.x
      dsimp only at hxl hyl
      have hqm : ∀ X : Led, (q, tupA [.str (Str.ofString t) t1, .int a t2]) ∈ (I, oI) :: (((D2, tupA vs2) :: frR) ++ X) := fun X => .tail _ (.tail _ (List.mem_append_left _ hq))
      have ins : ∀ X : Led, InsIs x ((I, oI) :: (((D2, tupA vs2) :: frR) ++ (X ++ (fr ++ [(TX, listOf xs.toArray e), (sy, instObj 154 dx), (dx, dictOf (syEs x.w.params kf TX AN FS FN) 4)])))) sy 154 dx (syEs x.w.params kf TX AN FS FN) 4 := fun X =>
        ⟨.inr (.tail _ (List.mem_append_right _ (List.mem_append_right _ (List.mem_append_right _ (.tail _ (.head _)))))), .inr (.tail _ (List.mem_append_right _ (List.mem_append_right _ (List.mem_append_right _ (.tail _ (.tail _ (.head _)))))))⟩
      refine Exists.intro (.ref 109) (Exists.intro [.ref sy] (And.intro (Meth.ins (ins [_, _, _]) rfl rfl) (fun a1 => W.itup (.inr ⟨0, hqm _⟩) rfl rfl fun a2 => W.itup (.inr ⟨0, hqm _⟩) rfl rfl ?_)))
      refine W.callS (func_spec2 _ sy dx TX AN FS FN kf 4 e2 o o2 xs2 kvs fr ys (Str.ofString t) (j : Int) a t1 t2 tv) (((I, oI) :: (D2, tupA vs2) :: frR) ++ (fr ++ [(TX, listOf xs.toArray e), (sy, instObj 154 dx), (dx, dictOf (syEs x.w.params kf TX AN FS FN) 4)])) (.perm (List.perm_append_comm_assoc [(FN, o2), (FS, _), (AN, o)] ((I, oI) :: (D2, tupA vs2) :: frR) _))
        (fun g sg r9 => ⟨⟨r9 (sy, _) (List.mem_append_right _ (List.mem_append_right _ (.tail _ (.head _)))), r9 (dx, _) (List.mem_append_right _ (List.mem_append_right _ (.tail _ (.tail _ (.head _)))))⟩, loA, loF, hP.d, htv, Int.natCast_nonneg _, fun p hp => r9 p (List.mem_append_right _ (List.mem_append_left _ hp)), hQ.d, hno, by omega, by omega⟩) fun v need' hp => ?_
      obtain ⟨kc, u1, u2, e', o', vv, rfl, hfn⟩ := hp
      refine ⟨_, ⟨rfl, trivial⟩, .perm ?_, hQ.step (e' := e') r3 hfn⟩
      exact (List.perm_append_comm_assoc ((I, oI) :: (D2, tupA vs2) :: frR) [(FN, o'), (FS, _), (AN, o)] ((kc, _) :: (fr ++ _))).trans ((List.Perm.append_left [(FN, o'), (FS, _), (AN, o)] List.perm_middle).trans List.perm_middle)
    case done =>
      rintro ⟨xs2, e2, o2, fr, ys⟩ hQ
      rw [RowsAre.len hrows, fnL_len] at hQ
      obtain ⟨q, t1, t2, z1, z2⟩ := hQ.t (by decide)
      have up : ∀ p : Addr × Obj, p ∈ [(FN, o2), (FS, listOf xs2.toArray e2), (AN, o)] ++ (fr ++ [(TX, listOf xs.toArray e), (sy, instObj 154 dx), (dx, dictOf (syEs x.w.params kf TX AN FS FN) 4)]) → p ∈ ((D2, tupA vs2) :: frR) ++ ([(FN, o2), (FS, listOf xs2.toArray e2), (AN, o)] ++ (fr ++ [(TX, listOf xs.toArray e), (sy, instObj 154 dx), (dx, dictOf (syEs x.w.params kf TX AN FS FN) 4)])) := fun p hp => List.mem_append_right _ hp
      refine ⟨_, .refl, rfl, xs, xs2, TX, AN, FS, FN, kf, 4, fun g' hg => ⟨⟨?_, ?_, ?_, ?_⟩, ?_, q, t1, t2, z1, ?_⟩⟩
      · exact hg (sy, _) (up _ (List.mem_append_right _ (List.mem_append_right _ (.tail _ (.head _)))))
      · exact hg (dx, _) (up _ (List.mem_append_right _ (List.mem_append_right _ (.tail _ (.tail _ (.head _))))))
      · exact isList_of (hg (TX, _) (up _ (List.mem_append_right _ (List.mem_append_right _ (.head _)))))
      · exact isList_of (hg (FS, _) (up _ (.tail _ (.head _))))
      · rintro n (rfl | rfl)
        · exact hP.s.at (j := 0) (by decide +kernel)
        · exact hP.s.at (j := 4) (by decide +kernel)
      · exact isTup_of (hg (q, _) (up _ (List.mem_append_right _ (List.mem_append_left _ z2))))
end
end Mine
end
section
set_option Elab.async false
set_option maxRecDepth 100000
set_option maxHeartbeats 1000000
set_option linter.unusedVariables false
namespace Mine
noncomputable section
open PySem PySem.W PySem.Calls PyProof.Rows
section
variable {F : Fn} {c : Cx} {ls : Loc} {ld : Led}
theorem W.makeN {C f : Addr} {rest : List Value} {D U : Nat} {pre : Heap → Prop} {post : Addr → Addr → Led → Prop} (S : ∀ x dx, SpecN c.w f (.ref x :: rest) D U [(x, instObj C dx), (dx, emptyDict)] pre (fun v n => v = .none ∧ post x dx n)) {k : Value → Loc → Led → Prop}
    (ht : tabC.contains (C, f) = true) (hpre : ∀ g, c.g.StaysIn g → (∀ p ∈ ld, g.get? p.1 = some p.2) → pre g) (hk : ∀ x dx need', post x dx need' → k (.ref x) ls (need' ++ ld)) (hdu : (Nat.ble (F.D + 9) D && Nat.ble (F.U + 11) U) = true := by rfl) : W F c (PySem.call (.ref C) rest) k ls ld :=
  W.make (D := D) (U := U) (pre := pre) (post := fun x dx v n => (n.map (·.1)).Nodup ∧ post x dx n) (fun x dx hne gd outer A₀ base g mean mg mb s R B X T st hz O hpre hR =>
    S x dx gd outer A₀ base g mean mg mb s R B X T st hz O ⟨List.nodup_cons.mpr ⟨fun h => hne (List.mem_singleton.mp h), List.nodup_cons.mpr ⟨List.not_mem_nil, .nil⟩⟩, hpre⟩ fun v h' tk need' a b ⟨h1, h2, h3⟩ => hR v h' tk need' a b ⟨h2, h1, h3⟩)
    ht hdu hpre fun x dx need' h => ⟨h.1, hk x dx need' h.2⟩
theorem W.dsetI {d : Addr} {o : Obj} {kvs : List (Int × Value)} {i : Int} {t : Tok} {v : Value} {k : Unit → Loc → Led → Prop} (j : Nat) (h : ld[j]? = some (d, o)) (hd : DictI c o kvs) (hz : kvs.length ≤ 1000) (hk : ∀ o', DictI c o' (stored kvs i v) → k () ls (ld.set j (d, o'))) :
    W F c (setItem (.ref d) (.int i t) v) k ls ld := fun ok s st => by
  obtain ⟨m, Fm, hm⟩ := st.F
  exact kda_set Fm st.N (updF_of st.nd h) hd (intKind_is _ _ _ _) (by rw [PySem.sizeLine_eq]; omega) fun h' o' F' N' hd' => ⟨ls, _, ⟨⟨m, F', hm⟩, N', set_nd st.nd h, st.ge, st.dr, st.os⟩, hk o' hd'⟩
theorem IterW.rangeU {x : Str} {body : List Stmt} {r : Addr} {b : Int} {t u v : Tok} {n : Nat} {k : Flow → Loc → Led → Prop} (hr : (r, rangeO 0 b 1 t u v) ∈ ld) (hsm : Builtin.Range.small 0 b 1 = true) (hn : Builtin.Range.rangeSize 0 b 1 = (n : Int)) {ld2 : Led} (h2 : Sub2 ld2 ld) (h : forU F c x body (fun _ => True) k ((List.range n).map fun (i : Nat) v => ∃ t, v = .int (i : Int) t) ls ld2) : IterW F c x body k (.ref r) ls ld := by
  have hlen : ((List.range n).map fun (i : Nat) v => ∃ t, v = Value.int (i : Int) t).length = n := by rw [List.length_map, List.length_range]
  have rest := IterW.rangeK (F := F) (c := c) (ls := ls) (σ := FU fun _ => True) (x := x) (body := body) (k := k) FU.ls FU.ld (fun i y => forU F c x body (fun _ => True) k (((List.range n).map fun (i : Nat) v => ∃ t, v = Value.int (i : Int) t).drop i) y.ls y.ld) ⟨ls, ld2, trivial⟩ hr hsm hn
  refine rest (fun _ _ e => e) h2 h (fun i y w I o hi hP hof => ?_) fun y hP => ?_
  · rw [← unK_for]
    refine forU_turn (by rw [hlen]; exact hi) (fun P hP => ?_) hP hof fun _ _ => trivial
    rw [List.getElem?_map, List.getElem?_range hi] at hP
    cases hP
    exact ⟨w, by rw [Int.mul_one, Int.zero_add]⟩
  · have e : ((List.range n).map fun (i : Nat) v => ∃ t, v = Value.int (i : Int) t).drop n = [] := by rw [List.drop_eq_nil_iff, hlen]; exact Nat.le_refl _
    rw [e] at hP; exact hP
theorem IterW.rangeN {σ : Type} {x : Str} {body : List Stmt} {r : Addr} {b : Int} {t u v : Tok} {n : Nat} (Ls : σ → Loc) (Ld : σ → Led) (P : Nat → σ → Prop) (c₀ : σ) {k : Flow → Loc → Led → Prop} (hr : (r, rangeO 0 b 1 t u v) ∈ ld) (hsm : Builtin.Range.small 0 b 1 = true) (hn : Builtin.Range.rangeSize 0 b 1 = (n : Int))
    (h1 : KnowsL (Ls c₀) ls) (h2 : Sub2 (Ld c₀) ld) (hp : P 0 c₀) (turn : ∀ (i : Nat) (y : σ) w I o, i < n → P i y → (∀ p ∈ Ld y, p.1 ≠ I) → wpS F c 200 body (forK Ls Ld (P (i + 1)) (I, o) k) ((x, .int (i : Int) w) :: Ls y) ((I, o) :: Ld y)) (done : ∀ y, P n y → k .next (Ls y) (Ld y)) : IterW F c x body k (.ref r) ls ld :=
  IterW.range Ls Ld P c₀ hr hsm hn h1 h2 hp (fun i y w I o hi hP hof => by rw [Int.mul_one, Int.zero_add]; exact turn i y w I o hi hP hof) done
theorem W.sorted {l : Addr} {n : Nat} {vs : List Value} {X Y W' : Nat → Int} {k : Value → Loc → Led → Prop} (hlen : vs.length = n) (hn : n ≤ 32) (hl : ListIs c ld l vs) (hv : ∀ i, i < n → ∃ c t1 t2, vs[i]? = some (.ref c) ∧ (c, tupA [.int (X i) t1, .int (Y i) t2]) ∈ ld)
    (hW : ∀ i j, i < n → j < n → (W' i < W' j ↔ X i < X j ∨ (X i = X j ∧ Y i < Y j)))
    (hk : ∀ D e (p : List Nat), p.Perm (List.range n) → (p.map W').Pairwise (· ≤ ·) → k (.ref D) ls ((D, listOf (List.toArray (p.map fun i => vs.getD i Value.none)) e) :: ld)) (hu : Nat.ble ((c.A F).units + 9) cLine = true := by rfl) : W F c (PySem.call (.builtin "sorted") [.ref l]) k ls ld := fun ok s st => by
  obtain ⟨m, Fm, hm⟩ := st.F
  exact sorted_pairs (Nat.le_of_ble_eq_true hu) hlen hn Fm st.N (hl.at st) hv hW fun D e h' tk p F' N' l1 h1 h2 => ⟨ls, _, st.alloc F' hm N' l1, hk D e p h1 h2⟩
theorem W.listCopy {l : Addr} {vs : List Value} {k : Value → Loc → Led → Prop} (hl : ListIs c ld l vs) (hz : vs.length ≤ 1000) (hk : ∀ D e, k (.ref D) ls ((D, listOf vs.toArray e) :: ld)) : W F c (PySem.call (.type "list") [.ref l]) k ls ld := fun ok s st => by
  obtain ⟨m, Fm, hm⟩ := st.F
  exact list_copyK Fm st.N (hl.at st) (fun D e h' F' N' l1 => ⟨ls, _, st.alloc F' hm N' l1, hk D e⟩) (by rw [List.size_toArray]; exact Nat.le_trans hz (Nat.le_of_ble_eq_true rfl))
theorem W.notin {l : Addr} {vs : List Value} {ds : List Nat} {q : Nat} {t : Tok} {k : Value → Loc → Led → Prop} (hl : ListIs c ld l vs) (hI : IntsAre vs (ds.map fun (i : Nat) => (i : Int))) (hk : k (.bool (!ds.contains q)) ls ld) : W F c (compareOp .NotIn (.int (q : Int) t) (.ref l)) k ls ld := fun ok s st =>
  notin_nats (hl.at st) hI rfl rfl ⟨ls, ld, st, hk⟩
theorem W.neSame {l b : Addr} {vs : List Value} {k : Value → Loc → Led → Prop} (hl : ListIs c ld l vs) (hb : ListIs c ld b vs) (hk : k (.bool false) ls ld) (hu : Nat.ble ((c.A F).units + 1) cLine = true := by rfl) : W F c (compareOp .NotEq (.ref l) (.ref b)) k ls ld := fun ok s st =>
  ne_same (hl.at st) (hb.at st) (Nat.le_of_ble_eq_true hu) ⟨ls, ld, st, hk⟩
theorem Meth.index {l : Addr} {its : Array Value} {n : Nat} (h : (l, listOf its n) ∈ ld) : Meth F c (.ref l) (Str.ofString "index") (.builtin "list.index") [.ref l] ls ld :=
  fun pl Q E s ok st hq => listMethod_K st.N h PySem.F.slot_list_index PySem.F.type_list_index hq
theorem W.index {l x : Addr} {vs : List Value} {n j : Nat} {X Y : Nat → Int} {k : Value → Loc → Led → Prop} (hl : ListIs c ld l vs) (hlen : vs.length = n) (hn : n ≤ 1000) (hv : ∀ i, i < n → ∃ a t1 t2, vs[i]? = some (.ref a) ∧ TupIs c ld a [.int (X i) t1, .int (Y i) t2]) {a b : Int} {t1 t2 : Tok} (hx : TupIs c ld x [.int a t1, .int b t2])
    (hj : j < n) (h1 : X j = a ∧ Y j = b) (h2 : ∀ i, i < j → ¬ (X i = a ∧ Y i = b)) (hk : ∀ t, k (.int (j : Int) t) ls ld) (hu : Nat.ble ((c.A F).units + 81) cLine = true := by rfl) : W F c (PySem.call (.builtin "list.index") [.ref l, .ref x]) k ls ld := fun ok s st =>
  index_pair (hl.at st) hlen hn (Nat.le_of_ble_eq_true hu) (fun i hi => let ⟨a, t1, t2, e, h⟩ := hv i hi; ⟨a, t1, t2, e, h.at st⟩) (hx.at st) hj h1 h2 ⟨ls, ld, st.toks _, hk _⟩
end
end
end Mine
end
section
set_option Elab.async false
set_option maxRecDepth 100000
set_option maxHeartbeats 1000000
set_option linter.unusedVariables false
namespace Mine
noncomputable section
open PySem PySem.W PySem.Calls PyProof.Rows
structure LP where
  ST : Addr
  SY : Addr
  HL : Addr
  DS : Addr
  SK : Addr
  TR : Addr
  DY : Addr
  TX : Addr
  AN : Addr
  FS : Addr
  FN : Addr
  ks : Nat → Tok
  ky : Nat → Tok
  n3 : Nat
  n2 : Nat
  xs : List Value
  txs : List Value
  fns : List Value
structure StoreOk (w : World) (y : LP) (g : Heap) : Prop where
  st : StG w g y.ST y.SY y.HL y.xs y.DS y.SK y.TR y.ks y.n3
  sy : SyG w g y.SY y.txs y.fns y.DY y.TX y.AN y.FS y.FN y.ky y.n2
  so : SyOk g y.txs y.fns
section
variable {F : Fn} {c : Cx} {ls : Loc} {ld : Led}
noncomputable abbrev gets (ld : Led) (cs : List Value) (d : List Nat) : List Value := d.map fun i => cs.getD i .none
theorem W.sort {y : LP} {cl : Addr} {cs : List Value} {u kd : Bool} {N : Nat} {T : Nat → Tm} {c' : Nat → Addr} {d : List Nat} (hf : ∀ g, (∀ p ∈ ld, g.get? p.1 = some p.2) → StoreOk c.w y g ∧ g.IsList cl cs.toArray ∧ CellsOk g y.xs cs kd c' N ∧ TermsOk c.w g y.xs T c' N)
    (hx : y.xs.length ≤ 1000) (hcs : cs.length = N) (hN : N ≤ 100) (ho : Ord fun i j => cmpT (T i) (T j)) (hd : Blk u (fun i j => cmpT (T i) (T j)) 0 N d) {k : Value → Loc → Led → Prop} (hk : ∀ D e, k (.ref D) ls ((D, listOf (d.map fun i => cs.getD i .none).toArray e) :: ld))
    (hdu : (Nat.ble (F.D + 1) 550 && Nat.ble (F.U + 3) 5500) = true := by rfl) : W F c (PySem.call (.ref 459) [.ref y.ST, .ref cl, .bool u, .bool kd]) k ls ld :=
  W.call1 (sort_spec2 c.w y.ST cl y.SY y.HL y.DS y.SK y.TR y.DY y.TX y.AN y.FS y.FN y.xs y.txs y.fns cs y.ks y.ky y.n3 y.n2 N T c' u kd ho)
    (fun g _ hg => let ⟨h1, h2, h3, h4⟩ := hf g hg; ⟨h1.st, h1.sy, h1.so, Nat.lt_of_le_of_lt hx (by decide), h2, hcs, hN, h3, h4⟩) (fun v need' ⟨D, e, l, h1, h2, _⟩ => ⟨D, _, h1, h2⟩)
    (fun x o ⟨D, e, l, h1, h2, h3⟩ => by cases h1; cases h2; cases Blk.unique ho h3 hd; exact hk _ e) hdu
theorem eq_one {prog : Program} {w : World} {A : Around} {E : Value → Shared → Prop} {s : Shared} {l b p q : Addr} {i a : Int} {t1 t2 t3 t4 : Tok} {Q : Value → Shared → Prop} (hl : s.heap.IsList l [Value.ref p].toArray) (hb : s.heap.IsList b [Value.ref q].toArray) (hp : IsTup s.heap p [Value.int i t1, .int a t2].toArray) (hq : IsTup s.heap q [Value.int i t3, .int a t4].toArray)
    (hu : A.units < cLine) (hv : A.in1.units + 64 < cLine) (h : Q (.bool true) s) : wpAny (model prog w) A (compareOp .Eq (.ref l) (.ref b)) Q E s :=
  PySem.SeqAt.eq_listAt (e := fun _ => true) hl hb rfl hu (fun j h1 h2 => by
    have hj : j = 0 := by simp at h1; omega
    subst hj
    exact eqAt_pair hp hq hv (decide_eq_true ⟨rfl, rfl⟩)) (by
    have : (List.range [Value.ref p].toArray.size).all (fun _ => true) = true := by simp
    rw [this]; exact h)
theorem W.eqOne {l b p q : Addr} {i a : Int} {t1 t2 t3 t4 : Tok} {k : Value → Loc → Led → Prop} (hl : ListIs c ld l [.ref p]) (hb : ListIs c ld b [.ref q]) (hp : TupIs c ld p [.int i t1, .int a t2]) (hq : TupIs c ld q [.int i t3, .int a t4]) (hk : k (.bool true) ls ld) (hu : Nat.ble ((c.A F).units + 1) cLine = true := by rfl) (hv : Nat.ble ((c.A F).in1.units + 65) cLine = true := by rfl) :
    W F c (compareOp .Eq (.ref l) (.ref b)) k ls ld := fun ok s st => eq_one (hl.at st) (hb.at st) (hp.at st) (hq.at st) (Nat.le_of_ble_eq_true hu) (Nat.le_of_ble_eq_true hv) ⟨ls, ld, st, hk⟩
theorem wpE_name {n : Nat} {x : Str} {pos : Pos} {v : Value} {k : Value → Loc → Led → Prop} (e : nmQ F.cs ls x = some v) (h : k v ls ld) : wpE F c (n + 1) (.Name x pos) k ls ld := by
  show namW F c x k ls ld
  unfold namW
  rw [e]
  exact h
theorem W.pick {X Ln x : Str} {xp pp sp tp lp pos : Pos} {scope : Scope} {l B a : Addr} {o : Obj} {vs cs : List Value} {n : Nat} {ds : List Nat} {k : Value → Loc → Led → Prop} (cl : List (Str × Addr)) (hm : F.m = none)
    (hclos : closureFor scope (F.env c.L) = pure cl) (hcell : ∀ y ∈ scope.names, y.2 ≠ .cell) (hkind : scope.kind = .function) (hnames : ∀ y ∈ scope.names, y.2 = .local → scope.names.lookup y.1 = some .local) (hx : scope.names.lookup x = some .local)
    (hX : ∀ C oC v k ls ld, (∃ a o u, cl.lookup X = some a ∧ (a, o) ∈ ld ∧ o.data = .cell (some u) ∧ k u ls ld) → cmpW F c scope cl C oC x v X k ls ld) (hP : ∀ C oC v k ls ld, ((C, oC) ∈ ld ∧ k v ls ld) → cmpW F c scope cl C oC x v x k ls ld)
    (hi : nmQ F.cs ls Ln = some (.ref l)) (hl : (l, listOf vs.toArray n) ∈ ld) (hz : vs.length ≤ 1000) (hI : IntsAre vs (ds.map fun (i : Nat) => (i : Int))) (hB : ∀ g : Heap, (∀ p ∈ ld, g.get? p.1 = some p.2) → g.IsList B cs.toArray) (ha : (a, o) ∈ ld) (hcl : cl.lookup X = some a) (ho : o.data = .cell (some (.ref B)))
    (hd : ∀ i ∈ ds, i < cs.length) (hcs : cs.length ≤ 1000) (hk : ∀ D, k (.ref D) ls ((D, LCg.lst (ds.map fun i => cs.getD i .none)) :: ld)) :
    W F c (eval (.ListComp (.Subscript (.Name X xp) (.Name x pp) sp) [⟨.Name x tp, .Name Ln lp, [], 0⟩] scope pos) (F.env c.L)) k ls ld := by
  refine W.compE cl hm hclos hcell hkind hnames hx fun m => ?_
  refine wpE_name (n := 19) (F := F.fix m) hi ?_
  refine CompW.list (σ := Unit) hkind (fun _ => ld) (fun i ys _ => ys = (ds.take i).map fun i => cs.getD i .none) () .refl (by rw [List.take_zero]; rfl) (fun _ => hl) hz (fun i ys _ v I C D oI oC hC hi hv hys => ?_) fun ys _ hys D => ?_
  · obtain ⟨q, t, rfl, hq⟩ := IntsAre.at hI i v hv
    rw [List.getElem?_map] at hq
    obtain ⟨j, hj, rfl⟩ := Option.map_eq_some_iff.mp hq
    have hjc := hd j (List.mem_of_getElem? hj)
    refine hX C oC (.int j t) (fun ov ls' ld' => cmpW F c scope cl C oC x (.int j t) x (fun jv => W (F.fix m) c (subscriptTail (.Name X xp) (.Name x pp) ov jv) (cmpK (fun _ : Unit => ld) (fun ys _ => ys = (ds.take (i + 1)).map fun i => cs.getD i .none) ys I C D oI oC)) ls' ld') ls _
      ⟨a, o, .ref B, hcl, .tail _ (.tail _ (.tail _ ha)), ho, hP C oC _ _ _ _ ⟨.tail _ (.head _), W.ilist (l := cs) (.see fun g _ hg => hB g fun p hp => hg p (.tail _ (.tail _ (.tail _ hp)))) (Int.natCast_nonneg j) (by omega) (v := cs.getD j .none) ?_ ?_⟩⟩
    · rw [Int.toNat_natCast, List.getD_eq_getElem?_getD, List.getElem?_eq_getElem hjc]; rfl
    · refine ⟨(), .refl, ?_⟩
      rw [hys, List.take_succ, hj, List.map_append]; rfl
  · have e : ds.take vs.length = ds := List.take_of_length_le (by rw [hI.length, List.length_map]; exact Nat.le_refl _)
    rw [hys, e]
    exact hk D
end
end
end Mine
end
section
set_option Elab.async false
set_option maxRecDepth 100000
set_option maxHeartbeats 1000000
set_option linter.unusedVariables false
namespace Mine
noncomputable section
open PySem PySem.W PySem.Calls PyProof.Rows
structure LQ extends LP where
  N : Nat
  x1 : Nat
  kx : Nat → Key
  KS : Addr
  WS : Addr
  BR : Addr
  PR : Addr
  as : List Addr
  ws : List Addr
  bs : List Addr
  pd : List Addr
  ps : List Nat
  qs : List Nat
structure LawF (w : World) (q : LQ) (g : Heap) : Prop where
  so : StoreOk w q.toLP g
  kl : g.IsList q.KS (q.as.map Value.ref).toArray
  wl : g.IsList q.WS (q.ws.map Value.ref).toArray
  bl : g.IsList q.BR (q.bs.map Value.ref).toArray
  pl : g.IsList q.PR (q.pd.map Value.ref).toArray
  f8 : Fin8 g q.x1 q.xs q.bs q.pd q.ps q.qs q.kx q.N
structure LawP (q : LQ) : Prop where
  hx : q.xs.length ≤ 1000
  hx1 : q.x1 ≤ q.xs.length
  la : q.as.length = q.N
  lw : q.ws.length = q.N
  lb : q.bs.length = q.N
  lp : q.pd.length = q.N
  n16 : q.N ≤ 16
  kok : ∀ i, KeyOk (q.kx i)
noncomputable def CellAt (ld : Led) (a : Addr) (v : Value) : Prop := ∃ o, (a, o) ∈ ld ∧ o.data = .cell (some v)
theorem CellAt.cons {ld : Led} {p : Addr × Obj} {a : Addr} {v : Value} : CellAt ld a v → CellAt (p :: ld) a v := fun ⟨o, h1, h2⟩ => ⟨o, .tail _ h1, h2⟩
structure Sees (c : Cx) (q : LQ) (ld : Led) : Prop where
  p : LawP q
  cS : CellAt ld (c.L + 2) (.ref q.ST)
  cW : CellAt ld (c.L + 4) (.ref q.WS)
  cB : CellAt ld (c.L + 5) (.ref q.BR)
  cP : CellAt ld (c.L + 6) (.ref q.PR)
  f : ∀ g : Heap, (∀ p ∈ ld, g.get? p.1 = some p.2) → LawF c.w q g
  wm : ∃ n, (q.WS, listOf (q.ws.map Value.ref).toArray n) ∈ ld
  wt : ∀ i, i < q.N → ∃ t1 t2, (q.ws.getD i 0, tupA [.int (wOf (q.kx i)).1 t1, .int (wOf (q.kx i)).2 t2]) ∈ ld
section
variable {c : Cx} {q : LQ} {ls : Loc} {ld : Led}
theorem Sees.cons {p : Addr × Obj} (h : Sees c q ld) : Sees c q (p :: ld) :=
  ⟨h.p, h.cS.cons, h.cW.cons, h.cB.cons, h.cP.cons, fun g hg => h.f g fun r hr => hg r (.tail _ hr), let ⟨n, m⟩ := h.wm; ⟨n, .tail _ m⟩, fun i hi => let ⟨a, b, m⟩ := h.wt i hi; ⟨a, b, .tail _ m⟩⟩
noncomputable abbrev LQ.W (q : LQ) (i : Nat) : Int := encK (q.kx i)
noncomputable abbrev LQ.o1 (q : LQ) : Nat → Nat → Int := fun i j => sg (q.W i) (q.W j)
theorem refs_get {l : List Addr} {i : Nat} (h : i < l.length) : (l.map Value.ref)[i]? = some (.ref (l.getD i 0)) := by
  rw [List.getElem?_map, List.getD_eq_getElem?_getD, List.getElem?_eq_getElem h]; rfl
theorem Sees.sortB {F : Fn} {u : Bool} {d : List Nat} {k : Value → Loc → Led → Prop} (h : Sees c q ld) (hd : Blk u q.o1 0 q.N d) (hk : ∀ D e, k (.ref D) ls ((D, listOf (gets ld (q.bs.map Value.ref) d).toArray e) :: ld)) (hdu : (Nat.ble (F.D + 1) 550 && Nat.ble (F.U + 3) 5500) = true := by rfl) :
    W F c (PySem.call (.ref 459) [.ref q.ST, .ref q.BR, .bool u, .bool false]) k ls ld :=
  W.sort (y := q.toLP) (T := T1 q.kx q.ps) (c' := fun i => q.bs.getD i 0) (fun g hg => ⟨(h.f g hg).so, (h.f g hg).bl, cellsB h.p.lb, (h.f g hg).f8.terms1⟩) h.p.hx ((List.length_map _).trans h.p.lb) (Nat.le_trans h.p.n16 (by decide))
    (by rw [cmp_T1 h.p.kok]; exact ord_sg _) (by rw [cmp_T1 h.p.kok]; exact hd) hk hdu
theorem Sees.sortK {F : Fn} {u : Bool} {d : List Nat} {k : Value → Loc → Led → Prop} (h : Sees c q ld) (hd : Blk u q.o1 0 q.N d) (hk : ∀ D e, k (.ref D) ls ((D, listOf (gets ld (q.pd.map Value.ref) d).toArray e) :: ld)) (hdu : (Nat.ble (F.D + 1) 550 && Nat.ble (F.U + 3) 5500) = true := by rfl) :
    W F c (PySem.call (.ref 459) [.ref q.ST, .ref q.PR, .bool u, .bool true]) k ls ld :=
  W.sort (y := q.toLP) (T := T1 q.kx q.ps) (c' := fun i => q.bs.getD i 0) (fun g hg => ⟨(h.f g hg).so, (h.f g hg).pl, (h.f g hg).f8.cellsA h.p.lp h.p.hx, (h.f g hg).f8.terms1⟩) h.p.hx ((List.length_map _).trans h.p.lp) (Nat.le_trans h.p.n16 (by decide))
    (by rw [cmp_T1 h.p.kok]; exact ord_sg _) (by rw [cmp_T1 h.p.kok]; exact hd) hk hdu
theorem Sees.sortP {F : Fn} {d : List Nat} {k : Value → Loc → Led → Prop} (h : Sees c q ld) (hd : Blk false q.o1 0 q.N d) (hk : ∀ D e, k (.ref D) ls ((D, listOf (gets ld (q.pd.map Value.ref) d).toArray e) :: ld)) (hdu : (Nat.ble (F.D + 1) 550 && Nat.ble (F.U + 3) 5500) = true := by rfl) :
    W F c (PySem.call (.ref 459) [.ref q.ST, .ref q.PR, .bool false, .bool false]) k ls ld :=
  W.sort (y := q.toLP) (T := T2 q.kx q.ps q.qs) (c' := fun i => q.pd.getD i 0) (fun g hg => ⟨(h.f g hg).so, (h.f g hg).pl, cellsB h.p.lp, (h.f g hg).f8.terms2 h.p.hx1⟩) h.p.hx ((List.length_map _).trans h.p.lp) (Nat.le_trans h.p.n16 (by decide))
    (by rw [cmp_T2 h.p.kok]; exact ord_lex (ord_sg _)) (by rw [cmp_T2 h.p.kok]; exact blk_lex (fun i j => by rw [sg_nat]) hd) hk hdu
noncomputable def fLaw (fa : Addr) (cd : Value) : Fn := ⟨Str.ofString "law", fS (sT 42), fa, cd, 301, 4, rfl, none⟩
noncomputable def KL : Flow → Loc → Led → Prop := fun fl _ _ => fl = .ret (.bool true)
noncomputable abbrev lawR (k : Nat) : List Stmt := (fB (sT 42)).drop k
variable {fa : Addr} {cd : Value}
theorem law18 (h : Sees c q ld) : wpS (fLaw fa cd) c 182 (lawR 18) KL ls ld := by
  have ⟨oS, mS, dS⟩ := h.cS
  have hO0 : Ord fun (_ _ : Nat) => cmpT (.atom 0) (.atom 0) := by
    have e : cmpT (.atom 0) (.atom 0) = 0 := cmpT_self _
    simp only [e]
    exact ⟨fun _ _ => rfl, fun _ _ _ _ _ => Int.le_refl _⟩
  refine ⟨_, oS, _, rfl, mS, dS, rfl, W.newTuple fun DA hA => W.newList fun LA hL => W.sort (y := q.toLP) (cs := [.ref DA]) (N := 1) (T := fun _ => .atom 0) (c' := fun _ => DA) (d := [0]) (fun g hg => ⟨(h.f g fun p hp => hg p (.tail _ (.tail _ hp))).so, ⟨_, hg _ (.head _), rfl, _, rfl⟩, ?_, ?_⟩) h.p.hx rfl (by decide) hO0 (Blk.single true 0) fun D e => ?_⟩
  · exact fun i hi => ⟨DA, by rw [Nat.lt_one_iff.mp hi]; rfl, fun _ => rfl, fun e => by cases e⟩
  · exact ⟨fun i hi => ⟨⟨⟨_, _, isTup_of (hg _ (.tail _ (.head _)))⟩, .inl rfl⟩, by decide⟩, fun i j hi hj => ⟨trivial, List.nodup_nil⟩⟩
  · exact W.newTuple fun DB hB => W.newList fun LB hL2 => W.eqOne (.inr ⟨_, .tail _ (.tail _ (.head _))⟩) (.inr ⟨_, .head _⟩) (.inr ⟨_, .tail _ (.tail _ (.tail _ (.tail _ (.head _))))⟩) (.inr ⟨_, .tail _ (.head _)⟩) rfl
structure PlL (ld : Led) (l : Addr) (N : Nat) (d : List Nat) : Prop where
  h : ∃ vs n, (l, listOf (List.toArray vs) n) ∈ ld ∧ IntsAre vs (d.map fun (i : Nat) => (i : Int)) ∧ vs.length ≤ 1000
  b : ∀ i ∈ d, i < N
theorem PlL.cons {p : Addr × Obj} {l : Addr} {N : Nat} {d : List Nat} (h : PlL ld l N d) : PlL (p :: ld) l N d := ⟨let ⟨vs, n, m, r⟩ := h.h; ⟨vs, n, .tail _ m, r⟩, h.b⟩
theorem law17 {FD : Addr} {fd : List Nat} (h : Sees c q ld) (hfd : PlL ld FD q.N fd) (hb : Blk true q.o1 0 q.N fd) : wpS (fLaw fa cd) c 183 (lawR 17) KL ((Str.ofString "first", .ref FD) :: ls) ld := by
  have ⟨oS, mS, dS⟩ := h.cS
  have ⟨oP, mP, dP⟩ := h.cP
  refine ⟨_, oS, _, rfl, mS, dS, rfl, _, oP, _, rfl, mP, dP, rfl, h.sortK hb fun D e => ?_⟩
  obtain ⟨⟨vs, n, mF, hI, hz⟩, hbd⟩ := hfd
  refine W.pick (cs := q.pd.map Value.ref) (B := q.PR) [(Str.ofString "pairs", c.L + 6)] rfl (by rfl) (by decide) rfl (by decide) rfl (fun _ _ _ _ _ _ h => h) (fun _ _ _ _ _ _ h => h) rfl (.tail _ mF) hz hI (fun g hg => (h.f g fun p hp => hg p (.tail _ hp)).pl) (.tail _ mP) rfl dP
    (by rw [List.length_map, h.p.lp]; exact hbd) (by rw [List.length_map, h.p.lp]; exact Nat.le_trans h.p.n16 (by decide)) fun D2 => ?_
  exact W.neSame (.inr ⟨_, .tail _ (.head _)⟩) (.inr ⟨_, .head _⟩) ⟨_, rfl, And.intro ft fun _ => law18 h.cons.cons⟩
end
end
end Mine
end
section
set_option Elab.async false
set_option maxRecDepth 100000
set_option maxHeartbeats 1000000
set_option linter.unusedVariables false
namespace Mine
noncomputable section
open PySem PySem.W PySem.Calls PyProof.Rows
section
variable {c : Cx} {q : LQ} {ls : Loc} {ld : Led} {fa : Addr} {cd : Value}
theorem law16 {FD DU : Addr} {fd d : List Nat} (h : Sees c q ld) (hfd : PlL ld FD q.N fd) (hb : Blk true q.o1 0 q.N fd) (hdu : PlL ld DU q.N d) (hb2 : Blk false q.o1 0 q.N d) : wpS (fLaw fa cd) c 184 (lawR 16) KL ((Str.ofString "first", .ref FD) :: (Str.ofString "due", .ref DU) :: ls) ld := by
  have ⟨oS, mS, dS⟩ := h.cS
  have ⟨oB, mB, dB⟩ := h.cB
  refine ⟨_, oS, _, rfl, mS, dS, rfl, _, oB, _, rfl, mB, dB, rfl, h.sortB hb2 fun D e => ?_⟩
  have ⟨⟨vs, n, mF, hI, hz⟩, hbd⟩ := hdu
  refine W.pick (cs := q.bs.map Value.ref) (B := q.BR) [(Str.ofString "bare", c.L + 5)] rfl (by rfl) (by decide) rfl (by decide) rfl (fun _ _ _ _ _ _ h => h) (fun _ _ _ _ _ _ h => h) rfl (.tail _ mF) hz hI (fun g hg => (h.f g fun p hp => hg p (.tail _ hp)).bl) (.tail _ mB) rfl dB
    (by rw [List.length_map, h.p.lb]; exact hbd) (by rw [List.length_map, h.p.lb]; exact Nat.le_trans h.p.n16 (by decide)) fun D2 => ?_
  exact W.neSame (.inr ⟨_, .tail _ (.head _)⟩) (.inr ⟨_, .head _⟩) ⟨_, rfl, And.intro ft fun _ => law17 h.cons.cons hfd.cons.cons hb⟩
theorem law15 {FD DU : Addr} {fd d : List Nat} (h : Sees c q ld) (hfd : PlL ld FD q.N fd) (hb : Blk true q.o1 0 q.N fd) (hdu : PlL ld DU q.N d) (hb2 : Blk false q.o1 0 q.N d) : wpS (fLaw fa cd) c 185 (lawR 15) KL ((Str.ofString "first", .ref FD) :: (Str.ofString "due", .ref DU) :: ls) ld := by
  have ⟨oS, mS, dS⟩ := h.cS
  have ⟨oB, mB, dB⟩ := h.cB
  refine ⟨_, oS, _, rfl, mS, dS, rfl, _, oB, _, rfl, mB, dB, rfl, h.sortB hb fun D e => ?_⟩
  have ⟨⟨vs, n, mF, hI, hz⟩, hbd⟩ := hfd
  refine W.pick (cs := q.bs.map Value.ref) (B := q.BR) [(Str.ofString "bare", c.L + 5)] rfl (by rfl) (by decide) rfl (by decide) rfl (fun _ _ _ _ _ _ h => h) (fun _ _ _ _ _ _ h => h) rfl (.tail _ mF) hz hI (fun g hg => (h.f g fun p hp => hg p (.tail _ hp)).bl) (.tail _ mB) rfl dB
    (by rw [List.length_map, h.p.lb]; exact hbd) (by rw [List.length_map, h.p.lb]; exact Nat.le_trans h.p.n16 (by decide)) fun D2 => ?_
  exact W.neSame (.inr ⟨_, .tail _ (.head _)⟩) (.inr ⟨_, .head _⟩) ⟨_, rfl, And.intro ft fun _ => law16 h.cons.cons hfd.cons.cons hb hdu.cons.cons hb2⟩
theorem first_at (W : Nat → Int) (a : Int) : ∀ q : Nat, W q = a → ∃ j, j ≤ q ∧ W j = a ∧ ∀ i, i < j → W i ≠ a := fun q => by
  induction q using Nat.strongRecOn with
  | ind q ih =>
    intro h
    by_cases h2 : ∃ i, i < q ∧ W i = a
    · obtain ⟨i, hi, e⟩ := h2
      obtain ⟨j, b1, b2, b3⟩ := ih i hi e
      exact ⟨j, by omega, b2, b3⟩
    · exact ⟨q, Nat.le_refl _, h, fun i hi e => h2 ⟨i, hi, e⟩⟩
theorem isFirst_eq {W : Nat → Int} {q j : Nat} (h1 : j ≤ q) (h2 : W j = W q) (h3 : ∀ i, i < j → W i ≠ W q) : isFirst W q = decide (j = q) := by
  unfold isFirst
  by_cases e : j = q
  · subst e
    rw [decide_eq_true (rfl : j = j), decide_eq_true_iff]
    exact h3
  · rw [decide_eq_false e, decide_eq_false_iff_not]
    intro h; exact h j (by omega) h2
theorem Sees.weq (h : Sees c q ld) (i j : Nat) : q.W i = q.W j ↔ (wOf (q.kx i)).1 = (wOf (q.kx j)).1 ∧ (wOf (q.kx i)).2 = (wOf (q.kx j)).2 := encK_eq (h.p.kok i) (h.p.kok j)
theorem Sees.wget (h : Sees c q ld) {i : Nat} (hi : i < q.N) : (q.ws.map Value.ref)[((i : Int)).toNat]? = some (.ref (q.ws.getD i 0)) := by rw [Int.toNat_natCast]; exact refs_get (by rw [h.p.lw]; exact hi)
theorem Sees.wls (h : Sees c q ld) : ListIs c ld q.WS (q.ws.map Value.ref) := .inr h.wm
theorem Sees.wtp (h : Sees c q ld) {i : Nat} (hi : i < q.N) : ∃ t1 t2, TupIs c ld (q.ws.getD i 0) [.int (wOf (q.kx i)).1 t1, .int (wOf (q.kx i)).2 t2] := let ⟨a, b, m⟩ := h.wt i hi; ⟨a, b, .inr ⟨_, m⟩⟩
theorem law14 {DU : Addr} {d : List Nat} (h : Sees c q ld) (hdu : PlL ld DU q.N d) (hb : Blk false q.o1 0 q.N d) : wpS (fLaw fa cd) c 186 (lawR 14) KL ((Str.ofString "due", .ref DU) :: ls) ld := by
  have ⟨⟨vs, n, mD, hI, hz⟩, hbd⟩ := hdu
  refine W.compT [(Str.ofString "weights", c.L + 4)] rfl (by with_unfolding_all rfl) (by rfl) (by decide) rfl (by decide) rfl rfl fun m => ?_
  refine wpE_name (n := 19) rfl ?_
  refine CompWT.list (σ := Unit) rfl (fun _ => ld) (fun i ys _ => IntsAre ys (((d.take i).filter (isFirst q.W)).map fun (i : Nat) => (i : Int)) ∧ ys.length ≤ i) () .refl ⟨.nil, Nat.le_refl _⟩ (fun _ => mD) hz ?turn ?done
  case turn =>
    rintro i ys _ v I C D oI oC hC hi hv ⟨hy, hyl⟩
    obtain ⟨_, t, rfl, hq⟩ := IntsAre.at hI i v hv
    rw [List.getElem?_map] at hq
    obtain ⟨p, hp, rfl⟩ := Option.map_eq_some_iff.mp hq
    have hpN := hbd p (List.mem_of_getElem? hp)
    have H := h.cons (p := (D, LCg.lst ys)) |>.cons (p := (C, oC)) |>.cons (p := (I, oI))
    have ⟨oW, mW, dW⟩ := H.cW
    obtain ⟨n2, mWS⟩ := H.wm
    obtain ⟨t1, t2, hp1⟩ := H.wtp hpN
    obtain ⟨j, hj1, hj2, hj3⟩ := first_at q.W (q.W p) p rfl
    have hjN : j < q.N := Nat.lt_of_le_of_lt hj1 hpN
    have hpi : (p : Int) < 2 ^ 63 := by have := h.p.n16; omega
    refine ⟨_, oW, _, rfl, mW, dW, .builtin "list.index", [.ref q.WS], Meth.index mWS, _, oW, _, rfl, mW, dW, .tail _ (.head _), W.ilist H.wls (Int.natCast_nonneg p) hpi (H.wget hpN) ?_⟩
    refine W.index (X := fun i => (wOf (q.kx i)).1) (Y := fun i => (wOf (q.kx i)).2) H.wls ((List.length_map _).trans h.p.lw) (Nat.le_trans h.p.n16 (by decide)) (fun i hi => let ⟨a, b, r⟩ := H.wtp hi; ⟨_, a, b, refs_get (by rw [h.p.lw]; exact hi), r⟩) hp1 hjN ((h.weq j p).mp hj2) (fun i hi e => hj3 i hi ((h.weq i p).mpr e)) fun t3 => ?_
    have hfirst := isFirst_eq (W := q.W) hj1 hj2 hj3
    have hstep : (d.take (i + 1)).filter (isFirst q.W) = (d.take i).filter (isFirst q.W) ++ (if isFirst q.W p = true then [p] else []) := by
      rw [List.take_succ, hp, List.filter_append]
      show _ ++ List.filter (isFirst q.W) [p] = _
      rw [List.filter_cons, List.filter_nil]
    refine ⟨.tail _ (.head _), And.intro (fun e => ?_) (fun e => ?_)⟩
    · refine ⟨.tail _ (.head _), (), .refl, ?_, ?_⟩
      · rw [hstep, hfirst, if_pos (decide_eq_true (by have := eq_of_beq e; omega)), List.map_append]
        exact hy.append (.cons _ _ .nil)
      · rw [List.length_append]; exact Nat.succ_le_succ hyl
    · refine ⟨(), .refl, ?_, Nat.le_succ_of_le hyl⟩
      rw [hstep, hfirst, if_neg (fun q => by rw [decide_eq_true_iff] at q; exact ne_of_beq_false e (by rw [q])), List.append_nil]
      exact hy
  case done =>
    rintro ys _ ⟨hy, hyl⟩ FD
    have e : d.take vs.length = d := List.take_of_length_le (by rw [hI.length, List.length_map]; exact Nat.le_refl _)
    rw [e] at hy
    exact law15 h.cons ⟨⟨ys, ys.length, .head _, hy, Nat.le_trans hyl hz⟩, fun i hi => hbd i (List.mem_filter.mp hi).1⟩ (first_blk (byW_sg2 q.W) hb) hdu.cons hb
theorem law13 {HE DU : Addr} {d : List Nat} (h : Sees c q ld) (hdu : PlL ld DU q.N d) (hb : Blk false q.o1 0 q.N d) (hh : ∃ e, (HE, listOf (q.pd.map Value.ref).toArray e) ∈ ld) : wpS (fLaw fa cd) c 187 (lawR 13) KL ((Str.ofString "held", .ref HE) :: (Str.ofString "due", .ref DU) :: ls) ld := by
  have ⟨oP, mP, dP⟩ := h.cP
  have ⟨oS, mS, dS⟩ := h.cS
  have ⟨⟨vs, n, mD, hI, hz⟩, hbd⟩ := hdu
  obtain ⟨eh, mH⟩ := hh
  have hlp : (q.pd.map Value.ref).length = q.N := by rw [List.length_map]; exact h.p.lp
  have hl1 : ∀ i ∈ d, i < (q.pd.map Value.ref).length := by rw [hlp]; exact hbd
  have hl2 : (q.pd.map Value.ref).length ≤ 1000 := by rw [hlp]; exact Nat.le_trans h.p.n16 (by decide)
  refine W.for (W.newList fun KS hKS => IterW.listU (n := 0) (.head _) ?_)
  refine fun v I o hv hof => ?_
  subst hv
  have H := h.cons (p := (KS, listOf [Value.bool true, .bool false].toArray 0)) |>.cons (p := (I, o))
  refine ⟨_, oS, _, rfl, .tail _ (.tail _ mS), dS, rfl, _, oP, _, rfl, .tail _ (.tail _ mP), dP, rfl, H.sortK hb fun D e => ?_⟩
  refine W.pick (cs := q.pd.map Value.ref) (B := q.PR) [(Str.ofString "pairs", c.L + 6)] rfl (by rfl) (by decide) rfl (by decide) rfl (fun _ _ _ _ _ _ h => h) (fun _ _ _ _ _ _ h => h) rfl (.tail _ (.tail _ (.tail _ mD))) hz hI (fun g hg => (H.f g fun p hp => hg p (.tail _ hp)).pl) (.tail _ (.tail _ (.tail _ mP))) rfl dP hl1 hl2 fun D2 => ?_
  refine W.neSame (.inr ⟨_, .tail _ (.head _)⟩) (.inr ⟨_, .head _⟩) ⟨_, rfl, And.intro ft fun _ => ⟨_, oP, _, rfl, .tail _ (.tail _ (.tail _ (.tail _ mP))), dP, rfl, W.neSame (.see fun g _ hg => (H.cons.cons.f g hg).pl) (.inr ⟨eh, .tail _ (.tail _ (.tail _ (.tail _ mH)))⟩) ⟨_, rfl, And.intro ft fun _ => ?_⟩⟩⟩
  refine ⟨[(Str.ofString "held", .ref HE), (Str.ofString "due", .ref DU)], (KS, listOf [Value.bool true, .bool false].toArray 0) :: ld, ⟨rfl, rfl, trivial⟩, .dr 2 rfl, .head _, ?_⟩
  refine fun v I o hv hof => ?_
  subst hv
  have H := h.cons (p := (KS, listOf [Value.bool true, .bool false].toArray 0)) |>.cons (p := (I, o))
  refine ⟨_, oS, _, rfl, .tail _ (.tail _ mS), dS, rfl, _, oP, _, rfl, .tail _ (.tail _ mP), dP, rfl, H.sortP hb fun D e => ?_⟩
  refine W.pick (cs := q.pd.map Value.ref) (B := q.PR) [(Str.ofString "pairs", c.L + 6)] rfl (by rfl) (by decide) rfl (by decide) rfl (fun _ _ _ _ _ _ h => h) (fun _ _ _ _ _ _ h => h) rfl (.tail _ (.tail _ (.tail _ mD))) hz hI (fun g hg => (H.f g fun p hp => hg p (.tail _ hp)).pl) (.tail _ (.tail _ (.tail _ mP))) rfl dP hl1 hl2 fun D2 => ?_
  refine W.neSame (.inr ⟨_, .tail _ (.head _)⟩) (.inr ⟨_, .head _⟩) ⟨_, rfl, And.intro ft fun _ => ⟨_, oP, _, rfl, .tail _ (.tail _ (.tail _ (.tail _ mP))), dP, rfl, W.neSame (.see fun g _ hg => (H.cons.cons.f g hg).pl) (.inr ⟨eh, .tail _ (.tail _ (.tail _ (.tail _ mH)))⟩) ⟨_, rfl, And.intro ft fun _ => ?_⟩⟩⟩
  exact ⟨[(Str.ofString "due", .ref DU)], (KS, listOf [Value.bool true, .bool false].toArray 0) :: ld, ⟨rfl, trivial⟩, .dr 2 rfl, .head _, law14 h.cons hdu.cons hb⟩
theorem law12 {DU : Addr} {d : List Nat} (h : Sees c q ld) (hdu : PlL ld DU q.N d) (hb : Blk false q.o1 0 q.N d) : wpS (fLaw fa cd) c 188 (lawR 12) KL ((Str.ofString "due", .ref DU) :: ls) ld := by
  have ⟨oP, mP, dP⟩ := h.cP
  exact ⟨_, oP, _, rfl, mP, dP, rfl, W.listCopy (.see fun g _ hg => (h.f g hg).pl) (by rw [List.length_map, h.p.lp]; exact Nat.le_trans h.p.n16 (by decide)) fun HE e => law13 h.cons hdu.cons hb ⟨e, .head _⟩⟩
structure DuSt where
  va : List Value
  e : Nat
  d : List Nat
structure DuP (N : Nat) (W : Nat → Int) (p : List Nat) (i : Nat) (c : DuSt) : Prop where
  a : IntsAre c.va (c.d.map fun (i : Nat) => (i : Int))
  d : c.d = ((p.take i).map W).foldl (dueStep N W) []
  l : c.d.length ≤ N * i
structure DvP (W : Nat → Int) (d0 : List Nat) (w : Int) (j : Nat) (c : DuSt) : Prop where
  a : IntsAre c.va (c.d.map fun (i : Nat) => (i : Int))
  d : c.d = d0 ++ (List.range j).filter fun q => decide (W q = w) && !d0.contains q
  l : c.d.length ≤ d0.length + j
theorem DvP.step {W : Nat → Int} {d0 : List Nat} {w : Int} {j : Nat} {y : DuSt} {t : Tok} (h : DvP W d0 w j y) : (decide (W j = w) && !y.d.contains j) = true ∧ DvP W d0 w (j + 1) ⟨y.va ++ [.int (j : Int) t], y.e + 1, y.d ++ [j]⟩ ∨ (decide (W j = w) && !y.d.contains j) = false ∧ DvP W d0 w (j + 1) y := by
  have hcont : y.d.contains j = d0.contains j := by
    rw [h.d]
    simp only [List.contains_eq_mem, List.mem_append, List.mem_filter, List.mem_range]
    simp
  have hstep : (List.range (j + 1)).filter (fun q' => decide (W q' = w) && !d0.contains q') = (List.range j).filter (fun q' => decide (W q' = w) && !d0.contains q') ++ (if (decide (W j = w) && !d0.contains j) = true then [j] else []) := by
    rw [List.range_succ, List.filter_append, List.filter_cons, List.filter_nil]
  rw [hcont]
  cases e : (decide (W j = w) && !d0.contains j) with
  | true =>
    rw [e, if_pos rfl] at hstep
    refine .inl ⟨rfl, ?_, ?_, ?_⟩
    · rw [List.map_append]; exact h.a.append (.cons _ _ .nil)
    · dsimp only; rw [hstep, h.d, List.append_assoc]
    · dsimp only; rw [List.length_append]; exact Nat.succ_le_succ h.l
  | false =>
    rw [e, if_neg (by decide), List.append_nil] at hstep
    exact .inr ⟨rfl, h.a, by rw [hstep]; exact h.d, Nat.le_succ_of_le h.l⟩
theorem law11 {DU : Addr} {e0 : Nat} (h : Sees c q ld) : wpS (fLaw fa cd) c 189 (lawR 11) KL ((Str.ofString "due", .ref DU) :: (Str.ofString "keys", .ref q.KS) :: ls) ((DU, listOf #[] e0) :: ld) := by
  have ⟨oW, mW, dW⟩ := h.cW
  have n16 := h.p.n16
  refine W.for ⟨_, oW, _, rfl, .tail _ mW, dW, rfl, W.sorted (n := q.N) (X := fun i => (wOf (q.kx i)).1) (Y := fun i => (wOf (q.kx i)).2) (W' := q.W) ((List.length_map _).trans h.p.lw) (Nat.le_trans n16 (by decide)) h.cons.wls
    (fun i hi => let ⟨t1, t2, m⟩ := h.wt i hi; ⟨_, t1, t2, refs_get (by rw [h.p.lw]; exact hi), .tail _ m⟩) (fun i j _ _ => encK_lt (h.p.kok i) (h.p.kok j)) fun SD cS pm hperm hpw => ?_⟩
  have hpl : pm.length = q.N := by rw [hperm.length_eq, List.length_range]
  refine IterW.list (σ := DuSt) (vs := pm.map fun i => (q.ws.map Value.ref).getD i Value.none) (fun _ => [(Str.ofString "due", .ref DU), (Str.ofString "keys", .ref q.KS)]) (fun y => (DU, listOf y.va.toArray y.e) :: (SD, listOf (List.toArray (pm.map fun i => (q.ws.map Value.ref).getD i Value.none)) cS) :: ld) (DuP q.N q.W pm) ⟨[], e0, []⟩
    (.inr ⟨_, .tail _ (.head _)⟩) (.inr ⟨_, fun _ => .tail _ (.head _)⟩) ⟨rfl, rfl, trivial⟩ (.mi 1 rfl) ⟨.nil, rfl, Nat.zero_le _⟩ ?turn ?done
  case turn =>
    rintro i ⟨va, eD, d⟩ v I oI hi hv ⟨z1, z2, z3⟩ hof
    dsimp only at z1 z2 z3
    rw [List.length_map, hpl] at hi
    obtain ⟨p, hp⟩ : ∃ p, pm[i]? = some p := ⟨_, List.getElem?_eq_getElem (by omega)⟩
    have hpN : p < q.N := List.mem_range.mp (hperm.mem_iff.mp (List.mem_of_getElem? hp))
    have hv2 : v = .ref (q.ws.getD p 0) := by
      rw [List.getElem?_map, hp] at hv
      rw [← Option.some.inj hv]
      show (q.ws.map Value.ref).getD p Value.none = _
      rw [List.getD_eq_getElem?_getD, refs_get (by rw [h.p.lw]; exact hpN)]; rfl
    subst hv2
    have hlk : ((q.as.map Value.ref).length : Int) < 2 ^ 63 := by rw [List.length_map, h.p.la]; omega
    have hzN : d.length ≤ 16 * 16 := Nat.le_trans z3 (Nat.mul_le_mul n16 (by omega))
    refine W.for (W.len (vs := q.as.map Value.ref) (.see fun g _ hg => (h.f g fun r hr => hg r (.tail _ (.tail _ (.tail _ hr)))).kl) hlk fun t1 => W.range1 fun R r1 r2 r3 hR => ?_)
    rw [List.length_map, h.p.la] at *
    refine IterW.rangeN (σ := DuSt) (n := q.N) (fun _ => [(Str.ofString "weight", .ref (q.ws.getD p 0)), (Str.ofString "due", .ref DU), (Str.ofString "keys", .ref q.KS)]) (fun y => (I, oI) :: (DU, listOf y.va.toArray y.e) :: (SD, listOf (List.toArray (pm.map fun i => (q.ws.map Value.ref).getD i Value.none)) cS) :: ld) (DvP q.W d (q.W p)) ⟨va, eD, d⟩
      (.head _) (range_small (by omega) (by omega) (.inl rfl)) (rangeSize_one q.N) ⟨rfl, rfl, rfl, trivial⟩ (.dr 1 rfl) ⟨z1, by simp, Nat.le_refl _⟩ ?turn2 ?done2
    case turn2 =>
      rintro j y t J oJ hj hy hofJ
      have H : ∀ o, Sees c q ((J, oJ) :: (I, oI) :: (DU, o) :: (SD, listOf (List.toArray (pm.map fun i => (q.ws.map Value.ref).getD i Value.none)) cS) :: ld) := fun o => h.cons.cons.cons.cons
      have ⟨oW, mW, dW⟩ := (H (listOf y.va.toArray y.e)).cW
      obtain ⟨t3, t4, hj1⟩ := (H (listOf y.va.toArray y.e)).wtp hj
      obtain ⟨t5, t6, hp1⟩ := (H (listOf y.va.toArray y.e)).wtp hpN
      have hd : decide ((wOf (q.kx j)).1 = (wOf (q.kx p)).1 ∧ (wOf (q.kx j)).2 = (wOf (q.kx p)).2) = decide (q.W j = q.W p) := decide_eq_decide.mpr (h.weq j p).symm
      have hva : y.va.length ≤ 1000000 := by
        have e1 := hy.a.length
        have e2 := hy.l
        rw [List.length_map] at e1
        omega
      refine ⟨_, oW, _, rfl, mW, dW, rfl, W.ilist (H _).wls (Int.natCast_nonneg j) (by omega) ((H (listOf y.va.toArray y.e)).wget hj) (W.eqTup hj1 hp1 ⟨_, rfl, ?_⟩)⟩
      rw [hd]
      refine And.intro (fun e1 => W.notin (ds := y.d) (.inr ⟨_, .tail _ (.tail _ (.head _))⟩) hy.a ⟨_, rfl, And.intro (fun e2 => ?_) (fun e2 => ?_)⟩) (fun e1 => And.intro ft fun _ => ?_)
      · rcases hy.step (t := t) with ⟨_, h2⟩ | ⟨h1, _⟩
        · exact Exists.intro (.builtin "list.append") (Exists.intro [.ref DU] (And.intro (Meth.append 2 rfl) (W.append 2 rfl hva ⟨⟨_, _, _⟩, ⟨rfl, rfl, rfl, trivial⟩, .refl, h2⟩)))
        · rw [e1, e2] at h1; cases h1
      · rcases hy.step (t := t) with ⟨h1, _⟩ | ⟨_, h2⟩
        · rw [e1, e2] at h1; cases h1
        · exact ⟨y, ⟨rfl, rfl, rfl, trivial⟩, .refl, h2⟩
      · rcases hy.step (t := t) with ⟨h1, _⟩ | ⟨_, h2⟩
        · rw [e1] at h1; cases h1
        · exact ⟨y, ⟨rfl, rfl, rfl, trivial⟩, .refl, h2⟩
    case done2 =>
      rintro y hy
      refine ⟨y, ⟨rfl, rfl, trivial⟩, .refl, hy.a, ?_, ?_⟩
      · rw [List.take_add_one, hp, List.map_append, List.foldl_append, ← z2]
        exact hy.d
      · have := hy.l
        rw [Nat.mul_add]; omega
  case done =>
    rintro y ⟨z1, z2, z3⟩
    rw [List.length_map, hpl] at z2 z3
    rw [show pm.take q.N = pm by rw [← hpl]; exact List.take_length] at z2
    have hdue : Blk false q.o1 0 q.N y.d := by
      rw [z2]
      exact due_blk (byW_sg2 q.W) hpw fun i hi => List.mem_map_of_mem (hperm.mem_iff.mpr (List.mem_range.mpr hi))
    refine law12 h.cons.cons ⟨⟨y.va, y.e, .head _, z1, ?_⟩, fun i hi => ((hdue.mem i).mp hi).2.1⟩ hdue
    rw [z1.length, List.length_map]
    exact Nat.le_trans z3 (Nat.le_trans (Nat.mul_le_mul n16 n16) (by decide))
theorem law10 (h : Sees c q ld) : wpS (fLaw fa cd) c 190 (lawR 10) KL ((Str.ofString "keys", .ref q.KS) :: ls) ld := W.newList fun DU hDU => law11 h
end
end
end Mine
end
section
set_option Elab.async false
set_option maxRecDepth 100000
set_option maxHeartbeats 1000000
set_option linter.unusedVariables false
namespace Mine
noncomputable section
open PySem PySem.W PySem.Calls PyProof.Rows
noncomputable abbrev InG (g : Heap) (ld : Led) : Prop := ∀ p ∈ ld, g.get? p.1 = some p.2
theorem InG.right {g : Heap} {a b : Led} (h : InG g (a ++ b)) : InG g b := fun p hp => h p (List.mem_append_right _ hp)
theorem InG.left {g : Heap} {a b : Led} (h : InG g (a ++ b)) : InG g a := fun p hp => h p (List.mem_append_left _ hp)
theorem CellAt.app {ld l : Led} {a : Addr} {v : Value} : CellAt ld a v → CellAt (l ++ ld) a v := fun ⟨o, h1, h2⟩ => ⟨o, List.mem_append_right _ h1, h2⟩
noncomputable abbrev LP.led (w : World) (y : LP) (xs : List Value) (e : Nat) : Led := stL w.params y.ST y.DS y.HL y.SY y.SK y.TR y.ks y.n3 xs e
structure S9 (c : Cx) (q : LQ) (ld : Led) : Prop where
  hx : q.xs.length ≤ 35
  hx1 : q.x1 = q.xs.length
  la : q.as.length = q.N
  lw : q.ws.length = q.N
  lb : q.bs.length = q.N
  n16 : q.N ≤ 16
  kok : ∀ i, KeyOk (q.kx i)
  cS : CellAt ld (c.L + 2) (.ref q.ST)
  cW : CellAt ld (c.L + 4) (.ref q.WS)
  cB : CellAt ld (c.L + 5) (.ref q.BR)
  cP : CellAt ld (c.L + 6) (.ref q.PR)
  sy : ∀ g, InG g ld → SyG c.w g q.SY q.txs q.fns q.DY q.TX q.AN q.FS q.FN q.ky q.n2 ∧ SyOk g q.txs q.fns
  km : ∃ n, (q.KS, listOf (q.as.map Value.ref).toArray n) ∈ ld
  wm : ∃ n, (q.WS, listOf (q.ws.map Value.ref).toArray n) ∈ ld
  bm : ∃ n, (q.BR, listOf (q.bs.map Value.ref).toArray n) ∈ ld
  wt : ∀ i, i < q.N → ∃ t1 t2, (q.ws.getD i 0, tupA [.int (wOf (q.kx i)).1 t1, .int (wOf (q.kx i)).2 t2]) ∈ ld
  b : ∀ g, InG g ld → ∀ i, i < q.N → ∀ zs, At g (q.xs ++ zs) (T1 q.kx q.ps i) (q.bs.getD i 0)
  bp : ∀ i, i < q.N → (∃ j, q.kx i = .l j) → q.ps.getD i 0 + 2 ≤ q.xs.length
structure PrS where
  ex : List Value
  e : Nat
  fr : Led
  pd : List Addr
  qs : List Nat
  ep : Nat
structure PrP (q : LQ) (ld : Led) (i : Nat) (y : PrS) : Prop where
  lp : y.pd.length = i
  lq : y.qs.length = i
  lx : y.ex.length ≤ 3 * i
  x : ∀ j, j < i → (q.xs ++ y.ex)[y.qs.getD j 0 + 1]? = some (.ref (q.bs.getD j 0)) ∧ q.xs.length ≤ y.qs.getD j 0 ∧ y.qs.getD j 0 < (q.xs ++ y.ex).length
  t : ∀ g, InG g (y.fr ++ ld) → ∀ j, j < i → ∀ zs, At g (q.xs ++ y.ex ++ zs) (T2 q.kx q.ps y.qs j) (y.pd.getD j 0)
theorem getD_snoc {α : Type} {l : List α} {x d : α} {j i : Nat} (hl : l.length = i) : j < i + 1 → (j < i ∧ (l ++ [x]).getD j d = l.getD j d) ∨ (j = i ∧ (l ++ [x]).getD j d = x) := fun h => by
  rw [List.getD_eq_getElem?_getD, List.getD_eq_getElem?_getD]
  by_cases hj : j < i
  · exact .inl ⟨hj, by rw [List.getElem?_append_left (by omega)]⟩
  · have : j = i := by omega
    subst this
    exact .inr ⟨rfl, by rw [List.getElem?_append_right (by omega), ← hl, Nat.sub_self]; rfl⟩
section
variable {c : Cx} {q : LQ} {ls : Loc} {ld : Led} {fa : Addr} {cd : Value}
theorem S9.fin (h : S9 c q ld) {y : PrS} (hy : PrP q ld q.N y) : Sees c { q with xs := q.xs ++ y.ex, pd := y.pd, qs := y.qs } ((q.PR, listOf (y.pd.map Value.ref).toArray y.ep) :: (q.led c.w (q.xs ++ y.ex) y.e ++ (y.fr ++ ld))) where
  p := ⟨by have := h.hx; have := hy.lx; have := h.n16; rw [List.length_append]; omega, by rw [h.hx1, List.length_append]; exact Nat.le_add_right _ _, h.la, h.lw, h.lb, hy.lp, h.n16, h.kok⟩
  cS := h.cS.app.app.cons
  cW := h.cW.app.app.cons
  cB := h.cB.app.app.cons
  cP := h.cP.app.app.cons
  wm := let ⟨n, m⟩ := h.wm; ⟨n, .tail _ (List.mem_append_right _ (List.mem_append_right _ m))⟩
  wt := fun i hi => let ⟨t1, t2, m⟩ := h.wt i hi; ⟨t1, t2, .tail _ (List.mem_append_right _ (List.mem_append_right _ m))⟩
  f := fun g hg => by
    have h1 : InG g (y.fr ++ ld) := fun p hp => hg p (.tail _ (List.mem_append_right _ hp))
    have h0 := h1.right
    have lst : ∀ {a : Addr} {l : List Value}, (∃ n, (a, listOf l.toArray n) ∈ ld) → g.IsList a l.toArray := fun ⟨n, m⟩ => isList_of (h0 _ m)
    refine ⟨⟨⟨hg _ (.tail _ (.head _)), hg _ (.tail _ (.tail _ (.head _))), isList_of (hg _ (.tail _ (.tail _ (.tail _ (.head _)))))⟩, (h.sy g h0).1, (h.sy g h0).2⟩, lst h.km, lst h.wm, lst h.bm, isList_of (hg _ (.head _)), ⟨fun i hi => h.b g h0 i hi _, fun i hi hj => ?_, fun i hi => ?_, fun i hi => ?_⟩⟩
    · rw [h.hx1]; exact h.bp i hi hj
    · have := hy.t g h1 i hi []
      rw [List.append_nil] at this
      exact this
    · obtain ⟨a1, a2, a3⟩ := hy.x i hi
      exact ⟨a1, by rw [h.hx1]; exact a2, a3⟩
theorem PrP.step (h : S9 c q ld) {i : Nat} {y : PrS} (hi : i < q.N) (hy : PrP q ld i y) {M cf IC : Addr} {a b a1 b1 t3 t4 : Tok} {e ep : Nat} : PrP q ld (i + 1) ⟨y.ex ++ [.ref cf, .ref (q.bs.getD i 0), .ref IC], e, (M, tupA [.int 2 a, .int ((q.xs ++ y.ex).length : Nat) b]) :: (cf, tupA [.int 6 a1, .int 13 b1]) :: (IC, tupA [.int 5 t3, .int (i : Int) t4]) :: y.fr, y.pd ++ [M], y.qs ++ [(q.xs ++ y.ex).length], ep⟩ where
  lp := by rw [List.length_append, hy.lp]; rfl
  lq := by rw [List.length_append, hy.lq]; rfl
  lx := by have := hy.lx; rw [List.length_append]; show y.ex.length + 3 ≤ _; omega
  x := fun j hj => by
    have hxe : q.xs ++ (y.ex ++ [Value.ref cf, .ref (q.bs.getD i 0), .ref IC]) = (q.xs ++ y.ex) ++ [Value.ref cf, .ref (q.bs.getD i 0), .ref IC] := (List.append_assoc _ _ _).symm
    dsimp only
    rw [hxe]
    rcases getD_snoc (x := (q.xs ++ y.ex).length) (d := 0) hy.lq hj with ⟨h1, e⟩ | ⟨h1, e⟩
    · rw [e]
      obtain ⟨a1, a2, a3⟩ := hy.x j h1
      exact ⟨getApp a1, a2, by rw [List.length_append]; exact Nat.lt_of_lt_of_le a3 (Nat.le_add_right _ _)⟩
    · subst h1
      rw [e]
      exact ⟨by rw [List.getElem?_append_right (by omega), Nat.add_sub_cancel_left]; rfl, by rw [List.length_append]; exact Nat.le_add_right _ _, by simp only [List.length_append, List.length_cons]; omega⟩
  t := fun g hg j hj zs => by
    have hg2 : InG g (y.fr ++ ld) := fun p hp => hg p (.tail _ (.tail _ (.tail _ hp)))
    have hxe : q.xs ++ (y.ex ++ [Value.ref cf, .ref (q.bs.getD i 0), .ref IC]) ++ zs = (q.xs ++ y.ex) ++ ([Value.ref cf, .ref (q.bs.getD i 0), .ref IC] ++ zs) := by simp only [List.append_assoc]
    dsimp only
    rw [hxe]
    rcases getD_snoc (x := (q.xs ++ y.ex).length) (d := 0) hy.lq hj with ⟨h1, e⟩ | ⟨h1, e⟩
    · rcases getD_snoc (x := M) (d := 0) hy.lp hj with ⟨_, e2⟩ | ⟨h2, _⟩
      · have := hy.t g hg2 j h1 ([Value.ref cf, .ref (q.bs.getD i 0), .ref IC] ++ zs)
        unfold T2 at this ⊢
        rw [e, e2]; exact this
      · omega
    · rcases getD_snoc (x := M) (d := 0) hy.lp hj with ⟨h2, _⟩ | ⟨_, e2⟩
      · omega
      · subst h1
        have hlen : (q.xs ++ y.ex).length < 2 ^ 62 := by have := h.hx; have := hy.lx; have := h.n16; rw [List.length_append]; omega
        unfold T2
        rw [e, e2]
        refine ⟨⟨a, b, isTup_of (hg _ (.head _))⟩, hlen, cf, q.bs.getD j 0, IC, ?_, ⟨a1, b1, isTup_of (hg _ (.tail _ (.head _)))⟩, ?_, ?_, ?_, ⟨t3, t4, isTup_of (hg _ (.tail _ (.tail _ (.head _))))⟩⟩
        · rw [List.getElem?_append_right (Nat.le_refl _), Nat.sub_self]; rfl
        · rw [List.getElem?_append_right (by omega), Nat.add_sub_cancel_left]; rfl
        · rw [List.getElem?_append_right (by omega), Nat.add_sub_cancel_left]; rfl
        · rw [List.append_assoc]; exact h.b g hg2.right j hi _
theorem law9 {e e0 : Nat} (h : S9 c q ld) : wpS (fLaw fa cd) c 191 (lawR 9) KL ((Str.ofString "keys", .ref q.KS) :: ls) ((q.PR, listOf #[] e0) :: (q.led c.w q.xs e ++ ld)) := by
  have ⟨oB, mB, dB⟩ := h.cB
  have ⟨oS, mS, dS⟩ := h.cS
  have ⟨oP, mP, dP⟩ := h.cP
  have n16 := h.n16
  have hx := h.hx
  obtain ⟨nb, mBR⟩ := h.bm
  have hlb : (q.bs.map Value.ref).length = q.N := (List.length_map _).trans h.lb
  refine W.for ⟨_, oB, _, rfl, .tail _ (List.mem_append_right _ mB), dB, rfl, W.len (vs := q.bs.map Value.ref) (.inr ⟨nb, .tail _ (List.mem_append_right _ mBR)⟩) (by rw [hlb]; omega) fun t1 => W.range1 fun R r1 r2 r3 hR => ?_⟩
  rw [hlb]
  refine IterW.rangeN (σ := PrS) (n := q.N) (fun _ => [(Str.ofString "keys", .ref q.KS)]) (fun y => (q.PR, listOf (y.pd.map Value.ref).toArray y.ep) :: (q.led c.w (q.xs ++ y.ex) y.e ++ (y.fr ++ ld))) (PrP q ld) ⟨[], e, [], [], [], e0⟩ (.head _) (range_small (by omega) (by omega) (.inl rfl)) (rangeSize_one q.N) ⟨rfl, trivial⟩
    (.dr 1 (by show _ = (q.PR, listOf #[] e0) :: (q.led c.w (q.xs ++ []) e ++ ([] ++ ld)); rw [List.append_nil]; rfl)) ⟨rfl, rfl, Nat.zero_le _, fun j hj => absurd hj (Nat.not_lt_zero j), fun _ _ j hj => absurd hj (Nat.not_lt_zero j)⟩ ?turn ?done
  case turn =>
    rintro i y t I o hi hy hof
    have lift : ∀ {p : Addr × Obj}, p ∈ ld → p ∈ ((I, o) :: (q.PR, listOf (y.pd.map Value.ref).toArray y.ep) :: (q.led c.w (q.xs ++ y.ex) y.e ++ (y.fr ++ ld))) := fun hp => .tail _ (.tail _ (List.mem_append_right _ (List.mem_append_right _ hp)))
    have hlen : (q.xs ++ y.ex).length ≤ 1000 := by have := hy.lx; rw [List.length_append]; omega
    have hpd : (y.pd.map Value.ref).length ≤ 1000000 := by have := hy.lp; rw [List.length_map]; omega
    refine ⟨_, oP, _, rfl, lift mP, dP, rfl, .builtin "list.append", [.ref q.PR], Meth.append 1 rfl, _, oS, _, rfl, lift mS, dS, rfl, .ref 341, [.ref q.ST], Meth.ins (insSt [(I, o), (q.PR, listOf (y.pd.map Value.ref).toArray y.ep)]) rfl rfl, _, oB, _, rfl, lift mB, dB, rfl, ?_⟩
    refine W.ilist (l := q.bs.map Value.ref) (v := .ref (q.bs.getD i 0)) (.inr ⟨nb, lift mBR⟩) (Int.natCast_nonneg i) (by omega) (by rw [Int.toNat_natCast]; exact refs_get (by rw [h.lb]; exact hi)) (W.newTuple fun IC hIC => W.newList fun CS hCS => ?_)
    refine W.callS (struct_spec2 _ q.ST q.HL q.DS q.SY q.SK q.TR (q.bs.getD i 0) IC CS q.DY q.TX q.AN q.FS q.FN (q.xs ++ y.ex) q.txs q.fns q.ks q.ky q.n3 q.n2 y.e (T1 q.kx q.ps i) i _ 425 t)
      ([(CS, listOf [Value.ref (q.bs.getD i 0), .ref IC].toArray 0), (IC, tupA [.int 5 425, .int (i : Int) t]), (I, o), (q.PR, listOf (y.pd.map Value.ref).toArray y.ep)] ++ (y.fr ++ ld)) (.perm (List.perm_append_comm_assoc _ _ _)) (fun g sg hg => ?_) fun v need' hp => ?_
    · have h0 : InG g ld := fun p hp => hg p (List.mem_append_right _ (List.mem_append_right _ hp))
      exact ⟨hlen, (h.sy g h0).1, (h.sy g h0).2, isList_of (hg _ (.head _)), h.b g h0 i hi y.ex, isTup_of (hg _ (.tail _ (.head _)))⟩
    · obtain ⟨M, cf, a, b, a1, b1, e', rfl, rfl⟩ := hp
      refine W.append (vs := y.pd.map Value.ref) 8 rfl hpd ?_
      refine ⟨_, ⟨rfl, trivial⟩, ?_, PrP.step h hi hy (M := M) (cf := cf) (IC := IC) (a := a) (b := b) (a1 := a1) (b1 := b1) (t3 := 425) (t4 := t) (e := e') (ep := y.ep + 1)⟩
      show Sub2 ((I, o) :: (q.PR, listOf ((y.pd ++ [M]).map Value.ref).toArray (y.ep + 1)) :: (q.led c.w (q.xs ++ (y.ex ++ [.ref cf, .ref (q.bs.getD i 0), .ref IC])) e' ++ ((M, tupA [.int 2 a, .int ((q.xs ++ y.ex).length : Nat) b]) :: (cf, tupA [.int 6 a1, .int 13 b1]) :: (IC, tupA [.int 5 425, .int (i : Int) t]) :: y.fr ++ ld))) _
      rw [List.map_append, ← List.append_assoc q.xs]
      refine Sub2.trans (.perm (List.perm_append_comm_assoc [_, _] [_, _, _, _, _, _] _)) (Sub2.trans (.perm (List.perm_append_comm_assoc [_, _, _] [_, _] _)) (.of ?_))
      exact .cons_cons _ (.cons_cons _ (.cons_cons _ (.cons_cons _ (.cons_cons _ (.cons _ (.refl _))))))
  case done => exact fun y hy => law10 (q := { q with xs := q.xs ++ y.ex, pd := y.pd, qs := y.qs }) (h.fin hy)
end
end
end Mine
end
section
set_option Elab.async false
set_option maxRecDepth 100000
set_option maxHeartbeats 1000000
set_option linter.unusedVariables false
namespace Mine
noncomputable section
open PySem PySem.W PySem.Calls PyProof.Rows
structure S6 (c : Cx) (q : LQ) (TB v0 v1 v2 : Addr) (od : Obj) (ld : Led) : Prop where
  hx : q.xs.length = 3
  la : q.as.length = q.N
  n16 : q.N ≤ 16
  kok : ∀ i, KeyOk (q.kx i)
  cS : CellAt ld (c.L + 2) (.ref q.ST)
  cK : CellAt ld (c.L + 3) (.ref TB)
  sy : ∀ g, InG g ld → SyG c.w g q.SY q.txs q.fns q.DY q.TX q.AN q.FS q.FN q.ky q.n2 ∧ SyOk g q.txs q.fns
  km : ∃ n, (q.KS, listOf (q.as.map Value.ref).toArray n) ∈ ld
  ka : ∀ g, InG g ld → ∀ i, i < q.N → KeyAt g (q.kx i) (q.as.getD i 0)
  v3 : ∀ g, InG g ld → V3 g q.xs v0 v1 v2
  lo : (TB == sysModules) = false
  od : DictI c od (kn3 v0 v1 v2)
structure S7 (c : Cx) (q : LQ) (TB v0 v1 v2 : Addr) (od : Obj) (ld : Led) : Prop extends S6 c q TB v0 v1 v2 od ld where
  lw : q.ws.length = q.N
  cW : CellAt ld (c.L + 4) (.ref q.WS)
  wm : ∃ n, (q.WS, listOf (q.ws.map Value.ref).toArray n) ∈ ld
  wt : ∀ i, i < q.N → ∃ t1 t2, (q.ws.getD i 0, tupA [.int (wOf (q.kx i)).1 t1, .int (wOf (q.kx i)).2 t2]) ∈ ld
theorem Sub2.mv {A X M f fr R : Led} : Sub2 (A ++ (X ++ (M ++ ((f ++ fr) ++ R)))) ((f ++ X) ++ (A ++ (M ++ (fr ++ R)))) := by
  refine .perm ?_
  have e1 : A ++ (X ++ (M ++ ((f ++ fr) ++ R))) = A ++ (X ++ (M ++ (f ++ (fr ++ R)))) := by rw [List.append_assoc f]
  have e2 : (f ++ X) ++ (A ++ (M ++ (fr ++ R))) = f ++ (X ++ (A ++ (M ++ (fr ++ R)))) := List.append_assoc _ _ _
  rw [e1, e2]
  refine (List.perm_append_comm_assoc A X _).trans ?_
  have e3 : ∀ Z : Led, X ++ (A ++ (M ++ Z)) = (X ++ (A ++ M)) ++ Z := fun Z => by simp only [List.append_assoc]
  rw [e3, e3]
  exact List.perm_append_comm_assoc _ _ _
section
variable {c : Cx} {q : LQ} {ls : Loc} {ld ld' : Led} {fa : Addr} {cd : Value} {TB v0 v1 v2 : Addr} {od oW oB oP : Obj}
theorem law8 {e : Nat} (dP : oP.data = .cell none) (hs : Sub2 (q.led c.w q.xs e ++ ((c.L + 6, oP) :: ld)) ld') (h : ∀ PR o', o'.data = .cell (some (.ref PR)) → S9 c { q with PR := PR } ((c.L + 6, o') :: ld)) : wpS (fLaw fa cd) c 192 (lawR 8) KL ((Str.ofString "keys", .ref q.KS) :: ls) ld' :=
  W.weaken (ls' := [(Str.ofString "keys", .ref q.KS)]) ⟨rfl, trivial⟩ hs (W.newList fun PR hPR => ⟨4, _, oP, none, rfl, rfl, dP, fun o' h' => law9 (q := { q with PR := PR }) (h PR o' h')⟩)
structure BrS where
  ex : List Value
  e : Nat
  fr : Led
  bs : List Addr
  ps : List Nat
structure BrP (q : LQ) (ld : Led) (i : Nat) (ys : List Value) (y : BrS) : Prop where
  ey : ys = y.bs.map Value.ref
  lb : y.bs.length = i
  lp : y.ps.length = i
  lx : y.ex.length ≤ 2 * i
  t : ∀ g, InG g (y.fr ++ ld) → ∀ j, j < i → ∀ zs, At g (q.xs ++ y.ex ++ zs) (T1 q.kx y.ps j) (y.bs.getD j 0)
  p : ∀ j, j < i → (∃ r, q.kx j = .l r) → y.ps.getD j 0 + 2 ≤ (q.xs ++ y.ex).length
theorem V3.more {g : Heap} {xs : List Value} {v0 v1 v2 : Addr} (x : V3 g xs v0 v1 v2) (ys : List Value) : V3 g (xs ++ ys) v0 v1 v2 := ⟨getApp x.x0, getApp x.x1, getApp x.x2, x.a0, x.a1, x.a2⟩
theorem BrP.step (h : S7 c q TB v0 v1 v2 od ld) {i : Nat} {ys zs : List Value} {y : BrS} (hi : i < q.N) (hy : BrP q ld i ys y) {b : Addr} {fr : Led} {e : Nat} (hz : zs.length ≤ 2) (hl : (∃ j, q.kx i = .l j) → zs.length = 2)
    (hat : ∀ g ws, InG g fr → V3 g (q.xs ++ y.ex) v0 v1 v2 → At g (q.xs ++ y.ex ++ zs ++ ws) (keyTm (q.kx i) (q.xs ++ y.ex).length) b) : BrP q ld (i + 1) (ys ++ [.ref b]) ⟨y.ex ++ zs, e, fr ++ y.fr, y.bs ++ [b], y.ps ++ [(q.xs ++ y.ex).length]⟩ where
  ey := by rw [hy.ey, List.map_append]; rfl
  lb := by rw [List.length_append, hy.lb]; rfl
  lp := by rw [List.length_append, hy.lp]; rfl
  lx := by have := hy.lx; rw [List.length_append]; omega
  t := fun g hg j hj ws => by
    have e1 : q.xs ++ (y.ex ++ zs) ++ ws = q.xs ++ y.ex ++ (zs ++ ws) := by simp only [List.append_assoc]
    have hg2 : InG g (y.fr ++ ld) := by rw [List.append_assoc] at hg; exact hg.right
    dsimp only
    unfold T1
    rcases getD_snoc (x := (q.xs ++ y.ex).length) (d := 0) hy.lp hj with ⟨h1, e⟩ | ⟨h1, e⟩
    · rcases getD_snoc (x := b) (d := 0) hy.lb hj with ⟨_, e2⟩ | ⟨h2, _⟩
      · rw [e1, e, e2]; exact hy.t g hg2 j h1 (zs ++ ws)
      · omega
    · rcases getD_snoc (x := b) (d := 0) hy.lb hj with ⟨h2, _⟩ | ⟨_, e2⟩
      · omega
      · subst h1
        rw [e, e2, e1, ← List.append_assoc]
        exact hat g ws (by rw [List.append_assoc] at hg; exact hg.left) ((h.v3 g hg2.right).more _)
  p := fun j hj hq => by
    dsimp only
    rcases getD_snoc (x := (q.xs ++ y.ex).length) (d := 0) hy.lp hj with ⟨h1, e⟩ | ⟨h1, e⟩
    · rw [e]
      have := hy.p j h1 hq
      rw [List.length_append] at this ⊢
      rw [List.length_append]; omega
    · subst h1
      rw [e]
      have := hl hq
      rw [List.length_append, List.length_append, List.length_append]; omega
theorem S7.fin (h : S7 c q TB v0 v1 v2 od ld) {ys : List Value} {y : BrS} (hy : BrP q ld q.N ys y) {BR PR : Addr} {n : Nat} {oB oP : Obj} (dB : oB.data = .cell (some (.ref BR))) (dP : oP.data = .cell (some (.ref PR))) :
    S9 c { q with xs := q.xs ++ y.ex, x1 := (q.xs ++ y.ex).length, BR := BR, bs := y.bs, ps := y.ps, PR := PR } ((c.L + 6, oP) :: (BR, listOf ys.toArray n) :: (TB, od) :: (c.L + 5, oB) :: (y.fr ++ ld)) where
  hx := by have := h.hx; have := hy.lx; have := h.n16; rw [List.length_append]; omega
  hx1 := rfl
  la := h.la
  lw := h.lw
  lb := hy.lb
  n16 := h.n16
  kok := h.kok
  cS := h.cS.app.cons.cons.cons.cons
  cW := h.cW.app.cons.cons.cons.cons
  cB := ⟨_, .tail _ (.tail _ (.tail _ (.head _))), dB⟩
  cP := ⟨_, .head _, dP⟩
  sy := fun g hg => h.sy g fun p hp => hg p (.tail _ (.tail _ (.tail _ (.tail _ (List.mem_append_right _ hp)))))
  km := let ⟨n, m⟩ := h.km; ⟨n, .tail _ (.tail _ (.tail _ (.tail _ (List.mem_append_right _ m))))⟩
  wm := let ⟨n, m⟩ := h.wm; ⟨n, .tail _ (.tail _ (.tail _ (.tail _ (List.mem_append_right _ m))))⟩
  bm := ⟨n, by rw [← hy.ey]; exact .tail _ (.head _)⟩
  wt := fun i hi => let ⟨t1, t2, m⟩ := h.wt i hi; ⟨t1, t2, .tail _ (.tail _ (.tail _ (.tail _ (List.mem_append_right _ m))))⟩
  b := fun g hg => hy.t g fun p hp => hg p (.tail _ (.tail _ (.tail _ (.tail _ hp))))
  bp := hy.p
theorem law7 {e : Nat} (h : S7 c q TB v0 v1 v2 od ld) (dB : oB.data = .cell none) (dP : oP.data = .cell none) (hs : Sub2 ((q.led c.w q.xs e ++ [(TB, od)]) ++ ([(c.L + 5, oB), (c.L + 6, oP)] ++ ld)) ld') : wpS (fLaw fa cd) c 193 (lawR 7) KL ((Str.ofString "keys", .ref q.KS) :: ls) ld' := by
  obtain ⟨nk, mK⟩ := h.km
  have n16 := h.n16
  have hla : (q.as.map Value.ref).length = q.N := (List.length_map _).trans h.la
  refine W.weaken (ls' := [(Str.ofString "keys", .ref q.KS)]) ⟨rfl, trivial⟩ hs (W.asg (W.compE [(Str.ofString "store", c.L + 2), (Str.ofString "known", c.L + 3)] rfl (by rfl) (by decide) rfl (by decide) rfl fun m => ?_) (by with_unfolding_all rfl))
  refine wpE_name (n := 19) rfl ?_
  refine CompW.list (σ := BrS) (vs := q.as.map Value.ref) rfl (fun y => (q.led c.w (q.xs ++ y.ex) y.e ++ [(TB, od)]) ++ ([(c.L + 5, oB), (c.L + 6, oP)] ++ (y.fr ++ ld))) (BrP q ld) ⟨[], e, [], [], []⟩ (by rw [List.append_nil]; exact .refl) ⟨rfl, rfl, rfl, Nat.zero_le _, fun _ _ j hj => absurd hj (Nat.not_lt_zero j), fun j hj => absurd hj (Nat.not_lt_zero j)⟩
    (fun y => List.mem_append_right _ (List.mem_append_right _ (List.mem_append_right _ mK))) (by rw [hla]; omega) ?turn ?done
  case turn =>
    rintro i ys y v I C D oI oC hC hi hv hy
    rw [hla] at hi
    rw [refs_get (by rw [h.la]; exact hi)] at hv
    cases hv
    have lift : ∀ {p : Addr × Obj}, p ∈ ld → p ∈ tri I C D oI oC ys ((q.led c.w (q.xs ++ y.ex) y.e ++ [(TB, od)]) ++ ([(c.L + 5, oB), (c.L + 6, oP)] ++ (y.fr ++ ld))) := fun hp => .tail _ (.tail _ (.tail _ (List.mem_append_right _ (List.mem_append_right _ (List.mem_append_right _ hp)))))
    have ⟨oS, mS, dS⟩ := h.cS
    have ⟨oK, mKn, dK⟩ := h.cK
    have hlen : (q.xs ++ y.ex).length ≤ 1000 := by have := h.hx; have := hy.lx; rw [List.length_append]; omega
    refine ⟨_, oS, _, rfl, lift mS, dS, .ref 363, [.ref q.ST], Meth.ins (insSt (tri I C D oI oC ys []) (r := [(TB, od)] ++ ([(c.L + 5, oB), (c.L + 6, oP)] ++ (y.fr ++ ld)))) rfl rfl, .tail _ (.head _), _, oK, _, rfl, lift mKn, dK, ?_⟩
    refine W.callS (put_spec2 _ q.ST q.HL q.DS q.SY q.SK q.TR (q.as.getD i 0) TB v0 v1 v2 od (q.xs ++ y.ex) q.ks q.n3 y.e (q.kx i)) (tri I C D oI oC ys ([(c.L + 5, oB), (c.L + 6, oP)] ++ (y.fr ++ ld))) (.perm (List.perm_append_comm_assoc _ [_, _, _] _)) (fun g sg hg => ?_) fun v need' hp => ?_
    · have h0 : InG g ld := fun p hp => hg p (.tail _ (.tail _ (.tail _ (List.mem_append_right _ (List.mem_append_right _ hp)))))
      exact ⟨hlen, h.lo, h.od, h.ka g h0 i hi, (h.v3 g h0).more _⟩
    · obtain ⟨b, fr, zs, e', rfl, rfl, hz, _, _, _, hl, hat⟩ := hp
      refine ⟨⟨y.ex ++ zs, e', fr ++ y.fr, y.bs ++ [b], y.ps ++ [(q.xs ++ y.ex).length]⟩, ?_, hy.step h hi hz hl hat⟩
      show Sub2 (tri I C D oI oC ys ((q.led c.w (q.xs ++ (y.ex ++ zs)) e' ++ [(TB, od)]) ++ ([(c.L + 5, oB), (c.L + 6, oP)] ++ ((fr ++ y.fr) ++ ld)))) _
      rw [← List.append_assoc q.xs]
      exact Sub2.mv (A := [(I, oI), (C, oC), (D, LCg.lst ys)]) (X := q.led c.w (q.xs ++ y.ex ++ zs) e' ++ [(TB, od)]) (M := [(c.L + 5, oB), (c.L + 6, oP)]) (f := fr) (fr := y.fr) (R := ld)
  case done =>
    rintro ys y hy BR
    rw [hla] at hy
    refine ⟨5, _, oB, none, rfl, rfl, dB, fun o' h' => ?_⟩
    refine law8 (q := { q with xs := q.xs ++ y.ex, x1 := (q.xs ++ y.ex).length, BR := BR, bs := y.bs, ps := y.ps }) (e := y.e) (ld := (BR, listOf ys.toArray ys.length) :: (TB, od) :: (c.L + 5, o') :: (y.fr ++ ld)) dP ?_ fun PR o2 h2 => h.fin hy h' h2
    exact .perm ((List.perm_append_comm_assoc (q.led c.w (q.xs ++ y.ex) y.e ++ [(c.L + 6, oP)]) [(BR, listOf ys.toArray ys.length)] ((TB, od) :: (c.L + 5, o') :: (y.fr ++ ld))).trans (List.Perm.append_left ((BR, listOf ys.toArray ys.length) :: q.led c.w (q.xs ++ y.ex) y.e) (List.perm_append_comm_assoc [(c.L + 6, oP)] [(TB, od), (c.L + 5, o')] (y.fr ++ ld))))
structure WtS where
  fr : Led
  ws : List Addr
structure WtP (q : LQ) (i : Nat) (ys : List Value) (y : WtS) : Prop where
  ey : ys = y.ws.map Value.ref
  l : y.ws.length = i
  t : ∀ j, j < i → ∃ t1 t2, (y.ws.getD j 0, tupA [.int (wOf (q.kx j)).1 t1, .int (wOf (q.kx j)).2 t2]) ∈ y.fr
theorem law6 {e : Nat} (h : S6 c q TB v0 v1 v2 od ld) (dW : oW.data = .cell none) (dB : oB.data = .cell none) (dP : oP.data = .cell none) (hs : Sub2 ((c.L + 4, oW) :: ((q.led c.w q.xs e ++ [(TB, od)]) ++ ([(c.L + 5, oB), (c.L + 6, oP)] ++ ld))) ld') : wpS (fLaw fa cd) c 194 (lawR 6) KL ((Str.ofString "keys", .ref q.KS) :: ls) ld' := by
  obtain ⟨nk, mK⟩ := h.km
  have n16 := h.n16
  have hla : (q.as.map Value.ref).length = q.N := (List.length_map _).trans h.la
  refine W.weaken (ls' := [(Str.ofString "keys", .ref q.KS)]) ⟨rfl, trivial⟩ hs (W.asg (W.compE [] rfl (by rfl) (by decide) rfl (by decide) rfl fun m => ?_) (by with_unfolding_all rfl))
  refine wpE_name (n := 19) rfl ?_
  refine CompW.list (σ := WtS) (vs := q.as.map Value.ref) rfl (fun y => (c.L + 4, oW) :: ((q.led c.w q.xs e ++ [(TB, od)]) ++ ([(c.L + 5, oB), (c.L + 6, oP)] ++ (y.fr ++ ld)))) (WtP q) ⟨[], []⟩ .refl ⟨rfl, rfl, fun j hj => absurd hj (Nat.not_lt_zero j)⟩
    (fun y => .tail _ (List.mem_append_right _ (List.mem_append_right _ (List.mem_append_right _ mK)))) (by rw [hla]; omega) ?turn ?done
  case turn =>
    rintro i ys y v I C D oI oC hC hi hv hy
    rw [hla] at hi
    rw [refs_get (by rw [h.la]; exact hi)] at hv
    cases hv
    refine ⟨.tail _ (.head _), W.callS (weight2 _ (q.as.getD i 0) (q.kx i)) (tri I C D oI oC ys ((c.L + 4, oW) :: ((q.led c.w q.xs e ++ [(TB, od)]) ++ ([(c.L + 5, oB), (c.L + 6, oP)] ++ (y.fr ++ ld))))) .refl (fun g sg hg => h.ka g (fun p hp => hg p (.tail _ (.tail _ (.tail _ (.tail _ (List.mem_append_right _ (List.mem_append_right _ (List.mem_append_right _ hp)))))))) i hi) fun v need' hp => ?_⟩
    obtain ⟨a, t1, t2, rfl, rfl⟩ := hp
    refine ⟨⟨(a, tupA [.int (wOf (q.kx i)).1 t1, .int (wOf (q.kx i)).2 t2]) :: y.fr, y.ws ++ [a]⟩, .perm (List.perm_append_comm_assoc (tri I C D oI oC ys ((c.L + 4, oW) :: ((q.led c.w q.xs e ++ [(TB, od)]) ++ [(c.L + 5, oB), (c.L + 6, oP)]))) [_] _), ?_, ?_, fun j hj => ?_⟩
    · rw [hy.ey, List.map_append]; rfl
    · rw [List.length_append, hy.l]; rfl
    · dsimp only
      rcases getD_snoc (x := a) (d := 0) hy.l hj with ⟨h1, e⟩ | ⟨h1, e⟩
      · obtain ⟨u1, u2, m⟩ := hy.t j h1
        exact ⟨u1, u2, by rw [e]; exact .tail _ m⟩
      · subst h1
        exact ⟨t1, t2, by rw [e]; exact .head _⟩
  case done =>
    rintro ys y hy WS
    rw [hla] at hy
    refine ⟨1, _, oW, none, rfl, rfl, dW, fun o' h' => ?_⟩
    refine law7 (q := { q with WS := WS, ws := y.ws }) (e := e) (ld := (WS, listOf ys.toArray ys.length) :: (c.L + 4, o') :: (y.fr ++ ld)) ⟨⟨h.hx, h.la, h.n16, h.kok, h.cS.app.cons.cons, h.cK.app.cons.cons, fun g hg => h.sy g fun p hp => hg p (.tail _ (.tail _ (List.mem_append_right _ hp))), ⟨nk, .tail _ (.tail _ (List.mem_append_right _ mK))⟩,
      fun g hg => h.ka g fun p hp => hg p (.tail _ (.tail _ (List.mem_append_right _ hp))), fun g hg => h.v3 g fun p hp => hg p (.tail _ (.tail _ (List.mem_append_right _ hp))), h.lo, h.od⟩, hy.l, ⟨_, .tail _ (.head _), h'⟩, ⟨ys.length, by rw [← hy.ey]; exact .head _⟩, fun i hi => let ⟨t1, t2, m⟩ := hy.t i hi; ⟨t1, t2, .tail _ (.tail _ (List.mem_append_left _ m))⟩⟩ dB dP ?_
    exact .perm (List.perm_append_comm_assoc ((q.led c.w q.xs e ++ [(TB, od)]) ++ [(c.L + 5, oB), (c.L + 6, oP)]) [(WS, listOf ys.toArray ys.length), (c.L + 4, o')] (y.fr ++ ld))
end
end
end Mine
end
section
set_option Elab.async false
set_option maxRecDepth 100000
set_option maxHeartbeats 1000000
set_option linter.unusedVariables false
namespace Mine
noncomputable section
open PySem PySem.W PySem.Calls PyProof.Rows
structure S5 (c : Cx) (y : LP) (RW TB v0 v1 v2 : Addr) (od : Obj) (ld : Led) : Prop where
  hx : y.xs.length = 3
  cR : CellAt ld (c.L + 1) (.ref RW)
  cS : CellAt ld (c.L + 2) (.ref y.ST)
  cK : CellAt ld (c.L + 3) (.ref TB)
  sy : ∀ g, InG g ld → SyG c.w g y.SY y.txs y.fns y.DY y.TX y.AN y.FS y.FN y.ky y.n2 ∧ SyOk g y.txs y.fns
  v3 : ∀ g, InG g ld → V3 g y.xs v0 v1 v2
  lo : (TB == sysModules) = false
  od : DictI c od (kn3 v0 v1 v2)
structure KyS where
  vs : List Value
  e : Nat
  fr : Led
  kk : List Key
  as : List Addr
structure KyP (i : Nat) (ys : List Value) (y : KyS) : Prop where
  ey : ys = y.as.map Value.ref
  la : y.as.length = i
  lk : y.kk.length = i
  iv : IntsL y.vs
  ok : ∀ k ∈ y.kk, KeyOk k
  ka : ∀ g, InG g y.fr → ∀ j, j < i → KeyAt g (y.kk.getD j (.i 0)) (y.as.getD j 0)
section
variable {c : Cx} {y : LP} {ls : Loc} {ld ld' : Led} {fa : Addr} {cd : Value} {RW TB v0 v1 v2 : Addr} {od oW oB oP : Obj}
theorem law5 {e e0 : Nat} {vs : List Value} (h : S5 c y RW TB v0 v1 v2 od ld) (hI : IntsL vs) (dW : oW.data = .cell none) (dB : oB.data = .cell none) (dP : oP.data = .cell none)
    (hs : Sub2 ((RW, listOf vs.toArray e0) :: (c.L + 4, oW) :: ((y.led c.w y.xs e ++ [(TB, od)]) ++ ([(c.L + 5, oB), (c.L + 6, oP)] ++ ld))) ld') : wpS (fLaw fa cd) c 195 (lawR 5) KL ls ld' := by
  have ⟨oR, mR, dR⟩ := h.cR
  refine W.weaken (ls' := []) trivial hs (W.compA [(Str.ofString "row", c.L + 1)] rfl (by with_unfolding_all rfl) (by rfl) (by decide) rfl (by decide) rfl rfl fun m => ?_)
  refine ⟨_, oR, _, rfl, .tail _ (.tail _ (List.mem_append_right _ (List.mem_append_right _ mR))), dR, rfl, W.callS (next_spec2 _ RW vs e0) _ .refl (fun _ _ _ => hI) fun v need' hp => ?_⟩
  obtain ⟨n, t, vs2, e2, rfl, rfl, hI2⟩ := hp
  obtain ⟨N, hN, hN2⟩ := fmod_in n 17 (by decide)
  refine fun t5 => W.mod (by decide) fun t6 => ?_
  rw [show n.fmod 17 = (N : Int) from hN]
  refine W.range1 fun R r1 r2 r3 hR => ?_
  refine CompW.range (σ := KyS) (n := N) rfl (fun z => (RW, listOf z.vs.toArray z.e) :: (c.L + 4, oW) :: ((y.led c.w y.xs e ++ [(TB, od)]) ++ ([(c.L + 5, oB), (c.L + 6, oP)] ++ (z.fr ++ ld)))) KyP ⟨vs2, e2, [], [], []⟩ (.head _) (range_small (by omega) (by omega) (.inl rfl)) (rangeSize_one N) (by omega) (.dr 1 rfl)
    ⟨rfl, rfl, rfl, hI2, fun k hk => (nomatch hk), fun _ _ j hj => absurd hj (Nat.not_lt_zero j)⟩ ?turn ?done
  case turn =>
    rintro i ys z v I C D oI oC hC hi hv hz
    refine ⟨_, oR, _, rfl, .tail _ (.tail _ (.tail _ (.tail _ (.tail _ (List.mem_append_right _ (List.mem_append_right _ (List.mem_append_right _ mR))))))), dR, ?_⟩
    refine W.callS (key2 _ RW z.vs z.e) (tri I C D oI oC ys ((c.L + 4, oW) :: ((y.led c.w y.xs e ++ [(TB, od)]) ++ ([(c.L + 5, oB), (c.L + 6, oP)] ++ (z.fr ++ ld))))) (.perm (List.perm_append_comm_assoc [_] [_, _, _] _)) (fun _ _ _ => hz.iv) fun v need' hp => ?_
    obtain ⟨a, k, vs3, e3, fr, rfl, rfl, hI3, hok, _, hka⟩ := hp
    refine ⟨⟨vs3, e3, fr ++ z.fr, z.kk ++ [k], z.as ++ [a]⟩, Sub2.mv (A := [(I, oI), (C, oC), (D, LCg.lst ys)]) (X := [(RW, listOf vs3.toArray e3)]) (M := (c.L + 4, oW) :: ((y.led c.w y.xs e ++ [(TB, od)]) ++ [(c.L + 5, oB), (c.L + 6, oP)])) (f := fr) (fr := z.fr) (R := ld), ?_, ?_, ?_, hI3, ?_, fun g hg j hj => ?_⟩
    · rw [hz.ey, List.map_append]; rfl
    · rw [List.length_append, hz.la]; rfl
    · rw [List.length_append, hz.lk]; rfl
    · intro k' hk'
      rcases List.mem_append.mp hk' with hk' | hk'
      · exact hz.ok k' hk'
      · rw [List.mem_singleton.mp hk']; exact hok
    · dsimp only
      rcases getD_snoc (x := k) (d := .i 0) hz.lk hj with ⟨h1, e⟩ | ⟨h1, e⟩
      · rcases getD_snoc (x := a) (d := 0) hz.la hj with ⟨_, e2⟩ | ⟨h2, _⟩
        · rw [e, e2]; exact hz.ka g hg.right j h1
        · omega
      · rcases getD_snoc (x := a) (d := 0) hz.la hj with ⟨h2, _⟩ | ⟨_, e2⟩
        · omega
        · rw [e, e2]; exact hka g hg.left
  case done =>
    rintro ys z hz KS
    have kok : ∀ i, KeyOk (z.kk.getD i (.i 0)) := fun i => by
      rw [List.getD_eq_getElem?_getD]
      cases q : z.kk[i]? with
      | none => exact ⟨by decide, by decide⟩
      | some k => exact hz.ok k (List.mem_of_getElem? q)
    refine law6 (q := { toLP := y, N := N, x1 := 0, kx := fun i => z.kk.getD i (.i 0), KS := KS, WS := 0, BR := 0, PR := 0, as := z.as, ws := [], bs := [], pd := [], ps := [], qs := [] }) (e := e) (TB := TB) (v0 := v0) (v1 := v1) (v2 := v2) (od := od) (ld := (KS, listOf ys.toArray ys.length) :: (RW, listOf z.vs.toArray z.e) :: (z.fr ++ ld))
      ⟨h.hx, hz.la, by show N ≤ 16; omega, kok, h.cS.app.cons.cons, h.cK.app.cons.cons, fun g hg => h.sy g fun p hp => hg p (.tail _ (.tail _ (List.mem_append_right _ hp))), ⟨ys.length, by rw [← hz.ey]; exact .head _⟩, fun g hg => hz.ka g fun p hp => hg p (.tail _ (.tail _ (List.mem_append_left _ hp))), fun g hg => h.v3 g fun p hp => hg p (.tail _ (.tail _ (List.mem_append_right _ hp))), h.lo, h.od⟩ dW dB dP ?_
    exact .perm (List.perm_append_comm_assoc ((c.L + 4, oW) :: ((y.led c.w y.xs e ++ [(TB, od)]) ++ [(c.L + 5, oB), (c.L + 6, oP)])) [(KS, listOf ys.toArray ys.length), (RW, listOf z.vs.toArray z.e)] (z.fr ++ ld))
noncomputable abbrev forB : List Stmt → List Stmt
  | .For _ _ b _ _ :: _ => b
  | _ => []
theorem knownTurn {M : Led} {xs : List Value} {kvs : List (Int × Value)} {e : Nat} {j : Int} {t : Tok} {I : Addr} {o : Obj} {k : Flow → Loc → Led → Prop} {r : Loc → Led → Prop} (cS : CellAt M (c.L + 2) (.ref y.ST)) (cK : CellAt M (c.L + 3) (.ref TB)) (hkv : DictI c od kvs) (hkl : kvs.length ≤ 1000) (hx : xs.length ≤ 1000)
    (next : ∀ v t1 t2 e' od', DictI c od' (stored kvs j (.ref v)) → r [] ((TB, od') :: (y.led c.w (xs ++ [.ref v]) e' ++ (M ++ ((v, tupA [.int 0 t1, .int xs.length t2]) :: ld))))) :
    wpS (fLaw fa cd) c 200 (forB (lawR 4)) (unK (I, o) (fun _ => True) k r) ((Str.ofString "k", .int j t) :: ls) ((I, o) :: (TB, od) :: (y.led c.w xs e ++ (M ++ ld))) := by
  have ⟨oS, mS, dS⟩ := cS
  have ⟨oK, mK, dK⟩ := cK
  refine W.setSub ⟨_, oS, _, rfl, .tail _ (.tail _ (List.mem_append_right _ (List.mem_append_left _ mS))), dS, rfl, .ref 208, [.ref y.ST], Meth.ins (insSt [(I, o), (TB, od)]) rfl rfl, ?_⟩
  refine W.callS (new_var2 _ y.ST y.HL y.DS y.SY y.SK y.TR xs y.ks y.n3 e) ([(I, o), (TB, od)] ++ (M ++ ld)) (.perm (List.perm_append_comm_assoc _ _ _)) (fun _ _ _ => hx) fun v need' hp => ?_
  obtain ⟨a, t1, t2, e', rfl, rfl⟩ := hp
  refine ⟨_, oK, _, rfl, .tail _ (.tail _ (.tail _ (.tail _ (.tail _ (.tail _ (List.mem_append_right [] (List.mem_append_left _ mK))))))), dK, rfl, W.dsetI 5 rfl hkv hkl fun o' h' => ⟨[], _, trivial, ?_, trivial, next a t1 t2 e' o' h'⟩⟩
  exact Sub2.mv (A := [(I, o), (TB, o')]) (X := y.led c.w (xs ++ [.ref a]) e') (M := M) (f := [(a, tupA [.int 0 t1, .int xs.length t2])]) (fr := []) (R := ld)
theorem law4 {e e0 : Nat} {vs : List Value} {oR oS oK : Obj} (hI : IntsL vs) (dR : oR.data = .cell (some (.ref RW))) (dS : oS.data = .cell (some (.ref y.ST))) (dK : oK.data = .cell (some (.ref TB))) (dW : oW.data = .cell none) (dB : oB.data = .cell none) (dP : oP.data = .cell none)
    (sy : ∀ g, InG g ld → SyG c.w g y.SY y.txs y.fns y.DY y.TX y.AN y.FS y.FN y.ky y.n2 ∧ SyOk g y.txs y.fns) (lo : (TB == sysModules) = false) (hod : DictI c od []) :
    wpS (fLaw fa cd) c 196 (lawR 4) KL ls ((TB, od) :: (y.led c.w [] e ++ ([(RW, listOf vs.toArray e0), (c.L + 1, oR), (c.L + 2, oS), (c.L + 3, oK), (c.L + 4, oW), (c.L + 5, oB), (c.L + 6, oP)] ++ ld))) := by
  have cS : CellAt [(RW, listOf vs.toArray e0), (c.L + 1, oR), (c.L + 2, oS), (c.L + 3, oK), (c.L + 4, oW), (c.L + 5, oB), (c.L + 6, oP)] (c.L + 2) (.ref y.ST) := ⟨_, .tail _ (.tail _ (.head _)), dS⟩
  have cK : CellAt [(RW, listOf vs.toArray e0), (c.L + 1, oR), (c.L + 2, oS), (c.L + 3, oK), (c.L + 4, oW), (c.L + 5, oB), (c.L + 6, oP)] (c.L + 3) (.ref TB) := ⟨_, .tail _ (.tail _ (.tail _ (.head _))), dK⟩
  refine W.for fun t => W.range1 fun R r1 r2 r3 hR => IterW.rangeU (n := 3) (.head _) (by decide) (by decide) (.dr 1 rfl) ?_
  rintro _ I o ⟨t, rfl⟩ -
  refine knownTurn cS cK hod (Nat.zero_le _) (Nat.zero_le _) fun v0 ta0 tb0 e1 od1 h1 => ?_
  rintro _ I o ⟨t, rfl⟩ -
  refine knownTurn cS cK h1 (Nat.le_of_ble_eq_true rfl) (Nat.le_of_ble_eq_true rfl) fun v1 ta1 tb1 e2 od2 h2 => ?_
  rintro _ I o ⟨t, rfl⟩ -
  refine knownTurn cS cK h2 (Nat.le_of_ble_eq_true rfl) (Nat.le_of_ble_eq_true rfl) fun v2 ta2 tb2 e3 od3 h3 => ?_
  refine law5 (y := { y with xs := [.ref v0, .ref v1, .ref v2] }) (RW := RW) (TB := TB) (v0 := v0) (v1 := v1) (v2 := v2) (od := od3) (e := e3) (e0 := e0) (ld := (c.L + 1, oR) :: (c.L + 2, oS) :: (c.L + 3, oK) :: (v2, tupA [.int 0 ta2, .int 2 tb2]) :: (v1, tupA [.int 0 ta1, .int 1 tb1]) :: (v0, tupA [.int 0 ta0, .int 0 tb0]) :: ld) ⟨rfl, ⟨_, .head _, dR⟩, ⟨_, .tail _ (.head _), dS⟩, ⟨_, .tail _ (.tail _ (.head _)), dK⟩,
    fun g hg => sy g fun p hp => hg p (.tail _ (.tail _ (.tail _ (.tail _ (.tail _ (.tail _ hp)))))), fun g hg => ⟨rfl, rfl, rfl, ⟨_, _, isTup_of (hg _ (.tail _ (.tail _ (.tail _ (.tail _ (.tail _ (.head _)))))))⟩, ⟨_, _, isTup_of (hg _ (.tail _ (.tail _ (.tail _ (.tail _ (.head _))))))⟩, ⟨_, _, isTup_of (hg _ (.tail _ (.tail _ (.tail _ (.head _)))))⟩⟩, lo, h3⟩ hI dW dB dP ?_
  have pm : ∀ Z : Led, Sub2 ((RW, listOf vs.toArray e0) :: (c.L + 4, oW) :: ((y.led c.w [.ref v0, .ref v1, .ref v2] e3 ++ [(TB, od3)]) ++ ([(c.L + 5, oB), (c.L + 6, oP)] ++ ((c.L + 1, oR) :: (c.L + 2, oS) :: (c.L + 3, oK) :: Z))))
      ((TB, od3) :: (y.led c.w [.ref v0, .ref v1, .ref v2] e3 ++ ([(RW, listOf vs.toArray e0), (c.L + 1, oR), (c.L + 2, oS), (c.L + 3, oK), (c.L + 4, oW), (c.L + 5, oB), (c.L + 6, oP)] ++ Z))) := fun Z =>
    .perm ((List.Perm.append_left [(RW, listOf vs.toArray e0)] (List.perm_append_comm_assoc ((c.L + 4, oW) :: (y.led c.w [.ref v0, .ref v1, .ref v2] e3 ++ [(TB, od3), (c.L + 5, oB), (c.L + 6, oP)])) [(c.L + 1, oR), (c.L + 2, oS), (c.L + 3, oK)] Z)).trans
      ((List.perm_append_comm_assoc [(RW, listOf vs.toArray e0), (c.L + 1, oR), (c.L + 2, oS), (c.L + 3, oK), (c.L + 4, oW)] (y.led c.w [.ref v0, .ref v1, .ref v2] e3 ++ [(TB, od3)]) ((c.L + 5, oB) :: (c.L + 6, oP) :: Z)).trans
      (List.perm_append_comm_assoc (y.led c.w [.ref v0, .ref v1, .ref v2] e3) [(TB, od3)] ([(RW, listOf vs.toArray e0), (c.L + 1, oR), (c.L + 2, oS), (c.L + 3, oK), (c.L + 4, oW), (c.L + 5, oB), (c.L + 6, oP)] ++ Z))))
  exact pm _
end
end
end Mine
end
section
set_option Elab.async false
set_option maxRecDepth 100000
set_option maxHeartbeats 1000000
set_option linter.unusedVariables false
namespace Mine
noncomputable section
open PySem PySem.W PySem.Calls PyProof.Rows
section
variable {c : Cx} {y : LP} {ls : Loc} {ld ld' : Led} {fa : Addr} {cd : Value} {RW : Addr} {e e0 : Nat} {vs : List Value} {oR oS oK oW oB oP : Obj}
theorem law3 (hI : IntsL vs) (dR : oR.data = .cell (some (.ref RW))) (dS : oS.data = .cell (some (.ref y.ST))) (dK : oK.data = .cell none) (dW : oW.data = .cell none) (dB : oB.data = .cell none) (dP : oP.data = .cell none)
    (sy : ∀ g, InG g ld → SyG c.w g y.SY y.txs y.fns y.DY y.TX y.AN y.FS y.FN y.ky y.n2 ∧ SyOk g y.txs y.fns) :
    wpS (fLaw fa cd) c 197 (lawR 3) KL ls (y.led c.w [] e ++ ([(RW, listOf vs.toArray e0), (c.L + 1, oR), (c.L + 2, oS), (c.L + 3, oK), (c.L + 4, oW), (c.L + 5, oB), (c.L + 6, oP)] ++ ld)) :=
  W.newDict fun TB od hlt lo hS hod => ⟨7, _, oK, none, rfl, rfl, dK, fun o' h' => law4 hI dR dS h' dW dB dP sy lo hod⟩
theorem law2 {SY DY TX AN FS FN : Addr} {ky : Nat → Tok} {n2 : Nat} {txs fns : List Value} (hI : IntsL vs) (dR : oR.data = .cell (some (.ref RW))) (dS : oS.data = .cell none) (dK : oK.data = .cell none) (dW : oW.data = .cell none) (dB : oB.data = .cell none) (dP : oP.data = .cell none)
    (sy : ∀ g, InG g ld → SyG c.w g SY txs fns DY TX AN FS FN ky n2 ∧ SyOk g txs fns) (hs : Sub2 ([(RW, listOf vs.toArray e0), (c.L + 1, oR), (c.L + 2, oS), (c.L + 3, oK), (c.L + 4, oW), (c.L + 5, oB), (c.L + 6, oP)] ++ ld) ld') :
    wpS (fLaw fa cd) c 198 (lawR 2) KL ((Str.ofString "signs", .ref SY) :: ls) ld' := by
  refine W.weaken (ls' := [(Str.ofString "signs", .ref SY)]) ⟨rfl, trivial⟩ hs (W.makeN (fun x dx => store_init2 _ x dx SY) rfl (fun _ _ _ => trivial) fun ST DS need' hp => ?_)
  obtain ⟨HL, SK, TR, ks, n3, rfl⟩ := hp
  exact ⟨5, _, oS, none, rfl, rfl, dS, fun o' h' => law3 (y := { ST := ST, SY := SY, HL := HL, DS := DS, SK := SK, TR := TR, DY := DY, TX := TX, AN := AN, FS := FS, FN := FN, ks := ks, ky := ky, n3 := n3, n2 := n2, xs := [], txs := txs, fns := fns }) hI dR h' dK dW dB dP sy⟩
theorem law1 (hI : IntsL vs) (dR : oR.data = .cell (some (.ref RW))) (dS : oS.data = .cell none) (dK : oK.data = .cell none) (dW : oW.data = .cell none) (dB : oB.data = .cell none) (dP : oP.data = .cell none) :
    wpS (fLaw fa cd) c 199 (lawR 1) KL ls [(RW, listOf vs.toArray e0), (c.L + 1, oR), (c.L + 2, oS), (c.L + 3, oK), (c.L + 4, oW), (c.L + 5, oB), (c.L + 6, oP)] := by
  refine W.makeN (fun x dx => sym_init2 _ x dx) rfl (fun _ _ _ => trivial) fun SY DY need' hp => ?_
  obtain ⟨txs, fns, TX, AN, FS, FN, ky, n2, sy⟩ := hp
  exact law2 hI dR dS dK dW dB dP sy (.perm List.perm_append_comm)
theorem law0 {sc : Addr} {ws : List Value} (hl : c.g.IsList sc ws.toArray) (hi : ∃ ns, IntsAre ws ns) (hz : ws.length ≤ 63) (dR : oR.data = .cell none) (dS : oS.data = .cell none) (dK : oK.data = .cell none) (dW : oW.data = .cell none) (dB : oB.data = .cell none) (dP : oP.data = .cell none) :
    wpS (fLaw fa cd) c 200 (fB (sT 42)) KL [(Str.ofString "script", .ref sc)] [(c.L + 1, oR), (c.L + 2, oS), (c.L + 3, oK), (c.L + 4, oW), (c.L + 5, oB), (c.L + 6, oP)] := by
  refine W.callS (row2 _ sc ws) _ .refl (fun g sg _ => ⟨isList_keeps hl sg, hi, hz⟩) fun v need' hp => ?_
  obtain ⟨RW, vs, e0, rfl, rfl, hI⟩ := hp
  exact ⟨1, _, oR, none, rfl, rfl, dR, fun o' h' => law1 hI h' dS dK dW dB dP⟩
end
end
end Mine
end
section
set_option Elab.async false
set_option maxRecDepth 100000
set_option maxHeartbeats 4000000
set_option linter.unusedVariables false
namespace Mine
open PySem PySem.W PySem.Calls PyProof.Rows
theorem law_end {w : World} {s₁ : Shared} {mean : ExcName → Option Value} {mg mb : Str → Option Value} {fa sc : Addr} {cd : Value} {h₁ : Heap} {tk₁ : Nat} {m : Str → Option Value} {vs : List Value} {ns : List Int} {o1 o2 o3 o4 o5 o6 : Obj} {Q : Flow → Shared → Prop} {E : Value → Shared → Prop}
    (B : Below callerA s₁.heap [] s₁.heap) (X : (K0 w.params).In s₁.heap) (T : Top V0 (looseW V0 loo) mean mg mb s₁.heap) (F : Fr s₁.heap s₁.heap.objs.size h₁ m) (hm : m (Str.ofString "script") = some (.ref sc))
    (N : News s₁.heap s₁.heap.objs.size h₁ [(s₁.heap.objs.size + 1 + 1 + 1 + 1 + 1 + 1, o6), (s₁.heap.objs.size + 1 + 1 + 1 + 1 + 1, o5), (s₁.heap.objs.size + 1 + 1 + 1 + 1, o4), (s₁.heap.objs.size + 1 + 1 + 1, o3), (s₁.heap.objs.size + 1 + 1, o2), (s₁.heap.objs.size + 1, o1)])
    (hl : s₁.heap.IsList sc vs.toArray) (hi : IntsAre vs ns) (hz : ¬ ((63 : Int) < (ns.length : Int))) (d6 : o6.data = .cell none) (d5 : o5.data = .cell none) (d4 : o4.data = .cell none) (d3 : o3.data = .cell none) (d2 : o2.data = .cell none) (d1 : o1.data = .cell none)
    (hQ : ∀ (s' : Shared) (m' : Str → Option Value), Fr s₁.heap s₁.heap.objs.size s'.heap m' → s'.gens = s₁.gens → s'.os = s₁.os → Q (.ret (.bool true)) s') :
    wpAny (model PySem.Challenge.rw_no0180_01.row.toRowW.prog w) (callerA.deeper ((fLaw fa cd).env s₁.heap.objs.size)) (execs (fB (sT 42)) ((fLaw fa cd).env s₁.heap.objs.size)) Q E { s₁ with heap := h₁, toks := tk₁ } := by
  let c : Cx := ⟨w, some [], [], callerA, s₁.heap, mean, mg, mb, s₁.heap, s₁.heap.objs.size, s₁.gens, s₁.drawn, s₁.os⟩
  have hw := wpS_ok 200 _ _ _ _ (law0 (c := c) (fa := fa) (cd := cd) hl ⟨ns, hi⟩ (by rw [hi.length]; omega) d1 d2 d3 d4 d5 d6) ⟨B, X, T⟩ { s₁ with heap := h₁, toks := tk₁ } ⟨⟨m, F, fz_of rfl _, fun x v e => ?_⟩, fun p hp => N p (List.mem_reverse.mp hp), ?_, rfl, rfl, rfl⟩
  · refine wpAny_mono hw ?_ fun _ _ x => x.elim
    rintro fl s' ⟨ls', ld', st', hk⟩
    cases hk
    obtain ⟨m', F', _⟩ := st'.F
    exact hQ s' m' F' st'.ge st'.os
  · rw [List.lookup_cons] at e
    cases hx : (x == Str.ofString "script") with
    | true => rw [hx] at e; rw [eq_of_beq hx, hm]; exact e
    | false => rw [hx] at e; cases e
  · show [s₁.heap.objs.size + 1, s₁.heap.objs.size + 2, s₁.heap.objs.size + 3, s₁.heap.objs.size + 4, s₁.heap.objs.size + 5, s₁.heap.objs.size + 6].Nodup
    simp only [List.nodup_cons, List.mem_cons, List.not_mem_nil, or_false, List.nodup_nil, and_true, not_false_eq_true]
    omega
theorem law_holds : PySem.Challenge.rw_no0180_01.Holds := by
  refine hd ?_
  k_fill
  intro w s₀ s₁ mg mb G Y fa o pm cd doc dV kV ho hd hcd hD hmg hg args vals as hpre hlay hrd hwl hlo
  have KX := kIn_of Y
  refine Ground.open G ?_
  intro T B D TE TW
  try (refine guard_noD D (by decide +kernel) ?_; clear D)
  obtain ⟨_, _, M⟩ := bmod_of_top T
  have TA := at_of_top T
  try (obtain ⟨_, _, he, B0⟩ := based_of_top T rfl hmg ho hd; have he' : cd = _ := he; subst he'; clear he)
  clear hmg
  wrow_args hpre hlay hrd hwl hlo
  first | refine callC_kw (enter_call ?_) | refine enter_call ?_
  w_top on
  try refine codeAny_mono ?_ (fun _ _ g => GoodW.toG g)
  have KB := below_caller (Top.heap T)
  w_call any ho hd hcd hD T F
  clear hd TA
  rename_i ns hs hlay0 hL0 hr0 hl2 as1 as2 sc vs as3 hL ra wl1 r0 hI hrW hc63 hcT h₁ tk₁ o5 o4 o3 o2 o1 o0 d5 d4 d3 d2 d1 d0 N0 X0
  exact law_end KB KX T F rfl N0 hL hI hc63 d5 d4 d3 d2 d1 d0 fun s' m' F' hg' ho' => goodW_bool F' (hg'.trans hg) (fun _ => rfl) (by with_unfolding_all rfl) ho'
end Mine
end

theorem PySem.Challenge.cw_no0180_01_holds : PySem.Challenge.rw_no0180_01.Holds :=
  Mine.law_holds
