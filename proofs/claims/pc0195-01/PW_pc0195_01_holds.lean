import PyProof.Rows.All
import Wide.All
import OpenK.AllK
import Wide.FinOn
import Lean
import PySem.Challenge.RW_pc0195_01
set_option Elab.async false
namespace Mine
open PySem PySem.W PyProof.Rows
set_option linter.all false
/-- the text's statements, each by its place -/
def st (k : Nat) : Stmt := PySem.Challenge.pw_pc0195_01.main.body.getD k (.Pass default)
/-- a def's parts; a class's statements -/
noncomputable def bd : Stmt → List Stmt
  | .FunctionDef _ _ b _ _ _ _ _ _ _ => b
  | .ClassDef _ _ _ b _ _ _ _ _ _ _ => b
  | _ => []
noncomputable def ar : Stmt → Arguments
  | .FunctionDef _ a _ _ _ _ _ _ _ _ => a
  | _ => default
noncomputable def sc : Stmt → Scope
  | .FunctionDef _ _ _ _ _ _ s _ _ _ => s
  | _ => default
noncomputable def pn : Stmt → Pos
  | .FunctionDef _ _ _ _ _ _ _ _ _ p => p
  | _ => default
noncomputable def st2 (k j : Nat) : Stmt := (bd (st k)).getD j (.Pass default)
def prog : Program := { PySem.Challenge.pw_pc0195_01 with main := { PySem.Challenge.pw_pc0195_01.main with body := [st 0, st 1, st 2, st 3, st 4, st 5, st 6, st 7, st 8, st 9, st 10, st 11, st 12, st 13, st 14, st 15, st 16, st 17, st 18, st 19, st 20, st 21, st 22, st 23, st 24, st 25, st 26, st 27, st 28, st 29, st 30, st 31, st 32, st 33] } }
def row : OpenLaw := { PySem.Challenge.rw_pc0195_01 with prog := prog }
set_option maxRecDepth 1000000 in
set_option maxHeartbeats 8000000 in
theorem row_is : PySem.Challenge.rw_pc0195_01 = row := by kernel_rfl
noncomputable def o2 (P : Params) : Obj := (.mk .none .none (.dict #[(.mk (PyData.keyHash P (Str.ofString "type.__subclasses__.Exception.0")) (.str (Str.ofString "type.__subclasses__.Exception.0") 216) (.int 32 0)), (.mk (PyData.keyHash P (Str.ofString "type.__subclasses__.Exception.n")) (.str (Str.ofString "type.__subclasses__.Exception.n") 217) (.int 1 0))] 2) #[])
noncomputable def o3 (P : Params) : Obj := (.mk (.type "dict") .none (.dict #[(.mk (PyData.keyHash P (Str.ofString "__name__")) (.str (Str.ofString "__name__") 165) (.str (Str.ofString "law_pc0195_01") 437)), (.mk (PyData.keyHash P (Str.ofString "__doc__")) (.str (Str.ofString "__doc__") 166) .none), (.mk (PyData.keyHash P (Str.ofString "__package__")) (.str (Str.ofString "__package__") 167) .none), (.mk (PyData.keyHash P (Str.ofString "__loader__")) (.str (Str.ofString "__loader__") 168) (.builtin "__main__.__loader__#opaque")), (.mk (PyData.keyHash P (Str.ofString "__spec__")) (.str (Str.ofString "__spec__") 169) .none), (.mk (PyData.keyHash P (Str.ofString "__annotations__")) (.str (Str.ofString "__annotations__") 170) (.ref 6)), (.mk (PyData.keyHash P (Str.ofString "__builtins__")) (.str (Str.ofString "__builtins__") 171) (.ref 4)), (.mk (PyData.keyHash P (Str.ofString "__file__")) (.str (Str.ofString "__file__") 173) (.str (Str.ofString "/claim/cut.py") 172)), (.mk (PyData.keyHash P (Str.ofString "__cached__")) (.str (Str.ofString "__cached__") 174) .none), (.mk (PyData.keyHash P (Str.ofString "RowsError")) (.str (Str.ofString "RowsError") 219) (.ref 32)), (.mk (PyData.keyHash P (Str.ofString "LowerFault")) (.str (Str.ofString "LowerFault") 235) (.ref 45)), (.mk (PyData.keyHash P (Str.ofString "expr")) (.str (Str.ofString "expr") 245) (.ref 54)), (.mk (PyData.keyHash P (Str.ofString "sym")) (.str (Str.ofString "sym") 252) (.ref 61)), (.mk (PyData.keyHash P (Str.ofString "is_expr")) (.str (Str.ofString "is_expr") 260) (.ref 68)), (.mk (PyData.keyHash P (Str.ofString "head_of")) (.str (Str.ofString "head_of") 267) (.ref 75)), (.mk (PyData.keyHash P (Str.ofString "parts_of")) (.str (Str.ofString "parts_of") 274) (.ref 82)), (.mk (PyData.keyHash P (Str.ofString "is_sym")) (.str (Str.ofString "is_sym") 281) (.ref 89)), (.mk (PyData.keyHash P (Str.ofString "SELF")) (.str (Str.ofString "SELF") 287) (.ref 91)), (.mk (PyData.keyHash P (Str.ofString "QUIET")) (.str (Str.ofString "QUIET") 290) (.ref 92)), (.mk (PyData.keyHash P (Str.ofString "FUNCTIONS")) (.str (Str.ofString "FUNCTIONS") 295) (.ref 93)), (.mk (PyData.keyHash P (Str.ofString "Argument")) (.str (Str.ofString "Argument") 330) (.ref 110)), (.mk (PyData.keyHash P (Str.ofString "Head")) (.str (Str.ofString "Head") 364) (.ref 131)), (.mk (PyData.keyHash P (Str.ofString "block")) (.str (Str.ofString "block") 371) (.ref 142)), (.mk (PyData.keyHash P (Str.ofString "read_argument")) (.str (Str.ofString "read_argument") 382) (.ref 149)), (.mk (PyData.keyHash P (Str.ofString "new_name")) (.str (Str.ofString "new_name") 389) (.ref 156)), (.mk (PyData.keyHash P (Str.ofString "fill_head")) (.str (Str.ofString "fill_head") 399) (.ref 163)), (.mk (PyData.keyHash P (Str.ofString "check_head")) (.str (Str.ofString "check_head") 405) (.ref 168)), (.mk (PyData.keyHash P (Str.ofString "function_head")) (.str (Str.ofString "function_head") 416) (.ref 175)), (.mk (PyData.keyHash P (Str.ofString "converted")) (.str (Str.ofString "converted") 424) (.ref 182)), (.mk (PyData.keyHash P (Str.ofString "returns_turned")) (.str (Str.ofString "returns_turned") 430) (.ref 187)), (.mk (PyData.keyHash P (Str.ofString "whole_body")) (.str (Str.ofString "whole_body") 436) (.ref 192)), (.mk (PyData.keyHash P (Str.ofString "_law_sack")) (.str (Str.ofString "_law_sack") 447) (.ref 199)), (.mk (PyData.keyHash P (Str.ofString "_law_grain")) (.str (Str.ofString "_law_grain") 456) (.ref 206)), (.mk (PyData.keyHash P (Str.ofString "_law_leaf")) (.str (Str.ofString "_law_leaf") 463) (.ref 213)), (.mk (PyData.keyHash P (Str.ofString "_law_tree")) (.str (Str.ofString "_law_tree") 469) (.ref 218)), (.mk (PyData.keyHash P (Str.ofString "_law_function")) (.str (Str.ofString "_law_function") 475) (.ref 223)), (.mk (PyData.keyHash P (Str.ofString "_law_as")) (.str (Str.ofString "_law_as") 483) (.ref 230)), (.mk (PyData.keyHash P (Str.ofString "_law_due")) (.str (Str.ofString "_law_due") 493) (.ref 237)), (.mk (PyData.keyHash P (Str.ofString "law")) (.str (Str.ofString "law") 509) (.ref 244))] 39) #[])
noncomputable def o11 (P : Params) : Obj := (.mk (.type "tuple") .none (.seq #[] 0) #[])
noncomputable def o12 (P : Params) : Obj := (.mk .none .none (.fields #[(.int 2 0), (.int 0 0), (.ref 20), (.int 8 0), (.int 0 0), (.ref 41), (.int 11 0), (.int 0 0), (.ref 53), (.int 13 0), (.int 0 0), (.ref 60), (.int 15 0), (.int 0 0), (.ref 67), (.int 17 0), (.int 0 0), (.ref 74), (.int 19 0), (.int 0 0), (.ref 81), (.int 21 0), (.int 0 0), (.ref 88), (.int 27 0), (.int 0 0), (.ref 99), (.int 34 0), (.int 0 0), (.ref 120), (.int 43 0), (.int 0 0), (.ref 141), (.int 45 0), (.int 0 0), (.ref 148), (.int 66 0), (.int 0 0), (.ref 155), (.int 68 0), (.int 0 0), (.ref 162), (.int 75 0), (.int 0 0), (.ref 167), (.int 88 0), (.int 0 0), (.ref 174), (.int 107 0), (.int 0 0), (.ref 181), (.int 109 0), (.int 0 0), (.ref 186), (.int 116 0), (.int 0 0), (.ref 191), (.int 124 0), (.int 0 0), (.ref 198), (.int 128 0), (.int 0 0), (.ref 205), (.int 135 0), (.int 0 0), (.ref 212), (.int 137 0), (.int 0 0), (.ref 217), (.int 156 0), (.int 0 0), (.ref 222), (.int 177 0), (.int 0 0), (.ref 229), (.int 179 0), (.int 0 0), (.ref 236), (.int 188 0), (.int 0 0), (.ref 243)]) #[])
noncomputable def o13 (P : Params) : Obj := (.mk (.type "code") .none (.fields #[(.str (Str.ofString "<module>") 182), (.str (Str.ofString "<module>") 183), (.str (Str.ofString "/claim/cut.py") 184), (.int 1 0), (.int 0 0), (.int 0 0), (.int 0 0), (.int 0 0), (.ref 11), (.bool .false), (.int 181 0), (.ref 12), .none, .none, .none, .none, (.int 185 0), (.int 1 0), (.str (Str.ofString "/claim/cut.py") 186)]) #[])
noncomputable def o14 (P : Params) : Obj := (.mk (.type "frame") .none .plain #[(.some (.ref 13)), (.some (.ref 3)), (.some (.ref 3)), .none, (.some (.str (Str.ofString "__main__") 164)), .none, (.some (.ref 0))])
noncomputable def o15 (P : Params) : Obj := (.mk (.type "tuple") .none (.seq #[(.type "Exception")] 0) #[])
noncomputable def o16 (P : Params) : Obj := (.mk (.type "builtin_function_or_method") .none (.fields #[(.builtin "type.__prepare__"), (.type "type")]) #[])
noncomputable def o17 (P : Params) : Obj := (.mk (.type "dict") .none (.dict #[(.mk (PyData.keyHash P (Str.ofString "__module__")) (.str (Str.ofString "__module__") 196) (.str (Str.ofString "methodrows.errors") 187)), (.mk (PyData.keyHash P (Str.ofString "__qualname__")) (.str (Str.ofString "__qualname__") 198) (.str (Str.ofString "RowsError") 197)), (.mk (PyData.keyHash P (Str.ofString "__firstlineno__")) (.str (Str.ofString "__firstlineno__") 200) (.int 2 199)), (.mk (PyData.keyHash P (Str.ofString "__init__")) (.str (Str.ofString "__init__") 209) (.ref 29)), (.mk (PyData.keyHash P (Str.ofString "__static_attributes__")) (.str (Str.ofString "__static_attributes__") 212) (.ref 30))] 5) #[])
noncomputable def o18 (P : Params) : Obj := (.mk (.type "tuple") .none (.seq #[] 0) #[])
noncomputable def o19 (P : Params) : Obj := (.mk .none .none (.fields #[(.int 4 0), (.int 4 0), (.ref 28)]) #[])
noncomputable def o20 (P : Params) : Obj := (.mk (.type "code") .none (.fields #[(.str (Str.ofString "RowsError") 191), (.str (Str.ofString "RowsError") 192), (.str (Str.ofString "/claim/cut.py") 193), (.int 2 0), (.int 0 0), (.int 0 0), (.int 0 0), (.int 0 0), (.ref 18), (.bool .false), (.int 181 0), (.ref 19), .none, .none, .none, .none, (.int 194 0), (.int 2 0), (.str (Str.ofString "/claim/cut.py") 195)]) #[])
noncomputable def o21 (P : Params) : Obj := (.mk (.type "frame") .none .plain #[(.some (.ref 20)), (.some (.ref 3)), (.some (.ref 17)), .none, (.some (.str (Str.ofString "methodrows.errors") 187)), .none, (.some (.ref 0))])
noncomputable def o22 (P : Params) : Obj := (.mk (.type "tuple") .none (.seq #[.none] 0) #[])
noncomputable def o23 (P : Params) : Obj := (.mk (.type "tuple") .none (.seq #[] 0) #[])
noncomputable def o24 (P : Params) : Obj := (.mk .none .none (.fields #[]) #[])
noncomputable def o25 (P : Params) : Obj := (.mk (.type "tuple") .none (.seq #[(.str (Str.ofString "self") 204), (.str (Str.ofString "message") 205), (.str (Str.ofString "spot") 206)] 0) #[])
noncomputable def o26 (P : Params) : Obj := (.mk (.type "tuple") .none (.seq #[] 0) #[])
noncomputable def o27 (P : Params) : Obj := (.mk .none .none (.func (.mk (Str.ofString "__init__") (Str.ofString "RowsError.__init__") (ar (st2 1 0)) (.stmts (bd (st2 1 0))) (sc (st2 1 0)) 0 [] .none .none .none .none .none .none .none 0)) #[])
noncomputable def o28 (P : Params) : Obj := (.mk (.type "code") .none (.fields #[(.str (Str.ofString "__init__") 201), (.str (Str.ofString "RowsError.__init__") 202), (.str (Str.ofString "/claim/cut.py") 203), (.int 4 0), (.int 3 0), (.int 0 0), (.int 0 0), (.int 3 0), (.ref 23), (.bool .true), (.int 181 0), (.ref 24), .none, (.ref 25), (.ref 26), (.ref 27), (.int 207 0), (.int 4 0), (.str (Str.ofString "/claim/cut.py") 208)]) #[])
noncomputable def o29 (P : Params) : Obj := (.mk (.type "function") .none (.func (.mk (Str.ofString "__init__") (Str.ofString "RowsError.__init__") (ar (st2 1 0)) (.stmts (bd (st2 1 0))) (sc (st2 1 0)) 3 [] (.ref 22) .none .none (.str (Str.ofString "methodrows.errors") 187) .none (.ref 28) .none 0)) #[])
noncomputable def o30 (P : Params) : Obj := (.mk (.type "tuple") .none (.seq #[(.str (Str.ofString "message") 210), (.str (Str.ofString "spot") 211)] 0) #[])
noncomputable def o31 (P : Params) : Obj := (.mk (.type "dict") .none (.dict #[(.mk (PyData.keyHash P (Str.ofString "__module__")) (.str (Str.ofString "__module__") 196) (.str (Str.ofString "methodrows.errors") 187)), (.mk (PyData.keyHash P (Str.ofString "__firstlineno__")) (.str (Str.ofString "__firstlineno__") 200) (.int 2 199)), (.mk (PyData.keyHash P (Str.ofString "__init__")) (.str (Str.ofString "__init__") 209) (.ref 29)), (.mk (PyData.keyHash P (Str.ofString "__static_attributes__")) (.str (Str.ofString "__static_attributes__") 212) (.ref 30)), (.mk (PyData.keyHash P (Str.ofString "__weakref__")) (.str (Str.ofString "__weakref__") 214) (.ref 33)), (.mk (PyData.keyHash P (Str.ofString "__doc__")) (.str (Str.ofString "__doc__") 215) .none)] 3) #[])
noncomputable def o32 (P : Params) : Obj := (.mk (.type "type") .none (.cls (.mk (Str.ofString "RowsError") [(.type "Exception")] [(.ref 32), (.type "Exception"), (.type "BaseException"), (.type "object")] 31 (Str.ofString "RowsError") .true [] [(.ref 45)] .false .none .false)) #[(.some (.ref 15)), .none, (.some (.str (Str.ofString "RowsError") 189)), (.some (.str (Str.ofString "RowsError") 197)), (.some (.builtin "Exception.__new__")), (.some (.bool .true))])
noncomputable def o33 (P : Params) : Obj := (.mk (.type "getset_descriptor") .none (.fields #[(.str (Str.ofString "__weakref__") 213), (.ref 32), (.builtin "ExceptionGroup.__weakref__"), .none]) #[])
noncomputable def o34 (P : Params) : Obj := (.mk (.type "super") .none (.fields #[(.ref 32), (.ref 32), (.ref 32)]) #[])
noncomputable def o35 (P : Params) : Obj := (.mk (.type "builtin_function_or_method") .none (.fields #[(.builtin "object.__init_subclass__"), (.ref 32)]) #[])
noncomputable def o36 (P : Params) : Obj := (.mk (.type "tuple") .none (.seq #[(.ref 32)] 0) #[])
noncomputable def o37 (P : Params) : Obj := (.mk (.type "builtin_function_or_method") .none (.fields #[(.builtin "type.__prepare__"), (.type "type")]) #[])
noncomputable def o38 (P : Params) : Obj := (.mk (.type "dict") .none (.dict #[(.mk (PyData.keyHash P (Str.ofString "__module__")) (.str (Str.ofString "__module__") 227) (.str (Str.ofString "methodrows.errors") 187)), (.mk (PyData.keyHash P (Str.ofString "__qualname__")) (.str (Str.ofString "__qualname__") 229) (.str (Str.ofString "LowerFault") 228)), (.mk (PyData.keyHash P (Str.ofString "__firstlineno__")) (.str (Str.ofString "__firstlineno__") 231) (.int 8 230)), (.mk (PyData.keyHash P (Str.ofString "__static_attributes__")) (.str (Str.ofString "__static_attributes__") 232) (.ref 43))] 4) #[])
noncomputable def o39 (P : Params) : Obj := (.mk (.type "tuple") .none (.seq #[] 0) #[])
noncomputable def o40 (P : Params) : Obj := (.mk .none .none (.fields #[]) #[])
noncomputable def o41 (P : Params) : Obj := (.mk (.type "code") .none (.fields #[(.str (Str.ofString "LowerFault") 222), (.str (Str.ofString "LowerFault") 223), (.str (Str.ofString "/claim/cut.py") 224), (.int 8 0), (.int 0 0), (.int 0 0), (.int 0 0), (.int 0 0), (.ref 39), (.bool .false), (.int 181 0), (.ref 40), .none, .none, .none, .none, (.int 225 0), (.int 8 0), (.str (Str.ofString "/claim/cut.py") 226)]) #[])
noncomputable def o42 (P : Params) : Obj := (.mk (.type "frame") .none .plain #[(.some (.ref 41)), (.some (.ref 3)), (.some (.ref 38)), .none, (.some (.str (Str.ofString "methodrows.errors") 187)), .none, (.some (.ref 0))])
noncomputable def o43 (P : Params) : Obj := (.mk (.type "tuple") .none (.seq #[] 0) #[])
noncomputable def o44 (P : Params) : Obj := (.mk (.type "dict") .none (.dict #[(.mk (PyData.keyHash P (Str.ofString "__module__")) (.str (Str.ofString "__module__") 227) (.str (Str.ofString "methodrows.errors") 187)), (.mk (PyData.keyHash P (Str.ofString "__firstlineno__")) (.str (Str.ofString "__firstlineno__") 231) (.int 8 230)), (.mk (PyData.keyHash P (Str.ofString "__static_attributes__")) (.str (Str.ofString "__static_attributes__") 232) (.ref 43)), (.mk (PyData.keyHash P (Str.ofString "__doc__")) (.str (Str.ofString "__doc__") 233) .none)] 2) #[])
noncomputable def o45 (P : Params) : Obj := (.mk (.type "type") .none (.cls (.mk (Str.ofString "LowerFault") [(.ref 32)] [(.ref 45), (.ref 32), (.type "Exception"), (.type "BaseException"), (.type "object")] 44 (Str.ofString "LowerFault") .true [] [] .false .none .false)) #[(.some (.ref 36)), .none, (.some (.str (Str.ofString "LowerFault") 220)), (.some (.str (Str.ofString "LowerFault") 228)), (.some (.builtin "Exception.__new__")), (.some (.bool .true))])
noncomputable def o46 (P : Params) : Obj := (.mk (.type "super") .none (.fields #[(.ref 45), (.ref 45), (.ref 45)]) #[])
noncomputable def o47 (P : Params) : Obj := (.mk (.type "builtin_function_or_method") .none (.fields #[(.builtin "object.__init_subclass__"), (.ref 45)]) #[])
noncomputable def o48 (P : Params) : Obj := (.mk (.type "tuple") .none (.seq #[] 0) #[])
noncomputable def o49 (P : Params) : Obj := (.mk .none .none (.fields #[]) #[])
noncomputable def o50 (P : Params) : Obj := (.mk (.type "tuple") .none (.seq #[(.str (Str.ofString "head") 241), (.str (Str.ofString "parts") 242)] 0) #[])
noncomputable def o51 (P : Params) : Obj := (.mk (.type "tuple") .none (.seq #[] 0) #[])
noncomputable def o52 (P : Params) : Obj := (.mk .none .none (.func (.mk (Str.ofString "expr") (Str.ofString "expr") (ar (st 4)) (.stmts (bd (st 4))) (sc (st 4)) 0 [] .none .none .none .none .none .none .none 0)) #[])
noncomputable def o53 (P : Params) : Obj := (.mk (.type "code") .none (.fields #[(.str (Str.ofString "expr") 238), (.str (Str.ofString "expr") 239), (.str (Str.ofString "/claim/cut.py") 240), (.int 11 0), (.int 2 0), (.int 0 0), (.int 0 0), (.int 3 0), (.ref 48), (.bool .true), (.int 181 0), (.ref 49), .none, (.ref 50), (.ref 51), (.ref 52), (.int 243 0), (.int 11 0), (.str (Str.ofString "/claim/cut.py") 244)]) #[])
noncomputable def o54 (P : Params) : Obj := (.mk (.type "function") .none (.func (.mk (Str.ofString "expr") (Str.ofString "expr") (ar (st 4)) (.stmts (bd (st 4))) (sc (st 4)) 3 [] .none .none .none (.str (Str.ofString "methodrows.forms") 236) .none (.ref 53) .none 0)) #[])
noncomputable def o55 (P : Params) : Obj := (.mk (.type "tuple") .none (.seq #[] 0) #[])
noncomputable def o56 (P : Params) : Obj := (.mk .none .none (.fields #[]) #[])
noncomputable def o57 (P : Params) : Obj := (.mk (.type "tuple") .none (.seq #[(.str (Str.ofString "name") 249)] 0) #[])
noncomputable def o58 (P : Params) : Obj := (.mk (.type "tuple") .none (.seq #[] 0) #[])
noncomputable def o59 (P : Params) : Obj := (.mk .none .none (.func (.mk (Str.ofString "sym") (Str.ofString "sym") (ar (st 5)) (.stmts (bd (st 5))) (sc (st 5)) 0 [] .none .none .none .none .none .none .none 0)) #[])
noncomputable def o60 (P : Params) : Obj := (.mk (.type "code") .none (.fields #[(.str (Str.ofString "sym") 246), (.str (Str.ofString "sym") 247), (.str (Str.ofString "/claim/cut.py") 248), (.int 13 0), (.int 1 0), (.int 0 0), (.int 0 0), (.int 3 0), (.ref 55), (.bool .true), (.int 181 0), (.ref 56), .none, (.ref 57), (.ref 58), (.ref 59), (.int 250 0), (.int 13 0), (.str (Str.ofString "/claim/cut.py") 251)]) #[])
noncomputable def o61 (P : Params) : Obj := (.mk (.type "function") .none (.func (.mk (Str.ofString "sym") (Str.ofString "sym") (ar (st 5)) (.stmts (bd (st 5))) (sc (st 5)) 3 [] .none .none .none (.str (Str.ofString "methodrows.forms") 236) .none (.ref 60) .none 0)) #[])
noncomputable def o62 (P : Params) : Obj := (.mk (.type "tuple") .none (.seq #[] 0) #[])
noncomputable def o63 (P : Params) : Obj := (.mk .none .none (.fields #[]) #[])
noncomputable def o64 (P : Params) : Obj := (.mk (.type "tuple") .none (.seq #[(.str (Str.ofString "tree") 256), (.str (Str.ofString "head") 257)] 0) #[])
noncomputable def o65 (P : Params) : Obj := (.mk (.type "tuple") .none (.seq #[] 0) #[])
noncomputable def o66 (P : Params) : Obj := (.mk .none .none (.func (.mk (Str.ofString "is_expr") (Str.ofString "is_expr") (ar (st 6)) (.stmts (bd (st 6))) (sc (st 6)) 0 [] .none .none .none .none .none .none .none 0)) #[])
noncomputable def o67 (P : Params) : Obj := (.mk (.type "code") .none (.fields #[(.str (Str.ofString "is_expr") 253), (.str (Str.ofString "is_expr") 254), (.str (Str.ofString "/claim/cut.py") 255), (.int 15 0), (.int 2 0), (.int 0 0), (.int 0 0), (.int 3 0), (.ref 62), (.bool .true), (.int 181 0), (.ref 63), .none, (.ref 64), (.ref 65), (.ref 66), (.int 258 0), (.int 15 0), (.str (Str.ofString "/claim/cut.py") 259)]) #[])
noncomputable def o68 (P : Params) : Obj := (.mk (.type "function") .none (.func (.mk (Str.ofString "is_expr") (Str.ofString "is_expr") (ar (st 6)) (.stmts (bd (st 6))) (sc (st 6)) 3 [] .none .none .none (.str (Str.ofString "methodrows.forms") 236) .none (.ref 67) .none 0)) #[])
noncomputable def o69 (P : Params) : Obj := (.mk (.type "tuple") .none (.seq #[] 0) #[])
noncomputable def o70 (P : Params) : Obj := (.mk .none .none (.fields #[]) #[])
noncomputable def o71 (P : Params) : Obj := (.mk (.type "tuple") .none (.seq #[(.str (Str.ofString "tree") 264)] 0) #[])
noncomputable def o72 (P : Params) : Obj := (.mk (.type "tuple") .none (.seq #[] 0) #[])
noncomputable def o73 (P : Params) : Obj := (.mk .none .none (.func (.mk (Str.ofString "head_of") (Str.ofString "head_of") (ar (st 7)) (.stmts (bd (st 7))) (sc (st 7)) 0 [] .none .none .none .none .none .none .none 0)) #[])
noncomputable def o74 (P : Params) : Obj := (.mk (.type "code") .none (.fields #[(.str (Str.ofString "head_of") 261), (.str (Str.ofString "head_of") 262), (.str (Str.ofString "/claim/cut.py") 263), (.int 17 0), (.int 1 0), (.int 0 0), (.int 0 0), (.int 3 0), (.ref 69), (.bool .true), (.int 181 0), (.ref 70), .none, (.ref 71), (.ref 72), (.ref 73), (.int 265 0), (.int 17 0), (.str (Str.ofString "/claim/cut.py") 266)]) #[])
noncomputable def o75 (P : Params) : Obj := (.mk (.type "function") .none (.func (.mk (Str.ofString "head_of") (Str.ofString "head_of") (ar (st 7)) (.stmts (bd (st 7))) (sc (st 7)) 3 [] .none .none .none (.str (Str.ofString "methodrows.forms") 236) .none (.ref 74) .none 0)) #[])
noncomputable def o76 (P : Params) : Obj := (.mk (.type "tuple") .none (.seq #[] 0) #[])
noncomputable def o77 (P : Params) : Obj := (.mk .none .none (.fields #[]) #[])
noncomputable def o78 (P : Params) : Obj := (.mk (.type "tuple") .none (.seq #[(.str (Str.ofString "tree") 271)] 0) #[])
noncomputable def o79 (P : Params) : Obj := (.mk (.type "tuple") .none (.seq #[] 0) #[])
noncomputable def o80 (P : Params) : Obj := (.mk .none .none (.func (.mk (Str.ofString "parts_of") (Str.ofString "parts_of") (ar (st 8)) (.stmts (bd (st 8))) (sc (st 7)) 0 [] .none .none .none .none .none .none .none 0)) #[])
noncomputable def o81 (P : Params) : Obj := (.mk (.type "code") .none (.fields #[(.str (Str.ofString "parts_of") 268), (.str (Str.ofString "parts_of") 269), (.str (Str.ofString "/claim/cut.py") 270), (.int 19 0), (.int 1 0), (.int 0 0), (.int 0 0), (.int 3 0), (.ref 76), (.bool .true), (.int 181 0), (.ref 77), .none, (.ref 78), (.ref 79), (.ref 80), (.int 272 0), (.int 19 0), (.str (Str.ofString "/claim/cut.py") 273)]) #[])
noncomputable def o82 (P : Params) : Obj := (.mk (.type "function") .none (.func (.mk (Str.ofString "parts_of") (Str.ofString "parts_of") (ar (st 8)) (.stmts (bd (st 8))) (sc (st 7)) 3 [] .none .none .none (.str (Str.ofString "methodrows.forms") 236) .none (.ref 81) .none 0)) #[])
noncomputable def o83 (P : Params) : Obj := (.mk (.type "tuple") .none (.seq #[] 0) #[])
noncomputable def o84 (P : Params) : Obj := (.mk .none .none (.fields #[]) #[])
noncomputable def o85 (P : Params) : Obj := (.mk (.type "tuple") .none (.seq #[(.str (Str.ofString "tree") 278)] 0) #[])
noncomputable def o86 (P : Params) : Obj := (.mk (.type "tuple") .none (.seq #[] 0) #[])
noncomputable def o87 (P : Params) : Obj := (.mk .none .none (.func (.mk (Str.ofString "is_sym") (Str.ofString "is_sym") (ar (st 9)) (.stmts (bd (st 9))) (sc (st 7)) 0 [] .none .none .none .none .none .none .none 0)) #[])
noncomputable def o88 (P : Params) : Obj := (.mk (.type "code") .none (.fields #[(.str (Str.ofString "is_sym") 275), (.str (Str.ofString "is_sym") 276), (.str (Str.ofString "/claim/cut.py") 277), (.int 21 0), (.int 1 0), (.int 0 0), (.int 0 0), (.int 3 0), (.ref 83), (.bool .true), (.int 181 0), (.ref 84), .none, (.ref 85), (.ref 86), (.ref 87), (.int 279 0), (.int 21 0), (.str (Str.ofString "/claim/cut.py") 280)]) #[])
noncomputable def o89 (P : Params) : Obj := (.mk (.type "function") .none (.func (.mk (Str.ofString "is_sym") (Str.ofString "is_sym") (ar (st 9)) (.stmts (bd (st 9))) (sc (st 7)) 3 [] .none .none .none (.str (Str.ofString "methodrows.forms") 236) .none (.ref 88) .none 0)) #[])
noncomputable def o90 (P : Params) : Obj := (.mk (.type "frame") .none (.dict #[(.mk (PyData.keyHash P (Str.ofString "name")) (.str (Str.ofString "name") 285) (.str (Str.ofString "#self") 284))] 1) #[])
noncomputable def o91 (P : Params) : Obj := (.mk (.type "tuple") .none (.seq #[(.str (Str.ofString "sym") 286), (.str (Str.ofString "#self") 284)] 0) #[])
noncomputable def o92 (P : Params) : Obj := (.mk (.type "tuple") .none (.seq #[(.str (Str.ofString "quote") 288), (.str (Str.ofString "macro") 289)] 0) #[])
noncomputable def o93 (P : Params) : Obj := (.mk (.type "tuple") .none (.seq #[(.str (Str.ofString "function") 291), (.str (Str.ofString "->") 292), (.str (Str.ofString "do") 293), (.str (Str.ofString "generated") 294)] 0) #[])
noncomputable def o94 (P : Params) : Obj := (.mk (.type "tuple") .none (.seq #[] 0) #[])
noncomputable def o95 (P : Params) : Obj := (.mk (.type "builtin_function_or_method") .none (.fields #[(.builtin "type.__prepare__"), (.type "type")]) #[])
noncomputable def o96 (P : Params) : Obj := (.mk (.type "dict") .none (.dict #[(.mk (PyData.keyHash P (Str.ofString "__module__")) (.str (Str.ofString "__module__") 303) (.str (Str.ofString "methodrows.lower_functions") 282)), (.mk (PyData.keyHash P (Str.ofString "__qualname__")) (.str (Str.ofString "__qualname__") 305) (.str (Str.ofString "Argument") 304)), (.mk (PyData.keyHash P (Str.ofString "__firstlineno__")) (.str (Str.ofString "__firstlineno__") 307) (.int 27 306)), (.mk (PyData.keyHash P (Str.ofString "__init__")) (.str (Str.ofString "__init__") 318) (.ref 107)), (.mk (PyData.keyHash P (Str.ofString "__static_attributes__")) (.str (Str.ofString "__static_attributes__") 323) (.ref 108))] 5) #[])
noncomputable def o97 (P : Params) : Obj := (.mk (.type "tuple") .none (.seq #[] 0) #[])
noncomputable def o98 (P : Params) : Obj := (.mk .none .none (.fields #[(.int 29 0), (.int 4 0), (.ref 106)]) #[])
noncomputable def o99 (P : Params) : Obj := (.mk (.type "code") .none (.fields #[(.str (Str.ofString "Argument") 298), (.str (Str.ofString "Argument") 299), (.str (Str.ofString "/claim/cut.py") 300), (.int 27 0), (.int 0 0), (.int 0 0), (.int 0 0), (.int 0 0), (.ref 97), (.bool .false), (.int 181 0), (.ref 98), .none, .none, .none, .none, (.int 301 0), (.int 27 0), (.str (Str.ofString "/claim/cut.py") 302)]) #[])
noncomputable def o100 (P : Params) : Obj := (.mk (.type "frame") .none .plain #[(.some (.ref 99)), (.some (.ref 3)), (.some (.ref 96)), .none, (.some (.str (Str.ofString "methodrows.lower_functions") 282)), .none, (.some (.ref 0))])
noncomputable def o101 (P : Params) : Obj := (.mk (.type "tuple") .none (.seq #[] 0) #[])
noncomputable def o102 (P : Params) : Obj := (.mk .none .none (.fields #[]) #[])
noncomputable def o103 (P : Params) : Obj := (.mk (.type "tuple") .none (.seq #[(.str (Str.ofString "self") 311), (.str (Str.ofString "name") 312), (.str (Str.ofString "kind") 313), (.str (Str.ofString "default") 314), (.str (Str.ofString "is_rest") 315)] 0) #[])
noncomputable def o104 (P : Params) : Obj := (.mk (.type "tuple") .none (.seq #[] 0) #[])
noncomputable def o105 (P : Params) : Obj := (.mk .none .none (.func (.mk (Str.ofString "__init__") (Str.ofString "Argument.__init__") (ar (st2 14 0)) (.stmts (bd (st2 14 0))) (sc (st2 14 0)) 0 [] .none .none .none .none .none .none .none 0)) #[])
noncomputable def o106 (P : Params) : Obj := (.mk (.type "code") .none (.fields #[(.str (Str.ofString "__init__") 308), (.str (Str.ofString "Argument.__init__") 309), (.str (Str.ofString "/claim/cut.py") 310), (.int 29 0), (.int 5 0), (.int 0 0), (.int 0 0), (.int 3 0), (.ref 101), (.bool .true), (.int 181 0), (.ref 102), .none, (.ref 103), (.ref 104), (.ref 105), (.int 316 0), (.int 29 0), (.str (Str.ofString "/claim/cut.py") 317)]) #[])
noncomputable def o107 (P : Params) : Obj := (.mk (.type "function") .none (.func (.mk (Str.ofString "__init__") (Str.ofString "Argument.__init__") (ar (st2 14 0)) (.stmts (bd (st2 14 0))) (sc (st2 14 0)) 3 [] .none .none .none (.str (Str.ofString "methodrows.lower_functions") 282) .none (.ref 106) .none 0)) #[])
noncomputable def o108 (P : Params) : Obj := (.mk (.type "tuple") .none (.seq #[(.str (Str.ofString "default") 319), (.str (Str.ofString "is_rest") 320), (.str (Str.ofString "kind") 321), (.str (Str.ofString "name") 322)] 0) #[])
noncomputable def o109 (P : Params) : Obj := (.mk (.type "dict") .none (.dict #[(.mk (PyData.keyHash P (Str.ofString "__module__")) (.str (Str.ofString "__module__") 303) (.str (Str.ofString "methodrows.lower_functions") 282)), (.mk (PyData.keyHash P (Str.ofString "__firstlineno__")) (.str (Str.ofString "__firstlineno__") 307) (.int 27 306)), (.mk (PyData.keyHash P (Str.ofString "__init__")) (.str (Str.ofString "__init__") 318) (.ref 107)), (.mk (PyData.keyHash P (Str.ofString "__static_attributes__")) (.str (Str.ofString "__static_attributes__") 323) (.ref 108)), (.mk (PyData.keyHash P (Str.ofString "__dict__")) (.str (Str.ofString "__dict__") 325) (.ref 111)), (.mk (PyData.keyHash P (Str.ofString "__weakref__")) (.str (Str.ofString "__weakref__") 327) (.ref 112)), (.mk (PyData.keyHash P (Str.ofString "__doc__")) (.str (Str.ofString "__doc__") 328) .none)] 4) #[])
noncomputable def o110 (P : Params) : Obj := (.mk (.type "type") .none (.cls (.mk (Str.ofString "Argument") [(.type "object")] [(.ref 110), (.type "object")] 109 (Str.ofString "Argument") .true [] [] .false .none .false)) #[.none, .none, (.some (.str (Str.ofString "Argument") 296)), (.some (.str (Str.ofString "Argument") 304)), (.some (.builtin "object.__new__")), (.some (.bool .true))])
noncomputable def o111 (P : Params) : Obj := (.mk (.type "getset_descriptor") .none (.fields #[(.str (Str.ofString "__dict__") 324), (.ref 110), (.builtin "function.__dict__"), (.builtin "function.__dict__#set")]) #[])
noncomputable def o112 (P : Params) : Obj := (.mk (.type "getset_descriptor") .none (.fields #[(.str (Str.ofString "__weakref__") 326), (.ref 110), (.builtin "ExceptionGroup.__weakref__"), .none]) #[])
noncomputable def o113 (P : Params) : Obj := (.mk (.type "super") .none (.fields #[(.ref 110), (.ref 110), (.ref 110)]) #[])
noncomputable def o114 (P : Params) : Obj := (.mk (.type "builtin_function_or_method") .none (.fields #[(.builtin "object.__init_subclass__"), (.ref 110)]) #[])
noncomputable def o115 (P : Params) : Obj := (.mk (.type "tuple") .none (.seq #[] 0) #[])
noncomputable def o116 (P : Params) : Obj := (.mk (.type "builtin_function_or_method") .none (.fields #[(.builtin "type.__prepare__"), (.type "type")]) #[])
noncomputable def o117 (P : Params) : Obj := (.mk (.type "dict") .none (.dict #[(.mk (PyData.keyHash P (Str.ofString "__module__")) (.str (Str.ofString "__module__") 338) (.str (Str.ofString "methodrows.lower_functions") 282)), (.mk (PyData.keyHash P (Str.ofString "__qualname__")) (.str (Str.ofString "__qualname__") 340) (.str (Str.ofString "Head") 339)), (.mk (PyData.keyHash P (Str.ofString "__firstlineno__")) (.str (Str.ofString "__firstlineno__") 342) (.int 34 341)), (.mk (PyData.keyHash P (Str.ofString "__init__")) (.str (Str.ofString "__init__") 350) (.ref 128)), (.mk (PyData.keyHash P (Str.ofString "__static_attributes__")) (.str (Str.ofString "__static_attributes__") 357) (.ref 129))] 5) #[])
noncomputable def o118 (P : Params) : Obj := (.mk (.type "tuple") .none (.seq #[] 0) #[])
noncomputable def o119 (P : Params) : Obj := (.mk .none .none (.fields #[(.int 36 0), (.int 4 0), (.ref 127)]) #[])
noncomputable def o120 (P : Params) : Obj := (.mk (.type "code") .none (.fields #[(.str (Str.ofString "Head") 333), (.str (Str.ofString "Head") 334), (.str (Str.ofString "/claim/cut.py") 335), (.int 34 0), (.int 0 0), (.int 0 0), (.int 0 0), (.int 0 0), (.ref 118), (.bool .false), (.int 181 0), (.ref 119), .none, .none, .none, .none, (.int 336 0), (.int 34 0), (.str (Str.ofString "/claim/cut.py") 337)]) #[])
noncomputable def o121 (P : Params) : Obj := (.mk (.type "frame") .none .plain #[(.some (.ref 120)), (.some (.ref 3)), (.some (.ref 117)), .none, (.some (.str (Str.ofString "methodrows.lower_functions") 282)), .none, (.some (.ref 0))])
noncomputable def o122 (P : Params) : Obj := (.mk (.type "tuple") .none (.seq #[] 0) #[])
noncomputable def o123 (P : Params) : Obj := (.mk .none .none (.fields #[]) #[])
noncomputable def o124 (P : Params) : Obj := (.mk (.type "tuple") .none (.seq #[(.str (Str.ofString "self") 346), (.str (Str.ofString "callee") 347)] 0) #[])
noncomputable def o125 (P : Params) : Obj := (.mk (.type "tuple") .none (.seq #[] 0) #[])
noncomputable def o126 (P : Params) : Obj := (.mk .none .none (.func (.mk (Str.ofString "__init__") (Str.ofString "Head.__init__") (ar (st2 15 0)) (.stmts (bd (st2 15 0))) (sc (st2 15 0)) 0 [] .none .none .none .none .none .none .none 0)) #[])
noncomputable def o127 (P : Params) : Obj := (.mk (.type "code") .none (.fields #[(.str (Str.ofString "__init__") 343), (.str (Str.ofString "Head.__init__") 344), (.str (Str.ofString "/claim/cut.py") 345), (.int 36 0), (.int 2 0), (.int 0 0), (.int 0 0), (.int 3 0), (.ref 122), (.bool .true), (.int 181 0), (.ref 123), .none, (.ref 124), (.ref 125), (.ref 126), (.int 348 0), (.int 36 0), (.str (Str.ofString "/claim/cut.py") 349)]) #[])
noncomputable def o128 (P : Params) : Obj := (.mk (.type "function") .none (.func (.mk (Str.ofString "__init__") (Str.ofString "Head.__init__") (ar (st2 15 0)) (.stmts (bd (st2 15 0))) (sc (st2 15 0)) 3 [] .none .none .none (.str (Str.ofString "methodrows.lower_functions") 282) .none (.ref 127) .none 0)) #[])
noncomputable def o129 (P : Params) : Obj := (.mk (.type "tuple") .none (.seq #[(.str (Str.ofString "arguments") 351), (.str (Str.ofString "callee") 352), (.str (Str.ofString "keywords") 353), (.str (Str.ofString "patterns") 354), (.str (Str.ofString "result") 355), (.str (Str.ofString "variables") 356)] 0) #[])
noncomputable def o130 (P : Params) : Obj := (.mk (.type "dict") .none (.dict #[(.mk (PyData.keyHash P (Str.ofString "__module__")) (.str (Str.ofString "__module__") 338) (.str (Str.ofString "methodrows.lower_functions") 282)), (.mk (PyData.keyHash P (Str.ofString "__firstlineno__")) (.str (Str.ofString "__firstlineno__") 342) (.int 34 341)), (.mk (PyData.keyHash P (Str.ofString "__init__")) (.str (Str.ofString "__init__") 350) (.ref 128)), (.mk (PyData.keyHash P (Str.ofString "__static_attributes__")) (.str (Str.ofString "__static_attributes__") 357) (.ref 129)), (.mk (PyData.keyHash P (Str.ofString "__dict__")) (.str (Str.ofString "__dict__") 359) (.ref 132)), (.mk (PyData.keyHash P (Str.ofString "__weakref__")) (.str (Str.ofString "__weakref__") 361) (.ref 133)), (.mk (PyData.keyHash P (Str.ofString "__doc__")) (.str (Str.ofString "__doc__") 362) .none)] 4) #[])
noncomputable def o131 (P : Params) : Obj := (.mk (.type "type") .none (.cls (.mk (Str.ofString "Head") [(.type "object")] [(.ref 131), (.type "object")] 130 (Str.ofString "Head") .true [] [] .false .none .false)) #[.none, .none, (.some (.str (Str.ofString "Head") 331)), (.some (.str (Str.ofString "Head") 339)), (.some (.builtin "object.__new__")), (.some (.bool .true))])
noncomputable def o132 (P : Params) : Obj := (.mk (.type "getset_descriptor") .none (.fields #[(.str (Str.ofString "__dict__") 358), (.ref 131), (.builtin "function.__dict__"), (.builtin "function.__dict__#set")]) #[])
noncomputable def o133 (P : Params) : Obj := (.mk (.type "getset_descriptor") .none (.fields #[(.str (Str.ofString "__weakref__") 360), (.ref 131), (.builtin "ExceptionGroup.__weakref__"), .none]) #[])
noncomputable def o134 (P : Params) : Obj := (.mk (.type "super") .none (.fields #[(.ref 131), (.ref 131), (.ref 131)]) #[])
noncomputable def o135 (P : Params) : Obj := (.mk (.type "builtin_function_or_method") .none (.fields #[(.builtin "object.__init_subclass__"), (.ref 131)]) #[])
noncomputable def o136 (P : Params) : Obj := (.mk (.type "tuple") .none (.seq #[] 0) #[])
noncomputable def o137 (P : Params) : Obj := (.mk .none .none (.fields #[]) #[])
noncomputable def o138 (P : Params) : Obj := (.mk (.type "tuple") .none (.seq #[(.str (Str.ofString "trees") 368)] 0) #[])
noncomputable def o139 (P : Params) : Obj := (.mk (.type "tuple") .none (.seq #[] 0) #[])
noncomputable def o140 (P : Params) : Obj := (.mk .none .none (.func (.mk (Str.ofString "block") (Str.ofString "block") (ar (st 16)) (.stmts (bd (st 16))) (sc (st 16)) 0 [] .none .none .none .none .none .none .none 0)) #[])
noncomputable def o141 (P : Params) : Obj := (.mk (.type "code") .none (.fields #[(.str (Str.ofString "block") 365), (.str (Str.ofString "block") 366), (.str (Str.ofString "/claim/cut.py") 367), (.int 43 0), (.int 1 0), (.int 0 0), (.int 0 0), (.int 3 0), (.ref 136), (.bool .true), (.int 181 0), (.ref 137), .none, (.ref 138), (.ref 139), (.ref 140), (.int 369 0), (.int 43 0), (.str (Str.ofString "/claim/cut.py") 370)]) #[])
noncomputable def o142 (P : Params) : Obj := (.mk (.type "function") .none (.func (.mk (Str.ofString "block") (Str.ofString "block") (ar (st 16)) (.stmts (bd (st 16))) (sc (st 16)) 3 [] .none .none .none (.str (Str.ofString "methodrows.lower_functions") 282) .none (.ref 141) .none 0)) #[])
noncomputable def o143 (P : Params) : Obj := (.mk (.type "tuple") .none (.seq #[] 0) #[])
noncomputable def o144 (P : Params) : Obj := (.mk .none .none (.fields #[]) #[])
noncomputable def o145 (P : Params) : Obj := (.mk (.type "tuple") .none (.seq #[(.str (Str.ofString "tree") 375), (.str (Str.ofString "head") 376), (.str (Str.ofString "word") 377), (.str (Str.ofString "parts") 378), (.str (Str.ofString "found") 379)] 0) #[])
noncomputable def o146 (P : Params) : Obj := (.mk (.type "tuple") .none (.seq #[] 0) #[])
noncomputable def o147 (P : Params) : Obj := (.mk .none .none (.func (.mk (Str.ofString "read_argument") (Str.ofString "read_argument") (ar (st 17)) (.stmts (bd (st 17))) (sc (st 17)) 0 [] .none .none .none .none .none .none .none 0)) #[])
noncomputable def o148 (P : Params) : Obj := (.mk (.type "code") .none (.fields #[(.str (Str.ofString "read_argument") 372), (.str (Str.ofString "read_argument") 373), (.str (Str.ofString "/claim/cut.py") 374), (.int 45 0), (.int 2 0), (.int 0 0), (.int 0 0), (.int 3 0), (.ref 143), (.bool .true), (.int 181 0), (.ref 144), .none, (.ref 145), (.ref 146), (.ref 147), (.int 380 0), (.int 45 0), (.str (Str.ofString "/claim/cut.py") 381)]) #[])
noncomputable def o149 (P : Params) : Obj := (.mk (.type "function") .none (.func (.mk (Str.ofString "read_argument") (Str.ofString "read_argument") (ar (st 17)) (.stmts (bd (st 17))) (sc (st 17)) 3 [] .none .none .none (.str (Str.ofString "methodrows.lower_functions") 282) .none (.ref 148) .none 0)) #[])
noncomputable def o150 (P : Params) : Obj := (.mk (.type "tuple") .none (.seq #[] 0) #[])
noncomputable def o151 (P : Params) : Obj := (.mk .none .none (.fields #[]) #[])
noncomputable def o152 (P : Params) : Obj := (.mk (.type "tuple") .none (.seq #[(.str (Str.ofString "head") 386)] 0) #[])
noncomputable def o153 (P : Params) : Obj := (.mk (.type "tuple") .none (.seq #[] 0) #[])
noncomputable def o154 (P : Params) : Obj := (.mk .none .none (.func (.mk (Str.ofString "new_name") (Str.ofString "new_name") (ar (st 18)) (.stmts (bd (st 18))) (sc (st 18)) 0 [] .none .none .none .none .none .none .none 0)) #[])
noncomputable def o155 (P : Params) : Obj := (.mk (.type "code") .none (.fields #[(.str (Str.ofString "new_name") 383), (.str (Str.ofString "new_name") 384), (.str (Str.ofString "/claim/cut.py") 385), (.int 66 0), (.int 1 0), (.int 0 0), (.int 0 0), (.int 3 0), (.ref 150), (.bool .true), (.int 181 0), (.ref 151), .none, (.ref 152), (.ref 153), (.ref 154), (.int 387 0), (.int 66 0), (.str (Str.ofString "/claim/cut.py") 388)]) #[])
noncomputable def o156 (P : Params) : Obj := (.mk (.type "function") .none (.func (.mk (Str.ofString "new_name") (Str.ofString "new_name") (ar (st 18)) (.stmts (bd (st 18))) (sc (st 18)) 3 [] .none .none .none (.str (Str.ofString "methodrows.lower_functions") 282) .none (.ref 155) .none 0)) #[])
noncomputable def o157 (P : Params) : Obj := (.mk (.type "tuple") .none (.seq #[] 0) #[])
noncomputable def o158 (P : Params) : Obj := (.mk .none .none (.fields #[]) #[])
noncomputable def o159 (P : Params) : Obj := (.mk (.type "tuple") .none (.seq #[(.str (Str.ofString "head") 393), (.str (Str.ofString "trees") 394), (.str (Str.ofString "tree") 395), (.str (Str.ofString "part") 396)] 0) #[])
noncomputable def o160 (P : Params) : Obj := (.mk (.type "tuple") .none (.seq #[] 0) #[])
noncomputable def o161 (P : Params) : Obj := (.mk .none .none (.func (.mk (Str.ofString "fill_head") (Str.ofString "fill_head") (ar (st 19)) (.stmts (bd (st 19))) (sc (st 19)) 0 [] .none .none .none .none .none .none .none 0)) #[])
noncomputable def o162 (P : Params) : Obj := (.mk (.type "code") .none (.fields #[(.str (Str.ofString "fill_head") 390), (.str (Str.ofString "fill_head") 391), (.str (Str.ofString "/claim/cut.py") 392), (.int 68 0), (.int 2 0), (.int 0 0), (.int 0 0), (.int 3 0), (.ref 157), (.bool .true), (.int 181 0), (.ref 158), .none, (.ref 159), (.ref 160), (.ref 161), (.int 397 0), (.int 68 0), (.str (Str.ofString "/claim/cut.py") 398)]) #[])
noncomputable def o163 (P : Params) : Obj := (.mk (.type "function") .none (.func (.mk (Str.ofString "fill_head") (Str.ofString "fill_head") (ar (st 19)) (.stmts (bd (st 19))) (sc (st 19)) 3 [] .none .none .none (.str (Str.ofString "methodrows.lower_functions") 282) .none (.ref 162) .none 0)) #[])
noncomputable def o164 (P : Params) : Obj := (.mk (.type "tuple") .none (.seq #[] 0) #[])
noncomputable def o165 (P : Params) : Obj := (.mk .none .none (.fields #[]) #[])
noncomputable def o166 (P : Params) : Obj := (.mk .none .none (.func (.mk (Str.ofString "check_head") (Str.ofString "check_head") (ar (st 20)) (.stmts (bd (st 20))) (sc (st 20)) 0 [] .none .none .none .none .none .none .none 0)) #[])
noncomputable def o167 (P : Params) : Obj := (.mk (.type "code") .none (.fields #[(.str (Str.ofString "check_head") 400), (.str (Str.ofString "check_head") 401), (.str (Str.ofString "/claim/cut.py") 402), (.int 75 0), (.int 1 0), (.int 0 0), (.int 0 0), (.int 3 0), (.ref 164), (.bool .true), (.int 181 0), (.ref 165), .none, .none, .none, (.ref 166), (.int 403 0), (.int 75 0), (.str (Str.ofString "/claim/cut.py") 404)]) #[])
noncomputable def o168 (P : Params) : Obj := (.mk (.type "function") .none (.func (.mk (Str.ofString "check_head") (Str.ofString "check_head") (ar (st 20)) (.stmts (bd (st 20))) (sc (st 20)) 3 [] .none .none .none (.str (Str.ofString "methodrows.lower_functions") 282) .none (.ref 167) .none 0)) #[])
noncomputable def o169 (P : Params) : Obj := (.mk (.type "tuple") .none (.seq #[] 0) #[])
noncomputable def o170 (P : Params) : Obj := (.mk .none .none (.fields #[]) #[])
noncomputable def o171 (P : Params) : Obj := (.mk (.type "tuple") .none (.seq #[(.str (Str.ofString "tree") 409), (.str (Str.ofString "here") 410), (.str (Str.ofString "variables") 411), (.str (Str.ofString "result") 412), (.str (Str.ofString "head") 413)] 0) #[])
noncomputable def o172 (P : Params) : Obj := (.mk (.type "tuple") .none (.seq #[] 0) #[])
noncomputable def o173 (P : Params) : Obj := (.mk .none .none (.func (.mk (Str.ofString "function_head") (Str.ofString "function_head") (ar (st 21)) (.stmts (bd (st 21))) (sc (st 21)) 0 [] .none .none .none .none .none .none .none 0)) #[])
noncomputable def o174 (P : Params) : Obj := (.mk (.type "code") .none (.fields #[(.str (Str.ofString "function_head") 406), (.str (Str.ofString "function_head") 407), (.str (Str.ofString "/claim/cut.py") 408), (.int 88 0), (.int 1 0), (.int 0 0), (.int 0 0), (.int 3 0), (.ref 169), (.bool .true), (.int 181 0), (.ref 170), .none, (.ref 171), (.ref 172), (.ref 173), (.int 414 0), (.int 88 0), (.str (Str.ofString "/claim/cut.py") 415)]) #[])
noncomputable def o175 (P : Params) : Obj := (.mk (.type "function") .none (.func (.mk (Str.ofString "function_head") (Str.ofString "function_head") (ar (st 21)) (.stmts (bd (st 21))) (sc (st 21)) 3 [] .none .none .none (.str (Str.ofString "methodrows.lower_functions") 282) .none (.ref 174) .none 0)) #[])
noncomputable def o176 (P : Params) : Obj := (.mk (.type "tuple") .none (.seq #[] 0) #[])
noncomputable def o177 (P : Params) : Obj := (.mk .none .none (.fields #[]) #[])
noncomputable def o178 (P : Params) : Obj := (.mk (.type "tuple") .none (.seq #[(.str (Str.ofString "tree") 420), (.str (Str.ofString "kind") 421)] 0) #[])
noncomputable def o179 (P : Params) : Obj := (.mk (.type "tuple") .none (.seq #[] 0) #[])
noncomputable def o180 (P : Params) : Obj := (.mk .none .none (.func (.mk (Str.ofString "converted") (Str.ofString "converted") (ar (st 22)) (.stmts (bd (st 22))) (sc (st 22)) 0 [] .none .none .none .none .none .none .none 0)) #[])
noncomputable def o181 (P : Params) : Obj := (.mk (.type "code") .none (.fields #[(.str (Str.ofString "converted") 417), (.str (Str.ofString "converted") 418), (.str (Str.ofString "/claim/cut.py") 419), (.int 107 0), (.int 2 0), (.int 0 0), (.int 0 0), (.int 3 0), (.ref 176), (.bool .true), (.int 181 0), (.ref 177), .none, (.ref 178), (.ref 179), (.ref 180), (.int 422 0), (.int 107 0), (.str (Str.ofString "/claim/cut.py") 423)]) #[])
noncomputable def o182 (P : Params) : Obj := (.mk (.type "function") .none (.func (.mk (Str.ofString "converted") (Str.ofString "converted") (ar (st 22)) (.stmts (bd (st 22))) (sc (st 22)) 3 [] .none .none .none (.str (Str.ofString "methodrows.lower_functions") 282) .none (.ref 181) .none 0)) #[])
noncomputable def o183 (P : Params) : Obj := (.mk (.type "tuple") .none (.seq #[] 0) #[])
noncomputable def o184 (P : Params) : Obj := (.mk .none .none (.fields #[]) #[])
noncomputable def o185 (P : Params) : Obj := (.mk .none .none (.func (.mk (Str.ofString "returns_turned") (Str.ofString "returns_turned") (ar (st 23)) (.stmts (bd (st 23))) (sc (st 23)) 0 [] .none .none .none .none .none .none .none 0)) #[])
noncomputable def o186 (P : Params) : Obj := (.mk (.type "code") .none (.fields #[(.str (Str.ofString "returns_turned") 425), (.str (Str.ofString "returns_turned") 426), (.str (Str.ofString "/claim/cut.py") 427), (.int 109 0), (.int 2 0), (.int 0 0), (.int 0 0), (.int 3 0), (.ref 183), (.bool .true), (.int 181 0), (.ref 184), .none, .none, .none, (.ref 185), (.int 428 0), (.int 109 0), (.str (Str.ofString "/claim/cut.py") 429)]) #[])
noncomputable def o187 (P : Params) : Obj := (.mk (.type "function") .none (.func (.mk (Str.ofString "returns_turned") (Str.ofString "returns_turned") (ar (st 23)) (.stmts (bd (st 23))) (sc (st 23)) 3 [] .none .none .none (.str (Str.ofString "methodrows.lower_functions") 282) .none (.ref 186) .none 0)) #[])
noncomputable def o188 (P : Params) : Obj := (.mk (.type "tuple") .none (.seq #[] 0) #[])
noncomputable def o189 (P : Params) : Obj := (.mk .none .none (.fields #[]) #[])
noncomputable def o190 (P : Params) : Obj := (.mk .none .none (.func (.mk (Str.ofString "whole_body") (Str.ofString "whole_body") (ar (st 24)) (.stmts (bd (st 24))) (sc (st 24)) 0 [] .none .none .none .none .none .none .none 0)) #[])
noncomputable def o191 (P : Params) : Obj := (.mk (.type "code") .none (.fields #[(.str (Str.ofString "whole_body") 431), (.str (Str.ofString "whole_body") 432), (.str (Str.ofString "/claim/cut.py") 433), (.int 116 0), (.int 2 0), (.int 0 0), (.int 0 0), (.int 3 0), (.ref 188), (.bool .true), (.int 181 0), (.ref 189), .none, .none, .none, (.ref 190), (.int 434 0), (.int 116 0), (.str (Str.ofString "/claim/cut.py") 435)]) #[])
noncomputable def o192 (P : Params) : Obj := (.mk (.type "function") .none (.func (.mk (Str.ofString "whole_body") (Str.ofString "whole_body") (ar (st 24)) (.stmts (bd (st 24))) (sc (st 24)) 3 [] .none .none .none (.str (Str.ofString "methodrows.lower_functions") 282) .none (.ref 191) .none 0)) #[])
noncomputable def o193 (P : Params) : Obj := (.mk (.type "tuple") .none (.seq #[] 0) #[])
noncomputable def o194 (P : Params) : Obj := (.mk .none .none (.fields #[]) #[])
noncomputable def o195 (P : Params) : Obj := (.mk (.type "tuple") .none (.seq #[(.str (Str.ofString "script") 442), (.str (Str.ofString "told") 443), (.str (Str.ofString "weight") 444)] 0) #[])
noncomputable def o196 (P : Params) : Obj := (.mk (.type "tuple") .none (.seq #[] 0) #[])
noncomputable def o197 (P : Params) : Obj := (.mk .none .none (.func (.mk (Str.ofString "_law_sack") (Str.ofString "_law_sack") (ar (st 26)) (.stmts (bd (st 26))) (sc (st 26)) 0 [] .none .none .none .none .none .none .none 0)) #[])
noncomputable def o198 (P : Params) : Obj := (.mk (.type "code") .none (.fields #[(.str (Str.ofString "_law_sack") 439), (.str (Str.ofString "_law_sack") 440), (.str (Str.ofString "/claim/cut.py") 441), (.int 124 0), (.int 1 0), (.int 0 0), (.int 0 0), (.int 3 0), (.ref 193), (.bool .true), (.int 181 0), (.ref 194), .none, (.ref 195), (.ref 196), (.ref 197), (.int 445 0), (.int 124 0), (.str (Str.ofString "/claim/cut.py") 446)]) #[])
noncomputable def o199 (P : Params) : Obj := (.mk (.type "function") .none (.func (.mk (Str.ofString "_law_sack") (Str.ofString "_law_sack") (ar (st 26)) (.stmts (bd (st 26))) (sc (st 26)) 3 [] .none .none .none (.str (Str.ofString "law_pc0195_01") 437) .none (.ref 198) .none 0)) #[])
noncomputable def o200 (P : Params) : Obj := (.mk (.type "tuple") .none (.seq #[] 0) #[])
noncomputable def o201 (P : Params) : Obj := (.mk .none .none (.fields #[]) #[])
noncomputable def o202 (P : Params) : Obj := (.mk (.type "tuple") .none (.seq #[(.str (Str.ofString "sack") 451), (.str (Str.ofString "many") 452), (.str (Str.ofString "found") 453)] 0) #[])
noncomputable def o203 (P : Params) : Obj := (.mk (.type "tuple") .none (.seq #[] 0) #[])
noncomputable def o204 (P : Params) : Obj := (.mk .none .none (.func (.mk (Str.ofString "_law_grain") (Str.ofString "_law_grain") (ar (st 27)) (.stmts (bd (st 27))) (sc (st 27)) 0 [] .none .none .none .none .none .none .none 0)) #[])
noncomputable def o205 (P : Params) : Obj := (.mk (.type "code") .none (.fields #[(.str (Str.ofString "_law_grain") 448), (.str (Str.ofString "_law_grain") 449), (.str (Str.ofString "/claim/cut.py") 450), (.int 128 0), (.int 2 0), (.int 0 0), (.int 0 0), (.int 3 0), (.ref 200), (.bool .true), (.int 181 0), (.ref 201), .none, (.ref 202), (.ref 203), (.ref 204), (.int 454 0), (.int 128 0), (.str (Str.ofString "/claim/cut.py") 455)]) #[])
noncomputable def o206 (P : Params) : Obj := (.mk (.type "function") .none (.func (.mk (Str.ofString "_law_grain") (Str.ofString "_law_grain") (ar (st 27)) (.stmts (bd (st 27))) (sc (st 27)) 3 [] .none .none .none (.str (Str.ofString "law_pc0195_01") 437) .none (.ref 205) .none 0)) #[])
noncomputable def o207 (P : Params) : Obj := (.mk (.type "tuple") .none (.seq #[] 0) #[])
noncomputable def o208 (P : Params) : Obj := (.mk .none .none (.fields #[]) #[])
noncomputable def o209 (P : Params) : Obj := (.mk (.type "tuple") .none (.seq #[(.str (Str.ofString "sack") 460)] 0) #[])
noncomputable def o210 (P : Params) : Obj := (.mk (.type "tuple") .none (.seq #[] 0) #[])
noncomputable def o211 (P : Params) : Obj := (.mk .none .none (.func (.mk (Str.ofString "_law_leaf") (Str.ofString "_law_leaf") (ar (st 28)) (.stmts (bd (st 28))) (sc (st 28)) 0 [] .none .none .none .none .none .none .none 0)) #[])
noncomputable def o212 (P : Params) : Obj := (.mk (.type "code") .none (.fields #[(.str (Str.ofString "_law_leaf") 457), (.str (Str.ofString "_law_leaf") 458), (.str (Str.ofString "/claim/cut.py") 459), (.int 135 0), (.int 1 0), (.int 0 0), (.int 0 0), (.int 3 0), (.ref 207), (.bool .true), (.int 181 0), (.ref 208), .none, (.ref 209), (.ref 210), (.ref 211), (.int 461 0), (.int 135 0), (.str (Str.ofString "/claim/cut.py") 462)]) #[])
noncomputable def o213 (P : Params) : Obj := (.mk (.type "function") .none (.func (.mk (Str.ofString "_law_leaf") (Str.ofString "_law_leaf") (ar (st 28)) (.stmts (bd (st 28))) (sc (st 28)) 3 [] .none .none .none (.str (Str.ofString "law_pc0195_01") 437) .none (.ref 212) .none 0)) #[])
noncomputable def o214 (P : Params) : Obj := (.mk (.type "tuple") .none (.seq #[] 0) #[])
noncomputable def o215 (P : Params) : Obj := (.mk .none .none (.fields #[]) #[])
noncomputable def o216 (P : Params) : Obj := (.mk .none .none (.func (.mk (Str.ofString "_law_tree") (Str.ofString "_law_tree") (ar (st 29)) (.stmts (bd (st 29))) (sc (st 29)) 0 [] .none .none .none .none .none .none .none 0)) #[])
noncomputable def o217 (P : Params) : Obj := (.mk (.type "code") .none (.fields #[(.str (Str.ofString "_law_tree") 464), (.str (Str.ofString "_law_tree") 465), (.str (Str.ofString "/claim/cut.py") 466), (.int 137 0), (.int 2 0), (.int 0 0), (.int 0 0), (.int 3 0), (.ref 214), (.bool .true), (.int 181 0), (.ref 215), .none, .none, .none, (.ref 216), (.int 467 0), (.int 137 0), (.str (Str.ofString "/claim/cut.py") 468)]) #[])
noncomputable def o218 (P : Params) : Obj := (.mk (.type "function") .none (.func (.mk (Str.ofString "_law_tree") (Str.ofString "_law_tree") (ar (st 29)) (.stmts (bd (st 29))) (sc (st 29)) 3 [] .none .none .none (.str (Str.ofString "law_pc0195_01") 437) .none (.ref 217) .none 0)) #[])
noncomputable def o219 (P : Params) : Obj := (.mk (.type "tuple") .none (.seq #[] 0) #[])
noncomputable def o220 (P : Params) : Obj := (.mk .none .none (.fields #[]) #[])
noncomputable def o221 (P : Params) : Obj := (.mk .none .none (.func (.mk (Str.ofString "_law_function") (Str.ofString "_law_function") (ar (st 30)) (.stmts (bd (st 30))) (sc (st 30)) 0 [] .none .none .none .none .none .none .none 0)) #[])
noncomputable def o222 (P : Params) : Obj := (.mk (.type "code") .none (.fields #[(.str (Str.ofString "_law_function") 470), (.str (Str.ofString "_law_function") 471), (.str (Str.ofString "/claim/cut.py") 472), (.int 156 0), (.int 2 0), (.int 0 0), (.int 0 0), (.int 3 0), (.ref 219), (.bool .true), (.int 181 0), (.ref 220), .none, .none, .none, (.ref 221), (.int 473 0), (.int 156 0), (.str (Str.ofString "/claim/cut.py") 474)]) #[])
noncomputable def o223 (P : Params) : Obj := (.mk (.type "function") .none (.func (.mk (Str.ofString "_law_function") (Str.ofString "_law_function") (ar (st 30)) (.stmts (bd (st 30))) (sc (st 30)) 3 [] .none .none .none (.str (Str.ofString "law_pc0195_01") 437) .none (.ref 222) .none 0)) #[])
noncomputable def o224 (P : Params) : Obj := (.mk (.type "tuple") .none (.seq #[] 0) #[])
noncomputable def o225 (P : Params) : Obj := (.mk .none .none (.fields #[]) #[])
noncomputable def o226 (P : Params) : Obj := (.mk (.type "tuple") .none (.seq #[(.str (Str.ofString "kind") 479), (.str (Str.ofString "tree") 480)] 0) #[])
noncomputable def o227 (P : Params) : Obj := (.mk (.type "tuple") .none (.seq #[] 0) #[])
noncomputable def o228 (P : Params) : Obj := (.mk .none .none (.func (.mk (Str.ofString "_law_as") (Str.ofString "_law_as") (ar (st 31)) (.stmts (bd (st 31))) (sc (st 31)) 0 [] .none .none .none .none .none .none .none 0)) #[])
noncomputable def o229 (P : Params) : Obj := (.mk (.type "code") .none (.fields #[(.str (Str.ofString "_law_as") 476), (.str (Str.ofString "_law_as") 477), (.str (Str.ofString "/claim/cut.py") 478), (.int 177 0), (.int 2 0), (.int 0 0), (.int 0 0), (.int 3 0), (.ref 224), (.bool .true), (.int 181 0), (.ref 225), .none, (.ref 226), (.ref 227), (.ref 228), (.int 481 0), (.int 177 0), (.str (Str.ofString "/claim/cut.py") 482)]) #[])
noncomputable def o230 (P : Params) : Obj := (.mk (.type "function") .none (.func (.mk (Str.ofString "_law_as") (Str.ofString "_law_as") (ar (st 31)) (.stmts (bd (st 31))) (sc (st 31)) 3 [] .none .none .none (.str (Str.ofString "law_pc0195_01") 437) .none (.ref 229) .none 0)) #[])
noncomputable def o231 (P : Params) : Obj := (.mk (.type "tuple") .none (.seq #[] 0) #[])
noncomputable def o232 (P : Params) : Obj := (.mk .none .none (.fields #[]) #[])
noncomputable def o233 (P : Params) : Obj := (.mk (.type "tuple") .none (.seq #[(.str (Str.ofString "kind") 487), (.str (Str.ofString "tree") 488), (.str (Str.ofString "parts") 489), (.str (Str.ofString "part") 490)] 0) #[])
noncomputable def o234 (P : Params) : Obj := (.mk (.type "tuple") .none (.seq #[] 0) #[])
noncomputable def o235 (P : Params) : Obj := (.mk .none .none (.func (.mk (Str.ofString "_law_due") (Str.ofString "_law_due") (ar (st 32)) (.stmts (bd (st 32))) (sc (st 32)) 0 [] .none .none .none .none .none .none .none 0)) #[])
noncomputable def o236 (P : Params) : Obj := (.mk (.type "code") .none (.fields #[(.str (Str.ofString "_law_due") 484), (.str (Str.ofString "_law_due") 485), (.str (Str.ofString "/claim/cut.py") 486), (.int 179 0), (.int 2 0), (.int 0 0), (.int 0 0), (.int 3 0), (.ref 231), (.bool .true), (.int 181 0), (.ref 232), .none, (.ref 233), (.ref 234), (.ref 235), (.int 491 0), (.int 179 0), (.str (Str.ofString "/claim/cut.py") 492)]) #[])
noncomputable def o237 (P : Params) : Obj := (.mk (.type "function") .none (.func (.mk (Str.ofString "_law_due") (Str.ofString "_law_due") (ar (st 32)) (.stmts (bd (st 32))) (sc (st 32)) 3 [] .none .none .none (.str (Str.ofString "law_pc0195_01") 437) .none (.ref 236) .none 0)) #[])
noncomputable def o238 (P : Params) : Obj := (.mk (.type "tuple") .none (.seq #[] 0) #[])
noncomputable def o239 (P : Params) : Obj := (.mk .none .none (.fields #[]) #[])
noncomputable def o240 (P : Params) : Obj := (.mk (.type "tuple") .none (.seq #[(.str (Str.ofString "script") 497), (.str (Str.ofString "sack") 498), (.str (Str.ofString "kind") 499), (.str (Str.ofString "tree") 500), (.str (Str.ofString "ahead") 501), (.str (Str.ofString "body") 502), (.str (Str.ofString "told") 503), (.str (Str.ofString "due") 504), (.str (Str.ofString "inner") 505), (.str (Str.ofString "fixed") 506)] 0) #[])
noncomputable def o241 (P : Params) : Obj := (.mk (.type "tuple") .none (.seq #[] 0) #[])
noncomputable def o242 (P : Params) : Obj := (.mk .none .none (.func (.mk (Str.ofString "law") (Str.ofString "law") (ar (st 33)) (.stmts (bd (st 33))) (sc (st 33)) 0 [] .none .none .none .none .none .none .none 0)) #[])
noncomputable def o243 (P : Params) : Obj := (.mk (.type "code") .none (.fields #[(.str (Str.ofString "law") 494), (.str (Str.ofString "law") 495), (.str (Str.ofString "/claim/cut.py") 496), (.int 188 0), (.int 1 0), (.int 0 0), (.int 0 0), (.int 3 0), (.ref 238), (.bool .true), (.int 181 0), (.ref 239), .none, (.ref 240), (.ref 241), (.ref 242), (.int 507 0), (.int 188 0), (.str (Str.ofString "/claim/cut.py") 508)]) #[])
noncomputable def o244 (P : Params) : Obj := (.mk (.type "function") .none (.func (.mk (Str.ofString "law") (Str.ofString "law") (ar (st 33)) (.stmts (bd (st 33))) (sc (st 33)) 3 [] .none .none .none (.str (Str.ofString "law_pc0195_01") 437) .none (.ref 243) .none 0)) #[])
/-- the heap behind the top -/
noncomputable def H₁ (P : Params) : Heap := ⟨⟨[boot_o_0 P, boot_o_1 P, o2 P, o3 P, boot_o_4 P, boot_o_5 P, boot_o_6 P, boot_o_7 P, boot_o_8 P, boot_o_9 P, boot_o_10 P, o11 P, o12 P, o13 P, o14 P, o15 P, o16 P, o17 P, o18 P, o19 P, o20 P, o21 P, o22 P, o23 P, o24 P, o25 P, o26 P, o27 P, o28 P, o29 P, o30 P, o31 P, o32 P, o33 P, o34 P, o35 P, o36 P, o37 P, o38 P, o39 P, o40 P, o41 P, o42 P, o43 P, o44 P, o45 P, o46 P, o47 P, o48 P, o49 P, o50 P, o51 P, o52 P, o53 P, o54 P, o55 P, o56 P, o57 P, o58 P, o59 P, o60 P, o61 P, o62 P, o63 P, o64 P, o65 P, o66 P, o67 P, o68 P, o69 P, o70 P, o71 P, o72 P, o73 P, o74 P, o75 P, o76 P, o77 P, o78 P, o79 P, o80 P, o81 P, o82 P, o83 P, o84 P, o85 P, o86 P, o87 P, o88 P, o89 P, o90 P, o91 P, o92 P, o93 P, o94 P, o95 P, o96 P, o97 P, o98 P, o99 P, o100 P, o101 P, o102 P, o103 P, o104 P, o105 P, o106 P, o107 P, o108 P, o109 P, o110 P, o111 P, o112 P, o113 P, o114 P, o115 P, o116 P, o117 P, o118 P, o119 P, o120 P, o121 P, o122 P, o123 P, o124 P, o125 P, o126 P, o127 P, o128 P, o129 P, o130 P, o131 P, o132 P, o133 P, o134 P, o135 P, o136 P, o137 P, o138 P, o139 P, o140 P, o141 P, o142 P, o143 P, o144 P, o145 P, o146 P, o147 P, o148 P, o149 P, o150 P, o151 P, o152 P, o153 P, o154 P, o155 P, o156 P, o157 P, o158 P, o159 P, o160 P, o161 P, o162 P, o163 P, o164 P, o165 P, o166 P, o167 P, o168 P, o169 P, o170 P, o171 P, o172 P, o173 P, o174 P, o175 P, o176 P, o177 P, o178 P, o179 P, o180 P, o181 P, o182 P, o183 P, o184 P, o185 P, o186 P, o187 P, o188 P, o189 P, o190 P, o191 P, o192 P, o193 P, o194 P, o195 P, o196 P, o197 P, o198 P, o199 P, o200 P, o201 P, o202 P, o203 P, o204 P, o205 P, o206 P, o207 P, o208 P, o209 P, o210 P, o211 P, o212 P, o213 P, o214 P, o215 P, o216 P, o217 P, o218 P, o219 P, o220 P, o221 P, o222 P, o223 P, o224 P, o225 P, o226 P, o227 P, o228 P, o229 P, o230 P, o231 P, o232 P, o233 P, o234 P, o235 P, o236 P, o237 P, o238 P, o239 P, o240 P, o241 P, o242 P, o243 P, o244 P]⟩, (boot_heap P).life⟩
/-- its written part -/
noncomputable def KK (P : Params) : Frag := [(2, o2 P), (3, o3 P), (15, o15 P), (22, o22 P), (23, o23 P), (25, o25 P), (26, o26 P), (28, o28 P), (29, o29 P), (30, o30 P), (31, o31 P), (32, o32 P), (33, o33 P), (36, o36 P), (43, o43 P), (44, o44 P), (45, o45 P), (48, o48 P), (50, o50 P), (51, o51 P), (53, o53 P), (54, o54 P), (55, o55 P), (57, o57 P), (58, o58 P), (60, o60 P), (61, o61 P), (62, o62 P), (64, o64 P), (65, o65 P), (67, o67 P), (68, o68 P), (69, o69 P), (71, o71 P), (72, o72 P), (74, o74 P), (75, o75 P), (76, o76 P), (78, o78 P), (79, o79 P), (81, o81 P), (82, o82 P), (83, o83 P), (85, o85 P), (86, o86 P), (88, o88 P), (89, o89 P), (91, o91 P), (92, o92 P), (93, o93 P), (101, o101 P), (103, o103 P), (104, o104 P), (106, o106 P), (107, o107 P), (108, o108 P), (109, o109 P), (110, o110 P), (111, o111 P), (112, o112 P), (122, o122 P), (124, o124 P), (125, o125 P), (127, o127 P), (128, o128 P), (129, o129 P), (130, o130 P), (131, o131 P), (132, o132 P), (133, o133 P), (136, o136 P), (138, o138 P), (139, o139 P), (141, o141 P), (142, o142 P), (143, o143 P), (145, o145 P), (146, o146 P), (148, o148 P), (149, o149 P), (150, o150 P), (152, o152 P), (153, o153 P), (155, o155 P), (156, o156 P), (157, o157 P), (159, o159 P), (160, o160 P), (162, o162 P), (163, o163 P), (164, o164 P), (167, o167 P), (168, o168 P), (169, o169 P), (171, o171 P), (172, o172 P), (174, o174 P), (175, o175 P), (176, o176 P), (178, o178 P), (179, o179 P), (181, o181 P), (182, o182 P), (183, o183 P), (186, o186 P), (187, o187 P), (188, o188 P), (191, o191 P), (192, o192 P), (193, o193 P), (195, o195 P), (196, o196 P), (198, o198 P), (199, o199 P), (200, o200 P), (202, o202 P), (203, o203 P), (205, o205 P), (206, o206 P), (207, o207 P), (209, o209 P), (210, o210 P), (212, o212 P), (213, o213 P), (214, o214 P), (217, o217 P), (218, o218 P), (219, o219 P), (222, o222 P), (223, o223 P), (224, o224 P), (226, o226 P), (227, o227 P), (229, o229 P), (230, o230 P), (231, o231 P), (233, o233 P), (234, o234 P), (236, o236 P), (237, o237 P), (238, o238 P), (240, o240 P), (241, o241 P), (243, o243 P), (244, o244 P)]
abbrev kas : List Addr := [2, 3, 15, 22, 23, 25, 26, 28, 29, 30, 31, 32, 33, 36, 43, 44, 45, 48, 50, 51, 53, 54, 55, 57, 58, 60, 61, 62, 64, 65, 67, 68, 69, 71, 72, 74, 75, 76, 78, 79, 81, 82, 83, 85, 86, 88, 89, 91, 92, 93, 101, 103, 104, 106, 107, 108, 109, 110, 111, 112, 122, 124, 125, 127, 128, 129, 130, 131, 132, 133, 136, 138, 139, 141, 142, 143, 145, 146, 148, 149, 150, 152, 153, 155, 156, 157, 159, 160, 162, 163, 164, 167, 168, 169, 171, 172, 174, 175, 176, 178, 179, 181, 182, 183, 186, 187, 188, 191, 192, 193, 195, 196, 198, 199, 200, 202, 203, 205, 206, 207, 209, 210, 212, 213, 214, 217, 218, 219, 222, 223, 224, 226, 227, 229, 230, 231, 233, 234, 236, 237, 238, 240, 241, 243, 244]
/-- the view: the statements that bind what is read -/
def vw : Program := { prog with main := { prog.main with body := [st 1, st 2, st 4, st 5, st 6, st 7, st 8, st 9, st 11, st 12, st 13, st 14, st 15, st 16, st 17, st 18, st 19, st 20, st 21, st 22, st 23, st 24, st 26, st 27, st 28, st 29, st 30, st 31, st 32, st 33] } }
abbrev loose : List Str := [Str.ofString "RowsError", Str.ofString "SELF"]
abbrev lv : List (Str × WData) := [(Str.ofString "SELF", WData.tuple [WData.str ⟨#[115, 121, 109]⟩, WData.str ⟨#[35, 115, 101, 108, 102]⟩])]
noncomputable abbrev hook : Hook := kHook KK kas (fun _ => by kernel_rfl)
noncomputable abbrev Xt (s : Shared) : Bool := xlAt vw lv s && recOk row.row.records s
theorem and_t {a b : Bool} (h : a = true) (k : b = true) : (a && b) = true := by rw [h, k]; rfl
set_option maxRecDepth 1000000 in
set_option maxHeartbeats 8000000 in
theorem said : row.wellSaid = true := by
  have h : PySem.W.Fast.tw9446332074065402090 row = true := by
    unfold PySem.W.Fast.tw9446332074065402090 PySem.W.Fast.tw17960256430627541270 PySem.W.Fast.tw2436336058641802641 PySem.W.Fast.tw12908688711261696721
    repeat' (with_reducible refine and_t ?_ ?_)
    all_goals decide +kernel
  rw [PySem.W.Fast.te9446332074065402090]; exact h
set_option maxRecDepth 1000000 in
set_option maxHeartbeats 8000000 in
theorem ran (w : World) (os : OsState) : topRun treeTable prog w 11 (some (.ref 6)) 1697 ⟨boot_heap w.params, Array.mk [], boot_drawn, boot_toks, os⟩ (topStub prog) = some ⟨H₁ w.params, Array.mk [], ⟨0, 0, 0, 0⟩, 510, os⟩ := by
  have h : PySem.W.Fast.tw14082659384304107361 PySem.W.Fast.tw14364793385576792824 prog w 11 (some (.ref 6)) 1697 ⟨boot_heap w.params, Array.mk [], boot_drawn, boot_toks, os⟩ (topStub prog) = some ⟨H₁ w.params, Array.mk [], ⟨0, 0, 0, 0⟩, 510, os⟩ := by kernel_rfl
  rw [PySem.W.Fast.te14082659384304107361, PySem.W.Fast.te14364793385576792824]; exact h
set_option maxRecDepth 1000000 in
set_option maxHeartbeats 8000000 in
theorem looked (w : World) (os : OsState) : ((staticsOk (importedModules prog.main.body) (boot_heap w.params) (H₁ w.params) && namesBound prog (H₁ w.params) && gensDone ⟨H₁ w.params, Array.mk [], ⟨0, 0, 0, 0⟩, 510, os⟩ && laidKept (boot_heap w.params) (H₁ w.params)),
    openSeen vw loose (importedModules prog.main.body) Xt true ⟨H₁ w.params, Array.mk [], ⟨0, 0, 0, 0⟩, 510, os⟩, hook.obs ⟨H₁ w.params, Array.mk [], ⟨0, 0, 0, 0⟩, 510, os⟩) = (true, openGood vw loose, hook.val w) := by
  have h : ((staticsOk (PySem.W.Fast.tw5923862056798008813 prog.main.body) (boot_heap w.params) (H₁ w.params) && namesBound prog (H₁ w.params) && gensDone ⟨H₁ w.params, Array.mk [], ⟨0, 0, 0, 0⟩, 510, os⟩ && laidKept (boot_heap w.params) (H₁ w.params)),
    PySem.W.Fast.tw4187177175401517315 vw loose (PySem.W.Fast.tw5923862056798008813 prog.main.body) Xt true ⟨H₁ w.params, Array.mk [], ⟨0, 0, 0, 0⟩, 510, os⟩, hook.obs ⟨H₁ w.params, Array.mk [], ⟨0, 0, 0, 0⟩, 510, os⟩) = (true, openGood vw loose, hook.val w) := by kernel_rfl
  rw [PySem.W.Fast.te4187177175401517315, PySem.W.Fast.te5923862056798008813]; exact h
set_option maxRecDepth 1000000 in
set_option maxHeartbeats 8000000 in
theorem left : LeftO prog vw loose Xt hook.obs hook.val 3480 true :=
  .of_pieces (m₀ := 11) (ann := some (.ref 6)) (M := 1697) (boot_open (by kernel_rfl) (by decide) fun _ => by kernel_rfl) (fun _ => by kernel_rfl) ran (by decide) fun w => funext fun os => looked w os
noncomputable def dLaw : DefRec := { name := Str.ofString "law", params := ar (st 33), body := bd (st 33), scope := sc (st 33), pos := pn (st 33) }
abbrev WalkT : Prop := WalkO vw loose (XL vw lv) hook.says row.row.toRowW dLaw [] fun f vs => PySem.call f vs
set_option maxRecDepth 1000000 in
set_option maxHeartbeats 8000000 in
theorem hd (walk : WalkT) : PySem.Challenge.rw_pc0195_01.Holds := by
  rw [row_is]
  exact holds_law said fun s => holds_open (r := row.row) (q := vw) (loose := loose) (Xt := Xt) (XP := XL vw lv) (Yf := hook.obs) (Ya := hook.val) (YP := hook.says) (d := dLaw) (kwd := []) (N := 3480) left hook.of hook.keeps (fun s e => xl_of s (Bool.and_eq_true_iff.mp e).1) XL.keeps (by kernel_rfl) (by kernel_rfl) (by kernel_rfl) (fun s e => recFacts_of (Bool.and_eq_true_iff.mp e).2) (by kernel_rfl) s (by kernel_rfl) ⟨rfl, rfl, rfl, rfl, rfl, by decide +kernel⟩ (by w_witness2) walk
end Mine
namespace Mine
open PySem PySem.W PyProof.Rows PySem.Spec PySem.Calls
set_option linter.all false
/-- a call of the def at f, the sack ahead of its arguments: the sack alone is turned -/
def SackTells (w : World) (f : Addr) (args : List Value) (sz : Nat) (Out : Heap → List (Addr × Obj) → Value → Prop) : Prop :=
  ∀ (mean : ExcName → Option Value) (mg mb : Str → Option Value) (dp un : Nat) (gd : Option (List Code)) (cn : Str) (cs : Scope) (a : Addr) (ccd : Value) (cl : List (Str × Addr)) (outer : List Env) (A₀ : Around) (base h₀ : Heap) (L : Addr) (m : Str → Option Value) (s : Shared)
    (sk : Addr) (x y : Int) (tx ty : Tok) (n : Nat) (Q E : Value → Shared → Prop),
    Below A₀ base outer h₀ → Fr h₀ L s.heap m → (KK w.params).In h₀ → News h₀ L s.heap [(sk, W.listOf #[.int x tx, .int y ty] n)] →
    Top vw (looseW vw [Str.ofString "RowsError", Str.ofString "SELF"]) mean mg mb h₀ → cs.kind = .function →
    0 ≤ x → 0 ≤ y → y < 4294967296 → dp + sz < recursionLimit → un + 8 * sz < cLine →
    (∀ r h' tk' x' y' tx' ty' n' tl, Fr h₀ L h' m → News h₀ L h' ((sk, W.listOf #[.int x' tx', .int y' ty'] n') :: tl) → (∀ p ∈ tl, s.heap.get? p.1 = none) →
      (∀ b o, s.heap.get? b = some o → b ≠ sk → h'.get? b = some o) → 0 ≤ x' → 0 ≤ y' → y' < 4294967296 → Out h₀ tl r → Q r { s with heap := h', toks := tk' }) →
    wpAny (model row.row.prog w) (ktrTop dp un gd cn cs L a ccd cl outer) (call (.ref f) (.ref sk :: args)) Q E s

def GrainOut (many : Int) (_ : Heap) (tl : List (Addr × Obj)) (r : Value) : Prop := tl = [] ∧ ∃ i tk, r = .int i tk ∧ 0 ≤ i ∧ i < many

theorem keep_of {H g h : Heap} {L : Addr} {m : Str → Option Value} {sk : Addr} (G : GSub H g [sk]) (F : Fr g L h m) : ∀ b o, H.get? b = some o → b ≠ sk → h.get? b = some o :=
  fun b o e ne => F.keep b o (G b o e (by simpa using ne))
end Mine
namespace Mine
open PySem PySem.W PyProof.Rows PySem.Spec PySem.Calls
set_option linter.all false
theorem updF_mem {d : Addr} {o : Obj} {l : List (Addr × Obj)} {g : Obj → List (Addr × Obj)} (U : UpdF d o l g) : (d, o) ∈ l := by
  obtain ⟨pre, post, rfl, _⟩ := U.split
  exact List.mem_append.mpr (.inr (.head _))
theorem updF_news {d : Addr} {o o' : Obj} {l : List (Addr × Obj)} {g : Obj → List (Addr × Obj)} {h₀ h h' : Heap} {L : Addr} (U : UpdF d o l g) (N : News h₀ L h l) (k : ∀ b x, h.get? b = some x → b ≠ d → h'.get? b = some x) (e : h'.get? d = some o') : News h₀ L h' (g o') := by
  obtain ⟨pre, post, rfl, hg, h1, h2⟩ := U.split
  rw [hg]
  intro p hp
  rcases List.mem_append.mp hp with hp | hp
  · have q := N p (List.mem_append.mpr (.inl hp))
    exact ⟨k _ _ q.1 (h1 p hp), q.2⟩
  · rcases List.mem_cons.mp hp with rfl | hp
    · have q := N (d, o) (List.mem_append.mpr (.inr (.head _)))
      exact ⟨e, q.2⟩
    · have q := N p (List.mem_append.mpr (.inr (.tail _ hp)))
      exact ⟨k _ _ q.1 (h2 p hp), q.2⟩
theorem news_app {h₀ h : Heap} {L : Addr} {l r : List (Addr × Obj)} (N : News h₀ L h l) (M : News h₀ L h r) : News h₀ L h (l ++ r) := fun p hp =>
  (List.mem_append.mp hp).elim (N p) (M p)
theorem sack_use {w : World} {f : Addr} {args : List Value} {sz : Nat} {Out : Heap → List (Addr × Obj) → Value → Prop} {mean : ExcName → Option Value} {mg mb : Str → Option Value} {dp un : Nat} {gd : Option (List Code)} {cn : Str} {cs : Scope} {a : Addr} {ccd : Value} {cl : List (Str × Addr)} {outer : List Env} {A₀ : Around} {base h₀ : Heap} {L : Addr} {m : Str → Option Value} {s : Shared}
    {sk : Addr} {x y : Int} {tx ty : Tok} {n : Nat} {Q E : Value → Shared → Prop} {news : List (Addr × Obj)} {g : Obj → List (Addr × Obj)}
    (C : SackTells w f args sz Out) (B : Below A₀ base outer h₀) (F : Fr h₀ L s.heap m) (X : (KK w.params).In h₀) (N : News h₀ L s.heap news) (T : Top vw (looseW vw [Str.ofString "RowsError", Str.ofString "SELF"]) mean mg mb h₀) (hk : cs.kind = .function)
    (U : UpdF sk (W.listOf #[.int x tx, .int y ty] n) news g) (hx : 0 ≤ x) (hy : 0 ≤ y) (hy2 : y < 4294967296) (hd : dp + sz < recursionLimit) (hu : un + 8 * sz < cLine)
    (ret : ∀ r h' tk' x' y' tx' ty' n' tl, Fr h₀ L h' m → News h₀ L h' (g (W.listOf #[.int x' tx', .int y' ty'] n') ++ tl) → OwnOff tl (news.map (·.1)) → 0 ≤ x' → 0 ≤ y' → y' < 4294967296 → Out h₀ tl r → Q r { s with heap := h', toks := tk' }) :
    wpAny (model row.row.prog w) (ktrTop dp un gd cn cs L a ccd cl outer) (call (.ref f) (.ref sk :: args)) Q E s := by
  refine C mean mg mb dp un gd cn cs a ccd cl outer A₀ base h₀ L m s sk x y tx ty n Q E B F X (fun p hp => N p (by rw [List.mem_singleton.mp hp]; exact updF_mem U)) T hk hx hy hy2 hd hu ?_
  intro r h' tk' x' y' tx' ty' n' tl F' N' ho kp h1 h2 h3 out
  refine ret r h' tk' x' y' tx' ty' n' tl F' (news_app (updF_news U N kp (N'.get (.head _))) fun p hp => N' p (.tail _ hp)) (fun p hp b hb e => ?_) h1 h2 h3 out
  obtain ⟨q, hq, rfl⟩ := List.mem_map.mp hb
  have := ho p hp
  rw [e, (N q hq).1] at this
  cases this

theorem off_all {tl : List (Addr × Obj)} {adr : List Addr} {d : Addr} (h : OwnOff tl adr) (hd : d ∈ adr) : ∀ p ∈ tl, p.1 ≠ d := fun p hp => h p hp d hd

inductive Cut (d : Addr) (o : Obj) : List (Addr × Obj) → List (Addr × Obj) → Prop
  | head {r} : (∀ p ∈ r, p.1 ≠ d) → Cut d o ((d, o) :: r) r
  | tail {p r r'} : p.1 ≠ d → Cut d o r r' → Cut d o (p :: r) (p :: r')
theorem Cut.mem {d : Addr} {o : Obj} {l r : List (Addr × Obj)} (C : Cut d o l r) : (d, o) ∈ l := by
  induction C with
  | head _ => exact .head _
  | tail _ _ ih => exact .tail _ ih
theorem Cut.sub {d : Addr} {o : Obj} {l r : List (Addr × Obj)} (C : Cut d o l r) : ∀ p ∈ r, p ∈ l ∧ p.1 ≠ d := by
  induction C with
  | head h => exact fun p hp => ⟨.tail _ hp, h p hp⟩
  | tail h _ ih =>
    intro p hp
    rcases List.mem_cons.mp hp with rfl | hp
    · exact ⟨.head _, h⟩
    · exact ⟨.tail _ (ih p hp).1, (ih p hp).2⟩
theorem cut_news {d : Addr} {o : Obj} {l r : List (Addr × Obj)} {h₀ h : Heap} {L : Addr} (C : Cut d o l r) (N : News h₀ L h l) : News h₀ L h ((d, o) :: r) := by
  intro p hp
  rcases List.mem_cons.mp hp with rfl | hp
  · exact N _ C.mem
  · exact N _ (C.sub p hp).1
theorem cut_off {H g h : Heap} {L d : Addr} {o : Obj} {l r : List (Addr × Obj)} (G : GSub H g [d]) (C : Cut d o l r) (N : News g L h l) : ∀ p ∈ r, H.get? p.1 = none := by
  intro p hp
  obtain ⟨h1, h2⟩ := C.sub p hp
  cases e : H.get? p.1 with
  | none => rfl
  | some x =>
    have := G _ _ e (by simpa using h2)
    rw [(N p h1).2.2] at this
    cases this

theorem sack_end {Out : Heap → List (Addr × Obj) → Value → Prop} {h₀ g h : Heap} {L L' : Addr} {m m' : Str → Option Value} {s : Shared} {sk : Addr} {Q : Value → Shared → Prop} {x y : Int} {tx ty : Tok} {n tk : Nat} {nw tl : List (Addr × Obj)} {r : Value}
    (hret : ∀ r h' tk' x' y' tx' ty' n' tl, Fr h₀ L h' m → News h₀ L h' ((sk, W.listOf #[.int x' tx', .int y' ty'] n') :: tl) → (∀ p ∈ tl, s.heap.get? p.1 = none) →
      (∀ b o, s.heap.get? b = some o → b ≠ sk → h'.get? b = some o) → 0 ≤ x' → 0 ≤ y' → y' < 4294967296 → Out h₀ tl r → Q r { s with heap := h', toks := tk' })
    (kN : News h₀ L h nw) (C : Cut sk (W.listOf #[.int x tx, .int y ty] n) nw tl) (gN : News g L' h nw) (GS : GSub s.heap g [sk]) (kF : Fr h₀ L h m) (gF : Fr g L' h m') (hx : 0 ≤ x) (hy : 0 ≤ y) (hz : y < 4294967296) (out : Out h₀ tl r) :
    Q r { s with heap := h, toks := tk } :=
  hret r h tk x y tx ty n tl kF (cut_news C kN) (cut_off GS C gN) (keep_of GS gF) hx hy hz out

/-- the law's trees -/
inductive Tr where
  | int (i : Int)
  | sym (x : Str)
  | nothing
  | node (w : Str) (ps : List Tr)
mutual
inductive TrIn (news : List (Addr × Obj)) : Value → Tr → Prop
  | int {a : Addr} {i : Int} {t t' : Tok} {n : Nat} : (a, ({ cls := .type "tuple", data := .seq #[.str (Str.ofString "int") t, .int i t'] n } : Obj)) ∈ news → TrIn news (.ref a) (.int i)
  | sym {a : Addr} {x : Str} {t t' : Tok} {n : Nat} : (a, ({ cls := .type "tuple", data := .seq #[.str (Str.ofString "sym") t, .str x t'] n } : Obj)) ∈ news → TrIn news (.ref a) (.sym x)
  | nothing {a : Addr} {t : Tok} {n : Nat} : (a, ({ cls := .type "tuple", data := .seq #[.str (Str.ofString "nothing") t] n } : Obj)) ∈ news → TrIn news (.ref a) .nothing
  | node {a b : Addr} {w : Str} {t t' : Tok} {n n' : Nat} {vs : List Value} {ps : List Tr} : (a, ({ cls := .type "tuple", data := .seq #[.str (Str.ofString "expr") t, .str w t', .ref b] n } : Obj)) ∈ news →
      (b, ({ cls := .type "tuple", data := .seq vs.toArray n' } : Obj)) ∈ news → TrAll news vs ps → TrIn news (.ref a) (.node w ps)
inductive TrAll (news : List (Addr × Obj)) : List Value → List Tr → Prop
  | nil : TrAll news [] []
  | cons {v : Value} {vs : List Value} {d : Tr} {ds : List Tr} : TrIn news v d → TrAll news vs ds → TrAll news (v :: vs) (d :: ds)
end
mutual
theorem TrIn.mono {news news' : List (Addr × Obj)} (hs : ∀ p ∈ news, p ∈ news') : ∀ {v : Value} {d : Tr}, TrIn news v d → TrIn news' v d
  | _, _, .int h => .int (hs _ h)
  | _, _, .sym h => .sym (hs _ h)
  | _, _, .nothing h => .nothing (hs _ h)
  | _, _, .node h k r => .node (hs _ h) (hs _ k) (TrAll.mono hs r)
theorem TrAll.mono {news news' : List (Addr × Obj)} (hs : ∀ p ∈ news, p ∈ news') : ∀ {vs : List Value} {ds : List Tr}, TrAll news vs ds → TrAll news' vs ds
  | _, _, .nil => .nil
  | _, _, .cons h r => .cons (TrIn.mono hs h) (TrAll.mono hs r)
end
section
variable {news : List (Addr × Obj)} {a b : Addr} {s w x : Str} {t t' : Tok} {n n' : Nat} {i : Int} {vs : List Value} {ps : List Tr}
theorem trin_int (h : (a, ({ cls := .type "tuple", data := .seq #[.str s t, .int i t'] n } : Obj)) ∈ news) (e : s = Str.ofString "int") : TrIn news (.ref a) (.int i) := by subst e; exact .int h
theorem trin_sym (h : (a, ({ cls := .type "tuple", data := .seq #[.str s t, .str x t'] n } : Obj)) ∈ news) (e : s = Str.ofString "sym") : TrIn news (.ref a) (.sym x) := by subst e; exact .sym h
theorem trin_nothing (h : (a, ({ cls := .type "tuple", data := .seq #[.str s t] n } : Obj)) ∈ news) (e : s = Str.ofString "nothing") : TrIn news (.ref a) .nothing := by subst e; exact .nothing h
theorem trin_node (h : (a, ({ cls := .type "tuple", data := .seq #[.str s t, .str w t', .ref b] n } : Obj)) ∈ news) (e : s = Str.ofString "expr") (k : (b, ({ cls := .type "tuple", data := .seq vs.toArray n' } : Obj)) ∈ news) (r : TrAll news vs ps) :
    TrIn news (.ref a) (.node w ps) := by subst e; exact .node h k r
end
/-- the shapes that the law builds; k: the floors that may stand below -/
inductive Ok : Nat → Tr → Prop
  | int (k : Nat) (i : Int) : Ok k (.int i)
  | symx (k : Nat) : Ok k (.sym (Str.ofString "x"))
  | symc (k : Nat) : Ok k (.sym (Str.ofString "c"))
  | syme (k : Nat) : Ok k (.sym (Str.ofString "e"))
  | symg (k : Nat) : Ok k (.sym (Str.ofString "g"))
  | symh (k : Nat) : Ok k (.sym (Str.ofString "h"))
  | symy (k : Nat) : Ok k (.sym (Str.ofString "y"))
  | nothing (k : Nat) : Ok k .nothing
  | ret0 (k : Nat) : Ok (k + 1) (.node (Str.ofString "return") [])
  | ret1 {k : Nat} {a : Tr} : Ok k a → Ok (k + 1) (.node (Str.ofString "return") [a])
  | block1 {k : Nat} {a : Tr} : Ok k a → Ok (k + 1) (.node (Str.ofString "block") [a])
  | block2 {k : Nat} {a b : Tr} : Ok k a → Ok k b → Ok (k + 1) (.node (Str.ofString "block") [a, b])
  | if2 {k : Nat} {a b : Tr} : Ok k a → Ok k b → Ok (k + 1) (.node (Str.ofString "if") [a, b])
  | if3 {k : Nat} {a b c : Tr} : Ok k a → Ok k b → Ok k c → Ok (k + 1) (.node (Str.ofString "if") [a, b, c])
  | while2 {k : Nat} {a b : Tr} : Ok k a → Ok k b → Ok (k + 1) (.node (Str.ofString "while") [a, b])
  | try3 {k : Nat} {a b c : Tr} : Ok k a → Ok k b → Ok k c → Ok (k + 1) (.node (Str.ofString "try") [a, b, c])
  | arrow2 {k : Nat} {a b : Tr} : Ok k a → Ok k b → Ok (k + 1) (.node (Str.ofString "->") [a, b])
  | quote1 {k : Nat} {a : Tr} : Ok k a → Ok (k + 1) (.node (Str.ofString "quote") [a])
  | function2 {k : Nat} {a b : Tr} : Ok k a → Ok k b → Ok (k + 1) (.node (Str.ofString "function") [a, b])
  | call1 {k : Nat} {a : Tr} : Ok k a → Ok (k + 1) (.node (Str.ofString "call") [a])
  | call2 {k : Nat} {a b : Tr} : Ok k a → Ok k b → Ok (k + 1) (.node (Str.ofString "call") [a, b])
  | call3 {k : Nat} {a b c : Tr} : Ok k a → Ok k b → Ok k c → Ok (k + 1) (.node (Str.ofString "call") [a, b, c])
theorem Ok.more {k : Nat} {t : Tr} (h : Ok k t) : ∀ {n : Nat}, k ≤ n → Ok n t := by
  induction h with
  | int k i => intro n _; exact .int n i
  | symx k => intro n _; exact .symx n
  | symc k => intro n _; exact .symc n
  | syme k => intro n _; exact .syme n
  | symg k => intro n _; exact .symg n
  | symh k => intro n _; exact .symh n
  | symy k => intro n _; exact .symy n
  | nothing k => intro n _; exact .nothing n
  | ret0 k => intro n hn; obtain ⟨q, rfl⟩ := Nat.exists_eq_add_of_le hn; rw [Nat.add_right_comm]; exact .ret0 _
  | ret1 _ i1 => intro n hn; obtain ⟨q, rfl⟩ := Nat.exists_eq_add_of_le hn; rw [Nat.add_right_comm]; exact .ret1 (i1 (Nat.le_add_right _ _))
  | block1 _ i1 => intro n hn; obtain ⟨q, rfl⟩ := Nat.exists_eq_add_of_le hn; rw [Nat.add_right_comm]; exact .block1 (i1 (Nat.le_add_right _ _))
  | block2 _ _ i1 i2 => intro n hn; obtain ⟨q, rfl⟩ := Nat.exists_eq_add_of_le hn; rw [Nat.add_right_comm]; exact .block2 (i1 (Nat.le_add_right _ _)) (i2 (Nat.le_add_right _ _))
  | if2 _ _ i1 i2 => intro n hn; obtain ⟨q, rfl⟩ := Nat.exists_eq_add_of_le hn; rw [Nat.add_right_comm]; exact .if2 (i1 (Nat.le_add_right _ _)) (i2 (Nat.le_add_right _ _))
  | if3 _ _ _ i1 i2 i3 => intro n hn; obtain ⟨q, rfl⟩ := Nat.exists_eq_add_of_le hn; rw [Nat.add_right_comm]; exact .if3 (i1 (Nat.le_add_right _ _)) (i2 (Nat.le_add_right _ _)) (i3 (Nat.le_add_right _ _))
  | while2 _ _ i1 i2 => intro n hn; obtain ⟨q, rfl⟩ := Nat.exists_eq_add_of_le hn; rw [Nat.add_right_comm]; exact .while2 (i1 (Nat.le_add_right _ _)) (i2 (Nat.le_add_right _ _))
  | try3 _ _ _ i1 i2 i3 => intro n hn; obtain ⟨q, rfl⟩ := Nat.exists_eq_add_of_le hn; rw [Nat.add_right_comm]; exact .try3 (i1 (Nat.le_add_right _ _)) (i2 (Nat.le_add_right _ _)) (i3 (Nat.le_add_right _ _))
  | arrow2 _ _ i1 i2 => intro n hn; obtain ⟨q, rfl⟩ := Nat.exists_eq_add_of_le hn; rw [Nat.add_right_comm]; exact .arrow2 (i1 (Nat.le_add_right _ _)) (i2 (Nat.le_add_right _ _))
  | quote1 _ i1 => intro n hn; obtain ⟨q, rfl⟩ := Nat.exists_eq_add_of_le hn; rw [Nat.add_right_comm]; exact .quote1 (i1 (Nat.le_add_right _ _))
  | function2 _ _ i1 i2 => intro n hn; obtain ⟨q, rfl⟩ := Nat.exists_eq_add_of_le hn; rw [Nat.add_right_comm]; exact .function2 (i1 (Nat.le_add_right _ _)) (i2 (Nat.le_add_right _ _))
  | call1 _ i1 => intro n hn; obtain ⟨q, rfl⟩ := Nat.exists_eq_add_of_le hn; rw [Nat.add_right_comm]; exact .call1 (i1 (Nat.le_add_right _ _))
  | call2 _ _ i1 i2 => intro n hn; obtain ⟨q, rfl⟩ := Nat.exists_eq_add_of_le hn; rw [Nat.add_right_comm]; exact .call2 (i1 (Nat.le_add_right _ _)) (i2 (Nat.le_add_right _ _))
  | call3 _ _ _ i1 i2 i3 => intro n hn; obtain ⟨q, rfl⟩ := Nat.exists_eq_add_of_le hn; rw [Nat.add_right_comm]; exact .call3 (i1 (Nat.le_add_right _ _)) (i2 (Nat.le_add_right _ _)) (i3 (Nat.le_add_right _ _))

def TreeOut (k : Nat) (_ : Heap) (tl : List (Addr × Obj)) (r : Value) : Prop := ∃ t, Ok k t ∧ TrIn tl r t
theorem out_intro {k : Nat} {h : Heap} {tl : List (Addr × Obj)} {r : Value} {t : Tr} (ht : TrIn tl r t) (hk : Ok k t) : TreeOut k h tl r := ⟨t, hk, ht⟩
end Mine
namespace Mine
open PySem PySem.W PyProof.Rows PySem.Spec PySem.Calls
set_option linter.all false
/-- the entry of a def that has cells, with what stays of the caller's heap -/
theorem enter_cells {prog : Program} {w : World} {A A₀ : Around} {s : Shared} {base h₀ : Heap} {L : Addr} {m : Str → Option Value} {news : List (Addr × Obj)} {K : Frag} {p : Program} {loose : List Str} {mean : ExcName → Option Value} {mg mb : Str → Option Value}
    {env : Env} {outer : List Env} {R : Result → Shared → Prop} {name qual : Str} {params : Arguments} {body : List Stmt} {scope : Scope} {dV kV doc pm cdv ct oc : Value} {an od : Option Addr} {osl : Array (Option Value)} {f : Addr} {args : Args} {binds : List (Str × Value)}
    (B : Below A₀ base outer h₀) (F : Fr h₀ L s.heap m) (X₀ : K.In h₀) (N : News h₀ L s.heap news) (T : Top p loose mean mg mb h₀) (hA : A.frames = some (env :: outer)) (hf : env.frame = some L) (hke : env.scope.kind = .function)
    (ho : K.lookup f = some ⟨oc, od, .func (fnOf name qual params body scope dV kV doc pm an cdv ct), osl⟩) (hcd : codeIn K cdv qual = true) (hroom : A.depth < recursionLimit)
    (hbind : BindsTo s (fnOf name qual params body scope dV kV doc pm an cdv ct) args binds) (hkind : (binds.all fun y => scope.names.lookup y.1 == some .local || scope.names.lookup y.1 == some .cell) = true)
    (hnd : ((cellsFrom 0 scope.names []).map (·.1)).Nodup)
    (h : ∀ g L' h₁ tk cells, Fr h₀ L g m → Fr g L' h₁ (bindL (envOfC qual scope L' f cdv).kindOf binds fun _ => none) → News g L' h₁ (cells ++ news) →
      CellsAre (bindC (envOfC qual scope L' f cdv).kindOf binds fun _ => none) (cellsFrom (L' + 1) scope.names []) cells → Below A base (env :: outer) g → K.In g → Top p loose mean mg mb g → (∀ p ∈ news, p.1 < L') → GSub s.heap g (news.map (·.1)) →
      wpAny (model prog w) (A.deeper (envOfC qual scope L' f cdv)) (execs body (envOfC qual scope L' f cdv))
        (fun fl s' => LeaveK h₀ L m g R (match fl with | .ret v => v | _ => .none) s')
        (fun e s' => wpAny (model prog w) (A.deeper (envOfC qual scope L' f cdv)) (leaving (envOfC qual scope L' f cdv) e) (fun _ s'' => R (.error e) s'') (fun e' s'' => R (.error e') s'') s')
        { s with heap := h₁, toks := tk })
    (hco : scope.isCoroutine = false) (hgen : scope.isGenerator = false) (hk : scope.kind = .function) : codeAny (model prog w) A (.call (.ref f) args) R s := by
  obtain ⟨FG, BG, st, lv⟩ := groundX (R := R) B F N hA hf hke
  have XS := X₀.keeps F.keep
  refine codeAny_call_function hroom (XS _ _ ho) rfl hco hgen rfl (codeRec_of XS hcd) (hbind _ _ _ _ ?_)
  refine wpAny_newFunctionEnv_cells hk (kindsX hkind _) fun env' he s' made => ?_
  subst he
  refine ⟨(T.nolimit.keeps F.keep).keeps made.toInCall.keep, codeAny_func ?_⟩
  obtain ⟨h₁, tk, rfl, _⟩ := made.done
  have kept := made.toInCall.keep
  obtain ⟨cells, NC, Y⟩ := Cl.news (h₀ := s.heap) (Nat.le_refl _) fun n c hm =>
    ⟨made.cell n c (lookup_of_mem_nodup (cellsFrom_names scope.names 0 (s.heap.objs.size + 1) [] [] rfl ▸ hnd) hm), made.above n c hm⟩
  have FN : Fr (hideAll s.heap (news.map (·.1))) s.heap.objs.size h₁ (bindL (envOfC qual scope s.heap.objs.size f cdv).kindOf binds fun _ => none) :=
    ⟨made.toInCall.ns, fun b o e => kept b o (of_hideAll _ e), Nat.le_of_eq (hideAll_size _ _)⟩
  have NN : News (hideAll s.heap (news.map (·.1))) s.heap.objs.size h₁ (cells ++ news) := by
    intro q hq
    rcases List.mem_append.mp hq with hq | hq
    · refine ⟨(NC q hq).1, (NC q hq).2.1, ?_⟩
      cases e : (hideAll s.heap (news.map (·.1))).get? q.1 with
      | none => rfl
      | some o =>
        have := of_hideAll _ e
        rw [(NC q hq).2.2] at this
        cases this
    · exact ⟨kept _ _ (N q hq).1, Nat.ne_of_lt (Heap.lt_size (N q hq).1), hideAll_none _ (List.mem_map_of_mem hq)⟩
  exact wpAny_mono (h _ s.heap.objs.size h₁ tk cells FG FN NN Y BG (X₀.keeps st) (T.keeps st) (fun q hq => Heap.lt_size (N q hq).1) fun b o e n => hideAll_get _ e n)
    (fun fl s' hl => lv _ _ hl) fun _ _ y => y
end Mine
namespace Mine
open PySem PySem.W PyProof.Rows PySem.Spec PySem.Calls
set_option linter.all false
/-- a call of the def at f that stores into nothing; its arguments stand on what the list rd says, which lies in the heap -/
def PTells (w : World) (f : Addr) (args : List Value) (sz : Nat) (rd : List (Addr × Obj)) (Out : List (Addr × Obj) → Value → Prop) : Prop :=
  ∀ (mean : ExcName → Option Value) (mg mb : Str → Option Value) (dp un : Nat) (gd : Option (List Code)) (cn : Str) (cs : Scope) (a : Addr) (ccd : Value) (cl : List (Str × Addr)) (outer : List Env) (A₀ : Around) (base h₀ : Heap) (L : Addr) (m : Str → Option Value) (s : Shared)
    (Q E : Value → Shared → Prop),
    Below A₀ base outer h₀ → Fr h₀ L s.heap m → (KK w.params).In h₀ → (∀ p ∈ rd, s.heap.get? p.1 = some p.2) →
    Top vw (looseW vw [Str.ofString "RowsError", Str.ofString "SELF"]) mean mg mb h₀ → cs.kind = .function →
    dp + sz < recursionLimit → un + 8 * sz < cLine →
    (∀ r h' tk' tl, Fr h₀ L h' m → News h₀ L h' tl → (∀ p ∈ tl, s.heap.get? p.1 = none) → (∀ b o, s.heap.get? b = some o → h'.get? b = some o) → Out (rd ++ tl) r → Q r { s with heap := h', toks := tk' }) →
    wpAny (model row.row.prog w) (ktrTop dp un gd cn cs L a ccd cl outer) (call (.ref f) args) Q E s
theorem p_use {w : World} {f : Addr} {args : List Value} {sz : Nat} {rd : List (Addr × Obj)} {Out : List (Addr × Obj) → Value → Prop} {mean : ExcName → Option Value} {mg mb : Str → Option Value} {dp un : Nat} {gd : Option (List Code)} {cn : Str} {cs : Scope} {a : Addr} {ccd : Value} {cl : List (Str × Addr)} {outer : List Env} {A₀ : Around} {base h₀ : Heap} {L : Addr} {m : Str → Option Value} {s : Shared}
    {Q E : Value → Shared → Prop} {news : List (Addr × Obj)}
    (C : PTells w f args sz rd Out) (B : Below A₀ base outer h₀) (F : Fr h₀ L s.heap m) (X : (KK w.params).In h₀) (N : News h₀ L s.heap news) (R : ∀ p ∈ rd, s.heap.get? p.1 = some p.2) (T : Top vw (looseW vw [Str.ofString "RowsError", Str.ofString "SELF"]) mean mg mb h₀) (hk : cs.kind = .function)
    (hd : dp + sz < recursionLimit) (hu : un + 8 * sz < cLine)
    (ret : ∀ r h' tk' tl, Fr h₀ L h' m → News h₀ L h' (news ++ tl) → OwnOff tl (news.map (·.1)) → Out (rd ++ tl) r → Q r { s with heap := h', toks := tk' }) :
    wpAny (model row.row.prog w) (ktrTop dp un gd cn cs L a ccd cl outer) (call (.ref f) args) Q E s := by
  refine C mean mg mb dp un gd cn cs a ccd cl outer A₀ base h₀ L m s Q E B F X R T hk hd hu ?_
  intro r h' tk' tl F' N' ho kp out
  refine ret r h' tk' tl F' (news_app (fun p hp => ⟨kp _ _ (N p hp).1, (N p hp).2⟩) N') (fun p hp b hb e => ?_) out
  obtain ⟨q, hq, rfl⟩ := List.mem_map.mp hb
  have := ho p hp
  rw [e, (N q hq).1] at this
  cases this
theorem p_off {H g h : Heap} {L : Addr} {l : List (Addr × Obj)} (G : GSub H g []) (N : News g L h l) : ∀ p ∈ l, H.get? p.1 = none := by
  intro p hp
  cases e : H.get? p.1 with
  | none => rfl
  | some x =>
    have := G _ _ e (by simp)
    rw [(N p hp).2.2] at this
    cases this
theorem p_keep {H g h : Heap} {L : Addr} {m : Str → Option Value} (G : GSub H g []) (F : Fr g L h m) : ∀ b o, H.get? b = some o → h.get? b = some o :=
  fun b o e => F.keep b o (G b o e (by simp))
theorem p_rd {H g : Heap} {rd : List (Addr × Obj)} (G : GSub H g []) (R : ∀ p ∈ rd, H.get? p.1 = some p.2) : ∀ p ∈ rd, g.get? p.1 = some p.2 :=
  fun p hp => G _ _ (R p hp) (by simp)

section
variable {prog : Program} {w : World} {A : Around} {E : Value → Shared → Prop} {s : Shared} {h₀ : Heap} {L : Addr} {m : Str → Option Value} {env : Env}
open LCg
/-- where a comprehension runs over a tuple of the frame's ground -/
def SrcT (prog : Program) (w : World) (A : Around) (h₀ : Heap) (L : Addr) (m : Str → Option Value) (env : Env) (elt : PySem.Expr) (x : Str) (scope : Scope) (cl : List (Str × Addr)) (Fin : Shared → List Value → List (Addr × Obj) → Prop) (xv : Value) (s₁ : Shared) : Prop :=
  ∃ ax its news, xv = .ref ax ∧ A.handled = none ∧ Fr h₀ L s₁.heap m ∧ News h₀ L s₁.heap news ∧ h₀.IsTuple ax its ∧ its.size ≤ sizeLine ∧
    ∀ s₂ : Shared, (∃ h, s₂ = { s₁ with heap := h }) → CompRest prog w A h₀ L m env elt x scope cl s₂ (fun _ => True) (fun i v => its[i]? = some v) (Fin s₂) its.size 0 [] news
theorem tuple_st {ax I : Addr} {its : Array Value} (hl : h₀.IsTuple ax its) : ∀ i (h h' : Heap) (o : Obj) (nw : List (Addr × Obj)), (h.IsTupleIter I ax i ∧ h.IsTuple ax its) → h.get? I = some o → h'.get? I = some o → (∀ b o, h₀.get? b = some o → h'.get? b = some o) → News h₀ L h' nw → True → (h'.IsTupleIter I ax i ∧ h'.IsTuple ax its) :=
  fun i h h' o nw st e e' k _ _ => ⟨by obtain ⟨o', q, r⟩ := st.1; rw [e] at q; cases q; exact ⟨o, e', r⟩, hl.at fun o e => k _ _ e⟩
theorem comp_tup {elt iter : PySem.Expr} {x : Str} {px : Pos} {scope : Scope} {cl : List (Str × Addr)} {pos : Pos} {Q : Value → Shared → Prop} (_F₀ : Fr h₀ L s.heap m)
    (hclos : closureFor scope env = pure cl) (hcell : ∀ y ∈ scope.names, y.2 ≠ .cell) (hkind : scope.kind = .function)
    (hnames : ∀ y ∈ scope.names, y.2 = .local → scope.names.lookup y.1 = some .local) (hx : scope.names.lookup x = some .local)
    (h : wpAny (model prog w) A (eval iter env) (SrcT prog w A h₀ L m env elt x scope cl (fun s₂ => FinE h₀ L m s₂ Q)) E s)
    (hs : ∀ x, foldedSetIterable iter env x = pure x := by intro _; rfl) :
    wpAny (model prog w) A (eval (.ListComp elt [⟨.Name x px, iter, [], 0⟩] scope pos) env) Q E s := by
  rw [eval_ListComp]
  refine wpAny_comprehension_free (use := none) rfl hs hclos hkind hnames (wpAny_mono h (fun xv s₁ h₁ => ?_) fun _ _ e => e)
  obtain ⟨ax, its, news, rfl, hh, F, N, S, hsz, R⟩ := h₁
  have hl : s₁.heap.IsTuple ax its := S.at fun o e => F.keep _ _ e
  have hlt : ax < s₁.heap.objs.size := by obtain ⟨_, e, _⟩ := hl; exact Heap.lt_size e
  refine wpAny_pyIter_tuple hl ?_
  have up : ∀ b o, s₁.heap.get? b = some o → (s₁.heap.push { cls := .type "tuple_iterator", data := .fields #[.ref ax, .int 0 0] }).get? b = some o := fun b o e => Heap.get?_push_of_some _ e
  refine block_U (Walks.tuple hh s₁.heap.objs.size ax (Nat.ne_of_lt hlt) its) hsz (fun i h st => by obtain ⟨o, e, _⟩ := st.1; exact ⟨o, e⟩) (tuple_st S) hcell hkind hx ⟨⟨_, Heap.get?_push_size _ rfl, rfl, rfl⟩, hl.at fun o e => up _ _ e⟩ (fun b hb => ?_)
    (F.keeps up) (N.grown up) (Nat.ne_of_lt F.ns.lt) (next_is_new F) (fun p hp => Nat.ne_of_lt (Heap.lt_size (N p hp).1)) trivial (R _ ⟨_, rfl⟩) ?_
  · show b < (s₁.heap.push _).objs.size
    rw [Heap.size_push]
    rcases List.mem_cons.mp hb with rfl | hb
    · exact Nat.lt_succ_self _
    · rw [List.mem_singleton.mp hb]; exact Nat.lt_succ_of_lt hlt
  · intro D C h tk m' ys news' F' N' o1 hn hC₀ hD₀ hCL hDL hCD offC fin
    refine ⟨m', hn, fun h'' hs'' => fin D h'' tk (F'.change hs'' hCL hC₀) (fun p hp => ?_) o1⟩
    refine ⟨hs''.extBut _ _ ?_ (N' p hp).1, (N' p hp).2⟩
    rcases List.mem_cons.mp hp with rfl | hp
    · exact Ne.symm hCD
    · exact offC p hp

theorem off3_of {I C D : Addr} {tl : List (Addr × Obj)} {adr : List Addr} (h : OwnOff tl adr) (h1 : I ∈ adr) (h2 : C ∈ adr) (h3 : D ∈ adr) : Off3 I C D tl :=
  Off3.of fun p hp => ⟨h p hp _ h1, h p hp _ h2, h p hp _ h3⟩
theorem off3_app {I C D : Addr} {a b : List (Addr × Obj)} (h : Off3 I C D a) (k : Off3 I C D b) : Off3 I C D (a ++ b) :=
  Off3.of fun p hp => (List.mem_append.mp hp).elim (h.mem p) (k.mem p)

theorem compEnd_mono {s₁ : Shared} {I C D : Addr} {oI oC oD : Obj} {S : List (Addr × Obj) → Prop} {rest rest' : Value → List (Addr × Obj) → Prop} (hr : ∀ y nw, rest y nw → rest' y nw) {y : Value} {s₂ : Shared} (x : CompEnd h₀ L m s₁ I oI C oC D oD S rest y s₂) :
    CompEnd h₀ L m s₁ I oI C oC D oD S rest' y s₂ := by
  obtain ⟨h', tk, news', e, F, N, o, hS, r⟩ := x
  exact ⟨h', tk, news', e, F, N, o, hS, hr _ _ r⟩
/-- the turns of a comprehension by what holds between them -/
theorem compRest_ind {elt : PySem.Expr} {x : Str} {scope : Scope} {cl : List (Str × Addr)} {S : List (Addr × Obj) → Prop} {P : Nat → Value → Prop} {Fin : List Value → List (Addr × Obj) → Prop} (J : Nat → List Value → List (Addr × Obj) → Prop) (n : Nat)
    (step : ∀ i ys news, i < n → J i ys news → ∀ v I oI C oC D m₂ h tk (E' : Value → Shared → Prop), P i v → NsObj oC m₂ → m₂ x = some v → Fr h₀ L h m → News h₀ L h ((I, oI) :: (C, oC) :: (D, lst ys) :: news) → Off3 I C D news → ((@Ne Nat I C) ∧ (@Ne Nat I D) ∧ (@Ne Nat C D)) →
      wpAny (model prog w) A (eval elt (compEnvC scope cl C env)) (CompEnd h₀ L m { s with heap := h, toks := tk } I oI C oC D (lst ys) S (fun y news' => J (i + 1) (ys ++ [y]) news')) E' { s with heap := h, toks := tk })
    (fin : ∀ ys news, J n ys news → Fin ys news) : ∀ k i ys news, i + k = n → J i ys news → CompRest prog w A h₀ L m env elt x scope cl s S P Fin k i ys news := by
  intro k
  induction k with
  | zero => intro i ys news hi hj; exact .zero (fin ys news (by rw [← hi]; exact hj))
  | succ k ih =>
    intro i ys news hi hj
    refine .succ fun v I oI C oC D m₂ h tk E' hp hc hx F N o ne => ?_
    exact wpAny_mono (step i ys news (by omega) hj v I oI C oC D m₂ h tk E' hp hc hx F N o ne) (fun y s₂ q => compEnd_mono (fun y nw r => ih (i + 1) (ys ++ [y]) nw (by omega) r) q) fun _ _ e => e
end
end Mine
namespace Mine
open PySem PySem.W PyProof.Rows PySem.Spec PySem.Calls
set_option linter.all false
mutual
def Tr.dat : Tr → Dat
  | .int i => .tuple [.str (Str.ofString "int"), .int i]
  | .sym x => .tuple [.str (Str.ofString "sym"), .str x]
  | .nothing => .tuple [.str (Str.ofString "nothing")]
  | .node w ps => .tuple [.str (Str.ofString "expr"), .str w, .tuple (Tr.dats ps)]
def Tr.dats : List Tr → List Dat
  | [] => []
  | p :: ps => Tr.dat p :: Tr.dats ps
end
def quiet (w : Str) : Bool := w == Str.ofString "->" || w == Str.ofString "quote" || w == Str.ofString "function"
def conv (kd d : Dat) : Dat := .tuple [.str (Str.ofString "expr"), .str (Str.ofString "call"), .tuple [.tuple [.str (Str.ofString "value"), .tuple [.str (Str.ofString "fun"), .str (Str.ofString "convert")]], kd, d]]
def first (ds : List Dat) : Dat := match ds with
  | d :: _ => d
  | [] => .tuple [.str (Str.ofString "nothing")]
mutual
def turned (kd : Dat) : Tr → Dat
  | .int i => Tr.dat (.int i)
  | .sym x => Tr.dat (.sym x)
  | .nothing => Tr.dat .nothing
  | .node w ps => bif quiet w then Tr.dat (.node w ps) else bif w == Str.ofString "return" then .tuple [.str (Str.ofString "expr"), .str w, .tuple [conv kd (first (turneds kd ps))]] else .tuple [.str (Str.ofString "expr"), .str w, .tuple (turneds kd ps)]
def turneds (kd : Dat) : List Tr → List Dat
  | [] => []
  | p :: ps => turned kd p :: turneds kd ps
end
theorem turneds_eq (kd : Dat) : ∀ ps : List Tr, turneds kd ps = ps.map (turned kd)
  | [] => by simp [turneds]
  | p :: ps => by rw [turneds, turneds_eq kd ps, List.map_cons]
theorem turned_quiet {kd : Dat} {w : Str} {ps : List Tr} (h : quiet w = true) : turned kd (.node w ps) = Tr.dat (.node w ps) := by rw [turned, h]; rfl
theorem turned_ret {kd : Dat} {w : Str} {ps : List Tr} (h : quiet w = false) (k : (w == Str.ofString "return") = true) : turned kd (.node w ps) = .tuple [.str (Str.ofString "expr"), .str w, .tuple [conv kd (first (turneds kd ps))]] := by rw [turned, h, k]; rfl
theorem turned_other {kd : Dat} {w : Str} {ps : List Tr} (h : quiet w = false) (k : (w == Str.ofString "return") = false) : turned kd (.node w ps) = .tuple [.str (Str.ofString "expr"), .str w, .tuple (turneds kd ps)] := by rw [turned, h, k]; rfl
mutual
theorem trIn_dat {nw : List (Addr × Obj)} : ∀ {v : Value} {t : Tr}, TrIn nw v t → DatIn nw v t.dat
  | _, _, .int h => by rw [Tr.dat]; exact .tuple (vs := [_, _]) h (.cons (.str _ _) (.cons (.int _ _) .nil))
  | _, _, .sym h => by rw [Tr.dat]; exact .tuple (vs := [_, _]) h (.cons (.str _ _) (.cons (.str _ _) .nil))
  | _, _, .nothing h => by rw [Tr.dat]; exact .tuple (vs := [_]) h (.cons (.str _ _) .nil)
  | _, _, .node h k r => by rw [Tr.dat]; exact .tuple (vs := [_, _, _]) h (.cons (.str _ _) (.cons (.str _ _) (.cons (.tuple k (trAll_dat r)) .nil)))
theorem trAll_dat {nw : List (Addr × Obj)} : ∀ {vs : List Value} {ts : List Tr}, TrAll nw vs ts → DatAll nw vs (Tr.dats ts)
  | _, _, .nil => by rw [Tr.dats]; exact .nil
  | _, _, .cons h r => by rw [Tr.dats]; exact .cons (trIn_dat h) (trAll_dat r)
end
theorem trAll_get {nw : List (Addr × Obj)} : ∀ {vs : List Value} {ts : List Tr}, TrAll nw vs ts → ∀ {i : Nat} {v : Value}, vs.toArray[i]? = some v → ∃ t, ts[i]? = some t ∧ TrIn nw v t
  | _, _, .nil, i, v, h => by simp at h
  | _, _, .cons (ds := ts) hd r, 0, v, h => by
    simp at h
    subst h
    exact ⟨_, rfl, hd⟩
  | _, _, .cons hd r, i + 1, v, h => by
    obtain ⟨t, ht, q⟩ := trAll_get r (i := i) (v := v) (by simpa using h)
    exact ⟨t, by simpa using ht, q⟩
theorem trAll_len {nw : List (Addr × Obj)} : ∀ {vs : List Value} {ts : List Tr}, TrAll nw vs ts → vs.length = ts.length
  | _, _, .nil => rfl
  | _, _, .cons _ r => by rw [List.length_cons, List.length_cons, trAll_len r]
theorem turneds_snoc (kd : Dat) {ts : List Tr} {i : Nat} {t : Tr} (h : ts[i]? = some t) : (turneds kd ts).take (i + 1) = (turneds kd ts).take i ++ [turned kd t] := by
  rw [turneds_eq, List.take_add_one]
  simp [h]
/-- what a node that the law builds is -/
theorem Ok.node {n : Nat} {w : Str} {ps : List Tr} (h : Ok n (.node w ps)) : ∃ k, n = k + 1 ∧ (∀ p ∈ ps, Ok k p) ∧ ps.length ≤ 3 ∧
    (w = Str.ofString "->" ∨ w = Str.ofString "quote" ∨ w = Str.ofString "function" ∨ (w = Str.ofString "return" ∧ ps.length ≤ 1) ∨ w = Str.ofString "block" ∨ w = Str.ofString "if" ∨ w = Str.ofString "while" ∨ w = Str.ofString "try" ∨ w = Str.ofString "call") := by
  cases h <;> refine ⟨_, rfl, by simp_all, by simp, ?_⟩ <;> simp
def StepR (rd led : List (Addr × Obj)) (ds : List Dat) (i : Nat) (ys : List Value) (y : Value) (nw : List (Addr × Obj)) : Prop := ∃ tl', nw = led ++ tl' ∧ OwnOff tl' (led.map (·.1)) ∧ DatAll (rd ++ tl') (ys ++ [y]) (ds.take (i + 1))
def DOut (d : Dat) (nw : List (Addr × Obj)) (r : Value) : Prop := DatIn nw r d
section
variable {prog : Program} {w : World} {A : Around} {E : Value → Shared → Prop} {s : Shared} {h₀ : Heap} {L : Addr} {m : Str → Option Value} {env : Env}
open LCg
theorem compEnd_of {I C D : Addr} {s₁ : Shared} {oI oC oD : Obj} {S : List (Addr × Obj) → Prop} {rest : Value → List (Addr × Obj) → Prop} {y : Value} {h' : Heap} {tk : Nat} {news' : List (Addr × Obj)}
    (F : Fr h₀ L h' m) (N : News h₀ L h' ((I, oI) :: (C, oC) :: (D, oD) :: news')) (off : Off3 I C D news') (hS : S news') (r : rest y news') : CompEnd h₀ L m s₁ I oI C oC D oD S rest y { s₁ with heap := h', toks := tk } :=
  CompEnd.intro F N news' (fun _ h => h) off hS r
theorem srcT_intro {elt : PySem.Expr} {x : Str} {scope : Scope} {cl : List (Str × Addr)} {Fin : Shared → List Value → List (Addr × Obj) → Prop} {ax : Addr} {its : Array Value} {news : List (Addr × Obj)} {s₁ : Shared}
    (hh : A.handled = none) (F : Fr h₀ L s₁.heap m) (N : News h₀ L s₁.heap news) (S : IsTup h₀ ax its) (hsz : its.size ≤ sizeLine)
    (h : ∀ g, CompRest prog w A h₀ L m env elt x scope cl { s₁ with heap := g } (fun _ => True) (fun i v => its[i]? = some v) (Fin { s₁ with heap := g }) its.size 0 [] news) :
    SrcT prog w A h₀ L m env elt x scope cl Fin (.ref ax) s₁ := ⟨ax, its, news, rfl, hh, F, N, S, hsz, fun _ ⟨g, e⟩ => e ▸ h g⟩
/-- a comprehension over a tuple, each item made into data -/
theorem comp_data {elt : PySem.Expr} {x : Str} {scope : Scope} {cl : List (Str × Addr)} {Fin : List Value → List (Addr × Obj) → Prop} {rd led : List (Addr × Obj)} {vs : List Value} {ds : List Dat} {P : Value → Dat → Prop} (hR : ∀ p ∈ rd, h₀.get? p.1 = some p.2) (hlen : vs.length = ds.length) (hC : ∀ (i : Nat) (v : Value) (d : Dat), vs.toArray[i]? = some v → ds[i]? = some d → P v d)
    (step : ∀ (i : Nat) (ys : List Value) (tl : List (Addr × Obj)) (d : Dat) (v : Value), P v d → ds[i]? = some d → OwnOff tl (led.map (·.1)) → DatAll (rd ++ tl) ys (ds.take i) → ∀ I oI C oC D m₂ h tk (E' : Value → Shared → Prop), NsObj oC m₂ → m₂ x = some v → Fr h₀ L h m → News h₀ L h ((I, oI) :: (C, oC) :: (D, lst ys) :: (led ++ tl)) → Off3 I C D (led ++ tl) → ((@Ne Nat I C) ∧ (@Ne Nat I D) ∧ (@Ne Nat C D)) →
      wpAny (model prog w) A (eval elt (compEnvC scope cl C env)) (CompEnd h₀ L m { s with heap := h, toks := tk } I oI C oC D (lst ys) (fun _ => True) (StepR rd led ds i ys)) E' { s with heap := h, toks := tk })
    (fin : ∀ ys tl, OwnOff tl (led.map (·.1)) → DatAll (rd ++ tl) ys ds → ys.length = vs.length → Fin ys (led ++ tl)) :
    CompRest prog w A h₀ L m env elt x scope cl s (fun _ => True) (fun i v => vs.toArray[i]? = some v) Fin vs.toArray.size 0 [] led := by
  refine compRest_ind (fun i ys nw => ∃ tl, nw = led ++ tl ∧ OwnOff tl (led.map (·.1)) ∧ DatAll (rd ++ tl) ys (ds.take i)) vs.toArray.size ?_ ?_ _ 0 [] led (Nat.zero_add _) ⟨[], (List.append_nil _).symm, fun _ h => (nomatch h), .nil⟩
  · rintro i ys nw hi ⟨tl, rfl, ho, hd⟩ v I oI C oC D m₂ h tk E' hv hc hx F N off ne
    have hi' : i < ds.length := by rw [← hlen]; simpa using hi
    exact step i ys tl _ v (hC i v _ hv (List.getElem?_eq_getElem hi')) (List.getElem?_eq_getElem hi') ho hd I oI C oC D m₂ h tk E' hc hx F N off ne
  · rintro ys nw ⟨tl, rfl, ho, hd⟩
    rw [List.take_of_length_le (by rw [← hlen]; simp)] at hd
    exact fin ys tl ho hd (by rw [hd.length, hlen])
end
theorem in_top {prog : Program} {w : World} {A : Around} {E : Value → Shared → Prop} {s : Shared} {h₀ : Heap} {L a : Addr} {m : Str → Option Value} {K : Frag} {n : Nat} {vs : List Value} {ys : List Str} {dd : Option Addr} {sl : Array (Option Value)} {x : Str} {u : Tok} {Q : Value → Shared → Prop}
    (F : Fr h₀ L s.heap m) (X : K.In h₀) (l : List.lookup a K = some { cls := .type "tuple", dict := dd, data := .seq vs.toArray n, slots := sl }) (hi : StrsAre vs ys) (h : Q (.bool (ys.any (· == x))) s) : wpAny (model prog w) A (compareOp .In (.str x u) (.ref a)) Q E s :=
  in_tuple_strs ⟨_, F.keep _ _ (X _ _ l), rfl, n, rfl⟩ (by simpa using hi) h
theorem own_app {a b : List (Addr × Obj)} {adr adr' : List Addr} (h : OwnOff a adr) (k : OwnOff b adr') (hs : ∀ x ∈ adr, x ∈ adr') : OwnOff (a ++ b) adr := by
  intro p hp x hx
  rcases List.mem_append.mp hp with hp | hp
  · exact h p hp x hx
  · exact k p hp x (hs x hx)
theorem datAll_step {rd tl tl' : List (Addr × Obj)} {ys : List Value} {y : Value} {ds : List Dat} {d : Dat} {i : Nat} (hd : ds[i]? = some d) (h : DatAll (rd ++ tl) ys (ds.take i)) (k : DOut d (rd ++ tl') y) : DatAll (rd ++ (tl ++ tl')) (ys ++ [y]) (ds.take (i + 1)) := by
  have e : ds.take (i + 1) = ds.take i ++ [d] := by rw [List.take_add_one, hd]; rfl
  rw [e]
  refine DatAll.append (h.mono fun p hp => ?_) (.one (DatIn.mono (fun p hp => ?_) k))
  · rcases List.mem_append.mp hp with hp | hp
    · exact List.mem_append.mpr (.inl hp)
    · exact List.mem_append.mpr (.inr (List.mem_append.mpr (.inl hp)))
  · rcases List.mem_append.mp hp with hp | hp
    · exact List.mem_append.mpr (.inl hp)
    · exact List.mem_append.mpr (.inr (List.mem_append.mpr (.inr hp)))
theorem step_ex {rd led tl tl' nw : List (Addr × Obj)} {ys : List Value} {y : Value} {ds : List Dat} {d : Dat} {i : Nat} {adr' : List Addr} (hd : ds[i]? = some d) (hD : DatAll (rd ++ tl) ys (ds.take i)) (k : DOut d (rd ++ tl') y)
    (ho : OwnOff tl (led.map (·.1))) (hl : OwnOff tl' adr') (hs : ∀ x ∈ led.map (·.1), x ∈ adr') (e : nw = led ++ (tl ++ tl')) :
    StepR rd led ds i ys y nw := ⟨_, e, own_app ho hl hs, datAll_step hd hD k⟩
theorem p_end {Out : List (Addr × Obj) → Value → Prop} {rd nw : List (Addr × Obj)} {h₀ g h : Heap} {L L' : Addr} {m m' : Str → Option Value} {s : Shared} {Q : Value → Shared → Prop} {tk : Nat} {r : Value}
    (hret : ∀ r h' tk' tl, Fr h₀ L h' m → News h₀ L h' tl → (∀ p ∈ tl, s.heap.get? p.1 = none) → (∀ b o, s.heap.get? b = some o → h'.get? b = some o) → Out (rd ++ tl) r → Q r { s with heap := h', toks := tk' })
    (kN : News h₀ L h nw) (gN : News g L' h nw) (GS : GSub s.heap g []) (kF : Fr h₀ L h m) (gF : Fr g L' h m') (out : Out (rd ++ nw) r) : Q r { s with heap := h, toks := tk } :=
  hret r h tk nw kF kN (p_off GS gN) (p_keep GS gF) out
theorem rd_now {g h : Heap} {L : Addr} {m : Str → Option Value} {rd : List (Addr × Obj)} (R : ∀ p ∈ rd, g.get? p.1 = some p.2) (F : Fr g L h m) : ∀ p ∈ rd, h.get? p.1 = some p.2 := fun p hp => F.keep _ _ (R p hp)
theorem rd_tup {g : Heap} {rd : List (Addr × Obj)} (R : ∀ p ∈ rd, g.get? p.1 = some p.2) {a : Addr} {vs : Array Value} {n : Nat} (h : (a, ({ cls := .type "tuple", data := .seq vs n } : Obj)) ∈ rd) : IsTup g a vs := ⟨_, R _ h, rfl, n, rfl⟩
end Mine
namespace Mine
open PySem PySem.W PyProof.Rows PySem.Spec PySem.Calls
set_option linter.all false
theorem kq_more : ∀ (n : Nat) (d : Dat), kqdOk n d = true → kqdOk (n + 1) d = true := by
  intro n
  induction n with
  | zero => intro d h; cases d <;> simp_all [kqdOk]
  | succ n ih =>
    intro d h
    cases d with
    | tuple ds => simp only [kqdOk, List.all_eq_true] at h ⊢; exact fun x hx => ih x (h x hx)
    | list ds => simp only [kqdOk, List.all_eq_true] at h ⊢; exact fun x hx => ih x (h x hx)
    | _ => simp_all [kqdOk]
theorem kq_le {n m : Nat} {d : Dat} (h : kqdOk n d = true) (hm : n ≤ m) : kqdOk m d = true := by
  obtain ⟨k, rfl⟩ := Nat.exists_eq_add_of_le hm
  induction k with
  | zero => exact h
  | succ k ih => exact kq_more _ _ (ih (Nat.le_add_right _ _))
theorem kq_tuple {n : Nat} {ds : List Dat} (h : ∀ d ∈ ds, kqdOk n d = true) : kqdOk (n + 1) (.tuple ds) = true := by
  simp only [kqdOk, List.all_eq_true]; exact h
theorem kq_str (n : Nat) {x : Str} (h : PyData.strOk x = true) : kqdOk n (.str x) = true := by cases n <;> simpa [kqdOk] using h
theorem kq_int (n : Nat) (i : Int) : kqdOk n (.int i) = true := by cases n <;> simp [kqdOk]
def strsOk : List Str := [Str.ofString "int", Str.ofString "sym", Str.ofString "nothing", Str.ofString "expr", Str.ofString "x", Str.ofString "c", Str.ofString "e", Str.ofString "g", Str.ofString "h", Str.ofString "y", Str.ofString "->", Str.ofString "quote", Str.ofString "function", Str.ofString "return", Str.ofString "block", Str.ofString "if", Str.ofString "while", Str.ofString "try", Str.ofString "call", Str.ofString "value", Str.ofString "fun", Str.ofString "convert"]
theorem strs_ok : ∀ x ∈ strsOk, PyData.strOk x = true := by decide +kernel
theorem kq_conv {n : Nat} {kd d : Dat} (hn : 2 ≤ n) (hk : kqdOk n kd = true) (hd : kqdOk n d = true) : kqdOk (n + 2) (conv kd d) = true := by
  unfold conv
  refine kq_tuple fun x hx => ?_
  simp only [List.mem_cons, List.not_mem_nil, or_false] at hx
  rcases hx with rfl | rfl | rfl
  · exact kq_str _ (strs_ok _ (by decide +kernel))
  · exact kq_str _ (strs_ok _ (by decide +kernel))
  · refine kq_tuple fun x hx => ?_
    simp only [List.mem_cons, List.not_mem_nil, or_false] at hx
    rcases hx with rfl | rfl | rfl
    · refine kq_le (n := 2) (kq_tuple fun x hx => ?_) hn
      simp only [List.mem_cons, List.not_mem_nil, or_false] at hx
      rcases hx with rfl | rfl
      · exact kq_str _ (strs_ok _ (by decide +kernel))
      · refine kq_tuple fun x hx => ?_
        simp only [List.mem_cons, List.not_mem_nil, or_false] at hx
        rcases hx with rfl | rfl
        · exact kq_str _ (strs_ok _ (by decide +kernel))
        · exact kq_str _ (strs_ok _ (by decide +kernel))
    · exact hk
    · exact hd
theorem kq_nothing (n : Nat) : kqdOk (n + 1) (.tuple [.str (Str.ofString "nothing")]) = true := by
  refine kq_tuple fun x hx => ?_
  simp only [List.mem_cons, List.not_mem_nil, or_false] at hx
  subst hx
  exact kq_str _ (strs_ok _ (by decide +kernel))
theorem kq_sym (n : Nat) {y : Str} (hy : PyData.strOk y = true) : kqdOk (n + 1) (.tuple [.str (Str.ofString "sym"), .str y]) = true := by
  refine kq_tuple fun x hx => ?_
  simp only [List.mem_cons, List.not_mem_nil, or_false] at hx
  rcases hx with rfl | rfl
  · exact kq_str _ (strs_ok _ (by decide +kernel))
  · exact kq_str _ hy
theorem kq_node {n : Nat} {w : Str} {ds : List Dat} (hw : PyData.strOk w = true) (h : ∀ d ∈ ds, kqdOk n d = true) : kqdOk (n + 2) (.tuple [.str (Str.ofString "expr"), .str w, .tuple ds]) = true := by
  refine kq_tuple fun x hx => ?_
  simp only [List.mem_cons, List.not_mem_nil, or_false] at hx
  rcases hx with rfl | rfl | rfl
  · exact kq_str _ (strs_ok _ (by decide +kernel))
  · exact kq_str _ hw
  · exact kq_tuple h
theorem dats_map : ∀ ps : List Tr, Tr.dats ps = ps.map Tr.dat
  | [] => by rw [Tr.dats]; rfl
  | p :: ps => by rw [Tr.dats, dats_map ps]; rfl
theorem word_ok {n : Nat} {w : Str} {ps : List Tr} (h : Ok n (.node w ps)) : PyData.strOk w = true := by
  obtain ⟨_, _, _, _, hw⟩ := h.node
  rcases hw with rfl | rfl | rfl | ⟨rfl, _⟩ | rfl | rfl | rfl | rfl | rfl <;> exact strs_ok _ (by decide +kernel)
/-- induction over the law's trees -/
theorem tr_ind {P : Nat → Tr → Prop} (hi : ∀ k i, P k (.int i)) (hs : ∀ k x, PyData.strOk x = true → P k (.sym x)) (hn : ∀ k, P k .nothing)
    (hnode : ∀ k w ps, Ok (k + 1) (.node w ps) → (∀ p ∈ ps, Ok k p) → (∀ p ∈ ps, P k p) → P (k + 1) (.node w ps)) : ∀ k t, Ok k t → P k t := by
  intro k
  induction k with
  | zero =>
    intro t h
    cases h with
    | int => exact hi _ _
    | nothing => exact hn _
    | _ => exact hs _ _ (strs_ok _ (by decide +kernel))
  | succ k ih =>
    intro t h
    cases t with
    | int i => exact hi _ i
    | nothing => exact hn _
    | sym x => cases h <;> exact hs _ _ (strs_ok _ (by decide +kernel))
    | node w ps =>
      obtain ⟨k', hk, hps, _, _⟩ := h.node
      obtain rfl : k = k' := by omega
      exact hnode k w ps h hps fun p hp => ih p (hps p hp)
theorem dat_ok (m : Nat) (hm : 3 ≤ m) : ∀ k t, Ok k t → kqdOk (m + 4 * k) t.dat = true := by
  refine tr_ind (fun k i => ?_) (fun k x hx => ?_) (fun k => ?_) fun k w ps ho hps ih => ?_
  · rw [Tr.dat]
    refine kq_le (n := 1) (kq_tuple fun x hx => ?_) (by omega)
    simp only [List.mem_cons, List.not_mem_nil, or_false] at hx
    rcases hx with rfl | rfl
    · exact kq_str _ (strs_ok _ (by decide +kernel))
    · exact kq_int _ _
  · rw [Tr.dat]
    exact kq_le (n := 1) (kq_sym 0 hx) (by omega)
  · rw [Tr.dat]
    exact kq_le (n := 1) (kq_nothing 0) (by omega)
  · rw [Tr.dat]
    refine kq_le (n := m + 4 * k + 2) (kq_node (word_ok ho) fun d hd => ?_) (by omega)
    rw [dats_map] at hd
    obtain ⟨p, hp, rfl⟩ := List.mem_map.mp hd
    exact ih p hp
theorem turned_ok {m : Nat} {kd : Dat} (hm : 3 ≤ m) (hk : kqdOk m kd = true) : ∀ k t, Ok k t → kqdOk (m + 4 * k) (turned kd t) = true := by
  refine tr_ind (fun k i => ?_) (fun k x hx => ?_) (fun k => ?_) fun k w ps ho hps ih => ?_
  · rw [turned, Tr.dat]
    refine kq_le (n := 1) (kq_tuple fun x hx => ?_) (by omega)
    simp only [List.mem_cons, List.not_mem_nil, or_false] at hx
    rcases hx with rfl | rfl
    · exact kq_str _ (strs_ok _ (by decide +kernel))
    · exact kq_int _ _
  · rw [turned, Tr.dat]
    exact kq_le (n := 1) (kq_sym 0 hx) (by omega)
  · rw [turned, Tr.dat]
    exact kq_le (n := 1) (kq_nothing 0) (by omega)
  · have hds : ∀ d ∈ turneds kd ps, kqdOk (m + 4 * k) d = true := fun d hd => by
      rw [turneds_eq] at hd
      obtain ⟨p, hp, rfl⟩ := List.mem_map.mp hd
      exact ih p hp
    cases hq : quiet w with
    | true => rw [turned_quiet hq]; exact dat_ok m hm _ _ ho
    | false =>
      cases hr : w == Str.ofString "return" with
      | true =>
        rw [turned_ret hq hr]
        refine kq_le (n := m + 4 * k + 4) (kq_node (n := m + 4 * k + 2) (word_ok ho) fun d hd => ?_) (by omega)
        simp only [List.mem_cons, List.not_mem_nil, or_false] at hd
        subst hd
        refine kq_conv (by omega) (kq_le hk (by omega)) ?_
        cases hts : turneds kd ps with
        | nil => exact kq_le (kq_nothing 0) (by omega)
        | cons d ds => exact hds d (by rw [hts]; exact .head _)
      | false =>
        rw [turned_other hq hr]
        exact kq_le (n := m + 4 * k + 2) (kq_node (word_ok ho) hds) (by omega)
theorem datIn_reads {h : Heap} {nw : List (Addr × Obj)} (R : ∀ p ∈ nw, h.get? p.1 = some p.2) {v : Value} {d : Dat} (n : Nat) (D : DatIn nw v d) (hk : kqdOk n d = true) : ∃ as, Reads h v (kqdP d) as :=
  kqd_in (h₀ := {}) (L := h.objs.size) (fun p hp => ⟨R p hp, Nat.ne_of_lt (Heap.lt_size (R p hp)), by simp [Heap.get?]⟩) n D hk
theorem shaped_ok {d : Dat} (hk : kqdOk 60 d = true) : SeqAt.shaped (kqdP d) = true := by
  have l := kqd_lay 60 d hk
  unfold SeqAt.shaped
  rw [l.1, Bool.true_and]
  exact decide_eq_true (Nat.le_trans l.2 (by decide))
section
variable {prog : Program} {w : World} {A : Around} {E : Value → Shared → Prop} {s : Shared} {nw : List (Addr × Obj)} {x y : Value} {dx dy : Dat} {Q : Value → Shared → Prop}
theorem ne_dat (R : ∀ p ∈ nw, s.heap.get? p.1 = some p.2) (Dx : DatIn nw x dx) (Dy : DatIn nw y dy) (ox : kqdOk 60 dx = true) (oy : kqdOk 60 dy = true) (hu : A.units + 64 < cLine) (h : dx ≠ dy → Q (.bool true) s) (k : dx = dy → Q (.bool false) s) :
    wpAny (model prog w) A (compareOp .NotEq x y) Q E s := by
  obtain ⟨as, ra⟩ := datIn_reads R 60 Dx ox
  obtain ⟨bs, rb⟩ := datIn_reads R 60 Dy oy
  refine ne_dataH ra rb (shaped_ok ox) (shaped_ok oy) hu ?_
  by_cases e : dx = dy
  · rw [(kqd_eqv 60 dx dy 60 ox oy).mpr e]; exact k e
  · rw [Bool.eq_false_iff.mpr fun q => e ((kqd_eqv 60 dx dy 60 ox oy).mp q)]; exact h e
theorem eq_dat (R : ∀ p ∈ nw, s.heap.get? p.1 = some p.2) (Dx : DatIn nw x dx) (Dy : DatIn nw y dy) (ox : kqdOk 60 dx = true) (oy : kqdOk 60 dy = true) (hu : A.units + 64 < cLine) (h : dx = dy → Q (.bool true) s) (k : dx ≠ dy → Q (.bool false) s) :
    wpAny (model prog w) A (compareOp .Eq x y) Q E s := by
  obtain ⟨as, ra⟩ := datIn_reads R 60 Dx ox
  obtain ⟨bs, rb⟩ := datIn_reads R 60 Dy oy
  refine eq_dataH ra rb (shaped_ok ox) (shaped_ok oy) hu ?_
  by_cases e : dx = dy
  · rw [(kqd_eqv 60 dx dy 60 ox oy).mpr e]; exact h e
  · rw [Bool.eq_false_iff.mpr fun q => e ((kqd_eqv 60 dx dy 60 ox oy).mp q)]; exact k e
theorem ne_dat_t (R : ∀ p ∈ nw, s.heap.get? p.1 = some p.2) (Dx : DatIn nw x dx) (Dy : DatIn nw y dy) (ox : kqdOk 60 dx = true) (oy : kqdOk 60 dy = true) (hu : A.units + 64 < cLine) (hne : dx ≠ dy) (h : Q (.bool true) s) :
    wpAny (model prog w) A (compareOp .NotEq x y) Q E s := ne_dat R Dx Dy ox oy hu (fun _ => h) fun e => absurd e hne
theorem ne_dat_f (R : ∀ p ∈ nw, s.heap.get? p.1 = some p.2) (Dx : DatIn nw x dx) (Dy : DatIn nw y dy) (ox : kqdOk 60 dx = true) (oy : kqdOk 60 dy = true) (hu : A.units + 64 < cLine) (he : dx = dy) (h : Q (.bool false) s) :
    wpAny (model prog w) A (compareOp .NotEq x y) Q E s := ne_dat R Dx Dy ox oy hu (fun e => absurd he e) fun _ => h
theorem eq_dat_t (R : ∀ p ∈ nw, s.heap.get? p.1 = some p.2) (Dx : DatIn nw x dx) (Dy : DatIn nw y dy) (ox : kqdOk 60 dx = true) (oy : kqdOk 60 dy = true) (hu : A.units + 64 < cLine) (he : dx = dy) (h : Q (.bool true) s) :
    wpAny (model prog w) A (compareOp .Eq x y) Q E s := eq_dat R Dx Dy ox oy hu (fun _ => h) fun e => absurd he e
end
theorem all_now {g h : Heap} {L : Addr} {m : Str → Option Value} {rd news : List (Addr × Obj)} (R : ∀ p ∈ rd, g.get? p.1 = some p.2) (F : Fr g L h m) (N : News g L h news) : ∀ p ∈ rd ++ news, h.get? p.1 = some p.2 := fun p hp =>
  (List.mem_append.mp hp).elim (fun hp => F.keep _ _ (R p hp)) fun hp => (N p hp).1
end Mine
namespace Mine
open PySem PySem.W PyProof.Rows PySem.Spec PySem.Calls
set_option linter.all false
abbrev Led := List (Addr × Obj)
abbrev PM (w : World) : Model := model row.row.prog w
/-- the ground's own tuples: SELF, QUIET, FUNCTIONS -/
def gK : Led := [(91, { cls := .type "tuple", data := .seq #[.str (Str.ofString "sym") 286, .str (Str.ofString "#self") 284] }), (92, { cls := .type "tuple", data := .seq #[.str (Str.ofString "quote") 288, .str (Str.ofString "macro") 289] }),
  (93, { cls := .type "tuple", data := .seq #[.str (Str.ofString "function") 291, .str (Str.ofString "->") 292, .str (Str.ofString "do") 293, .str (Str.ofString "generated") 294] })]
/-- what a name means: data, or an owned object -/
inductive Ent where
  | d (x : Dat)
  | r (l : Addr)
  | arg (x : Str)
  | args (xs : List Str)
  | hd (xs : List Str) (c res : Dat) (ps : List Dat)
  | any
/-- a field that holds data -/
def FldIn (nw : Led) (es : List DictEntry) (q : Str × Dat) : Prop := ∃ u, getL q.1 es = some (some u) ∧ DatIn nw u q.2
theorem FldIn.mono {nw nw' : Led} (hs : ∀ p ∈ nw, p ∈ nw') {es : List DictEntry} {q : Str × Dat} : FldIn nw es q → FldIn nw' es q := fun ⟨u, h, hD⟩ => ⟨u, h, hD.mono hs⟩
/-- an object of the class C that stands as it is, with these fields -/
def ObjIn (nw : Led) (v : Value) (C : Addr) (fs : List (Str × Dat)) : Prop := ∃ a D es n, v = .ref a ∧ (a, instObj C D) ∈ nw ∧ (D, W.dictOf es n) ∈ nw ∧ ∀ q ∈ fs, FldIn nw es q
theorem ObjIn.mono {nw nw' : Led} (hs : ∀ p ∈ nw, p ∈ nw') {v : Value} {C : Addr} {fs : List (Str × Dat)} : ObjIn nw v C fs → ObjIn nw' v C fs := fun ⟨a, D, es, n, e, h1, h2, h3⟩ => ⟨a, D, es, n, e, hs _ h1, hs _ h2, fun q hq => (h3 q hq).mono hs⟩
abbrev argFs (x : Str) : List (Str × Dat) := [(Str.ofString "name", .str x), (Str.ofString "default", .none), (Str.ofString "is_rest", .bool false)]
abbrev hdFs (c res : Dat) (ps : List Dat) : List (Str × Dat) := [(Str.ofString "callee", c), (Str.ofString "result", res), (Str.ofString "patterns", .list ps), (Str.ofString "keywords", .list [])]
def ArgsIn (nw : Led) : List Value → List Str → Prop
  | [], [] => True
  | v :: vs, x :: xs => ObjIn nw v 110 (argFs x) ∧ ArgsIn nw vs xs
  | _, _ => False
theorem ArgsIn.mono {nw nw' : Led} (hs : ∀ p ∈ nw, p ∈ nw') : ∀ {vs : List Value} {xs : List Str}, ArgsIn nw vs xs → ArgsIn nw' vs xs
  | [], [], _ => trivial
  | _ :: _, _ :: _, ⟨h, r⟩ => ⟨h.mono hs, ArgsIn.mono hs r⟩
theorem ArgsIn.len {nw : Led} : ∀ {vs : List Value} {xs : List Str}, ArgsIn nw vs xs → vs.length = xs.length
  | [], [], _ => rfl
  | _ :: _, _ :: _, ⟨_, r⟩ => by rw [List.length_cons, List.length_cons, ArgsIn.len r]
def ArgL (nw : Led) (v : Value) (xs : List Str) : Prop := ∃ l vs n, v = .ref l ∧ (l, W.listOf (List.toArray vs) n) ∈ nw ∧ ArgsIn nw vs xs
theorem ArgL.mono {nw nw' : Led} (hs : ∀ p ∈ nw, p ∈ nw') {v : Value} {xs : List Str} : ArgL nw v xs → ArgL nw' v xs := fun ⟨l, vs, n, e, h1, h2⟩ => ⟨l, vs, n, e, hs _ h1, h2.mono hs⟩
def HdIn (nw : Led) (v : Value) (xs : List Str) (c res : Dat) (ps : List Dat) : Prop := ∃ a D es n u, v = .ref a ∧ (a, instObj 131 D) ∈ nw ∧ (D, W.dictOf es n) ∈ nw ∧ (∀ q ∈ hdFs c res ps, FldIn nw es q) ∧ getL (Str.ofString "arguments") es = some (some u) ∧ ArgL nw u xs
theorem HdIn.mono {nw nw' : Led} (hs : ∀ p ∈ nw, p ∈ nw') {v : Value} {xs : List Str} {c res : Dat} {ps : List Dat} : HdIn nw v xs c res ps → HdIn nw' v xs c res ps := fun ⟨a, D, es, n, u, e, h1, h2, h3, h4, h5⟩ => ⟨a, D, es, n, u, e, hs _ h1, hs _ h2, fun q hq => (h3 q hq).mono hs, h4, h5.mono hs⟩
def EntIn (nw : Led) (v : Value) : Ent → Prop
  | .d x => DatIn nw v x
  | .r l => v = .ref l
  | .arg x => ObjIn nw v 110 (argFs x)
  | .args xs => ArgL nw v xs
  | .hd xs c res ps => HdIn nw v xs c res ps
  | .any => True
theorem EntIn.mono {nw nw' : Led} (hs : ∀ p ∈ nw, p ∈ nw') {v : Value} : ∀ {t : Ent}, EntIn nw v t → EntIn nw' v t
  | .d _, h => DatIn.mono hs h
  | .r _, h => h
  | .arg _, h => ObjIn.mono hs h
  | .args _, h => ArgL.mono hs h
  | .hd .., h => HdIn.mono hs h
  | .any, h => h
/-- an object's dict, key by key -/
def DicIn (nw : Led) : List DictEntry → List (Str × Ent) → Prop
  | [], [] => True
  | e :: en, q :: es => (∃ h t v, e = ⟨h, .str q.1 t, v⟩ ∧ EntIn nw v q.2) ∧ DicIn nw en es
  | _, _ => False
theorem DicIn.mono {nw nw' : Led} (hs : ∀ p ∈ nw, p ∈ nw') : ∀ {en : List DictEntry} {es : List (Str × Ent)}, DicIn nw en es → DicIn nw' en es
  | [], [], _ => trivial
  | _ :: _, _ :: _, ⟨⟨h, t, v, e, k⟩, r⟩ => ⟨⟨h, t, v, e, k.mono hs⟩, DicIn.mono hs r⟩
/-- where a def's body runs -/
structure Cx (w : World) where
  dp : Nat
  un : Nat
  gd : Option (List Code)
  cn : Str
  cs : Scope
  L : Addr
  a : Addr
  ccd : Value
  cl : List (Str × Addr)
  outer : List Env
  A₀ : Around
  base : Heap
  h₀ : Heap
  mean : ExcName → Option Value
  mg : Str → Option Value
  mb : Str → Option Value
  G : Led
  sz : Nat
  B : Below A₀ base outer h₀
  X : (KK w.params).In h₀
  T : Top vw (looseW vw [Str.ofString "RowsError", Str.ofString "SELF"]) mean mg mb h₀
  hk : cs.kind = .function
  hG : ∀ p ∈ G, h₀.get? p.1 = some p.2
  hK : ∀ p ∈ gK, p ∈ G
  env : Env
  vars : Option (Addr × Obj × (Str → Option Value))
  Δ : List (Str × Ent)
  hE : env.globals = mainGlobals
  hkE : env.scope.kind = .function
  hV1 : vars = none → env.locals = L
  hV2 : ∀ q, vars = some q → env.locals = q.1 ∧ LCg.NsObj q.2.1 q.2.2
  hd : dp + sz < recursionLimit
  hu : un + 8 * sz < cLine
variable {w : World}
abbrev Cx.A (C : Cx w) : Around := ktrTop C.dp C.un C.gd C.cn C.cs C.L C.a C.ccd C.cl C.outer
/-- the names' values: the frame's, or a comprehension's -/
def Cx.look (C : Cx w) (m : Str → Option Value) : Str → Option Value := match C.vars with
  | none => m
  | some q => q.2.2
/-- a def's own frame -/
structure Fm (C : Cx w) (sc : Scope) : Prop where
  v : C.vars = none
  e : C.env = envX C.cn C.cs C.L C.a C.ccd C.cl
  c : C.cs = sc
theorem Fm.s {C : Cx w} {sc : Scope} (h : Fm C sc) : C.env.scope = sc := by rw [h.e]; exact h.c
theorem kind_at {C : Cx w} {sc : Scope} (h : C.env.scope = sc) {x : Str} {k : NameKind} (hk : sc.names.lookup x = some k) : C.env.kindOf x = some k := by subst h; exact hk
/-- what an owned object holds -/
inductive Cell where
  | lst (ds : List Dat)
  | sack
  | raw (o : Obj)
  | args (xs : List Str)
  | dic (es : List (Str × Ent))
def CellIn (nw : Led) (o : Obj) : Cell → Prop
  | .lst ds => ∃ vs n, o = W.listOf (List.toArray vs) n ∧ DatAll nw vs ds
  | .sack => ∃ x y tx ty n, o = W.listOf #[.int x tx, .int y ty] n ∧ 0 ≤ x ∧ 0 ≤ y ∧ y < 4294967296
  | .raw o' => o = o'
  | .args xs => ∃ vs n, o = W.listOf (List.toArray vs) n ∧ ArgsIn nw vs xs
  | .dic es => ∃ en n, o = W.dictOf en n ∧ DicIn nw en es
theorem CellIn.mono {nw nw' : Led} (hs : ∀ p ∈ nw, p ∈ nw') {o : Obj} : ∀ {c : Cell}, CellIn nw o c → CellIn nw' o c
  | .lst _, ⟨vs, n, e, h⟩ => ⟨vs, n, e, h.mono hs⟩
  | .sack, h => h
  | .raw _, h => h
  | .args _, ⟨vs, n, e, h⟩ => ⟨vs, n, e, h.mono hs⟩
  | .dic _, ⟨en, n, e, h⟩ => ⟨en, n, e, h.mono hs⟩
abbrev Cells := List (Addr × Cell)
/-- the owned objects stand in the heap -/
def CellsAt (h₀ : Heap) (L : Addr) (h : Heap) (nw : Led) (M : Cells) : Prop := ∀ q ∈ M, ∃ o, CellIn nw o q.2 ∧ h.get? q.1 = some o ∧ q.1 ≠ L ∧ h₀.get? q.1 = none
/-- as a ledger -/
theorem CellsAt.led {h₀ : Heap} {L : Addr} {h : Heap} {nw : Led} : ∀ {M : Cells}, CellsAt h₀ L h nw M → ∃ os, News h₀ L h os ∧ (∀ q ∈ M, ∃ o, CellIn nw o q.2 ∧ (q.1, o) ∈ os) ∧ os.map (·.1) = M.map (·.1)
  | [], _ => ⟨[], fun _ h => (nomatch h), fun _ h => (nomatch h), rfl⟩
  | q :: M, H => by
    obtain ⟨os, N, hc, he⟩ := CellsAt.led (M := M) fun q hq => H q (.tail _ hq)
    obtain ⟨o, h1, h2⟩ := H q (.head _)
    refine ⟨(q.1, o) :: os, fun p hp => ?_, fun r hr => ?_, by rw [List.map_cons, List.map_cons, he]⟩
    · rcases List.mem_cons.mp hp with rfl | hp
      · exact h2
      · exact N p hp
    · rcases List.mem_cons.mp hr with rfl | hr
      · exact ⟨o, h1, .head _⟩
      · obtain ⟨o', h3, h4⟩ := hc r hr
        exact ⟨o', h3, .tail _ h4⟩
theorem CellsAt.of {h₀ : Heap} {L : Addr} {h : Heap} {nw nw' os : Led} {M : Cells} (N : News h₀ L h os) (hs : ∀ p ∈ nw, p ∈ nw') (H : ∀ q ∈ M, ∃ o, CellIn nw o q.2 ∧ (q.1, o) ∈ os) : CellsAt h₀ L h nw' M := fun q hq => by
  obtain ⟨o, h1, h2⟩ := H q hq
  exact ⟨o, h1.mono hs, N _ h2⟩
/-- the state: the frame's names, the ledger, the owned objects -/
structure St (C : Cx w) (m : Str → Option Value) (M : Cells) (R : Led) (s : Shared) : Prop where
  F : Fr C.h₀ C.L s.heap m
  N : News C.h₀ C.L s.heap R
  cs : CellsAt C.h₀ C.L s.heap (C.G ++ R) M
  nd : (M.map (·.1)).Nodup
  off : ∀ p ∈ R, p.1 ∉ M.map (·.1)
abbrev upS (s : Shared) (h : Heap) (tk : Nat) : Shared := { s with heap := h, toks := tk }
abbrev Tys := List (Str × Ent)
structure EnvOk (C : Cx w) (m : Str → Option Value) (R : Led) (Γ : Tys) : Prop where
  loc : ∀ x t, Γ.lookup x = some t → ∃ v, C.look m x = some v ∧ EntIn (C.G ++ R) v t
  cel : ∀ x t, C.Δ.lookup x = some t → ∃ v c o, C.env.cells.lookup x = some c ∧ (c, o) ∈ R ∧ o.data = .cell (some v) ∧ EntIn (C.G ++ R) v t
theorem up_mono {G R R' : Led} (hs : ∀ p ∈ R, p ∈ R') : ∀ p ∈ G ++ R, p ∈ G ++ R' := fun p hp => (List.mem_append.mp hp).elim (fun h => List.mem_append.mpr (.inl h)) fun h => List.mem_append.mpr (.inr (hs p h))
theorem EnvOk.mono {C : Cx w} {m : Str → Option Value} {R R' : Led} {Γ : Tys} (h : EnvOk C m R Γ) (hs : ∀ p ∈ R, p ∈ R') : EnvOk C m R' Γ :=
  ⟨fun x d e => let ⟨v, hv, hd⟩ := h.loc x d e; ⟨v, hv, hd.mono (up_mono hs)⟩, fun x d e => let ⟨v, c, o, h1, h2, h3, h4⟩ := h.cel x d e; ⟨v, c, o, h1, hs _ h2, h3, h4.mono (up_mono hs)⟩⟩
/-- an expression means t and turns nothing -/
structure Ev (C : Cx w) (Γ : Tys) (M : Cells) (e : PySem.Expr) (t : Ent) : Prop where
  run : ∀ (m : Str → Option Value) (R : Led) (s : Shared) (Q : Value → Shared → Prop) (E : Value → Shared → Prop), St C m M R s → EnvOk C m R Γ →
    (∀ v h tk R', St C m M R' (upS s h tk) → (∀ p ∈ R, p ∈ R') → EntIn (C.G ++ R') v t → Q v (upS s h tk)) → wpAny (PM w) C.A (eval e C.env) Q E s
def EntAll (nw : Led) : List Value → List Ent → Prop
  | [], [] => True
  | v :: vs, t :: ts => EntIn nw v t ∧ EntAll nw vs ts
  | _, _ => False
theorem EntAll.mono {nw nw' : Led} (hs : ∀ p ∈ nw, p ∈ nw') : ∀ {vs : List Value} {ts : List Ent}, EntAll nw vs ts → EntAll nw' vs ts
  | [], [], _ => trivial
  | _ :: _, _ :: _, ⟨h, r⟩ => ⟨h.mono hs, EntAll.mono hs r⟩
theorem EntAll.dats {nw : Led} : ∀ {vs : List Value} {ds : List Dat}, EntAll nw vs (ds.map .d) → DatAll nw vs ds
  | [], [], _ => .nil
  | _ :: _, _ :: _, ⟨h, r⟩ => .cons h (EntAll.dats r)
structure EvAll (C : Cx w) (Γ : Tys) (M : Cells) (es : List PySem.Expr) (ts : List Ent) : Prop where
  run : ∀ (pos : Pos) (m : Str → Option Value) (R : Led) (s : Shared) (Q : List Value → Shared → Prop) (E : Value → Shared → Prop), St C m M R s → EnvOk C m R Γ →
    (∀ vs h tk R', St C m M R' (upS s h tk) → (∀ p ∈ R, p ∈ R') → EntAll (C.G ++ R') vs ts → Q vs (upS s h tk)) → wpAny (PM w) C.A (spliced (backTo pos (starEach es C.env))) Q E s
theorem St.toks {C : Cx w} {m : Str → Option Value} {M : Cells} {R : Led} {s : Shared} (S : St C m M R s) (tk : Nat) : St C m M R (upS s s.heap tk) := ⟨S.F, S.N, S.cs, S.nd, S.off⟩
section
variable {C : Cx w} {Γ : Tys} {M : Cells} {pos : Pos} {k : Nat}
theorem ev_str {x : Str} : Ev C Γ M (.Constant (.str x) k pos) (.d (.str x)) := .mk <| fun _ _ s _ _ S _ ret => Calls.Constant_str (ret _ s.heap _ _ (S.toks _) (fun _ h => h) (.str _ _))
theorem ev_int {i : Nat} : Ev C Γ M (.Constant (.int i) k pos) (.d (.int i)) := .mk <| fun _ _ s _ _ S _ ret => wpAny_Constant_int (ret _ s.heap _ _ (S.toks _) (fun _ h => h) (.int _ _))
theorem ev_none : Ev C Γ M (.Constant .none k pos) (.d .none) := .mk <| fun _ _ s _ _ S _ ret => Constant_none (ret _ s.heap s.toks _ S (fun _ h => h) .none)
theorem ev_name {x : Str} {t : Ent} {sc : Scope} (hC : Fm C sc) (hk : sc.names.lookup x = some .local) (hx : (x == Str.ofString "__debug__") = false) (hd : Γ.lookup x = some t) : Ev C Γ M (.Name x pos) t := .mk <| fun m R s Q E S hΓ ret => by
  obtain ⟨v, hv, hD⟩ := hΓ.loc x t hd
  have hl : C.look m = m := by unfold Cx.look; rw [hC.v]
  rw [hl] at hv
  exact wpAny_Name (wpAny_loadName_local C.hkE (kind_at hC.s hk) (by rw [C.hV1 hC.v]; exact S.F.ns) hv (ret v s.heap s.toks R S (fun _ h => h) hD)) hx
/-- a comprehension's own name -/
theorem ev_nameC {x : Str} {t : Ent} {sc : Scope} {q : Addr × Obj × (Str → Option Value)} (hq : C.vars = some q) (hM : (q.1, Cell.raw q.2.1) ∈ M) (hC : C.env.scope = sc) (hk : sc.names.lookup x = some .local) (hx : (x == Str.ofString "__debug__") = false) (hd : Γ.lookup x = some t) : Ev C Γ M (.Name x pos) t := .mk <| fun m R s Q E S hΓ ret => by
  obtain ⟨v, hv, hD⟩ := hΓ.loc x t hd
  have hl : C.look m = q.2.2 := by unfold Cx.look; rw [hq]
  rw [hl] at hv
  obtain ⟨o, ho, h2⟩ := S.cs _ hM
  have ho : o = q.2.1 := ho
  subst ho
  exact wpAny_Name (wpAny_loadName_local C.hkE (kind_at hC hk) (by rw [(C.hV2 q hq).1]; exact (C.hV2 q hq).2.ns h2.1) hv (ret v s.heap s.toks R S (fun _ h => h) hD)) hx
/-- a captured name -/
theorem ev_cell {x : Str} {t : Ent} {sc : Scope} (hC : C.env.scope = sc) (hk : sc.names.lookup x = some .cell) (hx : (x == Str.ofString "__debug__") = false) (hd : C.Δ.lookup x = some t) : Ev C Γ M (.Name x pos) t := .mk <| fun m R s Q E S hΓ ret => by
  obtain ⟨v, c, o, h1, h2, h3, hD⟩ := hΓ.cel x t hd
  exact wpAny_Name (wpAny_loadName_cell C.hkE (kind_at hC hk) h1 ⟨o, (S.N _ h2).1, h3⟩ (ret v s.heap s.toks R S (fun _ h => h) hD)) hx
theorem evs_nil : EvAll C Γ M [] [] := .mk <| fun _ _ R s _ _ S _ ret => spliced_none (ret [] s.heap s.toks R S (fun _ h => h) trivial)
theorem evs_cons {e : PySem.Expr} {es : List PySem.Expr} {t : Ent} {ts : List Ent} (hs : ∀ env, starEach (e :: es) env = (false, eval e env) :: starEach es env) (h : Ev C Γ M e t) (r : EvAll C Γ M es ts) : EvAll C Γ M (e :: es) (t :: ts) := .mk <| fun pos m R s Q E S hΓ ret => by
  refine spliced_more (h.run m R s _ E S hΓ fun v h' tk R' S' hs' hD => ?_) (hs _)
  refine r.run pos m R' _ _ E S' (hΓ.mono hs') fun vs h'' tk' R'' S'' hs'' hDs => ?_
  exact ret (v :: vs) h'' tk' R'' S'' (fun p hp => hs'' p (hs' p hp)) ⟨hD.mono (up_mono hs''), hDs⟩
/-- a step that keeps every ledger and makes one thing -/
theorem St.new {m : Str → Option Value} {R : Led} {s : Shared} (S : St C m M R s) {h : Heap} {D : Addr} {o : Obj} (lt : ∀ os, News C.h₀ C.L s.heap os → News C.h₀ C.L h ((D, o) :: os)) (hD : s.heap.objs.size ≤ D) (F : Fr C.h₀ C.L h m) (tk : Nat) : St C m M ((D, o) :: R) (upS s h tk) := by
  obtain ⟨os, N, hc, _⟩ := S.cs.led
  refine ⟨F, lt R S.N, .of (fun p hp => lt os N p (.tail _ hp)) (up_mono fun p hp => .tail _ hp) hc, S.nd, fun p hp hm => ?_⟩
  rcases List.mem_cons.mp hp with rfl | hp
  · obtain ⟨q, hq, e⟩ := List.mem_map.mp hm
    obtain ⟨o', _, h2⟩ := S.cs q hq
    have := Heap.lt_size h2.1
    rw [show q.1 = D from e] at this
    exact absurd this (Nat.not_lt.mpr hD)
  · exact S.off p hp hm
theorem ev_tuple {es : List PySem.Expr} {ds : List Dat} (hz : ds.length ≤ 24) (h : EvAll C Γ M es (ds.map .d)) : Ev C Γ M (.Tuple es k pos) (.d (.tuple ds)) := .mk <| fun m R s Q E S hΓ ret => by
  refine Tuple_ (h.run pos m R s _ E S hΓ fun vs h' tk R' S' hs hD => ?_)
  have hD := hD.dats
  refine newTuple_NK S'.F S'.N (fun h'' F N' kp => ?_) (by rw [hD.length, sizeLine_eq]; omega)
  refine ret _ h'' tk _ (S'.new (D := h'.objs.size) (o := { cls := .type "tuple", data := .seq vs.toArray }) (fun os N2 => ?_) (Nat.le_refl _) F tk) (fun p hp => .tail _ (hs p hp)) (.tuple (List.mem_append.mpr (.inr (.head _))) (hD.mono (up_mono fun p hp => .tail _ hp)))
  intro p hp
  rcases List.mem_cons.mp hp with rfl | hp
  · exact N' _ (.head _)
  · exact ⟨kp _ _ (N2 p hp).1, (N2 p hp).2⟩
end
end Mine
namespace Mine
open PySem PySem.W PyProof.Rows PySem.Spec PySem.Calls
set_option linter.all false
variable {w : World}
/-- a call of the def at f: it may turn the owned objects M and make more -/
def YTells (w : World) (f : Addr) (sz : Nat) (ts : List Ent) (M : Cells) (P : Ent → Cells → Prop) : Prop :=
  ∀ (C : Cx w) (m : Str → Option Value) (s : Shared) (args : List Value) (rd : Led) (Q E : Value → Shared → Prop), sz ≤ C.sz → Fr C.h₀ C.L s.heap m → EntAll rd args ts → CellsAt C.h₀ C.L s.heap rd M →
    (∀ p ∈ gK, p ∈ rd) → (∀ p ∈ rd, s.heap.get? p.1 = some p.2) → (∀ p ∈ rd, p.1 ∉ M.map (·.1)) → (M.map (·.1)).Nodup →
    (∀ r h' tk' tl t M', Fr C.h₀ C.L h' m → News C.h₀ C.L h' tl → (∀ p ∈ tl, s.heap.get? p.1 = none) → CellsAt C.h₀ C.L h' (rd ++ tl) M' → (M'.map (·.1)).Nodup → (∀ q ∈ M', q.1 ∈ M.map (·.1) ∨ s.heap.get? q.1 = none) → (∀ p ∈ tl, p.1 ∉ M'.map (·.1)) →
      (∀ b o, s.heap.get? b = some o → b ∉ M.map (·.1) → h'.get? b = some o) → EntIn (rd ++ tl) r t → P t M' → Q r (upS s h' tk')) →
    wpAny (PM w) C.A (call (.ref f) args) Q E s
/-- one that leaves the owned objects as its words say -/
abbrev XTells (w : World) (f : Addr) (sz : Nat) (ts : List Ent) (M : Cells) (P : Ent → Prop) : Prop := YTells w f sz ts M (fun t M' => M' = M ∧ P t)
/-- a def on data -/
abbrev DTells (w : World) (f : Addr) (sz : Nat) (ds : List Dat) (d : Dat) : Prop := XTells w f sz (ds.map .d) [] (fun t => t = .d d)
theorem nodup_eq {M : Cells} (h : (M.map (·.1)).Nodup) {q r : Addr × Cell} (hq : q ∈ M) (hr : r ∈ M) (e : q.1 = r.1) : q = r := by
  induction M with
  | nil => cases hq
  | cons a M ih =>
    rw [List.map_cons, List.nodup_cons] at h
    rcases List.mem_cons.mp hq with k1 | k1
    · rcases List.mem_cons.mp hr with k2 | k2
      · exact k1.trans k2.symm
      · exact absurd (List.mem_map.mpr ⟨r, k2, by rw [← e, k1]⟩) h.1
    · rcases List.mem_cons.mp hr with k2 | k2
      · exact absurd (List.mem_map.mpr ⟨q, k1, by rw [e, k2]⟩) h.1
      · exact ih h.2 k1 k2
theorem St.reads' {C : Cx w} {m : Str → Option Value} {M : Cells} {R : Led} {s : Shared} (S : St C m M R s) : ∀ p ∈ C.G ++ R, s.heap.get? p.1 = some p.2 := fun p hp => (List.mem_append.mp hp).elim (fun h => S.F.keep _ _ (C.hG p h)) fun h => (S.N p h).1
section
variable {C : Cx w} {M M₁ : Cells}
/-- a call from a state; it turns the cells M₁ -/
theorem St.callY {f : Addr} {n : Nat} {ts : List Ent} {P : Ent → Cells → Prop} {M₂ : Cells} {m : Str → Option Value} {R : Led} {s : Shared} {vs : List Value} {Q E : Value → Shared → Prop} (S : St C m (M₁ ++ M₂) R s) (T : YTells w f n ts M₁ P) (hn : n ≤ C.sz) (hv : EntAll (C.G ++ R) vs ts)
    (ret : ∀ r h' tk' R' t M', St C m (M' ++ M₂) R' (upS s h' tk') → (∀ p ∈ R, p ∈ R') → EntIn (C.G ++ R') r t → P t M' → Q r (upS s h' tk')) : wpAny (PM w) C.A (call (.ref f) vs) Q E s := by
  have hs : ∀ q ∈ M₁, q ∈ M₁ ++ M₂ := fun q hq => List.mem_append.mpr (.inl hq)
  have sub : ∀ b, b ∈ M₁.map (·.1) → b ∈ (M₁ ++ M₂).map (·.1) := fun b hb => by
    rw [List.map_append]; exact List.mem_append.mpr (.inl hb)
  have nd := S.nd
  rw [List.map_append, List.nodup_append] at nd
  refine T C m s vs (C.G ++ R) Q E hn S.F hv (fun q hq => S.cs q (hs q hq)) (fun p hp => List.mem_append.mpr (.inl (C.hK p hp))) S.reads' (fun p hp => ?_) nd.1 fun r h' tk' tl t M' F N ho hc nd' old ofl kp hr hP => ?_
  · rcases List.mem_append.mp hp with hp | hp
    · intro hm
      obtain ⟨q, hq, e⟩ := List.mem_map.mp (sub _ hm)
      obtain ⟨o, _, h2⟩ := S.cs q hq
      have z := C.hG p hp
      rw [show q.1 = p.1 from e] at h2
      rw [h2.2.2] at z
      cases z
    · exact fun hm => S.off p hp (sub _ hm)
  · rw [List.append_assoc] at hr hc
    have in2 : ∀ q ∈ M₂, ∃ o, CellIn (C.G ++ R) o q.2 ∧ s.heap.get? q.1 = some o ∧ q.1 ≠ C.L ∧ C.h₀.get? q.1 = none := fun q hq => S.cs q (List.mem_append.mpr (.inr hq))
    have apart : ∀ q ∈ M', ∀ q' ∈ M₂, q.1 ≠ q'.1 := fun q hq q' hq' e => by
      rcases old q hq with h | h
      · exact nd.2.2 _ h _ (List.mem_map_of_mem hq') e
      · obtain ⟨o, _, h2, _⟩ := in2 q' hq'
        rw [← e, h] at h2; cases h2
    refine ret r h' tk' (R ++ tl) t M' ⟨F, fun p hp => ?_, fun q hq => ?_, ?_, fun p hp hm => ?_⟩ (fun p hp => List.mem_append.mpr (.inl hp)) hr hP
    · rcases List.mem_append.mp hp with hp | hp
      · exact ⟨kp _ _ (S.N p hp).1 fun h => S.off p hp (sub _ h), (S.N p hp).2⟩
      · exact N p hp
    · rcases List.mem_append.mp hq with hq | hq
      · exact hc q hq
      · obtain ⟨o, h1, h2, h3⟩ := in2 q hq
        exact ⟨o, h1.mono (up_mono fun p hp => List.mem_append.mpr (.inl hp)), kp _ _ h2 (fun hm => nd.2.2 _ hm _ (List.mem_map_of_mem hq) rfl), h3⟩
    · rw [List.map_append, List.nodup_append]
      refine ⟨nd', nd.2.1, fun a ha b hb e => ?_⟩
      obtain ⟨q, hq, rfl⟩ := List.mem_map.mp ha
      obtain ⟨q', hq', rfl⟩ := List.mem_map.mp hb
      exact apart q hq q' hq' e
    · rw [List.map_append, List.mem_append] at hm
      rcases List.mem_append.mp hp with hp | hp
      · rcases hm with hm | hm
        · obtain ⟨q, hq, e⟩ := List.mem_map.mp hm
          rcases old q hq with h | h
          · exact S.off p hp (sub _ (show p.1 ∈ _ from e ▸ h))
          · have := (S.N p hp).1
            rw [← show q.1 = p.1 from e, h] at this; cases this
        · exact S.off p hp (by rw [List.map_append]; exact List.mem_append.mpr (.inr hm))
      · rcases hm with hm | hm
        · exact ofl p hp hm
        · obtain ⟨q, hq, e⟩ := List.mem_map.mp hm
          obtain ⟨o, _, h2, _⟩ := in2 q hq
          have := ho p hp
          rw [← show q.1 = p.1 from e, h2] at this
          cases this
/-- other words for the same cells -/
theorem St.sub {m : Str → Option Value} {R : Led} {s : Shared} (S : St C m M R s) (hs : ∀ q ∈ M₁, q ∈ M) (hnd : (M₁.map (·.1)).Nodup) : St C m M₁ R s :=
  ⟨S.F, S.N, fun q hq => S.cs q (hs q hq), hnd, fun p hp hm => by
    obtain ⟨q, hq, e⟩ := List.mem_map.mp hm
    exact S.off p hp (List.mem_map.mpr ⟨q, hs q hq, e⟩)⟩
/-- a call that leaves the cells' words -/
theorem St.call {f : Addr} {n : Nat} {ts : List Ent} {P : Ent → Prop} {m : Str → Option Value} {R : Led} {s : Shared} {vs : List Value} {Q E : Value → Shared → Prop} (S : St C m M R s) (T : XTells w f n ts M₁ P) (hn : n ≤ C.sz) (hs : ∀ q ∈ M₁, q ∈ M) (hnd : (M₁.map (·.1)).Nodup) (hv : EntAll (C.G ++ R) vs ts)
    (ret : ∀ r h' tk' R' t, St C m M R' (upS s h' tk') → (∀ p ∈ R, p ∈ R') → EntIn (C.G ++ R') r t → P t → Q r (upS s h' tk')) : wpAny (PM w) C.A (call (.ref f) vs) Q E s := by
  let M₂ := M.filter fun q => decide (q.1 ∉ M₁.map (·.1))
  have e2 : ∀ q, q ∈ M₂ ↔ q ∈ M ∧ q.1 ∉ M₁.map (·.1) := fun q => by simp [M₂, List.mem_filter]
  have hsub : ∀ q ∈ M₁ ++ M₂, q ∈ M := fun q hq => (List.mem_append.mp hq).elim (hs q) fun h => ((e2 q).mp h).1
  have n2 : (M₂.map (·.1)).Nodup := List.Nodup.sublist (List.Sublist.map _ List.filter_sublist) S.nd
  have n12 : ((M₁ ++ M₂).map (·.1)).Nodup := by
    rw [List.map_append, List.nodup_append]
    refine ⟨hnd, n2, fun a ha b hb e => ?_⟩
    obtain ⟨q, hq, rfl⟩ := List.mem_map.mp hb
    exact ((e2 q).mp hq).2 (e ▸ ha)
  refine (S.sub hsub n12).callY T hn hv fun r h' tk' R' t M' S' hR hr hP => ?_
  obtain ⟨rfl, hP⟩ := hP
  refine ret r h' tk' R' t (S'.sub (fun q hq => ?_) S.nd) hR hr hP
  by_cases h : q.1 ∈ M'.map (·.1)
  · obtain ⟨q', hq', e⟩ := List.mem_map.mp h
    have := nodup_eq S.nd (hs q' hq') hq e
    subst this
    exact List.mem_append.mpr (.inl hq')
  · exact List.mem_append.mpr (.inr ((e2 q).mpr ⟨hq, h⟩))
end
/-- the global x is the def at f -/
structure GFn (w : World) (x : Str) (f : Addr) : Prop where
  at_ : nsIn (KK w.params) mainGlobals x = some (some (.ref f))
  keeps : keepIn (KK w.params) (.ref f) = true
  nodebug : (x == Str.ofString "__debug__") = false
/-- an expression that draws -/
structure EvP (C : Cx w) (Γ : Tys) (M : Cells) (e : PySem.Expr) (P : Ent → Prop) : Prop where
  run : ∀ (m : Str → Option Value) (R : Led) (s : Shared) (Q : Value → Shared → Prop) (E : Value → Shared → Prop), St C m M R s → EnvOk C m R Γ →
    (∀ v h tk R' t, St C m M R' (upS s h tk) → (∀ p ∈ R, p ∈ R') → EntIn (C.G ++ R') v t → P t → Q v (upS s h tk)) → wpAny (PM w) C.A (eval e C.env) Q E s
theorem nameG_B {h₀ : Heap} {L : Addr} {m mg mb : Str → Option Value} {s : Shared} {env : Env} {A : Around} {E : Value → Shared → Prop} {P : Program} {loose : List Str} {x : Str} {pos : Pos} {v : Value} {Q : Value → Shared → Prop} (F : Fr h₀ L s.heap m) (X : (KK w.params).In h₀) (T : TopRead P loose mg mb h₀) (e : nsIn (KK w.params) mainGlobals x = some none)
    (hv : bootBuiltins x = some v) (hn : x ≠ Str.ofString "__name__") (h : Q v s) (hg : env.globals = mainGlobals) (hb : env.builtins = builtinsNs) (hk : env.scope.kind = .function) (hx : env.kindOf x = some .globalImplicit) (hd : (x == Str.ofString "__debug__") = false) : wpAny (PM w) A (eval (.Name x pos) env) Q E s :=
  Name_function_global hk hx (loadGlobal_builtin (env := env) (by rw [hg]; exact T.g.keeps F.keep) (mg_none_of X T.g e) (by rw [hb]; exact T.b.keeps F.keep) ((T.builtins x hn).trans hv) h) hd
section
variable {C : Cx w} {Γ : Tys} {M M₁ : Cells} {pos p : Pos} {sc : Scope}
theorem evp_call {x : Str} {f : Addr} {e : PySem.Expr} {es : List PySem.Expr} {ts : List Ent} {P : Ent → Prop} {n : Nat} (hC : C.env.scope = sc) (hk : sc.names.lookup x = some .globalImplicit) (g : GFn w x f) (hs : ∀ env, starEach (e :: es) env = (false, eval e env) :: starEach es env) (hb : ∀ env, ((backTo pos (starEach es env)).any (·.1)) = false)
    (T : XTells w f n ts M₁ P) (hn : n ≤ C.sz) (h₁ : ∀ q ∈ M₁, q ∈ M) (hnd : (M₁.map (·.1)).Nodup) (h : EvAll C Γ M (e :: es) ts) : EvP C Γ M (.Call (.Name x p) (e :: es) [] pos) P := .mk <| fun m R s Q E S hΓ ret => by
  refine Call_ (nameG_K S.F C.X (topRead_of C.T) g.at_ ?_ C.hE C.hkE (kind_at hC hk) g.nodebug)
  refine callWith_K C.X g.keeps (h.run pos m R s _ E S hΓ fun vs h' tk R' S' hs' hD => ⟨C.X.keeps S'.F.keep, ?_⟩) (hs _) (hb _)
  exact S'.call T hn h₁ hnd hD fun r h'' tk' R'' t S'' hs'' hr hP => ret r h'' tk' R'' t S'' (fun q hq => hs'' q (hs' q hq)) hr hP
theorem ev_of {e : PySem.Expr} {t : Ent} (h : EvP C Γ M e (fun u => u = t)) : Ev C Γ M e t := .mk <| fun m R s Q E S hΓ ret => h.run m R s Q E S hΓ fun v h' tk R' u S' hs' hv hu => ret v h' tk R' S' hs' (hu ▸ hv)
theorem evp_of {e : PySem.Expr} {t : Ent} {P : Ent → Prop} (h : Ev C Γ M e t) (hP : P t) : EvP C Γ M e P := .mk <| fun m R s Q E S hΓ ret => h.run m R s Q E S hΓ fun v h' tk R' S' hs' hv => ret v h' tk R' t S' hs' hv hP
/-- the arguments draw -/
def AllP : List (Ent → Prop) → List Ent → Prop
  | [], [] => True
  | P :: Ps, t :: ts => P t ∧ AllP Ps ts
  | _, _ => False
structure EvAllP (C : Cx w) (Γ : Tys) (M : Cells) (es : List PySem.Expr) (Ps : List (Ent → Prop)) : Prop where
  run : ∀ (pos : Pos) (m : Str → Option Value) (R : Led) (s : Shared) (Q : List Value → Shared → Prop) (E : Value → Shared → Prop), St C m M R s → EnvOk C m R Γ →
    (∀ vs h tk R' ts, St C m M R' (upS s h tk) → (∀ p ∈ R, p ∈ R') → EntAll (C.G ++ R') vs ts → AllP Ps ts → Q vs (upS s h tk)) → wpAny (PM w) C.A (spliced (backTo pos (starEach es C.env))) Q E s
theorem evsp_nil : EvAllP C Γ M [] [] := .mk <| fun _ _ R s _ _ S _ ret => spliced_none (ret [] s.heap s.toks R [] S (fun _ h => h) trivial trivial)
theorem evsp_cons {e : PySem.Expr} {es : List PySem.Expr} {P : Ent → Prop} {Ps : List (Ent → Prop)} (hs : ∀ env, starEach (e :: es) env = (false, eval e env) :: starEach es env) (h : EvP C Γ M e P) (r : EvAllP C Γ M es Ps) : EvAllP C Γ M (e :: es) (P :: Ps) := .mk <| fun pos m R s Q E S hΓ ret => by
  refine spliced_more (h.run m R s _ E S hΓ fun v h' tk R' t S' hs' hD hP => ?_) (hs _)
  refine r.run pos m R' _ _ E S' (hΓ.mono hs') fun vs h'' tk' R'' ts S'' hs'' hDs hPs => ?_
  exact ret (v :: vs) h'' tk' R'' (t :: ts) S'' (fun p hp => hs'' p (hs' p hp)) ⟨hD.mono (up_mono hs''), hDs⟩ ⟨hP, hPs⟩
theorem evp_callP {x : Str} {f : Addr} {e : PySem.Expr} {es : List PySem.Expr} {Ps : List (Ent → Prop)} {P : Ent → Prop} {n : Nat} (hC : C.env.scope = sc) (hk : sc.names.lookup x = some .globalImplicit) (g : GFn w x f) (hs : ∀ env, starEach (e :: es) env = (false, eval e env) :: starEach es env) (hb : ∀ env, ((backTo pos (starEach es env)).any (·.1)) = false)
    (T : ∀ ts, AllP Ps ts → XTells w f n ts M₁ P) (hn : n ≤ C.sz) (h₁ : ∀ q ∈ M₁, q ∈ M) (hnd : (M₁.map (·.1)).Nodup) (h : EvAllP C Γ M (e :: es) Ps) : EvP C Γ M (.Call (.Name x p) (e :: es) [] pos) P := .mk <| fun m R s Q E S hΓ ret => by
  refine Call_ (nameG_K S.F C.X (topRead_of C.T) g.at_ ?_ C.hE C.hkE (kind_at hC hk) g.nodebug)
  refine callWith_K C.X g.keeps (h.run pos m R s _ E S hΓ fun vs h' tk R' ts S' hs' hD hP => ⟨C.X.keeps S'.F.keep, ?_⟩) (hs _) (hb _)
  exact S'.call (T ts hP) hn h₁ hnd hD fun r h'' tk' R'' t S'' hs'' hr hP => ret r h'' tk' R'' t S'' (fun q hq => hs'' q (hs' q hq)) hr hP
/-- an expression that turns owned objects -/
structure EvY (C : Cx w) (Γ : Tys) (M : Cells) (e : PySem.Expr) (P : Ent → Cells → Prop) : Prop where
  run : ∀ (m : Str → Option Value) (R : Led) (s : Shared) (Q : Value → Shared → Prop) (E : Value → Shared → Prop), St C m M R s → EnvOk C m R Γ →
    (∀ v h tk R' t M', St C m M' R' (upS s h tk) → (∀ p ∈ R, p ∈ R') → EntIn (C.G ++ R') v t → P t M' → Q v (upS s h tk)) → wpAny (PM w) C.A (eval e C.env) Q E s
theorem evy_of {e : PySem.Expr} {P : Ent → Prop} {PP : Ent → Cells → Prop} (h : EvP C Γ M e P) (hP : ∀ t, P t → PP t M) : EvY C Γ M e PP := .mk <| fun m R s Q E S hΓ ret => h.run m R s Q E S hΓ fun v h' tk R' t S' hs' hD k => ret v h' tk R' t M S' hs' hD (hP t k)
theorem evy_call {x : Str} {f : Addr} {e : PySem.Expr} {es : List PySem.Expr} {ts : List Ent} {M₂ : Cells} {P PP : Ent → Cells → Prop} {n : Nat} (hC : C.env.scope = sc) (hk : sc.names.lookup x = some .globalImplicit) (g : GFn w x f) (hs : ∀ env, starEach (e :: es) env = (false, eval e env) :: starEach es env) (hb : ∀ env, ((backTo pos (starEach es env)).any (·.1)) = false)
    (T : YTells w f n ts M₁ P) (hn : n ≤ C.sz) (h : EvAll C Γ (M₁ ++ M₂) (e :: es) ts) (hP : ∀ t M', P t M' → PP t (M' ++ M₂)) : EvY C Γ (M₁ ++ M₂) (.Call (.Name x p) (e :: es) [] pos) PP := .mk <| fun m R s Q E S hΓ ret => by
  refine Call_ (nameG_K S.F C.X (topRead_of C.T) g.at_ ?_ C.hE C.hkE (kind_at hC hk) g.nodebug)
  refine callWith_K C.X g.keeps (h.run pos m R s _ E S hΓ fun vs h' tk R' S' hs' hD => ⟨C.X.keeps S'.F.keep, ?_⟩) (hs _) (hb _)
  exact S'.callY T hn hD fun r h'' tk' R'' t M' S'' hs'' hr k => ret r h'' tk' R'' t _ S'' (fun q hq => hs'' q (hs' q hq)) hr (hP t M' k)
theorem ev_call {x : Str} {f : Addr} {e : PySem.Expr} {es : List PySem.Expr} {ds : List Dat} {d : Dat} {n : Nat} (hC : C.env.scope = sc) (hk : sc.names.lookup x = some .globalImplicit) (g : GFn w x f) (hs : ∀ env, starEach (e :: es) env = (false, eval e env) :: starEach es env) (hb : ∀ env, ((backTo pos (starEach es env)).any (·.1)) = false)
    (T : DTells w f n ds d) (hn : n ≤ C.sz) (h : EvAll C Γ M (e :: es) (ds.map .d)) : Ev C Γ M (.Call (.Name x p) (e :: es) [] pos) (.d d) :=
  ev_of (evp_call hC hk g hs hb T hn (fun _ h => nomatch h) .nil h)
/-- tuple(x) of a tuple -/
theorem ev_tupleOf {e : PySem.Expr} {ds : List Dat} (hC : Fm C sc) (hk : sc.names.lookup (Str.ofString "tuple") = some .globalImplicit) (hx : nsIn (KK w.params) mainGlobals (Str.ofString "tuple") = some none) (hb : bootBuiltins (Str.ofString "tuple") = some (.type "tuple"))
    (hn : Str.ofString "tuple" ≠ Str.ofString "__name__") (hd' : (Str.ofString "tuple" == Str.ofString "__debug__") = false) (hs : ∀ env, starEach [e] env = [(false, eval e env)]) (h : Ev C Γ M e (.d (.tuple ds))) : Ev C Γ M (.Call (.Name (Str.ofString "tuple") p) [e] [] pos) (.d (.tuple ds)) := .mk <| fun m R s Q E S hΓ ret => by
  refine Call_ (nameG_B S.F C.X (topRead_of C.T) hx hb hn ?_ C.hE (by rw [hC.e]) C.hkE (kind_at hC.s hk) hd')
  refine PyProof.Rows.callWith_type1 ((evs_cons hs h evs_nil).run pos m R s _ E S hΓ fun vs h' tk R' S' hs' hD => ?_) (hs _)
  match vs, hD with
  | [v], ⟨hD1, _⟩ =>
    have hD1 : DatIn (C.G ++ R') v (.tuple ds) := hD1
    cases hD1 with
    | @tuple _ vs1 _ _ hm hr =>
      refine call_tuple_tup (items := vs1.toArray) ?_ (ret _ h' tk R' S' hs' (.tuple hm hr))
      rcases List.mem_append.mp hm with hm | hm
      · exact ⟨_, S'.F.keep _ _ (C.hG _ hm), rfl, _, rfl⟩
      · exact News.isTup S'.N hm
/-- tuple(x) of a list -/
theorem ev_tupleOfL {e : PySem.Expr} {ds : List Dat} (hC : Fm C sc) (hk : sc.names.lookup (Str.ofString "tuple") = some .globalImplicit) (hx : nsIn (KK w.params) mainGlobals (Str.ofString "tuple") = some none) (hb : bootBuiltins (Str.ofString "tuple") = some (.type "tuple"))
    (hn : Str.ofString "tuple" ≠ Str.ofString "__name__") (hd' : (Str.ofString "tuple" == Str.ofString "__debug__") = false) (hs : ∀ env, starEach [e] env = [(false, eval e env)]) (hz : ds.length ≤ 24) (h : Ev C Γ M e (.d (.list ds))) : Ev C Γ M (.Call (.Name (Str.ofString "tuple") p) [e] [] pos) (.d (.tuple ds)) := .mk <| fun m R s Q E S hΓ ret => by
  refine Call_ (nameG_B S.F C.X (topRead_of C.T) hx hb hn ?_ C.hE (by rw [hC.e]) C.hkE (kind_at hC.s hk) hd')
  refine PyProof.Rows.callWith_type1 ((evs_cons hs h evs_nil).run pos m R s _ E S hΓ fun vs h' tk R' S' hs' hD => ?_) (hs _)
  match vs, hD with
  | [v], ⟨hD1, _⟩ =>
    have hD1 : DatIn (C.G ++ R') v (.list ds) := hD1
    cases hD1 with
    | @list l vs1 k _ hm hr =>
      obtain ⟨os, N, hc, _⟩ := S'.cs.led
      have hl : h'.get? l = some { cls := .type "list", data := .seq vs1.toArray k } := S'.reads' _ hm
      refine kde_tupleOf (items := vs1.toArray) (zs := vs1) S'.F (fun p hp => (List.mem_append.mp hp).elim (N p) (S'.N p)) ⟨_, hl, rfl, k, rfl⟩ (by rw [List.size_toArray, hr.length]; omega) rfl fun D h2 F2 N2 lt => ?_
      refine ret (.ref D) h2 tk ((D, { cls := .type "tuple", data := .seq vs1.toArray }) :: R') ⟨F2, fun p hp => ?_, .of (fun p hp => N2 p (.tail _ (List.mem_append.mpr (.inl hp)))) (up_mono fun p hp => .tail _ hp) hc, S'.nd, fun p hp hm' => ?_⟩ (fun p hp => .tail _ (hs' p hp)) (.tuple (List.mem_append.mpr (.inr (.head _))) (hr.mono (up_mono fun p hp => .tail _ hp)))
      · rcases List.mem_cons.mp hp with rfl | hp
        · exact N2 _ (.head _)
        · exact N2 p (.tail _ (List.mem_append.mpr (.inr hp)))
      · rcases List.mem_cons.mp hp with rfl | hp
        · obtain ⟨q, hq, e⟩ := List.mem_map.mp hm'
          obtain ⟨o, _, ho⟩ := hc q hq
          have := lt _ (List.mem_append.mpr (.inl ho))
          exact Nat.lt_irrefl _ (show q.1 < q.1 from by rw [show q.1 = D from e] at this ⊢; exact this)
        · exact S'.off p hp hm'
end
/-- statements: they go on with what N says, or give back what P says; nothing is raised -/
structure Sx (C : Cx w) (Γ : Tys) (M : Cells) (b : List Stmt) (N : Tys → Cells → Prop) (P : Ent → Cells → Prop) : Prop where
  run : ∀ (m : Str → Option Value) (R : Led) (s : Shared) (Q : Flow → Shared → Prop), St C m M R s → EnvOk C m R Γ →
    (∀ m' h tk R' Γ' M', St C m' M' R' (upS s h tk) → (∀ p ∈ R, p ∈ R') → EnvOk C m' R' Γ' → N Γ' M' → Q .next (upS s h tk)) →
    (∀ v m' h tk R' M' t, St C m' M' R' (upS s h tk) → (∀ p ∈ R, p ∈ R') → EntIn (C.G ++ R') v t → P t M' → Q (.ret v) (upS s h tk)) → wpAny (PM w) C.A (execs b C.env) Q (fun _ _ => False) s
/-- what stands in the cells behind those that are let go -/
def dropY (P : Ent → Cells → Prop) (t : Ent) (Me : Cells) : Prop := ∃ M' M'', Me = M' ++ M'' ∧ P t M''
/-- a body gives back what P says, the cells M₀ stand -/
abbrev Ex (C : Cx w) (Γ : Tys) (M M₀ : Cells) (b : List Stmt) (P : Ent → Prop) : Prop := Sx C Γ M b (fun _ _ => False) (dropY fun t M' => M' = M₀ ∧ P t)
section
variable {C : Cx w} {Γ : Tys} {M M₀ : Cells} {pos p : Pos} {sc : Scope} {rest : List Stmt} {P : Ent → Prop} {N : Tys → Cells → Prop} {PP : Ent → Cells → Prop}
theorem sx_nil (h : N Γ M) : Sx C Γ M [] N PP := .mk <| fun m R s Q S hΓ nx _ => wpAny_execs_nil (nx m s.heap s.toks R Γ M S (fun _ h => h) hΓ h)
theorem sx_retY {e : PySem.Expr} (h : EvY C Γ M e PP) : Sx C Γ M (.Return (some e) pos :: rest) N PP := .mk <| fun m R s Q S hΓ _ ret =>
  wpAny_execs_cons (wpAny_Return_some (h.run m R s _ _ S hΓ fun v h' tk R' t M' S' hs hD hP => ret v m h' tk R' M' t S' hs hD hP))
theorem ex_returnP {e : PySem.Expr} (h : EvP C Γ M e P) (hM : ∃ M', M = M' ++ M₀ := by exact ⟨[], rfl⟩) : Sx C Γ M (.Return (some e) pos :: rest) N (dropY fun t M' => M' = M₀ ∧ P t) := sx_retY (evy_of h fun t k => let ⟨M', e⟩ := hM; ⟨M', M₀, e, rfl, k⟩)
theorem ex_return {e : PySem.Expr} {t : Ent} (h : Ev C Γ M e t) (hP : P t) (hM : ∃ M', M = M' ++ M₀ := by exact ⟨[], rfl⟩) : Sx C Γ M (.Return (some e) pos :: rest) N (dropY fun t M' => M' = M₀ ∧ P t) := ex_returnP (evp_of h hP) hM
theorem ex_ret {e : PySem.Expr} {t : Ent} (h : Ev C Γ M e t) (hM : ∃ M', M = M' ++ M₀ := by exact ⟨[], rfl⟩) : Sx C Γ M (.Return (some e) pos :: rest) N (dropY fun u M' => M' = M₀ ∧ u = t) := ex_returnP (evp_of h rfl) hM
theorem env_store {m : Str → Option Value} {R : Led} {x : Str} {v : Value} {t : Ent} (hC : Fm C sc) (hΓ : EnvOk C m R Γ) (hv : EntIn (C.G ++ R) v t) : EnvOk C (fun y => if y = x then some v else m y) R ((x, t) :: Γ) := by
  have hl : ∀ m, C.look m = m := fun m => by unfold Cx.look; rw [hC.v]
  refine ⟨fun y e hy => ?_, hΓ.cel⟩
  rw [hl]
  simp only [List.lookup] at hy
  by_cases q : y = x
  · subst q
    simp at hy
    subst hy
    exact ⟨v, if_pos rfl, hv⟩
  · have : (y == x) = false := by simp [q]
    rw [this] at hy
    obtain ⟨u, hu, hD'⟩ := hΓ.loc y e hy
    rw [hl] at hu
    exact ⟨u, (if_neg q).trans hu, hD'⟩
theorem St.store {m : Str → Option Value} {R : Led} {s : Shared} {x : Str} {v : Value} {Q : Unit → Shared → Prop} {E : Value → Shared → Prop} (S : St C m M R s) (hC : Fm C sc) (hk : sc.names.lookup x = some .local) (ret : ∀ h' tk, St C (fun y => if y = x then some v else m y) M R (upS s h' tk) → Q () (upS s h' tk)) : wpAny (PM w) C.A (storeName C.env x v) Q E s := by
  obtain ⟨os, N, hc, _⟩ := S.cs.led
  rw [hC.e]
  refine storeX_L S.F (news := os ++ R) (fun p hp => (List.mem_append.mp hp).elim (N p) (S.N p)) (fun h'' F N => ?_) C.hk (by have := hC.c; subst this; exact hk)
  exact ret h'' _ ⟨F, fun p hp => N p (List.mem_append.mpr (.inr hp)), .of (fun p hp => N p (List.mem_append.mpr (.inl hp))) (fun _ h => h) hc, S.nd, S.off⟩
theorem sx_assignY {x : Str} {e : PySem.Expr} {P1 : Ent → Cells → Prop} (hC : Fm C sc) (hk : sc.names.lookup x = some .local) (hs : ∀ env, swapsWith e (some (Expr.Name x p)) pos.line env = pure false) (h : EvY C Γ M e P1) (r : ∀ t M', P1 t M' → Sx C ((x, t) :: Γ) M' rest N PP) : Sx C Γ M (.Assign [.Name x p] e pos :: rest) N PP := .mk <| fun m R s Q S hΓ nx ret =>
  wpAny_execs_cons (wpAny_Assign_Name (h.run m R s _ _ S hΓ fun v h' tk R' t M' S' hs' hD hP => S'.store hC hk fun h'' tk' S'' => (r t M' hP).run _ R' _ Q S'' (env_store hC (hΓ.mono hs') hD) (fun m' h tk R'' Γ' M' S3 hs3 => nx m' h tk R'' Γ' M' S3 fun q hq => hs3 q (hs' q hq)) fun v m' h tk R'' M' t S3 hs3 => ret v m' h tk R'' M' t S3 fun q hq => hs3 q (hs' q hq)) (hs _))
theorem ex_assignP {x : Str} {e : PySem.Expr} {P1 : Ent → Prop} (hC : Fm C sc) (hk : sc.names.lookup x = some .local) (hs : ∀ env, swapsWith e (some (Expr.Name x p)) pos.line env = pure false) (h : EvP C Γ M e P1) (r : ∀ t, P1 t → Sx C ((x, t) :: Γ) M rest N PP) : Sx C Γ M (.Assign [.Name x p] e pos :: rest) N PP :=
  sx_assignY hC hk hs (evy_of (PP := fun t M' => M' = M ∧ P1 t) h fun _ k => ⟨rfl, k⟩) fun t M' k => k.1 ▸ r t k.2
theorem ex_assign {x : Str} {e : PySem.Expr} {t : Ent} (hC : Fm C sc) (hk : sc.names.lookup x = some .local) (hs : ∀ env, swapsWith e (some (Expr.Name x p)) pos.line env = pure false) (h : Ev C Γ M e t) (r : Sx C ((x, t) :: Γ) M rest N PP) : Sx C Γ M (.Assign [.Name x p] e pos :: rest) N PP :=
  ex_assignP hC hk hs (evp_of (P := fun u => u = t) h rfl) fun u hu => hu ▸ r
/-- an expression for what it does -/
theorem sx_expr {e : PySem.Expr} {P1 : Ent → Cells → Prop} (hC : Fm C sc) (hi : ∀ cn L a ccd cl, interactive (envX cn sc L a ccd cl) = false) (hs : ∀ env, swapsWith e none pos.line env = pure false) (h : EvY C Γ M e P1) (r : ∀ t M', P1 t M' → Sx C Γ M' rest N PP) : Sx C Γ M (.Expr e pos :: rest) N PP := .mk <| fun m R s Q S hΓ nx ret =>
  wpAny_execs_cons (wpAny_Expr_any (h.run m R s _ _ S hΓ fun v h' tk R' t M' S' hs' hD hP => (r t M' hP).run m R' _ Q S' (hΓ.mono hs') (fun m' h tk R'' Γ' M' S3 hs3 => nx m' h tk R'' Γ' M' S3 fun q hq => hs3 q (hs' q hq)) fun v m' h tk R'' M' t S3 hs3 => ret v m' h tk R'' M' t S3 fun q hq => hs3 q (hs' q hq)) (by rw [hC.e, hC.c]; exact hi _ _ _ _ _) (hs _))
/-- other words -/
theorem sx_sub {Γ' : Tys} {M' : Cells} {b : List Stmt} (hΓ' : ∀ x t, Γ'.lookup x = some t → Γ.lookup x = some t) (hM : ∀ q ∈ M', q ∈ M) (hn : (M.map (·.1)).Nodup → (M'.map (·.1)).Nodup) (h : Sx C Γ' M' b N PP) : Sx C Γ M b N PP := .mk <| fun m R s Q S hΓ nx ret =>
  h.run m R s Q (S.sub hM (hn S.nd)) ⟨fun x t k => hΓ.loc x t (hΓ' x t k), hΓ.cel⟩ nx ret
theorem sx_mono {b : List Stmt} {N' : Tys → Cells → Prop} {PP' : Ent → Cells → Prop} (h : Sx C Γ M b N PP) (hN : ∀ Γ M, N Γ M → N' Γ M) (hP : ∀ t M, PP t M → PP' t M) : Sx C Γ M b N' PP' := .mk <| fun m R s Q S hΓ nx ret =>
  h.run m R s Q S hΓ (fun m' h tk R' Γ' M' S' hs hΓ' k => nx m' h tk R' Γ' M' S' hs hΓ' (hN _ _ k)) fun v m' h tk R' M' t S' hs hD k => ret v m' h tk R' M' t S' hs hD (hP _ _ k)
end
/-- the def at f, its parameters, its body -/
structure FnAt (w : World) (f : Addr) (ps : List Str) (body : List Stmt) (scope : Scope) : Prop where
  ex : ∃ (name qual : Str) (params : Arguments) (dV kV doc pm cdv ct oc : Value) (an od : Option Addr) (osl : Array (Option Value)),
    (KK w.params).lookup f = some { cls := oc, dict := od, data := .func (fnOf name qual params body scope dV kV doc pm an cdv ct), slots := osl } ∧ codeIn (KK w.params) cdv qual = true ∧
    ∀ (s : Shared) (vs : List Value), vs.length = ps.length → BindsTo s (fnOf name qual params body scope dV kV doc pm an cdv ct) { pos := vs, kw := [] } (ps.zip vs)
  locs : ∀ x ∈ ps, scope.names.lookup x = some .local
  co : scope.isCoroutine = false
  gen : scope.isGenerator = false
  kind : scope.kind = .function
  cells : ∀ x ∈ scope.names, x.2 ≠ .cell
theorem EntAll.len {nw : Led} : ∀ {vs : List Value} {ts : List Ent}, EntAll nw vs ts → vs.length = ts.length
  | [], [], _ => rfl
  | _ :: _, _ :: _, ⟨_, r⟩ => by rw [List.length_cons, List.length_cons, EntAll.len r]
theorem zip_mem {ps : List Str} {vs : List Value} : ∀ y ∈ ps.zip vs, y.1 ∈ ps := fun y hy => (List.of_mem_zip hy).1
theorem zip_env {G : Led} : ∀ (ps : List Str) (vs : List Value) (ts : List Ent), EntAll G vs ts → ps.length = ts.length → ps.Nodup → ∀ x t, (ps.zip ts).lookup x = some t → ∃ v, (ps.zip vs).reverse.lookup x = some v ∧ EntIn G v t
  | [], _, _, _, _, _, x, d, h => by simp at h
  | q :: ps, [], [], _, hl, _, x, d, h => by simp at hl
  | q :: ps, v :: vs, t :: ts, ⟨hv, hr⟩, hl, hn, x, d, h => by
    simp only [List.zip_cons_cons, List.lookup] at h
    rw [List.zip_cons_cons, List.reverse_cons, List.lookup_append]
    rw [List.nodup_cons] at hn
    by_cases e : x = q
    · subst e
      simp only [beq_self_eq_true, Option.some.injEq] at h
      subst h
      have : (ps.zip vs).reverse.lookup x = none := by
        rw [List.lookup_eq_none_iff]
        intro p hp
        have := zip_mem _ (List.mem_reverse.mp hp)
        simp only [ne_eq, bne_iff_ne]
        intro e
        exact hn.1 (e ▸ this)
      rw [this]
      exact ⟨v, by simp, hv⟩
    · have e' : (x == q) = false := by simp [e]
      rw [e'] at h
      obtain ⟨u, hu, hD⟩ := zip_env ps vs ts hr (by simpa using hl) hn.2 x d h
      rw [hu]
      exact ⟨u, rfl, hD⟩
/-- what a call leaves -/
theorem ret_end {C : Cx w} {P : Ent → Cells → Prop} {m : Str → Option Value} {s : Shared} {g h' : Heap} {L' : Addr} {rd tl : Led} {M Me : Cells} {Q : Value → Shared → Prop} {v : Value} {t : Ent} {tk' : Nat} (GS : GSub s.heap g (M.map (·.1))) (F : Fr C.h₀ C.L s.heap m) (hc : CellsAt C.h₀ C.L s.heap rd M)
    (hret : ∀ r h' tk' tl t M', Fr C.h₀ C.L h' m → News C.h₀ C.L h' tl → (∀ p ∈ tl, s.heap.get? p.1 = none) → CellsAt C.h₀ C.L h' (rd ++ tl) M' → (M'.map (·.1)).Nodup → (∀ q ∈ M', q.1 ∈ M.map (·.1) ∨ s.heap.get? q.1 = none) → (∀ p ∈ tl, p.1 ∉ M'.map (·.1)) →
      (∀ b o, s.heap.get? b = some o → b ∉ M.map (·.1) → h'.get? b = some o) → EntIn (rd ++ tl) r t → P t M' → Q r (upS s h' tk'))
    (F2 : Fr C.h₀ C.L h' m) (N2 : News C.h₀ C.L h' tl) (keep : ∀ b o, g.get? b = some o → h'.get? b = some o) (cs : CellsAt g L' h' (rd ++ tl) Me) (nd : (Me.map (·.1)).Nodup) (off : ∀ p ∈ tl, p.1 ∉ Me.map (·.1)) (new : ∀ p ∈ tl, g.get? p.1 = none) (hM : ∀ t M', P t M' → ∀ b ∈ M.map (·.1), b ∈ M'.map (·.1)) (hD : EntIn (rd ++ tl) v t) (k : dropY P t Me) : Q v (upS s h' tk') := by
  obtain ⟨M1, M', rfl, k⟩ := k
  rw [List.map_append, List.nodup_append] at nd
  have old : ∀ b, g.get? b = none → b ∈ M.map (·.1) ∨ s.heap.get? b = none := fun b hb => by
    by_cases h : b ∈ M.map (·.1)
    · exact .inl h
    · refine .inr ?_
      cases e : s.heap.get? b with
      | none => rfl
      | some x => have := GS _ _ e h; rw [hb] at this; cases this
  refine hret v h' tk' tl t M' F2 N2 (fun p hp => ?_) (fun q hq => ?_) nd.2.1 (fun q hq => ?_) (fun p hp hm => off p hp (by rw [List.map_append]; exact List.mem_append.mpr (.inr hm))) (fun b o e nb => keep b o (GS b o e nb)) hD k
  · rcases old _ (new p hp) with h | h
    · exact absurd (by rw [List.map_append]; exact List.mem_append.mpr (.inr (hM _ _ k _ h))) (off p hp)
    · exact h
  · obtain ⟨o, h1, h2, _, h4⟩ := cs q (List.mem_append.mpr (.inr hq))
    refine ⟨o, h1, h2, ?_⟩
    rcases old _ h4 with h | h
    · obtain ⟨q', hq', e⟩ := List.mem_map.mp h
      obtain ⟨_, _, _, h3⟩ := hc q' hq'
      rw [show q'.1 = q.1 from e] at h3
      exact h3
    · refine ⟨fun e => ?_, ?_⟩
      · have := F.ns.lt
        obtain ⟨oL, _, _, eL, _⟩ := F.ns
        rw [e] at h; rw [eL] at h; cases h
      · cases e : C.h₀.get? q.1 with
        | none => rfl
        | some x => have := F.keep _ _ e; rw [h] at this; cases this
  · obtain ⟨o, _, _, _, h4⟩ := cs q (List.mem_append.mpr (.inr hq))
    exact old _ h4
/-- a def by its body -/
theorem fn_tellsY {f : Addr} {ps : List Str} {body : List Stmt} {scope : Scope} {ts : List Ent} {M : Cells} {P : Ent → Cells → Prop} {n : Nat} (H : FnAt w f ps body scope) (hl : ps.length = ts.length) (hnd : ps.Nodup) (hM : ∀ t M', P t M' → ∀ b ∈ M.map (·.1), b ∈ M'.map (·.1))
    (h : ∀ C : Cx w, Fm C scope → C.sz = n → Sx C (ps.zip ts) M body (fun _ M' => dropY P (.d .none) M') (dropY P)) : YTells w f (n + 1) ts M P := by
  intro C m s args rd Q E hn F hv hc rk R ro hnM hret
  obtain ⟨⟨name, qual, params, dV, kV, doc, pm, cdv, ct, oc, an, od, osl, ho, hcd, hb⟩, hlocs, hco, hgen, hkind, hcell⟩ := H
  have hd' := C.hd
  have hu' := C.hu
  obtain ⟨os, N, hos, he⟩ := hc.led
  refine wpAny_call ?_
  refine code_defG (news := os) C.B F C.X N C.T rfl rfl C.hk ho hcd (by show C.dp < recursionLimit; omega) (hb _ args (by rw [hv.len, hl])) (fun y hy => hlocs _ (zip_mem y hy)) ?_ hco hgen hkind hcell
  intro g L' h₁ FG F' N' B' X' T' GS
  rw [he] at GS
  have hR : ∀ p ∈ rd, g.get? p.1 = some p.2 := fun p hp => GS _ _ (R p hp) (ro p hp)
  let C' : Cx w := ⟨C.dp + 1, C.un + 3, C.gd, qual, scope, L', f, cdv, [], envX C.cn C.cs C.L C.a C.ccd C.cl :: C.outer, _, C.base, g, C.mean, C.mg, C.mb, rd, n, B', X', T', hkind, hR, rk, envOf qual scope L' f cdv, none, [], rfl, hkind, fun _ => rfl, (fun _ h => nomatch h), by omega, by omega⟩
  refine wpAny_mono ((h C' ⟨rfl, rfl, rfl⟩ rfl).run (fun y => List.lookup y (ps.zip args).reverse) [] _ _ ⟨F', fun _ h => (nomatch h), .of N' (fun p hp => List.mem_append.mpr (.inl hp)) hos, hnM, fun _ h => (nomatch h)⟩ ⟨fun x t hx => ?_, fun x t hx => nomatch (show (none : Option Ent) = some t from hx)⟩ ?_ ?_) (fun _ _ x => x) fun _ _ x => x.elim
  · obtain ⟨v, hv, hd'⟩ := zip_env ps args ts hv hl hnd x t hx
    exact ⟨v, hv, hd'.mono fun p hp => List.mem_append.mpr (.inl hp)⟩
  · intro m' h' tk R' Γ' M' S _ _ k
    refine leaveK_ S.F S.N fun F2 N2 => ?_
    exact ret_end (s := s) (v := .none) (t := .d .none) GS F hc hret F2 N2 S.F.keep S.cs S.nd S.off (fun p hp => (S.N p hp).2.2) hM DatIn.none k
  · intro v m' h' tk R' M' t S _ hd' k
    refine leaveK_ S.F S.N fun F2 N2 => ?_
    exact ret_end (s := s) GS F hc hret F2 N2 S.F.keep S.cs S.nd S.off (fun p hp => (S.N p hp).2.2) hM hd' k
theorem fn_tells {f : Addr} {ps : List Str} {body : List Stmt} {scope : Scope} {ts : List Ent} {M : Cells} {P : Ent → Prop} {n : Nat} (H : FnAt w f ps body scope) (hl : ps.length = ts.length) (hnd : ps.Nodup) (h : ∀ C : Cx w, Fm C scope → C.sz = n → Ex C (ps.zip ts) M M body P) : XTells w f (n + 1) ts M P :=
  fn_tellsY H hl hnd (fun _ M' k b hb => k.1 ▸ hb) fun C hC hz => sx_mono (h C hC hz) (fun _ _ k => k.elim) fun _ _ k => k
end Mine
namespace Mine
open PySem PySem.W PyProof.Rows PySem.Spec PySem.Calls
set_option linter.all false
variable {w : World}
/-- what stands in the heap -/
def Reads' (h : Heap) (nw : Led) : Prop := ∀ p ∈ nw, h.get? p.1 = some p.2
theorem St.reads {C : Cx w} {m : Str → Option Value} {M : Cells} {R : Led} {s : Shared} (S : St C m M R s) : Reads' s.heap (C.G ++ R) := fun p hp => (List.mem_append.mp hp).elim (fun h => S.F.keep _ _ (C.hG p h)) fun h => (S.N p h).1
/-- a comparison of data -/
def Cmp (w : World) (op : CmpOp) (d e : Dat) (b : Bool) : Prop := ∀ (A : Around) (s : Shared) (nw : Led) (u v : Value) (Q E : Value → Shared → Prop), Reads' s.heap nw → DatIn nw u d → DatIn nw v e → A.units + 64 < cLine → Q (.bool b) s → wpAny (PM w) A (compareOp op u v) Q E s
theorem cmp_eq_str (x y : Str) : Cmp w .Eq (.str x) (.str y) (x == y) := fun A s nw u v Q E R hu hv hl q => by
  cases hu; cases hv; exact eq_str q
theorem cmp_ne_str (x y : Str) : Cmp w .NotEq (.str x) (.str y) (x != y) := fun A s nw u v Q E R hu hv hl q => by
  cases hu; cases hv; exact ne_str q
theorem cmp_eq_int (x y : Int) : Cmp w .Eq (.int x) (.int y) (x == y) := fun A s nw u v Q E R hu hv hl q => by
  cases hu; cases hv; exact eq_int q
theorem cmp_is_tup (ds : List Dat) : Cmp w .Is (.tuple ds) .none false := fun A s nw u v Q E R hu hv hl q => by
  cases hu; cases hv; exact wpAny_is_other rfl (fun h => nomatch h) q
theorem cmp_isnot_tup (ds : List Dat) : Cmp w .IsNot (.tuple ds) .none true := fun A s nw u v Q E R hu hv hl q => by
  cases hu; cases hv; exact wpAny_isNot_other rfl (fun h => nomatch h) q
theorem cmp_is_none : Cmp w .Is .none .none true := fun A s nw u v Q E R hu hv hl q => by
  cases hu; cases hv; exact wpAny_is_self rfl q
theorem cmp_isnot_none : Cmp w .IsNot .none .none false := fun A s nw u v Q E R hu hv hl q => by
  cases hu; cases hv; exact wpAny_isNot_self rfl q
theorem strs_are {nw : Led} : ∀ {vs : List Value} {ys : List Str}, DatAll nw vs (ys.map .str) → StrsAre vs ys
  | _, [], .nil => .nil
  | _, _ :: _, .cons h r => by cases h; exact .cons _ _ (strs_are r)
theorem cmp_in_tup (x : Str) (ys : List Str) : Cmp w .In (.str x) (.tuple (ys.map .str)) (ys.any (· == x)) := fun A s nw u v Q E R hu hv hl q => by
  cases hu
  cases hv with
  | tuple hm hr => exact in_tuple_strs ⟨_, R _ hm, rfl, _, rfl⟩ (by simpa using strs_are hr) q
theorem cmp_in_list (x : Str) (ys : List Str) : Cmp w .In (.str x) (.list (ys.map .str)) (ys.any (· == x)) := fun A s nw u v Q E R hu hv hl q => by
  cases hu
  cases hv with
  | list hm hr => exact in_list_strs ⟨_, R _ hm, rfl, _, rfl⟩ (strs_are hr) q
/-- a test -/
structure Tst (C : Cx w) (Γ : Tys) (M : Cells) (e : PySem.Expr) (b : Bool) : Prop where
  run : ∀ (m : Str → Option Value) (R : Led) (s : Shared) (Q : Bool → Shared → Prop) (E : Value → Shared → Prop), St C m M R s → EnvOk C m R Γ →
    (∀ h tk R', St C m M R' (upS s h tk) → (∀ p ∈ R, p ∈ R') → Q b (upS s h tk)) → wpAny (PM w) C.A (PySem.isTrue e C.env (eval e C.env)) Q E s
section
variable {C : Cx w} {Γ : Tys} {M : Cells} {pos p : Pos} {sc : Scope} {e e1 e2 : PySem.Expr} {d d1 d2 : Dat} {b b1 b2 : Bool} {t : Ent} {k : Nat}
theorem ev_sub {ds : List Dat} {i : Nat} (h : Ev C Γ M e (.d (.tuple ds))) (hi : i < 1000) (hd : ds[i]? = some d) (hs : ∀ o u, subscripted (.Constant (.int i) k p) false o (.int i u) = operate [o, .int i u] (getItem o (.int i u))) : Ev C Γ M (.Subscript e (.Constant (.int i) k p) pos) (.d d) := .mk <| fun m R s Q E S hΓ ret => by
  refine Subscript_ (h.run m R s _ E S hΓ fun v h' tk R' S' hs' hD => wpAny_Constant_int ?_)
  have hD : DatIn (C.G ++ R') v (.tuple ds) := hD
  cases hD with
  | @tuple _ vs _ _ hm hr =>
    have hl : i < ds.length := (List.getElem?_eq_some_iff.mp hd).1
    have hv : i < vs.length := by rw [hr.length]; exact hl
    have hx : DatIn (C.G ++ R') vs[i] d := by
      have key : ∀ {vs : List Value} {ds : List Dat}, DatAll (C.G ++ R') vs ds → ∀ {i : Nat} (hv : i < vs.length) {d : Dat}, ds[i]? = some d → DatIn (C.G ++ R') vs[i] d := by
        intro vs ds h
        induction vs generalizing ds with
        | nil => intro i hv; simp at hv
        | cons v vs ih =>
          cases h with
          | cons h r =>
            intro i hv d hd
            cases i with
            | zero => simp at hd; subst hd; exact h
            | succ i => exact ih r (by simpa using hv) (by simpa using hd)
      exact key hr hv hd
    refine item_tupleT (l := vs) (j := i) ⟨_, S'.reads _ hm, rfl, _, rfl⟩ (by omega) (by omega) (by simp only [seqIndex?]; simp; omega) (List.getElem?_eq_getElem hv) ?_ (hs _ _)
    exact ret _ h' _ R' (S'.toks _) hs' hx
theorem ev_cmp {op : CmpOp} (hb : behindInMarks op e2 = false) (c : Cmp w op d1 d2 b) (hz : 8 ≤ C.sz) (h1 : Ev C Γ M e1 (.d d1)) (h2 : Ev C Γ M e2 (.d d2)) : Ev C Γ M (.Compare e1 [op] [e2] pos) (.d (.bool b)) := .mk <| fun m R s Q E S hΓ ret =>
  wpAny_Compare1 (h1.run m R s _ E S hΓ fun v h' tk R' S' hs' hD => h2.run m R' _ _ E S' (hΓ.mono hs') fun v2 h2' tk2 R2 S2 hs2 hD2 => c _ _ _ _ _ _ _ S2.reads (DatIn.mono (up_mono hs2) hD) hD2 (by have := C.hu; show C.un + 64 < cLine; omega) (ret _ h2' tk2 R2 S2 (fun q hq => hs2 q (hs' q hq)) (.bool _))) hb
theorem tst_cmp {op : CmpOp} (hb : behindInMarks op e2 = false) (c : Cmp w op d1 d2 b) (hz : 8 ≤ C.sz) (h1 : Ev C Γ M e1 (.d d1)) (h2 : Ev C Γ M e2 (.d d2)) : Tst C Γ M (.Compare e1 [op] [e2] pos) b := .mk <| fun m R s Q E S hΓ ret =>
  wpAny_isTrue_Compare1 (h1.run m R s _ E S hΓ fun v h' tk R' S' hs' hD => h2.run m R' _ _ E S' (hΓ.mono hs') fun v2 h2' tk2 R2 S2 hs2 hD2 => c _ _ _ _ _ _ _ S2.reads (DatIn.mono (up_mono hs2) hD) hD2 (by have := C.hu; show C.un + 64 < cLine; omega) (wpAny_truthy_bool (ret h2' tk2 R2 S2 fun q hq => hs2 q (hs' q hq)))) hb
theorem tst_call (hp : ∀ env, PySem.isTrue e env (eval e env) = do let v ← eval e env; standAt e.pos; holding [v] (truthy v)) (h : Ev C Γ M e (.d (.bool b))) : Tst C Γ M e b := .mk <| fun m R s Q E S hΓ ret =>
  isTrue_plain (h.run m R s _ E S hΓ fun v h' tk R' S' hs' hD => by
    have hD : DatIn (C.G ++ R') v (.bool b) := hD
    cases hD
    exact wpAny_truthy_bool (ret h' tk R' S' hs')) (hp _)
theorem tst_and0 : Tst C Γ M (.BoolOp .And [] pos) true := .mk <| fun m R s Q E S hΓ ret => isTrue_and_nil (ret s.heap s.toks R S fun _ h => h)
theorem tst_or0 : Tst C Γ M (.BoolOp .Or [] pos) false := .mk <| fun m R s Q E S hΓ ret => isTrue_or_nil (ret s.heap s.toks R S fun _ h => h)
theorem tst_and {es : List PySem.Expr} (h : Tst C Γ M e true) (r : Tst C Γ M (.BoolOp .And es pos) b) : Tst C Γ M (.BoolOp .And (e :: es) pos) b := .mk <| fun m R s Q E S hΓ ret =>
  isTrue_and (h.run m R s _ E S hΓ fun h' tk R' S' hs' => by
    rw [if_pos rfl]
    exact r.run m R' _ Q E S' (hΓ.mono hs') fun h2 tk2 R2 S2 hs2 => ret h2 tk2 R2 S2 fun q hq => hs2 q (hs' q hq))
theorem tst_andF {es : List PySem.Expr} (h : Tst C Γ M e false) : Tst C Γ M (.BoolOp .And (e :: es) pos) false := .mk <| fun m R s Q E S hΓ ret =>
  isTrue_and (h.run m R s _ E S hΓ fun h' tk R' S' hs' => ret h' tk R' S' hs')
theorem tst_or {es : List PySem.Expr} (h : Tst C Γ M e false) (r : Tst C Γ M (.BoolOp .Or es pos) b) : Tst C Γ M (.BoolOp .Or (e :: es) pos) b := .mk <| fun m R s Q E S hΓ ret =>
  isTrue_or (h.run m R s _ E S hΓ fun h' tk R' S' hs' => r.run m R' _ Q E S' (hΓ.mono hs') fun h2 tk2 R2 S2 hs2 => ret h2 tk2 R2 S2 fun q hq => hs2 q (hs' q hq))
theorem tst_orT {es : List PySem.Expr} (h : Tst C Γ M e true) : Tst C Γ M (.BoolOp .Or (e :: es) pos) true := .mk <| fun m R s Q E S hΓ ret =>
  isTrue_or (h.run m R s _ E S hΓ fun h' tk R' S' hs' => ret h' tk R' S' hs')
theorem ev_and1 (h : Ev C Γ M e t) : Ev C Γ M (.BoolOp .And [e] pos) t := .mk <| fun m R s Q E S hΓ ret => BoolOp_one (h.run m R s Q E S hΓ ret)
theorem ev_andT {es : List PySem.Expr} (h : Ev C Γ M e1 (.d (.bool true))) (r : Ev C Γ M (.BoolOp .And (e2 :: es) pos) t) : Ev C Γ M (.BoolOp .And (e1 :: e2 :: es) pos) t := .mk <| fun m R s Q E S hΓ ret =>
  BoolOp_and (h.run m R s _ E S hΓ fun v h' tk R' S' hs' hD => by
    have hD : DatIn (C.G ++ R') v (.bool true) := hD
    cases hD
    exact wpAny_truthy_bool (r.run m R' _ Q E S' (hΓ.mono hs') fun v2 h2 tk2 R2 S2 hs2 => ret v2 h2 tk2 R2 S2 fun q hq => hs2 q (hs' q hq)))
theorem ev_andF {es : List PySem.Expr} (h : Ev C Γ M e1 (.d (.bool false))) : Ev C Γ M (.BoolOp .And (e1 :: e2 :: es) pos) (.d (.bool false)) := .mk <| fun m R s Q E S hΓ ret =>
  BoolOp_and (h.run m R s _ E S hΓ fun v h' tk R' S' hs' hD => by
    have hD : DatIn (C.G ++ R') v (.bool false) := hD
    cases hD
    exact wpAny_truthy_bool (ret _ h' tk R' S' hs' (.bool false)))
theorem ev_ifT {c : PySem.Expr} (hc : Tst C Γ M c true) (h : Ev C Γ M e1 t) : Ev C Γ M (.IfExp c e1 e2 pos) t := .mk <| fun m R s Q E S hΓ ret =>
  IfExp_ (hc.run m R s _ E S hΓ fun h' tk R' S' hs' => by
    rw [if_pos rfl]
    exact h.run m R' _ Q E S' (hΓ.mono hs') fun v2 h2 tk2 R2 S2 hs2 => ret v2 h2 tk2 R2 S2 fun q hq => hs2 q (hs' q hq))
theorem ev_ifF {c : PySem.Expr} (hc : Tst C Γ M c false) (h : Ev C Γ M e2 t) : Ev C Γ M (.IfExp c e1 e2 pos) t := .mk <| fun m R s Q E S hΓ ret =>
  IfExp_ (hc.run m R s _ E S hΓ fun h' tk R' S' hs' => h.run m R' _ Q E S' (hΓ.mono hs') fun v2 h2 tk2 R2 S2 hs2 => ret v2 h2 tk2 R2 S2 fun q hq => hs2 q (hs' q hq))
/-- a tuple of the ground by its name -/
theorem ev_ground {x : Str} {a : Addr} (hC : C.env.scope = sc) (hk : sc.names.lookup x = some .globalImplicit) (hn : nsIn (KK w.params) mainGlobals x = some (some (.ref a))) (hx : (x == Str.ofString "__debug__") = false) (hD : DatIn gK (.ref a) d) : Ev C Γ M (.Name x pos) (.d d) := .mk <| fun m R s Q E S hΓ ret =>
  nameG_K S.F C.X (topRead_of C.T) hn (ret _ s.heap s.toks R S (fun _ h => h) (DatIn.mono (fun p hp => List.mem_append.mpr (.inl (C.hK p hp))) hD)) C.hE C.hkE (kind_at hC hk) hx
variable {rest body orelse : List Stmt} {N : Tys → Cells → Prop} {PP : Ent → Cells → Prop}
/-- a branch, then what follows -/
theorem sx_then {b : List Stmt} {N' : Tys → Cells → Prop} (h : Sx C Γ M b N' PP) (r : ∀ Γ' M', N' Γ' M' → Sx C Γ' M' rest N PP) : ∀ (m : Str → Option Value) (R : Led) (s : Shared) (Q : Flow → Shared → Prop), St C m M R s → EnvOk C m R Γ →
    (∀ m' h tk R' Γ' M', St C m' M' R' (upS s h tk) → (∀ p ∈ R, p ∈ R') → EnvOk C m' R' Γ' → N Γ' M' → Q .next (upS s h tk)) →
    (∀ v m' h tk R' M' t, St C m' M' R' (upS s h tk) → (∀ p ∈ R, p ∈ R') → EntIn (C.G ++ R') v t → PP t M' → Q (.ret v) (upS s h tk)) →
    wpAny (PM w) C.A (execs b C.env) (fun f s' => match f with | .next => wpAny (PM w) C.A (execs rest C.env) Q (fun _ _ => False) s' | f => Q f s') (fun _ _ => False) s := fun m R s Q S hΓ nx ret =>
  h.run m R s _ S hΓ (fun m' h tk R' Γ' M' S' hs hΓ' k => (r Γ' M' k).run m' R' _ Q S' hΓ' (fun m2 h2 tk2 R2 Γ2 M2 S2 hs2 => nx m2 h2 tk2 R2 Γ2 M2 S2 fun q hq => hs2 q (hs q hq)) fun v m2 h2 tk2 R2 M2 t S2 hs2 => ret v m2 h2 tk2 R2 M2 t S2 fun q hq => hs2 q (hs q hq)) ret
theorem sx_ifT {c : PySem.Expr} {N' : Tys → Cells → Prop} (hc : Tst C Γ M c true) (h : Sx C Γ M body N' PP) (r : ∀ Γ' M', N' Γ' M' → Sx C Γ' M' rest N PP) : Sx C Γ M (.If c body orelse pos :: rest) N PP := .mk <| fun m R s Q S hΓ nx ret =>
  wpAny_execs_cons (wpAny_If (hc.run m R s _ _ S hΓ fun h' tk R' S' hs' => by
    rw [if_pos rfl]
    exact wpAny_mono (sx_then h r m R' _ Q S' (hΓ.mono hs') (fun m2 h2 tk2 R2 Γ2 M2 S2 hs2 => nx m2 h2 tk2 R2 Γ2 M2 S2 fun q hq => hs2 q (hs' q hq)) fun v m2 h2 tk2 R2 M2 t S2 hs2 => ret v m2 h2 tk2 R2 M2 t S2 fun q hq => hs2 q (hs' q hq)) (fun f s' x => by cases f <;> exact x) fun _ _ x => x))
theorem sx_ifF {c : PySem.Expr} {N' : Tys → Cells → Prop} (hc : Tst C Γ M c false) (h : Sx C Γ M orelse N' PP) (r : ∀ Γ' M', N' Γ' M' → Sx C Γ' M' rest N PP) : Sx C Γ M (.If c body orelse pos :: rest) N PP := .mk <| fun m R s Q S hΓ nx ret =>
  wpAny_execs_cons (wpAny_If (hc.run m R s _ _ S hΓ fun h' tk R' S' hs' => by
    rw [if_neg Bool.false_ne_true]
    exact wpAny_mono (sx_then h r m R' _ Q S' (hΓ.mono hs') (fun m2 h2 tk2 R2 Γ2 M2 S2 hs2 => nx m2 h2 tk2 R2 Γ2 M2 S2 fun q hq => hs2 q (hs' q hq)) fun v m2 h2 tk2 R2 M2 t S2 hs2 => ret v m2 h2 tk2 R2 M2 t S2 fun q hq => hs2 q (hs' q hq)) (fun f s' x => by cases f <;> exact x) fun _ _ x => x))
/-- a branch that gives back -/
theorem ex_ifRet {c : PySem.Expr} (hc : Tst C Γ M c true) (h : Sx C Γ M body (fun _ _ => False) PP) : Sx C Γ M (.If c body orelse pos :: rest) N PP := sx_ifT hc h fun _ _ k => k.elim
theorem ex_ifSkip {c : PySem.Expr} (hc : Tst C Γ M c false) (h : Sx C Γ M rest N PP) : Sx C Γ M (.If c body [] pos :: rest) N PP := sx_ifF hc (sx_nil (N := fun Γ' M' => Γ' = Γ ∧ M' = M) ⟨rfl, rfl⟩) fun _ _ k => k.1 ▸ k.2 ▸ h
end
end Mine
namespace Mine
open PySem PySem.W PyProof.Rows PySem.Spec PySem.Calls
set_option linter.all false
section
variable {es as : List PySem.Expr} {e f : PySem.Expr} {p : Pos}
theorem star_c {c : Const} {k : Nat} : ∀ env, starEach (.Constant c k p :: es) env = (false, eval (.Constant c k p) env) :: starEach es env := fun _ => rfl
theorem star_n {x : Str} : ∀ env, starEach (.Name x p :: es) env = (false, eval (.Name x p) env) :: starEach es env := fun _ => rfl
theorem star_t {k : Nat} : ∀ env, starEach (.Tuple as k p :: es) env = (false, eval (.Tuple as k p) env) :: starEach es env := fun _ => rfl
theorem star_l : ∀ env, starEach (.List as p :: es) env = (false, eval (.List as p) env) :: starEach es env := fun _ => rfl
theorem star_s : ∀ env, starEach (.Subscript e f p :: es) env = (false, eval (.Subscript e f p) env) :: starEach es env := fun _ => rfl
theorem star_k : ∀ env, starEach (.Call f as [] p :: es) env = (false, eval (.Call f as [] p) env) :: starEach es env := fun _ => rfl
theorem star_i {g : PySem.Expr} : ∀ env, starEach (.IfExp g e f p :: es) env = (false, eval (.IfExp g e f p) env) :: starEach es env := fun _ => rfl
theorem star_b {o : Operator} : ∀ env, starEach (.BinOp e o f p :: es) env = (false, eval (.BinOp e o f p) env) :: starEach es env := fun _ => rfl
theorem any_nil : ∀ env, ((backTo p (starEach [] env)).any (·.1)) = false := fun _ => rfl
theorem any_cons (hs : ∀ env, starEach (e :: es) env = (false, eval e env) :: starEach es env) (h : ∀ env, ((backTo p (starEach es env)).any (·.1)) = false) : ∀ env, ((backTo p (starEach (e :: es) env)).any (·.1)) = false := fun env => by
  rw [hs]
  exact h env
end
theorem look_hd {x : Str} {t : Ent} {Γ : Tys} : List.lookup x ((x, t) :: Γ) = some t := by simp [List.lookup]
theorem look_tl {x y : Str} {t u : Ent} {Γ : Tys} (h : (x == y) = false) (r : List.lookup x Γ = some t) : List.lookup x ((y, u) :: Γ) = some t := by simp [List.lookup, h, r]
variable {w : World}
theorem binds1 {name qual : Str} {params : Arguments} {body : List Stmt} {scope : Scope} {dV kV doc pm cdv ct : Value} {an : Option Addr} {p1 : Str}
    (h : ∀ v1, bindArgs (fnOf name qual params body scope dV kV doc pm an cdv ct) { pos := [v1], kw := [] } = pure [(p1, v1)]) : ∀ (s : Shared) (vs : List Value), vs.length = [p1].length → BindsTo s (fnOf name qual params body scope dV kV doc pm an cdv ct) { pos := vs, kw := [] } ([p1].zip vs)
  | _, [v1], _ => BindsTo.of_eq (h v1)
theorem binds2 {name qual : Str} {params : Arguments} {body : List Stmt} {scope : Scope} {dV kV doc pm cdv ct : Value} {an : Option Addr} {p1 p2 : Str}
    (h : ∀ v1 v2, bindArgs (fnOf name qual params body scope dV kV doc pm an cdv ct) { pos := [v1, v2], kw := [] } = pure [(p1, v1), (p2, v2)]) : ∀ (s : Shared) (vs : List Value), vs.length = [p1, p2].length → BindsTo s (fnOf name qual params body scope dV kV doc pm an cdv ct) { pos := vs, kw := [] } ([p1, p2].zip vs)
  | _, [v1, v2], _ => BindsTo.of_eq (h v1 v2)
theorem strs_cmp {a b : Str} {c : Bool} (h : (a == b) = c) : Cmp w .Eq (.str a) (.str b) c := h ▸ cmp_eq_str a b
theorem sym_tells (x : Str) : DTells w 61 1 [.str x] (.tuple [.str (Str.ofString "sym"), .str x]) := by
  refine fn_tells (n := 0) (ps := [Str.ofString "name"]) ⟨⟨_, _, _, _, _, _, _, _, _, _, _, _, _, by exact rfl, by exact rfl, binds1 fun _ => rfl⟩, by decide +kernel, rfl, rfl, rfl, by decide +kernel⟩ rfl (by decide +kernel) fun C hC hsz => ?_
  exact ex_ret (ev_tuple (Nat.le_of_ble_eq_true rfl) (evs_cons star_c ev_str (evs_cons star_n (ev_name hC (by decide +kernel) (by decide +kernel) look_hd) evs_nil)))
/-- is_expr -/
theorem isexpr_tells (e x y : Str) (ds : List Dat) (b : Bool) (he : (e == Str.ofString "expr") = true) (hb : (x == y) = b) : DTells w 68 9 [.tuple (.str e :: .str x :: ds), .str y] (.bool b) := by
  refine fn_tells (n := 8) (ps := [Str.ofString "tree", Str.ofString "head"]) ⟨⟨_, _, _, _, _, _, _, _, _, _, _, _, _, by exact rfl, by exact rfl, binds2 fun _ _ => rfl⟩, by decide +kernel, rfl, rfl, rfl, by decide +kernel⟩ rfl (by decide +kernel) fun C hC hsz => ?_
  exact ex_ret (ev_andT (ev_cmp rfl (strs_cmp he) (by omega) (ev_sub (ev_name hC (by decide +kernel) (by decide +kernel) look_hd) (by decide) rfl (fun _ _ => rfl)) ev_str) (ev_and1 (ev_cmp rfl (strs_cmp hb) (by omega) (ev_sub (ev_name hC (by decide +kernel) (by decide +kernel) look_hd) (by decide) rfl (fun _ _ => rfl)) (ev_name hC (by decide +kernel) (by decide +kernel) (look_tl (by decide +kernel) look_hd)))))
theorem isexpr_tells0 (e y : Str) (ds : List Dat) (he : (e == Str.ofString "expr") = false) : DTells w 68 9 [.tuple (.str e :: ds), .str y] (.bool false) := by
  refine fn_tells (n := 8) (ps := [Str.ofString "tree", Str.ofString "head"]) ⟨⟨_, _, _, _, _, _, _, _, _, _, _, _, _, by exact rfl, by exact rfl, binds2 fun _ _ => rfl⟩, by decide +kernel, rfl, rfl, rfl, by decide +kernel⟩ rfl (by decide +kernel) fun C hC hsz => ?_
  exact ex_ret (ev_andF (ev_cmp rfl (strs_cmp he) (by omega) (ev_sub (ev_name hC (by decide +kernel) (by decide +kernel) look_hd) (by decide) rfl (fun _ _ => rfl)) ev_str))
theorem headof_tells (e x : Str) (ds : List Dat) (he : (e == Str.ofString "expr") = true) : DTells w 75 9 [.tuple (.str e :: .str x :: ds)] (.str x) := by
  refine fn_tells (n := 8) (ps := [Str.ofString "tree"]) ⟨⟨_, _, _, _, _, _, _, _, _, _, _, _, _, by exact rfl, by exact rfl, binds1 fun _ => rfl⟩, by decide +kernel, rfl, rfl, rfl, by decide +kernel⟩ rfl (by decide +kernel) fun C hC hsz => ?_
  exact ex_ret (ev_ifT (tst_cmp rfl (strs_cmp he) (by omega) (ev_sub (ev_name hC (by decide +kernel) (by decide +kernel) look_hd) (by decide) rfl (fun _ _ => rfl)) ev_str) (ev_sub (ev_name hC (by decide +kernel) (by decide +kernel) look_hd) (by decide) rfl (fun _ _ => rfl)))
theorem partsof_tells (e x : Str) (d : Dat) (he : (e == Str.ofString "expr") = true) : DTells w 82 9 [.tuple [.str e, .str x, d]] d := by
  refine fn_tells (n := 8) (ps := [Str.ofString "tree"]) ⟨⟨_, _, _, _, _, _, _, _, _, _, _, _, _, by exact rfl, by exact rfl, binds1 fun _ => rfl⟩, by decide +kernel, rfl, rfl, rfl, by decide +kernel⟩ rfl (by decide +kernel) fun C hC hsz => ?_
  exact ex_ret (ev_ifT (tst_cmp rfl (strs_cmp he) (by omega) (ev_sub (ev_name hC (by decide +kernel) (by decide +kernel) look_hd) (by decide) rfl (fun _ _ => rfl)) ev_str) (ev_sub (ev_name hC (by decide +kernel) (by decide +kernel) look_hd) (by decide) rfl (fun _ _ => rfl)))
theorem headof_tells0 (e : Str) (ds : List Dat) (he : (e == Str.ofString "expr") = false) : DTells w 75 9 [.tuple (.str e :: ds)] (.str (Str.ofString "")) := by
  refine fn_tells (n := 8) (ps := [Str.ofString "tree"]) ⟨⟨_, _, _, _, _, _, _, _, _, _, _, _, _, by exact rfl, by exact rfl, binds1 fun _ => rfl⟩, by decide +kernel, rfl, rfl, rfl, by decide +kernel⟩ rfl (by decide +kernel) fun C hC hsz => ?_
  exact ex_ret (ev_ifF (tst_cmp rfl (strs_cmp he) (by omega) (ev_sub (ev_name hC (by decide +kernel) (by decide +kernel) look_hd) (by decide) rfl (fun _ _ => rfl)) ev_str) ev_str)
theorem partsof_tells0 (e : Str) (ds : List Dat) (he : (e == Str.ofString "expr") = false) : DTells w 82 9 [.tuple (.str e :: ds)] (.tuple []) := by
  refine fn_tells (n := 8) (ps := [Str.ofString "tree"]) ⟨⟨_, _, _, _, _, _, _, _, _, _, _, _, _, by exact rfl, by exact rfl, binds1 fun _ => rfl⟩, by decide +kernel, rfl, rfl, rfl, by decide +kernel⟩ rfl (by decide +kernel) fun C hC hsz => ?_
  exact ex_ret (ev_ifF (tst_cmp rfl (strs_cmp he) (by omega) (ev_sub (ev_name hC (by decide +kernel) (by decide +kernel) look_hd) (by decide) rfl (fun _ _ => rfl)) ev_str) (ev_tuple (Nat.le_of_ble_eq_true rfl) evs_nil))
theorem issym_tells (e : Str) (ds : List Dat) (b : Bool) (he : (e == Str.ofString "sym") = b) : DTells w 89 9 [.tuple (.str e :: ds)] (.bool b) := by
  refine fn_tells (n := 8) (ps := [Str.ofString "tree"]) ⟨⟨_, _, _, _, _, _, _, _, _, _, _, _, _, by exact rfl, by exact rfl, binds1 fun _ => rfl⟩, by decide +kernel, rfl, rfl, rfl, by decide +kernel⟩ rfl (by decide +kernel) fun C hC hsz => ?_
  exact ex_ret (ev_cmp rfl (strs_cmp he) (by omega) (ev_sub (ev_name hC (by decide +kernel) (by decide +kernel) look_hd) (by decide) rfl (fun _ _ => rfl)) ev_str)
theorem expr_tells (h : Str) (ds : List Dat) : DTells w 54 1 [.str h, .tuple ds] (.tuple [.str (Str.ofString "expr"), .str h, .tuple ds]) := by
  refine fn_tells (n := 0) (ps := [Str.ofString "head", Str.ofString "parts"]) ⟨⟨_, _, _, _, _, _, _, _, _, _, _, _, _, by exact rfl, by exact rfl, binds2 fun _ _ => rfl⟩, by decide +kernel, rfl, rfl, rfl, by decide +kernel⟩ rfl (by decide +kernel) fun C hC hsz => ?_
  exact ex_ret (ev_tuple (Nat.le_of_ble_eq_true rfl) (evs_cons star_c ev_str (evs_cons star_n (ev_name hC (by decide +kernel) (by decide +kernel) look_hd) (evs_cons star_k (ev_tupleOf hC (by decide +kernel) (by kernel_rfl) (by boot_fast) (by decide) (by decide +kernel) star_n (ev_name hC (by decide +kernel) (by decide +kernel) (look_tl (by decide +kernel) look_hd))) evs_nil))))
theorem g_expr : GFn w (Str.ofString "expr") 54 := ⟨by kernel_rfl, by kernel_rfl, by decide +kernel⟩
theorem g_sym : GFn w (Str.ofString "sym") 61 := ⟨by kernel_rfl, by kernel_rfl, by decide +kernel⟩
theorem g_isexpr : GFn w (Str.ofString "is_expr") 68 := ⟨by kernel_rfl, by kernel_rfl, by decide +kernel⟩
abbrev convD (k t : Dat) : Dat := .tuple [.str (Str.ofString "expr"), .str (Str.ofString "call"), .tuple [.tuple [.str (Str.ofString "value"), .tuple [.str (Str.ofString "fun"), .str (Str.ofString "convert")]], k, t]]
theorem converted_tells (t k : Dat) : DTells w 182 2 [t, k] (convD k t) := by
  refine fn_tells (n := 1) (ps := [Str.ofString "tree", Str.ofString "kind"]) ⟨⟨_, _, _, _, _, _, _, _, _, _, _, _, _, by exact rfl, by exact rfl, binds2 fun _ _ => rfl⟩, by decide +kernel, rfl, rfl, rfl, by decide +kernel⟩ rfl (by decide +kernel) fun C hC hsz => ?_
  exact ex_ret (ev_call hC.s (by decide +kernel) g_expr star_c (any_cons star_t any_nil) (expr_tells _ _) (by omega) (evs_cons star_c ev_str (evs_cons star_t (ev_tuple (Nat.le_of_ble_eq_true rfl) (evs_cons star_t (ev_tuple (Nat.le_of_ble_eq_true rfl) (evs_cons star_c ev_str (evs_cons star_t (ev_tuple (Nat.le_of_ble_eq_true rfl) (evs_cons star_c ev_str (evs_cons star_c ev_str evs_nil))) evs_nil))) (evs_cons star_n (ev_name hC (by decide +kernel) (by decide +kernel) (look_tl (by decide +kernel) look_hd)) (evs_cons star_n (ev_name hC (by decide +kernel) (by decide +kernel) look_hd) evs_nil)))) evs_nil)))
theorem as_tells (k t : Dat) : DTells w 230 1 [k, t] (convD k t) := by
  refine fn_tells (n := 0) (ps := [Str.ofString "kind", Str.ofString "tree"]) ⟨⟨_, _, _, _, _, _, _, _, _, _, _, _, _, by exact rfl, by exact rfl, binds2 fun _ _ => rfl⟩, by decide +kernel, rfl, rfl, rfl, by decide +kernel⟩ rfl (by decide +kernel) fun C hC hsz => ?_
  exact ex_ret (ev_tuple (Nat.le_of_ble_eq_true rfl) (evs_cons star_c ev_str (evs_cons star_c ev_str (evs_cons star_t (ev_tuple (Nat.le_of_ble_eq_true rfl) (evs_cons star_t (ev_tuple (Nat.le_of_ble_eq_true rfl) (evs_cons star_c ev_str (evs_cons star_t (ev_tuple (Nat.le_of_ble_eq_true rfl) (evs_cons star_c ev_str (evs_cons star_c ev_str evs_nil))) evs_nil))) (evs_cons star_n (ev_name hC (by decide +kernel) (by decide +kernel) look_hd) (evs_cons star_n (ev_name hC (by decide +kernel) (by decide +kernel) (look_tl (by decide +kernel) look_hd)) evs_nil)))) evs_nil))))
end Mine
namespace Mine
open PySem PySem.W PyProof.Rows PySem.Spec PySem.Calls
set_option linter.all false
variable {w : World}
theorem cells_get {cm : Str → Option Value} {cs : List (Str × Addr)} {cells : Led} (h : CellsAre cm cs cells) {x : Str} {c : Addr} (e : cs.lookup x = some c) : ∃ o, (c, o) ∈ cells ∧ o.data = .cell (cm x) := by
  induction h with
  | nil => cases e
  | cons ho _ ih =>
    simp only [List.lookup] at e
    split at e
    · rename_i q
      cases e
      have := beq_iff_eq.mp q
      subst this
      exact ⟨_, .head _, ho⟩
    · obtain ⟨o, h1, h2⟩ := ih e
      exact ⟨o, .tail _ h1, h2⟩
theorem cells_addr {cm : Str → Option Value} {cs : List (Str × Addr)} {cells : Led} (h : CellsAre cm cs cells) : ∀ p ∈ cells, ∃ y, (y, p.1) ∈ cs := by
  induction h with
  | nil => exact fun _ h => nomatch h
  | cons ho _ ih =>
    intro p hp
    rcases List.mem_cons.mp hp with rfl | hp
    · exact ⟨_, .head _⟩
    · obtain ⟨y, h⟩ := ih p hp
      exact ⟨y, .tail _ h⟩
theorem cells_from : ∀ (names : List (Str × NameKind)) (n : Nat) (acc : List (Str × Addr)), ∀ q ∈ cellsFrom n names acc, q ∈ acc ∨ n ≤ q.2
  | [], _, _, q, h => .inl h
  | (x, k) :: r, n, acc, q, h => by
    unfold cellsFrom at h
    split at h
    · rcases cells_from r (n + 1) _ q h with h | h
      · rcases List.mem_cons.mp h with rfl | h
        · exact .inr (Nat.le_refl _)
        · exact .inl h
      · exact .inr (Nat.le_of_succ_le h)
    · exact cells_from r n acc q h
/-- the def at f, two parameters, some of them captured -/
structure FnAtC (w : World) (f : Addr) (p1 p2 : Str) (body : List Stmt) (scope : Scope) : Prop where
  ex : ∃ (name qual : Str) (params : Arguments) (dV kV doc pm cdv ct oc : Value) (an od : Option Addr) (osl : Array (Option Value)),
    (KK w.params).lookup f = some { cls := oc, dict := od, data := .func (fnOf name qual params body scope dV kV doc pm an cdv ct), slots := osl } ∧ codeIn (KK w.params) cdv qual = true ∧
    ∀ (s : Shared) (v1 v2 : Value), BindsTo s (fnOf name qual params body scope dV kV doc pm an cdv ct) { pos := [v1, v2], kw := [] } [(p1, v1), (p2, v2)]
  kinds : ∀ v1 v2 : Value, ([(p1, v1), (p2, v2)].all fun y => scope.names.lookup y.1 == some .local || scope.names.lookup y.1 == some .cell) = true
  nd : ((cellsFrom 0 scope.names []).map (·.1)).Nodup
  co : scope.isCoroutine = false
  gen : scope.isGenerator = false
  kind : scope.kind = .function
/-- what a parameter is in the frame -/
def ParAt (scope : Scope) (p1 p2 : Str) (t1 t2 : Ent) (k : NameKind) (Γ : Tys) : Prop := ∀ x t, Γ.lookup x = some t → scope.names.lookup x = some k ∧ ((x = p1 ∧ t = t1) ∨ (x = p2 ∧ t = t2))
theorem fn_tellsC {f : Addr} {p1 p2 : Str} {body : List Stmt} {scope : Scope} {t1 t2 : Ent} {M : Cells} {P : Ent → Prop} {n : Nat} (Γ Δ : Tys) (H : FnAtC w f p1 p2 body scope) (hne : p1 ≠ p2) (hΓ : ParAt scope p1 p2 t1 t2 .local Γ) (hΔ : ParAt scope p1 p2 t1 t2 .cell Δ)
    (hc : ∀ L x t, Δ.lookup x = some t → ∃ c, (cellsFrom (L + 1) scope.names []).lookup x = some c) (h : ∀ C : Cx w, Fm C scope → C.Δ = Δ → C.cl = cellsFrom (C.L + 1) scope.names [] → C.sz = n → Ex C Γ M M body P) : XTells w f (n + 1) [t1, t2] M P := by
  intro C m s args rd Q E hn F hv hcs rk R ro hM hret
  match args, hv with
  | [v1, v2], ⟨hv1, hv2, _⟩ =>
  obtain ⟨⟨name, qual, params, dV, kV, doc, pm, cdv, ct, oc, an, od, osl, ho, hcd, hb⟩, hkinds, hnd, hco, hgen, hkind⟩ := H
  have hd' := C.hd
  have hu' := C.hu
  obtain ⟨os, N, hos, he⟩ := hcs.led
  refine wpAny_call ?_
  refine enter_cells (news := os) C.B F C.X N C.T rfl rfl C.hk ho hcd (by show C.dp < recursionLimit; omega) (hb _ v1 v2) (hkinds v1 v2) hnd ?_ hco hgen hkind
  intro g L' h₁ tk cells FG F' N' Y' B' X' T' l1 GS
  rw [he] at GS
  have hR : ∀ p ∈ rd, g.get? p.1 = some p.2 := fun p hp => GS _ _ (R p hp) (ro p hp)
  have val : ∀ x t, ((x = p1 ∧ t = t1) ∨ (x = p2 ∧ t = t2)) → ∃ v, ((x = p1 ∧ v = v1) ∨ (x = p2 ∧ v = v2)) ∧ EntIn rd v t := by
    rintro x t (⟨rfl, rfl⟩ | ⟨rfl, rfl⟩)
    · exact ⟨v1, .inl ⟨rfl, rfl⟩, hv1⟩
    · exact ⟨v2, .inr ⟨rfl, rfl⟩, hv2⟩
  let C' : Cx w := ⟨C.dp + 1, C.un + 3, C.gd, qual, scope, L', f, cdv, cellsFrom (L' + 1) scope.names [], envX C.cn C.cs C.L C.a C.ccd C.cl :: C.outer, _, C.base, g, C.mean, C.mg, C.mb, rd, n, B', X', T', hkind, hR, rk, envOfC qual scope L' f cdv, none, Δ, rfl, hkind, fun _ => rfl, (fun _ h => nomatch h), by omega, by omega⟩
  have far : ∀ p ∈ cells, L' < p.1 := fun p hp => by
    obtain ⟨y, hy⟩ := cells_addr Y' p hp
    rcases cells_from _ _ _ _ hy with h | h
    · exact nomatch h
    · exact h
  refine wpAny_mono ((h C' ⟨rfl, rfl, rfl⟩ rfl rfl rfl).run _ cells _ _ ⟨F', fun p hp => N' p (List.mem_append.mpr (.inl hp)), .of (fun p hp => N' p (List.mem_append.mpr (.inr hp))) (fun p hp => List.mem_append.mpr (.inl hp)) hos, hM, fun p hp hm => ?_⟩ ⟨fun x t hx => ?_, fun x t hx => ?_⟩ (fun _ _ _ _ _ _ _ _ _ k => k.elim) ?_) (fun _ _ x => x) fun _ _ x => x.elim
  · rw [← he] at hm
    obtain ⟨q, hq, e⟩ := List.mem_map.mp hm
    have a1 := far p hp
    have a2 := l1 q hq
    rw [show q.1 = p.1 from e] at a2
    exact Nat.lt_asymm a1 a2
  · obtain ⟨hk, hx'⟩ := hΓ x t hx
    obtain ⟨v, hv, hE⟩ := val x t hx'
    refine ⟨v, ?_, hE.mono fun p hp => List.mem_append.mpr (.inl hp)⟩
    show bindL (envOfC qual scope L' f cdv).kindOf [(p1, v1), (p2, v2)] (fun _ => none) x = some v
    have hk' : (envOfC qual scope L' f cdv).kindOf x = some .local := hk
    rcases hv with ⟨rfl, rfl⟩ | ⟨rfl, rfl⟩
    · simp only [bindL, hk', if_true]
      by_cases k2 : (envOfC qual scope L' f cdv).kindOf p2 = some .local
      · simp [k2, hne]
      · simp [k2]
    · simp only [bindL, hk', if_true]
  · obtain ⟨hk, hx'⟩ := hΔ x t hx
    obtain ⟨v, hv, hE⟩ := val x t hx'
    obtain ⟨c, hcx⟩ := hc L' x t hx
    obtain ⟨o, h1, h2⟩ := cells_get Y' hcx
    refine ⟨v, c, o, hcx, h1, ?_, hE.mono fun p hp => List.mem_append.mpr (.inl hp)⟩
    rw [h2]
    have hk' : (envOfC qual scope L' f cdv).kindOf x = some .cell := hk
    have hk2 : (envOfC qual scope L' f cdv).kindOf x ≠ some .local := by rw [hk']; exact fun e => nomatch e
    congr 1
    rcases hv with ⟨rfl, rfl⟩ | ⟨rfl, rfl⟩
    · simp only [bindC, hk2, if_false]
      by_cases k2 : (envOfC qual scope L' f cdv).kindOf p2 = some .local
      · simp [k2]
      · simp [k2, hne]
    · simp only [bindC, hk2, if_false, if_true]
  · intro v m' h' tk R' M' t S _ hd' k
    refine leaveK_ S.F S.N fun F2 N2 => ?_
    exact ret_end (s := s) (P := fun t M' => M' = M ∧ P t) GS F hcs hret F2 N2 S.F.keep S.cs S.nd S.off (fun p hp => (S.N p hp).2.2) (fun _ M' k b hb => k.1 ▸ hb) hd' k
end Mine
namespace Mine
open PySem PySem.W PyProof.Rows PySem.Spec PySem.Calls LCg
set_option linter.all false
variable {w : World}
/-- a comprehension's place -/
structure CmOk (C C' : Cx w) (csc : Scope) (cl : List (Str × Addr)) (c : Addr) (o : Obj) (m₂ : Str → Option Value) : Prop where
  a : C'.A = C.A
  g : C'.G = C.G
  h : C'.h₀ = C.h₀
  l : C'.L = C.L
  z : C'.sz = C.sz
  e : C'.env = compEnvC csc cl c C.env
  v : C'.vars = some (c, o, m₂)
/-- the state while an element is evaluated -/
abbrev cmM (I c D : Addr) (oI oC oD : Obj) (M : Cells) : Cells := (I, .raw oI) :: (c, .raw oC) :: (D, .raw oD) :: M
def mkCm (C : Cx w) (csc : Scope) (cl : List (Str × Addr)) (c : Addr) (o : Obj) (m₂ : Str → Option Value) (Δ : Tys) (hk : (relabel csc C.env).kind = .function) (ho : NsObj o m₂) : Cx w :=
  { C with env := compEnvC csc cl c C.env, vars := some (c, o, m₂), Δ := Δ, hE := C.hE, hkE := hk, hV1 := fun h => (nomatch h), hV2 := fun q hq => by cases hq; exact ⟨rfl, ho⟩ }
theorem cm_st {C : Cx w} {M : Cells} {m : Str → Option Value} {R os : Led} {h : Heap} {tk : Nat} {s : Shared} {I c D : Addr} {oI oC oD : Obj} (F : Fr C.h₀ C.L h m) (N : News C.h₀ C.L h ((I, oI) :: (c, oC) :: (D, oD) :: (os ++ R))) (off : Off3 I c D (os ++ R)) (ne : (@Ne Nat I c) ∧ (@Ne Nat I D) ∧ (@Ne Nat c D))
    (hos : ∀ q ∈ M, ∃ o, CellIn (C.G ++ R) o q.2 ∧ (q.1, o) ∈ os) (he : os.map (·.1) = M.map (·.1)) (nd : (M.map (·.1)).Nodup) (ofR : ∀ p ∈ R, p.1 ∉ M.map (·.1)) : St C m (cmM I c D oI oC oD M) R (upS s h tk) := by
  have o3 := off.mem
  have nin : ∀ x, (∀ p ∈ os ++ R, p.1 ≠ x) → x ∉ M.map (·.1) := fun x hx hm => by
    rw [← he] at hm
    obtain ⟨q, hq, e⟩ := List.mem_map.mp hm
    exact hx q (List.mem_append.mpr (.inl hq)) e
  refine ⟨F, fun p hp => N p (.tail _ (.tail _ (.tail _ (List.mem_append.mpr (.inr hp))))), fun q hq => ?_, ?_, fun p hp hm => ?_⟩
  · simp only [List.mem_cons] at hq
    rcases hq with rfl | rfl | rfl | hq
    · exact ⟨oI, rfl, N _ (.head _)⟩
    · exact ⟨oC, rfl, N _ (.tail _ (.head _))⟩
    · exact ⟨oD, rfl, N _ (.tail _ (.tail _ (.head _)))⟩
    · obtain ⟨o, h1, h2⟩ := hos q hq
      exact ⟨o, h1, N _ (.tail _ (.tail _ (.tail _ (List.mem_append.mpr (.inl h2)))))⟩
  · simp only [List.map_cons, List.nodup_cons, List.mem_cons, not_or]
    exact ⟨⟨ne.1, ne.2.1, nin I fun p hp => (o3 p hp).1⟩, ⟨ne.2.2, nin c fun p hp => (o3 p hp).2.1⟩, nin D (fun p hp => (o3 p hp).2.2), nd⟩
  · have z := o3 p (List.mem_append.mpr (.inr hp))
    simp only [List.map_cons, List.mem_cons] at hm
    rcases hm with e | e | e | e
    · exact z.1 e
    · exact z.2.1 e
    · exact z.2.2 e
    · exact ofR p hp e
/-- behind an element -/
theorem cm_back {C : Cx w} {M : Cells} {m : Str → Option Value} {R : Led} {s : Shared} {I c D : Addr} {oI oC oD : Obj} (S : St C m (cmM I c D oI oC oD M) R s) : ∃ os, News C.h₀ C.L s.heap ((I, oI) :: (c, oC) :: (D, oD) :: (os ++ R)) ∧ Off3 I c D (os ++ R) ∧ (∀ q ∈ M, ∃ o, CellIn (C.G ++ R) o q.2 ∧ (q.1, o) ∈ os) ∧ os.map (·.1) = M.map (·.1) := by
  have hM : CellsAt C.h₀ C.L s.heap (C.G ++ R) M := fun q hq => S.cs q (.tail _ (.tail _ (.tail _ hq)))
  obtain ⟨os, N, hos, he⟩ := hM.led
  have raw : ∀ {a : Addr} {o : Obj}, (a, Cell.raw o) ∈ cmM I c D oI oC oD M → s.heap.get? a = some o ∧ a ≠ C.L ∧ C.h₀.get? a = none := fun {a o} h => by
    obtain ⟨o', h1, h2⟩ := S.cs _ h
    have h1 : o' = o := h1
    subst h1
    exact h2
  have nd := S.nd
  simp only [List.map_cons, List.nodup_cons, List.mem_cons, not_or] at nd
  obtain ⟨⟨_, _, nI⟩, ⟨_, nc⟩, nD, _⟩ := nd
  refine ⟨os, fun p hp => ?_, Off3.of fun p hp => ?_, hos, he⟩
  · simp only [List.mem_cons, List.mem_append] at hp
    rcases hp with rfl | rfl | rfl | hp | hp
    · exact raw (.head _)
    · exact raw (.tail _ (.head _))
    · exact raw (.tail _ (.tail _ (.head _)))
    · exact N p hp
    · exact S.N p hp
  · rcases List.mem_append.mp hp with hp | hp
    · have : p.1 ∈ M.map (·.1) := he ▸ List.mem_map_of_mem hp
      exact ⟨fun e => nI (e ▸ this), fun e => nc (e ▸ this), fun e => nD (e ▸ this)⟩
    · have z := S.off p hp
      simp only [List.map_cons, List.mem_cons, not_or] at z
      exact ⟨z.1, z.2.1, z.2.2.1⟩
end Mine
namespace Mine
open PySem PySem.W PyProof.Rows PySem.Spec PySem.Calls LCg
set_option linter.all false
variable {w : World}
/-- the datum at a place -/
theorem dat_at {nw : Led} : ∀ {vs : List Value} {ds : List Dat}, DatAll nw vs ds → ∀ {i : Nat} {v : Value}, vs[i]? = some v → ∃ d, ds[i]? = some d ∧ DatIn nw v d := by
  intro vs ds h
  induction vs generalizing ds with
  | nil => intro i v hv; simp at hv
  | cons a vs ih =>
    cases h with
    | cons h r =>
      intro i v hv
      cases i with
      | zero => simp at hv; subst hv; exact ⟨_, rfl, h⟩
      | succ i =>
        obtain ⟨d, h1, h2⟩ := ih r (by simpa using hv)
        exact ⟨d, by simpa using h1, h2⟩
/-- a comprehension, up to where its list stands -/
structure Comp (C : Cx w) (Γ : Tys) (M : Cells) (e iter : PySem.Expr) (csc : Scope) (cl : List (Str × Addr)) (P : Ent → Prop) : Prop where
  run : ∀ (m : Str → Option Value) (R : Led) (s : Shared) (RR : Value → Addr → Result → Shared → Prop) (E : Value → Shared → Prop), St C m M R s → EnvOk C m R Γ →
    (∀ D c oC m' g tk R2 t, St C m ((c, .raw oC) :: M) R2 (upS s g tk) → NsObj oC m' → (∀ p ∈ R, p ∈ R2) → EntIn (C.G ++ R2) (.ref D) t → P t → RR (.ref D) c (.ok .next) (upS s g tk)) →
    wpAny (PM w) C.A (eval iter C.env) (fun x s₁ => wpAny (PM w) C.A (pyIter x) (fun it s₂ => wpAny (PM w) C.A (newList []) (fun acc s₃ =>
      wpAny (PM w) C.A (newFunctionEnv csc C.env.globals cl [] C.env.qual none .none (some C.env)) (fun cenv s₄ =>
        codeAny (PM w) C.A (.compStart e 0 it acc { cenv with scope := relabel csc C.env }) (RR acc cenv.locals) s₄) E s₃) E s₂) E s₁) E s
/-- an owned object is let go -/
theorem St.dropC {C : Cx w} {M : Cells} {m : Str → Option Value} {R : Led} {s : Shared} {c : Addr} {k : Cell} {g : Heap} (S : St C m ((c, k) :: M) R s) (hs : Heap.SameBut c s.heap g) (tk : Nat) : St C m M R (upS s g tk) := by
  obtain ⟨o, _, hc, hL, h0⟩ := S.cs _ (.head _)
  have nd := S.nd
  rw [List.map_cons, List.nodup_cons] at nd
  refine ⟨S.F.change hs hL h0, fun p hp => ?_, fun q hq => ?_, nd.2, fun p hp hm => S.off p hp (.tail _ hm)⟩
  · exact ⟨(hs.2 _ fun e => S.off p hp (e ▸ .head _)).trans (S.N p hp).1, (S.N p hp).2⟩
  · obtain ⟨o, h1, h2, h3⟩ := S.cs q (.tail _ hq)
    exact ⟨o, h1, (hs.2 _ fun e => nd.1 (List.mem_map.mpr ⟨q, hq, e⟩)).trans h2, h3⟩
section
variable {C : Cx w} {Γ : Tys} {M : Cells} {sc csc : Scope} {elt iter : PySem.Expr} {gens : List Comprehension} {x y : Str} {px pos p2 : Pos} {cl : List (Str × Addr)} {P : Ent → Prop} {Δ : Tys} {N : Tys → Cells → Prop} {PP : Ent → Cells → Prop} {rest : List Stmt}
theorem evp_compOf (hg : ∀ env, firstIter gens env = eval iter env) (ha : firstAsync gens = false) {g : Comprehension} {gs : List Comprehension} (hcl : clausesOf (.ListComp elt gens csc pos) = g :: gs) (hs : ∀ x, foldedSetIterable g.iter C.env x = pure x)
    (hclos : closureFor csc C.env = pure cl) (hkind : csc.kind = .function) (hnames : ∀ y ∈ csc.names, y.2 = .local → csc.names.lookup y.1 = some .local) (h : Comp C Γ M (.ListComp elt gens csc pos) iter csc cl P) : EvP C Γ M (.ListComp elt gens csc pos) P := .mk <| fun m R s Q E S hΓ ret => by
  rw [eval_ListComp, hg, ha]
  refine wpAny_comprehension_free (use := none) hcl hs hclos hkind hnames (h.run m R s _ E S hΓ fun D c oC m' g tk R2 t S2 hn hs2 hD hP => ?_)
  obtain ⟨o, e1, gc, _⟩ := S2.cs _ (.head _)
  have e1 : o = oC := e1
  subst e1
  refine ⟨m', hn.ns gc, fun g2 hsame => ?_⟩
  have S3 := S2.dropC hsame tk
  exact ret _ g2 tk R2 t ⟨S3.F, S3.N, S3.cs, S3.nd, S3.off⟩ hs2 hD hP
/-- y = [..] -/
theorem sx_assignComp (hC : Fm C sc) (hk : sc.names.lookup y = some .local) (hsw : ∀ cn L a ccd cl, swapsWith (.ListComp elt gens csc pos) (some (.Name y px)) p2.line (envX cn sc L a ccd cl) = pure true) (hg : ∀ env, firstIter gens env = eval iter env) (ha : firstAsync gens = false) {g : Comprehension} {gs : List Comprehension} (hcl : clausesOf (.ListComp elt gens csc pos) = g :: gs) (hs : ∀ x, foldedSetIterable g.iter C.env x = pure x)
    (hu : ∀ env (u : Value → Sem Unit), evalThenUse (.ListComp elt gens csc pos) env u = (do let _ ← comprehension (.ListComp elt gens csc pos) csc env (firstIterPos gens pos) (newList []) (firstAsync gens) (firstIter gens env) (some u)))
    (hclos : closureFor csc C.env = pure cl) (hkind : csc.kind = .function) (hnames : ∀ y ∈ csc.names, y.2 = .local → csc.names.lookup y.1 = some .local) (h : Comp C Γ M (.ListComp elt gens csc pos) iter csc cl P) (r : ∀ t, P t → Sx C ((y, t) :: Γ) M rest N PP) : Sx C Γ M (.Assign [.Name y px] (.ListComp elt gens csc pos) p2 :: rest) N PP := .mk <| fun m R s Q S hΓ nx ret => by
  refine wpAny_execs_cons ?_
  rw [exec_Assign_Name_used _ _ _ _ (by rw [hC.e, hC.c]; exact hsw _ _ _ _ _)]
  refine wpAny_bind (wpAny_standAt (wpAny_bind ?_))
  rw [hu, hg, ha]
  refine wpAny_bind (wpAny_mono (wpAny_comprehension_free (use := some (assign (.Name y px) C.env)) (Q := fun _ s' => wpAny (PM w) C.A (execs rest C.env) Q (fun _ _ => False) s') hcl hs hclos hkind hnames (h.run m R s _ _ S hΓ fun D c oC m' g tk R2 t S2 hn hs2 hD hP => ?_)) (fun _ s' hq => wpAny_pure (wpAny_pure hq)) fun _ _ e => e)
  refine wpAny_assign_Name (S2.store hC hk fun g3 tk3 S3 => ?_)
  obtain ⟨o, e1, gc, _⟩ := S3.cs _ (.head _)
  have e1 : o = oC := e1
  subst e1
  refine ⟨m', hn.ns gc, fun g4 hsame => ?_⟩
  have S4 := S3.dropC hsame tk3
  exact (r t hP).run _ R2 _ Q ⟨S4.F, S4.N, S4.cs, S4.nd, S4.off⟩ (env_store hC (hΓ.mono hs2) hD) (fun m' h tk R'' Γ' M' S5 hs5 => nx m' h tk R'' Γ' M' S5 fun q hq => hs5 q (hs2 q hq)) fun v m' h tk R'' M' t S5 hs5 => ret v m' h tk R'' M' t S5 fun q hq => hs5 q (hs2 q hq)
/-- what holds between the turns -/
def CmJ (C : Cx w) (M : Cells) (R₀ : Led) (PD : Nat → Dat → Prop) (i : Nat) (ys : List Value) (nw : Led) : Prop :=
  ∃ os R ds, nw = os ++ R ∧ (∀ p ∈ R₀, p ∈ R) ∧ (∀ q ∈ M, ∃ o, CellIn (C.G ++ R) o q.2 ∧ (q.1, o) ∈ os) ∧ os.map (·.1) = M.map (·.1) ∧ (∀ p ∈ R, p.1 ∉ M.map (·.1)) ∧ DatAll (C.G ++ R) ys ds ∧ ds.length = i ∧ ∀ (j : Nat) (d : Dat), ds[j]? = some d → PD j d
theorem comp_core {m : Str → Option Value} {R : Led} {s : Shared} {H : Heap} {tk : Nat} {I : Addr} {fp : List Addr} {n : Nat} {P : Nat → Value → Prop} {Sti : Nat → Heap → Prop} {SS : Led → Prop} {T : Nat → Ent} {PD : Nat → Dat → Prop} {RR : Value → Addr → Result → Shared → Prop} {E : Value → Shared → Prop}
    (W : Walks row.row.prog w C.A I fp [I] n P Sti) (hn : n ≤ 24) (hIo : ∀ i h, Sti i h → ∃ o, h.get? I = some o) (hSt : ∀ i h h' o nw, Sti i h → h.get? I = some o → h'.get? I = some o → (∀ b o, C.h₀.get? b = some o → h'.get? b = some o) → News C.h₀ C.L h' nw → SS nw → Sti i h')
    (hcell : ∀ y ∈ csc.names, y.2 ≠ .cell) (hkind : csc.kind = .function) (hx : csc.names.lookup x = some .local) (hst : Sti 0 H) (hfp : ∀ b ∈ fp, b < H.objs.size)
    (S : St C m M R (upS s H tk)) (hΓ : EnvOk C m R Γ) (hI : C.L ≠ I) (hI₀ : C.h₀.get? I = none) (hIM : I ∉ M.map (·.1)) (hIR : ∀ p ∈ R, p.1 ≠ I) (hSS : ∀ nw : Led, (∀ p ∈ R, p ∈ nw) → SS nw)
    (hΔ : ∀ y t, Δ.lookup y = some t → C.Δ.lookup y = some t ∧ cl.lookup y = C.env.cells.lookup y) (hkr : (relabel csc C.env).kind = .function)
    (item : ∀ i v, i < n → P i v → EntIn (C.G ++ R) v (T i))
    (el : ∀ (i : Nat), i < n → ∀ (I c D : Addr) (oI oC oD : Obj) (m₂ : Str → Option Value) (ho : NsObj oC m₂), EvP (mkCm C csc cl c oC m₂ Δ hkr ho) [(x, T i)] (cmM I c D oI oC oD M) elt (fun t => ∃ d, t = .d d ∧ PD i d))
    (fin : ∀ D c oC m' g tk R2 ds, St C m ((c, .raw oC) :: M) R2 (upS s g tk) → NsObj oC m' → (∀ p ∈ R, p ∈ R2) → DatIn (C.G ++ R2) (.ref D) (.list ds) → ds.length = n → (∀ (j : Nat) (d : Dat), ds[j]? = some d → PD j d) → RR (.ref D) c (.ok .next) (upS s g tk)) :
    wpAny (PM w) C.A (newList []) (fun acc s₃ => wpAny (PM w) C.A (newFunctionEnv csc C.env.globals cl [] C.env.qual none .none (some C.env)) (fun cenv s₄ =>
      codeAny (PM w) C.A (.compStart (.ListComp elt [⟨.Name x px, iter, [], 0⟩] csc pos) 0 (.ref I) acc { cenv with scope := relabel csc C.env }) (RR acc cenv.locals) s₄) E s₃) E (upS s H tk) := by
  obtain ⟨os, No, hos, hoe⟩ := S.cs.led
  have Nn : News C.h₀ C.L H (os ++ R) := fun p hp => (List.mem_append.mp hp).elim (No p) (S.N p)
  refine block_U (S := SS) (Fin := CmJ C M R PD n) W (by rw [sizeLine_eq]; omega) hIo hSt hcell hkind hx hst hfp S.F Nn hI hI₀ (fun p hp e => ?_) (hSS _ fun p hp => List.mem_append.mpr (.inr hp)) ?_ ?_
  · rcases List.mem_append.mp hp with hp | hp
    · exact hIM (by rw [← hoe]; exact e ▸ List.mem_map_of_mem hp)
    · exact hIR p hp e
  · refine compRest_ind (CmJ C M R PD) n (fun i ys nw hi hj v I oI c oC D m₂ g tk2 E' hv hc hxv F Nw off ne => ?_) (fun ys nw hj => hj) _ 0 [] _ (Nat.zero_add _) ⟨os, R, [], rfl, fun _ h => h, hos, hoe, S.off, .nil, rfl, fun _ _ h => by simp at h⟩
    obtain ⟨os1, R1, ds1, rfl, s1, hos1, he1, of1, hD1, hl1, hP1⟩ := hj
    have hvd := item i v hi hv
    have S1 := cm_st (tk := tk2) (s := upS s H tk) F Nw off ne hos1 he1 S.nd of1
    refine (el i hi I c D oI oC (lst ys) m₂ hc).run m R1 _ _ _ ⟨S1.F, S1.N, S1.cs, S1.nd, S1.off⟩ ⟨fun y t hy => ?_, fun y t hy => ?_⟩ (fun y h2 tk3 R2 t S2 hsub2 hy hP => ?_)
    · simp only [List.lookup] at hy
      by_cases q : y = x
      · subst q
        simp at hy
        subst hy
        exact ⟨v, hxv, hvd.mono (up_mono s1)⟩
      · have : (y == x) = false := by simp [q]
        rw [this] at hy
        exact nomatch hy
    · obtain ⟨h1, h2⟩ := hΔ y t hy
      obtain ⟨u, c', o, a1, a2, a3, a4⟩ := hΓ.cel y t h1
      exact ⟨u, c', o, by rw [← a1]; exact h2, s1 _ a2, a3, a4.mono (up_mono s1)⟩
    · obtain ⟨d, rfl, hPd⟩ := hP
      have S2' : St C m (cmM I c D oI oC (lst ys) M) R2 (upS (upS s H tk) h2 tk3) := ⟨S2.F, S2.N, S2.cs, S2.nd, S2.off⟩
      obtain ⟨os2, N2, off2, hos2, he2⟩ := cm_back S2'
      refine CompEnd.intro S2.F N2 (os2 ++ R2) (fun _ h => h) off2 (hSS _ fun p hp => List.mem_append.mpr (.inr (hsub2 p (s1 p hp)))) ⟨os2, R2, ds1 ++ [d], rfl, fun p hp => hsub2 p (s1 p hp), hos2, he2, fun p hp hm => S2.off p hp (.tail _ (.tail _ (.tail _ hm))), (hD1.mono (up_mono hsub2)).append (.one hy), by rw [List.length_append, hl1]; rfl, fun j d' hj => ?_⟩
      rcases Nat.lt_or_ge j ds1.length with h | h
      · rw [List.getElem?_append_left h] at hj; exact hP1 j d' hj
      · rw [List.getElem?_append_right h] at hj
        have : j - ds1.length = 0 := by have := (List.getElem?_eq_some_iff.mp hj).1; simp at this; omega
        rw [this] at hj
        cases hj
        have : j = i := by omega
        subst this
        exact hPd
  · intro D c g tk2 m' ys nw F2 N2 o1 hns hC₀ hD₀ hCL hDL hCD offC fn
    obtain ⟨os2, R2, ds, rfl, s2, hos2, he2, of2, hD2, hl, hP⟩ := fn
    obtain ⟨oC, gC, hC'⟩ := ns_obj hns
    have o1' : ∀ p ∈ os2 ++ R2, p.1 ≠ D := by
      have key : ∀ {l : Led}, Off1 D l → ∀ p ∈ l, p.1 ≠ D := by
        intro l
        induction l with
        | nil => exact fun _ _ h => nomatch h
        | cons a l ih =>
          intro x p hp
          rcases List.mem_cons.mp hp with rfl | hp
          · exact x.1
          · exact ih x.2 p hp
      exact key o1
    refine fin D c oC m' g tk2 ((D, lst ys) :: R2) ds ⟨F2, fun p hp => ?_, fun q hq => ?_, ?_, fun p hp hm => ?_⟩ hC' (fun p hp => .tail _ (s2 p hp)) (.list (List.mem_append.mpr (.inr (.head _))) (hD2.mono (up_mono fun p hp => .tail _ hp))) hl hP
    · rcases List.mem_cons.mp hp with rfl | hp
      · exact N2 _ (.head _)
      · exact N2 p (.tail _ (List.mem_append.mpr (.inr hp)))
    · rcases List.mem_cons.mp hq with rfl | hq
      · exact ⟨oC, rfl, gC, hCL, hC₀⟩
      · obtain ⟨o, h1, h2⟩ := hos2 q hq
        exact ⟨o, h1.mono (up_mono fun p hp => .tail _ hp), N2 _ (.tail _ (List.mem_append.mpr (.inl h2)))⟩
    · rw [List.map_cons, List.nodup_cons]
      refine ⟨fun hm => ?_, S.nd⟩
      rw [← he2] at hm
      obtain ⟨q, hq, e⟩ := List.mem_map.mp hm
      exact offC q (List.mem_append.mpr (.inl hq)) e
    · rcases List.mem_cons.mp hm with e | hm
      · rcases List.mem_cons.mp hp with rfl | hp
        · exact hCD e.symm
        · exact offC p (List.mem_append.mpr (.inr hp)) e
      · rcases List.mem_cons.mp hp with rfl | hp
        · rw [← he2] at hm
          obtain ⟨q, hq, e⟩ := List.mem_map.mp hm
          exact o1' q (List.mem_append.mpr (.inl hq)) e
        · exact of2 p hp hm
/-- over a tuple of data -/
theorem comp_tuple {ds : List Dat} {PD : Nat → Dat → Prop} (hcell : ∀ y ∈ csc.names, y.2 ≠ .cell) (hkind : csc.kind = .function) (hx : csc.names.lookup x = some .local) (hz : ds.length ≤ 24) (hΔ : ∀ y t, Δ.lookup y = some t → C.Δ.lookup y = some t ∧ cl.lookup y = C.env.cells.lookup y) (hkr : (relabel csc C.env).kind = .function)
    (h : Ev C Γ M iter (.d (.tuple ds))) (el : ∀ (i : Nat) (d : Dat), ds[i]? = some d → ∀ (I c D : Addr) (oI oC oD : Obj) (m₂ : Str → Option Value) (ho : NsObj oC m₂), EvP (mkCm C csc cl c oC m₂ Δ hkr ho) [(x, .d d)] (cmM I c D oI oC oD M) elt (fun t => ∃ e, t = .d e ∧ PD i e))
    (hP : ∀ es : List Dat, es.length = ds.length → (∀ (j : Nat) (d : Dat), es[j]? = some d → PD j d) → P (.d (.list es))) : Comp C Γ M (.ListComp elt [⟨.Name x px, iter, [], 0⟩] csc pos) iter csc cl P := .mk <| fun m R s RR E S hΓ ret => by
  refine h.run m R s _ E S hΓ fun v h' tk R' S' hsub hD => ?_
  have hD : DatIn (C.G ++ R') v (.tuple ds) := hD
  cases hD with
  | @tuple ax vs k _ hm hr =>
  have hax : h'.get? ax = some { cls := .type "tuple", data := .seq vs.toArray k } := S'.reads _ hm
  have hlt : ax < h'.objs.size := Heap.lt_size hax
  have hlen : vs.toArray.size = ds.length := by rw [List.size_toArray, hr.length]
  refine wpAny_pyIter_tuple (items := vs.toArray) ⟨_, hax, rfl, k, rfl⟩ ?_
  have up : ∀ b o, h'.get? b = some o → (h'.push { cls := .type "tuple_iterator", data := .fields #[.ref ax, .int 0 0] }).get? b = some o := fun b o e => Heap.get?_push_of_some _ e
  have fresh : ∀ b o, h'.get? b = some o → b ≠ h'.objs.size := fun b o e => Nat.ne_of_lt (Heap.lt_size e)
  have SH : St C m M R' (upS s (h'.push { cls := .type "tuple_iterator", data := .fields #[.ref ax, .int 0 0] }) tk) := ⟨S'.F.keeps up, S'.N.grown up, fun q hq => let ⟨o, h1, h2, h3⟩ := S'.cs q hq; ⟨o, h1, up _ _ h2, h3⟩, S'.nd, S'.off⟩
  refine comp_core (SS := fun nw => C.h₀.get? ax = some { cls := .type "tuple", data := .seq vs.toArray k } ∨ (ax, ({ cls := .type "tuple", data := .seq vs.toArray k } : Obj)) ∈ nw) (T := fun i => .d (ds.getD i .none)) (PD := PD) (Γ := Γ) (Walks.tuple rfl h'.objs.size ax (Nat.ne_of_lt hlt) vs.toArray) (by rw [hlen]; exact hz) (fun i h st => by obtain ⟨o, e, _⟩ := st.1; exact ⟨o, e⟩)
    (fun i g g' o nw st e e' kp Nn hS => ⟨by obtain ⟨o', q, r⟩ := st.1; rw [e] at q; cases q; exact ⟨o, e', r⟩, ?_⟩) hcell hkind hx ⟨⟨_, Heap.get?_push_size _ rfl, rfl, rfl⟩, ⟨_, up _ _ hax, rfl, k, rfl⟩⟩ (fun b hb => ?_) SH (hΓ.mono hsub) (Nat.ne_of_lt S'.F.ns.lt) (next_is_new S'.F) (fun hM => ?_) (fun p hp => fresh _ _ (S'.N p hp).1) (fun nw hn => ?_) hΔ hkr (fun i v hi hv => ?_) (fun i hi => ?_) fun D c oC m' g tk R2 es S2 hn hs2 hD hl hPD => ret D c oC m' g tk R2 (.d (.list es)) S2 hn (fun p hp => hs2 p (hsub p hp)) hD (hP es (by rw [hl, hlen]) hPD)
  · rcases hS with hS | hS
    · exact ⟨_, kp _ _ hS, rfl, k, rfl⟩
    · exact ⟨_, (Nn _ hS).1, rfl, k, rfl⟩
  · show b < (h'.push _).objs.size
    rw [Heap.size_push]
    rcases List.mem_cons.mp hb with rfl | hb
    · exact Nat.lt_succ_self _
    · rw [List.mem_singleton.mp hb]; exact Nat.lt_succ_of_lt hlt
  · obtain ⟨q, hq, e⟩ := List.mem_map.mp hM
    obtain ⟨o, _, h2, _⟩ := S'.cs q hq
    exact fresh _ _ h2 e
  · rcases List.mem_append.mp hm with hm | hm
    · exact .inl (C.hG _ hm)
    · exact .inr (hn _ hm)
  · obtain ⟨d, h1, h2⟩ := dat_at hr (v := v) (i := i) (by simpa using hv)
    rw [List.getD_eq_getElem?_getD, h1]
    exact h2
  · have hi' : i < ds.length := by rw [← hlen]; exact hi
    rw [List.getD_eq_getElem?_getD, List.getElem?_eq_getElem hi']
    exact el i _ (List.getElem?_eq_getElem hi')
/-- [elt for x in a tuple] -/
theorem ev_compT {ds es : List Dat} (hC : Fm C sc)
    (hclos : closureFor csc C.env = pure cl) (hcell : ∀ y ∈ csc.names, y.2 ≠ .cell) (hkind : csc.kind = .function) (hnames : ∀ y ∈ csc.names, y.2 = .local → csc.names.lookup y.1 = some .local) (hx : csc.names.lookup x = some .local) (hs : ∀ x, foldedSetIterable iter C.env x = pure x)
    (hl : es.length = ds.length) (hz : ds.length ≤ 24) (hΔ : ∀ y t, Δ.lookup y = some t → C.Δ.lookup y = some t ∧ cl.lookup y = C.env.cells.lookup y) (hkr : (relabel csc C.env).kind = .function)
    (h : Ev C Γ M iter (.d (.tuple ds))) (el : ∀ (i : Nat) (d e : Dat), ds[i]? = some d → es[i]? = some e → ∀ (I c D : Addr) (oI oC oD : Obj) (m₂ : Str → Option Value) (ho : NsObj oC m₂), Ev (mkCm C csc cl c oC m₂ Δ hkr ho) [(x, .d d)] (cmM I c D oI oC oD M) elt (.d e)) :
    Ev C Γ M (.ListComp elt [⟨.Name x px, iter, [], 0⟩] csc pos) (.d (.list es)) :=
  ev_of (evp_compOf (fun _ => rfl) rfl rfl hs hclos hkind hnames (comp_tuple (PD := fun i e => es[i]? = some e) hcell hkind hx hz hΔ hkr h (fun i d hd I c D oI oC oD m₂ ho => by
    obtain ⟨e, he⟩ : ∃ e, es[i]? = some e := ⟨_, List.getElem?_eq_getElem (by have := (List.getElem?_eq_some_iff.mp hd).1; omega)⟩
    exact evp_of (el i d e hd he I c D oI oC oD m₂ ho) ⟨e, rfl, he⟩) fun fs hl2 hf => by
      have : fs = es := List.ext_getElem? fun j => by
        cases q : fs[j]? with
        | some d => exact (hf j d q).symm
        | none => rw [List.getElem?_eq_none_iff] at q; rw [Eq.comm, List.getElem?_eq_none_iff]; omega
      rw [this]))
end
end Mine
namespace Mine
open PySem PySem.W PyProof.Rows PySem.Spec PySem.Calls
set_option linter.all false
variable {w : World}
theorem cmp_ne_t {d e : Dat} (ox : kqdOk 60 d = true) (oy : kqdOk 60 e = true) (hne : d ≠ e) : Cmp w .NotEq d e true := fun A s nw u v Q E R hu hv hl q => ne_dat_t R hu hv ox oy hl hne q
theorem cmp_ne_f {d e : Dat} (ox : kqdOk 60 d = true) (oy : kqdOk 60 e = true) (he : d = e) : Cmp w .NotEq d e false := fun A s nw u v Q E R hu hv hl q => ne_dat_f R hu hv ox oy hl he q
theorem strs_ne {a b : Str} {c : Bool} (h : (a != b) = c) : Cmp w .NotEq (.str a) (.str b) c := h ▸ cmp_ne_str a b
theorem cmp_in {x : Str} {ys : List Str} {b : Bool} (h : ys.any (· == x) = b) : Cmp w .In (.str x) (.tuple (ys.map .str)) b := h ▸ cmp_in_tup x ys
abbrev quiets : List Str := [Str.ofString "quote", Str.ofString "macro"]
abbrev funs : List Str := [Str.ofString "function", Str.ofString "->", Str.ofString "do", Str.ofString "generated"]
theorem d92 : DatIn gK (.ref 92) (.tuple (quiets.map .str)) := .tuple (vs := [_, _]) (.tail _ (.head _)) (.cons (.str _ _) (.cons (.str _ _) .nil))
theorem d93 : DatIn gK (.ref 93) (.tuple (funs.map .str)) := .tuple (vs := [_, _, _, _]) (.tail _ (.tail _ (.head _))) (.cons (.str _ _) (.cons (.str _ _) (.cons (.str _ _) (.cons (.str _ _) .nil))))
theorem par1 {sc : Scope} {p1 p2 : Str} {t1 t2 : Ent} {k : NameKind} (h : sc.names.lookup p1 = some k) : ParAt sc p1 p2 t1 t2 k [(p1, t1)] := fun x t hx => by
  simp only [List.lookup] at hx
  by_cases q : x = p1
  · subst q
    simp at hx
    exact ⟨h, .inl ⟨rfl, hx.symm⟩⟩
  · have : (x == p1) = false := by simp [q]
    rw [this] at hx
    exact nomatch hx
theorem par2 {sc : Scope} {p1 p2 : Str} {t1 t2 : Ent} {k : NameKind} (h : sc.names.lookup p2 = some k) : ParAt sc p1 p2 t1 t2 k [(p2, t2)] := fun x t hx => by
  simp only [List.lookup] at hx
  by_cases q : x = p2
  · subst q
    simp at hx
    exact ⟨h, .inr ⟨rfl, hx.symm⟩⟩
  · have : (x == p2) = false := by simp [q]
    rw [this] at hx
    exact nomatch hx
theorem par3 {p x : Str} {t u : Ent} {cs : List (Str × Addr)} {c : Addr} (hx : List.lookup x [(p, u)] = some t) (h : cs.lookup p = some c) : cs.lookup x = some c := by
  simp only [List.lookup] at hx
  by_cases q : x = p
  · subst q; exact h
  · have : (x == p) = false := by simp [q]
    rw [this] at hx
    exact nomatch hx
theorem g_rt : GFn w (Str.ofString "returns_turned") 187 := ⟨by kernel_rfl, by kernel_rfl, by decide +kernel⟩
theorem g_conv : GFn w (Str.ofString "converted") 182 := ⟨by kernel_rfl, by kernel_rfl, by decide +kernel⟩
theorem rt_leaf2 (e : Str) (ds : List Dat) (kd : Dat) (he : (e != Str.ofString "expr") = true) (n : Nat) (hn : 8 ≤ n) : DTells w 187 (n + 1) [.tuple (.str e :: ds), kd] (.tuple (.str e :: ds)) := by
  refine fn_tellsC (n := n) (p1 := Str.ofString "tree") (p2 := Str.ofString "kind") [(Str.ofString "tree", .d (.tuple (.str e :: ds)))] [(Str.ofString "kind", .d kd)] ⟨⟨_, _, _, _, _, _, _, _, _, _, _, _, _, by exact rfl, by exact rfl, fun _ _ _ => BindsTo.of_eq rfl⟩, fun _ _ => rfl, by decide +kernel, rfl, rfl, rfl⟩ (by decide +kernel) ?_ ?_ ?_ fun C hC hΔ hcl hsz => ?_
  · exact par1 (by decide +kernel)
  · exact par2 (by decide +kernel)
  · exact fun L x t hx => ⟨L + 1, par3 hx (by exact rfl)⟩
  exact ex_ifRet (tst_orT (tst_cmp rfl (strs_ne he) (by omega) (ev_sub (ev_name hC (by decide +kernel) (by decide +kernel) look_hd) (by decide) rfl (fun _ _ => rfl)) ev_str)) (ex_ret (ev_name hC (by decide +kernel) (by decide +kernel) look_hd))
def envS (sc : Scope) : Env := envX (Str.ofString "") sc 0 0 .none []
theorem relabel_at {C : Cx w} {sc csc : Scope} (h : C.env.scope = sc) : relabel csc C.env = relabel csc (envS sc) := by
  subst h
  rfl
theorem par4 {p x : Str} {t u : Ent} {cs cs' : List (Str × Addr)} (hx : List.lookup x [(p, u)] = some t) (h : cs.lookup p = cs'.lookup p) : cs.lookup x = cs'.lookup x := by
  simp only [List.lookup] at hx
  by_cases q : x = p
  · subst q; exact h
  · have : (x == p) = false := by simp [q]
    rw [this] at hx
    exact nomatch hx
theorem rt_node2 (W : Str) (ds es : List Dat) (kd : Dat) (n : Nat) (hn : 8 ≤ n) (hq1 : quiets.any (· == W) = false) (hq2 : funs.any (· == W) = false) (hr : (W == Str.ofString "return") = false) (hz : ds.length ≤ 24) (hl : es.length = ds.length)
    (IH : ∀ (i : Nat) (d e : Dat), ds[i]? = some d → es[i]? = some e → DTells w 187 n [d, kd] e) : DTells w 187 (n + 1) [.tuple [.str (Str.ofString "expr"), .str W, .tuple ds], kd] (.tuple [.str (Str.ofString "expr"), .str W, .tuple es]) := by
  refine fn_tellsC (n := n) (p1 := Str.ofString "tree") (p2 := Str.ofString "kind") [(Str.ofString "tree", .d (.tuple [.str (Str.ofString "expr"), .str W, .tuple ds]))] [(Str.ofString "kind", .d kd)] ⟨⟨_, _, _, _, _, _, _, _, _, _, _, _, _, by exact rfl, by exact rfl, fun _ _ _ => BindsTo.of_eq rfl⟩, fun _ _ => rfl, by decide +kernel, rfl, rfl, rfl⟩ (by decide +kernel) ?_ ?_ ?_ fun C hC hΔ hcl hsz => ?_
  · exact par1 (by decide +kernel)
  · exact par2 (by decide +kernel)
  · exact fun L x t hx => ⟨L + 1, par3 hx (by exact rfl)⟩
  have hl24 : es.length ≤ 24 := by omega
  refine ex_ifSkip (tst_or (tst_cmp rfl (strs_ne rfl) (by omega) (ev_sub (ev_name hC (by decide +kernel) (by decide +kernel) look_hd) (by decide) rfl (fun _ _ => rfl)) ev_str) (tst_or (tst_cmp rfl (cmp_in hq1) (by omega) (ev_sub (ev_name hC (by decide +kernel) (by decide +kernel) look_hd) (by decide) rfl (fun _ _ => rfl)) (ev_ground hC.s (by decide +kernel) (by kernel_rfl) (by decide +kernel)  d92)) (tst_or (tst_cmp rfl (cmp_in hq2) (by omega) (ev_sub (ev_name hC (by decide +kernel) (by decide +kernel) look_hd) (by decide) rfl (fun _ _ => rfl)) (ev_ground hC.s (by decide +kernel) (by kernel_rfl) (by decide +kernel) d93)) tst_or0))) (ex_assign hC (by decide +kernel) (fun _ => rfl) (ev_tupleOfL hC (by decide +kernel) (by kernel_rfl) (by boot_fast) (by decide) (by decide +kernel) (fun _ => rfl) hl24 (ev_compT (Δ := [(Str.ofString "kind", .d kd)]) hC (by rw [hC.e, hcl]; with_unfolding_all rfl) (by decide +kernel) rfl (by decide +kernel) (by decide +kernel) (fun _ => rfl) hl hz (fun y t hy => ⟨by rw [hΔ]; exact hy, par4 hy (by rw [hC.e, hcl]; rfl)⟩) rfl (ev_sub (ev_name hC (by decide +kernel) (by decide +kernel) look_hd) (by decide) rfl (fun _ _ => rfl)) (fun i d e hd he I c D oI oC oD m₂ ho => ?_))) (ex_ifSkip (tst_cmp rfl (strs_cmp hr) (by omega) (ev_sub (ev_name hC (by decide +kernel) (by decide +kernel) (look_tl (by decide +kernel) look_hd)) (by decide) rfl (fun _ _ => rfl)) ev_str) (ex_ret (ev_call hC.s (by decide +kernel) g_expr star_s (any_cons star_n any_nil) (expr_tells _ _) (by omega) (evs_cons star_s (ev_sub (ev_name hC (by decide +kernel) (by decide +kernel) (look_tl (by decide +kernel) look_hd)) (by decide) rfl (fun _ _ => rfl)) (evs_cons star_n (ev_name hC (by decide +kernel) (by decide +kernel) look_hd) evs_nil))))))
  exact (ev_call (relabel_at hC.s) (by decide +kernel) g_rt star_n (any_cons star_n any_nil) (IH i d e hd he) (by show n ≤ C.sz; omega) (evs_cons star_n (ev_nameC (q := (c, oC, m₂)) rfl (.tail _ (.head _)) (relabel_at hC.s) (by decide +kernel) (by decide +kernel) look_hd) (evs_cons star_n (ev_cell (relabel_at hC.s) (by decide +kernel) (by decide +kernel) look_hd) evs_nil)))
theorem rt_quiet1 (W : Str) (ds : List Dat) (kd : Dat) (n : Nat) (hn : 8 ≤ n) (hq1 : quiets.any (· == W) = true) : DTells w 187 (n + 1) [.tuple [.str (Str.ofString "expr"), .str W, .tuple ds], kd] (.tuple [.str (Str.ofString "expr"), .str W, .tuple ds]) := by
  refine fn_tellsC (n := n) (p1 := Str.ofString "tree") (p2 := Str.ofString "kind") [(Str.ofString "tree", .d (.tuple [.str (Str.ofString "expr"), .str W, .tuple ds]))] [(Str.ofString "kind", .d kd)] ⟨⟨_, _, _, _, _, _, _, _, _, _, _, _, _, by exact rfl, by exact rfl, fun _ _ _ => BindsTo.of_eq rfl⟩, fun _ _ => rfl, by decide +kernel, rfl, rfl, rfl⟩ (by decide +kernel) ?_ ?_ ?_ fun C hC hΔ hcl hsz => ?_
  · exact par1 (by decide +kernel)
  · exact par2 (by decide +kernel)
  · exact fun L x t hx => ⟨L + 1, par3 hx (by exact rfl)⟩
  exact ex_ifRet (tst_or (tst_cmp rfl (strs_ne rfl) (by omega) (ev_sub (ev_name hC (by decide +kernel) (by decide +kernel) look_hd) (by decide) rfl (fun _ _ => rfl)) ev_str) (tst_orT (tst_cmp rfl (cmp_in hq1) (by omega) (ev_sub (ev_name hC (by decide +kernel) (by decide +kernel) look_hd) (by decide) rfl (fun _ _ => rfl)) (ev_ground hC.s (by decide +kernel) (by kernel_rfl) (by decide +kernel) d92)))) (ex_ret (ev_name hC (by decide +kernel) (by decide +kernel) look_hd))
theorem rt_quiet2 (W : Str) (ds : List Dat) (kd : Dat) (n : Nat) (hn : 8 ≤ n) (hq1 : quiets.any (· == W) = false) (hq2 : funs.any (· == W) = true) : DTells w 187 (n + 1) [.tuple [.str (Str.ofString "expr"), .str W, .tuple ds], kd] (.tuple [.str (Str.ofString "expr"), .str W, .tuple ds]) := by
  refine fn_tellsC (n := n) (p1 := Str.ofString "tree") (p2 := Str.ofString "kind") [(Str.ofString "tree", .d (.tuple [.str (Str.ofString "expr"), .str W, .tuple ds]))] [(Str.ofString "kind", .d kd)] ⟨⟨_, _, _, _, _, _, _, _, _, _, _, _, _, by exact rfl, by exact rfl, fun _ _ _ => BindsTo.of_eq rfl⟩, fun _ _ => rfl, by decide +kernel, rfl, rfl, rfl⟩ (by decide +kernel) ?_ ?_ ?_ fun C hC hΔ hcl hsz => ?_
  · exact par1 (by decide +kernel)
  · exact par2 (by decide +kernel)
  · exact fun L x t hx => ⟨L + 1, par3 hx (by exact rfl)⟩
  exact ex_ifRet (tst_or (tst_cmp rfl (strs_ne rfl) (by omega) (ev_sub (ev_name hC (by decide +kernel) (by decide +kernel) look_hd) (by decide) rfl (fun _ _ => rfl)) ev_str) (tst_or (tst_cmp rfl (cmp_in hq1) (by omega) (ev_sub (ev_name hC (by decide +kernel) (by decide +kernel) look_hd) (by decide) rfl (fun _ _ => rfl)) (ev_ground hC.s (by decide +kernel) (by kernel_rfl) (by decide +kernel) d92)) (tst_orT (tst_cmp rfl (cmp_in hq2) (by omega) (ev_sub (ev_name hC (by decide +kernel) (by decide +kernel) look_hd) (by decide) rfl (fun _ _ => rfl)) (ev_ground hC.s (by decide +kernel) (by kernel_rfl) (by decide +kernel) d93))))) (ex_ret (ev_name hC (by decide +kernel) (by decide +kernel) look_hd))
theorem rt_retT (W : Str) (ds es : List Dat) (kd : Dat) (n : Nat) (hn : 8 ≤ n) (hq1 : quiets.any (· == W) = false) (hq2 : funs.any (· == W) = false) (hr : (W == Str.ofString "return") = true) (hz : ds.length ≤ 24) (hl : (es : List Dat).length = ds.length) (e0 : Dat) (h0 : es[0]? = some e0) (ho1 : kqdOk 60 (.tuple es) = true) (hne : Dat.tuple es ≠ Dat.tuple [])
    (IH : ∀ (i : Nat) (d e : Dat), ds[i]? = some d → (es : List Dat)[i]? = some e → DTells w 187 n [d, kd] e) : DTells w 187 (n + 1) [.tuple [.str (Str.ofString "expr"), .str W, .tuple ds], kd] (.tuple [.str (Str.ofString "expr"), .str (Str.ofString "return"), .tuple [convD kd e0]]) := by
  refine fn_tellsC (n := n) (p1 := Str.ofString "tree") (p2 := Str.ofString "kind") [(Str.ofString "tree", .d (.tuple [.str (Str.ofString "expr"), .str W, .tuple ds]))] [(Str.ofString "kind", .d kd)] ⟨⟨_, _, _, _, _, _, _, _, _, _, _, _, _, by exact rfl, by exact rfl, fun _ _ _ => BindsTo.of_eq rfl⟩, fun _ _ => rfl, by decide +kernel, rfl, rfl, rfl⟩ (by decide +kernel) ?_ ?_ ?_ fun C hC hΔ hcl hsz => ?_
  · exact par1 (by decide +kernel)
  · exact par2 (by decide +kernel)
  · exact fun L x t hx => ⟨L + 1, par3 hx (by exact rfl)⟩
  have hl24 : (es : List Dat).length ≤ 24 := by omega
  refine ex_ifSkip (tst_or (tst_cmp rfl (strs_ne rfl) (by omega) (ev_sub (ev_name hC (by decide +kernel) (by decide +kernel) look_hd) (by decide) rfl (fun _ _ => rfl)) ev_str) (tst_or (tst_cmp rfl (cmp_in hq1) (by omega) (ev_sub (ev_name hC (by decide +kernel) (by decide +kernel) look_hd) (by decide) rfl (fun _ _ => rfl)) (ev_ground hC.s (by decide +kernel) (by kernel_rfl) (by decide +kernel)  d92)) (tst_or (tst_cmp rfl (cmp_in hq2) (by omega) (ev_sub (ev_name hC (by decide +kernel) (by decide +kernel) look_hd) (by decide) rfl (fun _ _ => rfl)) (ev_ground hC.s (by decide +kernel) (by kernel_rfl) (by decide +kernel) d93)) tst_or0))) (ex_assign hC (by decide +kernel) (fun _ => rfl) (ev_tupleOfL hC (by decide +kernel) (by kernel_rfl) (by boot_fast) (by decide) (by decide +kernel) (fun _ => rfl) hl24 (ev_compT (Δ := [(Str.ofString "kind", .d kd)]) hC (by rw [hC.e, hcl]; with_unfolding_all rfl) (by decide +kernel) rfl (by decide +kernel) (by decide +kernel) (fun _ => rfl) hl hz (fun y t hy => ⟨by rw [hΔ]; exact hy, par4 hy (by rw [hC.e, hcl]; rfl)⟩) rfl (ev_sub (ev_name hC (by decide +kernel) (by decide +kernel) look_hd) (by decide) rfl (fun _ _ => rfl)) (fun i d e hd he I c D oI oC oD m₂ ho => ?_))) (ex_ifRet (tst_cmp rfl (strs_cmp hr) (by omega) (ev_sub (ev_name hC (by decide +kernel) (by decide +kernel) (look_tl (by decide +kernel) look_hd)) (by decide) rfl (fun _ _ => rfl)) ev_str) (ex_ret (ev_call hC.s (by decide +kernel) g_expr star_c (any_cons star_t any_nil) (expr_tells _ _) (by omega) (evs_cons star_c ev_str (evs_cons star_t (ev_tuple (Nat.le_of_ble_eq_true rfl) (evs_cons star_k (ev_call hC.s (by decide +kernel) g_conv star_i (any_cons star_n any_nil) (converted_tells _ _) (by omega) (evs_cons star_i (ev_ifT (tst_cmp rfl (cmp_ne_t ho1 rfl hne) (by omega) (ev_name hC (by decide +kernel) (by decide +kernel) look_hd) (ev_tuple (Nat.le_of_ble_eq_true rfl) evs_nil)) (ev_sub (ev_name hC (by decide +kernel) (by decide +kernel) look_hd) (by decide) h0 (fun _ _ => rfl))) (evs_cons star_n (ev_cell hC.s (by decide +kernel) (by decide +kernel) (by rw [hΔ]; exact look_hd)) evs_nil))) evs_nil)) evs_nil))))))
  exact (ev_call (relabel_at hC.s) (by decide +kernel) g_rt star_n (any_cons star_n any_nil) (IH i d e hd he) (by show n ≤ C.sz; omega) (evs_cons star_n (ev_nameC (q := (c, oC, m₂)) rfl (.tail _ (.head _)) (relabel_at hC.s) (by decide +kernel) (by decide +kernel) look_hd) (evs_cons star_n (ev_cell (relabel_at hC.s) (by decide +kernel) (by decide +kernel) look_hd) evs_nil)))
theorem rt_retF (W : Str) (ds : List Dat) (kd : Dat) (n : Nat) (hn : 8 ≤ n) (hq1 : quiets.any (· == W) = false) (hq2 : funs.any (· == W) = false) (hr : (W == Str.ofString "return") = true) (hz : ds.length ≤ 24) (hl : ([] : List Dat).length = ds.length) 
    (IH : ∀ (i : Nat) (d e : Dat), ds[i]? = some d → ([] : List Dat)[i]? = some e → DTells w 187 n [d, kd] e) : DTells w 187 (n + 1) [.tuple [.str (Str.ofString "expr"), .str W, .tuple ds], kd] (.tuple [.str (Str.ofString "expr"), .str (Str.ofString "return"), .tuple [convD kd (.tuple [.str (Str.ofString "nothing")])]]) := by
  refine fn_tellsC (n := n) (p1 := Str.ofString "tree") (p2 := Str.ofString "kind") [(Str.ofString "tree", .d (.tuple [.str (Str.ofString "expr"), .str W, .tuple ds]))] [(Str.ofString "kind", .d kd)] ⟨⟨_, _, _, _, _, _, _, _, _, _, _, _, _, by exact rfl, by exact rfl, fun _ _ _ => BindsTo.of_eq rfl⟩, fun _ _ => rfl, by decide +kernel, rfl, rfl, rfl⟩ (by decide +kernel) ?_ ?_ ?_ fun C hC hΔ hcl hsz => ?_
  · exact par1 (by decide +kernel)
  · exact par2 (by decide +kernel)
  · exact fun L x t hx => ⟨L + 1, par3 hx (by exact rfl)⟩
  have hl24 : ([] : List Dat).length ≤ 24 := by omega
  refine ex_ifSkip (tst_or (tst_cmp rfl (strs_ne rfl) (by omega) (ev_sub (ev_name hC (by decide +kernel) (by decide +kernel) look_hd) (by decide) rfl (fun _ _ => rfl)) ev_str) (tst_or (tst_cmp rfl (cmp_in hq1) (by omega) (ev_sub (ev_name hC (by decide +kernel) (by decide +kernel) look_hd) (by decide) rfl (fun _ _ => rfl)) (ev_ground hC.s (by decide +kernel) (by kernel_rfl) (by decide +kernel)  d92)) (tst_or (tst_cmp rfl (cmp_in hq2) (by omega) (ev_sub (ev_name hC (by decide +kernel) (by decide +kernel) look_hd) (by decide) rfl (fun _ _ => rfl)) (ev_ground hC.s (by decide +kernel) (by kernel_rfl) (by decide +kernel) d93)) tst_or0))) (ex_assign hC (by decide +kernel) (fun _ => rfl) (ev_tupleOfL hC (by decide +kernel) (by kernel_rfl) (by boot_fast) (by decide) (by decide +kernel) (fun _ => rfl) hl24 (ev_compT (Δ := [(Str.ofString "kind", .d kd)]) hC (by rw [hC.e, hcl]; with_unfolding_all rfl) (by decide +kernel) rfl (by decide +kernel) (by decide +kernel) (fun _ => rfl) hl hz (fun y t hy => ⟨by rw [hΔ]; exact hy, par4 hy (by rw [hC.e, hcl]; rfl)⟩) rfl (ev_sub (ev_name hC (by decide +kernel) (by decide +kernel) look_hd) (by decide) rfl (fun _ _ => rfl)) (fun i d e hd he I c D oI oC oD m₂ ho => ?_))) (ex_ifRet (tst_cmp rfl (strs_cmp hr) (by omega) (ev_sub (ev_name hC (by decide +kernel) (by decide +kernel) (look_tl (by decide +kernel) look_hd)) (by decide) rfl (fun _ _ => rfl)) ev_str) (ex_ret (ev_call hC.s (by decide +kernel) g_expr star_c (any_cons star_t any_nil) (expr_tells _ _) (by omega) (evs_cons star_c ev_str (evs_cons star_t (ev_tuple (Nat.le_of_ble_eq_true rfl) (evs_cons star_k (ev_call hC.s (by decide +kernel) g_conv star_i (any_cons star_n any_nil) (converted_tells _ _) (by omega) (evs_cons star_i (ev_ifF (tst_cmp rfl (cmp_ne_f rfl rfl rfl) (by omega) (ev_name hC (by decide +kernel) (by decide +kernel) look_hd) (ev_tuple (Nat.le_of_ble_eq_true rfl) evs_nil)) (ev_tuple (Nat.le_of_ble_eq_true rfl) (evs_cons star_c ev_str evs_nil))) (evs_cons star_n (ev_cell hC.s (by decide +kernel) (by decide +kernel) (by rw [hΔ]; exact look_hd)) evs_nil))) evs_nil)) evs_nil))))))
  exact (ev_call (relabel_at hC.s) (by decide +kernel) g_rt star_n (any_cons star_n any_nil) (IH i d e hd he) (by show n ≤ C.sz; omega) (evs_cons star_n (ev_nameC (q := (c, oC, m₂)) rfl (.tail _ (.head _)) (relabel_at hC.s) (by decide +kernel) (by decide +kernel) look_hd) (evs_cons star_n (ev_cell (relabel_at hC.s) (by decide +kernel) (by decide +kernel) look_hd) evs_nil)))
end Mine
namespace Mine
open PySem PySem.W PyProof.Rows PySem.Spec PySem.Calls
set_option linter.all false
variable {w : World}
def RT2 (w : World) (k : Nat) : Prop := ∀ (t : Tr) (kd : Dat), Ok k t → kqdOk 4 kd = true → k ≤ 8 → DTells w 187 (k + 12) [t.dat, kd] (turned kd t)
theorem rt2_items {k : Nat} (IH : RT2 w k) {kd : Dat} (hkq : kqdOk 4 kd = true) (hk8 : k ≤ 8) {ps : List Tr} (hok : ∀ p ∈ ps, Ok k p) : ∀ (i : Nat) (d e : Dat), (Tr.dats ps)[i]? = some d → (turneds kd ps)[i]? = some e → DTells w 187 (k + 12) [d, kd] e := by
  intro i d e hd he
  rw [dats_map, List.getElem?_map] at hd
  rw [turneds_eq, List.getElem?_map] at he
  cases h : ps[i]? with
  | none => rw [h] at hd; cases hd
  | some p =>
    rw [h] at hd he
    cases hd
    cases he
    exact IH p kd (hok _ (List.mem_of_getElem? h)) hkq hk8
theorem rt_all2 (w : World) : ∀ k, RT2 w k := by
  have leafs : ∀ k (t : Tr) (kd : Dat), (∀ w' ps, t ≠ .node w' ps) → DTells w 187 (k + 12) [t.dat, kd] (turned kd t) := by
    intro k t kd hne
    cases t with
    | int i => rw [turned, Tr.dat]; exact rt_leaf2 _ _ kd (by decide +kernel) (k + 11) (by omega)
    | sym x => rw [turned, Tr.dat]; exact rt_leaf2 _ _ kd (by decide +kernel) (k + 11) (by omega)
    | nothing => rw [turned, Tr.dat]; exact rt_leaf2 _ _ kd (by decide +kernel) (k + 11) (by omega)
    | node _ _ => exact absurd rfl (hne _ _)
  intro k
  induction k with
  | zero =>
    intro t kd ho _ _
    refine leafs 0 t kd fun w' ps e => ?_
    subst e
    obtain ⟨_, h, _⟩ := ho.node
    omega
  | succ k IH =>
    intro t kd ho hkq hk8
    cases t with
    | int i => exact leafs _ _ kd (fun _ _ e => nomatch e)
    | sym i => exact leafs _ _ kd (fun _ _ e => nomatch e)
    | nothing => exact leafs _ _ kd (fun _ _ e => nomatch e)
    | node W ps =>
      obtain ⟨k', hk, hok, h3, hw⟩ := ho.node
      obtain rfl : k = k' := by omega
      have hit := rt2_items IH hkq (by omega) hok
      have l1 : (Tr.dats ps).length = ps.length := by rw [dats_map, List.length_map]
      have l2 : (turneds kd ps).length = ps.length := by rw [turneds_eq, List.length_map]
      have hz : (Tr.dats ps).length ≤ 24 := by omega
      have hl : (turneds kd ps).length = (Tr.dats ps).length := by omega
      have plain : ∀ (_ : quiets.any (· == W) = false) (_ : funs.any (· == W) = false) (_ : (W == Str.ofString "return") = false) (_ : quiet W = false), DTells w 187 (k + 1 + 12) [Tr.dat (.node W ps), kd] (turned kd (.node W ps)) := fun a b c q => by
        rw [turned_other q c, Tr.dat]
        exact rt_node2 W _ _ kd (k + 12) (by omega) a b c hz hl hit
      rcases hw with rfl | rfl | rfl | ⟨rfl, h1⟩ | rfl | rfl | rfl | rfl | rfl
      · rw [turned_quiet (by decide +kernel), Tr.dat]; exact rt_quiet2 _ _ kd (k + 12) (by omega) (by decide +kernel) (by decide +kernel)
      · rw [turned_quiet (by decide +kernel), Tr.dat]; exact rt_quiet1 _ _ kd (k + 12) (by omega) (by decide +kernel)
      · rw [turned_quiet (by decide +kernel), Tr.dat]; exact rt_quiet2 _ _ kd (k + 12) (by omega) (by decide +kernel) (by decide +kernel)
      · rw [turned_ret (by decide +kernel) (by decide +kernel), Tr.dat]
        cases ps with
        | nil =>
          rw [turneds] at hl hit ⊢
          exact rt_retF _ _ kd (k + 12) (by omega) (by decide +kernel) (by decide +kernel) (by decide +kernel) hz hl hit
        | cons p ps =>
          cases ps with
          | cons _ _ => simp at h1
          | nil =>
            rw [turneds, turneds] at hl hit ⊢
            refine rt_retT _ _ [turned kd p] kd (k + 12) (by omega) (by decide +kernel) (by decide +kernel) (by decide +kernel) hz hl (turned kd p) rfl ?_ (fun e => by cases e) hit
            refine kq_le (n := 4 + 4 * k + 1) (kq_tuple fun d hd => ?_) (by omega)
            rw [List.mem_singleton.mp hd]
            exact turned_ok (by omega) hkq k _ (hok _ (.head _))
      · exact plain (by decide +kernel) (by decide +kernel) (by decide +kernel) (by decide +kernel)
      · exact plain (by decide +kernel) (by decide +kernel) (by decide +kernel) (by decide +kernel)
      · exact plain (by decide +kernel) (by decide +kernel) (by decide +kernel) (by decide +kernel)
      · exact plain (by decide +kernel) (by decide +kernel) (by decide +kernel) (by decide +kernel)
      · exact plain (by decide +kernel) (by decide +kernel) (by decide +kernel) (by decide +kernel)
end Mine
namespace Mine
open PySem PySem.W PyProof.Rows PySem.Spec PySem.Calls
set_option linter.all false
variable {w : World} {C : Cx w} {Γ Γ' : Tys} {M M' M₀ : Cells} {pos p p2 : Pos} {sc : Scope} {rest : List Stmt} {N : Tys → Cells → Prop} {PP : Ent → Cells → Prop}
/-- one cell has other words -/
inductive UpdC (l : Addr) (c c' : Cell) : Cells → Cells → Prop
  | head {M : Cells} : UpdC l c c' ((l, c) :: M) ((l, c') :: M)
  | tail {q : Addr × Cell} {M M' : Cells} : UpdC l c c' M M' → UpdC l c c' (q :: M) (q :: M')
theorem UpdC.mem {l : Addr} {c c' : Cell} {M M' : Cells} (U : UpdC l c c' M M') : (l, c) ∈ M ∧ (l, c') ∈ M' ∧ M'.map (·.1) = M.map (·.1) ∧ ∀ q ∈ M', q = (l, c') ∨ q ∈ M := by
  induction U with
  | head => exact ⟨.head _, .head _, rfl, fun q hq => (List.mem_cons.mp hq).elim .inl fun h => .inr (.tail _ h)⟩
  | tail _ ih =>
    obtain ⟨h1, h2, h3, h4⟩ := ih
    refine ⟨.tail _ h1, .tail _ h2, by rw [List.map_cons, List.map_cons, h3], fun q hq => ?_⟩
    rcases List.mem_cons.mp hq with rfl | hq
    · exact .inr (.head _)
    · exact (h4 q hq).imp id fun h => .tail _ h
theorem St.upd {l : Addr} {c c' : Cell} {m : Str → Option Value} {R : Led} {s : Shared} {h' : Heap} {o' : Obj} (S : St C m M R s) (U : UpdC l c c' M M') (hs : Heap.SameBut l s.heap h') (ho : h'.get? l = some o') (hc : CellIn (C.G ++ R) o' c') (tk : Nat) : St C m M' R (upS s h' tk) := by
  obtain ⟨m1, m2, m3, m4⟩ := U.mem
  obtain ⟨o, _, _, hL, h0⟩ := S.cs _ m1
  have nd : (M'.map (·.1)).Nodup := m3 ▸ S.nd
  refine ⟨S.F.change hs hL h0, fun p hp => ?_, fun q hq => ?_, nd, fun p hp => m3 ▸ S.off p hp⟩
  · have : p.1 ≠ l := fun e => S.off p hp (e ▸ List.mem_map_of_mem m1)
    exact ⟨(hs.2 _ this).trans (S.N p hp).1, (S.N p hp).2⟩
  · by_cases e : q.1 = l
    · have := nodup_eq nd hq m2 e
      subst this
      exact ⟨o', hc, ho, hL, h0⟩
    · rcases m4 q hq with rfl | hq
      · exact absurd rfl e
      · obtain ⟨o, h1, h2, h3⟩ := S.cs q hq
        exact ⟨o, h1, (hs.2 _ e).trans h2, h3⟩
/-- an owned list -/
def ListC (c : Cell) : Prop := ∀ nw o, CellIn nw o c → ∃ vs n, o = W.listOf (List.toArray vs) n ∧ vs.length ≤ 24
def Grows (c : Cell) (t : Ent) (c' : Cell) : Prop := ∀ nw nw' vs n v n', (∀ p ∈ nw, p ∈ nw') → CellIn nw (W.listOf (List.toArray vs) n) c → EntIn nw' v t → CellIn nw' (W.listOf (List.toArray (vs ++ [v])) n') c'
theorem listOf_inj {vs us : List Value} {n k : Nat} (e : W.listOf (List.toArray vs) n = W.listOf (List.toArray us) k) : vs = us := by
  have := congrArg Obj.data e
  simp at this
  exact this.1
theorem listC_lst {ds : List Dat} (h : ds.length ≤ 24) : ListC (.lst ds) := fun nw o ⟨vs, n, e, hD⟩ => ⟨vs, n, e, by rw [hD.length]; exact h⟩
theorem listC_args {xs : List Str} (h : xs.length ≤ 24) : ListC (.args xs) := fun nw o ⟨vs, n, e, hD⟩ => ⟨vs, n, e, by rw [hD.len]; exact h⟩
theorem ArgsIn.snoc {nw : Led} : ∀ {vs : List Value} {xs : List Str} {v : Value} {x : Str}, ArgsIn nw vs xs → ObjIn nw v 110 (argFs x) → ArgsIn nw (vs ++ [v]) (xs ++ [x])
  | [], [], _, _, _, h => ⟨h, trivial⟩
  | _ :: _, _ :: _, _, _, ⟨h, r⟩, k => ⟨h, ArgsIn.snoc r k⟩
theorem DatAll.snoc {nw : Led} {vs : List Value} {ds : List Dat} {v : Value} {d : Dat} (h : DatAll nw vs ds) (k : DatIn nw v d) : DatAll nw (vs ++ [v]) (ds ++ [d]) := h.append (.one k)
theorem grows_lst {ds : List Dat} {d : Dat} : Grows (.lst ds) (.d d) (.lst (ds ++ [d])) := fun nw nw' vs n v n' hs ⟨us, k, e, hD⟩ hv => by
  have := listOf_inj e
  subst this
  exact ⟨_, n', rfl, DatAll.snoc (hD.mono hs) hv⟩
theorem grows_args {xs : List Str} {x : Str} : Grows (.args xs) (.arg x) (.args (xs ++ [x])) := fun nw nw' vs n v n' hs ⟨us, k, e, hD⟩ hv => by
  have := listOf_inj e
  subst this
  exact ⟨_, n', rfl, ArgsIn.snoc (hD.mono hs) hv⟩
/-- o.append(e) -/
theorem evy_append {o e : PySem.Expr} {l : Addr} {c₀ : Cell} {P1 : Ent → Cells → Prop} {pl : Env → Sem Bool} (hm : (l, c₀) ∈ M) (hl : ListC c₀) (he : ∀ env, eval (.Call (.Attribute o (Str.ofString "append") p) [e] [] pos) env = (do
      let ov ← eval o env
      standAt p.atName
      let (f, first) ← holding [ov] (getMethod ov (Str.ofString "append") (pl env))
      callWith pos f first (backTo pos (starEach [e] env)) [])) (hs : ∀ env, starEach [e] env = [(false, eval e env)]) (ho : Ev C Γ M o (.r l)) (h : EvY C Γ M e P1)
    (U : ∀ t M1, P1 t M1 → ∃ c c' M', UpdC l c c' M1 M' ∧ ListC c ∧ Grows c t c' ∧ PP (.d .none) M') : EvY C Γ M (.Call (.Attribute o (Str.ofString "append") p) [e] [] pos) PP := .mk <| fun m R s Q E S hΓ ret => by
  refine MethodCall_ (ho.run m R s _ E S hΓ fun v h1 tk1 R1 S1 hs1 hv => ?_) (he _)
  have hv : v = .ref l := hv
  subst hv
  obtain ⟨o0, c0, g0, _⟩ := S1.cs _ hm
  obtain ⟨vs0, n0, rfl, _⟩ := hl _ _ c0
  refine getMethod_list_append g0 rfl rfl (callWith_method1 ?_ (hs _) rfl)
  refine spliced_more (h.run m R1 _ _ E S1 (hΓ.mono hs1) fun v h2 tk2 R2 t M1 S2 hs2 hD hP => spliced_none ?_) (hs _)
  obtain ⟨c, c', M', hU, hL, hG, k⟩ := U t M1 hP
  obtain ⟨o2, c2, g2, _⟩ := S2.cs _ hU.mem.1
  obtain ⟨vs, n, rfl, hlen⟩ := hL _ _ c2
  refine append_at g2 (fun h3 hs3 ho3 => ?_) (by rw [List.size_toArray, sizeLine_eq]; omega)
  rw [List.push_toArray] at ho3
  exact ret .none h3 tk2 R2 (.d .none) M' (S2.upd hU hs3 ho3 (hG _ _ vs n v (n + 1) (fun _ h => h) c2 hD) tk2) (fun q hq => hs2 q (hs1 q hq)) DatIn.none k
/-- x = [] : an owned list -/
theorem St.newList {m : Str → Option Value} {R : Led} {s : Shared} {Q E : Value → Shared → Prop} (S : St C m M R s) (hpos : True) (h : ∀ l h', St C m ((l, .lst []) :: M) R (upS s h' s.toks) → Q (.ref l) (upS s h' s.toks)) : wpAny (PM w) C.A (eval (.List [] p2) C.env) Q E s := by
  obtain ⟨os, N, hc, he⟩ := S.cs.led
  refine List_ (spliced_none ?_)
  refine newList_K (news := os ++ R) S.F (fun p hp => (List.mem_append.mp hp).elim (N p) (S.N p)) (fun l h' F N' lt => ?_) (by simp)
  refine h l h' ⟨F, fun p hp => N' p (.tail _ (List.mem_append.mpr (.inr hp))), fun q hq => ?_, ?_, fun p hp hm => ?_⟩
  · rcases List.mem_cons.mp hq with rfl | hq
    · exact ⟨_, ⟨[], 0, rfl, .nil⟩, N' _ (.head _)⟩
    · obtain ⟨o, h1, h2⟩ := hc q hq
      exact ⟨o, h1, N' _ (.tail _ (List.mem_append.mpr (.inl h2)))⟩
  · rw [List.map_cons, List.nodup_cons]
    refine ⟨fun hm => ?_, S.nd⟩
    rw [← he] at hm
    obtain ⟨q, hq, e⟩ := List.mem_map.mp hm
    have := lt q (List.mem_append.mpr (.inl hq))
    rw [show q.1 = l from e] at this
    exact Nat.lt_irrefl _ this
  · rcases List.mem_cons.mp hm with e | hm
    · have := lt p (List.mem_append.mpr (.inr hp))
      rw [show p.1 = l from e] at this
      exact Nat.lt_irrefl _ this
    · exact S.off p hp hm
theorem evy_newList (h : ∀ l, PP (.r l) ((l, .lst []) :: M)) : EvY C Γ M (.List [] p2) PP := .mk <| fun m R s Q E S hΓ ret =>
  S.newList trivial fun l h' S' => ret _ h' _ R (.r l) _ S' (fun _ h => h) rfl (h l)
theorem ex_newList {x : Str} (hC : Fm C sc) (hk : sc.names.lookup x = some .local) (hs : ∀ env, swapsWith (.List [] p2) (some (Expr.Name x p)) pos.line env = pure false) (h : ∀ l, Sx C ((x, .r l) :: Γ) ((l, .lst []) :: M) rest N PP) : Sx C Γ M (.Assign [.Name x p] (.List [] p2) pos :: rest) N PP :=
  sx_assignY hC hk hs (evy_newList (PP := fun t M' => ∃ l, t = .r l ∧ M' = (l, .lst []) :: M) fun l => ⟨l, rfl, rfl⟩) fun t M' ⟨l, e1, e2⟩ => e1 ▸ e2 ▸ h l
/-- an owned list goes over to the ledger -/
theorem St.freeze {l : Addr} {c : Cell} {m : Str → Option Value} {R : Led} {s : Shared} (S : St C m ((l, c) :: M) R s) : ∃ o, CellIn (C.G ++ R) o c ∧ St C m M ((l, o) :: R) s := by
  obtain ⟨o, hD, ho⟩ := S.cs _ (.head _)
  have nd := S.nd
  rw [List.map_cons, List.nodup_cons] at nd
  have sub : ∀ p ∈ R, p ∈ (l, o) :: R := fun p hp => .tail _ hp
  refine ⟨o, hD, S.F, fun p hp => ?_, fun q hq => ?_, nd.2, fun p hp hm => ?_⟩
  · rcases List.mem_cons.mp hp with rfl | hp
    · exact ho
    · exact S.N p hp
  · obtain ⟨o, h1, h2⟩ := S.cs q (.tail _ hq)
    exact ⟨o, h1.mono (up_mono sub), h2⟩
  · rcases List.mem_cons.mp hp with rfl | hp
    · exact nd.1 hm
    · exact S.off p hp (.tail _ hm)
theorem ex_freeze {l : Addr} {es : List Dat} {b : List Stmt} (hΓ' : ∀ y t, Γ'.lookup y = some t → Γ.lookup y = some t ∨ (t = .d (.list es) ∧ Γ.lookup y = some (.r l))) (h : Sx C Γ' M b N PP) : Sx C Γ ((l, .lst es) :: M) b N PP := .mk <| fun m R s Q S hΓ nx ret => by
  obtain ⟨o, ⟨vs, n, e, hD⟩, S'⟩ := S.freeze
  subst e
  have sub : ∀ p ∈ R, p ∈ (l, W.listOf vs.toArray n) :: R := fun p hp => .tail _ hp
  refine h.run m _ s Q S' ⟨fun y t hy => ?_, (hΓ.mono sub).cel⟩ (fun m' h' tk R' Γ2 M' S2 hs => nx m' h' tk R' Γ2 M' S2 fun q hq => hs q (sub q hq)) fun v m' h' tk R' M' t S2 hs => ret v m' h' tk R' M' t S2 fun q hq => hs q (sub q hq)
  rcases hΓ' y t hy with h1 | ⟨rfl, h1⟩
  · exact (hΓ.mono sub).loc y t h1
  · obtain ⟨v, hv1, hv2⟩ := hΓ.loc y _ h1
    have hv2 : v = .ref l := hv2
    subst hv2
    exact ⟨_, hv1, .list (List.mem_append.mpr (.inr (.head _))) (hD.mono (up_mono sub))⟩
end Mine
namespace Mine
open PySem PySem.W PyProof.Rows PySem.Spec PySem.Calls
set_option linter.all false
variable {w : World} {C : Cx w} {Γ Γ' : Tys} {M M' : Cells} {pos p p2 px : Pos} {sc : Scope} {rest body : List Stmt} {N : Tys → Cells → Prop} {PP : Ent → Cells → Prop} {iter : PySem.Expr} {x : Str}
theorem St.ofLed {m : Str → Option Value} {R os nw : Led} {h : Heap} {tk : Nat} {s : Shared} (F : Fr C.h₀ C.L h m) (Nn : News C.h₀ C.L h nw) (e : ∀ p ∈ os ++ R, p ∈ nw) (hos : ∀ q ∈ M, ∃ o, CellIn (C.G ++ R) o q.2 ∧ (q.1, o) ∈ os) (nd : (M.map (·.1)).Nodup) (off : ∀ p ∈ R, p.1 ∉ M.map (·.1)) : St C m M R (upS s h tk) :=
  ⟨F, fun p hp => Nn p (e p (List.mem_append.mpr (.inr hp))), fun q hq => let ⟨o, h1, h2⟩ := hos q hq; ⟨o, h1, Nn _ (e _ (List.mem_append.mpr (.inl h2)))⟩, nd, off⟩
theorem subL_of {all : Led} : ∀ {l : Led}, (∀ p ∈ l, p ∈ all) → SubL l all
  | [], _ => trivial
  | _ :: _, h => ⟨h _ (.head _), subL_of fun p hp => h p (.tail _ hp)⟩
/-- what holds between the turns of a for -/
def ForJ (C : Cx w) (I : Addr) (R₀ : Led) (J : Nat → Tys → Cells → Prop) (i : Nat) (m : Str → Option Value) (nw : Led) : Prop :=
  ∃ Γ' M' R os, nw = os ++ R ∧ (∀ p ∈ R₀, p ∈ R) ∧ (∀ q ∈ M', ∃ o, CellIn (C.G ++ R) o q.2 ∧ (q.1, o) ∈ os) ∧ os.map (·.1) = M'.map (·.1) ∧ (M'.map (·.1)).Nodup ∧ (∀ p ∈ R, p.1 ∉ M'.map (·.1)) ∧ (∀ p ∈ nw, p.1 ≠ I) ∧ EnvOk C m R Γ' ∧ J i Γ' M'
theorem ForJ.of {I : Addr} {R₀ R : Led} {J : Nat → Tys → Cells → Prop} {i : Nat} {m : Str → Option Value} {s : Shared} (S : St C m M R s) (hR : ∀ p ∈ R₀, p ∈ R) (hΓ : EnvOk C m R Γ) (hI : ∀ q, q ∈ M.map (·.1) ∨ q ∈ R.map (·.1) → q ≠ I) (hJ : J i Γ M) : ∃ nw, News C.h₀ C.L s.heap nw ∧ ForJ C I R₀ J i m nw ∧ ∀ p ∈ R, p ∈ nw := by
  obtain ⟨os, No, hos, he⟩ := S.cs.led
  refine ⟨os ++ R, fun p hp => (List.mem_append.mp hp).elim (No p) (S.N p), ⟨Γ, M, R, os, rfl, hR, hos, he, S.nd, S.off, fun p hp => ?_, hΓ, hJ⟩, fun p hp => List.mem_append.mpr (.inr hp)⟩
  rcases List.mem_append.mp hp with hp | hp
  · exact hI _ (.inl (he ▸ List.mem_map_of_mem hp))
  · exact hI _ (.inr (List.mem_map_of_mem hp))
theorem items_go {xs : List Itm} {ts : List Ent} {ic : String} {keep R₀ : Led} {I : Addr} {s : Shared} {Q : Flow → Shared → Prop} (J : Nat → Tys → Cells → Prop) (hC : Fm C sc) (hk : sc.names.lookup x = some .local) (hl : xs.length = ts.length)
    (hx : ∀ (i : Nat) (a : Itm) (t : Ent), xs[i]? = some a → ts[i]? = some t → ∀ v h, a.Is v h → EntIn (C.G ++ R₀) v t) (hkeep : ∀ p ∈ keep, p ∈ R₀)
    (turn : ∀ (i : Nat) (t : Ent) (Γ' : Tys) (M' : Cells) (oI : Obj), ts[i]? = some t → J i Γ' M' → Sx C ((x, t) :: Γ') ((I, .raw oI) :: M') body (fun Γ2 M2 => ∃ M3, M2 = (I, .raw oI) :: M3 ∧ J (i + 1) Γ2 M3) (fun _ _ => False))
    (fin : ∀ m Γ' M' R' h tk, St C m M' R' (upS s h tk) → (∀ p ∈ R₀, p ∈ R') → EnvOk C m R' Γ' → J ts.length Γ' M' → Q .next (upS s h tk)) :
    ∀ k i m nw, i + k = ts.length → ForJ C I R₀ J i m nw → ItemsRest row.row.prog w C.A (fun _ _ => False) C.h₀ C.env (.Name x px) body Q s [(I, ic)] keep (xs.drop i) m nw := by
  have eL : C.env.locals = C.L := C.hV1 hC.v
  intro k
  induction k with
  | zero =>
    intro i m nw hi ⟨Γ', M', R, os, e, hR, hos, he, nd, off, _, hΓ, hJ⟩
    subst e
    rw [List.drop_of_length_le (by omega)]
    refine .zero fun h tk F Nn => ?_
    rw [eL] at F Nn
    exact fin m Γ' M' R h tk (.ofLed F Nn (fun _ h => h) hos nd off) hR hΓ (by rw [← hi]; exact hJ)
  | succ k ih =>
    intro i m nw hi ⟨Γ', M', R, os, e, hR, hos, he, nd, off, hI, hΓ, hJ⟩
    subst e
    have hlt : i < xs.length := by omega
    obtain ⟨t, ht⟩ : ∃ t, ts[i]? = some t := ⟨_, List.getElem?_eq_getElem (by omega)⟩
    rw [List.drop_eq_getElem_cons hlt]
    intro v h tk hv F oI hoI Nn
    rw [eL] at F Nn
    have hvt := hx i _ t (List.getElem?_eq_getElem hlt) ht v h hv
    have S : St C m ((I, .raw oI) :: M') R (upS s h tk) := by
      refine .ofLed (os := (I, oI) :: os) F Nn (fun p hp => hp) (fun q hq => ?_) ?_ fun p hp hm => ?_
      · rcases List.mem_cons.mp hq with rfl | hq
        · exact ⟨oI, rfl, .head _⟩
        · obtain ⟨o, h1, h2⟩ := hos q hq
          exact ⟨o, h1, .tail _ h2⟩
      · rw [List.map_cons, List.nodup_cons]
        refine ⟨fun hm => ?_, nd⟩
        rw [← he] at hm
        obtain ⟨q, hq, e⟩ := List.mem_map.mp hm
        exact hI q (List.mem_append.mpr (.inl hq)) e
      · rcases List.mem_cons.mp hm with e | hm
        · exact hI p (List.mem_append.mpr (.inr hp)) e
        · exact off p hp hm
    refine wpAny_assign_Name (S.store hC hk fun h2 tk2 S2 => ?_)
    refine (turn i t Γ' M' oI ht hJ).run _ R _ _ S2 (env_store hC hΓ (hvt.mono (up_mono hR))) (fun m3 h3 tk3 R3 Γ3 M3 S3 hs3 hΓ3 k3 => ?_) (fun _ _ _ _ _ _ _ _ _ _ k => k.elim)
    obtain ⟨M4, rfl, hJ3⟩ := k3
    obtain ⟨oI', e1, g1, _⟩ := S3.cs _ (.head _)
    have e1 : oI' = oI := e1
    subst e1
    have nd3 := S3.nd
    rw [List.map_cons, List.nodup_cons] at nd3
    have S4 : St C m3 M4 R3 (upS s h3 tk3) := (show St C m3 ((I, .raw oI') :: M4) R3 (upS s h3 tk3) from ⟨S3.F, S3.N, S3.cs, S3.nd, S3.off⟩).sub (fun q hq => .tail _ hq) nd3.2
    obtain ⟨nw, hnw, hJ4, hsub⟩ := ForJ.of (I := I) (R₀ := R₀) S4 (fun p hp => hs3 p (hR p hp)) hΓ3 (fun q hq e => by
      subst e
      rcases hq with hq | hq
      · exact nd3.1 hq
      · obtain ⟨p, hp, e⟩ := List.mem_map.mp hq
        exact S3.off p hp (e ▸ .head _)) hJ3
    have off4 : ∀ p ∈ nw, p.1 ≠ I := by
      obtain ⟨_, _, _, _, rfl, _, _, _, _, _, h, _⟩ := hJ4
      exact h
    refine ⟨h3, tk3, m3, nw, rfl, by rw [eL]; exact S4.F, fun p hp => ?_, fun p hp q hq => ?_, ?_, ih (i + 1) m3 nw (by omega) hJ4⟩
    · rw [eL]
      rcases List.mem_append.mp hp with hp | hp
      · rw [List.mem_singleton.mp hp]
        exact ⟨g1, (S3.cs _ (.head _)).choose_spec.2.2⟩
      · exact hnw p hp
    · rw [List.mem_singleton.mp hq]
      exact off4 p hp
    · exact subL_of fun p hp => hsub p (hs3 p (hR p (hkeep p hp)))
/-- for x in a tuple -/
theorem forT_run {ds : List Dat} {m : Str → Option Value} {R : Led} {s : Shared} {Q : Flow → Shared → Prop} (S : St C m M R s) (hΓ : EnvOk C m R Γ) (hC : Fm C sc) (hk : sc.names.lookup x = some .local) (hs : ∀ env x, foldedSetIterable iter env x = pure x) (hz : ds.length ≤ 24) (h : Ev C Γ M iter (.d (.tuple ds))) (J : Nat → Tys → Cells → Prop) (h0 : J 0 Γ M)
    (turn : ∀ (I : Addr) (oI : Obj) (i : Nat) (d : Dat) (Γ' : Tys) (M' : Cells), ds[i]? = some d → J i Γ' M' → Sx C ((x, .d d) :: Γ') ((I, .raw oI) :: M') body (fun Γ2 M2 => ∃ M3, M2 = (I, .raw oI) :: M3 ∧ J (i + 1) Γ2 M3) (fun _ _ => False))
    (fin : ∀ m' Γ' M' R' h tk, St C m' M' R' (upS s h tk) → (∀ p ∈ R, p ∈ R') → EnvOk C m' R' Γ' → J ds.length Γ' M' → Q .next (upS s h tk)) : wpAny (PM w) C.A (exec (.For (.Name x px) iter body [] pos) C.env) Q (fun _ _ => False) s := by
  have eL : C.env.locals = C.L := C.hV1 hC.v
  refine For_turns (h₀ := C.h₀) (m := m) (by rw [eL]; exact S.F) (h.run m R s _ _ S hΓ fun v h' tk R' S' hs' hD => ?_) (hs _) PassesOwn.never
  have hD : DatIn (C.G ++ R') v (.tuple ds) := hD
  cases hD with
  | @tuple ax vs n _ hm hr =>
  have hl : vs.length = ds.length := hr.length
  have go : ∀ I keep nw, News C.h₀ C.L h' nw → ForJ C I R' J 0 m nw → (∀ p ∈ keep, p ∈ R') → ItemsRest row.row.prog w C.A (fun _ _ => False) C.h₀ C.env (.Name x px) body Q (upS s h' tk) [(I, "tuple_iterator")] keep (vs.map .val) m nw := fun I keep nw hnw hJ hkeep => by
    have key := items_go (Q := Q) (px := px) (s := upS s h' tk) (xs := vs.map .val) (ts := ds.map .d) (ic := "tuple_iterator") (R₀ := R') (I := I) (x := x) (body := body) (keep := keep) J hC hk (by simp [hl]) (fun i a t ha ht v _ hv => by
      rw [List.getElem?_map] at ha ht
      cases e : vs[i]? with
      | none => rw [e] at ha; cases ha
      | some u =>
        rw [e] at ha
        cases ha
        have hv : v = u := hv
        subst hv
        obtain ⟨d, h1, h2⟩ := dat_at hr e
        rw [h1] at ht
        cases ht
        exact h2) hkeep (fun i t Γ' M' oI ht hJ => by
      rw [List.getElem?_map] at ht
      cases e : ds[i]? with
      | none => rw [e] at ht; cases ht
      | some d =>
        rw [e] at ht
        cases ht
        exact turn I oI i d Γ' M' e hJ) (fun m Γ' M' R2 h2 tk2 S2 hs2 hΓ2 hJ => by
      rw [List.length_map] at hJ
      exact fin m Γ' M' R2 h2 tk2 S2 (fun q hq => hs2 q (hs' q hq)) hΓ2 hJ) (ds.map Ent.d).length 0 m nw (Nat.zero_add _) hJ
    exact (by simpa using key)
  obtain ⟨os, No, hos, he⟩ := S'.cs.led
  have Nn : News C.h₀ C.L h' (os ++ R') := fun p hp => (List.mem_append.mp hp).elim (No p) (S'.N p)
  have hJ0 : ∀ I, (∀ p ∈ os ++ R', p.1 < I) → ForJ C I R' J 0 m (os ++ R') := fun I hI => ⟨Γ, M, R', os, rfl, fun _ h => h, hos, he, S'.nd, S'.off, fun p hp e => by have := hI p hp; rw [e] at this; exact Nat.lt_irrefl _ this, hΓ.mono hs', h0⟩
  rcases List.mem_append.mp hm with hg | hg
  · refine iter_tupK (lo := { cls := .type "tuple", data := .seq vs.toArray n }) (K := [(ax, { cls := .type "tuple", data := .seq vs.toArray n })]) (news := os ++ R') (m₀ := m) rfl (by rw [eL]; exact S'.F) (by rw [eL]; exact Nn) (fun b o e => ?_) (by simp) rfl rfl (by omega) fun I hI => go I [] _ Nn (hJ0 I hI) (fun _ h => nomatch h)
    simp only [List.lookup] at e
    split at e
    · rename_i q; cases e; rw [beq_iff_eq.mp q]; exact C.hG _ hg
    · cases e
  · exact iter_tupTurns (news := os ++ R') (m₀ := m) rfl (by rw [eL]; exact S'.F) (by rw [eL]; exact Nn) (List.mem_append.mpr (.inr hg)) rfl rfl fun I hI => go I _ _ Nn (hJ0 I hI) (fun p hp => by rw [List.mem_singleton.mp hp]; exact hg)
theorem sx_forT {ds : List Dat} (hC : Fm C sc) (hk : sc.names.lookup x = some .local) (hs : ∀ env x, foldedSetIterable iter env x = pure x) (hz : ds.length ≤ 24) (h : Ev C Γ M iter (.d (.tuple ds))) (J : Nat → Tys → Cells → Prop) (h0 : J 0 Γ M)
    (turn : ∀ (I : Addr) (oI : Obj) (i : Nat) (d : Dat) (Γ' : Tys) (M' : Cells), ds[i]? = some d → J i Γ' M' → Sx C ((x, .d d) :: Γ') ((I, .raw oI) :: M') body (fun Γ2 M2 => ∃ M3, M2 = (I, .raw oI) :: M3 ∧ J (i + 1) Γ2 M3) (fun _ _ => False))
    (r : ∀ Γ' M', J ds.length Γ' M' → Sx C Γ' M' rest N PP) : Sx C Γ M (.For (.Name x px) iter body [] pos :: rest) N PP := .mk <| fun m R s Q S hΓ nx ret =>
  wpAny_execs_cons (forT_run S hΓ hC hk hs hz h J h0 turn fun m' Γ' M' R' h tk S' hs' hΓ' hJ => (r Γ' M' hJ).run m' R' _ Q S' hΓ' (fun m' h tk R'' Γ' M' S3 hs3 => nx m' h tk R'' Γ' M' S3 fun q hq => hs3 q (hs' q hq)) fun v m' h tk R'' M' t S3 hs3 => ret v m' h tk R'' M' t S3 fun q hq => hs3 q (hs' q hq))
end Mine
namespace Mine
open PySem PySem.W PyProof.Rows PySem.Spec PySem.Calls
set_option linter.all false
section
variable {prog : Program} {w : World} {A : Around} {E : Value → Shared → Prop} {s : Shared} {h₀ : Heap} {env : Env} {body : List Stmt} {Q : Flow → Shared → Prop}
theorem iter_rangeT {x : Str} {px : Pos} {r : Addr} {b : Int} {t u v : Tok} {n : Nat} {m₀ : Str → Option Value} {news : List (Addr × Obj)}
    (hh : A.handled = none) (F : Fr h₀ env.locals s.heap m₀) (N : News h₀ env.locals s.heap news) (hr : IsRange s.heap r 0 b 1 t u v) (hsm : Builtin.Range.small 0 b 1 = true) (hn : Builtin.Range.rangeSize 0 b 1 = ((n : Nat) : Int))
    (rest₀ : ∀ I : Addr, (∀ p ∈ news, p.1 < I) → ItemsRest prog w A E h₀ env (.Name x px) body Q s [(I, "range_iterator")] [] ((List.range n).map fun i => Itm.tok fun t => .int (i : Nat) t) m₀ news) :
    wpAny (model prog w) A (pyIter (.ref r)) (fun it s₂ => TurnsAt prog w A h₀ env (.Name x px) body Q E it s₂) E s := by
  refine wpAny_pyIter_range hr hsm ?_
  refine ktu_core (tk0 := s.toks) (keep := []) (KTurns.ofWalks (LCg.range_walks hh 0 n (I := s.heap.objs.size)).bound fun i v s Q E _ q => wpAny_pure q) (by simp) (fun i v h hp => ?_) (fun i h st => ?_) (fun b hb => ?_) (fun b hb => by simpa using hb) (fun b hb => ?_) ?_ (fun p hp hI => ?_) ?_ (F.push _) (fun p hp => ⟨Heap.get?_push_of_some _ (N p hp).1, (N p hp).2⟩) trivial (rest₀ _ fun p hp => Heap.lt_size (N p hp).1)
  · obtain ⟨hi, t', rfl⟩ := hp
    exact ⟨Itm.tok fun t => .int (i : Nat) t, by simp [hi], t', by rw [Int.zero_add]⟩
  · have st' : h.get? s.heap.objs.size = some _ := st
    exact ⟨[(s.heap.objs.size, _)], ⟨⟨rfl, rfl⟩, trivial⟩, fun p hp => by rw [List.mem_singleton.mp hp]; exact st'⟩
  · have hb' : b = s.heap.objs.size := by simpa using hb
    rw [hb']
    exact ⟨List.mem_cons_self .., next_is_new F⟩
  · exact .inl (by simpa using hb)
  · intro hI
    exact absurd F.ns.lt ((List.mem_singleton.mp hI) ▸ Nat.lt_irrefl _)
  · exact absurd (Heap.lt_size (N p hp).1) ((List.mem_singleton.mp hI) ▸ Nat.lt_irrefl _)
  · show (s.heap.push _).get? s.heap.objs.size = some _
    rw [hn]
    simpa using Heap.get?_push_size _ rfl
end
theorem range_nat {k : Nat} (h : k ≤ 24) : Builtin.Range.small 0 (k : Int) 1 = true ∧ Builtin.Range.rangeSize 0 (k : Int) 1 = (k : Int) := by
  refine ⟨small_one (by decide) (by decide) (by omega) (by omega), ?_⟩
  rw [rangeSize_one]
  split <;> omega
variable {w : World} {C : Cx w} {Γ Γ' : Tys} {M M' : Cells} {pos p p2 px : Pos} {sc : Scope} {rest body : List Stmt} {N : Tys → Cells → Prop} {PP : Ent → Cells → Prop} {x : Str}
/-- a number of which B holds -/
def Num (B : Nat → Prop) (t : Ent) : Prop := ∃ k : Nat, t = .d (.int k) ∧ B k
abbrev Below_ (n : Nat) : Ent → Prop := Num (· < n)
/-- range(e), made -/
theorem range_run {e : PySem.Expr} {B : Nat → Prop} {m : Str → Option Value} {R : Led} {s : Shared} {Q E : Value → Shared → Prop} (S : St C m M R s) (hΓ : EnvOk C m R Γ) (hC : C.env.scope = sc) (hb' : C.env.builtins = builtinsNs) (hk : sc.names.lookup (Str.ofString "range") = some .globalImplicit) (hx : nsIn (KK w.params) mainGlobals (Str.ofString "range") = some none) (hb : bootBuiltins (Str.ofString "range") = some (.type "range"))
    (hn : Str.ofString "range" ≠ Str.ofString "__name__") (hd' : (Str.ofString "range" == Str.ofString "__debug__") = false) (hs : ∀ env, starEach [e] env = [(false, eval e env)]) (h : EvP C Γ M e (Num B))
    (ret : ∀ (k : Nat) h' tk R' r t₁ u₁ v₁, B k → IsRange h' r 0 (k : Int) 1 t₁ u₁ v₁ → St C m M R' (upS s h' tk) → (∀ p ∈ R, p ∈ R') → (∀ p ∈ R', p.1 ≠ r) → r ∉ M.map (·.1) → C.h₀.get? r = none → r ≠ C.L → Q (.ref r) (upS s h' tk)) : wpAny (PM w) C.A (eval (.Call (.Name (Str.ofString "range") p) [e] [] pos) C.env) Q E s := by
  refine Call_ (nameG_B S.F C.X (topRead_of C.T) hx hb hn ?_ C.hE hb' C.hkE (kind_at hC hk) hd')
  refine PyProof.Rows.callWith_type1 ?_ (hs _)
  refine spliced_more (h.run m R s _ E S hΓ fun v h' tk R' t S' hs' hD hP => spliced_none ?_) (hs _)
  obtain ⟨k, rfl, hk⟩ := hP
  have hD : DatIn (C.G ++ R') v (.int k) := hD
  cases hD with
  | int _ tk0 =>
  obtain ⟨os, No, hos, he⟩ := S'.cs.led
  have new : ∀ b o, h'.get? b = some o → b ≠ h'.objs.size := fun b o e => Nat.ne_of_lt (Heap.lt_size e)
  refine range1_rows (news := os ++ R') S'.F (fun p hp => (List.mem_append.mp hp).elim (No p) (S'.N p)) fun h2 tk2 t₁ u₁ v₁ hr F2 N2 kp => ?_
  refine ret k h2 tk2 R' h'.objs.size t₁ u₁ v₁ hk hr ⟨F2, fun p hp => N2 p (List.mem_append.mpr (.inr hp)), .of (fun p hp => N2 p (List.mem_append.mpr (.inl hp))) (fun _ h => h) hos, S'.nd, S'.off⟩ hs' (fun p hp => new _ _ (S'.N p hp).1) (fun hm => ?_) ?_ ?_
  · obtain ⟨q, hq, e⟩ := List.mem_map.mp hm
    obtain ⟨o, _, h3, _⟩ := S'.cs q hq
    exact new _ _ h3 e
  · cases e : C.h₀.get? h'.objs.size with
    | none => rfl
    | some o => exact absurd rfl (new _ _ (S'.F.keep _ _ e))
  · intro e
    have := S'.F.ns.lt
    rw [← e] at this
    exact Nat.lt_irrefl _ this
/-- for x in range(e) -/
theorem sx_forR {e : PySem.Expr} {B : Nat → Prop} (hC : Fm C sc) (hk : sc.names.lookup x = some .local) (hkr : sc.names.lookup (Str.ofString "range") = some .globalImplicit) (hx : nsIn (KK w.params) mainGlobals (Str.ofString "range") = some none) (hb : bootBuiltins (Str.ofString "range") = some (.type "range"))
    (hn : Str.ofString "range" ≠ Str.ofString "__name__") (hd' : (Str.ofString "range" == Str.ofString "__debug__") = false) (hs : ∀ env, starEach [e] env = [(false, eval e env)]) (hf : ∀ env x, foldedSetIterable (.Call (.Name (Str.ofString "range") p) [e] [] p2) env x = pure x) (hz : ∀ k, B k → k ≤ 24) (h : EvP C Γ M e (Num B)) (J : Nat → Tys → Cells → Prop) (h0 : J 0 Γ M)
    (turn : ∀ (I : Addr) (oI : Obj) (i : Nat) (Γ' : Tys) (M' : Cells), (∃ k, B k ∧ i < k) → J i Γ' M' → Sx C ((x, .d (.int i)) :: Γ') ((I, .raw oI) :: M') body (fun Γ2 M2 => ∃ M3, M2 = (I, .raw oI) :: M3 ∧ J (i + 1) Γ2 M3) (fun _ _ => False))
    (r : ∀ (k : Nat) Γ' M', B k → J k Γ' M' → Sx C Γ' M' rest N PP) : Sx C Γ M (.For (.Name x px) (.Call (.Name (Str.ofString "range") p) [e] [] p2) body [] pos :: rest) N PP := .mk <| fun m R s Q S hΓ nx ret => by
  have eL : C.env.locals = C.L := C.hV1 hC.v
  have main : ∀ (Q : Flow → Shared → Prop), (∀ (k : Nat) m' Γ' M' R' h tk, B k → St C m' M' R' (upS s h tk) → (∀ p ∈ R, p ∈ R') → EnvOk C m' R' Γ' → J k Γ' M' → Q .next (upS s h tk)) → wpAny (PM w) C.A (exec (.For (.Name x px) (.Call (.Name (Str.ofString "range") p) [e] [] p2) body [] pos) C.env) Q (fun _ _ => False) s := fun Q fin => by
    refine For_turns (h₀ := C.h₀) (m := m) (by rw [eL]; exact S.F) (range_run S hΓ hC.s (by rw [hC.e]) hkr hx hb hn hd' hs h fun k h' tk R' r t₁ u₁ v₁ hkn hr S' hs' _ _ _ _ => ?_) (hf _) PassesOwn.never
    obtain ⟨hsm, hsz⟩ := range_nat (k := k) (hz k hkn)
    obtain ⟨os, No, hos, he⟩ := S'.cs.led
    have Nn : News C.h₀ C.L h' (os ++ R') := fun p hp => (List.mem_append.mp hp).elim (No p) (S'.N p)
    refine iter_rangeT (news := os ++ R') (m₀ := m) rfl (by rw [eL]; exact S'.F) (by rw [eL]; exact Nn) hr hsm hsz fun I hI => ?_
    have hJ : ForJ C I R' J 0 m (os ++ R') := ⟨Γ, M, R', os, rfl, fun _ h => h, hos, he, S'.nd, S'.off, fun p hp e => by have := hI p hp; rw [e] at this; exact Nat.lt_irrefl _ this, hΓ.mono hs', h0⟩
    have key := items_go (Q := Q) (px := px) (s := upS s h' tk) (xs := (List.range k).map fun i => Itm.tok fun t => .int (i : Nat) t) (ts := (List.range k).map fun i => .d (.int (i : Nat))) (ic := "range_iterator") (R₀ := R') (I := I) (x := x) (body := body) (keep := []) J hC hk (by simp) (fun i a t ha ht v _ hv => by
      rw [List.getElem?_map] at ha ht
      cases e : (List.range k)[i]? with
      | none => rw [e] at ha; cases ha
      | some u =>
        rw [e] at ha ht
        cases ha
        cases ht
        obtain ⟨t, rfl⟩ := hv
        exact .int _ _) (fun _ h => nomatch h) (fun i t Γ' M' oI ht hJ => by
      rw [List.getElem?_map] at ht
      cases e : (List.range k)[i]? with
      | none => rw [e] at ht; cases ht
      | some u =>
        rw [e] at ht
        cases ht
        have hi := (List.getElem?_eq_some_iff.mp e).1
        have hu := (List.getElem?_eq_some_iff.mp e).2
        rw [List.length_range] at hi
        rw [List.getElem_range] at hu
        subst hu
        exact turn I oI i Γ' M' ⟨k, hkn, hi⟩ hJ) (fun m Γ' M' R2 h2 tk2 S2 hs2 hΓ2 hJ => by
      rw [List.length_map, List.length_range] at hJ
      exact fin k m Γ' M' R2 h2 tk2 hkn S2 (fun q hq => hs2 q (hs' q hq)) hΓ2 hJ) ((List.range k).map fun i => Ent.d (.int (i : Nat))).length 0 m _ (Nat.zero_add _) hJ
    exact (by simpa using key)
  exact wpAny_execs_cons (main _ fun k m' Γ' M' R' h tk hkn S' hs' hΓ' hJ => (r k Γ' M' hkn hJ).run m' R' _ Q S' hΓ' (fun m' h tk R'' Γ' M' S3 hs3 => nx m' h tk R'' Γ' M' S3 fun q hq => hs3 q (hs' q hq)) fun v m' h tk R'' M' t S3 hs3 => ret v m' h tk R'' M' t S3 fun q hq => hs3 q (hs' q hq))
end Mine
namespace Mine
open PySem PySem.W PyProof.Rows PySem.Spec PySem.Calls
set_option linter.all false
variable {w : World} {C : Cx w} {Γ Γ' : Tys} {M M' : Cells} {pos p p2 px : Pos} {sc : Scope} {rest body orelse : List Stmt} {N : Tys → Cells → Prop} {PP : Ent → Cells → Prop} {x : Str} {e e1 e2 : PySem.Expr} {es : List PySem.Expr} {P P1 P2 : Ent → Prop} {Ps : List (Ent → Prop)} {t : Ent}
theorem evp_mono (h : EvP C Γ M e P1) (hP : ∀ t, P1 t → P t) : EvP C Γ M e P := .mk <| fun m R s Q E S hΓ ret => h.run m R s Q E S hΓ fun v h' tk R' t S' hs' hD k => ret v h' tk R' t S' hs' hD (hP t k)
/-- an operator on data -/
def Bin (w : World) (op : Operator) (d e r : Dat) : Prop := ∀ (A : Around) (s : Shared) (nw : Led) (u v : Value) (Q E : Value → Shared → Prop), DatIn nw u d → DatIn nw v e → (∀ x tk, DatIn nw x r → Q x (upS s s.heap tk)) → wpAny (PM w) A (binaryOp op u v) Q E s
theorem bin_add_int (i j : Int) : Bin w .Add (.int i) (.int j) (.int (i + j)) := fun A s nw u v Q E hu hv ret => by
  cases hu; cases hv; exact add_int (ret _ _ (.int _ _))
theorem bin_add_str {x y : Str} (h : x.length + y.length ≤ sizeLine) : Bin w .Add (.str x) (.str y) (.str (x ++ y)) := fun A s nw u v Q E hu hv ret => by
  cases hu; cases hv; exact add_str (fun t' tk => ret _ tk (.str _ _)) h
theorem evp_bin {op : Operator} (h1 : EvP C Γ M e1 P1) (h2 : EvP C Γ M e2 P2) (b : ∀ t1 t2, P1 t1 → P2 t2 → ∃ d1 d2 d, t1 = .d d1 ∧ t2 = .d d2 ∧ Bin w op d1 d2 d ∧ P (.d d)) : EvP C Γ M (.BinOp e1 op e2 pos) P := .mk <| fun m R s Q E S hΓ ret =>
  wpAny_BinOp (h1.run m R s _ E S hΓ fun v h' tk R' t1 S' hs' hD k1 => h2.run m R' _ _ E S' (hΓ.mono hs') fun v2 h2' tk2 R2 t2 S2 hs2 hD2 k2 => by
    obtain ⟨d1, d2, d, rfl, rfl, hb, hP⟩ := b t1 t2 k1 k2
    exact hb _ _ _ _ _ _ _ (DatIn.mono (up_mono hs2) hD) hD2 fun x tk hx => ret x _ tk R2 (.d d) (S2.toks tk) (fun q hq => hs2 q (hs' q hq)) hx hP)
theorem ev_bin {op : Operator} {d1 d2 d : Dat} (b : Bin w op d1 d2 d) (h1 : Ev C Γ M e1 (.d d1)) (h2 : Ev C Γ M e2 (.d d2)) : Ev C Γ M (.BinOp e1 op e2 pos) (.d d) :=
  ev_of (evp_bin (evp_of (P := fun u => u = .d d1) h1 rfl) (evp_of (P := fun u => u = .d d2) h2 rfl) fun _ _ k1 k2 => ⟨d1, d2, d, k1, k2, b, rfl⟩)
theorem wp_newList {m : Str → Option Value} {R : Led} {s : Shared} {vs : List Value} {Q E : Value → Shared → Prop} (S : St C m M R s) (hz : vs.length ≤ 24) (ret : ∀ D h', St C m M ((D, W.listOf vs.toArray 0) :: R) (upS s h' s.toks) → Q (.ref D) (upS s h' s.toks)) : wpAny (PM w) C.A (newList vs) Q E s := by
  obtain ⟨os, No, hc, he⟩ := S.cs.led
  refine newList_K (news := os ++ R) S.F (fun p hp => (List.mem_append.mp hp).elim (No p) (S.N p)) (fun l h' F N' lt => ?_) (by rw [sizeLine_eq]; omega)
  refine ret l h' ⟨F, fun p hp => ?_, .of (fun p hp => N' p (.tail _ (List.mem_append.mpr (.inl hp)))) (up_mono fun p hp => .tail _ hp) hc, S.nd, fun p hp hm => ?_⟩
  · rcases List.mem_cons.mp hp with rfl | hp
    · exact N' _ (.head _)
    · exact N' p (.tail _ (List.mem_append.mpr (.inr hp)))
  · rcases List.mem_cons.mp hp with rfl | hp
    · rw [← he] at hm
      obtain ⟨q, hq, e⟩ := List.mem_map.mp hm
      have := lt q (List.mem_append.mpr (.inl hq))
      rw [show q.1 = l from e] at this
      exact Nat.lt_irrefl _ this
    · exact S.off p hp hm
/-- all are data -/
theorem entAll_len {nw : Led} {vs : List Value} {ds : List Dat} (h : EntAll nw vs (ds.map .d)) : vs.length = ds.length := by rw [h.len, List.length_map]
/-- [e, ..] -/
theorem evp_list (hz : es.length ≤ 24) (h : EvAllP C Γ M es Ps) (hP : ∀ ts, AllP Ps ts → ∃ ds : List Dat, ts = ds.map .d ∧ ds.length ≤ 24 ∧ P (.d (.list ds))) : EvP C Γ M (.List es pos) P := .mk <| fun m R s Q E S hΓ ret => by
  refine List_ (h.run pos m R s _ E S hΓ fun vs h' tk R' ts S' hs hD k => ?_)
  obtain ⟨ds, rfl, hl, hP⟩ := hP ts k
  refine wp_newList S' (by rw [entAll_len hD]; exact hl) fun D h2 S2 => ?_
  exact ret _ h2 _ _ (.d (.list ds)) ⟨S2.F, S2.N, S2.cs, S2.nd, S2.off⟩ (fun q hq => .tail _ (hs q hq)) (DatIn.list (List.mem_append.mpr (.inr (.head _))) (hD.dats.mono (up_mono fun p hp => .tail _ hp))) hP
theorem ev_list {ds : List Dat} (hz : ds.length ≤ 24) (h : EvAll C Γ M es (ds.map .d)) : Ev C Γ M (.List es pos) (.d (.list ds)) := .mk <| fun m R s Q E S hΓ ret => by
  refine List_ (h.run pos m R s _ E S hΓ fun vs h' tk R' S' hs hD => ?_)
  refine wp_newList S' (by rw [entAll_len hD]; exact hz) fun D h2 S2 => ?_
  exact ret _ h2 _ _ ⟨S2.F, S2.N, S2.cs, S2.nd, S2.off⟩ (fun q hq => .tail _ (hs q hq)) (DatIn.list (List.mem_append.mpr (.inr (.head _))) (hD.dats.mono (up_mono fun p hp => .tail _ hp)))
/-- (e, ..) with draws -/
theorem evp_tuple {k : Nat} (h : EvAllP C Γ M es Ps) (hP : ∀ ts, AllP Ps ts → ∃ ds : List Dat, ts = ds.map .d ∧ ds.length ≤ 24 ∧ P (.d (.tuple ds))) : EvP C Γ M (.Tuple es k pos) P := .mk <| fun m R s Q E S hΓ ret => by
  refine Tuple_ (h.run pos m R s _ E S hΓ fun vs h' tk R' ts S' hs hD k => ?_)
  obtain ⟨ds, rfl, hl, hP⟩ := hP ts k
  have hD := hD.dats
  refine newTuple_NK S'.F S'.N (fun h'' F N' kp => ?_) (by rw [hD.length, sizeLine_eq]; omega)
  refine ret _ h'' tk _ (.d (.tuple ds)) (S'.new (D := h'.objs.size) (o := { cls := .type "tuple", data := .seq vs.toArray }) (fun os N2 => ?_) (Nat.le_refl _) F tk) (fun p hp => .tail _ (hs p hp)) (DatIn.tuple (List.mem_append.mpr (.inr (.head _))) (hD.mono (up_mono fun p hp => .tail _ hp))) hP
  intro p hp
  rcases List.mem_cons.mp hp with rfl | hp
  · exact N' _ (.head _)
  · exact ⟨kp _ _ (N2 p hp).1, (N2 p hp).2⟩
/-- the item of a list of data -/
theorem dat_get {nw : Led} {vs : List Value} {ds : List Dat} (h : DatAll nw vs ds) {j : Nat} {d : Dat} (hd : ds[j]? = some d) : ∃ v, vs[j]? = some v ∧ DatIn nw v d := by
  have hl : j < ds.length := (List.getElem?_eq_some_iff.mp hd).1
  have hv : j < vs.length := by rw [h.length]; exact hl
  obtain ⟨d', h1, h2⟩ := dat_at h (List.getElem?_eq_getElem hv)
  rw [hd] at h1
  cases h1
  exact ⟨_, List.getElem?_eq_getElem hv, h2⟩
/-- e[i], a list -/
theorem evp_idx (h1 : EvP C Γ M e1 P1) (h2 : EvP C Γ M e2 P2) (hs : ∀ o i u, subscripted e2 false o (.int i u) = operate [o, .int i u] (getItem o (.int i u)))
    (b : ∀ t1 t2, P1 t1 → P2 t2 → ∃ (ds : List Dat) (i : Int) (j : Nat) (d : Dat), t1 = .d (.list ds) ∧ t2 = .d (.int i) ∧ -100 < i ∧ i < 100 ∧ seqIndex? i ds.length = some j ∧ ds[j]? = some d ∧ P (.d d)) : EvP C Γ M (.Subscript e1 e2 pos) P := .mk <| fun m R s Q E S hΓ ret => by
  refine Subscript_ (h1.run m R s _ E S hΓ fun v h' tk R' t1 S' hs' hD k1 => h2.run m R' _ _ E S' (hΓ.mono hs') fun v2 h2' tk2 R2 t2 S2 hs2 hD2 k2 => ?_)
  obtain ⟨ds, i, j, d, rfl, rfl, hi, hi2, hj, hd, hP⟩ := b t1 t2 k1 k2
  have hD : DatIn (C.G ++ R') v (.list ds) := hD
  have hD2 : DatIn (C.G ++ R2) v2 (.int i) := hD2
  cases hD2 with
  | int _ u =>
  cases hD with
  | @list l vs n _ hm hr =>
  obtain ⟨x, hx, hxd⟩ := dat_get hr hd
  have hlen := hr.length
  have hl : h2'.get? l = some (W.listOf vs.toArray n) := S2.reads _ (up_mono hs2 _ hm)
  have hl' : h2'.IsList l vs.toArray := ⟨_, hl, rfl, n, rfl⟩
  have fin : Q x (upS s h2' tk2) := ret x h2' tk2 R2 (.d d) ⟨S2.F, S2.N, S2.cs, S2.nd, S2.off⟩ (fun q hq => hs2 q (hs' q hq)) (DatIn.mono (up_mono hs2) hxd) hP
  by_cases h0 : 0 ≤ i
  · refine item_litK hl' h0 (by omega) (v := x) ?_ fin (hs _ _ _)
    have : j = i.toNat := by
      simp only [seqIndex?] at hj
      simp at hj
      omega
    rw [← this]; exact hx
  · exact kde_neg hl' (by omega) (by omega) (by rw [hlen]; exact hj) hx fin (hs _ _ _)
theorem ev_idx {ds : List Dat} {i : Int} {j : Nat} {d : Dat} (h1 : Ev C Γ M e1 (.d (.list ds))) (h2 : Ev C Γ M e2 (.d (.int i))) (hs : ∀ o i u, subscripted e2 false o (.int i u) = operate [o, .int i u] (getItem o (.int i u))) (hi : -100 < i) (hi2 : i < 100) (hj : seqIndex? i ds.length = some j) (hd : ds[j]? = some d) : Ev C Γ M (.Subscript e1 e2 pos) (.d d) :=
  ev_of (evp_idx (evp_of (P := fun u => u = .d (.list ds)) h1 rfl) (evp_of (P := fun u => u = .d (.int i)) h2 rfl) hs fun _ _ k1 k2 => ⟨ds, i, j, d, k1, k2, hi, hi2, hj, hd, rfl⟩)
/-- a menu: [e, ..][draw] -/
theorem evp_menu {n : Nat} (hl : es.length = n) (hn : n ≤ 24) (h1 : EvAllP C Γ M es Ps) (h2 : EvP C Γ M e2 (Below_ n)) (hs : ∀ o i u, subscripted e2 false o (.int i u) = operate [o, .int i u] (getItem o (.int i u)))
    (hP : ∀ ts, AllP Ps ts → ∃ ds : List Dat, ts = ds.map .d ∧ ds.length = n ∧ ∀ d ∈ ds, P (.d d)) : EvP C Γ M (.Subscript (.List es p) e2 pos) P := by
  refine evp_idx (P1 := fun t => ∃ ds : List Dat, t = .d (.list ds) ∧ ds.length = n ∧ ∀ d ∈ ds, P (.d d)) (evp_list (by omega) h1 fun ts k => ?_) h2 hs fun t1 t2 k1 k2 => ?_
  · obtain ⟨ds, h1, h2, h3⟩ := hP ts k
    exact ⟨ds, h1, by omega, ds, rfl, h2, h3⟩
  · obtain ⟨ds, h1, h2, h3⟩ := k1
    obtain ⟨k, h4, h5⟩ := k2
    have h5 : k < n := h5
    have hk : k < ds.length := by omega
    refine ⟨ds, k, k, ds[k], h1, h4, by omega, by omega, ?_, List.getElem?_eq_getElem hk, h3 _ (List.getElem_mem hk)⟩
    simp only [seqIndex?]
    simp
    omega
/-- a test whose outcome is drawn -/
structure TstP (C : Cx w) (Γ : Tys) (M : Cells) (e : PySem.Expr) (P : Bool → Prop) : Prop where
  run : ∀ (m : Str → Option Value) (R : Led) (s : Shared) (Q : Bool → Shared → Prop) (E : Value → Shared → Prop), St C m M R s → EnvOk C m R Γ →
    (∀ b h tk R', St C m M R' (upS s h tk) → (∀ p ∈ R, p ∈ R') → P b → Q b (upS s h tk)) → wpAny (PM w) C.A (PySem.isTrue e C.env (eval e C.env)) Q E s
variable {PB : Bool → Prop} {op : CmpOp}
theorem tstp_cmp (hb : behindInMarks op e2 = false) (hz : 8 ≤ C.sz) (h1 : EvP C Γ M e1 P1) (h2 : EvP C Γ M e2 P2) (b : ∀ t1 t2, P1 t1 → P2 t2 → ∃ d1 d2 b, t1 = .d d1 ∧ t2 = .d d2 ∧ Cmp w op d1 d2 b ∧ PB b) : TstP C Γ M (.Compare e1 [op] [e2] pos) PB := .mk <| fun m R s Q E S hΓ ret =>
  wpAny_isTrue_Compare1 (h1.run m R s _ E S hΓ fun v h' tk R' t1 S' hs' hD k1 => h2.run m R' _ _ E S' (hΓ.mono hs') fun v2 h2' tk2 R2 t2 S2 hs2 hD2 k2 => by
    obtain ⟨d1, d2, b, rfl, rfl, c, hP⟩ := b t1 t2 k1 k2
    exact c _ _ _ _ _ _ _ S2.reads (DatIn.mono (up_mono hs2) hD) hD2 (by have := C.hu; show C.un + 64 < cLine; omega) (wpAny_truthy_bool (ret b h2' tk2 R2 S2 (fun q hq => hs2 q (hs' q hq)) hP))) hb
theorem tstp_of {b : Bool} (h : Tst C Γ M e b) (hP : PB b) : TstP C Γ M e PB := .mk <| fun m R s Q E S hΓ ret => h.run m R s Q E S hΓ fun h' tk R' S' hs' => ret b h' tk R' S' hs' hP
theorem evp_if {c : PySem.Expr} (hc : TstP C Γ M c PB) (hT : PB true → EvP C Γ M e1 P) (hF : PB false → EvP C Γ M e2 P) : EvP C Γ M (.IfExp c e1 e2 pos) P := .mk <| fun m R s Q E S hΓ ret =>
  IfExp_ (hc.run m R s _ E S hΓ fun b h' tk R' S' hs' hP => by
    cases b with
    | true => rw [if_pos rfl]; exact (hT hP).run m R' _ Q E S' (hΓ.mono hs') fun v2 h2 tk2 R2 t S2 hs2 => ret v2 h2 tk2 R2 t S2 fun q hq => hs2 q (hs' q hq)
    | false => rw [if_neg Bool.false_ne_true]; exact (hF hP).run m R' _ Q E S' (hΓ.mono hs') fun v2 h2 tk2 R2 t S2 hs2 => ret v2 h2 tk2 R2 t S2 fun q hq => hs2 q (hs' q hq))
theorem sx_ifP {c : PySem.Expr} {N' : Tys → Cells → Prop} (hc : TstP C Γ M c PB) (hT : PB true → Sx C Γ M body N' PP) (hF : PB false → Sx C Γ M orelse N' PP) (r : ∀ Γ' M', N' Γ' M' → Sx C Γ' M' rest N PP) : Sx C Γ M (.If c body orelse pos :: rest) N PP := .mk <| fun m R s Q S hΓ nx ret =>
  wpAny_execs_cons (wpAny_If (hc.run m R s _ _ S hΓ fun b h' tk R' S' hs' hP => by
    have go : ∀ b, Sx C Γ M b N' PP → wpAny (PM w) C.A (execs b C.env) (fun f s' => match f with | .next => wpAny (PM w) C.A (execs rest C.env) Q (fun _ _ => False) s' | f => Q f s') (fun _ _ => False) (upS s h' tk) := fun b h => sx_then h r m R' _ Q S' (hΓ.mono hs') (fun m2 h2 tk2 R2 Γ2 M2 S2 hs2 => nx m2 h2 tk2 R2 Γ2 M2 S2 fun q hq => hs2 q (hs' q hq)) fun v m2 h2 tk2 R2 M2 t S2 hs2 => ret v m2 h2 tk2 R2 M2 t S2 fun q hq => hs2 q (hs' q hq)
    cases b with
    | true => rw [if_pos rfl]; exact wpAny_mono (go _ (hT hP)) (fun f s' x => by cases f <;> exact x) fun _ _ x => x
    | false => rw [if_neg Bool.false_ne_true]; exact wpAny_mono (go _ (hF hP)) (fun f s' x => by cases f <;> exact x) fun _ _ x => x))
theorem cmp_lt_int (i j : Int) : Cmp w .Lt (.int i) (.int j) (decide (i < j)) := fun A s nw u v Q E R hu hv hl q => by
  cases hu; cases hv; exact lt_int q
theorem cmp_gt_int (i j : Int) : Cmp w .Gt (.int i) (.int j) (decide (j < i)) := fun A s nw u v Q E R hu hv hl q => by
  cases hu; cases hv; exact gt_int q
theorem cmp_le_int (i j : Int) : Cmp w .LtE (.int i) (.int j) (decide (i ≤ j)) := fun A s nw u v Q E R hu hv hl q => by
  cases hu; cases hv; exact PyProof.Rows.le_int q
theorem cmp_ge_int (i j : Int) : Cmp w .GtE (.int i) (.int j) (decide (j ≤ i)) := fun A s nw u v Q E R hu hv hl q => by
  cases hu; cases hv; exact PyProof.Rows.ge_int q
end Mine
namespace Mine
open PySem PySem.W PyProof.Rows PySem.Spec PySem.Calls
set_option linter.all false
variable {w : World}
/-- the names stand in the wider list too -/
def Sub (Γ Γ' : Tys) : Prop := ∀ x t, List.lookup x Γ = some t → List.lookup x Γ' = some t
theorem Sub.refl {Γ : Tys} : Sub Γ Γ := fun _ _ h => h
theorem Sub.over {Γ Γ' : Tys} {y : Str} {t : Ent} (h : Sub Γ Γ') (hy : List.lookup y Γ = none) : Sub Γ ((y, t) :: Γ') := fun x u hx => by
  simp only [List.lookup]
  by_cases q : x = y
  · subst q; rw [hy] at hx; cases hx
  · have : (x == y) = false := by simp [q]
    rw [this]; exact h x u hx
theorem Sub.cons {Γ Γ' : Tys} {y : Str} {t : Ent} (h : Sub Γ Γ') : Sub ((y, t) :: Γ) ((y, t) :: Γ') := fun x u hx => by
  simp only [List.lookup] at hx ⊢
  split at hx
  · exact hx
  · exact h x u hx
theorem look_e {x : Str} : List.lookup x ([] : Tys) = none := rfl
theorem look_no {x y : Str} {t : Ent} {Γ : Tys} (h : (x == y) = false) (r : List.lookup x Γ = none) : List.lookup x ((y, t) :: Γ) = none := by simp [List.lookup, h, r]
theorem seq_hd {n : Nat} : seqIndex? 0 (n + 1) = some 0 := by simp only [seqIndex?]; simp
theorem take_snoc {es : List Dat} {i : Nat} {e : Dat} (h : es[i]? = some e) : es.take (i + 1) = es.take i ++ [e] := by rw [List.take_add_one, h]; rfl
theorem cmp_inL {x : Str} {ys : List Str} {b : Bool} (h : ys.any (· == x) = b) : Cmp w .In (.str x) (.list (ys.map .str)) b := h ▸ cmp_in_list x ys
abbrev dueq : List Str := [Str.ofString "function", Str.ofString "->", Str.ofString "quote"]
theorem g_due : GFn w (Str.ofString "_law_due") 237 := ⟨by kernel_rfl, by kernel_rfl, by decide +kernel⟩
theorem g_as : GFn w (Str.ofString "_law_as") 230 := ⟨by kernel_rfl, by kernel_rfl, by decide +kernel⟩
theorem fresh_name {x : Str} {Γ : Tys} {l : Addr} {es : List Dat} : ∀ y t, List.lookup y ((x, Ent.d (.list es)) :: Γ) = some t → List.lookup y ((x, Ent.r l) :: Γ) = some t ∨ (t = .d (.list es) ∧ List.lookup y ((x, Ent.r l) :: Γ) = some (.r l)) := fun y t h => by
  simp only [List.lookup] at h ⊢
  split at h
  · cases h; exact .inr ⟨rfl, rfl⟩
  · exact .inl h
theorem due_leaf (e : Str) (ds : List Dat) (kd : Dat) (he : (e != Str.ofString "expr") = true) (n : Nat) (hn : 8 ≤ n) : DTells w 237 (n + 1) [kd, .tuple (.str e :: ds)] (.tuple (.str e :: ds)) := by
  refine fn_tells (n := n) (ps := [Str.ofString "kind", Str.ofString "tree"]) ⟨⟨_, _, _, _, _, _, _, _, _, _, _, _, _, by exact rfl, by exact rfl, binds2 fun _ _ => rfl⟩, by decide +kernel, rfl, rfl, rfl, by decide +kernel⟩ rfl (by decide +kernel) fun C hC hsz => ?_
  exact ex_ifRet (tst_orT (tst_cmp rfl (strs_ne he) (by omega) (ev_sub (ev_name hC (by decide +kernel) (by decide +kernel) (look_tl (by decide +kernel) look_hd)) (by decide) rfl (fun _ _ => rfl)) ev_str)) (ex_ret (ev_name hC (by decide +kernel) (by decide +kernel) (look_tl (by decide +kernel) look_hd)))
theorem due_quiet (W : Str) (ds : List Dat) (kd : Dat) (n : Nat) (hn : 8 ≤ n) (hq : dueq.any (· == W) = true) : DTells w 237 (n + 1) [kd, .tuple [.str (Str.ofString "expr"), .str W, .tuple ds]] (.tuple [.str (Str.ofString "expr"), .str W, .tuple ds]) := by
  refine fn_tells (n := n) (ps := [Str.ofString "kind", Str.ofString "tree"]) ⟨⟨_, _, _, _, _, _, _, _, _, _, _, _, _, by exact rfl, by exact rfl, binds2 fun _ _ => rfl⟩, by decide +kernel, rfl, rfl, rfl, by decide +kernel⟩ rfl (by decide +kernel) fun C hC hsz => ?_
  exact ex_ifRet (tst_or (tst_cmp rfl (strs_ne rfl) (by omega) (ev_sub (ev_name hC (by decide +kernel) (by decide +kernel) (look_tl (by decide +kernel) look_hd)) (by decide) rfl (fun _ _ => rfl)) ev_str) (tst_orT (tst_cmp rfl (cmp_inL (ys := dueq) hq) (by omega) (ev_sub (ev_name hC (by decide +kernel) (by decide +kernel) (look_tl (by decide +kernel) look_hd)) (by decide) rfl (fun _ _ => rfl)) (ev_list (Nat.le_of_ble_eq_true rfl) (evs_cons star_c ev_str (evs_cons star_c ev_str (evs_cons star_c ev_str evs_nil))))))) (ex_ret (ev_name hC (by decide +kernel) (by decide +kernel) (look_tl (by decide +kernel) look_hd)))
theorem due_node (W : Str) (ds es fs : List Dat) (kd : Dat) (n : Nat) (hn : 8 ≤ n) (hq : dueq.any (· == W) = false) (hz : ds.length ≤ 24) (hl : es.length = ds.length) (hf : ((W == Str.ofString "return") = false ∧ fs = es) ∨ ((W == Str.ofString "return") = true ∧ ∃ e0 er, es = e0 :: er ∧ fs = [convD kd e0] ∧ kqdOk 60 (.list es) = true) ∨ ((W == Str.ofString "return") = true ∧ es = [] ∧ fs = [convD kd (.tuple [.str (Str.ofString "nothing")])]))
    (IH : ∀ (i : Nat) (d e : Dat), ds[i]? = some d → es[i]? = some e → DTells w 237 n [kd, d] e) : DTells w 237 (n + 1) [kd, .tuple [.str (Str.ofString "expr"), .str W, .tuple ds]] (.tuple [.str (Str.ofString "expr"), .str W, .tuple fs]) := by
  refine fn_tells (n := n) (ps := [Str.ofString "kind", Str.ofString "tree"]) ⟨⟨_, _, _, _, _, _, _, _, _, _, _, _, _, by exact rfl, by exact rfl, binds2 fun _ _ => rfl⟩, by decide +kernel, rfl, rfl, rfl, by decide +kernel⟩ rfl (by decide +kernel) fun C hC hsz => ?_
  have hl24 : es.length ≤ 24 := by omega
  have hf24 : fs.length ≤ 24 := by 
    rcases hf with ⟨_, rfl⟩ | ⟨_, _, _, _, rfl, _⟩ | ⟨_, _, rfl⟩
    · exact hl24
    · exact Nat.le_of_ble_eq_true rfl
    · exact Nat.le_of_ble_eq_true rfl
  refine ex_ifSkip (tst_or (tst_cmp rfl (strs_ne rfl) (by omega) (ev_sub (ev_name hC (by decide +kernel) (by decide +kernel) (look_tl (by decide +kernel) look_hd)) (by decide) rfl (fun _ _ => rfl)) ev_str) (tst_or (tst_cmp rfl (cmp_inL (ys := dueq) hq) (by omega) (ev_sub (ev_name hC (by decide +kernel) (by decide +kernel) (look_tl (by decide +kernel) look_hd)) (by decide) rfl (fun _ _ => rfl)) (ev_list (Nat.le_of_ble_eq_true rfl) (evs_cons star_c ev_str (evs_cons star_c ev_str (evs_cons star_c ev_str evs_nil))))) tst_or0)) (ex_newList hC (by decide +kernel) (fun _ => rfl) fun l => sx_forT hC (by decide +kernel) (fun _ _ => rfl) hz (ev_sub (ev_name hC (by decide +kernel) (by decide +kernel) (look_tl (by decide +kernel) (look_tl (by decide +kernel) look_hd))) (by decide) rfl (fun _ _ => rfl)) (fun i Γ' M' => Sub [(Str.ofString "parts", .r l), (Str.ofString "kind", .d kd), (Str.ofString "tree", .d (.tuple [.str (Str.ofString "expr"), .str W, .tuple ds]))] Γ' ∧ M' = [(l, .lst (es.take i))]) ⟨Sub.refl, by rw [List.take_zero]⟩ (fun I oI i d Γ' M' hd hJ => ?turn) fun Γ' M' hJ => ?rest)
  case turn =>
    obtain ⟨hs, rfl⟩ := hJ
    obtain ⟨e, he⟩ : ∃ e, es[i]? = some e := ⟨_, List.getElem?_eq_getElem (by have := (List.getElem?_eq_some_iff.mp hd).1; omega)⟩
    refine sx_sub (Γ' := (Str.ofString "part", .d d) :: [(Str.ofString "parts", .r l), (Str.ofString "kind", .d kd), (Str.ofString "tree", .d (.tuple [.str (Str.ofString "expr"), .str W, .tuple ds]))]) hs.cons (fun _ h => h) (fun h => h) (sx_expr hC (fun _ _ _ _ _ => rfl) (fun _ => rfl) (evy_append (p := _) (.tail _ (.head _)) (listC_lst (by rw [List.length_take]; omega)) (fun _ => rfl) (fun _ => rfl) (ev_name hC (by decide +kernel) (by decide +kernel) (look_tl (by decide +kernel) look_hd)) (evy_of (evp_of (P := fun t => t = .d e) (ev_call hC.s (by decide +kernel) g_due star_n (any_cons star_n any_nil) (IH i d e hd he) (by omega) (evs_cons star_n (ev_name hC (by decide +kernel) (by decide +kernel) (look_tl (by decide +kernel) (look_tl (by decide +kernel) look_hd))) (evs_cons star_n (ev_name hC (by decide +kernel) (by decide +kernel) look_hd) evs_nil))) rfl) (PP := fun t M1 => M1 = (I, .raw oI) :: [(l, .lst (es.take i))] ∧ t = .d e) fun t k => ⟨rfl, k⟩) (PP := fun _ M' => M' = (I, .raw oI) :: [(l, .lst (es.take i ++ [e]))]) fun t M1 k => ?_) fun _ M' k => sx_nil ⟨_, k, Sub.over Sub.refl (look_no (by decide +kernel) (look_no (by decide +kernel) (look_no (by decide +kernel) look_e))), by rw [take_snoc he]⟩)
    obtain ⟨rfl, rfl⟩ := k
    exact ⟨_, _, _, .tail .head, listC_lst (by rw [List.length_take]; omega), grows_lst, rfl⟩
  case rest =>
    obtain ⟨hs, rfl⟩ := hJ
    rw [List.take_of_length_le (by omega)]
    refine sx_sub hs (fun _ h => h) (fun h => h) (ex_freeze fresh_name ?_)
    rcases hf with ⟨hr, rfl⟩ | ⟨hr, e0, er, rfl, rfl, hk⟩ | ⟨hr, rfl, rfl⟩
    · exact ex_ifSkip (tst_cmp rfl (strs_cmp hr) (by omega) (ev_sub (ev_name hC (by decide +kernel) (by decide +kernel) (look_tl (by decide +kernel) (look_tl (by decide +kernel) look_hd))) (by decide) rfl (fun _ _ => rfl)) ev_str) (ex_ret (ev_tuple (Nat.le_of_ble_eq_true rfl) (evs_cons star_c ev_str (evs_cons star_s (ev_sub (ev_name hC (by decide +kernel) (by decide +kernel) (look_tl (by decide +kernel) (look_tl (by decide +kernel) look_hd))) (by decide) rfl (fun _ _ => rfl)) (evs_cons star_k (ev_tupleOfL hC (by decide +kernel) (by kernel_rfl) (by boot_fast) (by decide) (by decide +kernel) star_n hf24 (ev_name hC (by decide +kernel) (by decide +kernel) look_hd)) evs_nil)))))
    · refine sx_ifT (tst_cmp rfl (strs_cmp hr) (by omega) (ev_sub (ev_name hC (by decide +kernel) (by decide +kernel) (look_tl (by decide +kernel) (look_tl (by decide +kernel) look_hd))) (by decide) rfl (fun _ _ => rfl)) ev_str) (ex_assign hC (by decide +kernel) (fun _ => rfl) (ev_ifT (tst_cmp rfl (cmp_ne_t (d := .list (e0 :: er)) (e := .list []) hk rfl (fun e => by cases e)) (by omega) (ev_name hC (by decide +kernel) (by decide +kernel) look_hd) (ev_list (Nat.le_of_ble_eq_true rfl) evs_nil)) (ev_list (ds := [convD kd e0]) (Nat.le_of_ble_eq_true rfl) (evs_cons star_k (ev_call hC.s (by decide +kernel) g_as star_n (any_cons star_s any_nil) (as_tells _ _) (by omega) (evs_cons star_n (ev_name hC (by decide +kernel) (by decide +kernel) (look_tl (by decide +kernel) look_hd)) (evs_cons star_s (ev_idx (ev_name hC (by decide +kernel) (by decide +kernel) look_hd) ev_int (fun _ _ _ => rfl) (by decide) (by decide) (j := 0) seq_hd rfl) evs_nil))) evs_nil))) (sx_nil (N := fun Γ M => Γ = _ ∧ M = _) ⟨rfl, rfl⟩)) fun Γ2 M2 k => ?_
      obtain ⟨rfl, rfl⟩ := k
      exact ex_ret (ev_tuple (Nat.le_of_ble_eq_true rfl) (evs_cons star_c ev_str (evs_cons star_s (ev_sub (ev_name hC (by decide +kernel) (by decide +kernel) (look_tl (by decide +kernel) (look_tl (by decide +kernel) (look_tl (by decide +kernel) look_hd)))) (by decide) rfl (fun _ _ => rfl)) (evs_cons star_k (ev_tupleOfL hC (by decide +kernel) (by kernel_rfl) (by boot_fast) (by decide) (by decide +kernel) star_n hf24 (ev_name hC (by decide +kernel) (by decide +kernel) look_hd)) evs_nil))))
    · refine sx_ifT (tst_cmp rfl (strs_cmp hr) (by omega) (ev_sub (ev_name hC (by decide +kernel) (by decide +kernel) (look_tl (by decide +kernel) (look_tl (by decide +kernel) look_hd))) (by decide) rfl (fun _ _ => rfl)) ev_str) (ex_assign hC (by decide +kernel) (fun _ => rfl) (ev_ifF (tst_cmp rfl (cmp_ne_f (d := .list []) (e := .list []) rfl rfl rfl) (by omega) (ev_name hC (by decide +kernel) (by decide +kernel) look_hd) (ev_list (Nat.le_of_ble_eq_true rfl) evs_nil)) (ev_list (ds := [convD kd (.tuple [.str (Str.ofString "nothing")])]) (Nat.le_of_ble_eq_true rfl) (evs_cons star_k (ev_call hC.s (by decide +kernel) g_as star_n (any_cons star_t any_nil) (as_tells _ _) (by omega) (evs_cons star_n (ev_name hC (by decide +kernel) (by decide +kernel) (look_tl (by decide +kernel) look_hd)) (evs_cons star_t (ev_tuple (Nat.le_of_ble_eq_true rfl) (evs_cons star_c ev_str evs_nil)) evs_nil))) evs_nil))) (sx_nil (N := fun Γ M => Γ = _ ∧ M = _) ⟨rfl, rfl⟩)) fun Γ2 M2 k => ?_
      obtain ⟨rfl, rfl⟩ := k
      exact ex_ret (ev_tuple (Nat.le_of_ble_eq_true rfl) (evs_cons star_c ev_str (evs_cons star_s (ev_sub (ev_name hC (by decide +kernel) (by decide +kernel) (look_tl (by decide +kernel) (look_tl (by decide +kernel) (look_tl (by decide +kernel) look_hd)))) (by decide) rfl (fun _ _ => rfl)) (evs_cons star_k (ev_tupleOfL hC (by decide +kernel) (by kernel_rfl) (by boot_fast) (by decide) (by decide +kernel) star_n hf24 (ev_name hC (by decide +kernel) (by decide +kernel) look_hd)) evs_nil))))
end Mine
namespace Mine
open PySem PySem.W PyProof.Rows PySem.Spec PySem.Calls
set_option linter.all false
variable {w : World}
theorem turneds_at {kd : Dat} {ps : List Tr} {P : Dat → Dat → Prop} (h : ∀ p ∈ ps, P p.dat (turned kd p)) : ∀ (i : Nat) (d e : Dat), (Tr.dats ps)[i]? = some d → (turneds kd ps)[i]? = some e → P d e := by
  intro i d e hd he
  rw [dats_map, List.getElem?_map] at hd
  rw [turneds_eq, List.getElem?_map] at he
  cases q : ps[i]? with
  | none => rw [q] at hd; cases hd
  | some p =>
    rw [q] at hd he
    cases hd
    cases he
    exact h p (List.mem_of_getElem? q)
theorem due_all (w : World) : ∀ k (t : Tr) (kd : Dat), Ok k t → kqdOk 4 kd = true → k ≤ 8 → DTells w 237 (k + 12) [kd, t.dat] (turned kd t) := by
  have leafs : ∀ k (t : Tr) (kd : Dat), (∀ w' ps, t ≠ .node w' ps) → DTells w 237 (k + 12) [kd, t.dat] (turned kd t) := by
    intro k t kd hne
    cases t with
    | int i => rw [turned, Tr.dat]; exact due_leaf _ _ kd (by decide +kernel) (k + 11) (by omega)
    | sym x => rw [turned, Tr.dat]; exact due_leaf _ _ kd (by decide +kernel) (k + 11) (by omega)
    | nothing => rw [turned, Tr.dat]; exact due_leaf _ _ kd (by decide +kernel) (k + 11) (by omega)
    | node _ _ => exact absurd rfl (hne _ _)
  intro k
  induction k with
  | zero =>
    intro t kd ho _ _
    refine leafs 0 t kd fun w' ps e => ?_
    subst e
    obtain ⟨_, h, _⟩ := ho.node
    omega
  | succ k IH =>
    intro t kd ho hkq hk8
    cases t with
    | int i => exact leafs _ _ kd (fun _ _ e => nomatch e)
    | sym i => exact leafs _ _ kd (fun _ _ e => nomatch e)
    | nothing => exact leafs _ _ kd (fun _ _ e => nomatch e)
    | node W ps =>
      obtain ⟨k', hk, hok, h3, hw⟩ := ho.node
      obtain rfl : k = k' := by omega
      have hit := turneds_at (kd := kd) (P := fun d e => DTells w 237 (k + 12) [kd, d] e) fun p hp => IH p kd (hok p hp) hkq (by omega)
      have l1 : (Tr.dats ps).length = ps.length := by rw [dats_map, List.length_map]
      have l2 : (turneds kd ps).length = ps.length := by rw [turneds_eq, List.length_map]
      have hz : (Tr.dats ps).length ≤ 24 := by omega
      have hl : (turneds kd ps).length = (Tr.dats ps).length := by omega
      have quiets : ∀ (_ : dueq.any (· == W) = true) (_ : quiet W = true), DTells w 237 (k + 1 + 12) [kd, Tr.dat (.node W ps)] (turned kd (.node W ps)) := fun a q => by
        rw [turned_quiet q, Tr.dat]; exact due_quiet _ _ kd (k + 12) (by omega) a
      have plain : ∀ (_ : dueq.any (· == W) = false) (_ : (W == Str.ofString "return") = false) (_ : quiet W = false), DTells w 237 (k + 1 + 12) [kd, Tr.dat (.node W ps)] (turned kd (.node W ps)) := fun a c q => by
        rw [turned_other q c, Tr.dat]
        exact due_node W _ _ _ kd (k + 12) (by omega) a hz hl (.inl ⟨c, rfl⟩) hit
      rcases hw with rfl | rfl | rfl | ⟨rfl, h1⟩ | rfl | rfl | rfl | rfl | rfl
      · exact quiets (by decide +kernel) (by decide +kernel)
      · exact quiets (by decide +kernel) (by decide +kernel)
      · exact quiets (by decide +kernel) (by decide +kernel)
      · rw [turned_ret (by decide +kernel) (by decide +kernel), Tr.dat]
        refine due_node _ _ _ _ kd (k + 12) (by omega) (by decide +kernel) hz hl ?_ hit
        cases ps with
        | nil => exact .inr (.inr ⟨by decide +kernel, rfl, rfl⟩)
        | cons p ps =>
          cases ps with
          | cons _ _ => simp at h1
          | nil =>
            refine .inr (.inl ⟨by decide +kernel, turned kd p, [], rfl, rfl, ?_⟩)
            refine kq_le (n := 4 + 4 * k + 1) ?_ (by omega)
            simp only [kqdOk, turneds, List.all_cons, List.all_nil, Bool.and_true]
            exact turned_ok (by omega) hkq k _ (hok _ (.head _))
      · exact plain (by decide +kernel) (by decide +kernel) (by decide +kernel)
      · exact plain (by decide +kernel) (by decide +kernel) (by decide +kernel)
      · exact plain (by decide +kernel) (by decide +kernel) (by decide +kernel)
      · exact plain (by decide +kernel) (by decide +kernel) (by decide +kernel)
      · exact plain (by decide +kernel) (by decide +kernel) (by decide +kernel)
end Mine
namespace Mine
open PySem PySem.W PyProof.Rows PySem.Spec PySem.Calls
set_option linter.all false
variable {w : World} {C : Cx w} {Γ Γ' : Tys} {M M' : Cells} {pos p p2 p3 : Pos} {sc : Scope} {rest : List Stmt} {N : Tys → Cells → Prop} {PP : Ent → Cells → Prop} {e : PySem.Expr} {k : Nat}
/-- what stands at a place of the sack -/
def SackV (j : Nat) (t : Ent) : Prop := ∃ i : Int, t = .d (.int i) ∧ 0 ≤ i ∧ (j = 1 → i < 4294967296)
theorem evp_sackR {sk : Addr} {j : Nat} (hm : (sk, Cell.sack) ∈ M) (hj : j < 2) (hs : ∀ o u, subscripted (.Constant (.int j) k p) false o (.int j u) = operate [o, .int j u] (getItem o (.int j u))) (h : Ev C Γ M e (.r sk)) : EvP C Γ M (.Subscript e (.Constant (.int j) k p) pos) (SackV j) := .mk <| fun m R s Q E S hΓ ret => by
  refine Subscript_ (h.run m R s _ E S hΓ fun v h' tk R' S' hs' hv => wpAny_Constant_int ?_)
  have hv : v = .ref sk := hv
  subst hv
  obtain ⟨o, ⟨x, y, tx, ty, n, rfl, hx, hy, hy2⟩, g, _⟩ := S'.cs _ hm
  have hl : h'.IsList sk [Value.int x tx, .int y ty].toArray := ⟨_, g, rfl, n, rfl⟩
  have : j = 0 ∨ j = 1 := by omega
  rcases this with rfl | rfl
  · exact item_litK hl (by decide) (by decide) rfl (ret _ h' _ R' (.d (.int x)) (S'.toks _) hs' (DatIn.int _ _) ⟨x, rfl, hx, fun h => by omega⟩) (hs _ _)
  · exact item_litK hl (by decide) (by decide) rfl (ret _ h' _ R' (.d (.int y)) (S'.toks _) hs' (DatIn.int _ _) ⟨y, rfl, hy, fun _ => hy2⟩) (hs _ _)
theorem UpdC.same {l : Addr} {c : Cell} : ∀ {M : Cells}, (l, c) ∈ M → UpdC l c c M M
  | q :: M, h => by
    rcases List.mem_cons.mp h with rfl | h
    · exact .head
    · exact .tail (UpdC.same h)
theorem sx_sackW {x : Str} {sk : Addr} {j : Nat} (hm : (sk, Cell.sack) ∈ M) (hj : j < 2) (hs : ∀ env, swapsWith e (some (.Subscript (.Name x p2) (.Constant (.int j) k p) p3)) pos.line env = pure false) (hx : Ev C Γ M (.Name x p2) (.r sk)) (h : EvP C Γ M e (SackV j)) (r : Sx C Γ M rest N PP) : Sx C Γ M (.Assign [.Subscript (.Name x p2) (.Constant (.int j) k p) p3] e pos :: rest) N PP := .mk <| fun m R s Q S hΓ nx ret => by
  refine wpAny_execs_cons (wpAny_Assign_Subscript (h.run m R s _ _ S hΓ fun v h' tk R' t S' hs' hD hP => hx.run m R' _ _ _ S' (hΓ.mono hs') fun v2 h2 tk2 R2 S2 hs2 hv => wpAny_Constant_int ?_) (hs _))
  have hv : v2 = .ref sk := hv
  subst hv
  obtain ⟨i, rfl, hi, hi2⟩ := hP
  have hD : DatIn (C.G ++ R') v (.int i) := hD
  cases hD with
  | int _ ti =>
  obtain ⟨o, ⟨x, y, tx, ty, n, rfl, hx, hy, hy2⟩, g, gL, g0⟩ := S2.cs _ hm
  have upd : UpdC sk .sack .sack M M := .same hm
  have fin : ∀ h3 x' y' tx' ty' n', Heap.SameBut sk h2 h3 → h3.get? sk = some (W.listOf #[.int x' tx', .int y' ty'] n') → 0 ≤ x' → 0 ≤ y' → y' < 4294967296 → wpAny (PM w) C.A (execs rest C.env) Q (fun _ _ => False) (upS s h3 (tk2 + 1)) := fun h3 x' y' tx' ty' n' hsame hg a1 a2 a3 => by
    have S3 := S2.upd upd hsame hg ⟨x', y', tx', ty', n', rfl, a1, a2, a3⟩ (tk2 + 1)
    exact r.run m R2 _ Q ⟨S3.F, S3.N, S3.cs, S3.nd, S3.off⟩ (hΓ.mono fun q hq => hs2 q (hs' q hq)) (fun m' h tk R'' Γ' M' S4 hs3 => nx m' h tk R'' Γ' M' S4 fun q hq => hs3 q (hs2 q (hs' q hq))) fun v m' h tk R'' M' t S4 hs3 => ret v m' h tk R'' M' t S4 fun q hq => hs3 q (hs2 q (hs' q hq))
  have : j = 0 ∨ j = 1 := by omega
  rcases this with rfl | rfl
  · exact ki_setAt g (by decide) (by decide) (by simp) (fin _ i y ti ty _ (Heap.SameBut.update ..) (by have q := PySem.IsL.update g (fun a => a.setIfInBounds 0 (.int i ti)); simpa using q) hi hy hy2)
  · exact ki_setAt g (by decide) (by decide) (by simp) (fin _ x i tx ti _ (Heap.SameBut.update ..) (by have q := PySem.IsL.update g (fun a => a.setIfInBounds 1 (.int i ti)); simpa using q) hx hi (hi2 rfl))
theorem bin_mod_int {a b : Int} (h : b ≠ 0) : Bin w .Mod (.int a) (.int b) (.int (a.fmod b)) := fun A s nw u v Q E hu hv ret => by
  cases hu; cases hv; exact mod_int' h (ret _ _ (.int _ _))
theorem bin_div_int {a b : Int} (h : b ≠ 0) (h2 : b.natAbs < 1073741824) : Bin w .FloorDiv (.int a) (.int b) (.int (a.fdiv b)) := fun A s nw u v Q E hu hv ret => by
  cases hu; cases hv; exact floordiv_int h (ret _ _ (.int _ _)) (.inl (PyProof.noPylong_small h2))
theorem bin_mul_int {a b : Int} (h1 : -(2 ^ 64) < b) (h2 : b < 2 ^ 64) : Bin w .Mult (.int a) (.int b) (.int (a * b)) := fun A s nw u v Q E hu hv ret => by
  cases hu; cases hv; exact PyProof.Rows.mul_int (ret _ _ (.int _ _)) (.of_right (intBits_le_64 h1 h2))
theorem Below_.of {n : Nat} {i : Int} (h0 : 0 ≤ i) (h : i < n) : Below_ n (.d (.int i)) := ⟨i.toNat, by rw [Int.toNat_of_nonneg h0], by show i.toNat < n; omega⟩
/-- _law_grain -/
theorem grain_tells (sk : Addr) (n : Nat) (hn : 2 ≤ n) (hn2 : n ≤ 9) : XTells w 206 9 [.r sk, .d (.int n)] [(sk, .sack)] (Below_ n) := by
  refine fn_tells (n := 8) (ps := [Str.ofString "sack", Str.ofString "many"]) ⟨⟨_, _, _, _, _, _, _, _, _, _, _, _, _, by exact rfl, by exact rfl, binds2 fun _ _ => rfl⟩, by decide +kernel, rfl, rfl, rfl, by decide +kernel⟩ rfl (by decide +kernel) fun C hC hsz => ?_
  refine sx_ifP (PB := fun _ => True) (N' := fun Γ' M' => Γ' = _ ∧ M' = _) (tstp_cmp rfl (by omega) (evp_sackR (.head _) (by decide) (fun _ _ => rfl) (ev_name hC (by decide +kernel) (by decide +kernel) look_hd)) (evp_of (P := fun t => t = .d (.int 0)) ev_int rfl) fun t1 t2 k1 k2 => ?_) (fun _ => ?yes) (fun _ => sx_nil ⟨rfl, rfl⟩) fun Γ2 M2 k => ?no
  · obtain ⟨i, rfl, _, _⟩ := k1
    exact ⟨_, _, _, rfl, k2, cmp_gt_int i 0, trivial⟩
  case yes =>
    refine ex_assignP (P1 := Below_ n) hC (by decide +kernel) (fun _ => rfl) (evp_bin (evp_sackR (.head _) (by decide) (fun _ _ => rfl) (ev_name hC (by decide +kernel) (by decide +kernel) look_hd)) (evp_of (P := fun t => t = .d (.int n)) (ev_name hC (by decide +kernel) (by decide +kernel) (look_tl (by decide +kernel) look_hd)) rfl) fun t1 t2 k1 k2 => ?_) fun t k => sx_sackW (.head _) (by decide) (fun _ => rfl) (ev_name hC (by decide +kernel) (by decide +kernel) (look_tl (by decide +kernel) look_hd)) (evp_bin (evp_sackR (.head _) (by decide) (fun _ _ => rfl) (ev_name hC (by decide +kernel) (by decide +kernel) (look_tl (by decide +kernel) look_hd))) (evp_of (P := fun t => t = .d (.int n)) (ev_name hC (by decide +kernel) (by decide +kernel) (look_tl (by decide +kernel) (look_tl (by decide +kernel) look_hd))) rfl) fun t1 t2 k1 k2 => ?_) (ex_return (ev_name hC (by decide +kernel) (by decide +kernel) look_hd) k)
    · obtain ⟨i, rfl, hi, _⟩ := k1
      exact ⟨_, _, _, rfl, k2, bin_mod_int (by omega), .of (fmod_lo _ (by omega)) (fmod_hi _ (by omega))⟩
    · obtain ⟨i, rfl, hi, _⟩ := k1
      exact ⟨_, _, _, rfl, k2, bin_div_int (by omega) (by omega), _, rfl, Int.fdiv_nonneg hi (by omega), fun h => absurd h (by decide)⟩
  case no =>
    obtain ⟨rfl, rfl⟩ := k
    refine sx_sackW (.head _) (by decide) (fun _ => rfl) (ev_name hC (by decide +kernel) (by decide +kernel) look_hd) (evp_bin (P1 := fun t => ∃ i : Int, t = .d (.int i)) (evp_bin (P1 := fun t => ∃ i : Int, t = .d (.int i)) (evp_bin (evp_sackR (.head _) (by decide) (fun _ _ => rfl) (ev_name hC (by decide +kernel) (by decide +kernel) look_hd)) (evp_of (P := fun t => t = .d (.int 40014)) ev_int rfl) fun t1 t2 k1 k2 => ?_) (evp_of (P := fun t => t = .d (.int 3)) ev_int rfl) fun t1 t2 k1 k2 => ?_) (evp_of (P := fun t => t = .d (.int 2147483563)) ev_int rfl) fun t1 t2 k1 k2 => ?_) (ex_returnP (evp_bin (P1 := fun t => ∃ i : Int, t = .d (.int i)) (evp_bin (evp_sackR (.head _) (by decide) (fun _ _ => rfl) (ev_name hC (by decide +kernel) (by decide +kernel) look_hd)) (evp_of (P := fun t => t = .d (.int 53)) ev_int rfl) fun t1 t2 k1 k2 => ?_) (evp_of (P := fun t => t = .d (.int n)) (ev_name hC (by decide +kernel) (by decide +kernel) (look_tl (by decide +kernel) look_hd)) rfl) fun t1 t2 k1 k2 => ?_))
    · obtain ⟨i, rfl, _, _⟩ := k1
      exact ⟨_, _, _, rfl, k2, bin_mul_int (by decide) (by decide), _, rfl⟩
    · obtain ⟨i, rfl⟩ := k1
      exact ⟨_, _, _, rfl, k2, bin_add_int _ _, _, rfl⟩
    · obtain ⟨i, rfl⟩ := k1
      exact ⟨_, _, _, rfl, k2, bin_mod_int (by decide), _, rfl, fmod_lo _ (by decide), fun _ => Int.lt_trans (fmod_hi _ (by decide)) (by decide)⟩
    · obtain ⟨i, rfl, _, _⟩ := k1
      exact ⟨_, _, _, rfl, k2, bin_div_int (by decide) (by decide), _, rfl⟩
    · obtain ⟨i, rfl⟩ := k1
      exact ⟨_, _, _, rfl, k2, bin_mod_int (by omega), .of (fmod_lo _ (by omega)) (fmod_hi _ (by omega))⟩
end Mine
namespace Mine
open PySem PySem.W PyProof.Rows PySem.Spec PySem.Calls
set_option linter.all false
open LCg
section
variable {w : World} {C : Cx w} {Γ : Tys} {M : Cells} {sc csc : Scope} {elt e : PySem.Expr} {x : Str} {px pos p p2 p3 : Pos} {cl : List (Str × Addr)} {P : Ent → Prop} {Δ : Tys} {k : Nat}
/-- over range(e) -/
theorem comp_range {B : Nat → Prop} {PD : Nat → Dat → Prop} (hcell : ∀ y ∈ csc.names, y.2 ≠ .cell) (hkind : csc.kind = .function) (hx : csc.names.lookup x = some .local) (hΔ : ∀ y t, Δ.lookup y = some t → C.Δ.lookup y = some t ∧ cl.lookup y = C.env.cells.lookup y) (hkr : (relabel csc C.env).kind = .function)
    (hC : C.env.scope = sc) (hb' : C.env.builtins = builtinsNs) (hkr' : sc.names.lookup (Str.ofString "range") = some .globalImplicit) (hrx : nsIn (KK w.params) mainGlobals (Str.ofString "range") = some none) (hb : bootBuiltins (Str.ofString "range") = some (.type "range"))
    (hn : Str.ofString "range" ≠ Str.ofString "__name__") (hd' : (Str.ofString "range" == Str.ofString "__debug__") = false) (hs : ∀ env, starEach [e] env = [(false, eval e env)]) (hz : ∀ k, B k → k ≤ 24)
    (h : EvP C Γ M e (Num B)) (el : ∀ (i : Nat), (∃ k, B k ∧ i < k) → ∀ (I c D : Addr) (oI oC oD : Obj) (m₂ : Str → Option Value) (ho : NsObj oC m₂), EvP (mkCm C csc cl c oC m₂ Δ hkr ho) [(x, .d (.int i))] (cmM I c D oI oC oD M) elt (fun t => ∃ e, t = .d e ∧ PD i e))
    (hP : ∀ (es : List Dat), B es.length → (∀ (j : Nat) (d : Dat), es[j]? = some d → PD j d) → P (.d (.list es))) : Comp C Γ M (.ListComp elt [⟨.Name x px, .Call (.Name (Str.ofString "range") p) [e] [] p2, [], 0⟩] csc pos) (.Call (.Name (Str.ofString "range") p) [e] [] p2) csc cl P := .mk <| fun m R s RR E S hΓ ret => by
  refine range_run S hΓ hC hb' hkr' hrx hb hn hd' hs h fun k h' tk R' r t₁ u₁ v₁ hkB hr S' hsub _ _ _ _ => ?_
  obtain ⟨hsm, hsz⟩ := range_nat (k := k) (hz k hkB)
  refine wpAny_pyIter_range hr hsm ?_
  have up : ∀ b o, h'.get? b = some o → (h'.push { cls := .type "range_iterator", data := .fields #[rawInt 0, rawInt (Builtin.Range.rangeSize 0 (k : Int) 1), rawInt 1] }).get? b = some o := fun b o e => Heap.get?_push_of_some _ e
  have fresh : ∀ b o, h'.get? b = some o → b ≠ h'.objs.size := fun b o e => Nat.ne_of_lt (Heap.lt_size e)
  have SH : St C m M R' (upS s (h'.push { cls := .type "range_iterator", data := .fields #[rawInt 0, rawInt (Builtin.Range.rangeSize 0 (k : Int) 1), rawInt 1] }) tk) := ⟨S'.F.keeps up, S'.N.grown up, fun q hq => let ⟨o, h1, h2, h3⟩ := S'.cs q hq; ⟨o, h1, up _ _ h2, h3⟩, S'.nd, S'.off⟩
  refine comp_core (SS := fun _ => True) (T := fun i => .d (.int i)) (PD := PD) (Γ := Γ) (range_walks rfl 0 k) (hz k hkB) (fun i h st => ⟨_, st⟩) range_st hcell hkind hx (by show IsRangeIter _ _ _ _ _; rw [hsz]; simpa using Heap.get?_push_size _ rfl) (fun b hb => ?_) SH (hΓ.mono hsub) (Nat.ne_of_lt S'.F.ns.lt) (next_is_new S'.F) (fun hM => ?_) (fun p hp => fresh _ _ (S'.N p hp).1) (fun _ _ => trivial) hΔ hkr (fun i v hi hv => ?_) (fun i hi => el i ⟨k, hkB, hi⟩) fun D c oC m' g tk R2 es S2 hn hs2 hD hl hPD => ret D c oC m' g tk R2 (.d (.list es)) S2 hn (fun p hp => hs2 p (hsub p hp)) hD (hP es (by rw [hl]; exact hkB) hPD)
  · rw [List.mem_singleton.mp hb]
    show h'.objs.size < (h'.push _).objs.size
    rw [Heap.size_push]; exact Nat.lt_succ_self _
  · obtain ⟨q, hq, e⟩ := List.mem_map.mp hM
    obtain ⟨o, _, h2, _⟩ := S'.cs q hq
    exact fresh _ _ h2 e
  · obtain ⟨t, rfl⟩ := hv
    rw [Int.zero_add]
    exact DatIn.int _ _
theorem g_grain : GFn w (Str.ofString "_law_grain") 206 := ⟨by kernel_rfl, by kernel_rfl, by decide +kernel⟩
theorem g_leaf : GFn w (Str.ofString "_law_leaf") 213 := ⟨by kernel_rfl, by kernel_rfl, by decide +kernel⟩
theorem g_tree : GFn w (Str.ofString "_law_tree") 218 := ⟨by kernel_rfl, by kernel_rfl, by decide +kernel⟩
theorem sack_in {sk : Addr} (hm : (sk, Cell.sack) ∈ M) : ∀ q ∈ [(sk, Cell.sack)], q ∈ M := fun q hq => List.mem_singleton.mp hq ▸ hm
theorem sack_nd {sk : Addr} : (([(sk, Cell.sack)] : Cells).map (·.1)).Nodup := by simp
/-- a draw -/
theorem evp_draw {sk : Addr} {n : Nat} (hC : C.env.scope = sc) (hk : sc.names.lookup (Str.ofString "_law_grain") = some .globalImplicit) (hm : (sk, Cell.sack) ∈ M) (hz : 9 ≤ C.sz) (hn : 2 ≤ n) (hn2 : n ≤ 9) (h : Ev C Γ M (.Name x px) (.r sk)) : EvP C Γ M (.Call (.Name (Str.ofString "_law_grain") p) [.Name x px, .Constant (.int n) k p3] [] pos) (Below_ n) :=
  evp_call hC hk g_grain star_n (any_cons star_c any_nil) (grain_tells sk n hn hn2) hz (sack_in hm) sack_nd (evs_cons star_n h (evs_cons star_c ev_int evs_nil))
/-- a tree of the law's, k floors at most -/
def TreeOf (k : Nat) (t : Ent) : Prop := ∃ u : Tr, Ok k u ∧ t = .d u.dat
theorem TreeOf.more {k n : Nat} {t : Ent} (h : TreeOf k t) (hk : k ≤ n) : TreeOf n t := let ⟨u, h1, h2⟩ := h; ⟨u, h1.more hk, h2⟩
theorem allP_tree {k : Nat} : ∀ {n : Nat} {ts : List Ent}, AllP (List.replicate n (TreeOf k)) ts → ∃ us : List Tr, ts = (Tr.dats us).map .d ∧ us.length = n ∧ ∀ u ∈ us, Ok k u
  | 0, [], _ => ⟨[], by rw [Tr.dats]; rfl, rfl, fun _ h => nomatch h⟩
  | n + 1, t :: ts, ⟨⟨u, h1, h2⟩, r⟩ => by
    obtain ⟨us, e, hl, h⟩ := allP_tree r
    refine ⟨u :: us, by rw [Tr.dats, List.map_cons, e, h2], by rw [List.length_cons, hl], fun v hv => ?_⟩
    rcases List.mem_cons.mp hv with rfl | hv
    · exact h1
    · exact h v hv
theorem menu_tree {k n : Nat} {P : Ent → Prop} (hP : ∀ t, TreeOf k t → P t) : ∀ ts, AllP (List.replicate n (TreeOf k)) ts → ∃ ds : List Dat, ts = ds.map .d ∧ ds.length = n ∧ ∀ d ∈ ds, P (.d d) := fun ts h => by
  obtain ⟨us, e, hl, h⟩ := allP_tree h
  refine ⟨Tr.dats us, e, by rw [dats_map, List.length_map]; exact hl, fun d hd => ?_⟩
  rw [dats_map] at hd
  obtain ⟨u, hu, rfl⟩ := List.mem_map.mp hd
  exact hP _ ⟨u, h u hu, rfl⟩
/-- _law_leaf -/
theorem leaf_tells (sk : Addr) : XTells w 213 10 [.r sk] [(sk, .sack)] (TreeOf 0) := by
  refine fn_tells (n := 9) (ps := [Str.ofString "sack"]) ⟨⟨_, _, _, _, _, _, _, _, _, _, _, _, _, by exact rfl, by exact rfl, binds1 fun _ => rfl⟩, by decide +kernel, rfl, rfl, rfl, by decide +kernel⟩ rfl (by decide +kernel) fun C hC hsz => ?_
  have hm : (sk, Cell.sack) ∈ [(sk, Cell.sack)] := .head _
  refine ex_returnP (evp_menu (n := 3) (Ps := List.replicate 3 (TreeOf 0)) rfl (by decide) (evsp_cons star_t (evp_tuple (Ps := [fun t => t = .d (.str (Str.ofString "int")), Below_ 8]) (evsp_cons star_c (evp_of ev_str rfl) (evsp_cons star_k (evp_draw hC.s (by decide +kernel) hm (by omega) (by decide) (by decide) (ev_name hC (by decide +kernel) (by decide +kernel) look_hd)) evsp_nil)) fun ts k => ?_) (evsp_cons star_t (evp_of (ev_tuple (Nat.le_of_ble_eq_true rfl) (evs_cons star_c ev_str (evs_cons star_c ev_str evs_nil))) ⟨.sym (Str.ofString "x"), .symx 0, by rw [Tr.dat]⟩) (evsp_cons star_t (evp_of (ev_tuple (Nat.le_of_ble_eq_true rfl) (evs_cons star_c ev_str evs_nil)) ⟨.nothing, .nothing 0, by rw [Tr.dat]⟩) evsp_nil))) (evp_draw hC.s (by decide +kernel) hm (by omega) (by decide) (by decide) (ev_name hC (by decide +kernel) (by decide +kernel) look_hd)) (fun _ _ _ => rfl) (menu_tree fun _ h => h))
  match ts, k with
  | [t1, t2], ⟨k1, ⟨i, k2, _⟩, _⟩ => exact ⟨[_, _], by rw [k1, k2]; rfl, Nat.le_of_ble_eq_true rfl, .int i, .int 0 i, by rw [Tr.dat]⟩
end
end Mine
namespace Mine
open PySem PySem.W PyProof.Rows PySem.Spec PySem.Calls
set_option linter.all false
section
variable {w : World} {C : Cx w} {Γ : Tys} {M : Cells} {sc : Scope} {c e e1 e2 : PySem.Expr} {pos p : Pos} {k : Nat} {body rest : List Stmt} {N : Tys → Cells → Prop} {PP : Ent → Cells → Prop}
theorem sx_ifC {b : Bool} (hc : Tst C Γ M c b) (hT : b = true → Sx C Γ M body (fun _ _ => False) PP) (hF : b = false → Sx C Γ M rest N PP) : Sx C Γ M (.If c body [] pos :: rest) N PP := by
  cases b with
  | true => exact ex_ifRet hc (hT rfl)
  | false => exact ex_ifSkip hc (hF rfl)
theorem bin_sub1 (n : Nat) : Bin w .Sub (.int ((n + 1 : Nat) : Int)) (.int ((1 : Nat) : Int)) (.int (n : Int)) := fun A s nw u v Q E hu hv ret => by
  cases hu; cases hv
  refine sub_int ?_
  rw [show ((n + 1 : Nat) : Int) - ((1 : Nat) : Int) = (n : Int) by omega]
  exact ret _ _ (.int _ _)
theorem ev_neg1 : Ev C Γ M (.UnaryOp .USub (.Constant (.int 1) k p) pos) (.d (.int (-1))) := .mk <| fun m R s Q E S hΓ ret =>
  UnaryOp_ (wpAny_Constant_int (neg_int (ret _ s.heap _ R (S.toks _) (fun _ h => h) (DatIn.int _ _))))
/-- a list and a list -/
theorem ev_addL {d1 d2 : List Dat} (hz : d1.length + d2.length ≤ 24) (h1 : Ev C Γ M e1 (.d (.list d1))) (h2 : Ev C Γ M e2 (.d (.list d2))) : Ev C Γ M (.BinOp e1 .Add e2 pos) (.d (.list (d1 ++ d2))) := .mk <| fun m R s Q E S hΓ ret => by
  refine wpAny_BinOp (h1.run m R s _ E S hΓ fun v h' tk R' S' hs' hD => h2.run m R' _ _ E S' (hΓ.mono hs') fun v2 h2' tk2 R2 S2 hs2 hD2 => ?_)
  have hD : DatIn (C.G ++ R') v (.list d1) := hD
  have hD2 : DatIn (C.G ++ R2) v2 (.list d2) := hD2
  cases hD with
  | @list a vs n _ hm hr =>
  cases hD2 with
  | @list b us k _ hm2 hr2 =>
  have hm := up_mono hs2 _ hm
  have hr := hr.mono (up_mono hs2)
  obtain ⟨os, No, hc, he⟩ := S2.cs.led
  refine kmk_add_lit (news := os ++ R2) (its := vs.toArray) (its2 := us.toArray) S2.F (fun p hp => (List.mem_append.mp hp).elim (No p) (S2.N p)) ⟨_, S2.reads _ hm, rfl, _, rfl⟩ ⟨_, S2.reads _ hm2, rfl, _, rfl⟩ (by rw [List.toList_toArray, List.toList_toArray]) (fun D h3 F3 N3 lt => ?_) (by rw [List.toList_toArray, List.toList_toArray, hr.length, hr2.length, sizeLine_eq]; omega)
  refine ret (.ref D) h3 tk2 ((D, W.listOf (vs ++ us).toArray 0) :: R2) ⟨F3, fun p hp => ?_, .of (fun p hp => N3 p (.tail _ (List.mem_append.mpr (.inl hp)))) (up_mono fun p hp => .tail _ hp) hc, S2.nd, fun p hp hm => ?_⟩ (fun q hq => .tail _ (hs2 q (hs' q hq))) (DatIn.list (List.mem_append.mpr (.inr (.head _))) ((hr.append hr2).mono (up_mono fun p hp => .tail _ hp)))
  · rcases List.mem_cons.mp hp with rfl | hp
    · exact N3 _ (.head _)
    · exact N3 p (.tail _ (List.mem_append.mpr (.inr hp)))
  · rcases List.mem_cons.mp hp with rfl | hp
    · rw [← he] at hm
      obtain ⟨q, hq, e⟩ := List.mem_map.mp hm
      have := lt q (List.mem_append.mpr (.inl hq))
      rw [show q.1 = D from e] at this
      exact Nat.lt_irrefl _ this
    · exact S2.off p hp hm
end
variable {w : World}
theorem expr_tellsL (h : Str) (ds : List Dat) (hz : ds.length ≤ 24) : DTells w 54 1 [.str h, .list ds] (.tuple [.str (Str.ofString "expr"), .str h, .tuple ds]) := by
  refine fn_tells (n := 0) (ps := [Str.ofString "head", Str.ofString "parts"]) ⟨⟨_, _, _, _, _, _, _, _, _, _, _, _, _, by exact rfl, by exact rfl, binds2 fun _ _ => rfl⟩, by decide +kernel, rfl, rfl, rfl, by decide +kernel⟩ rfl (by decide +kernel) fun C hC hsz => ?_
  exact ex_ret (ev_tuple (Nat.le_of_ble_eq_true rfl) (evs_cons star_c ev_str (evs_cons star_n (ev_name hC (by decide +kernel) (by decide +kernel) look_hd) (evs_cons star_k (ev_tupleOfL hC (by decide +kernel) (by kernel_rfl) (by boot_fast) (by decide) (by decide +kernel) star_n hz (ev_name hC (by decide +kernel) (by decide +kernel) (look_tl (by decide +kernel) look_hd))) evs_nil))))
theorem par12 {sc : Scope} {p1 p2 : Str} {t1 t2 : Ent} {k : NameKind} (h1 : sc.names.lookup p1 = some k) (h2 : sc.names.lookup p2 = some k) : ParAt sc p1 p2 t1 t2 k [(p1, t1), (p2, t2)] := fun x t hx => by
  simp only [List.lookup] at hx
  by_cases q : x = p1
  · subst q
    simp at hx
    exact ⟨h1, .inl ⟨rfl, hx.symm⟩⟩
  · have : (x == p1) = false := by simp [q]
    rw [this] at hx
    by_cases q : x = p2
    · subst q
      simp at hx
      exact ⟨h2, .inr ⟨rfl, hx.symm⟩⟩
    · have : (x == p2) = false := by simp [q]
      rw [this] at hx
      exact nomatch hx
theorem par12c {p1 p2 x : Str} {t1 t2 t : Ent} {cs : List (Str × Addr)} {c1 c2 : Addr} (hx : List.lookup x [(p1, t1), (p2, t2)] = some t) (h1 : cs.lookup p1 = some c1) (h2 : cs.lookup p2 = some c2) : ∃ c, cs.lookup x = some c := by
  simp only [List.lookup] at hx
  by_cases q : x = p1
  · subst q; exact ⟨_, h1⟩
  · have : (x == p1) = false := by simp [q]
    rw [this] at hx
    by_cases q : x = p2
    · subst q; exact ⟨_, h2⟩
    · have : (x == p2) = false := by simp [q]
      rw [this] at hx
      exact nomatch hx
theorem par12e {p1 p2 x : Str} {t1 t2 t : Ent} {cs cs' : List (Str × Addr)} (hx : List.lookup x [(p1, t1), (p2, t2)] = some t) (h1 : cs.lookup p1 = cs'.lookup p1) (h2 : cs.lookup p2 = cs'.lookup p2) : cs.lookup x = cs'.lookup x := by
  simp only [List.lookup] at hx
  by_cases q : x = p1
  · subst q; exact h1
  · have : (x == p1) = false := by simp [q]
    rw [this] at hx
    by_cases q : x = p2
    · subst q; exact h2
    · have : (x == p2) = false := by simp [q]
      rw [this] at hx
      exact nomatch hx
theorem dats_nil : Tr.dats [] = [] := by rw [Tr.dats]
theorem dats_cons {u : Tr} {us : List Tr} {d : Dat} {ds : List Dat} (h : u.dat = d) (r : Tr.dats us = ds) : Tr.dats (u :: us) = d :: ds := by rw [Tr.dats, h, r]
theorem dat_sym {x : Str} : (Tr.sym x).dat = .tuple [.str (Str.ofString "sym"), .str x] := by rw [Tr.dat]
theorem node_of {k : Nat} {W : Str} {us : List Tr} {ds : List Dat} (h : Ok k (.node W us)) (e : Tr.dats us = ds) : TreeOf k (.d (.tuple [.str (Str.ofString "expr"), .str W, .tuple ds])) := ⟨_, h, by rw [Tr.dat, e]⟩
theorem dat_node {W : Str} {us : List Tr} {ds : List Dat} (e : Tr.dats us = ds) : (Tr.node W us).dat = .tuple [.str (Str.ofString "expr"), .str W, .tuple ds] := by rw [Tr.dat, e]
theorem dat_tup (u : Tr) : ∃ ds, u.dat = .tuple ds := by cases u <;> exact ⟨_, by rw [Tr.dat]⟩
theorem ok_some {k : Nat} {us : List Tr} (hu : us.length = 1 ∨ us.length = 2) (ho : ∀ u ∈ us, Ok k u) : Ok (k + 1) (.node (Str.ofString "block") us) ∧ Ok (k + 1) (.node (Str.ofString "if") (.sym (Str.ofString "c") :: us)) ∧ Ok (k + 1) (.node (Str.ofString "call") (.sym (Str.ofString "g") :: us)) := by
  match us, hu with
  | [a], _ => exact ⟨.block1 (ho _ (.head _)), .if2 (.symc _) (ho _ (.head _)), .call2 (.symg _) (ho _ (.head _))⟩
  | [a, b], _ => exact ⟨.block2 (ho _ (.head _)) (ho _ (.tail _ (.head _))), .if3 (.symc _) (ho _ (.head _)) (ho _ (.tail _ (.head _))), .call3 (.symg _) (ho _ (.head _)) (ho _ (.tail _ (.head _)))⟩
theorem allP_rep {Q P : Ent → Prop} (hQ : ∀ t, Q t → ∃ d, t = .d d ∧ P (.d d)) : ∀ {n : Nat} (ts : List Ent), AllP (List.replicate n Q) ts → ∃ ds : List Dat, ts = ds.map .d ∧ ds.length = n ∧ ∀ d ∈ ds, P (.d d)
  | 0, [], _ => ⟨[], rfl, rfl, fun _ h => nomatch h⟩
  | n + 1, t :: ts, ⟨h, r⟩ => by
    obtain ⟨d, e, hd⟩ := hQ t h
    obtain ⟨ds, e2, hl, h⟩ := allP_rep hQ ts r
    refine ⟨d :: ds, by rw [List.map_cons, e, e2], by rw [List.length_cons, hl], fun v hv => ?_⟩
    rcases List.mem_cons.mp hv with rfl | hv
    · exact hd
    · exact h v hv
def Inner (k : Nat) (t : Ent) : Prop := TreeOf k t ∨ t = .d .none
theorem menu_none {k n : Nat} : ∀ ts, AllP (List.replicate n (Inner k)) ts → ∃ ds : List Dat, ts = ds.map .d ∧ ds.length = n ∧ ∀ d ∈ ds, Inner k (.d d) := allP_rep (Q := Inner k) (P := Inner k) fun t h => by
  rcases h with ⟨u, h1, h2⟩ | h
  · exact ⟨_, h2, .inl ⟨u, h1, rfl⟩⟩
  · exact ⟨_, h, .inr rfl⟩
theorem trees_of {k : Nat} {es : List Dat} (h : ∀ (j : Nat) (d : Dat), es[j]? = some d → TreeOf k (.d d)) : ∃ us : List Tr, es = Tr.dats us ∧ us.length = es.length ∧ ∀ u ∈ us, Ok k u := by
  induction es with
  | nil => exact ⟨[], by rw [Tr.dats], rfl, fun _ h => nomatch h⟩
  | cons e es ih =>
    obtain ⟨us, h1, h2, h3⟩ := ih fun j d hj => h (j + 1) d hj
    obtain ⟨u, hu, he⟩ := h 0 e rfl
    cases he
    refine ⟨u :: us, by rw [Tr.dats, h1], by rw [List.length_cons, List.length_cons, h2], fun v hv => ?_⟩
    rcases List.mem_cons.mp hv with rfl | hv
    · exact hu
    · exact h3 v hv
abbrev treeΔ (sk : Addr) (f : Nat) : Tys := [(Str.ofString "sack", .r sk), (Str.ofString "floors", .d (.int f))]
theorem way_eq {k j : Nat} (h : ((k : Int) == (j : Int)) = true) : k = j := by have := beq_iff_eq.mp h; omega
section
variable {C : Cx w} {sk : Addr} {M : Cells}
/-- what stands behind the first three statements -/
theorem tree_more (f k : Nat) (hk : k < 9) (hC : Fm C (sc (st 29))) (hΔ : C.Δ = treeΔ sk (f + 1)) (hsz : C.sz = f + 14) (hm : (sk, Cell.sack) ∈ M) (us : List Tr) (hu : us.length = 1 ∨ us.length = 2) (ho : ∀ u ∈ us, Ok (f + 1) u) : Sx C [(Str.ofString "some", .d (.list (Tr.dats us))), (Str.ofString "way", .d (.int k))] M ((bd (st 29)).drop 4) (fun _ _ => False) (dropY fun t M' => M' = M ∧ TreeOf (f + 2) t) := by
  have hz : (Tr.dats us).length ≤ 24 := by rw [dats_map, List.length_map]; omega
  obtain ⟨a, r, rfl⟩ : ∃ a r, us = a :: r := by cases us with | nil => simp at hu | cons a r => exact ⟨a, r, rfl⟩
  have ha : Ok (f + 1) a := ho _ (.head _)
  obtain ⟨b, hb, hlast⟩ : ∃ b, Ok (f + 1) b ∧ ∃ j, seqIndex? (-1) (Tr.dats (a :: r)).length = some j ∧ (Tr.dats (a :: r))[j]? = some b.dat := by
    cases r with
    | nil => exact ⟨a, ha, 0, by simp only [Tr.dats]; rfl, by simp [Tr.dats]⟩
    | cons b r =>
      have : r = [] := by cases r with | nil => rfl | cons _ _ => simp at hu
      subst this
      exact ⟨b, ho _ (.tail _ (.head _)), 1, by simp only [Tr.dats]; rfl, by simp [Tr.dats]⟩
  obtain ⟨jl, hj1, hj2⟩ := hlast
  have h0 : (Tr.dats (a :: r))[0]? = some a.dat := by simp [Tr.dats]
  have hs0 : seqIndex? 0 (Tr.dats (a :: r)).length = some 0 := by rw [Tr.dats]; exact seq_hd
  have hz1 : ∀ x : Str, ([Dat.tuple [.str (Str.ofString "sym"), .str x]] : List Dat).length + (Tr.dats (a :: r)).length ≤ 24 := fun x => by rw [dats_map, List.length_map]; simp only [List.length_cons, List.length_nil] at *; omega
  have hz2 : ∀ x : Str, ([Dat.tuple [.str (Str.ofString "sym"), .str x]] ++ Tr.dats (a :: r)).length ≤ 24 := fun x => by rw [List.length_append]; exact hz1 x
  refine sx_ifC (tst_cmp rfl (cmp_eq_int k 3) (by omega) (ev_name hC (by decide +kernel) (by decide +kernel) (look_tl (by decide +kernel) look_hd)) ev_int) (fun _ => (ex_return (t := .d (.tuple [.str (Str.ofString "expr"), .str (Str.ofString "block"), .tuple (Tr.dats (a :: r))])) (ev_call hC.s (by decide +kernel) g_expr star_c (any_cons star_n any_nil) (expr_tellsL _ _ hz) (by omega) (evs_cons star_c ev_str (evs_cons star_n (ev_name hC (by decide +kernel) (by decide +kernel) look_hd) evs_nil))) (node_of (ok_some hu ho).1 rfl))) fun h3 => sx_ifC (tst_cmp rfl (cmp_eq_int k 4) (by omega) (ev_name hC (by decide +kernel) (by decide +kernel) (look_tl (by decide +kernel) look_hd)) ev_int) (fun _ => (ex_return (t := .d (.tuple [.str (Str.ofString "expr"), .str (Str.ofString "if"), .tuple ([.tuple [.str (Str.ofString "sym"), .str (Str.ofString "c")]] ++ Tr.dats (a :: r))])) (ev_call hC.s (by decide +kernel) g_expr star_c (any_cons star_b any_nil) (expr_tellsL _ _ (hz2 _)) (by omega) (evs_cons star_c ev_str (evs_cons star_b (ev_addL (d1 := [.tuple [.str (Str.ofString "sym"), .str (Str.ofString "c")]]) (d2 := Tr.dats (a :: r)) (hz1 _) (ev_list (ds := [.tuple [.str (Str.ofString "sym"), .str (Str.ofString "c")]]) (Nat.le_of_ble_eq_true rfl) (evs_cons star_t (ev_tuple (Nat.le_of_ble_eq_true rfl) (evs_cons star_c ev_str (evs_cons star_c ev_str evs_nil))) evs_nil)) (ev_name hC (by decide +kernel) (by decide +kernel) look_hd)) evs_nil))) (node_of (ok_some hu ho).2.1 (dats_cons dat_sym rfl)))) fun h4 => sx_ifC (tst_cmp rfl (cmp_eq_int k 5) (by omega) (ev_name hC (by decide +kernel) (by decide +kernel) (look_tl (by decide +kernel) look_hd)) ev_int) (fun _ => (ex_return (t := .d (.tuple [.str (Str.ofString "expr"), .str (Str.ofString "while"), .tuple [.tuple [.str (Str.ofString "sym"), .str (Str.ofString "c")], a.dat]])) (ev_call hC.s (by decide +kernel) g_expr star_c (any_cons star_t any_nil) (expr_tells _ _) (by omega) (evs_cons star_c ev_str (evs_cons star_t (ev_tuple (Nat.le_of_ble_eq_true rfl) (evs_cons star_t (ev_tuple (Nat.le_of_ble_eq_true rfl) (evs_cons star_c ev_str (evs_cons star_c ev_str evs_nil))) (evs_cons star_s (ev_idx (ev_name hC (by decide +kernel) (by decide +kernel) look_hd) ev_int (fun _ _ _ => rfl) (by decide) (by decide) hs0 h0) evs_nil))) evs_nil))) (node_of (.while2 (.symc _) ha) (dats_cons dat_sym (dats_cons rfl dats_nil))))) fun h5 => sx_ifC (tst_cmp rfl (cmp_eq_int k 6) (by omega) (ev_name hC (by decide +kernel) (by decide +kernel) (look_tl (by decide +kernel) look_hd)) ev_int) (fun _ => (ex_return (t := .d (.tuple [.str (Str.ofString "expr"), .str (Str.ofString "try"), .tuple [a.dat, .tuple [.str (Str.ofString "sym"), .str (Str.ofString "e")], b.dat]])) (ev_call hC.s (by decide +kernel) g_expr star_c (any_cons star_t any_nil) (expr_tells _ _) (by omega) (evs_cons star_c ev_str (evs_cons star_t (ev_tuple (Nat.le_of_ble_eq_true rfl) (evs_cons star_s (ev_idx (ev_name hC (by decide +kernel) (by decide +kernel) look_hd) ev_int (fun _ _ _ => rfl) (by decide) (by decide) hs0 h0) (evs_cons star_t (ev_tuple (Nat.le_of_ble_eq_true rfl) (evs_cons star_c ev_str (evs_cons star_c ev_str evs_nil))) (evs_cons star_s (ev_idx (ev_name hC (by decide +kernel) (by decide +kernel) look_hd) ev_neg1 (fun _ _ _ => rfl) (by decide) (by decide) hj1 hj2) evs_nil)))) evs_nil))) (node_of (.try3 ha (.syme _) hb) (dats_cons rfl (dats_cons dat_sym (dats_cons rfl dats_nil)))))) fun h6 => sx_ifC (tst_cmp rfl (cmp_eq_int k 7) (by omega) (ev_name hC (by decide +kernel) (by decide +kernel) (look_tl (by decide +kernel) look_hd)) ev_int) (fun _ => ex_assignP hC (by decide +kernel) (fun _ => rfl) (evp_menu (n := 3) (Ps := List.replicate 3 (Inner (f + 2))) (P := Inner (f + 2)) rfl (by decide) (evsp_cons star_k (evp_of (ev_call hC.s (by decide +kernel) g_expr star_c (any_cons star_t any_nil) (expr_tells _ _) (by omega) (evs_cons star_c ev_str (evs_cons star_t (ev_tuple (Nat.le_of_ble_eq_true rfl) (evs_cons star_t (ev_tuple (Nat.le_of_ble_eq_true rfl) (evs_cons star_c ev_str (evs_cons star_c ev_str evs_nil))) (evs_cons star_s (ev_idx (ev_name hC (by decide +kernel) (by decide +kernel) look_hd) ev_int (fun _ _ _ => rfl) (by decide) (by decide) hs0 h0) evs_nil))) evs_nil))) (.inl (node_of (.arrow2 (.symy _) ha) (dats_cons dat_sym (dats_cons rfl dats_nil))))) (evsp_cons star_k (evp_of (ev_call hC.s (by decide +kernel) g_expr star_c (any_cons star_t any_nil) (expr_tells _ _) (by omega) (evs_cons star_c ev_str (evs_cons star_t (ev_tuple (Nat.le_of_ble_eq_true rfl) (evs_cons star_s (ev_idx (ev_name hC (by decide +kernel) (by decide +kernel) look_hd) ev_int (fun _ _ _ => rfl) (by decide) (by decide) hs0 h0) evs_nil)) evs_nil))) (.inl (node_of (.quote1 ha) (dats_cons rfl dats_nil)))) (evsp_cons star_c (evp_of ev_none (.inr rfl)) evsp_nil))) (evp_draw hC.s (by decide +kernel) hm (by omega) (by decide) (by decide) (ev_cell hC.s (by decide +kernel) (by decide +kernel) (by rw [hΔ]; exact look_hd))) (fun _ _ _ => rfl) menu_none) fun t k => ?inner) fun h7 => (ex_return (t := .d (.tuple [.str (Str.ofString "expr"), .str (Str.ofString "call"), .tuple ([.tuple [.str (Str.ofString "sym"), .str (Str.ofString "g")]] ++ Tr.dats (a :: r))])) (ev_call hC.s (by decide +kernel) g_expr star_c (any_cons star_b any_nil) (expr_tellsL _ _ (hz2 _)) (by omega) (evs_cons star_c ev_str (evs_cons star_b (ev_addL (d1 := [.tuple [.str (Str.ofString "sym"), .str (Str.ofString "g")]]) (d2 := Tr.dats (a :: r)) (hz1 _) (ev_list (ds := [.tuple [.str (Str.ofString "sym"), .str (Str.ofString "g")]]) (Nat.le_of_ble_eq_true rfl) (evs_cons star_t (ev_tuple (Nat.le_of_ble_eq_true rfl) (evs_cons star_c ev_str (evs_cons star_c ev_str evs_nil))) evs_nil)) (ev_name hC (by decide +kernel) (by decide +kernel) look_hd)) evs_nil))) (node_of (ok_some hu ho).2.2 (dats_cons dat_sym rfl)))
  case inner =>
    rcases k with ⟨u, hu, rfl⟩ | rfl
    · obtain ⟨ds, e⟩ := dat_tup u
      rw [e]
      exact ex_return (t := .d (.tuple ds)) (ev_ifF (tst_cmp rfl (cmp_is_tup ds) (by omega) (ev_name hC (by decide +kernel) (by decide +kernel) look_hd) ev_none) (ev_name hC (by decide +kernel) (by decide +kernel) look_hd)) ⟨u, hu, by rw [e]⟩
    · exact ex_return (t := .d (.tuple [.str (Str.ofString "expr"), .str (Str.ofString "function"), .tuple [.tuple [.str (Str.ofString "expr"), .str (Str.ofString "call"), .tuple [.tuple [.str (Str.ofString "sym"), .str (Str.ofString "h")]]], a.dat]])) (ev_ifT (tst_cmp rfl cmp_is_none (by omega) (ev_name hC (by decide +kernel) (by decide +kernel) look_hd) ev_none) (ev_call hC.s (by decide +kernel) g_expr star_c (any_cons star_t any_nil) (expr_tells _ _) (by omega) (evs_cons star_c ev_str (evs_cons star_t (ev_tuple (ds := [.tuple [.str (Str.ofString "expr"), .str (Str.ofString "call"), .tuple [.tuple [.str (Str.ofString "sym"), .str (Str.ofString "h")]]], a.dat]) (Nat.le_of_ble_eq_true rfl) (evs_cons star_k (ev_call hC.s (by decide +kernel) g_expr star_c (any_cons star_t any_nil) (expr_tells _ _) (by omega) (evs_cons star_c ev_str (evs_cons star_t (ev_tuple (Nat.le_of_ble_eq_true rfl) (evs_cons star_t (ev_tuple (Nat.le_of_ble_eq_true rfl) (evs_cons star_c ev_str (evs_cons star_c ev_str evs_nil))) evs_nil)) evs_nil))) (evs_cons star_s (ev_idx (ev_name hC (by decide +kernel) (by decide +kernel) (look_tl (by decide +kernel) look_hd)) ev_int (fun _ _ _ => rfl) (by decide) (by decide) hs0 h0) evs_nil))) evs_nil)))) (node_of (.function2 (.call1 (.symh _)) ha) (dats_cons (dat_node (dats_cons dat_sym dats_nil)) (dats_cons rfl dats_nil)))
end
end Mine
namespace Mine
open PySem PySem.W PyProof.Rows PySem.Spec PySem.Calls
set_option linter.all false
variable {w : World}
theorem par12x {p1 p2 : Str} {t1 t2 : Ent} {cs cs' : List (Str × Addr)} (h1 : cs.lookup p1 = cs'.lookup p1) (h2 : cs.lookup p2 = cs'.lookup p2) {Δ : Tys} (hΔ : Δ = [(p1, t1), (p2, t2)]) : ∀ y t, List.lookup y [(p1, t1), (p2, t2)] = some t → Δ.lookup y = some t ∧ cs.lookup y = cs'.lookup y := fun y t hy => ⟨by rw [hΔ]; exact hy, par12e hy h1 h2⟩
/-- the one part of a return -/
def RetP (f : Nat) (t : Ent) : Prop := ∃ us : List Tr, t = .d (.tuple (Tr.dats us)) ∧ (us = [] ∨ ∃ a, us = [a] ∧ Ok f a)
theorem retP_one {f : Nat} : ∀ ts, AllP [TreeOf f] ts → ∃ ds : List Dat, ts = ds.map .d ∧ ds.length ≤ 24 ∧ RetP f (.d (.tuple ds)) := fun ts h => by
  match ts, h with
  | [t], ⟨⟨u, h1, h2⟩, _⟩ => exact ⟨[u.dat], by rw [h2]; rfl, Nat.le_of_ble_eq_true rfl, [u], by rw [Tr.dats, Tr.dats], .inr ⟨u, rfl, h1⟩⟩
theorem expr_ret {f : Nat} : ∀ ts, AllP [(fun t => t = .d (.str (Str.ofString "return"))), RetP f] ts → XTells w 54 1 ts [] (TreeOf (f + 1)) := fun ts h => by
  match ts, h with
  | [t1, t2], ⟨h1, ⟨us, h2, hu⟩, _⟩ =>
    have h1 : t1 = .d (.str (Str.ofString "return")) := h1
    subst h1
    subst h2
    have ok : Ok (f + 1) (.node (Str.ofString "return") us) := by
      rcases hu with rfl | ⟨a, rfl, ha⟩
      · exact .ret0 f
      · exact .ret1 ha
    exact fun C m s args rd Q E a1 a2 a3 a4 a5 a6 a7 a8 ret => expr_tells _ _ C m s args rd Q E a1 a2 a3 a4 a5 a6 a7 a8 fun r h' tk' tl t M' b1 b2 b3 b4 b5 b6 b7 b8 b9 k => ret r h' tk' tl t M' b1 b2 b3 b4 b5 b6 b7 b8 b9 ⟨k.1, k.2 ▸ node_of ok rfl⟩
theorem tree_step (sk : Addr) (f : Nat) (IH : ∀ g, f = g + 1 → XTells w 218 (g + 14) [.r sk, .d (.int g)] [(sk, .sack)] (TreeOf (g + 1))) : XTells w 218 (f + 14) [.r sk, .d (.int f)] [(sk, .sack)] (TreeOf (f + 1)) := by
  refine fn_tellsC (n := f + 13) (p1 := Str.ofString "sack") (p2 := Str.ofString "floors") [] (treeΔ sk f) ⟨⟨_, _, _, _, _, _, _, _, _, _, _, _, _, by exact rfl, by exact rfl, fun _ _ _ => BindsTo.of_eq rfl⟩, fun _ _ => rfl, by decide +kernel, rfl, rfl, rfl⟩ (by decide +kernel) (fun _ _ h => nomatch h) ?_ ?_ fun C hC hΔ hcl hsz => ?_
  · exact par12 (by decide +kernel) (by decide +kernel)
  · exact fun L x t hx => par12c hx (c1 := L + 1) (c2 := L + 2) (by exact rfl) (by exact rfl)
  have hm : (sk, Cell.sack) ∈ [(sk, Cell.sack)] := .head _
  refine ex_assignP (P1 := Num (fun k => k < 9 ∧ (f = 0 → k < 3))) hC (by decide +kernel) (fun _ => rfl) (evp_if (PB := fun b => b = decide ((0 : Int) < (f : Int))) (tstp_of (tst_cmp rfl (cmp_gt_int f 0) (by omega) (ev_cell hC.s (by decide +kernel) (by decide +kernel) (by rw [hΔ]; exact (look_tl (by decide +kernel) look_hd))) ev_int) rfl) (fun hb => evp_mono (evp_draw hC.s (by decide +kernel) hm (by omega) (by decide) (by decide) (ev_cell hC.s (by decide +kernel) (by decide +kernel) (by rw [hΔ]; exact look_hd))) ?d9) (fun hb => evp_mono (evp_draw hC.s (by decide +kernel) hm (by omega) (by decide) (by decide) (ev_cell hC.s (by decide +kernel) (by decide +kernel) (by rw [hΔ]; exact look_hd))) ?d3)) fun t kt => ?_
  case d9 =>
    rintro t ⟨k, rfl, hk⟩
    have hb := of_decide_eq_true hb.symm
    exact ⟨k, rfl, hk, fun h => by omega⟩
  case d3 =>
    rintro t ⟨k, rfl, hk⟩
    have hk : k < 3 := hk
    exact ⟨k, rfl, by omega, fun _ => hk⟩
  obtain ⟨k, rfl, hk9, hk3⟩ := kt
  refine sx_ifC (tst_cmp rfl (cmp_eq_int k 0) (by omega) (ev_name hC (by decide +kernel) (by decide +kernel) look_hd) ev_int) (fun _ => ex_returnP (evp_mono (evp_call hC.s (by decide +kernel) g_leaf star_n any_nil (leaf_tells sk) (by omega) (sack_in hm) sack_nd (evs_cons star_n (ev_cell hC.s (by decide +kernel) (by decide +kernel) (by rw [hΔ]; exact look_hd)) evs_nil)) fun t h => h.more (by omega))) fun h0 => sx_ifC (tst_cmp rfl (cmp_lt_int k 3) (by omega) (ev_name hC (by decide +kernel) (by decide +kernel) look_hd) ev_int) (fun _ => ex_returnP (evp_callP (M₁ := []) (Ps := [(fun t => t = .d (.str (Str.ofString "return"))), RetP f]) hC.s (by decide +kernel) g_expr star_c (any_cons star_i any_nil) expr_ret (by omega) (fun _ h => nomatch h) .nil (evsp_cons star_c (evp_of ev_str rfl) (evsp_cons star_i (evp_if (PB := fun _ => True) (tstp_cmp (P2 := fun t => t = .d (.int 0)) rfl (by omega) (evp_draw hC.s (by decide +kernel) hm (by omega) (by decide) (by decide) (ev_cell hC.s (by decide +kernel) (by decide +kernel) (by rw [hΔ]; exact look_hd))) (evp_of ev_int rfl) ?z) (fun _ => evp_of (ev_tuple (ds := []) (Nat.le_of_ble_eq_true rfl) evs_nil) ⟨[], by rw [Tr.dats], .inl rfl⟩) (fun _ => evp_tuple (Ps := [TreeOf f]) (evsp_cons star_i (evp_if (PB := fun b => b = decide ((f : Int) ≤ (0 : Int))) (tstp_of (tst_cmp rfl (cmp_le_int f 0) (by omega) (ev_cell hC.s (by decide +kernel) (by decide +kernel) (by rw [hΔ]; exact (look_tl (by decide +kernel) look_hd))) ev_int) rfl) (fun hb => evp_mono (evp_call hC.s (by decide +kernel) g_leaf star_n any_nil (leaf_tells sk) (by omega) (sack_in hm) sack_nd (evs_cons star_n (ev_cell hC.s (by decide +kernel) (by decide +kernel) (by rw [hΔ]; exact look_hd)) evs_nil)) fun t h => h.more (by omega)) (fun hb => ?sub)) evsp_nil) retP_one)) evsp_nil)))) fun h3 => ?_
  case z =>
    rintro t1 t2 ⟨i, rfl, _⟩ rfl
    exact ⟨_, _, _, rfl, rfl, cmp_eq_int _ _, trivial⟩
  case sub =>
    have hf : ¬ (f : Int) ≤ 0 := of_decide_eq_false hb.symm
    obtain ⟨g, rfl⟩ : ∃ g, f = g + 1 := ⟨f - 1, by omega⟩
    exact (evp_call hC.s (by decide +kernel) g_tree star_n (any_cons star_b any_nil) (IH g rfl) (by omega) (sack_in hm) sack_nd (evs_cons star_n (ev_cell hC.s (by decide +kernel) (by decide +kernel) (by rw [hΔ]; exact look_hd)) (evs_cons star_b (ev_bin (bin_sub1 g) (ev_cell hC.s (by decide +kernel) (by decide +kernel) (by rw [hΔ]; exact (look_tl (by decide +kernel) look_hd))) ev_int) evs_nil)))
  have hk : ¬ (k : Int) < 3 := of_decide_eq_false h3
  have hf : f ≠ 0 := fun h => by have := hk3 h; omega
  obtain ⟨g, rfl⟩ : ∃ g, f = g + 1 := ⟨f - 1, by omega⟩
  refine sx_assignComp (P := fun t => ∃ us : List Tr, t = .d (.list (Tr.dats us)) ∧ (us.length = 1 ∨ us.length = 2) ∧ ∀ u ∈ us, Ok (g + 1) u) hC (by decide +kernel) (fun _ _ _ _ _ => by kernel_rfl) (fun _ => rfl) rfl rfl (fun _ => rfl) (fun _ _ => rfl) (by rw [hC.e, hcl]; with_unfolding_all rfl) rfl (by decide +kernel)
    (comp_range (Δ := treeΔ sk (g + 1)) (B := fun k => 1 ≤ k ∧ k ≤ 2) (PD := fun _ d => TreeOf (g + 1) (.d d)) (by decide +kernel) rfl (by decide +kernel) (par12x (by rw [hC.e, hcl]; rfl) (by rw [hC.e, hcl]; rfl) hΔ) rfl hC.s (by rw [hC.e]) (by decide +kernel) (by kernel_rfl) (by boot_fast) (by decide) (by decide +kernel) (fun _ => rfl) (fun k hk => by omega)
      (evp_bin (P1 := fun t => t = .d (.int 1)) (evp_of ev_int rfl) (evp_draw hC.s (by decide +kernel) hm (by omega) (by decide) (by decide) (ev_cell hC.s (by decide +kernel) (by decide +kernel) (by rw [hΔ]; exact look_hd))) ?one) (fun i _ I c D oI oC oD m₂ ho => evp_mono (evp_call (relabel_at hC.s) (by decide +kernel) g_tree star_n (any_cons star_b any_nil) (IH g rfl) (by show g + 14 ≤ C.sz; omega) (sack_in (.tail _ (.tail _ (.tail _ hm)))) sack_nd (evs_cons star_n (ev_cell (relabel_at hC.s) (by decide +kernel) (by decide +kernel) look_hd) (evs_cons star_b (ev_bin (bin_sub1 g) (ev_cell (relabel_at hC.s) (by decide +kernel) (by decide +kernel) (look_tl (by decide +kernel) look_hd)) ev_int) evs_nil))) ?elt) ?fin) fun t kt => ?_
  case one =>
    rintro t1 t2 rfl ⟨i, rfl, hi⟩
    have hi : i < 2 := hi
    refine ⟨_, _, _, rfl, rfl, bin_add_int _ _, i + 1, ?_, by omega, by omega⟩
    rw [show (1 : Int) + (i : Int) = ((i + 1 : Nat) : Int) by omega]
  case elt =>
    rintro t ⟨u, h1, h2⟩
    exact ⟨_, h2, u, h1, rfl⟩
  case fin =>
    intro es hes hall
    obtain ⟨us, h1, h2, h3⟩ := trees_of hall
    exact ⟨us, by rw [h1], by omega, h3⟩
  obtain ⟨us, rfl, hu, ho⟩ := kt
  exact sx_mono (tree_more g k hk9 hC hΔ (by omega) hm us hu ho) (fun _ _ h => h) fun t M' ⟨a, b, h1, h2, h3⟩ => ⟨a, b, h1, h2, h3⟩
theorem tree_all (sk : Addr) : ∀ f : Nat, XTells w 218 (f + 14) [.r sk, .d (.int f)] [(sk, .sack)] (TreeOf (f + 1))
  | 0 => tree_step sk 0 fun _ h => nomatch h
  | f + 1 => tree_step sk (f + 1) fun g h => by cases h; exact tree_all sk f
end Mine
namespace Mine
open PySem PySem.W PyProof.Rows PySem.Spec PySem.Calls
set_option linter.all false
/-- the arguments of the law's heads -/
inductive Ar where
  | pat
  | plain
  | typed
def nm (p : String) (i : Int) : Str := Str.ofString p ++ Str.ofString (toString i)
abbrev symD (x : Str) : Dat := .tuple [.str (Str.ofString "sym"), .str x]
abbrev nodeD (w : Str) (ds : List Dat) : Dat := .tuple [.str (Str.ofString "expr"), .str w, .tuple ds]
abbrev patD (i : Nat) : Dat := nodeD (Str.ofString "tuple") [symD (nm "p" i), symD (nm "q" i)]
def arD (i : Nat) : Ar → Dat
  | .pat => patD i
  | .plain => symD (nm "a" i)
  | .typed => nodeD (Str.ofString "::") [symD (nm "a" i), symD (Str.ofString "K")]
def nameD (i : Nat) : Ar → Str
  | .pat => nm "#" (i + 1)
  | .plain => nm "a" i
  | .typed => nm "a" i
def arsD : Nat → List Ar → List Dat
  | _, [] => []
  | i, a :: r => arD i a :: arsD (i + 1) r
/-- what takes the arguments apart -/
def takeD (i : Nat) : Ar → List Dat
  | .pat => [nodeD (Str.ofString "=") [patD i, symD (nm "#" (i + 1))]]
  | .plain => []
  | .typed => []
def takesD : Nat → List Ar → List Dat
  | _, [] => []
  | i, a :: r => takeD i a ++ takesD (i + 1) r
/-- the head's own list of patterns: (tree, name) -/
def pattD (i : Nat) : Ar → List Dat
  | .pat => [.tuple [patD i, .str (nm "#" (i + 1))]]
  | .plain => []
  | .typed => []
def patsD : Nat → List Ar → List Dat
  | _, [] => []
  | i, a :: r => pattD i a ++ patsD (i + 1) r
theorem arsD_snoc (a : Ar) : ∀ (as : List Ar) (i : Nat), arsD i (as ++ [a]) = arsD i as ++ [arD (i + as.length) a]
  | [], i => rfl
  | b :: r, i => by rw [List.cons_append, arsD, arsD, arsD_snoc a r, List.length_cons, List.cons_append, show i + 1 + r.length = i + (r.length + 1) by omega]
theorem takesD_snoc (a : Ar) : ∀ (as : List Ar) (i : Nat), takesD i (as ++ [a]) = takesD i as ++ takeD (i + as.length) a
  | [], i => by simp [takesD]
  | b :: r, i => by rw [List.cons_append, takesD, takesD, takesD_snoc a r, List.length_cons, List.append_assoc, show i + 1 + r.length = i + (r.length + 1) by omega]
theorem patsD_snoc (a : Ar) : ∀ (as : List Ar) (i : Nat), patsD i (as ++ [a]) = patsD i as ++ pattD (i + as.length) a
  | [], i => by simp [patsD]
  | b :: r, i => by rw [List.cons_append, patsD, patsD, patsD_snoc a r, List.length_cons, List.append_assoc, show i + 1 + r.length = i + (r.length + 1) by omega]
/-- the heads that the law builds -/
inductive Hd where
  | plain
  | own
  | kind
  | tup
def headD (as : List Ar) : Hd → Dat
  | .plain => nodeD (Str.ofString "call") (symD (Str.ofString "f") :: arsD 0 as)
  | .own => nodeD (Str.ofString "call") (nodeD (Str.ofString "::") [symD (Str.ofString "own"), symD (Str.ofString "Kind")] :: arsD 0 as)
  | .kind => nodeD (Str.ofString "call") (nodeD (Str.ofString "::") [symD (Str.ofString "Kind")] :: arsD 0 as)
  | .tup => nodeD (Str.ofString "tuple") (arsD 0 as)
def ownD : Hd → List Dat
  | .own => [nodeD (Str.ofString "=") [symD (Str.ofString "own"), symD (Str.ofString "#self")]]
  | _ => []
def kindD : Option Dat → Dat → Dat
  | none, h => h
  | some k, h => nodeD (Str.ofString "::") [h, k]
def whereD : Bool → Dat → Dat
  | true, h => nodeD (Str.ofString "where") [h, symD (Str.ofString "T")]
  | false, h => h
def treeD (as : List Ar) (hd : Hd) (kd : Option Dat) (wh : Bool) (body : Dat) : Dat := nodeD (Str.ofString "function") [whereD wh (kindD kd (headD as hd)), body]
theorem nm_ok {p : String} {i : Nat} (hi : i < 4) (h : ∀ i ∈ [0, 1, 2, 3], PyData.strOk (nm p (i : Nat)) = true) : PyData.strOk (nm p i) = true := by
  have : i = 0 ∨ i = 1 ∨ i = 2 ∨ i = 3 := by omega
  rcases this with rfl | rfl | rfl | rfl <;> exact h _ (by simp)
theorem p_ok {i : Nat} (hi : i < 4) : PyData.strOk (nm "p" i) = true := nm_ok hi (by decide +kernel)
theorem q_ok {i : Nat} (hi : i < 4) : PyData.strOk (nm "q" i) = true := nm_ok hi (by decide +kernel)
theorem a_ok {i : Nat} (hi : i < 4) : PyData.strOk (nm "a" i) = true := nm_ok hi (by decide +kernel)
theorem h_ok {i : Nat} (hi : i < 3) : PyData.strOk (nm "#" (i + 1)) = true := by
  have : i = 0 ∨ i = 1 ∨ i = 2 := by omega
  rcases this with rfl | rfl | rfl <;> decide +kernel
theorem headw_ok : ∀ x ∈ [Str.ofString "tuple", Str.ofString "::", Str.ofString "=", Str.ofString "K", Str.ofString "own", Str.ofString "Kind", Str.ofString "f", Str.ofString "T", Str.ofString "#self", Str.ofString "where", Str.ofString "Int64", Str.ofString "curly", Str.ofString "Vector"], PyData.strOk x = true := by decide +kernel
theorem kq_nodeD {n : Nat} {w : Str} {ds : List Dat} (hw : PyData.strOk w = true) (h : ∀ d ∈ ds, kqdOk n d = true) : kqdOk (n + 2) (nodeD w ds) = true := kq_node hw h
theorem kq_symD {n : Nat} {x : Str} (hx : PyData.strOk x = true) : kqdOk (n + 1) (symD x) = true := kq_sym n hx
theorem kq_patD {i : Nat} (hi : i < 4) : kqdOk 3 (patD i) = true := by
  refine kq_nodeD (n := 1) (headw_ok _ (by decide +kernel)) fun d hd => ?_
  simp only [List.mem_cons, List.not_mem_nil, or_false] at hd
  rcases hd with rfl | rfl
  · exact kq_symD (p_ok hi)
  · exact kq_symD (q_ok hi)
theorem pat_ne_own (i : Nat) : patD i ≠ symD (Str.ofString "own") := by
  intro h
  simp [patD, nodeD, symD] at h
end Mine
namespace Mine
open PySem PySem.W PyProof.Rows PySem.Spec PySem.Calls
set_option linter.all false
open LCg
variable {w : World} {C : Cx w} {Γ Γ' : Tys} {M M' : Cells} {pos p p2 px py pz : Pos} {sc csc : Scope} {rest : List Stmt} {N : Tys → Cells → Prop} {PP : Ent → Cells → Prop} {e e1 e2 e3 : PySem.Expr} {k k2 : Nat} {x y z : Str}
/-- str(e) -/
theorem ev_strOf {i : Int} (hi : i.natAbs < 1000) (hC : Fm C sc) (hk : sc.names.lookup (Str.ofString "str") = some .globalImplicit) (hx : nsIn (KK w.params) mainGlobals (Str.ofString "str") = some none) (hb : bootBuiltins (Str.ofString "str") = some (.type "str"))
    (hn : Str.ofString "str" ≠ Str.ofString "__name__") (hd' : (Str.ofString "str" == Str.ofString "__debug__") = false) (hs : ∀ env, starEach [e] env = [(false, eval e env)]) (h : Ev C Γ M e (.d (.int i))) : Ev C Γ M (.Call (.Name (Str.ofString "str") p) [e] [] pos) (.d (.str (Str.ofString (toString i)))) := .mk <| fun m R s Q E S hΓ ret => by
  refine Call_ (nameG_B S.F C.X (topRead_of C.T) hx hb hn ?_ C.hE (by rw [hC.e]) C.hkE (kind_at hC.s hk) hd')
  refine PyProof.Rows.callWith_type1 ((evs_cons hs h evs_nil).run pos m R s _ E S hΓ fun vs h' tk R' S' hs' hD => ?_) (hs _)
  match vs, hD with
  | [v], ⟨hD1, _⟩ =>
    have hD1 : DatIn (C.G ++ R') v (.int i) := hD1
    cases hD1 with
    | int _ t =>
      refine P.str_of_int ?_ (ret _ h' _ R' (S'.toks _) hs' (.str _ _))
      refine Nat.lt_of_le_of_lt (Nat.log2_le_self _) (by omega)
theorem St.ext {m : Str → Option Value} {R : Led} {s : Shared} {h' : Heap} (S : St C m M R s) (he : Heap.ExtBut s.heap.objs.size s.heap h') (tk : Nat) : St C m M R (upS s h' tk) :=
  ⟨S.F.extBut he (Nat.le_refl _), fun p hp => ⟨he _ _ (Nat.ne_of_lt (Heap.lt_size (S.N p hp).1)) (S.N p hp).1, (S.N p hp).2⟩, fun q hq => let ⟨o, h1, h2, h3⟩ := S.cs q hq; ⟨o, h1, he _ _ (Nat.ne_of_lt (Heap.lt_size h2)) h2, h3⟩, S.nd, S.off⟩
/-- two names, stored -/
theorem St.store2 {m : Str → Option Value} {R : Led} {s : Shared} {v1 v2 : Value} {t1 t2 : Ent} {Q : Flow → Shared → Prop} (S : St C m M R s) (hC : Fm C sc) (hΓ : EnvOk C m R Γ) (hx : sc.names.lookup x = some .local) (hy : sc.names.lookup y = some .local) (h1 : EntIn (C.G ++ R) v1 t1) (h2 : EntIn (C.G ++ R) v2 t2) (r : Sx C ((x, t1) :: (y, t2) :: Γ) M rest N PP)
    (nx : ∀ m' h tk R' Γ' M', St C m' M' R' (upS s h tk) → (∀ p ∈ R, p ∈ R') → EnvOk C m' R' Γ' → N Γ' M' → Q .next (upS s h tk))
    (ret : ∀ v m' h tk R' M' t, St C m' M' R' (upS s h tk) → (∀ p ∈ R, p ∈ R') → EntIn (C.G ++ R') v t → PP t M' → Q (.ret v) (upS s h tk)) :
    wpAny (PM w) C.A (assignInOrder [bindName C.env y, bindName C.env x] [v2, v1]) (fun _ s' => wpAny (PM w) C.A (execs rest C.env) Q (fun _ _ => False) s') (fun _ _ => False) s := by
  refine assignInOrder_cons (bindName_ (S.store hC hy fun ha ta Sa => assignInOrder_cons (bindName_ (Sa.store hC hx fun hb tb Sb => assignInOrder_nil ?_))))
  exact r.run _ R _ Q Sb (env_store hC (env_store hC hΓ h2) h1) nx ret
/-- x, y = e1, e2 -/
theorem sx_pair {PA : Ent → Cells → Prop} {PB : Ent → Ent → Cells → Prop} (hC : Fm C sc) (hx : sc.names.lookup x = some .local) (hy : sc.names.lookup y = some .local) (hs : ∀ cn L a ccd cl, swapsWithSole [.Tuple [.Name x px, .Name y py] k p] (.Tuple [e1, e2] k2 p2) pos.line (envX cn sc L a ccd cl) = pure false)
    (hw : ∀ cn L a ccd cl, swappedStores [.Tuple [.Name x px, .Name y py] k p] (.Tuple [e1, e2] k2 p2) (envX cn sc L a ccd cl) = pure (some [x, y])) (s1 : ∀ env, starEach [e1, e2] env = (false, eval e1 env) :: starEach [e2] env) (s2 : ∀ env, starEach [e2] env = [(false, eval e2 env)])
    (h1 : EvY C Γ M e1 PA) (h2 : ∀ t M1, PA t M1 → EvY C Γ M1 e2 (PB t)) (r : ∀ t1 t2 M2, PB t1 t2 M2 → Sx C ((x, t1) :: (y, t2) :: Γ) M2 rest N PP) : Sx C Γ M (.Assign [.Tuple [.Name x px, .Name y py] k p] (.Tuple [e1, e2] k2 p2) pos :: rest) N PP := .mk <| fun m R s Q S hΓ nx ret => by
  refine wpAny_execs_cons (Assign_Tuple_swapped (names := [x, y]) (Tuple_ (spliced_more (h1.run m R s _ _ S hΓ fun v1 ha tka R1 t1 M1 S1 hs1 hv1 k1 => spliced_more ((h2 t1 M1 k1).run m R1 _ _ _ S1 (hΓ.mono hs1) fun v2 hb tkb R2 t2 M2 S2 hs2 hv2 k2 => spliced_none ?_) (s2 _)) (s1 _))) (by rw [hC.e, hC.c]; exact hs _ _ _ _ _) (by rw [hC.e, hC.c]; exact hw _ _ _ _ _))
  refine newTuple_NK S2.F S2.N (fun h'' F N' kp => ?_) (by rw [sizeLine_eq]; exact Nat.le_of_ble_eq_true rfl)
  have S3 := S2.new (D := hb.objs.size) (o := { cls := .type "tuple", data := .seq [v1, v2].toArray }) (fun os N2 => by
    intro p hp
    rcases List.mem_cons.mp hp with rfl | hp
    · exact N' _ (.head _)
    · exact ⟨kp _ _ (N2 p hp).1, (N2 p hp).2⟩) (Nat.le_refl _) F tkb
  refine unpackItems_tuple (items := [v1, v2].toArray) rfl ⟨_, (N' _ (.head _)).1, rfl, _, rfl⟩ fun h3 he => ?_
  have S4 := S3.ext he tkb
  have up : ∀ q ∈ R, q ∈ (hb.objs.size, ({ cls := .type "tuple", data := .seq [v1, v2].toArray } : Obj)) :: R2 := fun q hq => .tail _ (hs2 q (hs1 q hq))
  exact St.store2 (x := x) (y := y) (s := upS s h3 tkb) ⟨S4.F, S4.N, S4.cs, S4.nd, S4.off⟩ hC (hΓ.mono up) hx hy (hv1.mono (up_mono fun q hq => .tail _ (hs2 q hq))) (hv2.mono (up_mono fun q hq => .tail _ hq)) (r t1 t2 M2 k2) (fun m' h tk R' Γ' M' S' hs' => nx m' h tk R' Γ' M' S' fun q hq => hs' q (up q hq)) fun v m' h tk R' M' t S' hs' => ret v m' h tk R' M' t S' fun q hq => hs' q (up q hq)
/-- x, y = e, e a tuple of two -/
theorem sx_unpack2 {P : Ent → Prop} (hC : Fm C sc) (hx : sc.names.lookup x = some .local) (hy : sc.names.lookup y = some .local) (hs : ∀ cn L a ccd cl, swapsWithSole [.Tuple [.Name x px, .Name y py] k p] e pos.line (envX cn sc L a ccd cl) = pure false)
    (hw : ∀ cn L a ccd cl, swappedStores [.Tuple [.Name x px, .Name y py] k p] e (envX cn sc L a ccd cl) = pure none) (h : EvP C Γ M e P) (hP : ∀ t, P t → ∃ d1 d2, t = .d (.tuple [d1, d2])) (r : ∀ d1 d2, P (.d (.tuple [d1, d2])) → Sx C ((y, .d d2) :: (x, .d d1) :: Γ) M rest N PP) : Sx C Γ M (.Assign [.Tuple [.Name x px, .Name y py] k p] e pos :: rest) N PP := .mk <| fun m R s Q S hΓ nx ret => by
  refine wpAny_execs_cons (Assign_Tuple (h.run m R s _ _ S hΓ fun v ha tka R1 t S1 hs1 hv hP1 => ?_) (by rw [hC.e, hC.c]; exact hs _ _ _ _ _) (by rw [hC.e, hC.c]; exact hw _ _ _ _ _))
  obtain ⟨d1, d2, rfl⟩ := hP t hP1
  have hv : DatIn (C.G ++ R1) v (.tuple [d1, d2]) := hv
  cases hv with
  | @tuple ax vs n _ hm hr =>
  match vs, hr with
  | [v1, v2], .cons q1 (.cons q2 .nil) =>
  refine assign_Tuple_tuple (items := [v1, v2].toArray) rfl ⟨_, S1.reads _ hm, rfl, _, rfl⟩ rfl rfl fun h3 he => ?_
  have S4 := S1.ext he tka
  have S4 : St C m M R1 (upS s h3 tka) := ⟨S4.F, S4.N, S4.cs, S4.nd, S4.off⟩
  refine assignInOrder_cons (assign_Name (S4.store hC hx fun hb tb Sb => assignInOrder_cons (assign_Name (Sb.store hC hy fun hc tc Sc => assignInOrder_nil ?_))))
  exact (r d1 d2 hP1).run _ R1 _ Q ⟨Sc.F, Sc.N, Sc.cs, Sc.nd, Sc.off⟩ (env_store hC (env_store hC (hΓ.mono hs1) q1) q2) (fun m' h tk R' Γ' M' S' hs' => nx m' h tk R' Γ' M' S' fun q hq => hs' q (hs1 q hq)) fun v m' h tk R' M' t S' hs' => ret v m' h tk R' M' t S' fun q hq => hs' q (hs1 q hq)
/-- a test and a test, drawn -/
theorem tstp_and {es : List PySem.Expr} {PA PB : Bool → Prop} (h : TstP C Γ M e PA) (hF : PA false → PB false) (r : PA true → TstP C Γ M (.BoolOp .And es pos) PB) : TstP C Γ M (.BoolOp .And (e :: es) pos) PB := .mk <| fun m R s Q E S hΓ ret =>
  isTrue_and (h.run m R s _ E S hΓ fun b h' tk R' S' hs' hP => by
    cases b with
    | true =>
      rw [if_pos rfl]
      exact (r hP).run m R' _ Q E S' (hΓ.mono hs') fun b2 h2 tk2 R2 S2 hs2 => ret b2 h2 tk2 R2 S2 fun q hq => hs2 q (hs' q hq)
    | false => exact ret false h' tk R' S' hs' (hF hP))
/-- a value that is a list that stands, with these items -/
def ListE (t : Ent) (ts : List Ent) : Prop := ∀ nw v, EntIn nw v t → ∃ l vs n, v = .ref l ∧ (l, W.listOf (List.toArray vs) n) ∈ nw ∧ EntAll nw vs ts
theorem EntAll.of_dats {nw : Led} : ∀ {vs : List Value} {ds : List Dat}, DatAll nw vs ds → EntAll nw vs (ds.map .d)
  | [], [], _ => trivial
  | _ :: _, _ :: _, .cons h r => ⟨h, EntAll.of_dats r⟩
theorem listE_d {ds : List Dat} : ListE (.d (.list ds)) (ds.map .d) := fun nw v h => by
  have h : DatIn nw v (.list ds) := h
  cases h with
  | list hm hr => exact ⟨_, _, _, rfl, hm, .of_dats hr⟩
theorem entAll_args {nw : Led} : ∀ {vs : List Value} {xs : List Str}, ArgsIn nw vs xs → EntAll nw vs (xs.map .arg)
  | [], [], _ => trivial
  | _ :: _, _ :: _, ⟨h, r⟩ => ⟨h, entAll_args r⟩
theorem listE_a {xs : List Str} : ListE (.args xs) (xs.map .arg) := fun nw v ⟨l, vs, n, e, hm, hr⟩ => ⟨l, vs, n, e, hm, entAll_args hr⟩
theorem EntAll.at {nw : Led} : ∀ {vs : List Value} {ts : List Ent}, EntAll nw vs ts → ∀ {i : Nat} {v : Value}, vs[i]? = some v → ∃ t, ts[i]? = some t ∧ EntIn nw v t
  | [], [], _, i, v, h => by simp at h
  | _ :: _, _ :: _, ⟨h, _⟩, 0, v, hv => by simp at hv; subst hv; exact ⟨_, rfl, h⟩
  | _ :: _, _ :: _, ⟨_, r⟩, i + 1, v, hv => by
    obtain ⟨t, h1, h2⟩ := EntAll.at r (i := i) (by simpa using hv)
    exact ⟨t, by simpa using h1, h2⟩
theorem EntAll.len' {nw : Led} : ∀ {vs : List Value} {ts : List Ent}, EntAll nw vs ts → vs.length = ts.length
  | [], [], _ => rfl
  | _ :: _, _ :: _, ⟨_, r⟩ => by rw [List.length_cons, List.length_cons, EntAll.len' r]
end Mine
namespace Mine
open PySem PySem.W PyProof.Rows PySem.Spec PySem.Calls
set_option linter.all false
open LCg
variable {w : World}
section
variable {C : Cx w} {Γ : Tys} {M : Cells} {sc csc : Scope} {elt iter : PySem.Expr} {gens : List Comprehension} {x y : Str} {px pos p2 : Pos} {cl : List (Str × Addr)} {P : Ent → Prop} {Δ : Tys} {N : Tys → Cells → Prop} {PP : Ent → Cells → Prop} {rest : List Stmt}
theorem compEnd_monoT {h₀ : Heap} {L I C D : Addr} {m : Str → Option Value} {s₁ s₂ : Shared} {oI oC oD : Obj} {S : Led → Prop} {r r' : Value → Led → Prop} {y : Value} (h : ∀ y nw, r y nw → r' y nw) (x : CompEnd h₀ L m s₁ I oI C oC D oD S r y s₂) : CompEnd h₀ L m s₁ I oI C oC D oD S r' y s₂ :=
  let ⟨h', tk, nw, e, F, N, o, hS, hr⟩ := x; ⟨h', tk, nw, e, F, N, o, hS, h _ _ hr⟩
theorem compRestT_ind {prog : Program} {A : Around} {s : Shared} {h₀ : Heap} {L : Addr} {m : Str → Option Value} {env : Env} {ct elt : PySem.Expr} {x : Str} {scope : Scope} {cl : List (Str × Addr)} {S : Led → Prop} {P : Nat → Value → Prop} {Fin : List Value → Led → Prop} (J : Nat → List Value → Led → Prop) (n : Nat)
    (step : ∀ i ys news, i < n → J i ys news → ∀ v I oI C oC D m₂ h tk (E' : Value → Shared → Prop), P i v → NsObj oC m₂ → m₂ x = some v → Fr h₀ L h m → News h₀ L h ((I, oI) :: (C, oC) :: (D, lst ys) :: news) → Off3 I C D news → ((@Ne Nat I C) ∧ (@Ne Nat I D) ∧ (@Ne Nat C D)) →
      wpAny (model prog w) A (PySem.isTrue ct (compEnvC scope cl C env) (eval ct (compEnvC scope cl C env))) (fun ok s' => if ok = true then
        wpAny (model prog w) A (eval elt (compEnvC scope cl C env)) (CompEnd h₀ L m { s with heap := h, toks := tk } I oI C oC D (lst ys) S (fun y news' => J (i + 1) (ys ++ [y]) news')) E' s'
        else CompEnd h₀ L m { s with heap := h, toks := tk } I oI C oC D (lst ys) S (fun _ news' => J (i + 1) ys news') Value.none s') E' { s with heap := h, toks := tk })
    (fin : ∀ ys news, J n ys news → Fin ys news) : ∀ k i ys news, i + k = n → J i ys news → LCt.CompRestT prog w A h₀ L m env ct elt x scope cl s S P Fin k i ys news := by
  intro k
  induction k with
  | zero => intro i ys news hi hj; exact .zero (fin ys news (by rw [← hi]; exact hj))
  | succ k ih =>
    intro i ys news hi hj
    refine .succ fun v I oI C oC D m₂ h tk E' hp hc hx F N o ne => ?_
    refine wpAny_mono (step i ys news (by omega) hj v I oI C oC D m₂ h tk E' hp hc hx F N o ne) (fun ok s₂ q => ?_) fun _ _ e => e
    cases ok with
    | true => exact wpAny_mono q (fun y s₂ q => compEnd_monoT (fun y nw r => ih (i + 1) (ys ++ [y]) nw (by omega) r) q) fun _ _ e => e
    | false => exact compEnd_monoT (y := Value.none) (fun _ nw r => ih (i + 1) ys nw (by omega) r) q
/-- what a comprehension with a test picks -/
def picked (kb : Nat → Bool) (de : Nat → Dat) : Nat → List Dat
  | 0 => []
  | n + 1 => picked kb de n ++ bif kb n then [de n] else []
theorem picked_t {kb : Nat → Bool} {de : Nat → Dat} {i : Nat} (h : kb i = true) : picked kb de i ++ [de i] = picked kb de (i + 1) := by rw [picked, h]; rfl
theorem picked_f {kb : Nat → Bool} {de : Nat → Dat} {i : Nat} (h : kb i = false) : picked kb de i = picked kb de (i + 1) := by rw [picked, h]; simp
/-- what holds between the turns -/
def CmT (C : Cx w) (M : Cells) (R₀ : Led) (kb : Nat → Bool) (de : Nat → Dat) (i : Nat) (ys : List Value) (nw : Led) : Prop :=
  ∃ os R ds, nw = os ++ R ∧ (∀ p ∈ R₀, p ∈ R) ∧ (∀ q ∈ M, ∃ o, CellIn (C.G ++ R) o q.2 ∧ (q.1, o) ∈ os) ∧ os.map (·.1) = M.map (·.1) ∧ (∀ p ∈ R, p.1 ∉ M.map (·.1)) ∧ DatAll (C.G ++ R) ys ds ∧ ds = picked kb de i
theorem comp_coreT {m : Str → Option Value} {R : Led} {s : Shared} {H : Heap} {tk : Nat} {I : Addr} {fp : List Addr} {n : Nat} {P : Nat → Value → Prop} {Sti : Nat → Heap → Prop} {SS : Led → Prop} {T : Nat → Ent} {ct : PySem.Expr} {kb : Nat → Bool} {de : Nat → Dat} {RR : Value → Addr → Result → Shared → Prop} {E : Value → Shared → Prop}
    (W : Walks row.row.prog w C.A I fp [I] n P Sti) (hn : n ≤ 24) (hIo : ∀ i h, Sti i h → ∃ o, h.get? I = some o) (hSt : ∀ i h h' o nw, Sti i h → h.get? I = some o → h'.get? I = some o → (∀ b o, C.h₀.get? b = some o → h'.get? b = some o) → News C.h₀ C.L h' nw → SS nw → Sti i h')
    (hcell : ∀ y ∈ csc.names, y.2 ≠ .cell) (hkind : csc.kind = .function) (hx : csc.names.lookup x = some .local) (hst : Sti 0 H) (hfp : ∀ b ∈ fp, b < H.objs.size)
    (S : St C m M R (upS s H tk)) (hΓ : EnvOk C m R Γ) (hI : C.L ≠ I) (hI₀ : C.h₀.get? I = none) (hIM : I ∉ M.map (·.1)) (hIR : ∀ p ∈ R, p.1 ≠ I) (hSS : ∀ nw : Led, (∀ p ∈ R, p ∈ nw) → SS nw)
    (hΔ : ∀ y t, Δ.lookup y = some t → C.Δ.lookup y = some t ∧ cl.lookup y = C.env.cells.lookup y) (hkr : (relabel csc C.env).kind = .function)
    (item : ∀ i v, i < n → P i v → EntIn (C.G ++ R) v (T i))
    (el : ∀ (i : Nat), i < n → ∀ (I c D : Addr) (oI oC oD : Obj) (m₂ : Str → Option Value) (ho : NsObj oC m₂), Tst (mkCm C csc cl c oC m₂ Δ hkr ho) [(x, T i)] (cmM I c D oI oC oD M) ct (kb i) ∧ (kb i = true → Ev (mkCm C csc cl c oC m₂ Δ hkr ho) [(x, T i)] (cmM I c D oI oC oD M) elt (.d (de i))))
    (fin : ∀ D c oC m' g tk R2 ds, St C m ((c, .raw oC) :: M) R2 (upS s g tk) → NsObj oC m' → (∀ p ∈ R, p ∈ R2) → DatIn (C.G ++ R2) (.ref D) (.list ds) → ds = picked kb de n → RR (.ref D) c (.ok .next) (upS s g tk)) :
    wpAny (PM w) C.A (newList []) (fun acc s₃ => wpAny (PM w) C.A (newFunctionEnv csc C.env.globals cl [] C.env.qual none .none (some C.env)) (fun cenv s₄ =>
      codeAny (PM w) C.A (.compStart (.ListComp elt [⟨.Name x px, iter, [ct], 0⟩] csc pos) 0 (.ref I) acc { cenv with scope := relabel csc C.env }) (RR acc cenv.locals) s₄) E s₃) E (upS s H tk) := by
  obtain ⟨os, No, hos, hoe⟩ := S.cs.led
  have Nn : News C.h₀ C.L H (os ++ R) := fun p hp => (List.mem_append.mp hp).elim (No p) (S.N p)
  refine LCt.block_T (S := SS) (Fin := CmT C M R kb de n) W (by rw [sizeLine_eq]; omega) hIo hSt hcell hkind hx hst hfp S.F Nn hI hI₀ (fun p hp e => ?_) (hSS _ fun p hp => List.mem_append.mpr (.inr hp)) ?_ ?_
  · rcases List.mem_append.mp hp with hp | hp
    · exact hIM (by rw [← hoe]; exact e ▸ List.mem_map_of_mem hp)
    · exact hIR p hp e
  · refine compRestT_ind (CmT C M R kb de) n (fun i ys nw hi hj v I oI c oC D m₂ g tk2 E' hv hc hxv F Nw off ne => ?_) (fun ys nw hj => hj) _ 0 [] _ (Nat.zero_add _) ⟨os, R, [], rfl, fun _ h => h, hos, hoe, S.off, .nil, rfl⟩
    obtain ⟨os1, R1, ds1, rfl, s1, hos1, he1, of1, hD1, hl1⟩ := hj
    have hvd := item i v hi hv
    have S1 := cm_st (tk := tk2) (s := upS s H tk) F Nw off ne hos1 he1 S.nd of1
    have hEnv : EnvOk (mkCm C csc cl c oC m₂ Δ hkr hc) m R1 [(x, T i)] := ⟨fun y t hy => by
      simp only [List.lookup] at hy
      by_cases q : y = x
      · subst q
        simp at hy
        subst hy
        exact ⟨v, hxv, hvd.mono (up_mono s1)⟩
      · have : (y == x) = false := by simp [q]
        rw [this] at hy
        exact (nomatch hy), fun y t hy => by
      obtain ⟨h1, h2⟩ := hΔ y t hy
      obtain ⟨u, c', o, a1, a2, a3, a4⟩ := hΓ.cel y t h1
      exact ⟨u, c', o, by rw [← a1]; exact h2, s1 _ a2, a3, a4.mono (up_mono s1)⟩⟩
    obtain ⟨htst, hel⟩ := el i hi I c D oI oC (lst ys) m₂ hc
    refine htst.run m R1 _ _ _ ⟨S1.F, S1.N, S1.cs, S1.nd, S1.off⟩ hEnv fun h2 tk3 R2 S2 hsub2 => ?_
    cases hb : kb i with
    | true =>
      rw [if_pos rfl]
      refine (hel hb).run m R2 _ _ _ S2 (hEnv.mono hsub2) fun y h4 tk4 R4 S4 hsub4 hy => ?_
      have S2' : St C m (cmM I c D oI oC (lst ys) M) R4 (upS (upS s H tk) h4 tk4) := ⟨S4.F, S4.N, S4.cs, S4.nd, S4.off⟩
      obtain ⟨os2, N2, off2, hos2, he2⟩ := cm_back S2'
      have sub : ∀ p ∈ R1, p ∈ R4 := fun p hp => hsub4 p (hsub2 p hp)
      exact CompEnd.intro S4.F N2 (os2 ++ R4) (fun _ h => h) off2 (hSS _ fun p hp => List.mem_append.mpr (.inr (sub p (s1 p hp)))) ⟨os2, R4, ds1 ++ [de i], rfl, fun p hp => sub p (s1 p hp), hos2, he2, fun p hp hm => S4.off p hp (.tail _ (.tail _ (.tail _ hm))), (hD1.mono (up_mono sub)).append (.one hy), by rw [hl1, picked_t hb]⟩
    | false =>
      rw [if_neg Bool.false_ne_true]
      have S2' : St C m (cmM I c D oI oC (lst ys) M) R2 (upS (upS s H tk) h2 tk3) := ⟨S2.F, S2.N, S2.cs, S2.nd, S2.off⟩
      obtain ⟨os2, N2, off2, hos2, he2⟩ := cm_back S2'
      exact CompEnd.intro S2.F N2 (os2 ++ R2) (fun _ h => h) off2 (hSS _ fun p hp => List.mem_append.mpr (.inr (hsub2 p (s1 p hp)))) ⟨os2, R2, ds1, rfl, fun p hp => hsub2 p (s1 p hp), hos2, he2, fun p hp hm => S2.off p hp (.tail _ (.tail _ (.tail _ hm))), hD1.mono (up_mono hsub2), by rw [hl1, picked_f hb]⟩
  · intro D c g tk2 m' ys nw F2 N2 o1 hns hC₀ hD₀ hCL hDL hCD offC fn
    obtain ⟨os2, R2, ds, rfl, s2, hos2, he2, of2, hD2, hl⟩ := fn
    obtain ⟨oC, gC, hC'⟩ := ns_obj hns
    have o1' : ∀ p ∈ os2 ++ R2, p.1 ≠ D := by
      have key : ∀ {l : Led}, Off1 D l → ∀ p ∈ l, p.1 ≠ D := by
        intro l
        induction l with
        | nil => exact fun _ _ h => nomatch h
        | cons a l ih =>
          intro x p hp
          rcases List.mem_cons.mp hp with rfl | hp
          · exact x.1
          · exact ih x.2 p hp
      exact key o1
    refine fin D c oC m' g tk2 ((D, lst ys) :: R2) ds ⟨F2, fun p hp => ?_, fun q hq => ?_, ?_, fun p hp hm => ?_⟩ hC' (fun p hp => .tail _ (s2 p hp)) (.list (List.mem_append.mpr (.inr (.head _))) (hD2.mono (up_mono fun p hp => .tail _ hp))) hl
    · rcases List.mem_cons.mp hp with rfl | hp
      · exact N2 _ (.head _)
      · exact N2 p (.tail _ (List.mem_append.mpr (.inr hp)))
    · rcases List.mem_cons.mp hq with rfl | hq
      · exact ⟨oC, rfl, gC, hCL, hC₀⟩
      · obtain ⟨o, h1, h2⟩ := hos2 q hq
        exact ⟨o, h1.mono (up_mono fun p hp => .tail _ hp), N2 _ (.tail _ (List.mem_append.mpr (.inl h2)))⟩
    · rw [List.map_cons, List.nodup_cons]
      refine ⟨fun hm => ?_, S.nd⟩
      rw [← he2] at hm
      obtain ⟨q, hq, e⟩ := List.mem_map.mp hm
      exact offC q (List.mem_append.mpr (.inl hq)) e
    · rcases List.mem_cons.mp hm with e | hm
      · rcases List.mem_cons.mp hp with rfl | hp
        · exact hCD e.symm
        · exact offC p (List.mem_append.mpr (.inr hp)) e
      · rcases List.mem_cons.mp hp with rfl | hp
        · rw [← he2] at hm
          obtain ⟨q, hq, e⟩ := List.mem_map.mp hm
          exact o1' q (List.mem_append.mpr (.inl hq)) e
        · exact of2 p hp hm
/-- a list that stands, gone through -/
theorem list_go {m : Str → Option Value} {R : Led} {s : Shared} {t : Ent} {ts : List Ent} {v : Value} {Q E : Value → Shared → Prop} (S : St C m M R s) (hL : ListE t ts) (hz : ts.length ≤ 24) (hv : EntIn (C.G ++ R) v t)
    (h : ∀ (l : Addr) (vs : List Value) (n : Nat) (H : Heap), v = .ref l → (l, W.listOf vs.toArray n) ∈ C.G ++ R → EntAll (C.G ++ R) vs ts → St C m M R (upS s (s.heap.push { cls := .type "list_iterator", data := .fields #[.ref l, .int 0 0] }) s.toks) → Q (.ref s.heap.objs.size) (upS s (s.heap.push { cls := .type "list_iterator", data := .fields #[.ref l, .int 0 0] }) s.toks)) : wpAny (PM w) C.A (pyIter v) Q E s := by
  obtain ⟨l, vs, n, rfl, hm, hr⟩ := hL _ _ hv
  have hax := S.reads' _ hm
  refine wpAny_pyIter_list (items := vs.toArray) ⟨_, hax, rfl, n, rfl⟩ ?_
  have up : ∀ b o, s.heap.get? b = some o → (s.heap.push { cls := .type "list_iterator", data := .fields #[.ref l, .int 0 0] }).get? b = some o := fun b o e => Heap.get?_push_of_some _ e
  exact h l vs n s.heap rfl hm hr ⟨S.F.keeps up, S.N.grown up, fun q hq => let ⟨o, h1, h2, h3⟩ := S.cs q hq; ⟨o, h1, up _ _ h2, h3⟩, S.nd, S.off⟩
/-- over a list that stands, with a test -/
theorem comp_listT {ct : PySem.Expr} {t : Ent} {ts : List Ent} {kb : Nat → Bool} {de : Nat → Dat} (hcell : ∀ y ∈ csc.names, y.2 ≠ .cell) (hkind : csc.kind = .function) (hx : csc.names.lookup x = some .local) (hL : ListE t ts) (hz : ts.length ≤ 24) (hΔ : ∀ y t, Δ.lookup y = some t → C.Δ.lookup y = some t ∧ cl.lookup y = C.env.cells.lookup y) (hkr : (relabel csc C.env).kind = .function)
    (h : Ev C Γ M iter t) (el : ∀ (i : Nat) (u : Ent), ts[i]? = some u → ∀ (I c D : Addr) (oI oC oD : Obj) (m₂ : Str → Option Value) (ho : NsObj oC m₂), Tst (mkCm C csc cl c oC m₂ Δ hkr ho) [(x, u)] (cmM I c D oI oC oD M) ct (kb i) ∧ (kb i = true → Ev (mkCm C csc cl c oC m₂ Δ hkr ho) [(x, u)] (cmM I c D oI oC oD M) elt (.d (de i)))) :
    Comp C Γ M (.ListComp elt [⟨.Name x px, iter, [ct], 0⟩] csc pos) iter csc cl (fun u => u = .d (.list (picked kb de ts.length))) := .mk <| fun m R s RR E S hΓ ret => by
  refine h.run m R s _ E S hΓ fun v h' tk R' S' hsub hD => ?_
  refine list_go S' hL hz hD fun l vs n _ e hm hr SH => ?_
  subst e
  have hax : h'.get? l = some (W.listOf vs.toArray n) := S'.reads' _ hm
  have hlt : l < h'.objs.size := Heap.lt_size hax
  have hlen : vs.toArray.size = ts.length := by rw [List.size_toArray, hr.len']
  have fresh : ∀ b o, h'.get? b = some o → b ≠ h'.objs.size := fun b o e => Nat.ne_of_lt (Heap.lt_size e)
  have src : ∀ nw : Led, (∀ p ∈ R', p ∈ nw) → SrcAt C.h₀ l vs.toArray nw := fun nw hn => by
    rcases List.mem_append.mp hm with hm | hm
    · exact .inl ⟨_, C.hG _ hm, rfl, n, rfl⟩
    · exact .inr ⟨_, hn _ hm, rfl, n, rfl⟩
  refine comp_coreT (SS := SrcAt C.h₀ l vs.toArray) (T := fun i => ts.getD i .any) (kb := kb) (de := de) (Γ := Γ) (Walks.list rfl h'.objs.size l (Nat.ne_of_lt hlt) vs.toArray) (by rw [hlen]; exact hz) (fun i h st => by obtain ⟨o, e, _⟩ := st.1; exact ⟨o, e⟩)
    list_st hcell hkind hx ⟨⟨_, Heap.get?_push_size _ rfl, rfl, rfl⟩, ⟨_, Heap.get?_push_of_some _ hax, rfl, n, rfl⟩⟩ (fun b hb => ?_) SH (hΓ.mono hsub) (Nat.ne_of_lt S'.F.ns.lt) (next_is_new S'.F) (fun hM => ?_) (fun p hp => fresh _ _ (S'.N p hp).1) src hΔ hkr (fun i v hi hv => ?_) (fun i hi => ?_) fun D c oC m' g tk R2 es S2 hn hs2 hD he => ret D c oC m' g tk R2 (.d (.list es)) S2 hn (fun p hp => hs2 p (hsub p hp)) hD (by rw [he, hlen])
  · show b < (h'.push _).objs.size
    rw [Heap.size_push]
    rcases List.mem_cons.mp hb with rfl | hb
    · exact Nat.lt_succ_self _
    · rw [List.mem_singleton.mp hb]; exact Nat.lt_succ_of_lt hlt
  · obtain ⟨q, hq, e⟩ := List.mem_map.mp hM
    obtain ⟨o, _, h2, _⟩ := S'.cs q hq
    exact fresh _ _ h2 e
  · obtain ⟨u, h1, h2⟩ := hr.at (v := v) (i := i) (by simpa using hv)
    rw [List.getD_eq_getElem?_getD, h1]
    exact h2
  · have hi' : i < ts.length := by rw [← hlen]; exact hi
    rw [List.getD_eq_getElem?_getD, List.getElem?_eq_getElem hi']
    exact el i _ (List.getElem?_eq_getElem hi')
/-- over a list that stands -/
theorem comp_list {t : Ent} {ts : List Ent} {es : List Dat} (hcell : ∀ y ∈ csc.names, y.2 ≠ .cell) (hkind : csc.kind = .function) (hx : csc.names.lookup x = some .local) (hL : ListE t ts) (hz : ts.length ≤ 24) (hle : es.length = ts.length) (hΔ : ∀ y t, Δ.lookup y = some t → C.Δ.lookup y = some t ∧ cl.lookup y = C.env.cells.lookup y) (hkr : (relabel csc C.env).kind = .function)
    (h : Ev C Γ M iter t) (el : ∀ (i : Nat) (u : Ent) (d : Dat), ts[i]? = some u → es[i]? = some d → ∀ (I c D : Addr) (oI oC oD : Obj) (m₂ : Str → Option Value) (ho : NsObj oC m₂), Ev (mkCm C csc cl c oC m₂ Δ hkr ho) [(x, u)] (cmM I c D oI oC oD M) elt (.d d)) :
    Comp C Γ M (.ListComp elt [⟨.Name x px, iter, [], 0⟩] csc pos) iter csc cl (fun u => u = .d (.list es)) := .mk <| fun m R s RR E S hΓ ret => by
  refine h.run m R s _ E S hΓ fun v h' tk R' S' hsub hD => ?_
  refine list_go S' hL hz hD fun l vs n _ e hm hr SH => ?_
  subst e
  have hax : h'.get? l = some (W.listOf vs.toArray n) := S'.reads' _ hm
  have hlt : l < h'.objs.size := Heap.lt_size hax
  have hlen : vs.toArray.size = ts.length := by rw [List.size_toArray, hr.len']
  have fresh : ∀ b o, h'.get? b = some o → b ≠ h'.objs.size := fun b o e => Nat.ne_of_lt (Heap.lt_size e)
  have src : ∀ nw : Led, (∀ p ∈ R', p ∈ nw) → SrcAt C.h₀ l vs.toArray nw := fun nw hn => by
    rcases List.mem_append.mp hm with hm | hm
    · exact .inl ⟨_, C.hG _ hm, rfl, n, rfl⟩
    · exact .inr ⟨_, hn _ hm, rfl, n, rfl⟩
  refine comp_core (SS := SrcAt C.h₀ l vs.toArray) (T := fun i => ts.getD i .any) (PD := fun i d => es[i]? = some d) (Γ := Γ) (Walks.list rfl h'.objs.size l (Nat.ne_of_lt hlt) vs.toArray) (by rw [hlen]; exact hz) (fun i h st => by obtain ⟨o, e, _⟩ := st.1; exact ⟨o, e⟩)
    list_st hcell hkind hx ⟨⟨_, Heap.get?_push_size _ rfl, rfl, rfl⟩, ⟨_, Heap.get?_push_of_some _ hax, rfl, n, rfl⟩⟩ (fun b hb => ?_) SH (hΓ.mono hsub) (Nat.ne_of_lt S'.F.ns.lt) (next_is_new S'.F) (fun hM => ?_) (fun p hp => fresh _ _ (S'.N p hp).1) src hΔ hkr (fun i v hi hv => ?_) (fun i hi I c D oI oC oD m₂ ho => ?_) fun D c oC m' g tk R2 fs S2 hn hs2 hD hl hPD => ret D c oC m' g tk R2 (.d (.list fs)) S2 hn (fun p hp => hs2 p (hsub p hp)) hD ?_
  · show b < (h'.push _).objs.size
    rw [Heap.size_push]
    rcases List.mem_cons.mp hb with rfl | hb
    · exact Nat.lt_succ_self _
    · rw [List.mem_singleton.mp hb]; exact Nat.lt_succ_of_lt hlt
  · obtain ⟨q, hq, e⟩ := List.mem_map.mp hM
    obtain ⟨o, _, h2, _⟩ := S'.cs q hq
    exact fresh _ _ h2 e
  · obtain ⟨u, h1, h2⟩ := hr.at (v := v) (i := i) (by simpa using hv)
    rw [List.getD_eq_getElem?_getD, h1]
    exact h2
  · have hi' : i < ts.length := by rw [← hlen]; exact hi
    rw [List.getD_eq_getElem?_getD, List.getElem?_eq_getElem hi']
    obtain ⟨d, hd⟩ : ∃ d, es[i]? = some d := ⟨_, List.getElem?_eq_getElem (by omega)⟩
    exact evp_of (el i _ d (List.getElem?_eq_getElem hi') hd I c D oI oC oD m₂ ho) ⟨d, rfl, hd⟩
  · have : fs = es := List.ext_getElem? fun j => by
      cases q : fs[j]? with
      | some d => exact (hPD j d q).symm
      | none => rw [List.getElem?_eq_none_iff] at q; rw [Eq.comm, List.getElem?_eq_none_iff]; omega
    rw [this]
end
end Mine
namespace Mine
open PySem PySem.W PyProof.Rows PySem.Spec PySem.Calls
set_option linter.all false
variable {w : World} {C : Cx w} {Γ Γ' : Tys} {M : Cells} {pos p p2 p3 : Pos} {sc : Scope} {rest : List Stmt} {N : Tys → Cells → Prop} {PP : Ent → Cells → Prop} {o e : PySem.Expr}
theorem dstr_len (i : Int) (hi : i.natAbs < 1000) (x : Str) (hx : x.length ≤ 24) : x.length + (Str.ofString (toString i)).length ≤ sizeLine := by
  have h := len_str_of_int i
  rw [sizeLine_eq]
  omega
theorem bin_nm {q : String} {i : Int} (hi : i.natAbs < 1000) (hx : (Str.ofString q).length ≤ 24) : Bin w .Add (.str (Str.ofString q)) (.str (Str.ofString (toString i))) (.str (nm q i)) := bin_add_str (dstr_len i hi _ hx)
/-- o.append(e), a datum -/
theorem sx_append {pl : Env → Sem Bool} {l : Addr} {ds : List Dat} {P : Ent → Prop} {PD : Dat → Prop} {M₂ : Dat → Cells} (hC : Fm C sc) (hi : ∀ cn L a ccd cl, interactive (envX cn sc L a ccd cl) = false) (hs : ∀ env, swapsWith (.Call (.Attribute o (Str.ofString "append") p) [e] [] p2) none pos.line env = pure false) (he : ∀ env, eval (.Call (.Attribute o (Str.ofString "append") p) [e] [] p2) env = (do
      let ov ← eval o env
      standAt p.atName
      let (f, first) ← holding [ov] (getMethod ov (Str.ofString "append") (pl env))
      callWith p2 f first (backTo p2 (starEach [e] env)) [])) (hst : ∀ env, starEach [e] env = [(false, eval e env)]) (U : ∀ d, UpdC l (.lst ds) (.lst (ds ++ [d])) M (M₂ d)) (hz : ds.length ≤ 24) (ho : Ev C Γ M o (.r l)) (h : EvP C Γ M e P) (hP : ∀ t, P t → ∃ d, t = .d d ∧ PD d) (r : ∀ d, PD d → Sx C Γ (M₂ d) rest N PP) : Sx C Γ M (.Expr (.Call (.Attribute o (Str.ofString "append") p) [e] [] p2) pos :: rest) N PP :=
  sx_expr hC hi hs (evy_append (pl := pl) (PP := fun _ M' => ∃ d, PD d ∧ M' = M₂ d) (U .none).mem.1 (listC_lst hz) he hst ho (evy_of h (PP := fun t M1 => M1 = M ∧ P t) fun t k => ⟨rfl, k⟩) fun t M1 ⟨e1, k⟩ => by
    subst e1
    obtain ⟨d, rfl, hd⟩ := hP t k
    exact ⟨_, _, _, U d, listC_lst hz, grows_lst, d, hd, rfl⟩) fun _ M' ⟨d, hd, e⟩ => e ▸ r d hd
/-- a list that stands behind other names -/
theorem fresh_tl {l : Addr} {es : List Dat} {Γ Γ' : Tys} {x : Str} {u : Ent} (h : ∀ y t, List.lookup y Γ' = some t → List.lookup y Γ = some t ∨ (t = .d (.list es) ∧ List.lookup y Γ = some (.r l))) : ∀ y t, List.lookup y ((x, u) :: Γ') = some t → List.lookup y ((x, u) :: Γ) = some t ∨ (t = .d (.list es) ∧ List.lookup y ((x, u) :: Γ) = some (.r l)) := fun y t hy => by
  simp only [List.lookup] at hy ⊢
  split at hy
  · exact .inl hy
  · exact h y t hy
theorem arsD_len : ∀ (as : List Ar) (j : Nat), (arsD j as).length = as.length
  | [], _ => rfl
  | _ :: r, j => by rw [arsD, List.length_cons, List.length_cons, arsD_len r]
theorem takesD_len : ∀ (as : List Ar) (j : Nat), (takesD j as).length ≤ as.length
  | [], _ => Nat.le_refl _
  | a :: r, j => by
    have := takesD_len r (j + 1)
    rw [takesD, List.length_append, List.length_cons]
    cases a <;> simp only [takeD, List.length_cons, List.length_nil] <;> omega
theorem patsD_len : ∀ (as : List Ar) (j : Nat), (patsD j as).length ≤ as.length
  | [], _ => Nat.le_refl _
  | a :: r, j => by
    have := patsD_len r (j + 1)
    rw [patsD, List.length_append, List.length_cons]
    cases a <;> simp only [pattD, List.length_cons, List.length_nil] <;> omega
theorem ownD_len (c : Hd) : (ownD c).length ≤ 1 := by cases c <;> simp [ownD]
/-- a row: what it takes apart -/
theorem takes_row : ∀ (as : List Ar) (j : Nat), j + as.length < 4 → ∀ d ∈ takesD j as, ∃ i q, i < 4 ∧ d = nodeD (Str.ofString "=") [patD i, q]
  | [], _, _, d, h => nomatch h
  | a :: r, j, hj, d, h => by
    rw [takesD] at h
    rcases List.mem_append.mp h with h | h
    · cases a with
      | pat =>
        simp only [takeD, List.mem_singleton] at h
        exact ⟨j, _, by omega, h⟩
      | _ => exact nomatch h
    · exact takes_row r (j + 1) (by simp only [List.length_cons] at hj; omega) d h
theorem picked_take {xs : List Dat} : ∀ n, picked (fun i => decide (i < xs.length)) (fun i => xs.getD i .none) n = xs.take n
  | 0 => by rw [picked, List.take_zero]
  | n + 1 => by
    rw [picked, picked_take n]
    by_cases h : n < xs.length
    · rw [List.take_add_one, List.getElem?_eq_getElem h]
      simp [h]
    · rw [List.take_of_length_le (by omega), List.take_of_length_le (by omega)]
      simp [h]
def calleeD : Hd → Dat
  | .plain => symD (Str.ofString "f")
  | .own => nodeD (Str.ofString "::") [symD (Str.ofString "own"), symD (Str.ofString "Kind")]
  | .kind => nodeD (Str.ofString "::") [symD (Str.ofString "Kind")]
  | .tup => symD (Str.ofString "f")
theorem headD_call (as : List Ar) {c : Hd} (h : c ≠ .tup) : headD as c = nodeD (Str.ofString "call") ([calleeD c] ++ arsD 0 as) := by
  cases c with
  | tup => exact absurd rfl h
  | _ => rfl
/-- the callee's menu -/
theorem callee_at {k : Nat} (h : k < 3) : ∃ c : Hd, c ≠ .tup ∧ seqIndex? (k : Int) 3 = some k ∧ [calleeD .plain, calleeD .own, calleeD .kind][k]? = some (calleeD c) ∧ ((((k : Int) == (1 : Int)) = true ∧ c = .own) ∨ (((k : Int) == (1 : Int)) = false ∧ ownD c = [])) := by
  have : k = 0 ∨ k = 1 ∨ k = 2 := by omega
  rcases this with rfl | rfl | rfl
  · exact ⟨.plain, (fun e => nomatch e), rfl, rfl, .inr ⟨rfl, rfl⟩⟩
  · exact ⟨.own, (fun e => nomatch e), rfl, rfl, .inl ⟨rfl, rfl⟩⟩
  · exact ⟨.kind, (fun e => nomatch e), rfl, rfl, .inr ⟨rfl, rfl⟩⟩
abbrev kdV (o : Option Dat) : Dat := match o with
  | none => .none
  | some d => d
def KindOk (kd : Option Dat) : Prop := ∀ d, kd = some d → (∃ ds, d = .tuple ds) ∧ kqdOk 4 d = true
theorem kind_is {kd : Option Dat} (h : KindOk kd) : ∃ b, Cmp w .Is (kdV kd) .none b ∧ Cmp w .IsNot (kdV kd) .none (!b) ∧ ((b = true ∧ kd = none) ∨ (b = false ∧ ∃ d, kd = some d)) := by
  cases kd with
  | none => exact ⟨true, cmp_is_none, cmp_isnot_none, .inl ⟨rfl, rfl⟩⟩
  | some d =>
    obtain ⟨⟨ds, rfl⟩, _⟩ := h d rfl
    exact ⟨false, cmp_is_tup ds, cmp_isnot_tup ds, .inr ⟨rfl, _, rfl⟩⟩
/-- the law's menu of arguments that are not taken apart -/
def OtherAr (i : Nat) (t : Ent) : Prop := ∃ a, t = .d (arD i a) ∧ takeD i a = []
theorem menu_other {i n : Nat} : ∀ ts, AllP (List.replicate n (OtherAr i)) ts → ∃ ds : List Dat, ts = ds.map .d ∧ ds.length = n ∧ ∀ d ∈ ds, OtherAr i (.d d) := allP_rep fun t ⟨a, h, h2⟩ => ⟨_, h, a, rfl, h2⟩
/-- what _law_function gives -/
def FunP (kd : Option Dat) (t : Ent) : Prop := ∃ (as : List Ar) (c : Hd) (wh : Bool) (u : Tr), as.length < 4 ∧ Ok 4 u ∧ (c = .tup → kd = none) ∧ t = .d (.tuple [treeD as c kd wh u.dat, .list (takesD 0 as ++ ownD c)])
end Mine
namespace Mine
open PySem PySem.W PyProof.Rows PySem.Spec PySem.Calls
set_option linter.all false
variable {w : World}
abbrev lawCells (I la lh sk : Addr) (oI : Obj) (xs zs : List Dat) : Cells := [(I, .raw oI), (lh, .lst zs), (la, .lst xs), (sk, .sack)]
/-- one turn of the loop -/
theorem fun_turn {C : Cx w} {kd : Option Dat} {sk la lh I : Addr} {oI : Obj} {i : Nat} {as : List Ar} {Γ' : Tys} (hC : Fm C (sc (st 30))) (hsz : 20 ≤ C.sz) (hi : i < 3) (hl : as.length = i) (hs : Sub [(Str.ofString "arguments", .r la), (Str.ofString "ahead", .r lh), (Str.ofString "sack", .r sk), (Str.ofString "kind", .d (kdV kd))] Γ')
    {b : List Stmt} (hb : b = (match bd (st 30) with | [_, .For _ _ b _ _, _, _, _, _, _, _, _, _] => b | _ => [])) :
    Sx C ((Str.ofString "at", .d (.int i)) :: Γ') (lawCells I la lh sk oI (arsD 0 as) (takesD 0 as)) b (fun Γ2 M2 => ∃ a, Sub [(Str.ofString "arguments", .r la), (Str.ofString "ahead", .r lh), (Str.ofString "sack", .r sk), (Str.ofString "kind", .d (kdV kd))] Γ2 ∧ M2 = lawCells I la lh sk oI (arsD 0 (as ++ [a])) (takesD 0 (as ++ [a]))) (fun _ _ => False) := by
  subst hb
  have hm : (sk, Cell.sack) ∈ lawCells I la lh sk oI (arsD 0 as) (takesD 0 as) := .tail _ (.tail _ (.tail _ (.head _)))
  have e1 := arsD_len as 0
  have e2 := takesD_len as 0
  refine sx_sub (Γ' := (Str.ofString "at", .d (.int i)) :: [(Str.ofString "arguments", .r la), (Str.ofString "ahead", .r lh), (Str.ofString "sack", .r sk), (Str.ofString "kind", .d (kdV kd))]) hs.cons (fun _ h => h) (fun h => h) ?_
  refine sx_ifP (PB := fun _ => True) (N' := fun Γ2 M2 => ∃ a, Sub [(Str.ofString "arguments", .r la), (Str.ofString "ahead", .r lh), (Str.ofString "sack", .r sk), (Str.ofString "kind", .d (kdV kd))] Γ2 ∧ M2 = lawCells I la lh sk oI (arsD 0 (as ++ [a])) (takesD 0 (as ++ [a]))) (tstp_cmp (P2 := fun t => t = .d (.int 0)) rfl (by omega) (evp_draw hC.s (by decide +kernel) hm (by omega) (by decide) (by decide) (ev_name hC (by decide +kernel) (by decide +kernel) (look_tl (by decide +kernel) (look_tl (by decide +kernel) (look_tl (by decide +kernel) look_hd))))) (evp_of ev_int rfl) ?z) (fun _ => ?yes) (fun _ => ?no) fun Γ2 M2 k => sx_nil k
  case z =>
    rintro t1 t2 ⟨i, rfl, _⟩ rfl
    exact ⟨_, _, _, rfl, rfl, cmp_eq_int _ _, trivial⟩
  case yes =>
    refine ex_assign (t := .d (patD i)) hC (by decide +kernel) (fun _ => rfl) (ev_call hC.s (by decide +kernel) g_expr star_c (any_cons star_t any_nil) (expr_tells _ _) (by omega) (evs_cons star_c ev_str (evs_cons star_t (ev_tuple (ds := [symD (nm "p" i), symD (nm "q" i)]) (Nat.le_of_ble_eq_true rfl) (evs_cons star_t (ev_tuple (ds := [.str (Str.ofString "sym"), .str (nm "p" i)]) (Nat.le_of_ble_eq_true rfl) (evs_cons star_c ev_str (evs_cons star_b (ev_bin (bin_nm (q := "p") (by omega) (by decide +kernel)) ev_str (ev_strOf (by omega) hC (by decide +kernel) (by kernel_rfl) (by boot_fast) (by decide) (by decide +kernel) star_n (ev_name hC (by decide +kernel) (by decide +kernel) look_hd))) evs_nil))) (evs_cons star_t (ev_tuple (ds := [.str (Str.ofString "sym"), .str (nm "q" i)]) (Nat.le_of_ble_eq_true rfl) (evs_cons star_c ev_str (evs_cons star_b (ev_bin (bin_nm (q := "q") (by omega) (by decide +kernel)) ev_str (ev_strOf (by omega) hC (by decide +kernel) (by kernel_rfl) (by boot_fast) (by decide) (by decide +kernel) star_n (ev_name hC (by decide +kernel) (by decide +kernel) look_hd))) evs_nil))) evs_nil))) evs_nil))) ?_
    refine sx_append (M₂ := fun d => lawCells I la lh sk oI (arsD 0 as ++ [d]) (takesD 0 as)) hC (fun _ _ _ _ _ => rfl) (fun _ => rfl) (fun _ => rfl) (fun _ => rfl) (fun d => .tail (.tail .head)) (by omega) (ev_name hC (by decide +kernel) (by decide +kernel) (look_tl (by decide +kernel) (look_tl (by decide +kernel) look_hd))) (evp_of (P := fun t => t = .d (patD i)) (ev_name hC (by decide +kernel) (by decide +kernel) look_hd) rfl) (PD := fun d => d = patD i) (fun t h => ⟨_, h, rfl⟩) fun d hd => ?_
    obtain rfl : d = patD i := hd
    refine sx_append (M₂ := fun d => lawCells I la lh sk oI (arsD 0 as ++ [patD i]) (takesD 0 as ++ [d])) hC (fun _ _ _ _ _ => rfl) (fun _ => rfl) (fun _ => rfl) (fun _ => rfl) (fun d => .tail .head) (by omega) (ev_name hC (by decide +kernel) (by decide +kernel) (look_tl (by decide +kernel) (look_tl (by decide +kernel) (look_tl (by decide +kernel) look_hd)))) (evp_of (P := fun t => t = .d (nodeD (Str.ofString "=") [patD i, symD (nm "#" (i + 1))])) (ev_call hC.s (by decide +kernel) g_expr star_c (any_cons star_t any_nil) (expr_tells _ _) (by omega) (evs_cons star_c ev_str (evs_cons star_t (ev_tuple (ds := [patD i, symD (nm "#" (i + 1))]) (Nat.le_of_ble_eq_true rfl) (evs_cons star_n (ev_name hC (by decide +kernel) (by decide +kernel) look_hd) (evs_cons star_t (ev_tuple (ds := [.str (Str.ofString "sym"), .str (nm "#" (i + 1))]) (Nat.le_of_ble_eq_true rfl) (evs_cons star_c ev_str (evs_cons star_b (ev_bin (bin_nm (q := "#") (by omega) (by decide +kernel)) ev_str (ev_strOf (by omega) hC (by decide +kernel) (by kernel_rfl) (by boot_fast) (by decide) (by decide +kernel) star_b (ev_bin (bin_add_int _ _) (ev_name hC (by decide +kernel) (by decide +kernel) (look_tl (by decide +kernel) look_hd)) ev_int))) evs_nil))) evs_nil))) evs_nil))) rfl) (PD := fun d => d = nodeD (Str.ofString "=") [patD i, symD (nm "#" (i + 1))]) (fun t h => ⟨_, h, rfl⟩) fun d hd => ?_
    obtain rfl : d = nodeD (Str.ofString "=") [patD i, symD (nm "#" (i + 1))] := hd
    exact sx_nil ⟨.pat, Sub.over (Sub.over Sub.refl (look_no (by decide +kernel) (look_no (by decide +kernel) (look_no (by decide +kernel) (look_no (by decide +kernel) look_e))))) (look_no (by decide +kernel) (look_no (by decide +kernel) (look_no (by decide +kernel) (look_no (by decide +kernel) look_e)))), by rw [arsD_snoc, takesD_snoc, Nat.zero_add, hl]; rfl⟩
  case no =>
    refine sx_append (M₂ := fun d => lawCells I la lh sk oI (arsD 0 as ++ [d]) (takesD 0 as)) hC (fun _ _ _ _ _ => rfl) (fun _ => rfl) (fun _ => rfl) (fun _ => rfl) (fun d => .tail (.tail .head)) (by omega) (ev_name hC (by decide +kernel) (by decide +kernel) (look_tl (by decide +kernel) look_hd)) (evp_menu (n := 2) (Ps := List.replicate 2 (OtherAr i)) rfl (by decide) (evsp_cons star_t (evp_of (ev_tuple (ds := [.str (Str.ofString "sym"), .str (nm "a" i)]) (Nat.le_of_ble_eq_true rfl) (evs_cons star_c ev_str (evs_cons star_b (ev_bin (bin_nm (q := "a") (by omega) (by decide +kernel)) ev_str (ev_strOf (by omega) hC (by decide +kernel) (by kernel_rfl) (by boot_fast) (by decide) (by decide +kernel) star_n (ev_name hC (by decide +kernel) (by decide +kernel) look_hd))) evs_nil))) ⟨.plain, rfl, rfl⟩) (evsp_cons star_k (evp_of (ev_call hC.s (by decide +kernel) g_expr star_c (any_cons star_t any_nil) (expr_tells _ _) (by omega) (evs_cons star_c ev_str (evs_cons star_t (ev_tuple (ds := [symD (nm "a" i), symD (Str.ofString "K")]) (Nat.le_of_ble_eq_true rfl) (evs_cons star_t (ev_tuple (ds := [.str (Str.ofString "sym"), .str (nm "a" i)]) (Nat.le_of_ble_eq_true rfl) (evs_cons star_c ev_str (evs_cons star_b (ev_bin (bin_nm (q := "a") (by omega) (by decide +kernel)) ev_str (ev_strOf (by omega) hC (by decide +kernel) (by kernel_rfl) (by boot_fast) (by decide) (by decide +kernel) star_n (ev_name hC (by decide +kernel) (by decide +kernel) look_hd))) evs_nil))) (evs_cons star_t (ev_tuple (ds := [.str (Str.ofString "sym"), .str (Str.ofString "K")]) (Nat.le_of_ble_eq_true rfl) (evs_cons star_c ev_str (evs_cons star_c ev_str evs_nil))) evs_nil))) evs_nil))) ⟨.typed, rfl, rfl⟩) evsp_nil)) (evp_draw hC.s (by decide +kernel) hm (by omega) (by decide) (by decide) (ev_name hC (by decide +kernel) (by decide +kernel) (look_tl (by decide +kernel) (look_tl (by decide +kernel) (look_tl (by decide +kernel) look_hd))))) (fun _ _ _ => rfl) menu_other) (PD := fun d => OtherAr i (.d d)) (fun t ⟨a, h, h2⟩ => ⟨_, h, a, rfl, h2⟩) fun d hd => ?_
    obtain ⟨a, e, ha⟩ := hd
    cases e
    exact sx_nil ⟨a, Sub.over Sub.refl (look_no (by decide +kernel) (look_no (by decide +kernel) (look_no (by decide +kernel) (look_no (by decide +kernel) look_e)))), by rw [arsD_snoc, takesD_snoc, Nat.zero_add, hl, ha, List.append_nil]⟩
end Mine
namespace Mine
open PySem PySem.W PyProof.Rows PySem.Spec PySem.Calls
set_option linter.all false
variable {w : World}
theorem Sub.nil {Γ' : Tys} : Sub [] Γ' := fun _ _ h => nomatch h
theorem Sub.mk {Γ Γ' : Tys} {x : Str} {t : Ent} (h : List.lookup x Γ' = some t) (r : Sub Γ Γ') : Sub ((x, t) :: Γ) Γ' := fun y u hy => by
  simp only [List.lookup] at hy
  split at hy
  · rename_i q; cases hy; rw [beq_iff_eq.mp q]; exact h
  · exact r y u hy
theorem nodup_swap {a b : Addr} {r : List Addr} (h : (a :: b :: r).Nodup) : (b :: a :: r).Nodup := by
  simp only [List.nodup_cons, List.mem_cons, not_or] at *
  exact ⟨⟨fun e => h.1.1 e.symm, h.2.1⟩, h.1.2, h.2.2⟩
abbrev keepb (as : List Ar) (i : Nat) : Bool := decide (i < (takesD 0 as).length)
/-- the test of the comprehension that lets the row of the name itself out -/
theorem row_test {as : List Ar} {c : Hd} (hl : as.length < 4) {i : Nat} {u : Ent} (h : ((takesD 0 as ++ ownD c).map Ent.d)[i]? = some u) : ∃ p q, u = .d (nodeD (Str.ofString "=") [p, q]) ∧ Cmp w .NotEq p (symD (Str.ofString "own")) (keepb as i) ∧ (keepb as i = true → u = .d ((takesD 0 as).getD i .none)) := by
  rw [List.getElem?_map] at h
  obtain ⟨d, hd, rfl⟩ := Option.map_eq_some_iff.mp h
  by_cases hi : i < (takesD 0 as).length
  · rw [List.getElem?_append_left hi] at hd
    obtain ⟨j, q, hj, rfl⟩ := takes_row as 0 (by omega) d (List.mem_of_getElem? hd)
    refine ⟨patD j, q, rfl, ?_, fun _ => ?_⟩
    · rw [show keepb as i = true from decide_eq_true hi]
      exact cmp_ne_t (kq_le (kq_patD hj) (by decide)) (kq_le (n := 1) (kq_symD (headw_ok _ (by decide +kernel))) (by decide)) (pat_ne_own j)
    · rw [List.getD_eq_getElem?_getD, hd]; rfl
  · rw [List.getElem?_append_right (by omega)] at hd
    have hb : keepb as i = false := decide_eq_false hi
    have hd := List.mem_of_getElem? hd
    rw [hb]
    cases c with
    | own =>
      simp only [ownD, List.mem_singleton] at hd
      subst hd
      exact ⟨symD (Str.ofString "own"), symD (Str.ofString "#self"), rfl, cmp_ne_f (kq_le (n := 1) (kq_symD (headw_ok _ (by decide +kernel))) (by decide)) (kq_le (n := 1) (kq_symD (headw_ok _ (by decide +kernel))) (by decide)) rfl, fun h => nomatch h⟩
    | _ => exact nomatch hd
/-- _law_function -/
theorem fun_tells (sk : Addr) (kd : Option Dat) (hk : KindOk kd) : XTells w 223 21 [.r sk, .d (kdV kd)] [(sk, .sack)] (FunP kd) := by
  refine fn_tells (n := 20) (ps := [Str.ofString "sack", Str.ofString "kind"]) ⟨⟨_, _, _, _, _, _, _, _, _, _, _, _, _, by exact rfl, by exact rfl, binds2 fun _ _ => rfl⟩, by decide +kernel, rfl, rfl, rfl, by decide +kernel⟩ rfl (by decide +kernel) fun C hC hsz => ?_
  refine sx_pair (PA := fun t M' => ∃ l, t = .r l ∧ M' = [(l, .lst []), (sk, .sack)]) (PB := fun t t2 M' => ∃ l l2, t = .r l ∧ t2 = .r l2 ∧ M' = [(l2, .lst []), (l, .lst []), (sk, .sack)]) hC (by decide +kernel) (by decide +kernel) (fun _ _ _ _ _ => by kernel_rfl) (fun _ _ _ _ _ => by kernel_rfl) star_l star_l (evy_newList fun l => ⟨l, rfl, rfl⟩) (fun t M1 k => ?two) fun t1 t2 M2 k => ?go
  case two =>
    obtain ⟨l, rfl, rfl⟩ := k
    exact evy_newList fun l2 => ⟨l, l2, rfl, rfl, rfl⟩
  obtain ⟨la, lh, rfl, rfl, rfl⟩ := k
  have hm : (sk, Cell.sack) ∈ [(lh, Cell.lst []), (la, Cell.lst []), (sk, Cell.sack)] := .tail _ (.tail _ (.head _))
  refine sx_forR (B := (· < 4)) hC (by decide +kernel) (by decide +kernel) (by kernel_rfl) (by boot_fast) (by decide) (by decide +kernel) star_k (fun _ _ => rfl) (fun k hk => by omega) (evp_draw hC.s (by decide +kernel) hm (by omega) (by decide) (by decide) (ev_name hC (by decide +kernel) (by decide +kernel) (look_tl (by decide +kernel) (look_tl (by decide +kernel) look_hd)))) (fun i Γ' M' => Sub [(Str.ofString "arguments", .r la), (Str.ofString "ahead", .r lh), (Str.ofString "sack", .r sk), (Str.ofString "kind", .d (kdV kd))] Γ' ∧ ∃ as : List Ar, as.length = i ∧ M' = [(lh, .lst (takesD 0 as)), (la, .lst (arsD 0 as)), (sk, .sack)]) ⟨Sub.refl, [], rfl, rfl⟩ (fun I oI i Γ' M' hi hJ => ?turn) fun k Γ' M' hk4 hJ => ?rest
  case turn =>
    obtain ⟨k, hk4, hik⟩ := hi
    obtain ⟨hs, as, hl, rfl⟩ := hJ
    exact sx_mono (fun_turn (i := i) (as := as) hC (by omega) (by omega) hl hs rfl) (fun Γ2 M2 ⟨a, h1, h2⟩ => ⟨_, h2, h1, as ++ [a], by simp [hl], rfl⟩) (fun _ _ h => h)
  obtain ⟨hs, as, hl, rfl⟩ := hJ
  have hl4 : as.length < 4 := by omega
  have e1 := arsD_len as 0
  have e2 := takesD_len as 0
  clear hm
  refine sx_sub (M' := [(la, .lst (arsD 0 as)), (lh, .lst (takesD 0 as)), (sk, .sack)]) hs (fun q hq => by simp only [List.mem_cons] at hq ⊢; rcases hq with h | h | h | h <;> first | simp [h] | exact nomatch h) nodup_swap (ex_freeze (Γ' := [(Str.ofString "arguments", .d (.list (arsD 0 as))), (Str.ofString "ahead", .r lh), (Str.ofString "sack", .r sk), (Str.ofString "kind", .d (kdV kd))]) fresh_name ?_)
  have hm : (sk, Cell.sack) ∈ [(lh, Cell.lst (takesD 0 as)), (sk, Cell.sack)] := .tail _ (.head _)
  refine sx_pair (PA := fun t M' => M' = [(lh, .lst (takesD 0 as)), (sk, .sack)] ∧ TreeOf 4 t) (PB := fun t t2 M' => M' = [(lh, .lst (takesD 0 as)), (sk, .sack)] ∧ TreeOf 4 t ∧ Below_ 3 t2) hC (by decide +kernel) (by decide +kernel) (fun _ _ _ _ _ => by kernel_rfl) (fun _ _ _ _ _ => by kernel_rfl) star_k star_k (evy_of (evp_call hC.s (by decide +kernel) g_tree star_n (any_cons star_c any_nil) (tree_all sk 3) (by omega) (sack_in hm) sack_nd (evs_cons star_n (ev_name hC (by decide +kernel) (by decide +kernel) (look_tl (by decide +kernel) (look_tl (by decide +kernel) look_hd))) (evs_cons star_c ev_int evs_nil))) fun t k => ⟨rfl, k⟩) (fun t M1 k => ?two2) fun t1 t2 M2 k => ?go2
  case two2 =>
    obtain ⟨rfl, k⟩ := k
    exact evy_of (evp_draw hC.s (by decide +kernel) hm (by omega) (by decide) (by decide) (ev_name hC (by decide +kernel) (by decide +kernel) (look_tl (by decide +kernel) (look_tl (by decide +kernel) look_hd)))) fun t2 k2 => ⟨rfl, k, k2⟩
  obtain ⟨rfl, ⟨u, hu, rfl⟩, ⟨k', rfl, hk3⟩⟩ := k
  obtain ⟨c, hc, hj, hd, hb⟩ := callee_at hk3
  refine ex_assign (t := .d (calleeD c)) hC (by decide +kernel) (fun _ => rfl) (ev_idx (ds := [calleeD .plain, calleeD .own, calleeD .kind]) (i := k') (ev_list (ds := [calleeD .plain, calleeD .own, calleeD .kind]) (Nat.le_of_ble_eq_true rfl) (evs_cons star_t (ev_tuple (ds := [.str (Str.ofString "sym"), .str (Str.ofString "f")]) (Nat.le_of_ble_eq_true rfl) (evs_cons star_c ev_str (evs_cons star_c ev_str evs_nil))) (evs_cons star_k (ev_call hC.s (by decide +kernel) g_expr star_c (any_cons star_t any_nil) (expr_tells _ _) (by omega) (evs_cons star_c ev_str (evs_cons star_t (ev_tuple (ds := [symD (Str.ofString "own"), symD (Str.ofString "Kind")]) (Nat.le_of_ble_eq_true rfl) (evs_cons star_t (ev_tuple (ds := [.str (Str.ofString "sym"), .str (Str.ofString "own")]) (Nat.le_of_ble_eq_true rfl) (evs_cons star_c ev_str (evs_cons star_c ev_str evs_nil))) (evs_cons star_t (ev_tuple (ds := [.str (Str.ofString "sym"), .str (Str.ofString "Kind")]) (Nat.le_of_ble_eq_true rfl) (evs_cons star_c ev_str (evs_cons star_c ev_str evs_nil))) evs_nil))) evs_nil))) (evs_cons star_k (ev_call hC.s (by decide +kernel) g_expr star_c (any_cons star_t any_nil) (expr_tells _ _) (by omega) (evs_cons star_c ev_str (evs_cons star_t (ev_tuple (ds := [symD (Str.ofString "Kind")]) (Nat.le_of_ble_eq_true rfl) (evs_cons star_t (ev_tuple (ds := [.str (Str.ofString "sym"), .str (Str.ofString "Kind")]) (Nat.le_of_ble_eq_true rfl) (evs_cons star_c ev_str (evs_cons star_c ev_str evs_nil))) evs_nil)) evs_nil))) evs_nil)))) (ev_name hC (by decide +kernel) (by decide +kernel) (look_tl (by decide +kernel) look_hd)) (fun _ _ _ => rfl) (by omega) (by have : k' < 3 := hk3; omega) hj hd) ?_
  refine sx_ifP (PB := fun b => b = ((k' : Int) == (1 : Int))) (N' := fun Γ2 M2 => Γ2 = [(Str.ofString "callee", .d (calleeD c)), (Str.ofString "body", .d u.dat), (Str.ofString "way", .d (.int k')), (Str.ofString "arguments", .d (.list (arsD 0 as))), (Str.ofString "ahead", .r lh), (Str.ofString "sack", .r sk), (Str.ofString "kind", .d (kdV kd))] ∧ M2 = [(lh, .lst (takesD 0 as ++ ownD c)), (sk, .sack)]) (tstp_of (tst_cmp rfl (cmp_eq_int k' 1) (by omega) (ev_name hC (by decide +kernel) (by decide +kernel) (look_tl (by decide +kernel) (look_tl (by decide +kernel) look_hd))) ev_int) rfl) (fun hb1 => ?own) (fun hb1 => ?notown) fun Γ2 M2 k2 => ?go3
  case own =>
    rcases hb with ⟨h1, rfl⟩ | ⟨h1, _⟩
    · refine sx_append (M₂ := fun d => [(lh, .lst (takesD 0 as ++ [d])), (sk, .sack)]) hC (fun _ _ _ _ _ => rfl) (fun _ => rfl) (fun _ => rfl) (fun _ => rfl) (fun d => .head) (by omega) (ev_name hC (by decide +kernel) (by decide +kernel) (look_tl (by decide +kernel) (look_tl (by decide +kernel) (look_tl (by decide +kernel) (look_tl (by decide +kernel) look_hd))))) (evp_of (P := fun t => t = .d (nodeD (Str.ofString "=") [symD (Str.ofString "own"), symD (Str.ofString "#self")])) (ev_call hC.s (by decide +kernel) g_expr star_c (any_cons star_t any_nil) (expr_tells _ _) (by omega) (evs_cons star_c ev_str (evs_cons star_t (ev_tuple (ds := [symD (Str.ofString "own"), symD (Str.ofString "#self")]) (Nat.le_of_ble_eq_true rfl) (evs_cons star_t (ev_tuple (ds := [.str (Str.ofString "sym"), .str (Str.ofString "own")]) (Nat.le_of_ble_eq_true rfl) (evs_cons star_c ev_str (evs_cons star_c ev_str evs_nil))) (evs_cons star_t (ev_tuple (ds := [.str (Str.ofString "sym"), .str (Str.ofString "#self")]) (Nat.le_of_ble_eq_true rfl) (evs_cons star_c ev_str (evs_cons star_c ev_str evs_nil))) evs_nil))) evs_nil))) rfl) (PD := fun d => d = nodeD (Str.ofString "=") [symD (Str.ofString "own"), symD (Str.ofString "#self")]) (fun t h => ⟨_, h, rfl⟩) fun d hd => ?_
      obtain rfl : d = nodeD (Str.ofString "=") [symD (Str.ofString "own"), symD (Str.ofString "#self")] := hd
      exact sx_nil ⟨rfl, rfl⟩
    · exact absurd (hb1.trans h1) (by decide)
  case notown =>
    rcases hb with ⟨h1, _⟩ | ⟨_, h2⟩
    · exact absurd (hb1.trans h1) (by decide)
    · exact sx_nil ⟨rfl, by rw [h2, List.append_nil]⟩
  obtain ⟨rfl, rfl⟩ := k2
  clear hm
  have e3 := ownD_len c
  refine ex_freeze (Γ' := [(Str.ofString "callee", .d (calleeD c)), (Str.ofString "body", .d u.dat), (Str.ofString "way", .d (.int k')), (Str.ofString "arguments", .d (.list (arsD 0 as))), (Str.ofString "ahead", .d (.list (takesD 0 as ++ ownD c))), (Str.ofString "sack", .r sk), (Str.ofString "kind", .d (kdV kd))]) (fresh_tl (fresh_tl (fresh_tl (fresh_tl fresh_name)))) ?_
  have hm : (sk, Cell.sack) ∈ [(sk, Cell.sack)] := .head _
  refine ex_assign (t := .d (headD as c)) hC (by decide +kernel) (fun _ => rfl) (by rw [headD_call as hc]; exact (ev_call hC.s (by decide +kernel) g_expr star_c (any_cons star_b any_nil) (expr_tellsL _ _ (by rw [List.length_append, List.length_cons, List.length_nil]; omega)) (by omega) (evs_cons star_c ev_str (evs_cons star_b (ev_addL (d1 := [calleeD c]) (d2 := arsD 0 as) (by rw [List.length_cons, List.length_nil]; omega) (ev_list (ds := [calleeD c]) (Nat.le_of_ble_eq_true rfl) (evs_cons star_n (ev_name hC (by decide +kernel) (by decide +kernel) look_hd) evs_nil)) (ev_name hC (by decide +kernel) (by decide +kernel) (look_tl (by decide +kernel) (look_tl (by decide +kernel) (look_tl (by decide +kernel) look_hd))))) evs_nil)))) ?_
  obtain ⟨bk, hk1, _, hk3⟩ := kind_is (w := w) hk
  refine sx_ifP (PB := fun b => b = true → kd = none) (N' := fun Γ2 M2 => M2 = [(sk, .sack)] ∧ ∃ c', (c' = .tup → kd = none) ∧ Sub [(Str.ofString "head", .d (headD as c')), (Str.ofString "ahead", .d (.list (takesD 0 as ++ ownD c'))), (Str.ofString "body", .d u.dat), (Str.ofString "sack", .r sk), (Str.ofString "kind", .d (kdV kd))] Γ2) (tstp_and (PA := fun _ => True) (tstp_cmp (P2 := fun t => t = .d (.int 0)) rfl (by omega) (evp_draw hC.s (by decide +kernel) hm (by omega) (by decide) (by decide) (ev_name hC (by decide +kernel) (by decide +kernel) (look_tl (by decide +kernel) (look_tl (by decide +kernel) (look_tl (by decide +kernel) (look_tl (by decide +kernel) (look_tl (by decide +kernel) (look_tl (by decide +kernel) look_hd)))))))) (evp_of ev_int rfl) ?z) (fun _ h => nomatch h) fun _ => tstp_and (PA := fun b => b = bk) (tstp_of (tst_cmp rfl hk1 (by omega) (ev_name hC (by decide +kernel) (by decide +kernel) (look_tl (by decide +kernel) (look_tl (by decide +kernel) (look_tl (by decide +kernel) (look_tl (by decide +kernel) (look_tl (by decide +kernel) (look_tl (by decide +kernel) (look_tl (by decide +kernel) look_hd)))))))) ev_none) rfl) (fun _ h => nomatch h) fun hb => tstp_of tst_and0 fun _ => ?kn) (fun hkd => ?yes) (fun _ => sx_nil ⟨rfl, c, fun e => absurd e hc, (Sub.mk look_hd (Sub.mk (look_tl (by decide +kernel) (look_tl (by decide +kernel) (look_tl (by decide +kernel) (look_tl (by decide +kernel) (look_tl (by decide +kernel) look_hd))))) (Sub.mk (look_tl (by decide +kernel) (look_tl (by decide +kernel) look_hd)) (Sub.mk (look_tl (by decide +kernel) (look_tl (by decide +kernel) (look_tl (by decide +kernel) (look_tl (by decide +kernel) (look_tl (by decide +kernel) (look_tl (by decide +kernel) look_hd)))))) (Sub.mk (look_tl (by decide +kernel) (look_tl (by decide +kernel) (look_tl (by decide +kernel) (look_tl (by decide +kernel) (look_tl (by decide +kernel) (look_tl (by decide +kernel) (look_tl (by decide +kernel) look_hd))))))) Sub.nil)))))⟩) fun Γ2 M2 k2 => ?go4
  case z =>
    rintro t1 t2 ⟨i, rfl, _⟩ rfl
    exact ⟨_, _, _, rfl, rfl, cmp_eq_int _ _, trivial⟩
  case kn =>
    rcases hk3 with ⟨_, h⟩ | ⟨h, _⟩
    · exact h
    · rw [h] at hb; exact nomatch hb
  case yes =>
    have hkd := hkd rfl
    refine sx_assignComp hC (by decide +kernel) (fun _ _ _ _ _ => by kernel_rfl) (fun _ => rfl) rfl rfl (fun _ => rfl) (fun _ _ => rfl) (cl := []) (by rw [hC.e, hC.c]; with_unfolding_all rfl) rfl (by decide +kernel)
      (comp_listT (Δ := []) (ts := (takesD 0 as ++ ownD c).map Ent.d) (kb := keepb as) (de := fun i => (takesD 0 as).getD i .none) (by decide +kernel) rfl (by decide +kernel) listE_d (by rw [List.length_map, List.length_append]; omega) (fun _ _ h => nomatch h) rfl (ev_name hC (by decide +kernel) (by decide +kernel) (look_tl (by decide +kernel) (look_tl (by decide +kernel) (look_tl (by decide +kernel) (look_tl (by decide +kernel) (look_tl (by decide +kernel) look_hd)))))) (fun i u hu I cc D oI oC oD m₂ ho => ?el)) fun t ht => ?_
    case el =>
      obtain ⟨p, q, rfl, h1, h2⟩ := row_test (w := w) hl4 hu
      refine ⟨tst_cmp rfl h1 (by show 8 ≤ C.sz; omega) (ev_sub (ds := [p, q]) (ev_sub (ds := [.str (Str.ofString "expr"), .str (Str.ofString "="), .tuple [p, q]]) (ev_nameC (q := (cc, oC, m₂)) rfl (.tail _ (.head _)) (relabel_at hC.s) (by decide +kernel) (by decide +kernel) look_hd) (by decide) rfl (fun _ _ => rfl)) (by decide) rfl (fun _ _ => rfl)) (ev_tuple (ds := [.str (Str.ofString "sym"), .str (Str.ofString "own")]) (Nat.le_of_ble_eq_true rfl) (evs_cons star_c ev_str (evs_cons star_c ev_str evs_nil))), fun hk => ?_⟩
      rw [← Ent.d.inj (h2 hk)]
      exact (ev_nameC (q := (cc, oC, m₂)) rfl (.tail _ (.head _)) (relabel_at hC.s) (by decide +kernel) (by decide +kernel) look_hd)
    subst ht
    rw [picked_take, List.length_map, List.take_of_length_le (by rw [List.length_append]; omega)]
    refine ex_assign (t := .d (headD as .tup)) hC (by decide +kernel) (fun _ => rfl) (ev_call hC.s (by decide +kernel) g_expr star_c (any_cons star_n any_nil) (expr_tellsL _ _ (by omega)) (by omega) (evs_cons star_c ev_str (evs_cons star_n (ev_name hC (by decide +kernel) (by decide +kernel) (look_tl (by decide +kernel) (look_tl (by decide +kernel) (look_tl (by decide +kernel) (look_tl (by decide +kernel) (look_tl (by decide +kernel) look_hd)))))) evs_nil))) ?_
    exact sx_nil ⟨rfl, .tup, (fun _ => hkd), by rw [show takesD 0 as ++ ownD Hd.tup = takesD 0 as from List.append_nil _]; exact (Sub.mk look_hd (Sub.mk (look_tl (by decide +kernel) look_hd) (Sub.mk (look_tl (by decide +kernel) (look_tl (by decide +kernel) (look_tl (by decide +kernel) (look_tl (by decide +kernel) look_hd)))) (Sub.mk (look_tl (by decide +kernel) (look_tl (by decide +kernel) (look_tl (by decide +kernel) (look_tl (by decide +kernel) (look_tl (by decide +kernel) (look_tl (by decide +kernel) (look_tl (by decide +kernel) (look_tl (by decide +kernel) look_hd)))))))) (Sub.mk (look_tl (by decide +kernel) (look_tl (by decide +kernel) (look_tl (by decide +kernel) (look_tl (by decide +kernel) (look_tl (by decide +kernel) (look_tl (by decide +kernel) (look_tl (by decide +kernel) (look_tl (by decide +kernel) (look_tl (by decide +kernel) look_hd))))))))) Sub.nil)))))⟩
  obtain ⟨rfl, c', hct, hs'⟩ := k2
  refine sx_sub hs' (fun _ h => h) (fun h => h) ?_
  refine ex_assign (t := .d (kindD kd (headD as c'))) hC (by decide +kernel) (fun _ => rfl) ?hd ?_
  case hd =>
    rcases hk3 with ⟨rfl, rfl⟩ | ⟨rfl, d, rfl⟩
    · exact ev_ifT (tst_cmp rfl hk1 (by omega) (ev_name hC (by decide +kernel) (by decide +kernel) (look_tl (by decide +kernel) (look_tl (by decide +kernel) (look_tl (by decide +kernel) (look_tl (by decide +kernel) look_hd))))) ev_none) (ev_name hC (by decide +kernel) (by decide +kernel) look_hd)
    · exact ev_ifF (tst_cmp rfl hk1 (by omega) (ev_name hC (by decide +kernel) (by decide +kernel) (look_tl (by decide +kernel) (look_tl (by decide +kernel) (look_tl (by decide +kernel) (look_tl (by decide +kernel) look_hd))))) ev_none) (ev_call hC.s (by decide +kernel) g_expr star_c (any_cons star_t any_nil) (expr_tells _ _) (by omega) (evs_cons star_c ev_str (evs_cons star_t (ev_tuple (ds := [headD as c', d]) (Nat.le_of_ble_eq_true rfl) (evs_cons star_n (ev_name hC (by decide +kernel) (by decide +kernel) look_hd) (evs_cons star_n (ev_name hC (by decide +kernel) (by decide +kernel) (look_tl (by decide +kernel) (look_tl (by decide +kernel) (look_tl (by decide +kernel) (look_tl (by decide +kernel) look_hd))))) evs_nil))) evs_nil)))
  refine sx_ifP (PB := fun _ => True) (N' := fun Γ2 M2 => M2 = [(sk, .sack)] ∧ ∃ wh, Sub [(Str.ofString "head", .d (whereD wh (kindD kd (headD as c')))), (Str.ofString "ahead", .d (.list (takesD 0 as ++ ownD c'))), (Str.ofString "body", .d u.dat)] Γ2) (tstp_cmp (P2 := fun t => t = .d (.int 0)) rfl (by omega) (evp_draw hC.s (by decide +kernel) hm (by omega) (by decide) (by decide) (ev_name hC (by decide +kernel) (by decide +kernel) (look_tl (by decide +kernel) (look_tl (by decide +kernel) (look_tl (by decide +kernel) (look_tl (by decide +kernel) look_hd)))))) (evp_of ev_int rfl) ?z2) (fun _ => ex_assign (t := .d (whereD true (kindD kd (headD as c')))) hC (by decide +kernel) (fun _ => rfl) (ev_call hC.s (by decide +kernel) g_expr star_c (any_cons star_t any_nil) (expr_tells _ _) (by omega) (evs_cons star_c ev_str (evs_cons star_t (ev_tuple (ds := [kindD kd (headD as c'), symD (Str.ofString "T")]) (Nat.le_of_ble_eq_true rfl) (evs_cons star_n (ev_name hC (by decide +kernel) (by decide +kernel) look_hd) (evs_cons star_t (ev_tuple (ds := [.str (Str.ofString "sym"), .str (Str.ofString "T")]) (Nat.le_of_ble_eq_true rfl) (evs_cons star_c ev_str (evs_cons star_c ev_str evs_nil))) evs_nil))) evs_nil))) (sx_nil ⟨rfl, true, (Sub.mk look_hd (Sub.mk (look_tl (by decide +kernel) (look_tl (by decide +kernel) (look_tl (by decide +kernel) look_hd))) (Sub.mk (look_tl (by decide +kernel) (look_tl (by decide +kernel) (look_tl (by decide +kernel) (look_tl (by decide +kernel) look_hd)))) Sub.nil)))⟩)) (fun _ => sx_nil ⟨rfl, false, (Sub.mk look_hd (Sub.mk (look_tl (by decide +kernel) (look_tl (by decide +kernel) look_hd)) (Sub.mk (look_tl (by decide +kernel) (look_tl (by decide +kernel) (look_tl (by decide +kernel) look_hd))) Sub.nil)))⟩) fun Γ2 M2 k2 => ?go5
  case z2 =>
    rintro t1 t2 ⟨i, rfl, _⟩ rfl
    exact ⟨_, _, _, rfl, rfl, cmp_eq_int _ _, trivial⟩
  obtain ⟨rfl, wh, hs'⟩ := k2
  refine sx_sub hs' (fun _ h => h) (fun h => h) ?_
  exact ex_return (t := .d (.tuple [treeD as c' kd wh u.dat, .list (takesD 0 as ++ ownD c')])) (ev_tuple (ds := [treeD as c' kd wh u.dat, .list (takesD 0 as ++ ownD c')]) (Nat.le_of_ble_eq_true rfl) (evs_cons star_k (ev_call hC.s (by decide +kernel) g_expr star_c (any_cons star_t any_nil) (expr_tells _ _) (by omega) (evs_cons star_c ev_str (evs_cons star_t (ev_tuple (ds := [whereD wh (kindD kd (headD as c')), u.dat]) (Nat.le_of_ble_eq_true rfl) (evs_cons star_n (ev_name hC (by decide +kernel) (by decide +kernel) look_hd) (evs_cons star_n (ev_name hC (by decide +kernel) (by decide +kernel) (look_tl (by decide +kernel) (look_tl (by decide +kernel) look_hd))) evs_nil))) evs_nil))) (evs_cons star_n (ev_name hC (by decide +kernel) (by decide +kernel) (look_tl (by decide +kernel) look_hd)) evs_nil))) ⟨as, c', wh, u, hl4, hu, hct, rfl⟩
end Mine
namespace Mine
open PySem PySem.W PyProof.Rows PySem.Spec PySem.Calls
set_option linter.all false
variable {w : World} {C : Cx w} {Γ : Tys} {M : Cells} {pos p p2 : Pos} {sc : Scope} {e e1 e2 : PySem.Expr} {PP : Ent → Cells → Prop}
theorem bin_sub_int (i j : Int) : Bin w .Sub (.int i) (.int j) (.int (i - j)) := fun A s nw u v Q E hu hv ret => by
  cases hu; cases hv; exact sub_int (ret _ _ (.int _ _))
theorem bin_mulL {a b : Int} (h1 : -(2 ^ 64) < a) (h2 : a < 2 ^ 64) : Bin w .Mult (.int a) (.int b) (.int (a * b)) := fun A s nw u v Q E hu hv ret => by
  cases hu; cases hv; exact PyProof.Rows.mul_int (ret _ _ (.int _ _)) (.of_left (intBits_le_64 h1 h2))
theorem bin_pow14 : Bin w .Pow (.int 10) (.int 14) (.int 100000000000000) := fun A s nw u v Q E hu hv ret => by
  cases hu; cases hv
  exact PySem.AutoIntOps.pow_4 (by decide) (by decide) (by decide) (by decide) (by decide +kernel) (by rw [show ((10 : Int) ^ Int.toNat 14) = 100000000000000 by decide +kernel]; exact ret _ _ (.int _ _))
/-- int(e), e a truth value -/
theorem ev_intOf {b : Bool} (hC : Fm C sc) (hk : sc.names.lookup (Str.ofString "int") = some .globalImplicit) (hx : nsIn (KK w.params) mainGlobals (Str.ofString "int") = some none) (hb : bootBuiltins (Str.ofString "int") = some (.type "int"))
    (hn : Str.ofString "int" ≠ Str.ofString "__name__") (hd' : (Str.ofString "int" == Str.ofString "__debug__") = false) (hs : ∀ env, starEach [e] env = [(false, eval e env)]) (h : Ev C Γ M e (.d (.bool b))) : Ev C Γ M (.Call (.Name (Str.ofString "int") p) [e] [] pos) (.d (.int (if b then 1 else 0))) := .mk <| fun m R s Q E S hΓ ret => by
  refine Call_ (nameG_B S.F C.X (topRead_of C.T) hx hb hn ?_ C.hE (by rw [hC.e]) C.hkE (kind_at hC.s hk) hd')
  refine PyProof.Rows.callWith_type1 ((evs_cons hs h evs_nil).run pos m R s _ E S hΓ fun vs h' tk R' S' hs' hD => ?_) (hs _)
  match vs, hD with
  | [v], ⟨hD1, _⟩ =>
    have hD1 : DatIn (C.G ++ R') v (.bool b) := hD1
    cases hD1
    exact PySem.call_int_bool (ret _ h' _ R' (S'.toks _) hs' (.int _ _))
/-- [x, y]: a sack -/
theorem evy_newSack {x y : Int} (h1 : Ev C Γ M e1 (.d (.int x))) (h2 : Ev C Γ M e2 (.d (.int y))) (s1 : ∀ env, starEach [e1, e2] env = (false, eval e1 env) :: starEach [e2] env) (s2 : ∀ env, starEach [e2] env = [(false, eval e2 env)]) (hx : 0 ≤ x) (hy : 0 ≤ y) (hy2 : y < 4294967296) (hP : ∀ l, PP (.r l) ((l, .sack) :: M)) : EvY C Γ M (.List [e1, e2] pos) PP := .mk <| fun m R s Q E S hΓ ret => by
  refine List_ ((evs_cons s1 h1 (evs_cons s2 h2 evs_nil)).run pos m R s _ E S hΓ fun vs h' tk R' S' hs' hD => ?_)
  match vs, hD with
  | [v1, v2], ⟨q1, q2, _⟩ =>
  have q1 : DatIn (C.G ++ R') v1 (.int x) := q1
  have q2 : DatIn (C.G ++ R') v2 (.int y) := q2
  cases q1 with
  | int _ t1 =>
  cases q2 with
  | int _ t2 =>
  obtain ⟨os, No, hc, he⟩ := S'.cs.led
  refine newList_K (news := os ++ R') S'.F (fun p hp => (List.mem_append.mp hp).elim (No p) (S'.N p)) (fun l h2 F N' lt => ?_) (by rw [sizeLine_eq]; exact Nat.le_of_ble_eq_true rfl)
  refine ret (.ref l) h2 tk R' (.r l) ((l, .sack) :: M) ⟨F, fun p hp => N' p (.tail _ (List.mem_append.mpr (.inr hp))), fun q hq => ?_, ?_, fun p hp hm => ?_⟩ hs' rfl (hP l)
  · rcases List.mem_cons.mp hq with rfl | hq
    · exact ⟨_, ⟨x, y, t1, t2, 0, rfl, hx, hy, hy2⟩, N' _ (.head _)⟩
    · obtain ⟨o, h1, h2⟩ := hc q hq
      exact ⟨o, h1, N' _ (.tail _ (List.mem_append.mpr (.inl h2)))⟩
  · rw [List.map_cons, List.nodup_cons]
    refine ⟨fun hm => ?_, S'.nd⟩
    rw [← he] at hm
    obtain ⟨q, hq, e⟩ := List.mem_map.mp hm
    have := lt q (List.mem_append.mpr (.inl hq))
    rw [show q.1 = l from e] at this
    exact Nat.lt_irrefl _ this
  · rcases List.mem_cons.mp hm with e | hm
    · have := lt p (List.mem_append.mpr (.inr hp))
      rw [show p.1 = l from e] at this
      exact Nat.lt_irrefl _ this
    · exact S'.off p hp hm
theorem kq_listOf {n : Nat} {ds : List Dat} (h : ∀ d ∈ ds, kqdOk n d = true) : kqdOk (n + 1) (.list ds) = true := by
  simp only [kqdOk, List.all_eq_true]; exact h
theorem ints_ok : ∀ (ns : List Int), kqdOk 60 (.list (ns.map .int)) = true := fun ns => by
  refine kq_listOf (n := 59) fun d hd => ?_
  obtain ⟨i, _, rfl⟩ := List.mem_map.mp hd
  exact kq_int _ _
end Mine
namespace Mine
open PySem PySem.W PyProof.Rows PySem.Spec PySem.Calls
set_option linter.all false
variable {w : World}
theorem fm_lo (z : Int) : 0 ≤ z.fmod 1000253 + 31 := Int.add_nonneg (fmod_lo _ (by decide)) (by decide)
theorem cmpb_geT {i j : Int} (h : j ≤ i) : Cmp w .GtE (.int i) (.int j) true := by have := cmp_ge_int (w := w) i j; rw [decide_eq_true h] at this; exact this
theorem cmpb_geF {i j : Int} (h : ¬ j ≤ i) : Cmp w .GtE (.int i) (.int j) false := by have := cmp_ge_int (w := w) i j; rw [decide_eq_false h] at this; exact this
theorem fm_hi (z : Int) : z.fmod 1000253 + 31 < 4294967296 := by
  have := fmod_hi z (n := 1000253) (by decide)
  omega
theorem star_o {a b : PySem.Expr} {op : CmpOp} {p : Pos} {es : List PySem.Expr} : ∀ env, starEach (.Compare a [op] [b] p :: es) env = (false, eval (.Compare a [op] [b] p) env) :: starEach es env := fun _ => rfl
theorem sack_tells (ns : List Int) : YTells w 199 12 [.d (.list (ns.map .int))] [] (fun t M' => ∃ sk, t = .r sk ∧ M' = [(sk, .sack)]) := by
  refine fn_tellsY (n := 11) (ps := [Str.ofString "script"]) ⟨⟨_, _, _, _, _, _, _, _, _, _, _, _, _, by exact rfl, by exact rfl, binds1 fun _ => rfl⟩, by decide +kernel, rfl, rfl, rfl, by decide +kernel⟩ rfl (by decide +kernel) (fun _ _ _ _ h => nomatch h) fun C hC hsz => ?_
  refine ex_assignP (P1 := fun t => ∃ x : Int, t = .d (.int x)) hC (by decide +kernel) (fun _ => rfl) ?told fun t k => ?_
  case told =>
    cases ns with
    | nil => exact evp_of (ev_ifF (tst_cmp rfl (cmp_ne_f (d := .list []) (e := .list []) rfl rfl rfl) (by omega) (ev_name hC (by decide +kernel) (by decide +kernel) look_hd) (ev_list (ds := []) (Nat.le_of_ble_eq_true rfl) evs_nil)) ev_int) ⟨_, rfl⟩
    | cons a r => exact evp_of (ev_ifT (tst_cmp rfl (cmp_ne_t (d := .list ((a :: r).map .int)) (e := .list []) (ints_ok _) rfl (fun e => by cases e)) (by omega) (ev_name hC (by decide +kernel) (by decide +kernel) look_hd) (ev_list (ds := []) (Nat.le_of_ble_eq_true rfl) evs_nil)) (ev_idx (ds := (a :: r).map .int) (ev_name hC (by decide +kernel) (by decide +kernel) look_hd) ev_int (fun _ _ _ => rfl) (by decide) (by decide) (j := 0) seq_hd rfl)) ⟨_, rfl⟩
  obtain ⟨x, rfl⟩ := k
  refine ex_assignP (P1 := fun t => ∃ y : Int, t = .d (.int y) ∧ 0 ≤ y) hC (by decide +kernel) (fun _ => rfl) (evp_if (PB := fun b => b = decide ((0 : Int) ≤ x)) (tstp_of (tst_cmp rfl (cmp_ge_int x 0) (by omega) (ev_name hC (by decide +kernel) (by decide +kernel) look_hd) ev_int) rfl) (fun hb => evp_of (ev_name hC (by decide +kernel) (by decide +kernel) look_hd) ⟨x, rfl, of_decide_eq_true hb.symm⟩) (fun hb => evp_of (ev_bin (bin_sub_int _ _) ev_int (ev_bin (bin_mulL (by decide) (by decide)) ev_int (ev_name hC (by decide +kernel) (by decide +kernel) look_hd))) ⟨_, rfl, ?neg⟩)) fun t k => ?_
  case neg =>
    have h : ¬ (0 : Int) ≤ x := of_decide_eq_false hb.symm
    show (0 : Int) ≤ 0 - 3 * x
    omega
  obtain ⟨y, rfl, hy⟩ := k
  by_cases hw : (100000000000000 : Int) ≤ y
  · exact sx_retY (evy_newSack (x := y) (ev_ifT (tst_cmp rfl (cmpb_geT hw) (by omega) (ev_name hC (by decide +kernel) (by decide +kernel) look_hd) (ev_bin bin_pow14 ev_int ev_int)) (ev_name hC (by decide +kernel) (by decide +kernel) look_hd)) (ev_bin (bin_add_int _ _) (ev_bin (bin_mod_int (by decide)) (ev_bin (bin_add_int _ _) (ev_bin (bin_mul_int (by decide) (by decide)) (ev_name hC (by decide +kernel) (by decide +kernel) look_hd) ev_int) (ev_intOf hC (by decide +kernel) (by kernel_rfl) (by boot_fast) (by decide) (by decide +kernel) star_o (ev_cmp rfl (cmp_lt_int x 0) (by omega) (ev_name hC (by decide +kernel) (by decide +kernel) (look_tl (by decide +kernel) look_hd)) ev_int))) ev_int) ev_int) star_i star_b hy (fm_lo _) (fm_hi _) fun l => ⟨[], _, rfl, l, rfl, rfl⟩)
  · exact sx_retY (evy_newSack (x := 0) (ev_ifF (tst_cmp rfl (cmpb_geF hw) (by omega) (ev_name hC (by decide +kernel) (by decide +kernel) look_hd) (ev_bin bin_pow14 ev_int ev_int)) ev_int) (ev_bin (bin_add_int _ _) (ev_bin (bin_mod_int (by decide)) (ev_bin (bin_add_int _ _) (ev_bin (bin_mul_int (by decide) (by decide)) (ev_name hC (by decide +kernel) (by decide +kernel) look_hd) ev_int) (ev_intOf hC (by decide +kernel) (by kernel_rfl) (by boot_fast) (by decide) (by decide +kernel) star_o (ev_cmp rfl (cmp_lt_int x 0) (by omega) (ev_name hC (by decide +kernel) (by decide +kernel) (look_tl (by decide +kernel) look_hd)) ev_int))) ev_int) ev_int) star_i star_b (Int.le_refl _) (fm_lo _) (fm_hi _) fun l => ⟨[], _, rfl, l, rfl, rfl⟩)
end Mine
namespace Mine
open PySem PySem.W PyProof.Rows PySem.Spec PySem.Calls
set_option linter.all false
section
variable {nw nw' : Led}
theorem DicIn.get : ∀ {en : List DictEntry} {es : List (Str × Ent)} {x : Str} {t : Ent}, DicIn nw en es → es.lookup x = some t → ∃ v, getL x en = some (some v) ∧ EntIn nw v t := by
  intro en es x t h hx
  have key : ∃ e, en.find? (·.key.isStr x) = some e ∧ EntIn nw e.val t := by
    induction en generalizing es with
    | nil => cases es with
      | nil => cases hx
      | cons _ _ => exact h.elim
    | cons e en ih =>
      cases es with
      | nil => exact h.elim
      | cons q es =>
        obtain ⟨⟨hh, tk, v, rfl, hv⟩, r⟩ := h
        by_cases hq : (x == q.1) = true
        · have hq' := beq_iff_eq.mp hq
          have : List.lookup x (q :: es) = some q.2 := by
            obtain ⟨a, b⟩ := q
            simp only [List.lookup] at *
            rw [hq]
          rw [this] at hx
          cases hx
          refine ⟨⟨hh, .str q.1 tk, v⟩, ?_, hv⟩
          rw [List.find?_cons_of_pos]
          show (q.1 == x) = true
          rw [hq']; exact beq_self_eq_true _
        · have : List.lookup x (q :: es) = List.lookup x es := by
            obtain ⟨a, b⟩ := q
            simp only [List.lookup]
            rw [Bool.not_eq_true] at hq
            simp only at hq
            rw [hq]
          rw [this] at hx
          obtain ⟨e, h1, h2⟩ := ih r hx
          refine ⟨e, ?_, h2⟩
          rw [List.find?_cons_of_neg, h1]
          show ¬ (q.1 == x) = true
          intro e
          exact hq (by rw [beq_iff_eq.mp e]; exact beq_self_eq_true _)
  obtain ⟨e, h1, h2⟩ := key
  exact ⟨e.val, by unfold getL; rw [h1], h2⟩
theorem DicIn.noref : ∀ {en : List DictEntry} {es : List (Str × Ent)}, DicIn nw en es → en.any (·.refKey) = false
  | [], [], _ => rfl
  | _ :: _, _ :: _, ⟨⟨_, _, _, e, _⟩, r⟩ => by
    rw [List.any_cons, DicIn.noref r, e]
    rfl
theorem DicIn.has {en : List DictEntry} {es : List (Str × Ent)} (x : Str) (h : DicIn nw en es) : (getL x en).isSome = true := by
  unfold getL
  split
  · rfl
  · rw [h.noref]; rfl
theorem DicIn.len : ∀ {en : List DictEntry} {es : List (Str × Ent)}, DicIn nw en es → en.length = es.length
  | [], [], _ => rfl
  | _ :: _, _ :: _, ⟨_, r⟩ => by rw [List.length_cons, List.length_cons, DicIn.len r]
def putE (x : Str) (t : Ent) : List (Str × Ent) → List (Str × Ent)
  | [] => [(x, t)]
  | q :: r => if q.1 == x then (q.1, t) :: r else q :: putE x t r
theorem putE_len (x : Str) (t : Ent) : ∀ es, (putE x t es).length ≤ es.length + 1
  | [] => Nat.le_refl _
  | q :: r => by
    have := putE_len x t r
    unfold putE
    split <;> simp only [List.length_cons] <;> omega
theorem DicIn.put {x : Str} {v : Value} {t : Ent} {hsh : Int} {tk : Tok} (hs : ∀ p ∈ nw, p ∈ nw') (hv : EntIn nw' v t) : ∀ {en : List DictEntry} {es : List (Str × Ent)}, DicIn nw en es → DicIn nw' (putL x hsh (.str x tk) v en) (putE x t es)
  | [], [], _ => ⟨⟨_, _, _, rfl, hv⟩, trivial⟩
  | e :: en, q :: es, ⟨⟨hh, tk', v', e', hv'⟩, r⟩ => by
    subst e'
    unfold putL putE
    show DicIn nw' (if (q.1 == x) = true then _ else _) _
    cases hq : (q.1 == x) with
    | true => exact ⟨⟨_, _, _, rfl, hv⟩, r.mono hs⟩
    | false => exact ⟨⟨_, _, _, rfl, hv'.mono hs⟩, DicIn.put hs hv r⟩
end
variable {w : World} {C : Cx w} {Γ Γ' : Tys} {M M' : Cells} {pos p p2 p3 : Pos} {sc : Scope} {rest : List Stmt} {N : Tys → Cells → Prop} {PP : Ent → Cells → Prop} {o e : PySem.Expr} {x : Str}
/-- the state with one cell apart -/
theorem St.split {l : Addr} {c c' : Cell} {m : Str → Option Value} {R : Led} {s : Shared} (S : St C m M R s) (U : UpdC l c c' M M') : ∃ o pre post, CellIn (C.G ++ R) o c ∧ News C.h₀ C.L s.heap (pre ++ (l, o) :: post) ∧ (∀ p ∈ pre, p.1 ≠ l) ∧ (∀ p ∈ post, p.1 ≠ l) ∧
    ∀ h' tk o', Fr C.h₀ C.L h' m → News C.h₀ C.L h' (pre ++ (l, o') :: post) → CellIn (C.G ++ R) o' c' → St C m M' R (upS s h' tk) := by
  obtain ⟨m1, m2, m3, m4⟩ := U.mem
  obtain ⟨os, No, hos, he⟩ := S.cs.led
  obtain ⟨o, ho, hm⟩ := hos _ m1
  obtain ⟨pre, post, rfl⟩ := List.append_of_mem hm
  have nd : ((pre ++ (l, o) :: post).map (·.1)).Nodup := he ▸ S.nd
  rw [List.map_append, List.map_cons, List.nodup_append, List.nodup_cons] at nd
  have hpre : ∀ p ∈ pre, p.1 ≠ l := fun p hp => nd.2.2 _ (List.mem_map_of_mem hp) _ (.head _)
  have hpost : ∀ p ∈ post, p.1 ≠ l := fun p hp e => nd.2.1.1 (List.mem_map.mpr ⟨p, hp, e⟩)
  refine ⟨o, pre, post ++ R, ho, fun p hp => ?_, hpre, fun p hp => ?_, fun h' tk o' F' N' hc' => ⟨F', fun p hp => N' p (List.mem_append.mpr (.inr (.tail _ (List.mem_append.mpr (.inr hp))))), fun q hq => ?_, m3 ▸ S.nd, fun p hp => m3 ▸ S.off p hp⟩⟩
  · rw [← List.cons_append, ← List.append_assoc] at hp
    exact (List.mem_append.mp hp).elim (No p) (S.N p)
  · rcases List.mem_append.mp hp with hp | hp
    · exact hpost p hp
    · exact fun e => S.off p hp (e ▸ List.mem_map_of_mem m1)
  · by_cases e : q.1 = l
    · have q2 := nodup_eq (m3 ▸ S.nd) hq m2 e
      subst q2
      exact ⟨o', hc', N' _ (List.mem_append.mpr (.inr (.head _)))⟩
    · rcases m4 q hq with rfl | hq
      · exact absurd rfl e
      · obtain ⟨oq, h1, h2⟩ := hos q hq
        refine ⟨oq, h1, N' (q.1, oq) ?_⟩
        rcases List.mem_append.mp h2 with h2 | h2
        · exact List.mem_append.mpr (.inl h2)
        · rcases List.mem_cons.mp h2 with h2 | h2
          · exact absurd (congrArg Prod.fst h2) e
          · exact List.mem_append.mpr (.inr (.tail _ (List.mem_append.mpr (.inl h2))))
def Ent.known : Ent → Bool
  | .any => false
  | _ => true
theorem handed {nw : Led} {v : Value} {t : Ent} (h : EntIn nw v t) (hk : t.known = true) : handedIn v = true := by
  cases t with
  | d x => have h : DatIn nw v x := h; cases h <;> rfl
  | r l => have h : v = .ref l := h; subst h; rfl
  | arg x => obtain ⟨a, D, es, n, rfl, _⟩ := (show ObjIn nw v 110 (argFs x) from h); rfl
  | args xs => obtain ⟨a, vs, n, rfl, _⟩ := (show ArgL nw v xs from h); rfl
  | hd xs c r ps => obtain ⟨a, D, es, n, u, rfl, _⟩ := (show HdIn nw v xs c r ps from h); rfl
  | any => exact nomatch hk
/-- what the class's name table says of a field -/
structure Fld (w : World) (cls : Addr) (x : Str) : Prop where
  g : plainGet (KK w.params) cls x = true
  h : hasDictIn (KK w.params) cls = true
  f : findIn (KK w.params) (.ref cls) x = some none
  n : noGet (KK w.params) none = true
end Mine
namespace Mine
open PySem PySem.W PyProof.Rows PySem.Spec PySem.Calls
set_option linter.all false
variable {w : World} {C : Cx w} {Γ Γ' : Tys} {M M' : Cells} {pos p p2 p3 : Pos} {sc : Scope} {rest : List Stmt} {N : Tys → Cells → Prop} {PP : Ent → Cells → Prop} {o e : PySem.Expr} {x : Str}
/-- reading a field -/
def Rd (w : World) (t : Ent) (M : Cells) (x : Str) (u : Ent) : Prop := ∀ (C : Cx w) (m : Str → Option Value) (R : Led) (s : Shared) (v : Value) (Q E : Value → Shared → Prop), St C m M R s → EntIn (C.G ++ R) v t → (∀ r tk, EntIn (C.G ++ R) r u → Q r (upS s s.heap tk)) → wpAny (PM w) C.A (getAttr v x true) Q E s
theorem rd_own {H D cls : Addr} {es : List (Str × Ent)} {t : Ent} (hf : Fld w cls x) (hH : (H, Cell.raw (instObj cls D)) ∈ M) (hD : (D, Cell.dic es) ∈ M) (hx : es.lookup x = some t) (hk : t.known = true) : Rd w (.r H) M x t := fun C m R s v Q E S hv ret => by
  have hv : v = .ref H := hv
  subst hv
  obtain ⟨o1, e1, g1, _⟩ := S.cs _ hH
  have e1 : o1 = instObj cls D := e1
  subst e1
  obtain ⟨o2, ⟨en, n, rfl, hd⟩, g2, _⟩ := S.cs _ hD
  obtain ⟨v, hv1, hv2⟩ := hd.get hx
  exact get_own (ox := instObj cls D) (C := cls) (es := en) (n := n) S.F C.X ⟨g1, rfl, rfl, g2⟩ hf.g hf.h hf.f hf.n hv1 (handed hv2 hk) (ret v _ hv2)
theorem rd_arg {y : Str} {d : Dat} (hf : Fld w 110 x) (hx : (x, d) ∈ argFs y) : Rd w (.arg y) M x (.d d) := fun C m R s v Q E S hv ret => by
  obtain ⟨a, D, es, n, rfl, h1, h2, h3⟩ := (show ObjIn _ v 110 (argFs y) from hv)
  obtain ⟨u, hu, hd⟩ := h3 _ hx
  exact get_own (ox := instObj 110 D) (C := 110) (es := es) (n := n) S.F C.X ⟨S.reads' _ h1, rfl, rfl, S.reads' _ h2⟩ hf.g hf.h hf.f hf.n hu (handed (t := .d d) hd rfl) (ret u _ hd)
theorem rd_hd {xs : List Str} {c r d : Dat} {ps : List Dat} (hf : Fld w 131 x) (hx : (x, d) ∈ hdFs c r ps) : Rd w (.hd xs c r ps) M x (.d d) := fun C m R s v Q E S hv ret => by
  obtain ⟨a, D, es, n, u, rfl, h1, h2, h3, h4, h5⟩ := (show HdIn _ v xs c r ps from hv)
  obtain ⟨u, hu, hd⟩ := h3 _ hx
  exact get_own (ox := instObj 131 D) (C := 131) (es := es) (n := n) S.F C.X ⟨S.reads' _ h1, rfl, rfl, S.reads' _ h2⟩ hf.g hf.h hf.f hf.n hu (handed (t := .d d) hd rfl) (ret u _ hd)
theorem rd_hdA {xs : List Str} {c r : Dat} {ps : List Dat} (hf : Fld w 131 (Str.ofString "arguments")) : Rd w (.hd xs c r ps) M (Str.ofString "arguments") (.args xs) := fun C m R s v Q E S hv ret => by
  obtain ⟨a, D, es, n, u, rfl, h1, h2, h3, h4, h5⟩ := (show HdIn _ v xs c r ps from hv)
  exact get_own (ox := instObj 131 D) (C := 131) (es := es) (n := n) S.F C.X ⟨S.reads' _ h1, rfl, rfl, S.reads' _ h2⟩ hf.g hf.h hf.f hf.n h4 (handed (t := .args xs) h5 rfl) (ret u _ h5)
/-- o.x -/
theorem evy_attr {P1 : Ent → Cells → Prop} (he : ∀ env, eval (.Attribute o x pos) env = (do
      let ov ← eval o env
      standAt pos.atName
      let r ← holding [ov] (getAttr ov x true)
      letTemporaryGo o ov r
      pure r)) (h : EvY C Γ M o P1) (hr : ∀ t M', P1 t M' → ∃ u, Rd w t M' x u ∧ PP u M') : EvY C Γ M (.Attribute o x pos) PP := .mk <| fun m R s Q E S hΓ ret => by
  refine Attribute_any_ (h.run m R s _ E S hΓ fun v h' tk R' t M' S' hs' hv k => ?_) (he _)
  obtain ⟨u, hrd, hp⟩ := hr t M' k
  exact hrd C m R' _ v _ _ S' hv fun r tk hu => ret r h' tk R' u M' ⟨S'.F, S'.N, S'.cs, S'.nd, S'.off⟩ hs' hu hp
theorem ev_attr {t u : Ent} (he : ∀ env, eval (.Attribute o x pos) env = (do
      let ov ← eval o env
      standAt pos.atName
      let r ← holding [ov] (getAttr ov x true)
      letTemporaryGo o ov r
      pure r)) (hrd : Rd w t M x u) (h : Ev C Γ M o t) : Ev C Γ M (.Attribute o x pos) u := .mk <| fun m R s Q E S hΓ ret => by
  refine Attribute_any_ (h.run m R s _ E S hΓ fun v h' tk R' S' hs' hv => ?_) (he _)
  exact hrd C m R' _ v _ _ S' hv fun r tk hu => ret r h' tk R' ⟨S'.F, S'.N, S'.cs, S'.nd, S'.off⟩ hs' hu
/-- what the class's name table says of a store -/
structure FldS (w : World) (cls : Addr) (x : Str) : Prop where
  s : findIn (KK w.params) (.ref cls) "__setattr__" = some (some (.builtin "object.__setattr__"))
  p : plainOver (KK w.params) cls = true
  t : takerIn (KK w.params) cls x = some none
  h : hasDictIn (KK w.params) cls = true
/-- o.x = e -/
theorem sx_setattr {H D cls : Addr} {PA : Ent → Cells → Prop} (hf : FldS w cls x) (hs : ∀ env, swapsWith e (some (.Attribute o x p)) pos.line env = pure false) (h : EvY C Γ M e PA)
    (r : ∀ t M1, PA t M1 → ∃ es M2, Ev C Γ M1 o (.r H) ∧ (H, Cell.raw (instObj cls D)) ∈ M1 ∧ UpdC D (.dic es) (.dic (putE x t es)) M1 M2 ∧ es.length ≤ 100 ∧ Sx C Γ M2 rest N PP) : Sx C Γ M (.Assign [.Attribute o x p] e pos :: rest) N PP := .mk <| fun m R s Q S hΓ nx ret => by
  refine wpAny_execs_cons (plainObj_wpAny_Assign_Attribute (h.run m R s _ _ S hΓ fun v ha tka R1 t M1 S1 hs1 hv k => ?_) (hs _))
  obtain ⟨es, M2, ho, hH, U, hz, hrest⟩ := r t M1 k
  refine ho.run m R1 _ _ _ S1 (hΓ.mono hs1) fun v2 hb tkb R2 S2 hs2 hv2 => ?_
  have hv2 : v2 = .ref H := hv2
  subst hv2
  have hv : EntIn (C.G ++ R2) v t := EntIn.mono (up_mono hs2) hv
  obtain ⟨o1, e1, g1, _⟩ := S2.cs _ hH
  have e1 : o1 = instObj cls D := e1
  subst e1
  obtain ⟨o2, pre, post, ⟨en, n, rfl, hd⟩, Nn, h1, h2, back⟩ := S2.split U
  have g2 := (Nn (D, W.dictOf en n) (List.mem_append.mpr (.inr (.head _)))).1
  have I : InstAt hb H (instObj cls D) cls (some (W.dictOf en n)) := ⟨g1, rfl, rfl, g2⟩
  have X := C.X.keeps S2.F.keep
  have hd' := hd.put (x := x) (v := v) (t := t) (hsh := PyData.keyHash w.params x) (tk := tkb + 1) (fun _ h => h) hv
  refine set_plain X I hf.s (osa_dict (x := H) (C := cls) (s := upS s hb (tkb + 1)) (es := putL x (PyData.keyHash w.params x) (.str x (tkb + 1)) v en) (n := putN x en n) (od' := W.dictOf (putL x (PyData.keyHash w.params x) (.str x (tkb + 1)) v en) (putN x en n)) S2.F Nn X I rfl hf.p hf.t hf.h ?_ h1 h2 (putName_dict _ _ _ _ _ _) rfl ?_ fun h' F' N' => ?_)
  · rw [lookIn_dict]; exact hd.has x
  · rw [hd'.len]; have := putE_len x t es; omega
  · have S3 := back h' (tkb + 1 + 1) _ F' N' ⟨_, _, rfl, hd'⟩
    exact hrest.run m R2 _ Q ⟨S3.F, S3.N, S3.cs, S3.nd, S3.off⟩ (hΓ.mono fun q hq => hs2 q (hs1 q hq)) (fun m' h tk R' Γ' M' S' hs' => nx m' h tk R' Γ' M' S' fun q hq => hs' q (hs2 q (hs1 q hq))) fun v m' h tk R' M' t S' hs' => ret v m' h tk R' M' t S' fun q hq => hs' q (hs2 q (hs1 q hq))
end Mine
namespace Mine
open PySem PySem.W PyProof.Rows PySem.Spec PySem.Calls
set_option linter.all false
variable {w : World}
/-- a class by its __init__ -/
structure ClsAt (w : World) (cls fI : Addr) : Prop where
  m : makesIn (KK w.params) cls = true
  i : findIn (KK w.params) (.ref cls) "__init__" = some (some (.ref fI))
  f : typeIn (KK w.params) (.ref fI) = some (.type "function")
theorem cls_tells {cls fI : Addr} {ps : List Str} {body : List Stmt} {scope : Scope} {ts : List Ent} {P : Ent → Cells → Prop} {n : Nat} (K : ClsAt w cls fI) (H : FnAt w fI ps body scope) (hl : ps.length = ts.length + 1) (hnd : ps.Nodup)
    (h : ∀ (C : Cx w) (x dx : Addr), Fm C scope → C.sz = n → Sx C (ps.zip (.r x :: ts)) [(x, .raw (instObj cls dx)), (dx, .dic [])] body (fun _ M' => dropY P (.r x) M') (fun _ _ => False)) : YTells w cls (n + 2) ts [] P := by
  intro C m s args rd Q E hn F hv hc rk R ro hnM hret
  obtain ⟨⟨name, qual, params, dV, kV, doc, pm, cdv, ct, oc, an, od, osl, ho, hcd, hb⟩, hlocs, hco, hgen, hkind, hcell⟩ := H
  have hd' := C.hd
  have hu' := C.hu
  have X := C.X.keeps F.keep
  refine wpAny_call ?_
  obtain ⟨hh, gs, dr, tk, osS⟩ := s
  refine make_core (makes_of X K.m) (looks_findIn X K.i) (fun self => bind_fn X self K.f) (.inl rfl) ?_
  have F2 : Fr C.h₀ C.L ((hh.push emptyDict).push (instObj cls hh.objs.size)) m := (F.push _).push _
  have N2 : News C.h₀ C.L ((hh.push emptyDict).push (instObj cls hh.objs.size)) [(hh.objs.size + 1, instObj cls hh.objs.size), (hh.objs.size, emptyDict)] := by
    have := ((News.nil (h₀ := C.h₀) (L := C.L) (h := hh)).push F emptyDict).push (F.push _) (instObj cls hh.objs.size)
    rwa [Heap.size_push] at this
  have up : ∀ b o, hh.get? b = some o → ((hh.push emptyDict).push (instObj cls hh.objs.size)).get? b = some o := fun b o e => Heap.get?_push_of_some _ (Heap.get?_push_of_some _ e)
  have far : ∀ b o, hh.get? b = some o → b ∉ ([(hh.objs.size + 1, instObj cls hh.objs.size), (hh.objs.size, emptyDict)] : Led).map (·.1) := fun b o e hm => by
    have := Heap.lt_size e
    simp only [List.map_cons, List.map_nil, List.mem_cons, List.not_mem_nil, or_false] at hm
    rcases hm with rfl | rfl
    · exact Nat.lt_irrefl _ (Nat.lt_of_succ_lt this)
    · exact Nat.lt_irrefl _ this
  let s2 : Shared := ⟨(hh.push emptyDict).push (instObj cls hh.objs.size), gs, dr, tk, osS⟩
  have hvl : (Value.ref (hh.objs.size + 1) :: args).length = ps.length := by rw [List.length_cons, hl, hv.len]
  let A2 : Around := ktrTop (C.dp + 1) (C.un + 1) (pushGuards (Code.builtin "type.__call__" ⟨.ref cls :: args, []⟩).guards C.gd) C.cn C.cs C.L C.a C.ccd C.cl C.outer
  have eA : C.A.under (.builtin "type.__call__" ⟨.ref cls :: args, []⟩) = A2 := rfl
  rw [eA]
  have B2 : Below C.A₀ C.base C.outer C.h₀ := C.B
  refine code_defG (A := A2) (s := s2) (news := [(hh.objs.size + 1, instObj cls hh.objs.size), (hh.objs.size, emptyDict)]) C.B F2 C.X N2 C.T rfl rfl C.hk ho hcd (by show C.dp + 1 < recursionLimit; omega) (hb _ _ hvl) (fun y hy => hlocs _ (zip_mem y hy)) ?_ hco hgen hkind hcell
  intro g L' h₁ FG F' N' B' X' T' GS
  have hR : ∀ p ∈ rd, g.get? p.1 = some p.2 := fun p hp => GS _ _ (up _ _ (R p hp)) (far _ _ (R p hp))
  have GS' : GSub hh g (([] : Cells).map (·.1)) := fun b o e _ => GS b o (up _ _ e) (far _ _ e)
  let C' : Cx w := ⟨C.dp + 2, C.un + 4, pushGuards (Code.builtin "type.__call__" ⟨.ref cls :: args, []⟩).guards C.gd, qual, scope, L', fI, cdv, [], envX C.cn C.cs C.L C.a C.ccd C.cl :: C.outer, _, C.base, g, C.mean, C.mg, C.mb, rd, n, B', X', T', hkind, hR, rk, envOf qual scope L' fI cdv, none, [], rfl, hkind, fun _ => rfl, (fun _ h => nomatch h), by omega, by omega⟩
  have hcs : CellsAt g L' h₁ (rd ++ []) [(hh.objs.size + 1, .raw (instObj cls hh.objs.size)), (hh.objs.size, .dic [])] := fun q hq => by
    rcases List.mem_cons.mp hq with rfl | hq
    · exact ⟨_, rfl, N' _ (.head _)⟩
    · rw [List.mem_singleton.mp hq]
      exact ⟨_, ⟨[], 0, rfl, trivial⟩, N' _ (.tail _ (.head _))⟩
  refine wpAny_mono ((h C' (hh.objs.size + 1) hh.objs.size ⟨rfl, rfl, rfl⟩ rfl).run (fun y => List.lookup y (ps.zip (Value.ref (hh.objs.size + 1) :: args)).reverse) [] _ _ ⟨F', fun _ h => (nomatch h), hcs, ?_, fun _ h => (nomatch h)⟩ ⟨fun x t hx => ?_, fun x t hx => nomatch (show (none : Option Ent) = some t from hx)⟩ ?_ fun _ _ _ _ _ _ _ _ _ _ k => k.elim) (fun _ _ x => x) fun _ _ x => x.elim
  · simp
  · obtain ⟨v, hv, hd'⟩ := zip_env (G := rd) ps (Value.ref (hh.objs.size + 1) :: args) (.r (hh.objs.size + 1) :: ts) ⟨rfl, hv⟩ (by rw [hl]; rfl) hnd x t hx
    exact ⟨v, hv, hd'.mono fun p hp => List.mem_append.mpr (.inl hp)⟩
  · intro m' h' tk R' Γ' M' S _ _ k
    refine leaveK_ S.F S.N fun F2 N2 => ⟨rfl, ?_⟩
    exact ret_end (s := ⟨hh, gs, dr, tk, osS⟩) (v := .ref (hh.objs.size + 1)) (t := .r (hh.objs.size + 1)) GS' F hc hret F2 N2 S.F.keep S.cs S.nd S.off (fun p hp => (S.N p hp).2.2) (fun _ _ _ _ h => nomatch h) rfl k
end Mine
namespace Mine
open PySem PySem.W PyProof.Rows PySem.Spec PySem.Calls
set_option linter.all false
variable {w : World} {C : Cx w} {Γ Γ' : Tys} {M M' M₂ : Cells} {pos p p2 p3 : Pos} {sc : Scope} {rest : List Stmt} {N : Tys → Cells → Prop} {PP : Ent → Cells → Prop} {o e : PySem.Expr} {x : Str} {k : Nat}
theorem binds3 {name qual : Str} {params : Arguments} {body : List Stmt} {scope : Scope} {dV kV doc pm cdv ct : Value} {an : Option Addr} {p1 p2 p3 : Str}
    (h : ∀ v1 v2 v3, bindArgs (fnOf name qual params body scope dV kV doc pm an cdv ct) { pos := [v1, v2, v3], kw := [] } = pure [(p1, v1), (p2, v2), (p3, v3)]) : ∀ (s : Shared) (vs : List Value), vs.length = [p1, p2, p3].length → BindsTo s (fnOf name qual params body scope dV kV doc pm an cdv ct) { pos := vs, kw := [] } ([p1, p2, p3].zip vs)
  | _, [v1, v2, v3], _ => BindsTo.of_eq (h v1 v2 v3)
theorem binds5 {name qual : Str} {params : Arguments} {body : List Stmt} {scope : Scope} {dV kV doc pm cdv ct : Value} {an : Option Addr} {p1 p2 p3 p4 p5 : Str}
    (h : ∀ v1 v2 v3 v4 v5, bindArgs (fnOf name qual params body scope dV kV doc pm an cdv ct) { pos := [v1, v2, v3, v4, v5], kw := [] } = pure [(p1, v1), (p2, v2), (p3, v3), (p4, v4), (p5, v5)]) : ∀ (s : Shared) (vs : List Value), vs.length = [p1, p2, p3, p4, p5].length → BindsTo s (fnOf name qual params body scope dV kV doc pm an cdv ct) { pos := vs, kw := [] } ([p1, p2, p3, p4, p5].zip vs)
  | _, [v1, v2, v3, v4, v5], _ => BindsTo.of_eq (h v1 v2 v3 v4 v5)
theorem callWith_bi1 {prog : Program} {A : Around} {E : Value → Shared → Prop} {s : Shared} {env : Env} {id : String} {Q : Value → Shared → Prop} (h : wpAny (model prog w) A (spliced (backTo pos (starEach [e] env))) (fun vs s₁ => wpAny (model prog w) A (call (.builtin id) vs) Q E s₁) E s) (he : starEach [e] env = [(false, eval e env)]) : wpAny (model prog w) A (callWith pos (.builtin id) [] (backTo pos (starEach [e] env)) []) Q E s := by
  rw [he] at h ⊢
  exact Calls.callWith_builtin rfl (Calls.evalArgs_plain h)
/-- len(e) -/
theorem ev_len {t : Ent} {n : Nat} (hC : Fm C sc) (hk : sc.names.lookup (Str.ofString "len") = some .globalImplicit) (hx : nsIn (KK w.params) mainGlobals (Str.ofString "len") = some none) (hb : bootBuiltins (Str.ofString "len") = some (.builtin "len"))
    (hn : Str.ofString "len" ≠ Str.ofString "__name__") (hd' : (Str.ofString "len" == Str.ofString "__debug__") = false) (hs : ∀ env, starEach [e] env = [(false, eval e env)]) (hz : n ≤ 64)
    (ht : ∀ (m : Str → Option Value) (R : Led) (s : Shared) (v : Value), St C m M R s → EntIn (C.G ++ R) v t → ∃ l vs k, v = .ref l ∧ vs.length = n ∧ (s.heap.get? l = some (W.listOf (List.toArray vs) k) ∨ s.heap.get? l = some { cls := .type "tuple", data := .seq vs.toArray k })) (h : Ev C Γ M e t) : Ev C Γ M (.Call (.Name (Str.ofString "len") p) [e] [] pos) (.d (.int n)) := .mk <| fun m R s Q E S hΓ ret => by
  refine Call_ (nameG_B S.F C.X (topRead_of C.T) hx hb hn ?_ C.hE (by rw [hC.e]) C.hkE (kind_at hC.s hk) hd')
  refine callWith_bi1 ((evs_cons hs h evs_nil).run pos m R s _ E S hΓ fun vs h' tk R' S' hs' hD => ?_) (hs _)
  match vs, hD with
  | [v], ⟨hD1, _⟩ =>
    obtain ⟨l, us, k, rfl, hl, hg⟩ := ht m R' _ v S' hD1
    rcases hg with hg | hg
    · exact kun_lenL (items := us.toArray) ⟨_, hg, rfl, k, rfl⟩ (by rw [List.size_toArray, hl]) (by omega) (ret _ h' _ R' ⟨S'.F, S'.N, S'.cs, S'.nd, S'.off⟩ hs' (.int _ _))
    · exact kun_lenT (items := us.toArray) ⟨_, hg, rfl, k, rfl⟩ (by rw [List.size_toArray, hl]) (by omega) (ret _ h' _ R' ⟨S'.F, S'.N, S'.cs, S'.nd, S'.off⟩ hs' (.int _ _))
theorem len_own {l : Addr} {xs : List Str} (hm : (l, Cell.args xs) ∈ M) : ∀ (m : Str → Option Value) (R : Led) (s : Shared) (v : Value), St C m M R s → EntIn (C.G ++ R) v (.r l) → ∃ l vs k, v = .ref l ∧ vs.length = xs.length ∧ (s.heap.get? l = some (W.listOf (List.toArray vs) k) ∨ s.heap.get? l = some { cls := .type "tuple", data := .seq vs.toArray k }) := fun m R s v S hv => by
  obtain ⟨o, ⟨vs, n, rfl, h⟩, g, _⟩ := S.cs _ hm
  exact ⟨l, vs, n, hv, h.len, .inl g⟩
theorem len_lst {ds : List Dat} : ∀ (m : Str → Option Value) (R : Led) (s : Shared) (v : Value), St C m M R s → EntIn (C.G ++ R) v (.d (.list ds)) → ∃ l vs k, v = .ref l ∧ vs.length = ds.length ∧ (s.heap.get? l = some (W.listOf (List.toArray vs) k) ∨ s.heap.get? l = some { cls := .type "tuple", data := .seq vs.toArray k }) := fun m R s v S hv => by
  have hv : DatIn (C.G ++ R) v (.list ds) := hv
  cases hv with
  | list hm hr => exact ⟨_, _, _, rfl, hr.length, .inl (S.reads' _ hm)⟩
theorem len_tup {ds : List Dat} : ∀ (m : Str → Option Value) (R : Led) (s : Shared) (v : Value), St C m M R s → EntIn (C.G ++ R) v (.d (.tuple ds)) → ∃ l vs k, v = .ref l ∧ vs.length = ds.length ∧ (s.heap.get? l = some (W.listOf (List.toArray vs) k) ∨ s.heap.get? l = some { cls := .type "tuple", data := .seq vs.toArray k }) := fun m R s v S hv => by
  have hv : DatIn (C.G ++ R) v (.tuple ds) := hv
  cases hv with
  | tuple hm hr => exact ⟨_, _, _, rfl, hr.length, .inr (S.reads' _ hm)⟩
theorem len_args {xs : List Str} : ∀ (m : Str → Option Value) (R : Led) (s : Shared) (v : Value), St C m M R s → EntIn (C.G ++ R) v (.args xs) → ∃ l vs k, v = .ref l ∧ vs.length = xs.length ∧ (s.heap.get? l = some (W.listOf (List.toArray vs) k) ∨ s.heap.get? l = some { cls := .type "tuple", data := .seq vs.toArray k }) := fun m R s v S hv => by
  obtain ⟨l, vs, n, rfl, hm, hr⟩ := (show ArgL _ v xs from hv)
  exact ⟨l, vs, n, rfl, hr.len, .inl (S.reads' _ hm)⟩
/-- o.x = e, nothing new -/
theorem sx_setE {H D cls : Addr} {t : Ent} {es : List (Str × Ent)} (hf : FldS w cls x) (hs : ∀ env, swapsWith e (some (.Attribute o x p)) pos.line env = pure false) (h : Ev C Γ M e t) (ho : Ev C Γ M o (.r H)) (hH : (H, Cell.raw (instObj cls D)) ∈ M) (U : UpdC D (.dic es) (.dic (putE x t es)) M M₂) (hz : es.length ≤ 100) (r : Sx C Γ M₂ rest N PP) : Sx C Γ M (.Assign [.Attribute o x p] e pos :: rest) N PP :=
  sx_setattr (H := H) (D := D) hf hs (evy_of (evp_of (P := fun u => u = t) h rfl) (PP := fun u M1 => M1 = M ∧ u = t) fun u k => ⟨rfl, k⟩) fun u M1 k => by
    obtain ⟨rfl, rfl⟩ := k
    exact ⟨es, M₂, ho, hH, U, hz, r⟩
/-- other words for the first cell -/
theorem St.word {l : Addr} {c c' : Cell} {m : Str → Option Value} {R : Led} {s : Shared} (S : St C m ((l, c) :: M) R s) (h : ∀ nw o, CellIn nw o c → CellIn nw o c') : St C m ((l, c') :: M) R s :=
  ⟨S.F, S.N, fun q hq => by
    rcases List.mem_cons.mp hq with rfl | hq
    · obtain ⟨o, h1, h2⟩ := S.cs _ (.head _)
      exact ⟨o, h _ _ h1, h2⟩
    · exact S.cs q (.tail _ hq), S.nd, S.off⟩
theorem args_nil {nw : Led} {o : Obj} (h : CellIn nw o (.lst [])) : CellIn nw o (.args []) := by
  obtain ⟨vs, n, rfl, hd⟩ := h
  cases hd
  exact ⟨[], n, rfl, trivial⟩
theorem evy_newArgs (h : ∀ l, PP (.r l) ((l, .args []) :: M)) : EvY C Γ M (.List [] p2) PP := .mk <| fun m R s Q E S hΓ ret =>
  S.newList trivial fun l h' S' => ret _ h' _ R (.r l) _ (S'.word fun _ _ => args_nil) (fun _ h => h) rfl (h l)
/-- o.x = [] -/
theorem sx_setNew {M₂ : Addr → Cells} {H D cls : Addr} {es : List (Str × Ent)} {c : Cell} (hf : FldS w cls x) (hs : ∀ env, swapsWith e (some (.Attribute o x p)) pos.line env = pure false) (h : EvY C Γ M e (fun t M1 => ∃ l, t = .r l ∧ M1 = (l, c) :: M)) (ho : ∀ M, Ev C Γ M o (.r H)) (hH : (H, Cell.raw (instObj cls D)) ∈ M) (U : ∀ l, UpdC D (.dic es) (.dic (putE x (.r l) es)) M (M₂ l)) (hz : es.length ≤ 100) (r : ∀ l, Sx C Γ ((l, c) :: M₂ l) rest N PP) : Sx C Γ M (.Assign [.Attribute o x p] e pos :: rest) N PP :=
  sx_setattr (H := H) (D := D) hf hs h fun u M1 k => by
    obtain ⟨l, rfl, rfl⟩ := k
    exact ⟨es, _, ho _, .tail _ hH, .tail (U l), hz, r l⟩
theorem len_put {x : Str} {t : Ent} {es : List (Str × Ent)} {k : Nat} (h : es.length ≤ k) : (putE x t es).length ≤ k + 1 := Nat.le_trans (putE_len x t es) (Nat.succ_le_succ h)
theorem put_same {x : Str} {t : Ent} : ∀ {es : List (Str × Ent)}, (putE x t es).lookup x = some t
  | [] => by simp [putE, List.lookup]
  | q :: r => by
    unfold putE
    split
    · rename_i h
      have := beq_iff_eq.mp h
      subst this
      simp [List.lookup]
    · rename_i h
      have : (x == q.1) = false := by rw [Bool.eq_false_iff]; intro e; exact h (by rw [beq_iff_eq.mp e]; exact beq_self_eq_true _)
      obtain ⟨a, b⟩ := q
      simp only [List.lookup] at *
      rw [this]
      exact put_same
theorem put_ne {x y : Str} {t : Ent} (h : (y == x) = false) : ∀ {es : List (Str × Ent)}, (putE x t es).lookup y = es.lookup y
  | [] => by simp [putE, List.lookup, h]
  | q :: r => by
    unfold putE
    split
    · rename_i h2
      have := beq_iff_eq.mp h2
      subst this
      obtain ⟨a, b⟩ := q
      simp only [List.lookup] at *
      rw [h]
    · obtain ⟨a, b⟩ := q
      simp only [List.lookup]
      rw [put_ne h]
theorem put_tl {x y : Str} {t u : Ent} {es : List (Str × Ent)} (h : (y == x) = false) (r : es.lookup y = some u) : (putE x t es).lookup y = some u := (put_ne h).trans r
end Mine
namespace Mine
open PySem PySem.W PyProof.Rows PySem.Spec PySem.Calls
set_option linter.all false
variable {w : World}
theorem f110_name : Fld w 110 (Str.ofString "name") := ⟨by kernel_rfl, by kernel_rfl, by kernel_rfl, by kernel_rfl⟩
theorem f110_default : Fld w 110 (Str.ofString "default") := ⟨by kernel_rfl, by kernel_rfl, by kernel_rfl, by kernel_rfl⟩
theorem f110_is_rest : Fld w 110 (Str.ofString "is_rest") := ⟨by kernel_rfl, by kernel_rfl, by kernel_rfl, by kernel_rfl⟩
theorem fs110_name : FldS w 110 (Str.ofString "name") := ⟨by kernel_rfl, by kernel_rfl, by kernel_rfl, by kernel_rfl⟩
theorem fs110_kind : FldS w 110 (Str.ofString "kind") := ⟨by kernel_rfl, by kernel_rfl, by kernel_rfl, by kernel_rfl⟩
theorem fs110_default : FldS w 110 (Str.ofString "default") := ⟨by kernel_rfl, by kernel_rfl, by kernel_rfl, by kernel_rfl⟩
theorem fs110_is_rest : FldS w 110 (Str.ofString "is_rest") := ⟨by kernel_rfl, by kernel_rfl, by kernel_rfl, by kernel_rfl⟩
theorem f131_callee : Fld w 131 (Str.ofString "callee") := ⟨by kernel_rfl, by kernel_rfl, by kernel_rfl, by kernel_rfl⟩
theorem f131_arguments : Fld w 131 (Str.ofString "arguments") := ⟨by kernel_rfl, by kernel_rfl, by kernel_rfl, by kernel_rfl⟩
theorem f131_keywords : Fld w 131 (Str.ofString "keywords") := ⟨by kernel_rfl, by kernel_rfl, by kernel_rfl, by kernel_rfl⟩
theorem f131_result : Fld w 131 (Str.ofString "result") := ⟨by kernel_rfl, by kernel_rfl, by kernel_rfl, by kernel_rfl⟩
theorem f131_patterns : Fld w 131 (Str.ofString "patterns") := ⟨by kernel_rfl, by kernel_rfl, by kernel_rfl, by kernel_rfl⟩
theorem fs131_callee : FldS w 131 (Str.ofString "callee") := ⟨by kernel_rfl, by kernel_rfl, by kernel_rfl, by kernel_rfl⟩
theorem fs131_arguments : FldS w 131 (Str.ofString "arguments") := ⟨by kernel_rfl, by kernel_rfl, by kernel_rfl, by kernel_rfl⟩
theorem fs131_keywords : FldS w 131 (Str.ofString "keywords") := ⟨by kernel_rfl, by kernel_rfl, by kernel_rfl, by kernel_rfl⟩
theorem fs131_result : FldS w 131 (Str.ofString "result") := ⟨by kernel_rfl, by kernel_rfl, by kernel_rfl, by kernel_rfl⟩
theorem fs131_variables : FldS w 131 (Str.ofString "variables") := ⟨by kernel_rfl, by kernel_rfl, by kernel_rfl, by kernel_rfl⟩
theorem fs131_patterns : FldS w 131 (Str.ofString "patterns") := ⟨by kernel_rfl, by kernel_rfl, by kernel_rfl, by kernel_rfl⟩
theorem cls110 : ClsAt w 110 107 := ⟨by kernel_rfl, by kernel_rfl, by kernel_rfl⟩
theorem cls131 : ClsAt w 131 128 := ⟨by kernel_rfl, by kernel_rfl, by kernel_rfl⟩
theorem g_Argument : GFn w (Str.ofString "Argument") 110 := ⟨by kernel_rfl, by kernel_rfl, by decide +kernel⟩
theorem g_Head : GFn w (Str.ofString "Head") 131 := ⟨by kernel_rfl, by kernel_rfl, by decide +kernel⟩
def argE (y : Str) (kd : Dat) : List (Str × Ent) := putE (Str.ofString "is_rest") (.d (.bool false)) (putE (Str.ofString "default") (.d .none) (putE (Str.ofString "kind") (.d kd) (putE (Str.ofString "name") (.d (.str y)) [])))
/-- Argument(..) -/
theorem arg_tells (y : Str) (kd : Dat) : YTells w 110 2 [.d (.str y), .d kd, .d .none, .d (.bool false)] [] (fun t M' => ∃ a D, t = .r a ∧ M' = [(a, .raw (instObj 110 D)), (D, .dic (argE y kd))]) := by
  refine cls_tells (n := 0) (ps := [Str.ofString "self", Str.ofString "name", Str.ofString "kind", Str.ofString "default", Str.ofString "is_rest"]) cls110 ⟨⟨_, _, _, _, _, _, _, _, _, _, _, _, _, by exact rfl, by exact rfl, binds5 fun _ _ _ _ _ => rfl⟩, by decide +kernel, rfl, rfl, rfl, by decide +kernel⟩ rfl (by decide +kernel) fun C x dx hC hsz => ?_
  exact sx_setE (H := x) (D := dx) fs110_name (fun _ => rfl) (ev_name hC (by decide +kernel) (by decide +kernel) (look_tl (by decide +kernel) look_hd)) (ev_name hC (by decide +kernel) (by decide +kernel) look_hd) (.head _) (.tail .head) (Nat.le_trans (Nat.le_refl 0) (by decide)) (sx_setE (H := x) (D := dx) fs110_kind (fun _ => rfl) (ev_name hC (by decide +kernel) (by decide +kernel) (look_tl (by decide +kernel) (look_tl (by decide +kernel) look_hd))) (ev_name hC (by decide +kernel) (by decide +kernel) look_hd) (.head _) (.tail .head) (Nat.le_trans (len_put (Nat.le_refl 0)) (by decide)) (sx_setE (H := x) (D := dx) fs110_default (fun _ => rfl) (ev_name hC (by decide +kernel) (by decide +kernel) (look_tl (by decide +kernel) (look_tl (by decide +kernel) (look_tl (by decide +kernel) look_hd)))) (ev_name hC (by decide +kernel) (by decide +kernel) look_hd) (.head _) (.tail .head) (Nat.le_trans (len_put (len_put (Nat.le_refl 0))) (by decide)) (sx_setE (H := x) (D := dx) fs110_is_rest (fun _ => rfl) (ev_name hC (by decide +kernel) (by decide +kernel) (look_tl (by decide +kernel) (look_tl (by decide +kernel) (look_tl (by decide +kernel) (look_tl (by decide +kernel) look_hd))))) (ev_name hC (by decide +kernel) (by decide +kernel) look_hd) (.head _) (.tail .head) (Nat.le_trans (len_put (len_put (len_put (Nat.le_refl 0)))) (by decide)) (sx_nil ⟨[], _, rfl, x, dx, rfl, rfl⟩))))
/-- what a head's dict says -/
structure HdE (es : List (Str × Ent)) (c res : Dat) (A Pa : Addr) : Prop where
  callee : es.lookup (Str.ofString "callee") = some (.d c)
  arguments : es.lookup (Str.ofString "arguments") = some (.r A)
  keywords : es.lookup (Str.ofString "keywords") = some (.d (.list []))
  result : es.lookup (Str.ofString "result") = some (.d res)
  patterns : es.lookup (Str.ofString "patterns") = some (.r Pa)
/-- a head's cells -/
abbrev hdM (H D A Pa : Addr) (es : List (Str × Ent)) (xs : List Str) (ps : List Dat) : Cells := [(Pa, .lst ps), (A, .args xs), (H, .raw (instObj 131 D)), (D, .dic es)]
/-- Head(..) -/
theorem head_tells (c : Dat) : YTells w 131 2 [.d c] [] (fun t M' => ∃ H D A Pa es, t = .r H ∧ HdE es c .none A Pa ∧ es.length ≤ 6 ∧ M' = hdM H D A Pa es [] []) := by
  refine cls_tells (n := 0) (ps := [Str.ofString "self", Str.ofString "callee"]) cls131 ⟨⟨_, _, _, _, _, _, _, _, _, _, _, _, _, by exact rfl, by exact rfl, binds2 fun _ _ => rfl⟩, by decide +kernel, rfl, rfl, rfl, by decide +kernel⟩ rfl (by decide +kernel) fun C x dx hC hsz => ?_
  exact sx_setE (H := x) (D := dx) fs131_callee (fun _ => rfl) (ev_name hC (by decide +kernel) (by decide +kernel) (look_tl (by decide +kernel) look_hd)) (ev_name hC (by decide +kernel) (by decide +kernel) look_hd) (.head _) (.tail .head) (Nat.le_trans (Nat.le_refl 0) (by decide)) (sx_setNew (H := x) (D := dx) (c := .args []) fs131_arguments (fun _ => rfl) (evy_newArgs fun l => ⟨l, rfl, rfl⟩) (fun _ => (ev_name hC (by decide +kernel) (by decide +kernel) look_hd)) (.head _) (fun _ => .tail .head) (Nat.le_trans (len_put (Nat.le_refl 0)) (by decide)) fun A => sx_setE (H := x) (D := dx) (t := .d (.list [])) fs131_keywords (fun _ => rfl) (ev_list (ds := []) (Nat.le_of_ble_eq_true rfl) evs_nil) (ev_name hC (by decide +kernel) (by decide +kernel) look_hd) (.tail _ (.head _)) (.tail (.tail .head)) (Nat.le_trans (len_put (len_put (Nat.le_refl 0))) (by decide)) (sx_setE (H := x) (D := dx) (t := .d .none) fs131_result (fun _ => rfl) ev_none (ev_name hC (by decide +kernel) (by decide +kernel) look_hd) (.tail _ (.head _)) (.tail (.tail .head)) (Nat.le_trans (len_put (len_put (len_put (Nat.le_refl 0)))) (by decide)) (sx_setE (H := x) (D := dx) (t := .d (.list [])) fs131_variables (fun _ => rfl) (ev_list (ds := []) (Nat.le_of_ble_eq_true rfl) evs_nil) (ev_name hC (by decide +kernel) (by decide +kernel) look_hd) (.tail _ (.head _)) (.tail (.tail .head)) (Nat.le_trans (len_put (len_put (len_put (len_put (Nat.le_refl 0))))) (by decide)) (sx_setNew (H := x) (D := dx) (c := .lst []) fs131_patterns (fun _ => rfl) (evy_newList fun l => ⟨l, rfl, rfl⟩) (fun _ => (ev_name hC (by decide +kernel) (by decide +kernel) look_hd)) (.tail _ (.head _)) (fun _ => .tail (.tail .head)) (Nat.le_trans (len_put (len_put (len_put (len_put (len_put (Nat.le_refl 0)))))) (by decide)) fun Pa => sx_nil ⟨[], _, rfl, x, dx, A, Pa, _, rfl, ⟨(put_tl (by decide +kernel) (put_tl (by decide +kernel) (put_tl (by decide +kernel) (put_tl (by decide +kernel) (put_tl (by decide +kernel) put_same))))), (put_tl (by decide +kernel) (put_tl (by decide +kernel) (put_tl (by decide +kernel) (put_tl (by decide +kernel) put_same)))), (put_tl (by decide +kernel) (put_tl (by decide +kernel) (put_tl (by decide +kernel) put_same))), (put_tl (by decide +kernel) (put_tl (by decide +kernel) put_same)), put_same⟩, (Nat.le_trans (len_put (len_put (len_put (len_put (len_put (len_put (Nat.le_refl 0))))))) (by decide)), rfl⟩))))
variable {C : Cx w} {Γ : Tys} {M : Cells} {e : PySem.Expr}
theorem dicFld {nw : Led} {en : List DictEntry} {es : List (Str × Ent)} {x : Str} {d : Dat} (h : DicIn nw en es) (hx : es.lookup x = some (.d d)) : FldIn nw en (x, d) := by
  obtain ⟨v, h1, h2⟩ := h.get hx
  exact ⟨v, h1, h2⟩
/-- an Argument goes over to the ledger -/
theorem evp_arg {y : Str} {kd : Dat} (h : EvY C Γ M e (fun t M' => ∃ a D, t = .r a ∧ M' = (a, .raw (instObj 110 D)) :: (D, .dic (argE y kd)) :: M)) : EvP C Γ M e (fun t => t = .arg y) := .mk <| fun m R s Q E S hΓ ret => h.run m R s Q E S hΓ fun v h' tk R' t M' S' hs' hv k => by
  obtain ⟨a, D, rfl, rfl⟩ := k
  have hv : v = .ref a := hv
  subst hv
  obtain ⟨o1, e1, S1⟩ := S'.freeze
  have e1 : o1 = instObj 110 D := e1
  subst e1
  obtain ⟨o2, ⟨en, n, rfl, hd⟩, S2⟩ := S1.freeze
  have up : ∀ q ∈ R', q ∈ (D, W.dictOf en n) :: (a, instObj 110 D) :: R' := fun q hq => .tail _ (.tail _ hq)
  have hd := hd.mono (up_mono (G := C.G) (R := (a, instObj 110 D) :: R') (R' := (D, W.dictOf en n) :: (a, instObj 110 D) :: R') fun q hq => .tail _ hq)
  refine ret _ h' tk _ (.arg y) S2 (fun q hq => up q (hs' q hq)) ⟨a, D, en, n, rfl, List.mem_append.mpr (.inr (.tail _ (.head _))), List.mem_append.mpr (.inr (.head _)), fun q hq => ?_⟩ rfl
  simp only [List.mem_cons, List.not_mem_nil, or_false] at hq
  rcases hq with rfl | rfl | rfl
  · exact dicFld hd (put_tl (by decide +kernel) (put_tl (by decide +kernel) (put_tl (by decide +kernel) put_same)))
  · exact dicFld hd (put_tl (by decide +kernel) put_same)
  · exact dicFld hd put_same
end Mine
namespace Mine
open PySem PySem.W PyProof.Rows PySem.Spec PySem.Calls
set_option linter.all false
variable {w : World}
theorem g_headof : GFn w (Str.ofString "head_of") 75 := ⟨by kernel_rfl, by kernel_rfl, by decide +kernel⟩
theorem g_partsof : GFn w (Str.ofString "parts_of") 82 := ⟨by kernel_rfl, by kernel_rfl, by decide +kernel⟩
theorem g_issym : GFn w (Str.ofString "is_sym") 89 := ⟨by kernel_rfl, by kernel_rfl, by decide +kernel⟩
theorem g_newname : GFn w (Str.ofString "new_name") 156 := ⟨by kernel_rfl, by kernel_rfl, by decide +kernel⟩
theorem g_read : GFn w (Str.ofString "read_argument") 149 := ⟨by kernel_rfl, by kernel_rfl, by decide +kernel⟩
section
variable {C : Cx w} {Γ : Tys} {M : Cells} {pos p p2 px py : Pos} {sc : Scope} {rest : List Stmt} {N : Tys → Cells → Prop} {PP : Ent → Cells → Prop} {e e1 e2 : PySem.Expr} {k k2 : Nat} {x y : Str} {b : Bool} {t1 t2 : Ent}
theorem star_a {es : List PySem.Expr} : ∀ env, starEach (.Attribute e x p :: es) env = (false, eval (.Attribute e x p) env) :: starEach es env := fun _ => rfl
theorem ev_bool : Ev C Γ M (.Constant (.bool b) k pos) (.d (.bool b)) := .mk <| fun m R s Q E S hΓ ret => Constant_bool (ret _ s.heap s.toks R S (fun _ h => h) (.bool _))
theorem tst_not (h : Tst C Γ M e b) : Tst C Γ M (.UnaryOp .Not e pos) (!b) := .mk <| fun m R s Q E S hΓ ret => isTrue_not (h.run m R s _ E S hΓ ret)
theorem sx_pairE (hC : Fm C sc) (hx : sc.names.lookup x = some .local) (hy : sc.names.lookup y = some .local) (hs : ∀ cn L a ccd cl, swapsWithSole [.Tuple [.Name x px, .Name y py] k p] (.Tuple [e1, e2] k2 p2) pos.line (envX cn sc L a ccd cl) = pure false)
    (hw : ∀ cn L a ccd cl, swappedStores [.Tuple [.Name x px, .Name y py] k p] (.Tuple [e1, e2] k2 p2) (envX cn sc L a ccd cl) = pure (some [x, y])) (s1 : ∀ env, starEach [e1, e2] env = (false, eval e1 env) :: starEach [e2] env) (s2 : ∀ env, starEach [e2] env = [(false, eval e2 env)])
    (h1 : Ev C Γ M e1 t1) (h2 : Ev C Γ M e2 t2) (r : Sx C ((x, t1) :: (y, t2) :: Γ) M rest N PP) : Sx C Γ M (.Assign [.Tuple [.Name x px, .Name y py] k p] (.Tuple [e1, e2] k2 p2) pos :: rest) N PP :=
  sx_pair (PA := fun t M' => M' = M ∧ t = t1) (PB := fun t u M' => M' = M ∧ t = t1 ∧ u = t2) hC hx hy hs hw s1 s2 (evy_of (evp_of (P := fun t => t = t1) h1 rfl) fun t k => ⟨rfl, k⟩) (fun t M1 k => by
    obtain ⟨rfl, rfl⟩ := k
    exact evy_of (evp_of (P := fun t => t = t2) h2 rfl) fun u k => ⟨rfl, rfl, k⟩) fun u1 u2 M2 k => by
    obtain ⟨rfl, rfl, rfl⟩ := k
    exact r
end
theorem yt_mono {f : Addr} {n k : Nat} {ts : List Ent} {M : Cells} {P P' : Ent → Cells → Prop} (h : YTells w f n ts M P) (hn : n ≤ k) (hP : ∀ t M', P t M' → P' t M') : YTells w f k ts M P' := fun C m s args rd Q E a1 a2 a3 a4 a5 a6 a7 a8 ret =>
  h C m s args rd Q E (Nat.le_trans hn a1) a2 a3 a4 a5 a6 a7 a8 fun r h' tk' tl t M' b1 b2 b3 b4 b5 b6 b7 b8 b9 k => ret r h' tk' tl t M' b1 b2 b3 b4 b5 b6 b7 b8 b9 (hP t M' k)
section
variable {H D A Pa : Addr} {es : List (Str × Ent)} {xs : List Str} {ps : List Dat} {c res : Dat}
/-- new_name -/
theorem newname_tells (hE : HdE es c res A Pa) (hx : xs.length ≤ 20) : XTells w 156 1 [.r H] (hdM H D A Pa es xs ps) (fun t => t = .d (.str (nm "#" ((xs.length : Int) + 1)))) := by
  refine fn_tells (n := 0) (ps := [Str.ofString "head"]) ⟨⟨_, _, _, _, _, _, _, _, _, _, _, _, _, by exact rfl, by exact rfl, binds1 fun _ => rfl⟩, by decide +kernel, rfl, rfl, rfl, by decide +kernel⟩ rfl (by decide +kernel) fun C hC hsz => ?_
  have e : ((xs.length : Nat) : Int) + ((([] : List Dat).length : Nat) : Int) + ((1 : Nat) : Int) = (xs.length : Int) + 1 := by simp
  exact ex_return (t := .d (.str (nm "#" (((xs.length : Nat) : Int) + ((([] : List Dat).length : Nat) : Int) + ((1 : Nat) : Int))))) (ev_bin (bin_nm (q := "#") (by rw [e]; omega) (by decide +kernel)) ev_str (ev_strOf (by rw [e]; omega) hC (by decide +kernel) (by kernel_rfl) (by boot_fast) (by decide) (by decide +kernel) star_b (ev_bin (bin_add_int _ _) (ev_bin (bin_add_int _ _) (ev_len hC (by decide +kernel) (by kernel_rfl) (by boot_fast) (by decide) (by decide +kernel) star_a (by omega) (len_own (.tail _ (.head _))) (ev_attr (fun _ => rfl) (rd_own f131_arguments (.tail _ (.tail _ (.head _))) (.tail _ (.tail _ (.tail _ (.head _)))) hE.arguments rfl) (ev_name hC (by decide +kernel) (by decide +kernel) look_hd))) (ev_len hC (by decide +kernel) (by kernel_rfl) (by boot_fast) (by decide) (by decide +kernel) star_a (by decide) len_lst (ev_attr (fun _ => rfl) (rd_own f131_keywords (.tail _ (.tail _ (.head _))) (.tail _ (.tail _ (.tail _ (.head _)))) hE.keywords rfl) (ev_name hC (by decide +kernel) (by decide +kernel) look_hd)))) ev_int))) (by rw [e])
theorem hd_nd (h : ((hdM H D A Pa es xs ps).map (·.1)).Nodup) : ((hdM H D A Pa es xs ps).map (·.1)).Nodup := h
/-- read_argument, a name -/
theorem ra_plain {i : Nat} (nd : ((hdM H D A Pa es xs ps).map (·.1)).Nodup) (hi : i < 4) : XTells w 149 11 [.d (arD i .plain), .r H] (hdM H D A Pa es xs ps) (fun t => t = .arg (nm "a" i)) := by
  refine fn_tells (n := 10) (ps := [Str.ofString "tree", Str.ofString "head"]) ⟨⟨_, _, _, _, _, _, _, _, _, _, _, _, _, by exact rfl, by exact rfl, binds2 fun _ _ => rfl⟩, by decide +kernel, rfl, rfl, rfl, by decide +kernel⟩ rfl (by decide +kernel) fun C hC hsz => ?_
  refine sx_pairE hC (by decide +kernel) (by decide +kernel) (fun _ _ _ _ _ => by kernel_rfl) (fun _ _ _ _ _ => by kernel_rfl) star_k star_k (ev_call hC.s (by decide +kernel) g_headof star_n any_nil (headof_tells0 _ _ (by decide +kernel)) (by omega) (evs_cons star_n (ev_name hC (by decide +kernel) (by decide +kernel) look_hd) evs_nil)) (ev_call hC.s (by decide +kernel) g_partsof star_n any_nil (partsof_tells0 _ _ (by decide +kernel)) (by omega) (evs_cons star_n (ev_name hC (by decide +kernel) (by decide +kernel) look_hd) evs_nil)) (ex_ifSkip (tst_cmp rfl (cmp_in (ys := [Str.ofString "kw", Str.ofString "="]) (b := false) (by decide +kernel)) (by omega) (ev_name hC (by decide +kernel) (by decide +kernel) look_hd) (ev_tuple (ds := [.str (Str.ofString "kw"), .str (Str.ofString "=")]) (Nat.le_of_ble_eq_true rfl) (evs_cons star_c ev_str (evs_cons star_c ev_str evs_nil)))) (ex_ifSkip (tst_cmp rfl (strs_cmp (c := false) (by decide +kernel)) (by omega) (ev_name hC (by decide +kernel) (by decide +kernel) look_hd) ev_str) (ex_ifSkip (tst_cmp rfl (strs_cmp (c := false) (by decide +kernel)) (by omega) (ev_name hC (by decide +kernel) (by decide +kernel) look_hd) ev_str) (ex_ifSkip (tst_cmp rfl (strs_cmp (c := false) (by decide +kernel)) (by omega) (ev_name hC (by decide +kernel) (by decide +kernel) look_hd) ev_str) (ex_ifSkip (tst_not (b := true) (tst_call (fun _ => rfl) (ev_call hC.s (by decide +kernel) g_issym star_n any_nil (issym_tells _ _ true (by decide +kernel)) (by omega) (evs_cons star_n (ev_name hC (by decide +kernel) (by decide +kernel) (look_tl (by decide +kernel) (look_tl (by decide +kernel) look_hd))) evs_nil)))) ?_)))))
  have ha : (nm "a" i != Str.ofString "_") = true := by
    have : i = 0 ∨ i = 1 ∨ i = 2 ∨ i = 3 := by omega
    rcases this with rfl | rfl | rfl | rfl <;> decide +kernel
  exact ex_returnP (evp_arg (evy_call (M₁ := []) hC.s (by decide +kernel) g_Argument star_i (any_cons star_c (any_cons star_c (any_cons star_c any_nil))) (arg_tells (nm "a" i) .none) (by omega) (evs_cons star_i (ev_ifT (tst_cmp rfl (strs_ne ha) (by omega) (ev_sub (ev_name hC (by decide +kernel) (by decide +kernel) (look_tl (by decide +kernel) (look_tl (by decide +kernel) look_hd))) (by decide) rfl (fun _ _ => rfl)) ev_str) (ev_sub (ev_name hC (by decide +kernel) (by decide +kernel) (look_tl (by decide +kernel) (look_tl (by decide +kernel) look_hd))) (by decide) rfl (fun _ _ => rfl))) (evs_cons star_c ev_none (evs_cons star_c ev_none (evs_cons star_c ev_bool evs_nil)))) fun t M' ⟨a, D, e1, e2⟩ => ⟨a, D, e1, by rw [e2]; rfl⟩))
/-- read_argument, a name and a kind -/
theorem ra_typed {i : Nat} (nd : ((hdM H D A Pa es xs ps).map (·.1)).Nodup) (hi : i < 4) : XTells w 149 12 [.d (arD i .typed), .r H] (hdM H D A Pa es xs ps) (fun t => t = .arg (nm "a" i)) := by
  refine fn_tells (n := 11) (ps := [Str.ofString "tree", Str.ofString "head"]) ⟨⟨_, _, _, _, _, _, _, _, _, _, _, _, _, by exact rfl, by exact rfl, binds2 fun _ _ => rfl⟩, by decide +kernel, rfl, rfl, rfl, by decide +kernel⟩ rfl (by decide +kernel) fun C hC hsz => ?_
  refine sx_pairE hC (by decide +kernel) (by decide +kernel) (fun _ _ _ _ _ => by kernel_rfl) (fun _ _ _ _ _ => by kernel_rfl) star_k star_k (ev_call hC.s (by decide +kernel) g_headof star_n any_nil (headof_tells _ _ _ (by decide +kernel)) (by omega) (evs_cons star_n (ev_name hC (by decide +kernel) (by decide +kernel) look_hd) evs_nil)) (ev_call hC.s (by decide +kernel) g_partsof star_n any_nil (partsof_tells _ _ _ (by decide +kernel)) (by omega) (evs_cons star_n (ev_name hC (by decide +kernel) (by decide +kernel) look_hd) evs_nil)) (ex_ifSkip (tst_cmp rfl (cmp_in (ys := [Str.ofString "kw", Str.ofString "="]) (b := false) (by decide +kernel)) (by omega) (ev_name hC (by decide +kernel) (by decide +kernel) look_hd) (ev_tuple (ds := [.str (Str.ofString "kw"), .str (Str.ofString "=")]) (Nat.le_of_ble_eq_true rfl) (evs_cons star_c ev_str (evs_cons star_c ev_str evs_nil)))) (ex_ifSkip (tst_cmp rfl (strs_cmp (c := false) (by decide +kernel)) (by omega) (ev_name hC (by decide +kernel) (by decide +kernel) look_hd) ev_str) (ex_ifRet (tst_cmp rfl (strs_cmp (c := true) (by decide +kernel)) (by omega) (ev_name hC (by decide +kernel) (by decide +kernel) look_hd) ev_str) (ex_ifSkip (tst_cmp rfl (cmp_eq_int 2 1) (by omega) (ev_len hC (by decide +kernel) (by kernel_rfl) (by boot_fast) (by decide) (by decide +kernel) star_n (by decide) len_tup (ev_name hC (by decide +kernel) (by decide +kernel) (look_tl (by decide +kernel) look_hd))) ev_int) (ex_returnP (evp_arg (evy_call (M₁ := []) hC.s (by decide +kernel) g_Argument star_a (any_cons star_s (any_cons star_c (any_cons star_c any_nil))) (arg_tells (nm "a" i) (symD (Str.ofString "K"))) (by omega) (evs_cons star_a (ev_attr (fun _ => rfl) (rd_arg f110_name (.head _)) (ev_of (evp_call hC.s (by decide +kernel) g_read star_s (any_cons star_n any_nil) (ra_plain nd hi) (by omega) (fun _ h => h) nd (evs_cons star_s (ev_sub (ev_name hC (by decide +kernel) (by decide +kernel) (look_tl (by decide +kernel) look_hd)) (by decide) rfl (fun _ _ => rfl)) (evs_cons star_n (ev_name hC (by decide +kernel) (by decide +kernel) (look_tl (by decide +kernel) (look_tl (by decide +kernel) (look_tl (by decide +kernel) look_hd)))) evs_nil))))) (evs_cons star_s (ev_sub (ev_name hC (by decide +kernel) (by decide +kernel) (look_tl (by decide +kernel) look_hd)) (by decide) rfl (fun _ _ => rfl)) (evs_cons star_c ev_none (evs_cons star_c ev_bool evs_nil)))) fun t M' ⟨a, D, e1, e2⟩ => ⟨a, D, e1, by rw [e2]; rfl⟩)))))))
/-- read_argument, a pair -/
theorem ra_pat {i : Nat} (hE : HdE es c res A Pa) (nd : ((hdM H D A Pa es xs ps).map (·.1)).Nodup) (hx : xs.length = i) (hi : i < 4) (hp : ps.length ≤ 20) : YTells w 149 12 [.d (arD i .pat), .r H] (hdM H D A Pa es xs ps) (fun t M' => t = .arg (nm "#" (i + 1)) ∧ M' = hdM H D A Pa es xs (ps ++ pattD i .pat)) := by
  refine fn_tellsY (n := 11) (ps := [Str.ofString "tree", Str.ofString "head"]) ⟨⟨_, _, _, _, _, _, _, _, _, _, _, _, _, by exact rfl, by exact rfl, binds2 fun _ _ => rfl⟩, by decide +kernel, rfl, rfl, rfl, by decide +kernel⟩ rfl (by decide +kernel) (fun _ M' k b hb => by rw [k.2]; exact hb) fun C hC hsz => ?_
  subst hx
  refine sx_pairE hC (by decide +kernel) (by decide +kernel) (fun _ _ _ _ _ => by kernel_rfl) (fun _ _ _ _ _ => by kernel_rfl) star_k star_k (ev_call hC.s (by decide +kernel) g_headof star_n any_nil (headof_tells _ _ _ (by decide +kernel)) (by omega) (evs_cons star_n (ev_name hC (by decide +kernel) (by decide +kernel) look_hd) evs_nil)) (ev_call hC.s (by decide +kernel) g_partsof star_n any_nil (partsof_tells _ _ _ (by decide +kernel)) (by omega) (evs_cons star_n (ev_name hC (by decide +kernel) (by decide +kernel) look_hd) evs_nil)) (ex_ifSkip (tst_cmp rfl (cmp_in (ys := [Str.ofString "kw", Str.ofString "="]) (b := false) (by decide +kernel)) (by omega) (ev_name hC (by decide +kernel) (by decide +kernel) look_hd) (ev_tuple (ds := [.str (Str.ofString "kw"), .str (Str.ofString "=")]) (Nat.le_of_ble_eq_true rfl) (evs_cons star_c ev_str (evs_cons star_c ev_str evs_nil)))) (ex_ifSkip (tst_cmp rfl (strs_cmp (c := false) (by decide +kernel)) (by omega) (ev_name hC (by decide +kernel) (by decide +kernel) look_hd) ev_str) (ex_ifSkip (tst_cmp rfl (strs_cmp (c := false) (by decide +kernel)) (by omega) (ev_name hC (by decide +kernel) (by decide +kernel) look_hd) ev_str) (ex_ifRet (tst_cmp rfl (strs_cmp (c := true) (by decide +kernel)) (by omega) (ev_name hC (by decide +kernel) (by decide +kernel) look_hd) ev_str) (ex_assignP hC (by decide +kernel) (fun _ => rfl) (evp_arg (evy_call (M₁ := []) hC.s (by decide +kernel) g_Argument star_k (any_cons star_c (any_cons star_c (any_cons star_c any_nil))) (arg_tells (nm "#" ((xs.length : Int) + 1)) .none) (by omega) (evs_cons star_k (ev_of (evp_call hC.s (by decide +kernel) g_newname star_n any_nil (newname_tells hE (by omega)) (by omega) (fun _ h => h) nd (evs_cons star_n (ev_name hC (by decide +kernel) (by decide +kernel) (look_tl (by decide +kernel) (look_tl (by decide +kernel) (look_tl (by decide +kernel) look_hd)))) evs_nil))) (evs_cons star_c ev_none (evs_cons star_c ev_none (evs_cons star_c ev_bool evs_nil)))) fun t M' ⟨a, D, e1, e2⟩ => ⟨a, D, e1, by rw [e2]; rfl⟩)) fun t k => ?_)))))
  subst k
  refine sx_append (M₂ := fun d => hdM H D A Pa es xs (ps ++ [d])) hC (fun _ _ _ _ _ => rfl) (fun _ => rfl) (fun _ => rfl) (fun _ => rfl) (fun d => .head) (by omega) (ev_attr (fun _ => rfl) (rd_own f131_patterns (.tail _ (.tail _ (.head _))) (.tail _ (.tail _ (.tail _ (.head _)))) hE.patterns rfl) (ev_name hC (by decide +kernel) (by decide +kernel) (look_tl (by decide +kernel) (look_tl (by decide +kernel) (look_tl (by decide +kernel) (look_tl (by decide +kernel) look_hd)))))) (evp_of (P := fun t => t = .d (.tuple [patD xs.length, .str (nm "#" ((xs.length : Int) + 1))])) (ev_tuple (Nat.le_of_ble_eq_true rfl) (evs_cons star_n (ev_name hC (by decide +kernel) (by decide +kernel) (look_tl (by decide +kernel) (look_tl (by decide +kernel) (look_tl (by decide +kernel) look_hd)))) (evs_cons star_a (ev_attr (fun _ => rfl) (rd_arg f110_name (.head _)) (ev_name hC (by decide +kernel) (by decide +kernel) look_hd)) evs_nil))) rfl) (PD := fun d => d = .tuple [patD xs.length, .str (nm "#" ((xs.length : Int) + 1))]) (fun t h => ⟨_, h, rfl⟩) fun d hd => ?_
  subst hd
  exact sx_retY (evy_of (evp_of (P := fun t => t = .arg (nm "#" ((xs.length : Int) + 1))) (ev_name hC (by decide +kernel) (by decide +kernel) look_hd) rfl) fun t k => ⟨[], _, rfl, k, rfl⟩)
/-- read_argument -/
theorem ra_all {i : Nat} (ar : Ar) (hE : HdE es c res A Pa) (nd : ((hdM H D A Pa es xs ps).map (·.1)).Nodup) (hx : xs.length = i) (hi : i < 4) (hp : ps.length ≤ 20) : YTells w 149 12 [.d (arD i ar), .r H] (hdM H D A Pa es xs ps) (fun t M' => t = .arg (nameD i ar) ∧ M' = hdM H D A Pa es xs (ps ++ pattD i ar)) := by
  cases ar with
  | pat => exact ra_pat hE nd hx hi hp
  | plain => exact yt_mono (ra_plain nd hi) (by decide) fun t M' ⟨h1, h2⟩ => ⟨h2, by rw [h1, show ps ++ pattD i .plain = ps from List.append_nil _]⟩
  | typed => exact yt_mono (ra_typed nd hi) (by decide) fun t M' ⟨h1, h2⟩ => ⟨h2, by rw [h1, show ps ++ pattD i .typed = ps from List.append_nil _]⟩
end
end Mine
namespace Mine
open PySem PySem.W PyProof.Rows PySem.Spec PySem.Calls
set_option linter.all false
variable {w : World} {C : Cx w} {Γ Γ' : Tys} {M M' M₂ : Cells} {pos p p2 p3 : Pos} {sc : Scope} {rest : List Stmt} {N : Tys → Cells → Prop} {PP : Ent → Cells → Prop} {o e e1 e2 : PySem.Expr} {x : Str} {k : Nat} {b : List Stmt}
/-- a made thing joins the ledger -/
theorem St.made {m : Str → Option Value} {R os : Led} {s : Shared} {h' : Heap} {D : Addr} {oD : Obj} (S : St C m M R s) (hos : ∀ q ∈ M, ∃ o, CellIn (C.G ++ R) o q.2 ∧ (q.1, o) ∈ os) (he : os.map (·.1) = M.map (·.1)) (F : Fr C.h₀ C.L h' m) (N : News C.h₀ C.L h' ((D, oD) :: (os ++ R))) (lt : ∀ p ∈ os ++ R, p.1 < D) (tk : Nat) : St C m M ((D, oD) :: R) (upS s h' tk) := by
  refine ⟨F, fun p hp => ?_, .of (fun p hp => N p (.tail _ (List.mem_append.mpr (.inl hp)))) (up_mono fun p hp => .tail _ hp) hos, S.nd, fun p hp hm => ?_⟩
  · rcases List.mem_cons.mp hp with rfl | hp
    · exact N _ (.head _)
    · exact N p (.tail _ (List.mem_append.mpr (.inr hp)))
  · rcases List.mem_cons.mp hp with rfl | hp
    · rw [← he] at hm
      obtain ⟨q, hq, e⟩ := List.mem_map.mp hm
      have := lt q (List.mem_append.mpr (.inl hq))
      rw [show q.1 = D from e] at this
      exact Nat.lt_irrefl _ this
    · exact S.off p hp hm
theorem St.below {m : Str → Option Value} {R os : Led} {s : Shared} (S : St C m M R s) (No : News C.h₀ C.L s.heap os) : News C.h₀ C.L s.heap (os ++ R) ∧ ∀ p ∈ os ++ R, p.1 < s.heap.objs.size + 1 :=
  ⟨fun p hp => (List.mem_append.mp hp).elim (No p) (S.N p), fun p hp => (List.mem_append.mp hp).elim (fun h => Nat.lt_succ_of_lt (Heap.lt_size (No p h).1)) fun h => Nat.lt_succ_of_lt (Heap.lt_size (S.N p h).1)⟩
theorem DatAll.take {nw : Led} : ∀ (n : Nat) {vs : List Value} {ds : List Dat}, DatAll nw vs ds → DatAll nw (vs.take n) (ds.take n)
  | 0, _, _, _ => by rw [List.take_zero, List.take_zero]; exact .nil
  | n + 1, [], [], _ => .nil
  | n + 1, _ :: _, _ :: _, .cons h r => .cons h (DatAll.take n r)
theorem DatAll.drop {nw : Led} : ∀ (n : Nat) {vs : List Value} {ds : List Dat}, DatAll nw vs ds → DatAll nw (vs.drop n) (ds.drop n)
  | 0, _, _, h => h
  | n + 1, [], [], _ => .nil
  | n + 1, _ :: _, _ :: _, .cons h r => DatAll.drop n r
/-- e[:n], a list -/
theorem ev_upto {ds : List Dat} {n : Nat} (hz : ds.length ≤ 24) (hs : ∀ a b, subscripted (.Slice none (some e2) none p) false (.ref a) (.ref b) = operate [.ref b, .ref a] (getItem (.ref a) (.ref b))) (hg : ∀ a r, letTemporaryGo e1 (.ref a) r = pure ()) (h1 : Ev C Γ M e1 (.d (.list ds))) (h2 : Ev C Γ M e2 (.d (.int n))) : Ev C Γ M (.Subscript e1 (.Slice none (some e2) none p) pos) (.d (.list (ds.take n))) := .mk <| fun m R s Q E S hΓ ret => by
  refine Subscript_ (h1.run m R s _ E S hΓ fun v h' tk R' S' hs' hD => wpAny_Slice (wpAny_pure (h2.run m R' _ _ E S' (hΓ.mono hs') fun v2 h2 tk2 R2 S2 hs2 hD2 => wpAny_pure ?_)))
  have hD : DatIn (C.G ++ R') v (.list ds) := hD
  have hD2 : DatIn (C.G ++ R2) v2 (.int n) := hD2
  cases hD2 with
  | int _ u =>
  cases hD with
  | @list l vs c _ hm hr =>
  have hl : h2.get? l = some (W.listOf vs.toArray c) := S2.reads' _ (up_mono hs2 _ hm)
  have hlen := hr.length
  obtain ⟨os, No, hos, he⟩ := S2.cs.led
  obtain ⟨Nn, lt⟩ := S2.below No
  refine slice_list3 (s := upS s h2 tk2) (items := vs.toArray) (lo := none) (hi := some (n : Int)) (st := none) S2.F Nn ⟨_, hl, rfl, c, rfl⟩ .none (.int _ _) .none (fun e => nomatch e) (fun h3 F3 N3 => ?_) (hs _ _) (hg _) (by rw [List.size_toArray, sizeLine_eq]; omega)
  rw [slicePick_upto', List.toList_toArray] at N3
  have S3 := S2.made hos he F3 N3 lt tk2
  exact ret _ h3 tk2 _ ⟨S3.F, S3.N, S3.cs, S3.nd, S3.off⟩ (fun q hq => .tail _ (hs2 q (hs' q hq))) (DatIn.list (List.mem_append.mpr (.inr (.head _))) ((DatAll.take n hr).mono (up_mono fun q hq => .tail _ (hs2 q hq))))
/-- e[1:], a tuple -/
theorem ev_tail {ds : List Dat} {d : Dat} (hz : ds.length ≤ 23) (hs : ∀ a b, subscripted (.Slice (some e2) none none p) false (.ref a) (.ref b) = operate [.ref b, .ref a] (getItem (.ref a) (.ref b))) (h1 : Ev C Γ M e1 (.d (.tuple (d :: ds)))) (h2 : Ev C Γ M e2 (.d (.int (1 : Nat)))) : Ev C Γ M (.Subscript e1 (.Slice (some e2) none none p) pos) (.d (.tuple ds)) := .mk <| fun m R s Q E S hΓ ret => by
  refine Subscript_ (h1.run m R s _ E S hΓ fun v h' tk R' S' hs' hD => wpAny_Slice (h2.run m R' _ _ E S' (hΓ.mono hs') fun v2 h2 tk2 R2 S2 hs2 hD2 => wpAny_pure (wpAny_pure ?_)))
  have hD : DatIn (C.G ++ R') v (.tuple (d :: ds)) := hD
  have hD2 : DatIn (C.G ++ R2) v2 (.int (1 : Nat)) := hD2
  cases hD2 with
  | int _ u =>
  cases hD with
  | @tuple l vs c _ hm hr =>
  have hl : h2.get? l = some { cls := .type "tuple", data := .seq vs.toArray c } := S2.reads' _ (up_mono hs2 _ hm)
  have hlen := hr.length
  rw [List.length_cons] at hlen
  obtain ⟨os, No, hos, he⟩ := S2.cs.led
  obtain ⟨Nn, lt⟩ := S2.below No
  have up2 : ∀ b o, h2.get? b = some o → (h2.push { cls := .type "slice", data := .fields #[.int (1 : Nat) u, .none, .none] }).get? b = some o := fun _ _ e => Heap.get?_push_of_some _ e
  have ht' : IsTup (h2.push { cls := .type "slice", data := .fields #[.int (1 : Nat) u, .none, .none] }) l vs.toArray := ⟨_, up2 _ _ hl, rfl, c, rfl⟩
  refine tail_any (s := upS s (h2.push { cls := .type "slice", data := .fields #[.int (1 : Nat) u, .none, .none] }) tk2) ht'.typeIs slot_tuple_getitem.lookup (getItem_tuple_from (a := 1) ht' (Heap.IsSliceOf.new ..) (by decide) (by rw [List.size_toArray]; omega) ?_ (by rw [List.size_toArray, sizeLine_eq]; omega)) (hs _ _)
  have N3 := News.push (S2.F.push { cls := .type "slice", data := .fields #[.int (1 : Nat) u, .none, .none] }) (Nn.grown up2) { cls := .type "tuple", data := .seq ((vs.toArray).toList.drop 1).toArray }
  rw [Heap.size_push] at N3
  rw [List.toList_toArray] at N3
  have S3 := S2.made hos he ((S2.F.push _).push _) N3 lt tk2
  show Q (.ref (h2.push _).objs.size) _
  rw [Heap.size_push]
  exact ret _ _ tk2 _ ⟨S3.F, S3.N, S3.cs, S3.nd, S3.off⟩ (fun q hq => .tail _ (hs2 q (hs' q hq))) (DatIn.tuple (List.mem_append.mpr (.inr (.head _))) ((DatAll.drop 1 hr).mono (up_mono fun q hq => .tail _ (hs2 q hq))))
/-- arguments and an empty list -/
theorem ev_addArgs {xs : List Str} (hz : xs.length ≤ 24) (h1 : Ev C Γ M e1 (.args xs)) (h2 : Ev C Γ M e2 (.d (.list []))) : Ev C Γ M (.BinOp e1 .Add e2 pos) (.args xs) := .mk <| fun m R s Q E S hΓ ret => by
  refine wpAny_BinOp (h1.run m R s _ E S hΓ fun v h' tk R' S' hs' hD => h2.run m R' _ _ E S' (hΓ.mono hs') fun v2 h2' tk2 R2 S2 hs2 hD2 => ?_)
  obtain ⟨a, vs, n, rfl, hm, hr⟩ := (show ArgL _ v xs from hD)
  have hD2 : DatIn (C.G ++ R2) v2 (.list []) := hD2
  cases hD2 with
  | @list b us k _ hm2 hr2 =>
  cases hr2
  obtain ⟨os, No, hos, he⟩ := S2.cs.led
  obtain ⟨Nn, _⟩ := S2.below No
  refine kmk_add_lit (news := os ++ R2) (its := vs.toArray) (its2 := ([] : List Value).toArray) S2.F Nn ⟨_, S2.reads' _ (up_mono hs2 _ hm), rfl, _, rfl⟩ ⟨_, S2.reads' _ hm2, rfl, _, rfl⟩ (by rw [List.toList_toArray, List.toList_toArray]) (fun D h3 F3 N3 lt => ?_) (by rw [List.toList_toArray, List.toList_toArray, hr.len, sizeLine_eq]; simp only [List.length_nil]; omega)
  rw [List.append_nil] at N3
  have S3 := S2.made hos he F3 N3 lt tk2
  exact ret (.ref D) h3 tk2 _ ⟨S3.F, S3.N, S3.cs, S3.nd, S3.off⟩ (fun q hq => .tail _ (hs2 q (hs' q hq))) ⟨D, vs, 0, rfl, List.mem_append.mpr (.inr (.head _)), hr.mono (up_mono fun q hq => .tail _ (hs2 q hq))⟩
theorem ArgsIn.at {nw : Led} : ∀ {vs : List Value} {xs : List Str}, ArgsIn nw vs xs → ∀ {i : Nat} {y : Str}, xs[i]? = some y → ∃ v, vs[i]? = some v ∧ ObjIn nw v 110 (argFs y)
  | [], [], _, i, y, h => by simp at h
  | v :: _, _ :: _, ⟨h, _⟩, 0, y, hy => by simp at hy; subst hy; exact ⟨v, rfl, h⟩
  | _ :: _, _ :: _, ⟨_, r⟩, i + 1, y, hy => by
    obtain ⟨v, h1, h2⟩ := ArgsIn.at r (i := i) (by simpa using hy)
    exact ⟨v, by simpa using h1, h2⟩
/-- arguments[i] -/
theorem ev_idxA {xs : List Str} {i : Nat} {y : Str} (hs : ∀ o i u, subscripted e2 false o (.int i u) = operate [o, .int i u] (getItem o (.int i u))) (hi : i < 100) (hy : xs[i]? = some y) (h1 : Ev C Γ M e1 (.args xs)) (h2 : Ev C Γ M e2 (.d (.int i))) : Ev C Γ M (.Subscript e1 e2 pos) (.arg y) := .mk <| fun m R s Q E S hΓ ret => by
  refine Subscript_ (h1.run m R s _ E S hΓ fun v h' tk R' S' hs' hD => h2.run m R' _ _ E S' (hΓ.mono hs') fun v2 h2' tk2 R2 S2 hs2 hD2 => ?_)
  obtain ⟨a, vs, n, rfl, hm, hr⟩ := (show ArgL _ v xs from hD)
  have hD2 : DatIn (C.G ++ R2) v2 (.int i) := hD2
  cases hD2 with
  | int _ u =>
  obtain ⟨x, hx, hxd⟩ := hr.at hy
  have hl' : h2'.IsList a vs.toArray := ⟨_, S2.reads' _ (up_mono hs2 _ hm), rfl, n, rfl⟩
  exact item_litK hl' (by omega) (by omega) (v := x) (by rw [Int.toNat_natCast]; exact hx) (ret x h2' tk2 R2 ⟨S2.F, S2.N, S2.cs, S2.nd, S2.off⟩ (fun q hq => hs2 q (hs' q hq)) (hxd.mono (up_mono hs2))) (hs _ _ _)
/-- the cells are apart -/
theorem sx_nd (h : (M.map (·.1)).Nodup → Sx C Γ M b N PP) : Sx C Γ M b N PP := .mk <| fun m R s Q S hΓ nx ret => (h S.nd).run m R s Q S hΓ nx ret
end Mine
namespace Mine
open PySem PySem.W PyProof.Rows PySem.Spec PySem.Calls
set_option linter.all false
variable {w : World}
def nsD : Nat → List Ar → List Str
  | _, [] => []
  | i, a :: r => nameD i a :: nsD (i + 1) r
theorem nsD_snoc (a : Ar) : ∀ (as : List Ar) (i : Nat), nsD i (as ++ [a]) = nsD i as ++ [nameD (i + as.length) a]
  | [], i => rfl
  | b :: r, i => by rw [List.cons_append, nsD, nsD, nsD_snoc a r, List.length_cons, List.cons_append, show i + 1 + r.length = i + (r.length + 1) by omega]
theorem nsD_len : ∀ (as : List Ar) (j : Nat), (nsD j as).length = as.length
  | [], _ => rfl
  | _ :: r, j => by rw [nsD, List.length_cons, List.length_cons, nsD_len r]
theorem arsD_at : ∀ (as : List Ar) (j i : Nat) (d : Dat), (arsD j as)[i]? = some d → ∃ a, as[i]? = some a ∧ d = arD (j + i) a
  | [], _, _, _, h => by simp [arsD] at h
  | a :: r, j, 0, d, h => by simp [arsD] at h; exact ⟨a, rfl, h.symm⟩
  | a :: r, j, i + 1, d, h => by
    obtain ⟨b, h1, h2⟩ := arsD_at r (j + 1) i d (by simpa [arsD] using h)
    exact ⟨b, by simpa using h1, by rw [h2, show j + 1 + i = j + (i + 1) by omega]⟩
theorem isparm (i : Nat) (a : Ar) : DTells w 68 9 [arD i a, .str (Str.ofString "parameters")] (.bool false) := by
  cases a with
  | plain => exact isexpr_tells0 _ _ _ (by decide +kernel)
  | pat => exact isexpr_tells _ _ _ _ _ (by decide +kernel) (by decide +kernel)
  | typed => exact isexpr_tells _ _ _ _ _ (by decide +kernel) (by decide +kernel)
theorem g_isexpr' : GFn w (Str.ofString "is_expr") 68 := g_isexpr
section
variable {H D A Pa : Addr} {es : List (Str × Ent)} {c res : Dat}
theorem nd_turn {I : Addr} {k : Cell} {M : Cells} (h : (((I, k) :: M).map (·.1)).Nodup) : ((M ++ [(I, k)]).map (·.1)).Nodup := ((List.perm_append_singleton (I, k) M).map (·.1)).nodup_iff.mpr h
theorem nd_back {I : Addr} {k : Cell} {M : Cells} (h : ((M ++ [(I, k)]).map (·.1)).Nodup) : (((I, k) :: M).map (·.1)).Nodup := ((List.perm_append_singleton (I, k) M).map (·.1)).nodup_iff.mp h
theorem in_turn {I : Addr} {k : Cell} {M : Cells} : ∀ q ∈ M ++ [(I, k)], q ∈ (I, k) :: M := fun q hq => (List.perm_append_singleton (I, k) M).mem_iff.mp hq
theorem in_back {I : Addr} {k : Cell} {M : Cells} : ∀ q ∈ (I, k) :: M, q ∈ M ++ [(I, k)] := fun q hq => (List.perm_append_singleton (I, k) M).mem_iff.mpr hq
/-- fill_head -/
theorem fill_tells (as : List Ar) (hl : as.length < 4) (hE : HdE es c res A Pa) : YTells w 163 22 [.r H, .d (.tuple (arsD 0 as))] (hdM H D A Pa es [] []) (fun t M' => t = .d .none ∧ M' = hdM H D A Pa es (nsD 0 as) (patsD 0 as)) := by
  refine fn_tellsY (n := 21) (ps := [Str.ofString "head", Str.ofString "trees"]) ⟨⟨_, _, _, _, _, _, _, _, _, _, _, _, _, by exact rfl, by exact rfl, binds2 fun _ _ => rfl⟩, by decide +kernel, rfl, rfl, rfl, by decide +kernel⟩ rfl (by decide +kernel) (fun _ M' k b hb => by rw [k.2]; exact hb) fun C hC hsz => ?_
  have e0 := arsD_len as 0
  refine sx_forT hC (by decide +kernel) (fun _ _ => rfl) (by omega) (ev_name hC (by decide +kernel) (by decide +kernel) (look_tl (by decide +kernel) look_hd)) (fun i Γ' M' => Sub [(Str.ofString "head", .r H), (Str.ofString "trees", .d (.tuple (arsD 0 as)))] Γ' ∧ M' = hdM H D A Pa es (nsD 0 (as.take i)) (patsD 0 (as.take i))) ⟨Sub.refl, by rw [List.take_zero]; rfl⟩ (fun I oI i d Γ' M' hd hJ => ?turn) fun Γ' M' hJ => ?rest
  case rest =>
    obtain ⟨_, rfl⟩ := hJ
    exact sx_nil ⟨[], _, rfl, rfl, by rw [List.take_of_length_le (by omega)]⟩
  obtain ⟨hs, rfl⟩ := hJ
  obtain ⟨a, ha, rfl⟩ := arsD_at as 0 i d hd
  rw [Nat.zero_add]
  have hi : i < as.length := (List.getElem?_eq_some_iff.mp ha).1
  have et : as.take (i + 1) = as.take i ++ [a] := by rw [List.take_add_one, ha]; rfl
  have tl : (as.take i).length = i := by rw [List.length_take]; omega
  have e1 := nsD_len (as.take i) 0
  have e2 := patsD_len (as.take i) 0
  refine sx_sub (Γ' := (Str.ofString "tree", .d (arD i a)) :: [(Str.ofString "head", .r H), (Str.ofString "trees", .d (.tuple (arsD 0 as)))]) (M' := hdM H D A Pa es (nsD 0 (as.take i)) (patsD 0 (as.take i)) ++ [(I, .raw oI)]) hs.cons in_turn nd_turn (sx_nd fun nd => ?_)
  have nd' : ((hdM H D A Pa es (nsD 0 (as.take i)) (patsD 0 (as.take i))).map (·.1)).Nodup := by
    rw [List.map_append, List.nodup_append] at nd
    exact nd.1
  refine sx_ifF (N' := fun Γ2 M2 => Γ2 = (Str.ofString "tree", .d (arD i a)) :: [(Str.ofString "head", .r H), (Str.ofString "trees", .d (.tuple (arsD 0 as)))] ∧ M2 = hdM H D A Pa es (nsD 0 (as.take i) ++ [nameD i a]) (patsD 0 (as.take i) ++ pattD i a) ++ [(I, .raw oI)]) (tst_call (fun _ => rfl) (ev_call hC.s (by decide +kernel) g_isexpr star_n (any_cons star_c any_nil) (isparm i a) (by omega) (evs_cons star_n (ev_name hC (by decide +kernel) (by decide +kernel) look_hd) (evs_cons star_c ev_str evs_nil)))) (sx_expr hC (fun _ _ _ _ _ => rfl) (fun _ => rfl) (evy_append (p := _) (c₀ := .args (nsD 0 (as.take i))) (.tail _ (.head _)) (listC_args (by omega)) (fun _ => rfl) star_k (ev_attr (fun _ => rfl) (rd_own f131_arguments (.tail _ (.tail _ (.head _))) (.tail _ (.tail _ (.tail _ (.head _)))) hE.arguments rfl) (ev_name hC (by decide +kernel) (by decide +kernel) (look_tl (by decide +kernel) look_hd))) (evy_call (M₁ := hdM H D A Pa es (nsD 0 (as.take i)) (patsD 0 (as.take i))) (M₂ := [(I, .raw oI)]) (PP := fun t M1 => t = .arg (nameD i a) ∧ M1 = hdM H D A Pa es (nsD 0 (as.take i)) (patsD 0 (as.take i) ++ pattD i a) ++ [(I, .raw oI)]) hC.s (by decide +kernel) g_read star_n (any_cons star_n any_nil) (ra_all a hE nd' (by omega) (by omega) (by omega)) (by omega) (evs_cons star_n (ev_name hC (by decide +kernel) (by decide +kernel) look_hd) (evs_cons star_n (ev_name hC (by decide +kernel) (by decide +kernel) (look_tl (by decide +kernel) look_hd)) evs_nil)) fun t M' k => ⟨k.1, by rw [k.2]⟩) (PP := fun _ M' => M' = hdM H D A Pa es (nsD 0 (as.take i) ++ [nameD i a]) (patsD 0 (as.take i) ++ pattD i a) ++ [(I, .raw oI)]) fun t M1 k => ?up) fun _ M' k => sx_nil ⟨rfl, k⟩) fun Γ2 M2 k => ?fin
  case up =>
    obtain ⟨rfl, rfl⟩ := k
    exact ⟨.args (nsD 0 (as.take i)), .args (nsD 0 (as.take i) ++ [nameD i a]), _, .tail .head, listC_args (by omega), grows_args, rfl⟩
  case fin =>
    obtain ⟨rfl, rfl⟩ := k
    refine sx_sub (fun _ _ h => h) in_back nd_back (sx_nil ⟨_, rfl, Sub.over Sub.refl (look_no (by decide +kernel) (look_no (by decide +kernel) look_e)), ?_⟩)
    rw [et, nsD_snoc, patsD_snoc, Nat.zero_add, tl]
end
theorem take_no {xs : List Str} (h : xs.Nodup) {i : Nat} {y : Str} (hy : xs[i]? = some y) : (xs.take i).any (· == y) = false := by
  rw [List.any_eq_false]
  intro z hz e
  have e := beq_iff_eq.mp e
  subst e
  obtain ⟨j, hj, hz⟩ := List.getElem_of_mem hz
  rw [List.length_take] at hj
  rw [List.getElem_take] at hz
  obtain ⟨hi, hy⟩ := List.getElem?_eq_some_iff.mp hy
  exact List.pairwise_iff_getElem.mp h j i (by omega) hi (by omega) (hz.trans hy.symm)
theorem cmp_gtT {i j : Int} (h : j < i) : Cmp w .Gt (.int i) (.int j) true := by have := cmp_gt_int (w := w) i j; rw [decide_eq_true h] at this; exact this
theorem cmp_gtF {i j : Int} (h : ¬ j < i) : Cmp w .Gt (.int i) (.int j) false := by have := cmp_gt_int (w := w) i j; rw [decide_eq_false h] at this; exact this
/-- check_head -/
theorem check_tells (xs : List Str) (c res : Dat) (ps : List Dat) (hz : xs.length ≤ 20) (hnd : xs.Nodup) : XTells w 168 12 [.hd xs c res ps] [] (fun t => t = .d .none) := by
  refine fn_tellsY (n := 11) (ps := [Str.ofString "head"]) ⟨⟨_, _, _, _, _, _, _, _, _, _, _, _, _, by exact rfl, by exact rfl, binds1 fun _ => rfl⟩, by decide +kernel, rfl, rfl, rfl, by decide +kernel⟩ rfl (by decide +kernel) (fun _ M' k b hb => by rw [k.1]; exact hb) fun C hC hsz => ?_
  refine sx_assignComp hC (by decide +kernel) (fun _ _ _ _ _ => by kernel_rfl) (fun _ => rfl) rfl rfl (fun _ => rfl) (fun _ _ => rfl) (cl := []) (by rw [hC.e, hC.c]; with_unfolding_all rfl) rfl (by decide +kernel)
    (comp_list (Δ := []) (ts := xs.map Ent.arg) (es := xs.map Dat.str) (by decide +kernel) rfl (by decide +kernel) listE_a (by rw [List.length_map]; omega) (by rw [List.length_map, List.length_map]) (fun _ _ h => nomatch h) rfl (ev_addArgs (by omega) (ev_attr (fun _ => rfl) (rd_hdA f131_arguments) (ev_name hC (by decide +kernel) (by decide +kernel) look_hd)) (ev_attr (fun _ => rfl) (rd_hd f131_keywords (.tail _ (.tail _ (.tail _ (.head _))))) (ev_name hC (by decide +kernel) (by decide +kernel) look_hd))) (fun i u d hu hd I cc D oI oC oD m₂ ho => ?el)) fun t ht => ?_
  case el =>
    rw [List.getElem?_map] at hu hd
    obtain ⟨y, hy, rfl⟩ := Option.map_eq_some_iff.mp hu
    rw [hy] at hd
    cases hd
    exact ev_attr (fun _ => rfl) (rd_arg f110_name (.head _)) (ev_nameC (q := (cc, oC, m₂)) rfl (.tail _ (.head _)) (relabel_at hC.s) (by decide +kernel) (by decide +kernel) look_hd)
  subst ht
  have hlm : (xs.map Dat.str).length = xs.length := List.length_map _
  refine sx_forR (B := fun k => k = xs.length) hC (by decide +kernel) (by decide +kernel) (by kernel_rfl) (by boot_fast) (by decide) (by decide +kernel) star_k (fun _ _ => rfl) (fun k hk => by omega) (evp_of (ev_len hC (by decide +kernel) (by kernel_rfl) (by boot_fast) (by decide) (by decide +kernel) star_n (by omega) len_lst (ev_name hC (by decide +kernel) (by decide +kernel) look_hd)) ⟨_, rfl, hlm⟩) (fun i Γ' M' => Sub [(Str.ofString "names", .d (.list (xs.map Dat.str))), (Str.ofString "head", .hd xs c res ps)] Γ' ∧ M' = []) ⟨Sub.refl, rfl⟩ (fun I oI i Γ' M' hi hJ => ?t1) fun k Γ' M' hk hJ => ?_
  case t1 =>
    obtain ⟨hs, rfl⟩ := hJ
    obtain ⟨k, rfl, hik⟩ := hi
    obtain ⟨y, hy⟩ : ∃ y, xs[i]? = some y := ⟨_, List.getElem?_eq_getElem hik⟩
    refine sx_sub (Γ' := (Str.ofString "at", .d (.int i)) :: [(Str.ofString "names", .d (.list (xs.map Dat.str))), (Str.ofString "head", .hd xs c res ps)]) hs.cons (fun _ h => h) (fun h => h) ?_
    refine ex_ifSkip (tst_cmp rfl (cmp_inL (x := y) (ys := xs.take i) (take_no hnd hy)) (by omega) (ev_idx (ds := xs.map Dat.str) (i := i) (j := i) (ev_name hC (by decide +kernel) (by decide +kernel) (look_tl (by decide +kernel) look_hd)) (ev_name hC (by decide +kernel) (by decide +kernel) look_hd) (fun _ _ _ => rfl) (by omega) (by omega) (by rw [hlm]; simp only [seqIndex?]; simp; omega) (by rw [List.getElem?_map, hy]; rfl)) (by rw [List.map_take]; exact ev_upto (by omega) (fun _ _ => rfl) (fun _ _ => rfl) (ev_name hC (by decide +kernel) (by decide +kernel) (look_tl (by decide +kernel) look_hd)) (ev_name hC (by decide +kernel) (by decide +kernel) look_hd))) (sx_nil ⟨_, rfl, Sub.over Sub.refl (look_no (by decide +kernel) (look_no (by decide +kernel) look_e)), rfl⟩)
  obtain ⟨hs, rfl⟩ := hJ
  refine sx_sub hs (fun _ h => h) (fun h => h) ?_
  refine sx_forR (B := fun k => k = xs.length) hC (by decide +kernel) (by decide +kernel) (by kernel_rfl) (by boot_fast) (by decide) (by decide +kernel) star_k (fun _ _ => rfl) (fun k hk => by omega) (evp_of (ev_len hC (by decide +kernel) (by kernel_rfl) (by boot_fast) (by decide) (by decide +kernel) star_a (by omega) len_args (ev_attr (fun _ => rfl) (rd_hdA f131_arguments) (ev_name hC (by decide +kernel) (by decide +kernel) (look_tl (by decide +kernel) look_hd)))) ⟨_, rfl, rfl⟩) (fun i Γ' M' => Sub [(Str.ofString "names", .d (.list (xs.map Dat.str))), (Str.ofString "head", .hd xs c res ps)] Γ' ∧ M' = []) ⟨Sub.refl, rfl⟩ (fun I oI i Γ' M' hi hJ => ?t2) fun k Γ' M' hk hJ => ?_
  case t2 =>
    obtain ⟨hs, rfl⟩ := hJ
    obtain ⟨k, rfl, hik⟩ := hi
    obtain ⟨y, hy⟩ : ∃ y, xs[i]? = some y := ⟨_, List.getElem?_eq_getElem hik⟩
    refine sx_sub (Γ' := (Str.ofString "at", .d (.int i)) :: [(Str.ofString "names", .d (.list (xs.map Dat.str))), (Str.ofString "head", .hd xs c res ps)]) hs.cons (fun _ h => h) (fun h => h) ?_
    refine ex_assign (t := .arg y) hC (by decide +kernel) (fun _ => rfl) (ev_idxA (fun _ _ _ => rfl) (by omega) hy (ev_attr (fun _ => rfl) (rd_hdA f131_arguments) (ev_name hC (by decide +kernel) (by decide +kernel) (look_tl (by decide +kernel) (look_tl (by decide +kernel) look_hd)))) (ev_name hC (by decide +kernel) (by decide +kernel) look_hd)) ?_
    refine ex_ifSkip (tst_andF (tst_call (b := false) (fun _ => rfl) (ev_attr (fun _ => rfl) (rd_arg f110_is_rest (.tail _ (.tail _ (.head _)))) (ev_name hC (by decide +kernel) (by decide +kernel) look_hd)))) ?_
    refine ex_ifSkip ?tst (sx_nil ⟨_, rfl, Sub.over (Sub.over Sub.refl (look_no (by decide +kernel) (look_no (by decide +kernel) look_e))) (look_no (by decide +kernel) (look_no (by decide +kernel) look_e)), rfl⟩)
    case tst =>
      cases i with
      | zero => exact tst_andF (tst_cmp rfl (cmp_gtF (by decide)) (by omega) (ev_name hC (by decide +kernel) (by decide +kernel) (look_tl (by decide +kernel) look_hd)) ev_int)
      | succ j =>
        obtain ⟨z, hz2⟩ : ∃ z, xs[j]? = some z := ⟨_, List.getElem?_eq_getElem (by omega)⟩
        exact tst_and (tst_cmp rfl (cmp_gtT (Int.ofNat_lt.mpr (Nat.succ_pos j))) (by omega) (ev_name hC (by decide +kernel) (by decide +kernel) (look_tl (by decide +kernel) look_hd)) ev_int) (tst_andF (tst_cmp rfl cmp_isnot_none (by omega) (ev_attr (fun _ => rfl) (rd_arg f110_default (.tail _ (.head _))) (ev_idxA (fun _ _ _ => rfl) (by omega) hz2 (ev_attr (fun _ => rfl) (rd_hdA f131_arguments) (ev_name hC (by decide +kernel) (by decide +kernel) (look_tl (by decide +kernel) (look_tl (by decide +kernel) (look_tl (by decide +kernel) look_hd))))) (ev_bin (bin_sub1 j) (ev_name hC (by decide +kernel) (by decide +kernel) (look_tl (by decide +kernel) look_hd)) ev_int))) ev_none))
  obtain ⟨hs, rfl⟩ := hJ
  refine sx_sub hs (fun _ h => h) (fun h => h) ?_
  exact ex_ifSkip (tst_cmp rfl (cmp_ne_f (d := .list []) (e := .list []) rfl rfl rfl) (by omega) (ev_of (evp_compOf (fun _ => rfl) rfl rfl (fun _ => rfl) (cl := []) (by rw [hC.e, hC.c]; with_unfolding_all rfl) rfl (by decide +kernel) (comp_listT (Δ := []) (ts := []) (kb := fun _ => false) (de := fun _ => .none) (by decide +kernel) rfl (by decide +kernel) (listE_d (ds := [])) (by decide) (fun _ _ h => nomatch h) rfl (ev_attr (fun _ => rfl) (rd_hd f131_keywords (.tail _ (.tail _ (.tail _ (.head _))))) (ev_name hC (by decide +kernel) (by decide +kernel) (look_tl (by decide +kernel) look_hd))) (fun i u hu => by simp at hu)))) (ev_list (ds := []) (Nat.le_of_ble_eq_true rfl) evs_nil)) (sx_nil ⟨[], _, rfl, rfl, rfl⟩)
end Mine
namespace Mine
open PySem PySem.W PyProof.Rows PySem.Spec PySem.Calls
set_option linter.all false
variable {w : World} {C : Cx w} {Γ Γ' : Tys} {M M' M₂ : Cells} {pos p p2 p3 : Pos} {sc : Scope} {rest body : List Stmt} {N N' : Tys → Cells → Prop} {PP : Ent → Cells → Prop} {o e e1 e2 test : PySem.Expr} {x : Str} {k : Nat} {b : List Stmt}
/-- a while, from its test on -/
structure Wx (C : Cx w) (Γ : Tys) (M : Cells) (test : PySem.Expr) (body : List Stmt) (N : Tys → Cells → Prop) : Prop where
  run : ∀ (m : Str → Option Value) (R : Led) (s : Shared) (Q : Flow → Shared → Prop), St C m M R s → EnvOk C m R Γ → (∀ m' h tk R' Γ' M', St C m' M' R' (upS s h tk) → (∀ p ∈ R, p ∈ R') → EnvOk C m' R' Γ' → N Γ' M' → Q .next (upS s h tk)) → WhlRest row.row.prog w C.A (fun _ _ => False) C.env test body [] Q 1 s
theorem wx_stop (hc : Tst C Γ M test false) (h : N Γ M) : Wx C Γ M test body N := .mk <| fun m R s Q S hΓ nx =>
  whl_turn (k := 0) PassesOwn.never (hc.run m R s _ _ S hΓ fun h' tk R' S' hs' => WhlIf.no rfl (wpAny_execs_nil (nx m h' tk R' Γ M S' hs' (hΓ.mono hs') h)))
theorem wx_turn (hc : Tst C Γ M test true) (hb : Sx C Γ M body N' (fun _ _ => False)) (r : ∀ Γ' M', N' Γ' M' → Wx C Γ' M' test body N) : Wx C Γ M test body N := .mk <| fun m R s Q S hΓ nx =>
  whl_turn (k := 0) PassesOwn.never (hc.run m R s _ _ S hΓ fun h' tk R' S' hs' => WhlIf.yes rfl (hb.run m R' _ _ S' (hΓ.mono hs') (fun m2 h2 tk2 R2 Γ2 M2 S2 hs2 hΓ2 k2 => (r Γ2 M2 k2).run m2 R2 _ Q S2 hΓ2 fun m3 h3 tk3 R3 Γ3 M3 S3 hs3 => nx m3 h3 tk3 R3 Γ3 M3 S3 fun q hq => hs3 q (hs2 q (hs' q hq))) fun _ _ _ _ _ _ _ _ _ _ k => k.elim))
theorem sx_while (h : Wx C Γ M test body N') (r : ∀ Γ' M', N' Γ' M' → Sx C Γ' M' rest N PP) : Sx C Γ M (.While test body [] pos :: rest) N PP := .mk <| fun m R s Q S hΓ nx ret =>
  wpAny_execs_cons (whl_start 1 (h.run m R s _ S hΓ fun m2 h2 tk2 R2 Γ2 M2 S2 hs2 hΓ2 k2 => (r Γ2 M2 k2).run m2 R2 _ Q S2 hΓ2 (fun m3 h3 tk3 R3 Γ3 M3 S3 hs3 => nx m3 h3 tk3 R3 Γ3 M3 S3 fun q hq => hs3 q (hs2 q hq)) fun v m3 h3 tk3 R3 M3 t S3 hs3 => ret v m3 h3 tk3 R3 M3 t S3 fun q hq => hs3 q (hs2 q hq)))
/-- list(e), e a tuple -/
theorem ev_listOf {ds : List Dat} (hz : ds.length ≤ 24) (hC : Fm C sc) (hk : sc.names.lookup (Str.ofString "list") = some .globalImplicit) (hx : nsIn (KK w.params) mainGlobals (Str.ofString "list") = some none) (hb : bootBuiltins (Str.ofString "list") = some (.type "list"))
    (hn : Str.ofString "list" ≠ Str.ofString "__name__") (hd' : (Str.ofString "list" == Str.ofString "__debug__") = false) (hs : ∀ env, starEach [e] env = [(false, eval e env)]) (h : Ev C Γ M e (.d (.tuple ds))) : Ev C Γ M (.Call (.Name (Str.ofString "list") p) [e] [] pos) (.d (.list ds)) := .mk <| fun m R s Q E S hΓ ret => by
  refine Call_ (nameG_B S.F C.X (topRead_of C.T) hx hb hn ?_ C.hE (by rw [hC.e]) C.hkE (kind_at hC.s hk) hd')
  refine PyProof.Rows.callWith_type1 ((evs_cons hs h evs_nil).run pos m R s _ E S hΓ fun vs h' tk R' S' hs' hD => ?_) (hs _)
  match vs, hD with
  | [v], ⟨hD1, _⟩ =>
    have hD1 : DatIn (C.G ++ R') v (.tuple ds) := hD1
    cases hD1 with
    | @tuple l vs1 k _ hm hr =>
      obtain ⟨os, No, hos, he⟩ := S'.cs.led
      obtain ⟨Nn, _⟩ := S'.below No
      refine list_copyKT (news := os ++ R') S'.F Nn (items := vs1.toArray) ⟨_, S'.reads' _ hm, rfl, k, rfl⟩ (fun D c h3 F3 N3 lt => ?_) (by rw [List.size_toArray, sizeLine_eq, hr.length]; omega)
      have S3 := S'.made hos he F3 N3 lt tk
      exact ret (.ref D) h3 tk _ ⟨S3.F, S3.N, S3.cs, S3.nd, S3.off⟩ (fun q hq => .tail _ (hs' q hq)) (DatIn.list (List.mem_append.mpr (.inr (.head _))) (hr.mono (up_mono fun q hq => .tail _ hq)))
/-- a head goes over to the ledger -/
theorem ex_freezeHd {H D A Pa : Addr} {es : List (Str × Ent)} {xs : List Str} {ps : List Dat} {c res : Dat} (hE : HdE es c res A Pa) (hΓ' : ∀ y t, Γ'.lookup y = some t → Γ.lookup y = some t ∨ (t = .hd xs c res ps ∧ Γ.lookup y = some (.r H))) (h : Sx C Γ' M b N PP) : Sx C Γ (hdM H D A Pa es xs ps ++ M) b N PP := .mk <| fun m R s Q S hΓ nx ret => by
  obtain ⟨o1, ⟨vs1, n1, e1, hd1⟩, S1⟩ := S.freeze
  obtain ⟨o2, ⟨vs2, n2, e2, hd2⟩, S2⟩ := S1.freeze
  obtain ⟨o3, e3, S3⟩ := S2.freeze
  obtain ⟨o4, ⟨en, n4, e4, hd4⟩, S4⟩ := S3.freeze
  have e3 : o3 = instObj 131 D := e3
  subst e1 e2 e3 e4
  have i1 : (Pa, W.listOf vs1.toArray n1) ∈ (D, W.dictOf en n4) :: (H, instObj 131 D) :: (A, W.listOf vs2.toArray n2) :: (Pa, W.listOf vs1.toArray n1) :: R := .tail _ (.tail _ (.tail _ (.head _)))
  have i2 : (A, W.listOf vs2.toArray n2) ∈ (D, W.dictOf en n4) :: (H, instObj 131 D) :: (A, W.listOf vs2.toArray n2) :: (Pa, W.listOf vs1.toArray n1) :: R := .tail _ (.tail _ (.head _))
  have sub : ∀ q ∈ R, q ∈ (D, W.dictOf en n4) :: (H, instObj 131 D) :: (A, W.listOf vs2.toArray n2) :: (Pa, W.listOf vs1.toArray n1) :: R := fun q hq => .tail _ (.tail _ (.tail _ (.tail _ hq)))
  have up2 : ∀ q ∈ C.G ++ ((Pa, W.listOf vs1.toArray n1) :: R), q ∈ C.G ++ ((D, W.dictOf en n4) :: (H, instObj 131 D) :: (A, W.listOf vs2.toArray n2) :: (Pa, W.listOf vs1.toArray n1) :: R) := up_mono fun q hq => .tail _ (.tail _ (.tail _ hq))
  have hd4 := hd4.mono (up_mono (G := C.G) (R := (H, instObj 131 D) :: (A, W.listOf vs2.toArray n2) :: (Pa, W.listOf vs1.toArray n1) :: R) (R' := (D, W.dictOf en n4) :: (H, instObj 131 D) :: (A, W.listOf vs2.toArray n2) :: (Pa, W.listOf vs1.toArray n1) :: R) fun q hq => .tail _ hq)
  have hd1 := hd1.mono (up_mono (G := C.G) sub)
  have hd2 := hd2.mono up2
  have inR : ∀ {q : Addr × Obj}, q ∈ (D, W.dictOf en n4) :: (H, instObj 131 D) :: (A, W.listOf vs2.toArray n2) :: (Pa, W.listOf vs1.toArray n1) :: R → q ∈ C.G ++ ((D, W.dictOf en n4) :: (H, instObj 131 D) :: (A, W.listOf vs2.toArray n2) :: (Pa, W.listOf vs1.toArray n1) :: R) := fun h => List.mem_append.mpr (.inr h)
  refine h.run m _ s Q S4 ⟨fun y t hy => ?_, (hΓ.mono sub).cel⟩ (fun m' h' tk R' Γ2 M' S2 hs => nx m' h' tk R' Γ2 M' S2 fun q hq => hs q (sub q hq)) fun v m' h' tk R' M' t S2 hs => ret v m' h' tk R' M' t S2 fun q hq => hs q (sub q hq)
  rcases hΓ' y t hy with h1 | ⟨rfl, h1⟩
  · exact (hΓ.mono sub).loc y t h1
  · obtain ⟨v, hv1, hv2⟩ := hΓ.loc y _ h1
    have hv2 : v = .ref H := hv2
    subst hv2
    obtain ⟨ua, ua1, ua2⟩ := hd4.get hE.arguments
    have ua2 : ua = .ref A := ua2
    subst ua2
    obtain ⟨up, up1, up2⟩ := hd4.get hE.patterns
    have up2 : up = .ref Pa := up2
    subst up2
    refine ⟨_, hv1, H, D, en, n4, .ref A, rfl, inR (.tail _ (.head _)), inR (.head _), fun q hq => ?_, ua1, A, vs2, n2, rfl, inR i2, hd2⟩
    simp only [List.mem_cons, List.not_mem_nil, or_false] at hq
    rcases hq with rfl | rfl | rfl | rfl
    · exact dicFld hd4 hE.callee
    · exact dicFld hd4 hE.result
    · exact ⟨_, up1, .list (inR i1) hd1⟩
    · exact dicFld hd4 hE.keywords
theorem name_ne01 (a b : Ar) : nameD 0 a ≠ nameD 1 b := by cases a <;> cases b <;> decide +kernel
theorem name_ne02 (a b : Ar) : nameD 0 a ≠ nameD 2 b := by cases a <;> cases b <;> decide +kernel
theorem name_ne12 (a b : Ar) : nameD 1 a ≠ nameD 2 b := by cases a <;> cases b <;> decide +kernel
theorem nsD_nd : ∀ as : List Ar, as.length < 4 → (nsD 0 as).Nodup
  | [], _ => .nil
  | [a], _ => by simp [nsD]
  | [a, b], _ => by simp [nsD, name_ne01 a b]
  | [a, b, c], _ => by simp [nsD, name_ne01 a b, name_ne02 a c, name_ne12 b c]
  | _ :: _ :: _ :: _ :: _, h => by simp only [List.length_cons] at h; omega
theorem HdE.vars {es : List (Str × Ent)} {c res : Dat} {A Pa : Addr} {t : Ent} (h : HdE es c res A Pa) : HdE (putE (Str.ofString "variables") t es) c res A Pa :=
  ⟨put_tl (by decide +kernel) h.callee, put_tl (by decide +kernel) h.arguments, put_tl (by decide +kernel) h.keywords, put_tl (by decide +kernel) h.result, put_tl (by decide +kernel) h.patterns⟩
theorem HdE.res {es : List (Str × Ent)} {c res r : Dat} {A Pa : Addr} (h : HdE es c res A Pa) : HdE (putE (Str.ofString "result") (.d r) es) c r A Pa :=
  ⟨put_tl (by decide +kernel) h.callee, put_tl (by decide +kernel) h.arguments, put_tl (by decide +kernel) h.keywords, put_same, put_tl (by decide +kernel) h.patterns⟩
end Mine
namespace Mine
open PySem PySem.W PyProof.Rows PySem.Spec PySem.Calls
set_option linter.all false
variable {w : World}
section
variable {C : Cx w} {Γ Γ' : Tys} {M : Cells} {pos p p2 px py pz : Pos} {sc : Scope} {rest : List Stmt} {N : Tys → Cells → Prop} {PP : Ent → Cells → Prop} {e1 e2 e3 test : PySem.Expr} {k k2 : Nat} {x y z : Str} {t1 t2 t3 : Ent} {body : List Stmt}
theorem wx_sub (hs : Sub Γ Γ') (h : Wx C Γ M test body N) : Wx C Γ' M test body N := .mk <| fun m R s Q S hΓ nx => h.run m R s Q S ⟨fun x t hx => hΓ.loc x t (hs x t hx), hΓ.cel⟩ nx
/-- x, y, z = e1, e2, e3 -/
theorem sx_triple (hC : Fm C sc) (hx : sc.names.lookup x = some .local) (hy : sc.names.lookup y = some .local) (hz : sc.names.lookup z = some .local) (hs : ∀ cn L a ccd cl, swapsWithSole [.Tuple [.Name x px, .Name y py, .Name z pz] k p] (.Tuple [e1, e2, e3] k2 p2) pos.line (envX cn sc L a ccd cl) = pure false)
    (hw : ∀ cn L a ccd cl, swappedStores [.Tuple [.Name x px, .Name y py, .Name z pz] k p] (.Tuple [e1, e2, e3] k2 p2) (envX cn sc L a ccd cl) = pure (some [x, y, z])) (h : EvAll C Γ M [e1, e2, e3] [t1, t2, t3]) (r : Sx C ((x, t1) :: (y, t2) :: (z, t3) :: Γ) M rest N PP) : Sx C Γ M (.Assign [.Tuple [.Name x px, .Name y py, .Name z pz] k p] (.Tuple [e1, e2, e3] k2 p2) pos :: rest) N PP := .mk <| fun m R s Q S hΓ nx ret => by
  refine wpAny_execs_cons (Assign_Tuple_swapped (names := [x, y, z]) (Tuple_ (h.run _ m R s _ _ S hΓ fun vs hb tkb R2 S2 hs2 hD => ?_)) (by rw [hC.e, hC.c]; exact hs _ _ _ _ _) (by rw [hC.e, hC.c]; exact hw _ _ _ _ _))
  match vs, hD with
  | [v1, v2, v3], ⟨q1, q2, q3, _⟩ =>
  refine newTuple_NK S2.F S2.N (fun h'' F N' kp => ?_) (by rw [sizeLine_eq]; exact Nat.le_of_ble_eq_true rfl)
  have S3 := S2.new (D := hb.objs.size) (o := { cls := .type "tuple", data := .seq [v1, v2, v3].toArray }) (fun os N2 => by
    intro p hp
    rcases List.mem_cons.mp hp with rfl | hp
    · exact N' _ (.head _)
    · exact ⟨kp _ _ (N2 p hp).1, (N2 p hp).2⟩) (Nat.le_refl _) F tkb
  refine unpackItems_tuple (items := [v1, v2, v3].toArray) rfl ⟨_, (N' _ (.head _)).1, rfl, _, rfl⟩ fun h3 he => ?_
  have S4 := S3.ext he tkb
  have S4 : St C m M ((hb.objs.size, ({ cls := .type "tuple", data := .seq [v1, v2, v3].toArray } : Obj)) :: R2) (upS s h3 tkb) := ⟨S4.F, S4.N, S4.cs, S4.nd, S4.off⟩
  have up : ∀ q ∈ R, q ∈ (hb.objs.size, ({ cls := .type "tuple", data := .seq [v1, v2, v3].toArray } : Obj)) :: R2 := fun q hq => .tail _ (hs2 q hq)
  have mo := fun {v t} (h : EntIn (C.G ++ R2) v t) => EntIn.mono (up_mono (G := C.G) (R := R2) (R' := (hb.objs.size, ({ cls := .type "tuple", data := .seq [v1, v2, v3].toArray } : Obj)) :: R2) fun q hq => .tail _ hq) h
  refine assignInOrder_cons (bindName_ (S4.store hC hz fun ha ta Sa => assignInOrder_cons (bindName_ (Sa.store hC hy fun hb tb Sb => assignInOrder_cons (bindName_ (Sb.store hC hx fun hc tc Sc => assignInOrder_nil ?_))))))
  exact r.run _ _ _ Q ⟨Sc.F, Sc.N, Sc.cs, Sc.nd, Sc.off⟩ (env_store hC (env_store hC (env_store hC (hΓ.mono up) (mo q3)) (mo q2)) (mo q1)) (fun m' h tk R' Γ' M' S' hs' => nx m' h tk R' Γ' M' S' fun q hq => hs' q (up q hq)) fun v m' h tk R' M' t S' hs' => ret v m' h tk R' M' t S' fun q hq => hs' q (up q hq)
end
theorem g_fill : GFn w (Str.ofString "fill_head") 163 := ⟨by kernel_rfl, by kernel_rfl, by decide +kernel⟩
theorem g_check : GFn w (Str.ofString "check_head") 168 := ⟨by kernel_rfl, by kernel_rfl, by decide +kernel⟩
section
variable {C : Cx w} {tt : PySem.Expr} {bb : List Stmt} {h k r : Dat} {T : Dat} {Ts vs : List Dat} {N : Tys → Cells → Prop}
/-- a where is taken off -/
theorem fh_where (hC : Fm C (sc (st 21))) (hsz : 12 ≤ C.sz) (hv : vs.length ≤ 2) (ht : tt = (match bd (st 21) with | _ :: .While t _ _ _ :: _ => t | _ => .Constant .none 0 ⟨0, 0, 0, 0⟩)) (hb : bb = (match bd (st 21) with | _ :: .While _ b _ _ :: _ => b | _ => [])) (hn : Wx C [(Str.ofString "here", .d (h)), (Str.ofString "variables", .d (.list (vs ++ [symD (Str.ofString "T")]))), (Str.ofString "result", .d (r)), (Str.ofString "tree", .d T)] [] tt bb N) : Wx C [(Str.ofString "here", .d (nodeD (Str.ofString "where") [h, symD (Str.ofString "T")])), (Str.ofString "variables", .d (.list vs)), (Str.ofString "result", .d (r)), (Str.ofString "tree", .d T)] [] tt bb N := by
  refine wx_turn (N' := fun Γ' M' => Sub [(Str.ofString "here", .d (h)), (Str.ofString "variables", .d (.list (vs ++ [symD (Str.ofString "T")]))), (Str.ofString "result", .d (r)), (Str.ofString "tree", .d T)] Γ' ∧ M' = []) ?test ?body fun Γ' M' k => k.2 ▸ wx_sub k.1 hn
  case test => subst ht; exact tst_orT (tst_call (fun _ => rfl) (ev_call hC.s (by decide +kernel) g_isexpr star_n (any_cons star_c any_nil) (isexpr_tells _ _ _ _ true (by decide +kernel) (by decide +kernel)) (by omega) (evs_cons star_n (ev_name hC (by decide +kernel) (by decide +kernel) look_hd) (evs_cons star_c ev_str evs_nil))))
  case body =>
    subst hb
    refine sx_ifT (N' := fun Γ2 M2 => Γ2 = (Str.ofString "variables", .d (.list (vs ++ [symD (Str.ofString "T")]))) :: [(Str.ofString "here", .d (nodeD (Str.ofString "where") [h, symD (Str.ofString "T")])), (Str.ofString "variables", .d (.list vs)), (Str.ofString "result", .d (r)), (Str.ofString "tree", .d T)] ∧ M2 = []) (tst_call (fun _ => rfl) (ev_call hC.s (by decide +kernel) g_isexpr star_n (any_cons star_c any_nil) (isexpr_tells _ _ _ _ true (by decide +kernel) (by decide +kernel)) (by omega) (evs_cons star_n (ev_name hC (by decide +kernel) (by decide +kernel) look_hd) (evs_cons star_c ev_str evs_nil)))) (ex_assign hC (by decide +kernel) (fun _ => rfl) (ev_addL (d1 := vs) (d2 := [symD (Str.ofString "T")]) (by rw [List.length_cons, List.length_nil]; omega) (ev_name hC (by decide +kernel) (by decide +kernel) (look_tl (by decide +kernel) look_hd)) (ev_listOf (ds := [symD (Str.ofString "T")]) (by decide) hC (by decide +kernel) (by kernel_rfl) (by boot_fast) (by decide) (by decide +kernel) star_s (ev_tail (d := h) (ds := [symD (Str.ofString "T")]) (by decide) (fun _ _ => rfl) (ev_sub (ds := [.str (Str.ofString "expr"), .str (Str.ofString "where"), .tuple [h, symD (Str.ofString "T")]]) (ev_name hC (by decide +kernel) (by decide +kernel) look_hd) (by decide) rfl (fun _ _ => rfl)) ev_int))) (sx_nil ⟨rfl, rfl⟩)) fun Γ2 M2 k => ?_
    obtain ⟨rfl, rfl⟩ := k
    exact ex_assign (t := .d h) hC (by decide +kernel) (fun _ => rfl) (ev_sub (ds := [h, symD (Str.ofString "T")]) (ev_sub (ds := [.str (Str.ofString "expr"), .str (Str.ofString "where"), .tuple [h, symD (Str.ofString "T")]]) (ev_name hC (by decide +kernel) (by decide +kernel) (look_tl (by decide +kernel) look_hd)) (by decide) rfl (fun _ _ => rfl)) (by decide) rfl (fun _ _ => rfl)) (sx_nil ⟨(Sub.mk look_hd (Sub.mk (look_tl (by decide +kernel) look_hd) (Sub.mk (look_tl (by decide +kernel) (look_tl (by decide +kernel) (look_tl (by decide +kernel) (look_tl (by decide +kernel) look_hd)))) (Sub.mk (look_tl (by decide +kernel) (look_tl (by decide +kernel) (look_tl (by decide +kernel) (look_tl (by decide +kernel) (look_tl (by decide +kernel) look_hd))))) Sub.nil)))), rfl⟩)
/-- a kind is taken off -/
theorem fh_kind (hC : Fm C (sc (st 21))) (hsz : 12 ≤ C.sz) (hT : T = nodeD (Str.ofString "function") Ts) (ht : tt = (match bd (st 21) with | _ :: .While t _ _ _ :: _ => t | _ => .Constant .none 0 ⟨0, 0, 0, 0⟩)) (hb : bb = (match bd (st 21) with | _ :: .While _ b _ _ :: _ => b | _ => [])) (hn : Wx C [(Str.ofString "here", .d (h)), (Str.ofString "variables", .d (.list vs)), (Str.ofString "result", .d (k)), (Str.ofString "tree", .d T)] [] tt bb N) : Wx C [(Str.ofString "here", .d (nodeD (Str.ofString "::") [h, k])), (Str.ofString "variables", .d (.list vs)), (Str.ofString "result", .d (r)), (Str.ofString "tree", .d T)] [] tt bb N := by
  refine wx_turn (N' := fun Γ' M' => Sub [(Str.ofString "here", .d (h)), (Str.ofString "variables", .d (.list vs)), (Str.ofString "result", .d (k)), (Str.ofString "tree", .d T)] Γ' ∧ M' = []) ?test ?body fun Γ' M' k => k.2 ▸ wx_sub k.1 hn
  case test => subst ht; subst hT; exact tst_or (tst_call (fun _ => rfl) (ev_call hC.s (by decide +kernel) g_isexpr star_n (any_cons star_c any_nil) (isexpr_tells _ _ _ _ false (by decide +kernel) (by decide +kernel)) (by omega) (evs_cons star_n (ev_name hC (by decide +kernel) (by decide +kernel) look_hd) (evs_cons star_c ev_str evs_nil)))) (tst_orT (tst_and (tst_call (fun _ => rfl) (ev_call hC.s (by decide +kernel) g_isexpr star_n (any_cons star_c any_nil) (isexpr_tells _ _ _ _ true (by decide +kernel) (by decide +kernel)) (by omega) (evs_cons star_n (ev_name hC (by decide +kernel) (by decide +kernel) look_hd) (evs_cons star_c ev_str evs_nil)))) (tst_and (tst_call (fun _ => rfl) (ev_call hC.s (by decide +kernel) g_isexpr star_n (any_cons star_c any_nil) (isexpr_tells _ _ _ _ true (by decide +kernel) (by decide +kernel)) (by omega) (evs_cons star_n (ev_name hC (by decide +kernel) (by decide +kernel) (look_tl (by decide +kernel) (look_tl (by decide +kernel) (look_tl (by decide +kernel) look_hd)))) (evs_cons star_c ev_str evs_nil)))) tst_and0)))
  case body =>
    subst hb
    refine sx_ifF (N' := fun Γ2 M2 => Γ2 = (Str.ofString "result", .d k) :: [(Str.ofString "here", .d (nodeD (Str.ofString "::") [h, k])), (Str.ofString "variables", .d (.list vs)), (Str.ofString "result", .d (r)), (Str.ofString "tree", .d T)] ∧ M2 = []) (tst_call (fun _ => rfl) (ev_call hC.s (by decide +kernel) g_isexpr star_n (any_cons star_c any_nil) (isexpr_tells _ _ _ _ false (by decide +kernel) (by decide +kernel)) (by omega) (evs_cons star_n (ev_name hC (by decide +kernel) (by decide +kernel) look_hd) (evs_cons star_c ev_str evs_nil)))) (ex_assign (t := .d k) hC (by decide +kernel) (fun _ => rfl) (ev_sub (ds := [h, k]) (ev_sub (ds := [.str (Str.ofString "expr"), .str (Str.ofString "::"), .tuple [h, k]]) (ev_name hC (by decide +kernel) (by decide +kernel) look_hd) (by decide) rfl (fun _ _ => rfl)) (by decide) rfl (fun _ _ => rfl)) (sx_nil ⟨rfl, rfl⟩)) fun Γ2 M2 k => ?_
    obtain ⟨rfl, rfl⟩ := k
    exact ex_assign (t := .d h) hC (by decide +kernel) (fun _ => rfl) (ev_sub (ds := [h, k]) (ev_sub (ds := [.str (Str.ofString "expr"), .str (Str.ofString "::"), .tuple [h, k]]) (ev_name hC (by decide +kernel) (by decide +kernel) (look_tl (by decide +kernel) look_hd)) (by decide) rfl (fun _ _ => rfl)) (by decide) rfl (fun _ _ => rfl)) (sx_nil ⟨(Sub.mk look_hd (Sub.mk (look_tl (by decide +kernel) (look_tl (by decide +kernel) (look_tl (by decide +kernel) look_hd))) (Sub.mk (look_tl (by decide +kernel) look_hd) (Sub.mk (look_tl (by decide +kernel) (look_tl (by decide +kernel) (look_tl (by decide +kernel) (look_tl (by decide +kernel) (look_tl (by decide +kernel) look_hd))))) Sub.nil)))), rfl⟩)
/-- nothing is left to take off -/
theorem fh_stop {W : Str} {ds : List Dat} (hC : Fm C (sc (st 21))) (hsz : 12 ≤ C.sz) (h1 : (W == Str.ofString "where") = false) (h2 : (W == Str.ofString "::") = false) (ht : tt = (match bd (st 21) with | _ :: .While t _ _ _ :: _ => t | _ => .Constant .none 0 ⟨0, 0, 0, 0⟩)) (hn : N [(Str.ofString "here", .d (nodeD W ds)), (Str.ofString "variables", .d (.list vs)), (Str.ofString "result", .d (r)), (Str.ofString "tree", .d T)] []) : Wx C [(Str.ofString "here", .d (nodeD W ds)), (Str.ofString "variables", .d (.list vs)), (Str.ofString "result", .d (r)), (Str.ofString "tree", .d T)] [] tt bb N := by
  subst ht
  exact wx_stop (tst_or (tst_call (fun _ => rfl) (ev_call hC.s (by decide +kernel) g_isexpr star_n (any_cons star_c any_nil) (isexpr_tells _ _ _ _ false (by decide +kernel) h1) (by omega) (evs_cons star_n (ev_name hC (by decide +kernel) (by decide +kernel) look_hd) (evs_cons star_c ev_str evs_nil)))) (tst_or (tst_andF (tst_call (fun _ => rfl) (ev_call hC.s (by decide +kernel) g_isexpr star_n (any_cons star_c any_nil) (isexpr_tells _ _ _ _ false (by decide +kernel) h2) (by omega) (evs_cons star_n (ev_name hC (by decide +kernel) (by decide +kernel) look_hd) (evs_cons star_c ev_str evs_nil))))) tst_or0)) hn
end
def calD : Hd → Dat
  | .tup => .none
  | c => calleeD c
theorem calD_call {c : Hd} (h : c ≠ .tup) : calD c = calleeD c := by
  cases c with
  | tup => exact absurd rfl h
  | _ => rfl
theorem cmp_callee (c : Hd) : Cmp w .IsNot (calleeD c) .none true := by cases c <;> exact cmp_isnot_tup _
theorem headD_form (as : List Ar) (c : Hd) : ∃ W ds, headD as c = nodeD W ds ∧ (W == Str.ofString "where") = false ∧ (W == Str.ofString "::") = false := by
  cases c
  · exact ⟨Str.ofString "call", _, rfl, by decide +kernel, by decide +kernel⟩
  · exact ⟨Str.ofString "call", _, rfl, by decide +kernel, by decide +kernel⟩
  · exact ⟨Str.ofString "call", _, rfl, by decide +kernel, by decide +kernel⟩
  · exact ⟨Str.ofString "tuple", _, rfl, by decide +kernel, by decide +kernel⟩
theorem fresh_hd {x : Str} {Γ : Tys} {l : Addr} {u : Ent} : ∀ y t, List.lookup y ((x, u) :: Γ) = some t → List.lookup y ((x, Ent.r l) :: Γ) = some t ∨ (t = u ∧ List.lookup y ((x, Ent.r l) :: Γ) = some (.r l)) := fun y t h => by
  simp only [List.lookup] at h ⊢
  split at h
  · cases h; exact .inr ⟨rfl, rfl⟩
  · exact .inl h
theorem hd_case (c : Hd) : c = .tup ∨ c ≠ .tup := by cases c <;> first | exact .inl rfl | exact .inr (fun e => nomatch e)
/-- function_head -/
theorem fh_tells (as : List Ar) (c : Hd) (kd : Option Dat) (wh : Bool) (bd' : Dat) (hl : as.length < 4) : XTells w 175 24 [.d (treeD as c kd wh bd')] [] (fun t => t = .hd (nsD 0 as) (calD c) (kdV kd) (patsD 0 as)) := by
  refine fn_tells (n := 23) (ps := [Str.ofString "tree"]) ⟨⟨_, _, _, _, _, _, _, _, _, _, _, _, _, by exact rfl, by exact rfl, binds1 fun _ => rfl⟩, by decide +kernel, rfl, rfl, rfl, by decide +kernel⟩ rfl (by decide +kernel) fun C hC hsz => ?_
  have e1 := arsD_len as 0
  have e2 := nsD_len as 0
  generalize hT : treeD as c kd wh bd' = T
  refine sx_triple (t1 := .d (whereD wh (kindD kd (headD as c)))) (t2 := .d (.list [])) (t3 := .d .none) hC (by decide +kernel) (by decide +kernel) (by decide +kernel) (fun _ _ _ _ _ => by kernel_rfl) (fun _ _ _ _ _ => by kernel_rfl) (by subst hT; exact (evs_cons star_s (ev_sub (ds := [whereD wh (kindD kd (headD as c)), bd']) (ev_sub (ds := [.str (Str.ofString "expr"), .str (Str.ofString "function"), .tuple [whereD wh (kindD kd (headD as c)), bd']]) (ev_name hC (by decide +kernel) (by decide +kernel) look_hd) (by decide) rfl (fun _ _ => rfl)) (by decide) rfl (fun _ _ => rfl)) (evs_cons star_l (ev_list (ds := []) (Nat.le_of_ble_eq_true rfl) evs_nil) (evs_cons star_c ev_none evs_nil)))) ?_
  refine sx_while (N' := fun Γ' M' => M' = [] ∧ ∃ vs : List Dat, Sub [(Str.ofString "here", .d (headD as c)), (Str.ofString "variables", .d (.list vs)), (Str.ofString "result", .d (kdV kd)), (Str.ofString "tree", .d T)] Γ') ?wh fun Γ' M' k => ?_
  case wh =>
    have s0 : ∀ vs : List Dat, Wx C [(Str.ofString "here", .d (headD as c)), (Str.ofString "variables", .d (.list vs)), (Str.ofString "result", .d (kdV kd)), (Str.ofString "tree", .d T)] [] (match bd (st 21) with | _ :: .While t _ _ _ :: _ => t | _ => .Constant .none 0 ⟨0, 0, 0, 0⟩) (match bd (st 21) with | _ :: .While _ b _ _ :: _ => b | _ => []) (fun Γ' M' => M' = [] ∧ ∃ vs : List Dat, Sub [(Str.ofString "here", .d (headD as c)), (Str.ofString "variables", .d (.list vs)), (Str.ofString "result", .d (kdV kd)), (Str.ofString "tree", .d T)] Γ') := fun vs => by
      obtain ⟨W, ds, e, h1, h2⟩ := headD_form as c
      rw [e]
      exact fh_stop hC (by omega) h1 h2 rfl ⟨rfl, vs, Sub.refl⟩
    have s1 : ∀ vs : List Dat, Wx C [(Str.ofString "here", .d (kindD kd (headD as c))), (Str.ofString "variables", .d (.list vs)), (Str.ofString "result", .d (.none)), (Str.ofString "tree", .d T)] [] (match bd (st 21) with | _ :: .While t _ _ _ :: _ => t | _ => .Constant .none 0 ⟨0, 0, 0, 0⟩) (match bd (st 21) with | _ :: .While _ b _ _ :: _ => b | _ => []) (fun Γ' M' => M' = [] ∧ ∃ vs : List Dat, Sub [(Str.ofString "here", .d (headD as c)), (Str.ofString "variables", .d (.list vs)), (Str.ofString "result", .d (kdV kd)), (Str.ofString "tree", .d T)] Γ') := fun vs => by
      cases kd with
      | none => exact s0 vs
      | some k => exact fh_kind hC (by omega) hT.symm rfl rfl (s0 vs)
    cases wh with
    | false => exact s1 []
    | true => exact fh_where hC (by omega) (by decide) rfl rfl (s1 _)
  obtain ⟨rfl, vs, hs⟩ := k
  refine sx_sub hs (fun _ h => h) (fun h => h) ?_
  clear hs
  refine sx_assignY (P1 := fun t M' => ∃ H D A Pa es, t = .r H ∧ HdE es (calD c) .none A Pa ∧ es.length ≤ 6 ∧ M' = hdM H D A Pa es [] []) hC (by decide +kernel) (fun _ => rfl) (evy_call (M₁ := []) (M₂ := []) hC.s (by decide +kernel) g_Head star_i any_nil (head_tells (calD c)) (by omega) (evs_cons star_i ?cal evs_nil) fun t M' k => by rw [List.append_nil]; exact k) fun t M1 k => ?_
  case cal =>
    rcases hd_case c with rfl | hc
    · exact ev_ifF (tst_andF (tst_call (fun _ => rfl) (ev_call hC.s (by decide +kernel) g_isexpr star_n (any_cons star_c any_nil) (isexpr_tells _ _ _ _ false (by decide +kernel) (by decide +kernel)) (by omega) (evs_cons star_n (ev_name hC (by decide +kernel) (by decide +kernel) look_hd) (evs_cons star_c ev_str evs_nil))))) ev_none
    · rw [calD_call hc, headD_call as hc]
      subst hT
      exact ev_ifT (tst_and (tst_call (fun _ => rfl) (ev_call hC.s (by decide +kernel) g_isexpr star_n (any_cons star_c any_nil) (isexpr_tells _ _ _ _ true (by decide +kernel) (by decide +kernel)) (by omega) (evs_cons star_n (ev_name hC (by decide +kernel) (by decide +kernel) look_hd) (evs_cons star_c ev_str evs_nil)))) (tst_and (tst_call (fun _ => rfl) (ev_call hC.s (by decide +kernel) g_isexpr star_n (any_cons star_c any_nil) (isexpr_tells _ _ _ _ true (by decide +kernel) (by decide +kernel)) (by omega) (evs_cons star_n (ev_name hC (by decide +kernel) (by decide +kernel) (look_tl (by decide +kernel) (look_tl (by decide +kernel) (look_tl (by decide +kernel) look_hd)))) (evs_cons star_c ev_str evs_nil)))) tst_and0)) (ev_sub (ds := ([calleeD c] ++ arsD 0 as)) (ev_sub (ds := [.str (Str.ofString "expr"), .str (Str.ofString "call"), .tuple ([calleeD c] ++ arsD 0 as)]) (ev_name hC (by decide +kernel) (by decide +kernel) look_hd) (by decide) rfl (fun _ _ => rfl)) (by decide) rfl (fun _ _ => rfl))
  obtain ⟨H, D, A, Pa, es, rfl, hE, hz, rfl⟩ := k
  refine sx_ifP (PB := fun b => (b = true ∧ c = .tup) ∨ (b = false ∧ c ≠ .tup)) (N' := fun Γ2 M2 => Γ2 = [(Str.ofString "head", .r H), (Str.ofString "here", .d (headD as c)), (Str.ofString "variables", .d (.list vs)), (Str.ofString "result", .d (kdV kd)), (Str.ofString "tree", .d T)] ∧ M2 = hdM H D A Pa es (nsD 0 as) (patsD 0 as)) ?tst (fun hb => ?tup) (fun hb => ?call) fun Γ2 M2 k => ?_
  case tst =>
    rcases hd_case c with rfl | hc
    · exact tstp_of (tst_call (fun _ => rfl) (ev_call hC.s (by decide +kernel) g_isexpr star_n (any_cons star_c any_nil) (isexpr_tells _ _ _ _ true (by decide +kernel) (by decide +kernel)) (by omega) (evs_cons star_n (ev_name hC (by decide +kernel) (by decide +kernel) (look_tl (by decide +kernel) look_hd)) (evs_cons star_c ev_str evs_nil)))) (.inl ⟨rfl, rfl⟩)
    · rw [headD_call as hc]
      exact tstp_of (tst_call (fun _ => rfl) (ev_call hC.s (by decide +kernel) g_isexpr star_n (any_cons star_c any_nil) (isexpr_tells _ _ _ _ false (by decide +kernel) (by decide +kernel)) (by omega) (evs_cons star_n (ev_name hC (by decide +kernel) (by decide +kernel) (look_tl (by decide +kernel) look_hd)) (evs_cons star_c ev_str evs_nil)))) (.inr ⟨rfl, hc⟩)
  case tup =>
    rcases hb with ⟨_, rfl⟩ | ⟨h, _⟩
    · exact sx_expr hC (fun _ _ _ _ _ => rfl) (fun _ => rfl) (evy_call (M₁ := hdM H D A Pa es [] []) (M₂ := []) hC.s (by decide +kernel) g_fill star_n (any_cons star_s any_nil) (fill_tells as hl hE) (by omega) (evs_cons star_n (ev_name hC (by decide +kernel) (by decide +kernel) look_hd) (evs_cons star_s (ev_sub (ds := [.str (Str.ofString "expr"), .str (Str.ofString "tuple"), .tuple (arsD 0 as)]) (ev_name hC (by decide +kernel) (by decide +kernel) (look_tl (by decide +kernel) look_hd)) (by decide) rfl (fun _ _ => rfl)) evs_nil)) (PP := fun _ M' => M' = hdM H D A Pa es (nsD 0 as) (patsD 0 as)) fun t M' k => by rw [List.append_nil]; exact k.2) fun _ M' k => sx_nil ⟨rfl, k⟩
    · exact nomatch h
  case call =>
    rcases hb with ⟨h, _⟩ | ⟨_, hc⟩
    · exact nomatch h
    · have hE' := hE
      rw [calD_call hc] at hE'
      rw [headD_call as hc]
      exact sx_ifT (N' := fun Γ2 M2 => Γ2 = _ ∧ M2 = hdM H D A Pa es (nsD 0 as) (patsD 0 as)) (tst_cmp rfl (cmp_callee c) (by omega) (ev_attr (fun _ => rfl) (rd_own f131_callee (.tail _ (.tail _ (.head _))) (.tail _ (.tail _ (.tail _ (.head _)))) hE'.callee rfl) (ev_name hC (by decide +kernel) (by decide +kernel) look_hd)) ev_none) (sx_expr hC (fun _ _ _ _ _ => rfl) (fun _ => rfl) (evy_call (M₁ := hdM H D A Pa es [] []) (M₂ := []) hC.s (by decide +kernel) g_fill star_n (any_cons star_s any_nil) (fill_tells as hl hE) (by omega) (evs_cons star_n (ev_name hC (by decide +kernel) (by decide +kernel) look_hd) (evs_cons star_s (ev_tail (d := calleeD c) (ds := arsD 0 as) (by omega) (fun _ _ => rfl) (ev_sub (ds := [.str (Str.ofString "expr"), .str (Str.ofString "call"), .tuple ([calleeD c] ++ arsD 0 as)]) (ev_name hC (by decide +kernel) (by decide +kernel) (look_tl (by decide +kernel) look_hd)) (by decide) rfl (fun _ _ => rfl)) ev_int) evs_nil)) (PP := fun _ M' => M' = hdM H D A Pa es (nsD 0 as) (patsD 0 as)) fun t M' k => by rw [List.append_nil]; exact k.2) fun _ M' k => sx_nil ⟨rfl, k⟩) fun Γ2 M2 k => sx_nil k
  obtain ⟨rfl, rfl⟩ := k
  refine sx_setE (H := H) (D := D) fs131_variables (fun _ => rfl) (ev_name hC (by decide +kernel) (by decide +kernel) (look_tl (by decide +kernel) (look_tl (by decide +kernel) look_hd))) (ev_name hC (by decide +kernel) (by decide +kernel) look_hd) (.tail _ (.tail _ (.head _))) (.tail (.tail (.tail .head))) (by omega) ?_
  have l1 := putE_len (Str.ofString "variables") (.d (.list vs)) es
  refine sx_setE (H := H) (D := D) fs131_result (fun _ => rfl) (ev_name hC (by decide +kernel) (by decide +kernel) (look_tl (by decide +kernel) (look_tl (by decide +kernel) (look_tl (by decide +kernel) look_hd)))) (ev_name hC (by decide +kernel) (by decide +kernel) look_hd) (.tail _ (.tail _ (.head _))) (.tail (.tail (.tail .head))) (by omega) ?_
  refine ex_freezeHd (M := []) (Γ' := [(Str.ofString "head", .hd (nsD 0 as) (calD c) (kdV kd) (patsD 0 as)), (Str.ofString "here", .d (headD as c)), (Str.ofString "variables", .d (.list vs)), (Str.ofString "result", .d (kdV kd)), (Str.ofString "tree", .d T)]) (hE.vars.res) fresh_hd ?_
  exact sx_expr hC (fun _ _ _ _ _ => rfl) (fun _ => rfl) (evy_of (evp_call hC.s (by decide +kernel) g_check star_n any_nil (check_tells (nsD 0 as) (calD c) (kdV kd) (patsD 0 as) (by omega) (nsD_nd as hl)) (by omega) (fun _ h => nomatch h) .nil (evs_cons star_n (ev_name hC (by decide +kernel) (by decide +kernel) look_hd) evs_nil)) (PP := fun t M' => M' = []) fun t k => rfl) fun t M' k => by
    subst k
    exact ex_return (t := .hd (nsD 0 as) (calD c) (kdV kd) (patsD 0 as)) (ev_name hC (by decide +kernel) (by decide +kernel) look_hd) rfl
end Mine
namespace Mine
open PySem PySem.W PyProof.Rows PySem.Spec PySem.Calls
set_option linter.all false
open LCg
variable {w : World}
section
variable {C : Cx w} {Γ : Tys} {M : Cells} {sc csc : Scope} {elt iter : PySem.Expr} {gens : List Comprehension} {x x₂ y : Str} {px px₂ tp pos p2 : Pos} {tk : Nat} {cl : List (Str × Addr)} {N : Tys → Cells → Prop} {PP : Ent → Cells → Prop} {rest : List Stmt}
/-- a comprehension whose list is owned -/
structure CompY (C : Cx w) (Γ : Tys) (M : Cells) (e iter : PySem.Expr) (csc : Scope) (cl : List (Str × Addr)) (ds : List Dat) : Prop where
  run : ∀ (m : Str → Option Value) (R : Led) (s : Shared) (RR : Value → Addr → Result → Shared → Prop) (E : Value → Shared → Prop), St C m M R s → EnvOk C m R Γ →
    (∀ D c oC m' g tk R2, St C m ((c, .raw oC) :: (D, .lst ds) :: M) R2 (upS s g tk) → NsObj oC m' → (∀ p ∈ R, p ∈ R2) → RR (.ref D) c (.ok .next) (upS s g tk)) →
    wpAny (PM w) C.A (eval iter C.env) (fun x s₁ => wpAny (PM w) C.A (pyIter x) (fun it s₂ => wpAny (PM w) C.A (newList []) (fun acc s₃ =>
      wpAny (PM w) C.A (newFunctionEnv csc C.env.globals cl [] C.env.qual none .none (some C.env)) (fun cenv s₄ =>
        codeAny (PM w) C.A (.compStart e 0 it acc { cenv with scope := relabel csc C.env }) (RR acc cenv.locals) s₄) E s₃) E s₂) E s₁) E s
/-- y = [..], the list owned -/
theorem sx_assignCompY {ds : List Dat} (hC : Fm C sc) (hk : sc.names.lookup y = some .local) (hsw : ∀ cn L a ccd cl, swapsWith (.ListComp elt gens csc pos) (some (.Name y px)) p2.line (envX cn sc L a ccd cl) = pure true) (hg : ∀ env, firstIter gens env = eval iter env) (ha : firstAsync gens = false) {g : Comprehension} {gs : List Comprehension} (hcl : clausesOf (.ListComp elt gens csc pos) = g :: gs) (hs : ∀ x, foldedSetIterable g.iter C.env x = pure x)
    (hu : ∀ env (u : Value → Sem Unit), evalThenUse (.ListComp elt gens csc pos) env u = (do let _ ← comprehension (.ListComp elt gens csc pos) csc env (firstIterPos gens pos) (newList []) (firstAsync gens) (firstIter gens env) (some u)))
    (hclos : closureFor csc C.env = pure cl) (hkind : csc.kind = .function) (hnames : ∀ y ∈ csc.names, y.2 = .local → csc.names.lookup y.1 = some .local) (h : CompY C Γ M (.ListComp elt gens csc pos) iter csc cl ds) (r : ∀ D, Sx C ((y, .r D) :: Γ) ((D, .lst ds) :: M) rest N PP) : Sx C Γ M (.Assign [.Name y px] (.ListComp elt gens csc pos) p2 :: rest) N PP := .mk <| fun m R s Q S hΓ nx ret => by
  refine wpAny_execs_cons ?_
  rw [exec_Assign_Name_used _ _ _ _ (by rw [hC.e, hC.c]; exact hsw _ _ _ _ _)]
  refine wpAny_bind (wpAny_standAt (wpAny_bind ?_))
  rw [hu, hg, ha]
  refine wpAny_bind (wpAny_mono (wpAny_comprehension_free (use := some (assign (.Name y px) C.env)) (Q := fun _ s' => wpAny (PM w) C.A (execs rest C.env) Q (fun _ _ => False) s') hcl hs hclos hkind hnames (h.run m R s _ _ S hΓ fun D c oC m' g tk R2 S2 hn hs2 => ?_)) (fun _ s' hq => wpAny_pure (wpAny_pure hq)) fun _ _ e => e)
  refine wpAny_assign_Name (S2.store hC hk fun g3 tk3 S3 => ?_)
  obtain ⟨o, e1, gc, _⟩ := S3.cs _ (.head _)
  have e1 : o = oC := e1
  subst e1
  refine ⟨m', hn.ns gc, fun g4 hsame => ?_⟩
  have S4 := S3.dropC hsame tk3
  exact (r D).run _ R2 _ Q ⟨S4.F, S4.N, S4.cs, S4.nd, S4.off⟩ (env_store hC (hΓ.mono hs2) rfl) (fun m' h tk R'' Γ' M' S5 hs5 => nx m' h tk R'' Γ' M' S5 fun q hq => hs5 q (hs2 q hq)) fun v m' h tk R'' M' t S5 hs5 => ret v m' h tk R'' M' t S5 fun q hq => hs5 q (hs2 q hq)
/-- the ground's own objects are hidden, so that they count as new -/
def lowH (C : Cx w) : Heap := hideAll C.h₀ (C.G.map (·.1))
theorem low_fr {m : Str → Option Value} {h : Heap} (F : Fr C.h₀ C.L h m) : Fr (lowH C) C.L h m := ⟨F.ns, fun b o e => F.keep b o (of_hideAll _ e), by unfold lowH; rw [hideAll_size]; exact F.above⟩
theorem low_none {b : Addr} (h : (lowH C).get? b = none) (nb : ∀ p ∈ C.G, p.1 ≠ b) : C.h₀.get? b = none := by
  cases e : C.h₀.get? b with
  | none => rfl
  | some o =>
    have := hideAll_get (C.G.map (·.1)) e fun hm => by
      obtain ⟨p, hp, e⟩ := List.mem_map.mp hm
      exact nb p hp e
    unfold lowH at h
    rw [h] at this
    cases this
theorem low_back {m : Str → Option Value} {h : Heap} {nw : Led} (F : Fr (lowH C) C.L h m) (N : News (lowH C) C.L h nw) (hG : ∀ p ∈ C.G, p ∈ nw) : Fr C.h₀ C.L h m := by
  refine ⟨F.ns, fun b o e => ?_, by have := F.above; unfold lowH at this; rwa [hideAll_size] at this⟩
  by_cases hb : b ∈ C.G.map (·.1)
  · obtain ⟨p, hp, rfl⟩ := List.mem_map.mp hb
    rw [C.hG p hp] at e
    cases e
    exact (N p (hG p hp)).1
  · exact F.keep b o (hideAll_get _ e hb)
theorem low_news {m : Str → Option Value} {h : Heap} {nw : Led} (F : Fr C.h₀ C.L h m) (N : News C.h₀ C.L h nw) : News (lowH C) C.L h (nw ++ C.G) := fun p hp => by
  rcases List.mem_append.mp hp with hp | hp
  · refine ⟨(N p hp).1, (N p hp).2.1, ?_⟩
    cases e : (lowH C).get? p.1 with
    | none => rfl
    | some o => have := of_hideAll _ e; rw [(N p hp).2.2] at this; cases this
  · refine ⟨F.keep _ _ (C.hG p hp), Nat.ne_of_lt (Nat.lt_of_lt_of_le (Heap.lt_size (C.hG p hp)) F.above), hideAll_none _ (List.mem_map_of_mem hp)⟩
theorem compRestP_ind {prog : Program} {A : Around} {s : Shared} {h₀ : Heap} {L : Addr} {m : Str → Option Value} {env : Env} {elt : PySem.Expr} {x x₂ : Str} {scope : Scope} {cl : List (Str × Addr)} {S : Led → Prop} {P : Nat → Value → Prop} {Fin : List Value → Led → Prop} (J : Nat → List Value → Led → Prop) (n : Nat)
    (step : ∀ i ys news, i < n → J i ys news → ∀ v, P i v → ∃ (t : Addr) (ot : Obj) (v₁ v₂ : Value) (nt : Nat), v = .ref t ∧ (t, ot) ∈ news ∧ ot.cls = .type "tuple" ∧ ot.data = .seq #[v₁, v₂] nt ∧
      ∀ I oI C oC D m₂ h tk (E' : Value → Shared → Prop), NsObj oC m₂ → m₂ x = some v₁ → m₂ x₂ = some v₂ → Fr h₀ L h m → News h₀ L h ((I, oI) :: (C, oC) :: (D, lst ys) :: news) → Off3 I C D news → ((@Ne Nat I C) ∧ (@Ne Nat I D) ∧ (@Ne Nat C D)) →
      wpAny (model prog w) A (eval elt (compEnvC scope cl C env)) (CompEnd h₀ L m { s with heap := h, toks := tk } I oI C oC D (lst ys) S (fun y news' => J (i + 1) (ys ++ [y]) news')) E' { s with heap := h, toks := tk })
    (fin : ∀ ys news, J n ys news → Fin ys news) : ∀ k i ys news, i + k = n → J i ys news → LCp.CompRestP prog w A h₀ L m env elt x x₂ scope cl s S P Fin k i ys news := by
  intro k
  induction k with
  | zero => intro i ys news hi hj; exact .zero (fin ys news (by rw [← hi]; exact hj))
  | succ k ih =>
    intro i ys news hi hj
    refine .succ fun v hp => ?_
    obtain ⟨t, ot, v₁, v₂, nt, e1, e2, e3, e4, st⟩ := step i ys news (by omega) hj v hp
    exact ⟨t, ot, v₁, v₂, nt, e1, e2, e3, e4, fun I oI C oC D m₂ h tk E' hc hx hx2 F N o ne => wpAny_mono (st I oI C oC D m₂ h tk E' hc hx hx2 F N o ne) (fun y s₂ q => compEnd_monoT (fun y nw r => ih (i + 1) (ys ++ [y]) nw (by omega) r) q) fun _ _ e => e⟩
/-- what holds between the turns -/
def CmP (C : Cx w) (M : Cells) (R₀ : Led) (es : List Dat) (i : Nat) (ys : List Value) (nw : Led) : Prop :=
  ∃ os R, nw = (os ++ R) ++ C.G ∧ (∀ p ∈ R₀, p ∈ R) ∧ (∀ p ∈ os ++ R, C.h₀.get? p.1 = none) ∧ (∀ q ∈ M, ∃ o, CellIn (C.G ++ R) o q.2 ∧ (q.1, o) ∈ os) ∧ os.map (·.1) = M.map (·.1) ∧ (∀ p ∈ R, p.1 ∉ M.map (·.1)) ∧ DatAll (C.G ++ R) ys (es.take i)
theorem off_lo {I c D : Addr} {nw nw' : Led} (h : Off3 I c D (nw ++ nw')) : Off3 I c D nw ∧ ∀ p ∈ nw', p.1 ≠ I ∧ p.1 ≠ c ∧ p.1 ≠ D :=
  ⟨Off3.of fun p hp => h.mem p (List.mem_append.mpr (.inl hp)), fun p hp => h.mem p (List.mem_append.mpr (.inr hp))⟩
/-- over a list of pairs -/
theorem comp_pairs {ps es : List Dat} (hcell : ∀ y ∈ csc.names, y.2 ≠ .cell) (hkind : csc.kind = .function) (hx : csc.names.lookup x = some .local) (hx₂ : csc.names.lookup x₂ = some .local) (hxx : x ≠ x₂) (hz : ps.length ≤ 24) (hle : es.length = ps.length) (hp : ∀ d ∈ ps, ∃ p q, d = .tuple [p, q]) (hkr : (relabel csc C.env).kind = .function)
    (h : Ev C Γ M iter (.d (.list ps))) (el : ∀ (i : Nat) (p q d : Dat), ps[i]? = some (.tuple [p, q]) → es[i]? = some d → ∀ (I c D : Addr) (oI oC oD : Obj) (m₂ : Str → Option Value) (ho : NsObj oC m₂), Ev (mkCm C csc cl c oC m₂ [] hkr ho) [(x, .d p), (x₂, .d q)] (cmM I c D oI oC oD M) elt (.d d)) :
    CompY C Γ M (.ListComp elt [⟨.Tuple [.Name x px, .Name x₂ px₂] tk tp, iter, [], 0⟩] csc pos) iter csc cl es := .mk <| fun m R s RR E S hΓ ret => by
  refine h.run m R s _ E S hΓ fun v h' tk' R' S' hsub hD => ?_
  refine list_go S' listE_d (by rw [List.length_map]; exact hz) hD fun l vs n _ e hm hrE SH => ?_
  subst e
  have hr := hrE.dats
  have hax : h'.get? l = some (W.listOf vs.toArray n) := S'.reads' _ hm
  have hlt : l < h'.objs.size := Heap.lt_size hax
  have hlen : vs.toArray.size = ps.length := by rw [List.size_toArray, hr.length]
  have fresh : ∀ b o, h'.get? b = some o → b ≠ h'.objs.size := fun b o e => Nat.ne_of_lt (Heap.lt_size e)
  obtain ⟨os, No, hos, hoe⟩ := SH.cs.led
  have Nn := low_news SH.F (fun p hp => (List.mem_append.mp hp).elim (No p) (SH.N p) : News C.h₀ C.L _ (os ++ R'))
  have src : ∀ nw : Led, (∀ p ∈ C.G ++ R', p ∈ nw) → SrcAt (lowH C) l vs.toArray nw := fun nw hn => .inr ⟨_, hn _ hm, rfl, n, rfl⟩
  have inGR : ∀ {os R : Led}, (∀ p ∈ R', p ∈ R) → ∀ p ∈ C.G ++ R', p ∈ (os ++ R) ++ C.G := fun hs p hp => (List.mem_append.mp hp).elim (fun h => List.mem_append.mpr (.inr h)) fun h => List.mem_append.mpr (.inl (List.mem_append.mpr (.inr (hs p h))))
  refine LCp.block_P (h₀ := lowH C) (S := SrcAt (lowH C) l vs.toArray) (Fin := CmP C M R' es ps.length) (Walks.list rfl h'.objs.size l (Nat.ne_of_lt hlt) vs.toArray) (by rw [hlen, sizeLine_eq]; omega) (fun i h st => by obtain ⟨o, e, _⟩ := st.1; exact ⟨o, e⟩)
    list_st hcell hkind hx hx₂ hxx rfl (fun i h st => ⟨_, _, st.1⟩) ⟨⟨_, Heap.get?_push_size _ rfl, rfl, rfl⟩, ⟨_, Heap.get?_push_of_some _ hax, rfl, n, rfl⟩⟩ (fun b hb => ?_) (low_fr SH.F) Nn (Nat.ne_of_lt S'.F.ns.lt) (low_fr S'.F |> next_is_new) (fun p hp => ?_) (src _ (inGR fun _ h => h)) ?_ ?_
  · show b < (h'.push _).objs.size
    rw [Heap.size_push]
    rcases List.mem_cons.mp hb with rfl | hb
    · exact Nat.lt_succ_self _
    · rw [List.mem_singleton.mp hb]; exact Nat.lt_succ_of_lt hlt
  · rcases List.mem_append.mp hp with hp | hp
    · rcases List.mem_append.mp hp with hp | hp
      · have : p.1 ∈ M.map (·.1) := hoe ▸ List.mem_map_of_mem hp
        obtain ⟨q, hq, e⟩ := List.mem_map.mp this
        obtain ⟨o, _, h2, _⟩ := S'.cs q hq
        rw [← e]
        exact fresh _ _ h2
      · exact fresh _ _ (S'.N p hp).1
    · exact fresh _ _ (S'.F.keep _ _ (C.hG p hp))
  · rw [hlen]
    refine compRestP_ind (CmP C M R' es) ps.length (fun i ys nw hi hj v hv => ?_) (fun ys nw hj => hj) _ 0 [] _ (Nat.zero_add _) ⟨os, R', rfl, fun _ h => h, fun p hp => (List.mem_append.mp hp).elim (fun h => (No p h).2.2) fun h => (SH.N p h).2.2, hos, hoe, SH.off, by rw [List.take_zero]; exact .nil⟩
    obtain ⟨os1, R1, rfl, s1, hn1, hos1, he1, of1, hD1⟩ := hj
    obtain ⟨d, hd1, hd2⟩ := dat_at hr (v := v) (i := i) (by simpa using hv)
    obtain ⟨p, q, rfl⟩ := hp d (List.mem_of_getElem? hd1)
    obtain ⟨d', hd'⟩ : ∃ d', es[i]? = some d' := ⟨_, List.getElem?_eq_getElem (by omega)⟩
    cases hd2 with
    | @tuple t us nt _ hmt hrt =>
    obtain ⟨v₁, us, rfl, q1, hrt⟩ : ∃ v₁ us', us = v₁ :: us' ∧ DatIn (C.G ++ R') v₁ p ∧ DatAll (C.G ++ R') us' [q] := by cases hrt with | cons a b => exact ⟨_, _, rfl, a, b⟩
    obtain ⟨v₂, us, rfl, q2, hrt⟩ : ∃ v₂ us', us = v₂ :: us' ∧ DatIn (C.G ++ R') v₂ q ∧ DatAll (C.G ++ R') us' [] := by cases hrt with | cons a b => exact ⟨_, _, rfl, a, b⟩
    cases hrt
    refine ⟨t, _, v₁, v₂, nt, rfl, inGR s1 _ hmt, rfl, rfl, fun I oI c oC D m₂ g tk2 E' hc hxv hxv2 F Nw off ne => ?_⟩
    obtain ⟨off1, offG⟩ := off_lo off
    have F1 := low_back F Nw fun p hp => .tail _ (.tail _ (.tail _ (List.mem_append.mpr (.inr hp))))
    have N1 : News C.h₀ C.L g ((I, oI) :: (c, oC) :: (D, lst ys) :: (os1 ++ R1)) := fun z hz => by
      have hz' : z ∈ (I, oI) :: (c, oC) :: (D, lst ys) :: ((os1 ++ R1) ++ C.G) := by
        simp only [List.mem_cons, List.mem_append] at hz ⊢
        rcases hz with h | h | h | h
        · exact .inl h
        · exact .inr (.inl h)
        · exact .inr (.inr (.inl h))
        · exact .inr (.inr (.inr (.inl h)))
      refine ⟨(Nw z hz').1, (Nw z hz').2.1, ?_⟩
      simp only [List.mem_cons] at hz
      rcases hz with rfl | rfl | rfl | hz
      · exact low_none (Nw _ (.head _)).2.2 fun p hp => (offG p hp).1
      · exact low_none (Nw _ (.tail _ (.head _))).2.2 fun p hp => (offG p hp).2.1
      · exact low_none (Nw _ (.tail _ (.tail _ (.head _)))).2.2 fun p hp => (offG p hp).2.2
      · exact hn1 z hz
    have S1 := cm_st (tk := tk2) (s := upS s (h'.push { cls := .type "list_iterator", data := .fields #[.ref l, .int 0 0] }) tk') F1 N1 off1 ne hos1 he1 SH.nd of1
    refine (el i p q d' hd1 hd' I c D oI oC (lst ys) m₂ hc).run m R1 _ _ _ ⟨S1.F, S1.N, S1.cs, S1.nd, S1.off⟩ ⟨fun y t hy => ?_, fun y t hy => nomatch (show (none : Option Ent) = some t from hy)⟩ (fun y h2 tk3 R2 S2 hsub2 hy => ?_)
    · simp only [List.lookup] at hy
      by_cases e1 : y = x
      · subst e1
        simp at hy
        subst hy
        exact ⟨v₁, hxv, q1.mono (up_mono s1)⟩
      · have : (y == x) = false := by simp [e1]
        rw [this] at hy
        by_cases e2 : y = x₂
        · subst e2
          simp at hy
          subst hy
          exact ⟨v₂, hxv2, q2.mono (up_mono s1)⟩
        · have : (y == x₂) = false := by simp [e2]
          rw [this] at hy
          exact nomatch hy
    · have S2' : St C m (cmM I c D oI oC (lst ys) M) R2 (upS (upS s (h'.push { cls := .type "list_iterator", data := .fields #[.ref l, .int 0 0] }) tk') h2 tk3) := ⟨S2.F, S2.N, S2.cs, S2.nd, S2.off⟩
      obtain ⟨os2, N2, off2, hos2, he2⟩ := cm_back S2'
      have N3 := low_news S2'.F N2
      refine CompEnd.intro (low_fr S2'.F) N3 ((os2 ++ R2) ++ C.G) (fun z hz => ?_) (Off3.of fun z hz => ?_) (src _ (inGR fun z hz => hsub2 z (s1 z hz))) ⟨os2, R2, rfl, fun z hz => hsub2 z (s1 z hz), fun z hz => (N2 z (.tail _ (.tail _ (.tail _ hz)))).2.2, hos2, he2, fun p hp hm => S2.off p hp (.tail _ (.tail _ (.tail _ hm))), ?_⟩
      · simp only [List.mem_cons, List.mem_append] at hz ⊢
        rcases hz with h | h | h | h
        · exact .inl (.inl h)
        · exact .inl (.inr (.inl h))
        · exact .inl (.inr (.inr (.inl h)))
        · exact h.elim (fun h => .inl (.inr (.inr (.inr h)))) .inr
      · rcases List.mem_append.mp hz with hz | hz
        · exact off2.mem z hz
        · exact offG z hz
      · rw [show es.take (i + 1) = es.take i ++ [d'] by rw [List.take_add_one, hd']; rfl]
        exact (hD1.mono (up_mono hsub2)).append (.one hy)
  · intro D c g tk2 m' ys nw F2 N2 o1 hns hC₀ hD₀ hCL hDL hCD offC fn
    obtain ⟨os2, R2, rfl, s2, hn2, hos2, he2, of2, hD2⟩ := fn
    rw [List.take_of_length_le (by omega)] at hD2
    obtain ⟨oC, gC, hC'⟩ := ns_obj hns
    have o1' : ∀ p ∈ (os2 ++ R2) ++ C.G, p.1 ≠ D := by
      have key : ∀ {l : Led}, Off1 D l → ∀ p ∈ l, p.1 ≠ D := by
        intro l
        induction l with
        | nil => exact fun _ _ h => nomatch h
        | cons a l ih =>
          intro x p hp
          rcases List.mem_cons.mp hp with rfl | hp
          · exact x.1
          · exact ih x.2 p hp
      exact key o1
    have lo : ∀ p ∈ os2 ++ R2, g.get? p.1 = some p.2 ∧ p.1 ≠ C.L ∧ C.h₀.get? p.1 = none := fun p hp => ⟨(N2 p (.tail _ (List.mem_append.mpr (.inl hp)))).1, (N2 p (.tail _ (List.mem_append.mpr (.inl hp)))).2.1, hn2 p hp⟩
    have F3 := low_back F2 N2 fun p hp => .tail _ (List.mem_append.mpr (.inr hp))
    have hC0 := low_none hC₀ fun p hp => offC p (List.mem_append.mpr (.inr hp))
    have hD0 := low_none hD₀ fun p hp => o1' p (List.mem_append.mpr (.inr hp))
    have nin : ∀ a, (∀ p ∈ (os2 ++ R2) ++ C.G, p.1 ≠ a) → a ∉ M.map (·.1) := fun a ha hm => by
      rw [← he2] at hm
      obtain ⟨q, hq, e⟩ := List.mem_map.mp hm
      exact ha q (List.mem_append.mpr (.inl (List.mem_append.mpr (.inl hq)))) e
    refine ret D c oC m' g tk2 R2 ⟨F3, fun p hp => lo p (List.mem_append.mpr (.inr hp)), fun q hq => ?_, ?_, fun p hp hm => ?_⟩ hC' (fun p hp => s2 p (hsub p hp))
    · simp only [List.mem_cons] at hq
      rcases hq with rfl | rfl | hq
      · exact ⟨oC, rfl, gC, hCL, hC0⟩
      · exact ⟨_, ⟨ys, _, rfl, hD2⟩, (N2 _ (.head _)).1, hDL, hD0⟩
      · obtain ⟨o, h1, h2⟩ := hos2 q hq
        exact ⟨o, h1, lo _ (List.mem_append.mpr (.inl h2))⟩
    · simp only [List.map_cons, List.nodup_cons, List.mem_cons, not_or]
      exact ⟨⟨hCD, nin c offC⟩, nin D o1', SH.nd⟩
    · simp only [List.map_cons, List.mem_cons] at hm
      rcases hm with e | e | hm
      · exact offC p (List.mem_append.mpr (.inl (List.mem_append.mpr (.inr hp)))) e
      · exact o1' p (List.mem_append.mpr (.inl (List.mem_append.mpr (.inr hp)))) e
      · exact of2 p hp hm
end
end Mine
namespace Mine
open PySem PySem.W PyProof.Rows PySem.Spec PySem.Calls
set_option linter.all false
def bodyD (kd : Option Dat) (t : Tr) : Dat := match kd with
  | none => t.dat
  | some d => conv d (turned d t)
def whole (a : List Dat) (b : Dat) : Dat := match a with
  | [] => b
  | x :: r => nodeD (Str.ofString "block") (x :: r ++ [b])
theorem whole_nil {a : List Dat} {b : Dat} (h : Dat.list a = Dat.list []) : whole a b = b := by
  injection h with h
  rw [h]
  rfl
theorem whole_some {a : List Dat} {b : Dat} (h : Dat.list a ≠ Dat.list []) : whole a b = nodeD (Str.ofString "block") (a ++ [b]) := by
  cases a with
  | nil => exact absurd rfl h
  | cons x r => rfl
theorem takes_ok (as : List Ar) (hl : as.length < 4) : ∀ d ∈ takesD 0 as, kqdOk 58 d = true := by
  have key : ∀ (as : List Ar) (j : Nat), j + as.length < 4 → ∀ d ∈ takesD j as, kqdOk 58 d = true := by
    intro as
    induction as with
    | nil => intro j _ d h; simp [takesD] at h
    | cons a r ih =>
      intro j hj d h
      simp only [List.length_cons] at hj
      cases a with
      | pat =>
        simp only [takesD, takeD, List.singleton_append, List.mem_cons] at h
        rcases h with rfl | h
        · refine kq_le (n := 5) (kq_nodeD (n := 3) (headw_ok _ (by decide +kernel)) fun d hd => ?_) (by decide)
          simp only [List.mem_cons, List.not_mem_nil, or_false] at hd
          rcases hd with rfl | rfl
          · exact kq_patD (by omega)
          · exact kq_le (n := 1) (kq_symD (h_ok (by omega))) (by decide)
        · exact ih (j + 1) (by omega) d h
      | plain => exact ih (j + 1) (by omega) d (by simpa [takesD, takeD] using h)
      | typed => exact ih (j + 1) (by omega) d (by simpa [takesD, takeD] using h)
  exact key as 0 (by omega)
def ownRow : Dat := .tuple [.str (Str.ofString "expr"), .str (Str.ofString "="), .tuple [.tuple [.str (Str.ofString "sym"), .str (Str.ofString "own")], .tuple [.str (Str.ofString "sym"), .str (Str.ofString "#self")]]]
theorem ownRow_ok : kqdOk 58 ownRow = true := by
  refine kq_le (n := 5) (kq_nodeD (n := 3) (headw_ok _ (by decide +kernel)) fun d hd => ?_) (by decide)
  simp only [List.mem_cons, List.not_mem_nil, or_false] at hd
  rcases hd with rfl | rfl
  · exact kq_le (n := 1) (kq_symD (headw_ok _ (by decide +kernel))) (by decide)
  · exact kq_le (n := 1) (kq_symD (headw_ok _ (by decide +kernel))) (by decide)
/-- the row that takes an argument apart, of a pair -/
def rowD : Dat → Dat
  | .tuple [p, .str x] => nodeD (Str.ofString "=") [p, symD x]
  | d => d
theorem rows_eq : ∀ (as : List Ar) (j : Nat), (patsD j as).map rowD = takesD j as
  | [], _ => rfl
  | .pat :: r, j => by rw [patsD, takesD, List.map_append, rows_eq r]; rfl
  | .plain :: r, j => by rw [patsD, takesD, List.map_append, rows_eq r]; rfl
  | .typed :: r, j => by rw [patsD, takesD, List.map_append, rows_eq r]; rfl
theorem pats_pair : ∀ (as : List Ar) (j : Nat), ∀ d ∈ patsD j as, ∃ p x, d = .tuple [p, .str x]
  | [], _, d, h => by simp [patsD] at h
  | .pat :: r, j, d, h => by
    simp only [patsD, pattD, List.cons_append, List.nil_append, List.mem_cons] at h
    rcases h with rfl | h
    · exact ⟨_, _, rfl⟩
    · exact pats_pair r (j + 1) d h
  | .plain :: r, j, d, h => pats_pair r (j + 1) d (by simpa [patsD, pattD] using h)
  | .typed :: r, j, d, h => pats_pair r (j + 1) d (by simpa [patsD, pattD] using h)
theorem sym_kind {x : Str} (hx : PyData.strOk x = true) : KindOk (some (symD x)) := by
  intro d e
  cases e
  exact ⟨⟨_, rfl⟩, kq_le (n := 1) (kq_symD hx) (by decide)⟩
theorem curly_kind : KindOk (some (nodeD (Str.ofString "curly") [symD (Str.ofString "Vector"), symD (Str.ofString "T")])) := by
  intro d e
  cases e
  refine ⟨⟨_, rfl⟩, kq_nodeD (n := 2) (headw_ok _ (by decide +kernel)) fun d hd => ?_⟩
  simp only [List.mem_cons, List.not_mem_nil, or_false] at hd
  rcases hd with rfl | rfl
  · exact kq_le (n := 1) (kq_symD (headw_ok _ (by decide +kernel))) (by decide)
  · exact kq_le (n := 1) (kq_symD (headw_ok _ (by decide +kernel))) (by decide)
theorem bodyD_tup (kd : Option Dat) (t : Tr) : ∃ ds, bodyD kd t = .tuple ds := by
  cases kd with
  | none => cases t <;> exact ⟨_, by rw [bodyD, Tr.dat]⟩
  | some d => exact ⟨_, rfl⟩
theorem whole_tup (a : List Dat) (kd : Option Dat) (t : Tr) : ∃ ds, whole a (bodyD kd t) = .tuple ds := by
  cases a with
  | nil => exact bodyD_tup kd t
  | cons x r => exact ⟨_, rfl⟩
theorem bodyD_ok {kd : Option Dat} {t : Tr} (hok : Ok 4 t) (hk : KindOk kd) : kqdOk 58 (bodyD kd t) = true := by
  cases kd with
  | none => exact kq_le (dat_ok 3 (by omega) 4 t hok) (by decide)
  | some d => exact kq_le (n := 22) (kq_conv (n := 20) (by omega) (kq_le (hk d rfl).2 (by decide)) (turned_ok (m := 4) (by omega) (hk d rfl).2 4 t hok)) (by decide)
theorem own_ok58 (c : Hd) : ∀ d ∈ ownD c, kqdOk 58 d = true := by
  intro d hd
  cases c with
  | own => simp only [ownD, List.mem_cons, List.not_mem_nil, or_false] at hd; rw [hd]; exact ownRow_ok
  | _ => exact nomatch hd
theorem block_ok : PyData.strOk (Str.ofString "block") = true := by decide +kernel
theorem ahead_ok (as : List Ar) (c : Hd) (hl : as.length < 4) : ∀ d ∈ takesD 0 as ++ ownD c, kqdOk 58 d = true := fun d hd =>
  (List.mem_append.mp hd).elim (takes_ok as hl d) (own_ok58 c d)
theorem whole_ok {as : List Ar} {c : Hd} {kd : Option Dat} {t : Tr} (hl : as.length < 4) (hok : Ok 4 t) (hk : KindOk kd) : kqdOk 60 (whole (takesD 0 as ++ ownD c) (bodyD kd t)) = true := by
  have ha := ahead_ok as c hl
  have hb := bodyD_ok hok hk
  cases e : takesD 0 as ++ ownD c with
  | nil => exact kq_le hb (by decide)
  | cons x r =>
    rw [e] at ha
    refine kq_nodeD (n := 58) block_ok fun d hd => ?_
    rcases List.mem_append.mp hd with hd | hd
    · exact ha d hd
    · rw [List.mem_singleton.mp hd]; exact hb
/-- the last tree of the law -/
def fixT : Tr := .node (Str.ofString "->") [.sym (Str.ofString "y"), .node (Str.ofString "return") [.int 1]]
theorem fixT_ok : Ok 4 fixT := Ok.more (.arrow2 (.symy 1) (.ret1 (.int 0 1))) (by decide)
theorem fixT_turned (d : Dat) : turned d fixT = fixT.dat := turned_quiet (by decide +kernel)
end Mine
namespace Mine
open PySem PySem.W PyProof.Rows PySem.Spec PySem.Calls
set_option linter.all false
variable {w : World}
theorem g_block : GFn w (Str.ofString "block") 142 := ⟨by kernel_rfl, by kernel_rfl, by decide +kernel⟩
theorem block_tells (ds : List Dat) (hz : ds.length ≤ 24) : DTells w 142 2 [.list ds] (nodeD (Str.ofString "block") ds) := by
  refine fn_tells (n := 1) (ps := [Str.ofString "trees"]) ⟨⟨_, _, _, _, _, _, _, _, _, _, _, _, _, by exact rfl, by exact rfl, binds1 fun _ => rfl⟩, by decide +kernel, rfl, rfl, rfl, by decide +kernel⟩ rfl (by decide +kernel) fun C hC hsz => ?_
  exact ex_ret (ev_call hC.s (by decide +kernel) g_expr star_c (any_cons star_n any_nil) (expr_tellsL _ _ hz) (by omega) (evs_cons star_c ev_str (evs_cons star_n (ev_name hC (by decide +kernel) (by decide +kernel) look_hd) evs_nil)))
theorem d91 : DatIn gK (.ref 91) (symD (Str.ofString "#self")) := .tuple (vs := [_, _]) (.head _) (.cons (.str _ _) (.cons (.str _ _) .nil))
theorem cmpb_eqi (i j : Nat) (b : Bool) (h : ((i : Int) == (j : Int)) = b) : Cmp w .Eq (.int i) (.int j) b := h ▸ cmp_eq_int i j
theorem takes_len (as : List Ar) : (patsD 0 as).length = (takesD 0 as).length := by rw [← rows_eq, List.length_map]
/-- whole_body -/
theorem wb_tells (as : List Ar) (xs : List Str) (c : Hd) (kd : Option Dat) (t : Tr) (hl : as.length < 4) (hok : Ok 4 t) (hk : KindOk kd) : XTells w 192 18 [.hd xs (calD c) (kdV kd) (patsD 0 as), .d t.dat] [] (fun u => u = .d (whole (takesD 0 as ++ ownD c) (bodyD kd t))) := by
  refine fn_tells (n := 17) (ps := [Str.ofString "head", Str.ofString "body"]) ⟨⟨_, _, _, _, _, _, _, _, _, _, _, _, _, by exact rfl, by exact rfl, binds2 fun _ _ => rfl⟩, by decide +kernel, rfl, rfl, rfl, by decide +kernel⟩ rfl (by decide +kernel) fun C hC hsz => ?_
  have e2 := takesD_len as 0
  have e3 := ownD_len c
  have e4 := takes_len as
  obtain ⟨bk, _, hk2, hk3⟩ := kind_is (w := w) hk
  refine sx_ifP (PB := fun b => b = !bk) (N' := fun Γ2 M2 => M2 = [] ∧ Sub [(Str.ofString "head", .hd xs (calD c) (kdV kd) (patsD 0 as)), (Str.ofString "body", .d (bodyD kd t))] Γ2) (tstp_of (tst_cmp rfl hk2 (by omega) (ev_attr (fun _ => rfl) (rd_hd f131_result (.tail _ (.head _))) (ev_name hC (by decide +kernel) (by decide +kernel) look_hd)) ev_none) rfl) (fun hb => ?yes) (fun hb => ?no) fun Γ2 M2 k => ?_
  case yes =>
    rcases hk3 with ⟨rfl, _⟩ | ⟨_, d, rfl⟩
    · exact nomatch hb
    · exact ex_assign (t := .d (bodyD (some d) t)) hC (by decide +kernel) (fun _ => rfl) (ev_call hC.s (by decide +kernel) g_conv star_k (any_cons star_a any_nil) (converted_tells _ _) (by omega) (evs_cons star_k (ev_call hC.s (by decide +kernel) g_rt star_n (any_cons star_a any_nil) (rt_all2 w 4 t d hok (hk d rfl).2 (by decide)) (by omega) (evs_cons star_n (ev_name hC (by decide +kernel) (by decide +kernel) (look_tl (by decide +kernel) look_hd)) (evs_cons star_a (ev_attr (fun _ => rfl) (rd_hd f131_result (.tail _ (.head _))) (ev_name hC (by decide +kernel) (by decide +kernel) look_hd)) evs_nil))) (evs_cons star_a (ev_attr (fun _ => rfl) (rd_hd f131_result (.tail _ (.head _))) (ev_name hC (by decide +kernel) (by decide +kernel) look_hd)) evs_nil))) (sx_nil ⟨rfl, (Sub.mk (look_tl (by decide +kernel) look_hd) (Sub.mk look_hd Sub.nil))⟩)
  case no =>
    rcases hk3 with ⟨_, rfl⟩ | ⟨rfl, _⟩
    · exact sx_nil ⟨rfl, Sub.refl⟩
    · exact nomatch hb
  obtain ⟨rfl, hs⟩ := k
  refine sx_sub hs (fun _ h => h) (fun h => h) ?_
  refine sx_assignCompY (ds := takesD 0 as) hC (by decide +kernel) (fun _ _ _ _ _ => by kernel_rfl) (fun _ => rfl) rfl rfl (fun _ => rfl) (fun _ _ => rfl) (cl := []) (by rw [hC.e, hC.c]; with_unfolding_all rfl) rfl (by decide +kernel)
    (comp_pairs (ps := patsD 0 as) (by decide +kernel) rfl (by decide +kernel) (by decide +kernel) (by decide +kernel) (by omega) e4.symm (fun d hd => ?prs) rfl (ev_attr (fun _ => rfl) (rd_hd f131_patterns (.tail _ (.tail _ (.head _)))) (ev_name hC (by decide +kernel) (by decide +kernel) look_hd)) (fun i p q d hp hd I cc D oI oC oD m₂ ho => ?el)) fun D => ?_
  case prs =>
    obtain ⟨p, x, rfl⟩ := pats_pair as 0 d hd
    exact ⟨p, _, rfl⟩
  case el =>
    obtain ⟨p', x, e⟩ := pats_pair as 0 _ (List.mem_of_getElem? hp)
    cases e
    rw [← rows_eq, List.getElem?_map, hp] at hd
    cases hd
    exact (ev_call (relabel_at hC.s) (by decide +kernel) g_expr star_c (any_cons star_t any_nil) (expr_tells _ _) (by show 1 ≤ C.sz; omega) (evs_cons star_c ev_str (evs_cons star_t (ev_tuple (ds := [p, symD x]) (Nat.le_of_ble_eq_true rfl) (evs_cons star_n (ev_nameC (q := (cc, oC, m₂)) rfl (.tail _ (.head _)) (relabel_at hC.s) (by decide +kernel) (by decide +kernel) look_hd) (evs_cons star_k (ev_call (relabel_at hC.s) (by decide +kernel) g_sym star_n any_nil (sym_tells x) (by show 1 ≤ C.sz; omega) (evs_cons star_n (ev_nameC (q := (cc, oC, m₂)) rfl (.tail _ (.head _)) (relabel_at hC.s) (by decide +kernel) (by decide +kernel) (look_tl (by decide +kernel) look_hd)) evs_nil)) evs_nil))) evs_nil)))
  refine sx_ifP (PB := fun b => (b = true ∧ c = .own) ∨ (b = false ∧ ownD c = [])) (N' := fun Γ2 M2 => Γ2 = [(Str.ofString "ahead", .r D), (Str.ofString "head", .hd xs (calD c) (kdV kd) (patsD 0 as)), (Str.ofString "body", .d (bodyD kd t))] ∧ M2 = [(D, .lst (takesD 0 as ++ ownD c))]) ?tst (fun hb => ?own) (fun hb => ?notown) fun Γ2 M2 k => ?_
  case tst =>
    cases c with
    | plain => exact tstp_of (tst_and (tst_cmp rfl (cmp_callee .plain) (by omega) (ev_attr (fun _ => rfl) (rd_hd f131_callee (.head _)) (ev_name hC (by decide +kernel) (by decide +kernel) (look_tl (by decide +kernel) look_hd))) ev_none) (tst_andF (tst_call (fun _ => rfl) (ev_call hC.s (by decide +kernel) g_isexpr star_a (any_cons star_c any_nil) (isexpr_tells0 _ _ _ (by decide +kernel)) (by omega) (evs_cons star_a (ev_attr (fun _ => rfl) (rd_hd f131_callee (.head _)) (ev_name hC (by decide +kernel) (by decide +kernel) (look_tl (by decide +kernel) look_hd))) (evs_cons star_c ev_str evs_nil)))))) (.inr ⟨rfl, rfl⟩)
    | own => exact tstp_of (tst_and (tst_cmp rfl (cmp_callee .own) (by omega) (ev_attr (fun _ => rfl) (rd_hd f131_callee (.head _)) (ev_name hC (by decide +kernel) (by decide +kernel) (look_tl (by decide +kernel) look_hd))) ev_none) (tst_and (tst_call (fun _ => rfl) (ev_call hC.s (by decide +kernel) g_isexpr star_a (any_cons star_c any_nil) (isexpr_tells _ _ _ _ true (by decide +kernel) (by decide +kernel)) (by omega) (evs_cons star_a (ev_attr (fun _ => rfl) (rd_hd f131_callee (.head _)) (ev_name hC (by decide +kernel) (by decide +kernel) (look_tl (by decide +kernel) look_hd))) (evs_cons star_c ev_str evs_nil)))) (tst_and (tst_cmp rfl (cmpb_eqi 2 2 true rfl) (by omega) (ev_len hC (by decide +kernel) (by kernel_rfl) (by boot_fast) (by decide) (by decide +kernel) star_s (by decide) len_tup (ev_sub (ds := [.str (Str.ofString "expr"), .str (Str.ofString "::"), .tuple [symD (Str.ofString "own"), symD (Str.ofString "Kind")]]) (ev_attr (fun _ => rfl) (rd_hd f131_callee (.head _)) (ev_name hC (by decide +kernel) (by decide +kernel) (look_tl (by decide +kernel) look_hd))) (by decide) rfl (fun _ _ => rfl))) ev_int) tst_and0))) (.inl ⟨rfl, rfl⟩)
    | kind => exact tstp_of (tst_and (tst_cmp rfl (cmp_callee .kind) (by omega) (ev_attr (fun _ => rfl) (rd_hd f131_callee (.head _)) (ev_name hC (by decide +kernel) (by decide +kernel) (look_tl (by decide +kernel) look_hd))) ev_none) (tst_and (tst_call (fun _ => rfl) (ev_call hC.s (by decide +kernel) g_isexpr star_a (any_cons star_c any_nil) (isexpr_tells _ _ _ _ true (by decide +kernel) (by decide +kernel)) (by omega) (evs_cons star_a (ev_attr (fun _ => rfl) (rd_hd f131_callee (.head _)) (ev_name hC (by decide +kernel) (by decide +kernel) (look_tl (by decide +kernel) look_hd))) (evs_cons star_c ev_str evs_nil)))) (tst_andF (tst_cmp rfl (cmpb_eqi 1 2 false rfl) (by omega) (ev_len hC (by decide +kernel) (by kernel_rfl) (by boot_fast) (by decide) (by decide +kernel) star_s (by decide) len_tup (ev_sub (ds := [.str (Str.ofString "expr"), .str (Str.ofString "::"), .tuple [symD (Str.ofString "Kind")]]) (ev_attr (fun _ => rfl) (rd_hd f131_callee (.head _)) (ev_name hC (by decide +kernel) (by decide +kernel) (look_tl (by decide +kernel) look_hd))) (by decide) rfl (fun _ _ => rfl))) ev_int)))) (.inr ⟨rfl, rfl⟩)
    | tup => exact tstp_of (tst_andF (tst_cmp rfl cmp_isnot_none (by omega) (ev_attr (fun _ => rfl) (rd_hd f131_callee (.head _)) (ev_name hC (by decide +kernel) (by decide +kernel) (look_tl (by decide +kernel) look_hd))) ev_none)) (.inr ⟨rfl, rfl⟩)
  case own =>
    rcases hb with ⟨_, rfl⟩ | ⟨h, _⟩
    · refine sx_append (M₂ := fun d => [(D, .lst (takesD 0 as ++ [d]))]) hC (fun _ _ _ _ _ => rfl) (fun _ => rfl) (fun _ => rfl) (fun _ => rfl) (fun d => .head) (by omega) (ev_name hC (by decide +kernel) (by decide +kernel) look_hd) (evp_of (P := fun t => t = .d (nodeD (Str.ofString "=") [symD (Str.ofString "own"), symD (Str.ofString "#self")])) (ev_call hC.s (by decide +kernel) g_expr star_c (any_cons star_t any_nil) (expr_tells _ _) (by omega) (evs_cons star_c ev_str (evs_cons star_t (ev_tuple (ds := [symD (Str.ofString "own"), symD (Str.ofString "#self")]) (Nat.le_of_ble_eq_true rfl) (evs_cons star_s (ev_sub (ds := [symD (Str.ofString "own"), symD (Str.ofString "Kind")]) (ev_sub (ds := [.str (Str.ofString "expr"), .str (Str.ofString "::"), .tuple [symD (Str.ofString "own"), symD (Str.ofString "Kind")]]) (ev_attr (fun _ => rfl) (rd_hd f131_callee (.head _)) (ev_name hC (by decide +kernel) (by decide +kernel) (look_tl (by decide +kernel) look_hd))) (by decide) rfl (fun _ _ => rfl)) (by decide) rfl (fun _ _ => rfl)) (evs_cons star_n (ev_ground hC.s (by decide +kernel) (by kernel_rfl) (by decide +kernel) d91) evs_nil))) evs_nil))) rfl) (PD := fun d => d = nodeD (Str.ofString "=") [symD (Str.ofString "own"), symD (Str.ofString "#self")]) (fun t h => ⟨_, h, rfl⟩) fun d hd => ?_
      obtain rfl : d = nodeD (Str.ofString "=") [symD (Str.ofString "own"), symD (Str.ofString "#self")] := hd
      exact sx_nil ⟨rfl, rfl⟩
    · exact nomatch h
  case notown =>
    rcases hb with ⟨h, _⟩ | ⟨_, h⟩
    · exact nomatch h
    · exact sx_nil ⟨rfl, by rw [h, List.append_nil]⟩
  obtain ⟨rfl, rfl⟩ := k
  refine ex_freeze (Γ' := [(Str.ofString "ahead", .d (.list (takesD 0 as ++ ownD c))), (Str.ofString "head", .hd xs (calD c) (kdV kd) (patsD 0 as)), (Str.ofString "body", .d (bodyD kd t))]) fresh_name ?_
  have hzz : (takesD 0 as ++ ownD c).length ≤ 5 := by rw [List.length_append]; omega
  have hoz := kq_listOf (ahead_ok as c hl)
  generalize takesD 0 as ++ ownD c = Z at hzz hoz ⊢
  cases Z with
  | nil => exact ex_return (t := .d (bodyD kd t)) (ev_ifF (tst_cmp rfl (cmp_ne_f (d := .list []) (e := .list []) rfl rfl rfl) (by omega) (ev_name hC (by decide +kernel) (by decide +kernel) look_hd) (ev_list (ds := []) (Nat.le_of_ble_eq_true rfl) evs_nil)) (ev_name hC (by decide +kernel) (by decide +kernel) (look_tl (by decide +kernel) (look_tl (by decide +kernel) look_hd)))) rfl
  | cons z zs => exact ex_return (t := .d (nodeD (Str.ofString "block") (z :: zs ++ [bodyD kd t]))) (ev_ifT (tst_cmp rfl (cmp_ne_t (d := .list (z :: zs)) (e := .list []) (kq_le hoz (by decide)) rfl (fun e => by cases e)) (by omega) (ev_name hC (by decide +kernel) (by decide +kernel) look_hd) (ev_list (ds := []) (Nat.le_of_ble_eq_true rfl) evs_nil)) (ev_call hC.s (by decide +kernel) g_block star_b any_nil (block_tells _ (by simp only [List.length_append, List.length_cons, List.length_nil] at hzz ⊢; omega)) (by omega) (evs_cons star_b (ev_addL (d1 := z :: zs) (d2 := [bodyD kd t]) (by simp only [List.length_append, List.length_cons, List.length_nil] at hzz ⊢; omega) (ev_name hC (by decide +kernel) (by decide +kernel) look_hd) (ev_list (ds := [bodyD kd t]) (Nat.le_of_ble_eq_true rfl) (evs_cons star_n (ev_name hC (by decide +kernel) (by decide +kernel) (look_tl (by decide +kernel) (look_tl (by decide +kernel) look_hd))) evs_nil))) evs_nil))) rfl
end Mine
namespace Mine
open PySem PySem.W PyProof.Rows PySem.Spec PySem.Calls
set_option linter.all false
variable {w : World}
theorem g_sack : GFn w (Str.ofString "_law_sack") 199 := ⟨by kernel_rfl, by kernel_rfl, by decide +kernel⟩
theorem g_function : GFn w (Str.ofString "_law_function") 223 := ⟨by kernel_rfl, by kernel_rfl, by decide +kernel⟩
theorem g_fh : GFn w (Str.ofString "function_head") 175 := ⟨by kernel_rfl, by kernel_rfl, by decide +kernel⟩
theorem g_whole : GFn w (Str.ofString "whole_body") 192 := ⟨by kernel_rfl, by kernel_rfl, by decide +kernel⟩
theorem cmp_eq_t {d e : Dat} (ox : kqdOk 60 d = true) (oy : kqdOk 60 e = true) (he : d = e) : Cmp w .Eq d e true := fun A s nw u v Q E R hu hv hl q => eq_dat_t R hu hv ox oy hl he q
/-- a kind of what is given -/
def KindP (t : Ent) : Prop := ∃ kd, KindOk kd ∧ t = .d (kdV kd)
theorem menu_kind {n : Nat} : ∀ ts, AllP (List.replicate n KindP) ts → ∃ ds : List Dat, ts = ds.map .d ∧ ds.length = n ∧ ∀ d ∈ ds, KindP (.d d) := allP_rep fun t ⟨kd, h, e⟩ => ⟨_, e, kd, h, rfl⟩
theorem kK_ok : KindOk (some (symD (Str.ofString "K"))) := sym_kind (headw_ok _ (by decide +kernel))
theorem fix_eq : whole (takesD 0 [] ++ ownD .plain) (bodyD (some (symD (Str.ofString "K"))) fixT) = conv (symD (Str.ofString "K")) fixT.dat := by
  show conv (symD (Str.ofString "K")) (turned (symD (Str.ofString "K")) fixT) = _
  rw [fixT_turned]
theorem fix_ok : kqdOk 60 (whole (takesD 0 [] ++ ownD .plain) (bodyD (some (symD (Str.ofString "K"))) fixT)) = true := whole_ok (by decide) fixT_ok kK_ok
theorem fix_dat : fixT.dat = nodeD (Str.ofString "->") [symD (Str.ofString "y"), nodeD (Str.ofString "return") [.tuple [.str (Str.ofString "int"), .int 1]]] := by
  simp only [fixT, Tr.dat, Tr.dats]
theorem law_body (ns : List Int) (C : Cx w) (hC : Fm C (sc (st 33))) (hsz : C.sz = 40) : Sx C [(Str.ofString "script", .d (.list (ns.map .int)))] [] (bd (st 33)) (fun _ _ => False) (fun t _ => t = .d (.bool true)) := by
  refine sx_assignY (P1 := fun t M' => ∃ sk, t = .r sk ∧ M' = [(sk, .sack)]) hC (by decide +kernel) (fun _ => rfl) (evy_call (M₁ := []) (M₂ := []) hC.s (by decide +kernel) g_sack star_n any_nil (sack_tells ns) (by omega) (evs_cons star_n (ev_name hC (by decide +kernel) (by decide +kernel) look_hd) evs_nil) fun t M' k => by rw [List.append_nil]; exact k) fun t M1 k => ?_
  obtain ⟨sk, rfl, rfl⟩ := k
  have hm : (sk, Cell.sack) ∈ [(sk, Cell.sack)] := .head _
  refine ex_assignP hC (by decide +kernel) (fun _ => rfl) (evp_menu (n := 3) (Ps := List.replicate 3 KindP) (P := KindP) rfl (by decide) (evsp_cons star_c (evp_of ev_none ⟨none, (fun _ h => nomatch h), rfl⟩) (evsp_cons star_t (evp_of (ev_tuple (ds := [.str (Str.ofString "sym"), .str (Str.ofString "Int64")]) (Nat.le_of_ble_eq_true rfl) (evs_cons star_c ev_str (evs_cons star_c ev_str evs_nil))) ⟨some _, sym_kind (headw_ok _ (by decide +kernel)), rfl⟩) (evsp_cons star_k (evp_of (ev_call hC.s (by decide +kernel) g_expr star_c (any_cons star_t any_nil) (expr_tells _ _) (by omega) (evs_cons star_c ev_str (evs_cons star_t (ev_tuple (ds := [symD (Str.ofString "Vector"), symD (Str.ofString "T")]) (Nat.le_of_ble_eq_true rfl) (evs_cons star_t (ev_tuple (ds := [.str (Str.ofString "sym"), .str (Str.ofString "Vector")]) (Nat.le_of_ble_eq_true rfl) (evs_cons star_c ev_str (evs_cons star_c ev_str evs_nil))) (evs_cons star_t (ev_tuple (ds := [.str (Str.ofString "sym"), .str (Str.ofString "T")]) (Nat.le_of_ble_eq_true rfl) (evs_cons star_c ev_str (evs_cons star_c ev_str evs_nil))) evs_nil))) evs_nil))) ⟨some _, curly_kind, rfl⟩) evsp_nil))) (evp_draw hC.s (by decide +kernel) hm (by omega) (by decide) (by decide) (ev_name hC (by decide +kernel) (by decide +kernel) look_hd)) (fun _ _ _ => rfl) menu_kind) fun t k => ?_
  obtain ⟨kd, hk, rfl⟩ := k
  refine sx_unpack2 (P := FunP kd) hC (by decide +kernel) (by decide +kernel) (fun _ _ _ _ _ => by kernel_rfl) (fun _ _ _ _ _ => by kernel_rfl) (evp_call hC.s (by decide +kernel) g_function star_n (any_cons star_n any_nil) (fun_tells sk kd hk) (by omega) (sack_in hm) sack_nd (evs_cons star_n (ev_name hC (by decide +kernel) (by decide +kernel) (look_tl (by decide +kernel) look_hd)) (evs_cons star_n (ev_name hC (by decide +kernel) (by decide +kernel) look_hd) evs_nil))) (fun t k => ?fp) fun d1 d2 k => ?_
  case fp =>
    obtain ⟨as, c, wh, u, _, _, _, e⟩ := k
    exact ⟨_, _, e⟩
  obtain ⟨as, c, wh, u, hl, hok, hct, e⟩ := k
  cases e
  have hz1 := takesD_len as 0
  have hz2 := ownD_len c
  refine ex_assign (t := .d u.dat) hC (by decide +kernel) (fun _ => rfl) (ev_sub (ds := [whereD wh (kindD kd (headD as c)), u.dat]) (ev_sub (ds := [.str (Str.ofString "expr"), .str (Str.ofString "function"), .tuple [whereD wh (kindD kd (headD as c)), u.dat]]) (ev_name hC (by decide +kernel) (by decide +kernel) (look_tl (by decide +kernel) look_hd)) (by decide) rfl (fun _ _ => rfl)) (by decide) rfl (fun _ _ => rfl)) ?_
  refine ex_assign (t := .d (whole (takesD 0 as ++ ownD c) (bodyD kd u))) hC (by decide +kernel) (fun _ => rfl) (ev_of (evp_call hC.s (by decide +kernel) g_whole star_k (any_cons star_n any_nil) (wb_tells as (nsD 0 as) c kd u hl hok hk) (by omega) (fun _ h => nomatch h) .nil (evs_cons star_k (ev_of (evp_call hC.s (by decide +kernel) g_fh star_n any_nil (fh_tells as c kd wh u.dat hl) (by omega) (fun _ h => nomatch h) .nil (evs_cons star_n (ev_name hC (by decide +kernel) (by decide +kernel) (look_tl (by decide +kernel) (look_tl (by decide +kernel) look_hd))) evs_nil))) (evs_cons star_n (ev_name hC (by decide +kernel) (by decide +kernel) look_hd) evs_nil)))) ?_
  obtain ⟨bk, hk1, _, hk3⟩ := kind_is (w := w) hk
  refine ex_assign (t := .d (bodyD kd u)) hC (by decide +kernel) (fun _ => rfl) ?due ?_
  case due =>
    rcases hk3 with ⟨rfl, rfl⟩ | ⟨rfl, d, rfl⟩
    · exact ev_ifT (tst_cmp rfl hk1 (by omega) (ev_name hC (by decide +kernel) (by decide +kernel) (look_tl (by decide +kernel) (look_tl (by decide +kernel) (look_tl (by decide +kernel) (look_tl (by decide +kernel) look_hd))))) ev_none) (ev_name hC (by decide +kernel) (by decide +kernel) (look_tl (by decide +kernel) look_hd))
    · exact ev_ifF (tst_cmp rfl hk1 (by omega) (ev_name hC (by decide +kernel) (by decide +kernel) (look_tl (by decide +kernel) (look_tl (by decide +kernel) (look_tl (by decide +kernel) (look_tl (by decide +kernel) look_hd))))) ev_none) (ev_call hC.s (by decide +kernel) g_as star_n (any_cons star_k any_nil) (as_tells _ _) (by omega) (evs_cons star_n (ev_name hC (by decide +kernel) (by decide +kernel) (look_tl (by decide +kernel) (look_tl (by decide +kernel) (look_tl (by decide +kernel) (look_tl (by decide +kernel) look_hd))))) (evs_cons star_k (ev_call hC.s (by decide +kernel) g_due star_n (any_cons star_n any_nil) (due_all w 4 u d hok (hk d rfl).2 (by decide)) (by omega) (evs_cons star_n (ev_name hC (by decide +kernel) (by decide +kernel) (look_tl (by decide +kernel) (look_tl (by decide +kernel) (look_tl (by decide +kernel) (look_tl (by decide +kernel) look_hd))))) (evs_cons star_n (ev_name hC (by decide +kernel) (by decide +kernel) (look_tl (by decide +kernel) look_hd)) evs_nil))) evs_nil)))
  have hoz : kqdOk 60 (.list (takesD 0 as ++ ownD c)) = true := kq_le (n := 59) (kq_listOf (ahead_ok as c hl)) (by decide)
  have how : kqdOk 60 (whole (takesD 0 as ++ ownD c) (bodyD kd u)) = true := whole_ok hl hok hk
  have hzz : (takesD 0 as ++ ownD c).length ≤ 5 := by rw [List.length_append]; omega
  generalize hZ : takesD 0 as ++ ownD c = Z at hoz how hzz ⊢
  refine sx_ifP (PB := fun b => (b = true ∧ Dat.list Z ≠ Dat.list []) ∨ (b = false ∧ Dat.list Z = Dat.list [])) (N' := fun Γ2 M2 => M2 = [(sk, .sack)] ∧ Sub [(Str.ofString "told", .d (whole Z (bodyD kd u))), (Str.ofString "due", .d (whole Z (bodyD kd u)))] Γ2) ?tst (fun hb => ?yes) (fun hb => ?no) fun Γ2 M2 k => ?_
  case tst =>
    cases Z with
    | nil => exact tstp_of (tst_cmp rfl (cmp_ne_f (d := .list []) (e := .list []) rfl rfl rfl) (by omega) (ev_name hC (by decide +kernel) (by decide +kernel) (look_tl (by decide +kernel) (look_tl (by decide +kernel) (look_tl (by decide +kernel) look_hd)))) (ev_list (ds := []) (Nat.le_of_ble_eq_true rfl) evs_nil)) (.inr ⟨rfl, rfl⟩)
    | cons z zs => exact tstp_of (tst_cmp rfl (cmp_ne_t (d := .list (z :: zs)) (e := .list []) hoz rfl (fun e => by cases e)) (by omega) (ev_name hC (by decide +kernel) (by decide +kernel) (look_tl (by decide +kernel) (look_tl (by decide +kernel) (look_tl (by decide +kernel) look_hd)))) (ev_list (ds := []) (Nat.le_of_ble_eq_true rfl) evs_nil)) (.inl ⟨rfl, (fun e => by cases e)⟩)
  case yes =>
    rcases hb with ⟨_, hb⟩ | ⟨h, _⟩
    · rw [whole_some hb] at *
      exact ex_assign (t := .d (nodeD (Str.ofString "block") (Z ++ [bodyD kd u]))) hC (by decide +kernel) (fun _ => rfl) (ev_tuple (ds := [.str (Str.ofString "expr"), .str (Str.ofString "block"), .tuple (Z ++ [bodyD kd u])]) (Nat.le_of_ble_eq_true rfl) (evs_cons star_c ev_str (evs_cons star_c ev_str (evs_cons star_k (ev_tupleOfL hC (by decide +kernel) (by kernel_rfl) (by boot_fast) (by decide) (by decide +kernel) star_b (by simp only [List.length_append, List.length_cons, List.length_nil]; omega) (ev_addL (d1 := Z) (d2 := [bodyD kd u]) (by simp only [List.length_cons, List.length_nil]; omega) (ev_name hC (by decide +kernel) (by decide +kernel) (look_tl (by decide +kernel) (look_tl (by decide +kernel) (look_tl (by decide +kernel) look_hd)))) (ev_list (ds := [bodyD kd u]) (Nat.le_of_ble_eq_true rfl) (evs_cons star_n (ev_name hC (by decide +kernel) (by decide +kernel) look_hd) evs_nil)))) evs_nil)))) (sx_nil ⟨rfl, (Sub.mk (look_tl (by decide +kernel) (look_tl (by decide +kernel) look_hd)) (Sub.mk look_hd Sub.nil))⟩)
    · exact nomatch h
  case no =>
    rcases hb with ⟨h, _⟩ | ⟨_, hb⟩
    · exact nomatch h
    · rw [whole_nil hb] at *
      exact sx_nil ⟨rfl, (Sub.mk (look_tl (by decide +kernel) look_hd) (Sub.mk look_hd Sub.nil))⟩
  obtain ⟨rfl, hs⟩ := k
  refine sx_sub hs (fun _ h => h) (fun h => h) ?_
  refine ex_ifSkip (tst_cmp rfl (cmp_ne_f how how rfl) (by omega) (ev_name hC (by decide +kernel) (by decide +kernel) look_hd) (ev_name hC (by decide +kernel) (by decide +kernel) (look_tl (by decide +kernel) look_hd))) ?_
  refine ex_assign (t := .d fixT.dat) hC (by decide +kernel) (fun _ => rfl) (by rw [fix_dat]; exact (ev_call hC.s (by decide +kernel) g_expr star_c (any_cons star_t any_nil) (expr_tells _ _) (by omega) (evs_cons star_c ev_str (evs_cons star_t (ev_tuple (ds := [symD (Str.ofString "y"), nodeD (Str.ofString "return") [.tuple [.str (Str.ofString "int"), .int 1]]]) (Nat.le_of_ble_eq_true rfl) (evs_cons star_t (ev_tuple (ds := [.str (Str.ofString "sym"), .str (Str.ofString "y")]) (Nat.le_of_ble_eq_true rfl) (evs_cons star_c ev_str (evs_cons star_c ev_str evs_nil))) (evs_cons star_k (ev_call hC.s (by decide +kernel) g_expr star_c (any_cons star_t any_nil) (expr_tells _ _) (by omega) (evs_cons star_c ev_str (evs_cons star_t (ev_tuple (ds := [.tuple [.str (Str.ofString "int"), .int 1]]) (Nat.le_of_ble_eq_true rfl) (evs_cons star_t (ev_tuple (ds := [.str (Str.ofString "int"), .int 1]) (Nat.le_of_ble_eq_true rfl) (evs_cons star_c ev_str (evs_cons star_c ev_int evs_nil))) evs_nil)) evs_nil))) evs_nil))) evs_nil)))) ?_
  refine ex_assign (t := .d (treeD [] .plain (some (symD (Str.ofString "K"))) false fixT.dat)) hC (by decide +kernel) (fun _ => rfl) (ev_call hC.s (by decide +kernel) g_expr star_c (any_cons star_t any_nil) (expr_tells _ _) (by omega) (evs_cons star_c ev_str (evs_cons star_t (ev_tuple (ds := [nodeD (Str.ofString "::") [nodeD (Str.ofString "call") [symD (Str.ofString "f")], symD (Str.ofString "K")], fixT.dat]) (Nat.le_of_ble_eq_true rfl) (evs_cons star_k (ev_call hC.s (by decide +kernel) g_expr star_c (any_cons star_t any_nil) (expr_tells _ _) (by omega) (evs_cons star_c ev_str (evs_cons star_t (ev_tuple (ds := [nodeD (Str.ofString "call") [symD (Str.ofString "f")], symD (Str.ofString "K")]) (Nat.le_of_ble_eq_true rfl) (evs_cons star_k (ev_call hC.s (by decide +kernel) g_expr star_c (any_cons star_t any_nil) (expr_tells _ _) (by omega) (evs_cons star_c ev_str (evs_cons star_t (ev_tuple (ds := [symD (Str.ofString "f")]) (Nat.le_of_ble_eq_true rfl) (evs_cons star_t (ev_tuple (ds := [.str (Str.ofString "sym"), .str (Str.ofString "f")]) (Nat.le_of_ble_eq_true rfl) (evs_cons star_c ev_str (evs_cons star_c ev_str evs_nil))) evs_nil)) evs_nil))) (evs_cons star_t (ev_tuple (ds := [.str (Str.ofString "sym"), .str (Str.ofString "K")]) (Nat.le_of_ble_eq_true rfl) (evs_cons star_c ev_str (evs_cons star_c ev_str evs_nil))) evs_nil))) evs_nil))) (evs_cons star_n (ev_name hC (by decide +kernel) (by decide +kernel) look_hd) evs_nil))) evs_nil))) ?_
  exact sx_retY (evy_of (evp_of (P := fun t => t = .d (.bool true)) (ev_cmp rfl (cmp_eq_t (e := conv (symD (Str.ofString "K")) fixT.dat) fix_ok (fix_eq ▸ fix_ok) fix_eq) (by omega) (ev_of (evp_call hC.s (by decide +kernel) g_whole star_k (any_cons star_n any_nil) (wb_tells [] (nsD 0 []) .plain (some (symD (Str.ofString "K"))) fixT (by decide) fixT_ok kK_ok) (by omega) (fun _ h => nomatch h) .nil (evs_cons star_k (ev_of (evp_call hC.s (by decide +kernel) g_fh star_n any_nil (fh_tells [] .plain (some (symD (Str.ofString "K"))) false fixT.dat (by decide)) (by omega) (fun _ h => nomatch h) .nil (evs_cons star_n (ev_name hC (by decide +kernel) (by decide +kernel) look_hd) evs_nil))) (evs_cons star_n (ev_name hC (by decide +kernel) (by decide +kernel) (look_tl (by decide +kernel) look_hd)) evs_nil)))) (ev_call hC.s (by decide +kernel) g_as star_t (any_cons star_n any_nil) (as_tells _ _) (by omega) (evs_cons star_t (ev_tuple (ds := [.str (Str.ofString "sym"), .str (Str.ofString "K")]) (Nat.le_of_ble_eq_true rfl) (evs_cons star_c ev_str (evs_cons star_c ev_str evs_nil))) (evs_cons star_n (ev_name hC (by decide +kernel) (by decide +kernel) (look_tl (by decide +kernel) look_hd)) evs_nil)))) rfl) fun t k => k)
end Mine
namespace Mine
open PySem PySem.W PyProof.Rows PySem.Spec PySem.Calls
set_option linter.all false
theorem ints_dat {nw : Led} {vs : List Value} {ns : List Int} (h : IntsAre vs ns) : DatAll nw vs (ns.map .int) := by
  induction h with
  | nil => exact .nil
  | cons n t _ ih => exact .cons (.int _ _) ih
theorem law_walk : WalkT := by
  k_go0
  rename_i w s₀ s₁ mg mb G Y fa o pm doc kV ho hg KX X V GL T B TE TW w9 w8 M w7 w6 hcd ns hs hlay0 hL1 hr1 hl2 w4 w3 ax vs w_ hL ra w1 r0 hI hr hcond1 hcond K0 hD h1 F N0
  obtain ⟨oL, g1, c1, n1, d1⟩ := hL
  have eo : oL = W.listOf vs.toArray n1 := by
    cases w1 with
    | list hw _ =>
      rw [hw] at g1
      cases g1
      cases d1
      rfl
  subst eo
  have big : ∀ n, n < s₁.heap.objs.size → n < s₁.heap.objs.size := fun _ h => h
  have hK : ∀ p ∈ gK, s₁.heap.get? p.1 = some p.2 := fun p hp => by
    simp only [gK, List.mem_cons, List.not_mem_nil, or_false] at hp
    rcases hp with rfl | rfl | rfl
    · exact KX _ _ rfl
    · exact KX _ _ rfl
    · exact KX _ _ rfl
  let C : Cx w := ⟨callerA.depth + 1, callerA.units + 3, some [], dLaw.name, dLaw.scope, s₁.heap.objs.size, fa, .ref w7, [], [], callerA, s₁.heap, s₁.heap, ExcName.means s₀.heap, mg, mb, gK ++ [(ax, W.listOf vs.toArray n1)], 40, K0, KX, T, rfl, fun p hp => by
      rcases List.mem_append.mp hp with hp | hp
      · exact hK p hp
      · rw [List.mem_singleton.mp hp]; exact g1, fun p hp => List.mem_append.mpr (.inl hp), envOf dLaw.name dLaw.scope s₁.heap.objs.size fa (.ref w7), none, [], rfl, rfl, fun _ => rfl, (fun _ h => nomatch h), by decide +kernel, by decide +kernel⟩
  have key := law_body ns C ⟨rfl, rfl, rfl⟩ rfl
  refine wpAny_mono (key.run (fun y => List.lookup y [(Str.ofString "script", Value.ref ax)].reverse) [] _ _ ⟨F, fun _ h => (nomatch h), fun _ h => (nomatch h), .nil, fun _ h => (nomatch h)⟩ ⟨fun x t hx => ?_, fun x t hx => nomatch (show (none : Option Ent) = some t from hx)⟩ (fun _ _ _ _ _ _ _ _ _ k => k.elim) (fun v m' h' tk R' M' t S _ hv k => ?_)) (fun _ _ x => x) fun _ _ x => x.elim
  · simp only [List.lookup] at hx
    by_cases q : x = Str.ofString "script"
    · subst q
      simp at hx
      subst hx
      exact ⟨.ref ax, by show List.lookup _ _ = _; simp [List.lookup], .list (List.mem_append.mpr (.inl (List.mem_append.mpr (.inr (.head _))))) (ints_dat hI)⟩
    · have : (x == Str.ofString "script") = false := by simp [q]
      rw [this] at hx
      exact nomatch hx
  · have k : t = .d (.bool true) := k
    subst k
    have hv : DatIn _ v (.bool true) := hv
    cases hv
    exact ⟨.inl ⟨_, .bool true, [], rfl, fun _ => rfl, .bool true, by kernel_rfl, fun _ => ⟨.nil, fun _ h => (nomatch h)⟩⟩, S.F.keep, rfl, hg⟩
theorem law_holds : PySem.Challenge.rw_pc0195_01.Holds := hd law_walk
end Mine
theorem PySem.Challenge.cw_pc0195_01_holds : PySem.Challenge.rw_pc0195_01.Holds := by
  exact Mine.law_holds
