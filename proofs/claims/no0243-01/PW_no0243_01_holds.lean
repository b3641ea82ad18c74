import PyProof.Rows.All
import Wide.All
import OpenK.AllK
import Wide.FinOn
import PySem.Challenge.RW_no0243_01
open PySem PySem.W PyProof.Rows
set_option compiler.extract_closed false
set_option Elab.async false
set_option maxRecDepth 100000
set_option maxHeartbeats 8000000
set_option linter.all false
open PySem PySem.W PyProof.Rows
set_option Elab.async false
set_option maxRecDepth 100000
set_option maxHeartbeats 8000000
set_option linter.all false
namespace Mine

noncomputable abbrev pw : Program := PySem.Challenge.pw_no0243_01
noncomputable abbrev rw1 : OpenLaw := PySem.Challenge.rw_no0243_01
noncomputable def st (i : Nat) : Stmt := (pw.main.body.drop i).headD (.Pass default)
noncomputable def inCls : Stmt → List Stmt
  | .ClassDef _ _ _ b _ _ _ _ _ _ _ => b
  | _ => []
noncomputable def me (i j : Nat) : Stmt := ((inCls (st i)).drop j).headD (.Pass default)
noncomputable def fdOf : Obj → Option (Arguments × FuncBody × Scope)
  | ⟨_, _, .func f, _⟩ => some (f.params, f.body, f.scope)
  | _ => none
noncomputable def stOf : Stmt → Option (Arguments × FuncBody × Scope)
  | .FunctionDef _ a b _ _ _ sc _ _ _ => some (a, .stmts b, sc)
  | _ => none
noncomputable abbrev fnOf (o : Obj) (s : Stmt) (_ : fdOf o = stOf s) : Obj := o
noncomputable def drops : List Bool → List Stmt → List Stmt
  | true :: bs, a :: l => a :: drops bs l
  | false :: bs, _ :: l => drops bs l
  | _, _ => []
noncomputable abbrev viewOf (b : List Stmt) (_ : b = drops [false, true, true, true, false, true, true, true, true, true, true, true, true, false, true, false, true, true, true, true, true, true, true, true, true, true, true, true, true, true, true, false, true, true, true, true, true, true, true] pw.main.body) : Program := { pw with main := { pw.main with body := b } }
noncomputable def topV : Program := viewOf [_, _, _, _, _, _, _, _, _, _, _, _, _, _, _, _, _, _, _, _, _, _, _, _, _, _, _, _, _, _, _, _, _, _] rfl
noncomputable abbrev k2 (P : Params) : Obj := ⟨.none, none, (.dict #[⟨PyData.keyHash P (.ofString "type.__subclasses__.Exception.0"), (.str (.ofString "type.__subclasses__.Exception.0") 214), (.int 31 0)⟩, ⟨PyData.keyHash P (.ofString "type.__subclasses__.Exception.n"), (.str (.ofString "type.__subclasses__.Exception.n") 215), (.int 1 0)⟩] 2), #[]⟩
noncomputable abbrev k3 (P : Params) : Obj := ⟨(.type "dict"), none, (.dict #[⟨PyData.keyHash P (.ofString "__name__"), (.str (.ofString "__name__") 165), (.str (.ofString "law_no0243_01") 536)⟩, ⟨PyData.keyHash P (.ofString "__doc__"), (.str (.ofString "__doc__") 166), .none⟩, ⟨PyData.keyHash P (.ofString "__package__"), (.str (.ofString "__package__") 167), .none⟩, ⟨PyData.keyHash P (.ofString "__loader__"), (.str (.ofString "__loader__") 168), (.builtin "__main__.__loader__#opaque")⟩, ⟨PyData.keyHash P (.ofString "__spec__"), (.str (.ofString "__spec__") 169), .none⟩, ⟨PyData.keyHash P (.ofString "__annotations__"), (.str (.ofString "__annotations__") 170), (.ref 6)⟩, ⟨PyData.keyHash P (.ofString "__builtins__"), (.str (.ofString "__builtins__") 171), (.ref 4)⟩, ⟨PyData.keyHash P (.ofString "__file__"), (.str (.ofString "__file__") 173), (.str (.ofString "/claim/cut.py") 172)⟩, ⟨PyData.keyHash P (.ofString "__cached__"), (.str (.ofString "__cached__") 174), .none⟩, ⟨PyData.keyHash P (.ofString "F77Error"), (.str (.ofString "F77Error") 217), (.ref 31)⟩, ⟨PyData.keyHash P (.ofString "SourceError"), (.str (.ofString "SourceError") 243), (.ref 51)⟩, ⟨PyData.keyHash P (.ofString "LexFault"), (.str (.ofString "LexFault") 269), (.ref 70)⟩, ⟨PyData.keyHash P (.ofString "DIGITS_squeeze"), (.str (.ofString "DIGITS_squeeze") 273), (.str (.ofString "0123456789") 272)⟩, ⟨PyData.keyHash P (.ofString "AHEAD_OF_COUNT"), (.str (.ofString "AHEAD_OF_COUNT") 275), (.str (.ofString "(,/:") 274)⟩, ⟨PyData.keyHash P (.ofString "capital"), (.str (.ofString "capital") 282), (.ref 79)⟩, ⟨PyData.keyHash P (.ofString "constant_end"), (.str (.ofString "constant_end") 291), (.ref 86)⟩, ⟨PyData.keyHash P (.ofString "count_end"), (.str (.ofString "count_end") 301), (.ref 93)⟩, ⟨PyData.keyHash P (.ofString "hollerith"), (.str (.ofString "hollerith") 312), (.ref 100)⟩, ⟨PyData.keyHash P (.ofString "squeeze"), (.str (.ofString "squeeze") 326), (.ref 107)⟩, ⟨PyData.keyHash P (.ofString "squeezed"), (.str (.ofString "squeezed") 336), (.ref 114)⟩, ⟨PyData.keyHash P (.ofString "Limits"), (.str (.ofString "Limits") 389), (.ref 132)⟩, ⟨PyData.keyHash P (.ofString "LABEL_END"), (.str (.ofString "LABEL_END") 393), (.int 5 392)⟩, ⟨PyData.keyHash P (.ofString "BODY_AT"), (.str (.ofString "BODY_AT") 395), (.int 6 394)⟩, ⟨PyData.keyHash P (.ofString "DIGITS_source"), (.str (.ofString "DIGITS_source") 397), (.str (.ofString "0123456789") 396)⟩, ⟨PyData.keyHash P (.ofString "Card"), (.str (.ofString "Card") 432), (.ref 153)⟩, ⟨PyData.keyHash P (.ofString "cards_of"), (.str (.ofString "cards_of") 442), (.ref 164)⟩, ⟨PyData.keyHash P (.ofString "without_blanks"), (.str (.ofString "without_blanks") 449), (.ref 171)⟩, ⟨PyData.keyHash P (.ofString "is_comment"), (.str (.ofString "is_comment") 457), (.ref 178)⟩, ⟨PyData.keyHash P (.ofString "read_cards"), (.str (.ofString "read_cards") 469), (.ref 185)⟩, ⟨PyData.keyHash P (.ofString "is_continuation"), (.str (.ofString "is_continuation") 476), (.ref 192)⟩, ⟨PyData.keyHash P (.ofString "read_label"), (.str (.ofString "read_label") 487), (.ref 199)⟩, ⟨PyData.keyHash P (.ofString "padded"), (.str (.ofString "padded") 495), (.ref 206)⟩, ⟨PyData.keyHash P (.ofString "joined"), (.str (.ofString "joined") 506), (.ref 213)⟩, ⟨PyData.keyHash P (.ofString "check_continuation"), (.str (.ofString "check_continuation") 515), (.ref 220)⟩, ⟨PyData.keyHash P (.ofString "statements_of"), (.str (.ofString "statements_of") 527), (.ref 227)⟩, ⟨PyData.keyHash P (.ofString "read_statements"), (.str (.ofString "read_statements") 535), (.ref 234)⟩, ⟨PyData.keyHash P (.ofString "_law_plain"), (.str (.ofString "_law_plain") 543), (.ref 241)⟩, ⟨PyData.keyHash P (.ofString "_law_inner"), (.str (.ofString "_law_inner") 549), (.ref 248)⟩, ⟨PyData.keyHash P (.ofString "_law_wrong"), (.str (.ofString "_law_wrong") 555), (.ref 255)⟩, ⟨PyData.keyHash P (.ofString "_law_laid"), (.str (.ofString "_law_laid") 565), (.ref 262)⟩, ⟨PyData.keyHash P (.ofString "_law_piece"), (.str (.ofString "_law_piece") 577), (.ref 269)⟩, ⟨PyData.keyHash P (.ofString "_law_rows"), (.str (.ofString "_law_rows") 589), (.ref 276)⟩, ⟨PyData.keyHash P (.ofString "law"), (.str (.ofString "law") 595), (.ref 281)⟩] 43), #[]⟩
noncomputable abbrev k15 (P : Params) : Obj := ⟨(.type "tuple"), none, (.seq #[(.type "Exception")] 0), #[]⟩
noncomputable abbrev k22 (P : Params) : Obj := ⟨(.type "tuple"), none, (.seq #[] 0), #[]⟩
noncomputable abbrev k24 (P : Params) : Obj := ⟨(.type "tuple"), none, (.seq #[(.str (.ofString "self") 204), (.str (.ofString "text") 205)] 0), #[]⟩
noncomputable abbrev k25 (P : Params) : Obj := ⟨(.type "tuple"), none, (.seq #[] 0), #[]⟩
noncomputable abbrev k27 (P : Params) : Obj := ⟨(.type "code"), none, (.fields #[(.str (.ofString "__init__") 201), (.str (.ofString "F77Error.__init__") 202), (.str (.ofString "/claim/cut.py") 203), (.int 4 0), (.int 2 0), (.int 0 0), (.int 0 0), (.int 3 0), (.ref 22), (.bool true), (.int 181 0), (.ref 23), .none, (.ref 24), (.ref 25), (.ref 26), (.int 206 0), (.int 4 0), (.str (.ofString "/claim/cut.py") 207)]), #[]⟩
noncomputable abbrev k28 (P : Params) : Obj := fnOf ⟨(.type "function"), none, .func ⟨(.ofString "__init__"), (.ofString "F77Error.__init__"), _, (.stmts _), _, 3, [], .none, .none, .none, (.str (.ofString "f77.errors") 187), none, (.ref 27), .none, 0⟩, #[]⟩ (me 1 0) rfl
noncomputable abbrev k29 (P : Params) : Obj := ⟨(.type "tuple"), none, (.seq #[(.str (.ofString "text") 209)] 0), #[]⟩
noncomputable abbrev k30 (P : Params) : Obj := ⟨(.type "dict"), none, (.dict #[⟨PyData.keyHash P (.ofString "__module__"), (.str (.ofString "__module__") 196), (.str (.ofString "f77.errors") 187)⟩, ⟨PyData.keyHash P (.ofString "__firstlineno__"), (.str (.ofString "__firstlineno__") 200), (.int 2 199)⟩, ⟨PyData.keyHash P (.ofString "__init__"), (.str (.ofString "__init__") 208), (.ref 28)⟩, ⟨PyData.keyHash P (.ofString "__static_attributes__"), (.str (.ofString "__static_attributes__") 210), (.ref 29)⟩, ⟨PyData.keyHash P (.ofString "__weakref__"), (.str (.ofString "__weakref__") 212), (.ref 32)⟩, ⟨PyData.keyHash P (.ofString "__doc__"), (.str (.ofString "__doc__") 213), .none⟩] 3), #[]⟩
noncomputable abbrev k31 (P : Params) : Obj := ⟨(.type "type"), none, (.cls ⟨(.ofString "F77Error"), [(.type "Exception")], [(.ref 31), (.type "Exception"), (.type "BaseException"), (.type "object")], 30, (.ofString "F77Error"), true, [], [(.ref 51), (.ref 70)], false, none, false⟩), #[(some (.ref 15)), none, (some (.str (.ofString "F77Error") 189)), (some (.str (.ofString "F77Error") 197)), (some (.builtin "Exception.__new__")), (some (.bool true))]⟩
noncomputable abbrev k32 (P : Params) : Obj := ⟨(.type "getset_descriptor"), none, (.fields #[(.str (.ofString "__weakref__") 211), (.ref 31), (.builtin "ExceptionGroup.__weakref__"), .none]), #[]⟩
noncomputable abbrev k35 (P : Params) : Obj := ⟨(.type "tuple"), none, (.seq #[(.ref 31)] 0), #[]⟩
noncomputable abbrev k42 (P : Params) : Obj := ⟨(.type "tuple"), none, (.seq #[] 0), #[]⟩
noncomputable abbrev k44 (P : Params) : Obj := ⟨(.type "tuple"), none, (.seq #[(.str (.ofString "self") 233), (.str (.ofString "line") 234), (.str (.ofString "text") 235)] 0), #[]⟩
noncomputable abbrev k45 (P : Params) : Obj := ⟨(.type "tuple"), none, (.seq #[] 0), #[]⟩
noncomputable abbrev k47 (P : Params) : Obj := ⟨(.type "code"), none, (.fields #[(.str (.ofString "__init__") 230), (.str (.ofString "SourceError.__init__") 231), (.str (.ofString "/claim/cut.py") 232), (.int 9 0), (.int 3 0), (.int 0 0), (.int 0 0), (.int 3 0), (.ref 42), (.bool true), (.int 181 0), (.ref 43), .none, (.ref 44), (.ref 45), (.ref 46), (.int 236 0), (.int 9 0), (.str (.ofString "/claim/cut.py") 237)]), #[]⟩
noncomputable abbrev k48 (P : Params) : Obj := fnOf ⟨(.type "function"), none, .func ⟨(.ofString "__init__"), (.ofString "SourceError.__init__"), _, (.stmts _), _, 3, [], .none, .none, .none, (.str (.ofString "f77.errors") 187), none, (.ref 47), .none, 0⟩, #[]⟩ (me 2 0) rfl
noncomputable abbrev k49 (P : Params) : Obj := ⟨(.type "tuple"), none, (.seq #[(.str (.ofString "line") 239)] 0), #[]⟩
noncomputable abbrev k50 (P : Params) : Obj := ⟨(.type "dict"), none, (.dict #[⟨PyData.keyHash P (.ofString "__module__"), (.str (.ofString "__module__") 225), (.str (.ofString "f77.errors") 187)⟩, ⟨PyData.keyHash P (.ofString "__firstlineno__"), (.str (.ofString "__firstlineno__") 229), (.int 7 228)⟩, ⟨PyData.keyHash P (.ofString "__init__"), (.str (.ofString "__init__") 238), (.ref 48)⟩, ⟨PyData.keyHash P (.ofString "__static_attributes__"), (.str (.ofString "__static_attributes__") 240), (.ref 49)⟩, ⟨PyData.keyHash P (.ofString "__doc__"), (.str (.ofString "__doc__") 241), .none⟩] 2), #[]⟩
noncomputable abbrev k51 (P : Params) : Obj := ⟨(.type "type"), none, (.cls ⟨(.ofString "SourceError"), [(.ref 31)], [(.ref 51), (.ref 31), (.type "Exception"), (.type "BaseException"), (.type "object")], 50, (.ofString "SourceError"), true, [], [], false, none, false⟩), #[(some (.ref 35)), none, (some (.str (.ofString "SourceError") 218)), (some (.str (.ofString "SourceError") 226)), (some (.builtin "Exception.__new__")), (some (.bool true))]⟩
noncomputable abbrev k54 (P : Params) : Obj := ⟨(.type "tuple"), none, (.seq #[(.ref 31)] 0), #[]⟩
noncomputable abbrev k61 (P : Params) : Obj := ⟨(.type "tuple"), none, (.seq #[] 0), #[]⟩
noncomputable abbrev k63 (P : Params) : Obj := ⟨(.type "tuple"), none, (.seq #[(.str (.ofString "self") 259), (.str (.ofString "at") 260), (.str (.ofString "text") 261)] 0), #[]⟩
noncomputable abbrev k64 (P : Params) : Obj := ⟨(.type "tuple"), none, (.seq #[] 0), #[]⟩
noncomputable abbrev k66 (P : Params) : Obj := ⟨(.type "code"), none, (.fields #[(.str (.ofString "__init__") 256), (.str (.ofString "LexFault.__init__") 257), (.str (.ofString "/claim/cut.py") 258), (.int 14 0), (.int 3 0), (.int 0 0), (.int 0 0), (.int 3 0), (.ref 61), (.bool true), (.int 181 0), (.ref 62), .none, (.ref 63), (.ref 64), (.ref 65), (.int 262 0), (.int 14 0), (.str (.ofString "/claim/cut.py") 263)]), #[]⟩
noncomputable abbrev k67 (P : Params) : Obj := fnOf ⟨(.type "function"), none, .func ⟨(.ofString "__init__"), (.ofString "LexFault.__init__"), _, (.stmts _), _, 3, [], .none, .none, .none, (.str (.ofString "f77.errors") 187), none, (.ref 66), .none, 0⟩, #[]⟩ (me 3 0) rfl
noncomputable abbrev k68 (P : Params) : Obj := ⟨(.type "tuple"), none, (.seq #[(.str (.ofString "at") 265)] 0), #[]⟩
noncomputable abbrev k69 (P : Params) : Obj := ⟨(.type "dict"), none, (.dict #[⟨PyData.keyHash P (.ofString "__module__"), (.str (.ofString "__module__") 251), (.str (.ofString "f77.errors") 187)⟩, ⟨PyData.keyHash P (.ofString "__firstlineno__"), (.str (.ofString "__firstlineno__") 255), (.int 12 254)⟩, ⟨PyData.keyHash P (.ofString "__init__"), (.str (.ofString "__init__") 264), (.ref 67)⟩, ⟨PyData.keyHash P (.ofString "__static_attributes__"), (.str (.ofString "__static_attributes__") 266), (.ref 68)⟩, ⟨PyData.keyHash P (.ofString "__doc__"), (.str (.ofString "__doc__") 267), .none⟩] 2), #[]⟩
noncomputable abbrev k70 (P : Params) : Obj := ⟨(.type "type"), none, (.cls ⟨(.ofString "LexFault"), [(.ref 31)], [(.ref 70), (.ref 31), (.type "Exception"), (.type "BaseException"), (.type "object")], 69, (.ofString "LexFault"), true, [], [], false, none, false⟩), #[(some (.ref 54)), none, (some (.str (.ofString "LexFault") 244)), (some (.str (.ofString "LexFault") 252)), (some (.builtin "Exception.__new__")), (some (.bool true))]⟩
noncomputable abbrev k73 (P : Params) : Obj := ⟨(.type "tuple"), none, (.seq #[] 0), #[]⟩
noncomputable abbrev k75 (P : Params) : Obj := ⟨(.type "tuple"), none, (.seq #[(.str (.ofString "sign") 279)] 0), #[]⟩
noncomputable abbrev k76 (P : Params) : Obj := ⟨(.type "tuple"), none, (.seq #[] 0), #[]⟩
noncomputable abbrev k78 (P : Params) : Obj := ⟨(.type "code"), none, (.fields #[(.str (.ofString "capital") 276), (.str (.ofString "capital") 277), (.str (.ofString "/claim/cut.py") 278), (.int 20 0), (.int 1 0), (.int 0 0), (.int 0 0), (.int 3 0), (.ref 73), (.bool true), (.int 181 0), (.ref 74), .none, (.ref 75), (.ref 76), (.ref 77), (.int 280 0), (.int 20 0), (.str (.ofString "/claim/cut.py") 281)]), #[]⟩
noncomputable abbrev k79 (P : Params) : Obj := fnOf ⟨(.type "function"), none, .func ⟨(.ofString "capital"), (.ofString "capital"), _, (.stmts _), _, 3, [], .none, .none, .none, (.str (.ofString "f77.squeeze") 270), none, (.ref 78), .none, 0⟩, #[]⟩ (st 7) rfl
noncomputable abbrev k80 (P : Params) : Obj := ⟨(.type "tuple"), none, (.seq #[] 0), #[]⟩
noncomputable abbrev k82 (P : Params) : Obj := ⟨(.type "tuple"), none, (.seq #[(.str (.ofString "text") 286), (.str (.ofString "at") 287), (.str (.ofString "end") 288)] 0), #[]⟩
noncomputable abbrev k83 (P : Params) : Obj := ⟨(.type "tuple"), none, (.seq #[] 0), #[]⟩
noncomputable abbrev k85 (P : Params) : Obj := ⟨(.type "code"), none, (.fields #[(.str (.ofString "constant_end") 283), (.str (.ofString "constant_end") 284), (.str (.ofString "/claim/cut.py") 285), (.int 24 0), (.int 2 0), (.int 0 0), (.int 0 0), (.int 3 0), (.ref 80), (.bool true), (.int 181 0), (.ref 81), .none, (.ref 82), (.ref 83), (.ref 84), (.int 289 0), (.int 24 0), (.str (.ofString "/claim/cut.py") 290)]), #[]⟩
noncomputable abbrev k86 (P : Params) : Obj := fnOf ⟨(.type "function"), none, .func ⟨(.ofString "constant_end"), (.ofString "constant_end"), _, (.stmts _), _, 3, [], .none, .none, .none, (.str (.ofString "f77.squeeze") 270), none, (.ref 85), .none, 0⟩, #[]⟩ (st 8) rfl
noncomputable abbrev k87 (P : Params) : Obj := ⟨(.type "tuple"), none, (.seq #[] 0), #[]⟩
noncomputable abbrev k89 (P : Params) : Obj := ⟨(.type "tuple"), none, (.seq #[(.str (.ofString "text") 295), (.str (.ofString "at") 296), (.str (.ofString "count") 297), (.str (.ofString "end") 298)] 0), #[]⟩
noncomputable abbrev k90 (P : Params) : Obj := ⟨(.type "tuple"), none, (.seq #[] 0), #[]⟩
noncomputable abbrev k92 (P : Params) : Obj := ⟨(.type "code"), none, (.fields #[(.str (.ofString "count_end") 292), (.str (.ofString "count_end") 293), (.str (.ofString "/claim/cut.py") 294), (.int 33 0), (.int 2 0), (.int 0 0), (.int 0 0), (.int 3 0), (.ref 87), (.bool true), (.int 181 0), (.ref 88), .none, (.ref 89), (.ref 90), (.ref 91), (.int 299 0), (.int 33 0), (.str (.ofString "/claim/cut.py") 300)]), #[]⟩
noncomputable abbrev k93 (P : Params) : Obj := fnOf ⟨(.type "function"), none, .func ⟨(.ofString "count_end"), (.ofString "count_end"), _, (.stmts _), _, 3, [], .none, .none, .none, (.str (.ofString "f77.squeeze") 270), none, (.ref 92), .none, 0⟩, #[]⟩ (st 9) rfl
noncomputable abbrev k94 (P : Params) : Obj := ⟨(.type "tuple"), none, (.seq #[] 0), #[]⟩
noncomputable abbrev k96 (P : Params) : Obj := ⟨(.type "tuple"), none, (.seq #[(.str (.ofString "text") 305), (.str (.ofString "at") 306), (.str (.ofString "count") 307), (.str (.ofString "begin") 308), (.str (.ofString "inner") 309)] 0), #[]⟩
noncomputable abbrev k97 (P : Params) : Obj := ⟨(.type "tuple"), none, (.seq #[] 0), #[]⟩
noncomputable abbrev k99 (P : Params) : Obj := ⟨(.type "code"), none, (.fields #[(.str (.ofString "hollerith") 302), (.str (.ofString "hollerith") 303), (.str (.ofString "/claim/cut.py") 304), (.int 43 0), (.int 2 0), (.int 0 0), (.int 0 0), (.int 3 0), (.ref 94), (.bool true), (.int 181 0), (.ref 95), .none, (.ref 96), (.ref 97), (.ref 98), (.int 310 0), (.int 43 0), (.str (.ofString "/claim/cut.py") 311)]), #[]⟩
noncomputable abbrev k100 (P : Params) : Obj := fnOf ⟨(.type "function"), none, .func ⟨(.ofString "hollerith"), (.ofString "hollerith"), _, (.stmts _), _, 3, [], .none, .none, .none, (.str (.ofString "f77.squeeze") 270), none, (.ref 99), .none, 0⟩, #[]⟩ (st 10) rfl
noncomputable abbrev k101 (P : Params) : Obj := ⟨(.type "tuple"), none, (.seq #[] 0), #[]⟩
noncomputable abbrev k103 (P : Params) : Obj := ⟨(.type "tuple"), none, (.seq #[(.str (.ofString "text") 316), (.str (.ofString "out") 317), (.str (.ofString "last") 318), (.str (.ofString "at") 319), (.str (.ofString "sign") 320), (.str (.ofString "constant") 321), (.str (.ofString "end") 322), (.str (.ofString "part") 323)] 0), #[]⟩
noncomputable abbrev k104 (P : Params) : Obj := ⟨(.type "tuple"), none, (.seq #[] 0), #[]⟩
noncomputable abbrev k106 (P : Params) : Obj := ⟨(.type "code"), none, (.fields #[(.str (.ofString "squeeze") 313), (.str (.ofString "squeeze") 314), (.str (.ofString "/claim/cut.py") 315), (.int 51 0), (.int 1 0), (.int 0 0), (.int 0 0), (.int 3 0), (.ref 101), (.bool true), (.int 181 0), (.ref 102), .none, (.ref 103), (.ref 104), (.ref 105), (.int 324 0), (.int 51 0), (.str (.ofString "/claim/cut.py") 325)]), #[]⟩
noncomputable abbrev k107 (P : Params) : Obj := fnOf ⟨(.type "function"), none, .func ⟨(.ofString "squeeze"), (.ofString "squeeze"), _, (.stmts _), _, 3, [], .none, .none, .none, (.str (.ofString "f77.squeeze") 270), none, (.ref 106), .none, 0⟩, #[]⟩ (st 11) rfl
noncomputable abbrev k108 (P : Params) : Obj := ⟨(.type "tuple"), none, (.seq #[] 0), #[]⟩
noncomputable abbrev k110 (P : Params) : Obj := ⟨(.type "tuple"), none, (.seq #[(.str (.ofString "text") 330), (.str (.ofString "row") 331), (.str (.ofString "sign") 332), (.str (.ofString "is_inside") 333)] 0), #[]⟩
noncomputable abbrev k111 (P : Params) : Obj := ⟨(.type "tuple"), none, (.seq #[] 0), #[]⟩
noncomputable abbrev k113 (P : Params) : Obj := ⟨(.type "code"), none, (.fields #[(.str (.ofString "squeezed") 327), (.str (.ofString "squeezed") 328), (.str (.ofString "/claim/cut.py") 329), (.int 76 0), (.int 1 0), (.int 0 0), (.int 0 0), (.int 3 0), (.ref 108), (.bool true), (.int 181 0), (.ref 109), .none, (.ref 110), (.ref 111), (.ref 112), (.int 334 0), (.int 76 0), (.str (.ofString "/claim/cut.py") 335)]), #[]⟩
noncomputable abbrev k114 (P : Params) : Obj := fnOf ⟨(.type "function"), none, .func ⟨(.ofString "squeezed"), (.ofString "squeezed"), _, (.stmts _), _, 3, [], .none, .none, .none, (.str (.ofString "f77.squeeze") 270), none, (.ref 113), .none, 0⟩, #[]⟩ (st 12) rfl
noncomputable abbrev k122 (P : Params) : Obj := ⟨(.type "tuple"), none, (.seq #[(.int 32 351), (.int 7 352), (.int 15 353), (.int 38 354), (.int 1000000 355), (.int 19 356), (.int 72 357), (.int 40 358)] 0), #[]⟩
noncomputable abbrev k123 (P : Params) : Obj := ⟨(.type "tuple"), none, (.seq #[] 0), #[]⟩
noncomputable abbrev k125 (P : Params) : Obj := ⟨(.type "tuple"), none, (.seq #[(.str (.ofString "self") 362), (.str (.ofString "width") 363), (.str (.ofString "real_digits") 364), (.str (.ofString "double_digits") 365), (.str (.ofString "top_exponent") 366), (.str (.ofString "steps") 367), (.str (.ofString "continuations") 368), (.str (.ofString "columns") 369), (.str (.ofString "depth") 370)] 0), #[]⟩
noncomputable abbrev k126 (P : Params) : Obj := ⟨(.type "tuple"), none, (.seq #[] 0), #[]⟩
noncomputable abbrev k128 (P : Params) : Obj := ⟨(.type "code"), none, (.fields #[(.str (.ofString "__init__") 359), (.str (.ofString "Limits.__init__") 360), (.str (.ofString "/claim/cut.py") 361), (.int 84 0), (.int 9 0), (.int 0 0), (.int 0 0), (.int 3 0), (.ref 123), (.bool true), (.int 181 0), (.ref 124), .none, (.ref 125), (.ref 126), (.ref 127), (.int 371 0), (.int 84 0), (.str (.ofString "/claim/cut.py") 372)]), #[]⟩
noncomputable abbrev k129 (P : Params) : Obj := fnOf ⟨(.type "function"), none, .func ⟨(.ofString "__init__"), (.ofString "Limits.__init__"), _, (.stmts _), _, 3, [], (.ref 122), .none, .none, (.str (.ofString "f77.limits") 337), none, (.ref 128), .none, 0⟩, #[]⟩ (me 14 0) rfl
noncomputable abbrev k130 (P : Params) : Obj := ⟨(.type "tuple"), none, (.seq #[(.str (.ofString "columns") 374), (.str (.ofString "continuations") 375), (.str (.ofString "depth") 376), (.str (.ofString "double_digits") 377), (.str (.ofString "real_digits") 378), (.str (.ofString "steps") 379), (.str (.ofString "top_exponent") 380), (.str (.ofString "width") 381)] 0), #[]⟩
noncomputable abbrev k131 (P : Params) : Obj := ⟨(.type "dict"), none, (.dict #[⟨PyData.keyHash P (.ofString "__module__"), (.str (.ofString "__module__") 346), (.str (.ofString "f77.limits") 337)⟩, ⟨PyData.keyHash P (.ofString "__firstlineno__"), (.str (.ofString "__firstlineno__") 350), (.int 82 349)⟩, ⟨PyData.keyHash P (.ofString "__init__"), (.str (.ofString "__init__") 373), (.ref 129)⟩, ⟨PyData.keyHash P (.ofString "__static_attributes__"), (.str (.ofString "__static_attributes__") 382), (.ref 130)⟩, ⟨PyData.keyHash P (.ofString "__dict__"), (.str (.ofString "__dict__") 384), (.ref 133)⟩, ⟨PyData.keyHash P (.ofString "__weakref__"), (.str (.ofString "__weakref__") 386), (.ref 134)⟩, ⟨PyData.keyHash P (.ofString "__doc__"), (.str (.ofString "__doc__") 387), .none⟩] 4), #[]⟩
noncomputable abbrev k132 (P : Params) : Obj := ⟨(.type "type"), none, (.cls ⟨(.ofString "Limits"), [(.type "object")], [(.ref 132), (.type "object")], 131, (.ofString "Limits"), true, [], [], false, none, false⟩), #[none, none, (some (.str (.ofString "Limits") 339)), (some (.str (.ofString "Limits") 347)), (some (.builtin "object.__new__")), (some (.bool true))]⟩
noncomputable abbrev k133 (P : Params) : Obj := ⟨(.type "getset_descriptor"), none, (.fields #[(.str (.ofString "__dict__") 383), (.ref 132), (.builtin "function.__dict__"), (.builtin "function.__dict__#set")]), #[]⟩
noncomputable abbrev k134 (P : Params) : Obj := ⟨(.type "getset_descriptor"), none, (.fields #[(.str (.ofString "__weakref__") 385), (.ref 132), (.builtin "ExceptionGroup.__weakref__"), .none]), #[]⟩
noncomputable abbrev k144 (P : Params) : Obj := ⟨(.type "tuple"), none, (.seq #[] 0), #[]⟩
noncomputable abbrev k146 (P : Params) : Obj := ⟨(.type "tuple"), none, (.seq #[(.str (.ofString "self") 413), (.str (.ofString "line") 414), (.str (.ofString "label") 415), (.str (.ofString "mark") 416), (.str (.ofString "body") 417)] 0), #[]⟩
noncomputable abbrev k147 (P : Params) : Obj := ⟨(.type "tuple"), none, (.seq #[] 0), #[]⟩
noncomputable abbrev k149 (P : Params) : Obj := ⟨(.type "code"), none, (.fields #[(.str (.ofString "__init__") 410), (.str (.ofString "Card.__init__") 411), (.str (.ofString "/claim/cut.py") 412), (.int 99 0), (.int 5 0), (.int 0 0), (.int 0 0), (.int 3 0), (.ref 144), (.bool true), (.int 181 0), (.ref 145), .none, (.ref 146), (.ref 147), (.ref 148), (.int 418 0), (.int 99 0), (.str (.ofString "/claim/cut.py") 419)]), #[]⟩
noncomputable abbrev k150 (P : Params) : Obj := fnOf ⟨(.type "function"), none, .func ⟨(.ofString "__init__"), (.ofString "Card.__init__"), _, (.stmts _), _, 3, [], .none, .none, .none, (.str (.ofString "f77.source") 390), none, (.ref 149), .none, 0⟩, #[]⟩ (me 19 0) rfl
noncomputable abbrev k151 (P : Params) : Obj := ⟨(.type "tuple"), none, (.seq #[(.str (.ofString "body") 421), (.str (.ofString "label") 422), (.str (.ofString "line") 423), (.str (.ofString "mark") 424)] 0), #[]⟩
noncomputable abbrev k152 (P : Params) : Obj := ⟨(.type "dict"), none, (.dict #[⟨PyData.keyHash P (.ofString "__module__"), (.str (.ofString "__module__") 405), (.str (.ofString "f77.source") 390)⟩, ⟨PyData.keyHash P (.ofString "__firstlineno__"), (.str (.ofString "__firstlineno__") 409), (.int 97 408)⟩, ⟨PyData.keyHash P (.ofString "__init__"), (.str (.ofString "__init__") 420), (.ref 150)⟩, ⟨PyData.keyHash P (.ofString "__static_attributes__"), (.str (.ofString "__static_attributes__") 425), (.ref 151)⟩, ⟨PyData.keyHash P (.ofString "__dict__"), (.str (.ofString "__dict__") 427), (.ref 154)⟩, ⟨PyData.keyHash P (.ofString "__weakref__"), (.str (.ofString "__weakref__") 429), (.ref 155)⟩, ⟨PyData.keyHash P (.ofString "__doc__"), (.str (.ofString "__doc__") 430), .none⟩] 4), #[]⟩
noncomputable abbrev k153 (P : Params) : Obj := ⟨(.type "type"), none, (.cls ⟨(.ofString "Card"), [(.type "object")], [(.ref 153), (.type "object")], 152, (.ofString "Card"), true, [], [], false, none, false⟩), #[none, none, (some (.str (.ofString "Card") 398)), (some (.str (.ofString "Card") 406)), (some (.builtin "object.__new__")), (some (.bool true))]⟩
noncomputable abbrev k154 (P : Params) : Obj := ⟨(.type "getset_descriptor"), none, (.fields #[(.str (.ofString "__dict__") 426), (.ref 153), (.builtin "function.__dict__"), (.builtin "function.__dict__#set")]), #[]⟩
noncomputable abbrev k155 (P : Params) : Obj := ⟨(.type "getset_descriptor"), none, (.fields #[(.str (.ofString "__weakref__") 428), (.ref 153), (.builtin "ExceptionGroup.__weakref__"), .none]), #[]⟩
noncomputable abbrev k158 (P : Params) : Obj := ⟨(.type "tuple"), none, (.seq #[] 0), #[]⟩
noncomputable abbrev k160 (P : Params) : Obj := ⟨(.type "tuple"), none, (.seq #[(.str (.ofString "text") 436), (.str (.ofString "rows") 437), (.str (.ofString "out") 438), (.str (.ofString "row") 439)] 0), #[]⟩
noncomputable abbrev k161 (P : Params) : Obj := ⟨(.type "tuple"), none, (.seq #[] 0), #[]⟩
noncomputable abbrev k163 (P : Params) : Obj := ⟨(.type "code"), none, (.fields #[(.str (.ofString "cards_of") 433), (.str (.ofString "cards_of") 434), (.str (.ofString "/claim/cut.py") 435), (.int 104 0), (.int 1 0), (.int 0 0), (.int 0 0), (.int 3 0), (.ref 158), (.bool true), (.int 181 0), (.ref 159), .none, (.ref 160), (.ref 161), (.ref 162), (.int 440 0), (.int 104 0), (.str (.ofString "/claim/cut.py") 441)]), #[]⟩
noncomputable abbrev k164 (P : Params) : Obj := fnOf ⟨(.type "function"), none, .func ⟨(.ofString "cards_of"), (.ofString "cards_of"), _, (.stmts _), _, 3, [], .none, .none, .none, (.str (.ofString "f77.source") 390), none, (.ref 163), .none, 0⟩, #[]⟩ (st 20) rfl
noncomputable abbrev k165 (P : Params) : Obj := ⟨(.type "tuple"), none, (.seq #[] 0), #[]⟩
noncomputable abbrev k167 (P : Params) : Obj := ⟨(.type "tuple"), none, (.seq #[(.str (.ofString "text") 446)] 0), #[]⟩
noncomputable abbrev k168 (P : Params) : Obj := ⟨(.type "tuple"), none, (.seq #[] 0), #[]⟩
noncomputable abbrev k170 (P : Params) : Obj := ⟨(.type "code"), none, (.fields #[(.str (.ofString "without_blanks") 443), (.str (.ofString "without_blanks") 444), (.str (.ofString "/claim/cut.py") 445), (.int 112 0), (.int 1 0), (.int 0 0), (.int 0 0), (.int 3 0), (.ref 165), (.bool true), (.int 181 0), (.ref 166), .none, (.ref 167), (.ref 168), (.ref 169), (.int 447 0), (.int 112 0), (.str (.ofString "/claim/cut.py") 448)]), #[]⟩
noncomputable abbrev k171 (P : Params) : Obj := fnOf ⟨(.type "function"), none, .func ⟨(.ofString "without_blanks"), (.ofString "without_blanks"), _, (.stmts _), _, 3, [], .none, .none, .none, (.str (.ofString "f77.source") 390), none, (.ref 170), .none, 0⟩, #[]⟩ (st 21) rfl
noncomputable abbrev k172 (P : Params) : Obj := ⟨(.type "tuple"), none, (.seq #[] 0), #[]⟩
noncomputable abbrev k174 (P : Params) : Obj := ⟨(.type "tuple"), none, (.seq #[(.str (.ofString "row") 453), (.str (.ofString "columns") 454)] 0), #[]⟩
noncomputable abbrev k175 (P : Params) : Obj := ⟨(.type "tuple"), none, (.seq #[] 0), #[]⟩
noncomputable abbrev k177 (P : Params) : Obj := ⟨(.type "code"), none, (.fields #[(.str (.ofString "is_comment") 450), (.str (.ofString "is_comment") 451), (.str (.ofString "/claim/cut.py") 452), (.int 114 0), (.int 2 0), (.int 0 0), (.int 0 0), (.int 3 0), (.ref 172), (.bool true), (.int 181 0), (.ref 173), .none, (.ref 174), (.ref 175), (.ref 176), (.int 455 0), (.int 114 0), (.str (.ofString "/claim/cut.py") 456)]), #[]⟩
noncomputable abbrev k178 (P : Params) : Obj := fnOf ⟨(.type "function"), none, .func ⟨(.ofString "is_comment"), (.ofString "is_comment"), _, (.stmts _), _, 3, [], .none, .none, .none, (.str (.ofString "f77.source") 390), none, (.ref 177), .none, 0⟩, #[]⟩ (st 22) rfl
noncomputable abbrev k179 (P : Params) : Obj := ⟨(.type "tuple"), none, (.seq #[] 0), #[]⟩
noncomputable abbrev k181 (P : Params) : Obj := ⟨(.type "tuple"), none, (.seq #[(.str (.ofString "text") 461), (.str (.ofString "limits") 462), (.str (.ofString "cards") 463), (.str (.ofString "line") 464), (.str (.ofString "row") 465), (.str (.ofString "seen") 466)] 0), #[]⟩
noncomputable abbrev k182 (P : Params) : Obj := ⟨(.type "tuple"), none, (.seq #[] 0), #[]⟩
noncomputable abbrev k184 (P : Params) : Obj := ⟨(.type "code"), none, (.fields #[(.str (.ofString "read_cards") 458), (.str (.ofString "read_cards") 459), (.str (.ofString "/claim/cut.py") 460), (.int 116 0), (.int 2 0), (.int 0 0), (.int 0 0), (.int 3 0), (.ref 179), (.bool true), (.int 181 0), (.ref 180), .none, (.ref 181), (.ref 182), (.ref 183), (.int 467 0), (.int 116 0), (.str (.ofString "/claim/cut.py") 468)]), #[]⟩
noncomputable abbrev k185 (P : Params) : Obj := fnOf ⟨(.type "function"), none, .func ⟨(.ofString "read_cards"), (.ofString "read_cards"), _, (.stmts _), _, 3, [], .none, .none, .none, (.str (.ofString "f77.source") 390), none, (.ref 184), .none, 0⟩, #[]⟩ (st 23) rfl
noncomputable abbrev k186 (P : Params) : Obj := ⟨(.type "tuple"), none, (.seq #[] 0), #[]⟩
noncomputable abbrev k188 (P : Params) : Obj := ⟨(.type "tuple"), none, (.seq #[(.str (.ofString "card") 473)] 0), #[]⟩
noncomputable abbrev k189 (P : Params) : Obj := ⟨(.type "tuple"), none, (.seq #[] 0), #[]⟩
noncomputable abbrev k191 (P : Params) : Obj := ⟨(.type "code"), none, (.fields #[(.str (.ofString "is_continuation") 470), (.str (.ofString "is_continuation") 471), (.str (.ofString "/claim/cut.py") 472), (.int 126 0), (.int 1 0), (.int 0 0), (.int 0 0), (.int 3 0), (.ref 186), (.bool true), (.int 181 0), (.ref 187), .none, (.ref 188), (.ref 189), (.ref 190), (.int 474 0), (.int 126 0), (.str (.ofString "/claim/cut.py") 475)]), #[]⟩
noncomputable abbrev k192 (P : Params) : Obj := fnOf ⟨(.type "function"), none, .func ⟨(.ofString "is_continuation"), (.ofString "is_continuation"), _, (.stmts _), _, 3, [], .none, .none, .none, (.str (.ofString "f77.source") 390), none, (.ref 191), .none, 0⟩, #[]⟩ (st 24) rfl
noncomputable abbrev k193 (P : Params) : Obj := ⟨(.type "tuple"), none, (.seq #[] 0), #[]⟩
noncomputable abbrev k195 (P : Params) : Obj := ⟨(.type "tuple"), none, (.seq #[(.str (.ofString "card") 480), (.str (.ofString "digits") 481), (.str (.ofString "label") 482), (.str (.ofString "sign") 483), (.str (.ofString "digit") 484)] 0), #[]⟩
noncomputable abbrev k196 (P : Params) : Obj := ⟨(.type "tuple"), none, (.seq #[] 0), #[]⟩
noncomputable abbrev k198 (P : Params) : Obj := ⟨(.type "code"), none, (.fields #[(.str (.ofString "read_label") 477), (.str (.ofString "read_label") 478), (.str (.ofString "/claim/cut.py") 479), (.int 128 0), (.int 1 0), (.int 0 0), (.int 0 0), (.int 3 0), (.ref 193), (.bool true), (.int 181 0), (.ref 194), .none, (.ref 195), (.ref 196), (.ref 197), (.int 485 0), (.int 128 0), (.str (.ofString "/claim/cut.py") 486)]), #[]⟩
noncomputable abbrev k199 (P : Params) : Obj := fnOf ⟨(.type "function"), none, .func ⟨(.ofString "read_label"), (.ofString "read_label"), _, (.stmts _), _, 3, [], .none, .none, .none, (.str (.ofString "f77.source") 390), none, (.ref 198), .none, 0⟩, #[]⟩ (st 25) rfl
noncomputable abbrev k200 (P : Params) : Obj := ⟨(.type "tuple"), none, (.seq #[] 0), #[]⟩
noncomputable abbrev k202 (P : Params) : Obj := ⟨(.type "tuple"), none, (.seq #[(.str (.ofString "body") 491), (.str (.ofString "width") 492)] 0), #[]⟩
noncomputable abbrev k203 (P : Params) : Obj := ⟨(.type "tuple"), none, (.seq #[] 0), #[]⟩
noncomputable abbrev k205 (P : Params) : Obj := ⟨(.type "code"), none, (.fields #[(.str (.ofString "padded") 488), (.str (.ofString "padded") 489), (.str (.ofString "/claim/cut.py") 490), (.int 141 0), (.int 2 0), (.int 0 0), (.int 0 0), (.int 3 0), (.ref 200), (.bool true), (.int 181 0), (.ref 201), .none, (.ref 202), (.ref 203), (.ref 204), (.int 493 0), (.int 141 0), (.str (.ofString "/claim/cut.py") 494)]), #[]⟩
noncomputable abbrev k206 (P : Params) : Obj := fnOf ⟨(.type "function"), none, .func ⟨(.ofString "padded"), (.ofString "padded"), _, (.stmts _), _, 3, [], .none, .none, .none, (.str (.ofString "f77.source") 390), none, (.ref 205), .none, 0⟩, #[]⟩ (st 26) rfl
noncomputable abbrev k207 (P : Params) : Obj := ⟨(.type "tuple"), none, (.seq #[] 0), #[]⟩
noncomputable abbrev k209 (P : Params) : Obj := ⟨(.type "tuple"), none, (.seq #[(.str (.ofString "rows") 499), (.str (.ofString "width") 500), (.str (.ofString "first") 501), (.str (.ofString "text") 502), (.str (.ofString "at") 503)] 0), #[]⟩
noncomputable abbrev k210 (P : Params) : Obj := ⟨(.type "tuple"), none, (.seq #[] 0), #[]⟩
noncomputable abbrev k212 (P : Params) : Obj := ⟨(.type "code"), none, (.fields #[(.str (.ofString "joined") 496), (.str (.ofString "joined") 497), (.str (.ofString "/claim/cut.py") 498), (.int 145 0), (.int 2 0), (.int 0 0), (.int 0 0), (.int 3 0), (.ref 207), (.bool true), (.int 181 0), (.ref 208), .none, (.ref 209), (.ref 210), (.ref 211), (.int 504 0), (.int 145 0), (.str (.ofString "/claim/cut.py") 505)]), #[]⟩
noncomputable abbrev k213 (P : Params) : Obj := fnOf ⟨(.type "function"), none, .func ⟨(.ofString "joined"), (.ofString "joined"), _, (.stmts _), _, 3, [], .none, .none, .none, (.str (.ofString "f77.source") 390), none, (.ref 212), .none, 0⟩, #[]⟩ (st 27) rfl
noncomputable abbrev k214 (P : Params) : Obj := ⟨(.type "tuple"), none, (.seq #[] 0), #[]⟩
noncomputable abbrev k216 (P : Params) : Obj := ⟨(.type "tuple"), none, (.seq #[(.str (.ofString "card") 510), (.str (.ofString "rows") 511), (.str (.ofString "limits") 512)] 0), #[]⟩
noncomputable abbrev k217 (P : Params) : Obj := ⟨(.type "tuple"), none, (.seq #[] 0), #[]⟩
noncomputable abbrev k219 (P : Params) : Obj := ⟨(.type "code"), none, (.fields #[(.str (.ofString "check_continuation") 507), (.str (.ofString "check_continuation") 508), (.str (.ofString "/claim/cut.py") 509), (.int 156 0), (.int 3 0), (.int 0 0), (.int 0 0), (.int 3 0), (.ref 214), (.bool true), (.int 181 0), (.ref 215), .none, (.ref 216), (.ref 217), (.ref 218), (.int 513 0), (.int 156 0), (.str (.ofString "/claim/cut.py") 514)]), #[]⟩
noncomputable abbrev k220 (P : Params) : Obj := fnOf ⟨(.type "function"), none, .func ⟨(.ofString "check_continuation"), (.ofString "check_continuation"), _, (.stmts _), _, 3, [], .none, .none, .none, (.str (.ofString "f77.source") 390), none, (.ref 219), .none, 0⟩, #[]⟩ (st 28) rfl
noncomputable abbrev k221 (P : Params) : Obj := ⟨(.type "tuple"), none, (.seq #[] 0), #[]⟩
noncomputable abbrev k223 (P : Params) : Obj := ⟨(.type "tuple"), none, (.seq #[(.str (.ofString "cards") 519), (.str (.ofString "limits") 520), (.str (.ofString "out") 521), (.str (.ofString "rows") 522), (.str (.ofString "width") 523), (.str (.ofString "card") 524)] 0), #[]⟩
noncomputable abbrev k224 (P : Params) : Obj := ⟨(.type "tuple"), none, (.seq #[] 0), #[]⟩
noncomputable abbrev k226 (P : Params) : Obj := ⟨(.type "code"), none, (.fields #[(.str (.ofString "statements_of") 516), (.str (.ofString "statements_of") 517), (.str (.ofString "/claim/cut.py") 518), (.int 165 0), (.int 2 0), (.int 0 0), (.int 0 0), (.int 3 0), (.ref 221), (.bool true), (.int 181 0), (.ref 222), .none, (.ref 223), (.ref 224), (.ref 225), (.int 525 0), (.int 165 0), (.str (.ofString "/claim/cut.py") 526)]), #[]⟩
noncomputable abbrev k227 (P : Params) : Obj := fnOf ⟨(.type "function"), none, .func ⟨(.ofString "statements_of"), (.ofString "statements_of"), _, (.stmts _), _, 3, [], .none, .none, .none, (.str (.ofString "f77.source") 390), none, (.ref 226), .none, 0⟩, #[]⟩ (st 29) rfl
noncomputable abbrev k228 (P : Params) : Obj := ⟨(.type "tuple"), none, (.seq #[] 0), #[]⟩
noncomputable abbrev k230 (P : Params) : Obj := ⟨(.type "tuple"), none, (.seq #[(.str (.ofString "text") 531), (.str (.ofString "limits") 532)] 0), #[]⟩
noncomputable abbrev k231 (P : Params) : Obj := ⟨(.type "tuple"), none, (.seq #[] 0), #[]⟩
noncomputable abbrev k233 (P : Params) : Obj := ⟨(.type "code"), none, (.fields #[(.str (.ofString "read_statements") 528), (.str (.ofString "read_statements") 529), (.str (.ofString "/claim/cut.py") 530), (.int 181 0), (.int 2 0), (.int 0 0), (.int 0 0), (.int 3 0), (.ref 228), (.bool true), (.int 181 0), (.ref 229), .none, (.ref 230), (.ref 231), (.ref 232), (.int 533 0), (.int 181 0), (.str (.ofString "/claim/cut.py") 534)]), #[]⟩
noncomputable abbrev k234 (P : Params) : Obj := fnOf ⟨(.type "function"), none, .func ⟨(.ofString "read_statements"), (.ofString "read_statements"), _, (.stmts _), _, 3, [], .none, .none, .none, (.str (.ofString "f77.source") 390), none, (.ref 233), .none, 0⟩, #[]⟩ (st 30) rfl
noncomputable abbrev k235 (P : Params) : Obj := ⟨(.type "tuple"), none, (.seq #[] 0), #[]⟩
noncomputable abbrev k237 (P : Params) : Obj := ⟨(.type "tuple"), none, (.seq #[] 0), #[]⟩
noncomputable abbrev k238 (P : Params) : Obj := ⟨(.type "tuple"), none, (.seq #[] 0), #[]⟩
noncomputable abbrev k240 (P : Params) : Obj := ⟨(.type "code"), none, (.fields #[(.str (.ofString "_law_plain") 538), (.str (.ofString "_law_plain") 539), (.str (.ofString "/claim/cut.py") 540), (.int 184 0), (.int 0 0), (.int 0 0), (.int 0 0), (.int 3 0), (.ref 235), (.bool true), (.int 181 0), (.ref 236), .none, (.ref 237), (.ref 238), (.ref 239), (.int 541 0), (.int 184 0), (.str (.ofString "/claim/cut.py") 542)]), #[]⟩
noncomputable abbrev k241 (P : Params) : Obj := fnOf ⟨(.type "function"), none, .func ⟨(.ofString "_law_plain"), (.ofString "_law_plain"), _, (.stmts _), _, 3, [], .none, .none, .none, (.str (.ofString "law_no0243_01") 536), none, (.ref 240), .none, 0⟩, #[]⟩ (st 32) rfl
noncomputable abbrev k242 (P : Params) : Obj := ⟨(.type "tuple"), none, (.seq #[] 0), #[]⟩
noncomputable abbrev k244 (P : Params) : Obj := ⟨(.type "tuple"), none, (.seq #[] 0), #[]⟩
noncomputable abbrev k245 (P : Params) : Obj := ⟨(.type "tuple"), none, (.seq #[] 0), #[]⟩
noncomputable abbrev k247 (P : Params) : Obj := ⟨(.type "code"), none, (.fields #[(.str (.ofString "_law_inner") 544), (.str (.ofString "_law_inner") 545), (.str (.ofString "/claim/cut.py") 546), (.int 186 0), (.int 0 0), (.int 0 0), (.int 0 0), (.int 3 0), (.ref 242), (.bool true), (.int 181 0), (.ref 243), .none, (.ref 244), (.ref 245), (.ref 246), (.int 547 0), (.int 186 0), (.str (.ofString "/claim/cut.py") 548)]), #[]⟩
noncomputable abbrev k248 (P : Params) : Obj := fnOf ⟨(.type "function"), none, .func ⟨(.ofString "_law_inner"), (.ofString "_law_inner"), _, (.stmts _), _, 3, [], .none, .none, .none, (.str (.ofString "law_no0243_01") 536), none, (.ref 247), .none, 0⟩, #[]⟩ (st 33) rfl
noncomputable abbrev k249 (P : Params) : Obj := ⟨(.type "tuple"), none, (.seq #[] 0), #[]⟩
noncomputable abbrev k251 (P : Params) : Obj := ⟨(.type "tuple"), none, (.seq #[] 0), #[]⟩
noncomputable abbrev k252 (P : Params) : Obj := ⟨(.type "tuple"), none, (.seq #[] 0), #[]⟩
noncomputable abbrev k254 (P : Params) : Obj := ⟨(.type "code"), none, (.fields #[(.str (.ofString "_law_wrong") 550), (.str (.ofString "_law_wrong") 551), (.str (.ofString "/claim/cut.py") 552), (.int 188 0), (.int 0 0), (.int 0 0), (.int 0 0), (.int 3 0), (.ref 249), (.bool true), (.int 181 0), (.ref 250), .none, (.ref 251), (.ref 252), (.ref 253), (.int 553 0), (.int 188 0), (.str (.ofString "/claim/cut.py") 554)]), #[]⟩
noncomputable abbrev k255 (P : Params) : Obj := fnOf ⟨(.type "function"), none, .func ⟨(.ofString "_law_wrong"), (.ofString "_law_wrong"), _, (.stmts _), _, 3, [], .none, .none, .none, (.str (.ofString "law_no0243_01") 536), none, (.ref 254), .none, 0⟩, #[]⟩ (st 34) rfl
noncomputable abbrev k256 (P : Params) : Obj := ⟨(.type "tuple"), none, (.seq #[] 0), #[]⟩
noncomputable abbrev k258 (P : Params) : Obj := ⟨(.type "tuple"), none, (.seq #[(.str (.ofString "piece") 559), (.str (.ofString "n") 560), (.str (.ofString "text") 561), (.str (.ofString "sign") 562)] 0), #[]⟩
noncomputable abbrev k259 (P : Params) : Obj := ⟨(.type "tuple"), none, (.seq #[] 0), #[]⟩
noncomputable abbrev k261 (P : Params) : Obj := ⟨(.type "code"), none, (.fields #[(.str (.ofString "_law_laid") 556), (.str (.ofString "_law_laid") 557), (.str (.ofString "/claim/cut.py") 558), (.int 190 0), (.int 2 0), (.int 0 0), (.int 0 0), (.int 3 0), (.ref 256), (.bool true), (.int 181 0), (.ref 257), .none, (.ref 258), (.ref 259), (.ref 260), (.int 563 0), (.int 190 0), (.str (.ofString "/claim/cut.py") 564)]), #[]⟩
noncomputable abbrev k262 (P : Params) : Obj := fnOf ⟨(.type "function"), none, .func ⟨(.ofString "_law_laid"), (.ofString "_law_laid"), _, (.stmts _), _, 3, [], .none, .none, .none, (.str (.ofString "law_no0243_01") 536), none, (.ref 261), .none, 0⟩, #[]⟩ (st 35) rfl
noncomputable abbrev k263 (P : Params) : Obj := ⟨(.type "tuple"), none, (.seq #[] 0), #[]⟩
noncomputable abbrev k265 (P : Params) : Obj := ⟨(.type "tuple"), none, (.seq #[(.str (.ofString "n") 569), (.str (.ofString "seed") 570), (.str (.ofString "inner") 571), (.str (.ofString "ahead") 572), (.str (.ofString "piece") 573), (.str (.ofString "want") 574)] 0), #[]⟩
noncomputable abbrev k266 (P : Params) : Obj := ⟨(.type "tuple"), none, (.seq #[] 0), #[]⟩
noncomputable abbrev k268 (P : Params) : Obj := ⟨(.type "code"), none, (.fields #[(.str (.ofString "_law_piece") 566), (.str (.ofString "_law_piece") 567), (.str (.ofString "/claim/cut.py") 568), (.int 200 0), (.int 2 0), (.int 0 0), (.int 0 0), (.int 3 0), (.ref 263), (.bool true), (.int 181 0), (.ref 264), .none, (.ref 265), (.ref 266), (.ref 267), (.int 575 0), (.int 200 0), (.str (.ofString "/claim/cut.py") 576)]), #[]⟩
noncomputable abbrev k269 (P : Params) : Obj := fnOf ⟨(.type "function"), none, .func ⟨(.ofString "_law_piece"), (.ofString "_law_piece"), _, (.stmts _), _, 3, [], .none, .none, .none, (.str (.ofString "law_no0243_01") 536), none, (.ref 268), .none, 0⟩, #[]⟩ (st 36) rfl
noncomputable abbrev k270 (P : Params) : Obj := ⟨(.type "tuple"), none, (.seq #[] 0), #[]⟩
noncomputable abbrev k272 (P : Params) : Obj := ⟨(.type "tuple"), none, (.seq #[(.str (.ofString "text") 581), (.str (.ofString "width") 582), (.str (.ofString "seed") 583), (.str (.ofString "rows") 584), (.str (.ofString "at") 585), (.str (.ofString "part") 586)] 0), #[]⟩
noncomputable abbrev k273 (P : Params) : Obj := ⟨(.type "tuple"), none, (.seq #[] 0), #[]⟩
noncomputable abbrev k275 (P : Params) : Obj := ⟨(.type "code"), none, (.fields #[(.str (.ofString "_law_rows") 578), (.str (.ofString "_law_rows") 579), (.str (.ofString "/claim/cut.py") 580), (.int 210 0), (.int 3 0), (.int 0 0), (.int 0 0), (.int 3 0), (.ref 270), (.bool true), (.int 181 0), (.ref 271), .none, (.ref 272), (.ref 273), (.ref 274), (.int 587 0), (.int 210 0), (.str (.ofString "/claim/cut.py") 588)]), #[]⟩
noncomputable abbrev k276 (P : Params) : Obj := fnOf ⟨(.type "function"), none, .func ⟨(.ofString "_law_rows"), (.ofString "_law_rows"), _, (.stmts _), _, 3, [], .none, .none, .none, (.str (.ofString "law_no0243_01") 536), none, (.ref 275), .none, 0⟩, #[]⟩ (st 37) rfl
noncomputable abbrev k277 (P : Params) : Obj := ⟨(.type "tuple"), none, (.seq #[] 0), #[]⟩
noncomputable abbrev k280 (P : Params) : Obj := ⟨(.type "code"), none, (.fields #[(.str (.ofString "law") 590), (.str (.ofString "law") 591), (.str (.ofString "/claim/cut.py") 592), (.int 223 0), (.int 1 0), (.int 0 0), (.int 0 0), (.int 3 0), (.ref 277), (.bool true), (.int 181 0), (.ref 278), .none, .none, .none, (.ref 279), (.int 593 0), (.int 223 0), (.str (.ofString "/claim/cut.py") 594)]), #[]⟩
noncomputable abbrev k281 (P : Params) : Obj := fnOf ⟨(.type "function"), none, .func ⟨(.ofString "law"), (.ofString "law"), _, (.stmts _), _, 3, [], .none, .none, .none, (.str (.ofString "law_no0243_01") 536), none, (.ref 280), .none, 0⟩, #[]⟩ (st 38) rfl
noncomputable def topK : Params → Frag := fun P => (nat_lit 2, k2 P) :: (nat_lit 3, k3 P) :: (nat_lit 15, k15 P) :: (nat_lit 22, k22 P) :: (nat_lit 24, k24 P) :: (nat_lit 25, k25 P) :: (nat_lit 27, k27 P) :: (nat_lit 28, k28 P) :: (nat_lit 29, k29 P) :: (nat_lit 30, k30 P) :: (nat_lit 31, k31 P) :: (nat_lit 32, k32 P) :: (nat_lit 35, k35 P) :: (nat_lit 42, k42 P) :: (nat_lit 44, k44 P) :: (nat_lit 45, k45 P) :: (nat_lit 47, k47 P) :: (nat_lit 48, k48 P) :: (nat_lit 49, k49 P) :: (nat_lit 50, k50 P) :: (nat_lit 51, k51 P) :: (nat_lit 54, k54 P) :: (nat_lit 61, k61 P) :: (nat_lit 63, k63 P) :: (nat_lit 64, k64 P) :: (nat_lit 66, k66 P) :: (nat_lit 67, k67 P) :: (nat_lit 68, k68 P) :: (nat_lit 69, k69 P) :: (nat_lit 70, k70 P) :: (nat_lit 73, k73 P) :: (nat_lit 75, k75 P) :: (nat_lit 76, k76 P) :: (nat_lit 78, k78 P) :: (nat_lit 79, k79 P) :: (nat_lit 80, k80 P) :: (nat_lit 82, k82 P) :: (nat_lit 83, k83 P) :: (nat_lit 85, k85 P) :: (nat_lit 86, k86 P) :: (nat_lit 87, k87 P) :: (nat_lit 89, k89 P) :: (nat_lit 90, k90 P) :: (nat_lit 92, k92 P) :: (nat_lit 93, k93 P) :: (nat_lit 94, k94 P) :: (nat_lit 96, k96 P) :: (nat_lit 97, k97 P) :: (nat_lit 99, k99 P) :: (nat_lit 100, k100 P) :: (nat_lit 101, k101 P) :: (nat_lit 103, k103 P) :: (nat_lit 104, k104 P) :: (nat_lit 106, k106 P) :: (nat_lit 107, k107 P) :: (nat_lit 108, k108 P) :: (nat_lit 110, k110 P) :: (nat_lit 111, k111 P) :: (nat_lit 113, k113 P) :: (nat_lit 114, k114 P) :: (nat_lit 122, k122 P) :: (nat_lit 123, k123 P) :: (nat_lit 125, k125 P) :: (nat_lit 126, k126 P) :: (nat_lit 128, k128 P) :: (nat_lit 129, k129 P) :: (nat_lit 130, k130 P) :: (nat_lit 131, k131 P) :: (nat_lit 132, k132 P) :: (nat_lit 133, k133 P) :: (nat_lit 134, k134 P) :: (nat_lit 144, k144 P) :: (nat_lit 146, k146 P) :: (nat_lit 147, k147 P) :: (nat_lit 149, k149 P) :: (nat_lit 150, k150 P) :: (nat_lit 151, k151 P) :: (nat_lit 152, k152 P) :: (nat_lit 153, k153 P) :: (nat_lit 154, k154 P) :: (nat_lit 155, k155 P) :: (nat_lit 158, k158 P) :: (nat_lit 160, k160 P) :: (nat_lit 161, k161 P) :: (nat_lit 163, k163 P) :: (nat_lit 164, k164 P) :: (nat_lit 165, k165 P) :: (nat_lit 167, k167 P) :: (nat_lit 168, k168 P) :: (nat_lit 170, k170 P) :: (nat_lit 171, k171 P) :: (nat_lit 172, k172 P) :: (nat_lit 174, k174 P) :: (nat_lit 175, k175 P) :: (nat_lit 177, k177 P) :: (nat_lit 178, k178 P) :: (nat_lit 179, k179 P) :: (nat_lit 181, k181 P) :: (nat_lit 182, k182 P) :: (nat_lit 184, k184 P) :: (nat_lit 185, k185 P) :: (nat_lit 186, k186 P) :: (nat_lit 188, k188 P) :: (nat_lit 189, k189 P) :: (nat_lit 191, k191 P) :: (nat_lit 192, k192 P) :: (nat_lit 193, k193 P) :: (nat_lit 195, k195 P) :: (nat_lit 196, k196 P) :: (nat_lit 198, k198 P) :: (nat_lit 199, k199 P) :: (nat_lit 200, k200 P) :: (nat_lit 202, k202 P) :: (nat_lit 203, k203 P) :: (nat_lit 205, k205 P) :: (nat_lit 206, k206 P) :: (nat_lit 207, k207 P) :: (nat_lit 209, k209 P) :: (nat_lit 210, k210 P) :: (nat_lit 212, k212 P) :: (nat_lit 213, k213 P) :: (nat_lit 214, k214 P) :: (nat_lit 216, k216 P) :: (nat_lit 217, k217 P) :: (nat_lit 219, k219 P) :: (nat_lit 220, k220 P) :: (nat_lit 221, k221 P) :: (nat_lit 223, k223 P) :: (nat_lit 224, k224 P) :: (nat_lit 226, k226 P) :: (nat_lit 227, k227 P) :: (nat_lit 228, k228 P) :: (nat_lit 230, k230 P) :: (nat_lit 231, k231 P) :: (nat_lit 233, k233 P) :: (nat_lit 234, k234 P) :: (nat_lit 235, k235 P) :: (nat_lit 237, k237 P) :: (nat_lit 238, k238 P) :: (nat_lit 240, k240 P) :: (nat_lit 241, k241 P) :: (nat_lit 242, k242 P) :: (nat_lit 244, k244 P) :: (nat_lit 245, k245 P) :: (nat_lit 247, k247 P) :: (nat_lit 248, k248 P) :: (nat_lit 249, k249 P) :: (nat_lit 251, k251 P) :: (nat_lit 252, k252 P) :: (nat_lit 254, k254 P) :: (nat_lit 255, k255 P) :: (nat_lit 256, k256 P) :: (nat_lit 258, k258 P) :: (nat_lit 259, k259 P) :: (nat_lit 261, k261 P) :: (nat_lit 262, k262 P) :: (nat_lit 263, k263 P) :: (nat_lit 265, k265 P) :: (nat_lit 266, k266 P) :: (nat_lit 268, k268 P) :: (nat_lit 269, k269 P) :: (nat_lit 270, k270 P) :: (nat_lit 272, k272 P) :: (nat_lit 273, k273 P) :: (nat_lit 275, k275 P) :: (nat_lit 276, k276 P) :: (nat_lit 277, k277 P) :: (nat_lit 280, k280 P) :: (nat_lit 281, k281 P) :: []
noncomputable abbrev kAs : List Addr := nat_lit 2 :: nat_lit 3 :: nat_lit 15 :: nat_lit 22 :: nat_lit 24 :: nat_lit 25 :: nat_lit 27 :: nat_lit 28 :: nat_lit 29 :: nat_lit 30 :: nat_lit 31 :: nat_lit 32 :: nat_lit 35 :: nat_lit 42 :: nat_lit 44 :: nat_lit 45 :: nat_lit 47 :: nat_lit 48 :: nat_lit 49 :: nat_lit 50 :: nat_lit 51 :: nat_lit 54 :: nat_lit 61 :: nat_lit 63 :: nat_lit 64 :: nat_lit 66 :: nat_lit 67 :: nat_lit 68 :: nat_lit 69 :: nat_lit 70 :: nat_lit 73 :: nat_lit 75 :: nat_lit 76 :: nat_lit 78 :: nat_lit 79 :: nat_lit 80 :: nat_lit 82 :: nat_lit 83 :: nat_lit 85 :: nat_lit 86 :: nat_lit 87 :: nat_lit 89 :: nat_lit 90 :: nat_lit 92 :: nat_lit 93 :: nat_lit 94 :: nat_lit 96 :: nat_lit 97 :: nat_lit 99 :: nat_lit 100 :: nat_lit 101 :: nat_lit 103 :: nat_lit 104 :: nat_lit 106 :: nat_lit 107 :: nat_lit 108 :: nat_lit 110 :: nat_lit 111 :: nat_lit 113 :: nat_lit 114 :: nat_lit 122 :: nat_lit 123 :: nat_lit 125 :: nat_lit 126 :: nat_lit 128 :: nat_lit 129 :: nat_lit 130 :: nat_lit 131 :: nat_lit 132 :: nat_lit 133 :: nat_lit 134 :: nat_lit 144 :: nat_lit 146 :: nat_lit 147 :: nat_lit 149 :: nat_lit 150 :: nat_lit 151 :: nat_lit 152 :: nat_lit 153 :: nat_lit 154 :: nat_lit 155 :: nat_lit 158 :: nat_lit 160 :: nat_lit 161 :: nat_lit 163 :: nat_lit 164 :: nat_lit 165 :: nat_lit 167 :: nat_lit 168 :: nat_lit 170 :: nat_lit 171 :: nat_lit 172 :: nat_lit 174 :: nat_lit 175 :: nat_lit 177 :: nat_lit 178 :: nat_lit 179 :: nat_lit 181 :: nat_lit 182 :: nat_lit 184 :: nat_lit 185 :: nat_lit 186 :: nat_lit 188 :: nat_lit 189 :: nat_lit 191 :: nat_lit 192 :: nat_lit 193 :: nat_lit 195 :: nat_lit 196 :: nat_lit 198 :: nat_lit 199 :: nat_lit 200 :: nat_lit 202 :: nat_lit 203 :: nat_lit 205 :: nat_lit 206 :: nat_lit 207 :: nat_lit 209 :: nat_lit 210 :: nat_lit 212 :: nat_lit 213 :: nat_lit 214 :: nat_lit 216 :: nat_lit 217 :: nat_lit 219 :: nat_lit 220 :: nat_lit 221 :: nat_lit 223 :: nat_lit 224 :: nat_lit 226 :: nat_lit 227 :: nat_lit 228 :: nat_lit 230 :: nat_lit 231 :: nat_lit 233 :: nat_lit 234 :: nat_lit 235 :: nat_lit 237 :: nat_lit 238 :: nat_lit 240 :: nat_lit 241 :: nat_lit 242 :: nat_lit 244 :: nat_lit 245 :: nat_lit 247 :: nat_lit 248 :: nat_lit 249 :: nat_lit 251 :: nat_lit 252 :: nat_lit 254 :: nat_lit 255 :: nat_lit 256 :: nat_lit 258 :: nat_lit 259 :: nat_lit 261 :: nat_lit 262 :: nat_lit 263 :: nat_lit 265 :: nat_lit 266 :: nat_lit 268 :: nat_lit 269 :: nat_lit 270 :: nat_lit 272 :: nat_lit 273 :: nat_lit 275 :: nat_lit 276 :: nat_lit 277 :: nat_lit 280 :: nat_lit 281 :: []
theorem kAs_eq : ∀ P, kAs = (topK P).map (·.1) := fun _ => by kernel_rfl
noncomputable abbrev hk : Hook := kHook topK kAs kAs_eq
theorem said : OpenLaw.wellSaid rw1 = true := by
  unfold OpenLaw.wellSaid OpenRow.wellSaid OpenRow.partSaid looksOpen
  repeat' with_reducible refine look_both ?_ ?_
  all_goals as_aux_lemma => decide +kernel
noncomputable abbrev q10 (P : Params) : Obj := ⟨(.type "code"), none, (.fields #[(.str (.ofString "<module>") 182), (.str (.ofString "<module>") 183), (.str (.ofString "/claim/cut.py") 184), (.int 1 0), (.int 0 0), (.int 0 0), (.int 0 0), (.int 0 0), (.ref 11), (.bool false), (.int 181 0), (.ref 12), .none, .none, .none, .none, (.int 185 0), (.int 1 0), (.str (.ofString "/claim/cut.py") 186)]), #[]⟩
noncomputable abbrev q11 (P : Params) : Obj := ⟨(.type "frame"), none, .plain, #[(some (.ref 13)), (some (.ref 3)), (some (.ref 3)), none, (some (.str (.ofString "__main__") 164)), none, (some (.ref 0))]⟩
noncomputable def Sa_objs (P : Params) : List Obj := [boot_o_0 P, boot_o_1 P, boot_o_2 P, boot_o_3 P, boot_o_4 P, boot_o_5 P, boot_o_6 P, k277 P, boot_o_8 P, boot_o_9 P, boot_o_10 P, k277 P, boot_o_8 P, q10 P, q11 P]
noncomputable def Sa (P : Params) : Heap := ⟨⟨Sa_objs P⟩, ⟨[], [], [], 0, [], [], false, #[], [], 0, false, false, false, 0, [2000, 10, 10], false, 0, true, [], [], 0, false⟩⟩
noncomputable abbrev q12 (P : Params) : Obj := ⟨(.type "dict"), none, (.dict #[⟨PyData.keyHash P (.ofString "__name__"), (.str (.ofString "__name__") 165), (.str (.ofString "f77.errors") 187)⟩, ⟨PyData.keyHash P (.ofString "__doc__"), (.str (.ofString "__doc__") 166), .none⟩, ⟨PyData.keyHash P (.ofString "__package__"), (.str (.ofString "__package__") 167), .none⟩, ⟨PyData.keyHash P (.ofString "__loader__"), (.str (.ofString "__loader__") 168), (.builtin "__main__.__loader__#opaque")⟩, ⟨PyData.keyHash P (.ofString "__spec__"), (.str (.ofString "__spec__") 169), .none⟩, ⟨PyData.keyHash P (.ofString "__annotations__"), (.str (.ofString "__annotations__") 170), (.ref 6)⟩, ⟨PyData.keyHash P (.ofString "__builtins__"), (.str (.ofString "__builtins__") 171), (.ref 4)⟩, ⟨PyData.keyHash P (.ofString "__file__"), (.str (.ofString "__file__") 173), (.str (.ofString "/claim/cut.py") 172)⟩, ⟨PyData.keyHash P (.ofString "__cached__"), (.str (.ofString "__cached__") 174), .none⟩, ⟨PyData.keyHash P (.ofString "F77Error"), (.str (.ofString "F77Error") 217), (.ref 31)⟩] 10), #[]⟩
noncomputable abbrev q13 (P : Params) : Obj := ⟨.none, none, (.fields #[(.int 2 0), (.int 0 0), (.ref 20)]), #[]⟩
noncomputable abbrev q14 (P : Params) : Obj := ⟨(.type "builtin_function_or_method"), none, (.fields #[(.builtin "type.__prepare__"), (.type "type")]), #[]⟩
noncomputable abbrev q15 (P : Params) : Obj := ⟨(.type "dict"), none, (.dict #[⟨PyData.keyHash P (.ofString "__module__"), (.str (.ofString "__module__") 196), (.str (.ofString "f77.errors") 187)⟩, ⟨PyData.keyHash P (.ofString "__qualname__"), (.str (.ofString "__qualname__") 198), (.str (.ofString "F77Error") 197)⟩, ⟨PyData.keyHash P (.ofString "__firstlineno__"), (.str (.ofString "__firstlineno__") 200), (.int 2 199)⟩, ⟨PyData.keyHash P (.ofString "__init__"), (.str (.ofString "__init__") 208), (.ref 28)⟩, ⟨PyData.keyHash P (.ofString "__static_attributes__"), (.str (.ofString "__static_attributes__") 210), (.ref 29)⟩] 5), #[]⟩
noncomputable abbrev q16 (P : Params) : Obj := ⟨.none, none, (.fields #[(.int 4 0), (.int 4 0), (.ref 27)]), #[]⟩
noncomputable abbrev q17 (P : Params) : Obj := ⟨(.type "code"), none, (.fields #[(.str (.ofString "F77Error") 191), (.str (.ofString "F77Error") 192), (.str (.ofString "/claim/cut.py") 193), (.int 2 0), (.int 0 0), (.int 0 0), (.int 0 0), (.int 0 0), (.ref 18), (.bool false), (.int 181 0), (.ref 19), .none, .none, .none, .none, (.int 194 0), (.int 2 0), (.str (.ofString "/claim/cut.py") 195)]), #[]⟩
noncomputable abbrev q18 (P : Params) : Obj := ⟨(.type "frame"), none, .plain, #[(some (.ref 20)), (some (.ref 3)), (some (.ref 17)), none, (some (.str (.ofString "f77.errors") 187)), none, (some (.ref 0))]⟩
noncomputable abbrev q19 (P : Params) : Obj := fnOf ⟨.none, none, .func ⟨(.ofString "__init__"), (.ofString "F77Error.__init__"), _, (.stmts _), _, 0, [], .none, .none, .none, .none, none, .none, .none, 0⟩, #[]⟩ (me 1 0) rfl
noncomputable abbrev q20 (P : Params) : Obj := ⟨(.type "type"), none, (.cls ⟨(.ofString "F77Error"), [(.type "Exception")], [(.ref 31), (.type "Exception"), (.type "BaseException"), (.type "object")], 30, (.ofString "F77Error"), true, [], [], false, none, false⟩), #[(some (.ref 15)), none, (some (.str (.ofString "F77Error") 189)), (some (.str (.ofString "F77Error") 197)), (some (.builtin "Exception.__new__")), (some (.bool true))]⟩
noncomputable abbrev q21 (P : Params) : Obj := ⟨(.type "super"), none, (.fields #[(.ref 31), (.ref 31), (.ref 31)]), #[]⟩
noncomputable abbrev q22 (P : Params) : Obj := ⟨(.type "builtin_function_or_method"), none, (.fields #[(.builtin "object.__init_subclass__"), (.ref 31)]), #[]⟩
noncomputable def S1_objs (P : Params) : List Obj := [boot_o_0 P, boot_o_1 P, k2 P, q12 P, boot_o_4 P, boot_o_5 P, boot_o_6 P, k277 P, boot_o_8 P, boot_o_9 P, boot_o_10 P, k277 P, q13 P, q10 P, q11 P, k15 P] ++ [q14 P, q15 P, k277 P, q16 P, q17 P, q18 P, k277 P, boot_o_8 P, k24 P, k277 P, q19 P, k27 P, k28 P, k29 P, k30 P, q20 P] ++ [k32 P, q21 P, q22 P]
noncomputable def S1 (P : Params) : Heap := ⟨⟨S1_objs P⟩, ⟨[], [], [], 0, [], [], false, #[], [], 0, false, false, false, 0, [2000, 10, 10], false, 0, true, [], [], 0, false⟩⟩
noncomputable abbrev q23 (P : Params) : Obj := ⟨(.type "dict"), none, (.dict #[⟨PyData.keyHash P (.ofString "__name__"), (.str (.ofString "__name__") 165), (.str (.ofString "f77.errors") 187)⟩, ⟨PyData.keyHash P (.ofString "__doc__"), (.str (.ofString "__doc__") 166), .none⟩, ⟨PyData.keyHash P (.ofString "__package__"), (.str (.ofString "__package__") 167), .none⟩, ⟨PyData.keyHash P (.ofString "__loader__"), (.str (.ofString "__loader__") 168), (.builtin "__main__.__loader__#opaque")⟩, ⟨PyData.keyHash P (.ofString "__spec__"), (.str (.ofString "__spec__") 169), .none⟩, ⟨PyData.keyHash P (.ofString "__annotations__"), (.str (.ofString "__annotations__") 170), (.ref 6)⟩, ⟨PyData.keyHash P (.ofString "__builtins__"), (.str (.ofString "__builtins__") 171), (.ref 4)⟩, ⟨PyData.keyHash P (.ofString "__file__"), (.str (.ofString "__file__") 173), (.str (.ofString "/claim/cut.py") 172)⟩, ⟨PyData.keyHash P (.ofString "__cached__"), (.str (.ofString "__cached__") 174), .none⟩, ⟨PyData.keyHash P (.ofString "F77Error"), (.str (.ofString "F77Error") 217), (.ref 31)⟩, ⟨PyData.keyHash P (.ofString "SourceError"), (.str (.ofString "SourceError") 243), (.ref 51)⟩] 11), #[]⟩
noncomputable abbrev q24 (P : Params) : Obj := ⟨.none, none, (.fields #[(.int 2 0), (.int 0 0), (.ref 20), (.int 7 0), (.int 0 0), (.ref 40)]), #[]⟩
noncomputable abbrev q25 (P : Params) : Obj := ⟨(.type "type"), none, (.cls ⟨(.ofString "F77Error"), [(.type "Exception")], [(.ref 31), (.type "Exception"), (.type "BaseException"), (.type "object")], 30, (.ofString "F77Error"), true, [], [(.ref 51)], false, none, false⟩), #[(some (.ref 15)), none, (some (.str (.ofString "F77Error") 189)), (some (.str (.ofString "F77Error") 197)), (some (.builtin "Exception.__new__")), (some (.bool true))]⟩
noncomputable abbrev q26 (P : Params) : Obj := ⟨(.type "dict"), none, (.dict #[⟨PyData.keyHash P (.ofString "__module__"), (.str (.ofString "__module__") 225), (.str (.ofString "f77.errors") 187)⟩, ⟨PyData.keyHash P (.ofString "__qualname__"), (.str (.ofString "__qualname__") 227), (.str (.ofString "SourceError") 226)⟩, ⟨PyData.keyHash P (.ofString "__firstlineno__"), (.str (.ofString "__firstlineno__") 229), (.int 7 228)⟩, ⟨PyData.keyHash P (.ofString "__init__"), (.str (.ofString "__init__") 238), (.ref 48)⟩, ⟨PyData.keyHash P (.ofString "__static_attributes__"), (.str (.ofString "__static_attributes__") 240), (.ref 49)⟩] 5), #[]⟩
noncomputable abbrev q27 (P : Params) : Obj := ⟨.none, none, (.fields #[(.int 9 0), (.int 4 0), (.ref 47)]), #[]⟩
noncomputable abbrev q28 (P : Params) : Obj := ⟨(.type "code"), none, (.fields #[(.str (.ofString "SourceError") 220), (.str (.ofString "SourceError") 221), (.str (.ofString "/claim/cut.py") 222), (.int 7 0), (.int 0 0), (.int 0 0), (.int 0 0), (.int 0 0), (.ref 38), (.bool false), (.int 181 0), (.ref 39), .none, .none, .none, .none, (.int 223 0), (.int 7 0), (.str (.ofString "/claim/cut.py") 224)]), #[]⟩
noncomputable abbrev q29 (P : Params) : Obj := ⟨(.type "frame"), none, .plain, #[(some (.ref 40)), (some (.ref 3)), (some (.ref 37)), none, (some (.str (.ofString "f77.errors") 187)), none, (some (.ref 0))]⟩
noncomputable abbrev q30 (P : Params) : Obj := fnOf ⟨.none, none, .func ⟨(.ofString "__init__"), (.ofString "SourceError.__init__"), _, (.stmts _), _, 0, [], .none, .none, .none, .none, none, .none, .none, 0⟩, #[]⟩ (me 2 0) rfl
noncomputable abbrev q31 (P : Params) : Obj := ⟨(.type "super"), none, (.fields #[(.ref 51), (.ref 51), (.ref 51)]), #[]⟩
noncomputable abbrev q32 (P : Params) : Obj := ⟨(.type "builtin_function_or_method"), none, (.fields #[(.builtin "object.__init_subclass__"), (.ref 51)]), #[]⟩
noncomputable def S2_objs (P : Params) : List Obj := [boot_o_0 P, boot_o_1 P, k2 P, q23 P, boot_o_4 P, boot_o_5 P, boot_o_6 P, k277 P, boot_o_8 P, boot_o_9 P, boot_o_10 P, k277 P, q24 P, q10 P, q11 P, k15 P] ++ [q14 P, q15 P, k277 P, q16 P, q17 P, q18 P, k277 P, boot_o_8 P, k24 P, k277 P, q19 P, k27 P, k28 P, k29 P, k30 P, q25 P] ++ [k32 P, q21 P, q22 P, k54 P, q14 P, q26 P, k277 P, q27 P, q28 P, q29 P, k277 P, boot_o_8 P, k44 P, k277 P, q30 P, k47 P] ++ [k48 P, k49 P, k50 P, k51 P, q31 P, q32 P]
noncomputable def S2 (P : Params) : Heap := ⟨⟨S2_objs P⟩, ⟨[], [], [], 0, [], [], false, #[], [], 0, false, false, false, 0, [2000, 10, 10], false, 0, true, [], [], 0, false⟩⟩
noncomputable abbrev q33 (P : Params) : Obj := ⟨(.type "dict"), none, (.dict #[⟨PyData.keyHash P (.ofString "__name__"), (.str (.ofString "__name__") 165), (.str (.ofString "f77.squeeze") 270)⟩, ⟨PyData.keyHash P (.ofString "__doc__"), (.str (.ofString "__doc__") 166), .none⟩, ⟨PyData.keyHash P (.ofString "__package__"), (.str (.ofString "__package__") 167), .none⟩, ⟨PyData.keyHash P (.ofString "__loader__"), (.str (.ofString "__loader__") 168), (.builtin "__main__.__loader__#opaque")⟩, ⟨PyData.keyHash P (.ofString "__spec__"), (.str (.ofString "__spec__") 169), .none⟩, ⟨PyData.keyHash P (.ofString "__annotations__"), (.str (.ofString "__annotations__") 170), (.ref 6)⟩, ⟨PyData.keyHash P (.ofString "__builtins__"), (.str (.ofString "__builtins__") 171), (.ref 4)⟩, ⟨PyData.keyHash P (.ofString "__file__"), (.str (.ofString "__file__") 173), (.str (.ofString "/claim/cut.py") 172)⟩, ⟨PyData.keyHash P (.ofString "__cached__"), (.str (.ofString "__cached__") 174), .none⟩, ⟨PyData.keyHash P (.ofString "F77Error"), (.str (.ofString "F77Error") 217), (.ref 31)⟩, ⟨PyData.keyHash P (.ofString "SourceError"), (.str (.ofString "SourceError") 243), (.ref 51)⟩, ⟨PyData.keyHash P (.ofString "LexFault"), (.str (.ofString "LexFault") 269), (.ref 70)⟩] 12), #[]⟩
noncomputable abbrev q34 (P : Params) : Obj := ⟨.none, none, (.fields #[(.int 2 0), (.int 0 0), (.ref 20), (.int 7 0), (.int 0 0), (.ref 40), (.int 12 0), (.int 0 0), (.ref 59)]), #[]⟩
noncomputable abbrev q35 (P : Params) : Obj := ⟨(.type "dict"), none, (.dict #[⟨PyData.keyHash P (.ofString "__module__"), (.str (.ofString "__module__") 251), (.str (.ofString "f77.errors") 187)⟩, ⟨PyData.keyHash P (.ofString "__qualname__"), (.str (.ofString "__qualname__") 253), (.str (.ofString "LexFault") 252)⟩, ⟨PyData.keyHash P (.ofString "__firstlineno__"), (.str (.ofString "__firstlineno__") 255), (.int 12 254)⟩, ⟨PyData.keyHash P (.ofString "__init__"), (.str (.ofString "__init__") 264), (.ref 67)⟩, ⟨PyData.keyHash P (.ofString "__static_attributes__"), (.str (.ofString "__static_attributes__") 266), (.ref 68)⟩] 5), #[]⟩
noncomputable abbrev q36 (P : Params) : Obj := ⟨.none, none, (.fields #[(.int 14 0), (.int 4 0), (.ref 66)]), #[]⟩
noncomputable abbrev q37 (P : Params) : Obj := ⟨(.type "code"), none, (.fields #[(.str (.ofString "LexFault") 246), (.str (.ofString "LexFault") 247), (.str (.ofString "/claim/cut.py") 248), (.int 12 0), (.int 0 0), (.int 0 0), (.int 0 0), (.int 0 0), (.ref 57), (.bool false), (.int 181 0), (.ref 58), .none, .none, .none, .none, (.int 249 0), (.int 12 0), (.str (.ofString "/claim/cut.py") 250)]), #[]⟩
noncomputable abbrev q38 (P : Params) : Obj := ⟨(.type "frame"), none, .plain, #[(some (.ref 59)), (some (.ref 3)), (some (.ref 56)), none, (some (.str (.ofString "f77.errors") 187)), none, (some (.ref 0))]⟩
noncomputable abbrev q39 (P : Params) : Obj := fnOf ⟨.none, none, .func ⟨(.ofString "__init__"), (.ofString "LexFault.__init__"), _, (.stmts _), _, 0, [], .none, .none, .none, .none, none, .none, .none, 0⟩, #[]⟩ (me 3 0) rfl
noncomputable abbrev q40 (P : Params) : Obj := ⟨(.type "super"), none, (.fields #[(.ref 70), (.ref 70), (.ref 70)]), #[]⟩
noncomputable abbrev q41 (P : Params) : Obj := ⟨(.type "builtin_function_or_method"), none, (.fields #[(.builtin "object.__init_subclass__"), (.ref 70)]), #[]⟩
noncomputable def S3_objs (P : Params) : List Obj := [boot_o_0 P, boot_o_1 P, k2 P, q33 P, boot_o_4 P, boot_o_5 P, boot_o_6 P, k277 P, boot_o_8 P, boot_o_9 P, boot_o_10 P, k277 P, q34 P, q10 P, q11 P, k15 P] ++ [q14 P, q15 P, k277 P, q16 P, q17 P, q18 P, k277 P, boot_o_8 P, k24 P, k277 P, q19 P, k27 P, k28 P, k29 P, k30 P, k31 P] ++ [k32 P, q21 P, q22 P, k54 P, q14 P, q26 P, k277 P, q27 P, q28 P, q29 P, k277 P, boot_o_8 P, k44 P, k277 P, q30 P, k47 P] ++ [k48 P, k49 P, k50 P, k51 P, q31 P, q32 P, k54 P, q14 P, q35 P, k277 P, q36 P, q37 P, q38 P, k277 P, boot_o_8 P, k63 P] ++ [k277 P, q39 P, k66 P, k67 P, k68 P, k69 P, k70 P, q40 P, q41 P]
noncomputable def S3 (P : Params) : Heap := ⟨⟨S3_objs P⟩, ⟨[], [], [], 0, [], [], false, #[], [], 0, false, false, false, 0, [2000, 10, 10], false, 0, true, [], [], 0, false⟩⟩
noncomputable abbrev q42 (P : Params) : Obj := ⟨(.type "dict"), none, (.dict #[⟨PyData.keyHash P (.ofString "__name__"), (.str (.ofString "__name__") 165), (.str (.ofString "f77.limits") 337)⟩, ⟨PyData.keyHash P (.ofString "__doc__"), (.str (.ofString "__doc__") 166), .none⟩, ⟨PyData.keyHash P (.ofString "__package__"), (.str (.ofString "__package__") 167), .none⟩, ⟨PyData.keyHash P (.ofString "__loader__"), (.str (.ofString "__loader__") 168), (.builtin "__main__.__loader__#opaque")⟩, ⟨PyData.keyHash P (.ofString "__spec__"), (.str (.ofString "__spec__") 169), .none⟩, ⟨PyData.keyHash P (.ofString "__annotations__"), (.str (.ofString "__annotations__") 170), (.ref 6)⟩, ⟨PyData.keyHash P (.ofString "__builtins__"), (.str (.ofString "__builtins__") 171), (.ref 4)⟩, ⟨PyData.keyHash P (.ofString "__file__"), (.str (.ofString "__file__") 173), (.str (.ofString "/claim/cut.py") 172)⟩, ⟨PyData.keyHash P (.ofString "__cached__"), (.str (.ofString "__cached__") 174), .none⟩, ⟨PyData.keyHash P (.ofString "F77Error"), (.str (.ofString "F77Error") 217), (.ref 31)⟩, ⟨PyData.keyHash P (.ofString "SourceError"), (.str (.ofString "SourceError") 243), (.ref 51)⟩, ⟨PyData.keyHash P (.ofString "LexFault"), (.str (.ofString "LexFault") 269), (.ref 70)⟩, ⟨PyData.keyHash P (.ofString "DIGITS_squeeze"), (.str (.ofString "DIGITS_squeeze") 273), (.str (.ofString "0123456789") 272)⟩, ⟨PyData.keyHash P (.ofString "AHEAD_OF_COUNT"), (.str (.ofString "AHEAD_OF_COUNT") 275), (.str (.ofString "(,/:") 274)⟩, ⟨PyData.keyHash P (.ofString "capital"), (.str (.ofString "capital") 282), (.ref 79)⟩, ⟨PyData.keyHash P (.ofString "constant_end"), (.str (.ofString "constant_end") 291), (.ref 86)⟩, ⟨PyData.keyHash P (.ofString "count_end"), (.str (.ofString "count_end") 301), (.ref 93)⟩, ⟨PyData.keyHash P (.ofString "hollerith"), (.str (.ofString "hollerith") 312), (.ref 100)⟩, ⟨PyData.keyHash P (.ofString "squeeze"), (.str (.ofString "squeeze") 326), (.ref 107)⟩, ⟨PyData.keyHash P (.ofString "squeezed"), (.str (.ofString "squeezed") 336), (.ref 114)⟩] 20), #[]⟩
noncomputable abbrev q43 (P : Params) : Obj := ⟨.none, none, (.fields #[(.int 2 0), (.int 0 0), (.ref 20), (.int 7 0), (.int 0 0), (.ref 40), (.int 12 0), (.int 0 0), (.ref 59), (.int 20 0), (.int 0 0), (.ref 78), (.int 24 0), (.int 0 0), (.ref 85), (.int 33 0), (.int 0 0), (.ref 92), (.int 43 0), (.int 0 0), (.ref 99), (.int 51 0), (.int 0 0), (.ref 106), (.int 76 0), (.int 0 0), (.ref 113)]), #[]⟩
noncomputable abbrev q44 (P : Params) : Obj := fnOf ⟨.none, none, .func ⟨(.ofString "capital"), (.ofString "capital"), _, (.stmts _), _, 0, [], .none, .none, .none, .none, none, .none, .none, 0⟩, #[]⟩ (st 7) rfl
noncomputable abbrev q45 (P : Params) : Obj := fnOf ⟨.none, none, .func ⟨(.ofString "constant_end"), (.ofString "constant_end"), _, (.stmts _), _, 0, [], .none, .none, .none, .none, none, .none, .none, 0⟩, #[]⟩ (st 8) rfl
noncomputable abbrev q46 (P : Params) : Obj := fnOf ⟨.none, none, .func ⟨(.ofString "count_end"), (.ofString "count_end"), _, (.stmts _), _, 0, [], .none, .none, .none, .none, none, .none, .none, 0⟩, #[]⟩ (st 9) rfl
noncomputable abbrev q47 (P : Params) : Obj := fnOf ⟨.none, none, .func ⟨(.ofString "hollerith"), (.ofString "hollerith"), _, (.stmts _), _, 0, [], .none, .none, .none, .none, none, .none, .none, 0⟩, #[]⟩ (st 10) rfl
noncomputable abbrev q48 (P : Params) : Obj := fnOf ⟨.none, none, .func ⟨(.ofString "squeeze"), (.ofString "squeeze"), _, (.stmts _), _, 0, [], .none, .none, .none, .none, none, .none, .none, 0⟩, #[]⟩ (st 11) rfl
noncomputable abbrev q49 (P : Params) : Obj := fnOf ⟨.none, none, .func ⟨(.ofString "squeezed"), (.ofString "squeezed"), _, (.stmts _), _, 0, [], .none, .none, .none, .none, none, .none, .none, 0⟩, #[]⟩ (st 12) rfl
noncomputable def S4_objs (P : Params) : List Obj := [boot_o_0 P, boot_o_1 P, k2 P, q42 P, boot_o_4 P, boot_o_5 P, boot_o_6 P, k277 P, boot_o_8 P, boot_o_9 P, boot_o_10 P, k277 P, q43 P, q10 P, q11 P, k15 P] ++ [q14 P, q15 P, k277 P, q16 P, q17 P, q18 P, k277 P, boot_o_8 P, k24 P, k277 P, q19 P, k27 P, k28 P, k29 P, k30 P, k31 P] ++ [k32 P, q21 P, q22 P, k54 P, q14 P, q26 P, k277 P, q27 P, q28 P, q29 P, k277 P, boot_o_8 P, k44 P, k277 P, q30 P, k47 P] ++ [k48 P, k49 P, k50 P, k51 P, q31 P, q32 P, k54 P, q14 P, q35 P, k277 P, q36 P, q37 P, q38 P, k277 P, boot_o_8 P, k63 P] ++ [k277 P, q39 P, k66 P, k67 P, k68 P, k69 P, k70 P, q40 P, q41 P, k277 P, boot_o_8 P, k75 P, k277 P, q44 P, k78 P, k79 P] ++ [k277 P, boot_o_8 P, k82 P, k277 P, q45 P, k85 P, k86 P, k277 P, boot_o_8 P, k89 P, k277 P, q46 P, k92 P, k93 P, k277 P, boot_o_8 P] ++ [k96 P, k277 P, q47 P, k99 P, k100 P, k277 P, boot_o_8 P, k103 P, k277 P, q48 P, k106 P, k107 P, k277 P, boot_o_8 P, k110 P, k277 P] ++ [q49 P, k113 P, k114 P]
noncomputable def S4 (P : Params) : Heap := ⟨⟨S4_objs P⟩, ⟨[], [], [], 0, [], [], false, #[], [], 0, false, false, false, 0, [2000, 10, 10], false, 0, true, [], [], 0, false⟩⟩
noncomputable abbrev q50 (P : Params) : Obj := ⟨(.type "dict"), none, (.dict #[⟨PyData.keyHash P (.ofString "__name__"), (.str (.ofString "__name__") 165), (.str (.ofString "f77.source") 390)⟩, ⟨PyData.keyHash P (.ofString "__doc__"), (.str (.ofString "__doc__") 166), .none⟩, ⟨PyData.keyHash P (.ofString "__package__"), (.str (.ofString "__package__") 167), .none⟩, ⟨PyData.keyHash P (.ofString "__loader__"), (.str (.ofString "__loader__") 168), (.builtin "__main__.__loader__#opaque")⟩, ⟨PyData.keyHash P (.ofString "__spec__"), (.str (.ofString "__spec__") 169), .none⟩, ⟨PyData.keyHash P (.ofString "__annotations__"), (.str (.ofString "__annotations__") 170), (.ref 6)⟩, ⟨PyData.keyHash P (.ofString "__builtins__"), (.str (.ofString "__builtins__") 171), (.ref 4)⟩, ⟨PyData.keyHash P (.ofString "__file__"), (.str (.ofString "__file__") 173), (.str (.ofString "/claim/cut.py") 172)⟩, ⟨PyData.keyHash P (.ofString "__cached__"), (.str (.ofString "__cached__") 174), .none⟩, ⟨PyData.keyHash P (.ofString "F77Error"), (.str (.ofString "F77Error") 217), (.ref 31)⟩, ⟨PyData.keyHash P (.ofString "SourceError"), (.str (.ofString "SourceError") 243), (.ref 51)⟩, ⟨PyData.keyHash P (.ofString "LexFault"), (.str (.ofString "LexFault") 269), (.ref 70)⟩, ⟨PyData.keyHash P (.ofString "DIGITS_squeeze"), (.str (.ofString "DIGITS_squeeze") 273), (.str (.ofString "0123456789") 272)⟩, ⟨PyData.keyHash P (.ofString "AHEAD_OF_COUNT"), (.str (.ofString "AHEAD_OF_COUNT") 275), (.str (.ofString "(,/:") 274)⟩, ⟨PyData.keyHash P (.ofString "capital"), (.str (.ofString "capital") 282), (.ref 79)⟩, ⟨PyData.keyHash P (.ofString "constant_end"), (.str (.ofString "constant_end") 291), (.ref 86)⟩, ⟨PyData.keyHash P (.ofString "count_end"), (.str (.ofString "count_end") 301), (.ref 93)⟩, ⟨PyData.keyHash P (.ofString "hollerith"), (.str (.ofString "hollerith") 312), (.ref 100)⟩, ⟨PyData.keyHash P (.ofString "squeeze"), (.str (.ofString "squeeze") 326), (.ref 107)⟩, ⟨PyData.keyHash P (.ofString "squeezed"), (.str (.ofString "squeezed") 336), (.ref 114)⟩, ⟨PyData.keyHash P (.ofString "Limits"), (.str (.ofString "Limits") 389), (.ref 132)⟩] 21), #[]⟩
noncomputable abbrev q51 (P : Params) : Obj := ⟨.none, none, (.fields #[(.int 2 0), (.int 0 0), (.ref 20), (.int 7 0), (.int 0 0), (.ref 40), (.int 12 0), (.int 0 0), (.ref 59), (.int 20 0), (.int 0 0), (.ref 78), (.int 24 0), (.int 0 0), (.ref 85), (.int 33 0), (.int 0 0), (.ref 92), (.int 43 0), (.int 0 0), (.ref 99), (.int 51 0), (.int 0 0), (.ref 106), (.int 76 0), (.int 0 0), (.ref 113), (.int 82 0), (.int 0 0), (.ref 120)]), #[]⟩
noncomputable abbrev q52 (P : Params) : Obj := ⟨(.type "dict"), none, (.dict #[⟨PyData.keyHash P (.ofString "__module__"), (.str (.ofString "__module__") 346), (.str (.ofString "f77.limits") 337)⟩, ⟨PyData.keyHash P (.ofString "__qualname__"), (.str (.ofString "__qualname__") 348), (.str (.ofString "Limits") 347)⟩, ⟨PyData.keyHash P (.ofString "__firstlineno__"), (.str (.ofString "__firstlineno__") 350), (.int 82 349)⟩, ⟨PyData.keyHash P (.ofString "__init__"), (.str (.ofString "__init__") 373), (.ref 129)⟩, ⟨PyData.keyHash P (.ofString "__static_attributes__"), (.str (.ofString "__static_attributes__") 382), (.ref 130)⟩] 5), #[]⟩
noncomputable abbrev q53 (P : Params) : Obj := ⟨.none, none, (.fields #[(.int 84 0), (.int 4 0), (.ref 128)]), #[]⟩
noncomputable abbrev q54 (P : Params) : Obj := ⟨(.type "code"), none, (.fields #[(.str (.ofString "Limits") 341), (.str (.ofString "Limits") 342), (.str (.ofString "/claim/cut.py") 343), (.int 82 0), (.int 0 0), (.int 0 0), (.int 0 0), (.int 0 0), (.ref 118), (.bool false), (.int 181 0), (.ref 119), .none, .none, .none, .none, (.int 344 0), (.int 82 0), (.str (.ofString "/claim/cut.py") 345)]), #[]⟩
noncomputable abbrev q55 (P : Params) : Obj := ⟨(.type "frame"), none, .plain, #[(some (.ref 120)), (some (.ref 3)), (some (.ref 117)), none, (some (.str (.ofString "f77.limits") 337)), none, (some (.ref 0))]⟩
noncomputable abbrev q56 (P : Params) : Obj := fnOf ⟨.none, none, .func ⟨(.ofString "__init__"), (.ofString "Limits.__init__"), _, (.stmts _), _, 0, [], .none, .none, .none, .none, none, .none, .none, 0⟩, #[]⟩ (me 14 0) rfl
noncomputable abbrev q57 (P : Params) : Obj := ⟨(.type "super"), none, (.fields #[(.ref 132), (.ref 132), (.ref 132)]), #[]⟩
noncomputable abbrev q58 (P : Params) : Obj := ⟨(.type "builtin_function_or_method"), none, (.fields #[(.builtin "object.__init_subclass__"), (.ref 132)]), #[]⟩
noncomputable def S5_objs (P : Params) : List Obj := [boot_o_0 P, boot_o_1 P, k2 P, q50 P, boot_o_4 P, boot_o_5 P, boot_o_6 P, k277 P, boot_o_8 P, boot_o_9 P, boot_o_10 P, k277 P, q51 P, q10 P, q11 P, k15 P] ++ [q14 P, q15 P, k277 P, q16 P, q17 P, q18 P, k277 P, boot_o_8 P, k24 P, k277 P, q19 P, k27 P, k28 P, k29 P, k30 P, k31 P] ++ [k32 P, q21 P, q22 P, k54 P, q14 P, q26 P, k277 P, q27 P, q28 P, q29 P, k277 P, boot_o_8 P, k44 P, k277 P, q30 P, k47 P] ++ [k48 P, k49 P, k50 P, k51 P, q31 P, q32 P, k54 P, q14 P, q35 P, k277 P, q36 P, q37 P, q38 P, k277 P, boot_o_8 P, k63 P] ++ [k277 P, q39 P, k66 P, k67 P, k68 P, k69 P, k70 P, q40 P, q41 P, k277 P, boot_o_8 P, k75 P, k277 P, q44 P, k78 P, k79 P] ++ [k277 P, boot_o_8 P, k82 P, k277 P, q45 P, k85 P, k86 P, k277 P, boot_o_8 P, k89 P, k277 P, q46 P, k92 P, k93 P, k277 P, boot_o_8 P] ++ [k96 P, k277 P, q47 P, k99 P, k100 P, k277 P, boot_o_8 P, k103 P, k277 P, q48 P, k106 P, k107 P, k277 P, boot_o_8 P, k110 P, k277 P] ++ [q49 P, k113 P, k114 P, k277 P, q14 P, q52 P, k277 P, q53 P, q54 P, q55 P, k122 P, k277 P, boot_o_8 P, k125 P, k277 P, q56 P] ++ [k128 P, k129 P, k130 P, k131 P, k132 P, k133 P, k134 P, q57 P, q58 P]
noncomputable def S5 (P : Params) : Heap := ⟨⟨S5_objs P⟩, ⟨[], [], [], 0, [], [], false, #[], [], 0, false, false, false, 0, [2000, 10, 10], false, 0, true, [], [], 0, false⟩⟩
noncomputable abbrev q59 (P : Params) : Obj := ⟨(.type "dict"), none, (.dict #[⟨PyData.keyHash P (.ofString "__name__"), (.str (.ofString "__name__") 165), (.str (.ofString "f77.source") 390)⟩, ⟨PyData.keyHash P (.ofString "__doc__"), (.str (.ofString "__doc__") 166), .none⟩, ⟨PyData.keyHash P (.ofString "__package__"), (.str (.ofString "__package__") 167), .none⟩, ⟨PyData.keyHash P (.ofString "__loader__"), (.str (.ofString "__loader__") 168), (.builtin "__main__.__loader__#opaque")⟩, ⟨PyData.keyHash P (.ofString "__spec__"), (.str (.ofString "__spec__") 169), .none⟩, ⟨PyData.keyHash P (.ofString "__annotations__"), (.str (.ofString "__annotations__") 170), (.ref 6)⟩, ⟨PyData.keyHash P (.ofString "__builtins__"), (.str (.ofString "__builtins__") 171), (.ref 4)⟩, ⟨PyData.keyHash P (.ofString "__file__"), (.str (.ofString "__file__") 173), (.str (.ofString "/claim/cut.py") 172)⟩, ⟨PyData.keyHash P (.ofString "__cached__"), (.str (.ofString "__cached__") 174), .none⟩, ⟨PyData.keyHash P (.ofString "F77Error"), (.str (.ofString "F77Error") 217), (.ref 31)⟩, ⟨PyData.keyHash P (.ofString "SourceError"), (.str (.ofString "SourceError") 243), (.ref 51)⟩, ⟨PyData.keyHash P (.ofString "LexFault"), (.str (.ofString "LexFault") 269), (.ref 70)⟩, ⟨PyData.keyHash P (.ofString "DIGITS_squeeze"), (.str (.ofString "DIGITS_squeeze") 273), (.str (.ofString "0123456789") 272)⟩, ⟨PyData.keyHash P (.ofString "AHEAD_OF_COUNT"), (.str (.ofString "AHEAD_OF_COUNT") 275), (.str (.ofString "(,/:") 274)⟩, ⟨PyData.keyHash P (.ofString "capital"), (.str (.ofString "capital") 282), (.ref 79)⟩, ⟨PyData.keyHash P (.ofString "constant_end"), (.str (.ofString "constant_end") 291), (.ref 86)⟩, ⟨PyData.keyHash P (.ofString "count_end"), (.str (.ofString "count_end") 301), (.ref 93)⟩, ⟨PyData.keyHash P (.ofString "hollerith"), (.str (.ofString "hollerith") 312), (.ref 100)⟩, ⟨PyData.keyHash P (.ofString "squeeze"), (.str (.ofString "squeeze") 326), (.ref 107)⟩, ⟨PyData.keyHash P (.ofString "squeezed"), (.str (.ofString "squeezed") 336), (.ref 114)⟩, ⟨PyData.keyHash P (.ofString "Limits"), (.str (.ofString "Limits") 389), (.ref 132)⟩, ⟨PyData.keyHash P (.ofString "LABEL_END"), (.str (.ofString "LABEL_END") 393), (.int 5 392)⟩, ⟨PyData.keyHash P (.ofString "BODY_AT"), (.str (.ofString "BODY_AT") 395), (.int 6 394)⟩, ⟨PyData.keyHash P (.ofString "DIGITS_source"), (.str (.ofString "DIGITS_source") 397), (.str (.ofString "0123456789") 396)⟩, ⟨PyData.keyHash P (.ofString "Card"), (.str (.ofString "Card") 432), (.ref 153)⟩] 25), #[]⟩
noncomputable abbrev q60 (P : Params) : Obj := ⟨.none, none, (.fields #[(.int 2 0), (.int 0 0), (.ref 20), (.int 7 0), (.int 0 0), (.ref 40), (.int 12 0), (.int 0 0), (.ref 59), (.int 20 0), (.int 0 0), (.ref 78), (.int 24 0), (.int 0 0), (.ref 85), (.int 33 0), (.int 0 0), (.ref 92), (.int 43 0), (.int 0 0), (.ref 99), (.int 51 0), (.int 0 0), (.ref 106), (.int 76 0), (.int 0 0), (.ref 113), (.int 82 0), (.int 0 0), (.ref 120), (.int 97 0), (.int 0 0), (.ref 142)]), #[]⟩
noncomputable abbrev q61 (P : Params) : Obj := ⟨(.type "dict"), none, (.dict #[⟨PyData.keyHash P (.ofString "__module__"), (.str (.ofString "__module__") 405), (.str (.ofString "f77.source") 390)⟩, ⟨PyData.keyHash P (.ofString "__qualname__"), (.str (.ofString "__qualname__") 407), (.str (.ofString "Card") 406)⟩, ⟨PyData.keyHash P (.ofString "__firstlineno__"), (.str (.ofString "__firstlineno__") 409), (.int 97 408)⟩, ⟨PyData.keyHash P (.ofString "__init__"), (.str (.ofString "__init__") 420), (.ref 150)⟩, ⟨PyData.keyHash P (.ofString "__static_attributes__"), (.str (.ofString "__static_attributes__") 425), (.ref 151)⟩] 5), #[]⟩
noncomputable abbrev q62 (P : Params) : Obj := ⟨.none, none, (.fields #[(.int 99 0), (.int 4 0), (.ref 149)]), #[]⟩
noncomputable abbrev q63 (P : Params) : Obj := ⟨(.type "code"), none, (.fields #[(.str (.ofString "Card") 400), (.str (.ofString "Card") 401), (.str (.ofString "/claim/cut.py") 402), (.int 97 0), (.int 0 0), (.int 0 0), (.int 0 0), (.int 0 0), (.ref 140), (.bool false), (.int 181 0), (.ref 141), .none, .none, .none, .none, (.int 403 0), (.int 97 0), (.str (.ofString "/claim/cut.py") 404)]), #[]⟩
noncomputable abbrev q64 (P : Params) : Obj := ⟨(.type "frame"), none, .plain, #[(some (.ref 142)), (some (.ref 3)), (some (.ref 139)), none, (some (.str (.ofString "f77.source") 390)), none, (some (.ref 0))]⟩
noncomputable abbrev q65 (P : Params) : Obj := fnOf ⟨.none, none, .func ⟨(.ofString "__init__"), (.ofString "Card.__init__"), _, (.stmts _), _, 0, [], .none, .none, .none, .none, none, .none, .none, 0⟩, #[]⟩ (me 19 0) rfl
noncomputable abbrev q66 (P : Params) : Obj := ⟨(.type "super"), none, (.fields #[(.ref 153), (.ref 153), (.ref 153)]), #[]⟩
noncomputable abbrev q67 (P : Params) : Obj := ⟨(.type "builtin_function_or_method"), none, (.fields #[(.builtin "object.__init_subclass__"), (.ref 153)]), #[]⟩
noncomputable def S6_objs (P : Params) : List Obj := [boot_o_0 P, boot_o_1 P, k2 P, q59 P, boot_o_4 P, boot_o_5 P, boot_o_6 P, k277 P, boot_o_8 P, boot_o_9 P, boot_o_10 P, k277 P, q60 P, q10 P, q11 P, k15 P] ++ [q14 P, q15 P, k277 P, q16 P, q17 P, q18 P, k277 P, boot_o_8 P, k24 P, k277 P, q19 P, k27 P, k28 P, k29 P, k30 P, k31 P] ++ [k32 P, q21 P, q22 P, k54 P, q14 P, q26 P, k277 P, q27 P, q28 P, q29 P, k277 P, boot_o_8 P, k44 P, k277 P, q30 P, k47 P] ++ [k48 P, k49 P, k50 P, k51 P, q31 P, q32 P, k54 P, q14 P, q35 P, k277 P, q36 P, q37 P, q38 P, k277 P, boot_o_8 P, k63 P] ++ [k277 P, q39 P, k66 P, k67 P, k68 P, k69 P, k70 P, q40 P, q41 P, k277 P, boot_o_8 P, k75 P, k277 P, q44 P, k78 P, k79 P] ++ [k277 P, boot_o_8 P, k82 P, k277 P, q45 P, k85 P, k86 P, k277 P, boot_o_8 P, k89 P, k277 P, q46 P, k92 P, k93 P, k277 P, boot_o_8 P] ++ [k96 P, k277 P, q47 P, k99 P, k100 P, k277 P, boot_o_8 P, k103 P, k277 P, q48 P, k106 P, k107 P, k277 P, boot_o_8 P, k110 P, k277 P] ++ [q49 P, k113 P, k114 P, k277 P, q14 P, q52 P, k277 P, q53 P, q54 P, q55 P, k122 P, k277 P, boot_o_8 P, k125 P, k277 P, q56 P] ++ [k128 P, k129 P, k130 P, k131 P, k132 P, k133 P, k134 P, q57 P, q58 P, k277 P, q14 P, q61 P, k277 P, q62 P, q63 P, q64 P] ++ [k277 P, boot_o_8 P, k146 P, k277 P, q65 P, k149 P, k150 P, k151 P, k152 P, k153 P, k154 P, k155 P, q66 P, q67 P]
noncomputable def S6 (P : Params) : Heap := ⟨⟨S6_objs P⟩, ⟨[], [], [], 0, [], [], false, #[], [], 0, false, false, false, 0, [2000, 10, 10], false, 0, true, [], [], 0, false⟩⟩
noncomputable abbrev q68 (P : Params) : Obj := ⟨(.type "dict"), none, (.dict #[⟨PyData.keyHash P (.ofString "__name__"), (.str (.ofString "__name__") 165), (.str (.ofString "f77.source") 390)⟩, ⟨PyData.keyHash P (.ofString "__doc__"), (.str (.ofString "__doc__") 166), .none⟩, ⟨PyData.keyHash P (.ofString "__package__"), (.str (.ofString "__package__") 167), .none⟩, ⟨PyData.keyHash P (.ofString "__loader__"), (.str (.ofString "__loader__") 168), (.builtin "__main__.__loader__#opaque")⟩, ⟨PyData.keyHash P (.ofString "__spec__"), (.str (.ofString "__spec__") 169), .none⟩, ⟨PyData.keyHash P (.ofString "__annotations__"), (.str (.ofString "__annotations__") 170), (.ref 6)⟩, ⟨PyData.keyHash P (.ofString "__builtins__"), (.str (.ofString "__builtins__") 171), (.ref 4)⟩, ⟨PyData.keyHash P (.ofString "__file__"), (.str (.ofString "__file__") 173), (.str (.ofString "/claim/cut.py") 172)⟩, ⟨PyData.keyHash P (.ofString "__cached__"), (.str (.ofString "__cached__") 174), .none⟩, ⟨PyData.keyHash P (.ofString "F77Error"), (.str (.ofString "F77Error") 217), (.ref 31)⟩, ⟨PyData.keyHash P (.ofString "SourceError"), (.str (.ofString "SourceError") 243), (.ref 51)⟩, ⟨PyData.keyHash P (.ofString "LexFault"), (.str (.ofString "LexFault") 269), (.ref 70)⟩, ⟨PyData.keyHash P (.ofString "DIGITS_squeeze"), (.str (.ofString "DIGITS_squeeze") 273), (.str (.ofString "0123456789") 272)⟩, ⟨PyData.keyHash P (.ofString "AHEAD_OF_COUNT"), (.str (.ofString "AHEAD_OF_COUNT") 275), (.str (.ofString "(,/:") 274)⟩, ⟨PyData.keyHash P (.ofString "capital"), (.str (.ofString "capital") 282), (.ref 79)⟩, ⟨PyData.keyHash P (.ofString "constant_end"), (.str (.ofString "constant_end") 291), (.ref 86)⟩, ⟨PyData.keyHash P (.ofString "count_end"), (.str (.ofString "count_end") 301), (.ref 93)⟩, ⟨PyData.keyHash P (.ofString "hollerith"), (.str (.ofString "hollerith") 312), (.ref 100)⟩, ⟨PyData.keyHash P (.ofString "squeeze"), (.str (.ofString "squeeze") 326), (.ref 107)⟩, ⟨PyData.keyHash P (.ofString "squeezed"), (.str (.ofString "squeezed") 336), (.ref 114)⟩, ⟨PyData.keyHash P (.ofString "Limits"), (.str (.ofString "Limits") 389), (.ref 132)⟩, ⟨PyData.keyHash P (.ofString "LABEL_END"), (.str (.ofString "LABEL_END") 393), (.int 5 392)⟩, ⟨PyData.keyHash P (.ofString "BODY_AT"), (.str (.ofString "BODY_AT") 395), (.int 6 394)⟩, ⟨PyData.keyHash P (.ofString "DIGITS_source"), (.str (.ofString "DIGITS_source") 397), (.str (.ofString "0123456789") 396)⟩, ⟨PyData.keyHash P (.ofString "Card"), (.str (.ofString "Card") 432), (.ref 153)⟩, ⟨PyData.keyHash P (.ofString "cards_of"), (.str (.ofString "cards_of") 442), (.ref 164)⟩, ⟨PyData.keyHash P (.ofString "without_blanks"), (.str (.ofString "without_blanks") 449), (.ref 171)⟩, ⟨PyData.keyHash P (.ofString "is_comment"), (.str (.ofString "is_comment") 457), (.ref 178)⟩, ⟨PyData.keyHash P (.ofString "read_cards"), (.str (.ofString "read_cards") 469), (.ref 185)⟩, ⟨PyData.keyHash P (.ofString "is_continuation"), (.str (.ofString "is_continuation") 476), (.ref 192)⟩, ⟨PyData.keyHash P (.ofString "read_label"), (.str (.ofString "read_label") 487), (.ref 199)⟩, ⟨PyData.keyHash P (.ofString "padded"), (.str (.ofString "padded") 495), (.ref 206)⟩, ⟨PyData.keyHash P (.ofString "joined"), (.str (.ofString "joined") 506), (.ref 213)⟩] 33), #[]⟩
noncomputable abbrev q69 (P : Params) : Obj := ⟨.none, none, (.fields #[(.int 2 0), (.int 0 0), (.ref 20), (.int 7 0), (.int 0 0), (.ref 40), (.int 12 0), (.int 0 0), (.ref 59), (.int 20 0), (.int 0 0), (.ref 78), (.int 24 0), (.int 0 0), (.ref 85), (.int 33 0), (.int 0 0), (.ref 92), (.int 43 0), (.int 0 0), (.ref 99), (.int 51 0), (.int 0 0), (.ref 106), (.int 76 0), (.int 0 0), (.ref 113), (.int 82 0), (.int 0 0), (.ref 120), (.int 97 0), (.int 0 0), (.ref 142), (.int 104 0), (.int 0 0), (.ref 163), (.int 112 0), (.int 0 0), (.ref 170), (.int 114 0), (.int 0 0), (.ref 177), (.int 116 0), (.int 0 0), (.ref 184), (.int 126 0), (.int 0 0), (.ref 191), (.int 128 0), (.int 0 0), (.ref 198), (.int 141 0), (.int 0 0), (.ref 205), (.int 145 0), (.int 0 0), (.ref 212)]), #[]⟩
noncomputable abbrev q70 (P : Params) : Obj := fnOf ⟨.none, none, .func ⟨(.ofString "cards_of"), (.ofString "cards_of"), _, (.stmts _), _, 0, [], .none, .none, .none, .none, none, .none, .none, 0⟩, #[]⟩ (st 20) rfl
noncomputable abbrev q71 (P : Params) : Obj := fnOf ⟨.none, none, .func ⟨(.ofString "without_blanks"), (.ofString "without_blanks"), _, (.stmts _), _, 0, [], .none, .none, .none, .none, none, .none, .none, 0⟩, #[]⟩ (st 21) rfl
noncomputable abbrev q72 (P : Params) : Obj := fnOf ⟨.none, none, .func ⟨(.ofString "is_comment"), (.ofString "is_comment"), _, (.stmts _), _, 0, [], .none, .none, .none, .none, none, .none, .none, 0⟩, #[]⟩ (st 22) rfl
noncomputable abbrev q73 (P : Params) : Obj := fnOf ⟨.none, none, .func ⟨(.ofString "read_cards"), (.ofString "read_cards"), _, (.stmts _), _, 0, [], .none, .none, .none, .none, none, .none, .none, 0⟩, #[]⟩ (st 23) rfl
noncomputable abbrev q74 (P : Params) : Obj := fnOf ⟨.none, none, .func ⟨(.ofString "is_continuation"), (.ofString "is_continuation"), _, (.stmts _), _, 0, [], .none, .none, .none, .none, none, .none, .none, 0⟩, #[]⟩ (st 24) rfl
noncomputable abbrev q75 (P : Params) : Obj := fnOf ⟨.none, none, .func ⟨(.ofString "read_label"), (.ofString "read_label"), _, (.stmts _), _, 0, [], .none, .none, .none, .none, none, .none, .none, 0⟩, #[]⟩ (st 25) rfl
noncomputable abbrev q76 (P : Params) : Obj := fnOf ⟨.none, none, .func ⟨(.ofString "padded"), (.ofString "padded"), _, (.stmts _), _, 0, [], .none, .none, .none, .none, none, .none, .none, 0⟩, #[]⟩ (st 26) rfl
noncomputable abbrev q77 (P : Params) : Obj := fnOf ⟨.none, none, .func ⟨(.ofString "joined"), (.ofString "joined"), _, (.stmts _), _, 0, [], .none, .none, .none, .none, none, .none, .none, 0⟩, #[]⟩ (st 27) rfl
noncomputable def S7_objs (P : Params) : List Obj := [boot_o_0 P, boot_o_1 P, k2 P, q68 P, boot_o_4 P, boot_o_5 P, boot_o_6 P, k277 P, boot_o_8 P, boot_o_9 P, boot_o_10 P, k277 P, q69 P, q10 P, q11 P, k15 P] ++ [q14 P, q15 P, k277 P, q16 P, q17 P, q18 P, k277 P, boot_o_8 P, k24 P, k277 P, q19 P, k27 P, k28 P, k29 P, k30 P, k31 P] ++ [k32 P, q21 P, q22 P, k54 P, q14 P, q26 P, k277 P, q27 P, q28 P, q29 P, k277 P, boot_o_8 P, k44 P, k277 P, q30 P, k47 P] ++ [k48 P, k49 P, k50 P, k51 P, q31 P, q32 P, k54 P, q14 P, q35 P, k277 P, q36 P, q37 P, q38 P, k277 P, boot_o_8 P, k63 P] ++ [k277 P, q39 P, k66 P, k67 P, k68 P, k69 P, k70 P, q40 P, q41 P, k277 P, boot_o_8 P, k75 P, k277 P, q44 P, k78 P, k79 P] ++ [k277 P, boot_o_8 P, k82 P, k277 P, q45 P, k85 P, k86 P, k277 P, boot_o_8 P, k89 P, k277 P, q46 P, k92 P, k93 P, k277 P, boot_o_8 P] ++ [k96 P, k277 P, q47 P, k99 P, k100 P, k277 P, boot_o_8 P, k103 P, k277 P, q48 P, k106 P, k107 P, k277 P, boot_o_8 P, k110 P, k277 P] ++ [q49 P, k113 P, k114 P, k277 P, q14 P, q52 P, k277 P, q53 P, q54 P, q55 P, k122 P, k277 P, boot_o_8 P, k125 P, k277 P, q56 P] ++ [k128 P, k129 P, k130 P, k131 P, k132 P, k133 P, k134 P, q57 P, q58 P, k277 P, q14 P, q61 P, k277 P, q62 P, q63 P, q64 P] ++ [k277 P, boot_o_8 P, k146 P, k277 P, q65 P, k149 P, k150 P, k151 P, k152 P, k153 P, k154 P, k155 P, q66 P, q67 P, k277 P, boot_o_8 P] ++ [k160 P, k277 P, q70 P, k163 P, k164 P, k277 P, boot_o_8 P, k167 P, k277 P, q71 P, k170 P, k171 P, k277 P, boot_o_8 P, k174 P, k277 P] ++ [q72 P, k177 P, k178 P, k277 P, boot_o_8 P, k181 P, k277 P, q73 P, k184 P, k185 P, k277 P, boot_o_8 P, k188 P, k277 P, q74 P, k191 P] ++ [k192 P, k277 P, boot_o_8 P, k195 P, k277 P, q75 P, k198 P, k199 P, k277 P, boot_o_8 P, k202 P, k277 P, q76 P, k205 P, k206 P, k277 P] ++ [boot_o_8 P, k209 P, k277 P, q77 P, k212 P, k213 P]
noncomputable def S7 (P : Params) : Heap := ⟨⟨S7_objs P⟩, ⟨[], [], [], 0, [], [], false, #[], [], 0, false, false, false, 0, [2000, 10, 10], false, 0, true, [], [], 0, false⟩⟩
noncomputable abbrev q78 (P : Params) : Obj := ⟨(.type "dict"), none, (.dict #[⟨PyData.keyHash P (.ofString "__name__"), (.str (.ofString "__name__") 165), (.str (.ofString "law_no0243_01") 536)⟩, ⟨PyData.keyHash P (.ofString "__doc__"), (.str (.ofString "__doc__") 166), .none⟩, ⟨PyData.keyHash P (.ofString "__package__"), (.str (.ofString "__package__") 167), .none⟩, ⟨PyData.keyHash P (.ofString "__loader__"), (.str (.ofString "__loader__") 168), (.builtin "__main__.__loader__#opaque")⟩, ⟨PyData.keyHash P (.ofString "__spec__"), (.str (.ofString "__spec__") 169), .none⟩, ⟨PyData.keyHash P (.ofString "__annotations__"), (.str (.ofString "__annotations__") 170), (.ref 6)⟩, ⟨PyData.keyHash P (.ofString "__builtins__"), (.str (.ofString "__builtins__") 171), (.ref 4)⟩, ⟨PyData.keyHash P (.ofString "__file__"), (.str (.ofString "__file__") 173), (.str (.ofString "/claim/cut.py") 172)⟩, ⟨PyData.keyHash P (.ofString "__cached__"), (.str (.ofString "__cached__") 174), .none⟩, ⟨PyData.keyHash P (.ofString "F77Error"), (.str (.ofString "F77Error") 217), (.ref 31)⟩, ⟨PyData.keyHash P (.ofString "SourceError"), (.str (.ofString "SourceError") 243), (.ref 51)⟩, ⟨PyData.keyHash P (.ofString "LexFault"), (.str (.ofString "LexFault") 269), (.ref 70)⟩, ⟨PyData.keyHash P (.ofString "DIGITS_squeeze"), (.str (.ofString "DIGITS_squeeze") 273), (.str (.ofString "0123456789") 272)⟩, ⟨PyData.keyHash P (.ofString "AHEAD_OF_COUNT"), (.str (.ofString "AHEAD_OF_COUNT") 275), (.str (.ofString "(,/:") 274)⟩, ⟨PyData.keyHash P (.ofString "capital"), (.str (.ofString "capital") 282), (.ref 79)⟩, ⟨PyData.keyHash P (.ofString "constant_end"), (.str (.ofString "constant_end") 291), (.ref 86)⟩, ⟨PyData.keyHash P (.ofString "count_end"), (.str (.ofString "count_end") 301), (.ref 93)⟩, ⟨PyData.keyHash P (.ofString "hollerith"), (.str (.ofString "hollerith") 312), (.ref 100)⟩, ⟨PyData.keyHash P (.ofString "squeeze"), (.str (.ofString "squeeze") 326), (.ref 107)⟩, ⟨PyData.keyHash P (.ofString "squeezed"), (.str (.ofString "squeezed") 336), (.ref 114)⟩, ⟨PyData.keyHash P (.ofString "Limits"), (.str (.ofString "Limits") 389), (.ref 132)⟩, ⟨PyData.keyHash P (.ofString "LABEL_END"), (.str (.ofString "LABEL_END") 393), (.int 5 392)⟩, ⟨PyData.keyHash P (.ofString "BODY_AT"), (.str (.ofString "BODY_AT") 395), (.int 6 394)⟩, ⟨PyData.keyHash P (.ofString "DIGITS_source"), (.str (.ofString "DIGITS_source") 397), (.str (.ofString "0123456789") 396)⟩, ⟨PyData.keyHash P (.ofString "Card"), (.str (.ofString "Card") 432), (.ref 153)⟩, ⟨PyData.keyHash P (.ofString "cards_of"), (.str (.ofString "cards_of") 442), (.ref 164)⟩, ⟨PyData.keyHash P (.ofString "without_blanks"), (.str (.ofString "without_blanks") 449), (.ref 171)⟩, ⟨PyData.keyHash P (.ofString "is_comment"), (.str (.ofString "is_comment") 457), (.ref 178)⟩, ⟨PyData.keyHash P (.ofString "read_cards"), (.str (.ofString "read_cards") 469), (.ref 185)⟩, ⟨PyData.keyHash P (.ofString "is_continuation"), (.str (.ofString "is_continuation") 476), (.ref 192)⟩, ⟨PyData.keyHash P (.ofString "read_label"), (.str (.ofString "read_label") 487), (.ref 199)⟩, ⟨PyData.keyHash P (.ofString "padded"), (.str (.ofString "padded") 495), (.ref 206)⟩, ⟨PyData.keyHash P (.ofString "joined"), (.str (.ofString "joined") 506), (.ref 213)⟩, ⟨PyData.keyHash P (.ofString "check_continuation"), (.str (.ofString "check_continuation") 515), (.ref 220)⟩, ⟨PyData.keyHash P (.ofString "statements_of"), (.str (.ofString "statements_of") 527), (.ref 227)⟩, ⟨PyData.keyHash P (.ofString "read_statements"), (.str (.ofString "read_statements") 535), (.ref 234)⟩, ⟨PyData.keyHash P (.ofString "_law_plain"), (.str (.ofString "_law_plain") 543), (.ref 241)⟩, ⟨PyData.keyHash P (.ofString "_law_inner"), (.str (.ofString "_law_inner") 549), (.ref 248)⟩, ⟨PyData.keyHash P (.ofString "_law_wrong"), (.str (.ofString "_law_wrong") 555), (.ref 255)⟩, ⟨PyData.keyHash P (.ofString "_law_laid"), (.str (.ofString "_law_laid") 565), (.ref 262)⟩, ⟨PyData.keyHash P (.ofString "_law_piece"), (.str (.ofString "_law_piece") 577), (.ref 269)⟩] 41), #[]⟩
noncomputable abbrev q79 (P : Params) : Obj := ⟨.none, none, (.fields #[(.int 2 0), (.int 0 0), (.ref 20), (.int 7 0), (.int 0 0), (.ref 40), (.int 12 0), (.int 0 0), (.ref 59), (.int 20 0), (.int 0 0), (.ref 78), (.int 24 0), (.int 0 0), (.ref 85), (.int 33 0), (.int 0 0), (.ref 92), (.int 43 0), (.int 0 0), (.ref 99), (.int 51 0), (.int 0 0), (.ref 106), (.int 76 0), (.int 0 0), (.ref 113), (.int 82 0), (.int 0 0), (.ref 120), (.int 97 0), (.int 0 0), (.ref 142), (.int 104 0), (.int 0 0), (.ref 163), (.int 112 0), (.int 0 0), (.ref 170), (.int 114 0), (.int 0 0), (.ref 177), (.int 116 0), (.int 0 0), (.ref 184), (.int 126 0), (.int 0 0), (.ref 191), (.int 128 0), (.int 0 0), (.ref 198), (.int 141 0), (.int 0 0), (.ref 205), (.int 145 0), (.int 0 0), (.ref 212), (.int 156 0), (.int 0 0), (.ref 219), (.int 165 0), (.int 0 0), (.ref 226), (.int 181 0), (.int 0 0), (.ref 233), (.int 184 0), (.int 0 0), (.ref 240), (.int 186 0), (.int 0 0), (.ref 247), (.int 188 0), (.int 0 0), (.ref 254), (.int 190 0), (.int 0 0), (.ref 261), (.int 200 0), (.int 0 0), (.ref 268)]), #[]⟩
noncomputable abbrev q80 (P : Params) : Obj := fnOf ⟨.none, none, .func ⟨(.ofString "check_continuation"), (.ofString "check_continuation"), _, (.stmts _), _, 0, [], .none, .none, .none, .none, none, .none, .none, 0⟩, #[]⟩ (st 28) rfl
noncomputable abbrev q81 (P : Params) : Obj := fnOf ⟨.none, none, .func ⟨(.ofString "statements_of"), (.ofString "statements_of"), _, (.stmts _), _, 0, [], .none, .none, .none, .none, none, .none, .none, 0⟩, #[]⟩ (st 29) rfl
noncomputable abbrev q82 (P : Params) : Obj := fnOf ⟨.none, none, .func ⟨(.ofString "read_statements"), (.ofString "read_statements"), _, (.stmts _), _, 0, [], .none, .none, .none, .none, none, .none, .none, 0⟩, #[]⟩ (st 30) rfl
noncomputable abbrev q83 (P : Params) : Obj := fnOf ⟨.none, none, .func ⟨(.ofString "_law_plain"), (.ofString "_law_plain"), _, (.stmts _), _, 0, [], .none, .none, .none, .none, none, .none, .none, 0⟩, #[]⟩ (st 32) rfl
noncomputable abbrev q84 (P : Params) : Obj := fnOf ⟨.none, none, .func ⟨(.ofString "_law_inner"), (.ofString "_law_inner"), _, (.stmts _), _, 0, [], .none, .none, .none, .none, none, .none, .none, 0⟩, #[]⟩ (st 33) rfl
noncomputable abbrev q85 (P : Params) : Obj := fnOf ⟨.none, none, .func ⟨(.ofString "_law_wrong"), (.ofString "_law_wrong"), _, (.stmts _), _, 0, [], .none, .none, .none, .none, none, .none, .none, 0⟩, #[]⟩ (st 34) rfl
noncomputable abbrev q86 (P : Params) : Obj := fnOf ⟨.none, none, .func ⟨(.ofString "_law_laid"), (.ofString "_law_laid"), _, (.stmts _), _, 0, [], .none, .none, .none, .none, none, .none, .none, 0⟩, #[]⟩ (st 35) rfl
noncomputable abbrev q87 (P : Params) : Obj := fnOf ⟨.none, none, .func ⟨(.ofString "_law_piece"), (.ofString "_law_piece"), _, (.stmts _), _, 0, [], .none, .none, .none, .none, none, .none, .none, 0⟩, #[]⟩ (st 36) rfl
noncomputable def S8_objs (P : Params) : List Obj := [boot_o_0 P, boot_o_1 P, k2 P, q78 P, boot_o_4 P, boot_o_5 P, boot_o_6 P, k277 P, boot_o_8 P, boot_o_9 P, boot_o_10 P, k277 P, q79 P, q10 P, q11 P, k15 P] ++ [q14 P, q15 P, k277 P, q16 P, q17 P, q18 P, k277 P, boot_o_8 P, k24 P, k277 P, q19 P, k27 P, k28 P, k29 P, k30 P, k31 P] ++ [k32 P, q21 P, q22 P, k54 P, q14 P, q26 P, k277 P, q27 P, q28 P, q29 P, k277 P, boot_o_8 P, k44 P, k277 P, q30 P, k47 P] ++ [k48 P, k49 P, k50 P, k51 P, q31 P, q32 P, k54 P, q14 P, q35 P, k277 P, q36 P, q37 P, q38 P, k277 P, boot_o_8 P, k63 P] ++ [k277 P, q39 P, k66 P, k67 P, k68 P, k69 P, k70 P, q40 P, q41 P, k277 P, boot_o_8 P, k75 P, k277 P, q44 P, k78 P, k79 P] ++ [k277 P, boot_o_8 P, k82 P, k277 P, q45 P, k85 P, k86 P, k277 P, boot_o_8 P, k89 P, k277 P, q46 P, k92 P, k93 P, k277 P, boot_o_8 P] ++ [k96 P, k277 P, q47 P, k99 P, k100 P, k277 P, boot_o_8 P, k103 P, k277 P, q48 P, k106 P, k107 P, k277 P, boot_o_8 P, k110 P, k277 P] ++ [q49 P, k113 P, k114 P, k277 P, q14 P, q52 P, k277 P, q53 P, q54 P, q55 P, k122 P, k277 P, boot_o_8 P, k125 P, k277 P, q56 P] ++ [k128 P, k129 P, k130 P, k131 P, k132 P, k133 P, k134 P, q57 P, q58 P, k277 P, q14 P, q61 P, k277 P, q62 P, q63 P, q64 P] ++ [k277 P, boot_o_8 P, k146 P, k277 P, q65 P, k149 P, k150 P, k151 P, k152 P, k153 P, k154 P, k155 P, q66 P, q67 P, k277 P, boot_o_8 P] ++ [k160 P, k277 P, q70 P, k163 P, k164 P, k277 P, boot_o_8 P, k167 P, k277 P, q71 P, k170 P, k171 P, k277 P, boot_o_8 P, k174 P, k277 P] ++ [q72 P, k177 P, k178 P, k277 P, boot_o_8 P, k181 P, k277 P, q73 P, k184 P, k185 P, k277 P, boot_o_8 P, k188 P, k277 P, q74 P, k191 P] ++ [k192 P, k277 P, boot_o_8 P, k195 P, k277 P, q75 P, k198 P, k199 P, k277 P, boot_o_8 P, k202 P, k277 P, q76 P, k205 P, k206 P, k277 P] ++ [boot_o_8 P, k209 P, k277 P, q77 P, k212 P, k213 P, k277 P, boot_o_8 P, k216 P, k277 P, q80 P, k219 P, k220 P, k277 P, boot_o_8 P, k223 P] ++ [k277 P, q81 P, k226 P, k227 P, k277 P, boot_o_8 P, k230 P, k277 P, q82 P, k233 P, k234 P, k277 P, boot_o_8 P, k277 P, k277 P, q83 P] ++ [k240 P, k241 P, k277 P, boot_o_8 P, k277 P, k277 P, q84 P, k247 P, k248 P, k277 P, boot_o_8 P, k277 P, k277 P, q85 P, k254 P, k255 P] ++ [k277 P, boot_o_8 P, k258 P, k277 P, q86 P, k261 P, k262 P, k277 P, boot_o_8 P, k265 P, k277 P, q87 P, k268 P, k269 P]
noncomputable def S8 (P : Params) : Heap := ⟨⟨S8_objs P⟩, ⟨[], [], [], 0, [], [], false, #[], [], 0, false, false, false, 0, [2000, 10, 10], false, 0, true, [], [], 0, false⟩⟩
noncomputable abbrev q88 (P : Params) : Obj := ⟨.none, none, (.fields #[(.int 2 0), (.int 0 0), (.ref 20), (.int 7 0), (.int 0 0), (.ref 40), (.int 12 0), (.int 0 0), (.ref 59), (.int 20 0), (.int 0 0), (.ref 78), (.int 24 0), (.int 0 0), (.ref 85), (.int 33 0), (.int 0 0), (.ref 92), (.int 43 0), (.int 0 0), (.ref 99), (.int 51 0), (.int 0 0), (.ref 106), (.int 76 0), (.int 0 0), (.ref 113), (.int 82 0), (.int 0 0), (.ref 120), (.int 97 0), (.int 0 0), (.ref 142), (.int 104 0), (.int 0 0), (.ref 163), (.int 112 0), (.int 0 0), (.ref 170), (.int 114 0), (.int 0 0), (.ref 177), (.int 116 0), (.int 0 0), (.ref 184), (.int 126 0), (.int 0 0), (.ref 191), (.int 128 0), (.int 0 0), (.ref 198), (.int 141 0), (.int 0 0), (.ref 205), (.int 145 0), (.int 0 0), (.ref 212), (.int 156 0), (.int 0 0), (.ref 219), (.int 165 0), (.int 0 0), (.ref 226), (.int 181 0), (.int 0 0), (.ref 233), (.int 184 0), (.int 0 0), (.ref 240), (.int 186 0), (.int 0 0), (.ref 247), (.int 188 0), (.int 0 0), (.ref 254), (.int 190 0), (.int 0 0), (.ref 261), (.int 200 0), (.int 0 0), (.ref 268), (.int 210 0), (.int 0 0), (.ref 275), (.int 223 0), (.int 0 0), (.ref 280)]), #[]⟩
noncomputable abbrev q89 (P : Params) : Obj := fnOf ⟨.none, none, .func ⟨(.ofString "_law_rows"), (.ofString "_law_rows"), _, (.stmts _), _, 0, [], .none, .none, .none, .none, none, .none, .none, 0⟩, #[]⟩ (st 37) rfl
noncomputable abbrev q90 (P : Params) : Obj := fnOf ⟨.none, none, .func ⟨(.ofString "law"), (.ofString "law"), _, (.stmts _), _, 0, [], .none, .none, .none, .none, none, .none, .none, 0⟩, #[]⟩ (st 38) rfl
noncomputable def S9_objs (P : Params) : List Obj := [boot_o_0 P, boot_o_1 P, k2 P, k3 P, boot_o_4 P, boot_o_5 P, boot_o_6 P, k277 P, boot_o_8 P, boot_o_9 P, boot_o_10 P, k277 P, q88 P, q10 P, q11 P, k15 P] ++ [q14 P, q15 P, k277 P, q16 P, q17 P, q18 P, k277 P, boot_o_8 P, k24 P, k277 P, q19 P, k27 P, k28 P, k29 P, k30 P, k31 P] ++ [k32 P, q21 P, q22 P, k54 P, q14 P, q26 P, k277 P, q27 P, q28 P, q29 P, k277 P, boot_o_8 P, k44 P, k277 P, q30 P, k47 P] ++ [k48 P, k49 P, k50 P, k51 P, q31 P, q32 P, k54 P, q14 P, q35 P, k277 P, q36 P, q37 P, q38 P, k277 P, boot_o_8 P, k63 P] ++ [k277 P, q39 P, k66 P, k67 P, k68 P, k69 P, k70 P, q40 P, q41 P, k277 P, boot_o_8 P, k75 P, k277 P, q44 P, k78 P, k79 P] ++ [k277 P, boot_o_8 P, k82 P, k277 P, q45 P, k85 P, k86 P, k277 P, boot_o_8 P, k89 P, k277 P, q46 P, k92 P, k93 P, k277 P, boot_o_8 P] ++ [k96 P, k277 P, q47 P, k99 P, k100 P, k277 P, boot_o_8 P, k103 P, k277 P, q48 P, k106 P, k107 P, k277 P, boot_o_8 P, k110 P, k277 P] ++ [q49 P, k113 P, k114 P, k277 P, q14 P, q52 P, k277 P, q53 P, q54 P, q55 P, k122 P, k277 P, boot_o_8 P, k125 P, k277 P, q56 P] ++ [k128 P, k129 P, k130 P, k131 P, k132 P, k133 P, k134 P, q57 P, q58 P, k277 P, q14 P, q61 P, k277 P, q62 P, q63 P, q64 P] ++ [k277 P, boot_o_8 P, k146 P, k277 P, q65 P, k149 P, k150 P, k151 P, k152 P, k153 P, k154 P, k155 P, q66 P, q67 P, k277 P, boot_o_8 P] ++ [k160 P, k277 P, q70 P, k163 P, k164 P, k277 P, boot_o_8 P, k167 P, k277 P, q71 P, k170 P, k171 P, k277 P, boot_o_8 P, k174 P, k277 P] ++ [q72 P, k177 P, k178 P, k277 P, boot_o_8 P, k181 P, k277 P, q73 P, k184 P, k185 P, k277 P, boot_o_8 P, k188 P, k277 P, q74 P, k191 P] ++ [k192 P, k277 P, boot_o_8 P, k195 P, k277 P, q75 P, k198 P, k199 P, k277 P, boot_o_8 P, k202 P, k277 P, q76 P, k205 P, k206 P, k277 P] ++ [boot_o_8 P, k209 P, k277 P, q77 P, k212 P, k213 P, k277 P, boot_o_8 P, k216 P, k277 P, q80 P, k219 P, k220 P, k277 P, boot_o_8 P, k223 P] ++ [k277 P, q81 P, k226 P, k227 P, k277 P, boot_o_8 P, k230 P, k277 P, q82 P, k233 P, k234 P, k277 P, boot_o_8 P, k277 P, k277 P, q83 P] ++ [k240 P, k241 P, k277 P, boot_o_8 P, k277 P, k277 P, q84 P, k247 P, k248 P, k277 P, boot_o_8 P, k277 P, k277 P, q85 P, k254 P, k255 P] ++ [k277 P, boot_o_8 P, k258 P, k277 P, q86 P, k261 P, k262 P, k277 P, boot_o_8 P, k265 P, k277 P, q87 P, k268 P, k269 P, k277 P, boot_o_8 P] ++ [k272 P, k277 P, q89 P, k275 P, k276 P, k277 P, boot_o_8 P, q90 P, k280 P, k281 P]
noncomputable def S9 (P : Params) : Heap := ⟨⟨S9_objs P⟩, ⟨[], [], [], 0, [], [], false, #[], [], 0, false, false, false, 0, [2000, 10, 10], false, 0, true, [], [], 0, false⟩⟩
noncomputable def Sf_objs (P : Params) : List Obj := [boot_o_0 P, boot_o_1 P, k2 P, k3 P, boot_o_4 P, boot_o_5 P, boot_o_6 P, k277 P, boot_o_8 P, boot_o_9 P, boot_o_10 P, k277 P, q88 P, q10 P, q11 P, k15 P] ++ [q14 P, q15 P, k277 P, q16 P, q17 P, q18 P, k277 P, boot_o_8 P, k24 P, k277 P, q19 P, k27 P, k28 P, k29 P, k30 P, k31 P] ++ [k32 P, q21 P, q22 P, k54 P, q14 P, q26 P, k277 P, q27 P, q28 P, q29 P, k277 P, boot_o_8 P, k44 P, k277 P, q30 P, k47 P] ++ [k48 P, k49 P, k50 P, k51 P, q31 P, q32 P, k54 P, q14 P, q35 P, k277 P, q36 P, q37 P, q38 P, k277 P, boot_o_8 P, k63 P] ++ [k277 P, q39 P, k66 P, k67 P, k68 P, k69 P, k70 P, q40 P, q41 P, k277 P, boot_o_8 P, k75 P, k277 P, q44 P, k78 P, k79 P] ++ [k277 P, boot_o_8 P, k82 P, k277 P, q45 P, k85 P, k86 P, k277 P, boot_o_8 P, k89 P, k277 P, q46 P, k92 P, k93 P, k277 P, boot_o_8 P] ++ [k96 P, k277 P, q47 P, k99 P, k100 P, k277 P, boot_o_8 P, k103 P, k277 P, q48 P, k106 P, k107 P, k277 P, boot_o_8 P, k110 P, k277 P] ++ [q49 P, k113 P, k114 P, k277 P, q14 P, q52 P, k277 P, q53 P, q54 P, q55 P, k122 P, k277 P, boot_o_8 P, k125 P, k277 P, q56 P] ++ [k128 P, k129 P, k130 P, k131 P, k132 P, k133 P, k134 P, q57 P, q58 P, k277 P, q14 P, q61 P, k277 P, q62 P, q63 P, q64 P] ++ [k277 P, boot_o_8 P, k146 P, k277 P, q65 P, k149 P, k150 P, k151 P, k152 P, k153 P, k154 P, k155 P, q66 P, q67 P, k277 P, boot_o_8 P] ++ [k160 P, k277 P, q70 P, k163 P, k164 P, k277 P, boot_o_8 P, k167 P, k277 P, q71 P, k170 P, k171 P, k277 P, boot_o_8 P, k174 P, k277 P] ++ [q72 P, k177 P, k178 P, k277 P, boot_o_8 P, k181 P, k277 P, q73 P, k184 P, k185 P, k277 P, boot_o_8 P, k188 P, k277 P, q74 P, k191 P] ++ [k192 P, k277 P, boot_o_8 P, k195 P, k277 P, q75 P, k198 P, k199 P, k277 P, boot_o_8 P, k202 P, k277 P, q76 P, k205 P, k206 P, k277 P] ++ [boot_o_8 P, k209 P, k277 P, q77 P, k212 P, k213 P, k277 P, boot_o_8 P, k216 P, k277 P, q80 P, k219 P, k220 P, k277 P, boot_o_8 P, k223 P] ++ [k277 P, q81 P, k226 P, k227 P, k277 P, boot_o_8 P, k230 P, k277 P, q82 P, k233 P, k234 P, k277 P, boot_o_8 P, k277 P, k277 P, q83 P] ++ [k240 P, k241 P, k277 P, boot_o_8 P, k277 P, k277 P, q84 P, k247 P, k248 P, k277 P, boot_o_8 P, k277 P, k277 P, q85 P, k254 P, k255 P] ++ [k277 P, boot_o_8 P, k258 P, k277 P, q86 P, k261 P, k262 P, k277 P, boot_o_8 P, k265 P, k277 P, q87 P, k268 P, k269 P, k277 P, boot_o_8 P] ++ [k272 P, k277 P, q89 P, k275 P, k276 P, k277 P, boot_o_8 P, q90 P, k280 P, k281 P]
noncomputable def Sf (P : Params) : Heap := ⟨⟨Sf_objs P⟩, ⟨[], [], [], 0, [], [], false, #[], [], 0, false, false, false, 0, [2000, 10, 10], false, 0, true, [], [], 0, false⟩⟩
noncomputable abbrev bE : List Stmt := behindTheImports pw
noncomputable abbrev env0 : Env := { scope := pw.main.scope, locals := mainNs, globals := mainNs, cells := [], code := .ref 13, frame := some 14 }
noncomputable abbrev cE0 : Code := .body bE env0
noncomputable abbrev pos0 : Pos := ⟨0, 0, 0, 0⟩
noncomputable abbrev B0 : List Frame := [topFrame pos0]
noncomputable abbrev ann0 : Option Value := some (.ref 6)
noncomputable def sts0 : List Stmt := (bE.drop 0).take 2
noncomputable def sts1 : List Stmt := (bE.drop 2).take 1
noncomputable def sts2 : List Stmt := (bE.drop 3).take 2
noncomputable def sts3 : List Stmt := (bE.drop 5).take 9
noncomputable def sts4 : List Stmt := (bE.drop 14).take 2
noncomputable def sts5 : List Stmt := (bE.drop 16).take 4
noncomputable def sts6 : List Stmt := (bE.drop 20).take 8
noncomputable def sts7 : List Stmt := (bE.drop 28).take 9
noncomputable def sts8 : List Stmt := (bE.drop 37).take 2
noncomputable abbrev sh (H : Params → Heap) (k : Nat) (w : World) (os : OsState) : Shared := ⟨H w.params, #[], ⟨0, 0, 0, 0⟩, k, os⟩
theorem top_pre (w : World) (os : OsState) : topGo treeTable pw w 11 ann0 12 ⟨boot_heap w.params, Array.mk [], boot_drawn, boot_toks, os⟩ (topStub pw) = some (sh Sa 187 w os, ⟨denote treeTable cE0, cE0, pos0, B0⟩) := by kernel_rfl
theorem top_block (w : World) (os : OsState) : segRun treeTable pw w 11 ann0 1 1 (sh Sa 187 w os) (blockOf bE env0 cE0 pos0 B0) = some (.next, sh Sa 187 w os, cE0, pos0) := by kernel_rfl
theorem top_0 (w : World) (os : OsState) : segRun treeTable pw w 11 ann0 1 238 (sh Sa 187 w os) (piecesOf sts0 env0 cE0 pos0 B0) = some (.next, sh S1 218 w os, cE0, ⟨2, 0, 6, 24⟩) := by
  unfold piecesOf
  rw [PySem.W.Fast.te14374325043358763698, PySem.W.Fast.te14364793385576792824, PySem.W.Fast.te12563942051412417395]; kernel_rfl
theorem top_1 (w : World) (os : OsState) : segRun treeTable pw w 11 ann0 1 247 (sh S1 218 w os) (piecesOf sts1 env0 cE0 ⟨2, 0, 6, 24⟩ B0) = some (.next, sh S2 244 w os, cE0, ⟨7, 0, 11, 24⟩) := by
  unfold piecesOf
  rw [PySem.W.Fast.te14374325043358763698, PySem.W.Fast.te14364793385576792824, PySem.W.Fast.te12563942051412417395]; kernel_rfl
theorem top_2 (w : World) (os : OsState) : segRun treeTable pw w 11 ann0 1 256 (sh S2 244 w os) (piecesOf sts2 env0 cE0 ⟨7, 0, 11, 24⟩ B0) = some (.next, sh S3 272 w os, cE0, ⟨17, 0, 17, 8⟩) := by
  unfold piecesOf
  rw [PySem.W.Fast.te14374325043358763698, PySem.W.Fast.te14364793385576792824, PySem.W.Fast.te12563942051412417395]; kernel_rfl
theorem top_3 (w : World) (os : OsState) : segRun treeTable pw w 11 ann0 1 221 (sh S3 272 w os) (piecesOf sts3 env0 cE0 ⟨17, 0, 17, 8⟩ B0) = some (.next, sh S4 339 w os, cE0, ⟨81, 0, 81, 8⟩) := by
  unfold piecesOf
  rw [PySem.W.Fast.te14374325043358763698, PySem.W.Fast.te14364793385576792824, PySem.W.Fast.te12563942051412417395]; kernel_rfl
theorem top_4 (w : World) (os : OsState) : segRun treeTable pw w 11 ann0 1 255 (sh S4 339 w os) (piecesOf sts4 env0 cE0 ⟨81, 0, 81, 8⟩ B0) = some (.next, sh S5 392 w os, cE0, ⟨93, 0, 93, 8⟩) := by
  unfold piecesOf
  rw [PySem.W.Fast.te14374325043358763698, PySem.W.Fast.te14364793385576792824, PySem.W.Fast.te12563942051412417395]; kernel_rfl
theorem top_5 (w : World) (os : OsState) : segRun treeTable pw w 11 ann0 1 256 (sh S5 392 w os) (piecesOf sts5 env0 cE0 ⟨93, 0, 93, 8⟩ B0) = some (.next, sh S6 433 w os, cE0, ⟨97, 0, 103, 24⟩) := by
  unfold piecesOf
  rw [PySem.W.Fast.te14374325043358763698, PySem.W.Fast.te14364793385576792824, PySem.W.Fast.te12563942051412417395]; kernel_rfl
theorem top_6 (w : World) (os : OsState) : segRun treeTable pw w 11 ann0 1 251 (sh S6 433 w os) (piecesOf sts6 env0 cE0 ⟨97, 0, 103, 24⟩ B0) = some (.next, sh S7 507 w os, cE0, ⟨145, 0, 155, 48⟩) := by
  unfold piecesOf
  rw [PySem.W.Fast.te14374325043358763698, PySem.W.Fast.te14364793385576792824, PySem.W.Fast.te12563942051412417395]; kernel_rfl
theorem top_7 (w : World) (os : OsState) : segRun treeTable pw w 11 ann0 1 255 (sh S7 507 w os) (piecesOf sts7 env0 cE0 ⟨145, 0, 155, 48⟩ B0) = some (.next, sh S8 578 w os, cE0, ⟨200, 0, 209, 73⟩) := by
  unfold piecesOf
  rw [PySem.W.Fast.te14374325043358763698, PySem.W.Fast.te14364793385576792824, PySem.W.Fast.te12563942051412417395]; kernel_rfl
theorem top_8 (w : World) (os : OsState) : segRun treeTable pw w 11 ann0 1 61 (sh S8 578 w os) (piecesOf sts8 env0 cE0 ⟨200, 0, 209, 73⟩ B0) = some (.next, sh S9 596 w os, cE0, ⟨223, 0, 243, 40⟩) := by
  unfold piecesOf
  rw [PySem.W.Fast.te14374325043358763698, PySem.W.Fast.te14364793385576792824, PySem.W.Fast.te12563942051412417395]; kernel_rfl
theorem top_fin (w : World) (os : OsState) : topRun treeTable pw w 11 ann0 2 (sh S9 596 w os) ⟨doneF .next, cE0, ⟨223, 0, 243, 40⟩, B0⟩ = some (sh Sf 596 w os) := by kernel_rfl
theorem sts_eq : bE = sts0 ++ (sts1 ++ (sts2 ++ (sts3 ++ (sts4 ++ (sts5 ++ (sts6 ++ (sts7 ++ (sts8 ++ [])))))))) := by kernel_rfl
theorem top_all (w : World) (os : OsState) : topRun treeTable pw w 11 ann0 (12 + (1 + (238 + (247 + (256 + (221 + (255 + (256 + (251 + (255 + (61 + 2))))))))))) ⟨boot_heap w.params, Array.mk [], boot_drawn, boot_toks, os⟩ (topStub pw) = some (sh Sf 596 w os) := by
  refine go_top (top_pre w os) (piece_block (top_block w os) ?_)
  have h := piece_app (top_0 w os) (piece_app (top_1 w os) (piece_app (top_2 w os) (piece_app (top_3 w os) (piece_app (top_4 w os) (piece_app (top_5 w os) (piece_app (top_6 w os) (piece_app (top_7 w os) (piece_app (top_8 w os) (piece_nil (top_fin w os))))))))))
  rw [← sts_eq] at h
  exact h
theorem hl : LeftO pw topV [] (fun s => xlAt topV [] s && recOk (RowW.records rw1.row.toRowW) s) hk.obs hk.val 4188 :=
  LeftO.of_pieces (H₀ := boot_heap) (H₁ := Sf) (gs₀ := Array.mk []) (gs₁ := #[]) (d₀ := boot_drawn) (d₁ := ⟨0, 0, 0, 0⟩) (k₀ := boot_toks) (k₁ := 596) (m₀ := 11) (ann := ann0)
    (boot_open (by kernel_rfl) (by kernel_rfl) (fun s => by kernel_rfl)) (fun w => by kernel_rfl) top_all (by kernel_rfl) (fun w => by kernel_rfl)
theorem hd {d : DefRec} {kwd : List (Str × PySem.Expr)} (hdef : defOf topV rw1.row.name = some (d, kwd)) (hp : rw1.row.prog.theDef rw1.row.name = some (d.params, d.body, d.scope))
    (hkw : kwWritten? d.params.kwonlyargs d.params.kw_defaults = some kwd) (hw : PySem.Challenge.rw_no0243_01.row.toRowW.promised) (call : WalkO topV [] (XL topV []) hk.says rw1.row.toRowW d kwd fun f vs => PySem.call f vs) : PySem.Challenge.rw_no0243_01.Holds := by
  refine holds_law said fun sd => ?_
  refine PySem.W.holds_open (q := topV) (loose := []) (Xt := fun s => xlAt topV [] s && recOk (RowW.records rw1.row.toRowW) s) (XP := XL topV []) (Yf := hk.obs) (Ya := hk.val) (YP := hk.says) (N := 4188) hl hk.of hk.keeps (fun s e => xl_of s (Bool.and_eq_true_iff.mp e).1) XL.keeps hdef hp hkw (fun s e => recFacts_of (Bool.and_eq_true_iff.mp e).2) (by rfl) sd (by decide +kernel) ⟨rfl, rfl, rfl, rfl, rfl, by decide +kernel⟩ hw call
end Mine

open PySem PySem.W PyProof.Rows
set_option Elab.async false
set_option maxRecDepth 100000
namespace Mine
noncomputable abbrev Led := List (Addr × Obj)
noncomputable def Con (w : World) (f : Addr) (lvl : Nat) (news : Led) (vs : List Value) (post : Value → Led → Prop) : Prop :=
  ∀ (mean : ExcName → Option Value) (mg mb : Str → Option Value) (dp un : Nat) (gd : Option (List Code)) (cn : Str) (cs : Scope) (a : Addr) (ccd : Value) (cl : List (Str × Addr)) (outer : List Env) (A₀ : Around) (base h₀ : Heap) (L : Addr) (m : Str → Option Value) (s : Shared) (Q E : Value → Shared → Prop),
    Below A₀ base outer h₀ → Fr h₀ L s.heap m → (topK w.params).In h₀ → News h₀ L s.heap news → Top topV (looseW topV []) mean mg mb h₀ → cs.kind = .function →
    dp + lvl < recursionLimit → un + 8 * lvl < cLine →
    (∀ r tl h' tk', Fr h₀ L h' m → News h₀ L h' (tl ++ news) → (∀ q ∈ news, ∀ p ∈ tl, q.1 < p.1) → post r tl → Q r { s with heap := h', toks := tk' }) →
    wpAny (model PySem.Challenge.rw_no0243_01.row.prog w) (ktrTop dp un gd cn cs L a ccd cl outer) (PySem.call (.ref f) vs) Q E s
end Mine
namespace Mine
structure Hold (p : Prop) : Prop where
  out : p
noncomputable abbrev S (l : List Nat) : PySem.Str := ⟨l.toArray⟩
end Mine
namespace Mine
noncomputable abbrev tupO (vs : List Value) : Obj := { cls := .type "tuple", data := .seq vs.toArray }
end Mine

open PySem PySem.W PyProof.Rows
set_option Elab.async false
set_option maxRecDepth 100000
namespace Mine
open PySem.Builtin PySem.Builtin.Str PySem.StrLaws

/-! texts as lists of numbers -/
theorem S_cps (l : List Nat) : (S l).cps.toList = l := rfl
theorem S_length (l : List Nat) : (S l).length = l.length := by show l.toArray.size = l.length; simp
theorem S_append (a b : List Nat) : S a ++ S b = S (a ++ b) := Str.ext' (by rw [Str.cps_append]; simp)
theorem S_inj {a b : List Nat} (h : S a = S b) : a = b := by
  have := congrArg (fun x : PySem.Str => x.cps.toList) h
  simpa using this
theorem S_of (x : PySem.Str) : S x.cps.toList = x := Str.ext' (by simp)

theorem sliceIx (a b len : Nat) : strSliceIndices (some (a : Int)) (some (b : Int)) 1 len = strSliceIndices (some ((min a len : Nat) : Int)) (some ((min b len : Nat) : Int)) 1 len := by
  have h1 : ¬ ((a : Int) < 0) := by omega
  have h2 : ¬ ((b : Int) < 0) := by omega
  have h3 : ¬ (((min a len : Nat) : Int) < 0) := by omega
  have h4 : ¬ (((min b len : Nat) : Int) < 0) := by omega
  have e1 : max (0 : Int) (min (a : Int) (len : Int)) = max (0 : Int) (min ((min a len : Nat) : Int) (len : Int)) := by omega
  have e2 : max (0 : Int) (min (b : Int) (len : Int)) = max (0 : Int) (min ((min b len : Nat) : Int) (len : Int)) := by omega
  simp only [strSliceIndices, h1, h2, h3, h4, if_false, e1, e2, show ((1 : Int) > 0) = True from by simp, if_true]
theorem sliceIx_empty {a b len : Nat} (h : b ≤ a) : strSliceIndices (some (a : Int)) (some (b : Int)) 1 len = [] := by
  have h1 : ¬ ((a : Int) < 0) := by omega
  have h2 : ¬ ((b : Int) < 0) := by omega
  have h3 : ¬ (max (0 : Int) (min (a : Int) (len : Int)) < max (0 : Int) (min (b : Int) (len : Int))) := by omega
  simp only [strSliceIndices, sliceRange, h1, h2, if_false, show ((1 : Int) > 0) = True from by simp, if_true, h3]
  rfl
theorem slice_S (l : List Nat) (a b : Nat) : Txt.slice (S l) (some (a : Int)) (some (b : Int)) = S ((l.take b).drop a) := by
  have hlen : (S l).length = l.length := S_length l
  have key : (strSliceIndices (some (a : Int)) (some (b : Int)) 1 (S l).length).filterMap ((S l).cps[·]?) = (l.take b).drop a := by
    rw [hlen]
    by_cases hab : b ≤ a
    · rw [sliceIx_empty hab, List.drop_eq_nil_of_le (by simp; omega)]; rfl
    · rw [sliceIx]
      by_cases ha : l.length ≤ a
      · rw [sliceIx_empty (by omega), List.drop_eq_nil_of_le (by simp; omega)]; rfl
      · have := sliced_plain (S l) (a := min a l.length) (b := min b l.length) (by omega) (by rw [hlen]; omega)
        rw [hlen] at this
        rw [this, S_cps, List.drop_take]
        have e1 : min a l.length = a := by omega
        rw [e1]
        by_cases hb : b ≤ l.length
        · rw [Nat.min_eq_left hb]
        · rw [Nat.min_eq_right (by omega), List.take_of_length_le (by simp), List.take_of_length_le (by simp; omega)]
  unfold Txt.slice
  split
  · rename_i h
    have hn : (strSliceIndices (some (a : Int)) (some (b : Int)) 1 (S l).length).length = (S l).length := by simpa using h
    have h2 : ((l.take b).drop a).length = l.length := by
      rw [← key]
      have hle : ∀ (xs : List Nat), (∀ x ∈ xs, x < l.length) → (xs.filterMap ((S l).cps[·]?)).length = xs.length := by
        intro xs
        induction xs with
        | nil => intro _; rfl
        | cons x r ih =>
          intro hx
          have h0 : (S l).cps[x]? = some (l[x]'(hx x (.head _))) := by simp [hx x (.head _)]
          rw [List.filterMap_cons, h0]
          show (_ :: List.filterMap _ r).length = _
          rw [List.length_cons, List.length_cons, ih fun y hy => hx y (.tail _ hy)]
      rw [hle, hn, hlen]
      intro x hx
      rw [hlen, sliceIx] at hx
      by_cases hab : min b l.length ≤ min a l.length
      · rw [sliceIx_empty hab] at hx; cases hx
      · rw [strSliceIndices_plain (by omega) (by omega)] at hx
        obtain ⟨k, hk, rfl⟩ := List.mem_map.mp hx
        have := List.mem_range.mp hk
        omega
    have h3 : (l.take b).drop a = l := by
      simp at h2
      by_cases hz : l.length = 0
      · have : l = [] := List.length_eq_zero_iff.mp hz
        subst this; simp
      · have ha : a = 0 := by omega
        have hb : l.length ≤ b := by omega
        subst ha
        simp [List.take_of_length_le hb]
    rw [h3]
  · show PySem.Str.mk _ = S _
    rw [key]
theorem slice_S_to (l : List Nat) (b : Nat) : Txt.slice (S l) none (some (b : Int)) = S (l.take b) := by
  have e : Txt.slice (S l) none (some (b : Int)) = Txt.slice (S l) (some ((0 : Nat) : Int)) (some (b : Int)) := by
    unfold Txt.slice; rw [sliceIdx_none_lo]; rfl
  rw [e, slice_S]; rfl
theorem slice_S_from (l : List Nat) (a : Nat) : Txt.slice (S l) (some (a : Int)) none = S (l.drop a) := by
  have e : Txt.slice (S l) (some (a : Int)) none = Txt.slice (S l) (some (a : Int)) (some ((l.length : Nat) : Int)) := by
    unfold Txt.slice; rw [sliceIdx_none_hi, S_length]
  rw [e, slice_S, List.take_length]
theorem item_S {l : List Nat} {i c : Nat} (h : l[i]? = some c) : Txt.item (S l) (i : Int) = S [c] := by
  have hi : i < l.length := (List.getElem?_eq_some_iff.mp h).1
  unfold Txt.item Txt.charAt
  rw [seqIndex_nonneg (by omega) (by rw [S_length]; omega)]
  have : (S l).cps[((i : Int)).toNat]? = some c := by simpa using h
  simp only [Option.bind_some, this, Option.getD_some]
theorem in_S (l : List Nat) (c : Nat) : (!(occurrences (S l) (S [c]) 0 (S l).length 1).isEmpty) = decide (c ∈ l) := found_one (S l) c

section
variable {prog : Program} {w : World} {M : Model} {A : Around} {E : Value → Shared → Prop} {s : Shared} {a b l : List Nat} {x y : PySem.Str} {t u : Tok} {Q : Value → Shared → Prop}
theorem s_lit {env : Env} {k : Nat} {pos : Pos} (e : x = S l) (h : Q (.str (S l) s.toks) { s with toks := s.toks + 1 }) : wpAny M A (eval (.Constant (.str x) k pos) env) Q E s := by
  subst e; exact Calls.Constant_str h
theorem s_len (hl : l.length ≤ 16777216) (h : Q (.int (l.length : Int) (s.toks + 1)) { s with toks := s.toks + 1 + 1 }) : wpAny (model prog w) A (call (.builtin "len") [.str (S l) t]) Q E s :=
  len_str (by rw [S_length]; omega) (by rw [S_length]; exact h)
theorem s_eq (h : Q (.bool (decide (a = b))) s) : wpAny (model prog w) A (compareOp .Eq (.str (S a) t) (.str (S b) u)) Q E s :=
  P.eq_str (by
    have : ((S a).cps.toList == (S b).cps.toList) = decide (a = b) := by
      rw [S_cps, S_cps]; by_cases e : a = b <;> simp [e]
    rw [this]; exact h)
theorem s_ne (h : Q (.bool (!decide (a = b))) s) : wpAny (model prog w) A (compareOp .NotEq (.str (S a) t) (.str (S b) u)) Q E s :=
  P.ne_str (by
    have : ((S a).cps.toList != (S b).cps.toList) = !decide (a = b) := by
      rw [S_cps, S_cps]; by_cases e : a = b <;> simp [e]
    rw [this]; exact h)
theorem s_in {c : Nat} (h : Q (.bool (decide (c ∈ l))) s) : wpAny (model prog w) A (compareOp .In (.str (S [c]) u) (.str (S l) t)) Q E s :=
  P.in_str (by rw [in_S]; exact h)
theorem s_add (hl : a.length + b.length ≤ 16777216) (h : ∀ t' k, s.toks ≤ k → Q (.str (S (a ++ b)) t') { s with toks := k }) : wpAny (model prog w) A (binaryOp .Add (.str (S a) t) (.str (S b) u)) Q E s := by
  refine P.add_str ?_
  rw [S_length, S_length]
  by_cases h1 : a.length = 0
  · have : a = [] := List.length_eq_zero_iff.mp h1
    subst this
    exact h u s.toks (Nat.le_refl _)
  · by_cases h2 : b.length = 0
    · have : b = [] := List.length_eq_zero_iff.mp h2
      subst this
      rw [List.append_nil] at h
      simp only [List.length_nil, beq_self_eq_true, if_true, beq_iff_eq, h1, if_false]
      exact h t s.toks (Nat.le_refl _)
    · simp only [beq_iff_eq, h1, h2, if_false]
      rw [S_append]
      exact ⟨by show (S (a ++ b)).length ≤ sizeLine; rw [S_length, List.length_append, sizeLine_eq]; omega, h _ _ (Nat.le_succ _)⟩
theorem s_item {value slice : Expr} {i c : Nat} {k : Int} (hk : k = (i : Int)) (h : l[i]? = some c) (hl : l.length ≤ 16777216) (hq : Q (.str (S [c]) s.toks) { s with toks := s.toks + 1 })
    (hs : subscripted slice false (.str (S l) t) (.int k u) = operate [.str (S l) t, .int k u] (getItem (.str (S l) t) (.int k u)) := by with_unfolding_all rfl)
    (ht : ∀ r, letTemporaryGo value (.str (S l) t) r = pure () := by intro _; with_unfolding_all rfl) :
    wpAny (model prog w) A (subscriptTail value slice (.str (S l) t) (.int k u)) Q E s := by
  subst hk
  have hi : i < l.length := (List.getElem?_eq_some_iff.mp h).1
  have hz : (S l).length = l.length := S_length l
  refine item_str (by unfold fitsSsize; simp; omega) (by omega) (by omega) (fun _ => ?_) hs ht
  rw [item_S h]; exact hq
theorem dbl_S (l : List Nat) : Txt.replace (S l) (S [39]) (S [39, 39]) = S (StrLaws.dbl 39 l) := replace_dbl _ _ _ 39 rfl rfl
theorem s_dbl {v : Tok} (hu : u ≠ 0) (hv : v ≠ 0) (huv : u ≠ v) (hl : l.length ≤ 300000) (h : ∀ t' k, Q (.str (S (StrLaws.dbl 39 l)) t') { s with toks := k }) :
    wpAny (model prog w) A (call (.builtin "str.replace") [.str (S l) t, .str (S [39]) u, .str (S [39, 39]) v]) Q E s := by
  refine SC.replace hu hv huv (by decide) (by rw [S_length, S_length]; simp only [List.length_cons, List.length_nil]; omega) (fun t' k => ?_)
  rw [dbl_S]; exact h t' k
variable {h₀ : Heap} {L : Addr} {m : PySem.Str → Option Value} {news : Led}
theorem news_keep {h : Heap} {x y : Addr × Obj} (N : News h₀ L h (x :: y :: news)) : News h₀ L h ([x] ++ news) := fun p hp => by
  rcases List.mem_cons.mp hp with rfl | hp
  · exact N _ (.head _)
  · exact N _ (.tail _ (.tail _ hp))
theorem s_slice {value slice : Expr} {i j : Nat} {ui uj : Tok} {ki kj : Int} (hi : ki = (i : Int)) (hj : kj = (j : Int)) (hF : Fr h₀ L s.heap m) (hN : News h₀ L s.heap news) (hl : l.length ≤ 16777216)
    (h : ∀ h' t' k, Fr h₀ L h' m → News h₀ L h' news → Q (.str (S ((l.take j).drop i)) t') { s with heap := h', toks := k })
    (hs : subscripted slice false (.str (S l) t) (.ref s.heap.objs.size) = operate [.ref s.heap.objs.size, .str (S l) t] (getItem (.str (S l) t) (.ref s.heap.objs.size)) := by with_unfolding_all rfl)
    (ht : ∀ r, letTemporaryGo value (.str (S l) t) r = pure () := by intro _; with_unfolding_all rfl) :
    wpAny (model prog w) A (subscriptTail value slice (.str (S l) t) (.ref s.heap.objs.size)) Q E { s with heap := s.heap.push { cls := .type "slice", data := .fields #[.int ki ui, .int kj uj, .none] } } := by
  subst hi; subst hj
  refine slice_strN_ss hF hN (fun h' t' k F N => ?_) hs ht (by rw [S_length, sizeLine_eq]; omega)
  rw [slice_S]; exact h h' t' k F N
theorem s_slice_to {value slice : Expr} {j : Nat} {uj : Tok} {kj : Int} (hj : kj = (j : Int)) (hF : Fr h₀ L s.heap m) (hN : News h₀ L s.heap news) (hl : l.length ≤ 16777216)
    (h : ∀ h' t' k, Fr h₀ L h' m → News h₀ L h' news → Q (.str (S (l.take j)) t') { s with heap := h', toks := k })
    (hs : subscripted slice false (.str (S l) t) (.ref s.heap.objs.size) = operate [.ref s.heap.objs.size, .str (S l) t] (getItem (.str (S l) t) (.ref s.heap.objs.size)) := by with_unfolding_all rfl)
    (ht : ∀ r, letTemporaryGo value (.str (S l) t) r = pure () := by intro _; with_unfolding_all rfl) :
    wpAny (model prog w) A (subscriptTail value slice (.str (S l) t) (.ref s.heap.objs.size)) Q E { s with heap := s.heap.push { cls := .type "slice", data := .fields #[.none, .int kj uj, .none] } } := by
  subst hj
  refine slice_strN_ns hF hN (fun h' t' k F N => ?_) hs ht (by rw [S_length, sizeLine_eq]; omega)
  rw [slice_S_to]; exact h h' t' k F N
theorem s_slice_from {value slice : Expr} {i : Nat} {ui : Tok} {ki : Int} (hi : ki = (i : Int)) (hF : Fr h₀ L s.heap m) (hN : News h₀ L s.heap news) (hl : l.length ≤ 16777216)
    (h : ∀ h' t' k, Fr h₀ L h' m → News h₀ L h' news → Q (.str (S (l.drop i)) t') { s with heap := h', toks := k })
    (hs : subscripted slice false (.str (S l) t) (.ref s.heap.objs.size) = operate [.ref s.heap.objs.size, .str (S l) t] (getItem (.str (S l) t) (.ref s.heap.objs.size)) := by with_unfolding_all rfl)
    (ht : ∀ r, letTemporaryGo value (.str (S l) t) r = pure () := by intro _; with_unfolding_all rfl) :
    wpAny (model prog w) A (subscriptTail value slice (.str (S l) t) (.ref s.heap.objs.size)) Q E { s with heap := s.heap.push { cls := .type "slice", data := .fields #[.int ki ui, .none, .none] } } := by
  subst hi
  refine slice_strN_sn hF hN (fun h' t' k F N => ?_) hs ht (by rw [S_length, sizeLine_eq]; omega)
  rw [slice_S_from]; exact h h' t' k F N
end

theorem it_t {P : Prop} [Decidable P] {p q : Prop} (h : P) (hp : p) : if decide P = true then p else q := by rw [decide_eq_true h]; exact hp
theorem it_f {P : Prop} [Decidable P] {p q : Prop} (h : ¬ P) (hq : q) : if decide P = true then p else q := by rw [decide_eq_false h]; exact hq
theorem it_nt {P : Prop} [Decidable P] {p q : Prop} (h : ¬ P) (hp : p) : if (!decide P) = true then p else q := by rw [decide_eq_false h]; exact hp
theorem it_nf {P : Prop} [Decidable P] {p q : Prop} (h : P) (hq : q) : if (!decide P) = true then p else q := by rw [decide_eq_true h]; exact hq
theorem nc1 (i : Nat) : (i : Int) + 1 = ((i + 1 : Nat) : Int) := rfl
theorem nc2 (i : Nat) : (i : Int) + 2 = ((i + 2 : Nat) : Int) := rfl
theorem ncl1 : (1 : Int) = ((1 : Nat) : Int) := rfl
theorem ncl5 : (5 : Int) = ((5 : Nat) : Int) := rfl
theorem ncl6 : (6 : Int) = ((6 : Nat) : Int) := rfl
theorem nca (i j : Nat) : (i : Int) + (j : Int) = ((i + j : Nat) : Int) := rfl
theorem lit_quote : PySem.Str.ofString "'" = S [39] := by decide +kernel
theorem lit_empty : PySem.Str.ofString "" = S [] := by decide +kernel
theorem lit_blank : PySem.Str.ofString " " = S [32] := by decide +kernel
theorem lit_quotes : PySem.Str.ofString "''" = S [39, 39] := by decide +kernel
theorem lit_H : PySem.Str.ofString "H" = S [72] := by decide +kernel
theorem lit_C : PySem.Str.ofString "C" = S [67] := by decide +kernel
theorem lit_c : PySem.Str.ofString "c" = S [99] := by decide +kernel
theorem lit_star : PySem.Str.ofString "*" = S [42] := by decide +kernel
theorem lit_0 : PySem.Str.ofString "0" = S [48] := by decide +kernel
theorem lit_END : PySem.Str.ofString "END" = S [69, 78, 68] := by decide +kernel
theorem lit_nl : PySem.Str.ofString "\n" = S [10] := by decide +kernel
theorem lit_a : PySem.Str.ofString "a" = S [97] := by decide +kernel
theorem lit_z : PySem.Str.ofString "z" = S [122] := by decide +kernel
theorem lit_digits : PySem.Str.ofString "0123456789" = S [48,49,50,51,52,53,54,55,56,57] := by decide +kernel
theorem lit_ahead : PySem.Str.ofString "(,/:" = S [40,44,47,58] := by decide +kernel
end Mine

open PySem PySem.W PyProof.Rows
set_option Elab.async false
set_option maxRecDepth 100000
set_option linter.all false
namespace Mine
open PySem.Calls

theorem dict_mapFields (f : Array Value → Array Value) (o : Obj) : (Obj.mapFields f o).dict = o.dict := by
  obtain ⟨c, d, dt, sl⟩ := o
  cases dt <;> rfl
/-- e: an object of class C with the dict d; its last traceback entry T is younger than base, and fl stands in that entry's flight field -/
noncomputable def Trc (base : Heap) (e C d : Addr) (fl : Value) (h : Heap) : Prop :=
  ∃ oe vs T oT ts, h.get? e = some oe ∧ (oe.cls = .ref C ∧ oe.dict = some d) ∧ oe.data = .fields vs ∧ vs[1]? = some (.ref T) ∧ base.get? T = none ∧ T ≠ e ∧ h.get? T = some oT ∧ oT.data = .fields ts ∧ ts[3]? = some fl
noncomputable def Fly (base : Heap) (l : List Env) (e C d : Addr) (fl : Value) (h : Heap) : Prop :=
  base.StaysIn h ∧ base.get? e = none ∧ h.FunFrames base l ∧ Trc base e C d fl h
theorem ne_of_fields {h : Heap} {a b : Addr} {oa ob : Obj} {vs : Array Value} (ha : h.get? a = some oa) (hd : oa.data = .fields vs) (hb : h.get? b = some ob) (hn : ∀ vs, ob.data ≠ .fields vs) : b ≠ a := by
  intro q
  subst q
  rw [ha] at hb
  injection hb with hb
  subst hb
  exact hn vs hd
theorem Fly.ob {base h : Heap} {l : List Env} {e C d : Addr} {fl : Value} (x : Fly base l e C d fl h) : ∃ oe vs, h.get? e = some oe ∧ oe.cls = .ref C ∧ oe.dict = some d ∧ oe.data = .fields vs := by
  obtain ⟨_, _, _, oe, vs, _, _, _, he, hc, hd, _⟩ := x
  exact ⟨oe, vs, he, hc.1, hc.2, hd⟩

section
variable {M : Model} {A : Around} {E : Value → Shared → Prop} {s : Shared} {base : Heap} {env : Env} {outer l : List Env} {L e C d : Addr} {oe : Obj} {vs : Array Value} {fl : Value} {Q : Unit → Shared → Prop}

theorem entry_D {head : Value} {hadNext : Bool} (hfr : A.frames = some (env :: outer)) (hl : s.heap.FunFrames base (env :: outer)) (hf : env.frame = some L) (he : s.heap.get? e = some oe) (hc : oe.cls = .ref C ∧ oe.dict = some d)
    (hkb : base.StaysIn s.heap) (hen : base.get? e = none) (hd : oe.data = .fields vs) (hsz : 1 < vs.size)
    (h : ∀ h', Fly base (env :: outer) e C d (rawInt L) h' → s.heap.UpToSlots h' → Q () { s with heap := h' }) :
    wpAny M A (do let a ← frameOf env; let pl ← entryPlaceOf L hadNext; let b ← EntryCells.newEntry head a .none (rawInt L) .none pl; setField (.ref e) 1 b) Q E s := by
  refine wpAny_bind (wpAny_frameOf_fun hfr hl hf fun h₁ hs₁ => wpAny_bind (wpAny_entryPlaceOf fun pl hpl => ?_))
  have e₁ : h₁.get? e = some oe := (hs₁.2.1 e fun hm => by
    obtain ⟨_, o, ho, hnf⟩ := hl.mem hm
    exact ne_of_fields he hd ho hnf rfl).trans he
  have b₁ : base.StaysIn h₁ := fun b o hb => (hs₁.2.1 b fun hm => by rw [(hl.mem hm).1] at hb; cases hb).trans (hkb b o hb)
  unfold EntryCells.newEntry newFields
  refine wpAny_bind (wpAny_newObj_type ?_ (hpl.sizeOk5 _ _ _ _ _))
  generalize hO : ({ cls := .type "traceback", dict := none, data := .fields ([head, .ref L, .none, rawInt L, .none] ++ (if pl.isEmpty then List.replicate 6 Value.none else pl)).toArray } : Obj) = oT
  have e₂ : (h₁.push oT).get? e = some oe := Heap.get?_push_of_some oT e₁
  refine wpAny_setField e₂ hd hsz ?_
  have d₃ := Obj.data_mapFields hd (·.setIfInBounds 1 (Value.ref h₁.objs.size))
  have e₃ := Heap.get?_update_self (Obj.mapFields (·.setIfInBounds 1 (Value.ref h₁.objs.size))) e₂ (Obj.isFreed_of_fields d₃)
  have nTe : h₁.objs.size ≠ e := Nat.ne_of_gt (Heap.lt_size e₁)
  have t₃ : ((h₁.push oT).update e (Obj.mapFields (·.setIfInBounds 1 (Value.ref h₁.objs.size)))).get? h₁.objs.size = some oT :=
    (Heap.get?_update_other _ _ (Ne.symm nTe)).trans (Heap.get?_push_size h₁ (by rw [← hO]; rfl))
  have keep : ∀ b o, b ≠ e → h₁.get? b = some o → ((h₁.push oT).update e (Obj.mapFields (·.setIfInBounds 1 (Value.ref h₁.objs.size)))).get? b = some o := fun b o hbe hb =>
    (Heap.get?_update_other _ _ (Ne.symm hbe)).trans (Heap.get?_push_of_some oT hb)
  have up : s.heap.UpToSlots ((h₁.push oT).update e (Obj.mapFields (·.setIfInBounds 1 (Value.ref h₁.objs.size)))) := fun b o hb hn => by
    obtain ⟨sl, hs⟩ := hs₁.2.2 b o hb
    exact ⟨sl, keep b _ (ne_of_fields he hd hb hn) hs⟩
  refine h _ ⟨fun b o hb => keep b o (fun q => by rw [q, hen] at hb; cases hb) (b₁ b o hb), hen, hl.of_keeps fun b o hb hn => ?_, ?_⟩ up
  · obtain ⟨sl, hs⟩ := up b o hb hn
    exact ⟨_, hs, rfl⟩
  · refine ⟨_, _, _, oT, _, e₃, ⟨(Obj.cls_mapFields _ _).trans hc.1, (dict_mapFields _ _).trans hc.2⟩, d₃, by simp [hsz], b₁.fresh, nTe, t₃, by rw [← hO], ?_⟩
    first | (simp; done) | (rcases hpl with rfl | ⟨_, _, _, _, _, _, _, rfl⟩ <;> simp)

theorem clear_D (x : Fly base l e C d fl s.heap) (h : ∀ h', Fly base l e C d .none h' → s.heap.UpToSlots h' → Q () { s with heap := h' }) : wpAny M A (setFlight (.ref e) none) Q E s := by
  obtain ⟨hkb, hen, hl, oe, vs, T, oT, ts, he, hc, hd, h1, hnT, hTe, hT, hdT, h3⟩ := x
  have h3' : 3 < ts.size := (Array.getElem?_eq_some_iff.mp h3).1
  unfold setFlight
  refine wpAny_bind (wpAny_field he hd h1 ?_)
  rw [if_pos (show (Value.ref T != Value.none) = true from by simp)]
  refine wpAny_setField hT hdT h3' ?_
  generalize hu : s.heap.update T (Obj.mapFields (·.setIfInBounds 3 ((none : Option Addr).elim Value.none fun f => rawInt f))) = hU
  have other : ∀ b, b ≠ T → hU.get? b = s.heap.get? b := fun b hb => by rw [← hu]; exact Heap.get?_update_other _ _ (Ne.symm hb)
  have up : ∀ b o, s.heap.get? b = some o → (∀ vs, o.data ≠ .fields vs) → hU.get? b = some o := fun b o hb hn => (other b (ne_of_fields hT hdT hb hn)).trans hb
  refine h hU ⟨fun b o hb => (other b fun q => by rw [q, hnT] at hb; cases hb).trans (hkb b o hb), hen, hl.of_keeps fun b o hb hn => ⟨o, up b o hb hn, rfl⟩, ?_⟩ fun b o hb hn => ⟨o.slots, up b o hb hn⟩
  refine ⟨oe, vs, T, _, _, (other e (Ne.symm hTe)).trans he, hc, hd, h1, hnT, hTe, ?_, Obj.data_mapFields hdT (·.setIfInBounds 3 Value.none), by simp [h3']⟩
  rw [← hu]
  exact Heap.get?_update_self _ hT (Obj.isFreed_of_fields (Obj.data_mapFields hdT _))

theorem note_first_D (hfr : A.frames = some (env :: outer)) (hl : s.heap.FunFrames base (env :: outer)) (hf : env.frame = some L) (he : s.heap.get? e = some oe) (hc : oe.cls = .ref C ∧ oe.dict = some d)
    (hkb : base.StaysIn s.heap) (hen : base.get? e = none) (hd : oe.data = .fields vs) (h1 : vs[1]? = some .none)
    (h : ∀ h', Fly base (env :: outer) e C d (rawInt L) h' → s.heap.UpToSlots h' → Q () { s with heap := h' }) : wpAny M A (noteFrame (.ref e) env) Q E s := by
  unfold noteFrame
  simp only [hf]
  refine wpAny_bind (wpAny_field he hd h1 ?_)
  rw [if_neg (by decide)]
  exact entry_D hfr hl hf he hc hkb hen hd (Array.getElem?_eq_some_iff.mp h1).1 h

theorem note_next_D (hfr : A.frames = some (env :: outer)) (hf : env.frame = some L) (x : Fly base (env :: outer) e C d .none s.heap)
    (h : ∀ h', Fly base (env :: outer) e C d (rawInt L) h' → s.heap.UpToSlots h' → Q () { s with heap := h' }) : wpAny M A (noteFrame (.ref e) env) Q E s := by
  obtain ⟨hkb, hen, hl, oe, vs, T, oT, ts, he, hc, hd, h1, hnT, hTe, hT, hdT, h3⟩ := x
  unfold noteFrame
  simp only [hf]
  refine wpAny_bind (wpAny_field he hd h1 ?_)
  rw [if_pos (show (Value.ref T != Value.none) = true from by simp)]
  refine wpAny_bind (wpAny_field hT hdT h3 ?_)
  rw [if_neg (show ¬ ((Value.none == rawInt L) = true) from by simp [rawInt])]
  refine wpAny_bind (wpAny_setField hT hdT (Array.getElem?_eq_some_iff.mp h3).1 ?_)
  generalize hu : s.heap.update T (Obj.mapFields (·.setIfInBounds 3 Value.none)) = hU
  have other : ∀ b, b ≠ T → hU.get? b = s.heap.get? b := fun b hb => by rw [← hu]; exact Heap.get?_update_other _ _ (Ne.symm hb)
  have up : ∀ b o, s.heap.get? b = some o → (∀ vs, o.data ≠ .fields vs) → hU.get? b = some o := fun b o hb hn => (other b (ne_of_fields hT hdT hb hn)).trans hb
  refine entry_D (s := { s with heap := hU }) hfr (hl.of_keeps fun b o hb hn => ⟨o, up b o hb hn, rfl⟩) hf ((other e (Ne.symm hTe)).trans he) hc
    (fun b o hb => (other b fun q => by rw [q, hnT] at hb; cases hb).trans (hkb b o hb)) hen hd (Array.getElem?_eq_some_iff.mp h1).1 fun h' y z => h h' y ?_
  exact fun b o hb hn => z b o (up b o hb hn) hn

theorem note_again_D (hf : env.frame = some L) (x : Trc base e C d (rawInt L) s.heap) (h : Q () s) : wpAny M A (noteFrame (.ref e) env) Q E s := by
  obtain ⟨oe, vs, T, oT, ts, he, hc, hd, h1, hnT, hTe, hT, hdT, h3⟩ := x
  unfold noteFrame
  simp only [hf]
  refine wpAny_bind (wpAny_field he hd h1 ?_)
  rw [if_pos (show (Value.ref T != Value.none) = true from by simp)]
  refine wpAny_bind (wpAny_field hT hdT h3 ?_)
  rw [if_pos (show (rawInt L == rawInt L) = true from by simp)]
  exact wpAny_pure h

theorem Fly.tail {h : Heap} (x : Fly base (env :: outer) e C d fl h) : Fly base outer e C d fl h := by
  obtain ⟨k1, k2, ⟨_, _, k3⟩, k4⟩ := x
  exact ⟨k1, k2, k3, k4⟩
theorem leave_first_D (hfr : A.frames = some (env :: outer)) (hl : s.heap.FunFrames base (env :: outer)) (hf : env.frame = some L) (he : s.heap.get? e = some oe) (hc : oe.cls = .ref C ∧ oe.dict = some d)
    (hkb : base.StaysIn s.heap) (hen : base.get? e = none) (hd : oe.data = .fields vs) (h1 : vs[1]? = some .none)
    (h : ∀ h', Fly base outer e C d .none h' → s.heap.UpToSlots h' → Q () { s with heap := h' }) : wpAny M A (leaving env (.ref e)) Q E s := by
  unfold leaving
  refine wpAny_bind (note_first_D hfr hl hf he hc hkb hen hd h1 fun h₁ x₁ u₁ => ?_)
  exact clear_D x₁ fun h₂ x₂ u₂ => h h₂ x₂.tail (u₁.trans u₂)
theorem leave_next_D (hfr : A.frames = some (env :: outer)) (hf : env.frame = some L) (x : Fly base (env :: outer) e C d .none s.heap)
    (h : ∀ h', Fly base outer e C d .none h' → s.heap.UpToSlots h' → Q () { s with heap := h' }) : wpAny M A (leaving env (.ref e)) Q E s := by
  unfold leaving
  refine wpAny_bind (note_next_D hfr hf x fun h₁ x₁ u₁ => ?_)
  exact clear_D x₁ fun h₂ x₂ u₂ => h h₂ x₂.tail (u₁.trans u₂)
end
end Mine

open PySem PySem.W PyProof.Rows
set_option Elab.async false
set_option maxRecDepth 100000
set_option linter.all false
namespace Mine
open PySem.Calls
/-- an own exception of class 70 is under way; its field «at» reads k -/
noncomputable def RaisedD (base : Heap) (l : List Env) (e d : Addr) (k : Int) (h : Heap) : Prop :=
  ∃ B od tk, base.StaysIn B ∧ B.get? d = some od ∧ (∃ es n, od = dictOf es n) ∧ lookIn (Str.ofString "at") od = some (some (.int k tk)) ∧ base.get? d = none ∧ Fly B l e 70 d .none h

section
variable {M : Model} {A : Around} {E : Value → Shared → Prop} {s' : Shared} {base g g₂ h : Heap} {outer : List Env} {L a e d : Addr} {m : PySem.Str → Option Value} {name : PySem.Str} {scope : Scope} {cd : Value} {Q : Unit → Shared → Prop} {news : Led}
theorem fresh_get {base B : Heap} (k : base.StaysIn B) {b : Addr} (e : B.get? b = none) : base.get? b = none := by
  cases q : base.get? b with
  | none => rfl
  | some o => have := k b o q; rw [e] at this; cases this
theorem leave_raise_D {k : Int} {tk : Tok} {vs : Array Value} {oe od : Obj} {es : List DictEntry} {n : Nat} (K : Below A base outer g) (F : Fr g L s'.heap m) (N : News g L s'.heap news) (he : (e, oe) ∈ news) (hd : (d, od) ∈ news)
    (hc : oe.cls = .ref 70 ∧ oe.dict = some d) (hv : oe.data = .fields vs) (h1 : vs[1]? = some .none) (ho : od = dictOf es n) (hl : lookIn (Str.ofString "at") od = some (some (.int k tk)))
    (hQ : ∀ h', RaisedD base outer e d k h' → g.UpToSlots h' → Q () { s' with heap := h' }) (hk : scope.kind = .function := by rfl) :
    wpAny M (A.deeper (envOf name scope L a cd)) (leaving (envOf name scope L a cd) (.ref e)) Q E s' := by
  have K' := K.push (name := name) (a := a) (cd := cd) F hk
  obtain ⟨e1, e2, e3⟩ := N _ he
  obtain ⟨d1, d2, d3⟩ := N _ hd
  dsimp only at e1 e2 e3 d1 d2 d3
  have notFr : ∀ b o, s'.heap.get? b = some o → b ≠ L → g.get? b = none → b ∉ (envOf name scope L a cd :: outer).filterMap (·.frame) := by
    intro b o _ hbL hbg hm
    obtain ⟨env, hin, hf⟩ := List.mem_filterMap.mp hm
    rcases List.mem_cons.mp hin with rfl | hin
    · exact hbL (Option.some.inj hf).symm
    · obtain ⟨_, o', ho', _⟩ := K.frames.mem (List.mem_filterMap.mpr ⟨env, hin, hf⟩)
      rw [hbg] at ho'; cases ho'
  have hin : ∀ env ∈ (envOf name scope L a cd :: outer), ∀ b, env.frame = some b → b ∈ e :: (envOf name scope L a cd :: outer).filterMap (·.frame) := fun env hi b hb => .tail _ (List.mem_filterMap.mpr ⟨env, hi, hb⟩)
  have st : base.StaysIn (hideAll s'.heap (e :: (envOf name scope L a cd :: outer).filterMap (·.frame))) := fun b o q => hideAll_get _ (K'.stays b o q) fun hm => by
    rcases List.mem_cons.mp hm with rfl | hm
    · rw [fresh_get K.stays e3] at q; cases q
    · rw [(K'.frames.mem hm).1] at q; cases q
  have hdB : (hideAll s'.heap (e :: (envOf name scope L a cd :: outer).filterMap (·.frame))).get? d = some od := hideAll_get _ d1 fun hm => by
    rcases List.mem_cons.mp hm with q | hm
    · exact ne_of_fields e1 hv d1 (fun vs q => by rw [ho] at q; cases q) q
    · exact notFr d od d1 d2 d3 hm
  refine leave_first_D (base := hideAll s'.heap (e :: (envOf name scope L a cd :: outer).filterMap (·.frame))) K'.stack (funFrames_hide K'.frames hin) rfl e1 hc (fun b o q => of_hideAll _ q) (hideAll_none _ (.head _)) hv h1 fun h' x u => ?_
  exact hQ h' ⟨_, od, tk, st, hdB, ⟨es, n, ho⟩, hl, fresh_get K.stays d3, x⟩ ((Heap.UpToSlots.of_keeps F.keep).trans u)

theorem leave_on_D {k : Int} (K : Below A base outer g) (F : Fr g L g₂ m) (R : RaisedD base (envOf name scope L a cd :: outer) e d k s'.heap) (hsm : g₂.UpToSlots s'.heap)
    (hQ : ∀ h', RaisedD base outer e d k h' → g.UpToSlots h' → Q () { s' with heap := h' }) :
    wpAny M (A.deeper (envOf name scope L a cd)) (leaving (envOf name scope L a cd) (.ref e)) Q E s' := by
  obtain ⟨B, od, tk, hB, hdB, ho, hl, hdb, x⟩ := R
  exact leave_next_D (Around.frames_deeper K.stack) rfl x fun h' y u => hQ h' ⟨B, od, tk, hB, hdB, ho, hl, hdb, y⟩ ((Heap.UpToSlots.of_keeps F.keep).trans (hsm.trans u))
end

section
variable {prog : Program} {w : World} {A₀ : Around} {E : Value → Shared → Prop} {s' : Shared} {h₀ h : Heap} {outer : List Env} {L a e d : Addr} {m : PySem.Str → Option Value} {name : PySem.Str} {scope : Scope} {cd : Value}
  {n : PySem.Str} {b₀ : Stmt} {suite : List Stmt} {pos np : Pos} {rest : List ExceptHandler} {Q : Flow → Shared → Prop} {KF : Frag}
  {p : Program} {loose : List PySem.Str} {mg mb : PySem.Str → Option Value} {x : PySem.Str}
theorem caught_D {k : Int} (K : Below A₀ h₀ outer h₀) (F : Fr h₀ L h m) (hsm : h.UpToSlots s'.heap) (R : RaisedD h₀ (envOf name scope L a cd :: outer) e d k s'.heap)
    (X : KF.In h₀) (T : TopRead p loose mg mb h₀) (ex : nsIn KF mainGlobals x = some (some (.ref 70))) (q : ktsIn KF 70 "BaseException" = true)
    (kk : ∀ h' oe od tk tk' vs es ne, Fr h₀ L h' (fun y => if y = n then some (.ref e) else m y) → News h₀ L h' [(e, oe), (d, od)] → oe.cls = .ref 70 → oe.dict = some d → oe.data = .fields vs → od = dictOf es ne → lookIn (Str.ofString "at") od = some (some (.int k tk)) →
      wpAny (model prog w) ((A₀.deeper (envOf name scope L a cd)).mark (some (.ref e))) (execs (b₀ :: suite) (envOf name scope L a cd))
        (fun f s₄ => wpAny (model prog w) (A₀.deeper (envOf name scope L a cd)) (do bindName (envOf name scope L a cd) n .none; unbindBehindTheSuite (envOf name scope L a cd) n pos) (fun _ s₅ => Q f s₅) E s₄)
        (AsSuiteRaised (model prog w) ((A₀.deeper (envOf name scope L a cd)).mark (some (.ref e))) (envOf name scope L a cd) n pos (notedBy (model prog w) ((A₀.deeper (envOf name scope L a cd)).mark (some (.ref e))) (envOf name scope L a cd) (cameBackBy (model prog w) (A₀.deeper (envOf name scope L a cd)) (envOf name scope L a cd) E)))
        { s' with heap := h', toks := tk' })
    (hk : scope.kind = .function := by rfl) (hlo : (envOf name scope L a cd).kindOf n = some .local := by rfl) (hx : (envOf name scope L a cd).kindOf x = some .globalImplicit := by rfl) (hd : (x == ("__debug__" : PySem.Str)) = false := by decide) :
    wpAny (model prog w) (A₀.deeper (envOf name scope L a cd)) (noteFrame (.ref e) (envOf name scope L a cd))
      (fun _ s₂ => wpAny (model prog w) (A₀.deeper (envOf name scope L a cd)) (setFlight (.ref e) none) (fun _ s₃ =>
        wpAny (model prog w) (A₀.deeper (envOf name scope L a cd)) (handleBy (.ref e) (envOf name scope L a cd) (.ExceptHandler (some (.Name x np)) (some n) (b₀ :: suite) pos :: rest)) Q E s₃) E s₂) E s' := by
  obtain ⟨B, od, tk, hB, hdB, ⟨es, ne, ho⟩, hl, hdb, y⟩ := R
  have hL : B.get? L = none := by
    obtain ⟨_, ⟨L', _, hf, hn', _⟩, _⟩ := y.2.2.1
    obtain rfl : L = L' := Option.some.inj hf
    exact hn'
  refine note_next_D (Around.frames_deeper K.stack) rfl y fun h₄ y₄ u₄ => ?_
  refine clear_D y₄ fun h₅ y₅ u₅ => ?_
  have F₅ := F.of_stays (fun b o q => y₅.1 b o (hB b o q)) (hsm.trans (u₄.trans u₅))
  obtain ⟨oe, vs, hoe, hoc, _, _⟩ := y₅.ob
  refine wpAny_handleBy_cons (codeAny_handlers_test (name_K F₅ X T ex ?_ hk hx hd)) (by intro q; cases q)
  obtain ⟨nm, qn, N, bs, bm, hdct, sn, sub, ab, col, dd, k0, k1, k2, k3, k5, newId, hC, hbase, _⟩ := kts_cls X q
  refine wpAny_excMatches_sub_self (F₅.keep _ _ hC) hoe hoc hbase (codeAny_handlers_suite_as ?_)
  refine clear_D y₅ fun h₆ y₆ u₆ => ?_
  have F₆ := F.of_stays (fun b o q => y₆.1 b o (hB b o q)) (hsm.trans ((u₄.trans u₅).trans u₆))
  obtain ⟨oe, vs, hoe, hoc, hod, hof⟩ := y₆.ob
  have N₆ : News h₀ L h₆ [(e, oe), (d, od)] := by
    refine News.more F₆ (fun q hq => ?_) hoe (fun es n q => by rw [hof] at q; cases q) (fresh_get hB y₆.2.1)
    rw [List.mem_singleton.mp hq]
    exact ⟨y₆.1 _ _ hdB, fun z => (by dsimp only at z; rw [z, hL] at hdB; cases hdB), hdb⟩
  refine stN F₆ N₆ (fun h₇ F₇ N₇ => ?_) hk hlo
  exact kk h₇ oe od tk _ vs es ne F₇ N₇ hoc hod hof ho hl
end
end Mine

open PySem PySem.W PyProof.Rows
set_option Elab.async false
set_option maxRecDepth 100000
set_option maxHeartbeats 4000000
set_option linter.all false
namespace Mine
open PySem.Calls Builtin Builtin.ObjectAttr
noncomputable abbrev excO (C : Addr) (od : Option Addr) (a0 : Value) : Obj := { cls := .ref C, dict := od, data := .fields #[a0, .none, .none, .none, .bool false, .none] }
noncomputable def excTail (D : Addr) : List Value := [.ref D, .type "Exception", .type "BaseException", .type "object"]
noncomputable def excKin (K : Frag) (C D : Addr) : Bool := match K.lookup C with
  | some ⟨.type "type", _, .cls cd, sl⟩ => (match sl.toList with
    | [_, _, _, _, some (.builtin n), _] => cd.mro == .ref C :: excTail D && n == "Exception.__new__" && !cd.hasDel && cd.hasDict
    | _ => false)
  | _ => false
noncomputable def ExcCls (h : Heap) (C D : Addr) : Prop := ∃ nm qn N bs sn sub ab col dd k0 k1 k2 k3 k5, h.get? C = some (excClassObj nm qn C N bs (excTail D) true sn sub ab col dd k0 k1 k2 k3 k5 "Exception.__new__")
theorem exck {K : Frag} {h : Heap} {C D : Addr} (X : K.In h) (q : excKin K C D = true) : ExcCls h C D := by
  unfold excKin at q
  split at q
  · rename_i dd cd sl ho
    split at q
    · rename_i k0 k1 k2 k3 n k5 hs
      simp only [Bool.and_eq_true, beq_iff_eq, Bool.not_eq_true'] at q
      obtain ⟨⟨⟨hm, rfl⟩, hdel⟩, hdict⟩ := q
      obtain ⟨nm, bs, mro, ns, qn, hd, sn, sub, ab, col, del⟩ := cd
      dsimp only at hm hdel hdict
      subst hm hdel hdict
      have hsl : sl = #[k0, k1, k2, k3, some (.builtin "Exception.__new__"), k5] := by
        obtain ⟨l⟩ := sl
        simp only at hs
        rw [hs]
      subst hsl
      exact ⟨nm, qn, ns, bs, sn, sub, ab, col, dd, k0, k1, k2, k3, k5, X _ _ ho⟩
    · cases q
  · cases q

section
variable {M : Model} {A : Around} {E : Value → Shared → Prop} {h : Heap} {g : Array GenState} {d : Drawn} {t : Nat} {os : OsState}
variable {nm q : PySem.Str} {C D N : Addr} {bs bm : List Value} {hdct : Bool} {sn : List PySem.Str} {sub : List Value} {ab : Bool} {col : Option Bool} {dd : Option Addr} {k0 k1 k2 k3 k5 : Option Value}
theorem exc_check_new {rest : List Value} {Q : Unit → Shared → Prop} (hC : h.get? C = some (excClassObj nm q C N bs (excTail D) hdct sn sub ab col dd k0 k1 k2 k3 k5 "Exception.__new__"))
    (hq : Q () ⟨h, g, d, t, os⟩) : wpAny M A (checkBuiltinCall "Exception.__new__" ⟨.ref C :: rest, []⟩) Q E ⟨h, g, d, t, os⟩ := by
  have F := PySem.F.excBase_Exception
  have hB : (Value.ref C :: excTail D).contains (.type "Exception") = true := by simp [excTail]
  have hstar := F.noStar
  simp only [checkBuiltinCall, F.newKind, F.newSplit, F.newRow]
  repeat (first | refine wpAny_loadPart_at hC ?_ | (refine wpAny_isSubtype_exc hC ?_; rw [hB]) | refine wpAny_staticBase_exc hC ?_ | refine wpAny_madeBy_exc hC ?_ | simp only [bne_self_eq_false, Bool.false_eq_true, if_false] | wp_step)
  exact hq
end
section
variable {prog : Program} {w : World} {A : Around} {E : Value → Shared → Prop} {R : Result → Shared → Prop} {h : Heap} {g : Array GenState} {d : Drawn} {t : Nat} {os : OsState}
variable {nm q : PySem.Str} {C D N : Addr} {bs bm : List Value} {hdct : Bool} {sn : List PySem.Str} {sub : List Value} {ab : Bool} {col : Option Bool} {dd : Option Addr} {k0 k1 k2 k3 k5 : Option Value}
theorem exc_new {rest : List Value} (hC : h.get? C = some (excClassObj nm q C N bs (excTail D) hdct sn sub ab col dd k0 k1 k2 k3 k5 "Exception.__new__"))
    (hq : R (.ok (.ret (.ref (h.objs.size + 1)))) ⟨(h.push { cls := .type "tuple", data := .seq rest.toArray }).push (excO C none (.ref h.objs.size)), g, d, t, os⟩) (hrest : rest.length ≤ sizeLine) :
    codeAny (model prog w) A (.builtin "Exception.__new__" ⟨.ref C :: rest, []⟩) R ⟨h, g, d, t, os⟩ := by
  have F := PySem.F.excBase_Exception
  have hends := F.ends
  have hcB : (Value.ref C :: excTail D).contains (.type "Exception") = true := by simp [excTail]
  have hcA : (Value.ref C :: excTail D).contains (.type "AttributeError") = false := by simp [excTail]
  have hcN : (Value.ref C :: excTail D).contains (.type "NameError") = false := by simp [excTail]
  refine codeAny_builtinAt F.entry ?_
  unfold Builtin.«BaseException.__new__»
  refine PySem.wpAt_bind ?_
  show PySem.wpAt _ _ _ (stack >>= _) _ _ _
  refine PySem.wpAt_bind (PySem.wpAt_stack fun p below => PySem.wpAt_of_wpAny ?_)
  wp_walk
  refine PySem.wpAt_of_wpAny ?_
  rw [F.owner]
  repeat (first | with_reducible refine wpAny_madeHere_exc F.canon hC ?_ | with_reducible refine wpAny_loadPart_at hC ?_ | (with_reducible refine wpAny_isSubtype_exc hC ?_; first | rw [hcB] | rw [hcA] | rw [hcN]) | wp_step)
  show R _ _
  rw [Heap.size_push]
  exact hq

theorem exc_call_at {K : Frag} {rest : List Value} {fI : Addr} {Q : Value → Shared → Prop} (X : K.In h) (hk : excKin K C D = true) (hi : findIn K (.ref C) "__init__" = some (some (.ref fI))) (hf : isFn K (.ref fI) = true)
    (hq : wpAny (model prog w) (A.under (.builtin "type.__call__" ⟨.ref C :: rest, []⟩)) (call (.ref fI) (.ref (h.objs.size + 1) :: rest)) (fun r s' => r = .none ∧ Q (.ref (h.objs.size + 1)) s') E
      ⟨(h.push { cls := .type "tuple", data := .seq rest.toArray }).push (excO C none (.ref h.objs.size)), g, d, t, os⟩) (hrest : rest.length ≤ sizeLine) :
    wpAny (model prog w) A (call (.ref C) rest) Q E ⟨h, g, d, t, os⟩ := by
  obtain ⟨nm, q, N, bs, sn, sub, ab, col, dd, k0, k1, k2, k3, k5, hC⟩ := exck X hk
  have F := PySem.F.excBase_Exception
  have f1 := tc_lookup
  have f2 := tc_bind (.ref C)
  have hT : (⟨h, g, d, t, os⟩ : Shared).TypeIs (.ref C) "type" := ⟨_, hC, rfl⟩
  refine wpAny_call (codeAny_of_tree ?_)
  show wpAny _ _ (callAny (.ref C) _) _ _ _
  repeat (any_goals (first | assumption | with_reducible refine wpAny_loadPart_at hC ?_ | wp_step))
  refine ⟨rfl, ?_⟩
  refine codeAny_call_builtin_at (Code.quiet_builtin _ (by decide +kernel)) entry_typeCall (wpAny_check_type_call_sub hC ?_)
  repeat (first | with_reducible refine wpAny_loadPart_at hC ?_ | with_reducible refine wpAny_madeBy_exc hC ?_ | wp_step)
  refine codeAny_call_builtin_code (Code.quiet_builtin _ F.quiet) (exc_check_new hC ?_)
  refine exc_new hC ?_ hrest
  show wpAny _ _ _ _ _ _
  have hkeep : ∀ b o, h.get? b = some o → ((h.push { cls := .type "tuple", data := .seq rest.toArray }).push (excO C none (.ref h.objs.size))).get? b = some o := fun b o e => Heap.get?_push_of_some _ (Heap.get?_push_of_some _ e)
  have hC₁ := hkeep _ _ hC
  have X₁ : K.In ((h.push { cls := .type "tuple", data := .seq rest.toArray }).push (excO C none (.ref h.objs.size))) := X.keeps hkeep
  have hget : ((h.push { cls := .type "tuple", data := .seq rest.toArray }).push (excO C none (.ref h.objs.size))).get? (h.objs.size + 1) = some (excO C none (.ref h.objs.size)) := by heap_get
  have hcC : (Value.ref C :: excTail D).contains (.ref C) = true := by simp
  unfold isInstance
  repeat (first | with_reducible refine wpAny_loadPart_at hget ?_ | wp_step)
  refine wpAny_isSubtype_exc hC₁ ?_
  rw [hcC]
  repeat (first | wp_step)
  show wpAny _ _ (typeLookup (.ref C) _) _ _ _
  refine (looks_findIn X₁ hi).at ?_
  refine wpAny_holding (wpAny_bind ((bind_fn X₁ _ (beq_iff_eq.mp hf)).at (wpAny_bind (wpAny_mono hq (fun r s' hr => ?_) fun _ _ x => x))))
  obtain ⟨rfl, hQ⟩ := hr
  wp_walk
  exact hQ
end

section
variable {prog : Program} {w : World} {A : Around} {E : Value → Shared → Prop} {s : Shared} {K : Frag} {C D L x : Addr} {h₀ : Heap} {m : PySem.Str → Option Value} {news : Led}
theorem exc_call {rest : List Value} {fI : Addr} {Q : Value → Shared → Prop} (F : Fr h₀ L s.heap m) (X₀ : K.In h₀) (N : News h₀ L s.heap news) (hk : excKin K C D = true) (hi : findIn K (.ref C) "__init__" = some (some (.ref fI))) (hf : isFn K (.ref fI) = true)
    (h : ∀ x t h', Fr h₀ L h' m → News h₀ L h' ((x, excO C none (.ref t)) :: (t, tupO rest) :: news) → (∀ p ∈ news, p.1 < t) → t < x →
      wpAny (model prog w) (A.under (.builtin "type.__call__" ⟨.ref C :: rest, []⟩)) (call (.ref fI) (.ref x :: rest)) (fun r s' => r = .none ∧ Q (.ref x) s') E { s with heap := h' }) (hrest : rest.length ≤ sizeLine) :
    wpAny (model prog w) A (call (.ref C) rest) Q E s := by
  obtain ⟨hh, g, d, t, os⟩ := s
  refine exc_call_at (X₀.keeps F.keep) hk hi hf (h _ hh.objs.size _ ((F.push _).push _) ?_ (fun p hp => Heap.lt_size (N p hp).1) (Nat.lt_succ_self _)) hrest
  have := (N.push F (tupO rest)).push (F.push _) (excO C none (.ref hh.objs.size))
  rwa [Heap.size_push] at this

theorem exc_refuse {x : Value} {C D : Addr} : refuseLoop x "__setattr__" (.ref C :: excTail D) = pure () := by
  rw [refuseLoop_ref, excTail, refuseLoop_ref]
  exact PySem.F.store_Exception.passes x

theorem exc_set_open {ox : Obj} {od : Option Obj} {name : PySem.Str} {tk : Tok} {v : Value} {R : Result → Shared → Prop} (X : K.In s.heap) (I : InstAt s.heap x ox C od) (hk : excKin K C D = true) (ht : takerIn K C name = some none)
    (h : ∀ b, wpAny (model prog w) A.in1 (storeInOwnDict (.ref x) (.ref C) (.str name tk) name v b)
      (fun fin s' => match fin with | .done f => R (.ok f) s' | .again c' => c'.quiet = true ∧ codeAny (model prog w) A c' R s') (fun e s' => R (.error e) s') s) :
    codeAny (model prog w) A (.call (.builtin "object.__setattr__") ⟨[.ref x, .str name tk, v], []⟩) R s := by
  have SF := PySem.F.store_object
  obtain ⟨nm, q, N, bs, sn, sub, ab, col, dd, k0, k1, k2, k3, k5, hC⟩ := exck X hk
  obtain ⟨hh, g, d, t, os⟩ := s
  have hm : Looks (model prog w) hh (mroOf (.ref C)) (.ref C :: excTail D) := fun A Q E s k q => by
    obtain ⟨h1, g1, d1, t1, o1⟩ := s
    exact wpAny_mroOf_exc (k _ _ hC) q
  have hsub : Looks (model prog w) hh (isSubtype (.ref C) (.type "object")) true := fun A Q E s k q => by
    obtain ⟨h1, g1, d1, t1, o1⟩ := s
    refine wpAny_isSubtype_exc (k _ _ hC) ?_
    rw [show (Value.ref C :: excTail D).contains (.type "object") = true from by simp [excTail]]
    exact q
  refine codeAny_call_builtin SF.slot.plain SF.entry (@check_slot (model prog w) _ _ _ "object.__setattr__" "object" "__setattr__" (.ref x) [.str name tk, v] [] _ SF.kind SF.split (I.type.andThen hsub) (SF.args (.ref x) (.str name tk) v) ?_)
  obtain ⟨attr, ha, hr⟩ := Option.bind_eq_some_iff.mp ht
  have L3 : Looks (model prog w) hh (storeTaker? attr) none := by
    cases attr with
    | none => exact .now
    | some a =>
      obtain ⟨b, hb, hb2⟩ := Option.map_eq_some_iff.mp hr
      refine (looks_takesIn X hb).andThen ?_
      cases b
      · exact .now
      · cases hb2
  rw [osa_eq, refuse_eq]
  refine wpAny_bind (wpAny_bind (I.type.at (wpAny_bind (hm.at ?_))))
  rw [exc_refuse]
  refine wpAny_pure (wpAny_bind (I.type.at (wpAny_bind ((looks_findIn X ha).at (wpAny_bind (L3.at ?_))))))
  exact h _
end
end Mine

open PySem PySem.W PyProof.Rows
set_option Elab.async false
set_option maxRecDepth 100000
set_option maxHeartbeats 4000000
set_option linter.all false
namespace Mine
open PySem.Calls Builtin Builtin.ObjectAttr
section
variable {prog : Program} {w : World} {A : Around} {E : Value → Shared → Prop} {s : Shared} {K : Frag} {C D L x dx : Addr} {h₀ : Heap} {m : PySem.Str → Option Value} {news pre post : Led} {name : PySem.Str} {v a0 : Value}
theorem store_in {es : List DictEntry} {n : Nat} {tk : Tok} {Q : Fin → Shared → Prop} (F : Fr h₀ L s.heap m) (N : News h₀ L s.heap (pre ++ (dx, dictOf es n) :: post)) (h1 : ∀ p ∈ pre, p.1 ≠ dx) (h2 : ∀ p ∈ post, p.1 ≠ dx)
    (hl : (getL name es).isSome = true) (hz : (putL name (PyData.keyHash w.params name) (.str name s.toks) v es).length ≤ 1000)
    (h : ∀ h', Fr h₀ L h' m → News h₀ L h' (pre ++ (dx, dictOf (putL name (PyData.keyHash w.params name) (.str name s.toks) v es) (putN name es n)) :: post) → Q (.done (.ret .none)) { s with heap := h', toks := s.toks + 1 }) :
    wpAny (model prog w) A (storeInDict dx (.str name tk) name v) Q E s := by
  obtain ⟨U1, U2⟩ := news_upd (f := Obj.putName name (PyData.keyHash w.params name) (.str name s.toks) v) F N h1 h2 (putName_dict _ _ _ _ _ _) rfl
  have Dd := (N (dx, dictOf es n) (by simp)).1
  have D' := (U2 (dx, dictOf (putL name (PyData.keyHash w.params name) (.str name s.toks) v es) (putN name es n)) (by simp)).1
  refine wpAny_bind (wpAny_pure (wpAny_bind ?_))
  unfold nsSet
  refine wpAny_bind (wpAny_bind (wpAny_askSetting (wpAny_pure (wpAny_bind (wpAny_mkText (wpAny_bind (wpAny_loadPart Dd ?_)))))))
  dsimp only
  have c : (!es.toArray.any (·.key.isStr name) && es.toArray.any (·.refKey)) = false := by
    rw [← Array.any_toList, ← Array.any_toList]
    unfold getL at hl
    split at hl
    · rename_i en he
      rw [List.any_eq_true.mpr ⟨en, List.mem_of_find?_eq_some he, List.find?_some he⟩]; rfl
    · split at hl
      · cases hl
      · rename_i z; rw [Bool.not_eq_true] at z; rw [z, Bool.and_false]
  rw [aRefKeyMayBeTheName_at, c]
  refine wpAny_updatePart Dd ?_
  refine wpAny_bind (wpAny_lookBehind D' (pastItsLine_dict (by rw [List.size_toArray, sizeLine_eq]; omega)) ?_)
  exact wpAny_pure (h _ U1 U2)

theorem exc_inst {od : Option Obj} (he : s.heap.get? x = some (excO C (od.map fun _ => dx) a0)) (hd : ∀ o, od = some o → s.heap.get? dx = some o) : InstAt s.heap x (excO C (od.map fun _ => dx) a0) C od := by
  cases od with
  | none => exact ⟨he, rfl, rfl, trivial⟩
  | some o => exact ⟨he, rfl, rfl, hd o rfl⟩

theorem exc_set_first {Q : Unit → Shared → Prop} (F : Fr h₀ L s.heap m) (X₀ : K.In h₀) (N : News h₀ L s.heap ((x, excO C none a0) :: news)) (hx : ∀ p ∈ news, p.1 ≠ x) (hk : excKin K C D = true)
    (hs : findIn K (.ref C) "__setattr__" = some (some (.builtin "object.__setattr__"))) (ht : takerIn K C name = some none)
    (h : ∀ dx h', Fr h₀ L h' m → News h₀ L h' ((dx, dictOf [⟨PyData.keyHash w.params name, .str name (s.toks + 1), v⟩] 1) :: (x, excO C (some dx) a0) :: news) → x < dx → (∀ p ∈ news, p.1 < dx) → Q () { s with heap := h', toks := s.toks + 2 }) :
    wpAny (model prog w) A (setAttr (.ref x) name v) Q E s := by
  have X := X₀.keeps F.keep
  have hX := (N _ (.head _)).1
  have I : InstAt s.heap x (excO C none a0) C none := ⟨hX, rfl, rfl, trivial⟩
  refine set_plain X I hs (exc_set_open (s := { s with toks := s.toks + 1 }) X I hk ht fun b => ?_)
  obtain ⟨nm, q, Nn, bs, sn, sub, ab, col, dd, k0, k1, k2, k3, k5, hC⟩ := exck X hk
  refine wpAny_bind (wpAny_pure (wpAny_bind (wpAny_bind (wpAny_loadPart hX (wpAny_bind (wpAny_bind (wpAny_loadPart hC (wpAny_pure ?_))))))))
  dsimp only
  rw [if_neg (by simp)]
  have N₁ := N.push F (dictOf [] 0)
  have F₁ := F.push (dictOf [] 0)
  have N₂ : News h₀ L (s.heap.push (dictOf [] 0)) ([(s.heap.objs.size, dictOf [] 0)] ++ (x, excO C none a0) :: news) := N₁
  have lt : ∀ p ∈ ((x, excO C none a0) :: news : Led), p.1 < s.heap.objs.size := fun p hp => Heap.lt_size (N p hp).1
  obtain ⟨U1, U2⟩ := news_upd (f := fun o => { o with dict := some s.heap.objs.size }) (o' := excO C (some s.heap.objs.size) a0) F₁ N₂ (fun p hp => by rw [List.mem_singleton.mp hp]; exact Nat.ne_of_gt (lt _ (.head _))) hx rfl rfl
  rw [if_neg (by simp [typeHasDict])]
  refine wpAny_bind (wpAny_alloc (wpAny_bind (wpAny_update (Heap.get?_push_of_some _ hX) ?_)))
  show wpAny _ _ (pure (some s.heap.objs.size)) _ _ _
  refine wpAny_pure ?_
  have N₃ : News h₀ L ((s.heap.push (dictOf [] 0)).update x fun o => { o with dict := some s.heap.objs.size }) ([] ++ (s.heap.objs.size, dictOf [] 0) :: ((x, excO C (some s.heap.objs.size) a0) :: news)) := U2
  refine store_in (s := { s with heap := _, toks := s.toks + 1 }) U1 N₃ (fun _ h => nomatch h) (fun p hp => ?_) rfl (show (1 : Nat) ≤ 1000 from by decide) fun h' F' N' => ?_
  · rcases List.mem_cons.mp hp with rfl | hp
    · exact Nat.ne_of_lt (lt (x, excO C none a0) (.head _))
    · exact Nat.ne_of_lt (lt _ (.tail _ hp))
  · exact h _ _ F' N' (lt (x, excO C none a0) (.head _)) fun p hp => lt _ (.tail _ hp)

theorem exc_set_next {es : List DictEntry} {n : Nat} {Q : Unit → Shared → Prop} (F : Fr h₀ L s.heap m) (X₀ : K.In h₀) (N : News h₀ L s.heap ((dx, dictOf es n) :: news)) (hx : (x, excO C (some dx) a0) ∈ news) (hdx : ∀ p ∈ news, p.1 ≠ dx) (hk : excKin K C D = true)
    (hs : findIn K (.ref C) "__setattr__" = some (some (.builtin "object.__setattr__"))) (ht : takerIn K C name = some none) (hl : (getL name es).isSome = true) (hz : (putL name (PyData.keyHash w.params name) (.str name (s.toks + 1)) v es).length ≤ 1000)
    (h : ∀ h', Fr h₀ L h' m → News h₀ L h' ((dx, dictOf (putL name (PyData.keyHash w.params name) (.str name (s.toks + 1)) v es) (putN name es n)) :: news) → Q () { s with heap := h', toks := s.toks + 2 }) :
    wpAny (model prog w) A (setAttr (.ref x) name v) Q E s := by
  have X := X₀.keeps F.keep
  have hX := (N _ (.tail _ hx)).1
  have hD := (N _ (.head _)).1
  have I : InstAt s.heap x (excO C (some dx) a0) C (some (dictOf es n)) := ⟨hX, rfl, rfl, hD⟩
  refine set_plain X I hs (exc_set_open (s := { s with toks := s.toks + 1 }) X I hk ht fun b => ?_)
  obtain ⟨nm, q, Nn, bs, sn, sub, ab, col, dd, k0, k1, k2, k3, k5, hC⟩ := exck X hk
  refine wpAny_bind (wpAny_pure (wpAny_bind (wpAny_bind (wpAny_loadPart hX (wpAny_bind (wpAny_bind (wpAny_loadPart hC (wpAny_pure ?_))))))))
  dsimp only
  rw [if_neg (by simp)]
  refine wpAny_pure ?_
  exact store_in (pre := []) (s := { s with toks := s.toks + 1 }) F N (fun _ h => nomatch h) hdx hl hz fun h' F' N' => h h' F' N'

theorem exc_check_init {M : Model} {h : Heap} {g : Array GenState} {d : Drawn} {t : Nat} {os : OsState} {nm q : PySem.Str} {N : Addr} {bs : List Value} {hdct : Bool} {sn : List PySem.Str} {sub : List Value} {ab : Bool} {col : Option Bool} {dd : Option Addr} {k0 k1 k2 k3 k5 : Option Value} {oe : Obj} {rest : List Value} {Q : Unit → Shared → Prop}
    (hC : h.get? C = some (excClassObj nm q C N bs (excTail D) hdct sn sub ab col dd k0 k1 k2 k3 k5 "Exception.__new__")) (he : h.get? x = some oe) (hcls : oe.cls = .ref C) (hq : Q () ⟨h, g, d, t, os⟩) :
    wpAny M A (checkBuiltinCall "Exception.__init__" ⟨.ref x :: rest, []⟩) Q E ⟨h, g, d, t, os⟩ := by
  have FE := PySem.F.excBase_Exception
  have hcB : (Value.ref C :: excTail D).contains (.type "Exception") = true := by simp [excTail]
  have hshort := FE.noStar
  simp only [checkBuiltinCall, FE.initKind, FE.initSplit, FE.initRow]
  repeat (first | (with_reducible refine wpAny_loadPart_at he ?_; rw [hcls]) | with_reducible refine wpAny_loadPart_at hC ?_ | (with_reducible refine wpAny_isSubtype_exc hC ?_; rw [hcB]) | wp_step)
  refine wpAny_onRaise ?_
  rw [show ∀ (a b : String) (n : Nat), Bind.check ⟨.positional, "*", "Exception", .self, [⟨"args", .varPos, false⟩]⟩ a b n (List.map (fun x => x.fst) ({ pos := Value.ref x :: rest } : Args).kw) = pure () from
    fun a b n => check_star_args _ _ _ _ _ _]
  exact wpAny_pure hq
theorem exc_init {Q : Value → Shared → Prop} {od : Option Addr} {t0 : Addr} {rest : List Value} (F : Fr h₀ L s.heap m) (X₀ : K.In h₀) (N : News h₀ L s.heap ((x, excO C od (.ref t0)) :: news)) (hx : ∀ p ∈ news, p.1 ≠ x) (hk : excKin K C D = true) (hz : rest.length ≤ sizeLine)
    (h : ∀ t h', Fr h₀ L h' m → News h₀ L h' ((x, excO C od (.ref t)) :: (t, tupO rest) :: news) → (∀ p ∈ news, p.1 < t) → x < t → Q .none { s with heap := h' }) :
    wpAny (model prog w) A (call (.builtin "Exception.__init__") (.ref x :: rest)) Q E s := by
  have X := X₀.keeps F.keep
  have hX := (N _ (.head _)).1
  have FE := PySem.F.excBase_Exception
  obtain ⟨nm, q, Nn, bs, sn, sub, ab, col, dd, k0, k1, k2, k3, k5, hC⟩ := exck X hk
  have N₂ : News h₀ L (s.heap.push (tupO rest)) ([(s.heap.objs.size, tupO rest)] ++ (x, excO C od (.ref t0)) :: news) := N.push F (tupO rest)
  have lt : ∀ p ∈ ((x, excO C od (.ref t0)) :: news : Led), p.1 < s.heap.objs.size := fun p hp => Heap.lt_size (N p hp).1
  obtain ⟨U1, U2⟩ := news_upd (f := Obj.mapFields (·.setIfInBounds 0 (.ref s.heap.objs.size))) (o' := excO C od (.ref s.heap.objs.size)) (F.push (tupO rest)) N₂ (fun p hp => by rw [List.mem_singleton.mp hp]; exact Nat.ne_of_gt (lt _ (.head _))) hx rfl rfl
  have fin := h s.heap.objs.size _ U1 (fun p hp => U2 p (by
    rcases List.mem_cons.mp hp with rfl | hp
    · exact .tail _ (.head _)
    · rcases List.mem_cons.mp hp with rfl | hp
      · exact .head _
      · exact .tail _ (.tail _ hp))) (fun p hp => lt _ (.tail _ hp)) (lt _ (.head _))
  obtain ⟨hh, g, d, t, os⟩ := s
  refine wpAny_call (codeAny_call_builtin FE.init.plain FE.initEntry (exc_check_init hC hX rfl ?_))
  wp_walk
  exact fin
end
end Mine

open PySem PySem.W PyProof.Rows
set_option Elab.async false
set_option maxRecDepth 100000
set_option maxHeartbeats 4000000
set_option linter.all false
namespace Mine
open PySem.Calls Builtin Builtin.ObjectAttr
section
variable {prog : Program} {w : World} {A : Around} {E : Value → Shared → Prop} {s : Shared} {K : Frag} {C D L x : Addr} {h₀ : Heap} {m : PySem.Str → Option Value} {name : PySem.Str} {v : Value} {oe od : Obj}
theorem exc_get {expr : Bool} {Q : Value → Shared → Prop} (X : K.In s.heap) (I : InstAt s.heap x oe C (some od)) (hk : excKin K C D = true)
    (hga : findIn K (.ref C) "__getattribute__" = some (some (.builtin "BaseException.__getattribute__"))) (hgt : findIn K (.ref C) "__getattr__" = some none) (ha : findIn K (.ref C) name = some none) (hh : hasDictIn K C = true)
    (hl : lookIn name od = some (some v)) (hv : handedIn v = true) (h : Q v { s with toks := s.toks + 1 }) : wpAny (model prog w) A (getAttr (.ref x) name expr) Q E s := by
  obtain ⟨nm, q, Nn, bs, sn, sub, ab, col, dd, k0, k1, k2, k3, k5, hC⟩ := exck X hk
  have hf := findObj_own (v := v) hh ha rfl hl
  obtain ⟨hh', g, d, t, os⟩ := s
  have L0 := I.type (M := model prog w)
  have L1 := looks_findIn (M := model prog w) X hga
  have L2 := looks_findIn (M := model prog w) X hgt
  have L3 := looks_find (M := model prog w) X I hf
  have f3 := PySem.F.excAttr_ValueError.ga.bind (.ref x)
  have hx0 : (expr && onTheHeap (Value.builtin "BaseException.__getattribute__")) = false := by cases expr <;> rfl
  have hx2 : (Value.builtin "BaseException.__getattribute__" == Value.builtin "object.__getattribute__") = false := by decide +kernel
  have hx1 : (onTheHeap (Value.ref C) && Value.builtin "BaseException.__getattribute__" == Value.builtin "object.__getattribute__") = false := by rw [hx2]; rfl
  have hB : Looks (model prog w) hh' (isInstance (.ref x) (.type "BaseException")) true := I.type.andThen fun A Q E s k z => by
    obtain ⟨h1, g1, d1, t1, o1⟩ := s
    refine wpAny_isSubtype_exc (k _ _ hC) ?_
    rw [show (Value.ref C :: excTail D).contains (.type "BaseException") = true from by simp [excTail]]
    exact z
  unfold getAttr getAttrBy
  refine wpAny_bind (wpAny_mkText (wpAny_holding (wpAny_bind (L0.at (wpAny_bind (L1.at ?_))))))
  dsimp only
  rw [hx1]
  rw [if_neg (by decide)]
  unfold getAttrByItsOwn hookBefore
  rw [if_pos (by rfl)]
  refine wpAny_bind (L2.at ?_)
  unfold callGetattribute
  rw [hx0, if_neg (by decide)]
  refine wpAny_bind (wpAny_attempt (wpAny_holding ?_))
  unfold boundAndCalled
  rw [f3]
  refine wpAny_bind (wpAny_pure (wpAny_call (codeAny_call_builtin PySem.F.excAttr_ValueError.ga.plain PySem.F.entry_bexc_ga
    (@check_slot (model prog w) _ _ _ "BaseException.__getattribute__" "BaseException" "__getattribute__" (.ref x) [.str name t] [] _ (by decide +kernel) (by decide +kernel) hB (PySem.F.args_bexc_ga _ _) ?_))))
  unfold Builtin.«object.__getattribute__»
  refine wpAny_bind (wpAny_pure (wpAny_bind (wpAny_pure (wpAny_bind (L0.at (wpAny_bind (L3.at (wpAny_pure ?_))))))))
  show wpAny _ _ (handedOut v) _ _ _
  rw [handedOut_of hv]
  exact wpAny_pure h
end
end Mine

open PySem PySem.W PyProof.Rows
set_option Elab.async false
set_option maxRecDepth 100000
set_option maxHeartbeats 8000000
set_option linter.all false
set_option pp.deepTerms false
set_option pp.deepTerms.threshold 8
namespace Mine
local macro_rules | `(tactic| walk_at "mine ret1") => `(tactic| ((intro r' tl' h' tk' F' N' ho' hpost'); obtain ⟨h7, t9', h8⟩ := hpost'; subst h7; subst h8; clear ho'; simp only [List.nil_append] at N'))
local macro_rules | `(tactic| walk_at "mine ret2") => `(tactic| ((intro r' tl' h' tk' F' N' ho' hpost'); obtain ⟨h7, h8⟩ := hpost'; subst h7; subst h8; clear ho'; simp only [List.nil_append] at N'))
local macro_rules | `(tactic| walk_at "mine con") => `(tactic| (refine ⟨?_, ?_, ?_, ?_, ?_, ?_, ?_, ?_⟩; (k_dflt (k_asm)); (k_dflt (k_asm)); (k_dflt (k_asm)); (k_dflt (k_asm)); (k_dflt (k_asm)); (k_dflt (first | exact rfl | assumption)); ((rename (_ < recursionLimit) => hd9); (refine Nat.lt_of_le_of_lt ?_ hd9); (try simp only [depth_under_make, depth_under_kw, depth_in1, depth_deeper, depth_caller]); (try dsimp only [ktrTop]); omega); ((rename (_ < cLine) => hd9); (refine Nat.lt_of_le_of_lt ?_ hd9); (try simp only [units_in1, units_deeper, Around.mark_units, units_caller]); (try dsimp only [ktrTop]); omega)))
local macro_rules | `(tactic| walk_at "mine nc") => `(tactic| first | exact rfl | exact nc1 _ | exact nc2 _ | exact nca _ _ | exact ncl1 | exact ncl5 | exact ncl6)
local macro_rules | `(tactic| walk_at "mine len") => `(tactic| first | omega | ((try simp only [List.length_take, List.length_drop, List.length_append, List.length_cons, List.length_nil]); omega))
local macro_rules | `(tactic| walk_at "eval Constant str") => `(tactic| (refine' s_lit ?sh ?_; (case sh => first | with_reducible exact lit_quote | with_reducible exact lit_empty | with_reducible exact lit_blank | with_reducible exact lit_quotes | with_reducible exact lit_H | with_reducible exact lit_C | with_reducible exact lit_c | with_reducible exact lit_star | with_reducible exact lit_0 | with_reducible exact lit_END | with_reducible exact lit_nl | with_reducible exact lit_a | with_reducible exact lit_z | with_reducible exact lit_digits | with_reducible exact lit_ahead)))
local macro_rules | `(tactic| walk_at "call builtin:len") => `(tactic| (refine s_len ?sz ?_; (case sz => walk_at "mine len")))
local macro_rules | `(tactic| walk_at "compareOp Eq str str") => `(tactic| (refine s_eq ?_))
local macro_rules | `(tactic| walk_at "compareOp NotEq str str") => `(tactic| (refine s_ne ?_))
local macro_rules | `(tactic| walk_at "compareOp In str str") => `(tactic| (refine s_in ?_))
local macro_rules | `(tactic| walk_at "binaryOp Add str str") => `(tactic| (refine s_add ?sz ?_; (case sz => ((try simp only [List.length_append, List.length_cons, List.length_nil]); omega)); intro t' k' hk'; (try dsimp only at hk')))
local macro_rules | `(tactic| walk_at "subscriptTail Name Name str int") => `(tactic| ((with_reducible show wpAny _ _ (subscriptTail _ _ (Value.str (S _) _) (Value.int _ _)) _ _ _); refine' s_item ?se ?si2 ?sz ?_ (by with_unfolding_all rfl) (by intro _; with_unfolding_all rfl); (case se => walk_at "mine nc"); (case si2 => assumption); (case sz => walk_at "mine len")))
local macro_rules | `(tactic| walk_at "subscriptTail Name Slice str ref") => `(tactic| ((with_reducible show wpAny _ _ (subscriptTail _ (Expr.Slice (some _) (some _) none _) (Value.str (S _) _) _) _ _ _); (with_reducible rename Fr _ _ _ _ => F'); (with_reducible rename News _ _ _ _ => N'); (refine' s_slice (s := ⟨_, _, _, _, _⟩) ?se ?se2 F' N' ?sz ?_ (by with_unfolding_all rfl) (by intro _; with_unfolding_all rfl)); (case se => walk_at "mine nc"); (case se2 => walk_at "mine nc"); (case sz => walk_at "mine len"); intro h' t' k' F' N'))
local macro_rules | `(tactic| walk_at "subscriptTail Name Slice str ref") => `(tactic| ((with_reducible show wpAny _ _ (subscriptTail _ (Expr.Slice none (some _) none _) (Value.str (S _) _) _) _ _ _); (with_reducible rename Fr _ _ _ _ => F'); (with_reducible rename News _ _ _ _ => N'); (refine' s_slice_to (s := ⟨_, _, _, _, _⟩) ?se2 F' N' ?sz ?_ (by with_unfolding_all rfl) (by intro _; with_unfolding_all rfl)); (case se2 => walk_at "mine nc"); (case sz => walk_at "mine len"); intro h' t' k' F' N'))
local macro_rules | `(tactic| walk_at "subscriptTail Name Slice str ref") => `(tactic| ((with_reducible show wpAny _ _ (subscriptTail _ (Expr.Slice (some _) none none _) (Value.str (S _) _) _) _ _ _); (with_reducible rename Fr _ _ _ _ => F'); (with_reducible rename News _ _ _ _ => N'); (refine' s_slice_from (s := ⟨_, _, _, _, _⟩) ?se F' N' ?sz ?_ (by with_unfolding_all rfl) (by intro _; with_unfolding_all rfl)); (case se => walk_at "mine nc"); (case sz => walk_at "mine len"); intro h' t' k' F' N'))
local macro_rules | `(tactic| walk_at "call builtin:str.replace") => `(tactic| (refine' s_dbl ?s1 ?s2 ?s3 ?s4 ?_; (case s1 => ((show @Ne Nat _ _); omega)); (case s2 => ((show @Ne Nat _ _); omega)); (case s3 => ((show @Ne Nat _ _); omega)); (case s4 => ((try simp only [List.length_drop, List.length_take]); omega)); intro t' k'))
local macro_rules | `(tactic| walk_at "ite") => `(tactic| first | (refine it_t (by with_reducible assumption) ?_) | (refine it_f (by with_reducible assumption) ?_) | (refine it_nt (by with_reducible assumption) ?_) | (refine it_nf (by with_reducible assumption) ?_))
local macro_rules | `(tactic| k_room) => `(tactic| ((rename (_ < recursionLimit) => hd9); (refine Nat.lt_of_le_of_lt ?_ hd9); (try simp only [depth_mark, depth_under_make, depth_under_kw, depth_in1, depth_deeper, depth_caller]); (try dsimp only [ktrTop]); omega))
local macro_rules | `(tactic| walk_at "binaryOp Mod int int") => `(tactic| ((with_reducible refine mod_int' ?zz ?_); (case zz => decide)))
local macro_rules | `(tactic| walk_at "binaryOp FloorDiv int int") => `(tactic| ((with_reducible refine floordiv_int ?zz ?_); (case zz => decide)))
noncomputable def cE : List Nat → Nat → Option Nat
  | [], _ => none
  | c :: r, k => if c = 39 then (match r with | 39 :: r' => cE r' (k+2) | _ => some (k+1)) else cE r (k+1)
theorem drop_at {l : List Nat} {i c : Nat} (h : l[i]? = some c) : l.drop i = c :: l.drop (i+1) := by
  have hi : i < l.length := (List.getElem?_eq_some_iff.mp h).1
  rw [List.drop_eq_getElem_cons hi, (List.getElem?_eq_some_iff.mp h).2]
theorem take_drop1 {l : List Nat} {i c : Nat} : (l.take (i+1)).drop i = [c] ↔ l[i]? = some c := by
  rw [List.drop_take]
  have e : i + 1 - i = 1 := by omega
  rw [e]
  constructor
  · intro h
    have : (l.drop i).head? = some c := by
      cases h2 : l.drop i with
      | nil => rw [h2] at h; cases h
      | cons x r => rw [h2] at h; simp at h; simp [h]
    rwa [List.head?_drop] at this
  · intro h
    rw [drop_at h]; rfl
section
local macro_rules | `(tactic| walk_at "exec While Compare cons nil") => `(tactic| (refine Hold.out ?_))
theorem constant_end_c (w : World) (news : Led) (l : List Nat) (t ta : Tok) (at0 e : Nat) (hl : l.length ≤ 1000000) (h : cE (l.drop (at0+1)) (at0+1) = some e) (h0 : at0 < l.length) :
   Con w 86 1 news [.str (S l) t, .int at0 ta] (fun r tl => tl = [] ∧ ∃ t', r = .int e t') := by
  unfold Con
  k_fill
  intro mean mg mb dp un gd cn cs a ccd cl outer A₀ base h₀ L m s Q E B F X N T hk hd hu hret
  w_top off
  refine wpAny_call ?_
  k_dflt ktr_enter
  k_steps
  refine Hold.mk ?_
  rename Fr _ _ _ _ => F1
  rename News _ _ _ _ => N1
  with_unfolding_all refine' ksw_while (σ := Nat × Tok) (fun _ => news) (fun c => [(Str.ofString "end", .int (c.1 : Int) c.2)]) (fun _ => True) [] (fun c => cE (l.drop c.1) c.1 = some e) (fun c => l.length + 1 - c.1) (at0 + 1, ?tk) F1 N1 trivial ?hk h ?turn
  case hk => exact List.forall_mem_cons.mpr ⟨by with_unfolding_all rfl, List.forall_mem_nil _⟩
  case turn =>
    intro c u h tk _ hp F2 N2
    clear F1 N1
    obtain ⟨i, tki⟩ := c
    dsimp only at hp F2 N2 ⊢
    have hi : i < l.length := by
      refine Nat.lt_of_not_le fun hle => ?_
      rw [List.drop_eq_nil_of_le hle] at hp
      cases hp
    obtain ⟨x, hx⟩ : ∃ x, l[i]? = some x := ⟨_, List.getElem?_eq_getElem hi⟩
    rw [drop_at hx] at hp
    unfold cE at hp
    k_steps
    · rename (List.drop _ _ = _) => h2
      rename ([x] = [39]) => h1
      have hx1 : l[i+1]? = some 39 := take_drop1.mp h2
      have h3 : x = 39 := by simpa using h1
      rw [if_pos h3, drop_at hx1] at hp
      with_unfolding_all refine' ksw_end ((i + 2 : Nat), _) (by assumption) (by assumption) (fun _ h => h) trivial ?kk ?ks ?kp ?km
      case kk => exact List.forall_mem_cons.mpr ⟨by with_unfolding_all rfl, List.forall_mem_nil _⟩
      case ks =>
        intro z h2 h3
        simp only [List.forall_mem_cons, List.not_mem_nil, false_implies, implies_true, and_true, ne_eq] at h2
        simp only [List.contains_cons, List.contains_nil, Bool.or_false, Bool.or_eq_false_iff, beq_eq_false_iff_ne, ne_eq] at h3
        simp [kstB, h2, h3]
      case kp => exact hp
      case km => dsimp only; omega
    · rename (¬List.drop _ _ = _) => h2
      rename ([x] = [39]) => h1
      have h3 : x = 39 := by simpa using h1
      rw [if_pos h3] at hp
      have h4 : some (i + 1) = some e := by
        rw [← hp]
        split
        · rename_i heq
          exact absurd (take_drop1.mpr (by rw [← List.head?_drop, heq]; rfl)) h2
        · rfl
      injection h4 with h4
      subst h4
      exact hret _ [] _ _ (by k_asm) (by k_asm) (fun _ _ _ h9 => nomatch h9) ⟨rfl, _, rfl⟩
    · rename (¬[x] = [39]) => h1
      rw [if_neg (by simpa using h1)] at hp
      with_unfolding_all refine' ksw_end ((i + 1 : Nat), _) (by assumption) (by assumption) (fun _ h => h) trivial ?kk ?ks ?kp ?km
      case kk => exact List.forall_mem_cons.mpr ⟨by with_unfolding_all rfl, List.forall_mem_nil _⟩
      case ks =>
        intro z h2 h3
        simp only [List.forall_mem_cons, List.not_mem_nil, false_implies, implies_true, and_true, ne_eq] at h2
        simp only [List.contains_cons, List.contains_nil, Bool.or_false, Bool.or_eq_false_iff, beq_eq_false_iff_ne, ne_eq] at h3
        simp [kstB, h2, h3]
      case kp => exact hp
      case km => dsimp only; omega
end

/-- a sign (or none) that is no small letter: capital gives it back -/
theorem capital_c (w : World) (news : Led) (x : List Nat) (t : Tok) (hx : x < [97]) :
   Con w 79 1 news [.str (S x) t] (fun r tl => tl = [] ∧ ∃ t', r = .str (S x) t') := by
  unfold Con
  k_fill
  intro mean mg mb dp un gd cn cs a ccd cl outer A₀ base h₀ L m s Q E B F X N T hk hd hu hret
  w_top off
  refine wpAny_call ?_
  k_dflt ktr_enter
  k_steps
  all_goals (first | (exact hret _ [] _ _ (by k_asm) (by k_asm) (fun _ _ _ h9 => nomatch h9) ⟨rfl, _, rfl⟩) | (exfalso; rename (¬ (S x).cps.toList < _) => h9; exact h9 hx))
noncomputable def noBl (l : List Nat) : List Nat := l.filter (· != 32)
theorem strike_S (l : List Nat) : Txt.replace (S l) (S [32]) (S []) = S (noBl l) := by
  rw [← S_of (Txt.replace (S l) (S [32]) (S []))]
  exact congrArg S (replace_strikes (S l) 32)
theorem without_blanks_c (w : World) (news : Led) (l : List Nat) (t : Tok) (hx : l.length ≤ 1000000) :
   Con w 171 1 news [.str (S l) t] (fun r tl => tl = [] ∧ ∃ t', r = .str (S (noBl l)) t') := by
  unfold Con
  k_fill
  intro mean mg mb dp un gd cn cs a ccd cl outer A₀ base h₀ L m s Q E B F X N T hk hd hu hret
  w_top off
  refine wpAny_call ?_
  k_dflt ktr_enter
  (have h9 : 0 < s.toks + [(Str.ofString "text", Value.str (S l) t)].length := by simp)
  (have h8 : (S l).length ≤ 1000000 := by rw [S_length]; exact hx)
  k_steps
  rw [strike_S]
  exact hret _ [] _ _ (by k_asm) (by k_asm) (fun _ _ _ h9 => nomatch h9) ⟨rfl, _, rfl⟩

section
variable {σ : Type} {prog : Program} {w : World} {A : Around} {E : Value → Shared → Prop} {Q : Flow → Shared → Prop} {s : Shared} {env : Env} {h₀ : Heap} {L : Addr}
/-- where a while comes out by its test: the state, and what the test's end says -/
noncomputable def WOut (h₀ : Heap) (L : Addr) (s : Shared) (Led : σ → Led) (ps : σ → List (PySem.Str × Value)) (stored : List PySem.Str) (m₀ : PySem.Str → Option Value) (R : σ → Prop) (f : Flow) (s₂ : Shared) : Prop :=
  match f with
  | .next => ∃ (c : σ) (h' : Heap) (tk : Nat) (m' : PySem.Str → Option Value) (news' : Mine.Led), s₂ = { s with heap := h', toks := tk } ∧ Fr h₀ L h' m' ∧ News h₀ L h' news' ∧ (∀ p ∈ Led c, p ∈ news') ∧ (∀ p ∈ ps c, m' p.1 = some p.2) ∧ (∀ z, (∀ p ∈ ps c, z ≠ p.1) → stored.contains z = false → m' z = m₀ z) ∧ R c
  | _ => False
theorem WOut.mk {Led : σ → Led} {ps : σ → List (PySem.Str × Value)} {stored : List PySem.Str} {m₀ m' : PySem.Str → Option Value} {R : σ → Prop} {h' : Heap} {tk : Nat} {news' : Mine.Led} (c : σ)
    (F : Fr h₀ L h' m') (N : News h₀ L h' news') (hn : ∀ p ∈ Led c, p ∈ news') (hk : ∀ p ∈ ps c, m' p.1 = some p.2) (hr : ∀ z, (∀ p ∈ ps c, z ≠ p.1) → stored.contains z = false → m' z = m₀ z) (hR : R c) :
    WOut h₀ L s Led ps stored m₀ R .next { s with heap := h', toks := tk } := ⟨c, h', tk, m', news', rfl, F, N, hn, hk, hr, hR⟩
theorem my_while {test : Expr} {body : List Stmt} {pos : Pos} {m₀ : PySem.Str → Option Value} (Led : σ → Led) (ps : σ → List (PySem.Str × Value)) (stored : List PySem.Str) (P R : σ → Prop) (μ : σ → Nat) (c₀ : σ)
    (F : Fr h₀ L s.heap m₀) (N : News h₀ L s.heap (Led c₀)) (hk : ∀ p ∈ ps c₀, m₀ p.1 = some p.2) (hp : P c₀)
    (turn : ∀ (c : σ) (u : PySem.Str → Option Value) h tk, P c → Fr h₀ L h (kstB (fun z => if stored.contains z then u z else m₀ z) (ps c)) → News h₀ L h (Led c) →
      wpAny (model prog w) A (isTrue test env (eval test env)) (fun b s₂ =>
        if b = true then wpAny (model prog w) A (execs body env) (KswPost h₀ L s Led ps (fun _ => True) stored m₀ P μ (WOut h₀ L s Led ps stored m₀ R) c) E s₂ else WOut h₀ L s Led ps stored m₀ R .next s₂) E { s with heap := h, toks := tk })
    (done : ∀ (c : σ) (u : PySem.Str → Option Value) h tk, R c → Fr h₀ L h (kstB (fun z => if stored.contains z then u z else m₀ z) (ps c)) → News h₀ L h (Led c) → Q .next { s with heap := h, toks := tk })
    (hE : PassesOwn (model prog w) A env E := by passes_own) :
    wpAny (model prog w) A (exec (.While test body [] pos) env) Q E s := by
  refine wpAny_mono (ksw_while Led ps (fun _ => True) stored P μ c₀ F N trivial hk hp (fun c u h tk _ hP F' N' => turn c u h tk hP F' N') hE) (fun f s₂ h => ?_) fun _ _ x => x
  cases f with
  | next =>
    obtain ⟨c, h', tk, m', news', rfl, F', N', hn, hk', hr, hR⟩ := h
    exact done c m' h' tk hR (ksw_fr hk' hr F') fun p hp => N' p (hn p hp)
  | _ => exact h.elim
end
theorem my_mid {σ : Type} {prog : Program} {w : World} {A : Around} {E : Value → Shared → Prop} {Q : Flow → Shared → Prop} {s s' : Shared} {h₀ h9 : Heap} {L : Addr} {m₀ : PySem.Str → Option Value} {x : Sem Flow}
    (_ : Fr h₀ L h9 m₀) (Led : σ → Led) (ps : σ → List (PySem.Str × Value)) (R : σ → Prop)
    (hx : wpAny (model prog w) A x (WOut h₀ L s Led ps [] m₀ R) E s')
    (done : ∀ (c : σ) (u : PySem.Str → Option Value) h tk, R c → Fr h₀ L h (kstB (fun z => if List.contains [] z then u z else m₀ z) (ps c)) → News h₀ L h (Led c) → Q .next { s with heap := h, toks := tk }) :
    wpAny (model prog w) A x Q E s' := by
  refine wpAny_mono hx (fun f s₂ h => ?_) fun _ _ x => x
  cases f with
  | next =>
    obtain ⟨c, h', tk, m', news', rfl, F', N', hn, hk', hr, hR⟩ := h
    exact done c m' h' tk hR (ksw_fr hk' hr F') fun p hp => N' p (hn p hp)
  | _ => exact h.elim
noncomputable def TestPost (h₀ : Heap) (L : Addr) (s : Shared) (m : PySem.Str → Option Value) (led : Led) (b0 b : Bool) (s2 : Shared) : Prop := b = b0 ∧ ∃ h' tk', s2 = { s with heap := h', toks := tk' } ∧ Fr h₀ L h' m ∧ News h₀ L h' led
theorem my_test {prog : Program} {w : World} {A : Around} {E : Value → Shared → Prop} {Q : Bool → Shared → Prop} {s s' : Shared} {h₀ h9 : Heap} {L : Addr} {m : PySem.Str → Option Value} {led : Led} {x : Sem Bool} (b0 : Bool)
    (_ : Fr h₀ L h9 m) (_ : News h₀ L h9 led) (hx : wpAny (model prog w) A x (TestPost h₀ L s m led b0) E s')
    (done : ∀ h' tk', Fr h₀ L h' m → News h₀ L h' led → Q b0 { s with heap := h', toks := tk' }) : wpAny (model prog w) A x Q E s' :=
  wpAny_mono hx (fun _ _ ⟨e, h', tk', e2, F, N⟩ => by subst e; subst e2; exact done h' tk' F N) fun _ _ x => x
theorem con_use {w : World} {f : Addr} {lvl : Nat} {news : Led} {vs : List Value} {post : Value → Led → Prop} (C : Con w f lvl news vs post)
    {mean : ExcName → Option Value} {mg mb : PySem.Str → Option Value} {dp un : Nat} {gd : Option (List Code)} {cn : PySem.Str} {cs : Scope} {a : Addr} {ccd : Value} {cl : List (PySem.Str × Addr)} {outer : List Env} {A₀ : Around} {base h₀ : Heap} {L : Addr} {m : PySem.Str → Option Value} {s : Shared} {Q E : Value → Shared → Prop}
    (B : Below A₀ base outer h₀) (F : Fr h₀ L s.heap m) (X : (topK w.params).In h₀) (N : News h₀ L s.heap news) (T : Top topV (looseW topV []) mean mg mb h₀) (hk : cs.kind = .function)
    (hd' : dp + lvl < recursionLimit) (hu : un + 8 * lvl < cLine)
    (ret : ∀ r tl h' tk', Fr h₀ L h' m → News h₀ L h' (tl ++ news) → (∀ q ∈ news, ∀ p ∈ tl, q.1 < p.1) → post r tl → Q r { s with heap := h', toks := tk' }) :
    wpAny (model PySem.Challenge.rw_no0243_01.row.prog w) (ktrTop dp un gd cn cs L a ccd cl outer) (PySem.call (.ref f) vs) Q E s := C _ _ _ _ _ _ _ _ _ _ _ _ _ _ _ _ _ _ _ _ B F X N T hk hd' hu ret
theorem con_use' {w : World} {f : Addr} {lvl : Nat} {news : Led} {vs : List Value} {post : Value → Led → Prop} (C : Con w f lvl news vs post)
    {mean : ExcName → Option Value} {mg mb : PySem.Str → Option Value} {dp un : Nat} {gd : Option (List Code)} {cn : PySem.Str} {cs : Scope} {a : Addr} {ccd : Value} {cl : List (PySem.Str × Addr)} {outer : List Env} {A₀ : Around} {base h₀ : Heap} {L : Addr} {m : PySem.Str → Option Value} {s : Shared} {Q E : Value → Shared → Prop}
    (H : Below A₀ base outer h₀ ∧ Fr h₀ L s.heap m ∧ (topK w.params).In h₀ ∧ News h₀ L s.heap news ∧ Top topV (looseW topV []) mean mg mb h₀ ∧ cs.kind = .function ∧ dp + lvl < recursionLimit ∧ un + 8 * lvl < cLine)
    (ret : ∀ r tl h' tk', Fr h₀ L h' m → News h₀ L h' (tl ++ news) → (∀ q ∈ news, ∀ p ∈ tl, q.1 < p.1) → post r tl → Q r { s with heap := h', toks := tk' }) :
    wpAny (model PySem.Challenge.rw_no0243_01.row.prog w) (ktrTop dp un gd cn cs L a ccd cl outer) (PySem.call (.ref f) vs) Q E s := con_use C H.1 H.2.1 H.2.2.1 H.2.2.2.1 H.2.2.2.2.1 H.2.2.2.2.2.1 H.2.2.2.2.2.2.1 H.2.2.2.2.2.2.2 ret

noncomputable def cN : List Nat → Int → Nat → Int × Nat
  | [], n, e => (n, e)
  | c :: r, n, e => if c = 32 then cN r n (e+1) else if 48 ≤ c ∧ c ≤ 57 then cN r ((if 0 > n then 0 else n) * 10 + ((c : Int) - 48)) (e+1) else (n, e)
theorem cN_mono : ∀ (l : List Nat) (n : Int) (e : Nat), n ≤ (cN l n e).1
  | [], n, e => Int.le_refl _
  | c :: r, n, e => by
    unfold cN
    split
    · exact cN_mono r n (e+1)
    · split
      · rename_i h2
        obtain ⟨h3, h4⟩ := h2
        have := cN_mono r ((if 0 > n then 0 else n) * 10 + ((c : Int) - 48)) (e+1)
        have h5 : n ≤ (if 0 > n then 0 else n) * 10 + ((c : Int) - 48) := by split <;> omega
        exact Int.le_trans h5 this
      · exact Int.le_refl _
theorem lt97_slice {l : List Nat} (h : ∀ c ∈ l, c < 97) (i j : Nat) : (l.take j).drop i < [97] := by
  have h2 : ∀ c ∈ (l.take j).drop i, c < 97 := fun c hc => h c (List.mem_of_mem_take (List.mem_of_mem_drop hc))
  cases h3 : (l.take j).drop i with
  | nil => decide
  | cons x r =>
    have := h2 x (by rw [h3]; exact .head _)
    exact List.Lex.rel this

theorem mem_digits {x : Nat} : x ∈ [48,49,50,51,52,53,54,55,56,57] ↔ 48 ≤ x ∧ x ≤ 57 := by
  rw [show [48,49,50,51,52,53,54,55,56,57] = List.range' 48 10 from rfl, List.mem_range'_1]; omega
theorem find_digit {x : Nat} (h : 48 ≤ x ∧ x ≤ 57) : (Txt.find (S [48,49,50,51,52,53,54,55,56,57]) (S [x]) : Int) = (x : Int) - 48 := by
  obtain ⟨h1, h2⟩ := h
  have : ∀ x, x < 58 → 48 ≤ x → (Txt.find (S [48,49,50,51,52,53,54,55,56,57]) (S [x]) : Int) = (x : Int) - 48 := by decide +kernel
  exact this x (by omega) h1
section
local macro_rules | `(tactic| walk_at "exec While BoolOp cons nil") => `(tactic| (refine Hold.out ?_))
local macro_rules | `(tactic| walk_at "call ref") => `(tactic| ((with_reducible show wpAny _ _ (PySem.call (Value.ref 79) _) _ _ _); k_here; k_dflt (refine' con_use' (capital_c _ _ _ _ (lt97_slice (by assumption) _ _)) ?k1 ?_); (case k1 => walk_at "mine con"); walk_at "mine ret1"))
theorem count_end_c (w : World) (news : Led) (l : List Nat) (t ta : Tok) (at0 e : Nat) (n : Int) (hl : l.length ≤ 1000000) (hsm : ∀ c ∈ l, c < 97) (h : cN (l.drop at0) (-1) at0 = (n, e)) (hn : n ≤ 1000000) (h0 : at0 ≤ l.length) :
   Con w 93 2 news [.str (S l) t, .int at0 ta] (fun r tl => ∃ q ta tb, r = .ref q ∧ tl = [(q, if n < 0 ∨ l[e]? ≠ some 72 then tupO [.int (-1) ta, .int at0 tb] else tupO [.int n ta, .int ((e + 1 : Nat) : Int) tb])]) := by
  unfold Con
  k_fill
  intro mean mg mb dp un gd cn cs a ccd cl outer A₀ base h₀ L m s Q E B F X N T hk hd hu hret
  w_top off
  refine wpAny_call ?_
  k_dflt ktr_enter
  k_steps
  refine Hold.mk ?_
  rename Fr _ _ _ _ => F1
  rename News _ _ _ _ => N1
  with_unfolding_all refine' my_while (σ := (Nat × Tok) × (Int × Tok)) (fun _ => news) (fun c => [(Str.ofString "end", .int (c.1.1 : Int) c.1.2), (Str.ofString "count", .int c.2.1 c.2.2)]) [] (fun c => -1 ≤ c.2.1 ∧ cN (l.drop c.1.1) c.2.1 c.1.1 = (n, e)) (fun c => c.2.1 = n ∧ c.1.1 = e) (fun c => l.length - c.1.1) ((at0, _), (-1, _)) F1 N1 ?hk ⟨Int.le_refl _, h⟩ ?turn ?done
  case hk => exact List.forall_mem_cons.mpr ⟨by with_unfolding_all rfl, List.forall_mem_cons.mpr ⟨by with_unfolding_all rfl, List.forall_mem_nil _⟩⟩
  case turn =>
    rintro ⟨⟨i, ti⟩, k, tk'⟩ u h tk ⟨hk0, hp⟩ F2 N2
    clear F1 N1
    dsimp only at hp F2 N2 ⊢
    by_cases hi : i < l.length
    · obtain ⟨x, hx⟩ : ∃ x, l[i]? = some x := ⟨_, List.getElem?_eq_getElem hi⟩
      rw [drop_at hx] at hp
      unfold cN at hp
      have hkn : k ≤ 1000000 := by
        have := cN_mono (l.drop i) k i
        rw [drop_at hx, show cN (x :: List.drop (i+1) l) k i = (n, e) from by unfold cN; exact hp] at this
        exact Int.le_trans this hn
      k_steps
      · rename ([x] = [32]) => h1
        rw [if_pos (by simpa using h1)] at hp
        with_unfolding_all refine' ksw_end (((i + 1 : Nat), _), (k, _)) (by assumption) (by assumption) (fun _ h => h) trivial ?kk ?ks ?kp ?km
        case kk => exact List.forall_mem_cons.mpr ⟨by with_unfolding_all rfl, List.forall_mem_cons.mpr ⟨by with_unfolding_all rfl, List.forall_mem_nil _⟩⟩
        case ks =>
          intro z h2 h3
          simp only [List.forall_mem_cons, List.not_mem_nil, false_implies, implies_true, and_true, ne_eq] at h2
          simp only [List.contains_cons, List.contains_nil, Bool.or_false, Bool.or_eq_false_iff, beq_eq_false_iff_ne, ne_eq] at h3
          simp [kstB, h2, h3]
        case kp => exact ⟨hk0, hp⟩
        case km => dsimp only; omega
      · rename (¬[x] = [32]) => h1
        rename (x ∈ _) => h2
        rw [lit_digits, S_cps] at h2
        have h3 : 48 ≤ x ∧ x ≤ 57 := mem_digits.mp h2
        rw [if_neg (by simpa using h1), if_pos h3] at hp
        with_unfolding_all refine' ksw_end (((i + 1 : Nat), _), (_, _)) (by assumption) (by assumption) (fun _ h => h) trivial ?kk ?ks ?kp ?km
        case kk => exact List.forall_mem_cons.mpr ⟨by with_unfolding_all rfl, List.forall_mem_cons.mpr ⟨by with_unfolding_all rfl, List.forall_mem_nil _⟩⟩
        case ks =>
          intro z h2 h3
          simp only [List.forall_mem_cons, List.not_mem_nil, false_implies, implies_true, and_true, ne_eq] at h2
          simp only [List.contains_cons, List.contains_nil, Bool.or_false, Bool.or_eq_false_iff, beq_eq_false_iff_ne, ne_eq] at h3
          simp [kstB, h2, h3]
        case kp =>
          dsimp only
          rw [lit_digits, find_digit h3]
          exact ⟨by split <;> omega, hp⟩
        case km => dsimp only; omega
      · rename (¬[x] = [32]) => h1
        rename (¬ x ∈ _) => h2
        rw [lit_digits, S_cps] at h2
        have h3 : ¬ (48 ≤ x ∧ x ≤ 57) := fun h => h2 (mem_digits.mpr h)
        rw [if_neg (by simpa using h1), if_neg h3] at hp
        injection hp with hp1 hp2
        with_unfolding_all refine' WOut.mk (((i : Nat), _), (k, _)) (by assumption) (by assumption) (fun _ h => h) ?kk ?ks ?kp
        case kk => exact List.forall_mem_cons.mpr ⟨by with_unfolding_all rfl, List.forall_mem_cons.mpr ⟨by with_unfolding_all rfl, List.forall_mem_nil _⟩⟩
        case ks =>
          intro z h2 h3
          simp only [List.forall_mem_cons, List.not_mem_nil, false_implies, implies_true, and_true, ne_eq] at h2
          simp only [List.contains_cons, List.contains_nil, Bool.or_false, Bool.or_eq_false_iff, beq_eq_false_iff_ne, ne_eq] at h3
          simp [kstB, h2, h3]
        case kp => exact ⟨hp1, hp2⟩
    · rw [List.drop_eq_nil_of_le (by omega)] at hp
      unfold cN at hp
      injection hp with hp1 hp2
      k_steps
      with_unfolding_all refine' WOut.mk (((i : Nat), _), (k, _)) (by assumption) (by assumption) (fun _ h => h) ?kk ?ks ?kp
      case kk => exact List.forall_mem_cons.mpr ⟨by with_unfolding_all rfl, List.forall_mem_cons.mpr ⟨by with_unfolding_all rfl, List.forall_mem_nil _⟩⟩
      case ks =>
        intro z h2 h3
        simp only [List.forall_mem_cons, List.not_mem_nil, false_implies, implies_true, and_true, ne_eq] at h2
        simp only [List.contains_cons, List.contains_nil, Bool.or_false, Bool.or_eq_false_iff, beq_eq_false_iff_ne, ne_eq] at h3
        simp [kstB, h2, h3]
      case kp => exact ⟨hp1, hp2⟩
  case done =>
    rintro ⟨⟨i, ti⟩, k, tk'⟩ u h tk ⟨rfl, rfl⟩ F2 N2
    clear F1 N1
    dsimp only at F2 N2 ⊢
    k_steps
    · rename (∀ (p : Addr × Obj), p ∈ news → p.fst < _) => hl9
      exact hret _ [(_, _)] _ _ (by k_asm) (by k_asm) (fun q hq p hp => by rw [List.mem_singleton.mp hp]; exact hl9 q hq) ⟨_, _, _, rfl, by rw [if_pos (.inl (by assumption))] <;> rfl⟩
    · rename (List.drop _ _ = _) => h2
      rename (∀ (p : Addr × Obj), p ∈ news → p.fst < _) => hl9
      exact hret _ [(_, _)] _ _ (by k_asm) (by k_asm) (fun q hq p hp => by rw [List.mem_singleton.mp hp]; exact hl9 q hq) ⟨_, _, _, rfl, by rw [if_neg (by rw [not_or]; exact ⟨by assumption, by rw [take_drop1.mp h2]; simp⟩)] <;> rfl⟩
    · rename (¬ List.drop _ _ = _) => h2
      rename (∀ (p : Addr × Obj), p ∈ news → p.fst < _) => hl9
      exact hret _ [(_, _)] _ _ (by k_asm) (by k_asm) (fun q hq p hp => by rw [List.mem_singleton.mp hp]; exact hl9 q hq) ⟨_, _, _, rfl, by rw [if_pos (.inr fun h => h2 (take_drop1.mpr h))] <;> rfl⟩
end

noncomputable def hollO (l : List Nat) (at0 : Nat) (n : Int) (e : Nat) : List Nat × Nat :=
  if n < 0 ∨ l[e]? ≠ some 72 then ([], at0) else (39 :: StrLaws.dbl 39 ((l.take (e + 1 + n.toNat)).drop (e + 1)) ++ [39], e + 1 + n.toNat)
theorem dbl_le (c : Nat) : ∀ l : List Nat, (StrLaws.dbl c l).length ≤ 2 * l.length
  | [] => Nat.le_refl _
  | k :: r => by
    unfold StrLaws.dbl
    have := dbl_le c r
    split <;> simp only [List.length_cons] <;> omega
local macro_rules | `(tactic| walk_at "mine h1") => `(tactic| ((with_reducible show wpAny _ _ (PySem.call (Value.ref 93) _) _ _ _); k_here; k_dflt (refine' con_use' (count_end_c _ _ _ _ _ _ _ _ (by assumption) (by assumption) (by assumption) (by assumption) (by omega)) ?k1 ?_); (case k1 => walk_at "mine con"); (intro r' tl' h' tk' F' N' ho' hpost'); obtain ⟨q', ta', tb', h7, h8⟩ := hpost'; subst h7; subst h8; (first | rw [if_pos (by assumption)] at N' | rw [if_neg (by assumption)] at N'); simp only [List.cons_append, List.nil_append] at N'))
section
local macro_rules | `(tactic| walk_at "call ref") => `(tactic| walk_at "mine h1")
local macro_rules | `(tactic| walk_at "unused 1") => `(tactic| skip)
theorem hollerith_c (w : World) (news : Led) (l : List Nat) (t ta : Tok) (at0 e : Nat) (n : Int) (hl : l.length ≤ 300000) (hsm : ∀ c ∈ l, c < 97) (h : cN (l.drop at0) (-1) at0 = (n, e)) (hn : n ≤ 1000000) (h0 : at0 ≤ l.length)
   (hok : ¬ (n < 0 ∨ l[e]? ≠ some 72) → 1 ≤ n ∧ e + 1 + n.toNat ≤ l.length) :
   Con w 100 3 news [.str (S l) t, .int at0 ta] (fun r tl => ∃ q ta tb, r = .ref q ∧ tl = [(q, tupO [.str (S (hollO l at0 n e).1) ta, .int ((hollO l at0 n e).2 : Int) tb])]) := by
  have hl' : l.length ≤ 1000000 := by omega
  unfold Con
  k_fill
  intro mean mg mb dp un gd cn cs a ccd cl outer A₀ base h₀ L m s Q E B F X N T hk hd hu hret
  w_top off
  refine wpAny_call ?_
  k_dflt ktr_enter
  by_cases hc : n < 0 ∨ l[e]? ≠ some 72
  · k_steps
    rename (_ ∧ AllLt _ news) => hl9
    rename (News h₀ L _ _) => N9
    exact hret _ [(_, _)] _ _ (by k_asm) (news_keep N9) (fun q hq p hp => by rw [List.mem_singleton.mp hp]; exact ktn_ltOf hl9.2 q hq) ⟨_, _, _, rfl, by unfold hollO; rw [if_pos hc] <;> rfl⟩
  · have hok' := hok hc
    obtain ⟨k, rfl⟩ : ∃ k : Nat, n = (k : Int) := ⟨n.toNat, by omega⟩
    have hd1 := dbl_le 39 ((l.take (e + 1 + k)).drop (e + 1))
    have hd2 : ((l.take (e + 1 + k)).drop (e + 1)).length ≤ l.length := by simp only [List.length_drop, List.length_take]; omega
    k_steps
    · exfalso; rename ((k : Int) = 0) => h9; omega
    · rename (_ ∧ AllLt _ news) => hl9
      rename (News h₀ L _ _) => N9
      exact hret _ [(_, _)] _ _ (by k_asm) (news_keep N9) (fun q hq p hp => by rw [List.mem_singleton.mp hp]; exact ktn_ltOf hl9.2 q hq) ⟨_, _, _, rfl, by unfold hollO; rw [if_neg hc] <;> rfl⟩
end

/-- what holds between the turns of a for -/
noncomputable def KJ {σ : Type} (Led : σ → Led) (ps : σ → List (PySem.Str × Value)) (x : PySem.Str) (stored : List PySem.Str) (m₀ : PySem.Str → Option Value) (P : σ → Prop) (m : PySem.Str → Option Value) (nx : Mine.Led) : Prop :=
  ∃ c : σ, nx = Led c ∧ (∀ p ∈ ps c, m p.1 = some p.2) ∧ (∀ z, z ≠ x → (∀ p ∈ ps c, z ≠ p.1) → stored.contains z = false → m z = m₀ z) ∧ P c
theorem gend {σ : Type} {Led : σ → Led} {ps : σ → List (PySem.Str × Value)} {x : PySem.Str} {stored : List PySem.Str} {m₀ m' : PySem.Str → Option Value} {P : σ → Prop} {h₀ : Heap} {L : Addr} {own news' : Mine.Led} {s₁ : Shared} {h' : Heap} {tk : Nat} (c : σ)
    (F : Fr h₀ L h' m') (N : News h₀ L h' news') (hn : ∀ p ∈ Led c, p ∈ news') (ho : ∀ p ∈ own, p ∈ news') (ha : OwnOff own ((Led c).map (·.1))) (hk : ∀ p ∈ ps c, m' p.1 = some p.2) (hr : ∀ z, z ≠ x → (∀ p ∈ ps c, z ≠ p.1) → stored.contains z = false → m' z = m₀ z) (hp : P c) :
    InvEndG h₀ L (KJ Led ps x stored m₀ P) own s₁ { s₁ with heap := h', toks := tk } := ⟨h', tk, m', news', Led c, rfl, F, N, hn, ho, ha, c, rfl, hk, hr, hp⟩
theorem gpost {h₀ : Heap} {L : Addr} {J : (PySem.Str → Option Value) → Led → Prop} {own : Led} {s₁ s₂ : Shared} {Q : Flow → Shared → Prop} (h : InvEndG h₀ L J own s₁ s₂) : InvPostG h₀ L J own s₁ Q .next s₂ := h
theorem gpostc {h₀ : Heap} {L : Addr} {J : (PySem.Str → Option Value) → Led → Prop} {own : Led} {s₁ s₂ : Shared} {Q : Flow → Shared → Prop} (h : InvEndG h₀ L J own s₁ s₂) : InvPostG h₀ L J own s₁ Q .cont s₂ := h
theorem pyIter_str2 {prog : Program} {w : World} {A : Around} {E : Value → Shared → Prop} {s : Shared} {x : PySem.Str} {t : Tok} {Q : Value → Shared → Prop}
    (hQ : ∀ (o : Obj) (St : Nat → Heap → Prop), (∀ A' : Around, A'.handled = none → Walks prog w A' s.heap.objs.size [s.heap.objs.size] [s.heap.objs.size] x.cps.size (SignAt x) St) → (∀ i h, St i h → ∃ o, h.get? s.heap.objs.size = some o) → St 0 (s.heap.push o) →
      Q (.ref s.heap.objs.size) { s with heap := s.heap.push o }) : wpAny (model prog w) A (pyIter (.str x t)) Q E s := by
  cases ha : x.cps.all (· < 128)
  · exact wpAny_pyIter_wide ha (hQ _ _ (fun A' hA => Walks.strWide hA _ x t) (fun i h hs => ⟨_, hs.choose_spec.1⟩) ⟨_, Heap.get?_push_size _ rfl, rfl, rfl⟩)
  · exact wpAny_pyIter_ascii ha (hQ _ _ (fun A' hA => Walks.strAscii hA _ x t) (fun i h hs => ⟨_, hs.choose_spec.1⟩) ⟨_, Heap.get?_push_size _ rfl, rfl, rfl⟩)
section
variable {σ : Type} {prog : Program} {w : World} {A : Around} {E : Value → Shared → Prop} {s : Shared} {env : Env} {h₀ : Heap} {x : PySem.Str} {body : List Stmt} {Q : Flow → Shared → Prop}
theorem my_text {l : List Nat} {tx : Tok} {m₀ : PySem.Str → Option Value} (Led : σ → Led) (ps : σ → List (PySem.Str × Value)) (stored : List PySem.Str) (P : Nat → σ → Prop) (c₀ : σ)
    (hh : A.handled = none) (F : Fr h₀ env.locals s.heap m₀) (N : News h₀ env.locals s.heap (Led c₀)) (hk : ∀ p ∈ ps c₀, m₀ p.1 = some p.2) (hp : P 0 c₀)
    (turn : ∀ (c : σ) (i n : Nat) t (u : PySem.Str → Option Value) h tk own, l[i]? = some n → OwnOff own ((Led c).map (·.1)) → P i c →
      Fr h₀ env.locals h (fun y => if y = x then some (.str (S [n]) t) else kstB (fun z => if stored.contains z then u z else m₀ z) (ps c) y) → News h₀ env.locals h (Led c ++ own) →
      wpAny (model prog w) A (execs body env) (InvPostG h₀ env.locals (KJ Led ps x stored m₀ (P (i + 1))) own { s with heap := h, toks := tk } Q) E { s with heap := h, toks := tk })
    (done : ∀ (c : σ) (u : PySem.Str → Option Value) h tk, P l.length c → Fr h₀ env.locals h (fun y => if y = x then u y else kstB (fun z => if stored.contains z then u z else m₀ z) (ps c) y) → News h₀ env.locals h (Led c) → Q .next { s with heap := h, toks := tk }) :
    wpAny (model prog w) A (pyIter (.str (S l) tx)) (fun it s₂ => LoopAtV prog w A h₀ env x body Q E it s₂) E s := by
  refine pyIter_str2 fun o St hW hob hst => ?_
  have W := hW A hh
  refine kdr_loop (fun i m nx => KJ Led ps x stored m₀ (P i) m nx) W ?_ ?_ ?_ ?_ ?_ ?_ hst (F.push _) (fun p hp => ⟨Heap.get?_push_of_some _ (N p hp).1, (N p hp).2⟩) ⟨c₀, rfl, hk, fun _ _ _ _ => rfl, hp⟩ ?_ ?_
  · exact fun a h => h
  · exact fun a h => h
  · intro i h hs b hb; rw [List.mem_singleton.mp hb]; exact hob i h hs
  · intro hm
    exact absurd F.ns.lt ((List.mem_singleton.mp hm) ▸ Nat.lt_irrefl _)
  · intro b' hb
    rw [List.mem_singleton.mp hb]
    exact next_is_new F
  · intro p hp hI
    exact absurd (Heap.lt_size (N p hp).1) ((List.mem_singleton.mp hI) ▸ Nat.lt_irrefl _)
  · rintro i v m₁ nx h tk own hi ⟨n, u, hn, rfl⟩ hoff ⟨c, rfl, h1, h2, hp'⟩ F₁ N₁
    exact turn c i n u m₁ h tk own (by simpa using hn) hoff hp' (kst_fr h1 h2 F₁) N₁
  · rintro m₁ nx h tk ⟨c, rfl, h1, h2, hp'⟩ F₁ N₁
    have hl : (S l).cps.size = l.length := S_length l
    rw [hl] at hp'
    exact done c m₁ h tk hp' (kst_frOut h1 h2 F₁) N₁
theorem my_list {l : Addr} {vs : List Value} {nn : Nat} {m₀ : PySem.Str → Option Value} (Led : σ → Led) (ps : σ → List (PySem.Str × Value)) (stored : List PySem.Str) (P : Nat → σ → Prop) (c₀ : σ)
    (hh : A.handled = none) (hl : ∀ c, (l, listOf vs.toArray nn) ∈ Led c) (F : Fr h₀ env.locals s.heap m₀) (N : News h₀ env.locals s.heap (Led c₀)) (hk : ∀ p ∈ ps c₀, m₀ p.1 = some p.2) (hp : P 0 c₀)
    (turn : ∀ (c : σ) (i : Nat) v (u : PySem.Str → Option Value) h tk own, vs[i]? = some v → OwnOff own ((Led c).map (·.1)) → P i c →
      Fr h₀ env.locals h (fun y => if y = x then some v else kstB (fun z => if stored.contains z then u z else m₀ z) (ps c) y) → News h₀ env.locals h (Led c ++ own) →
      wpAny (model prog w) A (execs body env) (InvPostG h₀ env.locals (KJ Led ps x stored m₀ (P (i + 1))) own { s with heap := h, toks := tk } Q) E { s with heap := h, toks := tk })
    (done : ∀ (c : σ) (u : PySem.Str → Option Value) h tk, P vs.length c → Fr h₀ env.locals h (fun y => if y = x then u y else kstB (fun z => if stored.contains z then u z else m₀ z) (ps c) y) → News h₀ env.locals h (Led c) → Q .next { s with heap := h, toks := tk }) :
    wpAny (model prog w) A (pyIter (.ref l)) (fun it s₂ => LoopAtV prog w A h₀ env x body Q E it s₂) E s := by
  refine kdl_iter (fun i m nx => KJ Led ps x stored m₀ (P i) m nx) hh (hl c₀) F N ⟨c₀, rfl, hk, fun _ _ _ _ => rfl, hp⟩ ?_ ?_
  · rintro i v m₁ nx h tk own hv hoff _ ⟨c, rfl, h1, h2, hp'⟩ F₁ N₁
    refine wpAny_mono (turn c i v m₁ h tk own hv hoff hp' (kst_fr h1 h2 F₁) N₁) (fun f s₂ p => ?_) fun _ _ x => x
    have up : InvEndG h₀ env.locals (KJ Led ps x stored m₀ (P (i + 1))) own { s with heap := h, toks := tk } s₂ →
        InvEndG h₀ env.locals (fun m' nx => (l, listOf vs.toArray nn) ∈ nx ∧ KJ Led ps x stored m₀ (P (i + 1)) m' nx) own { s with heap := h, toks := tk } s₂ := by
      rintro ⟨h', tk', m', news', nx, e, F', N', hn', ho', ha, hS⟩
      refine ⟨h', tk', m', news', nx, e, F', N', hn', ho', ha, ?_, hS⟩
      obtain ⟨c', rfl, _⟩ := hS
      exact hl c'
    cases f with
    | ret v => exact p
    | brk => exact p
    | next => exact up p
    | cont => exact up p
  · rintro m₁ nx h tk ⟨c, rfl, h1, h2, hp'⟩ F₁ N₁
    exact done c m₁ h tk hp' (kst_frOut h1 h2 F₁) N₁
end

/-- a made tuple of a sign and its mark -/
noncomputable def PT (led : Led) (v : Value) (o : Nat × Bool) : Prop := ∃ a t, v = .ref a ∧ (a, tupO [.str (S [o.1]) t, .bool o.2]) ∈ led
inductive PTs (led : Led) : List Value → List (Nat × Bool) → Prop
  | nil : PTs led [] []
  | cons {v vs o os} : PT led v o → PTs led vs os → PTs led (v :: vs) (o :: os)
theorem PT.mono {led led' : Led} (hs : ∀ p ∈ led, p ∈ led') {v : Value} {o : Nat × Bool} (h : PT led v o) : PT led' v o := let ⟨a, t, e, m⟩ := h; ⟨a, t, e, hs _ m⟩
theorem PTs.mono {led led' : Led} (hs : ∀ p ∈ led, p ∈ led') {vs : List Value} {os : List (Nat × Bool)} (h : PTs led vs os) : PTs led' vs os := by
  induction h with
  | nil => exact .nil
  | cons h _ ih => exact .cons (h.mono hs) ih
theorem PTs.snoc {led : Led} {vs : List Value} {os : List (Nat × Bool)} {v : Value} {o : Nat × Bool} (h : PTs led vs os) (h1 : PT led v o) : PTs led (vs ++ [v]) (os ++ [o]) := by
  induction h with
  | nil => exact .cons h1 .nil
  | cons h _ ih => exact .cons h ih
theorem PTs.length {led : Led} {vs : List Value} {os : List (Nat × Bool)} (h : PTs led vs os) : vs.length = os.length := by
  induction h with
  | nil => rfl
  | cons _ _ ih => simp [ih]
noncomputable def AH (la : List Nat) : Prop := ∃ k, la = [k] ∧ k ∈ [40, 44, 47, 58]
noncomputable def Dig (c : Nat) : Prop := 48 ≤ c ∧ c ≤ 57
inductive Run (l : List Nat) : List Nat → Nat → List (Nat × Bool) → List Nat → Nat → Prop
  | nil {la at0} : Run l la at0 [] la at0
  | blank {la at0 o la' at'} : l[at0]? = some 32 → Run l la (at0+1) o la' at' → Run l la at0 o la' at'
  | plain {la at0 c o la' at'} : l[at0]? = some c → c ≠ 32 → c ≠ 39 → ¬ (Dig c ∧ AH la) → Run l [c] (at0+1) o la' at' → Run l la at0 ((c, false) :: o) la' at'
  | digit {la at0 c n e o la' at'} : l[at0]? = some c → Dig c → AH la → cN (l.drop at0) (-1) at0 = (n, e) → n ≤ 1000000 → (n < 0 ∨ l[e]? ≠ some 72) → Run l [c] (at0+1) o la' at' → Run l la at0 ((c, false) :: o) la' at'
  | quote {la at0 e o la' at'} : l[at0]? = some 39 → cE (l.drop (at0+1)) (at0+1) = some e → e ≤ l.length → at0 < e → Run l [39] e o la' at' → Run l la at0 (((l.take e).drop at0).map (·, true) ++ o) la' at'
  | holl {la at0 c n e o la' at'} : l[at0]? = some c → Dig c → AH la → cN (l.drop at0) (-1) at0 = (n, e) → n ≤ 1000000 → l[e]? = some 72 → 1 ≤ n → e + 1 + n.toNat ≤ l.length → at0 < e →
      Run l [c] (e + 1 + n.toNat) o la' at' → Run l la at0 ((hollO l at0 n e).1.map (·, true) ++ o) la' at'
structure Sq where
  at0 : Nat
  ta : Tok
  la : List Nat
  tla : Tok
  vs : List Value
  nn : Nat
  tl : Led
  os : List (Nat × Bool)
theorem own_new {own tl news : Led} {a x : Addr} {o o' t : Obj} (h : OwnOff own (((a, o) :: (tl ++ news)).map (·.1))) (hx : ∀ p ∈ own, p.1 < x) : OwnOff own (((a, o') :: ((x, t) :: tl ++ news)).map (·.1)) := by
  intro p hp b hb
  simp only [List.map_cons, List.cons_append, List.mem_cons] at hb
  rcases hb with rfl | rfl | hb
  · exact h p hp _ (by simp)
  · exact Nat.ne_of_lt (hx p hp)
  · exact h p hp _ (by simp only [List.map_cons, List.mem_cons]; exact .inr hb)
theorem mem_swap {a b : Addr × Obj} {r : Led} : ∀ p ∈ a :: (b :: r), p ∈ b :: a :: r := fun p hp => by
  rcases List.mem_cons.mp hp with rfl | hp
  · exact .tail _ (.head _)
  · rcases List.mem_cons.mp hp with rfl | hp
    · exact .head _
    · exact .tail _ (.tail _ hp)
theorem mem_swap1 {a b q : Addr × Obj} {r : Led} : ∀ p ∈ a :: (b :: r), p ∈ b :: q :: a :: r := fun p hp => by
  rcases List.mem_cons.mp hp with rfl | hp
  · exact .tail _ (.tail _ (.head _))
  · rcases List.mem_cons.mp hp with rfl | hp
    · exact .head _
    · exact .tail _ (.tail _ (.tail _ hp))
theorem mem_swap2 {a b : Addr × Obj} {r own : Led} : ∀ p ∈ a :: (b :: r), p ∈ b :: a :: (r ++ own) := fun p hp => by
  rcases List.mem_cons.mp hp with rfl | hp
  · exact .tail _ (.head _)
  · rcases List.mem_cons.mp hp with rfl | hp
    · exact .head _
    · exact .tail _ (.tail _ (List.mem_append.mpr (.inl hp)))
theorem dig_in {c : Nat} (h : Dig c) : c ∈ (PySem.Str.ofString "0123456789").1.toList := by rw [lit_digits]; exact mem_digits.mpr h
theorem dig_out {c : Nat} (h : ¬ Dig c) : ¬ c ∈ (PySem.Str.ofString "0123456789").1.toList := by rw [lit_digits]; exact fun h9 => h (mem_digits.mp h9)
theorem ah_in {k : Nat} (h : AH [k]) : k ∈ (PySem.Str.ofString "(,/:").1.toList := by
  obtain ⟨k', e, h⟩ := h
  injection e with e
  subst e
  rw [lit_ahead]; exact h
theorem ah_out {k : Nat} (h : ¬ AH [k]) : ¬ k ∈ (PySem.Str.ofString "(,/:").1.toList := by rw [lit_ahead]; exact fun h9 => h ⟨k, rfl, h9⟩
theorem grab {α : Type} {P : α → Prop} {a : α} {G : Prop} (h : P a) (k : ∀ a', a' = a → P a' → G) : G := k a rfl h
theorem lt97_one {c : Nat} (h : c < 97) : [c] < [97] := List.Lex.rel h

noncomputable def KT {σ : Type} (Led : σ → Led) (ps : σ → List (PySem.Str × Value)) (stored : List PySem.Str) (m₀ : PySem.Str → Option Value) (P : σ → Prop) (m : PySem.Str → Option Value) (nx : Mine.Led) : Prop :=
  ∃ c : σ, nx = Led c ∧ (∀ p ∈ ps c, m p.1 = some p.2) ∧ (∀ z, (∀ p ∈ ps c, z ≠ p.1) → stored.contains z = false → m z = m₀ z) ∧ P c
section
variable {σ : Type} {prog : Program} {w : World} {A : Around} {E : Value → Shared → Prop} {s : Shared} {env : Env} {h₀ : Heap} {target : Expr} {body : List Stmt} {Q : Flow → Shared → Prop}
/-- a for with any target over a made list -/
theorem my_listT {l : Addr} {vs : List Value} {nn : Nat} {m₀ : PySem.Str → Option Value} (Led : σ → Led) (ps : σ → List (PySem.Str × Value)) (stored : List PySem.Str) (P : Nat → σ → Prop) (c₀ : σ)
    (hh : A.handled = none) (hl : ∀ c, (l, listOf vs.toArray nn) ∈ Led c) (F : Fr h₀ env.locals s.heap m₀) (N : News h₀ env.locals s.heap (Led c₀)) (hk : ∀ p ∈ ps c₀, m₀ p.1 = some p.2) (hp : P 0 c₀)
    (turn : ∀ (c : σ) (i : Nat) v (u : PySem.Str → Option Value) h tk own, vs[i]? = some v → OwnOff own ((Led c).map (·.1)) → P i c →
      Fr h₀ env.locals h (kstB (fun z => if stored.contains z then u z else m₀ z) (ps c)) → News h₀ env.locals h (Led c ++ own) →
      wpAny (model prog w) A (assign target env v) (fun _ s₂ => wpAny (model prog w) A (execs body env) (InvPostG h₀ env.locals (KT Led ps stored m₀ (P (i + 1))) own { s with heap := h, toks := tk } Q) E s₂) E { s with heap := h, toks := tk })
    (done : ∀ (c : σ) (u : PySem.Str → Option Value) h tk, P vs.length c → Fr h₀ env.locals h (kstB (fun z => if stored.contains z then u z else m₀ z) (ps c)) → News h₀ env.locals h (Led c) → Q .next { s with heap := h, toks := tk })
    (hE : PassesOwn (model prog w) A env E := by passes_own) :
    wpAny (model prog w) A (pyIter (.ref l)) (fun it s₂ => codeAny (model prog w) A (.forLoop target it body [] env) (fun r s' => match r with | .ok f => Q f s' | .error e => cameBackBy (model prog w) A env E e s') s₂) E s := by
  have hol : s.heap.get? l = some (listOf vs.toArray nn) := (N _ (hl c₀)).1
  have hls : s.heap.IsList l vs.toArray := ⟨_, hol, rfl, nn, rfl⟩
  have hne : l ≠ s.heap.objs.size := Nat.ne_of_lt (Heap.lt_size hol)
  refine wpAny_pyIter_list hls ?_
  have W := KTurns.ofWalks (target := target) (Walks.list (prog := prog) (w := w) hh s.heap.objs.size l hne vs.toArray) fun i v s Q E st q => letGo_listiter st.1 q
  have hlen : vs.toArray.size = vs.length := by simp
  rw [hlen] at W
  refine ktu_loop W ?_ ?_ ?_ ⟨⟨_, Heap.get?_push_size _ rfl, rfl, rfl⟩, hls.at fun o e => Heap.get?_push_of_some _ e⟩ (F.push _) (fun p hp => ⟨Heap.get?_push_of_some _ (N p hp).1, (N p hp).2⟩) (fun i m nx => (l, listOf vs.toArray nn) ∈ nx ∧ KT Led ps stored m₀ (P i) m nx) ⟨hl c₀, c₀, rfl, hk, fun _ _ _ => rfl, hp⟩ ?_ ?_
  · intro hm
    rcases List.mem_cons.mp hm with e | hm
    · exact absurd F.ns.lt (e ▸ Nat.lt_irrefl _)
    · exact (N _ (hl c₀)).2.1 ((List.mem_singleton.mp hm).symm)
  · intro b hb
    rw [List.mem_singleton.mp hb]
    exact next_is_new F
  · intro p hp hI
    exact absurd (Heap.lt_size (N p hp).1) ((List.mem_singleton.mp hI) ▸ Nat.lt_irrefl _)
  · rintro i v m₁ news₁ hh' tk' own hin hP ⟨hl₁, c, rfl, h1, h2, hp'⟩ hoff hown hget hfp hst F₁ N₁
    have hP' : vs[i]? = some v := by simpa using hP
    have hI0 : h₀.get? s.heap.objs.size = none := next_is_new F
    obtain ⟨⟨oI, hoI, _⟩, _⟩ := id hst
    have hIown : (s.heap.objs.size, oI) ∈ own.filter fun p => decide (p.1 = s.heap.objs.size) := List.mem_filter.mpr ⟨hfp _ (List.mem_cons.mpr (.inl rfl)) hI0 _ hoI, by simp⟩
    have hsep : OwnOff (own.filter fun p => decide (p.1 = s.heap.objs.size)) ((Led c).map (·.1)) := by
      intro p hp b hb e
      obtain ⟨q, hq, rfl⟩ := List.mem_map.mp hb
      have h1 : p.1 = s.heap.objs.size := by simpa using (List.mem_filter.mp hp).2
      exact hoff q hq (List.mem_singleton.mpr (e ▸ h1))
    have N₂ : News h₀ env.locals hh' (Led c ++ own.filter fun p => decide (p.1 = s.heap.objs.size)) := fun p hp => N₁ p ((List.mem_append.mp hp).elim (fun h => List.mem_append.mpr (.inr h)) fun h => List.mem_append.mpr (.inl ((List.mem_filter.mp h).1)))
    have hlo : hh'.get? l = some (listOf vs.toArray nn) := (N₁ _ (List.mem_append.mpr (.inr hl₁))).1
    refine wpAny_mono (wpAny_passesOwn hE (turn c i v m₁ hh' tk' _ hP' hsep hp' (ksw_fr h1 h2 F₁) N₂)) (fun _ s₃ q => ?_) fun _ _ e => e
    refine wpAny_mono (wpAny_passesOwn hE q) (fun f s₂ p => ?_) fun _ _ e => e
    have fin : InvEndG h₀ env.locals (KT Led ps stored m₀ (P (i + 1))) (own.filter fun p => decide (p.1 = s.heap.objs.size)) { s with heap := hh', toks := tk' } s₂ →
        LoopStepU h₀ env.locals [s.heap.objs.size] own (fun m nx => (l, listOf vs.toArray nn) ∈ nx ∧ KT Led ps stored m₀ (P (i + 1)) m nx) { s with heap := hh', toks := tk' } .next s₂ := by
      rintro ⟨h', tk, m', news', nx, e, F', N', hn, ho, ha, hm⟩
      have hlx : (l, listOf vs.toArray nn) ∈ nx := by
        obtain ⟨c', rfl, _⟩ := hm
        exact hl c'
      refine ⟨rfl, h', tk, m', nx, e, F', fun p hp => ?_, fun p hp hq => ?_, hlx, hm⟩
      · rcases List.mem_append.mp hp with h | h
        · by_cases hI : p.1 = s.heap.objs.size
          · exact N' p (ho p (List.mem_filter.mpr ⟨h, by simpa using hI⟩))
          · have h1 : p.1 = l := by
              rcases List.mem_cons.mp (hown p h) with h2 | h2
              · exact absurd h2 hI
              · exact List.mem_singleton.mp h2
            have h2 : hh'.get? p.1 = some p.2 := hget p h
            rw [h1, hlo] at h2
            have h3 : p = (l, listOf vs.toArray nn) := Prod.ext h1 (Option.some.inj h2).symm
            rw [h3]
            exact N' _ (hn _ hlx)
        · exact N' p (hn p h)
      · exact ha _ hIown p.1 (List.mem_map.mpr ⟨p, hp, rfl⟩) (List.mem_singleton.mp hq).symm
    cases f with
    | ret v => exact .ret p
    | brk => exact .brk p
    | next => exact .next (fin p)
    | cont => exact .cont (fin p)
  · rintro h' tk m' news' F' N' _ ⟨_, c, rfl, h1, h2, hp'⟩
    exact done c m' h' tk hp' (ksw_fr h1 h2 F') N'
end

/-- a made text -/
noncomputable def SV (v : Value) (r : List Nat) : Prop := ∃ t, v = .str (S r) t
inductive SVs : List Value → List (List Nat) → Prop
  | nil : SVs [] []
  | cons {v vs r rs} : SV v r → SVs vs rs → SVs (v :: vs) (r :: rs)
theorem SVs.length {vs : List Value} {rs : List (List Nat)} (h : SVs vs rs) : vs.length = rs.length := by
  induction h with
  | nil => rfl
  | cons _ _ ih => simp [ih]
theorem SVs.snoc {vs : List Value} {rs : List (List Nat)} {v : Value} {r : List Nat} (h : SVs vs rs) (h1 : SV v r) : SVs (vs ++ [v]) (rs ++ [r]) := by
  induction h with
  | nil => exact .cons h1 .nil
  | cons h _ ih => exact .cons h ih
theorem SVs.get {vs : List Value} {rs : List (List Nat)} (h : SVs vs rs) : ∀ {i : Nat} {v : Value}, vs[i]? = some v → ∃ r, rs[i]? = some r ∧ SV v r := by
  induction h with
  | nil => intro i v h; simp at h
  | cons h1 _ ih =>
    intro i v h
    cases i with
    | zero => rw [List.getElem?_cons_zero] at h; injection h with h; subst h; exact ⟨_, rfl, h1⟩
    | succ i => rw [List.getElem?_cons_succ] at h; obtain ⟨o, ho, hp⟩ := ih h; exact ⟨o, ho, hp⟩
theorem SVs.ofStr : ∀ {l : List (PySem.Str × Tok)} {rs : List (List Nat)}, l.map (·.1) = rs.map S → SVs (strValues l) rs
  | [], [], _ => .nil
  | [], _ :: _, h => by cases h
  | _ :: _, [], h => by cases h
  | (x, t) :: l, r :: rs, h => by
    rw [List.map_cons, List.map_cons] at h
    injection h with h1 h2
    exact .cons ⟨t, by dsimp only at h1; rw [h1]⟩ (SVs.ofStr h2)
section
variable {prog : Program} {w : World} {A : Around} {E : Value → Shared → Prop} {s : Shared} {Q : Value → Shared → Prop} {h₀ : Heap} {L : Addr} {led : Led} {vs : List Value} {a : Addr} {n : Nat}
theorem isList_led (N : News h₀ L s.heap led) (hm : (a, listOf vs.toArray n) ∈ led) : s.heap.IsList a vs.toArray := ⟨_, (N _ hm).1, rfl, n, rfl⟩
theorem l_len (N : News h₀ L s.heap led) (hm : (a, listOf vs.toArray n) ∈ led) (hv : vs.length ≤ 16777216) (h : Q (.int (vs.length : Int) (s.toks + 1)) { s with toks := s.toks + 1 + 1 }) : wpAny (model prog w) A (PySem.call (.builtin "len") [.ref a]) Q E s := by
  have e : vs.toArray.size = vs.length := by simp
  exact len_list (isList_led N hm) (by rw [e]; omega) (by rw [e]; exact h)
theorem l_item {value slice : Expr} {i : Nat} {k : Int} {u : Tok} {v : Value} (hk : k = (i : Int)) (N : News h₀ L s.heap led) (hm : (a, listOf vs.toArray n) ∈ led) (hv : vs.length ≤ 16777216) (hx : vs[i]? = some v) (h : Q v s)
    (hs : subscripted slice false (.ref a) (.int k u) = operate [.ref a, .int k u] (getItem (.ref a) (.int k u)) := by with_unfolding_all rfl) :
    wpAny (model prog w) A (subscriptTail value slice (.ref a) (.int k u)) Q E s := by
  subst hk
  have hi : i < vs.length := (List.getElem?_eq_some_iff.mp hx).1
  have hL := isList_led N hm
  exact tail_any hL.typeIs slot_list_getitem.lookup (wpAny_getItem_list hL (by omega) (by omega) (by simpa using hx) h) hs
end
/-- a text that is rows between ends of rows, cut at them, is the rows -/
theorem join_S (c : Nat) : ∀ (r : List Nat) (rs : List (List Nat)), PySem.Str.join (S [c]) ((r :: rs).map S) = S (r ++ (rs.map fun x => c :: x).flatten)
  | r, [] => by
    show S r = _
    simp
  | r, x :: rs => by
    have h := join_S c x rs
    show S r ++ S [c] ++ PySem.Str.join (S [c]) ((x :: rs).map S) = _
    rw [h, S_append, S_append]
    simp
theorem free_eq {c : Nat} : ∀ {a b x y : List Nat}, c ∉ a → c ∉ x → a ++ c :: b = x ++ c :: y → a = x ∧ b = y
  | [], b, [], y, _, _, h => by simpa using h
  | [], b, k :: x, y, _, hx, h => by
    simp only [List.nil_append, List.cons_append, List.cons.injEq] at h
    exact absurd (h.1 ▸ List.mem_cons_self) hx
  | k :: a, b, [], y, ha, _, h => by
    simp only [List.nil_append, List.cons_append, List.cons.injEq] at h
    exact absurd (h.1 ▸ List.mem_cons_self) ha
  | k :: a, b, k' :: x, y, ha, hx, h => by
    simp only [List.cons_append, List.cons.injEq] at h
    have := free_eq (fun m => ha (List.mem_cons_of_mem _ m)) (fun m => hx (List.mem_cons_of_mem _ m)) h.2
    exact ⟨by rw [h.1, this.1], this.2⟩
theorem rows_eq {c : Nat} : ∀ {rs qs : List (List Nat)} {r q : List Nat}, c ∉ r → c ∉ q → (∀ x ∈ rs, c ∉ x) → (∀ x ∈ qs, c ∉ x) → r ++ (rs.map fun x => c :: x).flatten = q ++ (qs.map fun x => c :: x).flatten → r :: rs = q :: qs
  | [], [], r, q, _, _, _, _, h => by simpa using h
  | [], y :: qs, r, q, hr, _, _, _, h => by
    simp only [List.map_nil, List.flatten_nil, List.append_nil, List.map_cons, List.flatten_cons, List.cons_append] at h
    exact absurd (h ▸ List.mem_append_right _ List.mem_cons_self) hr
  | x :: rs, [], r, q, _, hq, _, _, h => by
    simp only [List.map_nil, List.flatten_nil, List.append_nil, List.map_cons, List.flatten_cons, List.cons_append] at h
    exact absurd (h.symm ▸ List.mem_append_right _ List.mem_cons_self) hq
  | x :: rs, y :: qs, r, q, hr, hq, h1, h2, h => by
    simp only [List.map_cons, List.flatten_cons, List.cons_append] at h
    obtain ⟨e1, e2⟩ := free_eq hr hq h
    rw [e1, rows_eq (h1 x (.head _)) (h2 y (.head _)) (fun z hz => h1 z (.tail _ hz)) (fun z hz => h2 z (.tail _ hz)) e2]
theorem cnt_nn (c : Nat) : ∀ l : List Nat, 0 ≤ PyProof.Rows.cnt c l
  | [] => Int.le_refl _
  | n :: r => by
    have := cnt_nn c r
    rw [cnt_cons]
    split <;> omega
theorem split_rows {c : Nat} {l r : List Nat} {rs : List (List Nat)} (hl : l = r ++ (rs.map fun x => c :: x).flatten) (h : ∀ x ∈ r :: rs, c ∉ x) : Txt.split (S l) (S [c]) = (r :: rs).map S := by
  have h1 := StrLaws.join_split (S l) (S [c])
  have h2 := StrLaws.split_free (S l) c
  have e : ∀ ps : List PySem.Str, ps = (ps.map fun p => p.cps.toList).map S := fun ps => by
    rw [List.map_map]
    conv => lhs; rw [← List.map_id ps]
    exact List.map_congr_left fun p _ => (S_of p).symm
  have e2 := e (Txt.split (S l) (S [c]))
  cases hq : (Txt.split (S l) (S [c])).map fun p => p.cps.toList with
  | nil =>
    exfalso
    have hlen := split_len (S l) c
    have : Txt.split (S l) (S [c]) = [] := List.map_eq_nil_iff.mp hq
    rw [show (⟨#[c]⟩ : PySem.Str) = S [c] from rfl, this] at hlen
    have h9 := cnt_nn c (S l).cps.toList
    have h0 : ((([] : List PySem.Str).length : Nat) : Int) = 0 := rfl
    omega
  | cons q qs =>
    rw [hq] at e2
    rw [e2] at h1
    rw [join_S, hl] at h1
    have h3 := S_inj h1
    rw [e2]
    have hf : ∀ x ∈ q :: qs, c ∉ x := fun x hx => by
      rw [← hq] at hx
      obtain ⟨p, hp, rfl⟩ := List.mem_map.mp hx
      exact h2 p hp
    rw [rows_eq (hf q (.head _)) (h r (.head _)) (fun x hx => hf x (.tail _ hx)) (fun x hx => h x (.tail _ hx)) h3]

/-- a made tuple of a row's number and the row -/
noncomputable def CT (led : Led) (v : Value) (i : Nat) (r : List Nat) : Prop := ∃ a t1 t2, v = .ref a ∧ (a, tupO [.int (i : Int) t1, .str (S r) t2]) ∈ led
inductive CTs (led : Led) : Nat → List Value → List (List Nat) → Prop
  | nil {k} : CTs led k [] []
  | cons {k v vs r rs} : CT led v k r → CTs led (k+1) vs rs → CTs led k (v :: vs) (r :: rs)
theorem CT.mono {led led' : Led} (hs : ∀ p ∈ led, p ∈ led') {v : Value} {i : Nat} {r : List Nat} (h : CT led v i r) : CT led' v i r := let ⟨a, t, u, e, m⟩ := h; ⟨a, t, u, e, hs _ m⟩
theorem CTs.mono {led led' : Led} (hs : ∀ p ∈ led, p ∈ led') {k : Nat} {vs : List Value} {rs : List (List Nat)} (h : CTs led k vs rs) : CTs led' k vs rs := by
  induction h with
  | nil => exact .nil
  | cons h _ ih => exact .cons (h.mono hs) ih
theorem CTs.length {led : Led} {k : Nat} {vs : List Value} {rs : List (List Nat)} (h : CTs led k vs rs) : vs.length = rs.length := by
  induction h with
  | nil => rfl
  | cons _ _ ih => simp [ih]
theorem CTs.snoc {led : Led} {k : Nat} {vs : List Value} {rs : List (List Nat)} {v : Value} {r : List Nat} (h : CTs led k vs rs) : ∀ {j : Nat}, j = k + rs.length → CT led v j r → CTs led k (vs ++ [v]) (rs ++ [r]) := by
  induction h with
  | nil => intro j hj h1; simp at hj; subst hj; exact .cons h1 .nil
  | cons h _ ih => intro j hj h1; rw [List.length_cons] at hj; exact .cons h (ih (by omega) h1)
theorem CTs.get {led : Led} {k : Nat} {vs : List Value} {rs : List (List Nat)} (h : CTs led k vs rs) : ∀ {i : Nat} {v : Value}, vs[i]? = some v → ∃ r, rs[i]? = some r ∧ CT led v (k + i) r := by
  induction h with
  | nil => intro i v h; simp at h
  | @cons k v' vs r rs h1 _ ih =>
    intro i v h
    cases i with
    | zero => rw [List.getElem?_cons_zero] at h; injection h with h; subst h; exact ⟨_, rfl, h1⟩
    | succ i =>
      rw [List.getElem?_cons_succ] at h
      obtain ⟨o, ho, hp⟩ := ih h
      exact ⟨o, ho, by rw [show k + (i + 1) = k + 1 + i from by omega]; exact hp⟩
theorem SVs.last {vs : List Value} {rs : List (List Nat)} (h : SVs vs rs) {r : List Nat} (hr : rs.getLast? = some r) : ∃ t, vs[vs.length - 1]? = some (.str (S r) t) := by
  have hl := h.length
  rw [List.getLast?_eq_getElem?] at hr
  have hlt : rs.length - 1 < rs.length := (List.getElem?_eq_some_iff.mp hr).1
  have hv : vs[vs.length - 1]? = some (vs[vs.length - 1]'(by omega)) := List.getElem?_eq_getElem (by omega)
  obtain ⟨r', hr', t, ht⟩ := h.get hv
  rw [hl, hr] at hr'
  injection hr' with hr'
  exact ⟨t, by rw [hv, ht, hr']⟩
section
variable {prog : Program} {w : World} {A : Around} {E : Value → Shared → Prop} {s : Shared} {Q : Value → Shared → Prop} {h₀ : Heap} {L : Addr} {m : PySem.Str → Option Value} {news : Led}
theorem s_split {l : List Nat} {c : Nat} {t u : Tok} {rows : List (List Nat)} (hF : Fr h₀ L s.heap m) (hN : News h₀ L s.heap news) (hsp : Txt.split (S l) (S [c]) = rows.map S) (hl : l.length ≤ 1000000)
    (h : ∀ D vs h' k, SVs vs rows → Fr h₀ L h' m → News h₀ L h' ((D, listOf vs.toArray 0) :: news) → (∀ p ∈ news, p.1 < D) → Q (.ref D) { s with heap := h', toks := k }) :
    wpAny (model prog w) A (PySem.call (.builtin "str.split") [.str (S l) t, .str (S [c]) u]) Q E s := by
  refine splitN1 hF hN rfl (fun lst h' k e F' N' => h _ _ h' k (SVs.ofStr (e.trans hsp)) F' N' fun p hp => Heap.lt_size (hN p hp).1) (by rw [S_length, PySem.sizeLine_eq]; omega)
end
theorem kj_off {own : Led} {a x : Addr} {o o' t : Obj} {tl rest : Led} (h : OwnOff own (((a, o) :: (tl ++ rest)).map (·.1))) (hx : ∀ p ∈ own, p.1 < x) : OwnOff own (((a, o') :: ((x, t) :: tl ++ rest)).map (·.1)) := own_new h hx
local macro_rules | `(tactic| walk_at "mine h2") => `(tactic| (k_here; (with_reducible show wpAny _ _ (PySem.call (Value.builtin _) [Value.ref _, _]) _ _ _); k_dflt (refine' append_K ?k1 ?k2 ?k3 ?_ ?z; (case k1 => k_asm); (case k2 => k_asm); (case k3 => first | exact Upd.head (by assumption) | (refine' Upd.tail ?u1 ?u2; (case u1 => k_ne); (case u2 => exact Upd.head (by assumption))) | (refine' Upd.tail ?u1 ?u2; (case u1 => k_ne); (case u2 => (refine' Upd.tail ?u3 ?u4; (case u3 => k_ne); (case u4 => exact Upd.head (by assumption)))))); (case z => (rw [List.size_toArray, PySem.sizeLine_eq]; (try simp only [List.length_nil, List.length_cons]); omega)); k_whole); intro h' F' N'; simp only [List.push_toArray] at N'))
local macro_rules | `(tactic| walk_at "mine h3") => `(tactic| (k_here; (with_reducible show wpAny _ _ (PySem.call (Value.builtin "len") [Value.ref _]) _ _ _); (refine' l_len ?n1 ?n2 ?n3 ?_; (case n1 => assumption); (case n2 => k_mem); (case n3 => omega))))
local macro_rules | `(tactic| walk_at "mine h4") => `(tactic| (k_here; (refine' l_item ?i1 ?n1 ?n2 ?n3 ?i2 ?_ (by with_unfolding_all rfl); (case n1 => assumption); (case n2 => k_mem); (case i2 => assumption); (case n3 => omega); (case i1 => omega))))
section
local macro_rules | `(tactic| walk_at "exec For Name Name cons nil") => `(tactic| (refine Hold.out ?_))
local macro_rules | `(tactic| walk_at "pyIter ref") => `(tactic| (refine Hold.out ?_))
local macro_rules | `(tactic| walk_at "call builtin:list.append") => `(tactic| walk_at "mine h2")
local macro_rules | `(tactic| walk_at "call builtin:str.split") => `(tactic| (k_here; (with_reducible rename Fr _ _ _ _ => F'); (with_reducible rename News _ _ _ _ => N'); (refine' s_split F' N' ?s1 ?s2 ?_; (case s1 => assumption); (case s2 => omega)); intro D' vs' h' k' hvs' F' N' l1'))
local macro_rules | `(tactic| walk_at "call builtin:len") => `(tactic| walk_at "mine h3")
local macro_rules | `(tactic| walk_at "subscriptTail Name BinOp ref int") => `(tactic| walk_at "mine h4")
theorem cards_of_c (w : World) (news : Led) (l : List Nat) (t : Tok) (r : List Nat) (rs : List (List Nat)) (hl : l = r ++ (rs.map fun x => 10 :: x).flatten) (hf : ∀ x ∈ r :: rs, 10 ∉ x) (hll : l.length ≤ 300000) (hnr : rs.length ≤ 100000) (hne : (r :: rs).getLast? ≠ some []) :
   Con w 164 1 news [.str (S l) t] (fun v tl => ∃ q vs nn tl', v = .ref q ∧ tl = (q, listOf vs.toArray nn) :: tl' ∧ CTs tl' 1 vs (r :: rs)) := by
  have hsp := split_rows hl hf
  have hzz : (S l).length ≤ 300000 := by rw [S_length]; exact hll
  unfold Con
  k_fill
  intro mean mg mb dp un gd cn cs a ccd cl outer A₀ base h₀ L m s Q E B F X N T hk hd hu hret
  w_top off
  refine wpAny_call ?_
  k_dflt ktr_enter
  k_steps
  rename SVs _ _ => hvs
  obtain ⟨la, hla⟩ : ∃ la, (r :: rs).getLast? = some la := ⟨_, List.getLast?_eq_some_getLast (by simp)⟩
  obtain ⟨tla, hx⟩ := hvs.last hla
  have hvl := hvs.length
  rw [List.length_cons] at hvl
  have hla2 : ¬ la = [] := fun h => hne (by rw [hla, h])
  k_steps
  rename (∀ p ∈ news, p.1 < _) => hD
  refine grab (P := fun a => ∀ p ∈ news, p.1 < a) hD (fun D e hD' => ?_)
  subst e
  rename (D < _ ∧ AllLt _ news) => hO
  refine grab (P := fun a => D < a ∧ AllLt a news) hO (fun outA e hO' => ?_)
  subst e
  refine Hold.mk ?_
  rename Fr _ _ _ _ => F1
  with_unfolding_all refine' For_invVF F1 ?kf1 ?kf2 ?_
  case kf1 => exact rfl
  case kf2 => exact rfl
  k_steps
  refine Hold.mk ?_
  rename Fr _ _ _ _ => F1
  rename News _ _ _ _ => N1
  rename (List Value) => vsD
  with_unfolding_all refine' my_list (σ := List Value × Nat × Led) (fun c => (outA, listOf c.1.toArray c.2.1) :: (c.2.2 ++ (D, listOf vsD.toArray 0) :: news)) (fun _ => []) [] (fun i c => CTs c.2.2 1 c.1 ((r :: rs).take i) ∧ ∀ p ∈ c.2.2, outA < p.1) ([], 0, []) rfl (fun c => List.Mem.tail _ (List.mem_append_right _ (List.Mem.head _))) F1 N1 (List.forall_mem_nil _) ⟨.nil, fun _ h9 => nomatch h9⟩ ?turn ?done
  case turn =>
    rintro ⟨vs2, nn2, tl2⟩ i v u h2 tk2 own hv hown ⟨hpt2, hlt2⟩ F3 N3
    clear F1 N1
    dsimp only at hv hown hpt2 hlt2 F3 N3 ⊢
    obtain ⟨x, hx9, tx, rfl⟩ := hvs.get hv
    simp only [List.cons_append] at N3
    have hoff2 : ∀ p ∈ tl2 ++ (D, listOf vsD.toArray 0) :: news ++ own, p.1 ≠ outA := by
      intro p hp
      rcases List.mem_append.mp hp with hp | hp
      · rcases List.mem_append.mp hp with hp | hp
        · exact Nat.ne_of_gt (hlt2 p hp)
        · rcases List.mem_cons.mp hp with rfl | hp
          · exact Nat.ne_of_lt hO.1
          · exact Nat.ne_of_lt (ktn_ltOf hO.2 p hp)
      · exact hown p hp _ (by simp)
    have hl9 := hpt2.length
    have hi9 : i < (r :: rs).length := (List.getElem?_eq_some_iff.mp hx9).1
    have hvl2 : vs2.length ≤ 1000000 := by
      simp only [List.length_take, List.length_cons] at hl9 hi9
      omega
    k_steps
    rename (outA < _ ∧ AllLt _ _) => hx
    refine grab (P := fun x => outA < x ∧ AllLt x _) hx (fun X eX hX => ?_)
    subst eX
    unfold InvEndG KJ
    refine' ⟨_, _, _, _, (outA, listOf (vs2 ++ [Value.ref X]).toArray (nn2 + 1)) :: ((X, tupO [.int ((vs2.length + 1 : Nat) : Int) _, .str (S x) _]) :: tl2 ++ (D, listOf vsD.toArray 0) :: news), rfl, by assumption, by assumption, by exact mem_swap2, fun p hp => .tail _ (.tail _ (List.mem_append.mpr (.inr hp))), own_new hown fun p hp => ktn_ltOf hX.2 p (List.mem_append.mpr (.inr hp)), (vs2 ++ [Value.ref X], nn2 + 1, (X, tupO [.int ((vs2.length + 1 : Nat) : Int) _, .str (S x) _]) :: tl2), rfl, List.forall_mem_nil _, ?fr, ?fp, ?fq⟩
    case fr =>
      intro z h1 h2 h3
      (try simp only [List.forall_mem_cons, List.not_mem_nil, false_implies, implies_true, and_true, ne_eq] at h2)
      (try simp only [List.contains_cons, List.contains_nil, Bool.or_false, Bool.or_eq_false_iff, beq_eq_false_iff_ne, ne_eq] at h3)
      simp [kstB, h1, h2, h3]
    case fp =>
      rw [List.take_add_one, hx9]
      refine (hpt2.mono fun p hp => .tail _ hp).snoc (j := vs2.length + 1) ?_ ⟨X, _, _, rfl, .head _⟩
      omega
    case fq =>
      intro p hp
      rcases List.mem_cons.mp hp with rfl | hp
      · exact hX.1
      · exact hlt2 p hp
  case done =>
    rintro ⟨vs2, nn2, tl2⟩ u2 h2 tk2 ⟨hpt2, hlt2⟩ F3 N3
    clear F1 N1
    dsimp only at hpt2 hlt2 F3 N3 ⊢
    rw [hvs.length, List.take_length] at hpt2
    k_steps
    rename (News h₀ L _ _) => N9
    refine hret _ ((outA, listOf vs2.toArray nn2) :: tl2) _ _ (by k_asm) (fun p hp => N9 p ?_) ?_ ⟨_, vs2, nn2, tl2, rfl, rfl, hpt2⟩
    · rcases List.mem_cons.mp hp with rfl | hp
      · exact .head _
      · exact .tail _ (List.mem_append.mpr ((List.mem_append.mp hp).elim .inl fun h => .inr (.tail _ h)))
    · intro q hq p hp
      rcases List.mem_cons.mp hp with rfl | hp
      · exact ktn_ltOf hO.2 q hq
      · exact Nat.lt_trans (ktn_ltOf hO.2 q hq) (hlt2 p hp)
end

noncomputable def isCom (r : List Nat) (c : Nat) : Bool := decide (r.take 1 = [67]) || (decide (r.take 1 = [99]) || (decide (r.take 1 = [42]) || decide (noBl (r.take c) = [])))
theorem isCom_1 {r : List Nat} {c : Nat} (h : r.take 1 = [67]) : decide (r.take 1 = [67]) = isCom r c := by simp [isCom, h]
theorem isCom_2 {r : List Nat} {c : Nat} (h1 : ¬ r.take 1 = [67]) (h : r.take 1 = [99]) : decide (r.take 1 = [99]) = isCom r c := by simp [isCom, h]
theorem isCom_3 {r : List Nat} {c : Nat} (h1 : ¬ r.take 1 = [67]) (h2 : ¬ r.take 1 = [99]) (h : r.take 1 = [42]) : decide (r.take 1 = [42]) = isCom r c := by simp [isCom, h]
theorem isCom_4 {r : List Nat} {c : Nat} (h1 : ¬ r.take 1 = [67]) (h2 : ¬ r.take 1 = [99]) (h3 : ¬ r.take 1 = [42]) : decide (noBl (r.take c) = []) = isCom r c := by simp [isCom, h1, h2, h3]
section
local macro_rules | `(tactic| walk_at "call ref") => `(tactic| ((with_reducible show wpAny _ _ (PySem.call (Value.ref 171) _) _ _ _); k_here; k_dflt (refine' con_use' (without_blanks_c _ _ _ _ (by (try simp only [List.length_take]); omega)) ?k1 ?_); (case k1 => walk_at "mine con"); walk_at "mine ret1"))
theorem is_comment_c (w : World) (news : Led) (r : List Nat) (t tc : Tok) (c : Nat) (hr : r.length ≤ 300000) :
   Con w 178 2 news [.str (S r) t, .int (c : Int) tc] (fun v tl => tl = [] ∧ v = .bool (isCom r c)) := by
  have hr' : r.length ≤ 16777216 := by omega
  unfold Con
  k_fill
  intro mean mg mb dp un gd cn cs a ccd cl outer A₀ base h₀ L m s Q E B F X N T hk hd hu hret
  w_top off
  refine wpAny_call ?_
  k_dflt ktr_enter
  k_steps
  all_goals refine hret _ [] _ _ (by k_asm) (by k_asm) (fun _ _ _ h9 => nomatch h9) ⟨rfl, congrArg Value.bool (by first | exact isCom_1 (by assumption) | exact isCom_2 (by assumption) (by assumption) | exact isCom_3 (by assumption) (by assumption) (by assumption) | exact isCom_4 (by assumption) (by assumption) (by assumption))⟩
end

structure CardD where
  line : Nat
  label : List Nat
  mark : Nat
  body : List Nat
noncomputable abbrev cardO (w : World) (k1 k2 k3 k4 t1 t2 t3 t4 : Tok) (c : CardD) : List DictEntry := [⟨PyData.keyHash w.params (PySem.Str.ofString "line"), .str (PySem.Str.ofString "line") k1, .int (c.line : Int) t1⟩, ⟨PyData.keyHash w.params (PySem.Str.ofString "label"), .str (PySem.Str.ofString "label") k2, .str (S c.label) t2⟩, ⟨PyData.keyHash w.params (PySem.Str.ofString "mark"), .str (PySem.Str.ofString "mark") k3, .str (S [c.mark]) t3⟩, ⟨PyData.keyHash w.params (PySem.Str.ofString "body"), .str (PySem.Str.ofString "body") k4, .str (S c.body) t4⟩]
/-- a made card -/
noncomputable def KC (w : World) (led : Led) (v : Value) (c : CardD) : Prop := ∃ x dx k1 k2 k3 k4 t1 t2 t3 t4, v = .ref x ∧ (x, instObj 153 dx) ∈ led ∧ (dx, dictOf (cardO w k1 k2 k3 k4 t1 t2 t3 t4 c) 4) ∈ led
inductive KCs (w : World) (led : Led) : List Value → List CardD → Prop
  | nil : KCs w led [] []
  | cons {v vs r rs} : KC w led v r → KCs w led vs rs → KCs w led (v :: vs) (r :: rs)
theorem KC.mono {w : World} {led led' : Led} (hs : ∀ p ∈ led, p ∈ led') {v : Value} {c : CardD} (h : KC w led v c) : KC w led' v c := by
  obtain ⟨x, dx, k1, k2, k3, k4, t1, t2, t3, t4, e, m1, m2⟩ := h
  exact ⟨x, dx, k1, k2, k3, k4, t1, t2, t3, t4, e, hs _ m1, hs _ m2⟩
theorem KCs.mono {w : World} {led led' : Led} (hs : ∀ p ∈ led, p ∈ led') {vs : List Value} {rs : List CardD} (h : KCs w led vs rs) : KCs w led' vs rs := by
  induction h with
  | nil => exact .nil
  | cons h _ ih => exact .cons (h.mono hs) ih
theorem KCs.length {w : World} {led : Led} {vs : List Value} {rs : List CardD} (h : KCs w led vs rs) : vs.length = rs.length := by
  induction h with
  | nil => rfl
  | cons _ _ ih => simp [ih]
theorem KCs.snoc {w : World} {led : Led} {vs : List Value} {rs : List CardD} {v : Value} {r : CardD} (h : KCs w led vs rs) (h1 : KC w led v r) : KCs w led (vs ++ [v]) (rs ++ [r]) := by
  induction h with
  | nil => exact .cons h1 .nil
  | cons h _ ih => exact .cons h ih
theorem KCs.get {w : World} {led : Led} {vs : List Value} {rs : List CardD} (h : KCs w led vs rs) : ∀ {i : Nat} {v : Value}, vs[i]? = some v → ∃ r, rs[i]? = some r ∧ KC w led v r := by
  induction h with
  | nil => intro i v h; simp at h
  | cons h1 _ ih =>
    intro i v h
    cases i with
    | zero => rw [List.getElem?_cons_zero] at h; injection h with h; subst h; exact ⟨_, rfl, h1⟩
    | succ i => rw [List.getElem?_cons_succ] at h; obtain ⟨o, ho, hp⟩ := ih h; exact ⟨o, ho, hp⟩
noncomputable def cardOf (col k : Nat) (r : List Nat) : List CardD := if isCom r col = true then [] else [⟨k, (r.take col).take 5, (r.take col).getD 5 0, (r.take col).drop 6⟩]
noncomputable def cardsOf (col : Nat) : Nat → List (List Nat) → List CardD
  | _, [] => []
  | k, r :: rs => cardOf col k r ++ cardsOf col (k + 1) rs
theorem cardsOf_snoc (col : Nat) (x : List Nat) : ∀ (rs : List (List Nat)) (k : Nat), cardsOf col k (rs ++ [x]) = cardsOf col k rs ++ cardOf col (k + rs.length) x
  | [], k => by simp [cardsOf]
  | r :: rs, k => by
    show cardOf col k r ++ cardsOf col (k + 1) (rs ++ [x]) = cardOf col k r ++ cardsOf col (k + 1) rs ++ _
    rw [cardsOf_snoc col x rs (k + 1), List.append_assoc, List.length_cons, show k + 1 + rs.length = k + (rs.length + 1) from by omega]
theorem cardsOf_len (col : Nat) : ∀ (rs : List (List Nat)) (k : Nat), (cardsOf col k rs).length ≤ rs.length
  | [], k => Nat.le_refl _
  | r :: rs, k => by
    have := cardsOf_len col rs (k + 1)
    show (cardOf col k r ++ cardsOf col (k + 1) rs).length ≤ _
    rw [List.length_append, List.length_cons]
    have h2 : (cardOf col k r).length ≤ 1 := by unfold cardOf; split <;> simp
    omega
theorem mem_swap3 {a x d : Addr × Obj} {tl R own : Led} : ∀ p ∈ a :: (x :: d :: tl ++ R), p ∈ x :: d :: a :: (tl ++ R ++ own) := fun p hp => by
  rcases List.mem_cons.mp hp with rfl | hp
  · exact .tail _ (.tail _ (.head _))
  · rcases List.mem_cons.mp hp with rfl | hp
    · exact .head _
    · rcases List.mem_cons.mp hp with rfl | hp
      · exact .tail _ (.head _)
      · exact .tail _ (.tail _ (.tail _ (List.mem_append.mpr (.inl hp))))
section
local macro_rules | `(tactic| walk_at "exec For Tuple Call cons nil") => `(tactic| (refine Hold.out ?_))
local macro_rules | `(tactic| walk_at "pyIter ref") => `(tactic| (refine Hold.out ?_))
local macro_rules | `(tactic| walk_at "call builtin:list.append") => `(tactic| walk_at "mine h2")
local macro_rules | `(tactic| walk_at "call ref") => `(tactic| ((with_reducible show wpAny _ _ (PySem.call (Value.ref 164) _) _ _ _); refine Hold.out ?_))
local macro_rules | `(tactic| walk_at "call ref") => `(tactic| ((with_reducible show wpAny _ _ (PySem.call (Value.ref 178) _) _ _ _); k_here; k_dflt (refine' con_use' (is_comment_c _ _ _ _ _ _ (by assumption)) ?k1 ?_); (case k1 => walk_at "mine con"); walk_at "mine ret2"))
/-- the limits' object, as far as it is read -/
noncomputable abbrev limO (w : World) (k1 k2 k3 k4 k5 k6 k7 k8 : Tok) (a1 a2 a3 a4 a5 a6 a7 a8 : Value) : List DictEntry := [⟨PyData.keyHash w.params (PySem.Str.ofString "width"), .str (PySem.Str.ofString "width") k1, a1⟩, ⟨PyData.keyHash w.params (PySem.Str.ofString "real_digits"), .str (PySem.Str.ofString "real_digits") k2, a2⟩, ⟨PyData.keyHash w.params (PySem.Str.ofString "double_digits"), .str (PySem.Str.ofString "double_digits") k3, a3⟩, ⟨PyData.keyHash w.params (PySem.Str.ofString "top_exponent"), .str (PySem.Str.ofString "top_exponent") k4, a4⟩, ⟨PyData.keyHash w.params (PySem.Str.ofString "steps"), .str (PySem.Str.ofString "steps") k5, a5⟩, ⟨PyData.keyHash w.params (PySem.Str.ofString "continuations"), .str (PySem.Str.ofString "continuations") k6, a6⟩, ⟨PyData.keyHash w.params (PySem.Str.ofString "columns"), .str (PySem.Str.ofString "columns") k7, a7⟩, ⟨PyData.keyHash w.params (PySem.Str.ofString "depth"), .str (PySem.Str.ofString "depth") k8, a8⟩]
theorem read_cards_c (w : World) (news : Led) (l : List Nat) (t : Tok) (r : List Nat) (rs : List (List Nat)) (lx ld : Addr) (n : Nat) (k1 k2 k3 k4 k5 k6 k7 k8 : Tok) (a1 a2 a3 a4 a5 a8 : Value) (cont col : Nat) (t6 t7 : Tok)
   (hlx : (lx, instObj 132 ld) ∈ news) (hld : (ld, dictOf (limO w k1 k2 k3 k4 k5 k6 k7 k8 a1 a2 a3 a4 a5 (.int (cont : Int) t6) (.int (col : Int) t7) a8) n) ∈ news)
   (hl : l = r ++ (rs.map fun x => 10 :: x).flatten) (hf : ∀ x ∈ r :: rs, 10 ∉ x) (hll : l.length ≤ 300000) (hnr : rs.length ≤ 100000) (hne : (r :: rs).getLast? ≠ some [])
   (hco : 6 ≤ col) (hrl : ∀ x ∈ r :: rs, x.length ≤ 300000) (hr6 : ∀ x ∈ r :: rs, isCom x col = false → 6 ≤ x.length) :
   Con w 185 4 news [.str (S l) t, .ref lx] (fun v tl => ∃ (q : Addr) (vs : List Value) (nn : Nat) (tl' : Led), v = .ref q ∧ tl = (q, listOf vs.toArray nn) :: tl' ∧ KCs w tl' vs (cardsOf col 1 (r :: rs))) := by
  unfold Con
  k_fill
  intro mean mg mb dp un gd cn cs a ccd cl outer A₀ base h₀ L m s Q E B F X N T hk hd hu hret
  w_top off
  refine wpAny_call ?_
  k_dflt ktr_enter
  k_steps
  refine Hold.mk ?_
  refine wpAny_For ?_ (by intro _; rfl)
  rename (∀ p ∈ news, p.1 < _) => hD
  refine grab (P := fun a => ∀ p ∈ news, p.1 < a) hD (fun outA e hD' => ?_)
  subst e
  k_steps
  refine Hold.mk ?_
  k_dflt (refine' con_use (cards_of_c _ _ _ _ _ _ hl hf hll hnr hne) ?k1 ?k2 ?k3 ?k4 ?k5 ?kK ?kd ?ku ?_)
  case k1 => k_asm
  case k2 => k_asm
  case k3 => k_asm
  case k4 => k_asm
  case k5 => k_asm
  case kK => first | exact rfl | assumption
  case kd => ((rename (_ < recursionLimit) => hd9); (refine Nat.lt_of_le_of_lt ?_ hd9); (try simp only [depth_under_make, depth_under_kw, depth_in1, depth_deeper, depth_caller]); (try dsimp only [ktrTop]); omega)
  case ku => ((rename (_ < cLine) => hd9); (refine Nat.lt_of_le_of_lt ?_ hd9); (try simp only [units_in1, units_deeper, Around.mark_units, units_caller]); (try dsimp only [ktrTop]); omega)
  rintro r9 tl9 h9 tk9 F1 N1 ho1 ⟨q, vsq, nnq, tlq, rfl, rfl, hcts⟩
  (try k_fold)
  k_steps
  refine Hold.mk ?_
  simp only [List.cons_append] at N1
  with_unfolding_all refine' my_listT (σ := List Value × Nat × Led) (fun c => (outA, listOf c.1.toArray c.2.1) :: (c.2.2 ++ (q, listOf vsq.toArray nnq) :: (tlq ++ news))) (fun _ => []) [Str.ofString "line", Str.ofString "row", Str.ofString "seen"] (fun i c => KCs w c.2.2 c.1 (cardsOf col 1 ((r :: rs).take i)) ∧ ∀ p ∈ c.2.2, outA < p.1) ([], 0, []) rfl (fun c => List.Mem.tail _ (List.mem_append_right _ (List.Mem.head _))) F1 ?hn0 (List.forall_mem_nil _) ⟨.nil, fun _ h9 => nomatch h9⟩ ?turn ?done
  case hn0 =>
    intro p hp
    refine N1 p ?_
    rcases List.mem_cons.mp hp with rfl | hp
    · exact .tail _ (List.mem_append_right _ (.head _))
    · rcases List.mem_cons.mp hp with rfl | hp
      · exact .head _
      · exact .tail _ (List.mem_append.mpr ((List.mem_append.mp hp).elim .inl fun h => .inr (.tail _ h)))
  have hqO : outA < q := ho1 _ (.head _) _ (.head _)
  have hqT : ∀ p ∈ tlq, outA < p.1 := fun p hp => ho1 _ (.head _) p (.tail _ hp)
  case turn =>
    rintro ⟨vs2, nn2, tl2⟩ i v u h2 tk2 own hv hown ⟨hpt2, hlt2⟩ F3 N3
    clear F1 N1
    dsimp only at hv hown hpt2 hlt2 F3 N3 ⊢
    obtain ⟨row, hrow, a, ta, tb, rfl, hm⟩ := hcts.get hv
    simp only [List.cons_append] at N3
    have hrm : row ∈ r :: rs := List.mem_of_getElem? hrow
    have hrl' := hrl row hrm
    have hoff2 : ∀ p ∈ tl2 ++ (q, listOf vsq.toArray nnq) :: (tlq ++ news) ++ own, p.1 ≠ outA := by
      intro p hp
      rcases List.mem_append.mp hp with hp | hp
      · rcases List.mem_append.mp hp with hp | hp
        · exact Nat.ne_of_gt (hlt2 p hp)
        · rcases List.mem_cons.mp hp with rfl | hp
          · exact Nat.ne_of_gt hqO
          · rcases List.mem_append.mp hp with hp | hp
            · exact Nat.ne_of_gt (hqT p hp)
            · exact Nat.ne_of_lt (hD p hp)
      · exact hown p hp _ (by simp)
    have hvl2 : vs2.length ≤ 1000000 := by
      have h9 := hpt2.length
      have h8 := cardsOf_len col ((r :: rs).take i) 1
      have h7 : ((r :: rs).take i).length ≤ (r :: rs).length := by rw [List.length_take]; omega
      rw [List.length_cons] at h7
      omega
    have hm2 : _ ∈ (outA, listOf vs2.toArray nn2) :: (tl2 ++ (q, listOf vsq.toArray nnq) :: (tlq ++ news) ++ own) := List.mem_cons_of_mem _ (List.mem_append_left _ (List.mem_append_right _ (List.mem_cons_of_mem _ (List.mem_append_left _ hm))))
    have inN : ∀ p ∈ news, p ∈ (outA, listOf vs2.toArray nn2) :: (tl2 ++ (q, listOf vsq.toArray nnq) :: (tlq ++ news) ++ own) := fun p hp => List.mem_cons_of_mem _ (List.mem_append_left _ (List.mem_append_right _ (List.mem_cons_of_mem _ (List.mem_append_right _ hp))))
    have hlx2 := inN _ hlx
    have hld2 := inN _ hld
    have hi9 : ((r :: rs).take i).length = i := by
      have := (List.getElem?_eq_some_iff.mp hrow).1
      rw [List.length_take]; omega
    have etk : cardsOf col 1 ((r :: rs).take (i + 1)) = cardsOf col 1 ((r :: rs).take i) ++ cardOf col (1 + i) row := by
      rw [List.take_add_one, hrow]
      show cardsOf col 1 (_ ++ [row]) = _
      rw [cardsOf_snoc, hi9]
    cases hc : isCom row col
    · have h6 := hr6 row hrm hc
      have h66 : 6 ≤ (row.take col).length := by simp only [List.length_take]; omega
      obtain ⟨mk, hmk⟩ : ∃ mk, (row.take col)[5]? = some mk := ⟨_, List.getElem?_eq_getElem (by omega)⟩
      have ecd : cardOf col (1 + i) row = [⟨1 + i, (row.take col).take 5, mk, (row.take col).drop 6⟩] := by
        unfold cardOf
        rw [hc, if_neg (by decide), List.getD_eq_getElem?_getD, hmk]; rfl
      rw [ecd] at etk
      k_steps
      rename (outA < _ ∧ AllLt _ _) => hx
      refine grab (P := fun x => outA < x ∧ AllLt x _) hx (fun dX eX hX => ?_)
      subst eX
      rename (dX < _) => hy
      refine grab (P := fun x => dX < x) hy (fun X eX hY => ?_)
      subst eX
      unfold InvEndG KT
      refine' ⟨_, _, _, _, (outA, listOf (vs2 ++ [Value.ref X]).toArray (nn2 + 1)) :: ((X, instObj 153 dX) :: (dX, dictOf (cardO w _ _ _ _ _ _ _ _ ⟨1 + i, (row.take col).take 5, mk, (row.take col).drop 6⟩) 4) :: tl2 ++ (q, listOf vsq.toArray nnq) :: (tlq ++ news)), rfl, by assumption, by assumption, by exact mem_swap3, fun p hp => .tail _ (.tail _ (.tail _ (List.mem_append.mpr (.inr hp)))), own_new (own_new (o' := listOf #[] 0) hown fun p hp => ktn_ltOf hX.2 p (List.mem_append.mpr (.inr hp))) fun p hp => Nat.lt_trans (ktn_ltOf hX.2 p (List.mem_append.mpr (.inr hp))) hY, (vs2 ++ [Value.ref X], nn2 + 1, (X, instObj 153 dX) :: (dX, dictOf (cardO w _ _ _ _ _ _ _ _ ⟨1 + i, (row.take col).take 5, mk, (row.take col).drop 6⟩) 4) :: tl2), rfl, List.forall_mem_nil _, ?fr, ?fp, ?fq⟩
      case fr =>
        intro z h2 h3
        (try simp only [List.forall_mem_cons, List.not_mem_nil, false_implies, implies_true, and_true, ne_eq] at h2)
        (try simp only [List.contains_cons, List.contains_nil, Bool.or_false, Bool.or_eq_false_iff, beq_eq_false_iff_ne, ne_eq] at h3)
        simp [kstB, h2, h3]
      case fp =>
        dsimp only
        rw [etk]
        exact (hpt2.mono fun p hp => .tail _ (.tail _ hp)).snoc ⟨X, dX, _, _, _, _, _, _, _, _, rfl, .head _, .tail _ (.head _)⟩
      case fq =>
        intro p hp
        rcases List.mem_cons.mp hp with rfl | hp
        · exact Nat.lt_trans hX.1 hY
        · rcases List.mem_cons.mp hp with rfl | hp
          · exact hX.1
          · exact hlt2 p hp
    · have ecd : cardOf col (1 + i) row = [] := by unfold cardOf; rw [if_pos hc]
      rw [ecd, List.append_nil] at etk
      k_steps
      unfold InvEndG KT
      refine' ⟨_, _, _, _, _, rfl, by assumption, by assumption, fun p hp => ?hin, fun p hp => .tail _ (List.mem_append.mpr (.inr hp)), hown, (vs2, nn2, tl2), rfl, List.forall_mem_nil _, ?fr, ?fp, hlt2⟩
      case hin =>
        rcases List.mem_cons.mp hp with rfl | hp
        · exact .head _
        · exact .tail _ (List.mem_append.mpr (.inl hp))
      case fr =>
        intro z h2 h3
        (try simp only [List.forall_mem_cons, List.not_mem_nil, false_implies, implies_true, and_true, ne_eq] at h2)
        (try simp only [List.contains_cons, List.contains_nil, Bool.or_false, Bool.or_eq_false_iff, beq_eq_false_iff_ne, ne_eq] at h3)
        simp [kstB, h2, h3]
      case fp =>
        dsimp only
        rw [etk]; exact hpt2
  case done =>
    rintro ⟨vs2, nn2, tl2⟩ u2 h2 tk2 ⟨hpt2, hlt2⟩ F3 N3
    clear F1 N1
    dsimp only at hpt2 hlt2 F3 N3 ⊢
    rw [hcts.length, List.take_length] at hpt2
    k_steps
    rename (News h₀ L _ _) => N9
    refine hret _ ((outA, listOf vs2.toArray nn2) :: tl2) _ _ (by k_asm) (fun p hp => N9 p ?_) ?_ ⟨_, vs2, nn2, tl2, rfl, rfl, hpt2⟩
    · rcases List.mem_cons.mp hp with rfl | hp
      · exact .head _
      · exact .tail _ (List.mem_append.mpr ((List.mem_append.mp hp).elim .inl fun h => .inr (.tail _ (List.mem_append.mpr (.inr h)))))
    · intro q hq p hp
      rcases List.mem_cons.mp hp with rfl | hp
      · exact hD q hq
      · exact Nat.lt_trans (hD q hq) (hlt2 p hp)
end

section
variable {prog : Program} {w : World} {A : Around} {E : Value → Shared → Prop} {s : Shared} {Q : Value → Shared → Prop}
theorem s_mul {c k : Nat} {t u : Tok} {n : Int} (hn : n = (k : Int)) (hk : k ≤ 1000000) (h : ∀ t' j, Q (.str (S (List.replicate k c)) t') { s with toks := j }) : wpAny (model prog w) A (binaryOp .Mult (.str (S [c]) t) (.int n u)) Q E s := by
  subst hn
  refine SB.mul (mulOk_of 1 1000000 (Nat.le_refl _) (by omega) (by omega) (by decide) (by decide)) fun t' j => ?_
  have e : Txt.mul (S [c]) (k : Int) = S (List.replicate k c) := by
    rw [← S_of (Txt.mul (S [c]) (k : Int))]
    have := mul_one_list c (k : Int)
    rw [show (S [c] : PySem.Str) = ⟨#[c]⟩ from rfl, this]; rfl
  rw [e]; exact h t' j
end
section
variable {σ : Type} {prog : Program} {w : World} {A : Around} {E : Value → Shared → Prop} {s : Shared} {env : Env} {h₀ : Heap} {x : PySem.Str} {body : List Stmt} {Q : Flow → Shared → Prop}
theorem my_range {r : Addr} {a₀ b₀ st : Int} {t₀ u₀ v₀ : Tok} {n : Nat} {m₀ : PySem.Str → Option Value} (Led : σ → Led) (ps : σ → List (PySem.Str × Value)) (stored : List PySem.Str) (P : Nat → σ → Prop) (c₀ : σ)
    (hh : A.handled = none) (hr : IsRange s.heap r a₀ b₀ st t₀ u₀ v₀) (hsmall : Builtin.Range.small a₀ b₀ st = true) (hn : Builtin.Range.rangeSize a₀ b₀ st = (n : Int)) (F : Fr h₀ env.locals s.heap m₀) (N : News h₀ env.locals s.heap (Led c₀)) (hk : ∀ p ∈ ps c₀, m₀ p.1 = some p.2) (hp : P 0 c₀)
    (turn : ∀ (c : σ) (i : Nat) t (u : PySem.Str → Option Value) h tk own, i < n → OwnOff own ((Led c).map (·.1)) → P i c →
      Fr h₀ env.locals h (fun y => if y = x then some (.int (a₀ + i * st) t) else kstB (fun z => if stored.contains z then u z else m₀ z) (ps c) y) → News h₀ env.locals h (Led c ++ own) →
      wpAny (model prog w) A (execs body env) (InvPostG h₀ env.locals (KJ Led ps x stored m₀ (P (i + 1))) own { s with heap := h, toks := tk } Q) E { s with heap := h, toks := tk })
    (done : ∀ (c : σ) (u : PySem.Str → Option Value) h tk, P n c → Fr h₀ env.locals h (fun y => if y = x then u y else kstB (fun z => if stored.contains z then u z else m₀ z) (ps c) y) → News h₀ env.locals h (Led c) → Q .next { s with heap := h, toks := tk }) :
    wpAny (model prog w) A (pyIter (.ref r)) (fun it s₂ => LoopAtV prog w A h₀ env x body Q E it s₂) E s := by
  refine wpAny_pyIter_range hr hsmall ?_
  have W : Walks prog w A s.heap.objs.size [s.heap.objs.size] [s.heap.objs.size] n (fun i v => ∃ t, v = .int (a₀ + i * st) t)
      (fun i h => IsRangeIter h s.heap.objs.size (a₀ + (i : Nat) * st) ((n : Int) - (i : Nat)) st) := Walks.range hh _ a₀ st n
  refine kdr_loop (fun i m nx => KJ Led ps x stored m₀ (P i) m nx) W (fun a h => h) (fun a h => h) (fun i h hs b hb => by rw [List.mem_singleton.mp hb]; exact ⟨_, hs⟩) ?_ ?_ ?_ (by show IsRangeIter _ _ _ _ _; rw [hn]; simpa using Heap.get?_push_size _ rfl) (F.push _) (fun p hp => ⟨Heap.get?_push_of_some _ (N p hp).1, (N p hp).2⟩) ⟨c₀, rfl, hk, fun _ _ _ _ => rfl, hp⟩ ?_ ?_
  · intro hm
    exact absurd F.ns.lt ((List.mem_singleton.mp hm) ▸ Nat.lt_irrefl _)
  · intro b hb
    rw [List.mem_singleton.mp hb]
    exact next_is_new F
  · intro p hp hI
    exact absurd (Heap.lt_size (N p hp).1) ((List.mem_singleton.mp hI) ▸ Nat.lt_irrefl _)
  · rintro i v m₁ nx h tk own hi ⟨t, rfl⟩ hoff ⟨c, rfl, h1, h2, hp'⟩ F₁ N₁
    exact turn c i t m₁ h tk own hi hoff hp' (kst_fr h1 h2 F₁) N₁
  · rintro m₁ nx h tk ⟨c, rfl, h1, h2, hp'⟩ F₁ N₁
    exact done c m₁ h tk hp' (kst_frOut h1 h2 F₁) N₁
end
noncomputable def padB (b : List Nat) (w : Nat) : List Nat := b ++ List.replicate (w - b.length) 32
section
local macro_rules | `(tactic| walk_at "binaryOp Mult str int") => `(tactic| ((refine' s_mul ?s1 ?s2 ?_); (case s1 => exact (Int.ofNat_sub (by omega)).symm); (case s2 => omega); intro t' k'))
theorem padded_c (w : World) (news : Led) (b : List Nat) (t tw : Tok) (wd : Nat) (hb : b.length ≤ 300000) (hw : wd ≤ 300000) :
   Con w 206 1 news [.str (S b) t, .int (wd : Int) tw] (fun v tl => tl = [] ∧ ∃ t', v = .str (S (padB b wd)) t') := by
  have hrep : (List.replicate (wd - b.length) 32).length ≤ 300000 := by rw [List.length_replicate]; omega
  unfold Con
  k_fill
  intro mean mg mb dp un gd cn cs a ccd cl outer A₀ base h₀ L m s Q E B F X N T hk hd hu hret
  w_top off
  refine wpAny_call ?_
  k_dflt ktr_enter
  k_steps
  · exact hret _ [] _ _ (by k_asm) (by k_asm) (fun _ _ _ h9 => nomatch h9) ⟨rfl, _, rfl⟩
  · rename (¬ _ < _) => h9
    have e : padB b wd = b := by unfold padB; rw [show wd - b.length = 0 from by omega]; simp
    exact hret _ [] _ _ (by k_asm) (by k_asm) (fun _ _ _ h9 => nomatch h9) ⟨rfl, _, by rw [e]⟩
end
section
local macro_rules | `(tactic| walk_at "exec For Name Name cons nil") => `(tactic| (refine Hold.out ?_))
local macro_rules | `(tactic| walk_at "pyIter str") => `(tactic| (refine Hold.out ?_))
local macro_rules | `(tactic| walk_at "call ref") => `(tactic| ((with_reducible show wpAny _ _ (PySem.call (Value.ref 171) _) _ _ _); k_here; k_dflt (refine' con_use' (without_blanks_c _ _ _ _ (by (try simp only [List.length_cons, List.length_nil]); omega)) ?k1 ?_); (case k1 => walk_at "mine con"); walk_at "mine ret1"))
theorem read_label_c (w : World) (news : Led) (x dx : Addr) (k1 k2 k3 k4 t1 t2 t3 t4 : Tok) (c : CardD) (hlab : c.label = [32, 32, 49, 32, 50]) (hx : (x, instObj 153 dx) ∈ news) (hdx : (dx, dictOf (cardO w k1 k2 k3 k4 t1 t2 t3 t4 c) 4) ∈ news) :
   Con w 199 2 news [.ref x] (fun v tl => tl = [] ∧ ∃ t', v = .int 12 t') := by
  obtain ⟨li, lb, mk, bd⟩ := c
  dsimp only at hlab
  subst hlab
  unfold Con
  k_fill
  intro mean mg mb dp un gd cn cs a ccd cl outer A₀ base h₀ L m s Q E B F X N T hk hd hu hret
  w_top off
  refine wpAny_call ?_
  k_dflt ktr_enter
  have e9 : noBl [32, 32, 49, 32, 50] = [49, 50] := rfl
  have e8 : ¬ noBl [32, 32, 49, 32, 50] = [] := by decide
  k_steps
  refine Hold.mk ?_
  rename Fr _ _ _ _ => F1
  with_unfolding_all refine' For_invVF F1 ?kf1 ?kf2 ?_
  case kf1 => exact rfl
  case kf2 => exact rfl
  k_steps
  refine Hold.mk ?_
  rename Fr _ _ _ _ => F1
  rename News _ _ _ _ => N1
  with_unfolding_all refine' my_text (σ := Int × Tok) (fun _ => news) (fun c => [(Str.ofString "label", .int c.1 c.2)]) [Str.ofString "digit"] (fun i c => c.1 = [0, 1, 12].getD i 0) (0, _) rfl F1 N1 ?hk rfl ?turn ?done
  case hk =>
    exact List.forall_mem_cons.mpr ⟨by with_unfolding_all rfl, List.forall_mem_nil _⟩
  case turn =>
    rintro ⟨lab, tl9⟩ j n2 tn u2 h2 tk2 own hj hown hp F3 N3
    clear F1 N1
    dsimp only at hj hown hp F3 N3 ⊢
    rw [e9] at hj
    have hn : (Txt.find (PySem.Str.ofString "0123456789") (S [n2]) : Int) = (n2 : Int) - 48 ∧ 0 ≤ lab ∧ lab ≤ 12 ∧ 48 ≤ n2 ∧ n2 ≤ 57 ∧ lab * 10 + ((n2 : Int) - 48) = [0, 1, 12].getD (j + 1) 0 := by
      rw [lit_digits]
      match j, hj, hp with
      | 0, hj, hp => injection hj with hj; subst hj; subst hp; decide +kernel
      | 1, hj, hp => injection hj with hj; subst hj; subst hp; decide +kernel
      | j + 2, hj, hp => simp at hj
    obtain ⟨hf, hl0, hl1, hn0, hn1, hnx⟩ := hn
    k_steps
    unfold InvEndG KJ
    refine' ⟨_, _, _, _, _, rfl, by assumption, by assumption, fun p hp => List.mem_append_left _ hp, fun p hp => List.mem_append_right _ hp, hown, (_, _), rfl, ?kk, ?ks, ?kp⟩
    case kk =>
      exact List.forall_mem_cons.mpr ⟨by with_unfolding_all rfl, List.forall_mem_nil _⟩
    case ks =>
      intro z h1 h2 h3
      (try simp only [List.forall_mem_cons, List.not_mem_nil, false_implies, implies_true, and_true, ne_eq] at h2)
      (try simp only [List.contains_cons, List.contains_nil, Bool.or_false, Bool.or_eq_false_iff, beq_eq_false_iff_ne, ne_eq] at h3)
      simp [kstB, h1, h2, h3]
    case kp =>
      dsimp only
      rw [hf]; exact hnx
  case done =>
    rintro ⟨lab, tl9⟩ u2 h2 tk2 hp F3 N3
    clear F1 N1
    rw [e9] at hp
    have hp : lab = 12 := hp
    subst hp
    dsimp only at F3 N3 ⊢
    k_steps
    exact hret _ [] _ _ (by k_asm) (by k_asm) (fun _ _ _ h9 => nomatch h9) ⟨rfl, _, rfl⟩
end

noncomputable def isCont (c : CardD) : Bool := !decide ([c.mark] = [32]) && !decide ([c.mark] = [48])
theorem isCont_1 {c : CardD} (h : [c.mark] = [32]) : (!decide ([c.mark] = [32])) = isCont c := by simp [isCont, h]
theorem isCont_2 {c : CardD} (h : ¬ [c.mark] = [32]) : (!decide ([c.mark] = [48])) = isCont c := by simp only [isCont, decide_eq_false h, Bool.not_false, Bool.true_and]
section
theorem is_continuation_c (w : World) (news : Led) (x dx : Addr) (k1 k2 k3 k4 t1 t2 t3 t4 : Tok) (c : CardD) (hx : (x, instObj 153 dx) ∈ news) (hdx : (dx, dictOf (cardO w k1 k2 k3 k4 t1 t2 t3 t4 c) 4) ∈ news) :
   Con w 192 1 news [.ref x] (fun v tl => tl = [] ∧ v = .bool (isCont c)) := by
  unfold Con
  k_fill
  intro mean mg mb dp un gd cn cs a ccd cl outer A₀ base h₀ L m s Q E B F X N T hk hd hu hret
  w_top off
  refine wpAny_call ?_
  k_dflt ktr_enter
  k_steps
  · refine hret _ [] _ _ (by k_asm) (by k_asm) (fun _ _ _ h9 => nomatch h9) ⟨rfl, congrArg Value.bool (isCont_1 (by assumption))⟩
  · refine hret _ [] _ _ (by k_asm) (by k_asm) (fun _ _ _ h9 => nomatch h9) ⟨rfl, congrArg Value.bool (isCont_2 (by assumption))⟩
end
section
local macro_rules | `(tactic| walk_at "call ref") => `(tactic| ((with_reducible show wpAny _ _ (PySem.call (Value.ref 171) _) _ _ _); k_here; k_dflt (refine' con_use' (without_blanks_c _ _ _ _ (by first | assumption | omega | ((try simp only [List.length_cons, List.length_nil]); omega))) ?k1 ?_); (case k1 => walk_at "mine con"); walk_at "mine ret1"))
local macro_rules | `(tactic| walk_at "call builtin:len") => `(tactic| walk_at "mine h3")
local macro_rules | `(tactic| walk_at "subscriptTail Name Constant ref int") => `(tactic| walk_at "mine h4")
theorem check_continuation_c (w : World) (news : Led) (x dx : Addr) (k1 k2 k3 k4 t1 t2 t3 t4 : Tok) (c : CardD) (hx : (x, instObj 153 dx) ∈ news) (hdx : (dx, dictOf (cardO w k1 k2 k3 k4 t1 t2 t3 t4 c) 4) ∈ news)
   (x0 dx0 : Addr) (i1 i2 i3 i4 u1 u2 u3 u4 : Tok) (c0 : CardD) (hx0 : (x0, instObj 153 dx0) ∈ news) (hdx0 : (dx0, dictOf (cardO w i1 i2 i3 i4 u1 u2 u3 u4 c0) 4) ∈ news)
   (ro : Addr) (vs : List Value) (nn : Nat) (hro : (ro, listOf vs.toArray nn) ∈ news) (hv0 : vs[0]? = some (.ref x0))
   (lx ld : Addr) (n : Nat) (j1 j2 j3 j4 j5 j6 j7 j8 : Tok) (a1 a2 a3 a4 a5 a7 a8 : Value) (cont : Nat) (t6 : Tok)
   (hlx : (lx, instObj 132 ld) ∈ news) (hld : (ld, dictOf (limO w j1 j2 j3 j4 j5 j6 j7 j8 a1 a2 a3 a4 a5 (.int (cont : Int) t6) a7 a8) n) ∈ news)
   (hlab : noBl c.label = []) (hll : c.label.length ≤ 1000000) (hbb : c0.body.length ≤ 1000000) (hE : ¬ noBl c0.body = [69, 78, 68]) (hvc : vs.length ≤ cont) (hvl : vs.length ≤ 1000000) :
   Con w 220 2 news [.ref x, .ref ro, .ref lx] (fun v tl => tl = [] ∧ v = .none) := by
  have hv1 : 0 < vs.length := (List.getElem?_eq_some_iff.mp hv0).1
  have hnz : ¬ ((vs.length : Int) = 0) := by omega
  unfold Con
  k_fill
  intro mean mg mb dp un gd cn cs a ccd cl outer A₀ base h₀ L m s Q E B F X N T hk hd hu hret
  w_top off
  refine wpAny_call ?_
  k_dflt ktr_enter
  k_steps
  · exfalso
    rename ((vs.length : Int) = 0) => h9
    omega
  · exact hret _ [] _ _ (by k_asm) (by k_asm) (fun _ _ _ h9 => nomatch h9) ⟨rfl, rfl⟩
end
noncomputable def pieceAt (wd : Nat) (cs : List CardD) (j : Nat) : List Nat := match cs[j]? with
  | some c => if j + 1 < cs.length then padB c.body wd else c.body
  | none => []
noncomputable def joinT (wd : Nat) (cs : List CardD) (i : Nat) : List Nat := ((List.range i).map (pieceAt wd cs)).flatten
theorem joinT_succ (wd : Nat) (cs : List CardD) (i : Nat) : joinT wd cs (i + 1) = joinT wd cs i ++ pieceAt wd cs i := by
  unfold joinT
  rw [List.range_succ, List.map_append, List.flatten_append]
  simp
theorem joinT_mono (wd : Nat) (cs : List CardD) {i j : Nat} (h : i ≤ j) : (joinT wd cs i).length ≤ (joinT wd cs j).length := by
  induction j with
  | zero => rw [Nat.le_zero.mp h]; exact Nat.le_refl _
  | succ j ih =>
    rcases Nat.lt_or_eq_of_le h with h1 | rfl
    · rw [joinT_succ, List.length_append]
      have := ih (by omega)
      omega
    · exact Nat.le_refl _
theorem padB_len (b : List Nat) (wd : Nat) : (padB b wd).length ≤ max b.length wd := by
  unfold padB
  rw [List.length_append, List.length_replicate]; omega
local macro_rules | `(tactic| walk_at "mine h5") => `(tactic| ((with_reducible show wpAny _ _ (PySem.call (Value.ref 199) _) _ _ _); k_here; k_dflt (refine' con_use' (read_label_c _ _ _ _ _ _ _ _ _ _ _ _ _ (by assumption) (by assumption) (by assumption)) ?k1 ?_); (case k1 => walk_at "mine con"); walk_at "mine ret1"))
section
local macro_rules | `(tactic| walk_at "exec For Name Call cons nil") => `(tactic| (refine Hold.out ?_))
local macro_rules | `(tactic| walk_at "pyIter ref") => `(tactic| (refine Hold.out ?_))
local macro_rules | `(tactic| walk_at "call ref") => `(tactic| ((with_reducible show wpAny _ _ (PySem.call (Value.ref 171) _) _ _ _); k_here; k_dflt (refine' con_use' (without_blanks_c _ _ _ _ (by first | assumption | omega)) ?k1 ?_); (case k1 => walk_at "mine con"); walk_at "mine ret1"))
local macro_rules | `(tactic| walk_at "call ref") => `(tactic| ((with_reducible show wpAny _ _ (PySem.call (Value.ref 206) _) _ _ _); k_here; k_dflt (refine' con_use' (padded_c _ _ _ _ _ _ (by assumption) (by assumption)) ?k1 ?_); (case k1 => walk_at "mine con"); walk_at "mine ret1"))
local macro_rules | `(tactic| walk_at "call ref") => `(tactic| walk_at "mine h5")
local macro_rules | `(tactic| walk_at "call builtin:len") => `(tactic| walk_at "mine h3")
local macro_rules | `(tactic| walk_at "subscriptTail Name Constant ref int") => `(tactic| walk_at "mine h4")
local macro_rules | `(tactic| walk_at "subscriptTail Name Name ref int") => `(tactic| walk_at "mine h4")
theorem joined_c (w : World) (news : Led) (ro : Addr) (vs : List Value) (nn : Nat) (c0 : CardD) (cts : List CardD) (wd : Nat) (wi : Int) (tw : Tok) (hwi : wi = (wd : Int))
   (hro : (ro, listOf vs.toArray nn) ∈ news) (hvs : KCs w news vs (c0 :: cts)) (hlab : c0.label = [32, 32, 49, 32, 50]) (hwd : wd ≤ 300000) (hbl : ∀ c ∈ c0 :: cts, c.body.length ≤ 300000)
   (hvl : vs.length ≤ 1000000) (hjl : (joinT wd (c0 :: cts) vs.length).length ≤ 300000) (hjn : ¬ noBl (joinT wd (c0 :: cts) vs.length) = []) :
   Con w 213 4 news [.ref ro, .int wi tw] (fun v tl => ∃ q t1 t2 t3, v = .ref q ∧ tl = [(q, tupO [.int (c0.line : Int) t1, .int 12 t2, .str (S (joinT wd (c0 :: cts) vs.length)) t3])]) := by
  subst hwi
  have hlen := hvs.length
  rw [List.length_cons] at hlen
  have hv0 : vs[0]? = some (vs[0]'(by omega)) := List.getElem?_eq_getElem (by omega)
  obtain ⟨c', hc', x0, dx0, i1, i2, i3, i4, u1, u2, u3, u4, e0, hx0, hdx0⟩ := hvs.get hv0
  have hc' : c0 = c' := by simpa using hc'
  subst hc'
  rw [e0] at hv0
  unfold Con
  k_fill
  intro mean mg mb dp un gd cn cs a ccd cl outer A₀ base h₀ L m s Q E B F X N T hk hd hu hret
  w_top off
  refine wpAny_call ?_
  k_dflt ktr_enter
  k_steps
  refine Hold.mk ?_
  rename Fr _ _ _ _ => F1
  with_unfolding_all refine' For_invVF F1 ?kf1 ?kf2 ?_
  case kf1 => exact rfl
  case kf2 => exact rfl
  k_steps
  refine Hold.mk ?_
  rename Fr _ _ _ _ => F1
  rename News _ _ _ _ => N1
  rename IsRange _ _ _ _ _ _ _ _ => hrg
  with_unfolding_all refine' my_range (σ := List Nat × Tok) (n := vs.length) (fun _ => news) (fun c => [(Str.ofString "text", .str (S c.1) c.2)]) [] (fun i c => c.1 = joinT wd (c0 :: cts) i) ([], _) rfl hrg (small_one (by omega) (by omega) (by omega) (by omega)) ?hn F1 N1 ?hk rfl ?turn ?done
  case hn => rw [rangeSize_nat]; omega
  case hk =>
    exact List.forall_mem_cons.mpr ⟨by with_unfolding_all rfl, List.forall_mem_nil _⟩
  case turn =>
    rintro ⟨tx, ttx⟩ i t9 u h2 tk2 own hi hown hp F3 N3
    clear F1 N1
    dsimp only at hi hown hp F3 N3 ⊢
    have hvi : vs[i]? = some (vs[i]'hi) := List.getElem?_eq_getElem hi
    obtain ⟨ci, hci, xi, dxi, p1, p2, p3, p4, q1, q2, q3, q4, ei, hxi, hdxi⟩ := hvs.get hvi
    rw [ei] at hvi
    have hxi2 := List.mem_append_left own hxi
    have hdxi2 := List.mem_append_left own hdxi
    have hro2 := List.mem_append_left own hro
    have hbi := hbl ci (List.mem_of_getElem? hci)
    have htl : tx.length ≤ 300000 := by
      rw [hp]
      exact Nat.le_trans (joinT_mono wd (c0 :: cts) (Nat.le_of_lt hi)) hjl
    have hpl := padB_len ci.body wd
    by_cases hlast : i + 1 < vs.length
    · have hpi : pieceAt wd (c0 :: cts) i = padB ci.body wd := by
        unfold pieceAt
        rw [hci]
        dsimp only
        rw [if_pos (by rw [List.length_cons]; omega)]
      k_steps
      unfold InvEndG KJ
      refine' ⟨_, _, _, _, _, rfl, by assumption, by assumption, fun p hp => List.mem_append_left _ hp, fun p hp => List.mem_append_right _ hp, hown, (tx ++ padB ci.body wd, _), rfl, ?kk, ?ks, ?kp⟩
      case kk =>
        exact List.forall_mem_cons.mpr ⟨by with_unfolding_all rfl, List.forall_mem_nil _⟩
      case ks =>
        intro z h1 h2 h3
        (try simp only [List.forall_mem_cons, List.not_mem_nil, false_implies, implies_true, and_true, ne_eq] at h2)
        (try simp only [List.contains_cons, List.contains_nil, Bool.or_false, Bool.or_eq_false_iff, beq_eq_false_iff_ne, ne_eq] at h3)
        simp [kstB, h1, h2, h3]
      case kp =>
        dsimp only
        rw [joinT_succ, hpi, hp]
    · have hpi : pieceAt wd (c0 :: cts) i = ci.body := by
        unfold pieceAt
        rw [hci]
        dsimp only
        rw [if_neg (by rw [List.length_cons]; omega)]
      k_steps
      unfold InvEndG KJ
      refine' ⟨_, _, _, _, _, rfl, by assumption, by assumption, fun p hp => List.mem_append_left _ hp, fun p hp => List.mem_append_right _ hp, hown, (tx ++ ci.body, _), rfl, ?kk, ?ks, ?kp⟩
      case kk =>
        exact List.forall_mem_cons.mpr ⟨by with_unfolding_all rfl, List.forall_mem_nil _⟩
      case ks =>
        intro z h1 h2 h3
        (try simp only [List.forall_mem_cons, List.not_mem_nil, false_implies, implies_true, and_true, ne_eq] at h2)
        (try simp only [List.contains_cons, List.contains_nil, Bool.or_false, Bool.or_eq_false_iff, beq_eq_false_iff_ne, ne_eq] at h3)
        simp [kstB, h1, h2, h3]
      case kp =>
        dsimp only
        rw [joinT_succ, hpi, hp]
  case done =>
    rintro ⟨tx, ttx⟩ u2 h2 tk2 hp F3 N3
    clear F1 N1
    dsimp only at hp F3 N3 ⊢
    subst hp
    k_steps
    rename (∀ p ∈ news, p.1 < _) => hl9
    exact hret _ [(_, _)] _ _ (by k_asm) (by k_asm) (fun q hq p hp => by rw [List.mem_singleton.mp hp]; exact hl9 q hq) ⟨_, _, _, _, rfl, rfl⟩
end

section
local macro_rules | `(tactic| walk_at "exec For Name Name cons nil") => `(tactic| (refine Hold.out ?_))
local macro_rules | `(tactic| walk_at "pyIter ref") => `(tactic| (refine Hold.out ?_))
local macro_rules | `(tactic| walk_at "call ref") => `(tactic| ((with_reducible show wpAny _ _ (PySem.call (Value.ref 192) _) _ _ _); k_here; k_dflt (refine' con_use' (is_continuation_c _ _ _ _ _ _ _ _ _ _ _ _ _ (by assumption) (by assumption)) ?k1 ?_); (case k1 => walk_at "mine con"); walk_at "mine ret2"))
local macro_rules | `(tactic| walk_at "call ref") => `(tactic| walk_at "mine h5")
local macro_rules | `(tactic| walk_at "call ref") => `(tactic| ((with_reducible show wpAny _ _ (PySem.call (Value.ref 220) _) _ _ _); k_here; k_dflt (refine' con_use' (check_continuation_c _ _ _ _ _ _ _ _ _ _ _ _ _ (by assumption) (by assumption) _ _ _ _ _ _ _ _ _ _ _ (by assumption) (by assumption) _ _ _ (List.Mem.tail _ (List.Mem.head _)) (by assumption) _ _ _ _ _ _ _ _ _ _ _ _ _ _ _ _ _ _ _ _ (by assumption) (by assumption) (by assumption) (by assumption) (by assumption) (by assumption) (by assumption) (by assumption)) ?k1 ?_); (case k1 => walk_at "mine con"); walk_at "mine ret2"))
local macro_rules | `(tactic| walk_at "call ref") => `(tactic| ((with_reducible show wpAny _ _ (PySem.call (Value.ref 213) _) _ _ _); refine Hold.out ?_))
local macro_rules | `(tactic| walk_at "call builtin:list.append") => `(tactic| walk_at "mine h2")
local macro_rules | `(tactic| walk_at "call builtin:len") => `(tactic| walk_at "mine h3")
local macro_rules | `(tactic| walk_at "unused 2") => `(tactic| skip)
theorem statements_of_c (w : World) (news : Led) (ca : Addr) (vs : List Value) (nn : Nat) (c0 : CardD) (cts : List CardD) (wd cont : Nat)
   (lx ld : Addr) (n : Nat) (j1 j2 j3 j4 j5 j6 j7 j8 : Tok) (a1 a2 a3 a4 a5 a8 : Value) (t6 t7 : Tok)
   (hlx : (lx, instObj 132 ld) ∈ news) (hld : (ld, dictOf (limO w j1 j2 j3 j4 j5 j6 j7 j8 a1 a2 a3 a4 a5 (.int (cont : Int) t6) (.int ((wd + 6 : Nat) : Int) t7) a8) n) ∈ news)
   (hca : (ca, listOf vs.toArray nn) ∈ news) (hvs : KCs w news vs (c0 :: cts)) (hlab : c0.label = [32, 32, 49, 32, 50]) (hwd : wd ≤ 300000) (hbl : ∀ c ∈ c0 :: cts, c.body.length ≤ 300000)
   (hc0 : isCont c0 = false) (hct : ∀ c ∈ cts, isCont c = true ∧ noBl c.label = [] ∧ c.label.length ≤ 1000000) (hE : ¬ noBl c0.body = [69, 78, 68]) (hcn : vs.length ≤ cont)
   (hvl : vs.length ≤ 1000000) (hjl : (joinT wd (c0 :: cts) vs.length).length ≤ 300000) (hjn : ¬ noBl (joinT wd (c0 :: cts) vs.length) = []) :
   Con w 227 6 news [.ref ca, .ref lx] (fun v tl => ∃ (q : Addr) (nn : Nat) (q2 : Addr) (t1 t2 t3 : Tok), v = .ref q ∧ tl = [(q, listOf [Value.ref q2].toArray nn), (q2, tupO [.int (c0.line : Int) t1, .int 12 t2, .str (S (joinT wd (c0 :: cts) vs.length)) t3])]) := by
  have hlen := hvs.length
  rw [List.length_cons] at hlen
  have hb0 : c0.body.length ≤ 1000000 := by have := hbl c0 (.head _); omega
  have hv0 : vs[0]? = some (vs[0]'(by omega)) := List.getElem?_eq_getElem (by omega)
  obtain ⟨c', hc', x0, dx0, i1, i2, i3, i4, u1, u2, u3, u4, e0, hx0, hdx0⟩ := hvs.get hv0
  have hc' : c0 = c' := by simpa using hc'
  subst hc'
  rw [e0] at hv0
  unfold Con
  k_fill
  intro mean mg mb dp un gd cn cs a ccd cl outer A₀ base h₀ L m s Q E B F X N T hk hd hu hret
  w_top off
  refine wpAny_call ?_
  k_dflt ktr_enter
  k_steps
  rename (∀ p ∈ news, p.1 < _) => hD
  refine grab (P := fun a => ∀ p ∈ news, p.1 < a) hD (fun outA e hD' => ?_)
  subst e
  rename (outA < _ ∧ AllLt _ news) => hR
  refine grab (P := fun a => outA < a ∧ AllLt a news) hR (fun r0 e hR' => ?_)
  subst e
  have hlxa : _ ∈ (r0, listOf #[] 0) :: (outA, listOf #[] 0) :: news := .tail _ (.tail _ hlx)
  have hlda : _ ∈ (r0, listOf #[] 0) :: (outA, listOf #[] 0) :: news := .tail _ (.tail _ hld)
  k_steps
  refine Hold.mk ?_
  rename Fr _ _ _ _ => F1
  with_unfolding_all refine' For_invVF F1 ?kf1 ?kf2 ?_
  case kf1 => exact rfl
  case kf2 => exact rfl
  k_steps
  refine Hold.mk ?_
  rename Fr _ _ _ _ => F1
  rename News _ _ _ _ => N1
  with_unfolding_all refine' my_list (σ := Addr × List Value × Nat) (fun c => (outA, listOf #[] 0) :: (c.1, listOf c.2.1.toArray c.2.2) :: news) (fun c => [(Str.ofString "rows", .ref c.1)]) [] (fun i c => c.2.1 = vs.take i ∧ outA < c.1 ∧ ∀ p ∈ news, p.1 < c.1) (r0, [], 0) rfl (fun c => .tail _ (.tail _ hca)) F1 ?hn0 ?hk ⟨rfl, hR.1, fun p hp => ktn_ltOf hR.2 p hp⟩ ?turn ?done
  case hn0 =>
    intro p hp
    refine N1 p ?_
    rcases List.mem_cons.mp hp with rfl | hp
    · exact .tail _ (.head _)
    · rcases List.mem_cons.mp hp with rfl | hp
      · exact .head _
      · exact .tail _ (.tail _ hp)
  case hk =>
    exact List.forall_mem_cons.mpr ⟨by with_unfolding_all rfl, List.forall_mem_nil _⟩
  have hwi : (((wd + 6 : Nat) : Int) - 6) = (wd : Int) := by omega
  case turn =>
    rintro ⟨ro, rvs, rn⟩ i v u h2 tk2 own hv hown ⟨hrv, hro, hrn⟩ F3 N3
    clear F1 N1
    dsimp only at hv hown hrv hro hrn F3 N3 ⊢
    subst hrv
    have hi9 : i < vs.length := (List.getElem?_eq_some_iff.mp hv).1
    have hmk := kstMark
    obtain ⟨ci, hci, xi, dxi, p1, p2, p3, p4, q1, q2, q3, q4, rfl, hxi, hdxi⟩ := hvs.get hv
    have up : ∀ p ∈ news, p ∈ (outA, listOf #[] 0) :: (ro, listOf (vs.take i).toArray rn) :: news ++ own := fun p hp => .tail _ (.tail _ (List.mem_append_left _ hp))
    have hxi2 := up _ hxi
    have hdxi2 := up _ hdxi
    have hx02 := up _ hx0
    have hdx02 := up _ hdx0
    have hlx2 := up _ hlx
    have hld2 := up _ hld
    have hoff : ∀ p ∈ news ++ own, p.1 ≠ ro := by
      intro p hp
      rcases List.mem_append.mp hp with hp | hp
      · exact Nat.ne_of_lt (hrn p hp)
      · exact hown p hp _ (by simp)
    simp only [List.cons_append] at N3 hxi2 hdxi2 hx02 hdx02 hlx2 hld2
    have hrl : (vs.take i).length = i := by rw [List.length_take]; omega
    match i, hci with
    | 0, hci =>
      have hci : c0 = ci := by simpa using hci
      subst hci
      k_steps
      rename (outA < _ ∧ ro < _ ∧ AllLt _ _) => hx
      refine grab (P := fun x => outA < x ∧ ro < x ∧ AllLt x _) hx (fun X eX hX => ?_)
      subst eX
      unfold InvEndG KJ
      refine' ⟨_, _, _, _, (outA, listOf #[] 0) :: (X, listOf [Value.ref xi].toArray 1) :: news, rfl, by assumption, by assumption, ?hin, fun p hp => .tail _ (.tail _ (.tail _ (List.mem_append_right _ hp))), ?hoo, (X, [Value.ref xi], 1), rfl, ?kk, ?ks, ?kp, hX.1, fun p hp => ktn_ltOf hX.2.2 p (List.mem_append_left _ hp)⟩
      case hin =>
        intro p hp
        rcases List.mem_cons.mp hp with rfl | hp
        · exact .tail _ (.head _)
        · rcases List.mem_cons.mp hp with rfl | hp
          · exact .head _
          · exact .tail _ (.tail _ (.tail _ (List.mem_append_left _ hp)))
      case hoo =>
        intro p hp b hb
        rcases List.mem_cons.mp hb with rfl | hb
        · exact hown p hp _ (.head _)
        · rcases List.mem_cons.mp hb with rfl | hb
          · exact Nat.ne_of_lt (ktn_ltOf hX.2.2 p (List.mem_append_right _ hp))
          · exact hown p hp _ (.tail _ (.tail _ hb))
      case kk =>
        exact List.forall_mem_cons.mpr ⟨by with_unfolding_all rfl, List.forall_mem_nil _⟩
      case ks =>
        intro z h1 h2 h3
        (try simp only [List.forall_mem_cons, List.not_mem_nil, false_implies, implies_true, and_true, ne_eq] at h2)
        (try simp only [List.contains_cons, List.contains_nil, Bool.or_false, Bool.or_eq_false_iff, beq_eq_false_iff_ne, ne_eq] at h3)
        simp [kstB, h1, h2, h3]
      case kp =>
        rw [List.take_add_one, hv]; rfl
    | j + 1, hci =>
      have hcm : ci ∈ cts := List.mem_of_getElem? (by simpa using hci)
      obtain ⟨g1, g2, g3⟩ := hct ci hcm
      have hv1 : (vs.take (j + 1))[0]? = some (.ref x0) := by rw [List.getElem?_take]; simpa using hv0
      have hv2 : (vs.take (j + 1)).length ≤ cont := by omega
      have hv3 : (vs.take (j + 1)).length ≤ 1000000 := by omega
      have hro' : ro ≠ outA := Nat.ne_of_gt hro
      have hro'' : outA ≠ ro := Nat.ne_of_lt hro
      k_steps
      unfold InvEndG KJ
      refine' ⟨_, _, _, _, (outA, listOf #[] 0) :: (ro, listOf (vs.take (j + 1) ++ [Value.ref xi]).toArray (rn + 1)) :: news, rfl, by assumption, by assumption, ?hin, fun p hp => .tail _ (.tail _ (List.mem_append_right _ hp)), ?hoo, (ro, vs.take (j + 1) ++ [Value.ref xi], rn + 1), rfl, ?kk, ?ks, ?kp, hro, hrn⟩
      case hin =>
        intro p hp
        rcases List.mem_cons.mp hp with rfl | hp
        · exact .head _
        · rcases List.mem_cons.mp hp with rfl | hp
          · exact .tail _ (.head _)
          · exact .tail _ (.tail _ (List.mem_append_left _ hp))
      case hoo =>
        intro p hp b hb
        exact hown p hp _ hb
      case kk =>
        exact List.forall_mem_cons.mpr ⟨by with_unfolding_all rfl, List.forall_mem_nil _⟩
      case ks =>
        intro z h1 h2 h3
        (try simp only [List.forall_mem_cons, List.not_mem_nil, false_implies, implies_true, and_true, ne_eq] at h2)
        (try simp only [List.contains_cons, List.contains_nil, Bool.or_false, Bool.or_eq_false_iff, beq_eq_false_iff_ne, ne_eq] at h3)
        simp [kstB, h1, h2, h3]
      case kp =>
        dsimp only
        rw [List.take_add_one (i := j + 1), hv]; rfl
  case done =>
    rintro ⟨ro, rvs, rn⟩ u2 h2 tk2 ⟨hrv, hro, hrn⟩ F3 N3
    clear F1 N1
    dsimp only at hrv hro hrn F3 N3 ⊢
    rw [List.take_length] at hrv
    subst hrv
    have hmk := kstMark
    have hoff : ∀ p ∈ (ro, listOf rvs.toArray rn) :: news, p.1 ≠ outA := by
      intro p hp
      rcases List.mem_cons.mp hp with rfl | hp
      · exact Nat.ne_of_gt hro
      · exact Nat.ne_of_lt (hD p hp)
    k_steps
    have hwi : (((wd + 6 : Nat) : Int) - 6) = (wd : Int) := by omega
    refine Hold.mk ?_
    k_dflt (refine' con_use (joined_c _ ((outA, listOf #[] 0) :: (ro, listOf rvs.toArray rn) :: news) _ _ _ _ _ _ _ _ hwi (List.Mem.tail _ (List.Mem.head _)) (hvs.mono fun p hp => .tail _ (.tail _ hp)) hlab hwd hbl hvl hjl hjn) ?k1 ?k2 ?k3 ?k4 ?k5 ?kK ?kd ?ku ?_)
    case k1 => k_asm
    case k2 => k_asm
    case k3 => k_asm
    case k4 => k_asm
    case k5 => k_asm
    case kK => first | exact rfl | assumption
    case kd => ((rename (_ < recursionLimit) => hd9); (refine Nat.lt_of_le_of_lt ?_ hd9); (try simp only [depth_under_make, depth_under_kw, depth_in1, depth_deeper, depth_caller]); (try dsimp only [ktrTop]); omega)
    case ku => ((rename (_ < cLine) => hd9); (refine Nat.lt_of_le_of_lt ?_ hd9); (try simp only [units_in1, units_deeper, Around.mark_units, units_caller]); (try dsimp only [ktrTop]); omega)
    rintro r9 tl9 h9 tk9 F1 N1 ho1 ⟨q, t1, t2, t3, rfl, rfl⟩
    simp only [List.cons_append, List.nil_append] at N1
    have hoq : outA < q := ho1 _ (.head _) _ (.head _)
    have hoq' : q ≠ outA := Nat.ne_of_gt hoq
    (try k_fold)
    k_steps
    rename (News h₀ L _ _) => N9
    refine hret _ [(outA, listOf [Value.ref q].toArray 1), (q, tupO [.int (c0.line : Int) t1, .int 12 t2, .str (S (joinT wd (c0 :: cts) rvs.length)) t3])] _ _ (by k_asm) (fun p hp => N9 p ?_) ?_ ⟨outA, 1, q, t1, t2, t3, rfl, rfl⟩
    · rcases List.mem_cons.mp hp with rfl | hp
      · exact .tail _ (.head _)
      · rcases List.mem_cons.mp hp with rfl | hp
        · exact .head _
        · exact .tail _ (.tail _ (.tail _ hp))
    · intro z hz p hp
      rcases List.mem_cons.mp hp with rfl | hp
      · exact hD z hz
      · rw [List.mem_singleton.mp hp]
        exact Nat.lt_trans (hD z hz) hoq
end

section
local macro_rules | `(tactic| walk_at "call ref") => `(tactic| ((with_reducible show wpAny _ _ (PySem.call (Value.ref 185) _) _ _ _); refine Hold.out ?_))
local macro_rules | `(tactic| walk_at "call ref") => `(tactic| ((with_reducible show wpAny _ _ (PySem.call (Value.ref 227) _) _ _ _); refine Hold.out ?_))
theorem read_statements_c (w : World) (news : Led) (l : List Nat) (t : Tok) (r : List Nat) (rs : List (List Nat)) (lx ld : Addr) (n : Nat) (k1 k2 k3 k4 k5 k6 k7 k8 : Tok) (a1 a2 a3 a4 a5 a8 : Value) (cont wd : Nat) (t6 t7 : Tok) (c0 : CardD) (cts : List CardD) (coli : Int) (hcoli : coli = ((wd + 6 : Nat) : Int))
   (hlx : (lx, instObj 132 ld) ∈ news) (hld : (ld, dictOf (limO w k1 k2 k3 k4 k5 k6 k7 k8 a1 a2 a3 a4 a5 (.int (cont : Int) t6) (.int coli t7) a8) n) ∈ news)
   (hl : l = r ++ (rs.map fun x => 10 :: x).flatten) (hf : ∀ x ∈ r :: rs, 10 ∉ x) (hll : l.length ≤ 300000) (hnr : rs.length ≤ 100000) (hne : (r :: rs).getLast? ≠ some [])
   (hrl : ∀ x ∈ r :: rs, x.length ≤ 300000) (hr6 : ∀ x ∈ r :: rs, isCom x (wd + 6) = false → 6 ≤ x.length)
   (hcd : cardsOf (wd + 6) 1 (r :: rs) = c0 :: cts)
   (hlab : c0.label = [32, 32, 49, 32, 50]) (hwd : wd ≤ 300000) (hbl : ∀ c ∈ c0 :: cts, c.body.length ≤ 300000)
   (hc0 : isCont c0 = false) (hct : ∀ c ∈ cts, isCont c = true ∧ noBl c.label = [] ∧ c.label.length ≤ 1000000) (hE : ¬ noBl c0.body = [69, 78, 68]) (hcn : (c0 :: cts).length ≤ cont)
   (hvl : (c0 :: cts).length ≤ 1000000) (hjl : (joinT wd (c0 :: cts) (c0 :: cts).length).length ≤ 300000) (hjn : ¬ noBl (joinT wd (c0 :: cts) (c0 :: cts).length) = []) :
   Con w 234 12 news [.str (S l) t, .ref lx] (fun v tl => ∃ (q : Addr) (nn : Nat) (q2 : Addr) (t1 t2 t3 : Tok) (tl' : Led), v = .ref q ∧ tl = (q, listOf [Value.ref q2].toArray nn) :: (q2, tupO [.int (c0.line : Int) t1, .int 12 t2, .str (S (joinT wd (c0 :: cts) (c0 :: cts).length)) t3]) :: tl') := by
  subst hcoli
  unfold Con
  k_fill
  intro mean mg mb dp un gd cn cs a ccd cl outer A₀ base h₀ L m s Q E B F X N T hk hd hu hret
  w_top off
  refine wpAny_call ?_
  k_dflt ktr_enter
  k_steps
  refine Hold.mk ?_
  k_dflt (refine' con_use (read_cards_c (t := _) (hlx := hlx) (hld := hld) (hl := hl) (hf := hf) (hll := hll) (hnr := hnr) (hne := hne) (hco := Nat.le_add_left 6 wd) (hrl := hrl) (hr6 := hr6)) ?k1 ?k2 ?k3 ?k4 ?k5 ?kK ?kd ?ku ?_)
  case k1 => k_asm
  case k2 => k_asm
  case k3 => k_asm
  case k4 => k_asm
  case k5 => k_asm
  case kK => first | exact rfl | assumption
  case kd => ((rename (_ < recursionLimit) => hd9); (refine Nat.lt_of_le_of_lt ?_ hd9); (try simp only [depth_under_make, depth_under_kw, depth_in1, depth_deeper, depth_caller]); (try dsimp only [ktrTop]); omega)
  case ku => ((rename (_ < cLine) => hd9); (refine Nat.lt_of_le_of_lt ?_ hd9); (try simp only [units_in1, units_deeper, Around.mark_units, units_caller]); (try dsimp only [ktrTop]); omega)
  rintro r9 tl9 h9 tk9 F1 N1 ho1 ⟨q, vs, nnq, tlq, rfl, rfl, hcts⟩
  rw [hcd] at hcts
  have hvsl := hcts.length
  rw [← hvsl] at hcn hvl hjl hjn hret
  simp only [List.cons_append] at N1
  (try k_fold)
  k_steps
  refine Hold.mk ?_
  k_dflt (refine' con_use (statements_of_c (news := (q, listOf vs.toArray nnq) :: (tlq ++ news)) (hlx := .tail _ (List.mem_append_right _ hlx)) (hld := .tail _ (List.mem_append_right _ hld)) (hca := List.Mem.head _) (hvs := hcts.mono fun p hp => .tail _ (List.mem_append_left _ hp)) (hlab := hlab) (hwd := hwd) (hbl := hbl) (hc0 := hc0) (hct := hct) (hE := hE) (hcn := hcn) (hvl := hvl) (hjl := hjl) (hjn := hjn)) ?k1 ?k2 ?k3 ?k4 ?k5 ?kK ?kd ?ku ?_)
  case k1 => k_asm
  case k2 => k_asm
  case k3 => k_asm
  case k4 => k_asm
  case k5 => k_asm
  case kK => first | exact rfl | assumption
  case kd => ((rename (_ < recursionLimit) => hd9); (refine Nat.lt_of_le_of_lt ?_ hd9); (try simp only [depth_under_make, depth_under_kw, depth_in1, depth_deeper, depth_caller]); (try dsimp only [ktrTop]); omega)
  case ku => ((rename (_ < cLine) => hd9); (refine Nat.lt_of_le_of_lt ?_ hd9); (try simp only [units_in1, units_deeper, Around.mark_units, units_caller]); (try dsimp only [ktrTop]); omega)
  rintro r8 tl8 h8 tk8 F2 N2 ho2 ⟨q', nn', q2, t1, t2, t3, rfl, rfl⟩
  (try k_fold)
  k_steps
  rename (News h₀ L _ _) => N9
  refine hret _ ((q', listOf [Value.ref q2].toArray nn') :: (q2, tupO [.int (c0.line : Int) t1, .int 12 t2, .str (S (joinT wd (c0 :: cts) vs.length)) t3]) :: (q, listOf vs.toArray nnq) :: tlq) _ _ (by k_asm) (fun p hp => N9 p (by simpa using hp)) ?_ ⟨q', nn', q2, t1, t2, t3, _, rfl, rfl⟩
  intro z hz p hp
  have hz' := ho2 z (.tail _ (List.mem_append_right _ hz))
  rcases List.mem_cons.mp hp with rfl | hp
  · exact hz' _ (.head _)
  · rcases List.mem_cons.mp hp with rfl | hp
    · exact hz' _ (.tail _ (.head _))
    · exact ho1 z hz p hp
end

section
local macro_rules | `(tactic| walk_at "eval Constant str") => `(tactic| (refine Calls.Constant_str ?_))
noncomputable def plainL : List (List Nat) := [[43, 65, 40, 54, 41], [61, 66], [43, 73], [41], [43, 88, 42, 52, 72, 65], [47, 47, 67], [45, 40, 49, 41]]
theorem law_plain_c (w : World) (news : Led) : Con w 241 1 news [] (fun v tl => ∃ (q : Addr) (vs : List Value) (nn : Nat), v = .ref q ∧ tl = [(q, listOf vs.toArray nn)] ∧ SVs vs plainL) := by
  unfold Con
  k_fill
  intro mean mg mb dp un gd cn cs a ccd cl outer A₀ base h₀ L m s Q E B F X N T hk hd hu hret
  w_top off
  refine wpAny_call ?_
  k_dflt ktr_enter
  k_steps
  rename (∀ (p : Addr × Obj), p ∈ news → p.fst < _) => hl9
  refine hret _ [(_, _)] _ _ (by k_asm) (by k_asm) (fun q hq p hp => by rw [List.mem_singleton.mp hp]; exact hl9 q hq) ⟨_, _, 0, rfl, rfl, ?_⟩
  unfold plainL
  repeat (refine .cons ⟨_, congrArg (Value.str · _) (by decide +kernel)⟩ ?_)
  exact .nil
noncomputable def innerL : List (List Nat) := [[65, 32, 66], [73, 84, 39, 83], [39], [40, 44, 61], [32, 32], [], [88], [49, 50, 72], [39, 39, 67], [47, 42, 58], [65, 32, 66, 39, 67, 32, 68, 32, 69, 32, 70]]
theorem law_inner_c (w : World) (news : Led) : Con w 248 1 news [] (fun v tl => ∃ (q : Addr) (vs : List Value) (nn : Nat), v = .ref q ∧ tl = [(q, listOf vs.toArray nn)] ∧ SVs vs innerL) := by
  unfold Con
  k_fill
  intro mean mg mb dp un gd cn cs a ccd cl outer A₀ base h₀ L m s Q E B F X N T hk hd hu hret
  w_top off
  refine wpAny_call ?_
  k_dflt ktr_enter
  k_steps
  rename (∀ (p : Addr × Obj), p ∈ news → p.fst < _) => hl9
  refine hret _ [(_, _)] _ _ (by k_asm) (by k_asm) (fun q hq p hp => by rw [List.mem_singleton.mp hp]; exact hl9 q hq) ⟨_, _, 0, rfl, rfl, ?_⟩
  unfold innerL
  repeat (refine .cons ⟨_, congrArg (Value.str · _) (by decide +kernel)⟩ ?_)
  exact .nil
noncomputable def wrongL : List (List Nat) := [[44, 39, 65, 66], [44, 57, 72, 65, 66], [40, 48, 72, 65], [47, 51, 72, 65, 32]]
theorem law_wrong_c (w : World) (news : Led) : Con w 255 1 news [] (fun v tl => ∃ (q : Addr) (vs : List Value) (nn : Nat), v = .ref q ∧ tl = [(q, listOf vs.toArray nn)] ∧ SVs vs wrongL) := by
  unfold Con
  k_fill
  intro mean mg mb dp un gd cn cs a ccd cl outer A₀ base h₀ L m s Q E B F X N T hk hd hu hret
  w_top off
  refine wpAny_call ?_
  k_dflt ktr_enter
  k_steps
  rename (∀ (p : Addr × Obj), p ∈ news → p.fst < _) => hl9
  refine hret _ [(_, _)] _ _ (by k_asm) (by k_asm) (fun q hq p hp => by rw [List.mem_singleton.mp hp]; exact hl9 q hq) ⟨_, _, 0, rfl, rfl, ?_⟩
  unfold wrongL
  repeat (refine .cons ⟨_, congrArg (Value.str · _) (by decide +kernel)⟩ ?_)
  exact .nil
end

noncomputable def nextN (n : Nat) : Nat := if n * 5 / 3 + 7 > 1000000 then (n * 5 / 3 + 7) % 997 else n * 5 / 3 + 7
noncomputable def padN (n : Nat) : List Nat := if n % 3 = 1 then List.replicate (1 + n % 2) 32 else []
noncomputable def laid : List Nat → Nat → List Nat
  | [], _ => []
  | c :: cs, n => padN n ++ c :: laid cs (nextN n)
noncomputable def iterN (n : Nat) : Nat → Nat
  | 0 => n
  | i + 1 => nextN (iterN n i)
theorem nx1 (n : Nat) (h : (10 : Int) ^ Int.toNat 6 < ((n : Int) * 5).fdiv 3 + 7) : (((n : Int) * 5).fdiv 3 + 7).fmod 997 = ((nextN n : Nat) : Int) := by
  have e3 : ((n : Int) * 5).fdiv 3 = ((n * 5 / 3 : Nat) : Int) := (Int.ofNat_fdiv (n * 5) 3).symm
  have ep : (10 : Int) ^ Int.toNat 6 = 1000000 := by decide
  rw [e3] at h ⊢
  rw [ep] at h
  unfold nextN
  rw [if_pos (by omega)]
  exact (Int.ofNat_fmod (n * 5 / 3 + 7) 997).symm
theorem nx2 (n : Nat) (h : ¬ (10 : Int) ^ Int.toNat 6 < ((n : Int) * 5).fdiv 3 + 7) : ((n : Int) * 5).fdiv 3 + 7 = ((nextN n : Nat) : Int) := by
  have e3 : ((n : Int) * 5).fdiv 3 = ((n * 5 / 3 : Nat) : Int) := (Int.ofNat_fdiv (n * 5) 3).symm
  have ep : (10 : Int) ^ Int.toNat 6 = 1000000 := by decide
  rw [e3] at h ⊢
  rw [ep] at h
  unfold nextN
  rw [if_neg (by omega)]; rfl
theorem pad_y {n : Nat} (h : (n : Int).fmod 3 = 1) : padN n = List.replicate (1 + n % 2) 32 := by
  have hm3 : (n : Int).fmod 3 = ((n % 3 : Nat) : Int) := (Int.ofNat_fmod n 3).symm
  unfold padN; rw [if_pos (by omega)]
theorem pad_n {n : Nat} (h : (n : Int).fmod 3 ≠ 1) : padN n = [] := by
  have hm3 : (n : Int).fmod 3 = ((n % 3 : Nat) : Int) := (Int.ofNat_fmod n 3).symm
  unfold padN; rw [if_neg (by omega)]
theorem nextN_le {n : Nat} (h : n ≤ 1000000000) : nextN n ≤ 1000000000 := by
  unfold nextN; split <;> omega
theorem padN_len (n : Nat) : (padN n).length ≤ 2 := by
  unfold padN; split
  · rw [List.length_replicate]; omega
  · exact Nat.zero_le _
theorem s_iadd {prog : Program} {w : World} {A : Around} {E : Value → Shared → Prop} {s : Shared} {a b : List Nat} {t u : Tok} {Q : Value → Shared → Prop} (hl : a.length + b.length ≤ 16777216) (h : ∀ t' k, s.toks ≤ k → Q (.str (S (a ++ b)) t') { s with toks := k }) : wpAny (model prog w) A (inplaceOp .Add (.str (S a) t) (.str (S b) u)) Q E s := by
  refine P.iadd_str ?_
  rw [S_length, S_length]
  by_cases h1 : a.length = 0
  · have : a = [] := List.length_eq_zero_iff.mp h1
    subst this
    exact h u s.toks (Nat.le_refl _)
  · by_cases h2 : b.length = 0
    · have : b = [] := List.length_eq_zero_iff.mp h2
      subst this
      rw [List.append_nil] at h
      simp only [List.length_nil, beq_self_eq_true, if_true, beq_iff_eq, h1, if_false]
      exact h t s.toks (Nat.le_refl _)
    · simp only [beq_iff_eq, h1, h2, if_false]
      rw [S_append]
      exact ⟨by show (S (a ++ b)).length ≤ sizeLine; rw [S_length, List.length_append, sizeLine_eq]; omega, h _ _ (Nat.le_succ _)⟩
local macro_rules | `(tactic| walk_at "mine h6") => `(tactic| ((with_reducible show wpAny _ _ (inplaceOp _ (Value.str (S _) _) (Value.str (S _) _)) _ _ _); refine s_iadd ?sz ?_; (case sz => ((try simp only [List.length_append, List.length_cons, List.length_nil]); omega)); intro t' k' hk'; (try dsimp only at hk')))
section
local macro_rules | `(tactic| walk_at "inplaceOp Add str str") => `(tactic| walk_at "mine h6")
local macro_rules | `(tactic| walk_at "binaryOp Mult str int") => `(tactic| ((refine' s_mul ?s1 ?s2 ?_); (case s1 => assumption); (case s2 => omega); intro t' k'))
local macro_rules | `(tactic| walk_at "exec For Name Name cons nil") => `(tactic| (refine Hold.out ?_))
local macro_rules | `(tactic| walk_at "pyIter str") => `(tactic| (refine Hold.out ?_))
theorem law_laid_c (w : World) (news : Led) (l : List Nat) (t : Tok) (n : Nat) (tn : Tok) (hn : n ≤ 1000000000) (hl : l.length ≤ 1000) :
   Con w 262 1 news [.str (S l) t, .int (n : Int) tn] (fun v tl => tl = [] ∧ ∃ t', v = .str (S (laid l n)) t') := by
  unfold Con
  k_fill
  intro mean mg mb dp un gd cn cs a ccd cl outer A₀ base h₀ L m s Q E B F X N T hk hd hu hret
  w_top off
  refine wpAny_call ?_
  k_dflt ktr_enter
  k_steps
  refine Hold.mk ?_
  rename Fr _ _ _ _ => F1
  with_unfolding_all refine' For_invVF F1 ?kf1 ?kf2 ?_
  case kf1 => exact rfl
  case kf2 => exact rfl
  k_steps
  refine Hold.mk ?_
  rename Fr _ _ _ _ => F1
  rename News _ _ _ _ => N1
  with_unfolding_all refine' my_text (σ := List Nat × Tok × Int × Tok) (fun _ => news) (fun c => [(Str.ofString "text", .str (S c.1) c.2.1), (Str.ofString "n", .int c.2.2.1 c.2.2.2)]) [Str.ofString "sign"] (fun i c => ∃ k : Nat, c.2.2.1 = (k : Int) ∧ c.1 ++ laid (l.drop i) k = laid l n ∧ k ≤ 1000000000 ∧ c.1.length ≤ 3 * i) ([], _, (n : Int), _) rfl F1 N1 ?hk ⟨n, rfl, rfl, hn, Nat.le_refl _⟩ ?turn ?done
  case hk =>
    exact List.forall_mem_cons.mpr ⟨by with_unfolding_all rfl, List.forall_mem_cons.mpr ⟨by with_unfolding_all rfl, List.forall_mem_nil _⟩⟩
  case turn =>
    rintro ⟨tx, tt, ni, t1⟩ j c tc u2 h2 tk2 own hj hown ⟨n1, hni, hp1, hp2, hp3⟩ F3 N3
    clear F1 N1
    dsimp only at hni hj hown hp1 hp2 hp3 F3 N3 ⊢
    subst hni
    have hjl : j < l.length := (List.getElem?_eq_some_iff.mp hj).1
    have hm3 : (n1 : Int).fmod 3 = ((n1 % 3 : Nat) : Int) := (Int.ofNat_fmod n1 3).symm
    have hm2 : 1 + (n1 : Int).fmod 2 = ((1 + n1 % 2 : Nat) : Int) := by
      have : (n1 : Int).fmod 2 = ((n1 % 2 : Nat) : Int) := (Int.ofNat_fmod n1 2).symm
      omega
    have hrep : (List.replicate (1 + n1 % 2) 32).length ≤ 2 := by rw [List.length_replicate]; omega
    k_steps
    all_goals (
      unfold InvEndG KJ
      refine' ⟨_, _, _, _, _, rfl, by assumption, by assumption, fun p hp => List.mem_append_left _ hp, fun p hp => List.mem_append_right _ hp, hown, (_, _, _, _), rfl, ?kk, ?ks, ?kp⟩
      case kk =>
        exact List.forall_mem_cons.mpr ⟨by with_unfolding_all rfl, List.forall_mem_cons.mpr ⟨by with_unfolding_all rfl, List.forall_mem_nil _⟩⟩
      case ks =>
        intro z h1 h2 h3
        (try simp only [List.forall_mem_cons, List.not_mem_nil, false_implies, implies_true, and_true, ne_eq] at h2)
        (try simp only [List.contains_cons, List.contains_nil, Bool.or_false, Bool.or_eq_false_iff, beq_eq_false_iff_ne, ne_eq] at h3)
        simp [kstB, h1, h2, h3]
      case kp =>
        dsimp only
        have ed : l.drop j = c :: l.drop (j + 1) := by
          obtain ⟨h1, h2⟩ := List.getElem?_eq_some_iff.mp hj
          rw [List.drop_eq_getElem_cons h1, h2]
        rw [ed] at hp1
        have hp1 : tx ++ (padN n1 ++ c :: laid (l.drop (j + 1)) (nextN n1)) = laid l n := hp1
        refine ⟨nextN n1, by first | exact nx1 _ (by assumption) | exact nx2 _ (by assumption), ?_, nextN_le hp2, by (simp only [List.length_append, List.length_cons, List.length_nil]; omega)⟩
        first
        | (rw [pad_y (by assumption)] at hp1; rw [← hp1]; simp)
        | (rw [pad_n (by assumption)] at hp1; rw [← hp1]; simp))
  case done =>
    rintro ⟨tx, tt, ni, t1⟩ u2 h2 tk2 ⟨n1, hni, hp1, hp2, hp3⟩ F3 N3
    clear F1 N1
    dsimp only at hp1 hp2 hp3 F3 N3 ⊢
    rw [List.drop_length] at hp1
    have hp1 : tx ++ [] = _ := hp1
    rw [List.append_nil] at hp1
    k_steps
    exact hret _ [] _ _ (by k_asm) (by k_asm) (fun _ _ _ h9 => nomatch h9) ⟨rfl, _, by rw [hp1]⟩
end

noncomputable def aheadL : List Nat := [44, 40, 47, 58]
noncomputable def digs (n : Nat) : List Nat := if n < 10 then [48 + n] else [49, 48 + (n - 10)]
noncomputable def innerOf (n : Nat) : List Nat := innerL.getD (n / 4 % 11) []
noncomputable def plainOf (n : Nat) : List Nat := plainL.getD (n / 4 % 7) []
noncomputable def aheadOf (n : Nat) : Nat := aheadL.getD (n / 44 % 4) 0
noncomputable def toldOf (n : Nat) : List Nat := if n % 4 < 2 then plainOf n else aheadOf n :: 39 :: (StrLaws.dbl 39 (innerOf n) ++ [39])
noncomputable def laidOf (n seed : Nat) : List Nat := if n % 4 < 2 then laid (plainOf n) seed else
  if n % 4 = 3 ∨ innerOf n = [] then laid [aheadOf n] seed ++ 39 :: (StrLaws.dbl 39 (innerOf n) ++ [39])
  else laid (aheadOf n :: (digs (innerOf n).length ++ [72])) seed ++ innerOf n
theorem digs_len (n : Nat) : (digs n).length ≤ 2 := by unfold digs; split <;> simp
theorem laid_len : ∀ (l : List Nat) (n : Nat), (laid l n).length ≤ 3 * l.length
  | [], _ => Nat.le_refl _
  | c :: cs, n => by
    have h1 := padN_len n
    have h2 := laid_len cs (nextN n)
    show (padN n ++ c :: laid cs (nextN n)).length ≤ _
    simp only [List.length_append, List.length_cons]; omega
theorem digs_eq : ∀ n : Nat, n < 12 → PySem.Str.ofString (toString (n : Int)) = S (digs n) := by decide +kernel
theorem s_strint {prog : Program} {w : World} {A : Around} {E : Value → Shared → Prop} {s : Shared} {Q : Value → Shared → Prop} {n : Nat} {t : Tok} (hn : n < 12) (h : Q (.str (S (digs n)) s.toks) { s with toks := s.toks + 1 }) : wpAny (model prog w) A (call (.type "str") [.int (n : Int) t]) Q E s := by
  refine P.str_of_int ?_ ?_
  · have : ∀ n : Nat, n < 12 → ((n : Int)).natAbs.log2 < 1920 := by decide
    exact this n hn
  · rw [← digs_eq n hn] at h; exact h
theorem SVs.at {vs : List Value} {rs : List (List Nat)} (h : SVs vs rs) : ∀ {i : Nat} {r : List Nat}, rs[i]? = some r → ∃ v, vs[i]? = some v ∧ SV v r := by
  induction h with
  | nil => intro i r h; simp at h
  | cons h1 _ ih =>
    intro i r h
    cases i with
    | zero => rw [List.getElem?_cons_zero] at h; injection h with h; subst h; exact ⟨_, rfl, h1⟩
    | succ i => rw [List.getElem?_cons_succ] at h; obtain ⟨o, ho, hp⟩ := ih h; exact ⟨o, ho, hp⟩
theorem innerOf_get (n : Nat) : innerL[n / 4 % 11]? = some (innerOf n) := by
  have h : ∀ i : Nat, i < 11 → innerL[i]? = some (innerL.getD i []) := by decide
  exact h _ (Nat.mod_lt _ (by omega))
theorem plainOf_get (n : Nat) : plainL[n / 4 % 7]? = some (plainOf n) := by
  have h : ∀ i : Nat, i < 7 → plainL[i]? = some (plainL.getD i []) := by decide
  exact h _ (Nat.mod_lt _ (by omega))
theorem innerOf_len (n : Nat) : (innerOf n).length < 12 := by
  have h : ∀ i : Nat, i < 11 → (innerL.getD i []).length < 12 := by decide
  exact h _ (Nat.mod_lt _ (by omega))
theorem plainOf_len (n : Nat) : (plainOf n).length < 12 := by
  have h : ∀ i : Nat, i < 7 → (plainL.getD i []).length < 12 := by decide
  exact h _ (Nat.mod_lt _ (by omega))
theorem ahead_at (a b c d : Tok) : ∀ i : Nat, i < 4 → ∃ t, [Value.str (PySem.Str.ofString ",") a, Value.str (PySem.Str.ofString "(") b, Value.str (PySem.Str.ofString "/") c, Value.str (PySem.Str.ofString ":") d][i]? = some (Value.str (S [aheadL.getD i 0]) t)
  | 0, _ => ⟨a, congrArg (fun x => some (Value.str x a)) (by decide +kernel)⟩
  | 1, _ => ⟨b, congrArg (fun x => some (Value.str x b)) (by decide +kernel)⟩
  | 2, _ => ⟨c, congrArg (fun x => some (Value.str x c)) (by decide +kernel)⟩
  | 3, _ => ⟨d, congrArg (fun x => some (Value.str x d)) (by decide +kernel)⟩
  | i + 4, h => absurd h (by omega)
theorem dblInner_len (n : Nat) : (StrLaws.dbl 39 (innerOf n)).length ≤ 24 := by
  have h : ∀ i : Nat, i < 11 → (StrLaws.dbl 39 (innerL.getD i [])).length ≤ 24 := by decide
  exact h _ (Nat.mod_lt _ (by omega))
theorem told_a {n seed : Nat} (h : n % 4 < 2) {t1 t2 : Tok} : [Value.str (S (plainOf n)) t1, .str (S (laid (plainOf n) seed)) t2] = [.str (S (toldOf n)) t1, .str (S (laidOf n seed)) t2] := by
  unfold toldOf laidOf; rw [if_pos h, if_pos h]
theorem told_b {n seed : Nat} (h : ¬ n % 4 < 2) (h' : n % 4 = 3 ∨ innerOf n = []) {t1 t2 : Tok} : [Value.str (S ([aheadL.getD (n / 44 % 4) 0, 39] ++ StrLaws.dbl 39 (innerOf n) ++ [39])) t1, .str (S (laid [aheadL.getD (n / 44 % 4) 0] seed ++ List.drop 1 ([aheadL.getD (n / 44 % 4) 0, 39] ++ StrLaws.dbl 39 (innerOf n) ++ [39]))) t2] = [.str (S (toldOf n)) t1, .str (S (laidOf n seed)) t2] := by
  unfold toldOf laidOf; rw [if_neg h, if_neg h, if_pos h']; rfl
theorem told_c {n seed : Nat} (h : ¬ n % 4 < 2) (h' : ¬ n % 4 = 3) (hi : ¬ innerOf n = []) {t1 t2 : Tok} : [Value.str (S ([aheadL.getD (n / 44 % 4) 0, 39] ++ StrLaws.dbl 39 (innerOf n) ++ [39])) t1, .str (S (laid (aheadL.getD (n / 44 % 4) 0 :: (digs (innerOf n).length ++ [72])) seed ++ innerOf n)) t2] = [.str (S (toldOf n)) t1, .str (S (laidOf n seed)) t2] := by
  unfold toldOf laidOf; rw [if_neg h, if_neg h, if_neg (fun e => e.elim h' hi)]; rfl
section
local macro_rules | `(tactic| walk_at "call type:str") => `(tactic| (refine' s_strint ?s1 ?_; (case s1 => omega)))
local macro_rules | `(tactic| walk_at "call ref") => `(tactic| ((with_reducible show wpAny _ _ (PySem.call (Value.ref 241) _) _ _ _); k_here; k_dflt (refine' con_use' (law_plain_c _ _) ?k1 ?_); (case k1 => walk_at "mine con"); (intro r' tl' h' tk' F' N' ho' hpost'); obtain ⟨qv, vsv, nnv, h7, h8, hsvs⟩ := hpost'; subst h7; subst h8; simp only [List.cons_append, List.nil_append] at N'))
local macro_rules | `(tactic| walk_at "call ref") => `(tactic| ((with_reducible show wpAny _ _ (PySem.call (Value.ref 248) _) _ _ _); k_here; k_dflt (refine' con_use' (law_inner_c _ _) ?k1 ?_); (case k1 => walk_at "mine con"); (intro r' tl' h' tk' F' N' ho' hpost'); obtain ⟨qv, vsv, nnv, h7, h8, hsvs⟩ := hpost'; subst h7; subst h8; simp only [List.cons_append, List.nil_append] at N'))
local macro_rules | `(tactic| walk_at "call ref") => `(tactic| ((with_reducible show wpAny _ _ (PySem.call (Value.ref 262) _) _ _ _); k_here; k_dflt (refine' con_use' (law_laid_c _ _ _ _ _ _ (by assumption) (by (try simp only [List.length_append, List.length_cons, List.length_nil]); omega)) ?k1 ?_); (case k1 => walk_at "mine con"); walk_at "mine ret1"))
local macro_rules | `(tactic| walk_at "subscriptTail Call Name nil nil BinOp ref int") => `(tactic| (refine Hold.out ?_))
local macro_rules | `(tactic| walk_at "subscriptTail List cons BinOp ref int") => `(tactic| (refine Hold.out ?_))
theorem law_piece_c (w : World) (news : Led) (n seed : Nat) (t ts : Tok) (hn : n ≤ 1000000000) (hs : seed ≤ 1000000000) :
   Con w 269 3 news [.int (n : Int) t, .int (seed : Int) ts] (fun v tl => ∃ (q : Addr) (o : Obj) (t1 t2 : Tok), v = .ref q ∧ tl = [(q, o)] ∧ o = tupO [.str (S (toldOf n)) t1, .str (S (laidOf n seed)) t2]) := by
  unfold Con
  k_fill
  intro mean mg mb dp un gd cn cs a ccd cl outer A₀ base h₀ L m s Q E B F X N T hk hd hu hret
  w_top off
  refine wpAny_call ?_
  k_dflt ktr_enter
  k_steps
  have e4 : ((n : Int).fdiv 4).fmod 11 = ((n / 4 % 11 : Nat) : Int) := by
    have h1 : (n : Int).fdiv 4 = ((n / 4 : Nat) : Int) := (Int.ofNat_fdiv n 4).symm
    rw [h1]; exact (Int.ofNat_fmod (n / 4) 11).symm
  rename SVs _ _ => hsv
  obtain ⟨vi, hvi, ti, rfl⟩ := hsv.at (i := n / 4 % 11) (r := innerOf n) (innerOf_get n)
  have hvl := hsv.length
  rw [show innerL.length = 11 from rfl] at hvl
  refine Hold.mk ?_
  refine' l_item (i := n / 4 % 11) ?i1 ?n1 ?n2 ?n3 ?i2 ?_ (by with_unfolding_all rfl)
  case n1 => assumption
  case n2 => k_mem
  case i2 => exact hvi
  case n3 => ((try simp only [List.length_cons, List.length_nil]); omega)
  case i1 => first | assumption | exact rfl | omega
  k_steps
  have e44 : ((n : Int).fdiv 44).fmod 4 = ((n / 44 % 4 : Nat) : Int) := by
    have h1 : (n : Int).fdiv 44 = ((n / 44 : Nat) : Int) := (Int.ofNat_fdiv n 44).symm
    rw [h1]; exact (Int.ofNat_fmod (n / 44) 4).symm
  refine Hold.mk ?_
  refine' l_item (i := n / 44 % 4) ?i1 ?n1 ?n2 ?n3 ?i2 ?_ (by with_unfolding_all rfl)
  case n1 => assumption
  case n2 => k_mem
  case i2 => exact (ahead_at _ _ _ _ (n / 44 % 4) (Nat.mod_lt _ (by decide))).choose_spec
  case n3 => ((try simp only [List.length_cons, List.length_nil]); omega)
  case i1 => first | assumption | exact rfl | omega
  have em : (n : Int).fmod 4 = ((n % 4 : Nat) : Int) := (Int.ofNat_fmod n 4).symm
  have hil := innerOf_len n
  have hdl := dblInner_len n
  have hpl := plainOf_len n
  have hla : (laid [aheadL.getD (n / 44 % 4) 0] seed).length ≤ 3 := laid_len _ _
  have hlb : (laid (aheadL.getD (n / 44 % 4) 0 :: (digs (innerOf n).length ++ [72])) seed).length ≤ 12 := by
    refine Nat.le_trans (laid_len _ _) ?_
    have := digs_len (innerOf n).length
    simp only [List.length_append, List.length_cons, List.length_nil]; omega
  have hdg := digs_len (innerOf n).length
  have hdr : (List.drop 1 ([aheadL.getD (n / 44 % 4) 0, 39] ++ StrLaws.dbl 39 (innerOf n) ++ [39])).length ≤ 27 := by
    simp only [List.length_drop, List.length_append, List.length_cons, List.length_nil]; omega
  k_steps
  · have e7 : ((n : Int).fdiv 4).fmod 7 = ((n / 4 % 7 : Nat) : Int) := by
      have h1 : (n : Int).fdiv 4 = ((n / 4 : Nat) : Int) := (Int.ofNat_fdiv n 4).symm
      rw [h1]; exact (Int.ofNat_fmod (n / 4) 7).symm
    clear hsv
    rename SVs _ plainL => hsv
    obtain ⟨vi, hvi2, ti, rfl⟩ := hsv.at (i := n / 4 % 7) (r := plainOf n) (plainOf_get n)
    have hvl2 := hsv.length
    rw [show plainL.length = 7 from rfl] at hvl2
    refine Hold.mk ?_
    refine' l_item (i := n / 4 % 7) ?i1 ?n1 ?n2 ?n3 ?i2 ?_ (by with_unfolding_all rfl)
    case n1 => assumption
    case n2 => k_mem
    case i2 => exact hvi2
    case n3 => ((try simp only [List.length_cons, List.length_nil]); omega)
    case i1 => first | assumption | exact rfl | omega
    k_steps
    rename (News h₀ L _ _) => N9
    rename (_ < _ ∧ _) => hx
    refine' hret _ [(_, _)] _ _ ?hF ?hN ?hO ⟨_, _, _, _, rfl, rfl, congrArg tupO (told_a (by omega))⟩
    case hF => k_asm
    case hN =>
      intro p hp
      refine N9 p ?_
      rcases List.mem_cons.mp hp with rfl | hp
      · exact .head _
      · repeat (first | exact hp | refine .tail _ ?_)
    case hO =>
      intro q hq p hp
      rw [List.mem_singleton.mp hp]
      exact ktn_ltOf (hx.2.2.2) q hq
  · rename (News h₀ L _ _) => N9
    rename (_ < _ ∧ _) => hx
    refine' hret _ [(_, _)] _ _ ?hF ?hN ?hO ⟨_, _, _, _, rfl, rfl, congrArg tupO (told_b (by omega) (.inl (by omega)))⟩
    case hF => k_asm
    case hN =>
      intro p hp
      refine N9 p ?_
      rcases List.mem_cons.mp hp with rfl | hp
      · exact .head _
      · repeat (first | exact hp | refine .tail _ ?_)
    case hO =>
      intro q hq p hp
      rw [List.mem_singleton.mp hp]
      exact ktn_ltOf (hx.2.2) q hq
  · rename (decide (innerOf n = []) = true) => hz
    rename (News h₀ L _ _) => N9
    rename (_ < _ ∧ _) => hx
    refine' hret _ [(_, _)] _ _ ?hF ?hN ?hO ⟨_, _, _, _, rfl, rfl, congrArg tupO (told_b (by omega) (.inr (of_decide_eq_true hz)))⟩
    case hF => k_asm
    case hN =>
      intro p hp
      refine N9 p ?_
      rcases List.mem_cons.mp hp with rfl | hp
      · exact .head _
      · repeat (first | exact hp | refine .tail _ ?_)
    case hO =>
      intro q hq p hp
      rw [List.mem_singleton.mp hp]
      exact ktn_ltOf (hx.2.2) q hq
  · rename (decide (innerOf n = []) = false) => hz
    rename (News h₀ L _ _) => N9
    rename (_ < _ ∧ _) => hx
    refine' hret _ [(_, _)] _ _ ?hF ?hN ?hO ⟨_, _, _, _, rfl, rfl, congrArg tupO (told_c (by omega) (by omega) (of_decide_eq_false hz))⟩
    case hF => k_asm
    case hN =>
      intro p hp
      refine N9 p ?_
      rcases List.mem_cons.mp hp with rfl | hp
      · exact .head _
      · repeat (first | exact hp | refine .tail _ ?_)
    case hO =>
      intro q hq p hp
      rw [List.mem_singleton.mp hp]
      exact ktn_ltOf (hx.2.2) q hq
end

noncomputable def rsB (l : List Nat) : List Nat := l.take (l.length - (l.reverse.takeWhile (· == 32)).length)
theorem all_rep (p : Nat) : ∀ (l : List Nat), (∀ x ∈ l, x = p) → l = List.replicate l.length p
  | [], _ => rfl
  | x :: r, h => by
    rw [List.length_cons, List.replicate_succ, ← all_rep p r fun y hy => h y (.tail _ hy), h x (.head _)]
theorem tw_all {p : Nat → Bool} : ∀ {l : List Nat} {x : Nat}, x ∈ l.takeWhile p → p x = true
  | [], x, h => by cases h
  | y :: r, x, h => by
    rw [List.takeWhile_cons] at h
    split at h
    · rcases List.mem_cons.mp h with rfl | h
      · assumption
      · exact tw_all h
    · cases h
theorem rsB_eq (l : List Nat) : l = rsB l ++ List.replicate (l.length - (rsB l).length) 32 := by
  have hd := List.takeWhile_append_dropWhile (p := (· == 32)) (l := l.reverse)
  have h1 : l = (l.reverse.dropWhile (· == 32)).reverse ++ (l.reverse.takeWhile (· == 32)).reverse := by
    rw [← List.reverse_append, hd, List.reverse_reverse]
  have hlen : l.length = (l.reverse.dropWhile (· == 32)).reverse.length + (l.reverse.takeWhile (· == 32)).length := by
    have := congrArg List.length h1
    rwa [List.length_append, List.length_reverse (as := List.takeWhile _ _)] at this
  have h2 : rsB l = (l.reverse.dropWhile (· == 32)).reverse := by
    unfold rsB
    have e : l.length - (l.reverse.takeWhile (· == 32)).length = (l.reverse.dropWhile (· == 32)).reverse.length := by omega
    rw [e]
    have h4 := congrArg (List.take (l.reverse.dropWhile (· == 32)).reverse.length) h1
    rw [List.take_left] at h4
    exact h4
  have h3 : (l.reverse.takeWhile (· == 32)).reverse = List.replicate (l.length - (rsB l).length) 32 := by
    have e : l.length - (rsB l).length = (l.reverse.takeWhile (· == 32)).reverse.length := by rw [h2, List.length_reverse (as := List.takeWhile _ _)]; omega
    rw [e]
    refine all_rep 32 _ fun x hx => ?_
    have := tw_all (List.mem_reverse.mp hx)
    simpa using this
  rw [h2] at h3 ⊢
  rw [← h3]; exact h1
theorem rsB_len (l : List Nat) : (rsB l).length ≤ l.length := by
  unfold rsB; rw [List.length_take]; omega
theorem rstrip_S (l : List Nat) : Txt.rstripChars (S l) (S [32]) = S (rsB l) := by
  unfold Txt.rstripChars
  rw [PySem.W.stripBy_eq]
  unfold PySem.W.stripped
  dsimp only
  refine Str.ext' ?_
  refine Array.toList_inj.mp ?_
  rw [StrLaws.strSub_toList]
  have e : (S [32]).cps.contains = (· == 32) := by
    funext x
    rw [show (S [32]).cps = #[32] from rfl]
    by_cases h : x = 32 <;> simp [h]
  simp only [e, S_cps, S_length, List.drop_zero, Bool.false_eq_true, if_false, if_true, Nat.sub_zero]
  rfl
theorem s_rstrip {prog : Program} {w : World} {A : Around} {E : Value → Shared → Prop} {s : Shared} {l : List Nat} {t u : Tok} {Q : Value → Shared → Prop} (hl : l.length ≤ 16777216) (h : ∀ t' k, Q (.str (S (rsB l)) t') { s with toks := k }) : wpAny (model prog w) A (call (.builtin "str.rstrip") [.str (S l) t, .str (S [32]) u]) Q E s :=
  SC.rstripChars (fun t' k => by rw [rstrip_S]; exact h t' k) (by rw [S_length, sizeLine_eq]; omega)
noncomputable def noteL : List Nat := [67, 32, 39, 78, 79, 84, 32, 83, 69, 69, 78]
noncomputable def rowH (first : Bool) : List Nat := if first then [32, 32, 49, 32, 50, 32] else [32, 32, 32, 32, 32, 43]
noncomputable def rowPart (w : Nat) (rest : List Nat) (sd : Nat) : List Nat := if w < rest.length ∧ sd % 2 = 0 then rsB (rest.take w) else rest.take w
noncomputable def rowsOf (w : Nat) : Nat → Bool → List Nat → Nat → List (List Nat)
  | 0, _, _, _ => []
  | k + 1, first, rest, sd => if rest = [] then [] else (rowH first ++ rowPart w rest sd) :: ((if sd % 5 = 3 then [noteL] else []) ++ rowsOf w k false (rest.drop w) (sd * 3 / 2 + 1))
theorem rows_step {wd k i s9 : Nat} {l : List Nat} {os want : List (List Nat)} (hro : os ++ rowsOf wd (k + 1) (decide (i = 0)) (l.drop i) s9 = want) (hi : i < l.length) (hw : 1 ≤ wd) : (os ++ [rowH (decide (i = 0)) ++ rowPart wd (l.drop i) s9] ++ (if s9 % 5 = 3 then [noteL] else [])) ++ rowsOf wd k (decide (i + wd = 0)) (l.drop (i + wd)) (s9 * 3 / 2 + 1) = want := by
  have h1 : ¬ l.drop i = [] := fun h => by
    have := congrArg List.length h
    rw [List.length_drop, List.length_nil] at this; omega
  unfold rowsOf at hro
  rw [if_neg h1, List.drop_drop] at hro
  rw [decide_eq_false (show ¬ i + wd = 0 from by omega), ← hro]
  simp
theorem rows_end {wd k i s9 : Nat} {l : List Nat} {os want : List (List Nat)} (hro : os ++ rowsOf wd k (decide (i = 0)) (l.drop i) s9 = want) (hi : l.length ≤ i) : os = want := by
  rw [List.drop_eq_nil_of_le hi] at hro
  rw [← hro]
  cases k with
  | zero => simp [rowsOf]
  | succ k => simp [rowsOf]
theorem part_a {wd i s9 : Nat} {l : List Nat} (h : i + wd < l.length) (h2 : (s9 : Int).fmod 2 = 0) : rowPart wd (l.drop i) s9 = rsB ((l.take (i + wd)).drop i) := by
  have hm : (s9 : Int).fmod 2 = ((s9 % 2 : Nat) : Int) := (Int.ofNat_fmod s9 2).symm
  unfold rowPart
  rw [if_pos ⟨by rw [List.length_drop]; omega, by omega⟩, List.drop_take, Nat.add_sub_cancel_left]
theorem part_b {wd i s9 : Nat} {l : List Nat} (h2 : (s9 : Int).fmod 2 ≠ 0) : rowPart wd (l.drop i) s9 = (l.take (i + wd)).drop i := by
  have hm : (s9 : Int).fmod 2 = ((s9 % 2 : Nat) : Int) := (Int.ofNat_fmod s9 2).symm
  unfold rowPart
  rw [if_neg (fun e => h2 (by omega)), List.drop_take, Nat.add_sub_cancel_left]
theorem part_c {wd i s9 : Nat} {l : List Nat} (h : ¬ i + wd < l.length) : rowPart wd (l.drop i) s9 = (l.take (i + wd)).drop i := by
  unfold rowPart
  rw [if_neg (fun e => h (by have := e.1; rw [List.length_drop] at this; omega)), List.drop_take, Nat.add_sub_cancel_left]
theorem head_at (a b : Tok) (i : Nat) : ∃ t, [Value.str (PySem.Str.ofString "  1 2 ") a, Value.str (PySem.Str.ofString "     +") b][min i 1]? = some (Value.str (S (rowH (decide (i = 0)))) t) := by
  cases i with
  | zero => exact ⟨a, congrArg (fun x => some (Value.str x a)) (by decide +kernel)⟩
  | succ i =>
    have e : min (i + 1) 1 = 1 := by omega
    rw [e]
    exact ⟨b, congrArg (fun x => some (Value.str x b)) (by rw [decide_eq_false (by omega)]; decide +kernel)⟩
theorem rowH_len (b : Bool) : (rowH b).length = 6 := by cases b <;> rfl
theorem lit_note : PySem.Str.ofString "C 'NOT SEEN" = S noteL := by decide +kernel
noncomputable abbrev RowS : Type := (Nat × Tok) × (Int × Tok) × (List Value × Nat)
noncomputable abbrev RowP (l : List Nat) (wd sd : Nat) (c : RowS) : Prop := ∃ (k s9 : Nat) (os : List (List Nat)), c.2.1.1 = (s9 : Int) ∧ SVs c.2.2.1 os ∧ os ++ rowsOf wd k (decide (c.1.1 = 0)) (l.drop c.1.1) s9 = rowsOf wd (l.length + 1) true l sd ∧ l.length < c.1.1 + k ∧ os.length ≤ 2 * c.1.1
noncomputable abbrev RowR (l : List Nat) (wd sd : Nat) (c : RowS) : Prop := SVs c.2.2.1 (rowsOf wd (l.length + 1) true l sd)
section
local macro_rules | `(tactic| walk_at "exec While BoolOp cons nil") => `(tactic| (refine Hold.out ?_))
local macro_rules | `(tactic| walk_at "exec If BoolOp cons nil") => `(tactic| (refine Hold.out ?_))
local macro_rules | `(tactic| walk_at "subscriptTail List cons Call ref int") => `(tactic| (refine Hold.out ?_))
local macro_rules | `(tactic| walk_at "call builtin:list.append") => `(tactic| walk_at "mine h2")
local macro_rules | `(tactic| walk_at "call builtin:str.rstrip") => `(tactic| (refine s_rstrip ?sz ?_; (case sz => ((try simp only [List.length_take, List.length_drop]); omega)); intro t' k'))
theorem law_rows_c (w : World) (news : Led) (l : List Nat) (t tw ts : Tok) (wd sd : Nat) (wi si : Int) (hwi : wi = (wd : Int)) (hsi : si = (sd : Int)) (hl : l.length ≤ 1000) (hne : l ≠ []) (hw : 1 ≤ wd) (hw' : wd ≤ 100) :
   Con w 276 1 news [.str (S l) t, .int wi tw, .int si ts] (fun v tl => ∃ (q : Addr) (vs : List Value) (nn : Nat), v = .ref q ∧ tl = [(q, listOf vs.toArray nn)] ∧ SVs vs (rowsOf wd (l.length + 1) true l sd)) := by
  subst hwi hsi
  unfold Con
  k_fill
  intro mean mg mb dp un gd cn cs a ccd cl outer A₀ base h₀ L m s Q E B F X N T hk hd hu hret
  w_top off
  refine wpAny_call ?_
  k_dflt ktr_enter
  k_steps
  refine Hold.mk ?_
  rename (∀ p ∈ news, p.1 < _) => hD
  refine grab (P := fun a => ∀ p ∈ news, p.1 < a) hD (fun outA e hD' => ?_)
  subst e
  rename Fr _ _ _ _ => F1
  rename News _ _ _ _ => N1
  with_unfolding_all refine' my_while (σ := (Nat × Tok) × (Int × Tok) × (List Value × Nat)) (fun c => (outA, listOf c.2.2.1.toArray c.2.2.2) :: news) (fun c => [(Str.ofString "at", .int (c.1.1 : Int) c.1.2), (Str.ofString "seed", .int c.2.1.1 c.2.1.2)]) [Str.ofString "part"] (RowP l wd sd) (RowR l wd sd) (fun c => l.length - c.1.1) ((0, _), ((sd : Int), _), ([], 0)) F1 N1 ?hk ⟨l.length + 1, sd, [], rfl, .nil, rfl, by omega, Nat.le_refl _⟩ ?turn ?done
  case hk =>
    exact List.forall_mem_cons.mpr ⟨by with_unfolding_all rfl, List.forall_mem_cons.mpr ⟨by with_unfolding_all rfl, List.forall_mem_nil _⟩⟩
  case turn =>
    rintro ⟨⟨i, ti⟩, ⟨si, tsi⟩, vs, nn⟩ u h tk ⟨k, s9, os, hs9, hos, hro, hfu, hol⟩ F2 N2
    clear F1 N1
    dsimp only at hs9 hos hro hfu hol F2 N2 ⊢
    subst hs9
    have hvl := hos.length
    have hoff : ∀ p ∈ news, p.1 ≠ outA := fun p hp => Nat.ne_of_lt (hD p hp)
    have hl0 : 0 < l.length := List.length_pos_iff.mpr hne
    have hrH := rowH_len (decide (i = 0))
    have hpt : ((l.take (i + wd)).drop i).length ≤ 1000 := by simp only [List.length_drop, List.length_take]; omega
    have hrs : (rsB ((l.take (i + wd)).drop i)).length ≤ 1000 := Nat.le_trans (rsB_len _) hpt
    have hi1 : (if (1 : Int) < (i : Int) then 1 else (i : Int)) = ((min i 1 : Nat) : Int) := by split <;> omega
    refine my_test (s := s) (decide (i < l.length)) F2 N2 ?tx ?tdone
    case tx =>
      clear hro hos
      k_steps
      all_goals (unfold TestPost; refine ⟨?_, _, _, rfl, by assumption, by assumption⟩; first | exact (decide_eq_true (by omega)).symm | exact (decide_eq_false (by omega)).symm)
    clear F2 N2
    intro h2 tk2 F2 N2
    by_cases hil : i < l.length
    rotate_left 1
    · rw [decide_eq_false hil]
      k_steps
      have hdone := rows_end hro (by omega)
      subst hdone
      with_unfolding_all refine' WOut.mk ((i, _), (_, _), (vs, nn)) (by assumption) (by assumption) (fun _ h => h) ?kk ?ks ?kp
      case kk => exact List.forall_mem_cons.mpr ⟨by with_unfolding_all rfl, List.forall_mem_cons.mpr ⟨by with_unfolding_all rfl, List.forall_mem_nil _⟩⟩
      case ks =>
        intro z h2 h3
        simp only [List.forall_mem_cons, List.not_mem_nil, false_implies, implies_true, and_true, ne_eq] at h2
        simp only [List.contains_cons, List.contains_nil, Bool.or_false, Bool.or_eq_false_iff, beq_eq_false_iff_ne, ne_eq] at h3
        simp [kstB, h2, h3]
      case kp => exact hos
    all_goals (
      rw [decide_eq_true hil]
      k_steps
      obtain ⟨k, rfl⟩ : ∃ k', k = k' + 1 := ⟨k - 1, by omega⟩
      have hstep := rows_step hro hil hw
      have hrp : (rowPart wd (l.drop i) s9).length ≤ 1000 := by
        unfold rowPart
        split
        · exact Nat.le_trans (rsB_len _) (by rw [List.length_take]; omega)
        · rw [List.length_take]; omega
      rename Fr _ _ _ _ => F1
      rename News _ _ _ _ => N1
      refine Hold.mk ?_
      with_unfolding_all refine' my_mid (s := s) (σ := List Nat × Tok) F1 (fun _ => (outA, listOf vs.toArray nn) :: news) (fun c => [(Str.ofString "part", .str (S c.1) c.2)]) (fun c => c.1 = rowPart wd (l.drop i) s9) ?hx ?mdone
      case hx =>
        refine wpAny_If ?_
        clear hstep hro hos hrp
        k_steps
        all_goals (
          refine' WOut.mk ((_, _) : List Nat × Tok) (by assumption) (by assumption) (fun _ h => h) ?kk ?ks ?kp
          case kk =>
            exact List.forall_mem_cons.mpr ⟨by with_unfolding_all rfl, List.forall_mem_nil _⟩
          case ks =>
            intro z h2 h3
            (try simp only [List.forall_mem_cons, List.not_mem_nil, false_implies, implies_true, and_true, ne_eq] at h2)
            (try simp only [List.contains_cons, List.contains_nil, Bool.or_false, Bool.or_eq_false_iff, beq_eq_false_iff_ne, ne_eq] at h3)
            simp [kstB, h2, h3]
          case kp => first | exact (part_a (by omega) (by assumption)).symm | exact (part_b (by assumption)).symm | exact (part_c (by omega)).symm)
      case mdone =>
        rintro ⟨pt, tp⟩ u2 h2 tk2 hpe F3 N3
        clear F1 N1
        dsimp only at hpe F3 N3 ⊢
        subst hpe
        clear hro
        k_steps
        refine Hold.mk ?_
        refine' l_item (i := min i 1) ?i1 ?n1 ?n2 ?n3 ?i2 ?_ (by with_unfolding_all rfl)
        case n1 => assumption
        case n2 => k_mem
        case i2 => exact (head_at _ _ i).choose_spec
        case n3 => ((try simp only [List.length_cons, List.length_nil]); omega)
        case i1 => first | assumption | exact rfl | omega
        k_steps
        all_goals (
          rename (News _ _ _ _) => N9
          try simp only [List.push_toArray] at N9
          have e2 : ((s9 : Int) * 3).fdiv 2 + 1 = ((s9 * 3 / 2 + 1 : Nat) : Int) := congrArg (· + 1) (Int.ofNat_fdiv (s9 * 3) 2).symm
          have e5 : (s9 : Int).fmod 5 = ((s9 % 5 : Nat) : Int) := (Int.ofNat_fmod s9 5).symm
          first
          | (rename ((s9 : Int).fmod 5 = 3) => h5
             rw [if_pos (show s9 % 5 = 3 by omega)] at hstep
             with_unfolding_all refine' ksw_end (((i + wd : Nat), _), (_, _), (vs ++ [_] ++ [_], _)) (by assumption) N9 (fun p hp => .tail _ hp) trivial ?kk ?ks ⟨k, s9 * 3 / 2 + 1, os ++ [_] ++ [_], e2, (hos.snoc ⟨_, rfl⟩).snoc ⟨_, congrArg (Value.str · _) lit_note⟩, hstep, ?fu, ?le⟩ ?km)
          | (rename ((s9 : Int).fmod 5 ≠ 3) => h5
             rw [if_neg (show ¬ s9 % 5 = 3 by omega), List.append_nil] at hstep
             with_unfolding_all refine' ksw_end (((i + wd : Nat), _), (_, _), (vs ++ [_], _)) (by assumption) N9 (fun p hp => .tail _ hp) trivial ?kk ?ks ⟨k, s9 * 3 / 2 + 1, os ++ [_], e2, hos.snoc ⟨_, rfl⟩, hstep, ?fu, ?le⟩ ?km)
          case kk =>
            exact List.forall_mem_cons.mpr ⟨by with_unfolding_all rfl, List.forall_mem_cons.mpr ⟨by with_unfolding_all rfl, List.forall_mem_nil _⟩⟩
          case ks =>
            intro z h2 h3
            (try simp only [List.forall_mem_cons, List.not_mem_nil, false_implies, implies_true, and_true, ne_eq] at h2)
            (try simp only [List.contains_cons, List.contains_nil, Bool.or_false, Bool.or_eq_false_iff, beq_eq_false_iff_ne, ne_eq] at h3)
            simp [kstB, h2, h3]
          case fu => dsimp only; omega
          case le =>
            simp only [List.length_append, List.length_cons, List.length_nil]; omega
          case km => dsimp only; omega))
  case done =>
    rintro ⟨⟨i, ti⟩, ⟨si, tsi⟩, vs, nn⟩ u h tk hos F2 N2
    clear F1 N1
    dsimp only at hos F2 N2 ⊢
    k_steps
    rename (News h₀ L _ _) => N9
    exact hret _ [(_, _)] _ _ (by k_asm) (by k_asm) (fun q hq p hp => by rw [List.mem_singleton.mp hp]; exact hD q hq) ⟨_, _, _, rfl, rfl, hos⟩
end

theorem SVs.split {vs : List Value} {rs : List (List Nat)} (h : SVs vs rs) : ∃ l : List (PySem.Str × Tok), vs = strValues l ∧ l.map (·.1) = rs.map S := by
  induction h with
  | nil => exact ⟨[], rfl, rfl⟩
  | cons h1 _ ih =>
    obtain ⟨t, rfl⟩ := h1
    obtain ⟨l, rfl, e⟩ := ih
    exact ⟨(S _, t) :: l, rfl, by rw [List.map_cons, List.map_cons, e]⟩
theorem SVs.append {vs us : List Value} {rs qs : List (List Nat)} (h : SVs vs rs) (h' : SVs us qs) : SVs (vs ++ us) (rs ++ qs) := by
  induction h with
  | nil => exact h'
  | cons h1 _ ih => exact .cons h1 ih
theorem sum_le : ∀ (rs : List (List Nat)) (b : Nat), (∀ r ∈ rs, r.length ≤ b) → ((rs.map S).map (·.length)).sum ≤ b * rs.length
  | [], b, _ => Nat.zero_le _
  | r :: rs, b, h => by
    have h1 := sum_le rs b fun x hx => h x (.tail _ hx)
    have h2 := h r (.head _)
    simp only [List.map_cons, List.sum_cons, List.length_cons, S_length, Nat.mul_add, Nat.mul_one]
    omega
section
variable {prog : Program} {w : World} {A : Around} {E : Value → Shared → Prop} {s : Shared} {h₀ : Heap} {L : Addr} {m : PySem.Str → Option Value} {news : Led}
theorem l_cat {l b : Addr} {vs ws : List Value} {n n2 : Nat} {Q : Value → Shared → Prop} (F : Fr h₀ L s.heap m) (N : News h₀ L s.heap news) (hl : (l, listOf vs.toArray n) ∈ news) (hb : (b, listOf ws.toArray n2) ∈ news) (hsz : vs.length + ws.length ≤ 16777216)
    (h : ∀ D h', (∀ p ∈ news, p.1 < D) → Fr h₀ L h' m → News h₀ L h' ((D, listOf (vs ++ ws).toArray 0) :: news) → Q (.ref D) { s with heap := h' }) :
    wpAny (model prog w) A (binaryOp .Add (.ref l) (.ref b)) Q E s :=
  add_lists F N (isList_led N hl) (isList_led N hb) (fun h' F' N' => h _ h' (fun p hp => Heap.lt_size (N p hp).1) F' N') (by rw [sizeLine_eq]; omega)
theorem s_join {D : Addr} {c : Nat} {vs : List Value} {n : Nat} {r : List Nat} {rs : List (List Nat)} {t : Tok} {Q : Value → Shared → Prop} (N : News h₀ L s.heap news) (hm : (D, listOf vs.toArray n) ∈ news) (hs : SVs vs (r :: rs)) (b : Nat) (hb : ∀ x ∈ r :: rs, x.length ≤ b) (hsz : (b + 1) * (rs.length + 1) ≤ 16777216)
    (h : ∀ t' k, Q (.str (S (r ++ (rs.map fun x => c :: x).flatten)) t') { s with toks := k }) :
    wpAny (model prog w) A (call (.builtin "str.join") [.str (S [c]) t, .ref D]) Q E s := by
  obtain ⟨l, rfl, e⟩ := hs.split
  refine SC.join (isList_led N hm) e (joinOk_of ?_) (fun t' k => ?_)
  · have := sum_le (r :: rs) b hb
    rw [List.length_map, List.length_cons, S_length]
    rw [List.length_cons] at this
    simp only [List.length_cons, List.length_nil]
    have e2 : (b + 1) * (rs.length + 1) = b * (rs.length + 1) + (rs.length + 1) := by rw [Nat.add_mul, Nat.one_mul]
    omega
  · unfold Txt.join
    rw [StrLaws.glued_eq_join, join_S]; exact h t' k
end

theorem cell_eq (k : Int) : (if k < 0 then -k else k).fmod (10 ^ Int.toNat 9) = ((k.natAbs % 1000000000 : Nat) : Int) := by
  have e : (if k < 0 then -k else k) = ((k.natAbs : Nat) : Int) := by split <;> omega
  have ep : (10 : Int) ^ Int.toNat 9 = ((1000000000 : Nat) : Int) := by decide
  rw [e, ep]; exact (Int.ofNat_fmod k.natAbs 1000000000).symm
noncomputable def cellsN (zs : List Int) : List Nat := (zs.take 18).map fun z => z.natAbs % 1000000000
theorem cells_eq (zs : List Int) : List.map (fun k' : Int => (if k' < 0 then -k' else k').fmod (10 ^ Int.toNat 9)) (List.take 18 zs) = (cellsN zs).map fun n : Nat => (n : Int) := by
  unfold cellsN
  rw [List.map_map]
  exact List.map_congr_left fun k _ => cell_eq k
theorem cells_lt (zs : List Int) : ∀ n ∈ cellsN zs, n < 1000000000 := by
  intro n hn
  obtain ⟨z, _, rfl⟩ := List.mem_map.mp hn
  exact Nat.mod_lt _ (by decide)
theorem cells_len (zs : List Int) : (cellsN zs).length ≤ 18 := by
  unfold cellsN; rw [List.length_map, List.length_take]; omega
noncomputable def CellsOk (s1 : Shared) (f : Flow) (s' : Shared) : Prop := f = .next ∧ ∃ (ns : List Nat) (ws : List Value) (D : Addr) (nn : Nat) (h' : Heap) (tk' : Nat) (m' : PySem.Str → Option Value), s' = { s1 with heap := h', toks := tk' } ∧ Fr s1.heap s1.heap.objs.size h' m' ∧ News s1.heap s1.heap.objs.size h' [(D, listOf ws.toArray nn)] ∧ IntsAre ws (ns.map fun n : Nat => (n : Int)) ∧ 4 ≤ ns.length ∧ ns.length ≤ 18 ∧ (∀ n ∈ ns, n < 1000000000) ∧ m' (PySem.Str.ofString "cells") = some (.ref D)
theorem lit_callf : PySem.Str.ofString "CALLF" = S [67, 65, 76, 76, 70] := by decide +kernel
theorem lit_call_f : PySem.Str.ofString "CALL F" = S [67, 65, 76, 76, 32, 70] := by decide +kernel
noncomputable def wantUp (ns : List Nat) (i : Nat) : List Nat := [67, 65, 76, 76, 70] ++ ((List.range i).map fun j => toldOf (ns.getD (1 + 2 * j) 0)).flatten
noncomputable def textUp (ns : List Nat) (i : Nat) : List Nat := [67, 65, 76, 76, 32, 70] ++ ((List.range i).map fun j => laidOf (ns.getD (1 + 2 * j) 0) (ns.getD (2 + 2 * j) 0)).flatten
theorem wantUp_succ (ns : List Nat) (i : Nat) : wantUp ns (i + 1) = wantUp ns i ++ toldOf (ns.getD (1 + 2 * i) 0) := by
  unfold wantUp
  rw [List.range_succ, List.map_append, List.flatten_append, ← List.append_assoc]
  simp
theorem textUp_succ (ns : List Nat) (i : Nat) : textUp ns (i + 1) = textUp ns i ++ laidOf (ns.getD (1 + 2 * i) 0) (ns.getD (2 + 2 * i) 0) := by
  unfold textUp
  rw [List.range_succ, List.map_append, List.flatten_append, ← List.append_assoc]
  simp
theorem aheadOf_ok (n : Nat) : aheadOf n = 44 ∨ aheadOf n = 40 ∨ aheadOf n = 47 ∨ aheadOf n = 58 := by
  have h : ∀ i : Nat, i < 4 → aheadL.getD i 0 = 44 ∨ aheadL.getD i 0 = 40 ∨ aheadL.getD i 0 = 47 ∨ aheadL.getD i 0 = 58 := by decide
  exact h _ (Nat.mod_lt _ (by omega))
theorem toldOf_len (n : Nat) : (toldOf n).length ≤ 30 := by
  have h1 := dblInner_len n
  have h2 := plainOf_len n
  unfold toldOf
  split
  · omega
  · simp only [List.length_cons, List.length_append, List.length_nil]; omega
theorem laidOf_len (n s : Nat) : (laidOf n s).length ≤ 40 := by
  have h1 := dblInner_len n
  have h2 := plainOf_len n
  have h3 := innerOf_len n
  have h4 := digs_len (innerOf n).length
  unfold laidOf
  split
  · have := laid_len (plainOf n) s; omega
  · split
    · have := laid_len [aheadOf n] s
      simp only [List.length_cons, List.length_append, List.length_nil] at this ⊢; omega
    · have := laid_len (aheadOf n :: (digs (innerOf n).length ++ [72])) s
      simp only [List.length_cons, List.length_append, List.length_nil] at this ⊢; omega
theorem wantUp_len (ns : List Nat) (i : Nat) : (wantUp ns i).length ≤ 5 + 30 * i := by
  induction i with
  | zero => exact Nat.le_refl _
  | succ i ih =>
    have := toldOf_len (ns.getD (1 + 2 * i) 0)
    rw [wantUp_succ, List.length_append]; omega
theorem textUp_len (ns : List Nat) (i : Nat) : (textUp ns i).length ≤ 6 + 40 * i := by
  induction i with
  | zero => exact Nat.le_refl _
  | succ i ih =>
    have := laidOf_len (ns.getD (1 + 2 * i) 0) (ns.getD (2 + 2 * i) 0)
    rw [textUp_succ, List.length_append]; omega
theorem getD_cast (ns : List Nat) (k : Nat) : (List.map (fun n : Nat => (n : Int)) ns).getD k 0 = ((ns.getD k 0 : Nat) : Int) := by
  rw [List.getD_eq_getElem?_getD, List.getD_eq_getElem?_getD, List.getElem?_map]
  cases ns[k]? <;> rfl
theorem wd_eq (ns : List Nat) : 5 + ((List.map (fun n : Nat => (n : Int)) ns).getD (Int.toNat 0) 0).fmod 12 = ((5 + ns.getD 0 0 % 12 : Nat) : Int) := by
  rw [getD_cast]
  have : ((ns.getD (Int.toNat 0) 0 : Nat) : Int).fmod 12 = ((ns.getD 0 0 % 12 : Nat) : Int) := (Int.ofNat_fmod (ns.getD 0 0) 12).symm
  omega
theorem col_eq (ns : List Nat) : 5 + ((List.map (fun n : Nat => (n : Int)) ns).getD (Int.toNat 0) 0).fmod 12 + 6 = ((5 + ns.getD 0 0 % 12 + 6 : Nat) : Int) := by
  rw [wd_eq]; rfl
theorem sd_eq (ns : List Nat) (h : 1 ≤ ns.length) : ((List.map (fun n : Nat => (n : Int)) ns).getD (-1 + ((List.map (fun n : Nat => (n : Int)) ns).length : Int)).toNat 0).fmod 1000 = ((ns.getD (ns.length - 1) 0 % 1000 : Nat) : Int) := by
  rw [List.length_map, getD_cast, show (-1 + (ns.length : Int)).toNat = ns.length - 1 from by omega]
  exact (Int.ofNat_fmod (ns.getD (ns.length - 1) 0) 1000).symm
theorem size2 : ∀ m : Nat, m < 19 → 4 ≤ m → Builtin.Range.rangeSize 1 ((m : Int) - 1) 2 = (((m - 1) / 2 : Nat) : Int) ∧ Builtin.Range.small 1 ((m : Int) - 1) 2 = true := by decide +kernel
theorem rowPart_len (w : Nat) (rest : List Nat) (sd : Nat) : (rowPart w rest sd).length ≤ w := by
  unfold rowPart
  split
  · exact Nat.le_trans (rsB_len _) (by rw [List.length_take]; omega)
  · rw [List.length_take]; omega
theorem rows_each (w : Nat) : ∀ (k : Nat) (f : Bool) (rest : List Nat) (sd : Nat), ∀ x ∈ rowsOf w k f rest sd, x.length ≤ w + 11
  | 0, _, _, _, x, h => by cases h
  | k + 1, f, rest, sd, x, h => by
    unfold rowsOf at h
    split at h
    · cases h
    · rcases List.mem_cons.mp h with rfl | h
      · have h1 := rowPart_len w rest sd
        have h2 := rowH_len f
        rw [List.length_append]; omega
      · rcases List.mem_append.mp h with h | h
        · split at h
          · rw [List.mem_singleton.mp h]
            have : noteL.length = 11 := rfl
            omega
          · cases h
        · exact rows_each w k false _ _ x h
theorem rows_count (w : Nat) : ∀ (k : Nat) (f : Bool) (rest : List Nat) (sd : Nat), (rowsOf w k f rest sd).length ≤ 2 * k
  | 0, _, _, _ => Nat.le_refl _
  | k + 1, f, rest, sd => by
    unfold rowsOf
    split
    · exact Nat.zero_le _
    · have := rows_count w k false (rest.drop w) (sd * 3 / 2 + 1)
      rw [List.length_cons, List.length_append]
      split
      · simp only [List.length_cons, List.length_nil]; omega
      · simp only [List.length_nil]; omega
theorem flat_len (b : Nat) : ∀ (rs : List (List Nat)), (∀ x ∈ rs, x.length ≤ b) → ((rs.map fun x => 10 :: x).flatten).length ≤ (b + 1) * rs.length
  | [], _ => Nat.zero_le _
  | r :: rs, h => by
    have h1 := flat_len b rs fun x hx => h x (.tail _ hx)
    have h2 := h r (.head _)
    rw [List.map_cons, List.flatten_cons, List.length_append, List.length_cons, List.length_cons, Nat.mul_add, Nat.mul_one]
    omega
/-- what the plain law says of the rows -/
structure RowsOk (tx : List Nat) (wd sd : Nat) (c0 : CardD) (cts : List CardD) : Prop where
  nl : ∀ x ∈ [42] :: [] :: rowsOf wd (tx.length + 1) true tx sd, 10 ∉ x
  last : ([42] :: [] :: rowsOf wd (tx.length + 1) true tx sd).getLast? ≠ some []
  six : ∀ x ∈ [42] :: [] :: rowsOf wd (tx.length + 1) true tx sd, isCom x (wd + 6) = false → 6 ≤ x.length
  cards : cardsOf (wd + 6) 1 ([42] :: [] :: rowsOf wd (tx.length + 1) true tx sd) = c0 :: cts
  line : c0.line = 3
  lab : c0.label = [32, 32, 49, 32, 50]
  bodies : ∀ c ∈ c0 :: cts, c.body.length ≤ 300000
  first : isCont c0 = false
  conts : ∀ c ∈ cts, isCont c = true ∧ noBl c.label = [] ∧ c.label.length ≤ 1000000
  notEnd : ¬ noBl c0.body = [69, 78, 68]
  few : (c0 :: cts).length ≤ tx.length
  whole : joinT wd (c0 :: cts) (c0 :: cts).length = tx
  some_ : ¬ noBl tx = []
theorem str_ok {l : List Nat} (h : ∀ c ∈ l, c < 97) : PyData.strOk (S l) = true := by
  unfold PyData.strOk
  rw [Array.all_eq_true_iff_forall_mem]
  intro c hc
  have := h c (by simpa using hc)
  simp only [decide_eq_true_eq]; omega

/-! the plain law of the rows -/
noncomputable def Okc (c : Nat) : Prop := 32 ≤ c ∧ c < 97
theorem laid_ok : ∀ (l : List Nat) (n : Nat), (∀ c ∈ l, Okc c) → ∀ c ∈ laid l n, Okc c
  | [], _, _, c, h => by cases h
  | x :: xs, n, hl, c, h => by
    unfold laid at h
    rcases List.mem_append.mp h with h | h
    · unfold padN at h
      split at h
      · rw [(List.mem_replicate.mp h).2]; exact ⟨Nat.le_refl _, by decide⟩
      · cases h
    · rcases List.mem_cons.mp h with rfl | h
      · exact hl _ (.head _)
      · exact laid_ok xs _ (fun c hc => hl c (.tail _ hc)) c h
theorem plainOf_ok (n : Nat) : ∀ c ∈ plainOf n, Okc c := by
  have h : ∀ i : Nat, i < 7 → ∀ c ∈ plainL.getD i [], 32 ≤ c ∧ c < 97 := by decide
  exact h _ (Nat.mod_lt _ (by omega))
theorem innerOf_ok (n : Nat) : ∀ c ∈ innerOf n, Okc c := by
  have h : ∀ i : Nat, i < 11 → ∀ c ∈ innerL.getD i [], 32 ≤ c ∧ c < 97 := by decide
  exact h _ (Nat.mod_lt _ (by omega))
theorem dblInner_ok (n : Nat) : ∀ c ∈ StrLaws.dbl 39 (innerOf n), Okc c := by
  have h : ∀ i : Nat, i < 11 → ∀ c ∈ StrLaws.dbl 39 (innerL.getD i []), 32 ≤ c ∧ c < 97 := by decide
  exact h _ (Nat.mod_lt _ (by omega))
theorem digs_ok (n : Nat) (hn : n < 12) : ∀ c ∈ digs n, Okc c := by
  have h : ∀ i : Nat, i < 12 → ∀ c ∈ digs i, 32 ≤ c ∧ c < 97 := by decide
  exact h _ hn
theorem laidOf_ok (n s : Nat) : ∀ c ∈ laidOf n s, Okc c := by
  intro c h
  have ha : Okc (aheadOf n) := by rcases aheadOf_ok n with h | h | h | h <;> rw [h] <;> exact ⟨by decide, by decide⟩
  unfold laidOf at h
  split at h
  · exact laid_ok _ _ (plainOf_ok n) c h
  · split at h
    · rcases List.mem_append.mp h with h | h
      · exact laid_ok _ _ (fun c hc => by rw [List.mem_singleton.mp hc]; exact ha) c h
      · rcases List.mem_cons.mp h with rfl | h
        · exact ⟨by decide, by decide⟩
        · rcases List.mem_append.mp h with h | h
          · exact dblInner_ok n c h
          · rw [List.mem_singleton.mp h]; exact ⟨by decide, by decide⟩
    · rcases List.mem_append.mp h with h | h
      · refine laid_ok _ _ (fun c hc => ?_) c h
        rcases List.mem_cons.mp hc with rfl | hc
        · exact ha
        · rcases List.mem_append.mp hc with hc | hc
          · exact digs_ok _ (innerOf_len n) c hc
          · rw [List.mem_singleton.mp hc]; exact ⟨by decide, by decide⟩
      · exact innerOf_ok n c h
theorem text_ok (ns : List Nat) (i : Nat) : ∀ c ∈ textUp ns i, Okc c := by
  intro c h
  unfold textUp at h
  rcases List.mem_append.mp h with h | h
  · have : ∀ c ∈ [67, 65, 76, 76, 32, 70], 32 ≤ c ∧ c < 97 := by decide
    exact this c h
  · obtain ⟨l, hl, hc⟩ := List.mem_flatten.mp h
    obtain ⟨j, _, rfl⟩ := List.mem_map.mp hl
    exact laidOf_ok _ _ c hc
theorem small_ok (ns : List Nat) (i : Nat) : ∀ c ∈ textUp ns i, c < 97 := fun c h => (text_ok ns i c h).2
theorem rowPart_mem {w : Nat} {rest : List Nat} {sd : Nat} : ∀ c ∈ rowPart w rest sd, c ∈ rest := by
  intro c h
  unfold rowPart at h
  split at h
  · unfold rsB at h
    exact List.mem_of_mem_take (List.mem_of_mem_take h)
  · exact List.mem_of_mem_take h
theorem rows_mem (w : Nat) : ∀ (k : Nat) (f : Bool) (rest : List Nat) (sd : Nat) (x : List Nat), x ∈ rowsOf w k f rest sd → x = noteL ∨ ∃ f' p, x = rowH f' ++ p ∧ (∀ c ∈ p, c ∈ rest)
  | 0, _, _, _, x, h => by cases h
  | k + 1, f, rest, sd, x, h => by
    unfold rowsOf at h
    split at h
    · cases h
    · rcases List.mem_cons.mp h with rfl | h
      · exact .inr ⟨f, _, rfl, rowPart_mem⟩
      · rcases List.mem_append.mp h with h | h
        · split at h
          · exact .inl (List.mem_singleton.mp h)
          · cases h
        · rcases rows_mem w k false _ _ x h with h | ⟨f', p, h, hp⟩
          · exact .inl h
          · exact .inr ⟨f', p, h, fun c hc => List.mem_of_mem_drop (hp c hc)⟩
noncomputable def crd (n : Nat) (f : Bool) (p : List Nat) : CardD := ⟨n, (rowH f).take 5, (rowH f).getD 5 0, p⟩
noncomputable def cardsR (w : Nat) : Nat → Nat → Bool → List Nat → Nat → List CardD
  | 0, _, _, _, _ => []
  | k + 1, n, f, rest, sd => if rest = [] then [] else crd n f (rowPart w rest sd) :: cardsR w k (n + 1 + (if sd % 5 = 3 then 1 else 0)) false (rest.drop w) (sd * 3 / 2 + 1)
theorem isCom_row (w : Nat) (f : Bool) (p : List Nat) : isCom (rowH f ++ p) (w + 6) = false := by
  have h4 : ¬ noBl ((rowH f ++ p).take (w + 6)) = [] := by
    intro h
    have hm : ∃ c, c ∈ (rowH f ++ p).take (w + 6) ∧ c ≠ 32 := by
      rw [List.take_append, rowH_len]
      have e : (rowH f).take (w + 6) = rowH f := List.take_of_length_le (by rw [rowH_len]; omega)
      rw [e]
      cases f
      · exact ⟨43, List.mem_append_left _ (by decide), by decide⟩
      · exact ⟨49, List.mem_append_left _ (by decide), by decide⟩
    obtain ⟨c, hc, hn⟩ := hm
    have : c ∈ noBl ((rowH f ++ p).take (w + 6)) := List.mem_filter.mpr ⟨hc, by simpa using hn⟩
    rw [h] at this
    cases this
  have h1 : (rowH f ++ p).take 1 = [32] := by cases f <;> rfl
  simp only [isCom, h1, h4]
  decide
theorem isCom_note (c : Nat) : isCom noteL c = true := by
  have h1 : noteL.take 1 = [67] := rfl
  simp only [isCom, h1]
  simp
theorem card_row (w n : Nat) (f : Bool) (p : List Nat) (hp : p.length ≤ w) : cardOf (w + 6) n (rowH f ++ p) = [crd n f p] := by
  unfold cardOf
  rw [isCom_row, if_neg (by decide)]
  have e : (rowH f ++ p).take (w + 6) = rowH f ++ p := List.take_of_length_le (by rw [List.length_append, rowH_len]; omega)
  rw [e]
  have h5 : (rowH f ++ p).take 5 = (rowH f).take 5 := by cases f <;> rfl
  have hm : (rowH f ++ p).getD 5 0 = (rowH f).getD 5 0 := by cases f <;> rfl
  have hd : (rowH f ++ p).drop 6 = p := by cases f <;> rfl
  rw [h5, hm, hd]; rfl
theorem cards_rows (w : Nat) : ∀ (k n : Nat) (f : Bool) (rest : List Nat) (sd : Nat), cardsOf (w + 6) n (rowsOf w k f rest sd) = cardsR w k n f rest sd
  | 0, _, _, _, _ => rfl
  | k + 1, n, f, rest, sd => by
    unfold rowsOf cardsR
    split
    · rfl
    · show cardOf (w + 6) n _ ++ cardsOf (w + 6) (n + 1) _ = _
      rw [card_row w n f _ (rowPart_len w rest sd)]
      refine congrArg (crd n f (rowPart w rest sd) :: ·) ?_
      show cardsOf (w + 6) (n + 1) _ = _
      split
      · show cardOf (w + 6) (n + 1) noteL ++ cardsOf (w + 6) (n + 1 + 1) (rowsOf w k false (rest.drop w) (sd * 3 / 2 + 1)) = _
        rw [cards_rows w k]
        unfold cardOf
        rw [if_pos (isCom_note _)]
        rfl
      · show cardsOf (w + 6) (n + 1) (rowsOf w k false _ _) = _
        rw [cards_rows w k]
theorem cardsR_mem (w : Nat) : ∀ (k n : Nat) (rest : List Nat) (sd : Nat) (c : CardD), c ∈ cardsR w k n false rest sd → ∃ m p, c = crd m false p ∧ p.length ≤ w
  | 0, _, _, _, c, h => by cases h
  | k + 1, n, rest, sd, c, h => by
    unfold cardsR at h
    split at h
    · cases h
    · rcases List.mem_cons.mp h with rfl | h
      · exact ⟨n, _, rfl, rowPart_len _ _ _⟩
      · exact cardsR_mem w k _ _ _ c h
theorem cardsR_len (w : Nat) (hw : 1 ≤ w) : ∀ (k n : Nat) (f : Bool) (rest : List Nat) (sd : Nat), (cardsR w k n f rest sd).length ≤ rest.length
  | 0, _, _, _, _ => Nat.zero_le _
  | k + 1, n, f, rest, sd => by
    unfold cardsR
    split
    · exact Nat.zero_le _
    · rename_i h
      have h1 := cardsR_len w hw k (n + 1 + (if sd % 5 = 3 then 1 else 0)) false (rest.drop w) (sd * 3 / 2 + 1)
      have h2 : rest.length ≠ 0 := fun e => h (List.length_eq_zero_iff.mp e)
      rw [List.length_drop] at h1
      rw [List.length_cons]; omega
noncomputable def joinR (w : Nat) : List CardD → List Nat
  | [] => []
  | [c] => c.body
  | c :: d :: r => padB c.body w ++ joinR w (d :: r)
theorem pieceAt_cons (w : Nat) (c d : CardD) (r : List CardD) (j : Nat) : pieceAt w (c :: d :: r) (j + 1) = pieceAt w (d :: r) j := by
  unfold pieceAt
  rw [List.getElem?_cons_succ]
  cases (d :: r)[j]? with
  | none => rfl
  | some x =>
    dsimp only
    by_cases h : j + 1 < (d :: r).length
    · rw [if_pos h, if_pos (by rw [List.length_cons]; omega)]
    · rw [if_neg h, if_neg (by rw [List.length_cons]; omega)]
theorem joinT_all (w : Nat) : ∀ cs : List CardD, joinT w cs cs.length = joinR w cs
  | [] => rfl
  | [c] => by
    show ((List.range 1).map (pieceAt w [c])).flatten = c.body
    simp [List.range_succ, pieceAt]
  | c :: d :: r => by
    have ih := joinT_all w (d :: r)
    unfold joinT at ih ⊢
    rw [List.length_cons, List.range_succ_eq_map, List.map_cons, List.flatten_cons, List.map_map]
    rw [show (pieceAt w (c :: d :: r)) ∘ Nat.succ = pieceAt w (d :: r) from funext fun j => pieceAt_cons w c d r j, ih]
    show pieceAt w (c :: d :: r) 0 ++ _ = padB c.body w ++ _
    unfold pieceAt
    simp
theorem pad_part {w : Nat} {rest : List Nat} {sd : Nat} (h : w < rest.length) : padB (rowPart w rest sd) w = rest.take w := by
  have hl : (rest.take w).length = w := by rw [List.length_take]; omega
  unfold rowPart padB
  split
  · have := rsB_eq (rest.take w)
    rw [hl] at this
    exact this.symm
  · rw [hl, Nat.sub_self]; simp
theorem joinR_rows (w : Nat) (hw : 1 ≤ w) : ∀ (k n : Nat) (f : Bool) (rest : List Nat) (sd : Nat), rest.length < k → joinR w (cardsR w k n f rest sd) = rest
  | 0, _, _, _, _, h => by omega
  | k + 1, n, f, rest, sd, h => by
    unfold cardsR
    split
    · rename_i e; rw [e]; rfl
    · rename_i hne
      have h0 : rest.length ≠ 0 := fun e => hne (List.length_eq_zero_iff.mp e)
      have ih := joinR_rows w hw k (n + 1 + (if sd % 5 = 3 then 1 else 0)) false (rest.drop w) (sd * 3 / 2 + 1) (by rw [List.length_drop]; omega)
      by_cases hlw : w < rest.length
      · generalize hq : cardsR w k (n + 1 + (if sd % 5 = 3 then 1 else 0)) false (rest.drop w) (sd * 3 / 2 + 1) = q at ih
        cases q with
        | nil =>
          have := congrArg List.length ih
          simp only [joinR, List.length_nil, List.length_drop] at this
          omega
        | cons d r =>
          show padB (rowPart w rest sd) w ++ joinR w (d :: r) = rest
          rw [ih, pad_part hlw, List.take_append_drop]
      · have e : rest.drop w = [] := List.drop_eq_nil_of_le (by omega)
        have e2 : cardsR w k (n + 1 + (if sd % 5 = 3 then 1 else 0)) false (rest.drop w) (sd * 3 / 2 + 1) = [] := by
          rw [e]
          cases k with
          | zero => rfl
          | succ k => unfold cardsR; rw [if_pos rfl]
        rw [e2]
        show rowPart w rest sd = rest
        unfold rowPart
        rw [if_neg (fun h => hlw h.1), List.take_of_length_le (by omega)]
theorem noBl_append (a b : List Nat) : noBl (a ++ b) = noBl a ++ noBl b := List.filter_append ..
theorem noBl_part (w : Nat) (rest : List Nat) (sd : Nat) : noBl (rowPart w rest sd) = noBl (rest.take w) := by
  unfold rowPart
  split
  · have h := congrArg noBl (rsB_eq (rest.take w))
    rw [noBl_append] at h
    have e : noBl (List.replicate ((rest.take w).length - (rsB (rest.take w)).length) 32) = [] := by
      unfold noBl
      rw [List.filter_eq_nil_iff]
      intro a ha
      rw [(List.mem_replicate.mp ha).2]; decide
    rw [e, List.append_nil] at h
    exact h.symm
  · rfl
theorem rows_ok (ns : List Nat) (i sd : Nat) : ∃ c0 cts, RowsOk (textUp ns i) (5 + ns.getD 0 0 % 12) sd c0 cts := by
  have hm : ns.getD 0 0 % 12 < 12 := Nat.mod_lt _ (by decide)
  generalize ns.getD 0 0 % 12 = m9 at hm
  have hok := text_ok ns i
  obtain ⟨rest, hr⟩ : ∃ rest, textUp ns i = 67 :: 65 :: 76 :: 76 :: 32 :: 70 :: rest := ⟨_, rfl⟩
  generalize textUp ns i = tx at hok hr
  have hne : ¬ tx = [] := by rw [hr]; simp
  have h10 : 10 ∉ tx := fun h => by have := (hok 10 h).1; omega
  have hR := cards_rows (5 + m9) (tx.length + 1) 3 true tx sd
  have hC : cardsR (5 + m9) (tx.length + 1) 3 true tx sd = crd 3 true (rowPart (5 + m9) tx sd) :: cardsR (5 + m9) tx.length (3 + 1 + (if sd % 5 = 3 then 1 else 0)) false (tx.drop (5 + m9)) (sd * 3 / 2 + 1) := by
    conv => lhs; unfold cardsR
    rw [if_neg hne]
  have hrows : ∀ x ∈ rowsOf (5 + m9) (tx.length + 1) true tx sd, 10 ∉ x ∧ 6 ≤ x.length := by
    intro x hx
    rcases rows_mem _ _ _ _ _ x hx with rfl | ⟨f, p, rfl, hp⟩
    · exact ⟨by decide, by decide⟩
    · refine ⟨fun h => ?_, by rw [List.length_append, rowH_len]; omega⟩
      rcases List.mem_append.mp h with h | h
      · cases f
        · revert h; decide
        · revert h; decide
      · exact h10 (hp _ h)
  have hhd : tx.take (5 + m9) = 67 :: (tx.take (5 + m9)).drop 1 := by
    rw [hr, show 5 + m9 = (4 + m9) + 1 from by omega, List.take_succ_cons]; rfl
  refine ⟨crd 3 true (rowPart (5 + m9) tx sd), cardsR (5 + m9) tx.length (3 + 1 + (if sd % 5 = 3 then 1 else 0)) false (tx.drop (5 + m9)) (sd * 3 / 2 + 1), ?nl, ?last, ?six, ?cards, rfl, rfl, ?bodies, rfl, ?conts, ?notEnd, ?few, ?whole, ?some_⟩
  case cards =>
    show cardOf _ 1 [42] ++ (cardOf _ 2 [] ++ cardsOf (5 + m9 + 6) 3 _) = _
    rw [hR, hC]
    have e1 : cardOf (5 + m9 + 6) 1 [42] = [] := by
      have : isCom [42] (5 + m9 + 6) = true := by
        have h1 : ([42] : List Nat).take 1 = [42] := rfl
        simp only [isCom, h1]; simp
      unfold cardOf; rw [if_pos this]
    have e2 : cardOf (5 + m9 + 6) 2 [] = [] := by
      have : isCom [] (5 + m9 + 6) = true := by
        simp only [isCom, List.take_nil]; decide
      unfold cardOf; rw [if_pos this]
    rw [e1, e2]; rfl
  case nl =>
    intro x hx
    rcases List.mem_cons.mp hx with rfl | hx
    · decide
    · rcases List.mem_cons.mp hx with rfl | hx
      · decide
      · exact (hrows x hx).1
  case last =>
    intro h
    have hne2 : rowsOf (5 + m9) (tx.length + 1) true tx sd ≠ [] := by
      intro e
      rw [e] at hR
      rw [hC] at hR
      cases hR
    have h2 : ([42] :: [] :: rowsOf (5 + m9) (tx.length + 1) true tx sd).getLast? = (rowsOf (5 + m9) (tx.length + 1) true tx sd).getLast? := by
      cases hq : rowsOf (5 + m9) (tx.length + 1) true tx sd with
      | nil => exact absurd hq hne2
      | cons a b => rw [List.getLast?_cons_cons, List.getLast?_cons_cons]
    rw [h2] at h
    have := (hrows _ (List.mem_of_getLast? h)).2
    simp at this
  case six =>
    intro x hx hc
    rcases List.mem_cons.mp hx with rfl | hx
    · exfalso
      have h1 : ([42] : List Nat).take 1 = [42] := rfl
      simp only [isCom, h1] at hc
      simp at hc
    · rcases List.mem_cons.mp hx with rfl | hx
      · exfalso
        simp only [isCom, List.take_nil] at hc
        revert hc; decide
      · exact (hrows x hx).2
  case bodies =>
    intro c hc
    rcases List.mem_cons.mp hc with rfl | hc
    · exact Nat.le_trans (rowPart_len _ _ _) (by omega)
    · obtain ⟨m, p, rfl, hp⟩ := cardsR_mem _ _ _ _ _ c hc
      exact Nat.le_trans hp (by omega)
  case conts =>
    intro c hc
    obtain ⟨m, p, rfl, hp⟩ := cardsR_mem _ _ _ _ _ c hc
    exact ⟨rfl, (show noBl [32, 32, 32, 32, 32] = [] from by decide), (show (5 : Nat) ≤ 1000000 from by decide)⟩
  case notEnd =>
    show ¬ noBl (rowPart (5 + m9) tx sd) = _
    rw [noBl_part, hhd]
    intro h
    cases h
  case few =>
    rw [← hC]
    exact cardsR_len _ (by omega) _ _ _ _ _
  case whole =>
    rw [joinT_all, ← hC]
    exact joinR_rows _ (by omega) _ _ _ _ _ (Nat.lt_succ_self _)
  case some_ =>
    rw [hr]
    intro h
    cases h

theorem kin70 (w : World) : excKin (topK w.params) 70 31 = true := by kernel_rfl
theorem kts70 (w : World) : ktsIn (topK w.params) 70 "BaseException" = true := by kernel_rfl
noncomputable def ExcMade (k : Int) (r : Value) (tl : Led) : Prop := ∃ e d es n a0 tk, r = .ref e ∧ (e, excO 70 (some d) a0) ∈ tl ∧ (d, dictOf es n) ∈ tl ∧ lookIn (Str.ofString "at") (dictOf es n) = some (some (.int k tk))
theorem lexfault_c (w : World) (news : Led) (k : Int) (t1 t2 : Tok) (tx : PySem.Str) :
   Con w 70 3 news [.int k t1, .str tx t2] (ExcMade k) := by
  unfold Con
  k_fill
  intro mean mg mb dp un gd cn cs a ccd cl outer A₀ base h₀ L m s Q E B F X N T hk hdl hul hret
  refine exc_call (D := 31) (fI := 67) F X N ?hk ?hi ?hf (fun x t h' F' N' l1 l2 => ?_) ?hz
  case hk => exact kin70 w
  case hi => k_is
  case hf => k_is
  case hz => rw [sizeLine_eq]; simp
  w_top off
  refine wpAny_call ?_
  k_dflt ktr_enter
  k_steps
  refine' method_type (K := topK w.params) (T := "Exception") (v := .builtin "Exception.__init__") ?F ?X ?m ?st ?e ?hh ?_
  case F => k_asm
  case X => k_asm
  case m => kernel_rfl
  case st => decide +kernel
  case e => k_dflt k_is
  case hh => k_handed
  k_steps
  have hnx : ∀ p ∈ (t, tupO [.int k t1, .str tx t2]) :: news, p.1 ≠ x := by
    intro p hp
    rcases List.mem_cons.mp hp with rfl | hp
    · exact Nat.ne_of_lt l2
    · exact Nat.ne_of_lt (Nat.lt_trans (l1 p hp) l2)
  refine exc_init (D := 31) (by k_asm) (by k_asm) (by k_asm) hnx ?hk (by rw [sizeLine_eq]; simp) (fun t3 h3 F3 N3 l3 l4 => ?_)
  case hk => exact kin70 w
  k_steps
  have hnx3 : ∀ p ∈ (t3, tupO [.str tx t2]) :: (t, tupO [.int k t1, .str tx t2]) :: news, p.1 ≠ x := by
    intro p hp
    rcases List.mem_cons.mp hp with rfl | hp
    · exact Nat.ne_of_gt l4
    · exact hnx p hp
  refine exc_set_first (D := 31) (K := topK w.params) (by k_asm) (by k_asm) N3 hnx3 ?hk ?hs ?ht (fun dx h4 F4 N4 l5 l6 => ?_)
  case hk => exact kin70 w
  case hs => k_is
  case ht => k_is
  clear F3 N3
  k_steps
  rename Fr _ _ _ _ => F5
  rename News _ _ _ _ => N5
  have hnd : ∀ p ∈ (x, excO 70 (some dx) (.ref t3)) :: (t3, tupO [.str tx t2]) :: (t, tupO [.int k t1, .str tx t2]) :: news, p.1 ≠ dx := by
    intro p hp
    rcases List.mem_cons.mp hp with rfl | hp
    · exact Nat.ne_of_lt l5
    · exact Nat.ne_of_lt (l6 p hp)
  refine exc_set_next (D := 31) (K := topK w.params) F5 (by k_asm) N5 (.head _) hnd ?hk ?hs ?ht ?hl ?hz (fun h6 F6 N6 => ?_)
  case hk => exact kin70 w
  case hs => k_is
  case ht => k_is
  case hl => with_unfolding_all rfl
  case hz => exact Nat.le_trans (Nat.le_refl 2) (by decide)
  clear F5 N5
  k_steps
  refine' hret _ [(_, _), (_, _), (_, _), (_, _)] _ _ (by k_asm) (by k_asm) ?hO ⟨_, _, _, _, _, _, rfl, .tail _ (.head _), .head _, ?hl⟩
  case hO =>
    intro q hq p hp
    have a1 := l1 q hq
    have a2 := l6 q (.tail _ (.tail _ hq))
    have a3 := l3 q (.tail _ hq)
    rcases List.mem_cons.mp hp with rfl | hp
    · exact a2
    · rcases List.mem_cons.mp hp with rfl | hp
      · exact Nat.lt_trans a1 l2
      · rcases List.mem_cons.mp hp with rfl | hp
        · exact a3
        · rw [List.mem_singleton.mp hp]; exact a1
  case hl => with_unfolding_all rfl

/-- a contract of a def that gives back or raises LexFault at k -/
noncomputable def ConX (w : World) (f : Addr) (lvl : Nat) (news : Led) (vs : List Value) (post : Value → Led → Prop) (bad : Prop) (k : Int) : Prop :=
  ∀ (mean : ExcName → Option Value) (mg mb : PySem.Str → Option Value) (dp un : Nat) (gd : Option (List Code)) (cn : PySem.Str) (cs : Scope) (a : Addr) (ccd : Value) (outer : List Env) (A₀ : Around) (base h₀ : Heap) (L : Addr) (m : PySem.Str → Option Value) (s : Shared) (Q E : Value → Shared → Prop),
    Below A₀ base outer h₀ → Fr h₀ L s.heap m → (topK w.params).In h₀ → News h₀ L s.heap news → Top topV (looseW topV []) mean mg mb h₀ → cs.kind = .function →
    dp + lvl < recursionLimit → un + 8 * lvl < cLine →
    (∀ r tl h' tk', Fr h₀ L h' m → News h₀ L h' (tl ++ news) → (∀ q ∈ news, ∀ p ∈ tl, q.1 < p.1) → post r tl → Q r { s with heap := h', toks := tk' }) →
    (∀ e d g₂ h' tk', bad → Fr h₀ L g₂ m → g₂.UpToSlots h' → RaisedD base (envOf cn cs L a ccd :: outer) e d k h' → E (.ref e) { s with heap := h', toks := tk' }) →
    wpAny (model PySem.Challenge.rw_no0243_01.row.prog w) (ktrTop dp un gd cn cs L a ccd [] outer) (PySem.call (.ref f) vs) Q E s
theorem conx_use {w : World} {f : Addr} {lvl : Nat} {news : Led} {vs : List Value} {post : Value → Led → Prop} {bad : Prop} {k : Int} (C : ConX w f lvl news vs post bad k)
    {mean : ExcName → Option Value} {mg mb : PySem.Str → Option Value} {dp un : Nat} {gd : Option (List Code)} {cn : PySem.Str} {cs : Scope} {a : Addr} {ccd : Value} {outer : List Env} {A₀ : Around} {base h₀ : Heap} {L : Addr} {m : PySem.Str → Option Value} {s : Shared} {Q E : Value → Shared → Prop}
    (B : Below A₀ base outer h₀) (F : Fr h₀ L s.heap m) (X : (topK w.params).In h₀) (N : News h₀ L s.heap news) (T : Top topV (looseW topV []) mean mg mb h₀) (hk : cs.kind = .function)
    (hd' : dp + lvl < recursionLimit) (hu : un + 8 * lvl < cLine)
    (ret : ∀ r tl h' tk', Fr h₀ L h' m → News h₀ L h' (tl ++ news) → (∀ q ∈ news, ∀ p ∈ tl, q.1 < p.1) → post r tl → Q r { s with heap := h', toks := tk' })
    (rai : ∀ e d g₂ h' tk', bad → Fr h₀ L g₂ m → g₂.UpToSlots h' → RaisedD base (envOf cn cs L a ccd :: outer) e d k h' → E (.ref e) { s with heap := h', toks := tk' }) :
    wpAny (model PySem.Challenge.rw_no0243_01.row.prog w) (ktrTop dp un gd cn cs L a ccd [] outer) (PySem.call (.ref f) vs) Q E s := C _ _ _ _ _ _ _ _ _ _ _ _ _ _ _ _ _ _ _ B F X N T hk hd' hu ret rai
theorem conx_use' {w : World} {f : Addr} {lvl : Nat} {news : Led} {vs : List Value} {post : Value → Led → Prop} {bad : Prop} {k : Int} (C : ConX w f lvl news vs post bad k)
    {mean : ExcName → Option Value} {mg mb : PySem.Str → Option Value} {dp un : Nat} {gd : Option (List Code)} {cn : PySem.Str} {cs : Scope} {a : Addr} {ccd : Value} {outer : List Env} {A₀ : Around} {base h₀ : Heap} {L : Addr} {m : PySem.Str → Option Value} {s : Shared} {Q E : Value → Shared → Prop}
    (H : Below A₀ base outer h₀ ∧ Fr h₀ L s.heap m ∧ (topK w.params).In h₀ ∧ News h₀ L s.heap news ∧ Top topV (looseW topV []) mean mg mb h₀ ∧ cs.kind = .function ∧ dp + lvl < recursionLimit ∧ un + 8 * lvl < cLine)
    (ret : ∀ r tl h' tk', Fr h₀ L h' m → News h₀ L h' (tl ++ news) → (∀ q ∈ news, ∀ p ∈ tl, q.1 < p.1) → post r tl → Q r { s with heap := h', toks := tk' })
    (rai : ∀ e d g₂ h' tk', bad → Fr h₀ L g₂ m → g₂.UpToSlots h' → RaisedD base (envOf cn cs L a ccd :: outer) e d k h' → E (.ref e) { s with heap := h', toks := tk' }) :
    wpAny (model PySem.Challenge.rw_no0243_01.row.prog w) (ktrTop dp un gd cn cs L a ccd [] outer) (PySem.call (.ref f) vs) Q E s := conx_use C H.1 H.2.1 H.2.2.1 H.2.2.2.1 H.2.2.2.2.1 H.2.2.2.2.2.1 H.2.2.2.2.2.2.1 H.2.2.2.2.2.2.2 ret rai
noncomputable def MadeD (E : Value → Shared → Prop) (v : Value) (s₁ : Shared) : Prop := ∃ e od a0, v = .ref e ∧ ExcCls s₁.heap 70 31 ∧ s₁.heap.get? e = some (excO 70 od a0) ∧ E (.ref e) s₁
section
variable {prog : Program} {w : World} {A : Around} {E : Value → Shared → Prop} {s : Shared} {env : Env}
theorem raiseStmt_D {x : Sem Value} {Q : Flow → Shared → Prop} (hh : A.handled = none)
    (h : wpAny (model prog w) A x (MadeD E) E s) :
    wpAny (model prog w) A (raiseStmt env (some x) none) Q E s := by
  have hcB : (Value.ref 70 :: excTail 31).contains (.type "BaseException") = true := by decide
  unfold raiseStmt
  refine wpAny_bind (wpAny_mono h (fun v s₁ h₁ => ?_) fun _ _ x => x)
  obtain ⟨e, od, a0, rfl, ⟨nm, q, N, bs, sn, sub, ab, col, dd, k0, k1, k2, k3, k5, hC⟩, he, hE⟩ := h₁
  obtain ⟨hp, g, d, tk, os⟩ := s₁
  repeat (first | with_reducible refine wpAny_loadPart_at he ?_ | with_reducible refine wpAny_loadPart_at hC ?_ | (with_reducible refine wpAny_isSubtype_exc hC ?_; rw [hcB]) | wp_step)
  exact wpAny_raiseNew_none hh hE
theorem Raise_D {c : Expr} {pos : Pos} {Q : Flow → Shared → Prop} (hh : A.handled = none)
    (h : wpAny (model prog w) A (eval c env) (MadeD E) E s) :
    wpAny (model prog w) A (exec (.Raise (some c) none pos) env) Q E s := by
  rw [arm_exec_Raise]
  exact wpAny_bind (wpAny_standAt (raiseStmt_D hh (wpAny_bind (wpAny_mono h (fun v s₃ h₃ => wpAny_bind (wpAny_standAt (wpAny_pure h₃))) fun _ _ x => x))))
end

local macro_rules | `(tactic| walk_at "mine h7") => `(tactic| ((with_reducible show wpAny _ _ (PySem.call (Value.ref 70) _) _ _ _); k_here; k_dflt (refine' con_use' (lexfault_c _ _ _ _ _ _) ?k1 ?_); (case k1 => walk_at "mine con"); (intro r' tl' h' tk' F' N' ho' hpost')))
section
local macro_rules | `(tactic| walk_at "exec While Compare cons nil") => `(tactic| (refine Hold.out ?_))
local macro_rules | `(tactic| walk_at "exec Raise some none") => `(tactic| (refine Hold.out ?_))
local macro_rules | `(tactic| walk_at "call ref") => `(tactic| walk_at "mine h7")
theorem constant_end_r (w : World) (news : Led) (l : List Nat) (t ta : Tok) (at0 : Nat) (hl : l.length ≤ 1000000) (h : cE (l.drop (at0+1)) (at0+1) = none) (h0 : at0 < l.length) :
   ConX w 86 5 news [.str (S l) t, .int at0 ta] (fun _ _ => False) True at0 := by
  unfold ConX
  k_fill
  intro mean mg mb dp un gd cn cs a ccd outer A₀ base h₀ L m s Q E B F X N T hk hdl hul hret hrai
  w_top off
  refine wpAny_call ?_
  k_dflt ktr_enter
  k_steps
  refine Hold.mk ?_
  rename Fr _ _ _ _ => F1
  rename News _ _ _ _ => N1
  with_unfolding_all refine' my_while (σ := Nat × Tok) (fun _ => news) (fun c => [(Str.ofString "end", .int (c.1 : Int) c.2)]) [] (fun c => cE (l.drop c.1) c.1 = none) (fun _ => True) (fun c => l.length + 1 - c.1) (at0 + 1, ?tk) F1 N1 ?hk h ?turn ?done
  case hk => exact List.forall_mem_cons.mpr ⟨by with_unfolding_all rfl, List.forall_mem_nil _⟩
  case turn =>
    intro c u h tk hp F2 N2
    clear F1 N1
    obtain ⟨i, tki⟩ := c
    dsimp only at hp F2 N2 ⊢
    by_cases hi : i < l.length
    · obtain ⟨x, hx⟩ : ∃ x, l[i]? = some x := ⟨_, List.getElem?_eq_getElem hi⟩
      rw [drop_at hx] at hp
      unfold cE at hp
      k_steps
      · rename (List.drop _ _ = _) => h2
        rename ([x] = [39]) => h1
        have hx1 : l[i+1]? = some 39 := take_drop1.mp h2
        have h3 : x = 39 := by simpa using h1
        rw [if_pos h3, drop_at hx1] at hp
        with_unfolding_all refine' ksw_end ((i + 2 : Nat), _) (by assumption) (by assumption) (fun _ h => h) trivial ?kk ?ks ?kp ?km
        case kk => exact List.forall_mem_cons.mpr ⟨by with_unfolding_all rfl, List.forall_mem_nil _⟩
        case ks =>
          intro z h2 h3
          simp only [List.forall_mem_cons, List.not_mem_nil, false_implies, implies_true, and_true, ne_eq] at h2
          simp only [List.contains_cons, List.contains_nil, Bool.or_false, Bool.or_eq_false_iff, beq_eq_false_iff_ne, ne_eq] at h3
          simp [kstB, h2, h3]
        case kp => exact hp
        case km => dsimp only; omega
      · rename (¬List.drop _ _ = _) => h2
        rename ([x] = [39]) => h1
        have h3 : x = 39 := by simpa using h1
        rw [if_pos h3] at hp
        exfalso
        split at hp
        · rename_i heq
          exact absurd (take_drop1.mpr (by rw [← List.head?_drop, heq]; rfl)) h2
        · cases hp
      · rename (¬[x] = [39]) => h1
        rw [if_neg (by simpa using h1)] at hp
        with_unfolding_all refine' ksw_end ((i + 1 : Nat), _) (by assumption) (by assumption) (fun _ h => h) trivial ?kk ?ks ?kp ?km
        case kk => exact List.forall_mem_cons.mpr ⟨by with_unfolding_all rfl, List.forall_mem_nil _⟩
        case ks =>
          intro z h2 h3
          simp only [List.forall_mem_cons, List.not_mem_nil, false_implies, implies_true, and_true, ne_eq] at h2
          simp only [List.contains_cons, List.contains_nil, Bool.or_false, Bool.or_eq_false_iff, beq_eq_false_iff_ne, ne_eq] at h3
          simp [kstB, h2, h3]
        case kp => exact hp
        case km => dsimp only; omega
    · k_steps
      with_unfolding_all refine' WOut.mk ((i : Nat), _) (by assumption) (by assumption) (fun _ h => h) ?kk ?ks trivial
      case kk => exact List.forall_mem_cons.mpr ⟨by with_unfolding_all rfl, List.forall_mem_nil _⟩
      case ks =>
        intro z h2 h3
        (try simp only [List.forall_mem_cons, List.not_mem_nil, false_implies, implies_true, and_true, ne_eq] at h2)
        (try simp only [List.contains_cons, List.contains_nil, Bool.or_false, Bool.or_eq_false_iff, beq_eq_false_iff_ne, ne_eq] at h3)
        simp [kstB, h2, h3]
  case done =>
    rintro ⟨i, ti⟩ u h tk _ F2 N2
    clear F1 N1
    dsimp only at F2 N2 ⊢
    k_steps
    refine Hold.mk ?_
    refine Raise_D rfl ?_
    k_steps
    rename ExcMade _ _ _ => hm
    rename News _ _ _ _ => N9
    rename Below _ _ _ _ => B9
    obtain ⟨e, d, es, n9, a0, tk9, rfl, he, hd, hl9⟩ := hm
    unfold MadeD
    refine ⟨e, some d, a0, rfl, exck ?X (kin70 w), (N9 _ (List.mem_append_left _ he)).1, ?_⟩
    case X => exact Frag.In.keeps (by k_asm) (Fr.keep (by k_asm))
    rename Fr _ _ _ _ => F9
    k_whole
    refine leave_raise_D (k := (at0 : Int)) B9 F9 N9 (List.mem_append_left _ he) (List.mem_append_left _ hd) ⟨rfl, rfl⟩ rfl rfl rfl hl9 (fun h' R U => ?_)
    refine hrai e d _ h' _ trivial (by assumption) U R
end

section
local macro_rules | `(tactic| walk_at "exec Raise some none") => `(tactic| (refine Hold.out ?_))
local macro_rules | `(tactic| walk_at "call ref") => `(tactic| walk_at "mine h7")
local macro_rules | `(tactic| walk_at "call ref") => `(tactic| walk_at "mine h1")
local macro_rules | `(tactic| walk_at "unused 3") => `(tactic| skip)
theorem hollerith_r (w : World) (news : Led) (l : List Nat) (t ta : Tok) (at0 e : Nat) (n : Int) (hl : l.length ≤ 300000) (hsm : ∀ c ∈ l, c < 97) (h : cN (l.drop at0) (-1) at0 = (n, e)) (hn : n ≤ 1000000) (h0 : at0 ≤ l.length)
   (hc : ¬ (n < 0 ∨ l[e]? ≠ some 72)) (hbad : ¬ (1 ≤ n ∧ e + 1 + n.toNat ≤ l.length)) :
   ConX w 100 6 news [.str (S l) t, .int at0 ta] (fun _ _ => False) True at0 := by
  have hl' : l.length ≤ 1000000 := by omega
  obtain ⟨k, rfl⟩ : ∃ k : Nat, n = (k : Int) := ⟨n.toNat, by omega⟩
  unfold ConX
  k_fill
  intro mean mg mb dp un gd cn cs a ccd outer A₀ base h₀ L m s Q E B F X N T hk hdl hul hret hrai
  w_top off
  refine wpAny_call ?_
  k_dflt ktr_enter
  k_steps
  · refine Hold.mk ?_
    refine Raise_D rfl ?_
    k_steps
    rename ExcMade _ _ _ => hm
    rename News _ _ _ _ => N9
    rename Below _ _ _ _ => B9
    obtain ⟨e, d, es, n9, a0, tk9, rfl, he, hd, hl9⟩ := hm
    unfold MadeD
    refine ⟨e, some d, a0, rfl, exck ?X (kin70 w), (N9 _ (List.mem_append_left _ he)).1, ?_⟩
    case X => exact Frag.In.keeps (by k_asm) (Fr.keep (by k_asm))
    rename Fr _ _ _ _ => F9
    k_whole
    refine leave_raise_D (k := (at0 : Int)) B9 F9 N9 (List.mem_append_left _ he) (List.mem_append_left _ hd) ⟨rfl, rfl⟩ rfl rfl rfl hl9 (fun h' R U => ?_)
    refine hrai e d _ h' _ trivial (by assumption) U R
  · refine Hold.mk ?_
    refine Raise_D rfl ?_
    k_steps
    rename ExcMade _ _ _ => hm
    rename News _ _ _ _ => N9
    rename Below _ _ _ _ => B9
    obtain ⟨e, d, es, n9, a0, tk9, rfl, he, hd, hl9⟩ := hm
    unfold MadeD
    refine ⟨e, some d, a0, rfl, exck ?X (kin70 w), (N9 _ (List.mem_append_left _ he)).1, ?_⟩
    case X => exact Frag.In.keeps (by k_asm) (Fr.keep (by k_asm))
    rename Fr _ _ _ _ => F9
    k_whole
    refine leave_raise_D (k := (at0 : Int)) B9 F9 N9 (List.mem_append_left _ he) (List.mem_append_left _ hd) ⟨rfl, rfl⟩ rfl rfl rfl hl9 (fun h' R U => ?_)
    refine hrai e d _ h' _ trivial (by assumption) U R
end

inductive Bad (l : List Nat) : List Nat → Nat → Prop
  | quote {la p} : l[p]? = some 39 → cE (l.drop (p+1)) (p+1) = none → Bad l la p
  | holl {la p c n e} : l[p]? = some c → Dig c → AH la → cN (l.drop p) (-1) p = (n, e) → n ≤ 1000000 → ¬ (n < 0 ∨ l[e]? ≠ some 72) → ¬ (1 ≤ n ∧ e + 1 + n.toNat ≤ l.length) → Bad l la p
noncomputable abbrev SqP (l laf : List Nat) (p : Nat) (total : List (Nat × Bool)) (outA : Addr) (c : Sq) : Prop := (c.la = [] ∨ ∃ k, c.la = [k]) ∧ PTs c.tl c.vs c.os ∧ (∀ p ∈ c.tl, outA < p.1) ∧ ∃ o', Run l c.la c.at0 o' laf p ∧ c.os ++ o' = total
noncomputable abbrev SqR (l : List Nat) (p : Nat) (total : List (Nat × Bool)) (outA : Addr) (c : Sq) : Prop := PTs c.tl c.vs total ∧ (∀ p ∈ c.tl, outA < p.1) ∧ p = l.length
noncomputable abbrev SqM (l laf : List Nat) (p i c : Nat) (total osT : List (Nat × Bool)) (d : (List Nat × Tok) × (Nat × Tok)) : Prop := (d.1.1 = [] ∧ ∃ o, Run l [c] (i + 1) o laf p ∧ osT ++ ((c, false) :: o) = total) ∨ (¬ d.1.1 = [] ∧ ∃ o, Run l [c] d.2.1 o laf p ∧ i < d.2.1 ∧ d.2.1 ≤ l.length ∧ osT ++ (d.1.1.map (·, true) ++ o) = total)
section
local macro_rules | `(tactic| walk_at "exec While Compare cons nil") => `(tactic| (refine Hold.out ?_))
local macro_rules | `(tactic| walk_at "exec For Name Name cons nil") => `(tactic| (refine Hold.out ?_))
local macro_rules | `(tactic| walk_at "pyIter str") => `(tactic| (refine Hold.out ?_))
local macro_rules | `(tactic| walk_at "exec If Compare cons cons") => `(tactic| (refine Hold.out ?_))
local macro_rules | `(tactic| walk_at "call builtin:list.append") => `(tactic| (k_here; (with_reducible show wpAny _ _ (PySem.call (Value.builtin _) [Value.ref _, _]) _ _ _); k_dflt (refine' append_K ?k1 ?k2 ?k3 ?_ ?z; (case k1 => k_asm); (case k2 => k_asm); (case k3 => first | exact Upd.head (by assumption) | (refine' Upd.tail ?u1 ?u2; (case u1 => k_ne); (case u2 => exact Upd.head (by assumption))) | (refine' Upd.tail ?u1 ?u2; (case u1 => k_ne); (case u2 => (refine' Upd.tail ?u3 ?u4; (case u3 => k_ne); (case u4 => exact Upd.head (by assumption)))))); (case z => (rw [List.size_toArray, PySem.sizeLine_eq]; omega)); k_whole); intro h' F' N'; simp only [List.push_toArray] at N'))
local macro_rules | `(tactic| walk_at "call ref") => `(tactic| ((with_reducible show wpAny _ _ (PySem.call (Value.ref 79) _) _ _ _); k_here; k_dflt (refine' con_use' (capital_c _ _ _ _ (lt97_one (by assumption))) ?k1 ?_); (case k1 => walk_at "mine con"); walk_at "mine ret1"))
local macro_rules | `(tactic| walk_at "call ref") => `(tactic| ((with_reducible show wpAny _ _ (PySem.call (Value.ref 86) _) _ _ _); k_here; k_dflt (refine' con_use' (constant_end_c _ _ _ _ _ _ _ (by assumption) (by assumption) (by assumption)) ?k1 ?_); (case k1 => walk_at "mine con"); walk_at "mine ret1"))
local macro_rules | `(tactic| walk_at "call ref") => `(tactic| ((with_reducible show wpAny _ _ (PySem.call (Value.ref 100) _) _ _ _); k_here; k_dflt (refine' con_use' (hollerith_c _ _ _ _ _ _ _ _ (by assumption) (by assumption) (by assumption) (by assumption) (by omega) (by assumption)) ?k1 ?_); (case k1 => walk_at "mine con"); (intro r' tl' h' tk' F' N' ho' hpost'); obtain ⟨q', ta', tb', h7, h8⟩ := hpost'; subst h7; subst h8; (have hq9 := ltN (ho' _ (List.Mem.head _) _ (List.Mem.head _))); (try dsimp only at hq9); clear ho'; (rename (hollO _ _ _ _ = _) => hho9; rw [hho9] at N'; dsimp only at N'); simp only [List.cons_append, List.nil_append] at N'))
local macro_rules | `(tactic| walk_at "call ref") => `(tactic| ((with_reducible show wpAny _ _ (PySem.call (Value.ref 86) _) _ _ _); k_here; k_dflt (refine' conx_use' (constant_end_r _ _ _ _ _ _ (by assumption) (by assumption) (by assumption)) ?k1 ?kr ?_); (case k1 => walk_at "mine con"); (case kr => (exact fun _ _ _ _ _ _ _ h9 => False.elim h9)); (intro e' d' g2' h' tk' _ F' U' R')))
local macro_rules | `(tactic| walk_at "call ref") => `(tactic| ((with_reducible show wpAny _ _ (PySem.call (Value.ref 100) _) _ _ _); k_here; k_dflt (refine' conx_use' (hollerith_r _ _ _ _ _ _ _ _ (by assumption) (by assumption) (by assumption) (by assumption) (by omega) (by assumption) (by assumption)) ?k1 ?kr ?_); (case k1 => walk_at "mine con"); (case kr => (exact fun _ _ _ _ _ _ _ h9 => False.elim h9)); (intro e' d' g2' h' tk' _ F' U' R')))
theorem squeeze_x (w : World) (news : Led) (l : List Nat) (t : Tok) (total : List (Nat × Bool)) (laf : List Nat) (p : Nat) (hl : l.length ≤ 300000) (hto : total.length ≤ 1000000) (hsm : ∀ c ∈ l, c < 97) (h : Run l [] 0 total laf p) (hb : p = l.length ∨ Bad l laf p) :
   ConX w 107 8 news [.str (S l) t] (fun r tl => p = l.length ∧ ∃ q vs nn tl', r = .ref q ∧ tl = (q, listOf vs.toArray nn) :: tl' ∧ PTs tl' vs total) (Bad l laf p) p := by
  have hl' : l.length ≤ 1000000 := by omega
  unfold ConX
  k_fill
  intro mean mg mb dp un gd cn cs a ccd outer A₀ base h₀ L m s Q E B F X N T hk hdl hul hret hrai
  w_top off
  refine wpAny_call ?_
  k_dflt ktr_enter
  k_steps
  refine Hold.mk ?_
  rename Fr _ _ _ _ => F1
  rename News _ _ _ _ => N1
  rename (∀ p ∈ news, p.1 < _) => hout
  refine grab (P := fun a => ∀ p ∈ news, p.1 < a) hout (fun outA e hout' => ?_)
  subst e
  with_unfolding_all refine' my_while (σ := Sq) (fun c => (outA, listOf c.vs.toArray c.nn) :: (c.tl ++ news)) (fun c => [(Str.ofString "at", .int (c.at0 : Int) c.ta), (Str.ofString "last", .str (S c.la) c.tla)]) [Str.ofString "sign", Str.ofString "constant", Str.ofString "end", Str.ofString "part"] (SqP l laf p total outA) (SqR l p total outA) (fun c => l.length - c.at0) ⟨0, _, [], _, [], 0, [], []⟩ F1 N1 ?hk ⟨.inl rfl, .nil, fun _ hp => (nomatch hp), total, h, rfl⟩ ?turn ?done
  case hk => 
    exact List.forall_mem_cons.mpr ⟨by with_unfolding_all rfl, List.forall_mem_cons.mpr ⟨by with_unfolding_all rfl, List.forall_mem_nil _⟩⟩
  case turn =>
    rintro ⟨i, ti, la, tla, vs, nn, tl, os⟩ u h tk ⟨hla, hpt, hlt, o', hr, ho⟩ F2 N2
    clear F1 N1
    dsimp only at hla hpt hlt hr ho F2 N2 ⊢
    have hoff : ∀ p ∈ tl ++ news, p.1 ≠ outA := by
      intro p hp
      rcases List.mem_append.mp hp with hp | hp
      · exact Nat.ne_of_gt (hlt p hp)
      · exact Nat.ne_of_lt (hout p hp)
    have hvl : vs.length ≤ 1000000 := by
      have := hpt.length
      rw [← ho, List.length_append] at hto
      omega
    have ee : ([] : List Nat) = [] := rfl
    by_cases hi : i < l.length
    · obtain ⟨c, hc⟩ : ∃ c, l[i]? = some c := ⟨_, List.getElem?_eq_getElem hi⟩
      have hsame : ∀ {d : Nat}, l[i]? = some d → d = c := fun h => Option.some.inj (h.symm.trans hc)
      by_cases h32 : c = 32
      · subst h32
        have hr' : Run l la (i + 1) o' laf p := by
          cases hr with
          | nil =>
            rcases hb with rfl | hb
            · exact absurd hi (Nat.lt_irrefl _)
            · cases hb with
              | quote h1 h2 => exact absurd (hsame h1) (by decide)
              | holl h1 h2 => rw [hsame h1] at h2; exact absurd h2.1 (by decide)
          | blank h1 h2 => exact h2
          | plain h1 h2 => exact absurd (hsame h1) h2
          | digit h1 h2 => rw [hsame h1] at h2; exact absurd h2.1 (by decide)
          | quote h1 => exact absurd (hsame h1) (by decide)
          | holl h1 h2 => rw [hsame h1] at h2; exact absurd h2.1 (by decide)
        clear hr
        have e1 : ([32] : List Nat) = [32] := rfl
        k_steps
        with_unfolding_all refine' ksw_end (⟨i + 1, _, la, tla, vs, nn, tl, os⟩ : Sq) (by assumption) (by assumption) (fun _ h => h) trivial ?kk ?ks ⟨hla, hpt, hlt, _, hr', ho⟩ ?km
        case kk =>
          exact List.forall_mem_cons.mpr ⟨by with_unfolding_all rfl, List.forall_mem_cons.mpr ⟨by with_unfolding_all rfl, List.forall_mem_nil _⟩⟩
        case ks =>
          intro z h2 h3
          (try simp only [List.forall_mem_cons, List.not_mem_nil, false_implies, implies_true, and_true, ne_eq] at h2)
          (try simp only [List.contains_cons, List.contains_nil, Bool.or_false, Bool.or_eq_false_iff, beq_eq_false_iff_ne, ne_eq] at h3)
          simp [kstB, h2, h3]
        case km => dsimp only; omega
      · have e1 : ¬ ([c] : List Nat) = [32] := by simpa using h32
        have hc97 : c < 97 := hsm c (List.mem_of_getElem? hc)
        k_steps
        refine Hold.mk ?_
        rename Fr _ _ _ _ => F1
        rename News _ _ _ _ => N1
        with_unfolding_all refine' my_mid (s := s) (σ := (List Nat × Tok) × (Nat × Tok)) F1 (fun _ => (outA, listOf vs.toArray nn) :: (tl ++ news)) (fun d => [(Str.ofString "constant", .str (S d.1.1) d.1.2), (Str.ofString "end", .int (d.2.1 : Int) d.2.2)]) (SqM l laf p i c total os) ?hx ?mdone
        case hx =>
          refine wpAny_If ?_
          cases hr with
          | nil =>
            rcases hb with rfl | hb
            · exact absurd hi (Nat.lt_irrefl _)
            · have hb9 := hb
              cases hb with
              | quote h1 h2 =>
                have := hsame h1
                subst this
                have e2 : ([39] : List Nat) = [39] := rfl
                k_steps
                rename RaisedD _ _ _ _ _ _ => R9
                rename Fr _ _ _ _ => F9
                rename Below _ _ _ _ => B9
                rename Heap.UpToSlots _ _ => U9
                (try k_whole)
                refine leave_on_D B9 F9 R9 U9 (fun h' R U => ?_)
                refine hrai _ _ _ h' _ hb9 (by assumption) U R
              | holl h1 h2 h3 h4 h5 h6 h7 =>
                rename_i c' n e
                have := hsame h1
                subst this
                have hpl := Nat.le_of_lt hi
                have e2 : ¬ ([c'] : List Nat) = [39] := by obtain ⟨a, b⟩ := h2; simp; omega
                have e3 := dig_in h2
                obtain ⟨k, rfl, hk9⟩ := h3
                have e4 : ¬ ([k] : List Nat) = [] := by simp
                have e5 := ah_in (k := k) ⟨k, rfl, hk9⟩
                k_steps
                rename RaisedD _ _ _ _ _ _ => R9
                rename Fr _ _ _ _ => F9
                rename Below _ _ _ _ => B9
                rename Heap.UpToSlots _ _ => U9
                (try k_whole)
                refine leave_on_D B9 F9 R9 U9 (fun h' R U => ?_)
                refine hrai _ _ _ h' _ hb9 (by assumption) U R
          | blank h1 h2 => exact absurd (hsame h1).symm h32
          | plain h1 h2 h3 h4 h5 =>
            rename_i c' o
            have := hsame h1
            subst this
            have e2 : ¬ ([c'] : List Nat) = [39] := by simpa using h3
            by_cases hd9 : Dig c'
            · have e3 := dig_in hd9
              rcases hla with rfl | ⟨k, rfl⟩
              · k_steps
                refine' WOut.mk ((([], _), (i, _)) : (List Nat × Tok) × (Nat × Tok)) (by assumption) (by assumption) ?kn ?kk ?ks (.inl ⟨rfl, _, h5, ho⟩)
                case kn => first | exact fun _ h => h | exact fun _ h => .tail _ h
                case kk =>
                  exact List.forall_mem_cons.mpr ⟨by with_unfolding_all rfl, List.forall_mem_cons.mpr ⟨by with_unfolding_all rfl, List.forall_mem_nil _⟩⟩
                case ks =>
                  intro z h2 h3
                  (try simp only [List.forall_mem_cons, List.not_mem_nil, false_implies, implies_true, and_true, ne_eq] at h2)
                  (try simp only [List.contains_cons, List.contains_nil, Bool.or_false, Bool.or_eq_false_iff, beq_eq_false_iff_ne, ne_eq] at h3)
                  simp [kstB, h2, h3]
              · have e4 : ¬ ([k] : List Nat) = [] := by simp
                have e5 := ah_out (k := k) fun h => h4 ⟨hd9, h⟩
                k_steps
                refine' WOut.mk ((([], _), (i, _)) : (List Nat × Tok) × (Nat × Tok)) (by assumption) (by assumption) ?kn ?kk ?ks (.inl ⟨rfl, _, h5, ho⟩)
                case kn => first | exact fun _ h => h | exact fun _ h => .tail _ h
                case kk =>
                  exact List.forall_mem_cons.mpr ⟨by with_unfolding_all rfl, List.forall_mem_cons.mpr ⟨by with_unfolding_all rfl, List.forall_mem_nil _⟩⟩
                case ks =>
                  intro z h2 h3
                  (try simp only [List.forall_mem_cons, List.not_mem_nil, false_implies, implies_true, and_true, ne_eq] at h2)
                  (try simp only [List.contains_cons, List.contains_nil, Bool.or_false, Bool.or_eq_false_iff, beq_eq_false_iff_ne, ne_eq] at h3)
                  simp [kstB, h2, h3]
            · have e3 := dig_out hd9
              k_steps
              refine' WOut.mk ((([], _), (i, _)) : (List Nat × Tok) × (Nat × Tok)) (by assumption) (by assumption) ?kn ?kk ?ks (.inl ⟨rfl, _, h5, ho⟩)
              case kn => first | exact fun _ h => h | exact fun _ h => .tail _ h
              case kk =>
                exact List.forall_mem_cons.mpr ⟨by with_unfolding_all rfl, List.forall_mem_cons.mpr ⟨by with_unfolding_all rfl, List.forall_mem_nil _⟩⟩
              case ks =>
                intro z h2 h3
                (try simp only [List.forall_mem_cons, List.not_mem_nil, false_implies, implies_true, and_true, ne_eq] at h2)
                (try simp only [List.contains_cons, List.contains_nil, Bool.or_false, Bool.or_eq_false_iff, beq_eq_false_iff_ne, ne_eq] at h3)
                simp [kstB, h2, h3]
          | digit h1 h2 h3 h4 h5 h6 h7 =>
            rename_i c' n e o
            have := hsame h1
            subst this
            have e2 : ¬ ([c'] : List Nat) = [39] := by obtain ⟨a, b⟩ := h2; simp; omega
            have e3 := dig_in h2
            obtain ⟨k, rfl, hk9⟩ := h3
            have e4 : ¬ ([k] : List Nat) = [] := by simp
            have e5 := ah_in (k := k) ⟨k, rfl, hk9⟩
            have hok : ¬ (n < 0 ∨ l[e]? ≠ some 72) → 1 ≤ n ∧ e + 1 + n.toNat ≤ l.length := fun h => absurd h6 h
            have hho : hollO l i n e = ([], i) := by unfold hollO; rw [if_pos h6]
            k_steps
            refine' WOut.mk ((([], _), (i, _)) : (List Nat × Tok) × (Nat × Tok)) (by assumption) (by assumption) ?kn ?kk ?ks (.inl ⟨rfl, _, h7, ho⟩)
            case kn => first | exact fun _ h => h | exact fun _ h => .tail _ h
            case kk =>
              exact List.forall_mem_cons.mpr ⟨by with_unfolding_all rfl, List.forall_mem_cons.mpr ⟨by with_unfolding_all rfl, List.forall_mem_nil _⟩⟩
            case ks =>
              intro z h2 h3
              (try simp only [List.forall_mem_cons, List.not_mem_nil, false_implies, implies_true, and_true, ne_eq] at h2)
              (try simp only [List.contains_cons, List.contains_nil, Bool.or_false, Bool.or_eq_false_iff, beq_eq_false_iff_ne, ne_eq] at h3)
              simp [kstB, h2, h3]
          | quote h1 h2 h3 h4 h5 =>
            rename_i e o
            have := hsame h1
            subst this
            have e2 : ([39] : List Nat) = [39] := rfl
            have e3 : ¬ (l.take e).drop i = [] := by
              intro h9
              have := congrArg List.length h9
              simp only [List.length_drop, List.length_take, List.length_nil] at this
              omega
            k_steps
            refine' WOut.mk ((((l.take e).drop i, _), (e, _)) : (List Nat × Tok) × (Nat × Tok)) (by assumption) (by assumption) ?kn ?kk ?ks (.inr ⟨e3, _, h5, h4, h3, ho⟩)
            case kn => first | exact fun _ h => h | exact fun _ h => .tail _ h
            case kk =>
              exact List.forall_mem_cons.mpr ⟨by with_unfolding_all rfl, List.forall_mem_cons.mpr ⟨by with_unfolding_all rfl, List.forall_mem_nil _⟩⟩
            case ks =>
              intro z h2 h3
              (try simp only [List.forall_mem_cons, List.not_mem_nil, false_implies, implies_true, and_true, ne_eq] at h2)
              (try simp only [List.contains_cons, List.contains_nil, Bool.or_false, Bool.or_eq_false_iff, beq_eq_false_iff_ne, ne_eq] at h3)
              simp [kstB, h2, h3]
          | holl h1 h2 h3 h4 h5 h6 h7 h8 h9 h10 =>
            rename_i c' n e o
            have := hsame h1
            subst this
            have e2 : ¬ ([c'] : List Nat) = [39] := by obtain ⟨a, b⟩ := h2; simp; omega
            have e3 := dig_in h2
            obtain ⟨k, rfl, hk9⟩ := h3
            have e4 : ¬ ([k] : List Nat) = [] := by simp
            have e5 := ah_in (k := k) ⟨k, rfl, hk9⟩
            have hng : ¬ (n < 0 ∨ l[e]? ≠ some 72) := by rw [h6]; simp; omega
            have hok : ¬ (n < 0 ∨ l[e]? ≠ some 72) → 1 ≤ n ∧ e + 1 + n.toNat ≤ l.length := fun _ => ⟨h7, h8⟩
            have hho : hollO l i n e = (39 :: StrLaws.dbl 39 ((l.take (e + 1 + n.toNat)).drop (e + 1)) ++ [39], e + 1 + n.toNat) := by unfold hollO; rw [if_neg hng]
            rw [hho] at ho
            dsimp only at ho
            k_steps
            refine' WOut.mk (((39 :: StrLaws.dbl 39 ((l.take (e + 1 + n.toNat)).drop (e + 1)) ++ [39], _), (e + 1 + n.toNat, _)) : (List Nat × Tok) × (Nat × Tok)) (by assumption) (by assumption) ?kn ?kk ?ks (.inr ⟨by simp, _, h10, by dsimp only; omega, h8, ho⟩)
            case kn => first | exact fun _ h => h | exact fun _ h => .tail _ h
            case kk =>
              exact List.forall_mem_cons.mpr ⟨by with_unfolding_all rfl, List.forall_mem_cons.mpr ⟨by with_unfolding_all rfl, List.forall_mem_nil _⟩⟩
            case ks =>
              intro z h2 h3
              (try simp only [List.forall_mem_cons, List.not_mem_nil, false_implies, implies_true, and_true, ne_eq] at h2)
              (try simp only [List.contains_cons, List.contains_nil, Bool.or_false, Bool.or_eq_false_iff, beq_eq_false_iff_ne, ne_eq] at h3)
              simp [kstB, h2, h3]
        case mdone =>
          rintro ⟨⟨cst, tc⟩, en, ten⟩ u2 h2 tk2 hR F3 N3
          clear F1 N1 hr ho hsame
          unfold SqM at hR
          dsimp only at hR F3 N3 ⊢
          rcases hR with ⟨rfl, o, hrun, ho⟩ | ⟨hne, o, hrun, hin, hen, ho⟩
          · k_steps
            refine Hold.mk ?_
            refine wpAny_If ?_
            k_steps
            rename (outA < _ ∧ AllLt _ _) => hx
            refine grab (P := fun x => outA < x ∧ AllLt x _) hx (fun X eX hX => ?_)
            subst eX
            unfold KswEnd
            refine' ⟨(⟨i + 1, _, [_], _, vs ++ [Value.ref X], nn + 1, (X, tupO [.str (S [_]) _, .bool false]) :: tl, os ++ [(_, false)]⟩ : Sq), _, _, _, _, rfl, by assumption, by assumption, by exact mem_swap, trivial, ?kk, ?ks, ⟨.inr ⟨_, rfl⟩, (hpt.mono fun p hp => .tail _ hp).snoc ⟨X, _, rfl, .head _⟩, ?kq, _, by assumption, ?kp⟩, ?km⟩
            case kk =>
              exact List.forall_mem_cons.mpr ⟨by with_unfolding_all rfl, List.forall_mem_cons.mpr ⟨by with_unfolding_all rfl, List.forall_mem_nil _⟩⟩
            case ks =>
              intro z h2 h3
              (try simp only [List.forall_mem_cons, List.not_mem_nil, false_implies, implies_true, and_true, ne_eq] at h2)
              (try simp only [List.contains_cons, List.contains_nil, Bool.or_false, Bool.or_eq_false_iff, beq_eq_false_iff_ne, ne_eq] at h3)
              simp [kstB, h2, h3]
            case kq =>
              intro p hp
              rcases List.mem_cons.mp hp with rfl | hp
              · exact hX.1
              · exact hlt p hp
            case kp => rw [List.append_assoc]; exact ho
            case km => dsimp only; omega
          · k_steps
            refine Hold.mk ?_
            refine wpAny_If ?_
            k_steps
            refine Hold.mk ?_
            rename Fr _ _ _ _ => F1
            with_unfolding_all refine' For_invVF F1 ?kf1 ?kf2 ?_
            case kf1 => exact rfl
            case kf2 => exact rfl
            k_steps
            refine Hold.mk ?_
            rename Fr _ _ _ _ => F1
            rename News _ _ _ _ => N1
            with_unfolding_all refine' my_text (σ := List Value × Nat × Led) (fun c => (outA, listOf c.1.toArray c.2.1) :: (c.2.2 ++ news)) (fun _ => []) [] (fun j c => PTs c.2.2 c.1 (os ++ ((cst).take j).map (·, true)) ∧ ∀ p ∈ c.2.2, outA < p.1) (vs, nn, tl) rfl F1 (N1) (List.forall_mem_nil _) ⟨by simpa using hpt, hlt⟩ ?fturn ?fdone
            case fturn =>
              rintro ⟨vs2, nn2, tl2⟩ j n2 tn u2 h2 tk2 own hj hown ⟨hpt2, hlt2⟩ F3 N3
              clear F1 N1
              dsimp only at hj hown hpt2 hlt2 F3 N3 ⊢
              simp only [List.cons_append] at N3
              have hoff2 : ∀ p ∈ tl2 ++ news ++ own, p.1 ≠ outA := by
                intro p hp
                rcases List.mem_append.mp hp with hp | hp
                · rcases List.mem_append.mp hp with hp | hp
                  · exact Nat.ne_of_gt (hlt2 p hp)
                  · exact Nat.ne_of_lt (hout p hp)
                · exact hown p hp _ (by simp)
              have hvl2 : vs2.length ≤ 1000000 := by
                have := hpt2.length
                rw [← ho] at hto
                simp only [List.length_append, List.length_map, List.length_take, List.length_cons, List.length_nil] at this hto
                omega
              k_steps
              rename (outA < _ ∧ AllLt _ _) => hx
              refine grab (P := fun x => outA < x ∧ AllLt x _) hx (fun X eX hX => ?_)
              subst eX
              unfold InvEndG KJ
              refine' ⟨_, _, _, _, (outA, listOf (vs2 ++ [Value.ref X]).toArray (nn2 + 1)) :: ((X, tupO [.str (S [n2]) _, .bool true]) :: tl2 ++ news), rfl, by assumption, by assumption, by exact mem_swap2, fun p hp => .tail _ (.tail _ (List.mem_append.mpr (.inr hp))), own_new hown fun p hp => ktn_ltOf hX.2 p (List.mem_append.mpr (.inr hp)), (vs2 ++ [Value.ref X], nn2 + 1, (X, tupO [.str (S [n2]) _, .bool true]) :: tl2), rfl, List.forall_mem_nil _, ?fr, ?fp, ?fq⟩
              case fr =>
                intro z h1 h2 h3
                (try simp only [List.forall_mem_cons, List.not_mem_nil, false_implies, implies_true, and_true, ne_eq] at h2)
                (try simp only [List.contains_cons, List.contains_nil, Bool.or_false, Bool.or_eq_false_iff, beq_eq_false_iff_ne, ne_eq] at h3)
                simp [kstB, h1, h2, h3]
              case fp =>
                have e9 : (cst).take (j + 1) = (cst).take j ++ [n2] := by rw [List.take_add_one, hj]; rfl
                rw [e9, List.map_append, ← List.append_assoc]
                exact (hpt2.mono fun p hp => .tail _ hp).snoc ⟨X, _, rfl, .head _⟩
              case fq =>
                intro p hp
                rcases List.mem_cons.mp hp with rfl | hp
                · exact hX.1
                · exact hlt2 p hp
            case fdone =>
              rintro ⟨vs2, nn2, tl2⟩ u2 h2 tk2 ⟨hpt2, hlt2⟩ F3 N3
              clear F1 N1
              dsimp only at hpt2 hlt2 F3 N3 ⊢
              rw [List.take_length] at hpt2
              k_steps
              unfold KswEnd
              refine' ⟨(⟨en, _, [c], _, vs2, nn2, tl2, _⟩ : Sq), _, _, _, _, rfl, by assumption, by assumption, fun _ h => h, trivial, ?kk, ?ks, ⟨.inr ⟨_, rfl⟩, hpt2, hlt2, _, by assumption, ?kp⟩, ?km⟩
              case kk =>
                exact List.forall_mem_cons.mpr ⟨by with_unfolding_all rfl, List.forall_mem_cons.mpr ⟨by with_unfolding_all rfl, List.forall_mem_nil _⟩⟩
              case ks =>
                intro z h2 h3
                (try simp only [List.forall_mem_cons, List.not_mem_nil, false_implies, implies_true, and_true, ne_eq] at h2)
                (try simp only [List.contains_cons, List.contains_nil, Bool.or_false, Bool.or_eq_false_iff, beq_eq_false_iff_ne, ne_eq] at h3)
                simp [kstB, h2, h3]
              case kp => rw [List.append_assoc]; exact ho
              case km => dsimp only; omega
    · have hip : i = p ∧ o' = [] ∧ la = laf := by
        have hnone : l[i]? = none := List.getElem?_eq_none (by omega)
        cases hr with
        | nil => exact ⟨rfl, rfl, rfl⟩
        | blank h1 => rw [hnone] at h1; cases h1
        | plain h1 => rw [hnone] at h1; cases h1
        | digit h1 => rw [hnone] at h1; cases h1
        | quote h1 => rw [hnone] at h1; cases h1
        | holl h1 => rw [hnone] at h1; cases h1
      obtain ⟨rfl, rfl, rfl⟩ := hip
      have hpl : i = l.length := by
        rcases hb with hb | hb
        · exact hb
        · exact absurd (by cases hb with
            | quote h1 h2 => exact (List.getElem?_eq_some_iff.mp h1).1
            | holl h1 h2 => exact (List.getElem?_eq_some_iff.mp h1).1) hi
      k_steps
      with_unfolding_all refine' WOut.mk (⟨i, ti, _, tla, vs, nn, tl, os⟩ : Sq) (by assumption) (by assumption) (fun _ h => h) ?kk ?ks ⟨by rw [List.append_nil] at ho; rw [← ho]; exact hpt, hlt, hpl⟩
      case kk =>
        exact List.forall_mem_cons.mpr ⟨by with_unfolding_all rfl, List.forall_mem_cons.mpr ⟨by with_unfolding_all rfl, List.forall_mem_nil _⟩⟩
      case ks =>
        intro z h2 h3
        (try simp only [List.forall_mem_cons, List.not_mem_nil, false_implies, implies_true, and_true, ne_eq] at h2)
        (try simp only [List.contains_cons, List.contains_nil, Bool.or_false, Bool.or_eq_false_iff, beq_eq_false_iff_ne, ne_eq] at h3)
        simp [kstB, h2, h3]
  case done =>
    rintro ⟨i, ti, la, tla, vs, nn, tl, os⟩ u h tk ⟨hpt, hlt, rfl⟩ F2 N2
    clear F1 N1
    dsimp only at hpt hlt F2 N2 ⊢
    k_steps
    refine hret _ ((outA, listOf vs.toArray nn) :: tl) _ _ (by k_asm) (by k_asm) ?_ ⟨rfl, _, vs, nn, tl, rfl, rfl, hpt⟩
    intro q hq p hp
    rcases List.mem_cons.mp hp with rfl | hp
    · exact hout q hq
    · exact Nat.lt_trans (hout q hq) (hlt p hp)
end

theorem PTs.get {led : Led} {vs : List Value} {os : List (Nat × Bool)} (h : PTs led vs os) : ∀ {i : Nat} {v : Value}, vs[i]? = some v → ∃ o, os[i]? = some o ∧ PT led v o := by
  induction h with
  | nil => intro i v h; simp at h
  | cons h1 _ ih =>
    intro i v h
    cases i with
    | zero => rw [List.getElem?_cons_zero] at h; injection h with h; subst h; exact ⟨_, rfl, h1⟩
    | succ i => rw [List.getElem?_cons_succ] at h; obtain ⟨o, ho, hp⟩ := ih h; exact ⟨o, ho, hp⟩
theorem mem_of_news {h₀ h : Heap} {L : Addr} {x p : Addr × Obj} {tl news own : Led} (_N : News h₀ L h (x :: (tl ++ news) ++ own)) (hm : p ∈ tl) : p ∈ x :: (tl ++ news) ++ own :=
  List.mem_append_left own (List.mem_cons_of_mem _ (List.mem_append_left news hm))
section
local macro_rules | `(tactic| walk_at "exec For Tuple Call cons nil") => `(tactic| (refine Hold.out ?_))
local macro_rules | `(tactic| walk_at "pyIter ref") => `(tactic| (refine Hold.out ?_))
local macro_rules | `(tactic| walk_at "call ref") => `(tactic| ((with_reducible show wpAny _ _ (PySem.call (Value.ref 107) _) _ _ _); k_here; k_dflt (refine' conx_use' (squeeze_x _ _ _ _ _ _ _ (by assumption) (by assumption) (by assumption) (by assumption) (by assumption)) ?k1 ?_ ?_); (case k1 => walk_at "mine con"); (intro r' tl' h' tk' F' N' ho' hpost'; obtain ⟨hp9, q', vs', nn', tl9', h7, h8, hpts'⟩ := hpost'; subst h7; subst h8; simp only [List.cons_append] at N'); rotate_left 1; (intro e' d' g2' h' tk' bad' F' U' R'); rotate_left 1))
theorem squeezed_x (w : World) (news : Led) (l : List Nat) (t : Tok) (total : List (Nat × Bool)) (laf : List Nat) (p : Nat) (hl : l.length ≤ 300000) (hto : total.length ≤ 1000000) (hsm : ∀ c ∈ l, c < 97) (h : Run l [] 0 total laf p) (hb : p = l.length ∨ Bad l laf p) :
   ConX w 114 9 news [.str (S l) t] (fun r tl => p = l.length ∧ tl = [] ∧ ∃ t', r = .str (S (total.map (·.1))) t') (Bad l laf p) p := by
  unfold ConX
  k_fill
  intro mean mg mb dp un gd cn cs a ccd outer A₀ base h₀ L m s Q E B F X N T hk hdl hul hret hrai
  w_top off
  refine wpAny_call ?_
  k_dflt ktr_enter
  k_steps
  refine Hold.mk ?_
  refine wpAny_For ?_ (by intro _; rfl)
  k_steps
  rotate_left 1
  · rename Bad _ _ _ => hb9
    rename RaisedD _ _ _ _ _ _ => R9
    rename Fr _ _ _ _ => F9
    rename Below _ _ _ _ => B9
    rename Heap.UpToSlots _ _ => U9
    (try k_whole)
    refine leave_on_D B9 F9 R9 U9 (fun h' R U => ?_)
    refine hrai _ _ _ h' _ hb9 (by assumption) U R
  refine Hold.mk ?_
  rename PTs _ _ _ => hpts
  rename (p = l.length) => hp9
  rename Fr _ _ _ _ => F1
  rename News _ _ _ _ => N1
  with_unfolding_all refine' my_listT (σ := List Nat × Tok) (fun _ => _) (fun c => [(Str.ofString "row", .str (S c.1) c.2)]) [Str.ofString "sign", Str.ofString "is_inside"] (fun i c => c.1 = (total.take i).map (·.1)) ([], _) rfl (fun _ => List.Mem.head _) F1 N1 ?hk rfl ?turn ?done
  case hk => exact List.forall_mem_cons.mpr ⟨by with_unfolding_all rfl, List.forall_mem_nil _⟩
  case turn =>
    rintro ⟨ro, tro⟩ i v u h tk own hv hown hro F2 N2
    obtain ⟨o, ho, a, t2, rfl, hm⟩ := hpts.get hv
    clear F1 N1
    dsimp only at hro F2 N2 ⊢
    have hm2 := mem_of_news N2 hm
    have hrl : ro.length ≤ 1000000 := by
      rw [hro, List.length_map, List.length_take]; omega
    k_steps
    unfold InvEndG KT
    refine' ⟨_, _, _, _, _, rfl, by assumption, by assumption, fun p hp => List.mem_append_left _ hp, fun p hp => List.mem_append_right _ hp, by assumption, (ro ++ [o.1], _), rfl, ?kk, ?ks, ?kp⟩
    case kk => exact List.forall_mem_cons.mpr ⟨by rw [← S_append]; with_unfolding_all rfl, List.forall_mem_nil _⟩
    case ks =>
      intro z h2 h3
      (try simp only [List.forall_mem_cons, List.not_mem_nil, false_implies, implies_true, and_true, ne_eq] at h2)
      (try simp only [List.contains_cons, List.contains_nil, Bool.or_false, Bool.or_eq_false_iff, beq_eq_false_iff_ne, ne_eq] at h3)
      simp [kstB, h2, h3]
    case kp =>
      dsimp only
      rw [List.take_add_one, ho, List.map_append, hro]; rfl
  case done =>
    rintro ⟨ro, tro⟩ u h tk hro F2 N2
    clear F1 N1
    dsimp only at hro F2 N2 ⊢
    rw [hpts.length, List.take_length] at hro
    k_steps
    rename (News h₀ L _ _) => N9
    exact hret _ [] _ _ (by k_asm) (fun p hp => N9 p (List.mem_cons_of_mem _ (List.mem_append_right _ hp))) (fun _ _ _ h9 => nomatch h9) ⟨hp9, rfl, _, by rw [hro]⟩
end

theorem bad_lt {l la : List Nat} {p : Nat} (h : Bad l la p) : p < l.length := by
  cases h with
  | quote h1 _ => exact (List.getElem?_eq_some_iff.mp h1).1
  | holl h1 => exact (List.getElem?_eq_some_iff.mp h1).1
noncomputable def wrongOf (n : Nat) : List Nat := wrongL.getD (n % 4) []
theorem wrongOf_get (n : Nat) : wrongL[n % 4]? = some (wrongOf n) := by
  have h : ∀ i : Nat, i < 4 → wrongL[i]? = some (wrongL.getD i []) := by decide
  exact h _ (Nat.mod_lt _ (by omega))
theorem wrongOf_len (n : Nat) : (wrongOf n).length ≤ 5 := by
  have h : ∀ i : Nat, i < 4 → (wrongL.getD i []).length ≤ 5 := by decide
  exact h _ (Nat.mod_lt _ (by omega))
theorem wrongOf_small (n : Nat) : ∀ c ∈ wrongOf n, c < 97 := by
  have h : ∀ i : Nat, i < 4 → ∀ c ∈ wrongL.getD i [], c < 97 := by decide
  exact h _ (Nat.mod_lt _ (by omega))

/-! the plain law of squeezed -/
theorem drop_cons {l r : List Nat} {i c : Nat} (h : l.drop i = c :: r) : l[i]? = some c ∧ l.drop (i + 1) = r := by
  constructor
  · have := congrArg List.head? h
    rwa [List.head?_drop] at this
  · have := congrArg (List.drop 1) h
    rwa [List.drop_drop] at this
theorem drop_more {l a b : List Nat} {i : Nat} (h : l.drop i = a ++ b) : l.drop (i + a.length) = b := by
  have := congrArg (List.drop a.length) h
  rwa [List.drop_drop, List.drop_left] at this
theorem Run.app {l la la1 la2 : List Nat} {a b c : Nat} {o o2 : List (Nat × Bool)} (h : Run l la a o la1 b) (h2 : Run l la1 b o2 la2 c) : Run l la a (o ++ o2) la2 c := by
  induction h with
  | nil => exact h2
  | blank x _ ih => exact .blank x (ih h2)
  | plain x1 x2 x3 x4 _ ih => exact .plain x1 x2 x3 x4 (ih h2)
  | digit x1 x2 x3 x4 x5 x6 _ ih => exact .digit x1 x2 x3 x4 x5 x6 (ih h2)
  | quote x1 x2 x3 x4 _ ih => rw [List.append_assoc]; exact .quote x1 x2 x3 x4 (ih h2)
  | holl x1 x2 x3 x4 x5 x6 x7 x8 x9 _ ih => rw [List.append_assoc]; exact .holl x1 x2 x3 x4 x5 x6 x7 x8 x9 (ih h2)
theorem Run.to {l la la1 : List Nat} {a b c : Nat} {o : List (Nat × Bool)} (h : Run l la a o la1 b) (e : b = c) : Run l la a o la1 c := e ▸ h
/-- cur is p with blanks put in -/
inductive Ins : List Nat → List Nat → Prop
  | nil : Ins [] []
  | blank {cur p} : Ins cur p → Ins (32 :: cur) p
  | sign {cur p} (c : Nat) : c ≠ 32 → Ins cur p → Ins (c :: cur) (c :: p)
theorem Ins.pad {cur p : List Nat} (h : Ins cur p) : ∀ k : Nat, Ins (List.replicate k 32 ++ cur) p
  | 0 => h
  | k + 1 => by rw [List.replicate_succ]; exact .blank (h.pad k)
theorem padN_ex (n : Nat) : ∃ k, padN n = List.replicate k 32 := by
  unfold padN
  split
  · exact ⟨_, rfl⟩
  · exact ⟨0, rfl⟩
theorem ins_laid : ∀ (p : List Nat) (n : Nat), 32 ∉ p → Ins (laid p n) p
  | [], _, _ => .nil
  | c :: cs, n, h => by
    unfold laid
    obtain ⟨k, hk⟩ := padN_ex n
    rw [hk]
    exact (Ins.sign c (fun e => h (by rw [e]; exact .head _)) (ins_laid cs _ fun hm => h (.tail _ hm))).pad k
/-- each sign of p stands by itself, behind la -/
noncomputable def Lone : List Nat → List Nat → Prop
  | _, [] => True
  | la, c :: cs => c ≠ 39 ∧ (¬ (Dig c ∧ AH la) ∨ (Dig c ∧ AH la ∧ ∃ d r, cs = d :: r ∧ ¬ Dig d ∧ d ≠ 72)) ∧ Lone [c] cs
noncomputable def lastOf : List Nat → List Nat → List Nat
  | la, [] => la
  | _, c :: cs => lastOf [c] cs
theorem cN_ins {cur q : List Nat} (h : Ins cur q) : ∀ {d : Nat} {r post : List Nat} {n : Int} {e : Nat}, q = d :: r → ¬ Dig d → ∃ k, cN (cur ++ post) n e = (n, e + k) ∧ (cur ++ post)[k]? = some d := by
  induction h with
  | nil => intro d r post n e h; cases h
  | @blank cur p _ ih =>
    intro d r post n e h hd
    obtain ⟨k, h1, h2⟩ := ih (post := post) (n := n) (e := e + 1) h hd
    refine ⟨k + 1, ?_, by rw [List.cons_append, List.getElem?_cons_succ]; exact h2⟩
    rw [List.cons_append]
    unfold cN
    rw [if_pos rfl, h1, show e + 1 + k = e + (k + 1) from by omega]
  | @sign cur p c hc _ _ =>
    intro d r post n e h hd
    injection h with h1 h2
    subst h1
    refine ⟨0, ?_, rfl⟩
    rw [List.cons_append]
    unfold cN
    rw [if_neg hc, if_neg (show ¬ (48 ≤ c ∧ c ≤ 57) from hd)]; rfl
theorem run_ins {l post : List Nat} {cur p : List Nat} (h : Ins cur p) : ∀ {la : List Nat} {i : Nat}, Lone la p → l.drop i = cur ++ post → Run l la i (p.map (·, false)) (lastOf la p) (i + cur.length) := by
  induction h with
  | nil => intro la i _ _; exact .nil
  | @blank cur p _ ih =>
    intro la i hp hl
    obtain ⟨h1, h2⟩ := drop_cons (show l.drop i = 32 :: (cur ++ post) from hl)
    have := ih (la := la) (i := i + 1) hp h2
    rw [List.length_cons, show i + (cur.length + 1) = i + 1 + cur.length from by omega]
    exact .blank h1 this
  | @sign cur p c hc hi ih =>
    intro la i hp hl
    obtain ⟨h1, h2⟩ := drop_cons (show l.drop i = c :: (cur ++ post) from hl)
    obtain ⟨hq, hd, hr⟩ := hp
    have := ih (la := [c]) (i := i + 1) hr h2
    rw [List.length_cons, show i + (cur.length + 1) = i + 1 + cur.length from by omega]
    rcases hd with hd | ⟨hd, ha, d, r, rfl, hnd, hn72⟩
    · exact .plain h1 hc hq hd this
    · have hd' := hd
      obtain ⟨hd1, hd2⟩ := hd
      obtain ⟨k, hk1, hk2⟩ := cN_ins hi (post := post) (n := ((if (0 : Int) > -1 then 0 else -1) * 10 + ((c : Int) - 48))) (e := i + 1) rfl hnd
      have hcn : cN (l.drop i) (-1) i = (((if (0 : Int) > -1 then 0 else -1) * 10 + ((c : Int) - 48)), i + 1 + k) := by
        rw [hl, List.cons_append]
        conv => lhs; unfold cN
        rw [if_neg hc, if_pos (show 48 ≤ c ∧ c ≤ 57 from hd'), hk1]
      refine .digit h1 hd' ha hcn ?_ (.inr ?_) this
      · have : ((if (0 : Int) > -1 then 0 else -1) * 10 + ((c : Int) - 48)) = (c : Int) - 48 := by rw [if_pos (by omega)]; omega
        rw [this]; omega
      · have h9 : (l.drop (i + 1))[k]? = some d := by rw [h2]; exact hk2
        rw [List.getElem?_drop] at h9
        rw [h9]
        intro h
        injection h with h
        exact hn72 h
theorem cE_dbl : ∀ (x : List Nat) {post : List Nat} {k : Nat}, post.head? ≠ some 39 → cE (StrLaws.dbl 39 x ++ 39 :: post) k = some (k + (StrLaws.dbl 39 x).length + 1)
  | [], post, k, h => by
    show cE (39 :: post) k = some (k + 1)
    unfold cE
    rw [if_pos rfl]
    split
    · exact absurd rfl h
    · rfl
  | c :: r, post, k, h => by
    unfold StrLaws.dbl
    by_cases hc : c = 39
    · subst hc
      rw [if_pos rfl]
      show cE (39 :: 39 :: (StrLaws.dbl 39 r ++ 39 :: post)) k = _
      unfold cE
      rw [if_pos rfl]
      show cE (StrLaws.dbl 39 r ++ 39 :: post) (k + 2) = _
      rw [cE_dbl r h]
      simp only [List.length_cons]
      rw [show k + 2 + (StrLaws.dbl 39 r).length + 1 = k + ((StrLaws.dbl 39 r).length + 1 + 1) + 1 from by omega]
    · rw [if_neg hc]
      show cE (c :: (StrLaws.dbl 39 r ++ 39 :: post)) k = _
      unfold cE
      rw [if_neg hc, cE_dbl r h]
      simp only [List.length_cons]
      rw [show k + 1 + (StrLaws.dbl 39 r).length + 1 = k + ((StrLaws.dbl 39 r).length + 1) + 1 from by omega]
theorem cN_pad (k : Nat) (r : List Nat) : ∀ (n : Int) (e : Nat), cN (List.replicate k 32 ++ r) n e = cN r n (e + k) := by
  induction k with
  | zero => intro n e; rfl
  | succ k ih =>
    intro n e
    rw [List.replicate_succ, List.cons_append]
    conv => lhs; unfold cN
    rw [if_pos rfl, ih, show e + 1 + k = e + (k + 1) from by omega]
noncomputable def accN : Int → List Nat → Int
  | n, [] => n
  | n, c :: r => accN ((if 0 > n then 0 else n) * 10 + ((c : Int) - 48)) r
theorem cN_laid : ∀ (ds : List Nat) (s : Nat) (r : List Nat) (n : Int) (e : Nat), (∀ d ∈ ds, Dig d) → cN (laid ds s ++ r) n e = cN r (accN n ds) (e + (laid ds s).length)
  | [], _, _, _, _, _ => rfl
  | d :: ds, s, r, n, e, h => by
    have hd := h d (.head _)
    obtain ⟨k, hk⟩ := padN_ex s
    unfold laid
    rw [hk, List.append_assoc, cN_pad, List.cons_append]
    conv => lhs; unfold cN
    rw [if_neg (by obtain ⟨a, b⟩ := hd; omega), if_pos (show 48 ≤ d ∧ d ≤ 57 from hd), cN_laid ds _ r _ _ fun d hd => h d (.tail _ hd)]
    simp only [List.length_append, List.length_cons, List.length_replicate]
    rw [show e + k + 1 + (laid ds (nextN s)).length = e + (k + ((laid ds (nextN s)).length + 1)) from by omega]
    rfl
theorem laid_app : ∀ (a b : List Nat) (s : Nat), ∃ s', laid (a ++ b) s = laid a s ++ laid b s'
  | [], b, s => ⟨s, rfl⟩
  | c :: a, b, s => by
    obtain ⟨s', h⟩ := laid_app a b (nextN s)
    exact ⟨s', by show padN s ++ c :: laid (a ++ b) (nextN s) = padN s ++ c :: laid a (nextN s) ++ laid b s'; rw [h, List.append_assoc]; rfl⟩
theorem digs_dig (m : Nat) (hm : m < 12) : (∀ d ∈ digs m, Dig d) ∧ accN (-1) (digs m) = (m : Int) ∧ ∃ d r, digs m = d :: r := by
  have h : ∀ m : Nat, m < 12 → (∀ d ∈ digs m, 48 ≤ d ∧ d ≤ 57) ∧ accN (-1) (digs m) = (m : Int) := by decide
  have h2 : ∀ m : Nat, m < 12 → digs m ≠ [] := by decide
  obtain ⟨a, b⟩ := h m hm
  refine ⟨a, b, ?_⟩
  cases hq : digs m with
  | nil => exact absurd hq (h2 m hm)
  | cons d r => exact ⟨d, r, rfl⟩
theorem AH_ahead (n : Nat) : AH [aheadOf n] := ⟨_, rfl, by rcases aheadOf_ok n with h | h | h | h <;> rw [h] <;> decide⟩
theorem lone_ahead (n : Nat) (la : List Nat) : Lone la [aheadOf n] ∧ aheadOf n ≠ 32 := by
  rcases aheadOf_ok n with h | h | h | h <;> rw [h] <;> exact ⟨⟨by decide, .inl (fun x => by obtain ⟨⟨a, b⟩, _⟩ := x; omega), trivial⟩, by decide⟩
/-- the seven plain pieces -/
theorem lone_plain (n : Nat) (la : List Nat) : Lone la (plainOf n) ∧ 32 ∉ plainOf n := by
  have nd : ∀ {c : Nat} {la : List Nat}, ¬ (48 ≤ c ∧ c ≤ 57) → ¬ (Dig c ∧ AH la) := fun h x => h x.1
  have na : ∀ {c k : Nat}, k ∉ [40, 44, 47, 58] → ¬ (Dig c ∧ AH [k]) := fun h x => by
    obtain ⟨_, j, e, hj⟩ := x
    injection e with e
    subst e
    exact h hj
  have h : ∀ i : Nat, i < 7 → Lone la (plainL.getD i []) ∧ 32 ∉ plainL.getD i [] := by
    intro i hi
    match i, hi with
    | 0, _ => exact ⟨⟨by decide, .inl (nd (by decide)), by decide, .inl (nd (by decide)), by decide, .inl (nd (by decide)), by decide, .inr ⟨⟨by decide, by decide⟩, ⟨_, rfl, by decide⟩, _, _, rfl, fun h => (by obtain ⟨a, b⟩ := h; omega), by decide⟩, by decide, .inl (nd (by decide)), trivial⟩, by decide⟩
    | 1, _ => exact ⟨⟨by decide, .inl (nd (by decide)), by decide, .inl (nd (by decide)), trivial⟩, by decide⟩
    | 2, _ => exact ⟨⟨by decide, .inl (nd (by decide)), by decide, .inl (nd (by decide)), trivial⟩, by decide⟩
    | 3, _ => exact ⟨⟨by decide, .inl (nd (by decide)), trivial⟩, by decide⟩
    | 4, _ => exact ⟨⟨by decide, .inl (nd (by decide)), by decide, .inl (nd (by decide)), by decide, .inl (nd (by decide)), by decide, .inl (na (by decide)), by decide, .inl (nd (by decide)), by decide, .inl (nd (by decide)), trivial⟩, by decide⟩
    | 5, _ => exact ⟨⟨by decide, .inl (nd (by decide)), by decide, .inl (nd (by decide)), by decide, .inl (nd (by decide)), trivial⟩, by decide⟩
    | 6, _ => exact ⟨⟨by decide, .inl (nd (by decide)), by decide, .inl (nd (by decide)), by decide, .inr ⟨⟨by decide, by decide⟩, ⟨_, rfl, by decide⟩, _, _, rfl, fun h => (by obtain ⟨a, b⟩ := h; omega), by decide⟩, by decide, .inl (nd (by decide)), trivial⟩, by decide⟩
    | i + 7, hi => exact absurd hi (by omega)
  exact h _ (Nat.mod_lt _ (by omega))
theorem map_fst (f : Bool) (p : List Nat) : (p.map (·, f)).map (·.1) = p := by rw [List.map_map]; exact List.map_id p
/-- one piece is cut as it should be, wherever it stands -/
theorem piece_run (n s : Nat) {l post la : List Nat} {i : Nat} (hl : l.drop i = laidOf n s ++ post) (hp : post.head? ≠ some 39) : ∃ o la', Run l la i o la' (i + (laidOf n s).length) ∧ o.map (·.1) = toldOf n := by
  unfold laidOf at hl ⊢
  unfold toldOf
  by_cases h1 : n % 4 < 2
  · rw [if_pos h1] at hl ⊢
    rw [if_pos h1]
    obtain ⟨a, b⟩ := lone_plain n la
    exact ⟨_, _, run_ins (ins_laid _ s b) a hl, map_fst _ _⟩
  · rw [if_neg h1] at hl ⊢
    rw [if_neg h1]
    obtain ⟨a, b⟩ := lone_ahead n la
    by_cases h2 : n % 4 = 3 ∨ innerOf n = []
    · rw [if_pos h2] at hl ⊢
      rw [List.append_assoc] at hl
      have r1 := run_ins (ins_laid [aheadOf n] s (fun h => b (List.mem_singleton.mp h).symm)) a hl
      have hl2 := drop_more hl
      obtain ⟨e1, e2⟩ := drop_cons (show l.drop (i + (laid [aheadOf n] s).length) = 39 :: (StrLaws.dbl 39 (innerOf n) ++ [39] ++ post) from hl2)
      have e3 := cE_dbl (innerOf n) (post := post) (k := i + (laid [aheadOf n] s).length + 1) hp
      have e4 : l.drop (i + (laid [aheadOf n] s).length + 1) = StrLaws.dbl 39 (innerOf n) ++ 39 :: post := by rw [e2, List.append_assoc]; rfl
      rw [← e4] at e3
      have hlen := congrArg List.length e4
      rw [List.length_drop, List.length_append, List.length_cons] at hlen
      have r2 := Run.quote (la := lastOf la [aheadOf n]) e1 e3 (by omega) (by omega) .nil
      have r12 := r1.app r2
      have hle : i + (laid [aheadOf n] s).length + 1 + (StrLaws.dbl 39 (innerOf n)).length + 1 = i + (laid [aheadOf n] s ++ 39 :: (StrLaws.dbl 39 (innerOf n) ++ [39])).length := by simp only [List.length_cons, List.length_append, List.length_nil]; omega
      refine ⟨_, _, r12.to hle, ?_⟩
      · rw [List.append_nil, List.map_append, map_fst, map_fst]
        refine congrArg (aheadOf n :: ·) ?_
        rw [List.drop_take, hl2]
        rw [show i + (laid [aheadOf n] s).length + 1 + (StrLaws.dbl 39 (innerOf n)).length + 1 - (i + (laid [aheadOf n] s).length) = (39 :: (StrLaws.dbl 39 (innerOf n) ++ [39])).length from by simp only [List.length_cons, List.length_append, List.length_nil]; omega]
        exact List.take_left
    · rw [if_neg h2] at hl ⊢
      have hin : innerOf n ≠ [] := fun h => h2 (.inr h)
      have hil := innerOf_len n
      have hi0 : (innerOf n).length ≠ 0 := fun h => hin (List.length_eq_zero_iff.mp h)
      obtain ⟨d1, d2, d, r, hdr⟩ := digs_dig (innerOf n).length hil
      have hst : laid (aheadOf n :: (digs (innerOf n).length ++ [72])) s = laid [aheadOf n] s ++ laid (digs (innerOf n).length ++ [72]) (nextN s) := by
        show padN s ++ aheadOf n :: _ = (padN s ++ [aheadOf n]) ++ _
        rw [List.append_assoc]; rfl
      obtain ⟨s3, hs3⟩ := laid_app r [72] (nextN (nextN s))
      obtain ⟨k3, hk3⟩ := padN_ex s3
      obtain ⟨k2, hk2⟩ := padN_ex (nextN s)
      have hst2 : laid (digs (innerOf n).length ++ [72]) (nextN s) = List.replicate k2 32 ++ (d :: (laid r (nextN (nextN s)) ++ (List.replicate k3 32 ++ [72]))) := by
        rw [hdr]
        show padN (nextN s) ++ d :: laid (r ++ [72]) (nextN (nextN s)) = _
        rw [hs3, hk2]
        show _ ++ d :: (laid r (nextN (nextN s)) ++ (padN s3 ++ [72])) = _
        rw [hk3]
      rw [hst, List.append_assoc, List.append_assoc] at hl
      have r1 := run_ins (ins_laid [aheadOf n] s (fun h => b (List.mem_singleton.mp h).symm)) a hl
      have hl2 := drop_more hl
      rw [hst2, List.append_assoc] at hl2
      have hl2b : l.drop (i + (laid [aheadOf n] s).length) = (List.replicate k2 32 ++ []) ++ (d :: (laid r (nextN (nextN s)) ++ (List.replicate k3 32 ++ [72])) ++ (innerOf n ++ post)) := by rw [List.append_nil]; exact hl2
      have r2 := run_ins (la := [aheadOf n]) (Ins.nil.pad k2) trivial hl2b
      rw [List.append_nil, List.length_replicate] at r2
      have hl3 := drop_more hl2
      rw [List.length_replicate] at hl3
      generalize hj : i + (laid [aheadOf n] s).length + k2 = j at r2 hl3
      obtain ⟨e1, e2⟩ := drop_cons (show l.drop j = d :: ((laid r (nextN (nextN s)) ++ (List.replicate k3 32 ++ [72])) ++ (innerOf n ++ post)) from hl3)
      have hd : Dig d := d1 d (by rw [hdr]; exact .head _)
      have hcn : cN (l.drop j) (-1) j = (((innerOf n).length : Int), j + 1 + (laid r (nextN (nextN s))).length + k3) := by
        rw [hl3, List.cons_append]
        conv => lhs; unfold cN
        rw [if_neg (by obtain ⟨a, b⟩ := hd; omega), if_pos (show 48 ≤ d ∧ d ≤ 57 from hd), List.append_assoc, cN_laid r _ _ _ _ (fun x hx => d1 x (by rw [hdr]; exact .tail _ hx)), List.append_assoc, cN_pad]
        rw [hdr] at d2
        rw [show accN ((if (0 : Int) > -1 then 0 else -1) * 10 + ((d : Int) - 48)) r = ((innerOf n).length : Int) from d2]
        show cN (72 :: _) _ _ = _
        unfold cN
        rw [if_neg (by decide), if_neg (by decide)]
      generalize he : j + 1 + (laid r (nextN (nextN s))).length + k3 = e at hcn
      have hl4 : l.drop e = 72 :: (innerOf n ++ post) := by
        have := drop_more (show l.drop (j + 1) = (laid r (nextN (nextN s)) ++ List.replicate k3 32) ++ (72 :: (innerOf n ++ post)) from by rw [e2]; simp only [List.append_assoc, List.cons_append, List.nil_append])
        rw [List.length_append, List.length_replicate, ← Nat.add_assoc, he] at this
        exact this
      obtain ⟨f1, f2⟩ := drop_cons hl4
      have hlen := congrArg List.length f2
      rw [List.length_drop, List.length_append] at hlen
      have r3 := Run.holl (la := [aheadOf n]) e1 hd (AH_ahead n) hcn (by omega) f1 (by omega) (by rw [Int.toNat_natCast]; omega) (by omega) .nil
      have hho : (hollO l j ((innerOf n).length : Int) e).1 = 39 :: StrLaws.dbl 39 (innerOf n) ++ [39] := by
        unfold hollO
        rw [if_neg (by rw [f1]; simp), Int.toNat_natCast, List.drop_take, f2, show e + 1 + (innerOf n).length - (e + 1) = (innerOf n).length from by omega, List.take_left]
      have r123 := r1.app (r2.app r3)
      rw [Int.toNat_natCast] at r123
      have hle : e + 1 + (innerOf n).length = i + (laid (aheadOf n :: (digs (innerOf n).length ++ [72])) s ++ innerOf n).length := by
        rw [hst, hst2]
        simp only [List.length_append, List.length_cons, List.length_replicate, List.length_nil]
        omega
      refine ⟨_, _, r123.to hle, ?_⟩
      · rw [hho]
        simp only [List.map_append, map_fst, List.map_nil, List.append_nil, List.nil_append]
        rfl
theorem laidOf_head (n s : Nat) (r : List Nat) : (laidOf n s ++ r).head? ≠ some 39 := by
  have key : ∀ (p : List Nat) (s : Nat), p.head? ≠ some 39 → p ≠ [] → ∀ r, (laid p s ++ r).head? ≠ some 39 := by
    intro p s h hne r
    cases p with
    | nil => exact absurd rfl hne
    | cons c cs =>
      unfold laid
      obtain ⟨k, hk⟩ := padN_ex s
      rw [hk]
      cases k with
      | zero => exact h
      | succ k => rw [List.replicate_succ]; intro h; injection h with h; omega
  have hpl : ∀ i : Nat, i < 7 → (plainL.getD i []).head? ≠ some 39 ∧ plainL.getD i [] ≠ [] := by decide
  have ha : aheadOf n ≠ 39 := by rcases aheadOf_ok n with h | h | h | h <;> rw [h] <;> decide
  have hh : ∀ q : List Nat, (aheadOf n :: q).head? ≠ some 39 := fun q h => ha (by injection h)
  unfold laidOf
  split
  · obtain ⟨a, b⟩ := hpl (n / 4 % 7) (Nat.mod_lt _ (by omega))
    exact key _ _ a b r
  · split
    · rw [List.append_assoc]; exact key _ _ (hh _) (by simp) _
    · rw [List.append_assoc]; exact key _ _ (hh _) (by simp) _
theorem text_run (ns : List Nat) : ∀ (i : Nat) (post : List Nat), post.head? ≠ some 39 → ∃ total laf, Run (textUp ns i ++ post) [] 0 total laf (textUp ns i).length ∧ total.map (·.1) = wantUp ns i := by
  intro i
  have gen : ∀ (j : Nat), j ≤ i → ∀ (l rest : List Nat), l = textUp ns j ++ rest → rest.head? ≠ some 39 → ∃ total laf, Run l [] 0 total laf (textUp ns j).length ∧ total.map (·.1) = wantUp ns j := by
    intro j
    induction j with
    | zero =>
      intro _ l rest hl hr
      have hins : Ins [67, 65, 76, 76, 32, 70] [67, 65, 76, 76, 70] := .sign _ (by decide) (.sign _ (by decide) (.sign _ (by decide) (.sign _ (by decide) (.blank (.sign _ (by decide) .nil)))))
      have nd : ∀ {c : Nat} {la : List Nat}, ¬ (48 ≤ c ∧ c ≤ 57) → ¬ (Dig c ∧ AH la) := fun h x => h x.1
      have := run_ins (l := l) (la := []) (i := 0) hins ⟨by decide, .inl (nd (by decide)), by decide, .inl (nd (by decide)), by decide, .inl (nd (by decide)), by decide, .inl (nd (by decide)), by decide, .inl (nd (by decide)), trivial⟩ (show l.drop 0 = [67, 65, 76, 76, 32, 70] ++ rest from by rw [hl]; rfl)
      exact ⟨_, _, this, map_fst _ _⟩
    | succ j ih =>
      intro hj l rest hl hr
      rw [textUp_succ, List.append_assoc] at hl
      obtain ⟨t1, la1, r1, w1⟩ := ih (by omega) l _ hl (laidOf_head _ _ _)
      have hd : l.drop (textUp ns j).length = laidOf (ns.getD (1 + 2 * j) 0) (ns.getD (2 + 2 * j) 0) ++ rest := by rw [hl]; exact List.drop_left
      obtain ⟨o2, la2, r2, w2⟩ := piece_run _ _ (la := la1) hd hr
      have r12 := r1.app r2
      rw [← List.length_append, ← textUp_succ] at r12
      exact ⟨_, _, r12, by rw [wantUp_succ, List.map_append, w1, w2]⟩
  intro post hp
  exact gen i (Nat.le_refl _) _ post rfl hp
theorem run_ok (ns : List Nat) (i : Nat) (hi : i ≤ 1000) : ∃ total laf, Run (textUp ns i) [] 0 total laf (textUp ns i).length ∧ total.map (·.1) = wantUp ns i ∧ total.length ≤ 1000000 := by
  obtain ⟨total, laf, h1, h2⟩ := text_run ns i [] (by simp)
  rw [List.append_nil] at h1
  refine ⟨total, laf, h1, h2, ?_⟩
  have := congrArg List.length h2
  rw [List.length_map] at this
  have h3 := wantUp_len ns i
  omega
theorem wrong_ok (ns : List Nat) (i n : Nat) (hi : i ≤ 1000) : ∃ total laf, Run (textUp ns i ++ wrongOf n) [] 0 total laf ((textUp ns i).length + 1) ∧ Bad (textUp ns i ++ wrongOf n) laf ((textUp ns i).length + 1) ∧ total.length ≤ 1000000 := by
  have key : ∀ (c : Nat) (q : List Nat), (c = 44 ∨ c = 40 ∨ c = 47) → ∃ total, Run (textUp ns i ++ c :: q) [] 0 total [c] ((textUp ns i).length + 1) ∧ total.length ≤ 1000000 ∧ (textUp ns i ++ c :: q).drop ((textUp ns i).length + 1) = q ∧ (textUp ns i ++ c :: q).length = (textUp ns i).length + 1 + q.length := by
    intro c q hc
    obtain ⟨total, laf, h1, h2⟩ := text_run ns i (c :: q) (by rcases hc with rfl | rfl | rfl <;> simp)
    have hd : (textUp ns i ++ c :: q).drop (textUp ns i).length = c :: q := List.drop_left
    obtain ⟨e1, e2⟩ := drop_cons hd
    refine ⟨_, h1.app (.plain e1 ?_ ?_ ?_ .nil), ?_, e2, ?_⟩
    · rcases hc with rfl | rfl | rfl <;> decide
    · rcases hc with rfl | rfl | rfl <;> decide
    · rintro ⟨⟨a, b⟩, _⟩
      rcases hc with rfl | rfl | rfl <;> omega
    · have := congrArg List.length h2
      rw [List.length_map] at this
      have h3 := wantUp_len ns i
      rw [List.length_append, List.length_singleton]; omega
    · rw [List.length_append, List.length_cons]; omega
  have hbad : ∀ (c d m : Nat) (q : List Nat), (c = 44 ∨ c = 40 ∨ c = 47) → Dig d → (d : Int) - 48 = (m : Int) → ¬ (1 ≤ m ∧ 2 + m ≤ 2 + q.length) → ∃ total laf, Run (textUp ns i ++ c :: d :: 72 :: q) [] 0 total laf ((textUp ns i).length + 1) ∧ Bad (textUp ns i ++ c :: d :: 72 :: q) laf ((textUp ns i).length + 1) ∧ total.length ≤ 1000000 := by
    intro c d m q hc hd hm hb
    obtain ⟨total, h1, h2, h3, h4⟩ := key c (d :: 72 :: q) hc
    obtain ⟨e1, e2⟩ := drop_cons h3
    obtain ⟨f1, f2⟩ := drop_cons e2
    have hd' := hd
    obtain ⟨hd1, hd2⟩ := hd
    refine ⟨total, _, h1, .holl (n := (m : Int)) (e := (textUp ns i).length + 1 + 1) e1 hd' ⟨c, rfl, by rcases hc with rfl | rfl | rfl <;> decide⟩ ?_ (by omega) ?_ ?_, h2⟩
    · rw [h3]
      unfold cN
      rw [if_neg (by omega), if_pos (show 48 ≤ d ∧ d ≤ 57 from hd')]
      unfold cN
      rw [if_neg (by decide), if_neg (by decide), if_pos (by omega), ← hm]
      simp
    · rw [f1]; simp
    · rw [h4, Int.toNat_natCast]
      simp only [List.length_cons]
      intro h; apply hb; omega
  have hw : wrongOf n = [44, 39, 65, 66] ∨ wrongOf n = [44, 57, 72, 65, 66] ∨ wrongOf n = [40, 48, 72, 65] ∨ wrongOf n = [47, 51, 72, 65, 32] := by
    have h : ∀ i : Nat, i < 4 → wrongL.getD i [] = [44, 39, 65, 66] ∨ wrongL.getD i [] = [44, 57, 72, 65, 66] ∨ wrongL.getD i [] = [40, 48, 72, 65] ∨ wrongL.getD i [] = [47, 51, 72, 65, 32] := by decide
    exact h _ (Nat.mod_lt _ (by omega))
  rcases hw with h | h | h | h
  · rw [h]
    obtain ⟨total, h1, h2, h3, h4⟩ := key 44 [39, 65, 66] (.inl rfl)
    obtain ⟨e1, e2⟩ := drop_cons h3
    refine ⟨total, _, h1, .quote e1 ?_, h2⟩
    rw [e2]
    rfl
  · rw [h]; exact hbad 44 57 9 [65, 66] (.inl rfl) ⟨by decide, by decide⟩ (by decide) (by decide)
  · rw [h]; exact hbad 40 48 0 [65] (.inr (.inl rfl)) ⟨by decide, by decide⟩ (by decide) (by decide)
  · rw [h]; exact hbad 47 51 3 [65, 32] (.inr (.inr rfl)) ⟨by decide, by decide⟩ (by decide) (by decide)

section
local macro_rules | `(tactic| walk_at "eval Constant str") => `(tactic| (refine' s_lit ?sh ?_; (case sh => first | exact lit_callf | exact lit_call_f)))
local macro_rules | `(tactic| walk_at "call ref") => `(tactic| ((with_reducible show wpAny _ _ (PySem.call (Value.ref 269) _) _ _ _); refine Hold.out ?_))
local macro_rules | `(tactic| walk_at "compareOp NotEq ref ref") => `(tactic| (refine Hold.out ?_))
local macro_rules | `(tactic| walk_at "binaryOp Add ref ref") => `(tactic| ((rename RowsOk _ _ _ _ _ => hx9); refine Hold.out ?_))
local macro_rules | `(tactic| walk_at "call builtin:str.join") => `(tactic| (refine Hold.out ?_))
local macro_rules | `(tactic| walk_at "call ref") => `(tactic| ((with_reducible show wpAny _ _ (PySem.call (Value.ref 276) _) _ _ _); refine Hold.out ?_))
local macro_rules | `(tactic| walk_at "call ref") => `(tactic| ((with_reducible show wpAny _ _ (PySem.call (Value.ref 234) _) _ _ _); refine Hold.out ?_))
local macro_rules | `(tactic| walk_at "call ref") => `(tactic| ((with_reducible show wpAny _ _ (PySem.call (Value.ref 114) _) _ _ _); refine Hold.out ?_))
local macro_rules | `(tactic| walk_at "call ref") => `(tactic| ((with_reducible show wpAny _ _ (PySem.call (Value.ref 255) _) _ _ _); refine Hold.out ?_))
local macro_rules | `(tactic| walk_at "inplaceOp Add str str") => `(tactic| walk_at "mine h6")
local macro_rules | `(tactic| walk_at "subscriptTail Name Name ref int") => `(tactic| (refine Hold.out ?_))
local macro_rules | `(tactic| walk_at "subscriptTail Name BinOp ref int") => `(tactic| (refine Hold.out ?_))
local macro_rules | `(tactic| walk_at "subscriptTail Call Name nil nil BinOp ref int") => `(tactic| (refine Hold.out ?_))
local macro_rules | `(tactic| walk_at "getAttr ref") => `(tactic| ((rename (lookIn _ _ = some (some _)) => hx9); refine Hold.out ?_))
local macro_rules | `(tactic| walk_at "subscriptTail Name Constant ref int") => `(tactic| ((rename SVs _ wrongL => hx9); refine Hold.out ?_))
local macro_rules | `(tactic| walk_at "subscriptTail BinOp Name Add List Slice ref ref") => `(tactic| (k_dflt (refine kba_turn (value' := PySem.Expr.Name (PySem.Str.ofString "_") ⟨0, 0, 0, 0⟩) (fun _ => rfl) ?_)))
local macro_rules | `(tactic| walk_at "pyIter ref") => `(tactic| (refine Hold.out ?_))
local macro_rules | `(tactic| walk_at "exec If Compare cons nil") => `(tactic| (refine Hold.out ?_))
theorem law_holds : PySem.Challenge.rw_no0243_01.Holds := hd (by rfl) (by rfl) (by rfl) (by w_witness2) (by
  k_fill
  intro w s₀ s₁ mg mb G Y fa o pm cd doc dV kV ho hd hcd hD hmg hg args vals as hpre hlay hrd hwl hlo
  have KX := kIn_of Y
  have X := (Ground.X G).1
  have V := (Ground.X G).2
  refine Ground.open G ?_
  intro T B D TE TW
  refine guard_noD D (by decide +kernel) ?_
  clear D
  obtain ⟨_, _, M⟩ := bmod_of_top T
  have TA := at_of_top T
  obtain ⟨_, _, he, B0⟩ := based_of_top T rfl hmg ho hd
  have he' : cd = _ := he
  subst he'
  clear he hmg
  wrow_args hpre hlay hrd hwl hlo
  refine enter_call ?_
  w_top on
  try refine codeAny_mono ?_ (fun _ _ g => GoodW.toG g)
  have K0 := below_caller (Top.heap T)
  w_call any ho hd hcd hD T F
  clear hd TA
  k_drop
  all_goals try k_fold
  k_steps
  rename Shared => s1
  rename List Int => zs
  refine Hold.mk ?_
  refine wpAny_mono (Q := CellsOk s1) ?_ ?_ (fun _ _ x => x)
  · refine wpAny_If ?_
    rename (IntsAre _ (List.map _ _)) => hI8
    rw [cells_eq] at hI8
    rename (_ = (List.map _ (List.take 18 zs)).length) => hL8
    rw [cells_eq, List.length_map] at hL8
    have hcl := cells_len zs
    have hzl : (List.map (fun n : Nat => (n : Int)) (cellsN zs)).length ≤ 18 := by rw [List.length_map]; exact hcl
    k_steps
    · rename (IntsAre _ (List.take 4 _)) => hI9
      rename ((_ : Int) < 4) => hlt
      rename News _ _ _ _ => N9
      have e9 : List.take 4 (List.map (fun n : Nat => (n : Int)) (cellsN zs) ++ [0, 2, 7, 5]) = List.map (fun n : Nat => (n : Int)) ((cellsN zs ++ [0, 2, 7, 5]).take 4) := by
        rw [List.map_take, List.map_append]; rfl
      rw [e9] at hI9
      unfold CellsOk
      refine ⟨rfl, (cellsN zs ++ [0, 2, 7, 5]).take 4, _, _, 0, _, _, _, rfl, by assumption, fun p hp => N9 p ?_, hI9, ?_, ?_, ?_, by with_unfolding_all rfl⟩
      · rw [List.mem_singleton.mp hp]; exact .head _
      · simp only [List.length_take, List.length_append, List.length_cons, List.length_nil]; omega
      · simp only [List.length_take, List.length_append, List.length_cons, List.length_nil]; omega
      · intro n hn
        rcases List.mem_append.mp (List.mem_of_mem_take hn) with h | h
        · exact cells_lt zs n h
        · simp only [List.mem_cons, List.not_mem_nil, or_false] at h; omega
    · rename (¬ (_ : Int) < 4) => hlt
      rename News _ _ _ _ => N9
      rw [List.length_map] at hlt
      unfold CellsOk
      refine ⟨rfl, cellsN zs, _, _, ys.length, _, _, _, rfl, by assumption, fun p hp => N9 p ?_, hI8, by omega, hcl, cells_lt zs, by with_unfolding_all rfl⟩
      · rw [List.mem_singleton.mp hp]; exact .head _
  · rintro f s2 ⟨rfl, ns, ws, D, nn, h2, tk2, m2, rfl, F2, N2, hI, hn4, hn18, hnlt, hmc⟩
    have hmk := kstMark
    have F3 : Fr s1.heap s1.heap.objs.size h2 (kstB (fun z => if [].contains z then m2 z else m2 z) [(PySem.Str.ofString "cells", .ref D)]) := ksw_fr (List.forall_mem_cons.mpr ⟨hmc, List.forall_mem_nil _⟩) (fun _ _ _ => rfl) F2
    k_steps
    refine Hold.mk ?_
    rename Fr _ _ _ _ => F1
    rename News _ _ _ _ => N1
    rename IsRange _ _ _ _ _ _ _ _ => hrg
    rw [List.length_map] at hrg
    obtain ⟨hs2, hs2'⟩ := size2 ns.length (by omega) hn4
    with_unfolding_all refine' my_range (σ := (List Nat × Tok) × (List Nat × Tok)) (n := (ns.length - 1) / 2) (fun _ => [(D, listOf ws.toArray nn)]) (fun c => [(Str.ofString "want", .str (S c.1.1) c.1.2), (Str.ofString "text", .str (S c.2.1) c.2.2)]) [Str.ofString "told", Str.ofString "laid"] (fun i c => c.1.1 = wantUp ns i ∧ c.2.1 = textUp ns i) (([67, 65, 76, 76, 70], _), ([67, 65, 76, 76, 32, 70], _)) rfl hrg hs2' hs2 F1 N1 ?hk ⟨rfl, rfl⟩ ?turn ?done
    case hk =>
      exact List.forall_mem_cons.mpr ⟨by with_unfolding_all rfl, List.forall_mem_cons.mpr ⟨by with_unfolding_all rfl, List.forall_mem_nil _⟩⟩
    case turn =>
      rintro ⟨⟨wa, twa⟩, ⟨tx, ttx⟩⟩ i t9 u h tk3 own hi hown ⟨hpw, hpt⟩ F4 N4
      clear F1 N1
      dsimp only at hi hown hpw hpt F4 N4 ⊢
      have h2i : 2 + 2 * i < ns.length := by omega
      have hg1 : ns[1 + 2 * i]? = some (ns.getD (1 + 2 * i) 0) := by rw [List.getD_eq_getElem?_getD, List.getElem?_eq_getElem (by omega)]; rfl
      have hg2 : ns[2 + 2 * i]? = some (ns.getD (2 + 2 * i) 0) := by rw [List.getD_eq_getElem?_getD, List.getElem?_eq_getElem (by omega)]; rfl
      obtain ⟨tv1, hv1⟩ := IntsAre.get hI (1 + 2 * i) _ (by rw [List.getElem?_map, hg1]; rfl)
      obtain ⟨tv2, hv2⟩ := IntsAre.get hI (2 + 2 * i) _ (by rw [List.getElem?_map, hg2]; rfl)
      have hb1 : ns.getD (1 + 2 * i) 0 ≤ 1000000000 := Nat.le_of_lt (hnlt _ (List.mem_of_getElem? hg1))
      have hb2 : ns.getD (2 + 2 * i) 0 ≤ 1000000000 := Nat.le_of_lt (hnlt _ (List.mem_of_getElem? hg2))
      have hwl : ws.length = ns.length := by rw [IntsAre.length hI, List.length_map]
      have htl1 := toldOf_len (ns.getD (1 + 2 * i) 0)
      have htl2 := laidOf_len (ns.getD (1 + 2 * i) 0) (ns.getD (2 + 2 * i) 0)
      have hwal : wa.length ≤ 1000 := by rw [hpw]; exact Nat.le_trans (wantUp_len ns i) (by omega)
      have htxl : tx.length ≤ 1000 := by rw [hpt]; exact Nat.le_trans (textUp_len ns i) (by omega)
      have hws := wantUp_succ ns i
      have hts := textUp_succ ns i
      generalize ns.getD (1 + 2 * i) 0 = n1 at *
      generalize ns.getD (2 + 2 * i) 0 = n2 at *
      k_steps
      refine Hold.mk ?_
      refine' l_item (i := 1 + 2 * i) ?i1 ?n1 ?n2 ?n3 ?i2 ?_ (by with_unfolding_all rfl)
      case n1 => assumption
      case n2 => k_mem
      case i2 => exact hv1
      case n3 => ((try simp only [List.length_cons, List.length_nil]); omega)
      case i1 => first | assumption | exact rfl | omega
      k_steps
      refine Hold.mk ?_
      refine' l_item (i := 2 + 2 * i) ?i1 ?n1 ?n2 ?n3 ?i2 ?_ (by with_unfolding_all rfl)
      case n1 => assumption
      case n2 => k_mem
      case i2 => exact hv2
      case n3 => ((try simp only [List.length_cons, List.length_nil]); omega)
      case i1 => first | assumption | exact rfl | omega
      k_steps
      refine Hold.mk ?_
      k_dflt (refine' con_use (law_piece_c _ _ _ _ _ _ hb1 hb2) ?k1 ?k2 ?k3 ?k4 ?k5 ?kK ?kd ?ku ?_)
      case k1 => k_asm
      case k2 => k_asm
      case k3 => k_asm
      case k4 => k_asm
      case k5 => k_asm
      case kK => first | exact rfl | assumption
      case kd => decide
      case ku => decide
      rintro r9 tl9 h9 tk9 F1 N1 ho1 ⟨q, o, t1, t2, rfl, rfl, rfl⟩
      simp only [List.cons_append, List.nil_append] at N1
      (try k_fold)
      k_steps
      unfold InvEndG KJ
      refine' ⟨_, _, _, _, _, rfl, by assumption, by assumption, fun p hp => .tail _ (List.mem_append_left own hp), fun p hp => .tail _ (.tail _ hp), hown, ((_, _), (_, _)), rfl, ?kk, ?ks, ?kp⟩
      case kk =>
        exact List.forall_mem_cons.mpr ⟨by with_unfolding_all rfl, List.forall_mem_cons.mpr ⟨by with_unfolding_all rfl, List.forall_mem_nil _⟩⟩
      case ks =>
        intro z h1 h2 h3
        (try simp only [List.forall_mem_cons, List.not_mem_nil, false_implies, implies_true, and_true, ne_eq] at h2)
        (try simp only [List.contains_cons, List.contains_nil, Bool.or_false, Bool.or_eq_false_iff, beq_eq_false_iff_ne, ne_eq] at h3)
        simp [kstB, h1, h2, h3]
      case kp =>
        dsimp only
        rw [hws, hts, hpw, hpt]
        exact ⟨rfl, rfl⟩
    case done =>
      rintro ⟨⟨wa, twa⟩, ⟨tx, ttx⟩⟩ u h tk3 ⟨hpw, hpt⟩ F4 N4
      clear F1 N1
      dsimp only at hpw hpt F4 N4 ⊢
      have hwal : wa.length ≤ 1000 := by rw [hpw]; exact Nat.le_trans (wantUp_len ns _) (by omega)
      have htxl : tx.length ≤ 1000 := by rw [hpt]; exact Nat.le_trans (textUp_len ns _) (by omega)
      k_steps
      have htx0 : tx ≠ [] := by rw [hpt]; exact fun h => by cases h
      refine Hold.mk ?_
      k_dflt (refine' con_use (law_rows_c _ _ _ _ _ _ (5 + ns.getD 0 0 % 12) (ns.getD (ns.length - 1) 0 % 1000) _ _ (wd_eq ns) (sd_eq ns (by omega)) htxl htx0 (by omega) (by omega)) ?k1 ?k2 ?k3 ?k4 ?k5 ?kK ?kd ?ku ?_)
      case k1 => k_asm
      case k2 => k_asm
      case k3 => k_asm
      case k4 => k_asm
      case k5 => k_asm
      case kK => first | exact rfl | assumption
      case kd => decide
      case ku => decide
      rintro r9 tl9 h9 tk9 F1 N1 ho1 ⟨rq, rvs, rnn, rfl, rfl, hrows⟩
      simp only [List.cons_append, List.nil_append] at N1
      have hre := rows_each (5 + ns.getD 0 0 % 12) (tx.length + 1) true tx (ns.getD (ns.length - 1) 0 % 1000)
      have hrc := rows_count (5 + ns.getD 0 0 % 12) (tx.length + 1) true tx (ns.getD (ns.length - 1) 0 % 1000)
      have hrl := hrows.length
      obtain ⟨c0, cts, HR⟩ := rows_ok ns ((ns.length - 1) / 2) (ns.getD (ns.length - 1) 0 % 1000)
      rw [← hpt] at HR
      have hmark9 := HR
      (try k_fold)
      k_steps
      refine Hold.mk ?_
      refine l_cat (by k_asm) (by k_asm) (by k_mem) (by k_mem) ?hsz (fun D8 h8 hD8 F8 N8 => ?_)
      case hsz => simp only [List.length_cons, List.length_nil]; omega
      k_steps
      refine Hold.mk ?_
      refine s_join N8 (.head _) (.cons ⟨_, rfl⟩ (.cons ⟨_, rfl⟩ hrows)) 200 ?hb ?hz (fun t8 k8 => ?_)
      case hb =>
        intro x hx
        rcases List.mem_cons.mp hx with rfl | hx
        · decide
        · rcases List.mem_cons.mp hx with rfl | hx
          · decide
          · have := hre x hx; omega
      case hz => rw [List.length_cons]; omega
      k_steps
      refine Hold.mk ?_
      k_dflt (refine' con_use (read_statements_c (t := _) (hcoli := col_eq ns) (hlx := .tail _ (.tail _ (.head _))) (hld := .tail _ (.tail _ (.tail _ (.head _)))) (hl := rfl) (hf := HR.nl) (hll := ?hll) (hnr := ?hnr) (hne := HR.last) (hrl := ?hrl) (hr6 := HR.six) (hcd := HR.cards) (hlab := HR.lab) (hwd := by omega) (hbl := HR.bodies) (hc0 := HR.first) (hct := HR.conts) (hE := HR.notEnd) (hcn := HR.few) (hvl := Nat.le_trans HR.few (by omega)) (hjl := by rw [HR.whole]; omega) (hjn := by rw [HR.whole]; exact HR.some_)) ?k1 ?k2 ?k3 ?k4 ?k5 ?kK ?kd ?ku ?_)
      case k1 => k_asm
      case k2 => k_asm
      case k3 => k_asm
      case k4 => k_asm
      case k5 => k_asm
      case kK => first | exact rfl | assumption
      case kd => decide
      case ku => decide
      case hll =>
        have h9 := flat_len 30 ([] :: rowsOf (5 + ns.getD 0 0 % 12) (tx.length + 1) true tx (ns.getD (ns.length - 1) 0 % 1000)) (fun x hx => (List.mem_cons.mp hx).elim (fun e => by rw [e]; exact Nat.zero_le _) fun hx => by have := hre x hx; omega)
        rw [List.length_cons] at h9
        rw [List.length_append]
        simp only [List.length_cons, List.length_nil]
        omega
      case hnr => rw [List.length_cons]; omega
      case hrl =>
        intro x hx
        rcases List.mem_cons.mp hx with rfl | hx
        · decide
        · rcases List.mem_cons.mp hx with rfl | hx
          · decide
          · have := hre x hx; omega
      rintro r7 tl7 h7 tk7 F7 N7 ho7 ⟨q7, nn7, q8, t1, t2, t3, tl8, rfl, rfl⟩
      simp only [List.cons_append, List.nil_append] at N7
      rw [HR.whole, HR.line] at N7
      (try k_fold)
      k_steps
      refine Hold.mk ?_
      have hsok := str_ok (small_ok ns ((ns.length - 1) / 2))
      rw [← hpt] at hsok
      have hdok : ∀ d ∈ [Dat.tuple [.int 3, .int 12, .str (S tx)]], kqdOk 8 d = true := by
        intro d hd
        rw [List.mem_singleton.mp hd]
        simp only [kqdOk, List.all_cons, List.all_nil, hsok, Bool.and_true, Bool.and_self]
      refine' kqd_ne (ds := [Dat.tuple [.int 3, .int 12, .str (S tx)]]) (es := [Dat.tuple [.int 3, .int 12, .str (S tx)]]) (by k_asm) ?ma ?ca ?da ?Da (fun _ h => h) ?mb ?cb ?db ?Db (fun _ h => h) hdok hdok ?hu ?_
      case ma => exact .tail _ (.tail _ (.head _))
      case mb => exact .head _
      case ca => rfl
      case da => rfl
      case cb => rfl
      case db => rfl
      case Da => exact .cons (.tuple (.tail _ (.tail _ (.tail _ (.head _)))) (.cons (.int _ _) (.cons (.int _ _) (.cons (.str _ _) .nil)))) .nil
      case Db => exact .cons (.tuple (.tail _ (.head _)) (.cons (.int _ _) (.cons (.int _ _) (.cons (.str _ _) .nil)))) .nil
      case hu => (show callerA.units + 3 + 64 < cLine); decide
      simp only [eq_self, decide_true, Bool.not_true]
      k_steps
      obtain ⟨total, laf, hrun, htw, htl⟩ := run_ok ns ((ns.length - 1) / 2) (by omega)
      have hsm := small_ok ns ((ns.length - 1) / 2)
      obtain ⟨total2, laf2, hrun2, hbad2, htl2⟩ := wrong_ok ns ((ns.length - 1) / 2) (ns.getD 1 0) (by omega)
      rw [← hpt] at hrun hsm hrun2 hbad2
      rw [← hpw] at htw
      refine Hold.mk ?_
      k_dflt (refine' conx_use (squeezed_x _ _ _ _ _ _ _ (by omega) htl hsm hrun (.inl rfl)) ?k1 ?k2 ?k3 ?k4 ?k5 ?kK ?kd ?ku ?kr ?kx)
      case k1 => k_asm
      case k2 => k_asm
      case k3 => k_asm
      case k4 => k_asm
      case k5 => k_asm
      case kK => first | exact rfl | assumption
      case kd => decide
      case ku => decide
      case kx =>
        intro e9 d9 g9 h9 tk9 hb9
        exact absurd (bad_lt hb9) (Nat.lt_irrefl _)
      rintro r9 tl9 h9 tk9 F9 N9 ho9 ⟨_, rfl, t9, rfl⟩
      rw [htw]
      simp only [List.nil_append] at N9
      have N9b : News s1.heap s1.heap.objs.size h9 [(D, listOf ws.toArray nn)] := by
        intro p hp
        refine N9 p ?_
        rw [List.mem_singleton.mp hp]
        repeat (first | exact List.Mem.head _ | refine List.Mem.tail _ ?_ | refine List.mem_append_right _ ?_)
      clear N9 hrun htw htl hdok hsok ho7 hD8 hrl hrc hre hrows ho1 HR
      rename RowsOk _ _ _ _ _ => hz9
      clear hz9
      (try k_fold)
      k_steps
      refine Hold.mk ?_
      k_dflt (refine' con_use (law_wrong_c _ _) ?k1 ?k2 ?k3 ?k4 ?k5 ?kK ?kd ?ku ?_)
      case k1 => k_asm
      case k2 => k_asm
      case k3 => k_asm
      case k4 => k_asm
      case k5 => k_asm
      case kK => first | exact rfl | assumption
      case kd => decide
      case ku => decide
      rintro r6 tl6 h6 tk6 F6 N6 ho6 ⟨q6, vs6, nn6, rfl, rfl, hsw⟩
      simp only [List.cons_append, List.nil_append] at N6
      (try k_fold)
      k_steps
      rename SVs _ wrongL => hsw
      have hg9 : ns[1]? = some (ns.getD 1 0) := by rw [List.getD_eq_getElem?_getD, List.getElem?_eq_getElem (by omega)]; rfl
      obtain ⟨tv9, hv9⟩ := IntsAre.get hI 1 _ (by rw [List.getElem?_map, hg9]; rfl)
      have hwl : ws.length = ns.length := by rw [IntsAre.length hI, List.length_map]
      refine Hold.mk ?_
      refine' l_item (i := 1) ?i1 ?n1 ?n2 ?n3 ?i2 ?_ (by with_unfolding_all rfl)
      case n1 => assumption
      case n2 => k_mem
      case i2 => exact hv9
      case n3 => ((try simp only [List.length_cons, List.length_nil]); omega)
      case i1 => first | assumption | exact rfl | omega
      k_steps
      have ew4 : ((ns.getD 1 0 : Nat) : Int).fmod 4 = ((ns.getD 1 0 % 4 : Nat) : Int) := (Int.ofNat_fmod (ns.getD 1 0) 4).symm
      obtain ⟨vw, hvw, tw, rfl⟩ := hsw.at (wrongOf_get (ns.getD 1 0))
      have hvl6 := hsw.length
      rw [show wrongL.length = 4 from rfl] at hvl6
      have hwl6 := wrongOf_len (ns.getD 1 0)
      have hws6 := wrongOf_small (ns.getD 1 0)
      refine Hold.mk ?_
      refine' l_item (i := ns.getD 1 0 % 4) ?i1 ?n1 ?n2 ?n3 ?i2 ?_ (by with_unfolding_all rfl)
      case n1 => assumption
      case n2 => k_mem
      case i2 => exact hvw
      case n3 => ((try simp only [List.length_cons, List.length_nil]); omega)
      case i1 => first | assumption | exact rfl | omega
      generalize wrongOf (ns.getD 1 0) = wr at *
      k_steps
      refine Hold.mk ?_
      k_dflt (refine' conx_use (squeezed_x _ _ _ _ _ _ _ (by rw [List.length_append]; omega) htl2 (fun c hc => (List.mem_append.mp hc).elim (hsm c) (hws6 c)) hrun2 (.inr hbad2)) ?k1b ?k2b ?k3b ?k4b ?k5b ?kKb ?kdb ?kub ?krb ?kxb)
      case k1b => k_asm
      case k2b => k_asm
      case k3b => k_asm
      case k4b => k_asm
      case k5b => k_asm
      case kKb => first | exact rfl | assumption
      case kdb => decide
      case kub => decide
      case krb =>
        intro r5 tl5 h5 tk5 F5 N5 ho5 hp5
        have := bad_lt hbad2
        exact absurd hp5.1 (by omega)
      intro e9 d9 g9 h9 tk9 _ F9 U9 R9
      refine' caught_D (KF := topK _) (below_caller _) F9 U9 R9 ?X9 ?T9 ?ex9 (kts70 _) (fun h8 oe od tk8 tk8' vs8 es8 ne8 F8 N8 hoc hod hof hoq hol => ?_)
      case X9 => k_asm
      case T9 => k_asm
      case ex9 => k_is
      k_steps
      refine Hold.mk ?_
      rename (lookIn _ _ = some (some _)) => hol
      rename News _ _ _ _ => N8
      refine' exc_get (K := topK _) ?Xg ?Ig (kin70 _) ?g1 ?g2 ?g3 ?g4 hol rfl ?_
      case Xg => exact Frag.In.keeps (by k_asm) (Fr.keep (by assumption))
      case Ig => exact ⟨(N8 _ (.head _)).1, hoc, by unfold notCls; rw [hof], by rw [hod]; exact (N8 _ (.tail _ (.head _))).1⟩
      case g1 => k_is
      case g2 => k_is
      case g3 => k_is
      case g4 => k_is
      k_steps)
end

end Mine
theorem PySem.Challenge.cw_no0243_01_holds : PySem.Challenge.rw_no0243_01.Holds :=
  Mine.law_holds
