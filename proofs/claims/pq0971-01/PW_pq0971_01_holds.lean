import PyProof.Rows.All
import Wide.All
import OpenK.AllK
import Wide.FinOn
import PySem.Challenge.RW_pq0971_01
open PySem PySem.W PyProof.Rows
set_option Elab.async false
set_option compiler.extract_closed false
set_option linter.unusedVariables false
set_option maxRecDepth 100000
set_option maxHeartbeats 8000000
namespace Mine
noncomputable abbrev Pw : Program := PySem.Challenge.rw_pq0971_01.row.toRowW.1
noncomputable def tS (i : Nat) : Stmt := Pw.main.body.getD i (.Pass ⟨0, 0, 0, 0⟩)
noncomputable def tC (s : Stmt) (j : Nat) : Stmt := match s with
  | .ClassDef _ _ _ b _ _ _ _ _ _ _ => b.getD j s
  | _ => s
noncomputable def fA (s : Stmt) : Arguments := match s with
  | .FunctionDef _ a _ _ _ _ _ _ _ _ => a
  | _ => ⟨[], [], none, [], [], none, []⟩
noncomputable def fB (s : Stmt) : FuncBody := match s with
  | .FunctionDef _ _ b _ _ _ _ _ _ _ => .stmts b
  | _ => .stmts []
noncomputable def fS (s : Stmt) : Scope := match s with
  | .FunctionDef _ _ _ _ _ _ c _ _ _ => c
  | _ => ⟨.function, [], false, false, []⟩
noncomputable def df0 : Stmt := tC (tS 1) 0
noncomputable def df1 : Stmt := tC (tS 1) 1
noncomputable def df2 : Stmt := tS 7
noncomputable def df3 : Stmt := tS 8
noncomputable def df4 : Stmt := tS 9
noncomputable def df5 : Stmt := tS 10
noncomputable def df6 : Stmt := tC (tS 11) 0
noncomputable def df7 : Stmt := tC (tS 11) 1
noncomputable def df8 : Stmt := tC (tS 11) 2
noncomputable def df9 : Stmt := tC (tS 12) 0
noncomputable def df10 : Stmt := tC (tS 12) 1
noncomputable def df11 : Stmt := tC (tS 12) 2
noncomputable def df12 : Stmt := tC (tS 12) 3
noncomputable def df13 : Stmt := tS 13
noncomputable def df14 : Stmt := tS 14
noncomputable def df15 : Stmt := tS 15
noncomputable def df16 : Stmt := tS 16
noncomputable def df17 : Stmt := tS 17
noncomputable def df18 : Stmt := tS 18
noncomputable def df19 : Stmt := tS 20
noncomputable def df20 : Stmt := tS 21
noncomputable def df21 : Stmt := tS 22
noncomputable def df22 : Stmt := tS 23
noncomputable def df23 : Stmt := tS 25
noncomputable def df24 : Stmt := tS 26
noncomputable def df25 : Stmt := tS 27
noncomputable def df26 : Stmt := tS 28
noncomputable def df27 : Stmt := tS 29
noncomputable def df28 : Stmt := tS 30
noncomputable def df29 : Stmt := tS 31
noncomputable def df30 : Stmt := tS 32
noncomputable def df31 : Stmt := tS 33
noncomputable def df32 : Stmt := tS 34
noncomputable def df33 : Stmt := tS 35
noncomputable def df34 : Stmt := tS 36
noncomputable def df35 : Stmt := tS 37
noncomputable def df36 : Stmt := tS 40
noncomputable def df37 : Stmt := tS 41
noncomputable def df38 : Stmt := tS 42
noncomputable def df39 : Stmt := tS 43
noncomputable def df40 : Stmt := tS 44
noncomputable def df41 : Stmt := tS 45
noncomputable def df42 : Stmt := tS 46
noncomputable def o43 : Params → Obj := fun P => ⟨(.type "tuple"),.none,(.seq (List.toArray []) 0),(List.toArray [])⟩
noncomputable def o44 : Params → Obj := fun P => ⟨.none,.none,(.fields (List.toArray [])),(List.toArray [])⟩
noncomputable def o45 : Params → Obj := fun P => ⟨(.type "code"),.none,(.fields (List.toArray [(.str "<module>" 182),(.str "<module>" 183),(.str "/claim/cut.py" 184),(.int 1 0),(.int 0 0),(.int 0 0),(.int 0 0),(.int 0 0),(.ref 11),(.bool false),(.int 181 0),(.ref 12),.none,.none,.none,.none,(.int 185 0),(.int 1 0),(.str "/claim/cut.py" 186)])),(List.toArray [])⟩
noncomputable def o46 : Params → Obj := fun P => ⟨(.type "frame"),.none,.plain,(List.toArray [(.some (.ref 13)),(.some (.ref 3)),(.some (.ref 3)),.none,(.some (.str "__main__" 164)),.none,(.some (.ref 0))])⟩
noncomputable def o49 : Params → Obj := fun P => ⟨.none,.none,(.dict (List.toArray [⟨(PyData.keyHash P "type.__subclasses__.Exception.0"),(.str "type.__subclasses__.Exception.0" 225),(.int 39 0)⟩,⟨(PyData.keyHash P "type.__subclasses__.Exception.n"),(.str "type.__subclasses__.Exception.n" 226),(.int 1 0)⟩]) 2),(List.toArray [])⟩
noncomputable def o50 : Params → Obj := fun P => ⟨(.type "dict"),.none,(.dict (List.toArray [⟨(PyData.keyHash P "__name__"),(.str "__name__" 165),(.str "postkeep.errors" 187)⟩,⟨(PyData.keyHash P "__doc__"),(.str "__doc__" 166),.none⟩,⟨(PyData.keyHash P "__package__"),(.str "__package__" 167),.none⟩,⟨(PyData.keyHash P "__loader__"),(.str "__loader__" 168),(.builtin "__main__.__loader__#opaque")⟩,⟨(PyData.keyHash P "__spec__"),(.str "__spec__" 169),.none⟩,⟨(PyData.keyHash P "__annotations__"),(.str "__annotations__" 170),(.ref 6)⟩,⟨(PyData.keyHash P "__builtins__"),(.str "__builtins__" 171),(.ref 4)⟩,⟨(PyData.keyHash P "__file__"),(.str "__file__" 173),(.str "/claim/cut.py" 172)⟩,⟨(PyData.keyHash P "__cached__"),(.str "__cached__" 174),.none⟩,⟨(PyData.keyHash P "PostError"),(.str "PostError" 228),(.ref 39)⟩]) 10),(List.toArray [])⟩
noncomputable def o51 : Params → Obj := fun P => ⟨.none,.none,(.fields (List.toArray [(.int 2 0),(.int 0 0),(.ref 20)])),(List.toArray [])⟩
noncomputable def o52 : Params → Obj := fun P => ⟨(.type "tuple"),.none,(.seq (List.toArray [(.type "Exception")]) 0),(List.toArray [])⟩
noncomputable def o53 : Params → Obj := fun P => ⟨(.type "builtin_function_or_method"),.none,(.fields (List.toArray [(.builtin "type.__prepare__"),(.type "type")])),(List.toArray [])⟩
noncomputable def o54 : Params → Obj := fun P => ⟨(.type "dict"),.none,(.dict (List.toArray [⟨(PyData.keyHash P "__module__"),(.str "__module__" 196),(.str "postkeep.errors" 187)⟩,⟨(PyData.keyHash P "__qualname__"),(.str "__qualname__" 198),(.str "PostError" 197)⟩,⟨(PyData.keyHash P "__firstlineno__"),(.str "__firstlineno__" 200),(.int 2 199)⟩,⟨(PyData.keyHash P "__init__"),(.str "__init__" 211),(.ref 29)⟩,⟨(PyData.keyHash P "told"),(.str "told" 218),(.ref 36)⟩,⟨(PyData.keyHash P "__static_attributes__"),(.str "__static_attributes__" 221),(.ref 37)⟩]) 6),(List.toArray [])⟩
noncomputable def o55 : Params → Obj := fun P => ⟨(.type "tuple"),.none,(.seq (List.toArray []) 0),(List.toArray [])⟩
noncomputable def o56 : Params → Obj := fun P => ⟨.none,.none,(.fields (List.toArray [(.int 4 0),(.int 4 0),(.ref 28),(.int 9 0),(.int 4 0),(.ref 35)])),(List.toArray [])⟩
noncomputable def o57 : Params → Obj := fun P => ⟨(.type "code"),.none,(.fields (List.toArray [(.str "PostError" 191),(.str "PostError" 192),(.str "/claim/cut.py" 193),(.int 2 0),(.int 0 0),(.int 0 0),(.int 0 0),(.int 0 0),(.ref 18),(.bool false),(.int 181 0),(.ref 19),.none,.none,.none,.none,(.int 194 0),(.int 2 0),(.str "/claim/cut.py" 195)])),(List.toArray [])⟩
noncomputable def o58 : Params → Obj := fun P => ⟨(.type "frame"),.none,.plain,(List.toArray [(.some (.ref 20)),(.some (.ref 3)),(.some (.ref 17)),.none,(.some (.str "postkeep.errors" 187)),.none,(.some (.ref 0))])⟩
noncomputable def o59 : Params → Obj := fun P => ⟨(.type "tuple"),.none,(.seq (List.toArray [(.int (-1) 202)]) 0),(List.toArray [])⟩
noncomputable def o60 : Params → Obj := fun P => ⟨(.type "tuple"),.none,(.seq (List.toArray []) 0),(List.toArray [])⟩
noncomputable def o61 : Params → Obj := fun P => ⟨.none,.none,(.fields (List.toArray [])),(List.toArray [])⟩
noncomputable def o62 : Params → Obj := fun P => ⟨(.type "tuple"),.none,(.seq (List.toArray [(.str "self" 206),(.str "what" 207),(.str "at" 208)]) 0),(List.toArray [])⟩
noncomputable def o63 : Params → Obj := fun P => ⟨(.type "tuple"),.none,(.seq (List.toArray []) 0),(List.toArray [])⟩
noncomputable def o64 : Params → Obj := fun P => ⟨.none,.none,(.func ⟨"__init__","PostError.__init__",(fA df0),(fB df0),(fS df0),0,[],.none,.none,.none,.none,.none,.none,.none,0⟩),(List.toArray [])⟩
noncomputable def o65 : Params → Obj := fun P => ⟨(.type "code"),.none,(.fields (List.toArray [(.str "__init__" 203),(.str "PostError.__init__" 204),(.str "/claim/cut.py" 205),(.int 4 0),(.int 3 0),(.int 0 0),(.int 0 0),(.int 3 0),(.ref 23),(.bool true),(.int 181 0),(.ref 24),.none,(.ref 25),(.ref 26),(.ref 27),(.int 209 0),(.int 4 0),(.str "/claim/cut.py" 210)])),(List.toArray [])⟩
noncomputable def o66 : Params → Obj := fun P => ⟨(.type "function"),.none,(.func ⟨"__init__","PostError.__init__",(fA df0),(fB df0),(fS df0),3,[],(.ref 22),.none,.none,(.str "postkeep.errors" 187),.none,(.ref 28),.none,0⟩),(List.toArray [])⟩
noncomputable def o67 : Params → Obj := fun P => ⟨(.type "tuple"),.none,(.seq (List.toArray []) 0),(List.toArray [])⟩
noncomputable def o68 : Params → Obj := fun P => ⟨.none,.none,(.fields (List.toArray [])),(List.toArray [])⟩
noncomputable def o69 : Params → Obj := fun P => ⟨(.type "tuple"),.none,(.seq (List.toArray [(.str "self" 215)]) 0),(List.toArray [])⟩
noncomputable def o70 : Params → Obj := fun P => ⟨(.type "tuple"),.none,(.seq (List.toArray []) 0),(List.toArray [])⟩
noncomputable def o71 : Params → Obj := fun P => ⟨.none,.none,(.func ⟨"told","PostError.told",(fA df1),(fB df1),(fS df1),0,[],.none,.none,.none,.none,.none,.none,.none,0⟩),(List.toArray [])⟩
noncomputable def o72 : Params → Obj := fun P => ⟨(.type "code"),.none,(.fields (List.toArray [(.str "told" 212),(.str "PostError.told" 213),(.str "/claim/cut.py" 214),(.int 9 0),(.int 1 0),(.int 0 0),(.int 0 0),(.int 3 0),(.ref 30),(.bool true),(.int 181 0),(.ref 31),.none,(.ref 32),(.ref 33),(.ref 34),(.int 216 0),(.int 9 0),(.str "/claim/cut.py" 217)])),(List.toArray [])⟩
noncomputable def o73 : Params → Obj := fun P => ⟨(.type "function"),.none,(.func ⟨"told","PostError.told",(fA df1),(fB df1),(fS df1),3,[],.none,.none,.none,(.str "postkeep.errors" 187),.none,(.ref 35),.none,0⟩),(List.toArray [])⟩
noncomputable def o74 : Params → Obj := fun P => ⟨(.type "tuple"),.none,(.seq (List.toArray [(.str "at" 219),(.str "what" 220)]) 0),(List.toArray [])⟩
noncomputable def o75 : Params → Obj := fun P => ⟨(.type "dict"),.none,(.dict (List.toArray [⟨(PyData.keyHash P "__module__"),(.str "__module__" 196),(.str "postkeep.errors" 187)⟩,⟨(PyData.keyHash P "__firstlineno__"),(.str "__firstlineno__" 200),(.int 2 199)⟩,⟨(PyData.keyHash P "__init__"),(.str "__init__" 211),(.ref 29)⟩,⟨(PyData.keyHash P "told"),(.str "told" 218),(.ref 36)⟩,⟨(PyData.keyHash P "__static_attributes__"),(.str "__static_attributes__" 221),(.ref 37)⟩,⟨(PyData.keyHash P "__weakref__"),(.str "__weakref__" 223),(.ref 40)⟩,⟨(PyData.keyHash P "__doc__"),(.str "__doc__" 224),.none⟩]) 3),(List.toArray [])⟩
noncomputable def o76 : Params → Obj := fun P => ⟨(.type "type"),.none,(.cls ⟨"PostError",[(.type "Exception")],[(.ref 39),(.type "Exception"),(.type "BaseException"),(.type "object")],38,"PostError",true,[],[],false,.none,false⟩),(List.toArray [(.some (.ref 15)),.none,(.some (.str "PostError" 189)),(.some (.str "PostError" 197)),(.some (.builtin "Exception.__new__")),(.some (.bool true))])⟩
noncomputable def o77 : Params → Obj := fun P => ⟨(.type "getset_descriptor"),.none,(.fields (List.toArray [(.str "__weakref__" 222),(.ref 39),(.builtin "ExceptionGroup.__weakref__"),.none])),(List.toArray [])⟩
noncomputable def o78 : Params → Obj := fun P => ⟨(.type "super"),.none,(.fields (List.toArray [(.ref 39),(.ref 39),(.ref 39)])),(List.toArray [])⟩
noncomputable def o79 : Params → Obj := fun P => ⟨(.type "builtin_function_or_method"),.none,(.fields (List.toArray [(.builtin "object.__init_subclass__"),(.ref 39)])),(List.toArray [])⟩
noncomputable def o80 : Params → Obj := fun P => ⟨(.type "dict"),.none,(.dict (List.toArray [⟨(PyData.keyHash P "__name__"),(.str "__name__" 165),(.str "postkeep.boxes" 245)⟩,⟨(PyData.keyHash P "__doc__"),(.str "__doc__" 166),.none⟩,⟨(PyData.keyHash P "__package__"),(.str "__package__" 167),.none⟩,⟨(PyData.keyHash P "__loader__"),(.str "__loader__" 168),(.builtin "__main__.__loader__#opaque")⟩,⟨(PyData.keyHash P "__spec__"),(.str "__spec__" 169),.none⟩,⟨(PyData.keyHash P "__annotations__"),(.str "__annotations__" 170),(.ref 6)⟩,⟨(PyData.keyHash P "__builtins__"),(.str "__builtins__" 171),(.ref 4)⟩,⟨(PyData.keyHash P "__file__"),(.str "__file__" 173),(.str "/claim/cut.py" 172)⟩,⟨(PyData.keyHash P "__cached__"),(.str "__cached__" 174),.none⟩,⟨(PyData.keyHash P "PostError"),(.str "PostError" 228),(.ref 39)⟩,⟨(PyData.keyHash P "StoreFault"),(.str "StoreFault" 244),(.ref 52)⟩,⟨(PyData.keyHash P "SYSTEM"),(.str "SYSTEM" 248),(.str "\\Seen \\Answered \\Flagged \\Deleted \\Draft" 247)⟩,⟨(PyData.keyHash P "NO_KEYWORD"),(.str "NO_KEYWORD" 250),(.str "(){ %*\"\\]" 249)⟩,⟨(PyData.keyHash P "MOST_KEYWORD"),(.str "MOST_KEYWORD" 252),(.int 60 251)⟩,⟨(PyData.keyHash P "system_flags"),(.str "system_flags" 258),(.ref 61)⟩,⟨(PyData.keyHash P "is_keyword"),(.str "is_keyword" 266),(.ref 68)⟩,⟨(PyData.keyHash P "flag_name"),(.str "flag_name" 274),(.ref 75)⟩,⟨(PyData.keyHash P "flag_tuple"),(.str "flag_tuple" 284),(.ref 82)⟩]) 18),(List.toArray [])⟩
noncomputable def o81 : Params → Obj := fun P => ⟨.none,.none,(.fields (List.toArray [(.int 2 0),(.int 0 0),(.ref 20),(.int 11 0),(.int 0 0),(.ref 48),(.int 17 0),(.int 0 0),(.ref 60),(.int 19 0),(.int 0 0),(.ref 67),(.int 26 0),(.int 0 0),(.ref 74),(.int 33 0),(.int 0 0),(.ref 81)])),(List.toArray [])⟩
noncomputable def o82 : Params → Obj := fun P => ⟨(.type "type"),.none,(.cls ⟨"PostError",[(.type "Exception")],[(.ref 39),(.type "Exception"),(.type "BaseException"),(.type "object")],38,"PostError",true,[],[(.ref 52)],false,.none,false⟩),(List.toArray [(.some (.ref 15)),.none,(.some (.str "PostError" 189)),(.some (.str "PostError" 197)),(.some (.builtin "Exception.__new__")),(.some (.bool true))])⟩
noncomputable def o83 : Params → Obj := fun P => ⟨(.type "tuple"),.none,(.seq (List.toArray [(.ref 39)]) 0),(List.toArray [])⟩
noncomputable def o84 : Params → Obj := fun P => ⟨(.type "builtin_function_or_method"),.none,(.fields (List.toArray [(.builtin "type.__prepare__"),(.type "type")])),(List.toArray [])⟩
noncomputable def o85 : Params → Obj := fun P => ⟨(.type "dict"),.none,(.dict (List.toArray [⟨(PyData.keyHash P "__module__"),(.str "__module__" 236),(.str "postkeep.errors" 187)⟩,⟨(PyData.keyHash P "__qualname__"),(.str "__qualname__" 238),(.str "StoreFault" 237)⟩,⟨(PyData.keyHash P "__firstlineno__"),(.str "__firstlineno__" 240),(.int 11 239)⟩,⟨(PyData.keyHash P "__static_attributes__"),(.str "__static_attributes__" 241),(.ref 50)⟩]) 4),(List.toArray [])⟩
noncomputable def o86 : Params → Obj := fun P => ⟨(.type "tuple"),.none,(.seq (List.toArray []) 0),(List.toArray [])⟩
noncomputable def o87 : Params → Obj := fun P => ⟨.none,.none,(.fields (List.toArray [])),(List.toArray [])⟩
noncomputable def o88 : Params → Obj := fun P => ⟨(.type "code"),.none,(.fields (List.toArray [(.str "StoreFault" 231),(.str "StoreFault" 232),(.str "/claim/cut.py" 233),(.int 11 0),(.int 0 0),(.int 0 0),(.int 0 0),(.int 0 0),(.ref 46),(.bool false),(.int 181 0),(.ref 47),.none,.none,.none,.none,(.int 234 0),(.int 11 0),(.str "/claim/cut.py" 235)])),(List.toArray [])⟩
noncomputable def o89 : Params → Obj := fun P => ⟨(.type "frame"),.none,.plain,(List.toArray [(.some (.ref 48)),(.some (.ref 3)),(.some (.ref 45)),.none,(.some (.str "postkeep.errors" 187)),.none,(.some (.ref 0))])⟩
noncomputable def o90 : Params → Obj := fun P => ⟨(.type "tuple"),.none,(.seq (List.toArray []) 0),(List.toArray [])⟩
noncomputable def o91 : Params → Obj := fun P => ⟨(.type "dict"),.none,(.dict (List.toArray [⟨(PyData.keyHash P "__module__"),(.str "__module__" 236),(.str "postkeep.errors" 187)⟩,⟨(PyData.keyHash P "__firstlineno__"),(.str "__firstlineno__" 240),(.int 11 239)⟩,⟨(PyData.keyHash P "__static_attributes__"),(.str "__static_attributes__" 241),(.ref 50)⟩,⟨(PyData.keyHash P "__doc__"),(.str "__doc__" 242),.none⟩]) 2),(List.toArray [])⟩
noncomputable def o92 : Params → Obj := fun P => ⟨(.type "type"),.none,(.cls ⟨"StoreFault",[(.ref 39)],[(.ref 52),(.ref 39),(.type "Exception"),(.type "BaseException"),(.type "object")],51,"StoreFault",true,[],[],false,.none,false⟩),(List.toArray [(.some (.ref 43)),.none,(.some (.str "StoreFault" 229)),(.some (.str "StoreFault" 237)),(.some (.builtin "Exception.__new__")),(.some (.bool true))])⟩
noncomputable def o93 : Params → Obj := fun P => ⟨(.type "super"),.none,(.fields (List.toArray [(.ref 52),(.ref 52),(.ref 52)])),(List.toArray [])⟩
noncomputable def o94 : Params → Obj := fun P => ⟨(.type "builtin_function_or_method"),.none,(.fields (List.toArray [(.builtin "object.__init_subclass__"),(.ref 52)])),(List.toArray [])⟩
noncomputable def o95 : Params → Obj := fun P => ⟨(.type "tuple"),.none,(.seq (List.toArray []) 0),(List.toArray [])⟩
noncomputable def o96 : Params → Obj := fun P => ⟨.none,.none,(.fields (List.toArray [])),(List.toArray [])⟩
noncomputable def o97 : Params → Obj := fun P => ⟨(.type "tuple"),.none,(.seq (List.toArray []) 0),(List.toArray [])⟩
noncomputable def o98 : Params → Obj := fun P => ⟨(.type "tuple"),.none,(.seq (List.toArray []) 0),(List.toArray [])⟩
noncomputable def o99 : Params → Obj := fun P => ⟨.none,.none,(.func ⟨"system_flags","system_flags",(fA df2),(fB df2),(fS df2),0,[],.none,.none,.none,.none,.none,.none,.none,0⟩),(List.toArray [])⟩
noncomputable def o100 : Params → Obj := fun P => ⟨(.type "code"),.none,(.fields (List.toArray [(.str "system_flags" 253),(.str "system_flags" 254),(.str "/claim/cut.py" 255),(.int 17 0),(.int 0 0),(.int 0 0),(.int 0 0),(.int 3 0),(.ref 55),(.bool true),(.int 181 0),(.ref 56),.none,(.ref 57),(.ref 58),(.ref 59),(.int 256 0),(.int 17 0),(.str "/claim/cut.py" 257)])),(List.toArray [])⟩
noncomputable def o101 : Params → Obj := fun P => ⟨(.type "function"),.none,(.func ⟨"system_flags","system_flags",(fA df2),(fB df2),(fS df2),3,[],.none,.none,.none,(.str "postkeep.boxes" 245),.none,(.ref 60),.none,0⟩),(List.toArray [])⟩
noncomputable def o102 : Params → Obj := fun P => ⟨(.type "tuple"),.none,(.seq (List.toArray []) 0),(List.toArray [])⟩
noncomputable def o103 : Params → Obj := fun P => ⟨.none,.none,(.fields (List.toArray [])),(List.toArray [])⟩
noncomputable def o104 : Params → Obj := fun P => ⟨(.type "tuple"),.none,(.seq (List.toArray [(.str "text" 262),(.str "sign" 263)]) 0),(List.toArray [])⟩
noncomputable def o105 : Params → Obj := fun P => ⟨(.type "tuple"),.none,(.seq (List.toArray []) 0),(List.toArray [])⟩
noncomputable def o106 : Params → Obj := fun P => ⟨.none,.none,(.func ⟨"is_keyword","is_keyword",(fA df3),(fB df3),(fS df3),0,[],.none,.none,.none,.none,.none,.none,.none,0⟩),(List.toArray [])⟩
noncomputable def o107 : Params → Obj := fun P => ⟨(.type "code"),.none,(.fields (List.toArray [(.str "is_keyword" 259),(.str "is_keyword" 260),(.str "/claim/cut.py" 261),(.int 19 0),(.int 1 0),(.int 0 0),(.int 0 0),(.int 3 0),(.ref 62),(.bool true),(.int 181 0),(.ref 63),.none,(.ref 64),(.ref 65),(.ref 66),(.int 264 0),(.int 19 0),(.str "/claim/cut.py" 265)])),(List.toArray [])⟩
noncomputable def o108 : Params → Obj := fun P => ⟨(.type "function"),.none,(.func ⟨"is_keyword","is_keyword",(fA df3),(fB df3),(fS df3),3,[],.none,.none,.none,(.str "postkeep.boxes" 245),.none,(.ref 67),.none,0⟩),(List.toArray [])⟩
noncomputable def o109 : Params → Obj := fun P => ⟨(.type "tuple"),.none,(.seq (List.toArray []) 0),(List.toArray [])⟩
noncomputable def o110 : Params → Obj := fun P => ⟨.none,.none,(.fields (List.toArray [])),(List.toArray [])⟩
noncomputable def o111 : Params → Obj := fun P => ⟨(.type "tuple"),.none,(.seq (List.toArray [(.str "text" 270),(.str "name" 271)]) 0),(List.toArray [])⟩
noncomputable def o112 : Params → Obj := fun P => ⟨(.type "tuple"),.none,(.seq (List.toArray []) 0),(List.toArray [])⟩
noncomputable def o113 : Params → Obj := fun P => ⟨.none,.none,(.func ⟨"flag_name","flag_name",(fA df4),(fB df4),(fS df4),0,[],.none,.none,.none,.none,.none,.none,.none,0⟩),(List.toArray [])⟩
noncomputable def o114 : Params → Obj := fun P => ⟨(.type "code"),.none,(.fields (List.toArray [(.str "flag_name" 267),(.str "flag_name" 268),(.str "/claim/cut.py" 269),(.int 26 0),(.int 1 0),(.int 0 0),(.int 0 0),(.int 3 0),(.ref 69),(.bool true),(.int 181 0),(.ref 70),.none,(.ref 71),(.ref 72),(.ref 73),(.int 272 0),(.int 26 0),(.str "/claim/cut.py" 273)])),(List.toArray [])⟩
noncomputable def o115 : Params → Obj := fun P => ⟨(.type "function"),.none,(.func ⟨"flag_name","flag_name",(fA df4),(fB df4),(fS df4),3,[],.none,.none,.none,(.str "postkeep.boxes" 245),.none,(.ref 74),.none,0⟩),(List.toArray [])⟩
noncomputable def o116 : Params → Obj := fun P => ⟨(.type "tuple"),.none,(.seq (List.toArray []) 0),(List.toArray [])⟩
noncomputable def o117 : Params → Obj := fun P => ⟨.none,.none,(.fields (List.toArray [])),(List.toArray [])⟩
noncomputable def o118 : Params → Obj := fun P => ⟨(.type "tuple"),.none,(.seq (List.toArray [(.str "flags" 278),(.str "found" 279),(.str "text" 280),(.str "name" 281)]) 0),(List.toArray [])⟩
noncomputable def o119 : Params → Obj := fun P => ⟨(.type "tuple"),.none,(.seq (List.toArray []) 0),(List.toArray [])⟩
noncomputable def o120 : Params → Obj := fun P => ⟨.none,.none,(.func ⟨"flag_tuple","flag_tuple",(fA df5),(fB df5),(fS df5),0,[],.none,.none,.none,.none,.none,.none,.none,0⟩),(List.toArray [])⟩
noncomputable def o121 : Params → Obj := fun P => ⟨(.type "code"),.none,(.fields (List.toArray [(.str "flag_tuple" 275),(.str "flag_tuple" 276),(.str "/claim/cut.py" 277),(.int 33 0),(.int 1 0),(.int 0 0),(.int 0 0),(.int 3 0),(.ref 76),(.bool true),(.int 181 0),(.ref 77),.none,(.ref 78),(.ref 79),(.ref 80),(.int 282 0),(.int 33 0),(.str "/claim/cut.py" 283)])),(List.toArray [])⟩
noncomputable def o122 : Params → Obj := fun P => ⟨(.type "function"),.none,(.func ⟨"flag_tuple","flag_tuple",(fA df5),(fB df5),(fS df5),3,[],.none,.none,.none,(.str "postkeep.boxes" 245),.none,(.ref 81),.none,0⟩),(List.toArray [])⟩
noncomputable def o123 : Params → Obj := fun P => ⟨(.type "dict"),.none,(.dict (List.toArray [⟨(PyData.keyHash P "__name__"),(.str "__name__" 165),(.str "postkeep.boxes" 245)⟩,⟨(PyData.keyHash P "__doc__"),(.str "__doc__" 166),.none⟩,⟨(PyData.keyHash P "__package__"),(.str "__package__" 167),.none⟩,⟨(PyData.keyHash P "__loader__"),(.str "__loader__" 168),(.builtin "__main__.__loader__#opaque")⟩,⟨(PyData.keyHash P "__spec__"),(.str "__spec__" 169),.none⟩,⟨(PyData.keyHash P "__annotations__"),(.str "__annotations__" 170),(.ref 6)⟩,⟨(PyData.keyHash P "__builtins__"),(.str "__builtins__" 171),(.ref 4)⟩,⟨(PyData.keyHash P "__file__"),(.str "__file__" 173),(.str "/claim/cut.py" 172)⟩,⟨(PyData.keyHash P "__cached__"),(.str "__cached__" 174),.none⟩,⟨(PyData.keyHash P "PostError"),(.str "PostError" 228),(.ref 39)⟩,⟨(PyData.keyHash P "StoreFault"),(.str "StoreFault" 244),(.ref 52)⟩,⟨(PyData.keyHash P "SYSTEM"),(.str "SYSTEM" 248),(.str "\\Seen \\Answered \\Flagged \\Deleted \\Draft" 247)⟩,⟨(PyData.keyHash P "NO_KEYWORD"),(.str "NO_KEYWORD" 250),(.str "(){ %*\"\\]" 249)⟩,⟨(PyData.keyHash P "MOST_KEYWORD"),(.str "MOST_KEYWORD" 252),(.int 60 251)⟩,⟨(PyData.keyHash P "system_flags"),(.str "system_flags" 258),(.ref 61)⟩,⟨(PyData.keyHash P "is_keyword"),(.str "is_keyword" 266),(.ref 68)⟩,⟨(PyData.keyHash P "flag_name"),(.str "flag_name" 274),(.ref 75)⟩,⟨(PyData.keyHash P "flag_tuple"),(.str "flag_tuple" 284),(.ref 82)⟩,⟨(PyData.keyHash P "Letter"),(.str "Letter" 336),(.ref 113)⟩]) 19),(List.toArray [])⟩
noncomputable def o124 : Params → Obj := fun P => ⟨.none,.none,(.fields (List.toArray [(.int 2 0),(.int 0 0),(.ref 20),(.int 11 0),(.int 0 0),(.ref 48),(.int 17 0),(.int 0 0),(.ref 60),(.int 19 0),(.int 0 0),(.ref 67),(.int 26 0),(.int 0 0),(.ref 74),(.int 33 0),(.int 0 0),(.ref 81),(.int 40 0),(.int 0 0),(.ref 88)])),(List.toArray [])⟩
noncomputable def o125 : Params → Obj := fun P => ⟨(.type "tuple"),.none,(.seq (List.toArray []) 0),(List.toArray [])⟩
noncomputable def o126 : Params → Obj := fun P => ⟨(.type "builtin_function_or_method"),.none,(.fields (List.toArray [(.builtin "type.__prepare__"),(.type "type")])),(List.toArray [])⟩
noncomputable def o127 : Params → Obj := fun P => ⟨(.type "dict"),.none,(.dict (List.toArray [⟨(PyData.keyHash P "__module__"),(.str "__module__" 292),(.str "postkeep.boxes" 245)⟩,⟨(PyData.keyHash P "__qualname__"),(.str "__qualname__" 294),(.str "Letter" 293)⟩,⟨(PyData.keyHash P "__firstlineno__"),(.str "__firstlineno__" 296),(.int 40 295)⟩,⟨(PyData.keyHash P "__init__"),(.str "__init__" 308),(.ref 96)⟩,⟨(PyData.keyHash P "has"),(.str "has" 316),(.ref 103)⟩,⟨(PyData.keyHash P "told"),(.str "told" 323),(.ref 110)⟩,⟨(PyData.keyHash P "__static_attributes__"),(.str "__static_attributes__" 329),(.ref 111)⟩]) 7),(List.toArray [])⟩
noncomputable def o128 : Params → Obj := fun P => ⟨(.type "tuple"),.none,(.seq (List.toArray []) 0),(List.toArray [])⟩
noncomputable def o129 : Params → Obj := fun P => ⟨.none,.none,(.fields (List.toArray [(.int 42 0),(.int 4 0),(.ref 95),(.int 49 0),(.int 4 0),(.ref 102),(.int 52 0),(.int 4 0),(.ref 109)])),(List.toArray [])⟩
noncomputable def o130 : Params → Obj := fun P => ⟨(.type "code"),.none,(.fields (List.toArray [(.str "Letter" 287),(.str "Letter" 288),(.str "/claim/cut.py" 289),(.int 40 0),(.int 0 0),(.int 0 0),(.int 0 0),(.int 0 0),(.ref 86),(.bool false),(.int 181 0),(.ref 87),.none,.none,.none,.none,(.int 290 0),(.int 40 0),(.str "/claim/cut.py" 291)])),(List.toArray [])⟩
noncomputable def o131 : Params → Obj := fun P => ⟨(.type "frame"),.none,.plain,(List.toArray [(.some (.ref 88)),(.some (.ref 3)),(.some (.ref 85)),.none,(.some (.str "postkeep.boxes" 245)),.none,(.some (.ref 0))])⟩
noncomputable def o132 : Params → Obj := fun P => ⟨(.type "tuple"),.none,(.seq (List.toArray []) 0),(List.toArray [])⟩
noncomputable def o133 : Params → Obj := fun P => ⟨.none,.none,(.fields (List.toArray [])),(List.toArray [])⟩
noncomputable def o134 : Params → Obj := fun P => ⟨(.type "tuple"),.none,(.seq (List.toArray [(.str "self" 300),(.str "uid" 301),(.str "octets" 302),(.str "flags" 303),(.str "instant" 304),(.str "modseq" 305)]) 0),(List.toArray [])⟩
noncomputable def o135 : Params → Obj := fun P => ⟨(.type "tuple"),.none,(.seq (List.toArray []) 0),(List.toArray [])⟩
noncomputable def o136 : Params → Obj := fun P => ⟨.none,.none,(.func ⟨"__init__","Letter.__init__",(fA df6),(fB df6),(fS df6),0,[],.none,.none,.none,.none,.none,.none,.none,0⟩),(List.toArray [])⟩
noncomputable def o137 : Params → Obj := fun P => ⟨(.type "code"),.none,(.fields (List.toArray [(.str "__init__" 297),(.str "Letter.__init__" 298),(.str "/claim/cut.py" 299),(.int 42 0),(.int 6 0),(.int 0 0),(.int 0 0),(.int 3 0),(.ref 90),(.bool true),(.int 181 0),(.ref 91),.none,(.ref 92),(.ref 93),(.ref 94),(.int 306 0),(.int 42 0),(.str "/claim/cut.py" 307)])),(List.toArray [])⟩
noncomputable def o138 : Params → Obj := fun P => ⟨(.type "function"),.none,(.func ⟨"__init__","Letter.__init__",(fA df6),(fB df6),(fS df6),3,[],.none,.none,.none,(.str "postkeep.boxes" 245),.none,(.ref 95),.none,0⟩),(List.toArray [])⟩
noncomputable def o139 : Params → Obj := fun P => ⟨(.type "tuple"),.none,(.seq (List.toArray []) 0),(List.toArray [])⟩
noncomputable def o140 : Params → Obj := fun P => ⟨.none,.none,(.fields (List.toArray [])),(List.toArray [])⟩
noncomputable def o141 : Params → Obj := fun P => ⟨(.type "tuple"),.none,(.seq (List.toArray [(.str "self" 312),(.str "name" 313)]) 0),(List.toArray [])⟩
noncomputable def o142 : Params → Obj := fun P => ⟨(.type "tuple"),.none,(.seq (List.toArray []) 0),(List.toArray [])⟩
noncomputable def o143 : Params → Obj := fun P => ⟨.none,.none,(.func ⟨"has","Letter.has",(fA df7),(fB df7),(fS df7),0,[],.none,.none,.none,.none,.none,.none,.none,0⟩),(List.toArray [])⟩
noncomputable def o144 : Params → Obj := fun P => ⟨(.type "code"),.none,(.fields (List.toArray [(.str "has" 309),(.str "Letter.has" 310),(.str "/claim/cut.py" 311),(.int 49 0),(.int 2 0),(.int 0 0),(.int 0 0),(.int 3 0),(.ref 97),(.bool true),(.int 181 0),(.ref 98),.none,(.ref 99),(.ref 100),(.ref 101),(.int 314 0),(.int 49 0),(.str "/claim/cut.py" 315)])),(List.toArray [])⟩
noncomputable def o145 : Params → Obj := fun P => ⟨(.type "function"),.none,(.func ⟨"has","Letter.has",(fA df7),(fB df7),(fS df7),3,[],.none,.none,.none,(.str "postkeep.boxes" 245),.none,(.ref 102),.none,0⟩),(List.toArray [])⟩
noncomputable def o146 : Params → Obj := fun P => ⟨(.type "tuple"),.none,(.seq (List.toArray []) 0),(List.toArray [])⟩
noncomputable def o147 : Params → Obj := fun P => ⟨.none,.none,(.fields (List.toArray [])),(List.toArray [])⟩
noncomputable def o148 : Params → Obj := fun P => ⟨(.type "tuple"),.none,(.seq (List.toArray [(.str "self" 320)]) 0),(List.toArray [])⟩
noncomputable def o149 : Params → Obj := fun P => ⟨(.type "tuple"),.none,(.seq (List.toArray []) 0),(List.toArray [])⟩
noncomputable def o150 : Params → Obj := fun P => ⟨.none,.none,(.func ⟨"told","Letter.told",(fA df8),(fB df8),(fS df8),0,[],.none,.none,.none,.none,.none,.none,.none,0⟩),(List.toArray [])⟩
noncomputable def o151 : Params → Obj := fun P => ⟨(.type "code"),.none,(.fields (List.toArray [(.str "told" 317),(.str "Letter.told" 318),(.str "/claim/cut.py" 319),(.int 52 0),(.int 1 0),(.int 0 0),(.int 0 0),(.int 3 0),(.ref 104),(.bool true),(.int 181 0),(.ref 105),.none,(.ref 106),(.ref 107),(.ref 108),(.int 321 0),(.int 52 0),(.str "/claim/cut.py" 322)])),(List.toArray [])⟩
noncomputable def o152 : Params → Obj := fun P => ⟨(.type "function"),.none,(.func ⟨"told","Letter.told",(fA df8),(fB df8),(fS df8),3,[],.none,.none,.none,(.str "postkeep.boxes" 245),.none,(.ref 109),.none,0⟩),(List.toArray [])⟩
noncomputable def o153 : Params → Obj := fun P => ⟨(.type "tuple"),.none,(.seq (List.toArray [(.str "flags" 324),(.str "instant" 325),(.str "modseq" 326),(.str "octets" 327),(.str "uid" 328)]) 0),(List.toArray [])⟩
noncomputable def o154 : Params → Obj := fun P => ⟨(.type "dict"),.none,(.dict (List.toArray [⟨(PyData.keyHash P "__module__"),(.str "__module__" 292),(.str "postkeep.boxes" 245)⟩,⟨(PyData.keyHash P "__firstlineno__"),(.str "__firstlineno__" 296),(.int 40 295)⟩,⟨(PyData.keyHash P "__init__"),(.str "__init__" 308),(.ref 96)⟩,⟨(PyData.keyHash P "has"),(.str "has" 316),(.ref 103)⟩,⟨(PyData.keyHash P "told"),(.str "told" 323),(.ref 110)⟩,⟨(PyData.keyHash P "__static_attributes__"),(.str "__static_attributes__" 329),(.ref 111)⟩,⟨(PyData.keyHash P "__dict__"),(.str "__dict__" 331),(.ref 114)⟩,⟨(PyData.keyHash P "__weakref__"),(.str "__weakref__" 333),(.ref 115)⟩,⟨(PyData.keyHash P "__doc__"),(.str "__doc__" 334),.none⟩]) 4),(List.toArray [])⟩
noncomputable def o155 : Params → Obj := fun P => ⟨(.type "type"),.none,(.cls ⟨"Letter",[(.type "object")],[(.ref 113),(.type "object")],112,"Letter",true,[],[],false,.none,false⟩),(List.toArray [.none,.none,(.some (.str "Letter" 285)),(.some (.str "Letter" 293)),(.some (.builtin "object.__new__")),(.some (.bool true))])⟩
noncomputable def o156 : Params → Obj := fun P => ⟨(.type "getset_descriptor"),.none,(.fields (List.toArray [(.str "__dict__" 330),(.ref 113),(.builtin "function.__dict__"),(.builtin "function.__dict__#set")])),(List.toArray [])⟩
noncomputable def o157 : Params → Obj := fun P => ⟨(.type "getset_descriptor"),.none,(.fields (List.toArray [(.str "__weakref__" 332),(.ref 113),(.builtin "ExceptionGroup.__weakref__"),.none])),(List.toArray [])⟩
noncomputable def o158 : Params → Obj := fun P => ⟨(.type "super"),.none,(.fields (List.toArray [(.ref 113),(.ref 113),(.ref 113)])),(List.toArray [])⟩
noncomputable def o159 : Params → Obj := fun P => ⟨(.type "builtin_function_or_method"),.none,(.fields (List.toArray [(.builtin "object.__init_subclass__"),(.ref 113)])),(List.toArray [])⟩
noncomputable def o160 : Params → Obj := fun P => ⟨(.type "dict"),.none,(.dict (List.toArray [⟨(PyData.keyHash P "__name__"),(.str "__name__" 165),(.str "postkeep.boxes" 245)⟩,⟨(PyData.keyHash P "__doc__"),(.str "__doc__" 166),.none⟩,⟨(PyData.keyHash P "__package__"),(.str "__package__" 167),.none⟩,⟨(PyData.keyHash P "__loader__"),(.str "__loader__" 168),(.builtin "__main__.__loader__#opaque")⟩,⟨(PyData.keyHash P "__spec__"),(.str "__spec__" 169),.none⟩,⟨(PyData.keyHash P "__annotations__"),(.str "__annotations__" 170),(.ref 6)⟩,⟨(PyData.keyHash P "__builtins__"),(.str "__builtins__" 171),(.ref 4)⟩,⟨(PyData.keyHash P "__file__"),(.str "__file__" 173),(.str "/claim/cut.py" 172)⟩,⟨(PyData.keyHash P "__cached__"),(.str "__cached__" 174),.none⟩,⟨(PyData.keyHash P "PostError"),(.str "PostError" 228),(.ref 39)⟩,⟨(PyData.keyHash P "StoreFault"),(.str "StoreFault" 244),(.ref 52)⟩,⟨(PyData.keyHash P "SYSTEM"),(.str "SYSTEM" 248),(.str "\\Seen \\Answered \\Flagged \\Deleted \\Draft" 247)⟩,⟨(PyData.keyHash P "NO_KEYWORD"),(.str "NO_KEYWORD" 250),(.str "(){ %*\"\\]" 249)⟩,⟨(PyData.keyHash P "MOST_KEYWORD"),(.str "MOST_KEYWORD" 252),(.int 60 251)⟩,⟨(PyData.keyHash P "system_flags"),(.str "system_flags" 258),(.ref 61)⟩,⟨(PyData.keyHash P "is_keyword"),(.str "is_keyword" 266),(.ref 68)⟩,⟨(PyData.keyHash P "flag_name"),(.str "flag_name" 274),(.ref 75)⟩,⟨(PyData.keyHash P "flag_tuple"),(.str "flag_tuple" 284),(.ref 82)⟩,⟨(PyData.keyHash P "Letter"),(.str "Letter" 336),(.ref 113)⟩,⟨(PyData.keyHash P "Box"),(.str "Box" 393),(.ref 151)⟩,⟨(PyData.keyHash P "place_of"),(.str "place_of" 404),(.ref 162)⟩,⟨(PyData.keyHash P "number_in"),(.str "number_in" 412),(.ref 169)⟩]) 22),(List.toArray [])⟩
noncomputable def o161 : Params → Obj := fun P => ⟨.none,.none,(.fields (List.toArray [(.int 2 0),(.int 0 0),(.ref 20),(.int 11 0),(.int 0 0),(.ref 48),(.int 17 0),(.int 0 0),(.ref 60),(.int 19 0),(.int 0 0),(.ref 67),(.int 26 0),(.int 0 0),(.ref 74),(.int 33 0),(.int 0 0),(.ref 81),(.int 40 0),(.int 0 0),(.ref 88),(.int 54 0),(.int 0 0),(.ref 123),(.int 75 0),(.int 0 0),(.ref 161),(.int 86 0),(.int 0 0),(.ref 168)])),(List.toArray [])⟩
noncomputable def o162 : Params → Obj := fun P => ⟨(.type "tuple"),.none,(.seq (List.toArray []) 0),(List.toArray [])⟩
noncomputable def o163 : Params → Obj := fun P => ⟨(.type "builtin_function_or_method"),.none,(.fields (List.toArray [(.builtin "type.__prepare__"),(.type "type")])),(List.toArray [])⟩
noncomputable def o164 : Params → Obj := fun P => ⟨(.type "dict"),.none,(.dict (List.toArray [⟨(PyData.keyHash P "__module__"),(.str "__module__" 344),(.str "postkeep.boxes" 245)⟩,⟨(PyData.keyHash P "__qualname__"),(.str "__qualname__" 346),(.str "Box" 345)⟩,⟨(PyData.keyHash P "__firstlineno__"),(.str "__firstlineno__" 348),(.int 54 347)⟩,⟨(PyData.keyHash P "__init__"),(.str "__init__" 357),(.ref 131)⟩,⟨(PyData.keyHash P "letter"),(.str "letter" 366),(.ref 138)⟩,⟨(PyData.keyHash P "uids"),(.str "uids" 372),(.ref 143)⟩,⟨(PyData.keyHash P "told"),(.str "told" 378),(.ref 148)⟩,⟨(PyData.keyHash P "__static_attributes__"),(.str "__static_attributes__" 386),(.ref 149)⟩]) 8),(List.toArray [])⟩
noncomputable def o165 : Params → Obj := fun P => ⟨(.type "tuple"),.none,(.seq (List.toArray []) 0),(List.toArray [])⟩
noncomputable def o166 : Params → Obj := fun P => ⟨.none,.none,(.fields (List.toArray [(.int 56 0),(.int 4 0),(.ref 130),(.int 65 0),(.int 4 0),(.ref 137),(.int 69 0),(.int 4 0),(.ref 142),(.int 72 0),(.int 4 0),(.ref 147)])),(List.toArray [])⟩
noncomputable def o167 : Params → Obj := fun P => ⟨(.type "code"),.none,(.fields (List.toArray [(.str "Box" 339),(.str "Box" 340),(.str "/claim/cut.py" 341),(.int 54 0),(.int 0 0),(.int 0 0),(.int 0 0),(.int 0 0),(.ref 121),(.bool false),(.int 181 0),(.ref 122),.none,.none,.none,.none,(.int 342 0),(.int 54 0),(.str "/claim/cut.py" 343)])),(List.toArray [])⟩
noncomputable def o168 : Params → Obj := fun P => ⟨(.type "frame"),.none,.plain,(List.toArray [(.some (.ref 123)),(.some (.ref 3)),(.some (.ref 120)),.none,(.some (.str "postkeep.boxes" 245)),.none,(.some (.ref 0))])⟩
noncomputable def o169 : Params → Obj := fun P => ⟨(.type "tuple"),.none,(.seq (List.toArray []) 0),(List.toArray [])⟩
noncomputable def o170 : Params → Obj := fun P => ⟨.none,.none,(.fields (List.toArray [])),(List.toArray [])⟩
noncomputable def o171 : Params → Obj := fun P => ⟨(.type "tuple"),.none,(.seq (List.toArray [(.str "self" 352),(.str "name" 353),(.str "validity" 354)]) 0),(List.toArray [])⟩
noncomputable def o172 : Params → Obj := fun P => ⟨(.type "tuple"),.none,(.seq (List.toArray []) 0),(List.toArray [])⟩
noncomputable def o173 : Params → Obj := fun P => ⟨.none,.none,(.func ⟨"__init__","Box.__init__",(fA df9),(fB df9),(fS df9),0,[],.none,.none,.none,.none,.none,.none,.none,0⟩),(List.toArray [])⟩
noncomputable def o174 : Params → Obj := fun P => ⟨(.type "code"),.none,(.fields (List.toArray [(.str "__init__" 349),(.str "Box.__init__" 350),(.str "/claim/cut.py" 351),(.int 56 0),(.int 3 0),(.int 0 0),(.int 0 0),(.int 3 0),(.ref 125),(.bool true),(.int 181 0),(.ref 126),.none,(.ref 127),(.ref 128),(.ref 129),(.int 355 0),(.int 56 0),(.str "/claim/cut.py" 356)])),(List.toArray [])⟩
noncomputable def o175 : Params → Obj := fun P => ⟨(.type "function"),.none,(.func ⟨"__init__","Box.__init__",(fA df9),(fB df9),(fS df9),3,[],.none,.none,.none,(.str "postkeep.boxes" 245),.none,(.ref 130),.none,0⟩),(List.toArray [])⟩
noncomputable def o176 : Params → Obj := fun P => ⟨(.type "tuple"),.none,(.seq (List.toArray []) 0),(List.toArray [])⟩
noncomputable def o177 : Params → Obj := fun P => ⟨.none,.none,(.fields (List.toArray [])),(List.toArray [])⟩
noncomputable def o178 : Params → Obj := fun P => ⟨(.type "tuple"),.none,(.seq (List.toArray [(.str "self" 361),(.str "uid" 362),(.str "at" 363)]) 0),(List.toArray [])⟩
noncomputable def o179 : Params → Obj := fun P => ⟨(.type "tuple"),.none,(.seq (List.toArray []) 0),(List.toArray [])⟩
noncomputable def o180 : Params → Obj := fun P => ⟨.none,.none,(.func ⟨"letter","Box.letter",(fA df10),(fB df10),(fS df10),0,[],.none,.none,.none,.none,.none,.none,.none,0⟩),(List.toArray [])⟩
noncomputable def o181 : Params → Obj := fun P => ⟨(.type "code"),.none,(.fields (List.toArray [(.str "letter" 358),(.str "Box.letter" 359),(.str "/claim/cut.py" 360),(.int 65 0),(.int 2 0),(.int 0 0),(.int 0 0),(.int 3 0),(.ref 132),(.bool true),(.int 181 0),(.ref 133),.none,(.ref 134),(.ref 135),(.ref 136),(.int 364 0),(.int 65 0),(.str "/claim/cut.py" 365)])),(List.toArray [])⟩
noncomputable def o182 : Params → Obj := fun P => ⟨(.type "function"),.none,(.func ⟨"letter","Box.letter",(fA df10),(fB df10),(fS df10),3,[],.none,.none,.none,(.str "postkeep.boxes" 245),.none,(.ref 137),.none,0⟩),(List.toArray [])⟩
noncomputable def o183 : Params → Obj := fun P => ⟨(.type "tuple"),.none,(.seq (List.toArray []) 0),(List.toArray [])⟩
noncomputable def o184 : Params → Obj := fun P => ⟨.none,.none,(.fields (List.toArray [])),(List.toArray [])⟩
noncomputable def o185 : Params → Obj := fun P => ⟨.none,.none,(.func ⟨"uids","Box.uids",(fA df11),(fB df11),(fS df11),0,[],.none,.none,.none,.none,.none,.none,.none,0⟩),(List.toArray [])⟩
noncomputable def o186 : Params → Obj := fun P => ⟨(.type "code"),.none,(.fields (List.toArray [(.str "uids" 367),(.str "Box.uids" 368),(.str "/claim/cut.py" 369),(.int 69 0),(.int 1 0),(.int 0 0),(.int 0 0),(.int 3 0),(.ref 139),(.bool true),(.int 181 0),(.ref 140),.none,.none,.none,(.ref 141),(.int 370 0),(.int 69 0),(.str "/claim/cut.py" 371)])),(List.toArray [])⟩
noncomputable def o187 : Params → Obj := fun P => ⟨(.type "function"),.none,(.func ⟨"uids","Box.uids",(fA df11),(fB df11),(fS df11),3,[],.none,.none,.none,(.str "postkeep.boxes" 245),.none,(.ref 142),.none,0⟩),(List.toArray [])⟩
noncomputable def o188 : Params → Obj := fun P => ⟨(.type "tuple"),.none,(.seq (List.toArray []) 0),(List.toArray [])⟩
noncomputable def o189 : Params → Obj := fun P => ⟨.none,.none,(.fields (List.toArray [])),(List.toArray [])⟩
noncomputable def o190 : Params → Obj := fun P => ⟨.none,.none,(.func ⟨"told","Box.told",(fA df12),(fB df12),(fS df12),0,[],.none,.none,.none,.none,.none,.none,.none,0⟩),(List.toArray [])⟩
noncomputable def o191 : Params → Obj := fun P => ⟨(.type "code"),.none,(.fields (List.toArray [(.str "told" 373),(.str "Box.told" 374),(.str "/claim/cut.py" 375),(.int 72 0),(.int 1 0),(.int 0 0),(.int 0 0),(.int 3 0),(.ref 144),(.bool true),(.int 181 0),(.ref 145),.none,.none,.none,(.ref 146),(.int 376 0),(.int 72 0),(.str "/claim/cut.py" 377)])),(List.toArray [])⟩
noncomputable def o192 : Params → Obj := fun P => ⟨(.type "function"),.none,(.func ⟨"told","Box.told",(fA df12),(fB df12),(fS df12),3,[],.none,.none,.none,(.str "postkeep.boxes" 245),.none,(.ref 147),.none,0⟩),(List.toArray [])⟩
noncomputable def o193 : Params → Obj := fun P => ⟨(.type "tuple"),.none,(.seq (List.toArray [(.str "floor" 379),(.str "gone" 380),(.str "letters" 381),(.str "name" 382),(.str "next_uid" 383),(.str "top" 384),(.str "validity" 385)]) 0),(List.toArray [])⟩
noncomputable def o194 : Params → Obj := fun P => ⟨(.type "dict"),.none,(.dict (List.toArray [⟨(PyData.keyHash P "__module__"),(.str "__module__" 344),(.str "postkeep.boxes" 245)⟩,⟨(PyData.keyHash P "__firstlineno__"),(.str "__firstlineno__" 348),(.int 54 347)⟩,⟨(PyData.keyHash P "__init__"),(.str "__init__" 357),(.ref 131)⟩,⟨(PyData.keyHash P "letter"),(.str "letter" 366),(.ref 138)⟩,⟨(PyData.keyHash P "uids"),(.str "uids" 372),(.ref 143)⟩,⟨(PyData.keyHash P "told"),(.str "told" 378),(.ref 148)⟩,⟨(PyData.keyHash P "__static_attributes__"),(.str "__static_attributes__" 386),(.ref 149)⟩,⟨(PyData.keyHash P "__dict__"),(.str "__dict__" 388),(.ref 152)⟩,⟨(PyData.keyHash P "__weakref__"),(.str "__weakref__" 390),(.ref 153)⟩,⟨(PyData.keyHash P "__doc__"),(.str "__doc__" 391),.none⟩]) 4),(List.toArray [])⟩
noncomputable def o195 : Params → Obj := fun P => ⟨(.type "type"),.none,(.cls ⟨"Box",[(.type "object")],[(.ref 151),(.type "object")],150,"Box",true,[],[],false,.none,false⟩),(List.toArray [.none,.none,(.some (.str "Box" 337)),(.some (.str "Box" 345)),(.some (.builtin "object.__new__")),(.some (.bool true))])⟩
noncomputable def o196 : Params → Obj := fun P => ⟨(.type "getset_descriptor"),.none,(.fields (List.toArray [(.str "__dict__" 387),(.ref 151),(.builtin "function.__dict__"),(.builtin "function.__dict__#set")])),(List.toArray [])⟩
noncomputable def o197 : Params → Obj := fun P => ⟨(.type "getset_descriptor"),.none,(.fields (List.toArray [(.str "__weakref__" 389),(.ref 151),(.builtin "ExceptionGroup.__weakref__"),.none])),(List.toArray [])⟩
noncomputable def o198 : Params → Obj := fun P => ⟨(.type "super"),.none,(.fields (List.toArray [(.ref 151),(.ref 151),(.ref 151)])),(List.toArray [])⟩
noncomputable def o199 : Params → Obj := fun P => ⟨(.type "builtin_function_or_method"),.none,(.fields (List.toArray [(.builtin "object.__init_subclass__"),(.ref 151)])),(List.toArray [])⟩
noncomputable def o200 : Params → Obj := fun P => ⟨(.type "tuple"),.none,(.seq (List.toArray []) 0),(List.toArray [])⟩
noncomputable def o201 : Params → Obj := fun P => ⟨.none,.none,(.fields (List.toArray [])),(List.toArray [])⟩
noncomputable def o202 : Params → Obj := fun P => ⟨(.type "tuple"),.none,(.seq (List.toArray [(.str "letters" 397),(.str "uid" 398),(.str "low" 399),(.str "high" 400),(.str "middle" 401)]) 0),(List.toArray [])⟩
noncomputable def o203 : Params → Obj := fun P => ⟨(.type "tuple"),.none,(.seq (List.toArray []) 0),(List.toArray [])⟩
noncomputable def o204 : Params → Obj := fun P => ⟨.none,.none,(.func ⟨"place_of","place_of",(fA df13),(fB df13),(fS df13),0,[],.none,.none,.none,.none,.none,.none,.none,0⟩),(List.toArray [])⟩
noncomputable def o205 : Params → Obj := fun P => ⟨(.type "code"),.none,(.fields (List.toArray [(.str "place_of" 394),(.str "place_of" 395),(.str "/claim/cut.py" 396),(.int 75 0),(.int 2 0),(.int 0 0),(.int 0 0),(.int 3 0),(.ref 156),(.bool true),(.int 181 0),(.ref 157),.none,(.ref 158),(.ref 159),(.ref 160),(.int 402 0),(.int 75 0),(.str "/claim/cut.py" 403)])),(List.toArray [])⟩
noncomputable def o206 : Params → Obj := fun P => ⟨(.type "function"),.none,(.func ⟨"place_of","place_of",(fA df13),(fB df13),(fS df13),3,[],.none,.none,.none,(.str "postkeep.boxes" 245),.none,(.ref 161),.none,0⟩),(List.toArray [])⟩
noncomputable def o207 : Params → Obj := fun P => ⟨(.type "tuple"),.none,(.seq (List.toArray []) 0),(List.toArray [])⟩
noncomputable def o208 : Params → Obj := fun P => ⟨.none,.none,(.fields (List.toArray [])),(List.toArray [])⟩
noncomputable def o209 : Params → Obj := fun P => ⟨(.type "tuple"),.none,(.seq (List.toArray [(.str "box" 408),(.str "uid" 409)]) 0),(List.toArray [])⟩
noncomputable def o210 : Params → Obj := fun P => ⟨(.type "tuple"),.none,(.seq (List.toArray []) 0),(List.toArray [])⟩
noncomputable def o211 : Params → Obj := fun P => ⟨.none,.none,(.func ⟨"number_in","number_in",(fA df14),(fB df14),(fS df14),0,[],.none,.none,.none,.none,.none,.none,.none,0⟩),(List.toArray [])⟩
noncomputable def o212 : Params → Obj := fun P => ⟨(.type "code"),.none,(.fields (List.toArray [(.str "number_in" 405),(.str "number_in" 406),(.str "/claim/cut.py" 407),(.int 86 0),(.int 2 0),(.int 0 0),(.int 0 0),(.int 3 0),(.ref 163),(.bool true),(.int 181 0),(.ref 164),.none,(.ref 165),(.ref 166),(.ref 167),(.int 410 0),(.int 86 0),(.str "/claim/cut.py" 411)])),(List.toArray [])⟩
noncomputable def o213 : Params → Obj := fun P => ⟨(.type "function"),.none,(.func ⟨"number_in","number_in",(fA df14),(fB df14),(fS df14),3,[],.none,.none,.none,(.str "postkeep.boxes" 245),.none,(.ref 168),.none,0⟩),(List.toArray [])⟩
noncomputable def o214 : Params → Obj := fun P => ⟨(.type "dict"),.none,(.dict (List.toArray [⟨(PyData.keyHash P "__name__"),(.str "__name__" 165),(.str "postkeep.changes" 499)⟩,⟨(PyData.keyHash P "__doc__"),(.str "__doc__" 166),.none⟩,⟨(PyData.keyHash P "__package__"),(.str "__package__" 167),.none⟩,⟨(PyData.keyHash P "__loader__"),(.str "__loader__" 168),(.builtin "__main__.__loader__#opaque")⟩,⟨(PyData.keyHash P "__spec__"),(.str "__spec__" 169),.none⟩,⟨(PyData.keyHash P "__annotations__"),(.str "__annotations__" 170),(.ref 6)⟩,⟨(PyData.keyHash P "__builtins__"),(.str "__builtins__" 171),(.ref 4)⟩,⟨(PyData.keyHash P "__file__"),(.str "__file__" 173),(.str "/claim/cut.py" 172)⟩,⟨(PyData.keyHash P "__cached__"),(.str "__cached__" 174),.none⟩,⟨(PyData.keyHash P "PostError"),(.str "PostError" 228),(.ref 39)⟩,⟨(PyData.keyHash P "StoreFault"),(.str "StoreFault" 244),(.ref 52)⟩,⟨(PyData.keyHash P "SYSTEM"),(.str "SYSTEM" 248),(.str "\\Seen \\Answered \\Flagged \\Deleted \\Draft" 247)⟩,⟨(PyData.keyHash P "NO_KEYWORD"),(.str "NO_KEYWORD" 250),(.str "(){ %*\"\\]" 249)⟩,⟨(PyData.keyHash P "MOST_KEYWORD"),(.str "MOST_KEYWORD" 252),(.int 60 251)⟩,⟨(PyData.keyHash P "system_flags"),(.str "system_flags" 258),(.ref 61)⟩,⟨(PyData.keyHash P "is_keyword"),(.str "is_keyword" 266),(.ref 68)⟩,⟨(PyData.keyHash P "flag_name"),(.str "flag_name" 274),(.ref 75)⟩,⟨(PyData.keyHash P "flag_tuple"),(.str "flag_tuple" 284),(.ref 82)⟩,⟨(PyData.keyHash P "Letter"),(.str "Letter" 336),(.ref 113)⟩,⟨(PyData.keyHash P "Box"),(.str "Box" 393),(.ref 151)⟩,⟨(PyData.keyHash P "place_of"),(.str "place_of" 404),(.ref 162)⟩,⟨(PyData.keyHash P "number_in"),(.str "number_in" 412),(.ref 169)⟩,⟨(PyData.keyHash P "raised"),(.str "raised" 419),(.ref 176)⟩,⟨(PyData.keyHash P "add_letter"),(.str "add_letter" 431),(.ref 183)⟩,⟨(PyData.keyHash P "set_flags"),(.str "set_flags" 443),(.ref 190)⟩,⟨(PyData.keyHash P "expunge"),(.str "expunge" 449),(.ref 195)⟩,⟨(PyData.keyHash P "ends_of"),(.str "ends_of" 461),(.ref 202)⟩,⟨(PyData.keyHash P "plain_set"),(.str "plain_set" 475),(.ref 209)⟩,⟨(PyData.keyHash P "has"),(.str "has" 486),(.ref 216)⟩,⟨(PyData.keyHash P "members"),(.str "members" 498),(.ref 223)⟩,⟨(PyData.keyHash P "changed_since"),(.str "changed_since" 506),(.ref 228)⟩,⟨(PyData.keyHash P "is_forgotten"),(.str "is_forgotten" 514),(.ref 235)⟩,⟨(PyData.keyHash P "missing_uids"),(.str "missing_uids" 520),(.ref 240)⟩,⟨(PyData.keyHash P "gone_since"),(.str "gone_since" 526),(.ref 245)⟩]) 34),(List.toArray [])⟩
noncomputable def o215 : Params → Obj := fun P => ⟨.none,.none,(.fields (List.toArray [(.int 2 0),(.int 0 0),(.ref 20),(.int 11 0),(.int 0 0),(.ref 48),(.int 17 0),(.int 0 0),(.ref 60),(.int 19 0),(.int 0 0),(.ref 67),(.int 26 0),(.int 0 0),(.ref 74),(.int 33 0),(.int 0 0),(.ref 81),(.int 40 0),(.int 0 0),(.ref 88),(.int 54 0),(.int 0 0),(.ref 123),(.int 75 0),(.int 0 0),(.ref 161),(.int 86 0),(.int 0 0),(.ref 168),(.int 88 0),(.int 0 0),(.ref 175),(.int 91 0),(.int 0 0),(.ref 182),(.int 97 0),(.int 0 0),(.ref 189),(.int 107 0),(.int 0 0),(.ref 194),(.int 119 0),(.int 0 0),(.ref 201),(.int 128 0),(.int 0 0),(.ref 208),(.int 142 0),(.int 0 0),(.ref 215),(.int 148 0),(.int 0 0),(.ref 222),(.int 161 0),(.int 0 0),(.ref 227),(.int 163 0),(.int 0 0),(.ref 234),(.int 165 0),(.int 0 0),(.ref 239),(.int 167 0),(.int 0 0),(.ref 244)])),(List.toArray [])⟩
noncomputable def o216 : Params → Obj := fun P => ⟨(.type "tuple"),.none,(.seq (List.toArray []) 0),(List.toArray [])⟩
noncomputable def o217 : Params → Obj := fun P => ⟨.none,.none,(.fields (List.toArray [])),(List.toArray [])⟩
noncomputable def o218 : Params → Obj := fun P => ⟨(.type "tuple"),.none,(.seq (List.toArray [(.str "box" 416)]) 0),(List.toArray [])⟩
noncomputable def o219 : Params → Obj := fun P => ⟨(.type "tuple"),.none,(.seq (List.toArray []) 0),(List.toArray [])⟩
noncomputable def o220 : Params → Obj := fun P => ⟨.none,.none,(.func ⟨"raised","raised",(fA df15),(fB df15),(fS df15),0,[],.none,.none,.none,.none,.none,.none,.none,0⟩),(List.toArray [])⟩
noncomputable def o221 : Params → Obj := fun P => ⟨(.type "code"),.none,(.fields (List.toArray [(.str "raised" 413),(.str "raised" 414),(.str "/claim/cut.py" 415),(.int 88 0),(.int 1 0),(.int 0 0),(.int 0 0),(.int 3 0),(.ref 170),(.bool true),(.int 181 0),(.ref 171),.none,(.ref 172),(.ref 173),(.ref 174),(.int 417 0),(.int 88 0),(.str "/claim/cut.py" 418)])),(List.toArray [])⟩
noncomputable def o222 : Params → Obj := fun P => ⟨(.type "function"),.none,(.func ⟨"raised","raised",(fA df15),(fB df15),(fS df15),3,[],.none,.none,.none,(.str "postkeep.boxes" 245),.none,(.ref 175),.none,0⟩),(List.toArray [])⟩
noncomputable def o223 : Params → Obj := fun P => ⟨(.type "tuple"),.none,(.seq (List.toArray []) 0),(List.toArray [])⟩
noncomputable def o224 : Params → Obj := fun P => ⟨.none,.none,(.fields (List.toArray [])),(List.toArray [])⟩
noncomputable def o225 : Params → Obj := fun P => ⟨(.type "tuple"),.none,(.seq (List.toArray [(.str "box" 423),(.str "octets" 424),(.str "flags" 425),(.str "instant" 426),(.str "names" 427),(.str "letter" 428)]) 0),(List.toArray [])⟩
noncomputable def o226 : Params → Obj := fun P => ⟨(.type "tuple"),.none,(.seq (List.toArray []) 0),(List.toArray [])⟩
noncomputable def o227 : Params → Obj := fun P => ⟨.none,.none,(.func ⟨"add_letter","add_letter",(fA df16),(fB df16),(fS df16),0,[],.none,.none,.none,.none,.none,.none,.none,0⟩),(List.toArray [])⟩
noncomputable def o228 : Params → Obj := fun P => ⟨(.type "code"),.none,(.fields (List.toArray [(.str "add_letter" 420),(.str "add_letter" 421),(.str "/claim/cut.py" 422),(.int 91 0),(.int 4 0),(.int 0 0),(.int 0 0),(.int 3 0),(.ref 177),(.bool true),(.int 181 0),(.ref 178),.none,(.ref 179),(.ref 180),(.ref 181),(.int 429 0),(.int 91 0),(.str "/claim/cut.py" 430)])),(List.toArray [])⟩
noncomputable def o229 : Params → Obj := fun P => ⟨(.type "function"),.none,(.func ⟨"add_letter","add_letter",(fA df16),(fB df16),(fS df16),3,[],.none,.none,.none,(.str "postkeep.boxes" 245),.none,(.ref 182),.none,0⟩),(List.toArray [])⟩
noncomputable def o230 : Params → Obj := fun P => ⟨(.type "tuple"),.none,(.seq (List.toArray []) 0),(List.toArray [])⟩
noncomputable def o231 : Params → Obj := fun P => ⟨.none,.none,(.fields (List.toArray [])),(List.toArray [])⟩
noncomputable def o232 : Params → Obj := fun P => ⟨(.type "tuple"),.none,(.seq (List.toArray [(.str "box" 435),(.str "uid" 436),(.str "flags" 437),(.str "names" 438),(.str "at" 439),(.str "letter" 440)]) 0),(List.toArray [])⟩
noncomputable def o233 : Params → Obj := fun P => ⟨(.type "tuple"),.none,(.seq (List.toArray []) 0),(List.toArray [])⟩
noncomputable def o234 : Params → Obj := fun P => ⟨.none,.none,(.func ⟨"set_flags","set_flags",(fA df17),(fB df17),(fS df17),0,[],.none,.none,.none,.none,.none,.none,.none,0⟩),(List.toArray [])⟩
noncomputable def o235 : Params → Obj := fun P => ⟨(.type "code"),.none,(.fields (List.toArray [(.str "set_flags" 432),(.str "set_flags" 433),(.str "/claim/cut.py" 434),(.int 97 0),(.int 3 0),(.int 0 0),(.int 0 0),(.int 3 0),(.ref 184),(.bool true),(.int 181 0),(.ref 185),.none,(.ref 186),(.ref 187),(.ref 188),(.int 441 0),(.int 97 0),(.str "/claim/cut.py" 442)])),(List.toArray [])⟩
noncomputable def o236 : Params → Obj := fun P => ⟨(.type "function"),.none,(.func ⟨"set_flags","set_flags",(fA df17),(fB df17),(fS df17),3,[],.none,.none,.none,(.str "postkeep.boxes" 245),.none,(.ref 189),.none,0⟩),(List.toArray [])⟩
noncomputable def o237 : Params → Obj := fun P => ⟨(.type "tuple"),.none,(.seq (List.toArray []) 0),(List.toArray [])⟩
noncomputable def o238 : Params → Obj := fun P => ⟨.none,.none,(.fields (List.toArray [])),(List.toArray [])⟩
noncomputable def o239 : Params → Obj := fun P => ⟨.none,.none,(.func ⟨"expunge","expunge",(fA df18),(fB df18),(fS df18),0,[],.none,.none,.none,.none,.none,.none,.none,0⟩),(List.toArray [])⟩
noncomputable def o240 : Params → Obj := fun P => ⟨(.type "code"),.none,(.fields (List.toArray [(.str "expunge" 444),(.str "expunge" 445),(.str "/claim/cut.py" 446),(.int 107 0),(.int 2 0),(.int 0 0),(.int 0 0),(.int 3 0),(.ref 191),(.bool true),(.int 181 0),(.ref 192),.none,.none,.none,(.ref 193),(.int 447 0),(.int 107 0),(.str "/claim/cut.py" 448)])),(List.toArray [])⟩
noncomputable def o241 : Params → Obj := fun P => ⟨(.type "function"),.none,(.func ⟨"expunge","expunge",(fA df18),(fB df18),(fS df18),3,[],.none,.none,.none,(.str "postkeep.boxes" 245),.none,(.ref 194),.none,0⟩),(List.toArray [])⟩
noncomputable def o242 : Params → Obj := fun P => ⟨(.type "tuple"),.none,(.seq (List.toArray []) 0),(List.toArray [])⟩
noncomputable def o243 : Params → Obj := fun P => ⟨.none,.none,(.fields (List.toArray [])),(List.toArray [])⟩
noncomputable def o244 : Params → Obj := fun P => ⟨(.type "tuple"),.none,(.seq (List.toArray [(.str "pair" 455),(.str "greatest" 456),(.str "low" 457),(.str "high" 458)]) 0),(List.toArray [])⟩
noncomputable def o245 : Params → Obj := fun P => ⟨(.type "tuple"),.none,(.seq (List.toArray []) 0),(List.toArray [])⟩
noncomputable def o246 : Params → Obj := fun P => ⟨.none,.none,(.func ⟨"ends_of","ends_of",(fA df19),(fB df19),(fS df19),0,[],.none,.none,.none,.none,.none,.none,.none,0⟩),(List.toArray [])⟩
noncomputable def o247 : Params → Obj := fun P => ⟨(.type "code"),.none,(.fields (List.toArray [(.str "ends_of" 452),(.str "ends_of" 453),(.str "/claim/cut.py" 454),(.int 119 0),(.int 2 0),(.int 0 0),(.int 0 0),(.int 3 0),(.ref 196),(.bool true),(.int 181 0),(.ref 197),.none,(.ref 198),(.ref 199),(.ref 200),(.int 459 0),(.int 119 0),(.str "/claim/cut.py" 460)])),(List.toArray [])⟩
noncomputable def o248 : Params → Obj := fun P => ⟨(.type "function"),.none,(.func ⟨"ends_of","ends_of",(fA df19),(fB df19),(fS df19),3,[],.none,.none,.none,(.str "postkeep.sets" 450),.none,(.ref 201),.none,0⟩),(List.toArray [])⟩
noncomputable def o249 : Params → Obj := fun P => ⟨(.type "tuple"),.none,(.seq (List.toArray []) 0),(List.toArray [])⟩
noncomputable def o250 : Params → Obj := fun P => ⟨.none,.none,(.fields (List.toArray [])),(List.toArray [])⟩
noncomputable def o251 : Params → Obj := fun P => ⟨(.type "tuple"),.none,(.seq (List.toArray [(.str "some" 465),(.str "greatest" 466),(.str "pairs" 467),(.str "pair" 468),(.str "ends" 469),(.str "out" 470),(.str "low" 471),(.str "high" 472)]) 0),(List.toArray [])⟩
noncomputable def o252 : Params → Obj := fun P => ⟨(.type "tuple"),.none,(.seq (List.toArray []) 0),(List.toArray [])⟩
noncomputable def o253 : Params → Obj := fun P => ⟨.none,.none,(.func ⟨"plain_set","plain_set",(fA df20),(fB df20),(fS df20),0,[],.none,.none,.none,.none,.none,.none,.none,0⟩),(List.toArray [])⟩
noncomputable def o254 : Params → Obj := fun P => ⟨(.type "code"),.none,(.fields (List.toArray [(.str "plain_set" 462),(.str "plain_set" 463),(.str "/claim/cut.py" 464),(.int 128 0),(.int 2 0),(.int 0 0),(.int 0 0),(.int 3 0),(.ref 203),(.bool true),(.int 181 0),(.ref 204),.none,(.ref 205),(.ref 206),(.ref 207),(.int 473 0),(.int 128 0),(.str "/claim/cut.py" 474)])),(List.toArray [])⟩
noncomputable def o255 : Params → Obj := fun P => ⟨(.type "function"),.none,(.func ⟨"plain_set","plain_set",(fA df20),(fB df20),(fS df20),3,[],.none,.none,.none,(.str "postkeep.sets" 450),.none,(.ref 208),.none,0⟩),(List.toArray [])⟩
noncomputable def o256 : Params → Obj := fun P => ⟨(.type "tuple"),.none,(.seq (List.toArray []) 0),(List.toArray [])⟩
noncomputable def o257 : Params → Obj := fun P => ⟨.none,.none,(.fields (List.toArray [])),(List.toArray [])⟩
noncomputable def o258 : Params → Obj := fun P => ⟨(.type "tuple"),.none,(.seq (List.toArray [(.str "some" 479),(.str "number" 480),(.str "greatest" 481),(.str "pair" 482),(.str "ends" 483)]) 0),(List.toArray [])⟩
noncomputable def o259 : Params → Obj := fun P => ⟨(.type "tuple"),.none,(.seq (List.toArray []) 0),(List.toArray [])⟩
noncomputable def o260 : Params → Obj := fun P => ⟨.none,.none,(.func ⟨"has","has",(fA df21),(fB df21),(fS df21),0,[],.none,.none,.none,.none,.none,.none,.none,0⟩),(List.toArray [])⟩
noncomputable def o261 : Params → Obj := fun P => ⟨(.type "code"),.none,(.fields (List.toArray [(.str "has" 476),(.str "has" 477),(.str "/claim/cut.py" 478),(.int 142 0),(.int 3 0),(.int 0 0),(.int 0 0),(.int 3 0),(.ref 210),(.bool true),(.int 181 0),(.ref 211),.none,(.ref 212),(.ref 213),(.ref 214),(.int 484 0),(.int 142 0),(.str "/claim/cut.py" 485)])),(List.toArray [])⟩
noncomputable def o262 : Params → Obj := fun P => ⟨(.type "function"),.none,(.func ⟨"has","has",(fA df21),(fB df21),(fS df21),3,[],.none,.none,.none,(.str "postkeep.sets" 450),.none,(.ref 215),.none,0⟩),(List.toArray [])⟩
noncomputable def o263 : Params → Obj := fun P => ⟨(.type "tuple"),.none,(.seq (List.toArray []) 0),(List.toArray [])⟩
noncomputable def o264 : Params → Obj := fun P => ⟨.none,.none,(.fields (List.toArray [])),(List.toArray [])⟩
noncomputable def o265 : Params → Obj := fun P => ⟨(.type "tuple"),.none,(.seq (List.toArray [(.str "some" 490),(.str "numbers" 491),(.str "pairs" 492),(.str "out" 493),(.str "at" 494),(.str "number" 495)]) 0),(List.toArray [])⟩
noncomputable def o266 : Params → Obj := fun P => ⟨(.type "tuple"),.none,(.seq (List.toArray []) 0),(List.toArray [])⟩
noncomputable def o267 : Params → Obj := fun P => ⟨.none,.none,(.func ⟨"members","members",(fA df22),(fB df22),(fS df22),0,[],.none,.none,.none,.none,.none,.none,.none,0⟩),(List.toArray [])⟩
noncomputable def o268 : Params → Obj := fun P => ⟨(.type "code"),.none,(.fields (List.toArray [(.str "members" 487),(.str "members" 488),(.str "/claim/cut.py" 489),(.int 148 0),(.int 2 0),(.int 0 0),(.int 0 0),(.int 3 0),(.ref 217),(.bool true),(.int 181 0),(.ref 218),.none,(.ref 219),(.ref 220),(.ref 221),(.int 496 0),(.int 148 0),(.str "/claim/cut.py" 497)])),(List.toArray [])⟩
noncomputable def o269 : Params → Obj := fun P => ⟨(.type "function"),.none,(.func ⟨"members","members",(fA df22),(fB df22),(fS df22),3,[],.none,.none,.none,(.str "postkeep.sets" 450),.none,(.ref 222),.none,0⟩),(List.toArray [])⟩
noncomputable def o270 : Params → Obj := fun P => ⟨(.type "tuple"),.none,(.seq (List.toArray []) 0),(List.toArray [])⟩
noncomputable def o271 : Params → Obj := fun P => ⟨.none,.none,(.fields (List.toArray [])),(List.toArray [])⟩
noncomputable def o272 : Params → Obj := fun P => ⟨.none,.none,(.func ⟨"changed_since","changed_since",(fA df23),(fB df23),(fS df23),0,[],.none,.none,.none,.none,.none,.none,.none,0⟩),(List.toArray [])⟩
noncomputable def o273 : Params → Obj := fun P => ⟨(.type "code"),.none,(.fields (List.toArray [(.str "changed_since" 501),(.str "changed_since" 502),(.str "/claim/cut.py" 503),(.int 161 0),(.int 2 0),(.int 0 0),(.int 0 0),(.int 3 0),(.ref 224),(.bool true),(.int 181 0),(.ref 225),.none,.none,.none,(.ref 226),(.int 504 0),(.int 161 0),(.str "/claim/cut.py" 505)])),(List.toArray [])⟩
noncomputable def o274 : Params → Obj := fun P => ⟨(.type "function"),.none,(.func ⟨"changed_since","changed_since",(fA df23),(fB df23),(fS df23),3,[],.none,.none,.none,(.str "postkeep.changes" 499),.none,(.ref 227),.none,0⟩),(List.toArray [])⟩
noncomputable def o275 : Params → Obj := fun P => ⟨(.type "tuple"),.none,(.seq (List.toArray []) 0),(List.toArray [])⟩
noncomputable def o276 : Params → Obj := fun P => ⟨.none,.none,(.fields (List.toArray [])),(List.toArray [])⟩
noncomputable def o277 : Params → Obj := fun P => ⟨(.type "tuple"),.none,(.seq (List.toArray [(.str "box" 510),(.str "modseq" 511)]) 0),(List.toArray [])⟩
noncomputable def o278 : Params → Obj := fun P => ⟨(.type "tuple"),.none,(.seq (List.toArray []) 0),(List.toArray [])⟩
noncomputable def o279 : Params → Obj := fun P => ⟨.none,.none,(.func ⟨"is_forgotten","is_forgotten",(fA df24),(fB df24),(fS df24),0,[],.none,.none,.none,.none,.none,.none,.none,0⟩),(List.toArray [])⟩
noncomputable def o280 : Params → Obj := fun P => ⟨(.type "code"),.none,(.fields (List.toArray [(.str "is_forgotten" 507),(.str "is_forgotten" 508),(.str "/claim/cut.py" 509),(.int 163 0),(.int 2 0),(.int 0 0),(.int 0 0),(.int 3 0),(.ref 229),(.bool true),(.int 181 0),(.ref 230),.none,(.ref 231),(.ref 232),(.ref 233),(.int 512 0),(.int 163 0),(.str "/claim/cut.py" 513)])),(List.toArray [])⟩
noncomputable def o281 : Params → Obj := fun P => ⟨(.type "function"),.none,(.func ⟨"is_forgotten","is_forgotten",(fA df24),(fB df24),(fS df24),3,[],.none,.none,.none,(.str "postkeep.changes" 499),.none,(.ref 234),.none,0⟩),(List.toArray [])⟩
noncomputable def o282 : Params → Obj := fun P => ⟨(.type "tuple"),.none,(.seq (List.toArray []) 0),(List.toArray [])⟩
noncomputable def o283 : Params → Obj := fun P => ⟨.none,.none,(.fields (List.toArray [])),(List.toArray [])⟩
noncomputable def o284 : Params → Obj := fun P => ⟨.none,.none,(.func ⟨"missing_uids","missing_uids",(fA df25),(fB df25),(fS df25),0,[],.none,.none,.none,.none,.none,.none,.none,0⟩),(List.toArray [])⟩
noncomputable def o285 : Params → Obj := fun P => ⟨(.type "code"),.none,(.fields (List.toArray [(.str "missing_uids" 515),(.str "missing_uids" 516),(.str "/claim/cut.py" 517),(.int 165 0),(.int 1 0),(.int 0 0),(.int 0 0),(.int 3 0),(.ref 236),(.bool true),(.int 181 0),(.ref 237),.none,.none,.none,(.ref 238),(.int 518 0),(.int 165 0),(.str "/claim/cut.py" 519)])),(List.toArray [])⟩
noncomputable def o286 : Params → Obj := fun P => ⟨(.type "function"),.none,(.func ⟨"missing_uids","missing_uids",(fA df25),(fB df25),(fS df25),3,[],.none,.none,.none,(.str "postkeep.changes" 499),.none,(.ref 239),.none,0⟩),(List.toArray [])⟩
noncomputable def o287 : Params → Obj := fun P => ⟨(.type "tuple"),.none,(.seq (List.toArray []) 0),(List.toArray [])⟩
noncomputable def o288 : Params → Obj := fun P => ⟨.none,.none,(.fields (List.toArray [])),(List.toArray [])⟩
noncomputable def o289 : Params → Obj := fun P => ⟨.none,.none,(.func ⟨"gone_since","gone_since",(fA df26),(fB df26),(fS df26),0,[],.none,.none,.none,.none,.none,.none,.none,0⟩),(List.toArray [])⟩
noncomputable def o290 : Params → Obj := fun P => ⟨(.type "code"),.none,(.fields (List.toArray [(.str "gone_since" 521),(.str "gone_since" 522),(.str "/claim/cut.py" 523),(.int 167 0),(.int 2 0),(.int 0 0),(.int 0 0),(.int 3 0),(.ref 241),(.bool true),(.int 181 0),(.ref 242),.none,.none,.none,(.ref 243),(.int 524 0),(.int 167 0),(.str "/claim/cut.py" 525)])),(List.toArray [])⟩
noncomputable def o291 : Params → Obj := fun P => ⟨(.type "function"),.none,(.func ⟨"gone_since","gone_since",(fA df26),(fB df26),(fS df26),3,[],.none,.none,.none,(.str "postkeep.changes" 499),.none,(.ref 244),.none,0⟩),(List.toArray [])⟩
noncomputable def o292 : Params → Obj := fun P => ⟨(.type "dict"),.none,(.dict (List.toArray [⟨(PyData.keyHash P "__name__"),(.str "__name__" 165),(.str "law_pq0971_01" 602)⟩,⟨(PyData.keyHash P "__doc__"),(.str "__doc__" 166),.none⟩,⟨(PyData.keyHash P "__package__"),(.str "__package__" 167),.none⟩,⟨(PyData.keyHash P "__loader__"),(.str "__loader__" 168),(.builtin "__main__.__loader__#opaque")⟩,⟨(PyData.keyHash P "__spec__"),(.str "__spec__" 169),.none⟩,⟨(PyData.keyHash P "__annotations__"),(.str "__annotations__" 170),(.ref 6)⟩,⟨(PyData.keyHash P "__builtins__"),(.str "__builtins__" 171),(.ref 4)⟩,⟨(PyData.keyHash P "__file__"),(.str "__file__" 173),(.str "/claim/cut.py" 172)⟩,⟨(PyData.keyHash P "__cached__"),(.str "__cached__" 174),.none⟩,⟨(PyData.keyHash P "PostError"),(.str "PostError" 228),(.ref 39)⟩,⟨(PyData.keyHash P "StoreFault"),(.str "StoreFault" 244),(.ref 52)⟩,⟨(PyData.keyHash P "SYSTEM"),(.str "SYSTEM" 248),(.str "\\Seen \\Answered \\Flagged \\Deleted \\Draft" 247)⟩,⟨(PyData.keyHash P "NO_KEYWORD"),(.str "NO_KEYWORD" 250),(.str "(){ %*\"\\]" 249)⟩,⟨(PyData.keyHash P "MOST_KEYWORD"),(.str "MOST_KEYWORD" 252),(.int 60 251)⟩,⟨(PyData.keyHash P "system_flags"),(.str "system_flags" 258),(.ref 61)⟩,⟨(PyData.keyHash P "is_keyword"),(.str "is_keyword" 266),(.ref 68)⟩,⟨(PyData.keyHash P "flag_name"),(.str "flag_name" 274),(.ref 75)⟩,⟨(PyData.keyHash P "flag_tuple"),(.str "flag_tuple" 284),(.ref 82)⟩,⟨(PyData.keyHash P "Letter"),(.str "Letter" 336),(.ref 113)⟩,⟨(PyData.keyHash P "Box"),(.str "Box" 393),(.ref 151)⟩,⟨(PyData.keyHash P "place_of"),(.str "place_of" 404),(.ref 162)⟩,⟨(PyData.keyHash P "number_in"),(.str "number_in" 412),(.ref 169)⟩,⟨(PyData.keyHash P "raised"),(.str "raised" 419),(.ref 176)⟩,⟨(PyData.keyHash P "add_letter"),(.str "add_letter" 431),(.ref 183)⟩,⟨(PyData.keyHash P "set_flags"),(.str "set_flags" 443),(.ref 190)⟩,⟨(PyData.keyHash P "expunge"),(.str "expunge" 449),(.ref 195)⟩,⟨(PyData.keyHash P "ends_of"),(.str "ends_of" 461),(.ref 202)⟩,⟨(PyData.keyHash P "plain_set"),(.str "plain_set" 475),(.ref 209)⟩,⟨(PyData.keyHash P "has"),(.str "has" 486),(.ref 216)⟩,⟨(PyData.keyHash P "members"),(.str "members" 498),(.ref 223)⟩,⟨(PyData.keyHash P "changed_since"),(.str "changed_since" 506),(.ref 228)⟩,⟨(PyData.keyHash P "is_forgotten"),(.str "is_forgotten" 514),(.ref 235)⟩,⟨(PyData.keyHash P "missing_uids"),(.str "missing_uids" 520),(.ref 240)⟩,⟨(PyData.keyHash P "gone_since"),(.str "gone_since" 526),(.ref 245)⟩,⟨(PyData.keyHash P "vanished_since"),(.str "vanished_since" 532),(.ref 251)⟩,⟨(PyData.keyHash P "held_pairs"),(.str "held_pairs" 543),(.ref 258)⟩,⟨(PyData.keyHash P "agreed_uid"),(.str "agreed_uid" 554),(.ref 265)⟩,⟨(PyData.keyHash P "resync"),(.str "resync" 560),(.ref 271)⟩,⟨(PyData.keyHash P "forget_gone"),(.str "forget_gone" 566),(.ref 276)⟩,⟨(PyData.keyHash P "forget_beyond"),(.str "forget_beyond" 574),(.ref 283)⟩,⟨(PyData.keyHash P "brought"),(.str "brought" 586),(.ref 290)⟩,⟨(PyData.keyHash P "copy_of"),(.str "copy_of" 595),(.ref 297)⟩,⟨(PyData.keyHash P "differences"),(.str "differences" 601),(.ref 302)⟩,⟨(PyData.keyHash P "_law_flags"),(.str "_law_flags" 605),(.str "\\Answered \\Deleted \\Flagged \\Seen" 604)⟩,⟨(PyData.keyHash P "_law_names"),(.str "_law_names" 611),(.ref 307)⟩,⟨(PyData.keyHash P "_law_forget"),(.str "_law_forget" 617),(.ref 312)⟩,⟨(PyData.keyHash P "_law_deed"),(.str "_law_deed" 623),(.ref 317)⟩,⟨(PyData.keyHash P "_law_taken"),(.str "_law_taken" 632),(.ref 324)⟩]) 48),(List.toArray [])⟩
noncomputable def o293 : Params → Obj := fun P => ⟨.none,.none,(.fields (List.toArray [(.int 2 0),(.int 0 0),(.ref 20),(.int 11 0),(.int 0 0),(.ref 48),(.int 17 0),(.int 0 0),(.ref 60),(.int 19 0),(.int 0 0),(.ref 67),(.int 26 0),(.int 0 0),(.ref 74),(.int 33 0),(.int 0 0),(.ref 81),(.int 40 0),(.int 0 0),(.ref 88),(.int 54 0),(.int 0 0),(.ref 123),(.int 75 0),(.int 0 0),(.ref 161),(.int 86 0),(.int 0 0),(.ref 168),(.int 88 0),(.int 0 0),(.ref 175),(.int 91 0),(.int 0 0),(.ref 182),(.int 97 0),(.int 0 0),(.ref 189),(.int 107 0),(.int 0 0),(.ref 194),(.int 119 0),(.int 0 0),(.ref 201),(.int 128 0),(.int 0 0),(.ref 208),(.int 142 0),(.int 0 0),(.ref 215),(.int 148 0),(.int 0 0),(.ref 222),(.int 161 0),(.int 0 0),(.ref 227),(.int 163 0),(.int 0 0),(.ref 234),(.int 165 0),(.int 0 0),(.ref 239),(.int 167 0),(.int 0 0),(.ref 244),(.int 169 0),(.int 0 0),(.ref 250),(.int 174 0),(.int 0 0),(.ref 257),(.int 181 0),(.int 0 0),(.ref 264),(.int 187 0),(.int 0 0),(.ref 270),(.int 195 0),(.int 0 0),(.ref 275),(.int 204 0),(.int 0 0),(.ref 282),(.int 208 0),(.int 0 0),(.ref 289),(.int 216 0),(.int 0 0),(.ref 296),(.int 221 0),(.int 0 0),(.ref 301),(.int 228 0),(.int 0 0),(.ref 306),(.int 230 0),(.int 0 0),(.ref 311),(.int 238 0),(.int 0 0),(.ref 316),(.int 269 0),(.int 0 0),(.ref 323)])),(List.toArray [])⟩
noncomputable def o294 : Params → Obj := fun P => ⟨(.type "tuple"),.none,(.seq (List.toArray [.none]) 0),(List.toArray [])⟩
noncomputable def o295 : Params → Obj := fun P => ⟨(.type "tuple"),.none,(.seq (List.toArray []) 0),(List.toArray [])⟩
noncomputable def o296 : Params → Obj := fun P => ⟨.none,.none,(.fields (List.toArray [])),(List.toArray [])⟩
noncomputable def o297 : Params → Obj := fun P => ⟨.none,.none,(.func ⟨"vanished_since","vanished_since",(fA df27),(fB df27),(fS df27),0,[],.none,.none,.none,.none,.none,.none,.none,0⟩),(List.toArray [])⟩
noncomputable def o298 : Params → Obj := fun P => ⟨(.type "code"),.none,(.fields (List.toArray [(.str "vanished_since" 527),(.str "vanished_since" 528),(.str "/claim/cut.py" 529),(.int 169 0),(.int 3 0),(.int 0 0),(.int 0 0),(.int 3 0),(.ref 247),(.bool true),(.int 181 0),(.ref 248),.none,.none,.none,(.ref 249),(.int 530 0),(.int 169 0),(.str "/claim/cut.py" 531)])),(List.toArray [])⟩
noncomputable def o299 : Params → Obj := fun P => ⟨(.type "function"),.none,(.func ⟨"vanished_since","vanished_since",(fA df27),(fB df27),(fS df27),3,[],(.ref 246),.none,.none,(.str "postkeep.changes" 499),.none,(.ref 250),.none,0⟩),(List.toArray [])⟩
noncomputable def o300 : Params → Obj := fun P => ⟨(.type "tuple"),.none,(.seq (List.toArray []) 0),(List.toArray [])⟩
noncomputable def o301 : Params → Obj := fun P => ⟨.none,.none,(.fields (List.toArray [])),(List.toArray [])⟩
noncomputable def o302 : Params → Obj := fun P => ⟨(.type "tuple"),.none,(.seq (List.toArray [(.str "match" 536),(.str "greatest" 537),(.str "some" 538),(.str "numbers" 539),(.str "uids" 540)]) 0),(List.toArray [])⟩
noncomputable def o303 : Params → Obj := fun P => ⟨(.type "tuple"),.none,(.seq (List.toArray []) 0),(List.toArray [])⟩
noncomputable def o304 : Params → Obj := fun P => ⟨.none,.none,(.func ⟨"held_pairs","held_pairs",(fA df28),(fB df28),(fS df28),0,[],.none,.none,.none,.none,.none,.none,.none,0⟩),(List.toArray [])⟩
noncomputable def o305 : Params → Obj := fun P => ⟨(.type "code"),.none,(.fields (List.toArray [(.str "held_pairs" 533),(.str "held_pairs" 534),(.str "/claim/cut.py" 535),(.int 174 0),(.int 2 0),(.int 0 0),(.int 0 0),(.int 3 0),(.ref 252),(.bool true),(.int 181 0),(.ref 253),.none,(.ref 254),(.ref 255),(.ref 256),(.int 541 0),(.int 174 0),(.str "/claim/cut.py" 542)])),(List.toArray [])⟩
noncomputable def o306 : Params → Obj := fun P => ⟨(.type "function"),.none,(.func ⟨"held_pairs","held_pairs",(fA df28),(fB df28),(fS df28),3,[],.none,.none,.none,(.str "postkeep.changes" 499),.none,(.ref 257),.none,0⟩),(List.toArray [])⟩
noncomputable def o307 : Params → Obj := fun P => ⟨(.type "tuple"),.none,(.seq (List.toArray []) 0),(List.toArray [])⟩
noncomputable def o308 : Params → Obj := fun P => ⟨.none,.none,(.fields (List.toArray [])),(List.toArray [])⟩
noncomputable def o309 : Params → Obj := fun P => ⟨(.type "tuple"),.none,(.seq (List.toArray [(.str "box" 547),(.str "match" 548),(.str "best" 549),(.str "number" 550),(.str "uid" 551)]) 0),(List.toArray [])⟩
noncomputable def o310 : Params → Obj := fun P => ⟨(.type "tuple"),.none,(.seq (List.toArray []) 0),(List.toArray [])⟩
noncomputable def o311 : Params → Obj := fun P => ⟨.none,.none,(.func ⟨"agreed_uid","agreed_uid",(fA df29),(fB df29),(fS df29),0,[],.none,.none,.none,.none,.none,.none,.none,0⟩),(List.toArray [])⟩
noncomputable def o312 : Params → Obj := fun P => ⟨(.type "code"),.none,(.fields (List.toArray [(.str "agreed_uid" 544),(.str "agreed_uid" 545),(.str "/claim/cut.py" 546),(.int 181 0),(.int 2 0),(.int 0 0),(.int 0 0),(.int 3 0),(.ref 259),(.bool true),(.int 181 0),(.ref 260),.none,(.ref 261),(.ref 262),(.ref 263),(.int 552 0),(.int 181 0),(.str "/claim/cut.py" 553)])),(List.toArray [])⟩
noncomputable def o313 : Params → Obj := fun P => ⟨(.type "function"),.none,(.func ⟨"agreed_uid","agreed_uid",(fA df29),(fB df29),(fS df29),3,[],.none,.none,.none,(.str "postkeep.changes" 499),.none,(.ref 264),.none,0⟩),(List.toArray [])⟩
noncomputable def o314 : Params → Obj := fun P => ⟨(.type "tuple"),.none,(.seq (List.toArray [.none,.none]) 0),(List.toArray [])⟩
noncomputable def o315 : Params → Obj := fun P => ⟨(.type "tuple"),.none,(.seq (List.toArray []) 0),(List.toArray [])⟩
noncomputable def o316 : Params → Obj := fun P => ⟨.none,.none,(.fields (List.toArray [])),(List.toArray [])⟩
noncomputable def o317 : Params → Obj := fun P => ⟨.none,.none,(.func ⟨"resync","resync",(fA df30),(fB df30),(fS df30),0,[],.none,.none,.none,.none,.none,.none,.none,0⟩),(List.toArray [])⟩
noncomputable def o318 : Params → Obj := fun P => ⟨(.type "code"),.none,(.fields (List.toArray [(.str "resync" 555),(.str "resync" 556),(.str "/claim/cut.py" 557),(.int 187 0),(.int 5 0),(.int 0 0),(.int 0 0),(.int 3 0),(.ref 267),(.bool true),(.int 181 0),(.ref 268),.none,.none,.none,(.ref 269),(.int 558 0),(.int 187 0),(.str "/claim/cut.py" 559)])),(List.toArray [])⟩
noncomputable def o319 : Params → Obj := fun P => ⟨(.type "function"),.none,(.func ⟨"resync","resync",(fA df30),(fB df30),(fS df30),3,[],(.ref 266),.none,.none,(.str "postkeep.changes" 499),.none,(.ref 270),.none,0⟩),(List.toArray [])⟩
noncomputable def o320 : Params → Obj := fun P => ⟨(.type "tuple"),.none,(.seq (List.toArray []) 0),(List.toArray [])⟩
noncomputable def o321 : Params → Obj := fun P => ⟨.none,.none,(.fields (List.toArray [])),(List.toArray [])⟩
noncomputable def o322 : Params → Obj := fun P => ⟨.none,.none,(.func ⟨"forget_gone","forget_gone",(fA df31),(fB df31),(fS df31),0,[],.none,.none,.none,.none,.none,.none,.none,0⟩),(List.toArray [])⟩
noncomputable def o323 : Params → Obj := fun P => ⟨(.type "code"),.none,(.fields (List.toArray [(.str "forget_gone" 561),(.str "forget_gone" 562),(.str "/claim/cut.py" 563),(.int 195 0),(.int 2 0),(.int 0 0),(.int 0 0),(.int 3 0),(.ref 272),(.bool true),(.int 181 0),(.ref 273),.none,.none,.none,(.ref 274),(.int 564 0),(.int 195 0),(.str "/claim/cut.py" 565)])),(List.toArray [])⟩
noncomputable def o324 : Params → Obj := fun P => ⟨(.type "function"),.none,(.func ⟨"forget_gone","forget_gone",(fA df31),(fB df31),(fS df31),3,[],.none,.none,.none,(.str "postkeep.changes" 499),.none,(.ref 275),.none,0⟩),(List.toArray [])⟩
noncomputable def o325 : Params → Obj := fun P => ⟨(.type "tuple"),.none,(.seq (List.toArray []) 0),(List.toArray [])⟩
noncomputable def o326 : Params → Obj := fun P => ⟨.none,.none,(.fields (List.toArray [])),(List.toArray [])⟩
noncomputable def o327 : Params → Obj := fun P => ⟨(.type "tuple"),.none,(.seq (List.toArray [(.str "box" 570),(.str "most" 571)]) 0),(List.toArray [])⟩
noncomputable def o328 : Params → Obj := fun P => ⟨(.type "tuple"),.none,(.seq (List.toArray []) 0),(List.toArray [])⟩
noncomputable def o329 : Params → Obj := fun P => ⟨.none,.none,(.func ⟨"forget_beyond","forget_beyond",(fA df32),(fB df32),(fS df32),0,[],.none,.none,.none,.none,.none,.none,.none,0⟩),(List.toArray [])⟩
noncomputable def o330 : Params → Obj := fun P => ⟨(.type "code"),.none,(.fields (List.toArray [(.str "forget_beyond" 567),(.str "forget_beyond" 568),(.str "/claim/cut.py" 569),(.int 204 0),(.int 2 0),(.int 0 0),(.int 0 0),(.int 3 0),(.ref 277),(.bool true),(.int 181 0),(.ref 278),.none,(.ref 279),(.ref 280),(.ref 281),(.int 572 0),(.int 204 0),(.str "/claim/cut.py" 573)])),(List.toArray [])⟩
noncomputable def o331 : Params → Obj := fun P => ⟨(.type "function"),.none,(.func ⟨"forget_beyond","forget_beyond",(fA df32),(fB df32),(fS df32),3,[],.none,.none,.none,(.str "postkeep.changes" 499),.none,(.ref 282),.none,0⟩),(List.toArray [])⟩
noncomputable def o332 : Params → Obj := fun P => ⟨(.type "tuple"),.none,(.seq (List.toArray []) 0),(List.toArray [])⟩
noncomputable def o333 : Params → Obj := fun P => ⟨.none,.none,(.fields (List.toArray [])),(List.toArray [])⟩
noncomputable def o334 : Params → Obj := fun P => ⟨(.type "tuple"),.none,(.seq (List.toArray [(.str "flags_by_uid" 578),(.str "vanished" 579),(.str "changed" 580),(.str "copy" 581),(.str "uid" 582),(.str "letter" 583)]) 0),(List.toArray [])⟩
noncomputable def o335 : Params → Obj := fun P => ⟨(.type "tuple"),.none,(.seq (List.toArray []) 0),(List.toArray [])⟩
noncomputable def o336 : Params → Obj := fun P => ⟨.none,.none,(.func ⟨"brought","brought",(fA df33),(fB df33),(fS df33),0,[],.none,.none,.none,.none,.none,.none,.none,0⟩),(List.toArray [])⟩
noncomputable def o337 : Params → Obj := fun P => ⟨(.type "code"),.none,(.fields (List.toArray [(.str "brought" 575),(.str "brought" 576),(.str "/claim/cut.py" 577),(.int 208 0),(.int 3 0),(.int 0 0),(.int 0 0),(.int 3 0),(.ref 284),(.bool true),(.int 181 0),(.ref 285),.none,(.ref 286),(.ref 287),(.ref 288),(.int 584 0),(.int 208 0),(.str "/claim/cut.py" 585)])),(List.toArray [])⟩
noncomputable def o338 : Params → Obj := fun P => ⟨(.type "function"),.none,(.func ⟨"brought","brought",(fA df33),(fB df33),(fS df33),3,[],.none,.none,.none,(.str "postkeep.changes" 499),.none,(.ref 289),.none,0⟩),(List.toArray [])⟩
noncomputable def o339 : Params → Obj := fun P => ⟨(.type "tuple"),.none,(.seq (List.toArray []) 0),(List.toArray [])⟩
noncomputable def o340 : Params → Obj := fun P => ⟨.none,.none,(.fields (List.toArray [])),(List.toArray [])⟩
noncomputable def o341 : Params → Obj := fun P => ⟨(.type "tuple"),.none,(.seq (List.toArray [(.str "box" 590),(.str "copy" 591),(.str "letter" 592)]) 0),(List.toArray [])⟩
noncomputable def o342 : Params → Obj := fun P => ⟨(.type "tuple"),.none,(.seq (List.toArray []) 0),(List.toArray [])⟩
noncomputable def o343 : Params → Obj := fun P => ⟨.none,.none,(.func ⟨"copy_of","copy_of",(fA df34),(fB df34),(fS df34),0,[],.none,.none,.none,.none,.none,.none,.none,0⟩),(List.toArray [])⟩
noncomputable def o344 : Params → Obj := fun P => ⟨(.type "code"),.none,(.fields (List.toArray [(.str "copy_of" 587),(.str "copy_of" 588),(.str "/claim/cut.py" 589),(.int 216 0),(.int 1 0),(.int 0 0),(.int 0 0),(.int 3 0),(.ref 291),(.bool true),(.int 181 0),(.ref 292),.none,(.ref 293),(.ref 294),(.ref 295),(.int 593 0),(.int 216 0),(.str "/claim/cut.py" 594)])),(List.toArray [])⟩
noncomputable def o345 : Params → Obj := fun P => ⟨(.type "function"),.none,(.func ⟨"copy_of","copy_of",(fA df34),(fB df34),(fS df34),3,[],.none,.none,.none,(.str "postkeep.changes" 499),.none,(.ref 296),.none,0⟩),(List.toArray [])⟩
noncomputable def o346 : Params → Obj := fun P => ⟨(.type "tuple"),.none,(.seq (List.toArray []) 0),(List.toArray [])⟩
noncomputable def o347 : Params → Obj := fun P => ⟨.none,.none,(.fields (List.toArray [])),(List.toArray [])⟩
noncomputable def o348 : Params → Obj := fun P => ⟨.none,.none,(.func ⟨"differences","differences",(fA df35),(fB df35),(fS df35),0,[],.none,.none,.none,.none,.none,.none,.none,0⟩),(List.toArray [])⟩
noncomputable def o349 : Params → Obj := fun P => ⟨(.type "code"),.none,(.fields (List.toArray [(.str "differences" 596),(.str "differences" 597),(.str "/claim/cut.py" 598),(.int 221 0),(.int 2 0),(.int 0 0),(.int 0 0),(.int 3 0),(.ref 298),(.bool true),(.int 181 0),(.ref 299),.none,.none,.none,(.ref 300),(.int 599 0),(.int 221 0),(.str "/claim/cut.py" 600)])),(List.toArray [])⟩
noncomputable def o350 : Params → Obj := fun P => ⟨(.type "function"),.none,(.func ⟨"differences","differences",(fA df35),(fB df35),(fS df35),3,[],.none,.none,.none,(.str "postkeep.changes" 499),.none,(.ref 301),.none,0⟩),(List.toArray [])⟩
noncomputable def o351 : Params → Obj := fun P => ⟨(.type "tuple"),.none,(.seq (List.toArray []) 0),(List.toArray [])⟩
noncomputable def o352 : Params → Obj := fun P => ⟨.none,.none,(.fields (List.toArray [])),(List.toArray [])⟩
noncomputable def o353 : Params → Obj := fun P => ⟨.none,.none,(.func ⟨"_law_names","_law_names",(fA df36),(fB df36),(fS df36),0,[],.none,.none,.none,.none,.none,.none,.none,0⟩),(List.toArray [])⟩
noncomputable def o354 : Params → Obj := fun P => ⟨(.type "code"),.none,(.fields (List.toArray [(.str "_law_names" 606),(.str "_law_names" 607),(.str "/claim/cut.py" 608),(.int 228 0),(.int 1 0),(.int 0 0),(.int 0 0),(.int 3 0),(.ref 303),(.bool true),(.int 181 0),(.ref 304),.none,.none,.none,(.ref 305),(.int 609 0),(.int 228 0),(.str "/claim/cut.py" 610)])),(List.toArray [])⟩
noncomputable def o355 : Params → Obj := fun P => ⟨(.type "function"),.none,(.func ⟨"_law_names","_law_names",(fA df36),(fB df36),(fS df36),3,[],.none,.none,.none,(.str "law_pq0971_01" 602),.none,(.ref 306),.none,0⟩),(List.toArray [])⟩
noncomputable def o356 : Params → Obj := fun P => ⟨(.type "tuple"),.none,(.seq (List.toArray []) 0),(List.toArray [])⟩
noncomputable def o357 : Params → Obj := fun P => ⟨.none,.none,(.fields (List.toArray [])),(List.toArray [])⟩
noncomputable def o358 : Params → Obj := fun P => ⟨.none,.none,(.func ⟨"_law_forget","_law_forget",(fA df37),(fB df37),(fS df37),0,[],.none,.none,.none,.none,.none,.none,.none,0⟩),(List.toArray [])⟩
noncomputable def o359 : Params → Obj := fun P => ⟨(.type "code"),.none,(.fields (List.toArray [(.str "_law_forget" 612),(.str "_law_forget" 613),(.str "/claim/cut.py" 614),(.int 230 0),(.int 4 0),(.int 0 0),(.int 0 0),(.int 3 0),(.ref 308),(.bool true),(.int 181 0),(.ref 309),.none,.none,.none,(.ref 310),(.int 615 0),(.int 230 0),(.str "/claim/cut.py" 616)])),(List.toArray [])⟩
noncomputable def o360 : Params → Obj := fun P => ⟨(.type "function"),.none,(.func ⟨"_law_forget","_law_forget",(fA df37),(fB df37),(fS df37),3,[],.none,.none,.none,(.str "law_pq0971_01" 602),.none,(.ref 311),.none,0⟩),(List.toArray [])⟩
noncomputable def o361 : Params → Obj := fun P => ⟨(.type "tuple"),.none,(.seq (List.toArray []) 0),(List.toArray [])⟩
noncomputable def o362 : Params → Obj := fun P => ⟨.none,.none,(.fields (List.toArray [])),(List.toArray [])⟩
noncomputable def o363 : Params → Obj := fun P => ⟨.none,.none,(.func ⟨"_law_deed","_law_deed",(fA df38),(fB df38),(fS df38),0,[],.none,.none,.none,.none,.none,.none,.none,0⟩),(List.toArray [])⟩
noncomputable def o364 : Params → Obj := fun P => ⟨(.type "code"),.none,(.fields (List.toArray [(.str "_law_deed" 618),(.str "_law_deed" 619),(.str "/claim/cut.py" 620),(.int 238 0),(.int 3 0),(.int 0 0),(.int 0 0),(.int 3 0),(.ref 313),(.bool true),(.int 181 0),(.ref 314),.none,.none,.none,(.ref 315),(.int 621 0),(.int 238 0),(.str "/claim/cut.py" 622)])),(List.toArray [])⟩
noncomputable def o365 : Params → Obj := fun P => ⟨(.type "function"),.none,(.func ⟨"_law_deed","_law_deed",(fA df38),(fB df38),(fS df38),3,[],.none,.none,.none,(.str "law_pq0971_01" 602),.none,(.ref 316),.none,0⟩),(List.toArray [])⟩
noncomputable def o366 : Params → Obj := fun P => ⟨(.type "tuple"),.none,(.seq (List.toArray []) 0),(List.toArray [])⟩
noncomputable def o367 : Params → Obj := fun P => ⟨.none,.none,(.fields (List.toArray [])),(List.toArray [])⟩
noncomputable def o368 : Params → Obj := fun P => ⟨(.type "tuple"),.none,(.seq (List.toArray [(.str "held" 627),(.str "copy" 628),(.str "row" 629)]) 0),(List.toArray [])⟩
noncomputable def o369 : Params → Obj := fun P => ⟨(.type "tuple"),.none,(.seq (List.toArray []) 0),(List.toArray [])⟩
noncomputable def o370 : Params → Obj := fun P => ⟨.none,.none,(.func ⟨"_law_taken","_law_taken",(fA df39),(fB df39),(fS df39),0,[],.none,.none,.none,.none,.none,.none,.none,0⟩),(List.toArray [])⟩
noncomputable def o371 : Params → Obj := fun P => ⟨(.type "code"),.none,(.fields (List.toArray [(.str "_law_taken" 624),(.str "_law_taken" 625),(.str "/claim/cut.py" 626),(.int 269 0),(.int 1 0),(.int 0 0),(.int 0 0),(.int 3 0),(.ref 318),(.bool true),(.int 181 0),(.ref 319),.none,(.ref 320),(.ref 321),(.ref 322),(.int 630 0),(.int 269 0),(.str "/claim/cut.py" 631)])),(List.toArray [])⟩
noncomputable def o372 : Params → Obj := fun P => ⟨(.type "function"),.none,(.func ⟨"_law_taken","_law_taken",(fA df39),(fB df39),(fS df39),3,[],.none,.none,.none,(.str "law_pq0971_01" 602),.none,(.ref 323),.none,0⟩),(List.toArray [])⟩
noncomputable def o373 : Params → Obj := fun P => ⟨(.type "dict"),.none,(.dict (List.toArray [⟨(PyData.keyHash P "__name__"),(.str "__name__" 165),(.str "law_pq0971_01" 602)⟩,⟨(PyData.keyHash P "__doc__"),(.str "__doc__" 166),.none⟩,⟨(PyData.keyHash P "__package__"),(.str "__package__" 167),.none⟩,⟨(PyData.keyHash P "__loader__"),(.str "__loader__" 168),(.builtin "__main__.__loader__#opaque")⟩,⟨(PyData.keyHash P "__spec__"),(.str "__spec__" 169),.none⟩,⟨(PyData.keyHash P "__annotations__"),(.str "__annotations__" 170),(.ref 6)⟩,⟨(PyData.keyHash P "__builtins__"),(.str "__builtins__" 171),(.ref 4)⟩,⟨(PyData.keyHash P "__file__"),(.str "__file__" 173),(.str "/claim/cut.py" 172)⟩,⟨(PyData.keyHash P "__cached__"),(.str "__cached__" 174),.none⟩,⟨(PyData.keyHash P "PostError"),(.str "PostError" 228),(.ref 39)⟩,⟨(PyData.keyHash P "StoreFault"),(.str "StoreFault" 244),(.ref 52)⟩,⟨(PyData.keyHash P "SYSTEM"),(.str "SYSTEM" 248),(.str "\\Seen \\Answered \\Flagged \\Deleted \\Draft" 247)⟩,⟨(PyData.keyHash P "NO_KEYWORD"),(.str "NO_KEYWORD" 250),(.str "(){ %*\"\\]" 249)⟩,⟨(PyData.keyHash P "MOST_KEYWORD"),(.str "MOST_KEYWORD" 252),(.int 60 251)⟩,⟨(PyData.keyHash P "system_flags"),(.str "system_flags" 258),(.ref 61)⟩,⟨(PyData.keyHash P "is_keyword"),(.str "is_keyword" 266),(.ref 68)⟩,⟨(PyData.keyHash P "flag_name"),(.str "flag_name" 274),(.ref 75)⟩,⟨(PyData.keyHash P "flag_tuple"),(.str "flag_tuple" 284),(.ref 82)⟩,⟨(PyData.keyHash P "Letter"),(.str "Letter" 336),(.ref 113)⟩,⟨(PyData.keyHash P "Box"),(.str "Box" 393),(.ref 151)⟩,⟨(PyData.keyHash P "place_of"),(.str "place_of" 404),(.ref 162)⟩,⟨(PyData.keyHash P "number_in"),(.str "number_in" 412),(.ref 169)⟩,⟨(PyData.keyHash P "raised"),(.str "raised" 419),(.ref 176)⟩,⟨(PyData.keyHash P "add_letter"),(.str "add_letter" 431),(.ref 183)⟩,⟨(PyData.keyHash P "set_flags"),(.str "set_flags" 443),(.ref 190)⟩,⟨(PyData.keyHash P "expunge"),(.str "expunge" 449),(.ref 195)⟩,⟨(PyData.keyHash P "ends_of"),(.str "ends_of" 461),(.ref 202)⟩,⟨(PyData.keyHash P "plain_set"),(.str "plain_set" 475),(.ref 209)⟩,⟨(PyData.keyHash P "has"),(.str "has" 486),(.ref 216)⟩,⟨(PyData.keyHash P "members"),(.str "members" 498),(.ref 223)⟩,⟨(PyData.keyHash P "changed_since"),(.str "changed_since" 506),(.ref 228)⟩,⟨(PyData.keyHash P "is_forgotten"),(.str "is_forgotten" 514),(.ref 235)⟩,⟨(PyData.keyHash P "missing_uids"),(.str "missing_uids" 520),(.ref 240)⟩,⟨(PyData.keyHash P "gone_since"),(.str "gone_since" 526),(.ref 245)⟩,⟨(PyData.keyHash P "vanished_since"),(.str "vanished_since" 532),(.ref 251)⟩,⟨(PyData.keyHash P "held_pairs"),(.str "held_pairs" 543),(.ref 258)⟩,⟨(PyData.keyHash P "agreed_uid"),(.str "agreed_uid" 554),(.ref 265)⟩,⟨(PyData.keyHash P "resync"),(.str "resync" 560),(.ref 271)⟩,⟨(PyData.keyHash P "forget_gone"),(.str "forget_gone" 566),(.ref 276)⟩,⟨(PyData.keyHash P "forget_beyond"),(.str "forget_beyond" 574),(.ref 283)⟩,⟨(PyData.keyHash P "brought"),(.str "brought" 586),(.ref 290)⟩,⟨(PyData.keyHash P "copy_of"),(.str "copy_of" 595),(.ref 297)⟩,⟨(PyData.keyHash P "differences"),(.str "differences" 601),(.ref 302)⟩,⟨(PyData.keyHash P "_law_flags"),(.str "_law_flags" 605),(.str "\\Answered \\Deleted \\Flagged \\Seen" 604)⟩,⟨(PyData.keyHash P "_law_names"),(.str "_law_names" 611),(.ref 307)⟩,⟨(PyData.keyHash P "_law_forget"),(.str "_law_forget" 617),(.ref 312)⟩,⟨(PyData.keyHash P "_law_deed"),(.str "_law_deed" 623),(.ref 317)⟩,⟨(PyData.keyHash P "_law_taken"),(.str "_law_taken" 632),(.ref 324)⟩,⟨(PyData.keyHash P "_law_due"),(.str "_law_due" 638),(.ref 329)⟩,⟨(PyData.keyHash P "_law_resync_right"),(.str "_law_resync_right" 644),(.ref 334)⟩,⟨(PyData.keyHash P "law"),(.str "law" 650),(.ref 339)⟩]) 51),(List.toArray [])⟩
noncomputable def o374 : Params → Obj := fun P => ⟨.none,.none,(.fields (List.toArray [(.int 2 0),(.int 0 0),(.ref 20),(.int 11 0),(.int 0 0),(.ref 48),(.int 17 0),(.int 0 0),(.ref 60),(.int 19 0),(.int 0 0),(.ref 67),(.int 26 0),(.int 0 0),(.ref 74),(.int 33 0),(.int 0 0),(.ref 81),(.int 40 0),(.int 0 0),(.ref 88),(.int 54 0),(.int 0 0),(.ref 123),(.int 75 0),(.int 0 0),(.ref 161),(.int 86 0),(.int 0 0),(.ref 168),(.int 88 0),(.int 0 0),(.ref 175),(.int 91 0),(.int 0 0),(.ref 182),(.int 97 0),(.int 0 0),(.ref 189),(.int 107 0),(.int 0 0),(.ref 194),(.int 119 0),(.int 0 0),(.ref 201),(.int 128 0),(.int 0 0),(.ref 208),(.int 142 0),(.int 0 0),(.ref 215),(.int 148 0),(.int 0 0),(.ref 222),(.int 161 0),(.int 0 0),(.ref 227),(.int 163 0),(.int 0 0),(.ref 234),(.int 165 0),(.int 0 0),(.ref 239),(.int 167 0),(.int 0 0),(.ref 244),(.int 169 0),(.int 0 0),(.ref 250),(.int 174 0),(.int 0 0),(.ref 257),(.int 181 0),(.int 0 0),(.ref 264),(.int 187 0),(.int 0 0),(.ref 270),(.int 195 0),(.int 0 0),(.ref 275),(.int 204 0),(.int 0 0),(.ref 282),(.int 208 0),(.int 0 0),(.ref 289),(.int 216 0),(.int 0 0),(.ref 296),(.int 221 0),(.int 0 0),(.ref 301),(.int 228 0),(.int 0 0),(.ref 306),(.int 230 0),(.int 0 0),(.ref 311),(.int 238 0),(.int 0 0),(.ref 316),(.int 269 0),(.int 0 0),(.ref 323),(.int 274 0),(.int 0 0),(.ref 328),(.int 279 0),(.int 0 0),(.ref 333),(.int 308 0),(.int 0 0),(.ref 338)])),(List.toArray [])⟩
noncomputable def o375 : Params → Obj := fun P => ⟨(.type "tuple"),.none,(.seq (List.toArray []) 0),(List.toArray [])⟩
noncomputable def o376 : Params → Obj := fun P => ⟨.none,.none,(.fields (List.toArray [])),(List.toArray [])⟩
noncomputable def o377 : Params → Obj := fun P => ⟨.none,.none,(.func ⟨"_law_due","_law_due",(fA df40),(fB df40),(fS df40),0,[],.none,.none,.none,.none,.none,.none,.none,0⟩),(List.toArray [])⟩
noncomputable def o378 : Params → Obj := fun P => ⟨(.type "code"),.none,(.fields (List.toArray [(.str "_law_due" 633),(.str "_law_due" 634),(.str "/claim/cut.py" 635),(.int 274 0),(.int 2 0),(.int 0 0),(.int 0 0),(.int 3 0),(.ref 325),(.bool true),(.int 181 0),(.ref 326),.none,.none,.none,(.ref 327),(.int 636 0),(.int 274 0),(.str "/claim/cut.py" 637)])),(List.toArray [])⟩
noncomputable def o379 : Params → Obj := fun P => ⟨(.type "function"),.none,(.func ⟨"_law_due","_law_due",(fA df40),(fB df40),(fS df40),3,[],.none,.none,.none,(.str "law_pq0971_01" 602),.none,(.ref 328),.none,0⟩),(List.toArray [])⟩
noncomputable def o380 : Params → Obj := fun P => ⟨(.type "tuple"),.none,(.seq (List.toArray []) 0),(List.toArray [])⟩
noncomputable def o381 : Params → Obj := fun P => ⟨.none,.none,(.fields (List.toArray [])),(List.toArray [])⟩
noncomputable def o382 : Params → Obj := fun P => ⟨.none,.none,(.func ⟨"_law_resync_right","_law_resync_right",(fA df41),(fB df41),(fS df41),0,[],.none,.none,.none,.none,.none,.none,.none,0⟩),(List.toArray [])⟩
noncomputable def o383 : Params → Obj := fun P => ⟨(.type "code"),.none,(.fields (List.toArray [(.str "_law_resync_right" 639),(.str "_law_resync_right" 640),(.str "/claim/cut.py" 641),(.int 279 0),(.int 6 0),(.int 0 0),(.int 0 0),(.int 3 0),(.ref 330),(.bool true),(.int 181 0),(.ref 331),.none,.none,.none,(.ref 332),(.int 642 0),(.int 279 0),(.str "/claim/cut.py" 643)])),(List.toArray [])⟩
noncomputable def o384 : Params → Obj := fun P => ⟨(.type "function"),.none,(.func ⟨"_law_resync_right","_law_resync_right",(fA df41),(fB df41),(fS df41),3,[],.none,.none,.none,(.str "law_pq0971_01" 602),.none,(.ref 333),.none,0⟩),(List.toArray [])⟩
noncomputable def o385 : Params → Obj := fun P => ⟨(.type "tuple"),.none,(.seq (List.toArray []) 0),(List.toArray [])⟩
noncomputable def o386 : Params → Obj := fun P => ⟨.none,.none,(.fields (List.toArray [])),(List.toArray [])⟩
noncomputable def o387 : Params → Obj := fun P => ⟨.none,.none,(.func ⟨"law","law",(fA df42),(fB df42),(fS df42),0,[],.none,.none,.none,.none,.none,.none,.none,0⟩),(List.toArray [])⟩
noncomputable def o388 : Params → Obj := fun P => ⟨(.type "code"),.none,(.fields (List.toArray [(.str "law" 645),(.str "law" 646),(.str "/claim/cut.py" 647),(.int 308 0),(.int 1 0),(.int 0 0),(.int 0 0),(.int 3 0),(.ref 335),(.bool true),(.int 181 0),(.ref 336),.none,.none,.none,(.ref 337),(.int 648 0),(.int 308 0),(.str "/claim/cut.py" 649)])),(List.toArray [])⟩
noncomputable def o389 : Params → Obj := fun P => ⟨(.type "function"),.none,(.func ⟨"law","law",(fA df42),(fB df42),(fS df42),3,[],.none,.none,.none,(.str "law_pq0971_01" 602),.none,(.ref 338),.none,0⟩),(List.toArray [])⟩
noncomputable def env41 : Env := ⟨(Module.scope (Program.main ((OpenRow.toRowW (OpenLaw.row Challenge.rw_pq0971_01))).prog)),mainNs,mainNs,[],Str.empty,.none,(.ref 13),(.some 14),0⟩
noncomputable def hp46 : Params → Heap := fun P => ⟨⟨[(boot_o_0 P),(boot_o_1 P),(boot_o_2 P),(boot_o_3 P),(boot_o_4 P),(boot_o_5 P),(boot_o_6 P),(boot_o_7 P),(boot_o_8 P),(boot_o_9 P),(boot_o_10 P),(o43 P),(o44 P),(o45 P),(o46 P)]⟩,⟨[],[],[],0,[],[],false,(List.toArray []),[],0,false,false,false,0,[2000,10,10],false,0,true,[],[],0,false⟩⟩
noncomputable def tr47 : Params → BT := fun P => (.node (boot_o_0 P) (.node (boot_o_1 P) (.node (boot_o_3 P) (.node (boot_o_7 P) .nil .nil) (.node (o43 P) .nil .nil)) (.node (boot_o_5 P) (.node (boot_o_9 P) .nil .nil) (.node (o45 P) .nil .nil))) (.node (boot_o_2 P) (.node (boot_o_4 P) (.node (boot_o_8 P) .nil .nil) (.node (o44 P) .nil .nil)) (.node (boot_o_6 P) (.node (boot_o_10 P) .nil .nil) (.node (o46 P) .nil .nil))))
noncomputable def tr79 : Params → BT := fun P => (.node (boot_o_0 P) (.node (boot_o_1 P) (.node (o50 P) (.node (boot_o_7 P) (.node (o52 P) (.node (o68 P) .nil .nil) .nil) (.node (o60 P) (.node (o76 P) .nil .nil) .nil)) (.node (o43 P) (.node (o56 P) (.node (o72 P) .nil .nil) .nil) (.node (o64 P) .nil .nil))) (.node (boot_o_5 P) (.node (boot_o_9 P) (.node (o54 P) (.node (o70 P) .nil .nil) .nil) (.node (o62 P) (.node (o78 P) .nil .nil) .nil)) (.node (o45 P) (.node (o58 P) (.node (o74 P) .nil .nil) .nil) (.node (o66 P) .nil .nil)))) (.node (o49 P) (.node (boot_o_4 P) (.node (boot_o_8 P) (.node (o53 P) (.node (o69 P) .nil .nil) .nil) (.node (o61 P) (.node (o77 P) .nil .nil) .nil)) (.node (o51 P) (.node (o57 P) (.node (o73 P) .nil .nil) .nil) (.node (o65 P) .nil .nil))) (.node (boot_o_6 P) (.node (boot_o_10 P) (.node (o55 P) (.node (o71 P) .nil .nil) .nil) (.node (o63 P) (.node (o79 P) .nil .nil) .nil)) (.node (o46 P) (.node (o59 P) (.node (o75 P) .nil .nil) .nil) (.node (o67 P) .nil .nil)))))
noncomputable def tr122 : Params → BT := fun P => (.node (boot_o_0 P) (.node (boot_o_1 P) (.node (o80 P) (.node (boot_o_7 P) (.node (o52 P) (.node (o68 P) (.node (o103 P) .nil .nil) .nil) (.node (o87 P) (.node (o119 P) .nil .nil) .nil)) (.node (o60 P) (.node (o82 P) (.node (o111 P) .nil .nil) .nil) (.node (o95 P) .nil .nil))) (.node (o43 P) (.node (o56 P) (.node (o72 P) (.node (o107 P) .nil .nil) .nil) (.node (o91 P) .nil .nil)) (.node (o64 P) (.node (o83 P) (.node (o115 P) .nil .nil) .nil) (.node (o99 P) .nil .nil)))) (.node (boot_o_5 P) (.node (boot_o_9 P) (.node (o54 P) (.node (o70 P) (.node (o105 P) .nil .nil) .nil) (.node (o89 P) (.node (o121 P) .nil .nil) .nil)) (.node (o62 P) (.node (o78 P) (.node (o113 P) .nil .nil) .nil) (.node (o97 P) .nil .nil))) (.node (o45 P) (.node (o58 P) (.node (o74 P) (.node (o109 P) .nil .nil) .nil) (.node (o93 P) .nil .nil)) (.node (o66 P) (.node (o85 P) (.node (o117 P) .nil .nil) .nil) (.node (o101 P) .nil .nil))))) (.node (o49 P) (.node (boot_o_4 P) (.node (boot_o_8 P) (.node (o53 P) (.node (o69 P) (.node (o104 P) .nil .nil) .nil) (.node (o88 P) (.node (o120 P) .nil .nil) .nil)) (.node (o61 P) (.node (o77 P) (.node (o112 P) .nil .nil) .nil) (.node (o96 P) .nil .nil))) (.node (o81 P) (.node (o57 P) (.node (o73 P) (.node (o108 P) .nil .nil) .nil) (.node (o92 P) .nil .nil)) (.node (o65 P) (.node (o84 P) (.node (o116 P) .nil .nil) .nil) (.node (o100 P) .nil .nil)))) (.node (boot_o_6 P) (.node (boot_o_10 P) (.node (o55 P) (.node (o71 P) (.node (o106 P) .nil .nil) .nil) (.node (o90 P) (.node (o122 P) .nil .nil) .nil)) (.node (o63 P) (.node (o79 P) (.node (o114 P) .nil .nil) .nil) (.node (o98 P) .nil .nil))) (.node (o46 P) (.node (o59 P) (.node (o75 P) (.node (o110 P) .nil .nil) .nil) (.node (o94 P) .nil .nil)) (.node (o67 P) (.node (o86 P) (.node (o118 P) .nil .nil) .nil) (.node (o102 P) .nil .nil))))))
noncomputable def tr159 : Params → BT := fun P => (.node (boot_o_0 P) (.node (boot_o_1 P) (.node (o123 P) (.node (boot_o_7 P) (.node (o52 P) (.node (o68 P) (.node (o103 P) .nil .nil) (.node (o137 P) .nil .nil)) (.node (o87 P) (.node (o119 P) .nil .nil) (.node (o153 P) .nil .nil))) (.node (o60 P) (.node (o82 P) (.node (o111 P) .nil .nil) (.node (o145 P) .nil .nil)) (.node (o95 P) (.node (o129 P) .nil .nil) .nil))) (.node (o43 P) (.node (o56 P) (.node (o72 P) (.node (o107 P) .nil .nil) (.node (o141 P) .nil .nil)) (.node (o91 P) (.node (o125 P) .nil .nil) (.node (o157 P) .nil .nil))) (.node (o64 P) (.node (o83 P) (.node (o115 P) .nil .nil) (.node (o149 P) .nil .nil)) (.node (o99 P) (.node (o133 P) .nil .nil) .nil)))) (.node (boot_o_5 P) (.node (boot_o_9 P) (.node (o54 P) (.node (o70 P) (.node (o105 P) .nil .nil) (.node (o139 P) .nil .nil)) (.node (o89 P) (.node (o121 P) .nil .nil) (.node (o155 P) .nil .nil))) (.node (o62 P) (.node (o78 P) (.node (o113 P) .nil .nil) (.node (o147 P) .nil .nil)) (.node (o97 P) (.node (o131 P) .nil .nil) .nil))) (.node (o45 P) (.node (o58 P) (.node (o74 P) (.node (o109 P) .nil .nil) (.node (o143 P) .nil .nil)) (.node (o93 P) (.node (o127 P) .nil .nil) (.node (o159 P) .nil .nil))) (.node (o66 P) (.node (o85 P) (.node (o117 P) .nil .nil) (.node (o151 P) .nil .nil)) (.node (o101 P) (.node (o135 P) .nil .nil) .nil))))) (.node (o49 P) (.node (boot_o_4 P) (.node (boot_o_8 P) (.node (o53 P) (.node (o69 P) (.node (o104 P) .nil .nil) (.node (o138 P) .nil .nil)) (.node (o88 P) (.node (o120 P) .nil .nil) (.node (o154 P) .nil .nil))) (.node (o61 P) (.node (o77 P) (.node (o112 P) .nil .nil) (.node (o146 P) .nil .nil)) (.node (o96 P) (.node (o130 P) .nil .nil) .nil))) (.node (o124 P) (.node (o57 P) (.node (o73 P) (.node (o108 P) .nil .nil) (.node (o142 P) .nil .nil)) (.node (o92 P) (.node (o126 P) .nil .nil) (.node (o158 P) .nil .nil))) (.node (o65 P) (.node (o84 P) (.node (o116 P) .nil .nil) (.node (o150 P) .nil .nil)) (.node (o100 P) (.node (o134 P) .nil .nil) .nil)))) (.node (boot_o_6 P) (.node (boot_o_10 P) (.node (o55 P) (.node (o71 P) (.node (o106 P) .nil .nil) (.node (o140 P) .nil .nil)) (.node (o90 P) (.node (o122 P) .nil .nil) (.node (o156 P) .nil .nil))) (.node (o63 P) (.node (o79 P) (.node (o114 P) .nil .nil) (.node (o148 P) .nil .nil)) (.node (o98 P) (.node (o132 P) .nil .nil) .nil))) (.node (o46 P) (.node (o59 P) (.node (o75 P) (.node (o110 P) .nil .nil) (.node (o144 P) .nil .nil)) (.node (o94 P) (.node (o128 P) .nil .nil) .nil)) (.node (o67 P) (.node (o86 P) (.node (o118 P) .nil .nil) (.node (o152 P) .nil .nil)) (.node (o102 P) (.node (o136 P) .nil .nil) .nil))))))
noncomputable def tr213 : Params → BT := fun P => (.node (boot_o_0 P) (.node (boot_o_1 P) (.node (o160 P) (.node (boot_o_7 P) (.node (o52 P) (.node (o68 P) (.node (o103 P) (.node (o171 P) .nil .nil) .nil) (.node (o137 P) (.node (o203 P) .nil .nil) .nil)) (.node (o87 P) (.node (o119 P) (.node (o187 P) .nil .nil) .nil) (.node (o153 P) .nil .nil))) (.node (o60 P) (.node (o82 P) (.node (o111 P) (.node (o179 P) .nil .nil) .nil) (.node (o145 P) (.node (o211 P) .nil .nil) .nil)) (.node (o95 P) (.node (o129 P) (.node (o195 P) .nil .nil) .nil) (.node (o163 P) .nil .nil)))) (.node (o43 P) (.node (o56 P) (.node (o72 P) (.node (o107 P) (.node (o175 P) .nil .nil) .nil) (.node (o141 P) (.node (o207 P) .nil .nil) .nil)) (.node (o91 P) (.node (o125 P) (.node (o191 P) .nil .nil) .nil) (.node (o157 P) .nil .nil))) (.node (o64 P) (.node (o83 P) (.node (o115 P) (.node (o183 P) .nil .nil) .nil) (.node (o149 P) .nil .nil)) (.node (o99 P) (.node (o133 P) (.node (o199 P) .nil .nil) .nil) (.node (o167 P) .nil .nil))))) (.node (boot_o_5 P) (.node (boot_o_9 P) (.node (o54 P) (.node (o70 P) (.node (o105 P) (.node (o173 P) .nil .nil) .nil) (.node (o139 P) (.node (o205 P) .nil .nil) .nil)) (.node (o89 P) (.node (o121 P) (.node (o189 P) .nil .nil) .nil) (.node (o155 P) .nil .nil))) (.node (o62 P) (.node (o78 P) (.node (o113 P) (.node (o181 P) .nil .nil) .nil) (.node (o147 P) (.node (o213 P) .nil .nil) .nil)) (.node (o97 P) (.node (o131 P) (.node (o197 P) .nil .nil) .nil) (.node (o165 P) .nil .nil)))) (.node (o45 P) (.node (o58 P) (.node (o74 P) (.node (o109 P) (.node (o177 P) .nil .nil) .nil) (.node (o143 P) (.node (o209 P) .nil .nil) .nil)) (.node (o93 P) (.node (o127 P) (.node (o193 P) .nil .nil) .nil) (.node (o159 P) .nil .nil))) (.node (o66 P) (.node (o85 P) (.node (o117 P) (.node (o185 P) .nil .nil) .nil) (.node (o151 P) .nil .nil)) (.node (o101 P) (.node (o135 P) (.node (o201 P) .nil .nil) .nil) (.node (o169 P) .nil .nil)))))) (.node (o49 P) (.node (boot_o_4 P) (.node (boot_o_8 P) (.node (o53 P) (.node (o69 P) (.node (o104 P) (.node (o172 P) .nil .nil) .nil) (.node (o138 P) (.node (o204 P) .nil .nil) .nil)) (.node (o88 P) (.node (o120 P) (.node (o188 P) .nil .nil) .nil) (.node (o154 P) .nil .nil))) (.node (o61 P) (.node (o77 P) (.node (o112 P) (.node (o180 P) .nil .nil) .nil) (.node (o146 P) (.node (o212 P) .nil .nil) .nil)) (.node (o96 P) (.node (o130 P) (.node (o196 P) .nil .nil) .nil) (.node (o164 P) .nil .nil)))) (.node (o161 P) (.node (o57 P) (.node (o73 P) (.node (o108 P) (.node (o176 P) .nil .nil) .nil) (.node (o142 P) (.node (o208 P) .nil .nil) .nil)) (.node (o92 P) (.node (o126 P) (.node (o192 P) .nil .nil) .nil) (.node (o158 P) .nil .nil))) (.node (o65 P) (.node (o84 P) (.node (o116 P) (.node (o184 P) .nil .nil) .nil) (.node (o150 P) .nil .nil)) (.node (o100 P) (.node (o134 P) (.node (o200 P) .nil .nil) .nil) (.node (o168 P) .nil .nil))))) (.node (boot_o_6 P) (.node (boot_o_10 P) (.node (o55 P) (.node (o71 P) (.node (o106 P) (.node (o174 P) .nil .nil) .nil) (.node (o140 P) (.node (o206 P) .nil .nil) .nil)) (.node (o90 P) (.node (o122 P) (.node (o190 P) .nil .nil) .nil) (.node (o156 P) .nil .nil))) (.node (o63 P) (.node (o79 P) (.node (o114 P) (.node (o182 P) .nil .nil) .nil) (.node (o148 P) .nil .nil)) (.node (o98 P) (.node (o132 P) (.node (o198 P) .nil .nil) .nil) (.node (o166 P) .nil .nil)))) (.node (o46 P) (.node (o59 P) (.node (o75 P) (.node (o110 P) (.node (o178 P) .nil .nil) .nil) (.node (o144 P) (.node (o210 P) .nil .nil) .nil)) (.node (o94 P) (.node (o128 P) (.node (o194 P) .nil .nil) .nil) (.node (o162 P) .nil .nil))) (.node (o67 P) (.node (o86 P) (.node (o118 P) (.node (o186 P) .nil .nil) .nil) (.node (o152 P) .nil .nil)) (.node (o102 P) (.node (o136 P) (.node (o202 P) .nil .nil) .nil) (.node (o170 P) .nil .nil)))))))
noncomputable def tr291 : Params → BT := fun P => (.node (boot_o_0 P) (.node (boot_o_1 P) (.node (o214 P) (.node (boot_o_7 P) (.node (o52 P) (.node (o68 P) (.node (o103 P) (.node (o171 P) .nil .nil) (.node (o237 P) .nil .nil)) (.node (o137 P) (.node (o203 P) .nil .nil) (.node (o269 P) .nil .nil))) (.node (o87 P) (.node (o119 P) (.node (o187 P) .nil .nil) (.node (o253 P) .nil .nil)) (.node (o153 P) (.node (o221 P) .nil .nil) (.node (o285 P) .nil .nil)))) (.node (o60 P) (.node (o82 P) (.node (o111 P) (.node (o179 P) .nil .nil) (.node (o245 P) .nil .nil)) (.node (o145 P) (.node (o211 P) .nil .nil) (.node (o277 P) .nil .nil))) (.node (o95 P) (.node (o129 P) (.node (o195 P) .nil .nil) (.node (o261 P) .nil .nil)) (.node (o163 P) (.node (o229 P) .nil .nil) .nil)))) (.node (o43 P) (.node (o56 P) (.node (o72 P) (.node (o107 P) (.node (o175 P) .nil .nil) (.node (o241 P) .nil .nil)) (.node (o141 P) (.node (o207 P) .nil .nil) (.node (o273 P) .nil .nil))) (.node (o91 P) (.node (o125 P) (.node (o191 P) .nil .nil) (.node (o257 P) .nil .nil)) (.node (o157 P) (.node (o225 P) .nil .nil) (.node (o289 P) .nil .nil)))) (.node (o64 P) (.node (o83 P) (.node (o115 P) (.node (o183 P) .nil .nil) (.node (o249 P) .nil .nil)) (.node (o149 P) (.node (o217 P) .nil .nil) (.node (o281 P) .nil .nil))) (.node (o99 P) (.node (o133 P) (.node (o199 P) .nil .nil) (.node (o265 P) .nil .nil)) (.node (o167 P) (.node (o233 P) .nil .nil) .nil))))) (.node (boot_o_5 P) (.node (boot_o_9 P) (.node (o54 P) (.node (o70 P) (.node (o105 P) (.node (o173 P) .nil .nil) (.node (o239 P) .nil .nil)) (.node (o139 P) (.node (o205 P) .nil .nil) (.node (o271 P) .nil .nil))) (.node (o89 P) (.node (o121 P) (.node (o189 P) .nil .nil) (.node (o255 P) .nil .nil)) (.node (o155 P) (.node (o223 P) .nil .nil) (.node (o287 P) .nil .nil)))) (.node (o62 P) (.node (o78 P) (.node (o113 P) (.node (o181 P) .nil .nil) (.node (o247 P) .nil .nil)) (.node (o147 P) (.node (o213 P) .nil .nil) (.node (o279 P) .nil .nil))) (.node (o97 P) (.node (o131 P) (.node (o197 P) .nil .nil) (.node (o263 P) .nil .nil)) (.node (o165 P) (.node (o231 P) .nil .nil) .nil)))) (.node (o45 P) (.node (o58 P) (.node (o74 P) (.node (o109 P) (.node (o177 P) .nil .nil) (.node (o243 P) .nil .nil)) (.node (o143 P) (.node (o209 P) .nil .nil) (.node (o275 P) .nil .nil))) (.node (o93 P) (.node (o127 P) (.node (o193 P) .nil .nil) (.node (o259 P) .nil .nil)) (.node (o159 P) (.node (o227 P) .nil .nil) (.node (o291 P) .nil .nil)))) (.node (o66 P) (.node (o85 P) (.node (o117 P) (.node (o185 P) .nil .nil) (.node (o251 P) .nil .nil)) (.node (o151 P) (.node (o219 P) .nil .nil) (.node (o283 P) .nil .nil))) (.node (o101 P) (.node (o135 P) (.node (o201 P) .nil .nil) (.node (o267 P) .nil .nil)) (.node (o169 P) (.node (o235 P) .nil .nil) .nil)))))) (.node (o49 P) (.node (boot_o_4 P) (.node (boot_o_8 P) (.node (o53 P) (.node (o69 P) (.node (o104 P) (.node (o172 P) .nil .nil) (.node (o238 P) .nil .nil)) (.node (o138 P) (.node (o204 P) .nil .nil) (.node (o270 P) .nil .nil))) (.node (o88 P) (.node (o120 P) (.node (o188 P) .nil .nil) (.node (o254 P) .nil .nil)) (.node (o154 P) (.node (o222 P) .nil .nil) (.node (o286 P) .nil .nil)))) (.node (o61 P) (.node (o77 P) (.node (o112 P) (.node (o180 P) .nil .nil) (.node (o246 P) .nil .nil)) (.node (o146 P) (.node (o212 P) .nil .nil) (.node (o278 P) .nil .nil))) (.node (o96 P) (.node (o130 P) (.node (o196 P) .nil .nil) (.node (o262 P) .nil .nil)) (.node (o164 P) (.node (o230 P) .nil .nil) .nil)))) (.node (o215 P) (.node (o57 P) (.node (o73 P) (.node (o108 P) (.node (o176 P) .nil .nil) (.node (o242 P) .nil .nil)) (.node (o142 P) (.node (o208 P) .nil .nil) (.node (o274 P) .nil .nil))) (.node (o92 P) (.node (o126 P) (.node (o192 P) .nil .nil) (.node (o258 P) .nil .nil)) (.node (o158 P) (.node (o226 P) .nil .nil) (.node (o290 P) .nil .nil)))) (.node (o65 P) (.node (o84 P) (.node (o116 P) (.node (o184 P) .nil .nil) (.node (o250 P) .nil .nil)) (.node (o150 P) (.node (o218 P) .nil .nil) (.node (o282 P) .nil .nil))) (.node (o100 P) (.node (o134 P) (.node (o200 P) .nil .nil) (.node (o266 P) .nil .nil)) (.node (o168 P) (.node (o234 P) .nil .nil) .nil))))) (.node (boot_o_6 P) (.node (boot_o_10 P) (.node (o55 P) (.node (o71 P) (.node (o106 P) (.node (o174 P) .nil .nil) (.node (o240 P) .nil .nil)) (.node (o140 P) (.node (o206 P) .nil .nil) (.node (o272 P) .nil .nil))) (.node (o90 P) (.node (o122 P) (.node (o190 P) .nil .nil) (.node (o256 P) .nil .nil)) (.node (o156 P) (.node (o224 P) .nil .nil) (.node (o288 P) .nil .nil)))) (.node (o63 P) (.node (o79 P) (.node (o114 P) (.node (o182 P) .nil .nil) (.node (o248 P) .nil .nil)) (.node (o148 P) (.node (o216 P) .nil .nil) (.node (o280 P) .nil .nil))) (.node (o98 P) (.node (o132 P) (.node (o198 P) .nil .nil) (.node (o264 P) .nil .nil)) (.node (o166 P) (.node (o232 P) .nil .nil) .nil)))) (.node (o46 P) (.node (o59 P) (.node (o75 P) (.node (o110 P) (.node (o178 P) .nil .nil) (.node (o244 P) .nil .nil)) (.node (o144 P) (.node (o210 P) .nil .nil) (.node (o276 P) .nil .nil))) (.node (o94 P) (.node (o128 P) (.node (o194 P) .nil .nil) (.node (o260 P) .nil .nil)) (.node (o162 P) (.node (o228 P) .nil .nil) .nil))) (.node (o67 P) (.node (o86 P) (.node (o118 P) (.node (o186 P) .nil .nil) (.node (o252 P) .nil .nil)) (.node (o152 P) (.node (o220 P) .nil .nil) (.node (o284 P) .nil .nil))) (.node (o102 P) (.node (o136 P) (.node (o202 P) .nil .nil) (.node (o268 P) .nil .nil)) (.node (o170 P) (.node (o236 P) .nil .nil) .nil)))))))
noncomputable def tr372 : Params → BT := fun P => (.node (boot_o_0 P) (.node (boot_o_1 P) (.node (o292 P) (.node (boot_o_7 P) (.node (o52 P) (.node (o68 P) (.node (o103 P) (.node (o171 P) (.node (o303 P) .nil .nil) .nil) (.node (o237 P) (.node (o367 P) .nil .nil) .nil)) (.node (o137 P) (.node (o203 P) (.node (o335 P) .nil .nil) .nil) (.node (o269 P) .nil .nil))) (.node (o87 P) (.node (o119 P) (.node (o187 P) (.node (o319 P) .nil .nil) .nil) (.node (o253 P) .nil .nil)) (.node (o153 P) (.node (o221 P) (.node (o351 P) .nil .nil) .nil) (.node (o285 P) .nil .nil)))) (.node (o60 P) (.node (o82 P) (.node (o111 P) (.node (o179 P) (.node (o311 P) .nil .nil) .nil) (.node (o245 P) .nil .nil)) (.node (o145 P) (.node (o211 P) (.node (o343 P) .nil .nil) .nil) (.node (o277 P) .nil .nil))) (.node (o95 P) (.node (o129 P) (.node (o195 P) (.node (o327 P) .nil .nil) .nil) (.node (o261 P) .nil .nil)) (.node (o163 P) (.node (o229 P) (.node (o359 P) .nil .nil) .nil) (.node (o295 P) .nil .nil))))) (.node (o43 P) (.node (o56 P) (.node (o72 P) (.node (o107 P) (.node (o175 P) (.node (o307 P) .nil .nil) .nil) (.node (o241 P) (.node (o371 P) .nil .nil) .nil)) (.node (o141 P) (.node (o207 P) (.node (o339 P) .nil .nil) .nil) (.node (o273 P) .nil .nil))) (.node (o91 P) (.node (o125 P) (.node (o191 P) (.node (o323 P) .nil .nil) .nil) (.node (o257 P) .nil .nil)) (.node (o157 P) (.node (o225 P) (.node (o355 P) .nil .nil) .nil) (.node (o289 P) .nil .nil)))) (.node (o64 P) (.node (o83 P) (.node (o115 P) (.node (o183 P) (.node (o315 P) .nil .nil) .nil) (.node (o249 P) .nil .nil)) (.node (o149 P) (.node (o217 P) (.node (o347 P) .nil .nil) .nil) (.node (o281 P) .nil .nil))) (.node (o99 P) (.node (o133 P) (.node (o199 P) (.node (o331 P) .nil .nil) .nil) (.node (o265 P) .nil .nil)) (.node (o167 P) (.node (o233 P) (.node (o363 P) .nil .nil) .nil) (.node (o299 P) .nil .nil)))))) (.node (boot_o_5 P) (.node (boot_o_9 P) (.node (o54 P) (.node (o70 P) (.node (o105 P) (.node (o173 P) (.node (o305 P) .nil .nil) .nil) (.node (o239 P) (.node (o369 P) .nil .nil) .nil)) (.node (o139 P) (.node (o205 P) (.node (o337 P) .nil .nil) .nil) (.node (o271 P) .nil .nil))) (.node (o89 P) (.node (o121 P) (.node (o189 P) (.node (o321 P) .nil .nil) .nil) (.node (o255 P) .nil .nil)) (.node (o155 P) (.node (o223 P) (.node (o353 P) .nil .nil) .nil) (.node (o287 P) .nil .nil)))) (.node (o62 P) (.node (o78 P) (.node (o113 P) (.node (o181 P) (.node (o313 P) .nil .nil) .nil) (.node (o247 P) .nil .nil)) (.node (o147 P) (.node (o213 P) (.node (o345 P) .nil .nil) .nil) (.node (o279 P) .nil .nil))) (.node (o97 P) (.node (o131 P) (.node (o197 P) (.node (o329 P) .nil .nil) .nil) (.node (o263 P) .nil .nil)) (.node (o165 P) (.node (o231 P) (.node (o361 P) .nil .nil) .nil) (.node (o297 P) .nil .nil))))) (.node (o45 P) (.node (o58 P) (.node (o74 P) (.node (o109 P) (.node (o177 P) (.node (o309 P) .nil .nil) .nil) (.node (o243 P) .nil .nil)) (.node (o143 P) (.node (o209 P) (.node (o341 P) .nil .nil) .nil) (.node (o275 P) .nil .nil))) (.node (o93 P) (.node (o127 P) (.node (o193 P) (.node (o325 P) .nil .nil) .nil) (.node (o259 P) .nil .nil)) (.node (o159 P) (.node (o227 P) (.node (o357 P) .nil .nil) .nil) (.node (o291 P) .nil .nil)))) (.node (o66 P) (.node (o85 P) (.node (o117 P) (.node (o185 P) (.node (o317 P) .nil .nil) .nil) (.node (o251 P) .nil .nil)) (.node (o151 P) (.node (o219 P) (.node (o349 P) .nil .nil) .nil) (.node (o283 P) .nil .nil))) (.node (o101 P) (.node (o135 P) (.node (o201 P) (.node (o333 P) .nil .nil) .nil) (.node (o267 P) .nil .nil)) (.node (o169 P) (.node (o235 P) (.node (o365 P) .nil .nil) .nil) (.node (o301 P) .nil .nil))))))) (.node (o49 P) (.node (boot_o_4 P) (.node (boot_o_8 P) (.node (o53 P) (.node (o69 P) (.node (o104 P) (.node (o172 P) (.node (o304 P) .nil .nil) .nil) (.node (o238 P) (.node (o368 P) .nil .nil) .nil)) (.node (o138 P) (.node (o204 P) (.node (o336 P) .nil .nil) .nil) (.node (o270 P) .nil .nil))) (.node (o88 P) (.node (o120 P) (.node (o188 P) (.node (o320 P) .nil .nil) .nil) (.node (o254 P) .nil .nil)) (.node (o154 P) (.node (o222 P) (.node (o352 P) .nil .nil) .nil) (.node (o286 P) .nil .nil)))) (.node (o61 P) (.node (o77 P) (.node (o112 P) (.node (o180 P) (.node (o312 P) .nil .nil) .nil) (.node (o246 P) .nil .nil)) (.node (o146 P) (.node (o212 P) (.node (o344 P) .nil .nil) .nil) (.node (o278 P) .nil .nil))) (.node (o96 P) (.node (o130 P) (.node (o196 P) (.node (o328 P) .nil .nil) .nil) (.node (o262 P) .nil .nil)) (.node (o164 P) (.node (o230 P) (.node (o360 P) .nil .nil) .nil) (.node (o296 P) .nil .nil))))) (.node (o293 P) (.node (o57 P) (.node (o73 P) (.node (o108 P) (.node (o176 P) (.node (o308 P) .nil .nil) .nil) (.node (o242 P) (.node (o372 P) .nil .nil) .nil)) (.node (o142 P) (.node (o208 P) (.node (o340 P) .nil .nil) .nil) (.node (o274 P) .nil .nil))) (.node (o92 P) (.node (o126 P) (.node (o192 P) (.node (o324 P) .nil .nil) .nil) (.node (o258 P) .nil .nil)) (.node (o158 P) (.node (o226 P) (.node (o356 P) .nil .nil) .nil) (.node (o290 P) .nil .nil)))) (.node (o65 P) (.node (o84 P) (.node (o116 P) (.node (o184 P) (.node (o316 P) .nil .nil) .nil) (.node (o250 P) .nil .nil)) (.node (o150 P) (.node (o218 P) (.node (o348 P) .nil .nil) .nil) (.node (o282 P) .nil .nil))) (.node (o100 P) (.node (o134 P) (.node (o200 P) (.node (o332 P) .nil .nil) .nil) (.node (o266 P) .nil .nil)) (.node (o168 P) (.node (o234 P) (.node (o364 P) .nil .nil) .nil) (.node (o300 P) .nil .nil)))))) (.node (boot_o_6 P) (.node (boot_o_10 P) (.node (o55 P) (.node (o71 P) (.node (o106 P) (.node (o174 P) (.node (o306 P) .nil .nil) .nil) (.node (o240 P) (.node (o370 P) .nil .nil) .nil)) (.node (o140 P) (.node (o206 P) (.node (o338 P) .nil .nil) .nil) (.node (o272 P) .nil .nil))) (.node (o90 P) (.node (o122 P) (.node (o190 P) (.node (o322 P) .nil .nil) .nil) (.node (o256 P) .nil .nil)) (.node (o156 P) (.node (o224 P) (.node (o354 P) .nil .nil) .nil) (.node (o288 P) .nil .nil)))) (.node (o63 P) (.node (o79 P) (.node (o114 P) (.node (o182 P) (.node (o314 P) .nil .nil) .nil) (.node (o248 P) .nil .nil)) (.node (o148 P) (.node (o216 P) (.node (o346 P) .nil .nil) .nil) (.node (o280 P) .nil .nil))) (.node (o98 P) (.node (o132 P) (.node (o198 P) (.node (o330 P) .nil .nil) .nil) (.node (o264 P) .nil .nil)) (.node (o166 P) (.node (o232 P) (.node (o362 P) .nil .nil) .nil) (.node (o298 P) .nil .nil))))) (.node (o46 P) (.node (o59 P) (.node (o75 P) (.node (o110 P) (.node (o178 P) (.node (o310 P) .nil .nil) .nil) (.node (o244 P) .nil .nil)) (.node (o144 P) (.node (o210 P) (.node (o342 P) .nil .nil) .nil) (.node (o276 P) .nil .nil))) (.node (o94 P) (.node (o128 P) (.node (o194 P) (.node (o326 P) .nil .nil) .nil) (.node (o260 P) .nil .nil)) (.node (o162 P) (.node (o228 P) (.node (o358 P) .nil .nil) .nil) (.node (o294 P) .nil .nil)))) (.node (o67 P) (.node (o86 P) (.node (o118 P) (.node (o186 P) (.node (o318 P) .nil .nil) .nil) (.node (o252 P) .nil .nil)) (.node (o152 P) (.node (o220 P) (.node (o350 P) .nil .nil) .nil) (.node (o284 P) .nil .nil))) (.node (o102 P) (.node (o136 P) (.node (o202 P) (.node (o334 P) .nil .nil) .nil) (.node (o268 P) .nil .nil)) (.node (o170 P) (.node (o236 P) (.node (o366 P) .nil .nil) .nil) (.node (o302 P) .nil .nil))))))))
noncomputable def tr389 : Params → BT := fun P => (.node (boot_o_0 P) (.node (boot_o_1 P) (.node (o373 P) (.node (boot_o_7 P) (.node (o52 P) (.node (o68 P) (.node (o103 P) (.node (o171 P) (.node (o303 P) .nil .nil) .nil) (.node (o237 P) (.node (o367 P) .nil .nil) .nil)) (.node (o137 P) (.node (o203 P) (.node (o335 P) .nil .nil) .nil) (.node (o269 P) .nil .nil))) (.node (o87 P) (.node (o119 P) (.node (o187 P) (.node (o319 P) .nil .nil) .nil) (.node (o253 P) (.node (o385 P) .nil .nil) .nil)) (.node (o153 P) (.node (o221 P) (.node (o351 P) .nil .nil) .nil) (.node (o285 P) .nil .nil)))) (.node (o60 P) (.node (o82 P) (.node (o111 P) (.node (o179 P) (.node (o311 P) .nil .nil) .nil) (.node (o245 P) (.node (o377 P) .nil .nil) .nil)) (.node (o145 P) (.node (o211 P) (.node (o343 P) .nil .nil) .nil) (.node (o277 P) .nil .nil))) (.node (o95 P) (.node (o129 P) (.node (o195 P) (.node (o327 P) .nil .nil) .nil) (.node (o261 P) .nil .nil)) (.node (o163 P) (.node (o229 P) (.node (o359 P) .nil .nil) .nil) (.node (o295 P) .nil .nil))))) (.node (o43 P) (.node (o56 P) (.node (o72 P) (.node (o107 P) (.node (o175 P) (.node (o307 P) .nil .nil) .nil) (.node (o241 P) (.node (o371 P) .nil .nil) .nil)) (.node (o141 P) (.node (o207 P) (.node (o339 P) .nil .nil) .nil) (.node (o273 P) .nil .nil))) (.node (o91 P) (.node (o125 P) (.node (o191 P) (.node (o323 P) .nil .nil) .nil) (.node (o257 P) (.node (o389 P) .nil .nil) .nil)) (.node (o157 P) (.node (o225 P) (.node (o355 P) .nil .nil) .nil) (.node (o289 P) .nil .nil)))) (.node (o64 P) (.node (o83 P) (.node (o115 P) (.node (o183 P) (.node (o315 P) .nil .nil) .nil) (.node (o249 P) (.node (o381 P) .nil .nil) .nil)) (.node (o149 P) (.node (o217 P) (.node (o347 P) .nil .nil) .nil) (.node (o281 P) .nil .nil))) (.node (o99 P) (.node (o133 P) (.node (o199 P) (.node (o331 P) .nil .nil) .nil) (.node (o265 P) .nil .nil)) (.node (o167 P) (.node (o233 P) (.node (o363 P) .nil .nil) .nil) (.node (o299 P) .nil .nil)))))) (.node (boot_o_5 P) (.node (boot_o_9 P) (.node (o54 P) (.node (o70 P) (.node (o105 P) (.node (o173 P) (.node (o305 P) .nil .nil) .nil) (.node (o239 P) (.node (o369 P) .nil .nil) .nil)) (.node (o139 P) (.node (o205 P) (.node (o337 P) .nil .nil) .nil) (.node (o271 P) .nil .nil))) (.node (o89 P) (.node (o121 P) (.node (o189 P) (.node (o321 P) .nil .nil) .nil) (.node (o255 P) (.node (o387 P) .nil .nil) .nil)) (.node (o155 P) (.node (o223 P) (.node (o353 P) .nil .nil) .nil) (.node (o287 P) .nil .nil)))) (.node (o62 P) (.node (o78 P) (.node (o113 P) (.node (o181 P) (.node (o313 P) .nil .nil) .nil) (.node (o247 P) (.node (o379 P) .nil .nil) .nil)) (.node (o147 P) (.node (o213 P) (.node (o345 P) .nil .nil) .nil) (.node (o279 P) .nil .nil))) (.node (o97 P) (.node (o131 P) (.node (o197 P) (.node (o329 P) .nil .nil) .nil) (.node (o263 P) .nil .nil)) (.node (o165 P) (.node (o231 P) (.node (o361 P) .nil .nil) .nil) (.node (o297 P) .nil .nil))))) (.node (o45 P) (.node (o58 P) (.node (o74 P) (.node (o109 P) (.node (o177 P) (.node (o309 P) .nil .nil) .nil) (.node (o243 P) (.node (o375 P) .nil .nil) .nil)) (.node (o143 P) (.node (o209 P) (.node (o341 P) .nil .nil) .nil) (.node (o275 P) .nil .nil))) (.node (o93 P) (.node (o127 P) (.node (o193 P) (.node (o325 P) .nil .nil) .nil) (.node (o259 P) .nil .nil)) (.node (o159 P) (.node (o227 P) (.node (o357 P) .nil .nil) .nil) (.node (o291 P) .nil .nil)))) (.node (o66 P) (.node (o85 P) (.node (o117 P) (.node (o185 P) (.node (o317 P) .nil .nil) .nil) (.node (o251 P) (.node (o383 P) .nil .nil) .nil)) (.node (o151 P) (.node (o219 P) (.node (o349 P) .nil .nil) .nil) (.node (o283 P) .nil .nil))) (.node (o101 P) (.node (o135 P) (.node (o201 P) (.node (o333 P) .nil .nil) .nil) (.node (o267 P) .nil .nil)) (.node (o169 P) (.node (o235 P) (.node (o365 P) .nil .nil) .nil) (.node (o301 P) .nil .nil))))))) (.node (o49 P) (.node (boot_o_4 P) (.node (boot_o_8 P) (.node (o53 P) (.node (o69 P) (.node (o104 P) (.node (o172 P) (.node (o304 P) .nil .nil) .nil) (.node (o238 P) (.node (o368 P) .nil .nil) .nil)) (.node (o138 P) (.node (o204 P) (.node (o336 P) .nil .nil) .nil) (.node (o270 P) .nil .nil))) (.node (o88 P) (.node (o120 P) (.node (o188 P) (.node (o320 P) .nil .nil) .nil) (.node (o254 P) (.node (o386 P) .nil .nil) .nil)) (.node (o154 P) (.node (o222 P) (.node (o352 P) .nil .nil) .nil) (.node (o286 P) .nil .nil)))) (.node (o61 P) (.node (o77 P) (.node (o112 P) (.node (o180 P) (.node (o312 P) .nil .nil) .nil) (.node (o246 P) (.node (o378 P) .nil .nil) .nil)) (.node (o146 P) (.node (o212 P) (.node (o344 P) .nil .nil) .nil) (.node (o278 P) .nil .nil))) (.node (o96 P) (.node (o130 P) (.node (o196 P) (.node (o328 P) .nil .nil) .nil) (.node (o262 P) .nil .nil)) (.node (o164 P) (.node (o230 P) (.node (o360 P) .nil .nil) .nil) (.node (o296 P) .nil .nil))))) (.node (o374 P) (.node (o57 P) (.node (o73 P) (.node (o108 P) (.node (o176 P) (.node (o308 P) .nil .nil) .nil) (.node (o242 P) (.node (o372 P) .nil .nil) .nil)) (.node (o142 P) (.node (o208 P) (.node (o340 P) .nil .nil) .nil) (.node (o274 P) .nil .nil))) (.node (o92 P) (.node (o126 P) (.node (o192 P) (.node (o324 P) .nil .nil) .nil) (.node (o258 P) .nil .nil)) (.node (o158 P) (.node (o226 P) (.node (o356 P) .nil .nil) .nil) (.node (o290 P) .nil .nil)))) (.node (o65 P) (.node (o84 P) (.node (o116 P) (.node (o184 P) (.node (o316 P) .nil .nil) .nil) (.node (o250 P) (.node (o382 P) .nil .nil) .nil)) (.node (o150 P) (.node (o218 P) (.node (o348 P) .nil .nil) .nil) (.node (o282 P) .nil .nil))) (.node (o100 P) (.node (o134 P) (.node (o200 P) (.node (o332 P) .nil .nil) .nil) (.node (o266 P) .nil .nil)) (.node (o168 P) (.node (o234 P) (.node (o364 P) .nil .nil) .nil) (.node (o300 P) .nil .nil)))))) (.node (boot_o_6 P) (.node (boot_o_10 P) (.node (o55 P) (.node (o71 P) (.node (o106 P) (.node (o174 P) (.node (o306 P) .nil .nil) .nil) (.node (o240 P) (.node (o370 P) .nil .nil) .nil)) (.node (o140 P) (.node (o206 P) (.node (o338 P) .nil .nil) .nil) (.node (o272 P) .nil .nil))) (.node (o90 P) (.node (o122 P) (.node (o190 P) (.node (o322 P) .nil .nil) .nil) (.node (o256 P) (.node (o388 P) .nil .nil) .nil)) (.node (o156 P) (.node (o224 P) (.node (o354 P) .nil .nil) .nil) (.node (o288 P) .nil .nil)))) (.node (o63 P) (.node (o79 P) (.node (o114 P) (.node (o182 P) (.node (o314 P) .nil .nil) .nil) (.node (o248 P) (.node (o380 P) .nil .nil) .nil)) (.node (o148 P) (.node (o216 P) (.node (o346 P) .nil .nil) .nil) (.node (o280 P) .nil .nil))) (.node (o98 P) (.node (o132 P) (.node (o198 P) (.node (o330 P) .nil .nil) .nil) (.node (o264 P) .nil .nil)) (.node (o166 P) (.node (o232 P) (.node (o362 P) .nil .nil) .nil) (.node (o298 P) .nil .nil))))) (.node (o46 P) (.node (o59 P) (.node (o75 P) (.node (o110 P) (.node (o178 P) (.node (o310 P) .nil .nil) .nil) (.node (o244 P) (.node (o376 P) .nil .nil) .nil)) (.node (o144 P) (.node (o210 P) (.node (o342 P) .nil .nil) .nil) (.node (o276 P) .nil .nil))) (.node (o94 P) (.node (o128 P) (.node (o194 P) (.node (o326 P) .nil .nil) .nil) (.node (o260 P) .nil .nil)) (.node (o162 P) (.node (o228 P) (.node (o358 P) .nil .nil) .nil) (.node (o294 P) .nil .nil)))) (.node (o67 P) (.node (o86 P) (.node (o118 P) (.node (o186 P) (.node (o318 P) .nil .nil) .nil) (.node (o252 P) (.node (o384 P) .nil .nil) .nil)) (.node (o152 P) (.node (o220 P) (.node (o350 P) .nil .nil) .nil) (.node (o284 P) .nil .nil))) (.node (o102 P) (.node (o136 P) (.node (o202 P) (.node (o334 P) .nil .nil) .nil) (.node (o268 P) .nil .nil)) (.node (o170 P) (.node (o236 P) (.node (o366 P) .nil .nil) .nil) (.node (o302 P) .nil .nil))))))))
noncomputable def hp390 : Params → Heap := fun P => ⟨⟨[(boot_o_0 P),(boot_o_1 P),(o49 P),(o373 P),(boot_o_4 P),(boot_o_5 P),(boot_o_6 P),(boot_o_7 P),(boot_o_8 P),(boot_o_9 P),(boot_o_10 P),(o43 P),(o374 P),(o45 P),(o46 P),(o52 P),(o53 P),(o54 P),(o55 P),(o56 P),(o57 P),(o58 P),(o59 P),(o60 P),(o61 P),(o62 P),(o63 P),(o64 P),(o65 P),(o66 P),(o67 P),(o68 P),(o69 P),(o70 P),(o71 P),(o72 P),(o73 P),(o74 P),(o75 P),(o82 P),(o77 P),(o78 P),(o79 P),(o83 P),(o84 P),(o85 P),(o86 P),(o87 P),(o88 P),(o89 P),(o90 P),(o91 P),(o92 P),(o93 P),(o94 P),(o95 P),(o96 P),(o97 P),(o98 P),(o99 P),(o100 P),(o101 P),(o102 P),(o103 P),(o104 P),(o105 P),(o106 P),(o107 P),(o108 P),(o109 P),(o110 P),(o111 P),(o112 P),(o113 P),(o114 P),(o115 P),(o116 P),(o117 P),(o118 P),(o119 P),(o120 P),(o121 P),(o122 P),(o125 P),(o126 P),(o127 P),(o128 P),(o129 P),(o130 P),(o131 P),(o132 P),(o133 P),(o134 P),(o135 P),(o136 P),(o137 P),(o138 P),(o139 P),(o140 P),(o141 P),(o142 P),(o143 P),(o144 P),(o145 P),(o146 P),(o147 P),(o148 P),(o149 P),(o150 P),(o151 P),(o152 P),(o153 P),(o154 P),(o155 P),(o156 P),(o157 P),(o158 P),(o159 P),(o162 P),(o163 P),(o164 P),(o165 P),(o166 P),(o167 P),(o168 P),(o169 P),(o170 P),(o171 P),(o172 P),(o173 P),(o174 P),(o175 P),(o176 P),(o177 P),(o178 P),(o179 P),(o180 P),(o181 P),(o182 P),(o183 P),(o184 P),(o185 P),(o186 P),(o187 P),(o188 P),(o189 P),(o190 P),(o191 P),(o192 P),(o193 P),(o194 P),(o195 P),(o196 P),(o197 P),(o198 P),(o199 P),(o200 P),(o201 P),(o202 P),(o203 P),(o204 P),(o205 P),(o206 P),(o207 P),(o208 P),(o209 P),(o210 P),(o211 P),(o212 P),(o213 P),(o216 P),(o217 P),(o218 P),(o219 P),(o220 P),(o221 P),(o222 P),(o223 P),(o224 P),(o225 P),(o226 P),(o227 P),(o228 P),(o229 P),(o230 P),(o231 P),(o232 P),(o233 P),(o234 P),(o235 P),(o236 P),(o237 P),(o238 P),(o239 P),(o240 P),(o241 P),(o242 P),(o243 P),(o244 P),(o245 P),(o246 P),(o247 P),(o248 P),(o249 P),(o250 P),(o251 P),(o252 P),(o253 P),(o254 P),(o255 P),(o256 P),(o257 P),(o258 P),(o259 P),(o260 P),(o261 P),(o262 P),(o263 P),(o264 P),(o265 P),(o266 P),(o267 P),(o268 P),(o269 P),(o270 P),(o271 P),(o272 P),(o273 P),(o274 P),(o275 P),(o276 P),(o277 P),(o278 P),(o279 P),(o280 P),(o281 P),(o282 P),(o283 P),(o284 P),(o285 P),(o286 P),(o287 P),(o288 P),(o289 P),(o290 P),(o291 P),(o294 P),(o295 P),(o296 P),(o297 P),(o298 P),(o299 P),(o300 P),(o301 P),(o302 P),(o303 P),(o304 P),(o305 P),(o306 P),(o307 P),(o308 P),(o309 P),(o310 P),(o311 P),(o312 P),(o313 P),(o314 P),(o315 P),(o316 P),(o317 P),(o318 P),(o319 P),(o320 P),(o321 P),(o322 P),(o323 P),(o324 P),(o325 P),(o326 P),(o327 P),(o328 P),(o329 P),(o330 P),(o331 P),(o332 P),(o333 P),(o334 P),(o335 P),(o336 P),(o337 P),(o338 P),(o339 P),(o340 P),(o341 P),(o342 P),(o343 P),(o344 P),(o345 P),(o346 P),(o347 P),(o348 P),(o349 P),(o350 P),(o351 P),(o352 P),(o353 P),(o354 P),(o355 P),(o356 P),(o357 P),(o358 P),(o359 P),(o360 P),(o361 P),(o362 P),(o363 P),(o364 P),(o365 P),(o366 P),(o367 P),(o368 P),(o369 P),(o370 P),(o371 P),(o372 P),(o375 P),(o376 P),(o377 P),(o378 P),(o379 P),(o380 P),(o381 P),(o382 P),(o383 P),(o384 P),(o385 P),(o386 P),(o387 P),(o388 P),(o389 P)]⟩,⟨[],[],[],0,[],[],false,(List.toArray []),[],0,false,false,false,0,[2000,10,10],false,0,true,[],[],0,false⟩⟩
noncomputable def heapK : Params → Frag := fun P => [(2,o49 P),(3,o373 P),(15,o52 P),(22,o59 P),(23,o60 P),(25,o62 P),(26,o63 P),(28,o65 P),(29,o66 P),(30,o67 P),(32,o69 P),(33,o70 P),(35,o72 P),(36,o73 P),(37,o74 P),(38,o75 P),(39,o82 P),(40,o77 P),(43,o83 P),(50,o90 P),(51,o91 P),(52,o92 P),(55,o95 P),(57,o97 P),(58,o98 P),(60,o100 P),(61,o101 P),(62,o102 P),(64,o104 P),(65,o105 P),(67,o107 P),(68,o108 P),(69,o109 P),(71,o111 P),(72,o112 P),(74,o114 P),(75,o115 P),(76,o116 P),(78,o118 P),(79,o119 P),(81,o121 P),(82,o122 P),(90,o132 P),(92,o134 P),(93,o135 P),(95,o137 P),(96,o138 P),(97,o139 P),(99,o141 P),(100,o142 P),(102,o144 P),(103,o145 P),(104,o146 P),(106,o148 P),(107,o149 P),(109,o151 P),(110,o152 P),(111,o153 P),(112,o154 P),(113,o155 P),(114,o156 P),(115,o157 P),(125,o169 P),(127,o171 P),(128,o172 P),(130,o174 P),(131,o175 P),(132,o176 P),(134,o178 P),(135,o179 P),(137,o181 P),(138,o182 P),(139,o183 P),(142,o186 P),(143,o187 P),(144,o188 P),(147,o191 P),(148,o192 P),(149,o193 P),(150,o194 P),(151,o195 P),(152,o196 P),(153,o197 P),(156,o200 P),(158,o202 P),(159,o203 P),(161,o205 P),(162,o206 P),(163,o207 P),(165,o209 P),(166,o210 P),(168,o212 P),(169,o213 P),(170,o216 P),(172,o218 P),(173,o219 P),(175,o221 P),(176,o222 P),(177,o223 P),(179,o225 P),(180,o226 P),(182,o228 P),(183,o229 P),(184,o230 P),(186,o232 P),(187,o233 P),(189,o235 P),(190,o236 P),(191,o237 P),(194,o240 P),(195,o241 P),(196,o242 P),(198,o244 P),(199,o245 P),(201,o247 P),(202,o248 P),(203,o249 P),(205,o251 P),(206,o252 P),(208,o254 P),(209,o255 P),(210,o256 P),(212,o258 P),(213,o259 P),(215,o261 P),(216,o262 P),(217,o263 P),(219,o265 P),(220,o266 P),(222,o268 P),(223,o269 P),(224,o270 P),(227,o273 P),(228,o274 P),(229,o275 P),(231,o277 P),(232,o278 P),(234,o280 P),(235,o281 P),(236,o282 P),(239,o285 P),(240,o286 P),(241,o287 P),(244,o290 P),(245,o291 P),(246,o294 P),(247,o295 P),(250,o298 P),(251,o299 P),(252,o300 P),(254,o302 P),(255,o303 P),(257,o305 P),(258,o306 P),(259,o307 P),(261,o309 P),(262,o310 P),(264,o312 P),(265,o313 P),(266,o314 P),(267,o315 P),(270,o318 P),(271,o319 P),(272,o320 P),(275,o323 P),(276,o324 P),(277,o325 P),(279,o327 P),(280,o328 P),(282,o330 P),(283,o331 P),(284,o332 P),(286,o334 P),(287,o335 P),(289,o337 P),(290,o338 P),(291,o339 P),(293,o341 P),(294,o342 P),(296,o344 P),(297,o345 P),(298,o346 P),(301,o349 P),(302,o350 P),(303,o351 P),(306,o354 P),(307,o355 P),(308,o356 P),(311,o359 P),(312,o360 P),(313,o361 P),(316,o364 P),(317,o365 P),(318,o366 P),(320,o368 P),(321,o369 P),(323,o371 P),(324,o372 P),(325,o375 P),(328,o378 P),(329,o379 P),(330,o380 P),(333,o383 P),(334,o384 P),(335,o385 P),(338,o388 P),(339,o389 P)]
noncomputable def kAs : List Addr := [2, 3, 15, 22, 23, 25, 26, 28, 29, 30, 32, 33, 35, 36, 37, 38, 39, 40, 43, 50, 51, 52, 55, 57, 58, 60, 61, 62, 64, 65, 67, 68, 69, 71, 72, 74, 75, 76, 78, 79, 81, 82, 90, 92, 93, 95, 96, 97, 99, 100, 102, 103, 104, 106, 107, 109, 110, 111, 112, 113, 114, 115, 125, 127, 128, 130, 131, 132, 134, 135, 137, 138, 139, 142, 143, 144, 147, 148, 149, 150, 151, 152, 153, 156, 158, 159, 161, 162, 163, 165, 166, 168, 169, 170, 172, 173, 175, 176, 177, 179, 180, 182, 183, 184, 186, 187, 189, 190, 191, 194, 195, 196, 198, 199, 201, 202, 203, 205, 206, 208, 209, 210, 212, 213, 215, 216, 217, 219, 220, 222, 223, 224, 227, 228, 229, 231, 232, 234, 235, 236, 239, 240, 241, 244, 245, 246, 247, 250, 251, 252, 254, 255, 257, 258, 259, 261, 262, 264, 265, 266, 267, 270, 271, 272, 275, 276, 277, 279, 280, 282, 283, 284, 286, 287, 289, 290, 291, 293, 294, 296, 297, 298, 301, 302, 303, 306, 307, 308, 311, 312, 313, 316, 317, 318, 320, 321, 323, 324, 325, 328, 329, 330, 333, 334, 335, 338, 339]
end Mine
open PySem PySem.W PyProof.Rows PySem.Calls
namespace Mine

/-! ### the top's run, in pieces -/
noncomputable abbrev bE : List Stmt := behindTheImports Pw
noncomputable abbrev q0 : Pos := ⟨0, 0, 0, 0⟩
noncomputable abbrev cE : Code := .body bE env41
noncomputable def b1 : List Stmt := bE.take 2
noncomputable def b2 : List Stmt := (bE.drop 2).take 9
noncomputable def b3 : List Stmt := (bE.drop 11).take 1
noncomputable def b4 : List Stmt := (bE.drop 12).take 3
noncomputable def b5 : List Stmt := (bE.drop 15).take 14
noncomputable def b6 : List Stmt := (bE.drop 29).take 15
noncomputable def b7 : List Stmt := bE.drop 44
theorem b_all : bE = b1 ++ (b2 ++ (b3 ++ (b4 ++ (b5 ++ (b6 ++ (b7 ++ [])))))) := by kernel_rfl
noncomputable abbrev stT (t : Params → BT) (n k : Nat) (w : World) (os : OsState) : SharedT := ⟨t w.params, n, {}, ⟨[]⟩, {}, k, os⟩
theorem g_pre (w : World) (os : OsState) : topGo treeTable Pw w 11 (some (.ref 6)) 12 ⟨boot_heap w.params, ⟨[]⟩, boot_drawn, boot_toks, os⟩ (topStub Pw) =
    some (⟨hp46 w.params, ⟨[]⟩, {}, 187, os⟩, ⟨denote treeTable cE, cE, q0, [topFrame q0]⟩) := by
  rw [PySem.W.Fast.te15667345088766844465, PySem.W.Fast.te14364793385576792824, PySem.W.Fast.te11892475500146522536]; kernel_rfl
theorem g_blk (w : World) (os : OsState) : segRun treeTable Pw w 11 (some (.ref 6)) 1 1 ⟨hp46 w.params, ⟨[]⟩, {}, 187, os⟩ (blockOf bE env41 cE q0 [topFrame q0]) =
    some (.next, (stT tr47 15 187 w os).abs, cE, q0) := by
  rw [PySem.W.Fast.te14374325043358763698, PySem.W.Fast.te14364793385576792824]; kernel_rfl
noncomputable abbrev Seg (w : World) (os : OsState) (k : Nat) (s s' : SharedT) (b : List Stmt) (p p' : Pos) : Prop :=
  segRunT treeTable Pw w 11 (some (.ref 6)) 1 k s (piecesOf b env41 cE p [topFrame q0]) = some (.next, s', cE, p')
theorem g1 (w : World) (os : OsState) : Seg w os 278 (stT tr47 15 187 w os) (stT tr79 43 229 w os) b1 q0 ⟨2, 0, 10, 35⟩ := by
  show segRunT _ _ _ _ _ _ _ _ _ = _
  rw [PySem.W.Fast.te10110043849684766642, PySem.W.Fast.te14364793385576792824]; kernel_rfl
theorem g2 (w : World) (os : OsState) : Seg w os 370 (stT tr79 43 229 w os) (stT tr122 83 285 w os) b2 ⟨2, 0, 10, 35⟩ ⟨33, 0, 39, 31⟩ := by
  show segRunT _ _ _ _ _ _ _ _ _ = _
  rw [PySem.W.Fast.te10110043849684766642, PySem.W.Fast.te14364793385576792824]; kernel_rfl
theorem g3 (w : World) (os : OsState) : Seg w os 294 (stT tr122 83 285 w os) (stT tr159 118 337 w os) b3 ⟨33, 0, 39, 31⟩ ⟨40, 0, 53, 77⟩ := by
  show segRunT _ _ _ _ _ _ _ _ _ = _
  rw [PySem.W.Fast.te10110043849684766642, PySem.W.Fast.te14364793385576792824]; kernel_rfl
theorem g4 (w : World) (os : OsState) : Seg w os 382 (stT tr159 118 337 w os) (stT tr213 170 413 w os) b4 ⟨40, 0, 53, 77⟩ ⟨86, 0, 87, 41⟩ := by
  show segRunT _ _ _ _ _ _ _ _ _ = _
  rw [PySem.W.Fast.te10110043849684766642, PySem.W.Fast.te14364793385576792824]; kernel_rfl
theorem g5 (w : World) (os : OsState) : Seg w os 385 (stT tr213 170 413 w os) (stT tr291 246 527 w os) b5 ⟨86, 0, 87, 41⟩ ⟨167, 0, 168, 63⟩ := by
  show segRunT _ _ _ _ _ _ _ _ _ = _
  rw [PySem.W.Fast.te10110043849684766642, PySem.W.Fast.te14364793385576792824]; kernel_rfl
theorem g6 (w : World) (os : OsState) : Seg w os 395 (stT tr291 246 527 w os) (stT tr372 325 633 w os) b6 ⟨167, 0, 168, 63⟩ ⟨269, 0, 273, 15⟩ := by
  show segRunT _ _ _ _ _ _ _ _ _ = _
  rw [PySem.W.Fast.te10110043849684766642, PySem.W.Fast.te14364793385576792824]; kernel_rfl
theorem g7 (w : World) (os : OsState) : Seg w os 79 (stT tr372 325 633 w os) (stT tr389 340 651 w os) b7 ⟨269, 0, 273, 15⟩ ⟨308, 0, 328, 15⟩ := by
  show segRunT _ _ _ _ _ _ _ _ _ = _
  rw [PySem.W.Fast.te10110043849684766642, PySem.W.Fast.te14364793385576792824]; kernel_rfl
theorem g_fin (w : World) (os : OsState) : topRun treeTable Pw w 11 (some (.ref 6)) 2 (stT tr389 340 651 w os).abs ⟨doneF .next, cE, ⟨308, 0, 328, 15⟩, [topFrame q0]⟩ = some ⟨hp390 w.params, ⟨[]⟩, {}, 651, os⟩ := by
  rw [PySem.W.Fast.te14082659384304107361, PySem.W.Fast.te14364793385576792824]; kernel_rfl
theorem rest_eq {b b' : List Stmt} {env : Env} {c : Code} {p : Pos} {B : List Frame} (h : b = b') : restOf b env c p B = restOf b' env c p B := by rw [h]
theorem g_run (w : World) (os : OsState) : topRun treeTable Pw w 11 (some (.ref 6)) (12 + (1 + (278 + (370 + (294 + (382 + (385 + (395 + (79 + 2))))))))) ⟨boot_heap w.params, ⟨[]⟩, boot_drawn, boot_toks, os⟩ (topStub Pw) = some ⟨hp390 w.params, ⟨[]⟩, {}, 651, os⟩ :=
  go_top (g_pre w os) (piece_block (g_blk w os) (by
    rw [rest_eq b_all]
    exact piece_app (segRun_of (g1 w os)) (piece_app (segRun_of (g2 w os)) (piece_app (segRun_of (g3 w os)) (piece_app (segRun_of (g4 w os)) (piece_app (segRun_of (g5 w os)) (piece_app (segRun_of (g6 w os)) (piece_app (segRun_of (g7 w os)) (piece_nil (g_fin w os))))))))))
theorem g_size (w : World) : ((boot_heap w.params).isNs mainGlobals && (⟨[]⟩ : Array GenState).size == 0, (boot_heap w.params).objs.size, (boot_heap w.params).nsMap mainGlobals "__annotations__") = (true, 11, some (.ref 6)) := by
  rw [PySem.W.Fast.te8920871248978507458]; kernel_rfl

/-! ### what is seen of it -/
noncomputable def kept (b : List Stmt) : List Stmt := (b.drop 1).take 2 ++ ((b.drop 4).take 15 ++ ((b.drop 20).take 4 ++ ((b.drop 25).take 4 ++ ((b.drop 30).take 2 ++ ((b.drop 33).take 5 ++ b.drop 39)))))
noncomputable def view : Program := { Pw with main := { Pw.main with body := kept Pw.main.body } }
noncomputable def loose0 : List Str := ["PostError", "vanished_since", "resync"]
theorem kAs_eq (P : Params) : kAs = (heapK P).map (·.1) := by kernel_rfl
noncomputable abbrev HK : Hook := kHook heapK kAs kAs_eq
noncomputable abbrev xt : Shared → Bool := fun s => xlAt view [] s && recOk (RowW.records PySem.Challenge.rw_pq0971_01.row.toRowW) s
noncomputable abbrev sEnd (w : World) (os : OsState) : Shared := ⟨hp390 w.params, ⟨[]⟩, {}, 651, os⟩
theorem l_stat (w : World) (os : OsState) : (staticsOk (importedModules Pw.main.body) (boot_heap w.params) (hp390 w.params) && namesBound Pw (hp390 w.params) && gensDone (sEnd w os) && laidKept (boot_heap w.params) (hp390 w.params)) = true := by
  rw [PySem.W.Fast.te5923862056798008813]; kernel_rfl
theorem l_seen (w : World) (os : OsState) : openSeen view loose0 (importedModules Pw.main.body) xt true (sEnd w os) = openGood view loose0 := by
  rw [PySem.W.Fast.te4187177175401517315, PySem.W.Fast.te5923862056798008813]; kernel_rfl
theorem l_obs (w : World) (os : OsState) : HK.obs (sEnd w os) = HK.val w := by
  show kAs.map (hp390 w.params).get? = (heapK w.params).map fun p => some p.2
  kernel_rfl
theorem g_left : LeftO Pw view loose0 xt HK.obs HK.val 4478 :=
  LeftO.of_pieces (boot_open (by kernel_rfl) (by decide) fun s => rfl) g_size g_run (by decide) fun w => funext fun os => looks_pair (l_stat w os) (looks_pair (l_seen w os) (l_obs w os))
theorem g_said : PySem.Challenge.rw_pq0971_01.wellSaid = true := by
  rw [PySem.W.Fast.te9446332074065402090]; kernel_rfl
set_option maxHeartbeats 200000

/-- values as trees; a pointer stands for an object that may change -/
inductive Tree where
  | none
  | bool (b : Bool)
  | int (i : Int)
  | str (s : Str)
  | bytes (b : Array UInt8)
  | tup (ts : List Tree)
  | lst (ts : List Tree)
  | dct (es : List (Int × Tree))
  | letter (u o f i q : Tree)
  | ptr (a : Addr)
  | blt (id : String)
  | typ (id : String)

inductive MObj where
  | lst (ts : List Tree)
  | dct (es : List (Int × Tree))
  | sdct (es : List (Str × Tree))
  | attrs (es : List (Str × Tree))
  | inst (C dx : Addr)

noncomputable abbrev Reg := Addr → Option Obj
noncomputable abbrev Mem := Addr → Option MObj

noncomputable abbrev tupObj (vs : List Value) (n : Nat) : Obj := { cls := .type "tuple", data := .seq vs.toArray n }
noncomputable abbrev lstObj (vs : List Value) (n : Nat) : Obj := { cls := .type "list", data := .seq vs.toArray n }

noncomputable abbrev LetterC : Addr := 113
noncomputable abbrev BoxC : Addr := 151

/-- the fixed things of a run -/
structure GS where
  prog : Program
  w : World
  h₁ : Heap
  os : OsState

noncomputable def ent (w : World) (n : Str) (t : Tok) (v : Value) : DictEntry := ⟨PyData.keyHash w.params n, .str n t, v⟩

mutual
noncomputable def IsT (G : GS) (Z : Reg) : Tree → Value → Prop
  | .none, v => v = .none
  | .bool b, v => v = .bool b
  | .int i, v => ∃ t, v = .int i t
  | .str s, v => ∃ t, v = .str s t
  | .bytes b, v => ∃ t, v = .bytes b t
  | .tup ts, v => ∃ a o vs n, v = .ref a ∧ Z a = some o ∧ o.cls = .type "tuple" ∧ o.data = .seq vs.toArray n ∧ AreT G Z ts vs
  | .lst ts, v => ∃ a vs n, v = .ref a ∧ Z a = some (lstObj vs n) ∧ AreT G Z ts vs
  | .dct es, v => ∃ a o kvs, v = .ref a ∧ Z a = some o ∧ o.IsDictOf (intKind G.prog G.w) kvs ∧ (a == sysModules) = false ∧ PairsT G Z es kvs
  | .letter u o f i q, v => ∃ a dx n t₁ t₂ t₃ t₄ t₅ vu vo vf vi vq, v = .ref a ∧ Z a = some (instObj LetterC dx) ∧
      Z dx = some (dictOf [ent G.w "uid" t₁ vu, ent G.w "octets" t₂ vo, ent G.w "flags" t₃ vf, ent G.w "instant" t₄ vi, ent G.w "modseq" t₅ vq] n) ∧
      IsT G Z u vu ∧ IsT G Z o vo ∧ IsT G Z f vf ∧ IsT G Z i vi ∧ IsT G Z q vq
  | .ptr a, v => v = .ref a
  | .blt i, v => v = .builtin i
  | .typ i, v => v = .type i
noncomputable def AreT (G : GS) (Z : Reg) : List Tree → List Value → Prop
  | [], vs => vs = []
  | t :: ts, vs => ∃ v r, vs = v :: r ∧ IsT G Z t v ∧ AreT G Z ts r
noncomputable def PairsT (G : GS) (Z : Reg) : List (Int × Tree) → List (Int × Value) → Prop
  | [], ds => ds = []
  | (k, t) :: es, ds => ∃ v r, ds = (k, v) :: r ∧ IsT G Z t v ∧ PairsT G Z es r
end

noncomputable def NamedT (G : GS) (Z : Reg) : List (Str × Tree) → List (Str × Value) → Prop
  | [], ds => ds = []
  | (k, t) :: es, ds => ∃ v r, ds = (k, v) :: r ∧ IsT G Z t v ∧ NamedT G Z es r
noncomputable def AttrsT (G : GS) (Z : Reg) : List (Str × Tree) → List DictEntry → Prop
  | [], ds => ds = []
  | (k, t) :: es, ds => ∃ v tk r, ds = ent G.w k tk v :: r ∧ IsT G Z t v ∧ AttrsT G Z es r

noncomputable def Sub (Z Z' : Reg) : Prop := ∀ a o, Z a = some o → Z' a = some o
theorem Sub.refl (Z : Reg) : Sub Z Z := fun _ _ e => e
theorem Sub.trans {Z Z' Z'' : Reg} (x : Sub Z Z') (y : Sub Z' Z'') : Sub Z Z'' := fun a o e => y a o (x a o e)

mutual
theorem IsT.mono {G : GS} {Z Z' : Reg} (h : Sub Z Z') : ∀ (t : Tree) (v : Value), IsT G Z t v → IsT G Z' t v
  | .none, v => by simp only [IsT]; exact id
  | .bool b, v => by simp only [IsT]; exact id
  | .int i, v => by simp only [IsT]; exact id
  | .str i, v => by simp only [IsT]; exact id
  | .bytes i, v => by simp only [IsT]; exact id
  | .ptr i, v => by simp only [IsT]; exact id
  | .blt i, v => by simp only [IsT]; exact id
  | .typ i, v => by simp only [IsT]; exact id
  | .tup ts, v => by
    simp only [IsT]
    exact fun ⟨a, o, vs, n, e, z, z1, z2, x⟩ => ⟨a, o, vs, n, e, h _ _ z, z1, z2, AreT.mono h ts vs x⟩
  | .lst ts, v => by
    simp only [IsT]
    exact fun ⟨a, vs, n, e, z, x⟩ => ⟨a, vs, n, e, h _ _ z, AreT.mono h ts vs x⟩
  | .dct es, v => by
    simp only [IsT]
    exact fun ⟨a, o, kvs, e, z, q, d, x⟩ => ⟨a, o, kvs, e, h _ _ z, q, d, PairsT.mono h es kvs x⟩
  | .letter u o f i q, v => by
    simp only [IsT]
    rintro ⟨a, dx, n, t₁, t₂, t₃, t₄, t₅, vu, vo, vf, vi, vq, e, z, y, x1, x2, x3, x4, x5⟩
    exact ⟨a, dx, n, t₁, t₂, t₃, t₄, t₅, vu, vo, vf, vi, vq, e, h _ _ z, h _ _ y, IsT.mono h _ _ x1, IsT.mono h _ _ x2, IsT.mono h _ _ x3, IsT.mono h _ _ x4, IsT.mono h _ _ x5⟩
theorem AreT.mono {G : GS} {Z Z' : Reg} (h : Sub Z Z') : ∀ (ts : List Tree) (vs : List Value), AreT G Z ts vs → AreT G Z' ts vs
  | [], vs => by simp only [AreT]; exact id
  | t :: ts, vs => by
    simp only [AreT]
    exact fun ⟨v, r, e, x, y⟩ => ⟨v, r, e, IsT.mono h t v x, AreT.mono h ts r y⟩
theorem PairsT.mono {G : GS} {Z Z' : Reg} (h : Sub Z Z') : ∀ (es : List (Int × Tree)) (ds : List (Int × Value)), PairsT G Z es ds → PairsT G Z' es ds
  | [], ds => by simp only [PairsT]; exact id
  | (k, t) :: es, ds => by
    simp only [PairsT]
    exact fun ⟨v, r, e, x, y⟩ => ⟨v, r, e, IsT.mono h t v x, PairsT.mono h es r y⟩
end
theorem NamedT.mono {G : GS} {Z Z' : Reg} (h : Sub Z Z') : ∀ (es : List (Str × Tree)) (ds : List (Str × Value)), NamedT G Z es ds → NamedT G Z' es ds
  | [], ds => id
  | (k, t) :: es, ds => fun ⟨v, r, e, x, y⟩ => ⟨v, r, e, IsT.mono h t v x, NamedT.mono h es r y⟩
theorem AttrsT.mono {G : GS} {Z Z' : Reg} (h : Sub Z Z') : ∀ (es : List (Str × Tree)) (ds : List DictEntry), AttrsT G Z es ds → AttrsT G Z' es ds
  | [], ds => id
  | (k, t) :: es, ds => fun ⟨v, tk, r, e, x, y⟩ => ⟨v, tk, r, e, IsT.mono h t v x, AttrsT.mono h es r y⟩

noncomputable def MIs (G : GS) (Z : Reg) (h : Heap) (a : Addr) : MObj → Prop
  | .lst ts => ∃ vs n, h.get? a = some (lstObj vs n) ∧ AreT G Z ts vs
  | .dct es => ∃ kvs, h.DictOf (intKind G.prog G.w) a kvs ∧ (a == sysModules) = false ∧ PairsT G Z es kvs
  | .sdct es => ∃ kvs, h.DictOf (strKind G.prog G.w) a kvs ∧ (a == sysModules) = false ∧ NamedT G Z es kvs
  | .attrs es => ∃ ds n, h.get? a = some (dictOf ds n) ∧ AttrsT G Z es ds
  | .inst C dx => h.get? a = some (instObj C dx)

theorem MIs.mono {G : GS} {Z Z' : Reg} {h h' : Heap} {a : Addr} {mo : MObj} (hz : Sub Z Z') (hk : ∀ o, h.get? a = some o → h'.get? a = some o) (x : MIs G Z h a mo) : MIs G Z' h' a mo := by
  cases mo with
  | lst ts => exact let ⟨vs, n, e, y⟩ := x; ⟨vs, n, hk _ e, AreT.mono hz _ _ y⟩
  | dct es => exact let ⟨kvs, ⟨o, e1, ep, e2, e3⟩, d, y⟩ := x; ⟨kvs, ⟨o, e1, ep, hk _ e2, e3⟩, d, PairsT.mono hz _ _ y⟩
  | sdct es => exact let ⟨kvs, ⟨o, e1, ep, e2, e3⟩, d, y⟩ := x; ⟨kvs, ⟨o, e1, ep, hk _ e2, e3⟩, d, NamedT.mono hz _ _ y⟩
  | attrs es => exact let ⟨ds, n, e, y⟩ := x; ⟨ds, n, hk _ e, AttrsT.mono hz _ _ y⟩
  | inst C dx => exact hk _ x

/-- what is known of the top -/
structure Top1 (w : World) (h₁ : Heap) : Prop where
  k : (heapK w.params).In h₁
  b : ∃ mb, h₁.Ns builtinsNs mb ∧ ∀ x : Str, x ≠ "__name__" → mb x = bootBuiltins x
  nolimit : h₁.NoLimit

/-- the state but for the frame -/
structure RepM (G : GS) (B Z : Reg) (μ : Mem) (s : Shared) : Prop where
  top : Top1 G.w G.h₁
  kH : ∀ a o, G.h₁.get? a = some o → B a = some o
  kB : ∀ a o, B a = some o → s.heap.get? a = some o
  kZ : ∀ a o, Z a = some o → s.heap.get? a = some o
  mem : ∀ a mo, μ a = some mo → MIs G Z s.heap a mo ∧ B a = none ∧ Z a = none
  gens : s.gens = #[]
  os : s.os = G.os

/-- Z grows outside of B -/
noncomputable def Grow (B Z Z' : Reg) : Prop := Sub Z Z' ∧ ∀ a, Z' a ≠ none → Z a ≠ none ∨ B a = none
theorem Grow.refl (B Z : Reg) : Grow B Z Z := ⟨Sub.refl Z, fun _ h => .inl h⟩
theorem Grow.trans {B Z Z' Z'' : Reg} (x : Grow B Z Z') (y : Grow B Z' Z'') : Grow B Z Z'' :=
  ⟨x.1.trans y.1, fun a h => (y.2 a h).elim (x.2 a) .inr⟩

structure St where
  ρ : Str → Option Tree
  μ : Mem

structure Cx where
  G : GS
  A : Around
  env : Env
  own : Bool

noncomputable def valOf (env : Env) (m cm : Str → Option Value) (x : Str) : Option Value := match env.kindOf x with
  | some .local => m x
  | some .cell => if (env.cells.lookup x).isSome then cm x else none
  | _ => none

structure Vars (c : Cx) (B Z : Reg) (μ : Mem) (h : Heap) (m cm : Str → Option Value) : Prop where
  ns : h.Ns c.env.locals m
  cell : ∀ n a, (n, a) ∈ c.env.cells → h.IsCell a (cm n)
  names : (c.env.cells.map (·.1)).Nodup
  apart : c.env.cells.Pairwise fun x y => x.2 ≠ y.2
  ne : ∀ n a, (n, a) ∈ c.env.cells → a ≠ c.env.locals
  lB : B c.env.locals = none
  lZ : Z c.env.locals = none
  lμ : μ c.env.locals = none
  cB : c.own = true → ∀ n a, (n, a) ∈ c.env.cells → B a = none
  cZ : ∀ n a, (n, a) ∈ c.env.cells → Z a = none
  cμ : ∀ n a, (n, a) ∈ c.env.cells → μ a = none
  kind : c.env.scope.kind = .function
  glob : c.env.globals = mainGlobals
  blt : c.env.builtins = builtinsNs

noncomputable def Knows (c : Cx) (Z : Reg) (ρ : Str → Option Tree) (m cm : Str → Option Value) : Prop :=
  ∀ x t, ρ x = some t → ∃ v, valOf c.env m cm x = some v ∧ IsT c.G Z t v

noncomputable def Rep (c : Cx) (B Z : Reg) (σ : St) (s : Shared) : Prop :=
  RepM c.G B Z σ.μ s ∧ ∃ m cm, Vars c B Z σ.μ s.heap m cm ∧ Knows c Z σ.ρ m cm

noncomputable def Post {α β : Type} (c : Cx) (B Z : Reg) (R : GS → Reg → β → α → Prop) (Ψ : β → St → Prop) (a : α) (s : Shared) : Prop :=
  ∃ Z' b σ', Grow B Z Z' ∧ Rep c B Z' σ' s ∧ R c.G Z' b a ∧ Ψ b σ'

/-- a tree of the machine from a state on, with what holds behind it -/
noncomputable def WV {α β : Type} (c : Cx) (R : GS → Reg → β → α → Prop) (t : Sem α) (σ : St) (Ψ : β → St → Prop) : Prop :=
  ∀ B Z s, Rep c B Z σ s → wpAny (model c.G.prog c.G.w) c.A t (Post c B Z R Ψ) (fun _ _ => False) s

inductive FlT where
  | next | brk | cont
  | ret (t : Tree)

noncomputable def IsFl (G : GS) (Z : Reg) : FlT → Flow → Prop
  | .next, f => f = .next
  | .brk, f => f = .brk
  | .cont, f => f = .cont
  | .ret t, f => ∃ v, f = .ret v ∧ IsT G Z t v

structure EV (c : Cx) (e : Expr) (σ : St) (Ψ : Tree → St → Prop) : Prop where
  intro ::
  go : WV c IsT (eval e c.env) σ Ψ
noncomputable def IsB (_ : GS) (_ : Reg) (b a : Bool) : Prop := a = b
theorem isB {G : GS} {Z : Reg} {b : Bool} : IsB G Z b b := rfl
theorem isNext {G : GS} {Z : Reg} : IsFl G Z .next .next := rfl
theorem isBrk {G : GS} {Z : Reg} : IsFl G Z .brk .brk := rfl
theorem isCont {G : GS} {Z : Reg} : IsFl G Z .cont .cont := rfl
theorem isRet {G : GS} {Z : Reg} {t : Tree} {v : Value} (i : IsT G Z t v) : IsFl G Z (.ret t) (.ret v) := ⟨v, rfl, i⟩
structure TV (c : Cx) (e : Expr) (σ : St) (Ψ : Bool → St → Prop) : Prop where
  intro ::
  go : WV c IsB (isTrue e c.env (eval e c.env)) σ Ψ
structure SV (c : Cx) (ss : List Stmt) (σ : St) (Φ : FlT → St → Prop) : Prop where
  intro ::
  go : WV c IsFl (execs ss c.env) σ Φ
structure XV (c : Cx) (st : Stmt) (σ : St) (Φ : FlT → St → Prop) : Prop where
  intro ::
  go : WV c IsFl (exec st c.env) σ Φ
structure LV (c : Cx) (pos : Pos) (es : List Expr) (σ : St) (Ψ : List Tree → St → Prop) : Prop where
  intro ::
  go : WV c AreT (spliced (backTo pos (starEach es c.env))) σ Ψ

noncomputable def Room (n : Nat) (A : Around) : Prop := A.handled = none ∧ A.depth + 20 * n ≤ 900 ∧ A.units + 100 * n ≤ 9000

/-- there is one, told in one breath -/
inductive Ex1 {α : Type} (P F : α → Prop) : Prop
  | mk (a : α) (h : P a) (f : F a)
inductive Ints (t u : Tree) (F : Int → Int → Prop) : Prop
  | mk (a b : Int) (h₁ : t = .int a) (h₂ : u = .int b) (f : F a b)
inductive Tup2 (t : Tree) (F : Tree → Tree → Prop) : Prop
  | mk (a b : Tree) (e : t = .tup [a, b]) (f : F a b)
inductive Arg1 {β : Type} (ts : List Tree) (P : Tree → β → Prop) (F : β → Prop) : Prop
  | mk (t : Tree) (u : β) (e : ts = [t]) (h : P t u) (f : F u)

/-- a def's contract -/
noncomputable def FN (G : GS) (n : Nat) (f : Addr) (ts : List Tree) (μ : Mem) (Φ : Tree → Mem → Prop) : Prop :=
  ∀ A B Z s vs, Room n A → RepM G B Z μ s → AreT G Z ts vs →
    codeAny (model G.prog G.w) A (.call (.ref f) ⟨vs, []⟩) (fun r s' => ∃ v Z' t μ', r = .ok (.ret v) ∧ Grow B Z Z' ∧ RepM G B Z' μ' s' ∧ IsT G Z' t v ∧ Φ t μ') s

/-! ### what is still to be done, by name -/
noncomputable abbrev kF {α : Type} (Ψ : α → St → Prop) (σ : St) (u : α) : Prop := Ψ u σ
noncomputable abbrev kEq {α : Type} (f : α → Tree) (t : Tree) (a : α) : Prop := t = f a
noncomputable abbrev kIs {α : Type} (v : α) (σ : St) (u : α) (σ' : St) : Prop := u = v ∧ σ' = σ
noncomputable abbrev kTwo (c : Cx) (r : Expr) (K : Tree → Tree → St → Prop) (t : Tree) (σ : St) : Prop := EV c r σ (K t)
noncomputable abbrev kNext (Φ : FlT → St → Prop) (σ : St) : Prop := Φ .next σ
noncomputable abbrev kTrue (_ : Mem) : Prop := True


theorem Post.mk {α β : Type} {c : Cx} {B Z Z' : Reg} {R : GS → Reg → β → α → Prop} {Ψ : β → St → Prop} {a : α} {b : β} {σ : St} {s : Shared}
    (g : Grow B Z Z') (r : Rep c B Z' σ s) (i : R c.G Z' b a) (p : Ψ b σ) : Post c B Z R Ψ a s := ⟨Z', b, σ, g, r, i, p⟩
theorem Post.grow {α β : Type} {c : Cx} {B Z Z₁ : Reg} {R : GS → Reg → β → α → Prop} {Ψ : β → St → Prop} {a : α} {s : Shared}
    (g : Grow B Z Z₁) (x : Post c B Z₁ R Ψ a s) : Post c B Z R Ψ a s := let ⟨Z', b, σ', g', r⟩ := x; ⟨Z', b, σ', g.trans g', r⟩

theorem WV.run {α β : Type} {c : Cx} {R : GS → Reg → β → α → Prop} {t : Sem α} {σ : St} {Ψ : β → St → Prop} {B Z : Reg} {s : Shared}
    (h : WV c R t σ Ψ) (r : Rep c B Z σ s) {Q : α → Shared → Prop} (k : ∀ a s', Post c B Z R Ψ a s' → Q a s') : wpAny (model c.G.prog c.G.w) c.A t Q (fun _ _ => False) s :=
  wpAny_mono (h B Z s r) k fun _ _ x => x

theorem WV.mono {α β : Type} {c : Cx} {R : GS → Reg → β → α → Prop} {t : Sem α} {σ : St} {Ψ Ψ' : β → St → Prop}
    (h : WV c R t σ Ψ) (k : ∀ b σ', Ψ b σ' → Ψ' b σ') : WV c R t σ Ψ' := fun B Z s r =>
  h.run r fun a s' hpq => by obtain ⟨Z', b, σ', g, r', i, p⟩ := hpq; exact ⟨Z', b, σ', g, r', i, k _ _ p⟩

section
variable {c : Cx} {σ : St} {B Z : Reg} {s : Shared}
theorem EV.run {e : Expr} {Ψ : Tree → St → Prop} (h : EV c e σ Ψ) (r : Rep c B Z σ s) {Q : Value → Shared → Prop} (k : ∀ a s', Post c B Z IsT Ψ a s' → Q a s') : wpAny (model c.G.prog c.G.w) c.A (eval e c.env) Q (fun _ _ => False) s := h.go.run r k
theorem TV.run {e : Expr} {Ψ : Bool → St → Prop} (h : TV c e σ Ψ) (r : Rep c B Z σ s) {Q : Bool → Shared → Prop} (k : ∀ a s', Post c B Z IsB Ψ a s' → Q a s') : wpAny (model c.G.prog c.G.w) c.A (isTrue e c.env (eval e c.env)) Q (fun _ _ => False) s := h.go.run r k
theorem SV.run {ss : List Stmt} {Ψ : FlT → St → Prop} (h : SV c ss σ Ψ) (r : Rep c B Z σ s) {Q : Flow → Shared → Prop} (k : ∀ a s', Post c B Z IsFl Ψ a s' → Q a s') : wpAny (model c.G.prog c.G.w) c.A (execs ss c.env) Q (fun _ _ => False) s := h.go.run r k
theorem XV.run {st : Stmt} {Ψ : FlT → St → Prop} (h : XV c st σ Ψ) (r : Rep c B Z σ s) {Q : Flow → Shared → Prop} (k : ∀ a s', Post c B Z IsFl Ψ a s' → Q a s') : wpAny (model c.G.prog c.G.w) c.A (exec st c.env) Q (fun _ _ => False) s := h.go.run r k
theorem LV.run {pos : Pos} {es : List Expr} {Ψ : List Tree → St → Prop} (h : LV c pos es σ Ψ) (r : Rep c B Z σ s) {Q : List Value → Shared → Prop} (k : ∀ a s', Post c B Z AreT Ψ a s' → Q a s') : wpAny (model c.G.prog c.G.w) c.A (spliced (backTo pos (starEach es c.env))) Q (fun _ _ => False) s := h.go.run r k
theorem Post.elim {α β : Type} {R : GS → Reg → β → α → Prop} {Ψ : β → St → Prop} {a : α} {P : Prop} (h : Post c B Z R Ψ a s) (k : ∀ Z' b σ', Grow B Z Z' → Rep c B Z' σ' s → R c.G Z' b a → Ψ b σ' → P) : P := by
  obtain ⟨Z', b, σ', g, r, i, p⟩ := h
  exact k Z' b σ' g r i p
theorem EV.run' {e : Expr} {Ψ : Tree → St → Prop} (h : EV c e σ Ψ) (r : Rep c B Z σ s) {Q : Value → Shared → Prop} (k : ∀ a s' Z' b σ', Grow B Z Z' → Rep c B Z' σ' s' → IsT c.G Z' b a → Ψ b σ' → Q a s') : wpAny (model c.G.prog c.G.w) c.A (eval e c.env) Q (fun _ _ => False) s := h.run r fun a s' q => q.elim (k a s')
theorem TV.run' {e : Expr} {Ψ : Bool → St → Prop} (h : TV c e σ Ψ) (r : Rep c B Z σ s) {Q : Bool → Shared → Prop} (k : ∀ a s' Z' b σ', Grow B Z Z' → Rep c B Z' σ' s' → IsB c.G Z' b a → Ψ b σ' → Q a s') : wpAny (model c.G.prog c.G.w) c.A (isTrue e c.env (eval e c.env)) Q (fun _ _ => False) s := h.run r fun a s' q => q.elim (k a s')
theorem SV.run' {ss : List Stmt} {Ψ : FlT → St → Prop} (h : SV c ss σ Ψ) (r : Rep c B Z σ s) {Q : Flow → Shared → Prop} (k : ∀ a s' Z' b σ', Grow B Z Z' → Rep c B Z' σ' s' → IsFl c.G Z' b a → Ψ b σ' → Q a s') : wpAny (model c.G.prog c.G.w) c.A (execs ss c.env) Q (fun _ _ => False) s := h.run r fun a s' q => q.elim (k a s')
theorem XV.run' {st : Stmt} {Ψ : FlT → St → Prop} (h : XV c st σ Ψ) (r : Rep c B Z σ s) {Q : Flow → Shared → Prop} (k : ∀ a s' Z' b σ', Grow B Z Z' → Rep c B Z' σ' s' → IsFl c.G Z' b a → Ψ b σ' → Q a s') : wpAny (model c.G.prog c.G.w) c.A (exec st c.env) Q (fun _ _ => False) s := h.run r fun a s' q => q.elim (k a s')
theorem LV.run' {pos : Pos} {es : List Expr} {Ψ : List Tree → St → Prop} (h : LV c pos es σ Ψ) (r : Rep c B Z σ s) {Q : List Value → Shared → Prop} (k : ∀ a s' Z' b σ', Grow B Z Z' → Rep c B Z' σ' s' → AreT c.G Z' b a → Ψ b σ' → Q a s') : wpAny (model c.G.prog c.G.w) c.A (spliced (backTo pos (starEach es c.env))) Q (fun _ _ => False) s := h.run r fun a s' q => q.elim (k a s')
theorem WV.run' {α β : Type} {R : GS → Reg → β → α → Prop} {t : Sem α} {Ψ : β → St → Prop} (h : WV c R t σ Ψ) (r : Rep c B Z σ s) {Q : α → Shared → Prop} (k : ∀ a s' Z' b σ', Grow B Z Z' → Rep c B Z' σ' s' → R c.G Z' b a → Ψ b σ' → Q a s') : wpAny (model c.G.prog c.G.w) c.A t Q (fun _ _ => False) s := h.run r fun a s' q => q.elim (k a s')
theorem EV.mono {e : Expr} {Ψ Ψ' : Tree → St → Prop} (h : EV c e σ Ψ) (k : ∀ b σ', Ψ b σ' → Ψ' b σ') : EV c e σ Ψ' := .intro (h.go.mono k)
theorem TV.mono {e : Expr} {Ψ Ψ' : Bool → St → Prop} (h : TV c e σ Ψ) (k : ∀ b σ', Ψ b σ' → Ψ' b σ') : TV c e σ Ψ' := .intro (h.go.mono k)
theorem SV.mono {ss : List Stmt} {Ψ Ψ' : FlT → St → Prop} (h : SV c ss σ Ψ) (k : ∀ b σ', Ψ b σ' → Ψ' b σ') : SV c ss σ Ψ' := .intro (h.go.mono k)
theorem XV.mono {st : Stmt} {Ψ Ψ' : FlT → St → Prop} (h : XV c st σ Ψ) (k : ∀ b σ', Ψ b σ' → Ψ' b σ') : XV c st σ Ψ' := .intro (h.go.mono k)
theorem LV.mono {pos : Pos} {es : List Expr} {Ψ Ψ' : List Tree → St → Prop} (h : LV c pos es σ Ψ) (k : ∀ b σ', Ψ b σ' → Ψ' b σ') : LV c pos es σ Ψ' := .intro (h.go.mono k)
end

/-- a token more is nothing -/
theorem RepM.toks {G : GS} {B Z : Reg} {μ : Mem} {s : Shared} (r : RepM G B Z μ s) (n : Nat) : RepM G B Z μ { s with toks := n } :=
  ⟨r.top, r.kH, r.kB, r.kZ, r.mem, r.gens, r.os⟩
theorem Rep.toks {c : Cx} {B Z : Reg} {σ : St} {s : Shared} (r : Rep c B Z σ s) (n : Nat) : Rep c B Z σ { s with toks := n } :=
  ⟨r.1.toks n, let ⟨m, cm, V, K⟩ := r.2; ⟨m, cm, V, K⟩⟩

theorem Post.here {α β : Type} {c : Cx} {B Z : Reg} {R : GS → Reg → β → α → Prop} {Ψ : β → St → Prop} {a : α} {b : β} {σ : St} {s : Shared}
    (r : Rep c B Z σ s) (i : R c.G Z b a) (p : Ψ b σ) : Post c B Z R Ψ a s := ⟨Z, b, σ, .refl B Z, r, i, p⟩

section
variable {c : Cx} {σ : St} {Ψ : Tree → St → Prop} {Φ : FlT → St → Prop}

/-! ### Constants, names -/
theorem EV.int {i : Int} {k pos} (h : Ψ (.int i) σ) : EV c (.Constant (.int i) k pos) σ Ψ := .intro fun B Z s r =>
  wpAny_Constant_int (.here (r.toks _) (by simp only [IsT]; exact ⟨_, rfl⟩) h)
theorem EV.str {x : Str} {k pos} (h : Ψ (.str x) σ) : EV c (.Constant (.str x) k pos) σ Ψ := .intro fun B Z s r =>
  wpAny_Constant_str (.here (r.toks _) (by simp only [IsT]; exact ⟨_, rfl⟩) h)
theorem EV.none {k pos} (h : Ψ .none σ) : EV c (.Constant .none k pos) σ Ψ := .intro fun B Z s r =>
  wpAny_Constant_none (.here r (by simp only [IsT]) h)
theorem EV.bool {b : Bool} {k pos} (h : Ψ (.bool b) σ) : EV c (.Constant (.bool b) k pos) σ Ψ := .intro fun B Z s r =>
  wpAny_Constant_bool (.here r (by simp only [IsT]) h)
theorem EV.bytes {b : List UInt8} {k pos} (h : Ψ (.bytes b.toArray) σ) : EV c (.Constant (.bytes b) k pos) σ Ψ := .intro fun B Z s r => by
  show wpAny _ _ (mkTextBytes b.toArray) _ _ s
  exact fun Γ p hΓ => (Post.here (R := IsT) (Ψ := Ψ) (r.toks _) (by simp only [IsT]; exact ⟨_, rfl⟩) h)

theorem loadVar {x : Str} {t : Tree} {B Z : Reg} {s : Shared} {Q : Value → Shared → Prop} (hx : σ.ρ x = some t) (r : Rep c B Z σ s)
    (k : ∀ v, IsT c.G Z t v → Q v s) : wpAny (model c.G.prog c.G.w) c.A (loadName c.env x) Q (fun _ _ => False) s := by
  obtain ⟨r1, m, cm, V, K⟩ := r
  obtain ⟨v, e, i⟩ := K x t hx
  unfold valOf at e
  split at e
  · rename_i hl
    exact wpAny_loadName_local V.kind hl V.ns e (k v i)
  · rename_i hl
    split at e
    · rename_i hs
      obtain ⟨a, ha⟩ := Option.isSome_iff_exists.mp hs
      exact wpAny_loadName_cell V.kind hl ha (e ▸ V.cell x a (mem_of_lookup ha)) (k v i)
    · cases e
  · cases e

theorem EV.var {x : Str} {pos} {t : Tree} (hx : σ.ρ x = some t) (h : Ψ t σ) (hd : (x == ("__debug__" : Str)) = false := by decide +kernel) : EV c (.Name x pos) σ Ψ := .intro fun B Z s r =>
  wpAny_Name (loadVar hx r fun v i => .here r i h) hd

/-! ### Ints -/
theorem EV.binop {l r : Expr} {op pos} (h : EV c l σ fun t₁ σ₁ => EV c r σ₁ fun t₂ σ₂ => ∃ u,
      (∀ A G Z v₁ v₂ s (Q : Value → Shared → Prop), IsT G Z t₁ v₁ → IsT G Z t₂ v₂ → (∀ v tk, IsT G Z u v → Q v { s with toks := tk }) → wpAny (model G.prog G.w) A (binaryOp op v₁ v₂) Q (fun _ _ => False) s) ∧ Ψ u σ₂) :
    EV c (.BinOp l op r pos) σ Ψ := .intro fun B Z s rp =>
  wpAny_BinOp (h.run' rp fun v₁ s₁ Z₁ t₁ σ₁ g₁ r₁ i₁ k₁ => k₁.run' r₁ fun v₂ s₂ Z₂ t₂ σ₂ g₂ r₂ i₂ ⟨u, k₂, p⟩ =>
    k₂ _ _ Z₂ _ _ _ _ (IsT.mono g₂.1 _ _ i₁) i₂ fun v tk i => .mk (g₁.trans g₂) (r₂.toks _) i p)

theorem isInt {G : GS} {Z : Reg} {i : Int} {v : Value} : IsT G Z (.int i) v ↔ ∃ t, v = .int i t := by simp only [IsT]

noncomputable abbrev kAddF (Ψ : Tree → St → Prop) (σ : St) (a b : Int) : Prop := Ψ (.int (a + b)) σ
noncomputable abbrev kAdd (Ψ : Tree → St → Prop) (t₁ t₂ : Tree) (σ : St) : Prop := Ints t₁ t₂ (kAddF Ψ σ)
theorem EV.add {l r : Expr} {pos} (h : EV c l σ (kTwo c r (kAdd Ψ))) : EV c (.BinOp l .Add r pos) σ Ψ :=
  EV.binop (h.mono fun t₁ σ₁ k => k.mono fun t₂ σ₂ ⟨a, b, e₁, e₂, p⟩ => ⟨_, fun A G Z v₁ v₂ s Q i₁ i₂ q => by
    subst e₁ e₂
    obtain ⟨t, rfl⟩ := isInt.mp i₁
    obtain ⟨u, rfl⟩ := isInt.mp i₂
    exact add_int (q _ _ (isInt.mpr ⟨_, rfl⟩)), p⟩)
noncomputable abbrev kSubF (Ψ : Tree → St → Prop) (σ : St) (a b : Int) : Prop := Ψ (.int (a - b)) σ
noncomputable abbrev kSub (Ψ : Tree → St → Prop) (t₁ t₂ : Tree) (σ : St) : Prop := Ints t₁ t₂ (kSubF Ψ σ)
theorem EV.sub {l r : Expr} {pos} (h : EV c l σ (kTwo c r (kSub Ψ))) : EV c (.BinOp l .Sub r pos) σ Ψ :=
  EV.binop (h.mono fun t₁ σ₁ k => k.mono fun t₂ σ₂ ⟨a, b, e₁, e₂, p⟩ => ⟨_, fun A G Z v₁ v₂ s Q i₁ i₂ q => by
    subst e₁ e₂
    obtain ⟨t, rfl⟩ := isInt.mp i₁
    obtain ⟨u, rfl⟩ := isInt.mp i₂
    exact sub_int (q _ _ (isInt.mpr ⟨_, rfl⟩)), p⟩)
noncomputable abbrev kModF (Ψ : Tree → St → Prop) (σ : St) (a b : Int) : Prop := b ≠ 0 ∧ Ψ (.int (a.fmod b)) σ
noncomputable abbrev kMod (Ψ : Tree → St → Prop) (t₁ t₂ : Tree) (σ : St) : Prop := Ints t₁ t₂ (kModF Ψ σ)
theorem EV.mod {l r : Expr} {pos} (h : EV c l σ (kTwo c r (kMod Ψ))) : EV c (.BinOp l .Mod r pos) σ Ψ :=
  EV.binop (h.mono fun t₁ σ₁ k => k.mono fun t₂ σ₂ ⟨a, b, e₁, e₂, hb, p⟩ => ⟨_, fun A G Z v₁ v₂ s Q i₁ i₂ q => by
    subst e₁ e₂
    obtain ⟨t, rfl⟩ := isInt.mp i₁
    obtain ⟨u, rfl⟩ := isInt.mp i₂
    exact mod_int hb (q _ _ (isInt.mpr ⟨_, rfl⟩)), p⟩)
noncomputable abbrev kFdivF (Ψ : Tree → St → Prop) (σ : St) (a b : Int) : Prop := 0 < b ∧ b < 1073741824 ∧ Ψ (.int (a.fdiv b)) σ
noncomputable abbrev kFdiv (Ψ : Tree → St → Prop) (t₁ t₂ : Tree) (σ : St) : Prop := Ints t₁ t₂ (kFdivF Ψ σ)
theorem EV.fdiv {l r : Expr} {pos} (h : EV c l σ (kTwo c r (kFdiv Ψ))) : EV c (.BinOp l .FloorDiv r pos) σ Ψ :=
  EV.binop (h.mono fun t₁ σ₁ k => k.mono fun t₂ σ₂ ⟨a, b, e₁, e₂, hb, hb', p⟩ => ⟨_, fun A G Z v₁ v₂ s Q i₁ i₂ q => by
    subst e₁ e₂
    obtain ⟨t, rfl⟩ := isInt.mp i₁
    obtain ⟨u, rfl⟩ := isInt.mp i₂
    exact floordiv_int (by omega) (q _ _ (isInt.mpr ⟨_, rfl⟩)) (Or.inl (PyProof.noPylong_small (by omega))), p⟩)
noncomputable abbrev kPow2 (Ψ : Tree → St → Prop) (t₁ t₂ : Tree) (σ : St) : Prop := ∃ n : Nat, t₁ = .int 2 ∧ t₂ = .int n ∧ n ≤ 50 ∧ Ψ (.int (2 ^ n)) σ
theorem EV.pow2 {l r : Expr} {pos} (h : EV c l σ (kTwo c r (kPow2 Ψ))) : EV c (.BinOp l .Pow r pos) σ Ψ :=
  EV.binop (h.mono fun t₁ σ₁ k => k.mono fun t₂ σ₂ ⟨n, e₁, e₂, hn, p⟩ => ⟨.int (2 ^ n), fun A G Z v₁ v₂ s Q i₁ i₂ q => by
    subst e₁ e₂
    obtain ⟨t, rfl⟩ := isInt.mp i₁
    obtain ⟨u, rfl⟩ := isInt.mp i₂
    exact pow_int_small (by omega) (by omega) (by decide) (q (.int (2 ^ (n : Int).toNat) s.toks) (s.toks + 1) (isInt.mpr ⟨s.toks, by simp⟩)), p⟩)
end

noncomputable def upd (ρ : Str → Option Tree) (x : Str) (t : Tree) : Str → Option Tree := fun y => if y = x then some t else ρ y
theorem upd_self {ρ : Str → Option Tree} {x : Str} {t : Tree} : upd ρ x t x = some t := if_pos rfl
theorem upd_next {ρ : Str → Option Tree} {x y : Str} {t : Tree} {r : Option Tree} (h : ρ y = r) (e : (y == x) = false) : upd ρ x t y = r := by
  unfold upd; rw [if_neg (by simpa using e)]; exact h
/-- one mutable object more, or anew -/
noncomputable def Mem.put (μ : Mem) (a : Addr) (mo : MObj) : Mem := fun b => if b = a then some mo else μ b
noncomputable def Mem.drop (μ : Mem) (a : Addr) : Mem := fun b => if b = a then none else μ b
theorem Mem.put_self {μ : Mem} {a : Addr} {mo : MObj} : μ.put a mo a = some mo := if_pos rfl
theorem Mem.put_ne {μ : Mem} {a b : Addr} {mo : MObj} (h : b ≠ a) : μ.put a mo b = μ b := if_neg h
theorem Mem.put_put {μ : Mem} {a : Addr} {mo mo' : MObj} : (μ.put a mo).put a mo' = μ.put a mo' := by
  funext b; unfold Mem.put; split <;> rfl
theorem Mem.put_same {μ : Mem} {a : Addr} {mo : MObj} (h : μ a = some mo) : μ.put a mo = μ := by
  funext b; unfold Mem.put; split
  · rename_i e; rw [e, h]
  · rfl

noncomputable def Seen (B Z : Reg) (μ : Mem) (a : Addr) : Prop := B a ≠ none ∨ Z a ≠ none ∨ μ a ≠ none

theorem RepM.heap {G : GS} {B Z : Reg} {μ : Mem} {s : Shared} {h' : Heap} {tk : Nat} (r : RepM G B Z μ s)
    (k : ∀ b o, Seen B Z μ b → s.heap.get? b = some o → h'.get? b = some o) : RepM G B Z μ { s with heap := h', toks := tk } :=
  ⟨r.top, r.kH, fun a o e => k a o (.inl (by rw [e]; exact nofun)) (r.kB a o e), fun a o e => k a o (.inr (.inl (by rw [e]; exact nofun))) (r.kZ a o e),
    fun a mo e => let ⟨x, y, z⟩ := r.mem a mo e; ⟨x.mono (Sub.refl Z) fun o q => k a o (.inr (.inr (by rw [e]; exact nofun))) q, y, z⟩, r.gens, r.os⟩

theorem Vars.seen {c : Cx} {B Z : Reg} {μ : Mem} {h h' : Heap} {m cm : Str → Option Value} (V : Vars c B Z μ h m cm) (k : ∀ b o, h.get? b = some o → h'.get? b = some o) : Vars c B Z μ h' m cm :=
  ⟨V.ns.keeps k, fun n a e => (V.cell n a e).keeps k, V.names, V.apart, V.ne, V.lB, V.lZ, V.lμ, V.cB, V.cZ, V.cμ, V.kind, V.glob, V.blt⟩

/-- a heap that keeps all -/
theorem Rep.heap {c : Cx} {B Z : Reg} {σ : St} {s : Shared} {h' : Heap} {tk : Nat} (r : Rep c B Z σ s) (k : ∀ b o, s.heap.get? b = some o → h'.get? b = some o) : Rep c B Z σ { s with heap := h', toks := tk } :=
  ⟨r.1.heap fun b o _ e => k b o e, let ⟨m, cm, V, K⟩ := r.2; ⟨m, cm, V.seen k, K⟩⟩
theorem keep_of_ext {h h' : Heap} (x : Heap.ExtBut h.objs.size h h') : ∀ b o, h.get? b = some o → h'.get? b = some o := fun b o e => x b o (Nat.ne_of_lt (Heap.lt_size e)) e

/-- may the frame store into this name -/
noncomputable def Stores (c : Cx) (x : Str) : Prop := c.env.kindOf x = some .local ∨ (c.own = true ∧ c.env.kindOf x = some .cell ∧ (c.env.cells.lookup x).isSome = true)

theorem storeVar {c : Cx} {σ : St} {x : Str} {t : Tree} {v : Value} {B Z : Reg} {s : Shared} {Q : Unit → Shared → Prop} (hx : Stores c x) (r : Rep c B Z σ s) (i : IsT c.G Z t v)
    (k : ∀ s', Rep c B Z { σ with ρ := upd σ.ρ x t } s' → Q () s') : wpAny (model c.G.prog c.G.w) c.A (storeName c.env x v) Q (fun _ _ => False) s := by
  obtain ⟨r1, m, cm, V, K⟩ := r
  have hkind : ∀ {h' m' cm'}, Vars c B Z σ.μ h' m' cm' → (valOf c.env m' cm' x = some v) → (∀ y, y ≠ x → valOf c.env m' cm' y = valOf c.env m cm y) → Knows c Z (upd σ.ρ x t) m' cm' := by
    intro h' m' cm' _ e1 e2 y u hy
    unfold upd at hy
    split at hy
    · rename_i e; subst e; cases hy; exact ⟨v, e1, i⟩
    · rename_i e; obtain ⟨w, a, b⟩ := K y u hy; exact ⟨w, (e2 y e).trans a, b⟩
  rcases hx with hl | ⟨ho, hl, hc⟩
  · refine wpAny_storeName_local hl V.ns (fun h' hn hs => k _ ⟨?_, ?_⟩) (by rw [V.kind]; rfl)
    · refine r1.heap fun b o sn e => hs.extBut b o (fun q => ?_) e
      subst q
      rcases sn with q | q | q
      · exact q V.lB
      · exact q V.lZ
      · exact q V.lμ
    · have V' : Vars c B Z σ.μ h' (fun y => if y = x then some v else m y) cm :=
        ⟨hn, fun n a e => (V.cell n a e).sameBut hs (V.ne n a e), V.names, V.apart, V.ne, V.lB, V.lZ, V.lμ, V.cB, V.cZ, V.cμ, V.kind, V.glob, V.blt⟩
      refine ⟨_, cm, V', hkind V' (by unfold valOf; rw [hl]; simp) fun y hy => by unfold valOf; simp [hy]⟩
  · obtain ⟨a, ha⟩ := Option.isSome_iff_exists.mp hc
    have hm := mem_of_lookup ha
    refine wpAny_storeName_cell V.kind hl ha (V.cell x a hm) fun h' hv hs => ?_
    have := k { s with heap := h' } ⟨?_, ?_⟩
    · exact this
    · refine r1.heap (tk := s.toks) fun b o sn e => hs.extBut b o (fun q => ?_) e
      subst q
      rcases sn with q | q | q
      · exact q (V.cB ho x _ hm)
      · exact q (V.cZ x _ hm)
      · exact q (V.cμ x _ hm)
    · have V' : Vars c B Z σ.μ h' m (fun y => if y = x then some v else cm y) := by
        refine ⟨V.ns.sameBut hs (Ne.symm (V.ne x a hm)), fun n b e => ?_, V.names, V.apart, V.ne, V.lB, V.lZ, V.lμ, V.cB, V.cZ, V.cμ, V.kind, V.glob, V.blt⟩
        by_cases hn : n = x
        · subst hn
          have := lookup_of_mem_nodup V.names e
          rw [ha] at this; cases this; simpa using hv
        · have hcc : b ≠ a := fun q => hn (name_of_addr V.apart e (q ▸ hm))
          simpa [hn] using (V.cell n b e).sameBut hs hcc
      refine ⟨m, _, V', hkind V' (by unfold valOf; rw [hl]; simp [hc]) fun y hy => by unfold valOf; simp [hy]⟩

section
variable {c : Cx} {σ : St} {Ψ : Tree → St → Prop} {Φ : FlT → St → Prop} {Θ : Bool → St → Prop}

/-! ### Comparisons and tests -/
noncomputable def CK (c : Cx) (op : CmpOp) (t₁ t₂ : Tree) (σ : St) (b : Bool) : Prop :=
  ∀ B Z s v₁ v₂, Rep c B Z σ s → IsT c.G Z t₁ v₁ → IsT c.G Z t₂ v₂ →
    wpAny (model c.G.prog c.G.w) c.A (compareOp op v₁ v₂) (fun v s' => v = .bool b ∧ ∃ Z', Grow B Z Z' ∧ Rep c B Z' σ s') (fun _ _ => False) s

noncomputable abbrev kCmpF (Ψ : Tree → St → Prop) (σ : St) (b : Bool) : Prop := Ψ (.bool b) σ
noncomputable abbrev kCmp (c : Cx) (op : CmpOp) (Ψ : Tree → St → Prop) (t₁ t₂ : Tree) (σ : St) : Prop := Ex1 (CK c op t₁ t₂ σ) (kCmpF Ψ σ)
noncomputable abbrev kCmpT (c : Cx) (op : CmpOp) (Θ : Bool → St → Prop) (t₁ t₂ : Tree) (σ : St) : Prop := Ex1 (CK c op t₁ t₂ σ) (kF Θ σ)
noncomputable abbrev kVal (Θ : Bool → St → Prop) (t : Tree) (σ : St) : Prop := Ex1 (kEq .bool t) (kF Θ σ)
noncomputable abbrev kNot (Θ : Bool → St → Prop) (b : Bool) (σ : St) : Prop := Θ (!b) σ
theorem EV.cmp {l r : Expr} {op pos} (h : EV c l σ (kTwo c r (kCmp c op Ψ)))
    (hm : behindInMarks op r = false := by with_unfolding_all rfl) : EV c (.Compare l [op] [r] pos) σ Ψ := .intro fun B Z s rp =>
  wpAny_Compare1 (h.run' rp fun v₁ s₁ Z₁ t₁ σ₁ g₁ r₁ i₁ k₁ => k₁.run' r₁ fun v₂ s₂ Z₂ t₂ σ₂ g₂ r₂ i₂ ⟨b, k₂, p⟩ =>
    wpAny_mono (k₂ B Z₂ s₂ v₁ v₂ r₂ (IsT.mono g₂.1 _ _ i₁) i₂) (fun v s' ⟨e, Z₃, g₃, r₃⟩ => .mk ((g₁.trans g₂).trans g₃) r₃ (by subst e; simp only [IsT]) p) fun _ _ x => x) hm

theorem TV.cmp {l r : Expr} {op pos} (h : EV c l σ (kTwo c r (kCmpT c op Θ)))
    (hm : behindInMarks op r = false := by with_unfolding_all rfl) : TV c (.Compare l [op] [r] pos) σ Θ := .intro fun B Z s rp =>
  wpAny_isTrue_Compare1 (h.run' rp fun v₁ s₁ Z₁ t₁ σ₁ g₁ r₁ i₁ k₁ => k₁.run' r₁ fun v₂ s₂ Z₂ t₂ σ₂ g₂ r₂ i₂ ⟨b, k₂, p⟩ =>
    wpAny_mono (k₂ B Z₂ s₂ v₁ v₂ r₂ (IsT.mono g₂.1 _ _ i₁) i₂) (fun v s' hpq => by
      obtain ⟨e, Z₃, g₃, r₃⟩ := hpq
      subst e; exact wpAny_truthy_bool (.mk ((g₁.trans g₂).trans g₃) r₃ isB p)) fun _ _ x => x) hm

theorem TV.val {e : Expr} (h : EV c e σ (kVal Θ))
    (he : isTrue e c.env (eval e c.env) = (do let v ← eval e c.env; standAt e.pos; holding [v] (truthy v)) := by rfl) : TV c e σ Θ := .intro fun B Z s rp =>
  wpAny_isTrue_value (h.run' rp fun v s₁ Z₁ t σ₁ g₁ r₁ i₁ ⟨b, e, p⟩ => by
    subst e; simp only [IsT] at i₁; subst i₁; exact wpAny_truthy_bool (.mk g₁ r₁ isB p)) he
theorem TV.not {e : Expr} {pos} (h : TV c e σ (kNot Θ)) : TV c (.UnaryOp .Not e pos) σ Θ := .intro fun B Z s rp =>
  wpAny_isTrue_Not (h.run' rp fun v s₁ Z₁ t σ₁ g₁ r₁ i₁ p => by cases i₁; exact .mk g₁ r₁ isB p)

structure AV (c : Cx) (op : BoolOp) (es : List Expr) (σ : St) (Θ : Bool → St → Prop) : Prop where
  intro ::
  go : WV c IsB (allTrue op es c.env) σ Θ
noncomputable abbrev kAnd (c : Cx) (es : List Expr) (Θ : Bool → St → Prop) (b : Bool) (σ : St) : Prop := if b then AV c .And es σ Θ else Θ false σ
noncomputable abbrev kOr (c : Cx) (es : List Expr) (Θ : Bool → St → Prop) (b : Bool) (σ : St) : Prop := if b then Θ true σ else AV c .Or es σ Θ
noncomputable abbrev kIfE (c : Cx) (a b : Expr) (Ψ : Tree → St → Prop) (v : Bool) (σ : St) : Prop := if v then EV c a σ Ψ else EV c b σ Ψ
noncomputable abbrev kIfS (c : Cx) (a b : List Stmt) (Φ : FlT → St → Prop) (v : Bool) (σ : St) : Prop := if v then SV c a σ Φ else SV c b σ Φ
noncomputable abbrev kSeq (c : Cx) (rest : List Stmt) (Φ : FlT → St → Prop) (f : FlT) (σ : St) : Prop := match f with | .next => SV c rest σ Φ | f => Φ f σ
noncomputable abbrev kRet (Φ : FlT → St → Prop) (t : Tree) (σ : St) : Prop := Φ (.ret t) σ
noncomputable abbrev kAsg (x : Str) (Φ : FlT → St → Prop) (t : Tree) (σ : St) : Prop := Φ .next { σ with ρ := upd σ.ρ x t }
theorem AV.and_nil (h : Θ true σ) : AV c .And [] σ Θ := .intro fun B Z s rp => wpAny_allTrue_And_nil (.here rp isB h)
theorem AV.or_nil (h : Θ false σ) : AV c .Or [] σ Θ := .intro fun B Z s rp => wpAny_allTrue_Or_nil (.here rp isB h)
theorem AV.and {e : Expr} {es : List Expr} (h : TV c e σ (kAnd c es Θ)) : AV c .And (e :: es) σ Θ := .intro fun B Z s rp =>
  wpAny_allTrue_And_cons (h.run' rp fun v s₁ Z₁ b σ₁ g₁ r₁ i₁ p => by
    cases i₁
    cases v
    · exact .mk g₁ r₁ isB p
    · exact WV.run (AV.go p) r₁ fun _ _ x => x.grow g₁)
theorem AV.or {e : Expr} {es : List Expr} (h : TV c e σ (kOr c es Θ)) : AV c .Or (e :: es) σ Θ := .intro fun B Z s rp =>
  wpAny_allTrue_Or_cons (h.run' rp fun v s₁ Z₁ b σ₁ g₁ r₁ i₁ p => by
    cases i₁
    cases v
    · exact WV.run (AV.go p) r₁ fun _ _ x => x.grow g₁
    · exact .mk g₁ r₁ isB p)
theorem TV.boolop {op : BoolOp} {es : List Expr} {pos} (h : AV c op es σ Θ) : TV c (.BoolOp op es pos) σ Θ := .intro fun B Z s rp => wpAny_isTrue_BoolOp (h.go B Z s rp)

theorem EV.ifexp {t a b : Expr} {pos} (h : TV c t σ (kIfE c a b Ψ)) : EV c (.IfExp t a b pos) σ Ψ := .intro fun B Z s rp =>
  wpAny_IfExp (h.run' rp fun v s₁ Z₁ w σ₁ g₁ r₁ i₁ p => by
    cases i₁
    cases v
    · exact EV.run p r₁ fun _ _ x => x.grow g₁
    · exact EV.run p r₁ fun _ _ x => x.grow g₁)

/-! ### Statements -/
theorem SV.nil (h : Φ .next σ) : SV c [] σ Φ := .intro fun B Z s rp => wpAny_execs_nil (.here rp isNext h)
theorem SV.cons {st : Stmt} {rest : List Stmt} (h : XV c st σ (kSeq c rest Φ)) : SV c (st :: rest) σ Φ := .intro fun B Z s rp =>
  wpAny_execs_cons (h.run' rp fun v s₁ Z₁ f σ₁ g₁ r₁ i₁ p => by
    cases f with
    | next => cases i₁; exact SV.run p r₁ fun _ _ x => x.grow g₁
    | brk => cases i₁; exact .mk g₁ r₁ isBrk p
    | cont => cases i₁; exact .mk g₁ r₁ isCont p
    | ret t => obtain ⟨v, rfl, i⟩ := i₁; exact .mk g₁ r₁ (isRet i) p)
theorem XV.ite {t : Expr} {a b : List Stmt} {pos} (h : TV c t σ (kIfS c a b Φ)) : XV c (.If t a b pos) σ Φ := .intro fun B Z s rp =>
  wpAny_If (h.run' rp fun v s₁ Z₁ w σ₁ g₁ r₁ i₁ p => by
    cases i₁
    cases v
    · exact SV.run p r₁ fun _ _ x => x.grow g₁
    · exact SV.run p r₁ fun _ _ x => x.grow g₁)
theorem XV.ret {e : Expr} {pos} (h : EV c e σ (kRet Φ)) : XV c (.Return (some e) pos) σ Φ := .intro fun B Z s rp =>
  wpAny_Return_some (h.run' rp fun v s₁ Z₁ t σ₁ g₁ r₁ i₁ p => .mk g₁ r₁ (isRet i₁) p)
theorem XV.ret_none {pos} (h : Φ (.ret .none) σ) : XV c (.Return none pos) σ Φ := .intro fun B Z s rp =>
  wpAny_Return_none (.here rp (isRet (t := .none) (by simp only [IsT])) h)
theorem XV.assign {x : Str} {p : Pos} {e : Expr} {pos} (h : EV c e σ (kAsg x Φ)) (hx : Stores c x)
    (hs : swapsWith e (some (.Name x p)) pos.line c.env = pure false := by rfl) : XV c (.Assign [.Name x p] e pos) σ Φ := .intro fun B Z s rp =>
  wpAny_Assign_Name (h.run' rp fun v s₁ Z₁ t σ₁ g₁ r₁ i₁ q => storeVar hx r₁ i₁ fun s' r' => .mk g₁ r' isNext q) hs
theorem XV.aug {x : Str} {p : Pos} {op : Operator} {e : Expr} {pos} {t₀ : Tree} (hx₀ : σ.ρ x = some t₀) (h : EV c e σ fun t σ' => ∃ u,
      (∀ A G Z v₁ v₂ s (Q : Value → Shared → Prop), IsT G Z t₀ v₁ → IsT G Z t v₂ → (∀ v tk, IsT G Z u v → Q v { s with toks := tk }) → wpAny (model G.prog G.w) A (inplaceOp op v₁ v₂) Q (fun _ _ => False) s) ∧
      Φ .next { σ' with ρ := upd σ'.ρ x u }) (hx : Stores c x) : XV c (.AugAssign (.Name x p) op e pos) σ Φ := .intro fun B Z s rp =>
  wpAny_AugAssign_Name (loadVar hx₀ rp fun v₀ i₀ => h.run' rp fun v s₁ Z₁ t σ₁ g₁ r₁ i₁ ⟨u, k, q⟩ =>
    k _ _ Z₁ _ _ _ _ (IsT.mono g₁.1 _ _ i₀) i₁ fun v' tk i' => storeVar hx (r₁.toks tk) i' fun s' r' => .mk g₁ r' isNext q)
theorem XV.aug_add {x : Str} {p : Pos} {e : Expr} {pos} {a : Int} (hx₀ : σ.ρ x = some (.int a)) (h : EV c e σ fun t σ' => ∃ b, t = .int b ∧ Φ .next { σ' with ρ := upd σ'.ρ x (.int (a + b)) }) (hx : Stores c x) :
    XV c (.AugAssign (.Name x p) .Add e pos) σ Φ :=
  XV.aug hx₀ (h.mono fun t σ' ⟨b, e, q⟩ => ⟨.int (a + b), fun A G Z v₁ v₂ s Q i₁ i₂ k => by
    subst e
    obtain ⟨t, rfl⟩ := isInt.mp i₁
    obtain ⟨u, rfl⟩ := isInt.mp i₂
    exact iadd_int (k _ _ (isInt.mpr ⟨_, rfl⟩)), q⟩) hx
end

noncomputable def Reg.put (Z : Reg) (a : Addr) (o : Obj) : Reg := fun b => if b = a then some o else Z b
theorem Reg.put_self {Z : Reg} {a : Addr} {o : Obj} : Z.put a o a = some o := if_pos rfl
theorem Reg.put_ne {Z : Reg} {a b : Addr} {o : Obj} (h : b ≠ a) : Z.put a o b = Z b := if_neg h
theorem Sub.put {Z : Reg} {a : Addr} {o : Obj} (h : Z a = none) : Sub Z (Z.put a o) := fun b x e => by
  rw [Reg.put_ne (fun q => by rw [q, h] at e; cases e)]; exact e
theorem Grow.put {B Z : Reg} {a : Addr} {o : Obj} (h : Z a = none) (hb : B a = none) : Grow B Z (Z.put a o) := ⟨Sub.put h, fun b q => by
  by_cases e : b = a
  · exact .inr (e ▸ hb)
  · rw [Reg.put_ne e] at q; exact .inl q⟩

theorem none_of_fresh {h : Heap} {R : Reg} (k : ∀ a o, R a = some o → h.get? a = some o) : R h.objs.size = none := by
  cases e : R h.objs.size with
  | none => rfl
  | some o => exact absurd (Heap.lt_size (k _ _ e)) (Nat.lt_irrefl _)

theorem MIs.there {G : GS} {Z : Reg} {h : Heap} {a : Addr} {mo : MObj} (x : MIs G Z h a mo) : ∃ o, h.get? a = some o := by
  cases mo with
  | lst ts => exact let ⟨vs, n, e, y⟩ := x; ⟨_, e⟩
  | dct es => exact let ⟨kvs, ⟨o, e1, ep, e2, e3⟩, d, y⟩ := x; ⟨o, e2⟩
  | sdct es => exact let ⟨kvs, ⟨o, e1, ep, e2, e3⟩, d, y⟩ := x; ⟨o, e2⟩
  | attrs es => exact let ⟨ds, n, e, y⟩ := x; ⟨_, e⟩
  | inst C dx => exact ⟨_, x⟩

theorem RepM.fresh {G : GS} {B Z : Reg} {μ : Mem} {s : Shared} (r : RepM G B Z μ s) : B s.heap.objs.size = none ∧ Z s.heap.objs.size = none ∧ μ s.heap.objs.size = none := by
  refine ⟨none_of_fresh r.kB, none_of_fresh r.kZ, ?_⟩
  cases e : μ s.heap.objs.size with
  | none => rfl
  | some o => obtain ⟨ob, q⟩ := (r.mem _ _ e).1.there; exact absurd (Heap.lt_size q) (Nat.lt_irrefl _)

theorem RepM.alloc {G : GS} {B Z : Reg} {μ : Mem} {s : Shared} {o : Obj} {tk : Nat} (r : RepM G B Z μ s) (hf : o.isFreed = false) :
    RepM G B (Z.put s.heap.objs.size o) μ { s with heap := s.heap.push o, toks := tk } := by
  obtain ⟨f1, f2, f3⟩ := r.fresh
  refine ⟨r.top, r.kH, fun a x e => Heap.get?_push_of_some _ (r.kB a x e), fun a x e => ?_, fun a mo e => ?_, r.gens, r.os⟩
  · by_cases q : a = s.heap.objs.size
    · subst q; rw [Reg.put_self] at e; cases e; exact Heap.get?_push_size _ hf
    · rw [Reg.put_ne q] at e; exact Heap.get?_push_of_some _ (r.kZ a x e)
  · obtain ⟨x, y, z⟩ := r.mem a mo e
    have q : a ≠ s.heap.objs.size := fun q => by rw [q, f3] at e; cases e
    exact ⟨x.mono (Sub.put f2) fun o' h' => Heap.get?_push_of_some _ h', y, by rw [Reg.put_ne q]; exact z⟩

theorem RepM.allocM {G : GS} {B Z : Reg} {μ : Mem} {s : Shared} {o : Obj} {mo : MObj} {tk : Nat} (r : RepM G B Z μ s) (hm : MIs G Z (s.heap.push o) s.heap.objs.size mo) :
    RepM G B Z (μ.put s.heap.objs.size mo) { s with heap := s.heap.push o, toks := tk } := by
  obtain ⟨f1, f2, f3⟩ := r.fresh
  refine ⟨r.top, r.kH, fun a x e => Heap.get?_push_of_some _ (r.kB a x e), fun a x e => Heap.get?_push_of_some _ (r.kZ a x e), fun a mo' e => ?_, r.gens, r.os⟩
  by_cases q : a = s.heap.objs.size
  · subst q; rw [Mem.put_self] at e; cases e; exact ⟨hm, f1, f2⟩
  · rw [Mem.put_ne q] at e
    obtain ⟨x, y, z⟩ := r.mem a mo' e
    exact ⟨x.mono (Sub.refl Z) fun o' h' => Heap.get?_push_of_some _ h', y, z⟩

theorem Knows.mono {c : Cx} {Z Z' : Reg} {ρ : Str → Option Tree} {m cm : Str → Option Value} (h : Sub Z Z') (K : Knows c Z ρ m cm) : Knows c Z' ρ m cm :=
  fun x t e => let ⟨v, a, b⟩ := K x t e; ⟨v, a, IsT.mono h t v b⟩

theorem Vars.locals_lt {c : Cx} {B Z : Reg} {μ : Mem} {h : Heap} {m cm : Str → Option Value} (V : Vars c B Z μ h m cm) : c.env.locals ≠ h.objs.size := Nat.ne_of_lt V.ns.lt
theorem Rep.alloc {c : Cx} {B Z : Reg} {σ : St} {s : Shared} {o : Obj} {tk : Nat} (r : Rep c B Z σ s) (hf : o.isFreed = false) :
    Rep c B (Z.put s.heap.objs.size o) σ { s with heap := s.heap.push o, toks := tk } ∧ Grow B Z (Z.put s.heap.objs.size o) := by
  obtain ⟨r1, m, cm, V, K⟩ := r
  obtain ⟨f1, f2, f3⟩ := r1.fresh
  refine ⟨⟨r1.alloc hf, m, cm, ?_, K.mono (Sub.put f2)⟩, Grow.put f2 f1⟩
  have V' := V.seen (h' := s.heap.push o) fun b x e => Heap.get?_push_of_some _ e
  refine ⟨V'.ns, V'.cell, V'.names, V'.apart, V'.ne, V'.lB, by rw [Reg.put_ne V.locals_lt]; exact V'.lZ, V'.lμ, V'.cB, fun n a hm => ?_, V'.cμ, V'.kind, V'.glob, V'.blt⟩
  rw [Reg.put_ne (Nat.ne_of_lt (V.cell n a hm).lt)]; exact V'.cZ n a hm

theorem Rep.allocM {c : Cx} {B Z : Reg} {σ : St} {s : Shared} {o : Obj} {mo : MObj} {tk : Nat} (r : Rep c B Z σ s) (hm : MIs c.G Z (s.heap.push o) s.heap.objs.size mo) :
    Rep c B Z { σ with μ := σ.μ.put s.heap.objs.size mo } { s with heap := s.heap.push o, toks := tk } ∧ σ.μ s.heap.objs.size = none := by
  obtain ⟨r1, m, cm, V, K⟩ := r
  obtain ⟨f1, f2, f3⟩ := r1.fresh
  refine ⟨⟨r1.allocM hm, m, cm, ?_, K⟩, f3⟩
  have V' := V.seen (h' := s.heap.push o) fun b x e => Heap.get?_push_of_some _ e
  refine ⟨V'.ns, V'.cell, V'.names, V'.apart, V'.ne, V'.lB, V'.lZ, by show σ.μ.put s.heap.objs.size mo c.env.locals = none; rw [Mem.put_ne V.locals_lt]; exact V'.lμ, V'.cB, V'.cZ, fun n a hm => ?_, V'.kind, V'.glob, V'.blt⟩
  show σ.μ.put s.heap.objs.size mo a = none
  rw [Mem.put_ne (Nat.ne_of_lt (V.cell n a hm).lt)]; exact V'.cμ n a hm

/-- a mutable object is written anew -/
theorem RepM.set {G : GS} {B Z : Reg} {μ : Mem} {s : Shared} {a : Addr} {mo mo' : MObj} {h' : Heap} {tk : Nat} (r : RepM G B Z μ s) (ha : μ a = some mo) (k : ∀ b o, b ≠ a → s.heap.get? b = some o → h'.get? b = some o)
    (hm : MIs G Z h' a mo') : RepM G B Z (μ.put a mo') { s with heap := h', toks := tk } := by
  obtain ⟨_, x2, x3⟩ := r.mem a mo ha
  refine ⟨r.top, r.kH, fun b o e => k b o (fun q => by rw [q, x2] at e; cases e) (r.kB b o e), fun b o e => k b o (fun q => by rw [q, x3] at e; cases e) (r.kZ b o e), fun b mo'' e => ?_, r.gens, r.os⟩
  by_cases q : b = a
  · subst q; rw [Mem.put_self] at e; cases e; exact ⟨hm, x2, x3⟩
  · rw [Mem.put_ne q] at e
    obtain ⟨x, y, z⟩ := r.mem b mo'' e
    exact ⟨x.mono (Sub.refl Z) fun o' h' => k b o' q h', y, z⟩

theorem Rep.set {c : Cx} {B Z : Reg} {σ : St} {s : Shared} {a : Addr} {mo mo' : MObj} {h' : Heap} {tk : Nat} (r : Rep c B Z σ s) (ha : σ.μ a = some mo) (k : ∀ b o, b ≠ a → s.heap.get? b = some o → h'.get? b = some o)
    (hm : MIs c.G Z h' a mo') : Rep c B Z { σ with μ := σ.μ.put a mo' } { s with heap := h', toks := tk } := by
  obtain ⟨r1, m, cm, V, K⟩ := r
  refine ⟨r1.set ha k hm, m, cm, ?_, K⟩
  have hl : c.env.locals ≠ a := fun q => by rw [← q, V.lμ] at ha; cases ha
  have hc : ∀ n b, (n, b) ∈ c.env.cells → b ≠ a := fun n b hm q => by rw [← q, V.cμ n b hm] at ha; cases ha
  exact ⟨V.ns.at' fun o e => k _ o hl e, fun n b hm => let ⟨o, ho, hd⟩ := V.cell n b hm; ⟨o, k b o (hc n b hm) ho, hd⟩, V.names, V.apart, V.ne, V.lB, V.lZ, by show (σ.μ.put a mo') c.env.locals = none; rw [Mem.put_ne hl]; exact V.lμ, V.cB, V.cZ,
    fun n b hm => by show (σ.μ.put a mo') b = none; rw [Mem.put_ne (hc n b hm)]; exact V.cμ n b hm, V.kind, V.glob, V.blt⟩

/-- a mutable object becomes a frozen one -/
theorem RepM.freeze {G : GS} {B Z : Reg} {μ : Mem} {s : Shared} {a : Addr} {mo : MObj} {o : Obj} (r : RepM G B Z μ s) (ha : μ a = some mo) (ho : s.heap.get? a = some o) : RepM G B (Z.put a o) (μ.drop a) s := by
  obtain ⟨_, x2, x3⟩ := r.mem a mo ha
  refine ⟨r.top, r.kH, r.kB, fun b x e => ?_, fun b mo' e => ?_, r.gens, r.os⟩
  · by_cases q : b = a
    · subst q; rw [Reg.put_self] at e; cases e; exact ho
    · rw [Reg.put_ne q] at e; exact r.kZ b x e
  · unfold Mem.drop at e
    split at e
    · cases e
    · rename_i q
      obtain ⟨x, y, z⟩ := r.mem b mo' e
      exact ⟨x.mono (Sub.put x3) fun o' h' => h', y, by rw [Reg.put_ne q]; exact z⟩
theorem Mem.drop_none {μ : Mem} {a b : Addr} (h : μ b = none) : μ.drop a b = none := by unfold Mem.drop; split <;> first | rfl | exact h
theorem Rep.freeze {c : Cx} {B Z : Reg} {σ : St} {s : Shared} {a : Addr} {mo : MObj} {o : Obj} (r : Rep c B Z σ s) (ha : σ.μ a = some mo) (ho : s.heap.get? a = some o) :
    Rep c B (Z.put a o) { σ with μ := σ.μ.drop a } s ∧ Grow B Z (Z.put a o) := by
  obtain ⟨r1, m, cm, V, K⟩ := r
  obtain ⟨_, x2, x3⟩ := r1.mem a mo ha
  have hl : c.env.locals ≠ a := fun q => by rw [← q, V.lμ] at ha; cases ha
  have hc : ∀ n b, (n, b) ∈ c.env.cells → b ≠ a := fun n b hm q => by rw [← q, V.cμ n b hm] at ha; cases ha
  exact ⟨⟨r1.freeze ha ho, m, cm, ⟨V.ns, V.cell, V.names, V.apart, V.ne, V.lB, by rw [Reg.put_ne hl]; exact V.lZ, Mem.drop_none V.lμ, V.cB, fun n b hm => by rw [Reg.put_ne (hc n b hm)]; exact V.cZ n b hm, fun n b hm => Mem.drop_none (V.cμ n b hm), V.kind, V.glob, V.blt⟩,
    K.mono (Sub.put x3)⟩, Grow.put x3 x2⟩

theorem RepM.size_big {G : GS} {B Z : Reg} {μ : Mem} {s : Shared} (r : RepM G B Z μ s) : 339 < s.heap.objs.size := by
  have : ((heapK G.w.params).lookup 339).isSome = true := by kernel_rfl
  obtain ⟨o, e⟩ := Option.isSome_iff_exists.mp this
  exact Heap.lt_size (r.kB _ _ (r.kH _ _ (r.top.k _ _ e)))
theorem RepM.not_sys {G : GS} {B Z : Reg} {μ : Mem} {s : Shared} (r : RepM G B Z μ s) : (s.heap.objs.size == sysModules) = false := by
  have := r.size_big
  have h : sysModules ≤ 339 := by decide +kernel
  refine beq_eq_false_iff_ne.mpr fun q => ?_
  have q' : s.heap.objs.size = sysModules := q
  rw [q'] at this
  exact absurd this (Nat.not_lt.mpr h)

section
variable {c : Cx} {σ : St} {Ψ : Tree → St → Prop} {Φ : FlT → St → Prop} {Θ : Bool → St → Prop} {Λ : List Tree → St → Prop}

noncomputable def Tree.isNone : Tree → Bool
  | .none => true
  | _ => false
theorem IsT.none_iff {G : GS} {Z : Reg} {t : Tree} {v : Value} (i : IsT G Z t v) : (v == .none) = t.isNone := by
  cases t <;> simp only [IsT] at i
  case none => subst i; rfl
  case bool => subst i; rfl
  case int => obtain ⟨_, rfl⟩ := i; rfl
  case str => obtain ⟨_, rfl⟩ := i; rfl
  case bytes => obtain ⟨_, rfl⟩ := i; rfl
  case tup => obtain ⟨_, _, _, _, rfl, _⟩ := i; rfl
  case lst => obtain ⟨_, _, _, rfl, _⟩ := i; rfl
  case dct => obtain ⟨_, _, _, rfl, _⟩ := i; rfl
  case letter => obtain ⟨_, _, _, _, _, _, _, _, _, _, _, _, _, rfl, _⟩ := i; rfl
  case ptr => subst i; rfl
  case blt => subst i; rfl
  case typ => subst i; rfl

/-! ### Comparisons of ints, strs, with None -/
theorem CK.lt {a b : Int} : CK c .Lt (.int a) (.int b) σ (decide (a < b)) := fun B Z s v₁ v₂ r i₁ i₂ => by
  obtain ⟨t, rfl⟩ := isInt.mp i₁; obtain ⟨u, rfl⟩ := isInt.mp i₂; exact lt_int ⟨rfl, Z, .refl B Z, r⟩
theorem CK.le {a b : Int} : CK c .LtE (.int a) (.int b) σ (decide (a ≤ b)) := fun B Z s v₁ v₂ r i₁ i₂ => by
  obtain ⟨t, rfl⟩ := isInt.mp i₁; obtain ⟨u, rfl⟩ := isInt.mp i₂; exact le_int ⟨rfl, Z, .refl B Z, r⟩
theorem CK.gt {a b : Int} : CK c .Gt (.int a) (.int b) σ (decide (b < a)) := fun B Z s v₁ v₂ r i₁ i₂ => by
  obtain ⟨t, rfl⟩ := isInt.mp i₁; obtain ⟨u, rfl⟩ := isInt.mp i₂; exact gt_int ⟨rfl, Z, .refl B Z, r⟩
theorem CK.ge {a b : Int} : CK c .GtE (.int a) (.int b) σ (decide (b ≤ a)) := fun B Z s v₁ v₂ r i₁ i₂ => by
  obtain ⟨t, rfl⟩ := isInt.mp i₁; obtain ⟨u, rfl⟩ := isInt.mp i₂; exact PyProof.Rows.ge_int ⟨rfl, Z, .refl B Z, r⟩
theorem CK.eq {a b : Int} : CK c .Eq (.int a) (.int b) σ (decide (a = b)) := fun B Z s v₁ v₂ r i₁ i₂ => by
  obtain ⟨t, rfl⟩ := isInt.mp i₁; obtain ⟨u, rfl⟩ := isInt.mp i₂; exact eq_int ⟨rfl, Z, .refl B Z, r⟩
theorem CK.ne {a b : Int} : CK c .NotEq (.int a) (.int b) σ (!decide (a = b)) := fun B Z s v₁ v₂ r i₁ i₂ => by
  obtain ⟨t, rfl⟩ := isInt.mp i₁; obtain ⟨u, rfl⟩ := isInt.mp i₂; exact ne_int ⟨rfl, Z, .refl B Z, r⟩
theorem CK.eq_str {a b : Str} : CK c .Eq (.str a) (.str b) σ (decide (a = b)) := fun B Z s v₁ v₂ r i₁ i₂ => by
  simp only [IsT] at i₁ i₂
  obtain ⟨t, rfl⟩ := i₁; obtain ⟨u, rfl⟩ := i₂; exact PyProof.Rows.eq_str ⟨by by_cases e : a = b <;> simp [e], Z, .refl B Z, r⟩
theorem CK.is_none {t : Tree} {b : Bool} (h : t.isNone = b) : CK c .Is t .none σ b := fun B Z s v₁ v₂ r i₁ i₂ => by
  simp only [IsT] at i₂
  subst i₂
  exact PySem.is_none ⟨by rw [IsT.none_iff i₁, h], Z, .refl B Z, r⟩
theorem CK.is_not_none {t : Tree} {b : Bool} (h : (!t.isNone) = b) : CK c .IsNot t .none σ b := fun B Z s v₁ v₂ r i₁ i₂ => by
  simp only [IsT] at i₂
  subst i₂
  exact PySem.isNot_none ⟨by rw [IsT.none_iff i₁, h], Z, .refl B Z, r⟩

/-! ### Displays -/
theorem LV.nil {pos} (h : Λ [] σ) : LV c pos [] σ Λ := .intro fun B Z s rp => wpAny_items_nil (.here rp (by simp only [AreT]) h)
noncomputable abbrev kItems (t : Tree) (Λ : List Tree → St → Prop) (ts : List Tree) (σ : St) : Prop := Λ (t :: ts) σ
noncomputable abbrev kItem (c : Cx) (pos : Pos) (es : List Expr) (Λ : List Tree → St → Prop) (t : Tree) (σ : St) : Prop := LV c pos es σ (kItems t Λ)
theorem LV.cons {pos} {e : Expr} {es : List Expr} (h : EV c e σ (kItem c pos es Λ))
    (he : starEach (e :: es) c.env = (false, eval e c.env) :: starEach es c.env := by rfl) : LV c pos (e :: es) σ Λ := .intro fun B Z s rp =>
  wpAny_items_cons (h.run' rp fun v s₁ Z₁ t σ₁ g₁ r₁ i₁ p => LV.run' p r₁ fun vs s₂ Z₂ ts σ₂ g₂ r₂ i₂ q =>
    .mk (g₁.trans g₂) r₂ (by simp only [AreT]; exact ⟨v, vs, rfl, IsT.mono g₂.1 _ _ i₁, i₂⟩) q) he

theorem AreT.length {G : GS} {Z : Reg} : ∀ {ts : List Tree} {vs : List Value}, AreT G Z ts vs → vs.length = ts.length
  | [], vs, i => by simp only [AreT] at i; subst i; rfl
  | t :: ts, vs, i => by
    simp only [AreT] at i
    obtain ⟨v, r, rfl, _, i⟩ := i
    simp [AreT.length i]

noncomputable abbrev kTup (Ψ : Tree → St → Prop) (ts : List Tree) (σ : St) : Prop := ts.length ≤ 1000 ∧ Ψ (.tup ts) σ
noncomputable abbrev kLst (Ψ : Tree → St → Prop) (ts : List Tree) (σ : St) : Prop := ts.length ≤ 1000 ∧ Ψ (.lst ts) σ
noncomputable abbrev kLstM (Ψ : Tree → St → Prop) (ts : List Tree) (σ : St) : Prop := ts.length ≤ 1000 ∧ ∀ a, σ.μ a = Option.none → Ψ (.ptr a) { σ with μ := σ.μ.put a (.lst ts) }
theorem EV.tuple {es : List Expr} {k pos} (h : LV c pos es σ (kTup Ψ)) : EV c (.Tuple es k pos) σ Ψ := .intro fun B Z s rp =>
  PySem.wpAny_Tuple (LV.run' h rp fun vs s₁ Z₁ ts σ₁ g₁ r₁ i₁ ⟨hl, p⟩ => ⟨by rw [AreT.length i₁]; exact Nat.le_trans hl (by decide), by
    obtain ⟨r₂, g₂⟩ := r₁.alloc (o := tupObj vs 0) (tk := s₁.toks) rfl
    exact .mk (g₁.trans g₂) r₂ (by simp only [IsT]; exact ⟨_, _, vs, 0, rfl, Reg.put_self, rfl, rfl, AreT.mono g₂.1 _ _ i₁⟩) p⟩)
/-- a list display whose list is never written again -/
theorem EV.list {es : List Expr} {pos} (h : LV c pos es σ (kLst Ψ)) : EV c (.List es pos) σ Ψ := .intro fun B Z s rp =>
  PySem.wpAny_List (LV.run' h rp fun vs s₁ Z₁ ts σ₁ g₁ r₁ i₁ ⟨hl, p⟩ => ⟨by rw [AreT.length i₁]; exact Nat.le_trans hl (by decide), by
    obtain ⟨r₂, g₂⟩ := r₁.alloc (o := lstObj vs 0) (tk := s₁.toks) rfl
    exact .mk (g₁.trans g₂) r₂ (by simp only [IsT]; exact ⟨_, vs, 0, rfl, Reg.put_self, AreT.mono g₂.1 _ _ i₁⟩) p⟩)
/-- a list display whose list may be written -/
theorem EV.listM {es : List Expr} {pos} (h : LV c pos es σ (kLstM Ψ)) : EV c (.List es pos) σ Ψ := .intro fun B Z s rp =>
  PySem.wpAny_List (LV.run' h rp fun vs s₁ Z₁ ts σ₁ g₁ r₁ i₁ ⟨hl, p⟩ => ⟨by rw [AreT.length i₁]; exact Nat.le_trans hl (by decide), by
    obtain ⟨r₂, f⟩ := r₁.allocM (o := lstObj vs 0) (mo := .lst ts) (tk := s₁.toks) ⟨vs, 0, Heap.get?_push_size _ rfl, i₁⟩
    exact .mk g₁ r₂ (by simp only [IsT]) (p _ f)⟩)
theorem IsDictOf.empty {prog : Program} {w : World} {K : Type} [DecidableEq K] (knd : KeyKind prog w K) : Obj.IsDictOf knd { cls := .type "dict", data := .dict #[] } [] :=
  ⟨#[], 0, ⟨rfl, rfl, rfl⟩, rfl, fun _ he => by simp at he, .nil, List.nodup_nil⟩
theorem EV.dict0 {pos} (h : Ψ (.dct []) σ) : EV c (.Dict [] [] pos) σ Ψ := .intro fun B Z s rp =>
  PySem.wpAny_Dict_empty (by
    obtain ⟨r₂, g₂⟩ := rp.alloc (o := { cls := .type "dict", data := .dict #[] }) (tk := s.toks) rfl
    exact .mk g₂ r₂ (by simp only [IsT]; exact ⟨_, _, [], rfl, Reg.put_self, IsDictOf.empty _, rp.1.not_sys, by simp only [PairsT]⟩) h)
theorem EV.dict0M {pos} (h : ∀ a, σ.μ a = Option.none → Ψ (.ptr a) { σ with μ := σ.μ.put a (.dct []) }) : EV c (.Dict [] [] pos) σ Ψ := .intro fun B Z s rp =>
  PySem.wpAny_Dict_empty (by
    obtain ⟨r₂, f⟩ := rp.allocM (o := { cls := .type "dict", data := .dict #[] }) (mo := .dct []) (tk := s.toks) ⟨[], Heap.DictOf.new _, rp.1.not_sys, by simp only [PairsT]⟩
    exact .mk (.refl B Z) r₂ (by simp only [IsT]) (h _ f))

/-! ### Freezing a value at hand -/
noncomputable abbrev kFrzL (Ψ : Tree → St → Prop) (t : Tree) (σ : St) : Prop := ∃ a ts, t = .ptr a ∧ σ.μ a = some (.lst ts) ∧ Ψ (.lst ts) { σ with μ := σ.μ.drop a }
noncomputable abbrev kFrzD (Ψ : Tree → St → Prop) (t : Tree) (σ : St) : Prop := ∃ a es, t = .ptr a ∧ σ.μ a = some (.dct es) ∧ Ψ (.dct es) { σ with μ := σ.μ.drop a }
theorem EV.freezeL {e : Expr} (h : EV c e σ (kFrzL Ψ)) : EV c e σ Ψ := .intro fun B Z s rp =>
  EV.run' h rp fun v s₁ Z₁ t σ₁ g₁ r₁ i₁ hpq => by
    obtain ⟨a, ts, e, ha, p⟩ := hpq
    subst e
    simp only [IsT] at i₁
    subst i₁
    obtain ⟨vs, n, ho, j⟩ := (r₁.1.mem _ _ ha).1
    obtain ⟨r₂, g₂⟩ := r₁.freeze ha ho
    exact .mk (g₁.trans g₂) r₂ (by simp only [IsT]; exact ⟨a, vs, n, rfl, Reg.put_self, AreT.mono g₂.1 _ _ j⟩) p
theorem EV.freezeD {e : Expr} (h : EV c e σ (kFrzD Ψ)) : EV c e σ Ψ := .intro fun B Z s rp =>
  EV.run' h rp fun v s₁ Z₁ t σ₁ g₁ r₁ i₁ hpq => by
    obtain ⟨a, es, e, ha, p⟩ := hpq
    subst e
    simp only [IsT] at i₁
    subst i₁
    obtain ⟨kvs, hd, hs, j⟩ := (r₁.1.mem _ _ ha).1
    obtain ⟨o, ho, hio⟩ := Heap.dictOf_iff.mp hd
    obtain ⟨r₂, g₂⟩ := r₁.freeze ha ho
    exact .mk (g₁.trans g₂) r₂ (by simp only [IsT]; exact ⟨a, o, kvs, rfl, Reg.put_self, hio, hs, PairsT.mono g₂.1 _ _ j⟩) p
end

noncomputable abbrev KK (w : World) : Frag := heapK w.params

theorem RepM.kIn {G : GS} {B Z : Reg} {μ : Mem} {s : Shared} (r : RepM G B Z μ s) : (KK G.w).In s.heap := fun a o e => r.kB _ _ (r.kH _ _ (r.top.k _ _ e))
theorem RepM.old {G : GS} {B Z : Reg} {μ : Mem} {s : Shared} (r : RepM G B Z μ s) : ∀ b o, G.h₁.get? b = some o → s.heap.get? b = some o := fun a o e => r.kB _ _ (r.kH _ _ e)

/-- all but the mutable -/
noncomputable def rest (μ : Mem) (h : Heap) : Reg := fun a => match μ a with | none => h.get? a | some _ => none
theorem rest_some {μ : Mem} {h : Heap} {a : Addr} (e : μ a = none) : rest μ h a = h.get? a := by unfold rest; rw [e]
theorem rest_none {μ : Mem} {h : Heap} {a : Addr} {mo : MObj} (e : μ a = some mo) : rest μ h a = none := by unfold rest; rw [e]

theorem RepM.notB {G : GS} {B Z : Reg} {μ : Mem} {s : Shared} (r : RepM G B Z μ s) {a : Addr} {o : Obj} (e : B a = some o) : μ a = none := by
  cases q : μ a with
  | none => rfl
  | some mo => have := (r.mem a mo q).2.1; rw [e] at this; cases this
theorem RepM.inRest {G : GS} {B Z : Reg} {μ : Mem} {s : Shared} (r : RepM G B Z μ s) {a : Addr} {o : Obj} (e : B a = some o) : rest μ s.heap a = some o := by
  rw [rest_some (r.notB e)]; exact r.kB a o e
theorem RepM.toRest {G : GS} {B Z : Reg} {μ : Mem} {s : Shared} (r : RepM G B Z μ s) : RepM G (rest μ s.heap) Z μ s := by
  refine ⟨r.top, fun a o e => r.inRest (r.kH a o e), fun a o e => ?_, r.kZ, fun a mo e => ⟨(r.mem a mo e).1, rest_none e, (r.mem a mo e).2.2⟩, r.gens, r.os⟩
  unfold rest at e
  split at e
  · exact e
  · cases e

/-- a call came back: the frame stands -/
theorem Rep.back {c : Cx} {B Z Z' : Reg} {σ : St} {s s' : Shared} {μ' : Mem} (r : Rep c B Z σ s) (g : Grow (rest σ.μ s.heap) Z Z') (r' : RepM c.G (rest σ.μ s.heap) Z' μ' s') :
    Rep c B Z' { σ with μ := μ' } s' ∧ Grow B Z Z' := by
  obtain ⟨r1, m, cm, V, K⟩ := r
  have hg : Grow B Z Z' := ⟨g.1, fun a q => (g.2 a q).imp id fun e => by
    cases qb : B a with
    | none => rfl
    | some o => rw [r1.inRest qb] at e; cases e⟩
  have inR : ∀ {a o}, σ.μ a = none → s.heap.get? a = some o → s'.heap.get? a = some o ∧ (Z a = none → Z' a = none) ∧ μ' a = none := fun {a o} h1 h2 => by
    have hr : rest σ.μ s.heap a = some o := by rw [rest_some h1]; exact h2
    refine ⟨r'.kB _ _ hr, fun hz => ?_, r'.notB hr⟩
    cases q : Z' a with
    | none => rfl
    | some x => rcases g.2 a (by rw [q]; exact nofun) with e | e
                · exact absurd hz e
                · rw [hr] at e; cases e
  refine ⟨⟨⟨r1.top, r1.kH, fun a o e => r'.kB _ _ (r1.inRest e), r'.kZ, fun a mo e => ⟨(r'.mem a mo e).1, ?_, (r'.mem a mo e).2.2⟩, r'.gens, r'.os⟩, m, cm, ?_, K.mono g.1⟩, hg⟩
  · cases q : B a with
    | none => rfl
    | some o => have := (r'.mem a mo e).2.1; rw [r1.inRest q] at this; cases this
  · obtain ⟨oL, hoL, _⟩ : ∃ o, s.heap.get? c.env.locals = some o ∧ True := let ⟨o, es, ep, h, _⟩ := V.ns; ⟨o, h, trivial⟩
    refine ⟨V.ns.at' fun o e => (inR V.lμ e).1, fun n a hm => let ⟨o, ho, hd⟩ := V.cell n a hm; ⟨o, (inR (V.cμ n a hm) ho).1, hd⟩, V.names, V.apart, V.ne, V.lB, (inR V.lμ hoL).2.1 V.lZ, (inR V.lμ hoL).2.2, V.cB,
      fun n a hm => let ⟨o, ho, hd⟩ := V.cell n a hm; (inR (V.cμ n a hm) ho).2.1 (V.cZ n a hm), fun n a hm => let ⟨o, ho, hd⟩ := V.cell n a hm; (inR (V.cμ n a hm) ho).2.2, V.kind, V.glob, V.blt⟩

section
variable {c : Cx} {σ : St} {Ψ : Tree → St → Prop}

theorem wpAny_loadGlobal {x : Str} {v : Value} {B Z : Reg} {s : Shared} {Q : Value → Shared → Prop} (r : Rep c B Z σ s) (hx : c.env.kindOf x = some .globalImplicit)
    (hg : nsIn (KK c.G.w) mainGlobals x = some (some v)) (k : Q v s) : wpAny (model c.G.prog c.G.w) c.A (loadName c.env x) Q (fun _ _ => False) s := by
  obtain ⟨r1, m, cm, V, K⟩ := r
  unfold loadName
  simp only [Env.blockKind, V.kind, hx, ScopeKind.isAnnotationScope, Bool.false_and, Bool.false_eq_true, if_false]
  unfold loadGlobal
  rw [V.glob]
  exact wpAny_bind ((looks_nsIn r1.kIn hg).here (wpAny_pure k))
theorem wpAny_loadBuiltin {x : Str} {v : Value} {B Z : Reg} {s : Shared} {Q : Value → Shared → Prop} (r : Rep c B Z σ s) (hx : c.env.kindOf x = some .globalImplicit)
    (hg : nsIn (KK c.G.w) mainGlobals x = some none) (hb : bootBuiltins x = some v) (hn : x ≠ "__name__") (k : Q v s) : wpAny (model c.G.prog c.G.w) c.A (loadName c.env x) Q (fun _ _ => False) s := by
  obtain ⟨r1, m, cm, V, K⟩ := r
  unfold loadName
  simp only [Env.blockKind, V.kind, hx, ScopeKind.isAnnotationScope, Bool.false_and, Bool.false_eq_true, if_false]
  unfold loadGlobal
  rw [V.glob, V.blt]
  refine wpAny_bind ((looks_nsIn r1.kIn hg).here ?_)
  obtain ⟨mb, hN, hm⟩ := r1.top.b
  dsimp only
  refine wpAny_bind (wpAny_nsGet (hN.keeps r1.old) ?_)
  rw [hm x hn, hb]
  exact wpAny_pure k

theorem EV.globStr {x y : Str} {pos} {t : Tok} (hx : c.env.kindOf x = some .globalImplicit) (hg : nsIn (KK c.G.w) mainGlobals x = some (some (.str y t))) (h : Ψ (.str y) σ)
    (hd : (x == ("__debug__" : Str)) = false := by decide +kernel) : EV c (.Name x pos) σ Ψ := .intro fun B Z s r =>
  wpAny_Name (wpAny_loadGlobal r hx hg (.here r (by simp only [IsT]; exact ⟨_, rfl⟩) h)) hd

theorem Room.le {n m : Nat} {A : Around} (h : Room n A) (k : m ≤ n) : Room m A := by
  obtain ⟨a, b, d⟩ := h; exact ⟨a, by omega, by omega⟩

theorem callFN {f : Addr} {ts : List Tree} {vs : List Value} {n : Nat} {B Z Z₀ : Reg} {s : Shared} (r : Rep c B Z σ s) (g₀ : Grow B Z₀ Z) (i : AreT c.G Z ts vs) (hr : Room n c.A) (h : FN c.G n f ts σ.μ fun t μ' => Ψ t { σ with μ := μ' }) :
    wpAny (model c.G.prog c.G.w) c.A (call (.ref f) vs) (Post c B Z₀ IsT Ψ) (fun _ _ => False) s := by
  refine wpAny_call (codeAny_mono (h c.A (rest σ.μ s.heap) Z s vs hr r.1.toRest i) fun rr s' hq => ?_)
  obtain ⟨v, Z', t, μ', e, g, r', iv, p⟩ := hq
  rw [e]
  obtain ⟨r2, g2⟩ := r.back g r'
  exact .mk (g₀.trans g2) r2 iv p

noncomputable abbrev kRes (Ψ : Tree → St → Prop) (σ : St) (t : Tree) (μ : Mem) : Prop := Ψ t { σ with μ := μ }
noncomputable abbrev kCall (c : Cx) (n : Nat) (f : Addr) (Ψ : Tree → St → Prop) (ts : List Tree) (σ : St) : Prop := FN c.G n f ts σ.μ (kRes Ψ σ)
/-- a call of a def of the text, by its name -/
theorem EV.call {x : Str} {p pos : Pos} {f : Addr} {e : Expr} {es : List Expr} (n : Nat) (hx : c.env.kindOf x = some .globalImplicit) (hg : nsIn (KK c.G.w) mainGlobals x = some (some (.ref f)))
    (hk : keepIn (KK c.G.w) (.ref f) = true) (hr : Room n c.A) (h : LV c pos (e :: es) σ (kCall c n f Ψ))
    (hd : (x == ("__debug__" : Str)) = false := by decide +kernel) (he : starEach (e :: es) c.env = (false, eval e c.env) :: starEach es c.env := by rfl) (hplain : (backTo pos (starEach es c.env)).any (·.1) = false := by rfl) :
    EV c (.Call (.Name x p) (e :: es) [] pos) σ Ψ := .intro fun B Z s r =>
  wpAny_Call_Name_kw (wpAny_Name (wpAny_loadGlobal r hx hg (callWith_K (K := KK c.G.w) (h₀ := s.heap) r.1.kIn hk (LV.run' h r fun vs s₁ Z₁ ts σ₁ g₁ r₁ i₁ hf =>
    ⟨r₁.1.kIn, callFN r₁ g₁ i₁ hr hf⟩) he hplain)) hd)
theorem EV.call0 {x : Str} {p pos : Pos} {f : Addr} (n : Nat) (hx : c.env.kindOf x = some .globalImplicit) (hg : nsIn (KK c.G.w) mainGlobals x = some (some (.ref f)))
    (hk : keepIn (KK c.G.w) (.ref f) = true) (hr : Room n c.A) (h : FN c.G n f [] σ.μ (kRes Ψ σ))
    (hd : (x == ("__debug__" : Str)) = false := by decide +kernel) :
    EV c (.Call (.Name x p) [] [] pos) σ Ψ := .intro fun B Z s r =>
  wpAny_Call_Name_kw (wpAny_Name (wpAny_loadGlobal r hx hg (callWith_K0 (K := KK c.G.w) r.1.kIn hk (callFN r (.refl B Z) (by simp [AreT]) hr h))) hd)
end

theorem bind_vals {kindOf : Str → Option NameKind} {ok : Str → Bool} : ∀ (binds : List (Str × Value)) (m cm : Str → Option Value), (binds.map (·.1)).Nodup →
    (∀ y ∈ binds, kindOf y.1 = some .local ∨ kindOf y.1 = some .cell) → ∀ x v, binds.lookup x = some v →
    (kindOf x = some .local → bindL kindOf binds m x = some v) ∧ (kindOf x = some .cell → bindC kindOf binds cm x = some v)
  | [], m, cm, _, _, x, v, h => by cases h
  | (n, u) :: r, m, cm, hn, hk, x, v, h => by
    have keepL : ∀ (binds : List (Str × Value)) (m : Str → Option Value), x ∉ binds.map (·.1) → bindL kindOf binds m x = m x := by
      intro binds
      induction binds with
      | nil => intro m _; rfl
      | cons b r ih =>
        intro m hx
        obtain ⟨k, w⟩ := b
        simp only [List.map_cons, List.mem_cons, not_or] at hx
        unfold bindL
        rw [ih _ hx.2]
        split
        · exact if_neg hx.1
        · rfl
    have keepC : ∀ (binds : List (Str × Value)) (m : Str → Option Value), x ∉ binds.map (·.1) → bindC kindOf binds m x = m x := by
      intro binds
      induction binds with
      | nil => intro m _; rfl
      | cons b r ih =>
        intro m hx
        obtain ⟨k, w⟩ := b
        simp only [List.map_cons, List.mem_cons, not_or] at hx
        unfold bindC
        rw [ih _ hx.2]
        split
        · rfl
        · exact if_neg hx.1
    simp only [List.map_cons, List.nodup_cons] at hn
    rw [List.lookup_cons] at h
    unfold bindL bindC
    cases hb : x == n with
    | true =>
      rw [hb] at h; cases h
      have e : x = n := by simpa using hb
      subst e
      rw [keepL _ _ hn.1, keepC _ _ hn.1]
      refine ⟨fun q => by rw [if_pos q]; simp, fun q => ?_⟩
      rw [if_neg (by rw [q]; decide)]; simp
    | false =>
      rw [hb] at h
      exact bind_vals (ok := ok) r _ _ hn.2 (fun y hy => hk y (List.mem_cons_of_mem _ hy)) x v h

theorem AreT.lookup {G : GS} {Z : Reg} : ∀ {ns : List Str} {ts : List Tree} {vs : List Value}, AreT G Z ts vs → ∀ {x t}, (ns.zip ts).lookup x = some t → ∃ v, (ns.zip vs).lookup x = some v ∧ IsT G Z t v
  | [], ts, vs, _, x, t, h => by simp at h
  | n :: ns, [], vs, _, x, t, h => by simp at h
  | n :: ns, u :: ts, vs, i, x, t, h => by
    simp only [AreT] at i
    obtain ⟨v, r, rfl, i1, i2⟩ := i
    simp only [List.zip_cons_cons, List.lookup_cons] at h ⊢
    cases hb : x == n with
    | true => rw [hb] at h; cases h; exact ⟨v, rfl, i1⟩
    | false => rw [hb] at h; exact AreT.lookup i2 h

noncomputable def fenv (fd : FuncData) (L f : Addr) : Env := callEnvC fd L f
/-- what a def gives back -/
noncomputable def retOf (Φ : Tree → Mem → Prop) : FlT → St → Prop
  | .ret t, σ => Φ t σ.μ
  | .next, σ => Φ .none σ.μ
  | _, _ => False

theorem callerDepth {n : Nat} {A : Around} (h : Room n A) : A.depth < recursionLimit := by
  have := h.2.1
  show A.depth < 1000
  omega
theorem Room.deeper {n : Nat} {A : Around} {env : Env} (h : Room (n + 1) A) : Room n (A.deeper env) := by
  obtain ⟨a, b, d⟩ := h
  refine ⟨a, ?_, ?_⟩
  · show A.depth + 1 + 20 * n ≤ 900; omega
  · show A.units + 3 + 100 * n ≤ 9000; omega

theorem call_cellsB {prog : Program} {w : World} {A : Around} {s : Shared} {R : Result → Shared → Prop} {a : Addr} {o : Obj} {fd : FuncData} {body : List Stmt} {vals : List Value} {binds : List (Str × Value)}
    (hroom : A.depth < recursionLimit) (ho : s.heap.get? a = some o) (hdata : o.data = .func fd) (hlim : s.heap.NoLimit) (hcd : s.heap.CodeRec fd.code fd.qualname)
    (hbody : fd.body = .stmts body) (hbind : BindsTo s fd ⟨vals, []⟩ binds) (hclo : fd.closure = [])
    (hkind : ∀ x ∈ binds, fd.scope.names.lookup x.1 = some .local ∨ (fd.scope.names.lookup x.1 = some .cell ∧ ((cellsFrom (s.heap.objs.size + 1) fd.scope.names []).lookup x.1).isSome = true))
    (h : ∀ s₁, InCallC s (callEnvC fd s.heap.objs.size a).locals (bindL (callEnvC fd s.heap.objs.size a).kindOf binds fun _ => none) (callEnvC fd s.heap.objs.size a).cells
        (bindC (callEnvC fd s.heap.objs.size a).kindOf binds fun _ => none) s₁ →
      wpAny (model prog w) (A.deeper (callEnvC fd s.heap.objs.size a)) (execs body (callEnvC fd s.heap.objs.size a)) (fun f s' => R (.ok (.ret (match f with | .ret v => v | _ => .none))) s')
        (fun e s' => wpAny (model prog w) (A.deeper (callEnvC fd s.heap.objs.size a)) (leaving (callEnvC fd s.heap.objs.size a) e) (fun _ s'' => R (.error e) s'') (fun e' s'' => R (.error e') s'') s') s₁)
    (hco : fd.scope.isCoroutine = false) (hgen : fd.scope.isGenerator = false) (hk : fd.scope.kind = .function) :
    codeAny (model prog w) A (.call (.ref a) ⟨vals, []⟩) R s := by
  refine codeAny_call_function hroom ho hdata hco hgen hbody hcd (hbind _ _ _ _ ?_)
  rw [hclo]
  refine wpAny_newFunctionEnv_cells hk hkind fun env he s' x => ?_
  subst he
  exact ⟨hlim.keeps x.toInCall.keep, codeAny_func (h s' x)⟩

theorem FN.of_body {G : GS} {n : Nat} {f : Addr} {ts : List Tree} {μ : Mem} {Φ : Tree → Mem → Prop} {oc : Value} {od : Option Addr} {osl : Array (Option Value)} {fd : FuncData} {body : List Stmt} {ns : List Str}
    (hK : (KK G.w).lookup f = some ⟨oc, od, .func fd, osl⟩) (hcode : codeIn (KK G.w) fd.code fd.qualname = true) (hbody : fd.body = .stmts body) (hclo : fd.closure = [])
    (hbind : ∀ (s : Shared) (vs : List Value), (KK G.w).In s.heap → vs.length = ts.length → BindsTo s fd ⟨vs, []⟩ (ns.zip vs))
    (hlen : ns.length = ts.length) (hnd : ns.Nodup) (hcells : ((cellsFrom 0 fd.scope.names []).map (·.1)).Nodup)
    (hkind : (ns.all fun y => fd.scope.names.lookup y == some .local || fd.scope.names.lookup y == some .cell) = true)
    (hglob : fd.globals = mainGlobals) (hblt : fd.builtins = builtinsNs)
    (h : ∀ A L, Room n A → SV ⟨G, A, fenv fd L f, true⟩ body ⟨fun x => (ns.zip ts).lookup x, μ⟩ (retOf Φ))
    (hco : fd.scope.isCoroutine = false) (hgen : fd.scope.isGenerator = false) (hk : fd.scope.kind = .function) : FN G (n + 1) f ts μ Φ := by
  intro A B Z s vs hA r i
  have hvl : vs.length = ts.length := AreT.length i
  have hkeys : (ns.zip vs).map (·.1) = ns := by rw [List.map_fst_zip]; omega
  have hkd : ∀ x ∈ ns.zip vs, fd.scope.names.lookup x.1 = some .local ∨ fd.scope.names.lookup x.1 = some .cell := fun x hx => by
    have hx' : x.1 ∈ ns := by rw [← hkeys]; exact List.mem_map_of_mem hx
    have := List.all_eq_true.mp hkind x.1 hx'
    simpa using this
  refine call_cellsB (callerDepth hA) (r.kIn _ _ hK) rfl (r.top.nolimit.keeps r.old) (codeRec_of r.kIn hcode) hbody (hbind s vs r.kIn hvl) hclo
    (fun x hx => (hkd x hx).imp id fun q => ⟨q, cellsFrom_some _ _ _ (.inl q)⟩) (fun s₁ x => ?_) hco hgen hk
  have hL : (callEnvC fd s.heap.objs.size f).locals = s.heap.objs.size := rfl
  obtain ⟨f1, f2, f3⟩ := r.fresh
  have bigB : ∀ a, s.heap.objs.size ≤ a → B a = none ∧ Z a = none ∧ μ a = none := fun a ha => by
    refine ⟨?_, ?_, ?_⟩
    · cases e : B a with
      | none => rfl
      | some o => exact absurd (Heap.lt_size (r.kB _ _ e)) (Nat.not_lt.mpr ha)
    · cases e : Z a with
      | none => rfl
      | some o => exact absurd (Heap.lt_size (r.kZ _ _ e)) (Nat.not_lt.mpr ha)
    · cases e : μ a with
      | none => rfl
      | some o => obtain ⟨ob, q⟩ := (r.mem _ _ e).1.there; exact absurd (Heap.lt_size q) (Nat.not_lt.mpr ha)
  have hnames : ((cellsFrom (s.heap.objs.size + 1) fd.scope.names []).map (·.1)).Nodup := cellsFrom_names fd.scope.names 0 (s.heap.objs.size + 1) [] [] rfl ▸ hcells
  obtain ⟨h', tk, rfl, hkeep⟩ := x.done
  have rep : Rep ⟨G, A.deeper (callEnvC fd s.heap.objs.size f), fenv fd s.heap.objs.size f, true⟩ B Z ⟨fun x => (ns.zip ts).lookup x, μ⟩ { s with heap := h', toks := tk } := by
    refine ⟨r.heap fun b o _ e => hkeep b o e, _, _, ⟨x.toInCall.ns, fun n a hm => x.cell n a (lookup_of_mem_nodup hnames hm), hnames, x.apart, fun n a hm => Nat.ne_of_gt (x.above n a hm), f1, f2, f3,
      fun _ n a hm => (bigB a (Nat.le_of_lt (x.above n a hm))).1, fun n a hm => (bigB a (Nat.le_of_lt (x.above n a hm))).2.1, fun n a hm => (bigB a (Nat.le_of_lt (x.above n a hm))).2.2, hk, hglob, hblt⟩, ?_⟩
    intro y t hy
    obtain ⟨v, hv, iv⟩ := i.lookup hy
    refine ⟨v, ?_, iv⟩
    obtain ⟨b1, b2⟩ := bind_vals (ok := fun _ => true) (kindOf := (callEnvC fd s.heap.objs.size f).kindOf) (ns.zip vs) (fun _ => none) (fun _ => none) (by rw [hkeys]; exact hnd) hkd y v hv
    have hm : (y, v) ∈ ns.zip vs := mem_of_lookup hv
    unfold valOf
    rcases hkd (y, v) hm with q | q
    · have q' : (fenv fd s.heap.objs.size f).kindOf y = some .local := q
      show (match (fenv fd s.heap.objs.size f).kindOf y with | some .local => _ | some .cell => _ | _ => _) = _
      rw [q']; exact b1 q
    · have q' : (fenv fd s.heap.objs.size f).kindOf y = some .cell := q
      show (match (fenv fd s.heap.objs.size f).kindOf y with | some .local => _ | some .cell => _ | _ => _) = _
      rw [q']
      have q2 : ((fenv fd s.heap.objs.size f).cells.lookup y).isSome = true := cellsFrom_some _ _ _ (.inl q)
      show (if ((fenv fd s.heap.objs.size f).cells.lookup y).isSome = true then _ else _) = _
      rw [if_pos q2]; exact b2 q
  refine wpAny_mono ((h _ s.heap.objs.size hA.deeper).go B Z _ rep) (fun fl s' hq => ?_) fun _ _ q => q.elim
  obtain ⟨Z', b, σ', g, r', ib, p⟩ := hq
  cases b with
  | next => cases ib; exact ⟨.none, Z', .none, σ'.μ, rfl, g, r'.1, by simp only [IsT], p⟩
  | brk => exact p.elim
  | cont => exact p.elim
  | ret t => obtain ⟨v, rfl, iv⟩ := ib; exact ⟨v, Z', t, σ'.μ, rfl, g, r'.1, iv, p⟩

theorem stores_local {G : GS} {A : Around} {fd : FuncData} {L f : Addr} {x : Str} (h : fd.scope.names.lookup x = some .local) : Stores ⟨G, A, fenv fd L f, true⟩ x := .inl h
theorem stores_cell {G : GS} {A : Around} {fd : FuncData} {L f : Addr} {x : Str} (h : fd.scope.names.lookup x = some .cell) : Stores ⟨G, A, fenv fd L f, true⟩ x :=
  .inr ⟨rfl, h, cellsFrom_some _ _ _ (.inl h)⟩

/-- what is asked of a class of the text -/
structure ClsOk (K : Frag) (C : Addr) : Prop where
  ga : findIn K (.ref C) "__getattribute__" = some (some (.builtin "object.__getattribute__"))
  gt : findIn K (.ref C) "__getattr__" = some none
  dc : hasDictIn K C = true
  sa : findIn K (.ref C) "__setattr__" = some (some (.builtin "object.__setattr__"))
  po : plainOver K C = true

theorem cls_letter (w : World) : ClsOk (KK w) LetterC := ⟨by kernel_rfl, by kernel_rfl, by kernel_rfl, by kernel_rfl, by kernel_rfl⟩
theorem cls_box (w : World) : ClsOk (KK w) BoxC := ⟨by kernel_rfl, by kernel_rfl, by kernel_rfl, by kernel_rfl, by kernel_rfl⟩

section
variable {prog : Program} {w : World} {A : Around} {E : Value → Shared → Prop} {s : Shared} {K : Frag} {x C dx : Addr} {ds : List DictEntry} {n : Nat} {name : Str}

theorem instAt_of (hx : s.heap.get? x = some (instObj C dx)) (hd : s.heap.get? dx = some (dictOf ds n)) : InstAt s.heap x (instObj C dx) C (some (dictOf ds n)) := ⟨hx, rfl, rfl, hd⟩

theorem getAttr_inst {expr : Bool} {v : Value} {Q : Value → Shared → Prop} (X : K.In s.heap) (hx : s.heap.get? x = some (instObj C dx)) (hd : s.heap.get? dx = some (dictOf ds n)) (O : ClsOk K C) (hf : findIn K (.ref C) name = some none)
    (hl : getL name ds = some (some v)) (hv : handedIn v = true) (h : Q v { s with toks := s.toks + 1 }) : wpAny (model prog w) A (getAttr (.ref x) name expr) Q E s :=
  get_value X (instAt_of hx hd) O.ga (findObj_own (attr := none) O.dc hf rfl hl) hv h

theorem setAttr_inst {v : Value} {Q : Unit → Shared → Prop} (X : K.In s.heap) (hx : s.heap.get? x = some (instObj C dx)) (hd : s.heap.get? dx = some (dictOf ds n)) (O : ClsOk K C) (hf : findIn K (.ref C) name = some none)
    (hl : (getL name ds).isSome = true) (hz : (putL name (PyData.keyHash w.params name) (.str name (s.toks + 1)) v ds).length ≤ 1000)
    (h : ∀ h' tk, h'.get? dx = some (dictOf (putL name (PyData.keyHash w.params name) (.str name (s.toks + 1)) v ds) (putN name ds n)) → Heap.SameBut dx s.heap h' → Q () { s with heap := h', toks := tk }) :
    wpAny (model prog w) A (setAttr (.ref x) name v) Q E s := by
  have I := instAt_of hx hd
  obtain ⟨hh, g, d, tk₀, os⟩ := s
  refine set_plain X I O.sa (osa_open (s := ⟨hh, g, d, tk₀ + 1, os⟩) (r := none) X I O.po (by unfold takerIn; rw [hf]; rfl) fun b => ?_)
  obtain ⟨cd, hc, hd'⟩ := any_some O.dc
  have e : Obj.putName name (PyData.keyHash w.params name) (.str name (tk₀ + 1)) v (dictOf ds n) = dictOf (putL name (PyData.keyHash w.params name) (.str name (tk₀ + 1)) v ds) (putN name ds n) := putName_dict _ _ _ _ _ _
  have D' : (hh.update dx (Obj.putName name (PyData.keyHash w.params name) (.str name (tk₀ + 1)) v)).get? dx = some (dictOf (putL name (PyData.keyHash w.params name) (.str name (tk₀ + 1)) v ds) (putN name ds n)) := by
    rw [← e]; exact Heap.get?_update_self _ hd (by rw [e]; rfl)
  refine wpAny_bind (wpAny_pure (wpAny_bind (wpAny_bind (wpAny_loadPart hx (wpAny_bind ((looks_clsIn (h := hh) X hc).at ?_))))))
  rw [hd']
  refine wpAny_pure (a := some dx) (wpAny_bind (wpAny_pure (wpAny_bind ?_)))
  unfold nsSet
  refine wpAny_bind (wpAny_bind (wpAny_askSetting (wpAny_pure (wpAny_bind (wpAny_mkText (wpAny_bind (wpAny_loadPart hd ?_)))))))
  dsimp only
  have c : (!ds.toArray.any (·.key.isStr name) && ds.toArray.any (·.refKey)) = false := by
    rw [← Array.any_toList, ← Array.any_toList]
    unfold getL at hl
    split at hl
    · rename_i en he
      rw [List.any_eq_true.mpr ⟨en, List.mem_of_find?_eq_some he, List.find?_some he⟩]; rfl
    · split at hl
      · cases hl
      · rename_i z; rw [Bool.not_eq_true] at z; rw [z, Bool.and_false]
  rw [aRefKeyMayBeTheName_at, c]
  refine wpAny_updatePart hd ?_
  refine wpAny_bind (wpAny_lookBehind D' (pastItsLine_dict (by rw [List.size_toArray, sizeLine_eq]; dsimp only at hz; omega)) ?_)
  exact wpAny_pure (h _ _ D' (Heap.SameBut.update ..))
end

noncomputable def putA (name : Str) (t : Tree) : List (Str × Tree) → List (Str × Tree)
  | [] => [(name, t)]
  | (k, u) :: r => if k == name then (k, t) :: r else (k, u) :: putA name t r

theorem AttrsT.get {G : GS} {Z : Reg} {name : Str} {t : Tree} : ∀ {es : List (Str × Tree)} {ds : List DictEntry}, AttrsT G Z es ds → es.lookup name = some t → ∃ v, getL name ds = some (some v) ∧ IsT G Z t v
  | [], ds, _, h => by cases h
  | (k, u) :: es, ds, i, h => by
    obtain ⟨v, tk, r, rfl, i1, i2⟩ := i
    rw [List.lookup_cons] at h
    have hk : (ent G.w k tk v).key.isStr name = (k == name) := rfl
    cases hb : name == k with
    | true =>
      rw [hb] at h; cases h
      have e : name = k := by simpa using hb
      subst e
      exact ⟨v, by unfold getL; simp [ent, Value.isStr], i1⟩
    | false =>
      rw [hb] at h
      obtain ⟨v', a, b⟩ := AttrsT.get i2 h
      refine ⟨v', ?_, b⟩
      have hne : (k == name) = false := by
        have : name ≠ k := by simpa using hb
        simpa using fun q : k = name => this q.symm
      unfold getL at a ⊢
      rw [List.find?_cons, hk, hne]
      cases q : List.find? (fun x => x.key.isStr name) r with
      | some en => rw [q] at a; exact a
      | none =>
        rw [q] at a
        dsimp only at a
        split at a <;> cases a
theorem AttrsT.noRef {G : GS} {Z : Reg} : ∀ {es : List (Str × Tree)} {ds : List DictEntry}, AttrsT G Z es ds → ds.any (·.refKey) = false
  | [], ds, i => by cases i; rfl
  | (k, u) :: es, ds, i => by
    obtain ⟨v, tk, r, rfl, i1, i2⟩ := i
    rw [List.any_cons, AttrsT.noRef i2]; rfl
theorem AttrsT.getSome {G : GS} {Z : Reg} {name : Str} {es : List (Str × Tree)} {ds : List DictEntry} (i : AttrsT G Z es ds) : (getL name ds).isSome = true := by
  unfold getL
  split
  · rfl
  · rw [i.noRef]; rfl
theorem AttrsT.put {G : GS} {Z : Reg} {name : Str} {t : Tree} {v : Value} {tk : Tok} (j : IsT G Z t v) : ∀ {es : List (Str × Tree)} {ds : List DictEntry}, AttrsT G Z es ds →
    AttrsT G Z (putA name t es) (putL name (PyData.keyHash G.w.params name) (.str name tk) v ds)
  | [], ds, i => by cases i; exact ⟨v, tk, [], rfl, j, rfl⟩
  | (k, u) :: es, ds, i => by
    obtain ⟨v', tk', r, rfl, i1, i2⟩ := i
    have hk : (ent G.w k tk' v').key.isStr name = (k == name) := rfl
    unfold putA putL
    rw [hk]
    cases hb : k == name with
    | true => simp only [if_true]; exact ⟨v, tk', r, rfl, j, i2⟩
    | false => simp only [Bool.false_eq_true, if_false]; exact ⟨v', tk', _, rfl, i1, AttrsT.put j i2⟩
theorem AttrsT.length {G : GS} {Z : Reg} : ∀ {es : List (Str × Tree)} {ds : List DictEntry}, AttrsT G Z es ds → ds.length = es.length
  | [], ds, i => by cases i; rfl
  | (k, u) :: es, ds, i => by
    obtain ⟨v', tk', r, rfl, i1, i2⟩ := i
    simp [AttrsT.length i2]

noncomputable def Tree.handed : Tree → Bool
  | .blt _ => false
  | _ => true
theorem IsT.handed {G : GS} {Z : Reg} {t : Tree} {v : Value} (i : IsT G Z t v) (h : t.handed = true) : handedIn v = true := by
  cases t <;> simp only [IsT] at i
  case none => subst i; rfl
  case bool => subst i; rfl
  case int => obtain ⟨_, rfl⟩ := i; rfl
  case str => obtain ⟨_, rfl⟩ := i; rfl
  case bytes => obtain ⟨_, rfl⟩ := i; rfl
  case tup => obtain ⟨_, _, _, _, rfl, _⟩ := i; rfl
  case lst => obtain ⟨_, _, _, rfl, _⟩ := i; rfl
  case dct => obtain ⟨_, _, _, rfl, _⟩ := i; rfl
  case letter => obtain ⟨_, _, _, _, _, _, _, _, _, _, _, _, _, rfl, _⟩ := i; rfl
  case ptr => subst i; rfl
  case blt => cases h
  case typ => subst i; rfl

noncomputable def letterGet : Str → Tree → Option Tree
  | n, .letter u o f i q => if n == ("uid" : Str) then some u else if n == ("octets" : Str) then some o else if n == ("flags" : Str) then some f else if n == ("instant" : Str) then some i else if n == ("modseq" : Str) then some q else none
  | _, _ => none

section
variable {c : Cx} {σ : St} {Ψ : Tree → St → Prop} {Φ : FlT → St → Prop}

/-- the read of an object's own attribute -/
noncomputable def AttrOf (c : Cx) (σ : St) (name : Str) (t u : Tree) : Prop :=
  (∃ x C dx es, t = .ptr x ∧ σ.μ x = some (.inst C dx) ∧ σ.μ dx = some (.attrs es) ∧ ClsOk (KK c.G.w) C ∧ findIn (KK c.G.w) (.ref C) name = some none ∧ es.lookup name = some u) ∨
  (findIn (KK c.G.w) (.ref LetterC) name = some none ∧ letterGet name t = some u)

theorem getAttr_wv {name : Str} {t u : Tree} {v : Value} {B Z Z₀ : Reg} {s : Shared} {expr : Bool} (r : Rep c B Z σ s) (i : IsT c.G Z t v) (h : AttrOf c σ name t u) (hu : u.handed = true) {Q : Value → Shared → Prop}
    (k : ∀ v' tk, IsT c.G Z u v' → Q v' { s with toks := tk }) : wpAny (model c.G.prog c.G.w) c.A (getAttr v name expr) Q (fun _ _ => False) s := by
  rcases h with ⟨x, C, dx, es, rfl, h1, h2, O, hf, hl⟩ | ⟨hf, hg⟩
  · simp only [IsT] at i
    subst i
    have hx := (r.1.mem _ _ h1).1
    obtain ⟨ds, n, hd, j⟩ := (r.1.mem _ _ h2).1
    obtain ⟨v', hv', iv⟩ := j.get hl
    exact getAttr_inst r.1.kIn hx hd O hf hv' (iv.handed hu) (k _ _ iv)
  · have : ∃ a1 a2 a3 a4 a5, t = .letter a1 a2 a3 a4 a5 := by cases t <;> first | exact ⟨_, _, _, _, _, rfl⟩ | (simp [letterGet] at hg)
    obtain ⟨a1, a2, a3, a4, a5, rfl⟩ := this
    simp only [IsT] at i
    obtain ⟨a, dx, n, t₁, t₂, t₃, t₄, t₅, vu, vo, vf, vi, vq, rfl, z1, z2, j1, j2, j3, j4, j5⟩ := i
    have A0 : AttrsT c.G Z [(("uid" : Str), a1), ("octets", a2), ("flags", a3), ("instant", a4), ("modseq", a5)] [ent c.G.w "uid" t₁ vu, ent c.G.w "octets" t₂ vo, ent c.G.w "flags" t₃ vf, ent c.G.w "instant" t₄ vi, ent c.G.w "modseq" t₅ vq] :=
      ⟨vu, t₁, _, rfl, j1, vo, t₂, _, rfl, j2, vf, t₃, _, rfl, j3, vi, t₄, _, rfl, j4, vq, t₅, _, rfl, j5, rfl⟩
    have hl : List.lookup name [(("uid" : Str), a1), ("octets", a2), ("flags", a3), ("instant", a4), ("modseq", a5)] = some u := by
      simp only [letterGet] at hg
      simp only [List.lookup_cons]
      split at hg
      · rename_i e; rw [e]; exact hg
      · rename_i e1
        rw [Bool.not_eq_true] at e1
        rw [e1]
        split at hg
        · rename_i e; rw [e]; exact hg
        · rename_i e2
          rw [Bool.not_eq_true] at e2
          rw [e2]
          split at hg
          · rename_i e; rw [e]; exact hg
          · rename_i e3
            rw [Bool.not_eq_true] at e3
            rw [e3]
            split at hg
            · rename_i e; rw [e]; exact hg
            · rename_i e4
              rw [Bool.not_eq_true] at e4
              rw [e4]
              split at hg
              · rename_i e; rw [e]; exact hg
              · cases hg
    obtain ⟨v', hv', iv⟩ := A0.get hl
    exact getAttr_inst r.1.kIn (r.1.kZ _ _ z1) (r.1.kZ _ _ z2) (cls_letter _) hf hv' (iv.handed hu) (k _ _ iv)

noncomputable abbrev kAttrF (Ψ : Tree → St → Prop) (σ : St) (u : Tree) : Prop := u.handed = true ∧ Ψ u σ
noncomputable abbrev kAttr (c : Cx) (name : Str) (Ψ : Tree → St → Prop) (t : Tree) (σ : St) : Prop := Ex1 (AttrOf c σ name t) (kAttrF Ψ σ)
theorem EV.attr {e : Expr} {name : Str} {pos : Pos} (h : EV c e σ (kAttr c name Ψ))
    (he : eval (.Attribute e name pos) c.env = (do
      let o ← eval e c.env
      standAt pos.atName
      let r ← holding [o] (getAttr o name true)
      letTemporaryGo e o r
      pure r) := by with_unfolding_all rfl) : EV c (.Attribute e name pos) σ Ψ := .intro fun B Z s r =>
  Attribute_any_ (EV.run' h r fun v s₁ Z₁ t σ₁ g₁ r₁ i₁ ⟨u, ha, hu, p⟩ => getAttr_wv (Z₀ := Z) r₁ i₁ ha hu fun v' tk iv => .mk g₁ (r₁.toks tk) iv p) he

/-- a store into an object's attribute -/
inductive SetAt (c : Cx) (σ : St) (ot : Tree) (name : Str) (t : Tree) (F : Addr → List (Str × Tree) → Prop) : Prop
  | mk (x C dx : Addr) (es : List (Str × Tree)) (e : ot = .ptr x) (h₁ : σ.μ x = some (.inst C dx)) (h₂ : σ.μ dx = some (.attrs es)) (O : ClsOk (KK c.G.w) C) (hf : findIn (KK c.G.w) (.ref C) name = some none)
    (hl : (putA name t es).length ≤ 1000) (f : F dx (putA name t es))
noncomputable abbrev kSetAF (Φ : FlT → St → Prop) (σ : St) (dx : Addr) (es : List (Str × Tree)) : Prop := Φ .next { σ with μ := σ.μ.put dx (.attrs es) }
noncomputable abbrev kSetA (c : Cx) (name : Str) (Φ : FlT → St → Prop) (t ot : Tree) (σ : St) : Prop := SetAt c σ ot name t (kSetAF Φ σ)
theorem XV.setAttr {o e : Expr} {name : Str} {p pos : Pos} (h : EV c e σ (kTwo c o (kSetA c name Φ)))
    (hs : swapsWith e (some (.Attribute o name p)) pos.line c.env = pure false := by rfl) : XV c (.Assign [.Attribute o name p] e pos) σ Φ := .intro fun B Z s r =>
  plainObj_wpAny_Assign_Attribute (EV.run' h r fun v s₁ Z₁ t σ₁ g₁ r₁ i₁ k => EV.run' k r₁ fun ov s₂ Z₂ ot σ₂ g₂ r₂ i₂ hpq => by
    obtain ⟨x, C, dx, es, e, h1, h2, O, hf, hlen, q⟩ := hpq
    subst e
    simp only [IsT] at i₂
    subst i₂
    have hx := (r₂.1.mem _ _ h1).1
    obtain ⟨ds, n, hd, j⟩ := (r₂.1.mem _ _ h2).1
    have j' := fun tk => j.put (name := name) (tk := tk) (IsT.mono g₂.1 _ _ i₁)
    refine setAttr_inst r₂.1.kIn hx hd O hf j.getSome (by rw [AttrsT.length (j' _)]; exact hlen) fun h' tk hd' hs' => ?_
    exact .mk (g₁.trans g₂) (r₂.set (mo' := .attrs (putA name t es)) h2 (fun b o hb e => (hs'.2 b hb).trans e) ⟨_, _, hd', j' _⟩) isNext q) hs
end

/-! ### keys and values, for any kind of key -/
noncomputable def KVs {K : Type} (G : GS) (Z : Reg) : List (K × Tree) → List (K × Value) → Prop
  | [], ds => ds = []
  | (k, t) :: es, ds => ∃ v r, ds = (k, v) :: r ∧ IsT G Z t v ∧ KVs G Z es r
theorem kvs_pairs {G : GS} {Z : Reg} : ∀ {es : List (Int × Tree)} {ds : List (Int × Value)}, PairsT G Z es ds ↔ KVs G Z es ds
  | [], ds => by simp only [PairsT, KVs]
  | (k, t) :: es, ds => by
    simp only [PairsT, KVs]
    exact ⟨fun ⟨v, r, e, i, j⟩ => ⟨v, r, e, i, kvs_pairs.mp j⟩, fun ⟨v, r, e, i, j⟩ => ⟨v, r, e, i, kvs_pairs.mpr j⟩⟩
theorem kvs_named {G : GS} {Z : Reg} : ∀ {es : List (Str × Tree)} {ds : List (Str × Value)}, NamedT G Z es ds ↔ KVs G Z es ds
  | [], ds => by simp only [NamedT, KVs]
  | (k, t) :: es, ds => by
    simp only [NamedT, KVs]
    exact ⟨fun ⟨v, r, e, i, j⟩ => ⟨v, r, e, i, kvs_named.mp j⟩, fun ⟨v, r, e, i, j⟩ => ⟨v, r, e, i, kvs_named.mpr j⟩⟩

section
set_option linter.unusedSectionVars false
variable {K : Type} [DecidableEq K] {G : GS} {Z : Reg}
/-- the value under a key -/
noncomputable def kget (es : List (K × Tree)) (k : K) : Option Tree := (es.find? fun e => decide (e.1 = k)).map (·.2)
/-- a key's value stored -/
noncomputable def kput (es : List (K × Tree)) (k : K) (t : Tree) : List (K × Tree) := if es.any (fun e => decide (e.1 = k)) then es.map (fun e => if e.1 = k then (e.1, t) else e) else es ++ [(k, t)]
theorem KVs.keys : ∀ {es : List (K × Tree)} {ds : List (K × Value)}, KVs G Z es ds → ds.map (·.1) = es.map (·.1)
  | [], ds, i => by cases i; rfl
  | (k, t) :: es, ds, i => by obtain ⟨v, r, rfl, _, j⟩ := i; simp [j.keys]
theorem KVs.length {es : List (K × Tree)} {ds : List (K × Value)} (i : KVs G Z es ds) : ds.length = es.length := by
  have := congrArg List.length i.keys; simpa using this
theorem KVs.get {k : K} : ∀ {es : List (K × Tree)} {ds : List (K × Value)}, KVs G Z es ds →
    (kget es k = none ∧ valueAt ds k = none) ∨ ∃ t v, kget es k = some t ∧ valueAt ds k = some v ∧ IsT G Z t v
  | [], ds, i => by cases i; exact .inl ⟨rfl, rfl⟩
  | (k', t) :: es, ds, i => by
    obtain ⟨v, r, rfl, i1, j⟩ := i
    unfold kget valueAt
    simp only [List.find?_cons]
    by_cases h : k' = k
    · simp only [h, decide_true, Option.map_some]
      exact .inr ⟨t, v, rfl, rfl, i1⟩
    · simp only [h, decide_false]
      exact j.get
theorem KVs.any {k : K} : ∀ {es : List (K × Tree)} {ds : List (K × Value)}, KVs G Z es ds → (ds.any fun kv => decide (kv.1 = k)) = es.any fun e => decide (e.1 = k)
  | [], ds, i => by cases i; rfl
  | (k', t) :: es, ds, i => by
    obtain ⟨v, r, rfl, i1, j⟩ := i
    rw [List.any_cons, List.any_cons, j.any]
theorem KVs.map_put {k : K} {t : Tree} {v : Value} (i : IsT G Z t v) : ∀ {es : List (K × Tree)} {ds : List (K × Value)}, KVs G Z es ds →
    KVs G Z (es.map fun e => if e.1 = k then (e.1, t) else e) (ds.map fun e => if e.1 = k then (e.1, v) else e)
  | [], ds, j => by cases j; rfl
  | (k', u) :: es, ds, j => by
    obtain ⟨v', r, rfl, i1, j⟩ := j
    simp only [List.map_cons]
    by_cases h : k' = k
    · simp only [h, if_true]; exact ⟨v, _, rfl, i, j.map_put i⟩
    · simp only [h, if_false]; exact ⟨v', _, rfl, i1, j.map_put i⟩
theorem KVs.snoc {k : K} {t : Tree} {v : Value} (i : IsT G Z t v) : ∀ {es : List (K × Tree)} {ds : List (K × Value)}, KVs G Z es ds → KVs G Z (es ++ [(k, t)]) (ds ++ [(k, v)])
  | [], ds, j => by cases j; exact ⟨v, [], rfl, i, rfl⟩
  | (k', u) :: es, ds, j => by obtain ⟨v', r, rfl, i1, j⟩ := j; exact ⟨v', _, rfl, i1, j.snoc i⟩
theorem KVs.put {k : K} {t : Tree} {v : Value} (i : IsT G Z t v) {es : List (K × Tree)} {ds : List (K × Value)} (j : KVs G Z es ds) : KVs G Z (kput es k t) (stored ds k v) := by
  unfold kput stored
  rw [j.any]
  split
  · exact j.map_put i
  · exact j.snoc i
end

theorem AreT.get {G : GS} {Z : Reg} : ∀ {ts : List Tree} {vs : List Value} {i : Nat} {t : Tree}, AreT G Z ts vs → ts[i]? = some t → ∃ v, vs[i]? = some v ∧ IsT G Z t v
  | [], _, i, t, _, h => by simp at h
  | u :: ts, vs, i, t, j, h => by
    simp only [AreT] at j
    obtain ⟨v, r, rfl, i1, j⟩ := j
    cases i with
    | zero => simp at h; subst h; exact ⟨v, by simp, i1⟩
    | succ i => simp at h ⊢; exact j.get h
theorem AreT.get' {G : GS} {Z : Reg} : ∀ {ts : List Tree} {vs : List Value} {i : Nat} {v : Value}, AreT G Z ts vs → vs[i]? = some v → ∃ t, ts[i]? = some t ∧ IsT G Z t v
  | [], vs, i, v, j, h => by simp only [AreT] at j; subst j; simp at h
  | u :: ts, vs, i, v', j, h => by
    simp only [AreT] at j
    obtain ⟨v, r, rfl, i1, j⟩ := j
    cases i with
    | zero => simp at h; subst h; exact ⟨u, by simp, i1⟩
    | succ i => simp at h ⊢; exact j.get' h
theorem AreT.append {G : GS} {Z : Reg} : ∀ {ts us : List Tree} {vs ws : List Value}, AreT G Z ts vs → AreT G Z us ws → AreT G Z (ts ++ us) (vs ++ ws)
  | [], us, vs, ws, i, j => by simp only [AreT] at i; subst i; exact j
  | t :: ts, us, vs, ws, i, j => by
    simp only [AreT] at i
    obtain ⟨v, r, rfl, i1, i2⟩ := i
    simp only [List.cons_append, AreT]
    exact ⟨v, _, rfl, i1, i2.append j⟩
theorem AreT.one {G : GS} {Z : Reg} {t : Tree} {v : Value} (i : IsT G Z t v) : AreT G Z [t] [v] := by simp only [AreT]; exact ⟨v, [], rfl, i, rfl⟩
theorem AreT.set {G : GS} {Z : Reg} {t : Tree} {v : Value} (i : IsT G Z t v) : ∀ {ts : List Tree} {vs : List Value} (k : Nat), AreT G Z ts vs → AreT G Z (ts.set k t) (vs.set k v)
  | [], vs, k, j => by simp only [AreT] at j; subst j; simp [AreT]
  | u :: ts, vs, k, j => by
    simp only [AreT] at j
    obtain ⟨v', r, rfl, i1, j⟩ := j
    cases k with
    | zero => simp only [List.set_cons_zero, AreT]; exact ⟨v, _, rfl, i, j⟩
    | succ k => simp only [List.set_cons_succ, AreT]; exact ⟨v', _, rfl, i1, j.set i k⟩

/-- a list or a tuple as it is read -/
noncomputable def SeqOf (σ : St) (t : Tree) (ts : List Tree) : Prop := t = .lst ts ∨ t = .tup ts ∨ ∃ a, t = .ptr a ∧ σ.μ a = some (.lst ts)
/-- a list as it is read -/
noncomputable def LstOf (σ : St) (t : Tree) (ts : List Tree) : Prop := t = .lst ts ∨ ∃ a, t = .ptr a ∧ σ.μ a = some (.lst ts)
theorem LstOf.seq {σ : St} {t : Tree} {ts : List Tree} (h : LstOf σ t ts) : SeqOf σ t ts := h.elim .inl fun x => .inr (.inr x)
noncomputable def DctOf (σ : St) (t : Tree) (es : List (Int × Tree)) : Prop := t = .dct es ∨ ∃ a, t = .ptr a ∧ σ.μ a = some (.dct es)

theorem plainList_of {h : Heap} {a : Addr} {vs : List Value} {n : Nat} (e : h.get? a = some (lstObj vs n)) : h.PlainList a vs.toArray := ⟨n, e⟩

theorem lst_conc {c : Cx} {B Z : Reg} {σ : St} {s : Shared} {t : Tree} {v : Value} {ts : List Tree} (r : Rep c B Z σ s) (i : IsT c.G Z t v) (h : LstOf σ t ts) :
    ∃ a vs, v = .ref a ∧ AreT c.G Z ts vs ∧ s.heap.PlainList a vs.toArray := by
  rcases h with rfl | ⟨a, rfl, ha⟩
  · simp only [IsT] at i
    obtain ⟨a, vs, n, rfl, z, j⟩ := i
    exact ⟨a, vs, rfl, j, n, r.1.kZ _ _ z⟩
  · simp only [IsT] at i
    subst i
    obtain ⟨vs, n, z, j⟩ := (r.1.mem _ _ ha).1
    exact ⟨a, vs, rfl, j, n, z⟩
theorem seq_conc {c : Cx} {B Z : Reg} {σ : St} {s : Shared} {t : Tree} {v : Value} {ts : List Tree} (r : Rep c B Z σ s) (i : IsT c.G Z t v) (h : SeqOf σ t ts) :
    ∃ a vs, v = .ref a ∧ AreT c.G Z ts vs ∧ (s.heap.IsList a vs.toArray ∨ IsTup s.heap a vs.toArray) := by
  rcases h with h | rfl | h
  · obtain ⟨a, vs, e, j, p⟩ := lst_conc r i (.inl h); exact ⟨a, vs, e, j, .inl p.isList⟩
  · simp only [IsT] at i
    obtain ⟨a, o, vs, n, rfl, z, z1, z2, j⟩ := i
    exact ⟨a, vs, rfl, j, .inr ⟨_, r.1.kZ _ _ z, z1, n, z2⟩⟩
  · obtain ⟨a, vs, e, j, p⟩ := lst_conc r i (.inr h); exact ⟨a, vs, e, j, .inl p.isList⟩
theorem dct_conc {c : Cx} {B Z : Reg} {σ : St} {s : Shared} {t : Tree} {v : Value} {es : List (Int × Tree)} (r : Rep c B Z σ s) (i : IsT c.G Z t v) (h : DctOf σ t es) :
    ∃ a kvs, v = .ref a ∧ KVs c.G Z es kvs ∧ s.heap.DictOf (intKind c.G.prog c.G.w) a kvs ∧ (a == sysModules) = false := by
  rcases h with rfl | ⟨a, rfl, ha⟩
  · simp only [IsT] at i
    obtain ⟨a, o, kvs, rfl, z, d, q, j⟩ := i
    exact ⟨a, kvs, rfl, kvs_pairs.mp j, Heap.dictOf_iff.mpr ⟨o, r.1.kZ _ _ z, d⟩, q⟩
  · simp only [IsT] at i
    subst i
    obtain ⟨kvs, z, q, j⟩ := (r.1.mem _ _ ha).1
    exact ⟨a, kvs, rfl, kvs_pairs.mp j, z, q⟩

section
variable {c : Cx} {σ : St} {Ψ : Tree → St → Prop} {Φ : FlT → St → Prop}

/-! ### Subscripts -/
theorem wpAny_subscripted {M : Model} {A : Around} {E : Value → Shared → Prop} {s : Shared} {slice : Expr} {o i : Value} {Q : Value → Shared → Prop} (h : wpAny M A (getItem o i) Q E s) : wpAny M A (subscripted slice false o i) Q E s := by
  cases slice with
  | Slice lo hi st p => cases st <;> exact wpAny_operateT h
  | _ => exact wpAny_operateT h
theorem wpAny_subscriptTail {prog : Program} {w : World} {A : Around} {E : Value → Shared → Prop} {s : Shared} {value slice : Expr} {o i : Value} {T id : String} {Q : Value → Shared → Prop} (hT : s.TypeIs o T)
    (hl : typeLookup (.type T) "__getitem__" = pure (some (.builtin id))) (h : wpAny (model prog w) A (getItem o i) Q E s) : wpAny (model prog w) A (subscriptTail value slice o i) Q E s := by
  unfold subscriptTail
  refine wpAny_bind ?_
  rw [getitemInPython_of_ne hT.not_modules]
  refine wpAny_bind (wpAny_specialOf hT hl ?_)
  exact wpAny_pure (wpAny_bind (wpAny_subscripted (wpAny_mono h (fun r s₃ h₃ => wpAny_bind (wpAny_letTemporaryGo (wpAny_pure h₃))) fun _ _ x => x)))

/-- an item read -/
noncomputable def GK (c : Cx) (σ : St) (t i u : Tree) : Prop := ∀ B Z s v vi, Rep c B Z σ s → IsT c.G Z t v → IsT c.G Z i vi →
  (∃ T id, s.TypeIs v T ∧ typeLookup (.type T) "__getitem__" = pure (some (.builtin id))) ∧
  ∀ Q : Value → Shared → Prop, (∀ v' tk, IsT c.G Z u v' → Q v' { s with toks := tk }) → wpAny (model c.G.prog c.G.w) c.A (getItem v vi) Q (fun _ _ => False) s

noncomputable abbrev kItm (c : Cx) (Ψ : Tree → St → Prop) (t ti : Tree) (σ : St) : Prop := Ex1 (GK c σ t ti) (kF Ψ σ)
theorem EV.item {e i : Expr} {pos} (h : EV c e σ (kTwo c i (kItm c Ψ))) : EV c (.Subscript e i pos) σ Ψ := .intro fun B Z s r =>
  Subscript_ (EV.run' h r fun v s₁ Z₁ t σ₁ g₁ r₁ i₁ k => EV.run' k r₁ fun vi s₂ Z₂ ti σ₂ g₂ r₂ i₂ ⟨u, hk, p⟩ => by
    obtain ⟨⟨T, id, hT, hl⟩, hk⟩ := hk B Z₂ s₂ v vi r₂ (IsT.mono g₂.1 _ _ i₁) i₂
    exact wpAny_subscriptTail hT hl (hk _ fun v' tk iv => .mk (g₁.trans g₂) (r₂.toks tk) iv p))

theorem seqIndex_at {k : Int} {n j : Nat} (h : (0 ≤ k ∧ j = k.toNat ∨ k < 0 ∧ -(n : Int) ≤ k ∧ j = (k + n).toNat)) (hj : j < n) : seqIndex? k n = some j := by
  unfold seqIndex?
  rcases h with ⟨h, rfl⟩ | ⟨h, h', rfl⟩
  · have e : ¬ k < 0 := by omega
    simp only [e, if_false]
    rw [if_pos (by simp; omega)]
  · simp only [h, if_true]
    rw [if_pos (by simp; omega)]

theorem GK.seq {t u : Tree} {ts : List Tree} {k : Int} {j : Nat} (h : SeqOf σ t ts) (hk : (0 ≤ k ∧ j = k.toNat ∨ k < 0 ∧ -(ts.length : Int) ≤ k ∧ j = (k + ts.length).toNat)) (hu : ts[j]? = some u) (hlen : ts.length ≤ 1000000) : GK c σ t (.int k) u := by
  intro B Z s v vi r i i₂
  obtain ⟨tk, rfl⟩ := isInt.mp i₂
  obtain ⟨a, vs, rfl, j', hs⟩ := seq_conc r i h
  have hl := AreT.length j'
  obtain ⟨v', hv', iv⟩ := j'.get hu
  have hjl : j < ts.length := (List.getElem?_eq_some_iff.mp hu).1
  rcases hs with hs | hs
  · refine ⟨⟨"list", _, hs.typeIs, slot_list_getitem.lookup⟩, fun Q q => ?_⟩
    rcases hk with ⟨h0, rfl⟩ | ⟨h0, h1, rfl⟩
    · exact wpAny_getItem_list hs h0 (by omega) (by simpa using hv') (q v' s.toks iv)
    · exact wpAny_getItem_list_neg hs h0 (by simp [hl]; omega) (by omega) (by simpa [hl] using hv') (q v' s.toks iv)
  · refine ⟨⟨"tuple", _, hs.typeIs, slot_tuple_getitem.lookup⟩, fun Q q => ?_⟩
    refine PyProof.Rows.getItem_tuple hs (by omega) (by omega) (j := j) ?_ (by simpa using hv') (q v' s.toks iv)
    exact seqIndex_at (by simpa [hl] using hk) (by simp [hl]; exact hjl)
theorem GK.dct {t u : Tree} {es : List (Int × Tree)} {k : Int} (h : DctOf σ t es) (hu : kget es k = some u) : GK c σ t (.int k) u := by
  intro B Z s v vi r i i₂
  obtain ⟨tk, rfl⟩ := isInt.mp i₂
  obtain ⟨a, kvs, rfl, j, hd, hs⟩ := dct_conc r i h
  refine ⟨⟨"dict", _, hd.typeIs, slot_dict_getitem.lookup⟩, fun Q q => ?_⟩
  rcases j.get (k := k) with ⟨h1, h2⟩ | ⟨t', v', h1, h2, iv⟩
  · rw [h1] at hu; cases hu
  · rw [h1] at hu; cases hu
    exact wpAny_getItem_of (intKind_is _ _ _ _) hd.mapOf h2 (q v' _ iv)
theorem GK.sdct {a : Addr} {u : Tree} {es : List (Str × Tree)} {k : Str} (h : σ.μ a = some (.sdct es)) (hu : kget es k = some u) : GK c σ (.ptr a) (.str k) u := by
  intro B Z s v vi r i i₂
  simp only [IsT] at i i₂
  subst i
  obtain ⟨tk, rfl⟩ := i₂
  obtain ⟨kvs, hd, hs, j⟩ := (r.1.mem _ _ h).1
  refine ⟨⟨"dict", _, hd.typeIs, slot_dict_getitem.lookup⟩, fun Q q => ?_⟩
  rcases (kvs_named.mp j).get (k := k) with ⟨h1, h2⟩ | ⟨t', v', h1, h2, iv⟩
  · rw [h1] at hu; cases hu
  · rw [h1] at hu; cases hu
    exact wpAny_getItem_of (strKind_is _ _ _ _) hd.mapOf h2 (q v' _ iv)

/-! ### in, not in -/
theorem CK.in_dct {t : Tree} {es : List (Int × Tree)} {k : Int} (h : DctOf σ t es) : CK c .In (.int k) t σ (kget es k).isSome := fun B Z s v₁ v₂ r i₁ i₂ => by
  obtain ⟨tk, rfl⟩ := isInt.mp i₁
  obtain ⟨a, kvs, rfl, j, hd, hs⟩ := dct_conc r i₂ h
  refine wpAny_in_of (intKind_is _ _ _ _) hs hd.mapOf ⟨?_, Z, .refl B Z, r.toks _⟩
  rcases j.get (k := k) with ⟨h1, h2⟩ | ⟨t', v', h1, h2, iv⟩ <;> rw [h1, h2] <;> rfl
theorem CK.notin_dct {t : Tree} {es : List (Int × Tree)} {k : Int} (h : DctOf σ t es) : CK c .NotIn (.int k) t σ (!(kget es k).isSome) := fun B Z s v₁ v₂ r i₁ i₂ => by
  obtain ⟨tk, rfl⟩ := isInt.mp i₁
  obtain ⟨a, kvs, rfl, j, hd, hs⟩ := dct_conc r i₂ h
  refine wpAny_notIn_of (intKind_is _ _ _ _) hs hd.mapOf ⟨?_, Z, .refl B Z, r.toks _⟩
  rcases j.get (k := k) with ⟨h1, h2⟩ | ⟨t', v', h1, h2, iv⟩ <;> rw [h1, h2] <;> rfl

/-! ### Stores into dicts and lists -/
theorem setItem_dct {a : Addr} {es : List (Int × Tree)} {k : Int} {t : Tree} (ha : σ.μ a = some (.dct es)) (hlen : es.length ≤ 1000000) {B Z : Reg} {s : Shared} {v vi : Value} (r : Rep c B Z σ s) (i : IsT c.G Z t v) (i₂ : IsT c.G Z (.int k) vi)
    (Q : Unit → Shared → Prop) (q : ∀ h' tk, MIs c.G Z h' a (.dct (kput es k t)) → Heap.SameBut a s.heap h' → Q () { s with heap := h', toks := tk }) : wpAny (model c.G.prog c.G.w) c.A (PySem.setItem (.ref a) vi v) Q (fun _ _ => False) s := by
  obtain ⟨tk, rfl⟩ := isInt.mp i₂
  obtain ⟨kvs, hd, hs, j⟩ := (r.1.mem _ _ ha).1
  have hl := (kvs_pairs.mp j).length
  exact wpAny_setItem_pairs (intKind_is _ _ _ _) hd (fun h' hd' hs' => q h' _ ⟨_, hd', hs, kvs_pairs.mpr ((kvs_pairs.mp j).put i)⟩ hs') (by rw [sizeLine_eq]; omega)
theorem setItem_sdct {a : Addr} {es : List (Str × Tree)} {k : Str} {t : Tree} (ha : σ.μ a = some (.sdct es)) (hlen : es.length ≤ 1000000) {B Z : Reg} {s : Shared} {v vi : Value} (r : Rep c B Z σ s) (i : IsT c.G Z t v) (i₂ : IsT c.G Z (.str k) vi)
    (Q : Unit → Shared → Prop) (q : ∀ h' tk, MIs c.G Z h' a (.sdct (kput es k t)) → Heap.SameBut a s.heap h' → Q () { s with heap := h', toks := tk }) : wpAny (model c.G.prog c.G.w) c.A (PySem.setItem (.ref a) vi v) Q (fun _ _ => False) s := by
  simp only [IsT] at i₂
  obtain ⟨tk, rfl⟩ := i₂
  obtain ⟨kvs, hd, hs, j⟩ := (r.1.mem _ _ ha).1
  have hl := (kvs_named.mp j).length
  exact wpAny_setItem_pairs (strKind_is _ _ _ _) hd (fun h' hd' hs' => q h' _ ⟨_, hd', hs, kvs_named.mpr ((kvs_named.mp j).put i)⟩ hs') (by rw [sizeLine_eq]; omega)
end
section
open PySem PySem.W PyProof.Rows PySem.Calls PySem.SeqAt

/-! ### Equality of values -/
noncomputable def same {α : Type} (t u : α) : Bool := @decide (t = u) (Classical.propDecidable _)
theorem same_iff {α : Type} {t u : α} : same t u = true ↔ t = u := by unfold same; simp
theorem same_self {α : Type} {t : α} : same t t = true := same_iff.mpr rfl
theorem same_false {α : Type} {t u : α} (h : t ≠ u) : same t u = false := by
  cases q : same t u with
  | false => rfl
  | true => exact absurd (same_iff.mp q) h
theorem same_decide {α : Type} [DecidableEq α] {t u : α} : same t u = decide (t = u) := by
  by_cases h : t = u
  · rw [same_iff.mpr h]; simp [h]
  · rw [same_false h]; simp [h]
theorem same_inj {α β : Type} {f : α → β} (hf : ∀ a b, f a = f b → a = b) {t u : α} : same (f t) (f u) = same t u := by
  by_cases h : t = u
  · rw [h, same_self, same_self]
  · rw [same_false h, same_false fun q => h (hf _ _ q)]

inductive Cmp : Nat → Tree → Tree → Prop
  | none {n : Nat} : Cmp n .none .none
  | bool {n : Nat} (a b : Bool) : Cmp n (.bool a) (.bool b)
  | int {n : Nat} (a b : Int) : Cmp n (.int a) (.int b)
  | str {n : Nat} (a b : Str) : Cmp n (.str a) (.str b)
  | bytes {n : Nat} (a b : Array UInt8) : Cmp n (.bytes a) (.bytes b)
  | tup {n : Nat} {ts us : List Tree} (h : ∀ (i : Nat) (t u : Tree), ts[i]? = some t → us[i]? = some u → Cmp n t u) : Cmp (n + 1) (.tup ts) (.tup us)
  | lst {n : Nat} {ts us : List Tree} (h : ∀ (i : Nat) (t u : Tree), ts[i]? = some t → us[i]? = some u → Cmp n t u) : Cmp (n + 1) (.lst ts) (.lst us)

theorem seq_obj {vs ws : List Value} {n m : Nat} {c c' : Value} (h : (some ({ cls := c, data := .seq vs.toArray n } : Obj)) = some { cls := c', data := .seq ws.toArray m }) : vs = ws := by
  have := Option.some.inj h
  injection this with _ _ h3 _
  injection h3 with h4 _
  injection h4

theorem AreT.uniq {G : GS} {Z : Reg} {ts us : List Tree} {vs : List Value} (i : AreT G Z ts vs) (j : AreT G Z us vs) (h : ∀ (k : Nat) (t u : Tree) (v : Value), ts[k]? = some t → us[k]? = some u → IsT G Z t v → IsT G Z u v → t = u) : ts = us := by
  refine List.ext_getElem? fun k => ?_
  have l1 := AreT.length i
  have l2 := AreT.length j
  cases q : ts[k]? with
  | none => rw [List.getElem?_eq_none_iff] at q; rw [List.getElem?_eq_none (by omega)]
  | some t =>
    obtain ⟨v, hv, it⟩ := i.get q
    obtain ⟨u, hu, iu⟩ := j.get' hv
    rw [hu, h k t u v q hu it iu]

theorem IsT.uniq {G : GS} {Z : Reg} : ∀ {n : Nat} {t u : Tree}, Cmp n t u → ∀ {v : Value}, IsT G Z t v → IsT G Z u v → t = u := by
  intro n t u hc
  induction hc with
  | none => intros; rfl
  | bool a b => intro v i j; simp only [IsT] at i j; subst i; cases j; rfl
  | int a b => intro v i j; simp only [IsT] at i j; obtain ⟨_, rfl⟩ := i; obtain ⟨_, e⟩ := j; cases e; rfl
  | str a b => intro v i j; simp only [IsT] at i j; obtain ⟨_, rfl⟩ := i; obtain ⟨_, e⟩ := j; cases e; rfl
  | bytes a b => intro v i j; simp only [IsT] at i j; obtain ⟨_, rfl⟩ := i; obtain ⟨_, e⟩ := j; cases e; rfl
  | tup h ih =>
    intro v i j
    simp only [IsT] at i j
    obtain ⟨a, o, vs, m, rfl, z, z1, z2, i⟩ := i
    obtain ⟨b, o', ws, m', e, z', z1', z2', j⟩ := j
    cases e
    rw [z] at z'
    cases z'
    rw [z2] at z2'
    injection z2' with e
    injection e with e
    subst e
    rw [i.uniq j fun k t u v h1 h2 h3 h4 => ih k t u h1 h2 h3 h4]
  | lst h ih =>
    intro v i j
    simp only [IsT] at i j
    obtain ⟨a, vs, m, rfl, z, i⟩ := i
    obtain ⟨b, ws, m', e, z', j⟩ := j
    cases e
    rw [z] at z'
    have e := seq_obj z'
    subst e
    rw [i.uniq j fun k t u v h1 h2 h3 h4 => ih k t u h1 h2 h3 h4]

theorem all_same {ts us : List Tree} (h : ts.length = us.length) : ((List.range ts.length).all fun j => same ts[j]? us[j]?) = same ts us := by
  rw [Bool.eq_iff_iff, List.all_eq_true, same_iff]
  constructor
  · intro q
    refine List.ext_getElem? fun i => ?_
    by_cases hi : i < ts.length
    · exact same_iff.mp (q i (List.mem_range.mpr hi))
    · rw [List.getElem?_eq_none (by omega), List.getElem?_eq_none (by omega)]
  · rintro rfl i _; exact same_self

theorem eqBool_bytes {A : Around} {s : Shared} {b d : Array UInt8} {t u : Tok} : EqAt A s (.bytes b t) (.bytes d u) (same b d) := fun prog w E Q h => by
  unfold eqBool
  refine wpAny_holding ?_
  refine wpAny_ite_split (fun hab => ?_) (fun _ => ?_)
  · have e : b = d := by have := eq_of_beq hab; injection this
    subst e
    rw [same_self] at h
    exact wpAny_bind (wpAny_rule (wpAny_pure h))
  · refine wpAny_bind (cmp_ofEq (M := model prog w) ?_ : wpAny _ _ (richCompare .Eq (.bytes b t) (.bytes d u)) _ _ s)
    show wpAny _ _ (compareOp .Eq (.bytes b t) (.bytes d u)) _ _ s
    refine eq_bytes (wpAny_truthy_bool ?_)
    have : (b.toList == d.toList) = same b d := by
      by_cases e : b = d
      · subst e; rw [same_self]; simp
      · rw [same_false e]
        refine beq_eq_false_iff_ne.mpr fun q => e (Array.toList_inj.mp q)
    rw [this]; exact h

theorem all_min {ts us : List Tree} : ((List.range (min ts.length us.length)).all (fun j => same ts[j]? us[j]?) && ts.length == us.length) = same ts us := by
  by_cases h : ts.length = us.length
  · rw [← h, Nat.min_self, all_same h]; simp
  · rw [same_false fun q => h (congrArg List.length q)]; simp [h]

theorem eqAt_items {G : GS} {Z : Reg} {s : Shared} {n : Nat} {A : Around} {ts us : List Tree} {vs ws : List Value} (i : AreT G Z ts vs) (j : AreT G Z us ws)
    (h : ∀ (k : Nat) (t u : Tree) (v w : Value), ts[k]? = some t → us[k]? = some u → IsT G Z t v → IsT G Z u w → EqAt A s v w (same t u)) :
    ∀ k (h1 : k < vs.toArray.size) (h2 : k < ws.toArray.size), EqAt A s vs.toArray[k] ws.toArray[k] (same ts[k]? us[k]?) := fun k h1 h2 => by
  simp at h1 h2
  obtain ⟨t, ht, it⟩ := i.get' (i := k) (v := vs[k]) (by simp [h1])
  obtain ⟨u, hu, iu⟩ := j.get' (i := k) (v := ws[k]) (by simp [h2])
  rw [ht, hu, same_inj (f := some) (by simp)]
  simpa using h k t u _ _ ht hu it iu

theorem lists_at {G : GS} {Z : Reg} {s : Shared} {A : Around} {ts us : List Tree} {vs ws : List Value} {a b : Addr} (i : AreT G Z ts vs) (j : AreT G Z us ws) (ha : s.heap.IsList a vs.toArray) (hb : s.heap.IsList b ws.toArray) (hu : A.units < cLine)
    (h : ∀ (k : Nat) (t u : Tree) (v w : Value), ts[k]? = some t → us[k]? = some u → IsT G Z t v → IsT G Z u w → EqAt A.in1 s v w (same t u)) :
    RcAt A s (.ref a) (.ref b) (same ts us) ∧ RcNeAt A s (.ref a) (.ref b) (!same ts us) := by
  have l1 := AreT.length i
  have l2 := AreT.length j
  by_cases e : ts.length = us.length
  · have e1 := all_same e
    have hs : vs.toArray.size = ws.toArray.size := by simp; omega
    have hr : vs.toArray.size = ts.length := by simp [l1]
    rw [← e1, ← hr]
    exact ⟨RcAt.lists ha hb hs hu (eqAt_items (n := 0) i j h), RcNeAt.lists ha hb hs hu (eqAt_items (n := 0) i j h)⟩
  · have hs : (vs.toArray.size != ws.toArray.size) = true := by simp; omega
    rw [same_false fun q => e (congrArg List.length q)]
    exact ⟨RcAt.lists_lengths ha hb hs hu, RcNeAt.lists_lengths ha hb hs hu⟩
theorem tuples_at {G : GS} {Z : Reg} {s : Shared} {A : Around} {ts us : List Tree} {vs ws : List Value} {a b : Addr} (i : AreT G Z ts vs) (j : AreT G Z us ws) (ha : s.heap.IsTuple a vs.toArray) (hb : s.heap.IsTuple b ws.toArray) (hu : A.units < cLine)
    (h : ∀ (k : Nat) (t u : Tree) (v w : Value), ts[k]? = some t → us[k]? = some u → IsT G Z t v → IsT G Z u w → EqAt A.in1 s v w (same t u)) :
    RcAt A s (.ref a) (.ref b) (same ts us) ∧ RcNeAt A s (.ref a) (.ref b) (!same ts us) := by
  have l1 := AreT.length i
  have l2 := AreT.length j
  have e1 : ((List.range (min vs.toArray.size ws.toArray.size)).all (fun j => same ts[j]? us[j]?) && vs.toArray.size == ws.toArray.size) = same ts us := by
    rw [← all_min]; simp [l1, l2]
  rw [← e1]
  exact ⟨RcAt.tuples ha hb hu (eqAt_items (n := 0) i j h), RcNeAt.tuples ha hb hu (eqAt_items (n := 0) i j h)⟩

theorem eqAt_tree {G : GS} {Z : Reg} {s : Shared} (hZ : ∀ a o, Z a = some o → s.heap.get? a = some o) : ∀ {n : Nat} {t u : Tree}, Cmp n t u → ∀ {A : Around} {v w : Value}, A.units + n < cLine → IsT G Z t v → IsT G Z u w → EqAt A s v w (same t u) := by
  intro n t u hc
  induction hc with
  | none => intro A v w _ i j; simp only [IsT] at i j; subst i j; rw [same_self]; exact .same _
  | bool a b =>
    intro A v w _ i j
    simp only [IsT] at i j; subst i j
    rw [same_inj (f := Tree.bool) (by simp), same_decide]
    exact EqAt.bool_bool a b
  | int a b =>
    intro A v w _ i j
    simp only [IsT] at i j; obtain ⟨_, rfl⟩ := i; obtain ⟨_, rfl⟩ := j
    rw [same_inj (f := Tree.int) (by simp), same_decide]
    exact EqAt.int_int a _ b _
  | str a b =>
    intro A v w _ i j
    simp only [IsT] at i j; obtain ⟨t₁, rfl⟩ := i; obtain ⟨t₂, rfl⟩ := j
    rw [same_inj (f := Tree.str) (by simp), same_decide]
    have := EqAt.str_str (A := A) (s := s) a t₁ b t₂
    rwa [show (a == b) = decide (a = b) from by by_cases e : a = b <;> simp [e]] at this
  | bytes a b =>
    intro A v w _ i j
    simp only [IsT] at i j; obtain ⟨_, rfl⟩ := i; obtain ⟨_, rfl⟩ := j
    rw [same_inj (f := Tree.bytes) (by simp)]
    exact eqBool_bytes
  | tup h ih =>
    intro A v w hu i0 j0
    obtain ⟨a, o, vs, m, rfl, z, z1, z2, i⟩ := (by simpa only [IsT] using i0 : ∃ a o vs n, v = .ref a ∧ _)
    obtain ⟨b, o', ws, m', rfl, z', z1', z2', j⟩ := (by simpa only [IsT] using j0 : ∃ a o vs n, w = .ref a ∧ _)
    by_cases e : a = b
    · subst e
      rw [IsT.uniq (.tup h) i0 j0, same_self]; exact .same _
    · refine .of_refs e ?_
      rw [same_inj (f := Tree.tup) (by simp)]
      exact (tuples_at i j ⟨_, hZ _ _ z, z1, m, z2⟩ ⟨_, hZ _ _ z', z1', m', z2'⟩ (by omega) fun k t u v w h1 h2 h3 h4 => ih k t u h1 h2 (by show A.units + 1 + _ < cLine; omega) h3 h4).1
  | lst h ih =>
    intro A v w hu i0 j0
    obtain ⟨a, vs, m, rfl, z, i⟩ := (by simpa only [IsT] using i0 : ∃ a vs n, v = .ref a ∧ _)
    obtain ⟨b, ws, m', rfl, z', j⟩ := (by simpa only [IsT] using j0 : ∃ a vs n, w = .ref a ∧ _)
    by_cases e : a = b
    · subst e
      rw [IsT.uniq (.lst h) i0 j0, same_self]; exact .same _
    · refine .of_refs e ?_
      rw [same_inj (f := Tree.lst) (by simp)]
      exact (lists_at i j ⟨_, hZ _ _ z, rfl, m, rfl⟩ ⟨_, hZ _ _ z', rfl, m', rfl⟩ (by omega) fun k t u v w h1 h2 h3 h4 => ih k t u h1 h2 (by show A.units + 1 + _ < cLine; omega) h3 h4).1

theorem Room.units {n : Nat} {A : Around} (h : Room n A) : A.units ≤ 9000 := by have := h.2.2; omega
theorem cLine_is' : cLine = 9900 := rfl

section
variable {c : Cx} {σ : St}

theorem lists_cmp {t u : Tree} {ts us : List Tree} (h₁ : LstOf σ t ts) (h₂ : LstOf σ u us) (hr : Room 0 c.A) (hc : ∀ (k : Nat) (t u : Tree), ts[k]? = some t → us[k]? = some u → Cmp 20 t u) {B Z : Reg} {s : Shared} {v w : Value}
    (r : Rep c B Z σ s) (i : IsT c.G Z t v) (j : IsT c.G Z u w) : RcAt c.A s v w (same ts us) ∧ RcNeAt c.A s v w (!same ts us) := by
  obtain ⟨a, vs, rfl, i', pa⟩ := lst_conc r i h₁
  obtain ⟨b, ws, rfl, j', pb⟩ := lst_conc r j h₂
  have hu := hr.units
  exact lists_at i' j' pa.isList pb.isList (by rw [cLine_is']; omega) fun k t u v w h1 h2 h3 h4 => eqAt_tree r.1.kZ (hc k t u h1 h2) (by show c.A.units + 1 + 20 < cLine; rw [cLine_is']; omega) h3 h4
theorem CK.eq_lst {t u : Tree} {ts us : List Tree} (h₁ : LstOf σ t ts) (h₂ : LstOf σ u us) (hr : Room 0 c.A) (hc : ∀ (k : Nat) (t u : Tree), ts[k]? = some t → us[k]? = some u → Cmp 20 t u) : CK c .Eq t u σ (same ts us) := fun B Z s v w r i j =>
  (lists_cmp h₁ h₂ hr hc r i j).1 _ _ _ _ ⟨rfl, Z, .refl B Z, r⟩
theorem CK.ne_lst {t u : Tree} {ts us : List Tree} (h₁ : LstOf σ t ts) (h₂ : LstOf σ u us) (hr : Room 0 c.A) (hc : ∀ (k : Nat) (t u : Tree), ts[k]? = some t → us[k]? = some u → Cmp 20 t u) : CK c .NotEq t u σ (!same ts us) := fun B Z s v w r i j =>
  (lists_cmp h₁ h₂ hr hc r i j).2 _ _ _ _ ⟨rfl, Z, .refl B Z, r⟩
theorem tups_cmp {ts us : List Tree} (hr : Room 0 c.A) (hc : ∀ (k : Nat) (t u : Tree), ts[k]? = some t → us[k]? = some u → Cmp 20 t u) {B Z : Reg} {s : Shared} {v w : Value}
    (r : Rep c B Z σ s) (i : IsT c.G Z (.tup ts) v) (j : IsT c.G Z (.tup us) w) : RcAt c.A s v w (same ts us) ∧ RcNeAt c.A s v w (!same ts us) := by
  simp only [IsT] at i j
  obtain ⟨a, o, vs, m, rfl, z, z1, z2, i⟩ := i
  obtain ⟨b, o', ws, m', rfl, z', z1', z2', j⟩ := j
  have hu := hr.units
  exact tuples_at i j ⟨_, r.1.kZ _ _ z, z1, m, z2⟩ ⟨_, r.1.kZ _ _ z', z1', m', z2'⟩ (by rw [cLine_is']; omega) fun k t u v w h1 h2 h3 h4 => eqAt_tree r.1.kZ (hc k t u h1 h2) (by show c.A.units + 1 + 20 < cLine; rw [cLine_is']; omega) h3 h4
theorem CK.eq_tup {ts us : List Tree} (hr : Room 0 c.A) (hc : ∀ (k : Nat) (t u : Tree), ts[k]? = some t → us[k]? = some u → Cmp 20 t u) : CK c .Eq (.tup ts) (.tup us) σ (same ts us) := fun B Z s v w r i j =>
  (tups_cmp hr hc r i j).1 _ _ _ _ ⟨rfl, Z, .refl B Z, r⟩
theorem CK.ne_tup {ts us : List Tree} (hr : Room 0 c.A) (hc : ∀ (k : Nat) (t u : Tree), ts[k]? = some t → us[k]? = some u → Cmp 20 t u) : CK c .NotEq (.tup ts) (.tup us) σ (!same ts us) := fun B Z s v w r i j =>
  (tups_cmp hr hc r i j).2 _ _ _ _ ⟨rfl, Z, .refl B Z, r⟩
theorem CK.eq_bool {a b : Bool} : CK c .Eq (.bool a) (.bool b) σ (a == b) := fun B Z s v w r i j => by
  simp only [IsT] at i j; subst i j
  exact RcAt.bool_bool a b _ _ _ _ ⟨rfl, Z, .refl B Z, r⟩
theorem CK.ne_bool {a b : Bool} : CK c .NotEq (.bool a) (.bool b) σ (a != b) := fun B Z s v w r i j => by
  simp only [IsT] at i j; subst i j
  exact RcNeAt.bool_bool a b _ _ _ _ ⟨by simp [bne], Z, .refl B Z, r⟩

/-- two dicts that hold the same -/
theorem KVs.hits {G : GS} {Z : Reg} {s : Shared} {A : Around} {kb : List (Int × Value)} {eb : List (Int × Tree)} (hb : KVs G Z eb kb) (hZ : ∀ a o, Z a = some o → s.heap.get? a = some o) (hu : A.units + 20 < cLine) :
    ∀ {es : List (Int × Tree)} {ks : List (Int × Value)}, KVs G Z es ks → (∀ e ∈ es, kget eb e.1 = some e.2 ∧ Cmp 20 e.2 e.2) → KeqHits A s kb ks true
  | [], ks, i, _ => by cases i; exact .nil
  | (k, t) :: es, ks, i, h => by
    obtain ⟨v, r, rfl, i1, i⟩ := i
    obtain ⟨h1, h2⟩ := h _ (.head _)
    rcases hb.get (k := k) with ⟨q, _⟩ | ⟨t', v', q1, q2, iv⟩
    · rw [h1] at q; cases q
    · rw [h1] at q1; cases q1
      have e := eqAt_tree hZ h2 hu i1 iv
      rw [same_self] at e
      exact .hit (e := true) (b := true) q2 e (hb.hits hZ hu i fun e he => h e (.tail _ he))
theorem kget_self : ∀ {es : List (Int × Tree)}, (es.map (·.1)).Nodup → ∀ e ∈ es, kget es e.1 = some e.2
  | (k, t) :: es, hn, e, he => by
    simp only [List.map_cons, List.nodup_cons] at hn
    unfold kget
    rw [List.find?_cons]
    rcases List.mem_cons.mp he with rfl | he
    · simp
    · have : k ≠ e.1 := fun q => hn.1 (q ▸ List.mem_map_of_mem he)
      simp only [this, decide_false]
      exact kget_self hn.2 e he
theorem dcts_cmp {t u : Tree} {es : List (Int × Tree)} (h₁ : DctOf σ t es) (h₂ : DctOf σ u es) (hc : ∀ e ∈ es, Cmp 20 e.2 e.2) (hr : Room 0 c.A) {B Z : Reg} {s : Shared} {v w : Value}
    (r : Rep c B Z σ s) (i : IsT c.G Z t v) (j : IsT c.G Z u w) {Q : Value → Shared → Prop} :
    (Q (.bool true) s → wpAny (model c.G.prog c.G.w) c.A (compareOp .Eq v w) Q (fun _ _ => False) s) ∧ (Q (.bool false) s → wpAny (model c.G.prog c.G.w) c.A (compareOp .NotEq v w) Q (fun _ _ => False) s) := by
  obtain ⟨a, ka, rfl, i', da, sa⟩ := dct_conc r i h₁
  obtain ⟨b, kb, rfl, j', db, sb⟩ := dct_conc r j h₂
  have hu := hr.units
  have hl : ka.length = kb.length := by rw [i'.length, j'.length]
  have hn : (es.map (·.1)).Nodup := by
    obtain ⟨_, _, _, _, _, _, _, _, q⟩ := da
    rw [← i'.keys]; exact q
  have H : KeqHits c.A.in1 s kb ka true := j'.hits r.1.kZ (by show c.A.units + 1 + 20 < cLine; rw [cLine_is']; omega) i' fun e he => ⟨kget_self hn e he, hc e he⟩
  exact ⟨fun q => keq_eq sa sb da db (by rw [cLine_is']; omega) (fun _ => H) (by simpa [hl] using q), fun q => keq_ne sa sb da db (by rw [cLine_is']; omega) (fun _ => H) (by simpa [hl] using q)⟩
theorem CK.ne_dct {t u : Tree} {es : List (Int × Tree)} (h₁ : DctOf σ t es) (h₂ : DctOf σ u es) (hc : ∀ e ∈ es, Cmp 20 e.2 e.2) (hr : Room 0 c.A) : CK c .NotEq t u σ false := fun B Z s v w r i j =>
  (dcts_cmp h₁ h₂ hc hr r i j).2 ⟨rfl, Z, .refl B Z, r⟩

/-! ### in a list -/
noncomputable def intIs (a : Int) : Value → Bool
  | .int b _ => decide (a = b)
  | _ => false
noncomputable def strIs (a : Str) : Value → Bool
  | .str b _ => decide (a = b)
  | _ => false
theorem ints_any {G : GS} {Z : Reg} {a : Int} : ∀ {ns : List Int} {vs : List Value}, AreT G Z (ns.map Tree.int) vs → vs.any (intIs a) = decide (a ∈ ns)
  | [], vs, i => by simp only [List.map_nil, AreT] at i; subst i; simp
  | n :: ns, vs, i => by
    simp only [List.map_cons, AreT] at i
    obtain ⟨v, r, rfl, i1, i⟩ := i
    obtain ⟨t, rfl⟩ := isInt.mp i1
    simp only [List.any_cons, ints_any i, intIs, List.mem_cons]
    by_cases h : a = n <;> simp [h]
theorem strs_any {G : GS} {Z : Reg} {a : Str} : ∀ {ns : List Str} {vs : List Value}, AreT G Z (ns.map Tree.str) vs → vs.any (strIs a) = decide (a ∈ ns)
  | [], vs, i => by simp only [List.map_nil, AreT] at i; subst i; simp
  | n :: ns, vs, i => by
    simp only [List.map_cons, AreT] at i
    obtain ⟨v, r, rfl, i1, i⟩ := i
    simp only [IsT] at i1
    obtain ⟨t, rfl⟩ := i1
    simp only [List.any_cons, strs_any i, strIs, List.mem_cons]
    by_cases h : a = n <;> simp [h]
theorem ints_eq {G : GS} {Z : Reg} {a : Int} {t : Tok} {A : Around} {s : Shared} : ∀ {ns : List Int} {vs : List Value}, AreT G Z (ns.map Tree.int) vs → ∀ y ∈ vs, EqAt A s y (.int a t) (intIs a y)
  | [], vs, i, y, hy => by simp only [List.map_nil, AreT] at i; subst i; cases hy
  | n :: ns, vs, i, y, hy => by
    simp only [List.map_cons, AreT] at i
    obtain ⟨v, r, rfl, i1, i⟩ := i
    rcases List.mem_cons.mp hy with rfl | hy
    · obtain ⟨tk, rfl⟩ := isInt.mp i1
      have := EqAt.int_int (A := A) (s := s) n tk a t
      have e : (n == a) = intIs a (.int n tk) := by
        show (n == a) = decide (a = n)
        by_cases q : a = n
        · subst q; simp
        · simp [q, Ne.symm q]
      rwa [e] at this
    · exact ints_eq i y hy
theorem strs_eq {G : GS} {Z : Reg} {a : Str} {t : Tok} {A : Around} {s : Shared} : ∀ {ns : List Str} {vs : List Value}, AreT G Z (ns.map Tree.str) vs → ∀ y ∈ vs, EqAt A s y (.str a t) (strIs a y)
  | [], vs, i, y, hy => by simp only [List.map_nil, AreT] at i; subst i; cases hy
  | n :: ns, vs, i, y, hy => by
    simp only [List.map_cons, AreT] at i
    obtain ⟨v, r, rfl, i1, i⟩ := i
    rcases List.mem_cons.mp hy with rfl | hy
    · simp only [IsT] at i1
      obtain ⟨tk, rfl⟩ := i1
      have := EqAt.str_str (A := A) (s := s) n tk a t
      have e : (n == a) = strIs a (.str n tk) := by
        show (n == a) = decide (a = n)
        by_cases q : a = n
        · subst q; simp
        · simp [q, Ne.symm q]
      rwa [e] at this
    · exact strs_eq i y hy
theorem CK.in_ints {u : Tree} {a : Int} {ns : List Int} (h : LstOf σ u (ns.map Tree.int)) : CK c .In (.int a) u σ (decide (a ∈ ns)) := fun B Z s v w r i j => by
  obtain ⟨t, rfl⟩ := isInt.mp i
  obtain ⟨b, ws, rfl, j', pb⟩ := lst_conc r j h
  exact in_listAt (intIs a) pb.isList (fun y hy => ints_eq j' y (by simpa using hy)) ⟨by rw [← ints_any j']; simp, Z, .refl B Z, r⟩
theorem CK.notin_ints {u : Tree} {a : Int} {ns : List Int} (h : LstOf σ u (ns.map Tree.int)) : CK c .NotIn (.int a) u σ (!decide (a ∈ ns)) := fun B Z s v w r i j => by
  obtain ⟨t, rfl⟩ := isInt.mp i
  obtain ⟨b, ws, rfl, j', pb⟩ := lst_conc r j h
  exact notIn_listAt (intIs a) pb.isList (fun y hy => ints_eq j' y (by simpa using hy)) ⟨by rw [← ints_any j']; simp, Z, .refl B Z, r⟩
theorem CK.notin_strs {u : Tree} {a : Str} {ns : List Str} (h : LstOf σ u (ns.map Tree.str)) : CK c .NotIn (.str a) u σ (!decide (a ∈ ns)) := fun B Z s v w r i j => by
  simp only [IsT] at i
  obtain ⟨t, rfl⟩ := i
  obtain ⟨b, ws, rfl, j', pb⟩ := lst_conc r j h
  exact notIn_listAt (strIs a) pb.isList (fun y hy => strs_eq j' y (by simpa using hy)) ⟨by rw [← strs_any j']; simp, Z, .refl B Z, r⟩
end
end

/-! ### Targets -/
structure GV (c : Cx) (tg : Expr) (t : Tree) (σ : St) (Φ : St → Prop) : Prop where
  intro ::
  go : ∀ B Z s v, Rep c B Z σ s → IsT c.G Z t v → wpAny (model c.G.prog c.G.w) c.A (assign tg c.env v) (fun _ s' => ∃ Z' σ', Grow B Z Z' ∧ Rep c B Z' σ' s' ∧ Φ σ') (fun _ _ => False) s
structure OV (c : Cx) (tgs : List Expr) (ts : List Tree) (σ : St) (Φ : St → Prop) : Prop where
  intro ::
  go : ∀ B Z s vs, Rep c B Z σ s → AreT c.G Z ts vs → wpAny (model c.G.prog c.G.w) c.A (assignInOrder ((assignEach tgs c.env).map (·.2)) vs) (fun _ s' => ∃ Z' σ', Grow B Z Z' ∧ Rep c B Z' σ' s' ∧ Φ σ') (fun _ _ => False) s

section
variable {c : Cx} {σ : St} {Ψ : Tree → St → Prop} {Φ : FlT → St → Prop} {Ω : St → Prop}

theorem GV.name {x : Str} {p : Pos} {t : Tree} (hx : Stores c x) (h : Ω { σ with ρ := upd σ.ρ x t }) : GV c (.Name x p) t σ Ω := .intro fun B Z s v r i =>
  wpAny_assign_Name (storeVar hx r i fun s' r' => ⟨Z, _, .refl B Z, r', h⟩)
theorem OV.nil (h : Ω σ) : OV c [] [] σ Ω := .intro fun B Z s vs r i => by
  simp only [AreT] at i; subst i
  exact wpAny_pure ⟨Z, σ, .refl B Z, r, h⟩
noncomputable abbrev kOV (c : Cx) (tgs : List Expr) (ts : List Tree) (Ω : St → Prop) (σ : St) : Prop := OV c tgs ts σ Ω
theorem OV.cons {tg : Expr} {tgs : List Expr} {t : Tree} {ts : List Tree} (h : GV c tg t σ (kOV c tgs ts Ω))
    (he : assignEach (tg :: tgs) c.env = (false, assign tg c.env) :: assignEach tgs c.env := by rfl) : OV c (tg :: tgs) (t :: ts) σ Ω := .intro fun B Z s vs r i => by
  simp only [AreT] at i
  obtain ⟨v, vr, rfl, i1, i2⟩ := i
  rw [he]
  show wpAny _ _ (do holding vr (assign tg c.env v); assignInOrder ((assignEach tgs c.env).map (·.2)) vr) _ _ s
  refine wpAny_bind (wpAny_holding (wpAny_mono (h.go B Z s v r i1) (fun _ s₁ hpq => ?_) fun _ _ x => x))
  obtain ⟨Z₁, σ₁, g₁, r₁, k⟩ := hpq
  exact wpAny_mono (k.go B Z₁ s₁ vr r₁ (AreT.mono g₁.1 _ _ i2)) (fun _ s₂ ⟨Z₂, σ₂, g₂, r₂, q⟩ => ⟨Z₂, σ₂, g₁.trans g₂, r₂, q⟩) fun _ _ x => x

theorem assignEach_length (tgs : List Expr) (env : Env) : (assignEach tgs env).length = tgs.length := by
  induction tgs with
  | nil => rfl
  | cons t r ih =>
    have : ∃ x, assignEach (t :: r) env = x :: assignEach r env := by cases t <;> exact ⟨_, rfl⟩
    obtain ⟨x, e⟩ := this
    rw [e, List.length_cons, ih, List.length_cons]

theorem GV.tuple {tgs : List Expr} {k pos} {ts : List Tree} (hh : c.A.handled = none) (h : OV c tgs ts σ Ω) (hl : tgs.length = ts.length)
    (hstar : (assignEach tgs c.env).findIdx? (·.1) = none := by rfl) : GV c (.Tuple tgs k pos) (.tup ts) σ Ω := .intro fun B Z s v r i => by
  simp only [IsT] at i
  obtain ⟨a, o, vs, n, rfl, z, z1, z2, i⟩ := i
  rw [arm_assign_Tuple]
  refine wpAny_bind (wpAny_standAt ?_)
  refine wpAny_unpack_tuple hh (items := vs.toArray) ⟨_, r.1.kZ _ _ z, z1, n, z2⟩ (by rw [assignEach_length]; simp [AreT.length i, hl]) hstar fun h' hx => ?_
  exact h.go B Z _ vs (r.heap (tk := s.toks) (keep_of_ext hx)) i

/-- a store into a list's or a dict's item -/
noncomputable def PutK (c : Cx) (σ : St) (a : Addr) (it t : Tree) (mo' : MObj) : Prop := ∀ B Z s v vi, Rep c B Z σ s → IsT c.G Z t v → IsT c.G Z it vi →
  ∀ Q : Unit → Shared → Prop, (∀ h' tk, MIs c.G Z h' a mo' → Heap.SameBut a s.heap h' → Q () { s with heap := h', toks := tk }) → wpAny (model c.G.prog c.G.w) c.A (PySem.setItem (.ref a) vi v) Q (fun _ _ => False) s
theorem PutK.dct {a : Addr} {es : List (Int × Tree)} {k : Int} {t : Tree} (ha : σ.μ a = some (.dct es)) (hlen : es.length ≤ 1000000) : PutK c σ a (.int k) t (.dct (kput es k t)) := fun B Z s v vi r i j Q q => setItem_dct ha hlen r i j Q q
theorem PutK.sdct {a : Addr} {es : List (Str × Tree)} {k : Str} {t : Tree} (ha : σ.μ a = some (.sdct es)) (hlen : es.length ≤ 1000000) : PutK c σ a (.str k) t (.sdct (kput es k t)) := fun B Z s v vi r i j Q q => setItem_sdct ha hlen r i j Q q
theorem PutK.lst {a : Addr} {ts : List Tree} {k : Int} {j : Nat} {t : Tree} (ha : σ.μ a = some (.lst ts)) (hk : (0 ≤ k ∧ j = k.toNat ∨ k < 0 ∧ -(ts.length : Int) ≤ k ∧ j = (k + ts.length).toNat)) (hj : j < ts.length) (hlen : ts.length ≤ 1000000) :
    PutK c σ a (.int k) t (.lst (ts.set j t)) := fun B Z s v vi r i i₂ Q q => by
  obtain ⟨tk, rfl⟩ := isInt.mp i₂
  obtain ⟨vs, n, z, js⟩ := (r.1.mem _ _ ha).1
  have hl := AreT.length js
  have upd : ∀ f : Array Value → Array Value, f vs.toArray = (vs.set j v).toArray → Q () { s with heap := s.heap.update a (Obj.mapSeq f) } := fun f hf => by
    have e := PySem.IsL.update (n := n) z f
    rw [hf] at e
    exact q _ s.toks ⟨vs.set j v, _, e, js.set i j⟩ (Heap.SameBut.update ..)
  rcases hk with ⟨h0, rfl⟩ | ⟨h0, h1, rfl⟩
  · refine ki_setAt z h0 (by omega) (by simp [hl]; omega) (upd _ (by apply Array.toList_inj.mp; simp))
  · refine ki_setBack z h0 (by simp [hl]; omega) (by omega) (upd _ (by apply Array.toList_inj.mp; simp [hl]))

inductive PutAt (c : Cx) (σ : St) (ot it t : Tree) (F : Addr → MObj → Prop) : Prop
  | mk (a : Addr) (mo mo' : MObj) (e : ot = .ptr a) (h : σ.μ a = some mo) (p : PutK c σ a it t mo') (f : F a mo')
noncomputable abbrev kPutF (Ω : St → Prop) (σ : St) (a : Addr) (mo : MObj) : Prop := Ω { σ with μ := σ.μ.put a mo }
noncomputable abbrev kPut (c : Cx) (t : Tree) (Ω : St → Prop) (ot it : Tree) (σ : St) : Prop := PutAt c σ ot it t (kPutF Ω σ)
theorem GV.item {o i : Expr} {pos} {t : Tree} (h : EV c o σ (kTwo c i (kPut c t Ω))) : GV c (.Subscript o i pos) t σ Ω := .intro fun B Z s v r iv => by
  rw [arm_assign_Subscript]
  refine wpAny_bind (wpAny_holding (EV.run' h r fun ov s₂ Z₂ ot σ₂ g₂ r₂ i₂ k => wpAny_bind (wpAny_holding (EV.run' k r₂ fun vi s₃ Z₃ it σ₃ g₃ r₃ i₃ hpq => ?_))))
  obtain ⟨a, mo, mo', e, ha, hp, q⟩ := hpq
  subst e
  simp only [IsT] at i₂
  subst i₂
  refine wpAny_bind (wpAny_standAt (wpAny_bind (wpAny_holding (hp B Z₃ s₃ v vi r₃ (IsT.mono (g₂.trans g₃).1 _ _ iv) i₃ _ fun h' tk hm hs => ?_))))
  have fin : ∀ vs : List Value, wpAny (model c.G.prog c.G.w) c.A (release vs []) (fun _ s' => ∃ Z' σ', Grow B Z Z' ∧ Rep c B Z' σ' s' ∧ Ω σ') (fun _ _ => False) { s₃ with heap := h', toks := tk } := fun vs =>
    fun Γ p _ => by rw [Sem.wp_release]; exact ⟨Z₃, _, g₂.trans g₃, r₃.set ha (fun b o hb e => (hs.2 b hb).trans e) hm, q⟩
  exact fin _

noncomputable abbrev kAsgT (c : Cx) (tg : Expr) (Φ : FlT → St → Prop) (t : Tree) (σ : St) : Prop := GV c tg t σ (kNext Φ)
theorem XV.assignT {tg e : Expr} {pos} (h : EV c e σ (kAsgT c tg Φ))
    (he : (assignEach [tg] c.env).map (·.2) = [PySem.assign tg c.env] := by rfl)
    (hs : swapsWithSole [tg] e pos.line c.env = pure false := by rfl) (hw : swappedStores [tg] e c.env = pure none := by rfl) : XV c (.Assign [tg] e pos) σ Φ := .intro fun B Z s r =>
  wpAny_Assign_stores (EV.run' h r fun v s₁ Z₁ t σ₁ g₁ r₁ i₁ k => by
    rw [he]
    show wpAny _ _ (PySem.assign tg c.env v) _ _ s₁
    exact wpAny_mono (k.go B Z₁ s₁ v r₁ i₁) (fun _ s₂ ⟨Z₂, σ₂, g₂, r₂, q⟩ => .mk (g₁.trans g₂) r₂ isNext q) fun _ _ x => x) hs hw

/-- `x, y = (a, b)` with two names: the second is stored first -/
noncomputable abbrev kSwapF (x y : Str) (Φ : FlT → St → Prop) (σ : St) (a b : Tree) : Prop := Φ .next { σ with ρ := upd (upd σ.ρ y b) x a }
noncomputable abbrev kSwap (x y : Str) (Φ : FlT → St → Prop) (t : Tree) (σ : St) : Prop := Tup2 t (kSwapF x y Φ σ)
theorem XV.swap2 {tgs : List Expr} {k tpos e pos} {x y : Str} (hh : c.A.handled = none) (h : EV c e σ (kSwap x y Φ))
    (hx : Stores c x) (hy : Stores c y) (hs : swapsWithSole [.Tuple tgs k tpos] e pos.line c.env = pure false := by rfl)
    (hw : swappedStores [.Tuple tgs k tpos] e c.env = pure (some [x, y]) := by rfl) : XV c (.Assign [.Tuple tgs k tpos] e pos) σ Φ := .intro fun B Z s r =>
  Assign_Tuple_swapped (names := [x, y]) (EV.run' h r fun v s₁ Z₁ t σ₁ g₁ r₁ i₁ hpq => by
    obtain ⟨a, b, e, q⟩ := hpq
    subst e
    simp only [IsT, AreT] at i₁
    obtain ⟨ad, o, vs, n, rfl, z, z1, z2, va, _, rfl, ia, vb, _, rfl, ib, rfl⟩ := i₁
    refine wpAny_unpackItems_tuple hh (items := [va, vb].toArray) ⟨_, r₁.1.kZ _ _ z, z1, n, z2⟩ fun h' hx' => ?_
    have r₂ := r₁.heap (tk := s₁.toks) (keep_of_ext hx')
    show wpAny _ _ (do holding [va] (bindName c.env y vb); (do holding [] (bindName c.env x va); assignInOrder [] [])) _ _ _
    refine wpAny_bind (wpAny_holding (wpAny_bindName (storeVar hy r₂ ib fun s₃ r₃ => ?_)))
    refine wpAny_bind (wpAny_holding (wpAny_bindName (storeVar hx r₃ ia fun s₄ r₄ => ?_)))
    exact wpAny_pure (.mk g₁ r₄ isNext q)) hs hw
end

/-! ### Objects that only a loop sees -/
noncomputable def Priv (c : Cx) (B Z : Reg) (μ : Mem) (wr : List Addr) : Prop := ∀ b ∈ wr, B b = none ∧ Z b = none ∧ μ b = none ∧ b ≠ c.env.locals ∧ ∀ n, (n, b) ∉ c.env.cells

theorem Rep.free {c : Cx} {B Z : Reg} {σ : St} {s : Shared} (r : Rep c B Z σ s) {b : Addr} (h : s.heap.get? b = none) : B b = none ∧ Z b = none ∧ σ.μ b = none ∧ b ≠ c.env.locals ∧ ∀ n, (n, b) ∉ c.env.cells := by
  obtain ⟨r1, m, cm, V, K⟩ := r
  refine ⟨?_, ?_, ?_, ?_, ?_⟩
  · cases e : B b with
    | none => rfl
    | some o => rw [r1.kB _ _ e] at h; cases h
  · cases e : Z b with
    | none => rfl
    | some o => rw [r1.kZ _ _ e] at h; cases h
  · cases e : σ.μ b with
    | none => rfl
    | some o => obtain ⟨ob, q⟩ := (r1.mem _ _ e).1.there; rw [q] at h; cases h
  · rintro rfl
    obtain ⟨o, es, ep, q, _⟩ := V.ns
    rw [q] at h; cases h
  · intro n hm
    obtain ⟨o, q, _⟩ := V.cell n b hm
    rw [q] at h; cases h
theorem get_fresh {h : Heap} {b : Addr} (hb : h.objs.size ≤ b) : h.get? b = none := by
  cases e : h.get? b with
  | none => rfl
  | some o => exact absurd (Heap.lt_size e) (Nat.not_lt.mpr hb)

theorem Rep.priv {c : Cx} {B Z : Reg} {σ : St} {s : Shared} {wr : List Addr} {h' : Heap} {tk : Nat} (r : Rep c B Z σ s) (p : Priv c B Z σ.μ wr) (k : ∀ b o, b ∉ wr → s.heap.get? b = some o → h'.get? b = some o) :
    Rep c B Z σ { s with heap := h', toks := tk } := by
  obtain ⟨r1, m, cm, V, K⟩ := r
  refine ⟨r1.heap fun b o sn e => k b o (fun hb => ?_) e, m, cm, ⟨V.ns.at' fun o e => k _ o (fun hb => (p _ hb).2.2.2.1 rfl) e, fun n a hm => let ⟨o, ho, hd⟩ := V.cell n a hm; ⟨o, k a o (fun hb => (p _ hb).2.2.2.2 n hm) ho, hd⟩, V.names, V.apart, V.ne, V.lB, V.lZ, V.lμ, V.cB, V.cZ, V.cμ, V.kind, V.glob, V.blt⟩, K⟩
  obtain ⟨a1, a2, a3, _⟩ := p b hb
  rcases sn with q | q | q
  · exact q a1
  · exact q a2
  · exact q a3

noncomputable def Reg.over (B : Reg) (wr : List Addr) (h : Heap) : Reg := fun b => if b ∈ wr then h.get? b else B b
theorem Reg.over_in {B : Reg} {wr : List Addr} {h : Heap} {b : Addr} (e : b ∈ wr) : B.over wr h b = h.get? b := if_pos e
theorem Reg.over_out {B : Reg} {wr : List Addr} {h : Heap} {b : Addr} (e : b ∉ wr) : B.over wr h b = B b := if_neg e
theorem Reg.over_none {B : Reg} {wr : List Addr} {h : Heap} {b : Addr} (hb : ∀ b ∈ wr, B b = none) (e : B.over wr h b = none) : B b = none := by
  by_cases q : b ∈ wr
  · exact hb b q
  · rwa [Reg.over_out q] at e

theorem Rep.over {c : Cx} {B Z : Reg} {σ : St} {s : Shared} {wr : List Addr} (r : Rep c B Z σ s) (p : Priv c B Z σ.μ wr) : Rep c (B.over wr s.heap) Z σ s := by
  obtain ⟨r1, m, cm, V, K⟩ := r
  refine ⟨⟨r1.top, fun a o e => ?_, fun a o e => ?_, r1.kZ, fun a mo e => ⟨(r1.mem a mo e).1, ?_, (r1.mem a mo e).2.2⟩, r1.gens, r1.os⟩, m, cm, ⟨V.ns, V.cell, V.names, V.apart, V.ne, ?_, V.lZ, V.lμ, fun ho n a hm => ?_, V.cZ, V.cμ, V.kind, V.glob, V.blt⟩, K⟩
  · have := r1.kH a o e
    rw [Reg.over_out (fun q => by rw [(p a q).1] at this; cases this)]; exact this
  · by_cases q : a ∈ wr
    · rwa [Reg.over_in q] at e
    · rw [Reg.over_out q] at e; exact r1.kB a o e
  · rw [Reg.over_out (fun q => by rw [(p a q).2.2.1] at e; cases e)]; exact (r1.mem a mo e).2.1
  · rw [Reg.over_out (fun q => (p _ q).2.2.2.1 rfl)]; exact V.lB
  · rw [Reg.over_out (fun q => (p _ q).2.2.2.2 n hm)]; exact V.cB ho n a hm
theorem Rep.under {c : Cx} {B Z : Reg} {σ : St} {s : Shared} {wr : List Addr} {h : Heap} (r : Rep c (B.over wr h) Z σ s) (hk : ∀ a o, c.G.h₁.get? a = some o → B a = some o) (hb : ∀ b ∈ wr, B b = none) : Rep c B Z σ s := by
  obtain ⟨r1, m, cm, V, K⟩ := r
  refine ⟨⟨r1.top, hk, fun a o e => r1.kB a o ?_, r1.kZ, fun a mo e => ⟨(r1.mem a mo e).1, Reg.over_none hb (r1.mem a mo e).2.1, (r1.mem a mo e).2.2⟩, r1.gens, r1.os⟩, m, cm, ⟨V.ns, V.cell, V.names, V.apart, V.ne, Reg.over_none hb V.lB, V.lZ, V.lμ, fun ho n a hm => Reg.over_none hb (V.cB ho n a hm), V.cZ, V.cμ, V.kind, V.glob, V.blt⟩, K⟩
  rw [Reg.over_out (fun q => by rw [hb a q] at e; cases e)]; exact e
theorem Grow.under {B Z Z' : Reg} {wr : List Addr} {h : Heap} (g : Grow (B.over wr h) Z Z') (hb : ∀ b ∈ wr, B b = none) : Grow B Z Z' := ⟨g.1, fun a q => (g.2 a q).imp id (Reg.over_none hb)⟩
theorem Priv.after {c : Cx} {B Z Z' : Reg} {σ' : St} {μ : Mem} {s' : Shared} {wr : List Addr} {h : Heap} (p : Priv c B Z μ wr) (g : Grow (B.over wr h) Z Z') (r : Rep c (B.over wr h) Z' σ' s') (ht : ∀ b ∈ wr, ∃ o, h.get? b = some o) : Priv c B Z' σ'.μ wr := fun b hb => by
  obtain ⟨a1, a2, a3, a4, a5⟩ := p b hb
  obtain ⟨o, ho⟩ := ht b hb
  have hB : B.over wr h b = some o := by rw [Reg.over_in hb, ho]
  refine ⟨a1, ?_, r.1.notB hB, a4, a5⟩
  cases q : Z' b with
  | none => rfl
  | some x => rcases g.2 b (by rw [q]; exact nofun) with e | e
              · exact absurd a2 e
              · rw [hB] at e; cases e

/-- an object that nothing knows yet, found -/
theorem Rep.adopt {c : Cx} {B Z : Reg} {σ : St} {s : Shared} {T : Addr} {o : Obj} (r : Rep c B Z σ s) (p : Priv c B Z σ.μ [T]) (h : s.heap.get? T = some o) : Rep c B (Z.put T o) σ s ∧ Grow B Z (Z.put T o) := by
  obtain ⟨r1, m, cm, V, K⟩ := r
  obtain ⟨a1, a2, a3, a4, a5⟩ := p T (List.mem_singleton.mpr rfl)
  refine ⟨⟨⟨r1.top, r1.kH, r1.kB, fun b x e => ?_, fun b mo e => ?_, r1.gens, r1.os⟩, m, cm, ⟨V.ns, V.cell, V.names, V.apart, V.ne, V.lB, ?_, V.lμ, V.cB, fun n a hm => ?_, V.cμ, V.kind, V.glob, V.blt⟩, K.mono (Sub.put a2)⟩, Grow.put a2 a1⟩
  · by_cases q : b = T
    · subst q; rw [Reg.put_self] at e; cases e; exact h
    · rw [Reg.put_ne q] at e; exact r1.kZ b x e
  · obtain ⟨x, y, z⟩ := r1.mem b mo e
    exact ⟨x.mono (Sub.put a2) fun _ q => q, y, by rw [Reg.put_ne (fun q => by rw [q, a3] at e; cases e)]; exact z⟩
  · rw [Reg.put_ne (Ne.symm a4)]; exact V.lZ
  · have hne : a ≠ T := fun q => a5 n (by rw [← q]; exact hm)
    rw [Reg.put_ne hne]; exact V.cZ n a hm

/-! ### Iterators -/
noncomputable def Gives (G : GS) (Z : Reg) (h h' : Heap) (t : Tree) (v : Value) : Prop :=
  IsT G Z t v ∨ ∃ T o vals n ts, v = .ref T ∧ t = .tup ts ∧ h.get? T = none ∧ h'.get? T = some o ∧ o.cls = .type "tuple" ∧ o.data = .seq (List.toArray vals) n ∧ AreT G Z ts vals

structure It (G : GS) (A : Around) (tg : Expr) (ts : List Tree) (keep : Mem → Prop) (Z₀ : Reg) (I : Addr) (wr : List Addr) (S : Nat → Heap → Prop) : Prop where
  frame : ∀ i h h', S i h → (∀ b ∈ wr, ∀ o, h.get? b = some o → h'.get? b = some o) → S i h'
  there : ∀ i h, S i h → ∀ b ∈ wr, ∃ o, h.get? b = some o
  item : ∀ i t B Z μ s E, ts[i]? = some t → keep μ → Sub Z₀ Z → RepM G B Z μ s → S i s.heap → (∀ b ∈ wr, Z b = none ∧ μ b = none) →
    wpAny (model G.prog G.w) A (pyNext (.ref I)) (fun r s₁ => ∃ v, r = some v ∧ wpAny (model G.prog G.w) A (letOwnedTupleGo tg (.ref I) v) (fun _ s₂ => ∃ h' tk, s₂ = { s with heap := h', toks := tk } ∧ S (i + 1) h' ∧
      (∀ b o, b ∉ wr → s.heap.get? b = some o → h'.get? b = some o) ∧ Gives G Z s.heap h' t v) E s₁) E s
  done : ∀ B Z μ s E, keep μ → Sub Z₀ Z → RepM G B Z μ s → S ts.length s.heap → (∀ b ∈ wr, Z b = none ∧ μ b = none) →
    wpAny (model G.prog G.w) A (pyNext (.ref I)) (fun r s₁ => ∃ h' tk, r = none ∧ s₁ = { s with heap := h', toks := tk } ∧ (∀ b o, b ∉ wr → s.heap.get? b = some o → h'.get? b = some o)) E s
  self : ∀ i s (Q : Value → Shared → Prop) E, S i s.heap → Q (.ref I) s → wpAny (model G.prog G.w) A (pyIter (.ref I)) Q E s

section
variable {c : Cx} {σ : St} {tg : Expr} {all : List Tree} {keep : Mem → Prop} {Z₀ : Reg} {I : Addr} {wr : List Addr} {S : Nat → Heap → Prop}

theorem It.step (W : It c.G c.A tg all keep Z₀ I wr S) {i : Nat} {t : Tree} {B Z : Reg} {s : Shared} {E : Value → Shared → Prop} (ht : all[i]? = some t) (hk : keep σ.μ) (hz : Sub Z₀ Z) (r : Rep c B Z σ s) (hS : S i s.heap) (p : Priv c B Z σ.μ wr) :
    wpAny (model c.G.prog c.G.w) c.A (pyNext (.ref I)) (fun ro s₁ => ∃ v, ro = some v ∧ wpAny (model c.G.prog c.G.w) c.A (letOwnedTupleGo tg (.ref I) v) (fun _ s₂ => ∃ Z', Grow B Z Z' ∧ Rep c B Z' σ s₂ ∧ IsT c.G Z' t v ∧ S (i + 1) s₂.heap ∧ Priv c B Z' σ.μ wr) E s₁) E s := by
  refine wpAny_mono (W.item i t B Z σ.μ s E ht hk hz r.1 hS fun b hb => ⟨(p b hb).2.1, (p b hb).2.2.1⟩) (fun ro s₁ ⟨v, e, h⟩ => ⟨v, e, wpAny_mono h (fun _ s₂ hq => ?_) fun _ _ x => x⟩) fun _ _ x => x
  obtain ⟨h', tk, rfl, hS', hkeep, hg⟩ := hq
  have r' := r.priv (tk := tk) p hkeep
  rcases hg with hg | ⟨T, o, vals, n, us, rfl, rfl, hT, hT', hc, hd, ha⟩
  · exact ⟨Z, .refl B Z, r', hg, hS', p⟩
  · have hTw : T ∉ wr := fun hm => by
      obtain ⟨o, ho⟩ := W.there i _ hS T hm
      rw [hT] at ho; cases ho
    obtain ⟨r2, g2⟩ := r'.adopt (T := T) (fun b hb => by rw [List.mem_singleton] at hb; subst hb; exact r.free hT) hT'
    refine ⟨_, g2, r2, ?_, hS', fun b hb => ?_⟩
    · simp only [IsT]; exact ⟨T, o, vals, n, rfl, Reg.put_self, hc, hd, AreT.mono g2.1 _ _ ha⟩
    · obtain ⟨a1, a2, a3⟩ := p b hb
      have hbT : b ≠ T := fun q => hTw (by rw [← q]; exact hb)
      exact ⟨a1, by rw [Reg.put_ne hbT]; exact a2, a3⟩

/-! ### for -/
noncomputable abbrev kTurnF (Φ : FlT → St → Prop) (I : St → Prop) (f : FlT) (σ : St) : Prop := match f with
  | .next => I σ
  | .cont => I σ
  | .brk => Φ .next σ
  | .ret u => Φ (.ret u) σ
noncomputable abbrev kTurn (c : Cx) (body : List Stmt) (K : FlT → St → Prop) (σ : St) : Prop := SV c body σ K
noncomputable def Loop (c : Cx) (tg : Expr) (body : List Stmt) (keep : Mem → Prop) (Φ : FlT → St → Prop) : List Tree → St → Prop
  | [], σ => keep σ.μ ∧ Φ .next σ
  | t :: ts, σ => keep σ.μ ∧ GV c tg t σ fun σ₁ => SV c body σ₁ fun f σ₂ => match f with
    | .next => Loop c tg body keep Φ ts σ₂
    | .cont => Loop c tg body keep Φ ts σ₂
    | .brk => Φ .next σ₂
    | .ret u => Φ (.ret u) σ₂

theorem loop_run {body : List Stmt} {Φ : FlT → St → Prop} (W : It c.G c.A tg all keep Z₀ I wr S) {B Z : Reg} {s : Shared} {R : Result → Shared → Prop} (hl : Loop c tg body keep Φ all σ) (hz : Sub Z₀ Z) (r : Rep c B Z σ s) (p : Priv c B Z σ.μ wr) (hS : S 0 s.heap)
    (hR : ∀ f s', Post c B Z IsFl Φ f s' → R (.ok f) s') : codeAny (model c.G.prog c.G.w) c.A (.forLoop tg (.ref I) body [] c.env) R s := by
  refine codeAny_forLoop_any (fun k s' => ∃ i ts σ' Z', all.drop i = ts ∧ k = ts.length ∧ Loop c tg body keep Φ ts σ' ∧ Grow B Z Z' ∧ Rep c B Z' σ' s' ∧ Priv c B Z' σ'.μ wr ∧ S i s'.heap ∧ i ≤ all.length) ?_ all.length
    ⟨0, all, σ, Z, rfl, rfl, hl, .refl B Z, r, p, hS, Nat.zero_le _⟩
  rintro k s' ⟨i, ts, σ', Z', hd, rfl, hl', g, r', p', hS', hi⟩
  cases ts with
  | nil =>
    obtain ⟨hk, hf⟩ := hl'
    have hi' : i = all.length := by
      have := congrArg List.length hd
      simp only [List.length_drop, List.length_nil] at this
      omega
    subst hi'
    refine wpAny_mono (W.done B Z' σ'.μ s' _ hk (hz.trans g.1) r'.1 hS' fun b hb => ⟨(p' b hb).2.1, (p' b hb).2.2.1⟩) (fun ro s₁ hq => ?_) fun _ _ x => x
    obtain ⟨h', tk, rfl, rfl, hkeep⟩ := hq
    exact wpAny_execs_nil (hR _ _ (.mk g (r'.priv p' hkeep) isNext hf))
  | cons t ts =>
    obtain ⟨hk, hgv⟩ := hl'
    have ht : all[i]? = some t := by
      have := congrArg (fun l => l[0]?) hd
      simpa using this
    refine wpAny_mono (W.step ht hk (hz.trans g.1) r' hS' p') (fun ro s₁ hq => ?_) fun _ _ x => x
    obtain ⟨v, rfl, hq⟩ := hq
    refine wpAny_mono hq (fun _ s₂ hq => ?_) fun _ _ x => x
    obtain ⟨Z₂, g₂, r₂, iv, hS₂, p₂⟩ := hq
    have ro := r₂.over p₂
    have hb : ∀ b ∈ wr, B b = none := fun b hb => (p₂ b hb).1
    refine wpAny_mono (hgv.go _ Z₂ s₂ v ro iv) (fun _ s₃ hq => ?_) fun _ _ x => x.elim
    obtain ⟨Z₃, σ₃, g₃, r₃, hsv⟩ := hq
    refine wpAny_mono (hsv.go _ Z₃ s₃ r₃) (fun f s₄ hq => ?_) fun _ _ x => x.elim
    obtain ⟨Z₄, fl, σ₄, g₄, r₄, ifl, hf⟩ := hq
    have g34 := g₃.trans g₄
    have gg : Grow B Z Z₄ := (g.trans g₂).trans (g34.under hb)
    have rr : Rep c B Z₄ σ₄ s₄ := r₄.under r.1.kH hb
    have again : Loop c tg body keep Φ ts σ₄ → ∃ m, m < (t :: ts).length ∧ ∃ i ts σ' Z', all.drop i = ts ∧ m = ts.length ∧ Loop c tg body keep Φ ts σ' ∧ Grow B Z Z' ∧ Rep c B Z' σ' s₄ ∧ Priv c B Z' σ'.μ wr ∧ S i s₄.heap ∧ i ≤ all.length := fun hl =>
      ⟨ts.length, by simp, i + 1, ts, σ₄, Z₄, by have := congrArg (List.drop 1) hd; rw [List.drop_drop] at this; exact this, rfl, hl, gg, rr,
        p₂.after g34 r₄ (W.there _ _ hS₂), W.frame _ _ _ hS₂ fun b hb o e => r₄.1.kB b o (by rw [Reg.over_in hb]; exact e), by have := (List.getElem?_eq_some_iff.mp ht).1; omega⟩
    cases fl with
    | next => cases ifl; exact again hf
    | cont => cases ifl; exact again hf
    | brk => cases ifl; exact hR _ _ (.mk gg rr isNext hf)
    | ret u => obtain ⟨v, rfl, iu⟩ := ifl; exact hR _ _ (.mk gg rr (isRet iu) hf)

/-- an expression that is looped over -/
structure IV (c : Cx) (tg iter : Expr) (σ : St) (K : List Tree → (Mem → Prop) → St → Prop) : Prop where
  intro ::
  go : ∀ B Z s, Rep c B Z σ s → wpAny (model c.G.prog c.G.w) c.A (eval iter c.env) (fun xv s₁ => wpAny (model c.G.prog c.G.w) c.A (pyIter xv) (fun it s₂ => ∃ Z' σ' ts keep I wr S, it = .ref I ∧ Grow B Z Z' ∧ Rep c B Z' σ' s₂ ∧
    It c.G c.A tg ts keep Z' I wr S ∧ Priv c B Z' σ'.μ wr ∧ S 0 s₂.heap ∧ K ts keep σ') (fun _ _ => False) s₁) (fun _ _ => False) s

noncomputable abbrev kFor (c : Cx) (tg : Expr) (body : List Stmt) (Φ : FlT → St → Prop) (ts : List Tree) (keep : Mem → Prop) (σ : St) : Prop := Loop c tg body keep Φ ts σ
theorem XV.for {iter : Expr} {body : List Stmt} {pos} {Φ : FlT → St → Prop} (h : IV c tg iter σ (kFor c tg body Φ))
    (hs : ∀ x, foldedSetIterable iter c.env x = pure x := by intro _; rfl) : XV c (.For tg iter body [] pos) σ Φ := .intro fun B Z s r =>
  wpAny_For (wpAny_mono (h.go B Z s r) (fun xv s₁ h₁ => wpAny_mono h₁ (fun it s₂ hq => by
    obtain ⟨Z', σ', ts, keep, I, wr, S, rfl, g, r', W, p, hS, hl⟩ := hq
    exact loop_run W hl (Sub.refl _) r' p hS fun f s' hp => hp.grow g) fun _ _ x => x) fun _ _ x => x) hs

/-! ### while -/
noncomputable abbrev kWhB (J : Nat → St → Prop) (n : Nat) (Φ : FlT → St → Prop) (f : FlT) (σ₂ : St) : Prop := match f with
  | .next => ∃ m, m < n ∧ J m σ₂
  | .cont => ∃ m, m < n ∧ J m σ₂
  | .brk => Φ .next σ₂
  | .ret u => Φ (.ret u) σ₂
noncomputable abbrev kWh (c : Cx) (body : List Stmt) (J : Nat → St → Prop) (n : Nat) (Φ : FlT → St → Prop) (b : Bool) (σ : St) : Prop := if b then SV c body σ (kWhB J n Φ) else Φ .next σ
theorem XV.while {test : Expr} {body : List Stmt} {pos} {Φ : FlT → St → Prop} (J : Nat → St → Prop) (n : Nat) (h₀ : J n σ)
    (h : ∀ n σ', J n σ' → TV c test σ' (kWh c body J n Φ)) : XV c (.While test body [] pos) σ Φ := .intro fun B Z s r => by
  refine wpAny_While (codeAny_whileLoop (fun n s' => ∃ Z' σ', Grow B Z Z' ∧ Rep c B Z' σ' s' ∧ J n σ') ?_ n ⟨Z, σ, .refl B Z, r, h₀⟩)
  rintro n s' ⟨Z', σ', g, r', hJ⟩
  refine wpAny_mono ((h n σ' hJ).go B Z' s' r') (fun b s₁ hq => ?_) fun _ _ x => x.elim
  obtain ⟨Z₁, b', σ₁, g₁, r₁, ib, hb⟩ := hq
  cases ib
  cases b with
  | false =>
    simp only [Bool.false_eq_true, if_false] at hb ⊢
    exact wpAny_execs_nil (.mk (g.trans g₁) r₁ isNext hb)
  | true =>
    simp only [if_true] at hb ⊢
    refine wpAny_mono (hb.go B Z₁ s₁ r₁) (fun f s₂ hq => ?_) fun _ _ x => x.elim
    obtain ⟨Z₂, fl, σ₂, g₂, r₂, ifl, hf⟩ := hq
    have gg := (g.trans g₁).trans g₂
    cases fl with
    | next => cases ifl; obtain ⟨m, hm, hJ⟩ := hf; exact ⟨m, hm, Z₂, σ₂, gg, r₂, hJ⟩
    | cont => cases ifl; obtain ⟨m, hm, hJ⟩ := hf; exact ⟨m, hm, Z₂, σ₂, gg, r₂, hJ⟩
    | brk => cases ifl; exact .mk gg r₂ isNext hf
    | ret u => obtain ⟨v, rfl, iu⟩ := ifl; exact .mk gg r₂ (isRet iu) hf
end

noncomputable def memSt (μ : Mem) : St := ⟨fun _ => none, μ⟩

theorem lst_concM {G : GS} {B Z : Reg} {μ : Mem} {s : Shared} {t : Tree} {v : Value} {ts : List Tree} (r : RepM G B Z μ s) (i : IsT G Z t v) (h : LstOf (memSt μ) t ts) :
    ∃ a vs, v = .ref a ∧ AreT G Z ts vs ∧ s.heap.PlainList a vs.toArray := by
  rcases h with rfl | ⟨a, rfl, ha⟩
  · simp only [IsT] at i
    obtain ⟨a, vs, n, rfl, z, j⟩ := i
    exact ⟨a, vs, rfl, j, n, r.kZ _ _ z⟩
  · simp only [IsT] at i
    subst i
    obtain ⟨vs, n, z, j⟩ := (r.mem _ _ ha).1
    exact ⟨a, vs, rfl, j, n, z⟩

section
variable {prog : Program} {w : World} {A : Around} {E : Value → Shared → Prop} {s : Shared}
theorem go_listiter {tg : Expr} {I l : Addr} {v : Value} {i : Nat} {Q : Unit → Shared → Prop} (hit : s.heap.IsListIter I l i) (hQ : Q () s) : wpAny (model prog w) A (letOwnedTupleGo tg (.ref I) v) Q E s := by
  have key : wpAny (model prog w) A (letOwnedTupleGo (.Tuple [] 0 default) (.ref I) v) Q E s := by
    cases v with
    | ref T => exact wpAny_letOwnedTupleGo_listiter hit hQ
    | _ => exact wpAny_pure hQ
  cases tg <;> first | exact key | exact wpAny_pure hQ
end

theorem It.lst {G : GS} {A : Around} {tg : Expr} {t : Tree} {ts : List Tree} {Z₀ : Reg} {ax I : Addr} (hh : A.handled = none) (hv : IsT G Z₀ t (.ref ax)) :
    It G A tg ts (fun μ => LstOf (memSt μ) t ts) Z₀ I [I] (fun i h => h.IsListIter I ax i) where
  frame := fun i h h' hS hk => hS.at fun o e => hk I (by simp) o e
  there := fun i h ⟨o, ho, _⟩ b hb => by rw [List.mem_singleton] at hb; subst hb; exact ⟨o, ho⟩
  item := fun i t' B Z μ s E ht hk hz r hS p => by
    obtain ⟨a, vs, e, j, hl⟩ := lst_concM r (IsT.mono hz _ _ hv) hk
    cases e
    obtain ⟨v, hv', iv⟩ := j.get ht
    refine wpAny_pyNext_list_item hS hl.isList (x := v) (by simpa using hv') fun h' hit' hs' => ⟨v, rfl, go_listiter hit' ⟨h', s.toks, rfl, hit', fun b o hb e => hs'.extBut b o (fun q => hb (by simp [q])) e, .inl iv⟩⟩
  done := fun B Z μ s E hk hz r hS p => by
    obtain ⟨a, vs, e, j, hl⟩ := lst_concM r (IsT.mono hz _ _ hv) hk
    cases e
    refine wpAny_pyNext_list_end hh hS hl.isList (by simp [AreT.length j]) fun h' he => ⟨h', s.toks, rfl, rfl, fun b o hb e => he b o (fun q => hb (by simp [q])) e⟩
  self := fun i s Q E hS hQ => wpAny_pyIter_listiter hS hQ

theorem It.tup {G : GS} {A : Around} {tg : Expr} {ts : List Tree} {Z₀ : Reg} {ax I : Addr} (hh : A.handled = none) (hv : IsT G Z₀ (.tup ts) (.ref ax)) (hgo : ∀ it v, letOwnedTupleGo tg it v = pure ()) :
    It G A tg ts (fun _ => True) Z₀ I [I] (fun i h => h.IsTupleIter I ax i) where
  frame := fun i h h' hS hk => hS.at fun o e => hk I (by simp) o e
  there := fun i h ⟨o, ho, _⟩ b hb => by rw [List.mem_singleton] at hb; subst hb; exact ⟨o, ho⟩
  item := fun i t' B Z μ s E ht hk hz r hS p => by
    have hv' := IsT.mono hz _ _ hv
    simp only [IsT] at hv'
    obtain ⟨a, o, vs, n, e, z, z1, z2, j⟩ := hv'
    cases e
    obtain ⟨v, hv', iv⟩ := j.get ht
    refine wpAny_pyNext_tuple_item hS ⟨o, r.kZ _ _ z, z1, n, z2⟩ (x := v) (by simpa using hv') fun h' hit' hs' => ⟨v, rfl, wpAny_of_eq (hgo _ _) ⟨h', s.toks, rfl, hit', fun b o hb e => hs'.extBut b o (fun q => hb (by simp [q])) e, .inl iv⟩⟩
  done := fun B Z μ s E hk hz r hS p => by
    have hv' := IsT.mono hz _ _ hv
    simp only [IsT] at hv'
    obtain ⟨a, o, vs, n, e, z, z1, z2, j⟩ := hv'
    cases e
    refine wpAny_pyNext_tuple_end hh hS ⟨o, r.kZ _ _ z, z1, n, z2⟩ (by simp [AreT.length j]) fun h' he => ⟨h', s.toks, rfl, rfl, fun b o hb e => he b o (fun q => hb (by simp [q])) e⟩
  self := fun i s Q E hS hQ => wpAny_pyIter_tupleiter hS hQ

noncomputable def intsT (ns : List Int) : List Tree := ns.map Tree.int
noncomputable def rangeT (a : Int) (n : Nat) : List Tree := (List.range n).map fun j => Tree.int (a + (j : Nat))

theorem It.range {G : GS} {A : Around} {tg : Expr} {Z₀ : Reg} {I : Addr} (hh : A.handled = none) (a : Int) (n : Nat) (hgo : ∀ it v, letOwnedTupleGo tg it v = pure ()) :
    It G A tg (rangeT a n) (fun _ => True) Z₀ I [I] (fun i h => IsRangeIter h I (a + (i : Nat)) ((n : Int) - (i : Nat)) 1) where
  frame := fun i h h' hS hk => hk I (by simp) _ hS
  there := fun i h hS b hb => by rw [List.mem_singleton] at hb; subst hb; exact ⟨_, hS⟩
  item := fun i t' B Z μ s E ht hk hz r hS p => by
    have hi : i < n := by
      have := (List.getElem?_eq_some_iff.mp ht).1
      simpa [rangeT] using this
    have ht' : t' = .int (a + (i : Nat)) := by
      simp only [rangeT, List.getElem?_map, List.getElem?_range hi, Option.map_some, Option.some.injEq] at ht
      exact ht.symm
    subst ht'
    refine wpAny_pyNext_range_item hS (by omega) fun h' hit' hs' => ⟨_, rfl, wpAny_of_eq (hgo _ _) ⟨h', _, rfl, ?_, fun b o hb e => hs'.extBut b o (fun q => hb (by simp [q])) e, .inl (by simp only [IsT]; exact ⟨_, rfl⟩)⟩⟩
    have e1 : a + ((i + 1 : Nat) : Int) = a + (i : Int) + 1 := by push_cast; omega
    have e2 : (n : Int) - ((i + 1 : Nat) : Int) = (n : Int) - (i : Int) - 1 := by push_cast; omega
    show IsRangeIter h' I (a + ((i + 1 : Nat) : Int)) ((n : Int) - ((i + 1 : Nat) : Int)) 1
    rw [e1, e2]; exact hit'
  done := fun B Z μ s E hk hz r hS p => by
    have hn : (rangeT a n).length = n := by simp [rangeT]
    rw [hn] at hS
    refine wpAny_pyNext_range_end hh hS (by omega) fun h' he => ⟨h', s.toks, rfl, rfl, fun b o hb e => he b o (fun q => hb (by simp [q])) e⟩
  self := fun i s Q E hS hQ => wpAny_pyIter_rangeiter hS hQ

theorem It.dct {G : GS} {A : Around} {tg : Expr} {es : List (Int × Tree)} {kvs : List (Int × Value)} {ep : Nat} {Z₀ : Reg} {d I : Addr} {o : Obj} (hh : A.handled = none) (hd : Z₀ d = some o)
    (ho : ∀ h : Heap, h.get? d = some o → h.DictAt (intKind G.prog G.w) d kvs ep) (hk : kvs.map (·.1) = es.map (·.1)) (hgo : ∀ it v, letOwnedTupleGo tg it v = pure ()) :
    It G A tg (intsT (es.map (·.1))) (fun _ => True) Z₀ I [I] (fun i h => h.IsKeyIter I d i kvs.length ep) where
  frame := fun i h h' hS hk => hS.at fun o e => hk I (by simp) o e
  there := fun i h ⟨o, ho, _⟩ b hb => by rw [List.mem_singleton] at hb; subst hb; exact ⟨o, ho⟩
  item := fun i t' B Z μ s E ht _ hz r hS p => by
    have hm := ho s.heap (r.kZ _ _ (hz _ _ hd))
    rw [intsT, ← hk] at ht
    obtain ⟨⟨k, x⟩, hx, e⟩ : ∃ q, kvs[i]? = some q ∧ t' = .int q.1 := by
      simp only [List.getElem?_map] at ht
      cases q : kvs[i]? with
      | none => rw [q] at ht; cases ht
      | some y => rw [q] at ht; exact ⟨y, rfl, (Option.some.inj ht).symm⟩
    subst e
    refine wpAny_pyNext_dict_item hS hm hx fun key h' hkey hit' hs' => ⟨key, rfl, wpAny_of_eq (hgo _ _) ⟨h', s.toks, rfl, hit', fun b o hb e => hs'.extBut b o (fun q => hb (by simp [q])) e, .inl ?_⟩⟩
    obtain ⟨t, rfl⟩ := Value.isInt_shape hkey
    simp only [IsT]; exact ⟨t, rfl⟩
  done := fun B Z μ s E _ hz r hS p => by
    have hm := ho s.heap (r.kZ _ _ (hz _ _ hd))
    have hn : (intsT (es.map (·.1))).length = kvs.length := by rw [intsT, ← hk]; simp
    rw [hn] at hS
    refine wpAny_pyNext_dict_end hh hS hm (by simp) fun h' he => ⟨h', s.toks, rfl, rfl, fun b o hb e => he b o (fun q => hb (by simp [q])) e⟩
  self := fun i s Q E hS hQ => wpAny_pyIter_keyiter hS hQ

noncomputable def enumT : Nat → List Tree → List Tree
  | _, [] => []
  | i, t :: ts => .tup [.int (i : Nat), t] :: enumT (i + 1) ts
theorem enumT_get : ∀ (ts : List Tree) (k i : Nat), (enumT k ts)[i]? = ts[i]?.map fun t => .tup [.int ((k + i : Nat) : Int), t]
  | [], k, i => by simp [enumT]
  | t :: ts, k, 0 => by simp [enumT]
  | t :: ts, k, i + 1 => by
    simp only [enumT, List.getElem?_cons_succ, enumT_get ts (k + 1) i]
    congr 1; funext u; congr 4; omega
theorem enumT_length : ∀ (ts : List Tree) (k : Nat), (enumT k ts).length = ts.length
  | [], k => rfl
  | t :: ts, k => by simp [enumT, enumT_length ts (k + 1)]

theorem It.enum {G : GS} {A : Around} {elts : List Expr} {x1} {tp : Pos} {t : Tree} {ts : List Tree} {Z₀ : Reg} {ax e it : Addr} (hh : A.handled = none) (hv : IsT G Z₀ t (.ref ax)) (hei : e ≠ it) :
    It G A (.Tuple elts x1 tp) (enumT 0 ts) (fun μ => LstOf (memSt μ) t ts) Z₀ e [e, it] (fun i h => (∃ old, IsEnum h e it i old) ∧ h.IsListIter it ax i) where
  frame := fun i h h' ⟨⟨old, he⟩, hit⟩ hk => ⟨⟨old, hk e (by simp) _ he⟩, hit.at fun o e => hk it (by simp) o e⟩
  there := fun i h ⟨⟨old, he⟩, ⟨o, ho, _⟩⟩ b hb => by
    rcases List.mem_cons.mp hb with rfl | hb
    · exact ⟨_, he⟩
    · rw [List.mem_singleton] at hb; subst hb; exact ⟨o, ho⟩
  item := fun i t' B Z μ s E ht hk hz r hS p => by
    obtain ⟨⟨old, he⟩, hit⟩ := hS
    obtain ⟨a, vs, e', j, hl⟩ := lst_concM r (IsT.mono hz _ _ hv) hk
    cases e'
    rw [enumT_get] at ht
    obtain ⟨u, hu, rfl⟩ : ∃ u, ts[i]? = some u ∧ t' = .tup [.int ((0 + i : Nat) : Int), u] := by
      cases q : ts[i]? with
      | none => rw [q] at ht; cases ht
      | some y => rw [q] at ht; exact ⟨y, rfl, (Option.some.inj ht).symm⟩
    obtain ⟨v, hv', iv⟩ := j.get hu
    refine wpAny_pyNext_enum_item he hit hl.isList (x := v) (by simpa using hv') hei fun h' ho hit' hT hsz hkp => ⟨_, rfl, ?_⟩
    have helt : e ≠ s.heap.objs.size := Nat.ne_of_lt (Heap.lt_size he)
    refine wpAny_letOwnedTupleGo_enum ho fun h'' he' hs' => ⟨h'', s.toks + 1, rfl, ⟨⟨_, by simpa using he'⟩, hit'.at fun o y => (hs'.2 it hei.symm).trans y⟩, fun b o hb y => ?_, ?_⟩
    · have h1 : b ≠ e := fun q => hb (by simp [q])
      have h2 : b ≠ it := fun q => hb (by simp [q])
      exact (hs'.2 b h1).trans (hkp b o h1 h2 y)
    · refine .inr ⟨s.heap.objs.size, _, [.int i s.toks, v], 0, [.int ((0 + i : Nat) : Int), u], rfl, rfl, get_fresh (Nat.le_refl _), (hs'.2 _ helt.symm).trans hT, rfl, rfl, ?_⟩
      simp only [AreT, IsT]
      exact ⟨_, _, rfl, ⟨s.toks, by rw [Nat.zero_add]⟩, v, [], rfl, iv, rfl⟩
  done := fun B Z μ s E hk hz r hS p => by
    obtain ⟨⟨old, he⟩, hit⟩ := hS
    obtain ⟨a, vs, e', j, hl⟩ := lst_concM r (IsT.mono hz _ _ hv) hk
    cases e'
    rw [enumT_length] at he hit
    refine wpAny_pyNext_enum_end hh he hit hl.isList (by simp [AreT.length j]) fun h' hx => ⟨h', s.toks, rfl, rfl, fun b o hb e => hx b o (fun q => hb (by simp [q])) e⟩
  self := fun i s Q E ⟨⟨old, he⟩, _⟩ hQ => wpAny_pyIter_enum he hQ

section
variable {c : Cx} {σ : St} {tg : Expr} {K : List Tree → (Mem → Prop) → St → Prop}

theorem Rep.privNew {B Z : Reg} {s : Shared} (r : Rep c B Z σ s) {bs : List Addr} (h : ∀ b ∈ bs, s.heap.objs.size ≤ b) : Priv c B Z σ.μ bs := fun b hb => r.free (get_fresh (h b hb))

noncomputable abbrev kKeepL (t : Tree) (ts : List Tree) (μ : Mem) : Prop := LstOf (memSt μ) t ts
noncomputable abbrev kIvLF (K : List Tree → (Mem → Prop) → St → Prop) (t : Tree) (σ : St) (ts : List Tree) : Prop := K ts (kKeepL t ts) σ
noncomputable abbrev kIvL (K : List Tree → (Mem → Prop) → St → Prop) (t : Tree) (σ : St) : Prop := Ex1 (LstOf σ t) (kIvLF K t σ)
noncomputable abbrev kIvTF (K : List Tree → (Mem → Prop) → St → Prop) (σ : St) (ts : List Tree) : Prop := K ts kTrue σ
noncomputable abbrev kIvT (K : List Tree → (Mem → Prop) → St → Prop) (t : Tree) (σ : St) : Prop := Ex1 (kEq .tup t) (kIvTF K σ)
noncomputable abbrev kIvDF (K : List Tree → (Mem → Prop) → St → Prop) (σ : St) (es : List (Int × Tree)) : Prop := K (intsT (es.map (·.1))) kTrue σ
noncomputable abbrev kIvD (K : List Tree → (Mem → Prop) → St → Prop) (t : Tree) (σ : St) : Prop := Ex1 (kEq .dct t) (kIvDF K σ)
noncomputable abbrev kIvR1 (K : List Tree → (Mem → Prop) → St → Prop) (ts : List Tree) (σ : St) : Prop := ∃ b, ts = [.int b] ∧ -(2 ^ 62) ≤ b ∧ b < 2 ^ 62 ∧ K (rangeT 0 b.toNat) kTrue σ
noncomputable abbrev kIvR2 (K : List Tree → (Mem → Prop) → St → Prop) (ts : List Tree) (σ : St) : Prop := ∃ a b, ts = [.int a, .int b] ∧ -(2 ^ 62) ≤ a ∧ a < 2 ^ 62 ∧ -(2 ^ 62) ≤ b ∧ b < 2 ^ 62 ∧ K (rangeT a (b - a).toNat) kTrue σ
noncomputable abbrev kIvE (K : List Tree → (Mem → Prop) → St → Prop) (us : List Tree) (σ : St) : Prop := ∃ t ts, us = [t] ∧ LstOf σ t ts ∧ K (enumT 0 ts) (kKeepL t ts) σ
theorem IV.lst {iter : Expr} (hh : c.A.handled = none) (h : EV c iter σ (kIvL K)) : IV c tg iter σ K := .intro fun B Z s r =>
  h.run' r fun v s₁ Z₁ t σ₁ g₁ r₁ i₁ ⟨ts, hl, k⟩ => by
    obtain ⟨a, vs, rfl, j, hp⟩ := lst_conc r₁ i₁ hl
    refine wpAny_pyIter_list hp.isList ?_
    refine ⟨Z₁, σ₁, ts, _, _, [s₁.heap.objs.size], _, rfl, g₁, r₁.heap (fun b o e => Heap.get?_push_of_some _ e), It.lst hh i₁, r₁.privNew (by simp), ⟨_, Heap.get?_push_size _ rfl, rfl, rfl⟩, k⟩

theorem IV.tup {iter : Expr} (hh : c.A.handled = none) (h : EV c iter σ (kIvT K)) (hgo : ∀ it v, letOwnedTupleGo tg it v = pure () := by intros; rfl) : IV c tg iter σ K := .intro fun B Z s r =>
  h.run' r fun v s₁ Z₁ t σ₁ g₁ r₁ i₁ ⟨ts, e, k⟩ => by
    subst e
    have i₀ := i₁
    simp only [IsT] at i₁
    obtain ⟨a, o, vs, n, rfl, z, z1, z2, j⟩ := i₁
    refine wpAny_pyIter_tuple ⟨o, r₁.1.kZ _ _ z, z1, n, z2⟩ ?_
    refine ⟨Z₁, σ₁, ts, _, _, [s₁.heap.objs.size], _, rfl, g₁, r₁.heap (fun b o e => Heap.get?_push_of_some _ e), It.tup hh i₀ hgo, r₁.privNew (by simp), ⟨_, Heap.get?_push_size _ rfl, rfl, rfl⟩, k⟩

theorem IV.dct {iter : Expr} (hh : c.A.handled = none) (h : EV c iter σ (kIvD K)) (hgo : ∀ it v, letOwnedTupleGo tg it v = pure () := by intros; rfl) : IV c tg iter σ K := .intro fun B Z s r =>
  h.run' r fun v s₁ Z₁ t σ₁ g₁ r₁ i₁ ⟨es, e, k⟩ => by
    subst e
    simp only [IsT] at i₁
    obtain ⟨a, o, kvs, rfl, z, hd, hs, j⟩ := i₁
    obtain ⟨ep, hm⟩ := (Heap.dictOf_iff.mpr ⟨o, r₁.1.kZ _ _ z, hd⟩ : s₁.heap.DictOf (intKind c.G.prog c.G.w) a kvs).dictAt
    refine wpAny_pyIter_dict hs hm ?_
    have hall : ∀ h : Heap, h.get? a = some o → h.DictAt (intKind c.G.prog c.G.w) a kvs ep := fun h ho => hm.at' fun o' e => by rw [r₁.1.kZ _ _ z] at e; cases e; exact ho
    refine ⟨Z₁, σ₁, _, _, _, [s₁.heap.objs.size], _, rfl, g₁, r₁.heap (fun b o e => Heap.get?_push_of_some _ e), It.dct hh z hall ((kvs_pairs.mp j).keys) hgo, r₁.privNew (by simp), ⟨_, Heap.get?_push_size _ rfl, rfl, rfl⟩, k⟩

theorem range_iter (hh : c.A.handled = none) {B Z : Reg} {s : Shared} {a b : Int} {t u v : Tok} {r : Addr} (rp : Rep c B Z σ s) (hr : IsRange s.heap r a b 1 t u v) (ha : -(2 ^ 62) ≤ a) (ha' : a < 2 ^ 62) (hb : -(2 ^ 62) ≤ b) (hb' : b < 2 ^ 62)
    (hgo : ∀ it v, letOwnedTupleGo tg it v = pure ()) (k : K (rangeT a (b - a).toNat) (fun _ => True) σ) :
    wpAny (model c.G.prog c.G.w) c.A (pyIter (.ref r)) (fun it s₂ => ∃ Z' σ' ts keep I wr S, it = .ref I ∧ Grow B Z Z' ∧ Rep c B Z' σ' s₂ ∧
    It c.G c.A tg ts keep Z' I wr S ∧ Priv c B Z' σ'.μ wr ∧ S 0 s₂.heap ∧ K ts keep σ') (fun _ _ => False) s := by
  refine wpAny_pyIter_range hr (small_one ha ha' hb hb') ?_
  refine ⟨Z, σ, _, _, _, [s.heap.objs.size], _, rfl, .refl B Z, rp.heap (fun b o e => Heap.get?_push_of_some _ e), It.range hh a (b - a).toNat hgo, rp.privNew (by simp), ?_, k⟩
  have : ({ cls := .type "range_iterator", data := .fields #[rawInt a, rawInt (Builtin.Range.rangeSize a b 1), rawInt 1] } : Obj) = { cls := .type "range_iterator", data := .fields #[rawInt (a + ((0 : Nat) : Int)), rawInt (((b - a).toNat : Int) - ((0 : Nat) : Int)), rawInt 1] } := by
    rw [rangeSize_one]
    have e1 : a + ((0 : Nat) : Int) = a := by simp
    have e2 : (if a < b then b - a else 0) = ((b - a).toNat : Int) - ((0 : Nat) : Int) := by split <;> omega
    rw [e1, e2]
  rw [this]
  exact Heap.get?_push_size _ rfl

/-- a call of a type of the language, by its name -/
theorem callType {x : Str} {T : String} {p pos : Pos} {e : Expr} {es : List Expr} {B Z : Reg} {s : Shared} {Q : Value → Shared → Prop} (r : Rep c B Z σ s) (hx : c.env.kindOf x = some .globalImplicit) (hg : nsIn (KK c.G.w) mainGlobals x = some none)
    (hb : bootBuiltins x = some (.type T)) (hn : x ≠ "__name__") (hd : (x == ("__debug__" : Str)) = false) {Λ : List Tree → St → Prop} (h : LV c pos (e :: es) σ Λ)
    (k : ∀ vs s₁, Post c B Z AreT Λ vs s₁ → wpAny (model c.G.prog c.G.w) c.A (call (.type T) vs) Q (fun _ _ => False) s₁)
    (he : starEach (e :: es) c.env = (false, eval e c.env) :: starEach es c.env) (hplain : (backTo pos (starEach es c.env)).any (·.1) = false) :
    wpAny (model c.G.prog c.G.w) c.A (eval (.Call (.Name x p) (e :: es) [] pos) c.env) Q (fun _ _ => False) s :=
  wpAny_Call_Name_kw (wpAny_Name (wpAny_loadBuiltin r hx hg hb hn (PyProof.Rows.callWith_type1 (h.run r k) he hplain)) hd)

theorem IV.range1 {p pos : Pos} {e : Expr} (hh : c.A.handled = none) (hx : c.env.kindOf "range" = some .globalImplicit) (h : LV c pos [e] σ (kIvR1 K))
    (hg : nsIn (KK c.G.w) mainGlobals "range" = some none := by kernel_rfl) (hgo : ∀ it v, letOwnedTupleGo tg it v = pure () := by intros; rfl)
    (he : starEach [e] c.env = (false, eval e c.env) :: starEach [] c.env := by rfl) : IV c tg (.Call (.Name "range" p) [e] [] pos) σ K := .intro fun B Z s r =>
  callType (T := "range") r hx hg (by decide +kernel) (by decide) (by decide +kernel) h (fun vs s₁ hpq => by
    obtain ⟨Z₁, ts, σ₁, g₁, r₁, i₁, b, e', h1, h2, k⟩ := hpq
    subst e'
    simp only [AreT, IsT] at i₁
    obtain ⟨v, _, rfl, ⟨t, rfl⟩, rfl⟩ := i₁
    refine call_range_1 ?_
    have r₂ := r₁.heap (h' := s₁.heap.push { cls := .type "range", data := .fields #[.int 0 s₁.toks, .int b t, .int 1 (s₁.toks + 1)] }) (tk := s₁.toks + 1 + 1) (fun b o e => Heap.get?_push_of_some _ e)
    refine wpAny_mono (range_iter hh r₂ (IsRange.new _ _ _ _ _ _ _) (by decide) (by decide) h1 h2 hgo (by simpa using k)) (fun it s₂ hq => ?_) fun _ _ x => x
    obtain ⟨Z', σ', ts, keep, I, wr, S, a1, a2, a3⟩ := hq
    exact ⟨Z', σ', ts, keep, I, wr, S, a1, g₁.trans a2, a3⟩) he rfl

theorem IV.range2 {p pos : Pos} {e e₂ : Expr} (hh : c.A.handled = none) (hx : c.env.kindOf "range" = some .globalImplicit) (h : LV c pos [e, e₂] σ (kIvR2 K))
    (hg : nsIn (KK c.G.w) mainGlobals "range" = some none := by kernel_rfl) (hgo : ∀ it v, letOwnedTupleGo tg it v = pure () := by intros; rfl)
    (he : starEach [e, e₂] c.env = (false, eval e c.env) :: starEach [e₂] c.env := by rfl) (hplain : (backTo pos (starEach [e₂] c.env)).any (·.1) = false := by rfl) : IV c tg (.Call (.Name "range" p) [e, e₂] [] pos) σ K := .intro fun B Z s r =>
  callType (T := "range") r hx hg (by decide +kernel) (by decide) (by decide +kernel) h (fun vs s₁ hpq => by
    obtain ⟨Z₁, ts, σ₁, g₁, r₁, i₁, a, b, e', h0, h0', h1, h2, k⟩ := hpq
    subst e'
    simp only [AreT, IsT] at i₁
    obtain ⟨v, _, rfl, ⟨t, rfl⟩, v', _, rfl, ⟨t', rfl⟩, rfl⟩ := i₁
    refine call_range_2 ?_
    have r₂ := r₁.heap (h' := s₁.heap.push { cls := .type "range", data := .fields #[.int a t, .int b t', .int 1 s₁.toks] }) (tk := s₁.toks + 1) (fun b o e => Heap.get?_push_of_some _ e)
    refine wpAny_mono (range_iter hh r₂ (IsRange.new _ _ _ _ _ _ _) h0 h0' h1 h2 hgo k) (fun it s₂ hq => ?_) fun _ _ x => x
    obtain ⟨Z', σ', ts, keep, I, wr, S, a1, a2, a3⟩ := hq
    exact ⟨Z', σ', ts, keep, I, wr, S, a1, g₁.trans a2, a3⟩) he hplain

theorem IV.enum {p pos : Pos} {e : Expr} {elts : List Expr} {x1} {tp : Pos} (hh : c.A.handled = none) (hx : c.env.kindOf "enumerate" = some .globalImplicit)
    (h : LV c pos [e] σ (kIvE K))
    (hg : nsIn (KK c.G.w) mainGlobals "enumerate" = some none := by kernel_rfl)
    (he : starEach [e] c.env = (false, eval e c.env) :: starEach [] c.env := by rfl) : IV c (.Tuple elts x1 tp) (.Call (.Name "enumerate" p) [e] [] pos) σ K := .intro fun B Z s r =>
  callType (T := "enumerate") r hx hg (by decide +kernel) (by decide) (by decide +kernel) h (fun vs s₁ hpq => by
    obtain ⟨Z₁, us, σ₁, g₁, r₁, i₁, t, ts, e', hl, k⟩ := hpq
    subst e'
    simp only [AreT] at i₁
    obtain ⟨v, _, rfl, i₁, rfl⟩ := i₁
    obtain ⟨a, vs, rfl, j, hp⟩ := lst_conc r₁ i₁ hl
    refine call_enumerate_list hp.isList fun h' he hit hsz hkp => ?_
    refine wpAny_pyIter_enum he ?_
    exact ⟨Z₁, σ₁, _, _, _, [s₁.heap.objs.size + 1, s₁.heap.objs.size], _, rfl, g₁, r₁.heap hkp, It.enum hh i₁ (Nat.succ_ne_self _), r₁.privNew (fun b hb => by
      rcases List.mem_cons.mp hb with rfl | hb
      · exact Nat.le_succ _
      · rw [List.mem_singleton] at hb; subst hb; exact Nat.le_refl _), ⟨⟨_, he⟩, hit⟩, k⟩) he rfl
end

/-! ### comprehensions -/
structure IfV (c : Cx) (ifs : List Expr) (σ : St) (Θ : Bool → St → Prop) : Prop where
  intro ::
  go : WV c IsB (forIn ifs true fun x r => if r = true then do let ok ← isTrue x c.env (eval x c.env); pure (ForInStep.yield ok) else pure (ForInStep.yield r)) σ Θ
theorem IfV.nil {c : Cx} {σ : St} {Θ : Bool → St → Prop} (h : Θ true σ) : IfV c [] σ Θ := .intro fun B Z s r => wpAny_tests_nil (.here r isB h)
theorem IfV.one {c : Cx} {σ : St} {Θ : Bool → St → Prop} {x : Expr} (h : TV c x σ Θ) : IfV c [x] σ Θ := .intro fun B Z s r => wpAny_tests_one (h.go B Z s r)

noncomputable def CompL (c : Cx) (tg : Expr) (ifs : List Expr) (elt : Expr) (keep : Mem → Prop) (Φ : List Tree → Mem → Prop) : List Tree → List Tree → St → Prop
  | [], acc, σ => keep σ.μ ∧ Φ acc σ.μ
  | t :: ts, acc, σ => keep σ.μ ∧ GV c tg t σ fun σ₁ => IfV c ifs σ₁ fun b σ₂ => if b then EV c elt σ₂ fun u σ₃ => CompL c tg ifs elt keep Φ ts (acc ++ [u]) σ₃ else CompL c tg ifs elt keep Φ ts acc σ₂

section
variable {prog : Program} {w : World} {A : Around} {R : Result → Shared → Prop} {s : Shared}
theorem codeAny_compLoop_all {elt target iter : Expr} {ifs : List Expr} {scope : Scope} {pos : Pos} {it acc : Value} {env : Env} (I : Nat → Shared → Prop)
    (turn : ∀ n s, I n s → wpAny (model prog w) A (pyNext it) (fun r s₁ => match r with
      | none => R (.ok .next) s₁
      | some v => wpAny (model prog w) A (letOwnedTupleGo target it v) (fun _ s₁' => wpAny (model prog w) A (assign target env v) (fun _ s₂ =>
          wpAny (model prog w) A (forIn ifs true fun c r => if r = true then do let ok ← isTrue c env (eval c env); pure (ForInStep.yield ok) else pure (ForInStep.yield r)) (fun ok s₃ =>
            if ok = true then wpAny (model prog w) A (eval elt env) (fun x s₄ =>
              wpAny (model prog w) A (call (.builtin "list.append") [acc, x]) (fun _ s₅ => ∃ m, m < n ∧ I m s₅) (notedBy (model prog w) A env fun e s' => R (.error e) s') s₄) (notedBy (model prog w) A env fun e s' => R (.error e) s') s₃
            else ∃ m, m < n ∧ I m s₃) (notedBy (model prog w) A env fun e s' => R (.error e) s') s₂) (notedBy (model prog w) A env fun e s' => R (.error e) s') s₁') (notedBy (model prog w) A env fun e s' => R (.error e) s') s₁) (notedBy (model prog w) A env fun e s' => R (.error e) s') s)
    (n : Nat) (h : I n s) : codeAny (model prog w) A (.compLoop (.ListComp elt [⟨target, iter, ifs, 0⟩] scope pos) 0 it acc env) R s := by
  refine codeAny_loop rfl I (fun n s hI => ?_) n h
  show wpAny _ A ((compTurn (.ListComp elt [⟨target, iter, ifs, 0⟩] scope pos) 0 it acc env).onRaise (fun x => do noteFrame x env; theTreesLotGoes x)) _ _ s
  refine wpAny_noted ?_
  rw [compTurn_list]
  refine wpAny_bind (wpAny_standAt (wpAny_bind (wpAny_mono (turn n s hI) (fun r s₁ h₁ => ?_) fun _ _ h' => h')))
  cases r with
  | none => exact wpAny_pure h₁
  | some v =>
    refine wpAny_bind (wpAny_mono h₁ (fun _ s₁' h₁ => ?_) fun _ _ h' => h')
    refine wpAny_bind (wpAny_mono h₁ (fun _ s₂ h₂ => wpAny_bind (wpAny_mono h₂ (fun ok s₃ h₃ => ?_) fun _ _ h' => h')) fun _ _ h' => h')
    cases ok with
    | false => exact wpAny_pure ⟨rfl, h₃⟩
    | true =>
      exact wpAny_bind (wpAny_bind (wpAny_mono h₃ (fun x s₄ h₄ => wpAny_bind (wpAny_mono h₄ (fun _ s₅ h₅ => wpAny_pure (wpAny_pure ⟨rfl, h₅⟩)) fun _ _ h' => h')) fun _ _ h' => h'))
end

section
variable {c : Cx} {σ : St} {tg : Expr} {all : List Tree} {keep : Mem → Prop} {Z₀ : Reg} {I : Addr} {wr : List Addr} {S : Nat → Heap → Prop}

/-- the comprehension's loop, between two turns -/
inductive CInv (c : Cx) (tg elt : Expr) (ifs : List Expr) (keep : Mem → Prop) (Φ : List Tree → Mem → Prop) (all : List Tree) (wr : List Addr) (S : Nat → Heap → Prop) (D : Addr) (B Z : Reg) (k : Nat) (s' : Shared) : Prop
  | mk (i : Nat) (ts us : List Tree) (σ' : St) (Z' : Reg) (vs : List Value) (hd : all.drop i = ts) (hk : k = ts.length) (hl : CompL c tg ifs elt keep Φ ts us σ') (g : Grow B Z Z') (r : Rep c B Z' σ' s')
    (p : Priv c B Z' σ'.μ (D :: wr)) (hS : S i s'.heap) (hi : i ≤ all.length) (hpl : s'.heap.PlainList D (List.toArray vs)) (ha : AreT c.G Z' us vs) (hul : us.length ≤ i)

theorem Priv.tail {c : Cx} {B Z : Reg} {μ : Mem} {D : Addr} {wr : List Addr} (p : Priv c B Z μ (D :: wr)) : Priv c B Z μ wr := fun b hb => p b (List.mem_cons_of_mem _ hb)
theorem Priv.head {c : Cx} {B Z : Reg} {μ : Mem} {D : Addr} {wr : List Addr} (p : Priv c B Z μ (D :: wr)) : Priv c B Z μ [D] := fun b hb => p b (by rw [List.mem_singleton] at hb; subst hb; exact List.mem_cons_self ..)
theorem drop_len {all : List Tree} {i : Nat} (hd : all.drop i = []) (hi : i ≤ all.length) : i = all.length := by
  have := congrArg List.length hd
  rw [List.length_drop, List.length_nil] at this
  omega
theorem drop_at {all ts : List Tree} {t : Tree} {i : Nat} (hd : all.drop i = t :: ts) : all[i]? = some t ∧ i < all.length ∧ all.drop (i + 1) = ts := by
  have ht : all[i]? = some t := by
    have := congrArg (fun l => l[0]?) hd
    rwa [List.getElem?_drop] at this
  refine ⟨ht, (List.getElem?_eq_some_iff.mp ht).1, ?_⟩
  have := congrArg (List.drop 1) hd
  rwa [List.drop_drop] at this

/-- behind a turn of the iterator, and behind the turn's body -/
inductive CMid (c : Cx) (wr : List Addr) (S : Nat → Heap → Prop) (D : Addr) (B Z : Reg) (σ : St) (i : Nat) (vs : List Value) (t : Tree) (v : Value) (s : Shared) : Prop
  | mk (Z₂ : Reg) (g : Grow B Z Z₂) (r : Rep c (B.over (D :: wr) s.heap) Z₂ σ s) (iv : IsT c.G Z₂ t v) (hS : S (i + 1) s.heap) (p : Priv c B Z₂ σ.μ (D :: wr)) (hpl : s.heap.PlainList D vs.toArray)
theorem comp_mid {B Z : Reg} {s s₂ : Shared} {D : Addr} {i : Nat} {vs : List Value} {t : Tree} {v : Value} {Z₂ : Reg} (p : Priv c B Z σ.μ (D :: wr)) (hD : D ∉ wr) (hpl : s.heap.PlainList D vs.toArray) (hk : ∀ a o, c.G.h₁.get? a = some o → B a = some o)
    (g₂ : Grow (B.over [D] s.heap) Z Z₂) (r₂ : Rep c (B.over [D] s.heap) Z₂ σ s₂) (iv : IsT c.G Z₂ t v) (hS : S (i + 1) s₂.heap) (p₂ : Priv c (B.over [D] s.heap) Z₂ σ.μ wr) : CMid c wr S D B Z σ i vs t v s₂ := by
  have hbD : ∀ b ∈ [D], B b = none := fun b hb => (p.head b hb).1
  obtain ⟨nD, hoD⟩ := hpl
  have hpl₂ : s₂.heap.PlainList D vs.toArray := ⟨nD, r₂.1.kB D _ (by rw [Reg.over_in (List.mem_singleton.mpr rfl)]; exact hoD)⟩
  have pD₂ : Priv c B Z₂ σ.μ [D] := p.head.after g₂ r₂ fun b hb => by rw [List.mem_singleton] at hb; subst hb; exact ⟨_, hoD⟩
  have p₂' : Priv c B Z₂ σ.μ (D :: wr) := fun b hb => by
    rcases List.mem_cons.mp hb with rfl | hb
    · exact pD₂ b (List.mem_singleton.mpr rfl)
    · obtain ⟨a1, a2⟩ := p₂ b hb
      exact ⟨Reg.over_none hbD a1, a2⟩
  exact ⟨Z₂, g₂.under hbD, (r₂.under hk hbD).over p₂', iv, hS, p₂', hpl₂⟩
inductive CFin (c : Cx) (wr : List Addr) (S : Nat → Heap → Prop) (D : Addr) (B Z Z₅ : Reg) (i : Nat) (vs : List Value) (σ₅ : St) (s₅ : Shared) : Prop
  | mk (g : Grow B Z Z₅) (r : Rep c B Z₅ σ₅ s₅) (p : Priv c B Z₅ σ₅.μ (D :: wr)) (hS : S (i + 1) s₅.heap) (hpl : s₅.heap.PlainList D vs.toArray)
theorem comp_fin (W : It c.G c.A tg all keep Z₀ I wr S) {B Z Z₂ Z₅ : Reg} {s₂ s₅ : Shared} {D : Addr} {i : Nat} {vs : List Value} {σ₅ : St} (hk : ∀ a o, c.G.h₁.get? a = some o → B a = some o)
    (g₂ : Grow B Z Z₂) (hS : S (i + 1) s₂.heap) (p : Priv c B Z₂ σ.μ (D :: wr)) (hpl : s₂.heap.PlainList D vs.toArray) (gg : Grow (B.over (D :: wr) s₂.heap) Z₂ Z₅) (rr : Rep c (B.over (D :: wr) s₂.heap) Z₅ σ₅ s₅) : CFin c wr S D B Z Z₅ i vs σ₅ s₅ := by
  have hb : ∀ b ∈ D :: wr, B b = none := fun b hb => (p b hb).1
  obtain ⟨n, e⟩ := hpl
  have thw : ∀ b ∈ D :: wr, ∃ o, s₂.heap.get? b = some o := fun b hb => by
    rcases List.mem_cons.mp hb with rfl | hb
    · exact ⟨_, e⟩
    · exact W.there _ _ hS b hb
  exact ⟨g₂.trans (gg.under hb), rr.under hk hb, p.after gg rr thw, W.frame _ _ _ hS fun b hb o e => rr.1.kB b o (by rw [Reg.over_in (List.mem_cons_of_mem _ hb)]; exact e),
    ⟨n, rr.1.kB D _ (by rw [Reg.over_in (List.mem_cons_self ..)]; exact e)⟩⟩

theorem comp_run {elt iter : Expr} {ifs : List Expr} {scope : Scope} {pos : Pos} {D : Addr} {Φ : List Tree → Mem → Prop} (W : It c.G c.A tg all keep Z₀ I wr S) {B Z : Reg} {s : Shared} {R : Result → Shared → Prop} (hl : CompL c tg ifs elt keep Φ all [] σ) (hz : Sub Z₀ Z) (r : Rep c B Z σ s)
    (p : Priv c B Z σ.μ (D :: wr)) (hD : D ∉ wr) (hS : S 0 s.heap) (hacc : s.heap.PlainList D #[]) (hlen : all.length ≤ 1000)
    (hR : ∀ Z' us σ' s' vs, Grow B Z Z' → Rep c B Z' σ' s' → Priv c B Z' σ'.μ (D :: wr) → s'.heap.PlainList D (List.toArray vs) → AreT c.G Z' us vs → Φ us σ'.μ → R (.ok .next) s') :
    codeAny (model c.G.prog c.G.w) c.A (.compLoop (.ListComp elt [⟨tg, iter, ifs, 0⟩] scope pos) 0 (.ref I) (.ref D) c.env) R s := by
  refine codeAny_compLoop_all (CInv c tg elt ifs keep Φ all wr S D B Z) ?_ all.length
    ⟨0, all, [], σ, Z, [], rfl, rfl, hl, .refl B Z, r, p, hS, Nat.zero_le _, hacc, by simp only [AreT], Nat.le_refl _⟩
  intro k s' hI
  obtain ⟨i, ts, us, σ', Z', vs, hd, rfl, hl', g, r', p', hS', hi, hpl, ha, hul⟩ := hI
  cases ts with
  | nil =>
    obtain rfl := drop_len hd hi
    refine wpAny_mono (W.done B Z' σ'.μ s' _ hl'.1 (hz.trans g.1) r'.1 hS' fun b hb => ⟨(p'.tail b hb).2.1, (p'.tail b hb).2.2.1⟩) (fun ro s₁ hq => ?_) fun _ _ x => x
    obtain ⟨h', tk, rfl, rfl, hkeep⟩ := hq
    exact hR Z' us σ' _ vs g (r'.priv p'.tail hkeep) p' (hpl.at fun o e => hkeep D o hD e) ha hl'.2
  | cons t ts =>
    have hdrop := drop_at hd
    -- the accumulator stands over the step of the iterator: it is put into B
    have pD : Priv c (B.over [D] s'.heap) Z' σ'.μ wr := fun b hb => ⟨by rw [Reg.over_out (fun q => hD (by rw [List.mem_singleton] at q; subst q; exact hb))]; exact (p'.tail b hb).1, (p'.tail b hb).2⟩
    refine wpAny_mono (W.step hdrop.1 hl'.1 (hz.trans g.1) (r'.over p'.head) hS' pD) (fun ro s₁ hq => ?_) fun _ _ x => x
    obtain ⟨v, rfl, hq⟩ := hq
    refine wpAny_mono hq (fun _ s₂ hq => ?_) fun _ _ x => x
    obtain ⟨Z₂, g₂, r₂, iv, hS₂, p₂⟩ : CMid c wr S D B Z' σ' i vs t v s₂ := by
      obtain ⟨Z₂, g₂, r₂, iv, hS₂, p₂⟩ := hq
      exact comp_mid p' hD hpl r.1.kH g₂ r₂ iv hS₂ p₂
    clear hq pD hS' hpl p' r'
    refine wpAny_mono (hl'.2.go _ Z₂ s₂ v r₂ iv) (fun _ s₃ hq => ?_) fun _ _ x => x.elim
    clear hl'
    obtain ⟨Z₃, σ₃, g₃, r₃, hif⟩ := hq
    refine wpAny_mono (hif.go _ Z₃ s₃ r₃) (fun ok s₄ hq => ?_) fun _ _ x => x.elim
    obtain ⟨Z₄, b', σ₄, g₄, r₄, ib, hf⟩ := hq
    cases ib
    cases ok with
    | false =>
      obtain ⟨a1, a2, a3, a4, a5⟩ := comp_fin W r.1.kH (g.trans g₂) hS₂ p₂ ‹_› (g₃.trans g₄) r₄
      exact ⟨ts.length, Nat.lt_succ_self _, i + 1, ts, us, σ₄, Z₄, vs, hdrop.2.2, rfl, hf, a1, a2, a3, a4, hdrop.2.1, a5, AreT.mono ((g₂.1.trans g₃.1).trans g₄.1) _ _ ha, Nat.le_succ_of_le hul⟩
    | true =>
      refine wpAny_mono (EV.go hf _ Z₄ s₄ r₄) (fun y s₅ hq => ?_) fun _ _ x => x.elim
      obtain ⟨Z₅, u, σ₅, g₅, r₅, iu, hc⟩ := hq
      obtain ⟨a1, a2, a3, a4, a5⟩ := comp_fin W r.1.kH (g.trans g₂) hS₂ p₂ ‹_› ((g₃.trans g₄).trans g₅) r₅
      have hvl : vs.length ≤ 1000 := by rw [AreT.length ha]; omega
      refine wpAny_list_append_plain (hsz := by rw [List.size_toArray, sizeLine_eq]; omega) a5 fun h' hp' hs' => ?_
      have kb : ∀ b o, b ∉ [D] → s₅.heap.get? b = some o → h'.get? b = some o := fun b o hbn e => (hs'.2 b (fun q => hbn (List.mem_singleton.mpr q))).trans e
      refine ⟨ts.length, Nat.lt_succ_self _, i + 1, ts, us ++ [u], σ₅, Z₅, vs ++ [y], hdrop.2.2, rfl, hc, a1, a2.priv (tk := s₅.toks) a3.head kb, a3, ?_, hdrop.2.1, by rw [← List.push_toArray]; exact hp', ?_, by rw [List.length_append]; exact Nat.succ_le_succ hul⟩
      · exact W.frame _ _ _ a4 fun b hbw o e => kb b o (fun q => hD (by rw [List.mem_singleton] at q; subst q; exact hbw)) e
      · exact AreT.append (AreT.mono (((g₂.1.trans g₃.1).trans g₄.1).trans g₅.1) _ _ ha) (.one iu)

/-- what a block is handed of the names around it -/
noncomputable def clOf (scope : Scope) (env : Env) : List (Str × Addr) := (scope.names.filterMap fun x => if x.2 == .free then (env.cells.lookup x.1).map (x.1, ·) else none).reverse
theorem closureFor_eq {scope : Scope} {env : Env} (h : (scope.names.all fun x => x.2 != .free || (env.cells.lookup x.1).isSome) = true) : closureFor scope env = pure (clOf scope env) := by
  unfold closureFor clOf
  have gen : ∀ (l : List (Str × NameKind)) (cs : List (Str × Addr)), (l.all fun x => x.2 != .free || (env.cells.lookup x.1).isSome) = true →
      (forIn l cs fun x r => (if (x.2 == NameKind.free) = true then do
          let a ← cellOf env x.1
          pure (ForInStep.yield ((x.1, a) :: r))
        else pure (ForInStep.yield r) : Sem (ForInStep (List (Str × Addr))))) = pure ((l.filterMap fun x => if x.2 == .free then (env.cells.lookup x.1).map (x.1, ·) else none).reverse ++ cs) := by
    intro l
    induction l with
    | nil => intro cs _; rfl
    | cons x l ih =>
      intro cs hx
      simp only [List.all_cons, Bool.and_eq_true] at hx
      rw [List.forIn_cons]
      cases q : x.2 == NameKind.free with
      | false =>
        simp only [Bool.false_eq_true, if_false, List.filterMap_cons, q]
        rw [pure_bind]
        exact ih cs hx.2
      | true =>
        have : (env.cells.lookup x.1).isSome = true := by
          have h1 := hx.1
          rw [bne, q] at h1
          simpa using h1
        obtain ⟨a, ha⟩ := Option.isSome_iff_exists.mp this
        simp only [if_true, List.filterMap_cons, q, ha, Option.map_some]
        have hc : cellOf env x.1 = pure a := by unfold cellOf; rw [ha]
        simp only [hc, pure_bind]
        rw [ih _ hx.2, List.reverse_cons, List.append_assoc]; rfl
  have := gen scope.names [] h
  rw [List.append_nil] at this
  rw [← this]
  refine (bind_pure (m := Sem) _).trans ?_
  refine congrArg (forIn scope.names []) ?_
  funext x r
  obtain ⟨n, k⟩ := x
  rfl
theorem clOf_mem {scope : Scope} {env : Env} {p : Str × Addr} (h : p ∈ clOf scope env) : env.cells.lookup p.1 = some p.2 := by
  unfold clOf at h
  rw [List.mem_reverse, List.mem_filterMap] at h
  obtain ⟨x, _, e⟩ := h
  split at e
  · cases q : env.cells.lookup x.1 with
    | none => rw [q] at e; cases e
    | some a => rw [q] at e; cases e; exact q
  · cases e
end

theorem Rep.back2 {c : Cx} {B B₁ Z Z' : Reg} {σ : St} {s s' : Shared} {μ' : Mem} (r : Rep c B Z σ s) (h1 : ∀ a o, B a = some o → B₁ a = some o)
    (h2 : ∀ a o, (a = c.env.locals ∨ ∃ n, (n, a) ∈ c.env.cells) → s.heap.get? a = some o → B₁ a = some o) (g : Grow B₁ Z Z') (r' : RepM c.G B₁ Z' μ' s') :
    Rep c B Z' { σ with μ := μ' } s' ∧ Grow B Z Z' := by
  obtain ⟨r1, m, cm, V, K⟩ := r
  have hg : Grow B Z Z' := ⟨g.1, fun a q => (g.2 a q).imp id fun e => by
    cases qb : B a with
    | none => rfl
    | some o => rw [h1 _ _ qb] at e; cases e⟩
  have inR : ∀ {a o}, (a = c.env.locals ∨ ∃ n, (n, a) ∈ c.env.cells) → s.heap.get? a = some o → s'.heap.get? a = some o ∧ (Z a = none → Z' a = none) ∧ μ' a = none := fun {a o} hx ho => by
    have hr := h2 a o hx ho
    refine ⟨r'.kB _ _ hr, fun hz => ?_, r'.notB hr⟩
    cases q : Z' a with
    | none => rfl
    | some x => rcases g.2 a (by rw [q]; exact nofun) with e | e
                · exact absurd hz e
                · rw [hr] at e; cases e
  refine ⟨⟨⟨r1.top, r1.kH, fun a o e => r'.kB _ _ (h1 _ _ e), r'.kZ, fun a mo e => ⟨(r'.mem a mo e).1, ?_, (r'.mem a mo e).2.2⟩, r'.gens, r'.os⟩, m, cm, ?_, K.mono g.1⟩, hg⟩
  · cases q : B a with
    | none => rfl
    | some o => have := (r'.mem a mo e).2.1; rw [h1 _ _ q] at this; cases this
  · obtain ⟨oL, hoL, _⟩ : ∃ o, s.heap.get? c.env.locals = some o ∧ True := let ⟨o, es, ep, h, _⟩ := V.ns; ⟨o, h, trivial⟩
    have L := inR (.inl rfl) hoL
    exact ⟨V.ns.at' fun o e => (inR (.inl rfl) e).1, fun n a hm => let ⟨o, ho, hd⟩ := V.cell n a hm; ⟨o, (inR (.inr ⟨n, hm⟩) ho).1, hd⟩, V.names, V.apart, V.ne, V.lB, L.2.1 V.lZ, L.2.2, V.cB,
      fun n a hm => let ⟨o, ho, hd⟩ := V.cell n a hm; (inR (.inr ⟨n, hm⟩) ho).2.1 (V.cZ n a hm), fun n a hm => let ⟨o, ho, hd⟩ := V.cell n a hm; (inR (.inr ⟨n, hm⟩) ho).2.2, V.kind, V.glob, V.blt⟩

/-- an object that nothing knows yet becomes a mutable one -/
theorem Rep.adoptM {c : Cx} {B Z : Reg} {σ : St} {s : Shared} {T : Addr} {mo : MObj} (r : Rep c B Z σ s) (p : Priv c B Z σ.μ [T]) (h : MIs c.G Z s.heap T mo) : Rep c B Z { σ with μ := σ.μ.put T mo } s := by
  obtain ⟨r1, m, cm, V, K⟩ := r
  obtain ⟨a1, a2, a3, a4, a5⟩ := p T (List.mem_singleton.mpr rfl)
  refine ⟨⟨r1.top, r1.kH, r1.kB, r1.kZ, fun b mo' e => ?_, r1.gens, r1.os⟩, m, cm, ⟨V.ns, V.cell, V.names, V.apart, V.ne, V.lB, V.lZ, ?_, V.cB, V.cZ, fun n a hm => ?_, V.kind, V.glob, V.blt⟩, K⟩
  · change σ.μ.put T mo b = some mo' at e
    by_cases q : b = T
    · subst q; rw [Mem.put_self] at e; cases e; exact ⟨h, a1, a2⟩
    · rw [Mem.put_ne q] at e; exact r1.mem b mo' e
  · show σ.μ.put T mo c.env.locals = none
    rw [Mem.put_ne (Ne.symm a4)]; exact V.lμ
  · show σ.μ.put T mo a = none
    have hne : a ≠ T := fun q => a5 n (by rw [← q]; exact hm)
    rw [Mem.put_ne hne]; exact V.cμ n a hm

noncomputable def inCx (c : Cx) (scope : Scope) (C : Addr) : Cx := ⟨c.G, c.A, compEnvC scope (clOf scope c.env) C c.env, false⟩

noncomputable def Caps (c : Cx) (scope : Scope) (ρ : Str → Option Tree) : List (Str × Tree) → Prop
  | [] => True
  | (n, t) :: r => (ρ n = some t ∧ c.env.kindOf n = some .cell ∧ scope.names.lookup n = some .free) ∧ Caps c scope ρ r
theorem Caps.at {c : Cx} {scope : Scope} {ρ : Str → Option Tree} {x : Str} {t : Tree} : ∀ {caps : List (Str × Tree)}, Caps c scope ρ caps → caps.lookup x = some t → ρ x = some t ∧ c.env.kindOf x = some .cell ∧ scope.names.lookup x = some .free
  | [], _, h => by cases h
  | (n, u) :: r, ⟨h1, h2⟩, h => by
    rw [List.lookup_cons] at h
    cases hb : x == n with
    | true =>
      rw [hb] at h; cases h
      have e : x = n := by simpa using hb
      subst e; exact h1
    | false => rw [hb] at h; exact Caps.at h2 h

theorem lookup_relabel_free {env : Env} (hk : env.scope.kind = .function) : ∀ {names : List (Str × NameKind)} {x : Str}, names.lookup x = some .free → env.kindOf x = some .cell →
    (names.map fun (n, k) => if (k == NameKind.free && env.scope.kind == .function && env.kindOf n == some .cell) then (n, NameKind.cell) else (n, k)).lookup x = some .cell
  | [], _, h, _ => by simp at h
  | (n, k) :: r, x, h, hc => by
    have ih := @lookup_relabel_free env hk r x
    show List.lookup x ((if (k == NameKind.free && env.scope.kind == .function && env.kindOf n == some .cell) = true then (n, NameKind.cell) else (n, k)) :: _) = _
    cases hx : x == n with
    | true =>
      simp only [List.lookup_cons, hx] at h
      cases h
      have e : x = n := by simpa using hx
      subst e
      rw [if_pos (by rw [hk, hc]; rfl)]
      simp [List.lookup_cons]
    | false =>
      simp only [List.lookup_cons, hx] at h
      by_cases hc' : (k == NameKind.free && env.scope.kind == .function && env.kindOf n == some .cell) = true
      · rw [if_pos hc']; simp only [List.lookup_cons, hx]; exact ih h hc
      · rw [if_neg hc']; simp only [List.lookup_cons, hx]; exact ih h hc

theorem lookup_nodup {β : Type} : ∀ {l : List (Str × β)} {x : Str} {b : β}, (l.map (·.1)).Nodup → (x, b) ∈ l → l.lookup x = some b
  | [], _, _, _, h => by cases h
  | (n, u) :: l, x, b, hn, h => by
    simp only [List.map_cons, List.nodup_cons] at hn
    rw [List.lookup_cons]
    rcases List.mem_cons.mp h with e | h
    · cases e; simp
    · have : (x == n) = false := by
        refine beq_eq_false_iff_ne.mpr fun q => hn.1 ?_
        rw [← q]; exact List.mem_map_of_mem (f := (·.1)) h
      rw [this]; exact lookup_nodup hn.2 h
theorem clOf_nodup {scope : Scope} {env : Env} (h : (scope.names.map (·.1)).Nodup) : ((clOf scope env).map (·.1)).Nodup := by
  unfold clOf
  rw [List.map_reverse]
  refine List.pairwise_reverse.mpr (List.Pairwise.imp (fun hh => Ne.symm hh) ?_)
  refine List.Nodup.sublist ?_ h
  generalize scope.names = l
  induction l with
  | nil => exact List.Sublist.refl _
  | cons x l ih =>
    simp only [List.filterMap_cons, List.map_cons]
    split
    · exact ih.trans (List.sublist_cons_self _ _)
    · rename_i q
      split at q
      · cases e : env.cells.lookup x.1 with
        | none => rw [e] at q; cases q
        | some a => rw [e] at q; cases q; exact List.Sublist.cons₂ _ ih
      · cases q
theorem clOf_in {scope : Scope} {env : Env} {x : Str} {a : Addr} (h : scope.names.lookup x = some .free) (ha : env.cells.lookup x = some a) : (x, a) ∈ clOf scope env := by
  unfold clOf
  rw [List.mem_reverse, List.mem_filterMap]
  exact ⟨(x, .free), mem_of_lookup h, by simp [ha]⟩

section
variable {c : Cx} {σ : St} {tg : Expr} {Ψ : Tree → St → Prop} {Φ : FlT → St → Prop}

theorem comp_block {elt iter : Expr} {ifs : List Expr} {scope : Scope} {pos : Pos} {all : List Tree} {keep : Mem → Prop} {Z₀ : Reg} {I : Addr} {wr : List Addr} {S : Nat → Heap → Prop} {Ω : List Tree → Mem → Prop} {E : Value → Shared → Prop}
    {RR : Value → Addr → Result → Shared → Prop} (W : It c.G c.A tg all keep Z₀ I wr S) {B Z : Reg} {s : Shared} {caps : List (Str × Tree)} (hz : Sub Z₀ Z) (r : Rep c B Z σ s) (p : Priv c B Z σ.μ wr) (hS : S 0 s.heap) (hlen : all.length ≤ 1000)
    (hcaps : Caps c scope σ.ρ caps) (hl : ∀ C, CompL (inCx c scope C) tg ifs elt keep Ω all [] ⟨fun x => caps.lookup x, σ.μ⟩)
    (hcell : ∀ y ∈ scope.names, y.2 ≠ .cell) (hkind : scope.kind = .function) (hnn : (scope.names.map (·.1)).Nodup)
    (hRR : ∀ D C Z' us μ' s' m, Grow B Z Z' → Ω us μ' → μ' D = none → s'.heap.Ns C m → Priv c B Z' (μ'.put D (.lst us)) [C] → Rep c B Z' { σ with μ := μ'.put D (.lst us) } s' → RR (.ref D) C (.ok .next) s') :
    wpAny (model c.G.prog c.G.w) c.A (newList []) (fun acc s₃ => wpAny (model c.G.prog c.G.w) c.A (newFunctionEnv scope c.env.globals (clOf scope c.env) [] c.env.qual none .none (some c.env)) (fun cenv s₄ =>
      codeAny (model c.G.prog c.G.w) c.A (.compStart (.ListComp elt [⟨tg, iter, ifs, 0⟩] scope pos) 0 (.ref I) acc { cenv with scope := relabel scope c.env }) (RR acc cenv.locals) s₄) E s₃) E s := by
  refine wpAny_newObj_type (wpAny_newFunctionEnv hcell (by intro y hy; simp at hy) (fun h₁ hns₁ hsb₁ => ?_) hkind)
  dsimp only at hns₁ hsb₁ ⊢
  generalize hH2 : s.heap.push { cls := .type "list", dict := none, data := .seq ([] : List Value).toArray } = H2 at hns₁ hsb₁ ⊢
  have hC : H2.objs.size = s.heap.objs.size + 1 := by rw [← hH2, Heap.size_push]
  have hDC : s.heap.objs.size ≠ H2.objs.size := by rw [hC]; exact Nat.ne_of_lt (Nat.lt_succ_self _)
  have below : ∀ b, b < s.heap.objs.size → b ≠ H2.objs.size := fun b hb => by rw [hC]; exact Nat.ne_of_lt (Nat.lt_succ_of_lt hb)
  have old : ∀ b o, s.heap.get? b = some o → h₁.get? b = some o := fun b o e => hsb₁.extBut b o (below b (Heap.lt_size e)) (Heap.get?_push_of_some _ (hH2 ▸ Heap.get?_push_of_some _ e))
  have hacc : h₁.PlainList s.heap.objs.size #[] := ⟨_, hsb₁.extBut _ _ hDC (Heap.get?_push_of_some _ (hH2 ▸ Heap.get?_push_size _ rfl))⟩
  have hS₁ : S 0 h₁ := W.frame _ _ _ hS fun b _ o e => old b o e
  have hDn : s.heap.get? s.heap.objs.size = none := get_fresh (Nat.le_refl _)
  have hCn : s.heap.get? H2.objs.size = none := get_fresh (by rw [hC]; exact Nat.le_succ _)
  generalize hDD : s.heap.objs.size = D at *
  generalize hCC : H2.objs.size = C at *
  have fD := r.free hDn
  have fC := r.free hCn
  have hDw : D ∉ wr := fun h => by obtain ⟨o, e⟩ := W.there _ _ hS D h; rw [hDn] at e; cases e
  have hCw : C ∉ wr := fun h => by obtain ⟨o, e⟩ := W.there _ _ hS C h; rw [hCn] at e; cases e
  have r₁ : Rep c B Z σ { s with heap := h₁, toks := s.toks } := r.heap old
  -- the region of the block
  let B₁ : Reg := fun a => if a ∈ wr then none else rest σ.μ s.heap a
  have B₁in : ∀ {a o}, a ∉ wr → σ.μ a = none → s.heap.get? a = some o → B₁ a = some o := fun {a o} h1 h2 h3 => by
    show (if a ∈ wr then none else rest σ.μ s.heap a) = some o
    rw [if_neg h1, rest_some h2]; exact h3
  have B₁wr : ∀ {a}, a ∈ wr → B₁ a = none := fun h => if_pos h
  have B₁of : ∀ {a o}, B₁ a = some o → s.heap.get? a = some o := fun {a o} h => by
    change (if a ∈ wr then none else rest σ.μ s.heap a) = some o at h
    split at h
    · cases h
    · unfold rest at h
      split at h
      · exact h
      · cases h
  have B₁none : ∀ {a}, s.heap.get? a = none → B₁ a = none := fun {a} h => by
    cases q : B₁ a with
    | none => rfl
    | some o => rw [B₁of q] at h; cases h
  obtain ⟨r1, m, cm, V, K⟩ := id r
  have rm : RepM c.G B₁ Z σ.μ { s with heap := h₁, toks := s.toks } := by
    refine ⟨r1.top, fun a o e => ?_, fun a o e => old _ _ (B₁of e), fun a o e => old _ _ (r1.kZ a o e), fun a mo e => ?_, r1.gens, r1.os⟩
    · have hb := r1.kH a o e
      exact B₁in (fun q => by rw [(p a q).1] at hb; cases hb) (r1.notB hb) (r1.kB _ _ hb)
    · obtain ⟨x, y, z⟩ := r1.mem a mo e
      refine ⟨x.mono (Sub.refl Z) fun o q => old a o q, ?_, z⟩
      show (if a ∈ wr then none else rest σ.μ s.heap a) = none
      split
      · rfl
      · exact rest_none e
  have rin : Rep (inCx c scope C) B₁ Z ⟨fun x => caps.lookup x, σ.μ⟩ { s with heap := h₁, toks := s.toks } := by
    have hcm : ∀ n a, (n, a) ∈ clOf scope c.env → (n, a) ∈ c.env.cells := fun n a hm => mem_of_lookup (clOf_mem hm)
    refine ⟨rm, _, cm, ⟨hns₁, fun n a hm => (V.cell n a (hcm n a hm)).keeps old, clOf_nodup hnn, ?_, fun n a hm => ?_, B₁none hCn, fC.2.1, fC.2.2.1, nofun, fun n a hm => V.cZ n a (hcm n a hm), fun n a hm => V.cμ n a (hcm n a hm), hkind, V.glob, V.blt⟩, ?_⟩
    · refine List.Pairwise.imp_of_mem ?_ (List.pairwise_map.mp (clOf_nodup (env := c.env) hnn))
      intro x y hx hy hxy e
      refine hxy (name_of_addr V.apart (hcm x.1 x.2 hx) ?_)
      rw [e]; exact hcm y.1 y.2 hy
    · intro q
      have q' : a = C := q
      subst q'
      exact fC.2.2.2.2 n (hcm n _ hm)
    · intro x t hx
      obtain ⟨h1, h2, h3⟩ := hcaps.at hx
      obtain ⟨v, hv, iv⟩ := K x t h1
      unfold valOf at hv
      rw [h2] at hv
      dsimp only at hv
      refine ⟨v, ?_, iv⟩
      split at hv
      · rename_i hs
        obtain ⟨a, ha⟩ := Option.isSome_iff_exists.mp hs
        have hk' : (compEnvC scope (clOf scope c.env) C c.env).kindOf x = some .cell := lookup_relabel_free V.kind h3 h2
        unfold valOf
        show (match (compEnvC scope (clOf scope c.env) C c.env).kindOf x with | some .local => _ | some .cell => _ | _ => _) = _
        rw [hk']
        dsimp only
        have : ((inCx c scope C).env.cells.lookup x).isSome = true := by
          have hm := clOf_in h3 ha
          have := lookup_of_mem_nodup (clOf_nodup (env := c.env) hnn) hm
          show ((clOf scope c.env).lookup x).isSome = true
          rw [this]; rfl
        rw [if_pos this]; exact hv
      · cases hv
  have pin : Priv (inCx c scope C) B₁ Z σ.μ (D :: wr) := fun b hb => by
    have hcm : ∀ n a, (n, a) ∈ clOf scope c.env → (n, a) ∈ c.env.cells := fun n a hm => mem_of_lookup (clOf_mem hm)
    rcases List.mem_cons.mp hb with rfl | hb
    · exact ⟨B₁none hDn, fD.2.1, fD.2.2.1, hDC, fun n hm => fD.2.2.2.2 n (hcm n _ hm)⟩
    · obtain ⟨a1, a2, a3, a4, a5⟩ := p b hb
      exact ⟨B₁wr hb, a2, a3, fun q => hCw (by have q' : b = C := q; subst q'; exact hb), fun n hm => a5 n (hcm n _ hm)⟩
  have loop : ∀ s₃ : Shared, s₃ = { s with heap := h₁, toks := s.toks } →
      codeAny (model c.G.prog c.G.w) c.A (.compLoop (.ListComp elt [⟨tg, iter, ifs, 0⟩] scope pos) 0 (.ref I) (.ref D) (compEnvC scope (clOf scope c.env) C c.env)) (RR (.ref D) C) s₃ := by
    rintro s₃ rfl
    refine comp_run (c := inCx c scope C) W (hl C) hz rin pin hDw hS₁ hacc hlen fun Z' us σ' s' vs g r' p' hpl ha hΩ => ?_
    obtain ⟨rm', m', cm', V', _⟩ := r'
    have h2 : ∀ a o, (a = c.env.locals ∨ ∃ n, (n, a) ∈ c.env.cells) → s.heap.get? a = some o → B₁ a = some o := fun a o hx ho => by
      rcases hx with rfl | ⟨n, hm⟩
      · exact B₁in (fun q => (p _ q).2.2.2.1 rfl) V.lμ ho
      · exact B₁in (fun q => (p _ q).2.2.2.2 n hm) (V.cμ n a hm) ho
    obtain ⟨r2, g2⟩ := r.back2 (fun a o e => B₁in (fun q => by rw [(p a q).1] at e; cases e) (r1.notB e) (r1.kB _ _ e)) h2 g rm'
    obtain ⟨d1, d2, d3, d4, d5⟩ := p' D (List.mem_cons_self ..)
    have pD : Priv c B Z' σ'.μ [D] := fun b hb => by
      rw [List.mem_singleton] at hb; subst hb
      exact ⟨fD.1, d2, d3, fD.2.2.2.1, fD.2.2.2.2⟩
    obtain ⟨n, hoD⟩ := hpl
    have r3 := r2.adoptM (mo := .lst us) pD ⟨vs, n, hoD, ha⟩
    refine hRR D C Z' us σ'.μ s' m' g2 hΩ d3 V'.ns (fun b hb => ?_) r3
    rw [List.mem_singleton] at hb; subst hb
    exact ⟨fC.1, V'.lZ, (Mem.put_ne hDC.symm).trans V'.lμ, fC.2.2.2.1, fC.2.2.2.2⟩
  exact codeAny_compStart_list (loop _ rfl) (W.self 0 _ _ _ hS₁ (loop _ rfl))

/-- what a comprehension asks of its iterable's items -/
inductive CompK (c : Cx) (scope : Scope) (tg : Expr) (ifs : List Expr) (elt : Expr) (Ω : St → List Tree → Mem → Prop) (ts : List Tree) (keep : Mem → Prop) (σ₁ : St) : Prop
  | mk (hlen : ts.length ≤ 1000) (caps : List (Str × Tree)) (hc : Caps c scope σ₁.ρ caps) (go : ∀ C, CompL (inCx c scope C) tg ifs elt keep (Ω σ₁) ts [] ⟨fun x => caps.lookup x, σ₁.μ⟩)
noncomputable abbrev kCompM (Ψ : Tree → St → Prop) (σ₁ : St) (us : List Tree) (μ' : Mem) : Prop := ∀ D, μ' D = Option.none → Ψ (.ptr D) { σ₁ with μ := μ'.put D (.lst us) }
noncomputable abbrev kComp (Ψ : Tree → St → Prop) (σ₁ : St) (us : List Tree) (μ' : Mem) : Prop := Ψ (.lst us) { σ₁ with μ := μ' }
noncomputable abbrev kCompA (y : Str) (Φ : FlT → St → Prop) (σ₁ : St) (us : List Tree) (μ' : Mem) : Prop := Φ .next { ρ := upd σ₁.ρ y (.lst us), μ := μ' }
/-- a list comprehension, whose list may be written later -/
theorem EV.compM {elt iter : Expr} {ifs : List Expr} {scope : Scope} {pos : Pos}
    (h : IV c tg iter σ (CompK c scope tg ifs elt (kCompM Ψ)))
    (hcells : (scope.names.all fun x => x.2 != .free || (c.env.cells.lookup x.1).isSome) = true := by first | rfl | decide +kernel)
    (hcell : ∀ y ∈ scope.names, y.2 ≠ .cell := by decide +kernel) (hnn : (scope.names.map (·.1)).Nodup := by decide +kernel) (hkind : scope.kind = .function := by rfl)
    (hs : ∀ x, foldedSetIterable iter c.env x = pure x := by intro _; rfl) : EV c (.ListComp elt [⟨tg, iter, ifs, 0⟩] scope pos) σ Ψ := .intro fun B Z s r => by
  rw [eval_ListComp]
  refine wpAny_comprehension_free (use := Option.none) rfl hs (closureFor_eq hcells) hkind (fun x hx hl => by rw [← hl]; exact lookup_nodup hnn hx) (wpAny_mono (h.go B Z s r) (fun xv s₁ h₁ => wpAny_mono h₁ (fun it s₂ hq => ?_) fun _ _ e => e) fun _ _ e => e)
  obtain ⟨Z', σ', ts, keep, I, wr, S, rfl, g, r', W, p, hS, hlen, caps, hcaps, hl⟩ := hq
  refine comp_block (RR := fun acc C => compPost (model c.G.prog c.G.w) c.A (fun _ _ => False) Option.none (Post c B Z IsT Ψ) acc C) W (Sub.refl _) r' p hS hlen hcaps hl hcell hkind hnn ?_
  intro D C Z'' us μ' s' m g' hΩ hD hns pC r''
  exact ⟨m, hns, fun h'' hs'' => .mk (g.trans g') (r''.priv (tk := s'.toks) pC fun b o hb e => (hs''.2 b (fun q => hb (List.mem_singleton.mpr q))).trans e) (by simp only [IsT]) (hΩ D hD)⟩

theorem Mem.drop_put {μ : Mem} {a : Addr} {mo : MObj} (h : μ a = none) : (μ.put a mo).drop a = μ := by
  funext b; unfold Mem.drop Mem.put; split
  · rename_i e; rw [e, h]
  · rfl

theorem CompL.mono {c : Cx} {tg : Expr} {ifs : List Expr} {elt : Expr} {keep : Mem → Prop} {Ω Ω' : List Tree → Mem → Prop} (k : ∀ us μ, Ω us μ → Ω' us μ) : ∀ (ts acc : List Tree) (σ : St), CompL c tg ifs elt keep Ω ts acc σ → CompL c tg ifs elt keep Ω' ts acc σ
  | [], acc, σ, ⟨h1, h2⟩ => ⟨h1, k _ _ h2⟩
  | t :: ts, acc, σ, ⟨h1, h2⟩ => ⟨h1, .intro fun B Z s v r i => wpAny_mono (h2.go B Z s v r i) (fun _ s₁ ⟨Z₁, σ₁, g₁, r₁, h3⟩ => ⟨Z₁, σ₁, g₁, r₁, .intro (h3.go.mono fun b σ₂ h4 => by
      cases b with
      | true => exact EV.mono h4 fun u σ₃ h5 => CompL.mono k ts _ _ h5
      | false => exact CompL.mono k ts _ _ h4)⟩) fun _ _ x => x⟩

theorem IV.mono {iter : Expr} {K K' : List Tree → (Mem → Prop) → St → Prop} (h : IV c tg iter σ K) (k : ∀ ts keep σ', K ts keep σ' → K' ts keep σ') : IV c tg iter σ K' := .intro fun B Z s r =>
  wpAny_mono (h.go B Z s r) (fun xv s₁ h₁ => wpAny_mono h₁ (fun it s₂ hpq => by obtain ⟨Z', σ', ts, keep, I, wr, S, e, a1, a2, a3, a4, a5, a6⟩ := hpq; exact ⟨Z', σ', ts, keep, I, wr, S, e, a1, a2, a3, a4, a5, k _ _ _ a6⟩) fun _ _ x => x) fun _ _ x => x

/-- a list comprehension, whose list is never written -/
theorem EV.comp {elt iter : Expr} {ifs : List Expr} {scope : Scope} {pos : Pos}
    (h : IV c tg iter σ (CompK c scope tg ifs elt (kComp Ψ)))
    (hcells : (scope.names.all fun x => x.2 != .free || (c.env.cells.lookup x.1).isSome) = true := by first | rfl | decide +kernel)
    (hcell : ∀ y ∈ scope.names, y.2 ≠ .cell := by decide +kernel) (hnn : (scope.names.map (·.1)).Nodup := by decide +kernel) (hkind : scope.kind = .function := by rfl)
    (hs : ∀ x, foldedSetIterable iter c.env x = pure x := by intro _; rfl) : EV c (.ListComp elt [⟨tg, iter, ifs, 0⟩] scope pos) σ Ψ :=
  EV.freezeL (EV.compM (h.mono fun ts keep σ₁ hq => by obtain ⟨h1, caps, h2, h3⟩ := hq; exact ⟨h1, caps, h2, fun C => CompL.mono (fun us μ' hu D hD => ⟨D, us, rfl, Mem.put_self, by
    show Ψ (.lst us) { σ₁ with μ := (μ'.put D (.lst us)).drop D }
    rw [Mem.drop_put hD]; exact hu⟩) _ _ _ (h3 C)⟩) hcells hcell hnn hkind hs)

/-- `x = [..]` on one line, x a name of the frame -/
theorem XV.assignComp {elt iter : Expr} {ifs : List Expr} {scope : Scope} {pos spos py : Pos} {y : Str}
    (h : IV c tg iter σ (CompK c scope tg ifs elt (kCompA y Φ)))
    (hy : Stores c y)
    (hsw : swapsWith (.ListComp elt [⟨tg, iter, ifs, 0⟩] scope pos) (some (.Name y py)) spos.line c.env = pure true := by rfl)
    (hcells : (scope.names.all fun x => x.2 != .free || (c.env.cells.lookup x.1).isSome) = true := by first | rfl | decide +kernel)
    (hcell : ∀ y ∈ scope.names, y.2 ≠ .cell := by decide +kernel) (hnn : (scope.names.map (·.1)).Nodup := by decide +kernel) (hkind : scope.kind = .function := by rfl)
    (hs : ∀ x, foldedSetIterable iter c.env x = pure x := by intro _; rfl) : XV c (.Assign [.Name y py] (.ListComp elt [⟨tg, iter, ifs, 0⟩] scope pos) spos) σ Φ := .intro fun B Z s r => by
  rw [exec_Assign_Name_used _ _ _ _ hsw]
  refine wpAny_bind (wpAny_standAt (wpAny_bind ?_))
  show wpAny _ c.A (do let _ ← comprehension (.ListComp elt [⟨tg, iter, ifs, 0⟩] scope pos) scope c.env _ (newList []) false (eval iter c.env) (some (PySem.assign (.Name y py) c.env))) _ _ s
  refine wpAny_bind (wpAny_mono (wpAny_comprehension_free (use := some (PySem.assign (.Name y py) c.env)) (Q := fun _ s' => Post c B Z IsFl Φ .next s') rfl hs (closureFor_eq hcells) hkind (fun x hx hl => by rw [← hl]; exact lookup_nodup hnn hx)
    (wpAny_mono (h.go B Z s r) (fun xv s₁ h₁ => wpAny_mono h₁ (fun it s₂ hq => ?_) fun _ _ e => e) fun _ _ e => e)) (fun _ s' hq => wpAny_pure (wpAny_pure hq)) fun _ _ e => e)
  obtain ⟨Z', σ', ts, keep, I, wr, S, rfl, g, r', W, p, hS, hlen, caps, hcaps, hl⟩ := hq
  refine comp_block (RR := fun acc C => compPost (model c.G.prog c.G.w) c.A (fun _ _ => False) (some (PySem.assign (.Name y py) c.env)) (fun _ s' => Post c B Z IsFl Φ .next s') acc C) W (Sub.refl _) r' p hS hlen hcaps hl hcell hkind hnn ?_
  intro D C Z'' us μ' s' m g' hΩ hD hns pC r''
  show wpAny _ c.A (PySem.assign (.Name y py) c.env (.ref D)) _ _ _
  obtain ⟨vs, n, hoD, ha⟩ := (r''.1.mem D (.lst us) Mem.put_self).1
  have rC := r''.over pC
  obtain ⟨r3, g3⟩ := rC.freeze (a := D) (mo := .lst us) Mem.put_self hoD
  have iD : IsT c.G (Z''.put D (lstObj vs n)) (.lst us) (.ref D) := by simp only [IsT]; exact ⟨D, vs, n, rfl, Reg.put_self, AreT.mono g3.1 _ _ ha⟩
  have hb : ∀ b ∈ [C], B b = none := fun b hb => (pC b hb).1
  obtain ⟨oC, esC, epC, hoC, hrC⟩ := hns
  have thC : ∀ b ∈ [C], ∃ o, s'.heap.get? b = some o := fun b hb => by rw [List.mem_singleton] at hb; subst hb; exact ⟨_, hoC⟩
  refine wpAny_assign_Name (storeVar hy r3 iD fun s₄ r₄ => ?_)
  have hC4 : s₄.heap.get? C = some oC := r₄.1.kB C _ (by rw [Reg.over_in (List.mem_singleton.mpr rfl)]; exact hoC)
  refine ⟨m, ⟨oC, esC, epC, hC4, hrC⟩, fun h'' hs'' => ?_⟩
  have p4 := pC.after (σ' := ⟨upd σ'.ρ y (.lst us), (μ'.put D (.lst us)).drop D⟩) g3 r₄ thC
  have r₅ := (r₄.under r''.1.kH hb).priv (tk := s₄.toks) (h' := h'') p4 fun b o hb e => (hs''.2 b (fun q => hb (List.mem_singleton.mpr q))).trans e
  rw [Mem.drop_put hD] at r₅
  exact .mk ((g.trans g').trans (g3.under hb)) r₅ isNext hΩ
end

/-! ### comprehensions over items of one sort -/
theorem upd_upd {ρ : Str → Option Tree} {x : Str} {t u : Tree} : upd (upd ρ x t) x u = upd ρ x u := by
  funext y; unfold upd; split <;> rfl
theorem upd_swap {ρ : Str → Option Tree} {x y : Str} {t u : Tree} (h : x ≠ y) : upd (upd ρ x t) y u = upd (upd ρ y u) x t := by
  funext z; unfold upd
  by_cases h1 : z = y
  · subst h1; rw [if_pos rfl, if_neg (Ne.symm h), if_pos rfl]
  · rw [if_neg h1]
    by_cases h2 : z = x
    · rw [if_pos h2, if_pos h2]
    · rw [if_neg h2, if_neg h2, if_neg h1]

section
variable {c : Cx}
theorem CompL.one {α : Type} {x : Str} {px : Pos} {ifs : List Expr} {elt : Expr} {keep : Mem → Prop} {Ω : List Tree → Mem → Prop} {g g' : α → Tree} {P : α → Bool} {ρ₀ : Str → Option Tree} {μ : Mem} (hx : Stores c x) (hk : keep μ) :
    ∀ (L : List α) (acc : List Tree) (ρ : Str → Option Tree), (∀ t, upd ρ x t = upd ρ₀ x t) →
      (∀ a ∈ L, IfV c ifs ⟨upd ρ₀ x (g a), μ⟩ fun b σ₂ => b = P a ∧ σ₂ = ⟨upd ρ₀ x (g a), μ⟩ ∧ (P a = true → EV c elt ⟨upd ρ₀ x (g a), μ⟩ fun u σ₃ => u = g' a ∧ σ₃ = ⟨upd ρ₀ x (g a), μ⟩)) →
      Ω (acc ++ (L.filter P).map g') μ → CompL c (.Name x px) ifs elt keep Ω (L.map g) acc ⟨ρ, μ⟩
  | [], acc, ρ, _, _, hΩ => ⟨hk, by simpa using hΩ⟩
  | a :: L, acc, ρ, hρ, h, hΩ => by
    refine ⟨hk, GV.name hx ?_⟩
    have e : ({ (⟨ρ, μ⟩ : St) with ρ := upd (⟨ρ, μ⟩ : St).ρ x (g a) } : St) = ⟨upd ρ₀ x (g a), μ⟩ := by
      show (⟨upd ρ x (g a), μ⟩ : St) = _
      rw [hρ]
    rw [e]
    refine ⟨(h a (List.mem_cons_self ..)).go.mono fun b σ₂ hpq => ?_⟩
    obtain ⟨hb, hs, hp⟩ := hpq
    subst hb hs
    have next : ∀ acc', Ω (acc' ++ (L.filter P).map g') μ → CompL c (.Name x px) ifs elt keep Ω (L.map g) acc' ⟨upd ρ₀ x (g a), μ⟩ := fun acc' q =>
      CompL.one hx hk L acc' _ (fun t => upd_upd) (fun a' ha' => h a' (List.mem_cons_of_mem _ ha')) q
    cases q : P a with
    | true =>
      simp only [if_true]
      refine (hp q).mono fun u σ₃ ⟨hu, hs⟩ => ?_
      subst hu hs
      refine next _ ?_
      rw [List.filter_cons, if_pos q] at hΩ
      simpa using hΩ
    | false =>
      simp only [Bool.false_eq_true, if_false]
      refine next _ ?_
      rw [List.filter_cons, if_neg (by rw [q]; decide)] at hΩ
      exact hΩ

theorem CompL.two {α : Type} {x y : Str} {px py tp : Pos} {k : Nat} {ifs : List Expr} {elt : Expr} {keep : Mem → Prop} {Ω : List Tree → Mem → Prop} {ga gb g' : α → Tree} {P : α → Bool} {ρ₀ : Str → Option Tree} {μ : Mem} (hh : c.A.handled = none) (hx : Stores c x) (hy : Stores c y) (hxy : x ≠ y) (hk : keep μ) :
    ∀ (L : List α) (acc : List Tree) (ρ : Str → Option Tree), (∀ t u, upd (upd ρ x t) y u = upd (upd ρ₀ x t) y u) →
      (∀ a ∈ L, IfV c ifs ⟨upd (upd ρ₀ x (ga a)) y (gb a), μ⟩ fun b σ₂ => b = P a ∧ σ₂ = ⟨upd (upd ρ₀ x (ga a)) y (gb a), μ⟩ ∧ (P a = true → EV c elt ⟨upd (upd ρ₀ x (ga a)) y (gb a), μ⟩ fun u σ₃ => u = g' a ∧ σ₃ = ⟨upd (upd ρ₀ x (ga a)) y (gb a), μ⟩)) →
      Ω (acc ++ (L.filter P).map g') μ → CompL c (.Tuple [.Name x px, .Name y py] k tp) ifs elt keep Ω (L.map fun a => .tup [ga a, gb a]) acc ⟨ρ, μ⟩
  | [], acc, ρ, _, _, hΩ => ⟨hk, by simpa using hΩ⟩
  | a :: L, acc, ρ, hρ, h, hΩ => by
    refine ⟨hk, GV.tuple hh (OV.cons (GV.name hx (OV.cons (GV.name hy (OV.nil ?_)) rfl)) rfl) rfl rfl⟩
    have e : (⟨upd (upd ρ x (ga a)) y (gb a), μ⟩ : St) = ⟨upd (upd ρ₀ x (ga a)) y (gb a), μ⟩ := by rw [hρ]
    show IfV c ifs ⟨upd (upd ρ x (ga a)) y (gb a), μ⟩ _
    rw [e]
    refine ⟨(h a (List.mem_cons_self ..)).go.mono fun b σ₂ hpq => ?_⟩
    obtain ⟨hb, hs, hp⟩ := hpq
    subst hb hs
    have next : ∀ acc', Ω (acc' ++ (L.filter P).map g') μ → CompL c (.Tuple [.Name x px, .Name y py] k tp) ifs elt keep Ω (L.map fun a => .tup [ga a, gb a]) acc' ⟨upd (upd ρ₀ x (ga a)) y (gb a), μ⟩ := fun acc' q =>
      CompL.two hh hx hy hxy hk L acc' _ (fun t u => by
        rw [upd_swap (x := y) (y := x) (Ne.symm hxy), upd_upd, upd_upd]) (fun a' ha' => h a' (List.mem_cons_of_mem _ ha')) q
    cases q : P a with
    | true =>
      simp only [if_true]
      refine (hp q).mono fun u σ₃ ⟨hu, hs⟩ => ?_
      subst hu hs
      refine next _ ?_
      rw [List.filter_cons, if_pos q] at hΩ
      simpa using hΩ
    | false =>
      simp only [Bool.false_eq_true, if_false]
      refine next _ ?_
      rw [List.filter_cons, if_neg (by rw [q]; decide)] at hΩ
      exact hΩ
end

/-! ### calls of builtins by name -/
/-- a builtin's call: new objects are frozen ones, the others stand -/
noncomputable def BK (c : Cx) (σ : St) (f : Value) (ts : List Tree) (u : Tree) : Prop := ∀ B Z s vs, Rep c B Z σ s → AreT c.G Z ts vs →
  wpAny (model c.G.prog c.G.w) c.A (call f vs) (fun v s' => ∃ Z', Grow B Z Z' ∧ Rep c B Z' σ s' ∧ IsT c.G Z' u v) (fun _ _ => False) s

section
variable {c : Cx} {σ : St} {Ψ : Tree → St → Prop}

theorem EV.bcall {x : Str} {id : String} {p pos : Pos} {e : Expr} {es : List Expr} (hx : c.env.kindOf x = some .globalImplicit)
    (h : LV c pos (e :: es) σ fun ts σ' => ∃ u, BK c σ' (.builtin id) ts u ∧ Ψ u σ')
    (hb : bootBuiltins x = some (.builtin id) := by decide +kernel) (hg : nsIn (KK c.G.w) mainGlobals x = some Option.none := by kernel_rfl) (hn : x ≠ "__name__" := by decide) (hd : (x == ("__debug__" : Str)) = false := by decide +kernel)
    (he : starEach (e :: es) c.env = (false, eval e c.env) :: starEach es c.env := by rfl) (hplain : (backTo pos (starEach es c.env)).any (·.1) = false := by rfl) :
    EV c (.Call (.Name x p) (e :: es) [] pos) σ Ψ := .intro fun B Z s r => by
  refine wpAny_Call_Name_kw (wpAny_Name (wpAny_loadBuiltin r hx hg hb hn ?_) hd)
  have h' := h.run' r (Q := fun vs s₁ => wpAny (model c.G.prog c.G.w) c.A (PySem.call (.builtin id) vs) (Post c B Z IsT Ψ) (fun _ _ => False) s₁) fun vs s₁ Z₁ ts σ₁ g₁ r₁ i₁ ⟨u, hk, hp⟩ =>
    wpAny_mono (hk B Z₁ s₁ vs r₁ i₁) (fun v s₂ ⟨Z₂, g₂, r₂, iv⟩ => .mk (g₁.trans g₂) r₂ iv hp) fun _ _ x => x
  rw [he] at h' ⊢
  exact Calls.callWith_builtin (by show (false || (backTo pos (starEach es c.env)).any (·.1)) = false; rw [hplain]; rfl) (Calls.evalArgs_plain h')
theorem EV.tcall {x : Str} {T : String} {p pos : Pos} {e : Expr} {es : List Expr} (hx : c.env.kindOf x = some .globalImplicit)
    (h : LV c pos (e :: es) σ fun ts σ' => ∃ u, BK c σ' (.type T) ts u ∧ Ψ u σ')
    (hb : bootBuiltins x = some (.type T) := by decide +kernel) (hg : nsIn (KK c.G.w) mainGlobals x = some Option.none := by kernel_rfl) (hn : x ≠ "__name__" := by decide) (hd : (x == ("__debug__" : Str)) = false := by decide +kernel)
    (he : starEach (e :: es) c.env = (false, eval e c.env) :: starEach es c.env := by rfl) (hplain : (backTo pos (starEach es c.env)).any (·.1) = false := by rfl) :
    EV c (.Call (.Name x p) (e :: es) [] pos) σ Ψ := .intro fun B Z s r =>
  callType r hx hg hb hn hd h (fun vs s₁ hq => hq.elim fun Z₁ ts σ₁ g₁ r₁ i₁ ⟨u, hk, hp⟩ =>
    wpAny_mono (hk B Z₁ s₁ vs r₁ i₁) (fun v s₂ ⟨Z₂, g₂, r₂, iv⟩ => .mk (g₁.trans g₂) r₂ iv hp) fun _ _ x => x) he hplain

theorem AreT.one' {G : GS} {Z : Reg} {t : Tree} {vs : List Value} (i : AreT G Z [t] vs) : ∃ v, vs = [v] ∧ IsT G Z t v := by
  simp only [AreT] at i
  obtain ⟨v, _, rfl, i, rfl⟩ := i
  exact ⟨v, rfl, i⟩
theorem AreT.two' {G : GS} {Z : Reg} {t u : Tree} {vs : List Value} (i : AreT G Z [t, u] vs) : ∃ v w, vs = [v, w] ∧ IsT G Z t v ∧ IsT G Z u w := by
  simp only [AreT] at i
  obtain ⟨v, _, rfl, i, w, _, rfl, j, rfl⟩ := i
  exact ⟨v, w, rfl, i, j⟩

theorem BK.len {t : Tree} {ts : List Tree} (h : SeqOf σ t ts) (hlen : ts.length ≤ 1000000) : BK c σ (.builtin "len") [t] (.int ts.length) := fun B Z s vs r i₀ => by
  obtain ⟨v, rfl, i⟩ := i₀.one'
  obtain ⟨a, ws, rfl, j, hs⟩ := seq_conc r i h
  have hl := AreT.length j
  have fin : ∃ Z', Grow B Z Z' ∧ Rep c B Z' σ { s with toks := s.toks + 1 + 1 } ∧ IsT c.G Z' (.int ts.length) (.int (ws.toArray.size : Int) (s.toks + 1)) := ⟨Z, .refl B Z, r.toks _, by simp only [IsT]; exact ⟨s.toks + 1, by rw [List.size_toArray, hl]⟩⟩
  rcases hs with hs | hs
  · exact call_len_list hs (by simp [hl]; omega) fin
  · exact len_tuple hs (by simp [hl]; omega) fin
theorem BK.min2 {a b : Int} (hh : c.A.handled = none) : BK c σ (.builtin "min") [.int a, .int b] (.int (min a b)) := fun B Z s vs r i => by
  obtain ⟨v, w, rfl, i, j⟩ := i.two'
  obtain ⟨t, rfl⟩ := isInt.mp i; obtain ⟨u, rfl⟩ := isInt.mp j
  refine min_two_ints hh fun h' tk k => ⟨Z, .refl B Z, r.heap k, ?_⟩
  simp only [IsT]
  split
  · exact ⟨u, by rw [show min a b = b by omega]⟩
  · exact ⟨t, by rw [show min a b = a by omega]⟩
theorem BK.max2 {a b : Int} (hh : c.A.handled = none) : BK c σ (.builtin "max") [.int a, .int b] (.int (max a b)) := fun B Z s vs r i => by
  obtain ⟨v, w, rfl, i, j⟩ := i.two'
  obtain ⟨t, rfl⟩ := isInt.mp i; obtain ⟨u, rfl⟩ := isInt.mp j
  refine max_two_ints hh fun h' tk k => ⟨Z, .refl B Z, r.heap k, ?_⟩
  simp only [IsT]
  split
  · exact ⟨u, by rw [show max a b = b by omega]⟩
  · exact ⟨t, by rw [show max a b = a by omega]⟩

theorem ints_are {G : GS} {Z : Reg} : ∀ {ns : List Int} {vs : List Value}, AreT G Z (intsT ns) vs → IntsAre vs ns
  | [], vs, i => by simp only [intsT, List.map_nil, AreT] at i; subst i; exact .nil
  | n :: ns, vs, i => by
    simp only [intsT, List.map_cons, AreT] at i
    obtain ⟨v, r, rfl, i1, i⟩ := i
    obtain ⟨t, rfl⟩ := isInt.mp i1
    exact .cons n t (ints_are i)
theorem are_ints {G : GS} {Z : Reg} {ns : List Int} {vs : List Value} (h : IntsAre vs ns) : AreT G Z (intsT ns) vs := by
  induction h with
  | nil => simp only [intsT, List.map_nil, AreT]
  | cons n t _ ih => simp only [intsT, List.map_cons, AreT, IsT]; exact ⟨_, _, rfl, ⟨t, rfl⟩, ih⟩
theorem strs_are {G : GS} {Z : Reg} : ∀ {ns : List Str} {vs : List Value}, AreT G Z (ns.map Tree.str) vs → StrsAre vs ns
  | [], vs, i => by simp only [List.map_nil, AreT] at i; subst i; exact .nil
  | n :: ns, vs, i => by
    simp only [List.map_cons, AreT, IsT] at i
    obtain ⟨v, r, rfl, ⟨t, rfl⟩, i⟩ := i
    exact .cons n t (strs_are i)
theorem are_strs {G : GS} {Z : Reg} {ns : List Str} {vs : List Value} (h : StrsAre vs ns) : AreT G Z (ns.map Tree.str) vs := by
  induction h with
  | nil => simp only [List.map_nil, AreT]
  | cons n t _ ih => simp only [List.map_cons, AreT, IsT]; exact ⟨_, _, rfl, ⟨t, rfl⟩, ih⟩

/-- ascending -/
noncomputable def sortZ (ns : List Int) : List Int := ns.mergeSort (fun a b => decide (a ≤ b))
theorem sortZ_perm (ns : List Int) : (sortZ ns).Perm ns := List.mergeSort_perm _ _
theorem sortZ_sorted (ns : List Int) : (sortZ ns).Pairwise (· ≤ ·) := by
  have := List.pairwise_mergeSort (le := fun a b : Int => decide (a ≤ b)) (fun a b c h1 h2 => by simp at *; omega) (fun a b => by simp; omega) ns
  exact this.imp fun h => by simpa using h
theorem sorted_uniq : ∀ {l₁ l₂ : List Int}, l₁.Perm l₂ → l₁.Pairwise (· ≤ ·) → l₂.Pairwise (· ≤ ·) → l₁ = l₂
  | [], l₂, p, _, _ => by rw [p.nil_eq]
  | a :: l₁, [], p, _, _ => by have := p.length_eq; simp at this
  | a :: l₁, b :: l₂, p, h1, h2 => by
    have hab : a = b := by
      have m1 : a ∈ b :: l₂ := p.mem_iff.mp (List.mem_cons_self ..)
      have m2 : b ∈ a :: l₁ := p.mem_iff.mpr (List.mem_cons_self ..)
      have le1 : b ≤ a := by
        rcases List.mem_cons.mp m1 with e | e
        · omega
        · exact (List.pairwise_cons.mp h2).1 a e
      have le2 : a ≤ b := by
        rcases List.mem_cons.mp m2 with e | e
        · omega
        · exact (List.pairwise_cons.mp h1).1 b e
      omega
    subst hab
    rw [sorted_uniq (List.Perm.cons_inv p) (List.pairwise_cons.mp h1).2 (List.pairwise_cons.mp h2).2]

theorem BK.sortedInts {t : Tree} {ns : List Int} (h : LstOf σ t (intsT ns)) (hlen : ns.length < 64) : BK c σ (.builtin "sorted") [t] (.lst (intsT (sortZ ns))) := fun B Z s vs r i₀ => by
  obtain ⟨v, rfl, i⟩ := i₀.one'
  obtain ⟨a, ws, rfl, j, hp⟩ := lst_conc r i h
  have hl := AreT.length j
  simp only [intsT, List.length_map] at hl
  refine sorted_ints hp.isList (ints_are j) (by omega) fun out ns' h1 h2 h3 => ?_
  obtain ⟨e, he⟩ := sortedAll_at s.heap ws out
  have r₁ := r.heap (tk := s.toks) (h' := sortedAll s.heap ws out) fun b o => sortedAll_old
  obtain ⟨r₂, g₂⟩ := r₁.adopt (T := s.heap.objs.size + 1) (r.privNew (by simp)) he
  refine ⟨_, g₂, r₂, ?_⟩
  have : ns' = sortZ ns := sorted_uniq (h2.trans (sortZ_perm ns).symm) h3 (sortZ_sorted ns)
  subst this
  simp only [IsT]
  exact ⟨_, out.toList, e, rfl, Reg.put_self, are_ints h1⟩

noncomputable abbrev kSrtS (Ψ : Tree → St → Prop) (us : List Tree) (σ : St) : Prop := ∃ t ns, us = [t] ∧ LstOf σ t (ns.map Tree.str) ∧ ns.length < 64 ∧ ∀ ns' : List Str, ns'.Perm ns → sortedS ns' = true → Ψ (.lst (ns'.map Tree.str)) σ
theorem EV.sortedStrs {x : Expr} {p pos : Pos} (hx : c.env.kindOf "sorted" = some .globalImplicit) (h : LV c pos [x] σ (kSrtS Ψ))
    (hg : nsIn (KK c.G.w) mainGlobals "sorted" = some Option.none := by kernel_rfl)
    (he : starEach [x] c.env = (false, eval x c.env) :: starEach [] c.env := by rfl) : EV c (.Call (.Name "sorted" p) [x] [] pos) σ Ψ := .intro fun B Z s r => by
  refine wpAny_Call_Name_kw (wpAny_Name (wpAny_loadBuiltin r hx hg (v := .builtin "sorted") (by decide +kernel) (by decide) ?_) (by decide +kernel))
  have h' := h.run' r (Q := fun vs s₁ => wpAny (model c.G.prog c.G.w) c.A (PySem.call (.builtin "sorted") vs) (Post c B Z IsT Ψ) (fun _ _ => False) s₁) fun vs s₁ Z₁ us σ₁ g₁ r₁ i₁ hpq => by
    obtain ⟨t, ns, e, hl, hlen, hp⟩ := hpq
    subst e
    obtain ⟨v, rfl, i⟩ := i₁.one'
    obtain ⟨a, ws, rfl, j, hpl⟩ := lst_conc r₁ i hl
    have hl := AreT.length j
    simp only [List.length_map] at hl
    refine sorted_strs hpl.isList (strs_are j) (by omega) fun out ns' h1 h2 h3 => ?_
    obtain ⟨e, he⟩ := sortedAll_at s₁.heap ws out
    have r₂ := r₁.heap (tk := s₁.toks) (h' := sortedAll s₁.heap ws out) fun b o => sortedAll_old
    obtain ⟨r₃, g₃⟩ := r₂.adopt (T := s₁.heap.objs.size + 1) (r₁.privNew (by simp)) he
    refine .mk (g₁.trans g₃) r₃ ?_ (hp ns' h2 h3)
    simp only [IsT]
    exact ⟨_, out.toList, e, rfl, Reg.put_self, are_strs h1⟩
  rw [he] at h' ⊢
  exact Calls.callWith_builtin rfl (Calls.evalArgs_plain h')

theorem BK.tupleOf {t : Tree} {ts : List Tree} (h : LstOf σ t ts) (hlen : ts.length ≤ 1000000) : BK c σ (.type "tuple") [t] (.tup ts) := fun B Z s vs r i₀ => by
  obtain ⟨v, rfl, i⟩ := i₀.one'
  obtain ⟨a, ws, rfl, j, hp⟩ := lst_conc r i h
  have hl := AreT.length j
  refine call_tuple_list hp.isList (fun h' hk => ?_) (by rw [sizeLine_eq, List.size_toArray, hl]; omega)
  have r₁ := r.heap (tk := s.toks) hk
  obtain ⟨r₂, g₂⟩ := r₁.alloc (o := tupObj ws 0) (tk := s.toks) rfl
  exact ⟨_, g₂, r₂, by simp only [IsT]; exact ⟨_, _, ws, 0, rfl, Reg.put_self, rfl, rfl, AreT.mono g₂.1 _ _ j⟩⟩
theorem BK.tupleSame {ts : List Tree} : BK c σ (.type "tuple") [.tup ts] (.tup ts) := fun B Z s vs r i₀ => by
  obtain ⟨v, rfl, i⟩ := i₀.one'
  have i₀ := i
  simp only [IsT] at i
  obtain ⟨a, o, ws, n, rfl, z, z1, z2, j⟩ := i
  exact call_tuple_same ⟨o, r.1.kZ _ _ z, z1, n, z2⟩ ⟨Z, .refl B Z, r, i₀⟩

/-- lists are put together -/
noncomputable abbrev kAddL (Ψ : Tree → St → Prop) (t₁ t₂ : Tree) (σ : St) : Prop := ∃ ts us, LstOf σ t₁ ts ∧ LstOf σ t₂ us ∧ ts.length + us.length ≤ 1000000 ∧ Ψ (.lst (ts ++ us)) σ
theorem EV.addL {l r : Expr} {pos} (h : EV c l σ (kTwo c r (kAddL Ψ))) : EV c (.BinOp l .Add r pos) σ Ψ := .intro fun B Z s rp =>
  wpAny_BinOp (h.run' rp fun v₁ s₁ Z₁ t₁ σ₁ g₁ r₁ i₁ k => EV.run' k r₁ fun v₂ s₂ Z₂ t₂ σ₂ g₂ r₂ i₂ hpq => by
    obtain ⟨ts, us, h1, h2, hlen, p⟩ := hpq
    obtain ⟨a, vs, rfl, j1, n1, hp1⟩ := lst_conc r₂ (IsT.mono g₂.1 _ _ i₁) h1
    obtain ⟨b, ws, rfl, j2, n2, hp2⟩ := lst_conc r₂ i₂ h2
    have e1 := AreT.length j1
    have e2 := AreT.length j2
    refine P.add_list hp1 hp2 ?_ (by rw [sizeLine_eq, List.size_toArray, List.size_toArray, e1, e2]; omega)
    obtain ⟨r₃, g₃⟩ := r₂.alloc (o := lstObj (vs ++ ws) 0) (tk := s₂.toks) rfl
    have eo : ({ cls := .type "list", data := .seq (vs.toArray ++ ws.toArray) } : Obj) = lstObj (vs ++ ws) 0 := by simp [lstObj]
    rw [eo]
    exact .mk ((g₁.trans g₂).trans g₃) r₃ (by simp only [IsT]; exact ⟨_, _, 0, rfl, Reg.put_self, AreT.mono g₃.1 _ _ (AreT.append j1 j2)⟩) p)
end

/-- a class's call: the object is made, then `__init__` runs -/
theorem FN.make {G : GS} {n : Nat} {C fI : Addr} {ts : List Tree} {μ : Mem} {Φ : Tree → Mem → Prop} (hm : makesIn (KK G.w) C = true) (hi : findIn (KK G.w) (.ref C) "__init__" = some (some (.ref fI))) (hf : typeIn (KK G.w) (.ref fI) = some (.type "function"))
    (h : ∀ x dx, μ x = none → μ dx = none → x ≠ dx → FN G n fI (.ptr x :: ts) ((μ.put dx (.attrs [])).put x (.inst C dx)) fun t μ' => t = .none ∧ Φ (.ptr x) μ') : FN G (n + 1) C ts μ Φ := by
  intro A B Z s vs hA r i
  obtain ⟨hh, g, d, t, os⟩ := s
  have X := r.kIn
  refine make_core (makes_of X hm) (looks_findIn X hi) (fun self => bind_fn X self hf) (.inl rfl) ?_
  obtain ⟨f1, f2, f3⟩ := r.fresh
  have r₁ := r.allocM (o := emptyDict) (mo := .attrs []) (tk := t) ⟨[], 0, Heap.get?_push_size _ rfl, rfl⟩
  have hs1 : (hh.push emptyDict).objs.size = hh.objs.size + 1 := Heap.size_push ..
  obtain ⟨f4, f5, f6⟩ := r₁.fresh
  have r₂ := r₁.allocM (o := instObj C hh.objs.size) (mo := .inst C hh.objs.size) (tk := t) (Heap.get?_push_size _ rfl)
  have hs : ({ heap := hh, gens := g, drawn := d, toks := t, os := os } : Shared).heap.objs.size = hh.objs.size := rfl
  rw [show ({ heap := hh.push emptyDict, gens := g, drawn := d, toks := t, os := os } : Shared).heap.objs.size = hh.objs.size + 1 from hs1] at r₂ f6
  have hne : hh.objs.size + 1 ≠ hh.objs.size := Nat.succ_ne_self _
  have hx0 : μ (hh.objs.size + 1) = none := by
    have f6' : (μ.put hh.objs.size (.attrs [])) (hh.objs.size + 1) = none := f6
    rw [Mem.put_ne hne] at f6'; exact f6'
  have hA' : Room n (A.under (.builtin "type.__call__" ⟨.ref C :: vs, []⟩)) := by
    obtain ⟨a, b, c⟩ := hA
    refine ⟨a, ?_, ?_⟩
    · show A.depth + 1 + 20 * n ≤ 900; omega
    · show A.units + 1 + 100 * n ≤ 9000; omega
  have ix : IsT G Z (.ptr (hh.objs.size + 1)) (.ref (hh.objs.size + 1)) := by simp only [IsT]
  have key := h (hh.objs.size + 1) hh.objs.size hx0 f3 hne _ B Z ⟨(hh.push emptyDict).push (instObj C hh.objs.size), g, d, t, os⟩ (.ref (hh.objs.size + 1) :: vs) hA' r₂ (by simp only [AreT]; exact ⟨_, _, rfl, ix, i⟩)
  refine codeAny_mono key fun r s' hq => ?_
  obtain ⟨v, Z', t', μ', rfl, gr, r', it, rfl, hΦ⟩ := hq
  simp only [IsT] at it
  subst it
  exact ⟨rfl, _, Z', _, μ', rfl, gr, r', by simp only [IsT], hΦ⟩

theorem AttrsT.getNone {G : GS} {Z : Reg} {name : Str} : ∀ {es : List (Str × Tree)} {ds : List DictEntry}, AttrsT G Z es ds → es.lookup name = none → getL name ds = some none
  | [], ds, i, _ => by cases i; rfl
  | (k, u) :: es, ds, i, h => by
    obtain ⟨v, tk, r, rfl, i1, i2⟩ := i
    rw [List.lookup_cons] at h
    have hk : (ent G.w k tk v).key.isStr name = (k == name) := rfl
    cases hb : name == k with
    | true => rw [hb] at h; cases h
    | false =>
      rw [hb] at h
      have a := AttrsT.getNone i2 h
      have hne : (k == name) = false := by
        have : name ≠ k := by simpa using hb
        simpa using fun q : k = name => this q.symm
      unfold getL at a ⊢
      rw [List.find?_cons, hk, hne]
      have hr : ((ent G.w k tk v :: r).any fun x => x.refKey) = (r.any fun x => x.refKey) := rfl
      rw [hr]
      exact a

section
variable {c : Cx} {σ : St} {Ψ : Tree → St → Prop} {Φ : FlT → St → Prop}

/-- an object, its own attributes, its class -/
noncomputable def InstOf (σ : St) (t : Tree) (C : Addr) (name : Str) : Prop :=
  (∃ x dx es, t = .ptr x ∧ σ.μ x = some (.inst C dx) ∧ σ.μ dx = some (.attrs es) ∧ es.lookup name = none) ∨ (C = LetterC ∧ (∃ u o f i q, t = .letter u o f i q) ∧ [("uid" : Str), "octets", "flags", "instant", "modseq"].contains name = false)

theorem getMethod_wv {name : Str} {t : Tree} {C f : Addr} {v : Value} {B Z : Reg} {s : Shared} {pl : Sem Bool} (r : Rep c B Z σ s) (i : IsT c.G Z t v) (h : InstOf σ t C name) (O : ClsOk (KK c.G.w) C) (hf : findIn (KK c.G.w) (.ref C) name = some (some (.ref f)))
    (ht : typeIn (KK c.G.w) (.ref f) = some (.type "function")) {Q : Value × List Value → Shared → Prop} (k : Q (.ref f, [v]) s) : wpAny (model c.G.prog c.G.w) c.A (getMethod v name pl) Q (fun _ _ => False) s := by
  rcases h with ⟨x, dx, es, rfl, h1, h2, hl⟩ | ⟨rfl, ⟨a1, a2, a3, a4, a5, rfl⟩, hl⟩
  · simp only [IsT] at i
    subst i
    have hx := (r.1.mem _ _ h1).1
    obtain ⟨ds, n, hd, j⟩ := (r.1.mem _ _ h2).1
    exact method_fn r.1.kIn (instAt_of hx hd) O.ga O.gt hf ht (by show (lookIn name (dictOf ds n)).map _ = _; rw [lookIn_dict, j.getNone hl]; rfl) k
  · simp only [IsT] at i
    obtain ⟨a, dx, n, t₁, t₂, t₃, t₄, t₅, vu, vo, vf, vi, vq, rfl, z1, z2, j1, j2, j3, j4, j5⟩ := i
    have A0 : AttrsT c.G Z [(("uid" : Str), a1), ("octets", a2), ("flags", a3), ("instant", a4), ("modseq", a5)] [ent c.G.w "uid" t₁ vu, ent c.G.w "octets" t₂ vo, ent c.G.w "flags" t₃ vf, ent c.G.w "instant" t₄ vi, ent c.G.w "modseq" t₅ vq] :=
      ⟨vu, t₁, _, rfl, j1, vo, t₂, _, rfl, j2, vf, t₃, _, rfl, j3, vi, t₄, _, rfl, j4, vq, t₅, _, rfl, j5, rfl⟩
    have hl' : List.lookup name [(("uid" : Str), a1), ("octets", a2), ("flags", a3), ("instant", a4), ("modseq", a5)] = none := by
      simp only [List.contains_cons, Bool.or_eq_false_iff] at hl
      obtain ⟨e1, e2, e3, e4, e5, _⟩ := hl
      simp only [List.lookup_cons, e1, e2, e3, e4, e5, List.lookup_nil]
    exact method_fn r.1.kIn (instAt_of (r.1.kZ _ _ z1) (r.1.kZ _ _ z2)) O.ga O.gt hf ht (by show (lookIn name (dictOf _ n)).map _ = _; rw [lookIn_dict, A0.getNone hl']; rfl) k

/-- a method of the text, without arguments -/
noncomputable abbrev kMeth (c : Cx) (n : Nat) (C f : Addr) (name : Str) (Ψ : Tree → St → Prop) (t : Tree) (σ : St) : Prop := InstOf σ t C name ∧ FN c.G n f [t] σ.μ (kRes Ψ σ)
theorem EV.method0 {o : Expr} {name : Str} {apos pos : Pos} {C f : Addr} (n : Nat) (h : EV c o σ (kMeth c n C f name Ψ)) (O : ClsOk (KK c.G.w) C)
    (hf : findIn (KK c.G.w) (.ref C) name = some (some (.ref f))) (ht : typeIn (KK c.G.w) (.ref f) = some (.type "function")) (hk : keepIn (KK c.G.w) (.ref f) = true) (hr : Room n c.A) {pl : Sem Bool}
    (he : eval (.Call (.Attribute o name apos) [] [] pos) c.env = (do
      let ov ← eval o c.env
      standAt apos.atName
      let (f, first) ← holding [ov] (getMethod ov name pl)
      callWith pos f first (backTo pos (starEach [] c.env)) []) := by rfl) : EV c (.Call (.Attribute o name apos) [] [] pos) σ Ψ := .intro fun B Z s r =>
  MethodCall_ (h.run' r fun v s₁ Z₁ t σ₁ g₁ r₁ i₁ ⟨hI, hF⟩ => getMethod_wv r₁ i₁ hI O hf ht
    (callWith_K0 (K := KK c.G.w) r₁.1.kIn hk (by
      have i₂ : AreT c.G Z₁ [t] [v] := .one i₁
      simpa using callFN r₁ g₁ i₂ hr hF))) he

noncomputable abbrev kApp2 (a : Addr) (Φ : FlT → St → Prop) (us : List Tree) (σ : St) : Prop := ∃ t ts, us = [t] ∧ σ.μ a = some (.lst ts) ∧ ts.length ≤ 1000000 ∧ Φ .next { σ with μ := σ.μ.put a (.lst (ts ++ [t])) }
noncomputable abbrev kApp (c : Cx) (pos : Pos) (e : Expr) (Φ : FlT → St → Prop) (ot : Tree) (σ : St) : Prop := ∃ a ts₀, ot = .ptr a ∧ σ.μ a = some (.lst ts₀) ∧ LV c pos [e] σ (kApp2 a Φ)
/-- `x.append(e)` as a statement -/
theorem XV.append {o e : Expr} {apos cpos pos : Pos} (h : EV c o σ (kApp c cpos e Φ))
    {pl : Sem Bool} (he : eval (.Call (.Attribute o "append" apos) [e] [] cpos) c.env = (do
      let ov ← eval o c.env
      standAt apos.atName
      let (f, first) ← holding [ov] (getMethod ov "append" pl)
      callWith cpos f first (backTo cpos (starEach [e] c.env)) []) := by rfl)
    (hi : interactive c.env = false := by rfl) (hs : swapsWith (.Call (.Attribute o "append" apos) [e] [] cpos) none pos.line c.env = pure false := by rfl)
    (hel : starEach [e] c.env = (false, eval e c.env) :: starEach [] c.env := by rfl) : XV c (.Expr (.Call (.Attribute o "append" apos) [e] [] cpos) pos) σ Φ := .intro fun B Z s r => by
  refine wpAny_Expr (MethodCall_ (h.run' r fun v s₁ Z₁ t σ₁ g₁ r₁ i₁ hpq => ?_) he) hi hs
  obtain ⟨a, ts₀, e', ha, hv⟩ := hpq
  subst e'
  simp only [IsT] at i₁
  subst i₁
  obtain ⟨vs₀, n₀, ho, _⟩ := (r₁.1.mem _ _ ha).1
  refine getMethod_list_append ho rfl rfl ?_
  refine PyProof.Rows.callWith_method1 (hv.run' r₁ fun ws s₂ Z₂ us σ₂ g₂ r₂ i₂ hpq => ?_) hel rfl
  obtain ⟨t, ts, e', ha₂, hlen, hp⟩ := hpq
  subst e'
  obtain ⟨w, rfl, iw⟩ := i₂.one'
  obtain ⟨vs, n, ho₂, j⟩ := (r₂.1.mem _ _ ha₂).1
  have hl := AreT.length j
  show wpAny _ _ (PySem.call (.builtin "list.append") [.ref a, w]) _ _ s₂
  refine wpAny_list_append_plain (hsz := by rw [sizeLine_eq, List.size_toArray, hl]; omega) ⟨n, ho₂⟩ fun h' hp' hs' => ?_
  obtain ⟨n', ho'⟩ := hp'
  have r₃ := r₂.set (mo' := .lst (ts ++ [t])) (h' := h') (tk := s₂.toks) ha₂ (fun b o hb e => (hs'.2 b hb).trans e) ⟨vs ++ [w], n', by simpa using ho', AreT.append j (.one iw)⟩
  exact .mk (g₁.trans g₂) r₃ isNext hp

/-- `x and y and ..` as a value, all bools -/
noncomputable def AllB (c : Cx) (Ψ : Tree → St → Prop) : List Expr → St → Prop
  | [], σ => False
  | [e], σ => EV c e σ Ψ
  | e :: es, σ => EV c e σ fun t σ' => ∃ b, t = .bool b ∧ if b then AllB c Ψ es σ' else Ψ (.bool false) σ'
end

section
variable {c : Cx} {σ : St} {Ψ : Tree → St → Prop} {Φ : FlT → St → Prop} {Θ : Bool → St → Prop}

noncomputable abbrev kNegF (Ψ : Tree → St → Prop) (σ : St) (a : Int) : Prop := Ψ (.int (-a)) σ
noncomputable abbrev kNeg (Ψ : Tree → St → Prop) (t : Tree) (σ : St) : Prop := Ex1 (kEq .int t) (kNegF Ψ σ)
theorem EV.neg {e : Expr} {pos} (h : EV c e σ (kNeg Ψ)) : EV c (.UnaryOp .USub e pos) σ Ψ := .intro fun B Z s r =>
  wpAny_UnaryOp (h.run' r fun v s₁ Z₁ t σ₁ g₁ r₁ i₁ ⟨a, e, p⟩ => by
    subst e
    obtain ⟨tk, rfl⟩ := isInt.mp i₁
    exact neg_int (.mk g₁ (r₁.toks _) (isInt.mpr ⟨_, rfl⟩) p))

/-! ### and, or as values -/
structure BV (c : Cx) (pos : Pos) (op : BoolOp) (es : List Expr) (σ : St) (Ψ : Tree → St → Prop) : Prop where
  intro ::
  go : WV c IsT (boolOp pos op (evalEach es c.env)) σ Ψ
theorem BV.last {pos : Pos} {op : BoolOp} {e : Expr} (h : EV c e σ Ψ) : BV c pos op [e] σ Ψ := .intro h.go
noncomputable abbrev kBandF (c : Cx) (pos : Pos) (es : List Expr) (Ψ : Tree → St → Prop) (σ : St) (b : Bool) : Prop := if b then BV c pos .And es σ Ψ else Ψ (.bool false) σ
noncomputable abbrev kBand (c : Cx) (pos : Pos) (es : List Expr) (Ψ : Tree → St → Prop) (t : Tree) (σ : St) : Prop := Ex1 (kEq .bool t) (kBandF c pos es Ψ σ)
theorem BV.and {pos : Pos} {e e₂ : Expr} {es : List Expr} (h : EV c e σ (kBand c pos (e₂ :: es) Ψ)) : BV c pos .And (e :: e₂ :: es) σ Ψ := .intro fun B Z s r => by
  show wpAny _ _ (do
    let v ← eval e c.env
    standAt pos
    let t ← holding [v] (truthy v)
    match BoolOp.And, t with
    | .And, false | .Or, true => pure v
    | _, _ => boolOp pos .And (evalEach (e₂ :: es) c.env)) _ _ s
  refine wpAny_bind (h.run' r fun v s₁ Z₁ t σ₁ g₁ r₁ i₁ ⟨b, e', p⟩ => wpAny_bind (wpAny_standAt (wpAny_bind (wpAny_holding ?_))))
  subst e'
  simp only [IsT] at i₁
  subst i₁
  refine wpAny_truthy_bool ?_
  cases b
  · exact wpAny_pure (.mk g₁ r₁ (by simp only [IsT]) p)
  · exact WV.run (BV.go p) r₁ fun _ _ x => x.grow g₁
theorem EV.boolop {pos : Pos} {op : BoolOp} {es : List Expr} (h : BV c pos op es σ Ψ) : EV c (.BoolOp op es pos) σ Ψ := .intro h.go

/-! ### chained comparison -/
noncomputable abbrev kChF (c : Cx) (op₂ : CmpOp) (r₂ : Expr) (Θ : Bool → St → Prop) (t₁ : Tree) (σ₁ : St) (b : Bool) : Prop := if b then EV c r₂ σ₁ (kCmpT c op₂ Θ t₁) else Θ false σ₁
noncomputable abbrev kCh (c : Cx) (op₁ op₂ : CmpOp) (r₂ : Expr) (Θ : Bool → St → Prop) (t₀ t₁ : Tree) (σ₁ : St) : Prop := Ex1 (CK c op₁ t₀ t₁ σ₁) (kChF c op₂ r₂ Θ t₁ σ₁)
theorem TV.chain2 {l r₁ r₂ : Expr} {op₁ op₂ : CmpOp} {pos} (h : EV c l σ (kTwo c r₁ (kCh c op₁ op₂ r₂ Θ)))
    (hm : lastMarks [op₁, op₂] [r₁, r₂] = false := by with_unfolding_all rfl) : TV c (.Compare l [op₁, op₂] [r₁, r₂] pos) σ Θ := .intro fun B Z s r =>
  isTrue_chain (h.run' r fun v₀ s₀ Z₀ t₀ σ₀ g₀ rr₀ i₀ h₁ => test_link (EV.run' h₁ rr₀ fun v₁ s₁ Z₁ t₁ σ₁ g₁ rr₁ i₁ ⟨b, hk, h₂⟩ =>
    wpAny_mono (hk B Z₁ s₁ v₀ v₁ rr₁ (IsT.mono g₁.1 _ _ i₀) i₁) (fun v s₂ hpq => by
      obtain ⟨e, Z₂, g₂, rr₂⟩ := hpq
      subst e
      refine wpAny_truthy_bool ?_
      cases b
      · exact .mk ((g₀.trans g₁).trans g₂) rr₂ isB h₂
      · exact test_last (EV.run' h₂ rr₂ fun v₂ s₃ Z₃ t₂ σ₂ g₃ rr₃ i₂ ⟨b', hk', p⟩ =>
          wpAny_mono (hk' B Z₃ s₃ v₁ v₂ rr₃ (IsT.mono (g₂.trans g₃).1 _ _ i₁) i₂) (fun v s₄ hpq => by
            obtain ⟨e, Z₄, g₄, rr₄⟩ := hpq
            subst e
            exact wpAny_truthy_bool (.mk ((((g₀.trans g₁).trans g₂).trans g₃).trans g₄) rr₄ isB p)) fun _ _ x => x)) fun _ _ x => x)) hm

/-! ### slices of lists -/
noncomputable def pickT {α : Type} (ts : List α) (lo hi st : Option Int) : List α :=
  (sliceRange (sliceBounds lo hi st ts.length).1 (sliceBounds lo hi st ts.length).2.1 (sliceBounds lo hi st ts.length).2.2).filterMap (ts[·]?)
theorem AreT.pick {G : GS} {Z : Reg} {ts : List Tree} {vs : List Value} (j : AreT G Z ts vs) : ∀ l : List Nat, AreT G Z (l.filterMap (ts[·]?)) (l.filterMap (vs[·]?))
  | [] => by simp only [List.filterMap_nil, AreT]
  | i :: l => by
    simp only [List.filterMap_cons]
    cases q : ts[i]? with
    | none =>
      have : vs[i]? = none := by
        rw [List.getElem?_eq_none_iff] at q ⊢
        rw [AreT.length j]; exact q
      rw [this]; exact AreT.pick j l
    | some t =>
      obtain ⟨v, hv, iv⟩ := j.get q
      rw [hv]
      simp only [AreT]
      exact ⟨v, _, rfl, iv, AreT.pick j l⟩
theorem slicePick_pick (vs : List Value) (lo hi st : Option Int) : slicePick vs.toArray lo hi st = (pickT vs lo hi st).toArray := by
  unfold slicePick pickT
  rw [List.size_toArray]
  congr 1
  congr 1
  funext i
  simp

structure PartV (c : Cx) (x : Option Expr) (σ : St) (K : Option Int → St → Prop) : Prop where
  intro ::
  go : ∀ B Z s, Rep c B Z σ s → wpAny (model c.G.prog c.G.w) c.A (evalPart x c.env) (fun v s' => ∃ Z' k σ', Grow B Z Z' ∧ Rep c B Z' σ' s' ∧ IsPart v k ∧ K k σ') (fun _ _ => False) s
theorem PartV.run' {x : Option Expr} {K : Option Int → St → Prop} {B Z : Reg} {s : Shared} (h : PartV c x σ K) (r : Rep c B Z σ s) {Q : Value → Shared → Prop} (q : ∀ v s' Z' k σ', Grow B Z Z' → Rep c B Z' σ' s' → IsPart v k → K k σ' → Q v s') : wpAny (model c.G.prog c.G.w) c.A (evalPart x c.env) Q (fun _ _ => False) s :=
  wpAny_mono (h.go B Z s r) (fun v s' hpq => by obtain ⟨Z', k, σ', g, r', i, p⟩ := hpq; exact q v s' Z' k σ' g r' i p) fun _ _ x => x
theorem PartV.none {K : Option Int → St → Prop} (h : K Option.none σ) : PartV c Option.none σ K := .intro fun B Z s r => wpAny_pure ⟨Z, _, σ, .refl B Z, r, .none, h⟩
noncomputable abbrev kPartF (K : Option Int → St → Prop) (σ : St) (i : Int) : Prop := K (some i) σ
noncomputable abbrev kPart (K : Option Int → St → Prop) (t : Tree) (σ : St) : Prop := Ex1 (kEq .int t) (kPartF K σ)
theorem PartV.some {K : Option Int → St → Prop} {e : Expr} (h : EV c e σ (kPart K)) : PartV c (some e) σ K := .intro fun B Z s r =>
  h.run' r fun v s₁ Z₁ t σ₁ g₁ r₁ i₁ ⟨i, e, k⟩ => by
    subst e
    obtain ⟨tk, rfl⟩ := isInt.mp i₁
    exact ⟨Z₁, _, σ₁, g₁, r₁, .int i tk, k⟩

theorem slice_end {t : Tree} {ts : List Tree} {B Z Z₁ : Reg} {s : Shared} {o vl vu vs : Value} {lo hi st : Option Int} (g : Grow B Z Z₁) (r : Rep c B Z₁ σ s) (i : IsT c.G Z₁ t o) (hl : LstOf σ t ts) (pl : IsPart vl lo) (pu : IsPart vu hi) (ps : IsPart vs st) (h0 : st ≠ some 0) (hlen : ts.length ≤ 1000000)
    (p : Ψ (.lst (pickT ts lo hi st)) σ) : (⟨s.heap.push { cls := .type "slice", data := .fields #[vl, vu, vs] }, s.gens, s.drawn, s.toks, s.os⟩ : Shared).TypeIs o "list" ∧
      wpAny (model c.G.prog c.G.w) c.A (getItem o (.ref s.heap.objs.size)) (Post c B Z IsT Ψ) (fun _ _ => False) { s with heap := s.heap.push { cls := .type "slice", data := .fields #[vl, vu, vs] } } := by
  obtain ⟨a, ws, rfl, j, hp⟩ := lst_conc r i hl
  have hlw := AreT.length j
  have hp' : (s.heap.push { cls := .type "slice", data := .fields #[vl, vu, vs] }).PlainList a ws.toArray := hp.at fun o e => Heap.get?_push_of_some _ e
  have r₁ := r.heap (tk := s.toks) (h' := s.heap.push { cls := .type "slice", data := .fields #[vl, vu, vs] }) fun b o e => Heap.get?_push_of_some _ e
  refine ⟨hp'.isList.typeIs, wpAny_getItem_list_slice hp'.isList (Heap.IsSliceOf.new ..) pl pu ps h0 ?_ (by rw [sizeLine_eq, List.size_toArray, hlw]; omega)⟩
  rw [slicePick_pick]
  obtain ⟨r₂, g₂⟩ := r₁.alloc (o := lstObj (pickT ws lo hi st) 0) (tk := s.toks) rfl
  refine .mk (g.trans g₂) r₂ ?_ p
  simp only [IsT]
  refine ⟨_, _, 0, rfl, Reg.put_self, ?_⟩
  have := AreT.mono g₂.1 _ _ (AreT.pick j (sliceRange (sliceBounds lo hi st ts.length).1 (sliceBounds lo hi st ts.length).2.1 (sliceBounds lo hi st ts.length).2.2))
  have e : pickT ws lo hi st = (sliceRange (sliceBounds lo hi st ts.length).1 (sliceBounds lo hi st ts.length).2.1 (sliceBounds lo hi st ts.length).2.2).filterMap (ws[·]?) := by unfold pickT; rw [hlw]
  rw [← e] at this
  exact this

noncomputable abbrev kSl4 (kl kh ks : Option Int) (Ψ : Tree → St → Prop) (σ : St) (ts : List Tree) : Prop := ts.length ≤ 1000000 ∧ Ψ (.lst (pickT ts kl kh ks)) σ
noncomputable abbrev kSl3 (t : Tree) (kl : Option Int) (Ψ : Tree → St → Prop) (kh : Option Int) (σ : St) : Prop := Ex1 (LstOf σ t) (kSl4 kl kh Option.none Ψ σ)
noncomputable abbrev kSl2 (c : Cx) (hi : Option Expr) (t : Tree) (Ψ : Tree → St → Prop) (kl : Option Int) (σ : St) : Prop := PartV c hi σ (kSl3 t kl Ψ)
noncomputable abbrev kSl1 (c : Cx) (lo hi : Option Expr) (Ψ : Tree → St → Prop) (t : Tree) (σ : St) : Prop := PartV c lo σ (kSl2 c hi t Ψ)
theorem EV.slice {e : Expr} {lo hi : Option Expr} {p pos : Pos} (h : EV c e σ (kSl1 c lo hi Ψ))
    (ht : ∀ o r, letTemporaryGo e o r = pure () := by intro _ _; rfl) : EV c (.Subscript e (.Slice lo hi Option.none p) pos) σ Ψ := .intro fun B Z s r =>
  wpAny_Subscript_Slice slot_list_getitem.lookup (h.run' r fun o s₁ Z₁ t σ₁ g₁ r₁ i₁ k => wpAny_Slice (k.run' r₁ fun vl s₂ Z₂ kl σ₂ g₂ r₂ pl k =>
    k.run' r₂ fun vu s₃ Z₃ kh σ₃ g₃ r₃ pu ⟨ts, hl, hlen, q⟩ => wpAny_pure (slice_end ((g₁.trans g₂).trans g₃) r₃ (IsT.mono (g₂.trans g₃).1 _ _ i₁) hl pl pu .none nofun hlen q))) ht
/-! ### max of a list, sorted of a dict, list of a range -/
noncomputable def listMax : List Int → Int
  | [] => 0
  | a :: r => r.foldl max a
theorem foldl_max_ge : ∀ (r : List Int) (a : Int), a ≤ r.foldl max a ∧ (∀ x ∈ r, x ≤ r.foldl max a) ∧ (r.foldl max a = a ∨ r.foldl max a ∈ r)
  | [], a => ⟨Int.le_refl _, nofun, .inl rfl⟩
  | b :: r, a => by
    obtain ⟨h1, h2, h3⟩ := foldl_max_ge r (max a b)
    simp only [List.foldl_cons]
    refine ⟨by omega, fun x hx => ?_, ?_⟩
    · rcases List.mem_cons.mp hx with rfl | hx
      · omega
      · exact h2 x hx
    · rcases h3 with h3 | h3
      · rw [h3]
        rcases Int.le_total a b with q | q
        · right; rw [show max a b = b by omega]; exact List.mem_cons_self ..
        · left; omega
      · exact .inr (List.mem_cons_of_mem _ h3)
theorem listMax_eq {ns : List Int} {M : Int} (h1 : M ∈ ns) (h2 : ∀ a ∈ ns, a ≤ M) : M = listMax ns := by
  cases ns with
  | nil => cases h1
  | cons a r =>
    obtain ⟨g1, g2, g3⟩ := foldl_max_ge r a
    have up : r.foldl max a ≤ M := by
      rcases g3 with g3 | g3
      · rw [g3]; exact h2 a (List.mem_cons_self ..)
      · exact h2 _ (List.mem_cons_of_mem _ g3)
    have down : M ≤ r.foldl max a := by
      rcases List.mem_cons.mp h1 with rfl | h1
      · exact g1
      · exact g2 M h1
    show M = r.foldl max a
    omega
theorem BK.maxl {t : Tree} {ns : List Int} (hh : c.A.handled = Option.none) (h : LstOf σ t (intsT ns)) (hne : 0 < ns.length) : BK c σ (.builtin "max") [t] (.int (listMax ns)) := fun B Z s vs r i₀ => by
  obtain ⟨v, rfl, i⟩ := i₀.one'
  obtain ⟨a, ws, rfl, j, hp⟩ := lst_conc r i h
  have hi := ints_are j
  obtain ⟨xs, e⟩ := hi.allInts.items
  have hns : ns = xs.toList.map (·.1) := by rw [← hi.numsOf, ← nums_intItems, ← e]
  have hsz : 0 < xs.size := by
    have h3 := hne; rw [hns, List.length_map, Array.length_toList] at h3; exact h3
  have hl := hp.isList
  rw [e] at hl
  refine max_intList hh hl hsz fun v h' tk hv hk => ?_
  obtain ⟨t, rfl⟩ := intItems_at hv
  obtain ⟨h1, h2⟩ := argBest_gt (numAt xs) (xs.size - 1)
  refine ⟨Z, .refl B Z, r.heap hk, ?_⟩
  simp only [IsT]
  refine ⟨t, ?_⟩
  congr 1
  refine listMax_eq ?_ fun a ha => ?_
  · rw [hns, numAt_eq]; exact PySem.getD_mem (by rw [List.length_map, Array.length_toList]; omega)
  · rw [hns] at ha
    obtain ⟨j, hj, rfl⟩ := mem_getD ha
    rw [List.length_map, Array.length_toList] at hj
    rw [← numAt_eq]; exact h2 j (by omega)

theorem items_ints {G : GS} {Z : Reg} {f : Nat → Int} : ∀ {n : Nat} {vs : List Value}, vs.length = n → (∀ j v, vs[j]? = some v → ∃ t, v = Value.int (f j) t) → IntsAre vs ((List.range n).map f)
  | 0, vs, hl, _ => by
    cases vs with
    | nil => exact .nil
    | cons => cases hl
  | n + 1, vs, hl, h => by
    cases vs with
    | nil => cases hl
    | cons v r =>
      obtain ⟨t, rfl⟩ := h 0 v rfl
      rw [List.range_succ_eq_map, List.map_cons, List.map_map]
      exact .cons _ t (items_ints (G := G) (Z := Z) (f := fun j => f (j + 1)) (by simpa using hl) fun j w hw => h (j + 1) w (by simpa using hw))

theorem BK.sortedDct {t : Tree} {es : List (Int × Tree)} (hh : c.A.handled = Option.none) (h : DctOf σ t es) (hlen : es.length < 64) : BK c σ (.builtin "sorted") [t] (.lst (intsT (sortZ (es.map (·.1))))) := fun B Z s vs r i₀ => by
  obtain ⟨v, rfl, i⟩ := i₀.one'
  obtain ⟨d, kvs, rfl, j, hd, hs⟩ := dct_conc r i h
  obtain ⟨ep, hat⟩ := hd.dictAt
  have hkl := j.length
  refine Calls.call_function_entry kind_sorted plain_sorted entry_sorted (args_sorted1 _) ?_
  unfold Builtin.«sorted»
  refine wpAny_bind (m := checkCount "sorted" 1 1 _) (wpAny_pure ?_)
  refine wpAny_bind (kdu_collect (A := c.A.in1) (kdl_dict (knd := intKind c.G.prog c.G.w) (kvs := kvs) (ep := ep) hs) hh hat (by rw [sizeLine_eq]; omega) fun h' tk acc hk hacc => ?_)
  have hal : acc.toList.length = kvs.length := by rw [Array.length_toList]; exact hacc.1
  refine wpAny_bind (wpAny_newList ?_ (by rw [hal, sizeLine_eq]; omega))
  have hI : IntsAre acc.toList (es.map (·.1)) := by
    rw [← j.keys]
    have hv : ∀ j v, acc.toList[j]? = some v → ∃ k x, kvs[j]? = some (k, x) ∧ ∃ t, v = Value.int k t := fun j v e => by
      obtain ⟨k, x, e1, e2⟩ := hacc.2 j v (by rw [← Array.getElem?_toList]; exact e)
      exact ⟨k, x, e1, Value.isInt_shape e2⟩
    clear hacc
    revert hal hv
    generalize acc.toList = as
    clear hat hd j hkl
    intro hal hv
    induction kvs generalizing as with
    | nil =>
      cases as with
      | nil => exact .nil
      | cons => cases hal
    | cons kx kvs ih =>
      cases as with
      | nil => cases hal
      | cons a as =>
        obtain ⟨k, x, e1, t, rfl⟩ := hv 0 a rfl
        simp only [List.getElem?_cons_zero, Option.some.injEq] at e1
        subst e1
        exact .cons k t (ih as (by simpa using hal) fun j v e => hv (j + 1) v (by simpa using e))
  have r₁ := r.heap (tk := tk) hk
  have ho : (h'.push (seqObj "list" acc.toList.toArray 0)).get? h'.objs.size = some (seqObj "list" acc.toList.toArray 0) := Heap.get?_push_size _ rfl
  refine wpAny_bind (wpAny_holding (wpAny_call_entry slot_list_sort ⟨_, ho, rfl⟩ entry_list_sort (list_sort_tree ho hI (by omega) fun out ns' a1 a2 a3 => ⟨_, rfl, ?_⟩) (args_list_sort _)))
  refine wpAny_pure ⟨_, rfl, ?_⟩
  obtain ⟨e, he⟩ := sortedHeap_at (out := out) ho
  have r₂ := r₁.heap (tk := tk) (h' := sortedHeap (h'.push (seqObj "list" acc.toList.toArray 0)) h'.objs.size acc.toList out) fun b o eb => by
    have hb : b ≠ h'.objs.size := Nat.ne_of_lt (Heap.lt_size eb)
    rw [sortedHeap_old hb (by rw [Heap.size_push]; exact Nat.lt_succ_of_lt (Heap.lt_size eb))]
    exact Heap.get?_push_of_some _ eb
  obtain ⟨r₃, g₃⟩ := r₂.adopt (T := h'.objs.size) (r₁.privNew (bs := [h'.objs.size]) (by simp)) he
  refine ⟨_, g₃, r₃, ?_⟩
  have : ns' = sortZ (es.map (·.1)) := sorted_uniq (a2.trans (sortZ_perm _).symm) a3 (sortZ_sorted _)
  subst this
  simp only [IsT]
  exact ⟨_, out.toList, e, rfl, Reg.put_self, are_ints a1⟩

noncomputable abbrev kLRg (Ψ : Tree → St → Prop) (ts : List Tree) (σ : St) : Prop := ∃ a b, ts = [.int a, .int b] ∧ -(2 ^ 62) ≤ a ∧ a < 2 ^ 62 ∧ -(2 ^ 62) ≤ b ∧ b < 2 ^ 62 ∧ (b - a).toNat ≤ 2 ^ 24 ∧ Ψ (.lst (rangeT a (b - a).toNat)) σ
/-- `list(range(a, b))` -/
theorem EV.listRange {p p₂ pos pos₂ : Pos} {e e₂ : Expr} (hh : c.A.handled = Option.none) (hx : c.env.kindOf "list" = some .globalImplicit) (hx₂ : c.env.kindOf "range" = some .globalImplicit)
    (h : LV c pos₂ [e, e₂] σ (kLRg Ψ))
    (hg : nsIn (KK c.G.w) mainGlobals "list" = some Option.none := by kernel_rfl) (hg₂ : nsIn (KK c.G.w) mainGlobals "range" = some Option.none := by kernel_rfl)
    (he : starEach [e, e₂] c.env = (false, eval e c.env) :: starEach [e₂] c.env := by rfl) (hplain : (backTo pos₂ (starEach [e₂] c.env)).any (·.1) = false := by rfl)
    (he₁ : starEach [.Call (.Name "range" p₂) [e, e₂] [] pos₂] c.env = (false, eval (.Call (.Name "range" p₂) [e, e₂] [] pos₂) c.env) :: starEach [] c.env := by rfl) :
    EV c (.Call (.Name "list" p) [.Call (.Name "range" p₂) [e, e₂] [] pos₂] [] pos) σ Ψ := .intro fun B Z s r => by
  refine wpAny_Call_Name_kw (wpAny_Name (wpAny_loadBuiltin r hx hg (v := .type "list") (by decide +kernel) (by decide) (PyProof.Rows.callWith_type1 (wpAny_items_cons ?_ he₁) he₁ rfl)) (by decide +kernel))
  refine callType (T := "range") r hx₂ hg₂ (by decide +kernel) (by decide) (by decide +kernel) h (fun vs s₁ hpq => ?_) he hplain
  obtain ⟨Z₁, ts, σ₁, g₁, r₁, i₁, a, b, e', h0, h0', h1, h2, hn, q⟩ := hpq
  subst e'
  obtain ⟨v, w, rfl, iv, iw⟩ := i₁.two'
  obtain ⟨t, rfl⟩ := isInt.mp iv
  obtain ⟨u, rfl⟩ := isInt.mp iw
  refine call_range_2 (wpAny_items_nil ?_)
  have r₂ := r₁.heap (h' := s₁.heap.push { cls := .type "range", data := .fields #[.int a t, .int b u, .int 1 s₁.toks] }) (tk := s₁.toks + 1) (fun b o e => Heap.get?_push_of_some _ e)
  refine call_list_range (n := (b - a).toNat) hh (IsRange.new _ _ _ _ _ _ _) (small_one h0 h0' h1 h2) (by rw [rangeSize_one]; split <;> omega) hn fun h' tk acc' c' hk hD hacc => ?_
  have r₃ := r₂.heap (tk := tk) hk
  obtain ⟨r₄, g₄⟩ := r₃.adopt (T := (s₁.heap.push { cls := .type "range", data := .fields #[.int a t, .int b u, .int 1 s₁.toks] }).objs.size) (r₂.privNew (by simp)) hD
  refine .mk (g₁.trans g₄) r₄ ?_ q
  simp only [IsT]
  refine ⟨_, acc'.toList, c', rfl, Reg.put_self, ?_⟩
  have hI := items_ints (G := c.G) (Z := Z) (f := fun j => a + (j : Nat)) (vs := acc'.toList) (n := (b - a).toNat) (by rw [Array.length_toList]; exact hacc.1) fun j v hv => by
    obtain ⟨t, e⟩ := hacc.2 j v (by rw [← Array.getElem?_toList]; exact hv)
    exact ⟨t, by rw [e, Int.mul_one]⟩
  have := are_ints (G := c.G) (Z := Reg.put Z₁ (s₁.heap.push { cls := .type "range", data := .fields #[.int a t, .int b u, .int 1 s₁.toks] }).objs.size { cls := .type "list", dict := Option.none, data := .seq acc' c', slots := #[] }) hI
  rw [intsT, List.map_map] at this
  exact this
end

/-! ### lists of a length -/
theorem len0 {vs : List Value} (h : vs.length = 0) : vs = [] := List.eq_nil_of_length_eq_zero h
theorem len_cons {n : Nat} {vs : List Value} (h : vs.length = n + 1) : ∃ a r, vs = a :: r ∧ r.length = n := by
  cases vs with
  | nil => cases h
  | cons a r => exact ⟨a, r, rfl, Nat.succ.inj h⟩
theorem len1 {vs : List Value} (h : vs.length = 1) : ∃ a, vs = [a] := by
  obtain ⟨a, r, rfl, h'⟩ := len_cons h
  exact ⟨a, by rw [len0 h']⟩
theorem len2 {vs : List Value} (h : vs.length = 2) : ∃ a b, vs = [a, b] := by
  obtain ⟨a, r, rfl, h'⟩ := len_cons h
  obtain ⟨b, rfl⟩ := len1 h'
  exact ⟨a, b, rfl⟩
theorem len3 {vs : List Value} (h : vs.length = 3) : ∃ a b c, vs = [a, b, c] := by
  obtain ⟨a, r, rfl, h'⟩ := len_cons h
  obtain ⟨b, c, rfl⟩ := len2 h'
  exact ⟨a, b, c, rfl⟩
theorem len4 {vs : List Value} (h : vs.length = 4) : ∃ a b c d, vs = [a, b, c, d] := by
  obtain ⟨a, r, rfl, h'⟩ := len_cons h
  obtain ⟨b, c, d, rfl⟩ := len3 h'
  exact ⟨a, b, c, d, rfl⟩
theorem len5 {vs : List Value} (h : vs.length = 5) : ∃ a b c d e, vs = [a, b, c, d, e] := by
  obtain ⟨a, r, rfl, h'⟩ := len_cons h
  obtain ⟨b, c, d, e, rfl⟩ := len4 h'
  exact ⟨a, b, c, d, e, rfl⟩
theorem len6 {vs : List Value} (h : vs.length = 6) : ∃ a b c d e f, vs = [a, b, c, d, e, f] := by
  obtain ⟨a, r, rfl, h'⟩ := len_cons h
  obtain ⟨b, c, d, e, f, rfl⟩ := len5 h'
  exact ⟨a, b, c, d, e, f, rfl⟩

/-! ### memories -/
noncomputable def Le (μ μ' : Mem) : Prop := ∀ a mo, μ a = some mo → μ' a = some mo
theorem Le.refl (μ : Mem) : Le μ μ := fun _ _ e => e
theorem Le.put {μ μ' : Mem} {a : Addr} {mo : MObj} (h : μ a = none) (l : Le μ μ') : Le μ (μ'.put a mo) := fun b mo' e => by
  rw [Mem.put_ne (fun q => by rw [q, h] at e; cases e)]; exact l _ _ e
theorem Mem.put_none {μ : Mem} {a b : Addr} {mo : MObj} (h : (μ.put a mo) b = none) : μ b = none ∧ b ≠ a := by
  unfold Mem.put at h
  split at h
  · cases h
  · rename_i q; exact ⟨h, q⟩
theorem Mem.ne_of {μ : Mem} {a b : Addr} {mo : MObj} (h : μ a = some mo) (h' : μ b = none) : a ≠ b := fun q => by rw [q, h'] at h; cases h
theorem Mem.ne_of2 {μ : Mem} {a b : Addr} {mo mo' : MObj} (h : μ a = some mo) (h' : μ b = some mo') (hne : mo ≠ mo') : a ≠ b := fun q => by rw [q, h'] at h; cases h; exact hne rfl
theorem RepM.le {G : GS} {B Z : Reg} {μ μ' : Mem} {s : Shared} (r : RepM G B Z μ' s) (l : Le μ μ') : RepM G B Z μ s :=
  ⟨r.top, r.kH, r.kB, r.kZ, fun a mo e => r.mem a mo (l a mo e), r.gens, r.os⟩
/-! ### contracts -/
theorem FN.mono {G : GS} {n : Nat} {f : Addr} {ts : List Tree} {μ : Mem} {Φ Φ' : Tree → Mem → Prop} (h : FN G n f ts μ Φ) (k : ∀ t μ', Φ t μ' → Φ' t μ') : FN G n f ts μ Φ' :=
  fun A B Z s vs hA r i => codeAny_mono (h A B Z s vs hA r i) fun _ _ hpq => by obtain ⟨v, Z', t, μ', e, g, r', iv, p⟩ := hpq; exact ⟨v, Z', t, μ', e, g, r', iv, k _ _ p⟩
theorem FN.up {G : GS} {n m : Nat} {f : Addr} {ts : List Tree} {μ : Mem} {Φ : Tree → Mem → Prop} (h : FN G n f ts μ Φ) (k : n ≤ m) : FN G m f ts μ Φ :=
  fun A B Z s vs hA r i => h A B Z s vs (hA.le k) r i
theorem FN.forget {G : GS} {n : Nat} {f : Addr} {ts : List Tree} {μ : Mem} {Φ : Tree → Mem → Prop} (h : FN G n f ts μ fun t μ' => ∃ μ'', Le μ'' μ' ∧ Φ t μ'') : FN G n f ts μ Φ :=
  fun A B Z s vs hA r i => codeAny_mono (h A B Z s vs hA r i) fun _ _ hpq => by obtain ⟨v, Z', t, μ', e, g, r', iv, μ'', l, p⟩ := hpq; exact ⟨v, Z', t, μ'', e, g, r'.le l, iv, p⟩
/-- a def that gives back a value and writes nothing -/
noncomputable abbrev PF (G : GS) (n : Nat) (f : Addr) (ts : List Tree) (μ : Mem) (u : Tree) : Prop := FN G n f ts μ fun t μ' => t = u ∧ μ' = μ
noncomputable def pureTo (μ : Mem) (u : Tree) : FlT → St → Prop
  | .ret t, σ => t = u ∧ Le μ σ.μ
  | .next, σ => Tree.none = u ∧ Le μ σ.μ
  | _, _ => False
theorem SV.pureTo {c : Cx} {ss : List Stmt} {σ : St} {μ : Mem} {u : Tree} (h : SV c ss σ (Mine.pureTo μ u)) : SV c ss σ (retOf fun t μ' => ∃ μ'', Le μ'' μ' ∧ t = u ∧ μ'' = μ) :=
  h.mono fun f σ' p => by
    cases f with
    | ret t => exact ⟨μ, p.2, p.1, rfl⟩
    | next => exact ⟨μ, p.2, p.1, rfl⟩
    | brk => exact p
    | cont => exact p
/-- with what is forgotten at the end -/
noncomputable def letTo (Φ : Tree → Mem → Prop) : FlT → St → Prop
  | .ret t, σ => ∃ μ'', Le μ'' σ.μ ∧ Φ t μ''
  | .next, σ => ∃ μ'', Le μ'' σ.μ ∧ Φ .none μ''
  | _, _ => False
theorem SV.letTo {c : Cx} {ss : List Stmt} {σ : St} {Φ : Tree → Mem → Prop} (h : SV c ss σ (Mine.letTo Φ)) : SV c ss σ (retOf fun t μ' => ∃ μ'', Le μ'' μ' ∧ Φ t μ'') :=
  h.mono fun f σ' p => by
    cases f with
    | ret t => exact p
    | next => exact p
    | brk => exact p
    | cont => exact p

/-! ### tests that were walked -/
theorem ite_dec {p : Prop} [Decidable p] {A B : Prop} (h1 : p → A) (h2 : ¬p → B) : if decide p = true then A else B := by
  by_cases h : p
  · rw [if_pos (by simpa using h)]; exact h1 h
  · rw [if_neg (by simpa using h)]; exact h2 h
theorem ite_ndec {p : Prop} [Decidable p] {A B : Prop} (h1 : ¬p → A) (h2 : p → B) : if (!decide p) = true then A else B := by
  by_cases h : p
  · rw [if_neg (by simpa using h)]; exact h2 h
  · rw [if_pos (by simpa using h)]; exact h1 h
theorem ite_b {b : Bool} {A B : Prop} (h1 : b = true → A) (h2 : b = false → B) : if b = true then A else B := by
  cases b
  · exact h2 rfl
  · exact h1 rfl
theorem ite_t {b : Bool} {A B : Prop} (h : b = true) (h1 : A) : if b = true then A else B := by rw [if_pos h]; exact h1
theorem ite_f {b : Bool} {A B : Prop} (h : b = false) (h1 : B) : if b = true then A else B := by rw [if_neg (by rw [h]; decide)]; exact h1

/-! ### attributes -/
theorem AttrOf.box {c : Cx} {σ : St} {name : Str} {u : Tree} {x dx : Addr} {es : List (Str × Tree)} (h1 : σ.μ x = some (.inst BoxC dx)) (h2 : σ.μ dx = some (.attrs es)) (hl : es.lookup name = some u)
    (hf : findIn (KK c.G.w) (.ref BoxC) name = some none := by kernel_rfl) : AttrOf c σ name (.ptr x) u := .inl ⟨x, BoxC, dx, es, rfl, h1, h2, cls_box _, hf, hl⟩
theorem AttrOf.letter {c : Cx} {σ : St} {name : Str} {a1 a2 a3 a4 a5 u : Tree} (hl : letterGet name (.letter a1 a2 a3 a4 a5) = some u) (hf : findIn (KK c.G.w) (.ref LetterC) name = some none := by kernel_rfl) : AttrOf c σ name (.letter a1 a2 a3 a4 a5) u := .inr ⟨hf, hl⟩

/-! ### loops by a word -/
theorem Loop.inv {c : Cx} {tg : Expr} {body : List Stmt} {keep : Mem → Prop} {Φ : FlT → St → Prop} {α : Type} {g : α → Tree} (I : List α → St → Prop) (L : List α)
    (step : ∀ pre a post σ, L = pre ++ a :: post → I pre σ → keep σ.μ ∧ GV c tg (g a) σ (kTurn c body (kTurnF Φ (I (pre ++ [a])))))
    (fin : ∀ σ, I L σ → keep σ.μ ∧ Φ .next σ) {σ : St} (h0 : I [] σ) : Loop c tg body keep Φ (L.map g) σ := by
  have key : ∀ (post pre : List α) (σ : St), L = pre ++ post → I pre σ → Loop c tg body keep Φ (post.map g) σ := by
    intro post
    induction post with
    | nil =>
      intro pre σ e h
      rw [List.append_nil] at e
      subst e
      exact fin σ h
    | cons a post ih =>
      intro pre σ e h
      obtain ⟨h1, h2⟩ := step pre a post σ e h
      refine ⟨h1, ⟨fun B Z s v r i => wpAny_mono (h2.go B Z s v r i) (fun _ s' ⟨Z', σ', g', r', k⟩ => ⟨Z', σ', g', r', k.mono fun f σ₂ p => ?_⟩) fun _ _ x => x⟩⟩
      cases f with
      | next => exact ih (pre ++ [a]) σ₂ (by simp [e]) p
      | cont => exact ih (pre ++ [a]) σ₂ (by simp [e]) p
      | brk => exact p
      | ret u => exact p
  exact key L [] σ rfl h0

section
variable {G : GS} {n : Nat} {f : Addr} {ts : List Tree} {μ : Mem} {Φ : Tree → Mem → Prop} {u : Tree} {oc : Value} {od : Option Addr} {osl : Array (Option Value)} {fd : FuncData} {body : List Stmt} {ns : List Str}
theorem FN.letOf (h : ∀ A L, Room n A → SV ⟨G, A, fenv fd L f, true⟩ body ⟨fun x => (ns.zip ts).lookup x, μ⟩ (letTo Φ))
    (hK : (KK G.w).lookup f = some ⟨oc, od, .func fd, osl⟩ := by rfl) (hcode : codeIn (KK G.w) fd.code fd.qualname = true := by kernel_rfl) (hbody : fd.body = .stmts body := by rfl) (hclo : fd.closure = [] := by rfl)
    (hbind : ∀ (s : Shared) (vs : List Value), (KK G.w).In s.heap → vs.length = ts.length → BindsTo s fd ⟨vs, []⟩ (ns.zip vs) := by first | (intro s vs X h; obtain rfl := len0 h; first | exact BindsTo.of_eq (by kernel_rfl!) | exact kp_binds X fun _ => rfl) | (intro s vs X h; obtain ⟨a, rfl⟩ := len1 h; first | exact BindsTo.of_eq (by kernel_rfl!) | exact kp_binds X fun _ => rfl) | (intro s vs X h; obtain ⟨a, b, rfl⟩ := len2 h; first | exact BindsTo.of_eq (by kernel_rfl!) | exact kp_binds X fun _ => rfl) | (intro s vs X h; obtain ⟨a, b, c, rfl⟩ := len3 h; first | exact BindsTo.of_eq (by kernel_rfl!) | exact kp_binds X fun _ => rfl) | (intro s vs X h; obtain ⟨a, b, c, d, rfl⟩ := len4 h; first | exact BindsTo.of_eq (by kernel_rfl!) | exact kp_binds X fun _ => rfl) | (intro s vs X h; obtain ⟨a, b, c, d, e, rfl⟩ := len5 h; first | exact BindsTo.of_eq (by kernel_rfl!) | exact kp_binds X fun _ => rfl) | (intro s vs X h; obtain ⟨a, b, c, d, e, f, rfl⟩ := len6 h; first | exact BindsTo.of_eq (by kernel_rfl!) | exact kp_binds X fun _ => rfl))
    (hlen : ns.length = ts.length := by rfl) (hnd : ns.Nodup := by decide +kernel) (hcells : ((cellsFrom 0 fd.scope.names []).map (·.1)).Nodup := by decide +kernel)
    (hkind : (ns.all fun y => fd.scope.names.lookup y == some .local || fd.scope.names.lookup y == some .cell) = true := by kernel_rfl)
    (hglob : fd.globals = mainGlobals := by rfl) (hblt : fd.builtins = builtinsNs := by rfl)
    (hco : fd.scope.isCoroutine = false := by rfl) (hgen : fd.scope.isGenerator = false := by rfl) (hk : fd.scope.kind = .function := by rfl) : FN G (n + 1) f ts μ Φ :=
  FN.forget (FN.of_body hK hcode hbody hclo hbind hlen hnd hcells hkind hglob hblt (fun A L hr => SV.letTo (h A L hr)) hco hgen hk)
theorem FN.pureOf (h : ∀ A L, Room n A → SV ⟨G, A, fenv fd L f, true⟩ body ⟨fun x => (ns.zip ts).lookup x, μ⟩ (Mine.pureTo μ u))
    (hK : (KK G.w).lookup f = some ⟨oc, od, .func fd, osl⟩ := by rfl) (hcode : codeIn (KK G.w) fd.code fd.qualname = true := by kernel_rfl) (hbody : fd.body = .stmts body := by rfl) (hclo : fd.closure = [] := by rfl)
    (hbind : ∀ (s : Shared) (vs : List Value), (KK G.w).In s.heap → vs.length = ts.length → BindsTo s fd ⟨vs, []⟩ (ns.zip vs) := by first | (intro s vs X h; obtain rfl := len0 h; first | exact BindsTo.of_eq (by kernel_rfl!) | exact kp_binds X fun _ => rfl) | (intro s vs X h; obtain ⟨a, rfl⟩ := len1 h; first | exact BindsTo.of_eq (by kernel_rfl!) | exact kp_binds X fun _ => rfl) | (intro s vs X h; obtain ⟨a, b, rfl⟩ := len2 h; first | exact BindsTo.of_eq (by kernel_rfl!) | exact kp_binds X fun _ => rfl) | (intro s vs X h; obtain ⟨a, b, c, rfl⟩ := len3 h; first | exact BindsTo.of_eq (by kernel_rfl!) | exact kp_binds X fun _ => rfl) | (intro s vs X h; obtain ⟨a, b, c, d, rfl⟩ := len4 h; first | exact BindsTo.of_eq (by kernel_rfl!) | exact kp_binds X fun _ => rfl) | (intro s vs X h; obtain ⟨a, b, c, d, e, rfl⟩ := len5 h; first | exact BindsTo.of_eq (by kernel_rfl!) | exact kp_binds X fun _ => rfl) | (intro s vs X h; obtain ⟨a, b, c, d, e, f, rfl⟩ := len6 h; first | exact BindsTo.of_eq (by kernel_rfl!) | exact kp_binds X fun _ => rfl))
    (hlen : ns.length = ts.length := by rfl) (hnd : ns.Nodup := by decide +kernel) (hcells : ((cellsFrom 0 fd.scope.names []).map (·.1)).Nodup := by decide +kernel)
    (hkind : (ns.all fun y => fd.scope.names.lookup y == some .local || fd.scope.names.lookup y == some .cell) = true := by kernel_rfl)
    (hglob : fd.globals = mainGlobals := by rfl) (hblt : fd.builtins = builtinsNs := by rfl)
    (hco : fd.scope.isCoroutine = false := by rfl) (hgen : fd.scope.isGenerator = false := by rfl) (hk : fd.scope.kind = .function := by rfl) : PF G (n + 1) f ts μ u :=
  FN.forget (FN.of_body hK hcode hbody hclo hbind hlen hnd hcells hkind hglob hblt (fun A L hr => SV.pureTo (h A L hr)) hco hgen hk)
end

/-! ### builtins by name, ready -/
section
variable {c : Cx} {σ : St} {Ψ : Tree → St → Prop}
noncomputable abbrev kMin (Ψ : Tree → St → Prop) (ts : List Tree) (σ : St) : Prop := ∃ a b, ts = [.int a, .int b] ∧ Ψ (.int (min a b)) σ
noncomputable abbrev kMax (Ψ : Tree → St → Prop) (ts : List Tree) (σ : St) : Prop := ∃ a b, ts = [.int a, .int b] ∧ Ψ (.int (max a b)) σ
noncomputable abbrev kLI (σ : St) (t : Tree) (ns : List Int) : Prop := LstOf σ t (intsT ns)
noncomputable abbrev kMaxLF (Ψ : Tree → St → Prop) (σ : St) (ns : List Int) : Prop := 0 < ns.length ∧ Ψ (.int (listMax ns)) σ
noncomputable abbrev kMaxL (Ψ : Tree → St → Prop) (ts : List Tree) (σ : St) : Prop := Arg1 ts (kLI σ) (kMaxLF Ψ σ)
noncomputable abbrev kLenF (Ψ : Tree → St → Prop) (σ : St) (us : List Tree) : Prop := us.length ≤ 1000000 ∧ Ψ (.int us.length) σ
noncomputable abbrev kLen (Ψ : Tree → St → Prop) (ts : List Tree) (σ : St) : Prop := Arg1 ts (SeqOf σ) (kLenF Ψ σ)
noncomputable abbrev kSrtF (Ψ : Tree → St → Prop) (σ : St) (ns : List Int) : Prop := ns.length < 64 ∧ Ψ (.lst (intsT (sortZ ns))) σ
noncomputable abbrev kSrt (Ψ : Tree → St → Prop) (ts : List Tree) (σ : St) : Prop := Arg1 ts (kLI σ) (kSrtF Ψ σ)
noncomputable abbrev kSrtDF (Ψ : Tree → St → Prop) (σ : St) (es : List (Int × Tree)) : Prop := es.length < 64 ∧ Ψ (.lst (intsT (sortZ (es.map (·.1))))) σ
noncomputable abbrev kSrtD (Ψ : Tree → St → Prop) (ts : List Tree) (σ : St) : Prop := Arg1 ts (DctOf σ) (kSrtDF Ψ σ)
noncomputable abbrev kTplF (Ψ : Tree → St → Prop) (σ : St) (us : List Tree) : Prop := us.length ≤ 1000000 ∧ Ψ (.tup us) σ
noncomputable abbrev kTpl (Ψ : Tree → St → Prop) (ts : List Tree) (σ : St) : Prop := Arg1 ts (LstOf σ) (kTplF Ψ σ)
noncomputable abbrev kTplT (Ψ : Tree → St → Prop) (ts : List Tree) (σ : St) : Prop := ∃ us, ts = [.tup us] ∧ Ψ (.tup us) σ
theorem EV.cMin {p pos : Pos} {e e₂ : Expr} (hh : c.A.handled = Option.none) (h : LV c pos [e, e₂] σ (kMin Ψ))
    (hx : c.env.kindOf "min" = some .globalImplicit := by rfl) (he : starEach [e, e₂] c.env = (false, eval e c.env) :: starEach [e₂] c.env := by rfl) (hplain : (backTo pos (starEach [e₂] c.env)).any (·.1) = false := by rfl) :
    EV c (.Call (.Name "min" p) [e, e₂] [] pos) σ Ψ :=
  EV.bcall (id := "min") hx (h.mono fun ts σ' ⟨a, b, e, q⟩ => ⟨_, by rw [e]; exact BK.min2 hh, q⟩) (by decide +kernel) (by kernel_rfl) (by decide) (by decide +kernel) he hplain
theorem EV.cMax {p pos : Pos} {e e₂ : Expr} (hh : c.A.handled = Option.none) (h : LV c pos [e, e₂] σ (kMax Ψ))
    (hx : c.env.kindOf "max" = some .globalImplicit := by rfl) (he : starEach [e, e₂] c.env = (false, eval e c.env) :: starEach [e₂] c.env := by rfl) (hplain : (backTo pos (starEach [e₂] c.env)).any (·.1) = false := by rfl) :
    EV c (.Call (.Name "max" p) [e, e₂] [] pos) σ Ψ :=
  EV.bcall (id := "max") hx (h.mono fun ts σ' ⟨a, b, e, q⟩ => ⟨_, by rw [e]; exact BK.max2 hh, q⟩) (by decide +kernel) (by kernel_rfl) (by decide) (by decide +kernel) he hplain
theorem EV.cMaxL {p pos : Pos} {e : Expr} (hh : c.A.handled = Option.none) (h : LV c pos [e] σ (kMaxL Ψ))
    (hx : c.env.kindOf "max" = some .globalImplicit := by rfl) (he : starEach [e] c.env = (false, eval e c.env) :: starEach [] c.env := by rfl) :
    EV c (.Call (.Name "max" p) [e] [] pos) σ Ψ :=
  EV.bcall (id := "max") hx (h.mono fun ts σ' ⟨t, ns, e, h1, h2, q⟩ => ⟨_, by rw [e]; exact BK.maxl hh h1 h2, q⟩) (by decide +kernel) (by kernel_rfl) (by decide) (by decide +kernel) he rfl
theorem EV.cLen {p pos : Pos} {e : Expr} (h : LV c pos [e] σ (kLen Ψ))
    (hx : c.env.kindOf "len" = some .globalImplicit := by rfl) (he : starEach [e] c.env = (false, eval e c.env) :: starEach [] c.env := by rfl) :
    EV c (.Call (.Name "len" p) [e] [] pos) σ Ψ :=
  EV.bcall (id := "len") hx (h.mono fun ts σ' ⟨t, us, e, h1, h2, q⟩ => ⟨_, by rw [e]; exact BK.len h1 h2, q⟩) (by decide +kernel) (by kernel_rfl) (by decide) (by decide +kernel) he rfl
theorem EV.cSorted {p pos : Pos} {e : Expr} (h : LV c pos [e] σ (kSrt Ψ))
    (hx : c.env.kindOf "sorted" = some .globalImplicit := by rfl) (he : starEach [e] c.env = (false, eval e c.env) :: starEach [] c.env := by rfl) :
    EV c (.Call (.Name "sorted" p) [e] [] pos) σ Ψ :=
  EV.bcall (id := "sorted") hx (h.mono fun ts σ' ⟨t, us, e, h1, h2, q⟩ => ⟨_, by rw [e]; exact BK.sortedInts h1 h2, q⟩) (by decide +kernel) (by kernel_rfl) (by decide) (by decide +kernel) he rfl
theorem EV.cSortedD {p pos : Pos} {e : Expr} (hh : c.A.handled = Option.none) (h : LV c pos [e] σ (kSrtD Ψ))
    (hx : c.env.kindOf "sorted" = some .globalImplicit := by rfl) (he : starEach [e] c.env = (false, eval e c.env) :: starEach [] c.env := by rfl) :
    EV c (.Call (.Name "sorted" p) [e] [] pos) σ Ψ :=
  EV.bcall (id := "sorted") hx (h.mono fun ts σ' ⟨t, us, e, h1, h2, q⟩ => ⟨_, by rw [e]; exact BK.sortedDct hh h1 h2, q⟩) (by decide +kernel) (by kernel_rfl) (by decide) (by decide +kernel) he rfl
theorem EV.cTuple {p pos : Pos} {e : Expr} (h : LV c pos [e] σ (kTpl Ψ))
    (hx : c.env.kindOf "tuple" = some .globalImplicit := by rfl) (he : starEach [e] c.env = (false, eval e c.env) :: starEach [] c.env := by rfl) :
    EV c (.Call (.Name "tuple" p) [e] [] pos) σ Ψ :=
  EV.tcall (T := "tuple") hx (h.mono fun ts σ' ⟨t, us, e, h1, h2, q⟩ => ⟨_, by rw [e]; exact BK.tupleOf h1 h2, q⟩) (by decide +kernel) (by kernel_rfl) (by decide) (by decide +kernel) he rfl
theorem EV.cTupleT {p pos : Pos} {e : Expr} (h : LV c pos [e] σ (kTplT Ψ))
    (hx : c.env.kindOf "tuple" = some .globalImplicit := by rfl) (he : starEach [e] c.env = (false, eval e c.env) :: starEach [] c.env := by rfl) :
    EV c (.Call (.Name "tuple" p) [e] [] pos) σ Ψ :=
  EV.tcall (T := "tuple") hx (h.mono fun ts σ' ⟨us, e, q⟩ => ⟨_, by rw [e]; exact BK.tupleSame, q⟩) (by decide +kernel) (by kernel_rfl) (by decide) (by decide +kernel) he rfl
end

/-! ### comprehensions that write nothing -/
section
variable {c : Cx} {scope : Scope} {σ₁ : St} {α : Type} {x y : Str} {px py tp : Pos} {k : Nat} {elt test : Expr} {keep : Mem → Prop} {Ω : St → List Tree → Mem → Prop}

theorem comp1 {us : List Tree} (L : List α) (g g' : α → Tree) (caps : List (Str × Tree)) (hlen : L.length ≤ 1000) (hk : keep σ₁.μ) (hcaps : Caps c scope σ₁.ρ caps)
    (h : ∀ C a, a ∈ L → EV (inCx c scope C) elt ⟨upd (fun x => caps.lookup x) x (g a), σ₁.μ⟩ (kIs (g' a) ⟨upd (fun x => caps.lookup x) x (g a), σ₁.μ⟩)) (hΩ : Ω σ₁ us σ₁.μ) (hus : L.map g' = us := by rfl) (hx : ∀ C, Stores (inCx c scope C) x := by exact fun _ => .inl rfl) :
    CompK c scope (.Name x px) [] elt Ω (L.map g) keep σ₁ := by
  subst hus
  exact ⟨by rw [List.length_map]; exact hlen, caps, hcaps, fun C => CompL.one (g' := g') (P := fun _ => true) (hx C) hk L [] _ (fun _ => rfl) (fun a ha => IfV.nil ⟨rfl, rfl, fun _ => h C a ha⟩) (by rw [List.filter_eq_self.mpr (fun _ _ => rfl)]; exact hΩ)⟩
theorem comp1f {us : List Tree} (L : List α) (g g' : α → Tree) (P : α → Bool) (caps : List (Str × Tree)) (hlen : L.length ≤ 1000) (hk : keep σ₁.μ) (hcaps : Caps c scope σ₁.ρ caps)
    (ht : ∀ C a, a ∈ L → TV (inCx c scope C) test ⟨upd (fun x => caps.lookup x) x (g a), σ₁.μ⟩ (kIs (P a) ⟨upd (fun x => caps.lookup x) x (g a), σ₁.μ⟩))
    (h : ∀ C a, a ∈ L → P a = true → EV (inCx c scope C) elt ⟨upd (fun x => caps.lookup x) x (g a), σ₁.μ⟩ (kIs (g' a) ⟨upd (fun x => caps.lookup x) x (g a), σ₁.μ⟩)) (hΩ : Ω σ₁ us σ₁.μ) (hus : (L.filter P).map g' = us := by rfl) (hx : ∀ C, Stores (inCx c scope C) x := by exact fun _ => .inl rfl) :
    CompK c scope (.Name x px) [test] elt Ω (L.map g) keep σ₁ := by
  subst hus
  exact ⟨by rw [List.length_map]; exact hlen, caps, hcaps, fun C => CompL.one (g' := g') (P := P) (hx C) hk L [] _ (fun _ => rfl) (fun a ha => IfV.one ((ht C a ha).mono fun b σ₂ hq => ⟨hq.1, hq.2, fun q => h C a ha q⟩)) hΩ⟩
theorem comp2f {us : List Tree} (L : List α) (ga gb g' : α → Tree) (P : α → Bool) (caps : List (Str × Tree)) (hh : c.A.handled = none) (hlen : L.length ≤ 1000) (hk : keep σ₁.μ) (hcaps : Caps c scope σ₁.ρ caps)
    (ht : ∀ C a, a ∈ L → TV (inCx c scope C) test ⟨upd (upd (fun x => caps.lookup x) x (ga a)) y (gb a), σ₁.μ⟩ (kIs (P a) ⟨upd (upd (fun x => caps.lookup x) x (ga a)) y (gb a), σ₁.μ⟩))
    (h : ∀ C a, a ∈ L → P a = true → EV (inCx c scope C) elt ⟨upd (upd (fun x => caps.lookup x) x (ga a)) y (gb a), σ₁.μ⟩ (kIs (g' a) ⟨upd (upd (fun x => caps.lookup x) x (ga a)) y (gb a), σ₁.μ⟩)) (hΩ : Ω σ₁ us σ₁.μ) (hus : (L.filter P).map g' = us := by rfl)
    (hxy : x ≠ y := by decide +kernel) (hx : ∀ C, Stores (inCx c scope C) x := by exact fun _ => .inl rfl) (hy : ∀ C, Stores (inCx c scope C) y := by exact fun _ => .inl rfl) :
    CompK c scope (.Tuple [.Name x px, .Name y py] k tp) [test] elt Ω (L.map fun a => .tup [ga a, gb a]) keep σ₁ := by
  subst hus
  exact ⟨by rw [List.length_map]; exact hlen, caps, hcaps, fun C => CompL.two (c := inCx c scope C) (g' := g') (P := P) hh (hx C) (hy C) hxy hk L [] _ (fun _ _ => rfl) (fun a ha => IfV.one ((ht C a ha).mono fun b σ₂ hq => ⟨hq.1, hq.2, fun q => h C a ha q⟩)) hΩ⟩
end

section
variable {c : Cx} {σ : St} {Ψ : Tree → St → Prop}
noncomputable abbrev kCallP (c : Cx) (n : Nat) (f : Addr) (Ψ : Tree → St → Prop) (ts : List Tree) (σ : St) : Prop := Ex1 (PF c.G n f ts σ.μ) (kF Ψ σ)
/-- a call of a def that writes nothing -/
theorem EV.callP {x : Str} {p pos : Pos} {e : Expr} {es : List Expr} (f : Addr) (n : Nat) (hr : Room n c.A) (h : LV c pos (e :: es) σ (kCallP c n f Ψ))
    (hx : c.env.kindOf x = some .globalImplicit := by rfl) (hg : nsIn (KK c.G.w) mainGlobals x = some (some (.ref f)) := by kernel_rfl)
    (hk : keepIn (KK c.G.w) (.ref f) = true := by kernel_rfl) 
    (hd : (x == ("__debug__" : Str)) = false := by decide +kernel) (he : starEach (e :: es) c.env = (false, eval e c.env) :: starEach es c.env := by rfl) (hplain : (backTo pos (starEach es c.env)).any (·.1) = false := by rfl) :
    EV c (.Call (.Name x p) (e :: es) [] pos) σ Ψ :=
  EV.call n hx hg hk hr (h.mono fun ts σ' ⟨u, hf, q⟩ => hf.mono fun t μ' ⟨e1, e2⟩ => by subst e1 e2; exact q) hd he hplain
theorem EV.callP0 {x : Str} {p pos : Pos} (f : Addr) (n : Nat) (hr : Room n c.A) (h : Ex1 (PF c.G n f [] σ.μ) (kF Ψ σ))
    (hx : c.env.kindOf x = some .globalImplicit := by rfl) (hg : nsIn (KK c.G.w) mainGlobals x = some (some (.ref f)) := by kernel_rfl)
    (hk : keepIn (KK c.G.w) (.ref f) = true := by kernel_rfl) 
    (hd : (x == ("__debug__" : Str)) = false := by decide +kernel) :
    EV c (.Call (.Name x p) [] [] pos) σ Ψ :=
  EV.call0 n hx hg hk hr (let ⟨u, hf, q⟩ := h; hf.mono fun t μ' ⟨e1, e2⟩ => by subst e1 e2; exact q) hd
theorem EV.callF {x : Str} {p pos : Pos} {e : Expr} {es : List Expr} (f : Addr) (n : Nat) (hr : Room n c.A) (h : LV c pos (e :: es) σ (kCall c n f Ψ))
    (hx : c.env.kindOf x = some .globalImplicit := by rfl) (hg : nsIn (KK c.G.w) mainGlobals x = some (some (.ref f)) := by kernel_rfl)
    (hk : keepIn (KK c.G.w) (.ref f) = true := by kernel_rfl) 
    (hd : (x == ("__debug__" : Str)) = false := by decide +kernel) (he : starEach (e :: es) c.env = (false, eval e c.env) :: starEach es c.env := by rfl) (hplain : (backTo pos (starEach es c.env)).any (·.1) = false := by rfl) :
    EV c (.Call (.Name x p) (e :: es) [] pos) σ Ψ := EV.call n hx hg hk hr h hd he hplain
end

section
variable {c : Cx} {σ : St}
theorem GK.tup0 {t : Tree} {ts : List Tree} (h : ts.length ≤ 10 := by exact Nat.le_of_ble_eq_true rfl) : GK c σ (.tup (t :: ts)) (.int 0) t := GK.seq (j := 0) (.inr (.inl rfl)) (.inl ⟨by decide, rfl⟩) rfl (by rw [List.length_cons]; omega)
theorem GK.tup1 {t u : Tree} {ts : List Tree} (h : ts.length ≤ 10 := by exact Nat.le_of_ble_eq_true rfl) : GK c σ (.tup (t :: u :: ts)) (.int 1) u := GK.seq (j := 1) (.inr (.inl rfl)) (.inl ⟨by decide, rfl⟩) rfl (by rw [List.length_cons, List.length_cons]; omega)
theorem GK.at {t u : Tree} {ts : List Tree} (j : Nat) (h : SeqOf σ t ts) (hu : ts[j]? = some u) (hlen : ts.length ≤ 1000000) : GK c σ t (.int (j : Int)) u := GK.seq (j := j) h (.inl ⟨by omega, by simp⟩) hu hlen
end

/-- ways that meet -/
theorem EV.to {c : Cx} {σ : St} {e : Expr} {Ψ : Tree → St → Prop} (u : Tree) (h : EV c e σ (kIs u σ)) (k : Ψ u σ) : EV c e σ Ψ := h.mono fun t σ' ⟨e1, e2⟩ => by subst e1 e2; exact k
theorem TV.to {c : Cx} {σ : St} {e : Expr} {Θ : Bool → St → Prop} (u : Bool) (h : TV c e σ (kIs u σ)) (k : Θ u σ) : TV c e σ Θ := h.mono fun t σ' ⟨e1, e2⟩ => by subst e1 e2; exact k
section
open PySem PySem.W PyProof.Rows PySem.Calls PySem.SeqAt

/-! ### list.sort of what is sorted -/
section
variable {cmp : Nat → Nat → (Bool → Shared → Prop) → Shared → Prop} {n : Nat} {s : Shared}
theorem kas_asc_done (hcmp : ∀ i C, i + 1 < n → C false s → cmp (i + 1) i C s) {Q : Nat → Shared → Prop} : ∀ f k, 1 ≤ k → k + f = n → Q n s → (kas_asc (List.toArray (List.range n)) f k).kasWp cmp Q s
  | 0, k, _, h, q => by
    have e : k = n := by omega
    subst e; exact q
  | f + 1, k, h1, h, q => by
    show cmp ((List.toArray (List.range n)).getD k 0) ((List.toArray (List.range n)).getD (k - 1) 0) (fun b s' => (if b = true then KasT.ret k else kas_asc (List.toArray (List.range n)) f (k + 1)).kasWp cmp Q s') s
    have e1 : (List.toArray (List.range n)).getD k 0 = (k - 1) + 1 := by
      have : k < n := by omega
      simp [Array.getD, this]; omega
    have e2 : (List.toArray (List.range n)).getD (k - 1) 0 = k - 1 := by
      have : k - 1 < n := by omega
      simp [Array.getD, this]
    rw [e1, e2]
    refine hcmp (k - 1) _ (by omega) ?_
    exact kas_asc_done hcmp f (k + 1) (by omega) (by omega) q
theorem kas_sort_done (h1 : 1 ≤ n) (hcmp : ∀ i C, i + 1 < n → C false s → cmp (i + 1) i C s) {Q : Array Nat → Shared → Prop} (q : Q (List.toArray (List.range n)) s) : (kas_sort n).kasWp cmp Q s := by
  show ((kas_count n (List.toArray (List.range n))).bind fun r => if r.1 < n then kas_bin (n - max r.1 1) r.2 (max r.1 1) else .ret r.2).kasWp cmp Q s
  rw [KasT.kasWp_bind]
  unfold kas_count
  rw [KasT.kasWp_bind]
  refine kas_asc_done hcmp (n - 1) 1 (Nat.le_refl _) (by omega) ?_
  rw [if_pos (by simp)]
  show (if n < n then _ else _ : KasT (Array Nat)).kasWp cmp Q s
  rw [if_neg (Nat.lt_irrefl n)]
  exact q
end

section
variable {prog : Program} {w : World} {A : Around} {E : Value → Shared → Prop} {s : Shared} {κ : SortKind}
theorem list_sort_done {a : Addr} {vs : List Value} {n : Nat} {P : PySem.Fin → Shared → Prop} (ho : s.heap.get? a = some (seqObj "list" vs.toArray n)) (h64 : vs.length < 64)
    (hkind : ∀ h', (∀ b o, b ≠ a → s.heap.get? b = some o → h'.get? b = some o) → 2 ≤ vs.length → ∀ Q : SortKind → Shared → Prop, Q κ { s with heap := h' } → wpAny (model prog w) A (keyKind' vs.toArray) Q (fun _ _ => False) { s with heap := h' })
    (hlt : ∀ h', (∀ b o, b ≠ a → s.heap.get? b = some o → h'.get? b = some o) → ∀ i C, i + 1 < vs.length → C false { s with heap := h' } → kas_ask prog w A κ vs (i + 1) i C { s with heap := h' })
    (h : ∀ h' c, (∀ b o, b ≠ a → s.heap.get? b = some o → h'.get? b = some o) → h'.get? a = some (seqObj "list" vs.toArray c) → P (.done (.ret .none)) { s with heap := h' }) :
    wpAny (model prog w) A (Builtin.«list.sort» ⟨[.ref a], []⟩) P E s := by
  have ha : a < s.heap.objs.size := Heap.lt_size ho
  have s1 := Heap.SameBut.update s.heap a (Obj.mapSeq fun _ => (#[] : Array Value))
  obtain ⟨e1, ho1⟩ : ∃ e1, (s.heap.update a (Obj.mapSeq fun _ => (#[] : Array Value))).get? a = some (seqObj "list" #[] e1) := ⟨_, get?_update_seq ho fun _ => #[]⟩
  rw [list_sort_plain]
  refine wpAny_bind (listItems_at ho rfl ?_)
  refine wpAny_bind (listUpdate_at ho rfl ?_ (by rw [List.size_toArray, sizeLine_eq]; omega) (Nat.zero_le _))
  refine wpAny_bind (seqEpoch_at ho1 rfl ?_)
  refine wpAny_bind (wpAny_newTuple ?_ (by show vs.length ≤ _; rw [sizeLine_eq]; omega))
  refine wpAny_bind (wpAny_newList ?_ (Nat.zero_le _))
  refine wpAny_holding ?_
  generalize hH : ((s.heap.update a (Obj.mapSeq fun _ => (#[] : Array Value))).push (seqObj "tuple" vs.toArray 0)).push (seqObj "list" #[] 0) = H
  have hoH : H.get? a = some (seqObj "list" #[] e1) := by rw [← hH]; exact Heap.get?_push_of_some _ (Heap.get?_push_of_some _ ho1)
  have hkp : ∀ b o, b ≠ a → s.heap.get? b = some o → H.get? b = some o := fun b o hb e => by
    rw [← hH]; exact Heap.get?_push_of_some _ (Heap.get?_push_of_some _ ((s1.2 b hb).trans e))
  show wpAny (model prog w) A _ P E { s with heap := H }
  dsimp only
  have fin : ∀ (st' : SortSt), (arrOf st').map (·.2) = vs.toArray → failedOf st' = none → wpAny (model prog w) A (do
      let touched := (← seqEpoch a) != e1
      Builtin.List.listUpdate (.ref a) fun _ => (arrOf st').map (·.2)
      if let some e := failedOf st' then rule "list.sort.comparison-raised"; throw e
      if touched then rule "list.sort.modified"; raiseError "ValueError" "list modified during sort"
      ret .none : Sem PySem.Fin) P E { s with heap := H } := by
    intro st' h1 h2
    rw [h1, h2]
    have s2 := Heap.SameBut.update H a (Obj.mapSeq fun _ => vs.toArray)
    obtain ⟨c2, hc2⟩ : ∃ c2, (H.update a (Obj.mapSeq fun _ => vs.toArray)).get? a = some (seqObj "list" vs.toArray c2) := ⟨_, get?_update_seq hoH fun _ => vs.toArray⟩
    refine wpAny_bind (seqEpoch_at hoH rfl ?_)
    refine wpAny_bind (listUpdate_at hoH rfl ?_ (Nat.zero_le _) (by rw [List.size_toArray, sizeLine_eq]; omega))
    simp only [bne_self_eq_false, Bool.false_eq_true, if_false]
    exact wpAny_pure (h _ c2 (fun b o hb e => (s2.2 b hb).trans (hkp b o hb e)) hc2)
  by_cases h2 : vs.toArray.size < 2
  · rw [if_pos h2, if_pos h2]
    refine wpAny_bind (wpAny_pure ?_)
    rw [StateT.run_pure]
    refine wpAny_bind (wpAny_pure ?_)
    refine fin (SortSt.mk' general' (vs.toArray.zip vs.toArray) #[] 7 none) ?_ rfl
    show ((vs.toArray.zip vs.toArray).map (·.2)) = vs.toArray
    apply Array.toList_inj.mp
    simp only [Array.toList_map, Array.toList_zip]
    exact List.map_snd_zip (Nat.le_refl _)
  · rw [if_neg h2, if_neg h2]
    have h2' : 2 ≤ vs.length := by simpa using h2
    refine wpAny_bind (wpAny_mono (hkind H hkp h2' (fun κ' s0 => κ' = κ ∧ s0 = { s with heap := H }) ⟨rfl, rfl⟩) (fun κ' s0 hk => ?_) fun _ _ x => x.elim)
    obtain ⟨rfl, rfl⟩ := hk
    have run := kat_run (E := E) (prog := prog) (w := w) (A := A) (κ := κ') (s := { s with heap := H }) (ks := vs) (vs := vs) (Q := fun st' s' => (arrOf st').map (·.2) = vs.toArray ∧ failedOf st' = none ∧ s' = { s with heap := H }) (G := fun p s' => p = List.toArray (List.range vs.length) ∧ s' = { s with heap := H })
      rfl h2' h64 (fun p' st' s' a1 a2 a3 a4 => ⟨by
        obtain ⟨rfl, _⟩ := a4
        rw [kat_snds rfl a2]
        congr 1
        refine List.ext_getElem (by simp) fun i h1 h2 => ?_
        simp at h1
        simp [h1], a3, a4.2⟩) (kas_sort_done (by omega) (fun i C hi hc => hlt H hkp i C hi hc) ⟨rfl, rfl⟩)
    refine wpAny_bind (wpAny_mono run ?_ fun _ _ e => e)
    rintro ⟨⟨⟩, st'⟩ s' ⟨q1, q2, rfl⟩
    exact fin st' q1 q2
end

/-- a list of pairs of ints, the firsts rising -/
noncomputable def pairIT (p : Int × Int) : Tree := .tup [.int p.1, .int p.2]
theorem AreT.pair_at {G : GS} {Z : Reg} {ps : List (Int × Int)} {vs : List Value} (i : AreT G Z (ps.map pairIT) vs) {k : Nat} {p : Int × Int} (h : ps[k]? = some p) :
    ∃ a o n t u, vs[k]? = some (.ref a) ∧ Z a = some o ∧ o.cls = .type "tuple" ∧ o.data = .seq #[.int p.1 t, .int p.2 u] n := by
  obtain ⟨v, hv, iv⟩ := i.get (i := k) (t := pairIT p) (by rw [List.getElem?_map, h]; rfl)
  simp only [pairIT, IsT, AreT] at iv
  obtain ⟨a, o, ws, n, rfl, z, z1, z2, v1, _, rfl, ⟨t, rfl⟩, v2, _, rfl, ⟨u, rfl⟩, rfl⟩ := iv
  exact ⟨a, o, n, t, u, hv, z, z1, z2⟩
theorem AreT.katTups {G : GS} {Z : Reg} {h : Heap} (hZ : ∀ a o, Z a = some o → h.get? a = some o) : ∀ {ps : List (Int × Int)} {vs : List Value}, AreT G Z (ps.map pairIT) vs → ∃ fs, KatTups h vs fs ∧ fs.length = ps.length ∧ ∀ v ∈ fs, ∃ i t, v = Value.int i t
  | [], vs, i => by simp only [List.map_nil, AreT] at i; subst i; exact ⟨[], .nil, rfl, nofun⟩
  | p :: ps, vs, i => by
    simp only [List.map_cons, AreT] at i
    obtain ⟨v, r, rfl, iv, i⟩ := i
    obtain ⟨fs, h1, h2, h3⟩ := AreT.katTups hZ i
    simp only [pairIT, IsT, AreT] at iv
    obtain ⟨a, o, ws, n, rfl, z, z1, z2, v1, _, rfl, ⟨t, rfl⟩, v2, _, rfl, ⟨u, rfl⟩, rfl⟩ := iv
    exact ⟨.int p.1 t :: fs, .cons (hZ _ _ z) z1 z2 (by simp) h1, by simp [h2], fun v hv => by
      rcases List.mem_cons.mp hv with rfl | hv
      · exact ⟨_, _, rfl⟩
      · exact h3 v hv⟩

section
variable {c : Cx} {σ : St} {Φ : FlT → St → Prop}
theorem sort_pairs {prog : Program} {w : World} {A : Around} {E : Value → Shared → Prop} {G : GS} {Z : Reg} {s : Shared} {a : Addr} {ps : List (Int × Int)} {vs : List Value} {n : Nat} {P : PySem.Fin → Shared → Prop}
    (hZ : ∀ b o, Z b = some o → s.heap.get? b = some o) (hZa : Z a = none) (i : AreT G Z (ps.map pairIT) vs) (hp : ps.Pairwise fun p q => p.1 < q.1) (hn : ps.length < 64) (ho : s.heap.get? a = some (seqObj "list" vs.toArray n))
    (h : ∀ h' c, (∀ b o, b ≠ a → s.heap.get? b = some o → h'.get? b = some o) → h'.get? a = some (seqObj "list" vs.toArray c) → P (.done (.ret .none)) { s with heap := h' }) :
    wpAny (model prog w) A (Builtin.«list.sort» ⟨[.ref a], []⟩) P E s := by
  have hl : vs.length = ps.length := by rw [AreT.length i, List.length_map]
  have hZ' : ∀ h' : Heap, (∀ b o, b ≠ a → s.heap.get? b = some o → h'.get? b = some o) → ∀ b o, Z b = some o → h'.get? b = some o := fun h' k b o e => k b o (fun q => by rw [q, hZa] at e; cases e) (hZ b o e)
  refine list_sort_done (κ := tuples' (Value.type "int" != Value.type "tuple")) ho (by omega) (fun h' k h2 Q q => ?_) (fun h' k j C hj hc => ?_) h
  · obtain ⟨fs, h1, h3, h4⟩ := i.katTups (hZ' h' k)
    refine kat_kind (T := .type "int") h1 (by omega) (fun v hv => ?_) (by decide) q
    obtain ⟨x, t, rfl⟩ := h4 v hv
    exact .now
  · have hj1 : j + 1 < ps.length := by omega
    obtain ⟨a1, o1, n1, t1, u1, e1, z1, c1, d1⟩ := i.pair_at (List.getElem?_eq_getElem hj1)
    obtain ⟨a2, o2, n2, t2, u2, e2, z2, c2, d2⟩ := i.pair_at (List.getElem?_eq_getElem (show j < ps.length by omega))
    unfold kas_ask
    have g1 : vs.getD (j + 1) Value.none = .ref a1 := by rw [List.getD_eq_getElem?_getD, e1]; rfl
    have g2 : vs.getD j Value.none = .ref a2 := by rw [List.getD_eq_getElem?_getD, e2]; rfl
    rw [g1, g2]
    have hlt := List.pairwise_iff_getElem.mp hp j (j + 1) (by omega) hj1 (by omega)
    refine kat_lt (hZ' h' k _ _ z1) d1 (hZ' h' k _ _ z2) d2 ?_
    have q1 : (ps[j + 1].1 == ps[j].1) = false := by simp; omega
    have q2 : decide (ps[j + 1].1 < ps[j].1) = false := by simp; omega
    refine kat_cons (EqAt.int_int _ _ _ _ _ _ _ _ ?_)
    rw [q1]
    refine kat_no ?_
    have q3 : ((Value.type "int" != Value.type "tuple") && (0 : Nat) == 0) = true := by decide
    rw [q3]
    refine oneLt_int ?_
    rw [q2]; exact hc

noncomputable abbrev kSortD (Φ : FlT → St → Prop) (ot : Tree) (σ : St) : Prop := ∃ (a : Addr) (ps : List (Int × Int)), ot = .ptr a ∧ σ.μ a = some (.lst (ps.map pairIT)) ∧ (ps.Pairwise fun p q => p.1 < q.1) ∧ ps.length < 64 ∧ Φ .next σ
/-- `x.sort()` as a statement, x a list of pairs whose firsts rise -/
theorem XV.sortDone {o : Expr} {apos cpos pos : Pos} (h : EV c o σ (kSortD Φ))
    {pl : Sem Bool} (he : eval (.Call (.Attribute o "sort" apos) [] [] cpos) c.env = (do
      let ov ← eval o c.env
      standAt apos.atName
      let (f, first) ← holding [ov] (getMethod ov "sort" pl)
      callWith cpos f first (backTo cpos (starEach [] c.env)) []) := by rfl)
    (hi : interactive c.env = false := by rfl) (hs : swapsWith (.Call (.Attribute o "sort" apos) [] [] cpos) none pos.line c.env = pure false := by rfl) : XV c (.Expr (.Call (.Attribute o "sort" apos) [] [] cpos) pos) σ Φ := .intro fun B Z s r => by
  refine wpAny_Expr (MethodCall_ (h.run' r fun v s₁ Z₁ t σ₁ g₁ r₁ i₁ hpq => ?_) he) hi hs
  obtain ⟨a, ps, e', ha, hp, hn, hq⟩ := hpq
  subst e'
  simp only [IsT] at i₁
  subst i₁
  obtain ⟨hm, hB, hZ⟩ := r₁.1.mem _ _ ha
  obtain ⟨vs, n, ho, j⟩ := hm
  refine getMethod_list_of slot_list_sort F.type_list_sort (items := vs.toArray) ⟨_, ho, rfl, n, rfl⟩ ⟨_, ho, rfl⟩ ?_
  refine PyProof.Rows.callWith_method0 ?_
  refine wpAny_call_entry slot_list_sort ⟨_, ho, rfl⟩ entry_list_sort (sort_pairs r₁.1.kZ hZ j hp hn ho fun h' c' k ho' => ⟨_, rfl, ?_⟩) (args_list_sort _)
  have r₂ := r₁.set (mo' := .lst (ps.map pairIT)) (h' := h') (tk := s₁.toks) ha k ⟨vs, c', ho', j⟩
  have e : σ₁.μ.put a (.lst (ps.map pairIT)) = σ₁.μ := Mem.put_same ha
  rw [e] at r₂
  exact .mk g₁ r₂ isNext hq
end
end

/-! ### texts -/
theorem are_strsFrom {G : GS} {Z : Reg} : ∀ (ys : List Str) (t : Tok), AreT G Z (ys.map Tree.str) (strsFrom t ys)
  | [], t => by simp only [List.map_nil, AreT]; rfl
  | y :: ys, t => by
    simp only [List.map_cons, AreT, IsT]
    exact ⟨.str y t, strsFrom (t + 1) ys, rfl, ⟨t, rfl⟩, are_strsFrom ys (t + 1)⟩

section
variable {c : Cx} {σ : St} {Ψ : Tree → St → Prop} {Φ : FlT → St → Prop}

noncomputable abbrev kSpl2 (y : Str) (ys : List Str) (Ψ : Tree → St → Prop) (us : List Tree) (σ : St) : Prop := us = [.str y] ∧ Ψ (.lst (ys.map .str)) σ
noncomputable abbrev kSpl (c : Cx) (pos : Pos) (e : Expr) (x y : Str) (ys : List Str) (Ψ : Tree → St → Prop) (ot : Tree) (σ : St) : Prop := ot = .str x ∧ LV c pos [e] σ (kSpl2 y ys Ψ)
/-- `x.split(y)` of written texts -/
theorem EV.split {o e : Expr} {apos pos : Pos} (x y : Str) (ys : List Str) (h : EV c o σ (kSpl c pos e x y ys Ψ))
    (h1 : (decide (x.length < y.length) || decide (Builtin.Str.strKind x < Builtin.Str.strKind y)) = false := by decide +kernel) (hy : (y.length == 0) = false := by decide +kernel)
    (hf : (Builtin.Str.occurrences x y 0 x.length (x.length + 1)).isEmpty = false := by decide +kernel) (hx : x.length ≤ sizeLine := by decide +kernel)
    (hp : Builtin.Str.partsBetween x (Builtin.Str.occurrences x y 0 x.length (x.length + 1)) y.length = ys := by decide +kernel) (hn : ys.length ≤ sizeLine := by decide +kernel)
    {pl : Sem Bool} (he : eval (.Call (.Attribute o "split" apos) [e] [] pos) c.env = (do
      let ov ← eval o c.env
      standAt apos.atName
      let (f, first) ← holding [ov] (getMethod ov "split" pl)
      callWith pos f first (backTo pos (starEach [e] c.env)) []) := by rfl)
    (hel : starEach [e] c.env = (false, eval e c.env) :: starEach [] c.env := by rfl) : EV c (.Call (.Attribute o "split" apos) [e] [] pos) σ Ψ := .intro fun B Z s r => by
  refine MethodCall_ (h.run' r fun v s₁ Z₁ t σ₁ g₁ r₁ i₁ ⟨e', hv⟩ => ?_) he
  subst e'
  simp only [IsT] at i₁
  obtain ⟨tk, rfl⟩ := i₁
  refine GM.split ?_
  refine PyProof.Rows.callWith_method1 (hv.run' r₁ fun ws s₂ Z₂ us σ₂ g₂ r₂ i₂ ⟨e', hp'⟩ => ?_) hel rfl
  subst e'
  obtain ⟨w, rfl, iw⟩ := i₂.one'
  simp only [IsT] at iw
  obtain ⟨tk', rfl⟩ := iw
  refine call_meets F.slot_str_split (typeIs_str _ _ _) F.entry_str_split (F.args_str_split_2 _ _) (meets_str_split_sep x y tk tk' h1 hy hf hx (by rw [hp]; exact hn)) ?_
  rw [hp]
  obtain ⟨r₃, g₃⟩ := r₂.alloc (o := lstObj (strsFrom s₂.toks ys) 0) (tk := s₂.toks + ys.length) rfl
  exact .mk ((g₁.trans g₂).trans g₃) r₃ (by simp only [IsT]; exact ⟨_, _, 0, rfl, Reg.put_self, are_strsFrom ys _⟩) hp'

noncomputable abbrev kLowF (Ψ : Tree → St → Prop) (σ : St) (x : Str) : Prop := Builtin.Str.tooLong (Txt.lower x).length = false ∧ Ψ (.str (Txt.lower x)) σ
noncomputable abbrev kLow (Ψ : Tree → St → Prop) (t : Tree) (σ : St) : Prop := Ex1 (kEq .str t) (kLowF Ψ σ)
/-- `x.lower()` of a written text -/
theorem EV.lower {o : Expr} {apos pos : Pos} (h : EV c o σ (kLow Ψ))
    {pl : Sem Bool} (he : eval (.Call (.Attribute o "lower" apos) [] [] pos) c.env = (do
      let ov ← eval o c.env
      standAt apos.atName
      let (f, first) ← holding [ov] (getMethod ov "lower" pl)
      callWith pos f first (backTo pos (starEach [] c.env)) []) := by rfl) : EV c (.Call (.Attribute o "lower" apos) [] [] pos) σ Ψ := .intro fun B Z s r => by
  refine MethodCall_ (h.run' r fun v s₁ Z₁ t σ₁ g₁ r₁ i₁ hpq => ?_) he
  obtain ⟨x, e', hl, hv⟩ := hpq
  subst e'
  simp only [IsT] at i₁
  obtain ⟨tk, rfl⟩ := i₁
  refine GM.lower ?_
  refine PyProof.Rows.callWith_method0 ?_
  exact SC.lower hl (.mk g₁ (r₁.toks _) (by simp only [IsT]; exact ⟨_, rfl⟩) hv)

/-! ### a letter that stands -/
theorem FN.freezeLetter {G : GS} {n : Nat} {f : Addr} {ts : List Tree} {μ : Mem} {Φ : Tree → Mem → Prop} (h : FN G n f ts μ fun t μ' => ∃ x dx u o f i q, t = .ptr x ∧ x ≠ dx ∧ μ' x = some (.inst LetterC dx) ∧
    μ' dx = some (.attrs [("uid", u), ("octets", o), ("flags", f), ("instant", i), ("modseq", q)]) ∧ Φ (.letter u o f i q) ((μ'.drop x).drop dx)) : FN G n f ts μ Φ := fun A B Z s vs hA r i => by
  refine codeAny_mono (h A B Z s vs hA r i) fun rr s₁ hpq => ?_
  obtain ⟨v, Z₁, t, μ₁, e, g₁, r₁, i₁, x, dx, u, o, f, i, q, e', hne, hx, hdx, p⟩ := hpq
  subst e e'
  simp only [IsT] at i₁
  subst i₁
  have ho := (r₁.mem _ _ hx).1
  obtain ⟨ds, n, hd, j⟩ := (r₁.mem _ _ hdx).1
  have gx := Grow.put (B := B) (o := instObj LetterC dx) (r₁.mem _ _ hx).2.2 (r₁.mem _ _ hx).2.1
  have r₂ := r₁.freeze (a := x) hx ho
  have hdx' : (μ₁.drop x) dx = some (.attrs [("uid", u), ("octets", o), ("flags", f), ("instant", i), ("modseq", q)]) := by
    unfold Mem.drop; rw [if_neg (Ne.symm hne)]; exact hdx
  have gd := Grow.put (B := B) (o := dictOf ds n) (r₂.mem _ _ hdx').2.2 (r₂.mem _ _ hdx').2.1
  have r₃ := r₂.freeze (a := dx) hdx' hd
  have jj := AttrsT.mono (gx.1.trans gd.1) _ _ j
  obtain ⟨vu, t₁, _, rfl, k1, vo, t₂, _, rfl, k2, vf, t₃, _, rfl, k3, vi, t₄, _, rfl, k4, vq, t₅, _, rfl, k5, rfl⟩ := jj
  refine ⟨_, _, _, _, rfl, (g₁.trans gx).trans gd, r₃, ?_, p⟩
  simp only [IsT]
  exact ⟨x, dx, n, t₁, t₂, t₃, t₄, t₅, vu, vo, vf, vi, vq, rfl, by rw [Reg.put_ne hne]; exact Reg.put_self, Reg.put_self, k1, k2, k3, k4, k5⟩
end

/-! ### list(zip(a, b)) -/
noncomputable abbrev ZipO (h : Heap) (z TI TO : Addr) (f0 : Value) (f1 : Bool) : Prop :=
  h.get? z = some { cls := .type "zip", dict := none, data := .fields #[f0, .bool f1, .bool false, .ref TI, .ref TO], slots := #[] }
theorem zip_len : typeLookup (.type "zip") "__len__" = pure none := by rw [typeLookup_type, builtinLookup_eq_fast]; kernel_rfl
theorem zip_hint : typeLookup (.type "zip") "__length_hint__" = pure none := by rw [typeLookup_type, builtinLookup_eq_fast]; kernel_rfl

section
variable {prog : Program} {w : World} {A : Around} {E : Value → Shared → Prop} {s : Shared}

theorem zip_not_free {z TI TO T : Addr} {f : Bool} {o : Obj} {Q : Bool → Shared → Prop} (hz : ZipO s.heap z TI TO (rawInt T) f) (hT : s.heap.get? T = some o)
    (h : ∀ h', ZipO h' z TI TO (rawInt T) true → Heap.ExtBut z s.heap h' → h'.objs.size = s.heap.objs.size → Q false { s with heap := h' }) :
    wpAny (model prog w) A (Builtin.SmallTypes.ownedTupleIsFree (.ref z)) Q E s := by
  unfold Builtin.SmallTypes.ownedTupleIsFree
  refine wpAny_bind (wpAny_field hz rfl (x := rawInt T) rfl ?_)
  show wpAny _ _ (loadIfAlive ((T : Int).toNat) >>= _) _ _ _
  rw [Int.toNat_natCast]
  refine wpAny_bind (kdx_alive hT ?_)
  simp only [Option.isNone_some, Bool.false_eq_true, if_false]
  refine wpAny_bind (wpAny_field hz rfl (x := .bool f) rfl ?_)
  cases f with
  | true =>
    rw [if_neg (by decide)]
    exact wpAny_pure (h _ hz (fun b o hb e => e) rfl)
  | false =>
    rw [if_pos (by decide)]
    refine wpAny_bind (wpAny_setField_rec hz (by simp) fun h₁ hz₁ hs₁ => ?_)
    exact wpAny_pure (h h₁ hz₁ hs₁.extBut hs₁.1)

theorem zip_next_out {z TI TO i1 i2 l1 l2 T : Addr} {f : Bool} {o : Obj} {k1 k2 : Nat} {xs ys : Array Value} {x y : Value} {Q : Value → Shared → Prop} (D : ZipApart z TI TO i1 i2 l1 l2)
    (hz : ZipO s.heap z TI TO (rawInt T) f) (hT : s.heap.get? T = some o) (hTI : IsPair s.heap TI (.ref i1) (.ref i2))
    (h1 : s.heap.IsListIter i1 l1 k1) (h2 : s.heap.IsListIter i2 l2 k2) (hl1 : s.heap.IsList l1 xs) (hl2 : s.heap.IsList l2 ys) (hx : xs[k1]? = some x) (hy : ys[k2]? = some y)
    (hQ : ∀ h', ZipO h' z TI TO (rawInt T) true → h'.IsListIter i1 l1 (k1 + 1) → h'.IsListIter i2 l2 (k2 + 1) → IsPair h' s.heap.objs.size x y → h'.objs.size = s.heap.objs.size + 1 →
      (∀ c o, c ≠ z → c ≠ i1 → c ≠ i2 → s.heap.get? c = some o → h'.get? c = some o) → Q (.ref s.heap.objs.size) { s with heap := h' }) :
    wpAny (model prog w) A (Builtin.«zip.__next__» ⟨[.ref z], []⟩) (fun fin s' => ∃ v, fin = .done (.ret v) ∧ Q v s') E s := by
  show wpAny _ _ (field (.ref z) 2 >>= _) _ _ _
  refine wpAny_bind (wpAny_field hz rfl (x := .bool false) rfl ?_)
  show wpAny _ _ (field (.ref z) 3 >>= _) _ _ _
  refine wpAny_bind (wpAny_field hz rfl (x := .ref TI) rfl ?_)
  refine wpAny_bind (wpAny_seqItems hTI rfl ?_)
  show wpAny _ _ (Builtin.SmallTypes.ownedTupleIsFree (.ref z) >>= _) _ _ _
  refine wpAny_bind (zip_not_free hz hT fun h₁ hz₁ hs₁ hsz₁ => ?_)
  simp only [Bool.false_eq_true, if_false]
  rw [← Array.forIn_toList]
  show wpAny _ _ (forIn [Value.ref i1, Value.ref i2] _ _ >>= _) _ _ _
  simp only [List.forIn_cons, List.forIn_nil]
  refine wpAny_bind (wpAny_bind (wpAny_bind (wpAny_holding ?_)))
  show wpAny _ _ (Builtin.SmallTypes.nextOf (.ref i1) >>= _) _ _ _
  refine wpAny_bind (wpAny_nextOf_list_item (h1.extBut hs₁ D.i1z) (hl1.extBut hs₁ D.l1z) hx fun h₂ h1₂ hs₂ => wpAny_pure ?_)
  refine wpAny_pure ?_
  refine wpAny_bind (wpAny_bind (wpAny_holding ?_))
  show wpAny _ _ (Builtin.SmallTypes.nextOf (.ref i2) >>= _) _ _ _
  refine wpAny_bind (wpAny_nextOf_list_item ((h2.extBut hs₁ D.i2z).extBut hs₂.extBut D.i12.symm) ((hl2.extBut hs₁ D.l2z).extBut hs₂.extBut D.l2i1) hy fun h₃ h2₃ hs₃ => wpAny_pure ?_)
  refine wpAny_pure (wpAny_pure ?_)
  refine wpAny_bind (wpAny_newTuple ?_ (by show 2 ≤ sizeLine; rw [sizeLine_eq]; omega))
  have hsz : h₃.objs.size = s.heap.objs.size := by rw [hs₃.1, hs₂.1, hsz₁]
  have hz₃ : ZipO h₃ z TI TO (rawInt T) true := hs₃.extBut _ _ D.i2z.symm (hs₂.extBut _ _ D.i1z.symm hz₁)
  have h1₃ : h₃.IsListIter i1 l1 (k1 + 1) := h1₂.extBut hs₃.extBut D.i12
  refine wpAny_pure ⟨_, rfl, ?_⟩
  show Q (.ref h₃.objs.size) _
  rw [hsz]
  have up : ∀ c o, h₃.get? c = some o → (h₃.push { cls := .type "tuple", data := .seq #[x, y] }).get? c = some o := fun c o e => Heap.get?_push_of_some _ e
  refine hQ _ (up _ _ hz₃) (h1₃.at fun o e => up _ o e) (h2₃.at fun o e => up _ o e) (by rw [← hsz]; exact Heap.get?_push_size _ rfl) (by rw [Heap.size_push, hsz]) fun c o c1 c3 c4 e => up c o (hs₃.extBut _ _ c4 (hs₂.extBut _ _ c3 (hs₁ _ _ c1 e)))

theorem zip_end_out {z TI TO i1 i2 l1 l2 T : Addr} {f : Bool} {o : Obj} {k1 : Nat} {xs : Array Value} {Q : PySem.Fin → Shared → Prop} (hh : A.handled = none) (D : ZipApart z TI TO i1 i2 l1 l2)
    (hz : ZipO s.heap z TI TO (rawInt T) f) (hT : s.heap.get? T = some o) (hTI : IsPair s.heap TI (.ref i1) (.ref i2))
    (h1 : s.heap.IsListIter i1 l1 k1) (hl1 : s.heap.IsList l1 xs) (hx : xs[k1]? = none)
    (hE : ∀ h' e, (∀ c o, c ≠ z → c ≠ i1 → s.heap.get? c = some o → h'.get? c = some o) → (∃ o, h'.get? e = some o ∧ o.cls = .type "StopIteration") → E (.ref e) { s with heap := h' }) :
    wpAny (model prog w) A (Builtin.«zip.__next__» ⟨[.ref z], []⟩) Q E s := by
  show wpAny _ _ (field (.ref z) 2 >>= _) _ _ _
  refine wpAny_bind (wpAny_field hz rfl (x := .bool false) rfl ?_)
  show wpAny _ _ (field (.ref z) 3 >>= _) _ _ _
  refine wpAny_bind (wpAny_field hz rfl (x := .ref TI) rfl ?_)
  refine wpAny_bind (wpAny_seqItems hTI rfl ?_)
  show wpAny _ _ (Builtin.SmallTypes.ownedTupleIsFree (.ref z) >>= _) _ _ _
  refine wpAny_bind (zip_not_free hz hT fun h₁ hz₁ hs₁ hsz₁ => ?_)
  simp only [Bool.false_eq_true, if_false]
  rw [← Array.forIn_toList]
  show wpAny _ _ (forIn [Value.ref i1, Value.ref i2] _ _ >>= _) _ _ _
  simp only [List.forIn_cons, List.forIn_nil]
  refine wpAny_bind (wpAny_bind (wpAny_bind (wpAny_holding ?_)))
  show wpAny _ _ (Builtin.SmallTypes.nextOf (.ref i1) >>= _) _ _ _
  refine wpAny_bind (wpAny_nextOf_list_end hh (h1.extBut hs₁ D.i1z) (hl1.extBut hs₁ D.l1z) hx fun h₂ e hs₂ he => ?_)
  exact hE h₂ e (fun c o c1 c3 x => hs₂ _ _ c3 (hs₁ _ _ c1 x)) he

/-- where the zip stands -/
noncomputable def ZSt (h : Heap) (z TI TO i1 i2 l1 l2 : Addr) (xs ys : Array Value) (i : Nat) : Prop :=
  (((∃ a b, IsPair h TO a b) ∧ IsZip h z TI TO .none) ∨ ∃ (T : Addr) (o : Obj) (f : Bool), ZipO h z TI TO (rawInt T) f ∧ h.get? T = some o ∧ T ≠ z ∧ T ≠ i1 ∧ T ≠ i2) ∧ IsPair h TI (.ref i1) (.ref i2) ∧ h.IsListIter i1 l1 i ∧ h.IsListIter i2 l2 i ∧ h.IsList l1 xs ∧ h.IsList l2 ys
theorem ZSt.keeps {h h' : Heap} {z TI TO i1 i2 l1 l2 : Addr} {xs ys : Array Value} {i : Nat} (x : ZSt h z TI TO i1 i2 l1 l2 xs ys i) {S : Addr} (hS : ∃ c a, h.get? S = some { cls := .type "list", dict := none, data := .seq a c, slots := #[] })
    (hSl : S ≠ l1 ∧ S ≠ l2) (k : ∀ b o, b ≠ S → h.get? b = some o → h'.get? b = some o) (kS : ∃ o, h'.get? S = some o) : ZSt h' z TI TO i1 i2 l1 l2 xs ys i := by
  obtain ⟨x1, x2, x3, x4, x5, x6⟩ := x
  obtain ⟨c, a, hS⟩ := hS
  have ne : ∀ b o, h.get? b = some o → o.cls ≠ .type "list" → b ≠ S := fun b o e hc q => by rw [q, hS] at e; cases e; exact hc rfl
  refine ⟨?_, k _ _ (ne _ _ x2 (by simp)) x2, ?_, ?_, ?_, ?_⟩
  · rcases x1 with ⟨⟨a, b, hp⟩, hz⟩ | ⟨T, o, f, hz, hT, t1, t2, t3⟩
    · exact .inl ⟨⟨a, b, k _ _ (ne _ _ hp (by simp)) hp⟩, k _ _ (ne _ _ hz (by simp)) hz⟩
    · refine .inr ⟨T, ?_⟩
      by_cases q : T = S
      · subst q; obtain ⟨o', ho'⟩ := kS; exact ⟨o', f, k _ _ (ne _ _ hz (by simp)) hz, ho', t1, t2, t3⟩
      · exact ⟨o, f, k _ _ (ne _ _ hz (by simp)) hz, k _ _ q hT, t1, t2, t3⟩
  · exact x3.at fun o e => k _ o (fun q => by obtain ⟨o', e', hc, _⟩ := x3; exact ne _ _ e' (by rw [hc]; simp) q) e
  · exact x4.at fun o e => k _ o (fun q => by obtain ⟨o', e', hc, _⟩ := x4; exact ne _ _ e' (by rw [hc]; simp) q) e
  · exact x5.at fun o e => k _ o hSl.1.symm e
  · exact x6.at fun o e => k _ o hSl.2.symm e

theorem ZSt.next {z TI TO i1 i2 l1 l2 : Addr} {xs ys : Array Value} {i : Nat} {x y : Value} {Q : Option Value → Shared → Prop} (D : ZipApart z TI TO i1 i2 l1 l2) (st : ZSt s.heap z TI TO i1 i2 l1 l2 xs ys i) (hx : xs[i]? = some x) (hy : ys[i]? = some y)
    (hQ : ∀ h', ZSt h' z TI TO i1 i2 l1 l2 xs ys (i + 1) → IsPair h' s.heap.objs.size x y → h'.objs.size = s.heap.objs.size + 1 → (∀ c o, c ≠ z → c ≠ TO → c ≠ i1 → c ≠ i2 → s.heap.get? c = some o → h'.get? c = some o) → Q (some (.ref s.heap.objs.size)) { s with heap := h' }) :
    wpAny (model prog w) A (pyNext (.ref z)) Q E s := by
  obtain ⟨x1, x2, x3, x4, x5, x6⟩ := st
  have lt : ∀ {c o}, s.heap.get? c = some o → s.heap.objs.size ≠ c := fun e => Nat.ne_of_gt (Heap.lt_size e)
  have li1 : s.heap.objs.size ≠ i1 := by obtain ⟨_, e, _⟩ := x3; exact lt e
  have li2 : s.heap.objs.size ≠ i2 := by obtain ⟨_, e, _⟩ := x4; exact lt e
  rcases x1 with ⟨⟨a, b, hp⟩, hz⟩ | ⟨T, o, f, hz, hT, t1, t2, t3⟩
  · refine wpAny_pyNext_zip_item D hz x2 hp x3 x4 x5 x6 hx hy fun h' a1 a2 a3 a4 a5 a6 hk => ?_
    exact hQ h' ⟨.inr ⟨_, _, false, a1, a5, lt hz, li1, li2⟩, hk _ _ D.TIz D.TITO D.TIi1 D.TIi2 x2, a3, a4, x5.at fun o e => hk _ o D.l1z D.l1TO D.l1i1 D.l1i2 e, x6.at fun o e => hk _ o D.l2z D.l2TO D.l2i1 D.l2i2 e⟩ a5 a6 hk
  · have hTy : s.TypeIs (.ref z) "zip" := ⟨_, hz, rfl⟩
    unfold pyNext
    refine wpAny_bind (wpAny_attempt (wpAny_callSpecial?_slot (name := Str.ofString "__next__") hTy F.slot_zip_next
      (wpAny_call_entry F.slot_zip_next hTy F.entry_zip_next
        (zip_next_out D hz hT x2 x3 x4 x5 x6 hx hy fun h' a1 a2 a3 a4 a5 hk => wpAny_pure ?_) (F.args_zip_next_1 _))))
    exact hQ h' ⟨.inr ⟨T, o, true, a1, hk _ _ t1 t2 t3 hT, t1, t2, t3⟩, hk _ _ D.TIz D.TIi1 D.TIi2 x2, a2, a3, x5.at fun o e => hk _ o D.l1z D.l1i1 D.l1i2 e, x6.at fun o e => hk _ o D.l2z D.l2i1 D.l2i2 e⟩ a4 a5 fun c o c1 _ c3 c4 e => hk c o c1 c3 c4 e
theorem ZSt.done {z TI TO i1 i2 l1 l2 : Addr} {xs ys : Array Value} {i : Nat} {Q : Option Value → Shared → Prop} (hh : A.handled = none) (D : ZipApart z TI TO i1 i2 l1 l2) (st : ZSt s.heap z TI TO i1 i2 l1 l2 xs ys i) (hx : xs[i]? = none)
    (hQ : ∀ h', (∀ c o, c ≠ z → c ≠ TO → c ≠ i1 → c ≠ i2 → s.heap.get? c = some o → h'.get? c = some o) → Q none { s with heap := h' }) :
    wpAny (model prog w) A (pyNext (.ref z)) Q E s := by
  obtain ⟨x1, x2, x3, x4, x5, x6⟩ := st
  rcases x1 with ⟨⟨a, b, hp⟩, hz⟩ | ⟨T, o, f, hz, hT, t1, t2, t3⟩
  · exact wpAny_pyNext_zip_end hh D hz x2 hp x3 x4 x5 x6 (.inl hx) hQ
  · have hTy : s.TypeIs (.ref z) "zip" := ⟨_, hz, rfl⟩
    unfold pyNext
    refine wpAny_bind (wpAny_attempt (wpAny_callSpecial?_slot (name := Str.ofString "__next__") hTy F.slot_zip_next
      (wpAny_call_entry F.slot_zip_next hTy F.entry_zip_next (zip_end_out hh D hz hT x2 x3 x5 hx fun h' e hk he => ?_) (F.args_zip_next_1 _))))
    obtain ⟨o, ho, hc⟩ := he
    refine wpAny_bind (wpAny_isInstance (T := "StopIteration") (b := true) ⟨o, ho, hc⟩ isSubtype_stop ?_)
    exact wpAny_pure (hQ _ fun c o c1 _ c3 _ e => hk c o c1 c3 e)

noncomputable def PairsAt (h : Heap) (as : List Addr) (xs ys : Array Value) (lo : Addr) : Prop := ∀ (j : Nat) (a : Addr), as[j]? = some a → lo < a ∧ ∃ x y, xs[j]? = some x ∧ ys[j]? = some y ∧ IsPair h a x y

theorem zip_loop {S z TI TO i1 i2 l1 l2 : Addr} {xs ys : Array Value} (hh : A.handled = none) (D : ZipApart z TI TO i1 i2 l1 l2) (hSz : S ≠ z ∧ S ≠ TI ∧ S ≠ TO ∧ S ≠ i1 ∧ S ≠ i2 ∧ S ≠ l1 ∧ S ≠ l2) (hlo : z < S ∧ TO < S ∧ i1 < S ∧ i2 < S) (hxy : xs.size = ys.size) (hn : xs.size ≤ sizeLine) (res : Value) {h₁ : Heap} {R : Result → Shared → Prop}
    (hR : ∀ h' acc c as, (∀ b o, b ≠ S → b ≠ z → b ≠ TO → b ≠ i1 → b ≠ i2 → h₁.get? b = some o → h'.get? b = some o) → h'.get? S = some { cls := .type "list", dict := none, data := .seq acc c, slots := #[] } → as.length = xs.size → PairsAt h' as xs ys S →
      acc.toList = as.map Value.ref → R (.ok (.ret res)) { s with heap := h' }) :
    ∀ (k i : Nat) (h : Heap) (c : Nat) (acc : Array Value) (as : List Addr), xs.size - i = k → i ≤ xs.size → ZSt h z TI TO i1 i2 l1 l2 xs ys i → (∀ b o, b ≠ S → b ≠ z → b ≠ TO → b ≠ i1 → b ≠ i2 → h₁.get? b = some o → h.get? b = some o) →
      h.get? S = some { cls := .type "list", dict := none, data := .seq acc c, slots := #[] } → acc.toList = as.map Value.ref → as.length = i → PairsAt h as xs ys S →
      codeAny (model prog w) A (.builtin "list.extend.loop" ⟨[.ref S, .ref z, res], []⟩) R { s with heap := h } := by
  obtain ⟨n1, n2, n3, n4, n5, n6, n7⟩ := hSz
  obtain ⟨m1, m2, m3, m4⟩ := hlo
  intro k
  induction k with
  | zero =>
    intro i h c acc as hk hi hst hkeep hS hacc hal hG
    have hin : i = xs.size := by omega
    refine codeAny_builtin PySem.F.entry_extend_loop ?_
    rw [Around.under_plainId PySem.F.plain_extend_loop _]
    show wpAny _ A.in1 (pyNext (.ref z) >>= _) _ _ _
    refine wpAny_bind (ZSt.done (s := { s with heap := h }) (A := A.in1) hh D hst (Array.getElem?_eq_none (by omega)) fun h' he => ?_)
    refine wpAny_pure (hR h' acc c as (fun b o b1 b2 b3 b4 b5 e => he b o b2 b3 b4 b5 (hkeep b o b1 b2 b3 b4 b5 e)) (he S _ n1 n3 n4 n5 hS) (by omega) (fun j a hj => ?_) hacc)
    obtain ⟨h0, x, y, h1, h2, h3⟩ := hG j a hj
    have up : ∀ q, q < S → a ≠ q := fun q hq e => absurd h0 (by rw [e]; exact Nat.lt_asymm hq)
    exact ⟨h0, x, y, h1, h2, he a _ (up _ m1) (up _ m2) (up _ m3) (up _ m4) h3⟩
  | succ k ih =>
    intro i h c acc as hk hi hst hkeep hS hacc hal hG
    have hlt : i < xs.size := by omega
    have hx := Array.getElem?_eq_getElem hlt
    have hy := Array.getElem?_eq_getElem (show i < ys.size by omega)
    have hsz : acc.size = i := by rw [← Array.length_toList, hacc, List.length_map, hal]
    have hSl : S < h.objs.size := Heap.lt_size hS
    refine codeAny_builtin PySem.F.entry_extend_loop ?_
    rw [Around.under_plainId PySem.F.plain_extend_loop _]
    show wpAny _ A.in1 (pyNext (.ref z) >>= _) _ _ _
    refine wpAny_bind (ZSt.next (s := { s with heap := h }) (A := A.in1) D hst hx hy fun h' hst' hp hz hkp => ?_)
    dsimp only at hp hz hkp ⊢
    have hS' := hkp S _ n1 n3 n4 n5 hS
    have up : ∀ b o, b ≠ S → h'.get? b = some o → (h'.update S (Obj.mapSeq (·.push (Value.ref h.objs.size)))).get? b = some o := fun b o hb e => (Heap.get?_update_other _ _ (Ne.symm hb)).trans e
    show wpAny _ A.in1 (updateSeq S (·.push (Value.ref h.objs.size)) >>= _) _ _ _
    refine wpAny_bind ?_
    have hS3 := Heap.get?_update_self (Obj.mapSeq (·.push (Value.ref h.objs.size))) hS' rfl
    refine wpAny_updateSeq hS' rfl (wpAny_pure ⟨plainId_quiet PySem.F.plain_extend_loop _, ih (i + 1) _ _ (acc.push (Value.ref h.objs.size)) (as ++ [h.objs.size]) (by omega) hlt (hst'.keeps ⟨_, _, hS'⟩ ⟨n6, n7⟩ up ⟨_, hS3⟩)
      (fun b o b1 b2 b3 b4 b5 e => up b o b1 (hkp b o b2 b3 b4 b5 (hkeep b o b1 b2 b3 b4 b5 e))) hS3 (by rw [Array.toList_push, hacc, List.map_append]; rfl) (by rw [List.length_append, hal]; rfl) ?_⟩) (by rw [hsz]; omega) (by show (acc.push (Value.ref h.objs.size)).size ≤ sizeLine + 1; rw [Array.size_push, hsz]; omega)
    intro j b hj
    rcases Nat.lt_trichotomy j as.length with h1 | h1 | h1
    · rw [List.getElem?_append_left h1] at hj
      obtain ⟨h0, x, y, e1, e2, e3⟩ := hG j b hj
      have ub : ∀ q, q < S → b ≠ q := fun q hq e => absurd h0 (by rw [e]; exact Nat.lt_asymm hq)
      exact ⟨h0, x, y, e1, e2, up b _ (Nat.ne_of_gt h0) (hkp b _ (ub _ m1) (ub _ m2) (ub _ m3) (ub _ m4) e3)⟩
    · subst h1
      have hb : h.objs.size = b := by simpa using hj
      subst hb
      exact ⟨hSl, _, _, by rw [hal]; exact hx, by rw [hal]; exact hy, up _ _ (Nat.ne_of_gt hSl) hp⟩
    · have hnone : (as ++ [h.objs.size])[j]? = none := List.getElem?_eq_none (by rw [List.length_append, List.length_singleton]; omega)
      rw [hnone] at hj; cases hj

theorem zip_list_init {z TI TO i1 i2 l1 l2 S : Addr} {xs ys : Array Value} {R : Result → Shared → Prop} (hh : A.handled = none) (D : ZipApart z TI TO i1 i2 l1 l2) (hSz : S ≠ z ∧ S ≠ TI ∧ S ≠ TO ∧ S ≠ i1 ∧ S ≠ i2 ∧ S ≠ l1 ∧ S ≠ l2) (hlo : z < S ∧ TO < S ∧ i1 < S ∧ i2 < S) (hxy : xs.size = ys.size) (hn : xs.size ≤ sizeLine)
    (hS : s.heap.get? S = some { cls := .type "list", data := .seq #[] }) (hst : ZSt s.heap z TI TO i1 i2 l1 l2 xs ys 0) (hz0 : ∃ f0, IsZip s.heap z TI TO f0)
    (hR : ∀ h' acc c as, (∀ b o, b ≠ S → b ≠ z → b ≠ TO → b ≠ i1 → b ≠ i2 → s.heap.get? b = some o → h'.get? b = some o) → h'.get? S = some { cls := .type "list", dict := none, data := .seq acc c, slots := #[] } → as.length = xs.size → PairsAt h' as xs ys S →
      acc.toList = as.map Value.ref → R (.ok (.ret .none)) { s with heap := h' }) :
    wpAny (model prog w) A.in1 (Builtin.«list.__init__» ⟨[.ref S, .ref z], []⟩)
      (fun fin s' => match fin with | .done f => R (.ok f) s' | .again c' => c'.quiet = true ∧ codeAny (model prog w) A c' R s') (fun e s' => R (.error e) s') s := by
  show wpAny _ _ (do let old ← Builtin.List.listItems (.ref S); Builtin.List.listUpdate (.ref S) (fun _ => #[]); letGo old.toList.reverse; Builtin.List.listExtendWith (.ref S) (.ref z) .none) _ _ s
  refine wpAny_bind ?_
  unfold Builtin.List.listItems
  refine wpAny_bind (wpAny_seqItems hS rfl (wpAny_pure ?_))
  show wpAny _ _ (updateSeq S (fun _ => #[]) >>= fun _ => letGo (#[] : Array Value).toList.reverse >>= fun _ => Builtin.List.listExtendWith (.ref S) (.ref z) .none) _ _ s
  refine wpAny_bind (wpAny_updateSeq hS rfl ?_)
  have hS₂ := Heap.get?_update_self (Obj.mapSeq (fun _ => (#[] : Array Value))) hS rfl
  have oth : ∀ b o, b ≠ S → s.heap.get? b = some o → (s.heap.update S (Obj.mapSeq (fun _ => (#[] : Array Value)))).get? b = some o :=
    fun b o hb e => (Heap.get?_update_other _ _ (Ne.symm hb)).trans e
  refine wpAny_bind (wpAny_letGo ?_)
  obtain ⟨f0, hz⟩ := hz0
  have hz₂ : IsZip (s.heap.update S (Obj.mapSeq (fun _ => (#[] : Array Value)))) z TI TO f0 := oth _ _ (Ne.symm hSz.1) hz
  have hst₂ := hst.keeps ⟨_, _, hS⟩ ⟨hSz.2.2.2.2.2.1, hSz.2.2.2.2.2.2⟩ oth ⟨_, hS₂⟩
  have hT : Shared.TypeIs { s with heap := s.heap.update S (Obj.mapSeq (fun _ => (#[] : Array Value))) } (.ref z) "zip" := ⟨_, hz₂, rfl⟩
  unfold Builtin.List.listExtendWith
  refine wpAny_bind (wpAny_typeOf hT ?_)
  have h1 : Builtin.List.listSameRef (.ref S) (.ref z) = false := by simp [Builtin.List.listSameRef, hSz.1]
  have h2 : (Value.type "zip" == Value.type "list") = false := by decide
  have h3 : (Value.type "zip" == Value.type "tuple") = false := by decide
  simp only [h1, h2, h3, Bool.or_false, Bool.false_eq_true, if_false]
  refine wpAny_bind (wpAny_pyIter_zip hz₂ ?_)
  refine wpAny_bind (wpAny_holding ?_)
  unfold Builtin.List.listLengthHint
  refine wpAny_bind (wpAny_specialOf hT zip_len ?_)
  show wpAny _ A.in1 (specialOf (Value.ref z) (Str.ofString "__length_hint__") >>= _) _ _ _
  refine wpAny_bind (wpAny_specialOf hT zip_hint ?_)
  refine wpAny_pure ?_
  show wpAny _ A.in1 (rule "list.extend.makes-room" >>= fun _ => Builtin.List.listTouch (.ref S) >>= fun _ =>
    again (.builtin "list.extend.loop" ⟨[.ref S, .ref z, .none], []⟩)) _ _ _
  refine wpAny_bind (wpAny_rule ?_)
  refine wpAny_bind ?_
  show wpAny _ A.in1 (updateSeq S (·.push .none) >>= fun _ => updateSeq S (·.pop)) _ _ _
  refine wpAny_bind (wpAny_updateSeq hS₂ rfl ?_)
  have hS₃ := Heap.get?_update_self (Obj.mapSeq (·.push Value.none)) hS₂ rfl
  refine wpAny_updateSeq (hz := by seq_fits) hS₃ rfl ?_
  have hS₄ := Heap.get?_update_self (Obj.mapSeq (·.pop)) hS₃ rfl
  have oth2 : ∀ b o, b ≠ S → (s.heap.update S (Obj.mapSeq (fun _ => (#[] : Array Value)))).get? b = some o → (((s.heap.update S (Obj.mapSeq (fun _ => (#[] : Array Value)))).update S (Obj.mapSeq (·.push Value.none))).update S (Obj.mapSeq (·.pop))).get? b = some o :=
    fun b o hb e => (Heap.get?_update_other _ _ (Ne.symm hb)).trans ((Heap.get?_update_other _ _ (Ne.symm hb)).trans e)
  refine wpAny_pure ⟨plainId_quiet PySem.F.plain_extend_loop _, ?_⟩
  exact zip_loop (s := s) hh D hSz hlo hxy hn .none (h₁ := s.heap) hR xs.size 0 _ _ #[] [] (Nat.sub_zero _) (Nat.zero_le _) (hst₂.keeps ⟨_, _, hS₂⟩ ⟨hSz.2.2.2.2.2.1, hSz.2.2.2.2.2.2⟩ oth2 ⟨_, hS₄⟩)
    (fun b o b1 _ _ _ _ e => oth2 b o b1 (oth b o b1 e)) hS₄ rfl rfl (fun j a hj => by simp at hj)
end

/-- objects that nothing knows yet, found -/
noncomputable def Reg.fill (Z : Reg) (h : Heap) (bs : List Addr) : Reg := fun b => if b ∈ bs then h.get? b else Z b
theorem Rep.adoptMany {c : Cx} {B Z : Reg} {σ : St} {s : Shared} {bs : List Addr} (r : Rep c B Z σ s) (p : Priv c B Z σ.μ bs) : Rep c B (Z.fill s.heap bs) σ s ∧ Grow B Z (Z.fill s.heap bs) := by
  obtain ⟨r1, m, cm, V, K⟩ := r
  have sub : Sub Z (Z.fill s.heap bs) := fun b o e => by
    unfold Reg.fill
    rw [if_neg (fun q => by rw [(p b q).2.1] at e; cases e)]; exact e
  refine ⟨⟨⟨r1.top, r1.kH, r1.kB, fun b x e => ?_, fun b mo e => ?_, r1.gens, r1.os⟩, m, cm, ⟨V.ns, V.cell, V.names, V.apart, V.ne, V.lB, ?_, V.lμ, V.cB, fun n a hm => ?_, V.cμ, V.kind, V.glob, V.blt⟩, K.mono sub⟩, sub, fun b q => ?_⟩
  · unfold Reg.fill at e
    split at e
    · exact e
    · exact r1.kZ b x e
  · obtain ⟨x, y, z⟩ := r1.mem b mo e
    refine ⟨x.mono sub fun _ q => q, y, ?_⟩
    unfold Reg.fill
    rw [if_neg (fun q => by rw [(p b q).2.2.1] at e; cases e)]; exact z
  · unfold Reg.fill
    rw [if_neg (fun q => (p _ q).2.2.2.1 rfl)]; exact V.lZ
  · unfold Reg.fill
    rw [if_neg (fun q => (p _ q).2.2.2.2 n hm)]; exact V.cZ n a hm
  · unfold Reg.fill at q
    split at q
    · rename_i hb; exact .inr (p b hb).1
    · exact .inl q

noncomputable def zipT (ts us : List Tree) : List Tree := List.zipWith (fun t u => .tup [t, u]) ts us
theorem zip_are {G : GS} {Z : Reg} {h : Heap} {bs : List Addr} (hZ : ∀ b o, h.get? b = some o → b ∈ bs → Z b = some o) : ∀ {as : List Addr} {ts us : List Tree} {vs ws : List Value}, AreT G Z ts vs → AreT G Z us ws → as.length = ts.length → us.length = ts.length → (∀ a ∈ as, a ∈ bs) →
    (∀ (j : Nat) (a : Addr), as[j]? = some a → ∃ x y, vs[j]? = some x ∧ ws[j]? = some y ∧ IsPair h a x y) → AreT G Z (zipT ts us) (as.map Value.ref)
  | [], [], [], _, _, _, _, _, _, _, _ => by simp only [zipT, List.zipWith_nil_left, List.map_nil, AreT]
  | [], _ :: _, _, _, _, _, _, h1, _, _, _ => by cases h1
  | _ :: _, [], _, _, _, _, _, h1, _, _, _ => by cases h1
  | _ :: _, _ :: _, [], _, _, _, _, _, h2, _, _ => by cases h2
  | [], [], _ :: _, _, _, _, _, _, h2, _, _ => by cases h2
  | a :: as, t :: ts, u :: us, vs, ws, i, j, h1, h2, hm, hp => by
    simp only [AreT] at i j
    obtain ⟨v, vs, rfl, iv, i⟩ := i
    obtain ⟨w, ws, rfl, iw, j⟩ := j
    obtain ⟨x, y, e1, e2, e3⟩ := hp 0 a rfl
    simp only [List.getElem?_cons_zero, Option.some.injEq] at e1 e2
    subst e1 e2
    simp only [zipT, List.zipWith_cons_cons, List.map_cons, AreT]
    refine ⟨.ref a, as.map Value.ref, rfl, ?_, zip_are hZ i j (by simpa using h1) (by simpa using h2) (fun a ha => hm a (List.mem_cons_of_mem _ ha)) fun k b hb => hp (k + 1) b (by simpa using hb)⟩
    simp only [IsT]
    exact ⟨a, _, [v, w], 0, rfl, hZ _ _ e3 (hm a (List.mem_cons_self ..)), rfl, rfl, by simp only [AreT]; exact ⟨v, _, rfl, iv, w, [], rfl, iw, rfl⟩⟩

section
variable {c : Cx} {σ : St} {Ψ : Tree → St → Prop}
noncomputable abbrev kZip (Ψ : Tree → St → Prop) (ts : List Tree) (σ : St) : Prop := ∃ t u xs ys, ts = [t, u] ∧ LstOf σ t xs ∧ LstOf σ u ys ∧ ys.length = xs.length ∧ xs.length ≤ 1000000 ∧ Ψ (.lst (zipT xs ys)) σ
theorem EV.listZip {p p₂ pos pos₂ : Pos} {e e₂ : Expr} (hh : c.A.handled = Option.none) (hx : c.env.kindOf "list" = some .globalImplicit) (hx₂ : c.env.kindOf "zip" = some .globalImplicit)
    (h : LV c pos₂ [e, e₂] σ (kZip Ψ))
    (hg : nsIn (KK c.G.w) mainGlobals "list" = some Option.none := by kernel_rfl) (hg₂ : nsIn (KK c.G.w) mainGlobals "zip" = some Option.none := by kernel_rfl)
    (he : starEach [e, e₂] c.env = (false, eval e c.env) :: starEach [e₂] c.env := by rfl) (hplain : (backTo pos₂ (starEach [e₂] c.env)).any (·.1) = false := by rfl)
    (he₁ : starEach [.Call (.Name "zip" p₂) [e, e₂] [] pos₂] c.env = (false, eval (.Call (.Name "zip" p₂) [e, e₂] [] pos₂) c.env) :: starEach [] c.env := by rfl) :
    EV c (.Call (.Name "list" p) [.Call (.Name "zip" p₂) [e, e₂] [] pos₂] [] pos) σ Ψ := .intro fun B Z s r => by
  refine wpAny_Call_Name_kw (wpAny_Name (wpAny_loadBuiltin r hx hg (v := .type "list") (by decide +kernel) (by decide) (PyProof.Rows.callWith_type1 (wpAny_items_cons ?_ he₁) he₁ rfl)) (by decide +kernel))
  refine callType (T := "zip") r hx₂ hg₂ (by decide +kernel) (by decide) (by decide +kernel) h (fun vs s₁ hpq => ?_) he hplain
  obtain ⟨Z₁, ts, σ₁, g₁, r₁, i₁, t, u, xs, ys, e', hl1, hl2, hlen, hmax, q⟩ := hpq
  subst e'
  obtain ⟨v, w, rfl, iv, iw⟩ := i₁.two'
  obtain ⟨l1, vs, rfl, j1, p1⟩ := lst_conc r₁ iv hl1
  obtain ⟨l2, ws, rfl, j2, p2⟩ := lst_conc r₁ iw hl2
  have len1 := AreT.length j1
  have len2 := AreT.length j2
  have a1 : l1 < s₁.heap.objs.size := let ⟨_, e⟩ := p1; Heap.lt_size e
  have a2 : l2 < s₁.heap.objs.size := let ⟨_, e⟩ := p2; Heap.lt_size e
  refine call_zip_2 p1.isList p2.isList fun h' hz hTI hTO hit1 hit2 hsz hk => wpAny_items_nil ?_
  have D := zipApart_new a1 a2
  generalize hN : s₁.heap.objs.size = N at *
  have hS : (h'.push { cls := .type "list", data := .seq #[] }).get? (N + 5) = some { cls := .type "list", data := .seq #[] } := by rw [← hsz]; exact Heap.get?_push_size _ rfl
  have up : ∀ b o, h'.get? b = some o → (h'.push { cls := .type "list", data := .seq #[] }).get? b = some o := fun b o e => Heap.get?_push_of_some _ e
  show wpAny _ _ (PySem.call (.type "list") [.ref (N + 4)]) _ _ { s₁ with heap := h' }
  refine callType_codes (s := { s₁ with heap := h' }) (Q₁ := fun obj s₂ => obj = .ref (N + 5) ∧ s₂ = { s₁ with heap := h'.push { cls := .type "list", data := .seq #[] } }) PySem.F.called_list (PySem.F.typeCall_list_1 _) PySem.F.entry_list_init
    (code_list_new _ ⟨by rw [← hsz], rfl⟩) fun obj s₂ h₂ => ?_
  obtain ⟨rfl, rfl⟩ := h₂
  refine ⟨⟨_, hS, rfl⟩, PySem.F.args_list_init_2 _ _, zip_list_init (s := { s₁ with heap := h'.push { cls := .type "list", data := .seq #[] } }) (S := N + 5) (xs := vs.toArray) (ys := ws.toArray) hh D ?_ ?_ ?_ ?_ hS ?_ ⟨_, up _ _ hz⟩ fun h'' acc cc as k hS' hl hG hacc => ?_⟩
  · have b1 := a1
    have b2 := a2
    exact ⟨Nat.ne_of_gt (Nat.lt_succ_self _), Nat.ne_of_gt (Nat.add_lt_add_left (by decide) N), Nat.ne_of_gt (Nat.add_lt_add_left (by decide) N), Nat.ne_of_gt (Nat.lt_add_of_pos_right (by decide)), Nat.ne_of_gt (Nat.add_lt_add_left (by decide) N), Nat.ne_of_gt (Nat.lt_add_right 5 b1), Nat.ne_of_gt (Nat.lt_add_right 5 b2)⟩
  · exact ⟨Nat.lt_succ_self _, Nat.add_lt_add_left (by decide) N, Nat.lt_add_of_pos_right (by decide), Nat.add_lt_add_left (by decide) N⟩
  · simp [len1, len2, hlen]
  · rw [List.size_toArray, sizeLine_eq, len1]; omega
  · exact ⟨.inl ⟨⟨_, _, up _ _ hTO⟩, up _ _ hz⟩, up _ _ hTI, hit1.at fun o e => up _ o e, hit2.at fun o e => up _ o e, (p1.isList.at fun o e => up _ o (hk _ o e)), (p2.isList.at fun o e => up _ o (hk _ o e))⟩
  · refine ⟨rfl, ?_⟩
    have keep : ∀ b o, s₁.heap.get? b = some o → h''.get? b = some o := fun b o e => by
      have hb : b < N := by rw [← hN]; exact Heap.lt_size e
      have ne : ∀ m, b ≠ N + m := fun m => Nat.ne_of_lt (Nat.lt_add_right m hb)
      exact k b o (ne 5) (ne 4) (ne 3) (ne 0) (ne 1) (up _ o (hk _ o e))
    have r₂ := r₁.heap (h' := h'') (tk := s₁.toks) keep
    have hbs : ∀ b ∈ (N + 5) :: as, s₁.heap.objs.size ≤ b := fun b hb => by
      rw [hN]
      rcases List.mem_cons.mp hb with rfl | hb
      · exact Nat.le_add_right _ _
      · obtain ⟨j, hj, rfl⟩ := List.getElem_of_mem hb
        have := (hG j _ (List.getElem?_eq_getElem hj)).1
        exact Nat.le_of_lt (Nat.lt_of_le_of_lt (Nat.le_add_right N 5) this)
    obtain ⟨r₃, g₃⟩ := r₂.adoptMany (bs := (N + 5) :: as) (r₁.privNew hbs)
    refine .mk (g₁.trans g₃) r₃ ?_ q
    simp only [IsT]
    have ea : acc = (as.map Value.ref).toArray := Array.toList_inj.mp (by rw [hacc])
    subst ea
    refine ⟨N + 5, as.map Value.ref, cc, rfl, ?_, ?_⟩
    · unfold Reg.fill
      rw [if_pos (List.mem_cons_self ..)]; exact hS'
    · refine zip_are (bs := (N + 5) :: as) (h := h'') (fun b o e hb => ?_) (AreT.mono g₃.1 _ _ j1) (AreT.mono g₃.1 _ _ j2) ?_ hlen (fun a ha => List.mem_cons_of_mem _ ha) fun j a hj => ?_
      · unfold Reg.fill; rw [if_pos hb]; exact e
      · rw [hl, List.size_toArray, len1]
      · obtain ⟨_, x, y, e1, e2, e3⟩ := hG j a hj
        exact ⟨x, y, by simpa using e1, by simpa using e2, e3⟩
end

theorem wpAny_sliceStepC {prog : Program} {w : World} {A : Around} {E : Value → Shared → Prop} {s : Shared} {env : Env} {value st : Expr} {lower upper : Option Expr} {p pos : Pos} {T id : String} {Q : Value → Shared → Prop}
    (hl : typeLookup (.type T) "__getitem__" = pure (some (.builtin id)))
    (h : wpAny (model prog w) A (eval value env) (fun o s₁ => wpAny (model prog w) A (eval (.Slice lower upper (some st) p) env) (fun i s₂ => s₂.TypeIs o T ∧ wpAny (model prog w) A (getItem o i) Q E s₂) E s₁) E s) :
    wpAny (model prog w) A (eval (.Subscript value (.Slice lower upper (some st) p) pos) env) Q E s := by
  rw [eval_Subscript]
  refine wpAny_bind (wpAny_mono h (fun o s₁ h₁ => wpAny_bind (wpAny_holding (wpAny_mono h₁ (fun i s₂ h₂ => wpAny_bind (wpAny_standAt ?_)) fun _ _ x => x)))
    fun _ _ x => x)
  have fin : wpAny (model prog w) A (operate [o, i] (getItem o i)) (fun r s₃ => wpAny (model prog w) A (letTemporaryGo value o r >>= fun _ => pure r) Q E s₃) E s₂ :=
    wpAny_operating (wpAny_mono h₂.2 (fun r s₃ h₃ => wpAny_bind (wpAny_letTemporaryGo (wpAny_pure h₃))) fun _ _ x => x)
  first
    | (refine wpAny_bind ?_
       rw [getitemInPython_of_ne h₂.1.not_modules]
       refine wpAny_bind (wpAny_specialOf h₂.1 hl ?_)
       first
         | exact wpAny_pure (wpAny_bind fin)
         | exact wpAny_bind (wpAny_pure (wpAny_bind fin))
         | exact wpAny_bind fin)
    | (refine wpAny_bind (wpAny_specialOf h₂.1 hl ?_)
       first
         | exact wpAny_bind (wpAny_pure (wpAny_bind fin))
         | exact wpAny_bind fin)

section
variable {c : Cx} {σ : St} {Ψ : Tree → St → Prop}
/-- a slice with a step, of any expression -/
noncomputable abbrev kSs4 (t : Tree) (kl kh : Option Int) (Ψ : Tree → St → Prop) (ks : Option Int) (σ : St) : Prop := ∃ ts, ks ≠ some 0 ∧ LstOf σ t ts ∧ ts.length ≤ 1000000 ∧ Ψ (.lst (pickT ts kl kh ks)) σ
noncomputable abbrev kSs3 (c : Cx) (st : Option Expr) (t : Tree) (kl : Option Int) (Ψ : Tree → St → Prop) (kh : Option Int) (σ : St) : Prop := PartV c st σ (kSs4 t kl kh Ψ)
noncomputable abbrev kSs2 (c : Cx) (hi st : Option Expr) (t : Tree) (Ψ : Tree → St → Prop) (kl : Option Int) (σ : St) : Prop := PartV c hi σ (kSs3 c st t kl Ψ)
noncomputable abbrev kSs1 (c : Cx) (lo hi st : Option Expr) (Ψ : Tree → St → Prop) (t : Tree) (σ : St) : Prop := PartV c lo σ (kSs2 c hi st t Ψ)
theorem EV.sliceStepC {e st : Expr} {lo hi : Option Expr} {p pos : Pos} (h : EV c e σ (kSs1 c lo hi (some st) Ψ)) :
    EV c (.Subscript e (.Slice lo hi (some st) p) pos) σ Ψ := .intro fun B Z s r =>
  wpAny_sliceStepC slot_list_getitem.lookup (h.run' r fun o s₁ Z₁ t σ₁ g₁ r₁ i₁ k => wpAny_Slice (k.run' r₁ fun vl s₂ Z₂ kl σ₂ g₂ r₂ pl k => k.run' r₂ fun vu s₃ Z₃ kh σ₃ g₃ r₃ pu k => k.run' r₃ fun vs s₄ Z₄ ks σ₄ g₄ r₄ ps ⟨ts, h0, hl, hlen, q⟩ =>
      slice_end (((g₁.trans g₂).trans g₃).trans g₄) r₄ (IsT.mono ((g₂.trans g₃).trans g₄).1 _ _ i₁) hl pl pu ps h0 hlen q))
end

/-! ### a dict display with names as keys -/
noncomputable def NamesR (G : GS) (Z : Reg) (es : List (Str × Tree)) (vs : List (Value × Value)) : Prop :=
  ∃ kvs, Carries (strKind G.prog G.w) vs kvs ∧ NamedT G Z es kvs
structure DV (c : Cx) (pos : Pos) (ks : List (Option Expr)) (vs : List Expr) (σ : St) (Ψ : List (Str × Tree) → St → Prop) : Prop where
  intro ::
  go : WV c NamesR (evalPairs (pairTrees ks vs c.env pos)) σ Ψ
section
variable {c : Cx} {σ : St} {pos : Pos}
theorem DV.nil {Ψ : List (Str × Tree) → St → Prop} (h : Ψ [] σ) : DV c pos [] [] σ Ψ := .intro fun B Z s r =>
  pairTrees_nil_walk (.here r (b := ([] : List (Str × Tree))) ⟨[], trivial, by unfold NamedT; rfl⟩ h)
noncomputable abbrev kDV2 (x : Str) (t : Tree) (Ψ : List (Str × Tree) → St → Prop) (es : List (Str × Tree)) (σ : St) : Prop := Ψ ((x, t) :: es) σ
noncomputable abbrev kDV (c : Cx) (pos : Pos) (ks : List (Option Expr)) (vs : List Expr) (x : Str) (Ψ : List (Str × Tree) → St → Prop) (t : Tree) (σ : St) : Prop := DV c pos ks vs σ (kDV2 x t Ψ)
theorem DV.cons {Ψ : List (Str × Tree) → St → Prop} {x : Str} {p : Pos} {kk} {v : Expr} {ks : List (Option Expr)} {vs : List Expr}
    (h : EV c v σ (kDV c pos ks vs x Ψ)) : DV c pos (some (.Constant (.str x) kk p) :: ks) (v :: vs) σ Ψ := .intro fun B Z s r =>
  pairTrees_cons_walk (EV.run (EV.str (Ψ := fun t σ' => t = .str x ∧ σ' = σ) ⟨rfl, rfl⟩) r fun kv s₁ hpq => by
    obtain ⟨Z₁, t₁, σ₁, g₁, r₁, i₁, e₁, e₂⟩ := hpq
    subst e₁ e₂
    simp only [IsT] at i₁
    obtain ⟨tk, rfl⟩ := i₁
    exact EV.run' h r₁ fun vv s₂ Z₂ t₂ σ₂ g₂ r₂ i₂ k => wpAny_mono (k.go _ _ _ r₂) (fun r s₃ ⟨Z₃, es, σ₃, g₃, r₃, ⟨kvs, c₃, n₃⟩, q⟩ =>
      .mk (b := (x, t₂) :: es) ((g₁.trans g₂).trans g₃) r₃ ⟨(x, vv) :: kvs, ⟨strKind_is _ _ _ _, rfl, c₃⟩, by unfold NamedT; exact ⟨_, _, rfl, IsT.mono g₃.1 _ _ i₂, n₃⟩⟩ q) fun _ _ e => e)
theorem NamedT.keys {G : GS} {Z : Reg} : ∀ {es : List (Str × Tree)} {ds : List (Str × Value)}, NamedT G Z es ds → ds.map (·.1) = es.map (·.1)
  | [], ds, i => by cases i; rfl
  | (k, t) :: es, ds, i => by obtain ⟨v, r, rfl, _, j⟩ := i; simp [j.keys]
theorem EV.dictM {Ψ : Tree → St → Prop} {ks : List (Option Expr)} {vs : List Expr}
    (h : ∀ a, σ.μ a = Option.none → DV c pos ks vs { σ with μ := σ.μ.put a (.sdct []) } fun es σ' => σ'.μ a = some (.sdct []) ∧ (es.map (·.1)).Nodup ∧ Ψ (.ptr a) { σ' with μ := σ'.μ.put a (.sdct es) })
    (hall : ks.all (·.isSome) = true := by rfl) (hl : ks.length = vs.length := by rfl) (h0 : ks ≠ [] := by nofun) (hlen : ks.length ≤ 15 := by decide) : EV c (.Dict ks vs pos) σ Ψ := .intro fun B Z s r => by
  obtain ⟨r₂, f⟩ := r.allocM (o := { cls := .type "dict", data := .dict #[] }) (mo := .sdct []) (tk := s.toks) ⟨[], Heap.DictOf.new _, r.1.not_sys, rfl⟩
  refine wpAny_Dict_walk (knd := strKind c.G.prog c.G.w) hall hl h0 hlen ?_
  refine wpAny_mono ((h _ f).go _ _ _ r₂) (fun ws s₁ hpq => ?_) fun _ _ e => e
  obtain ⟨Z₁, es, σ₁, g₁, r₁, ⟨kvs, hc, hn⟩, ha, hd, q⟩ := hpq
  obtain ⟨kv0, hd0, hs, hn0⟩ := (r₁.1.mem _ _ ha).1
  have e0 : kv0 = [] := hn0
  subst e0
  refine ⟨kvs, hc, hd0, fun h' hm hsb => ?_⟩
  rw [merged_nil_of_nodup _ (by rw [hn.keys]; exact hd)] at hm
  exact .mk g₁ (r₁.set (mo' := .sdct es) ha (fun b o hb e => (hsb.2 b hb).trans e) ⟨kvs, hm, hs, hn⟩) (by simp only [IsT]) q
end

/-! ### a slice of the list of ints that the caller laid -/
section
variable {c : Cx} {σ : St} {Ψ : Tree → St → Prop}
theorem slice_end0 {ts : List Tree} {B Z Z₁ : Reg} {s : Shared} {a : Addr} {ws : List Value} {vl vu vs : Value} {lo hi st : Option Int} (g : Grow B Z Z₁) (r : Rep c B Z₁ σ s) (hp : s.heap.IsList a ws.toArray) (j : AreT c.G Z₁ ts ws) (pl : IsPart vl lo) (pu : IsPart vu hi) (ps : IsPart vs st) (h0 : st ≠ some 0) (hlen : ts.length ≤ 1000000)
    (p : Ψ (.lst (pickT ts lo hi st)) σ) : (⟨s.heap.push { cls := .type "slice", data := .fields #[vl, vu, vs] }, s.gens, s.drawn, s.toks, s.os⟩ : Shared).TypeIs (.ref a) "list" ∧
      wpAny (model c.G.prog c.G.w) c.A (getItem (.ref a) (.ref s.heap.objs.size)) (Post c B Z IsT Ψ) (fun _ _ => False) { s with heap := s.heap.push { cls := .type "slice", data := .fields #[vl, vu, vs] } } := by
  have hlw := AreT.length j
  have hp' : (s.heap.push { cls := .type "slice", data := .fields #[vl, vu, vs] }).IsList a ws.toArray := hp.push _
  have r₁ := r.heap (tk := s.toks) (h' := s.heap.push { cls := .type "slice", data := .fields #[vl, vu, vs] }) fun b o e => Heap.get?_push_of_some _ e
  refine ⟨hp'.typeIs, wpAny_getItem_list_slice hp' (Heap.IsSliceOf.new ..) pl pu ps h0 ?_ (by rw [sizeLine_eq, List.size_toArray, hlw]; omega)⟩
  rw [slicePick_pick]
  obtain ⟨r₂, g₂⟩ := r₁.alloc (o := lstObj (pickT ws lo hi st) 0) (tk := s.toks) rfl
  refine .mk (g.trans g₂) r₂ ?_ p
  simp only [IsT]
  refine ⟨_, _, 0, rfl, Reg.put_self, ?_⟩
  have := AreT.mono g₂.1 _ _ (AreT.pick j (sliceRange (sliceBounds lo hi st ts.length).1 (sliceBounds lo hi st ts.length).2.1 (sliceBounds lo hi st ts.length).2.2))
  have e : pickT ws lo hi st = (sliceRange (sliceBounds lo hi st ts.length).1 (sliceBounds lo hi st ts.length).2.1 (sliceBounds lo hi st ts.length).2.2).filterMap (ws[·]?) := by unfold pickT; rw [hlw]
  rw [← e] at this
  exact this

noncomputable abbrev kSh3 (ns : List Int) (kl : Option Int) (Ψ : Tree → St → Prop) (kh : Option Int) (σ : St) : Prop := ns.length ≤ 1000000 ∧ Ψ (.lst (intsT (pickT ns kl kh Option.none))) σ
noncomputable abbrev kSh2 (c : Cx) (hi : Option Expr) (ns : List Int) (Ψ : Tree → St → Prop) (kl : Option Int) (σ : St) : Prop := PartV c hi σ (kSh3 ns kl Ψ)
noncomputable abbrev kSh1 (c : Cx) (lo hi : Option Expr) (a : Addr) (ns : List Int) (Ψ : Tree → St → Prop) (t : Tree) (σ : St) : Prop := t = .ptr a ∧ PartV c lo σ (kSh2 c hi ns Ψ)
theorem EV.sliceH {e : Expr} {lo hi : Option Expr} {p pos : Pos} {a : Addr} {ws : List Value} {ns : List Int} (hL : c.G.h₁.IsList a ws.toArray) (hI : IntsAre ws ns)
    (h : EV c e σ (kSh1 c lo hi a ns Ψ))
    (ht : ∀ o r, letTemporaryGo e o r = pure () := by intro _ _; rfl) : EV c (.Subscript e (.Slice lo hi Option.none p) pos) σ Ψ := .intro fun B Z s r =>
  wpAny_Subscript_Slice slot_list_getitem.lookup (h.run' r fun o s₁ Z₁ t σ₁ g₁ r₁ i₁ ⟨e, k⟩ => wpAny_Slice (k.run' r₁ fun vl s₂ Z₂ kl σ₂ g₂ r₂ pl k =>
    k.run' r₂ fun vu s₃ Z₃ kh σ₃ g₃ r₃ pu ⟨hlen, q⟩ => wpAny_pure (by
      subst e
      simp only [IsT] at i₁
      subst i₁
      obtain ⟨ob, ho, hb⟩ := hL
      refine slice_end0 (ws := ws) (ts := intsT ns) ((g₁.trans g₂).trans g₃) r₃ ⟨ob, r₃.1.kB _ _ (r₃.1.kH _ _ ho), hb⟩ (are_ints hI) pl pu .none nofun (by rw [intsT, List.length_map]; exact hlen) ?_
      have e2 : pickT (intsT ns) kl kh Option.none = intsT (pickT ns kl kh Option.none) := by
        unfold pickT intsT
        rw [List.length_map, List.map_filterMap]
        congr 1
        funext i
        rw [List.getElem?_map]
      rw [e2]; exact q))) ht
end

structure BX where
  next : Int
  top : Int
  floor : Int
  lx : Addr
  gone : List (Int × Int)
noncomputable def pairT (p : Int × Int) : Tree := .tup [.int p.1, .int p.2]
noncomputable def boxA (b : BX) : List (Str × Tree) := [("name", .str "box"), ("validity", .int 9), ("next_uid", .int b.next), ("top", .int b.top), ("floor", .int b.floor), ("letters", .ptr b.lx), ("gone", .lst (b.gone.map pairT))]
theorem putA_top {b : BX} {t : Int} : putA "top" (.int t) (boxA b) = boxA { b with top := t } := rfl
theorem putA_next {b : BX} {t : Int} : putA "next_uid" (.int t) (boxA b) = boxA { b with next := t } := rfl
theorem putA_floor {b : BX} {t : Int} : putA "floor" (.int t) (boxA b) = boxA { b with floor := t } := rfl
theorem putA_letters {b : BX} {t : Addr} : putA "letters" (.ptr t) (boxA b) = boxA { b with lx := t } := rfl
theorem putA_gone {b : BX} {t : List (Int × Int)} : putA "gone" (.lst (t.map pairT)) (boxA b) = boxA { b with gone := t } := rfl

section
variable {c : Cx} {σ : St} {Φ : FlT → St → Prop}
inductive SetB (σ : St) (ot : Tree) (name : Str) (t : Tree) (F : Addr → BX → Prop) : Prop
  | mk (x dx : Addr) (b b' : BX) (e : ot = .ptr x) (h₁ : σ.μ x = some (.inst BoxC dx)) (h₂ : σ.μ dx = some (.attrs (boxA b))) (h₃ : putA name t (boxA b) = boxA b') (f : F dx b')
noncomputable abbrev kSetBF (Φ : FlT → St → Prop) (σ : St) (dx : Addr) (b : BX) : Prop := Φ .next { σ with μ := σ.μ.put dx (.attrs (boxA b)) }
noncomputable abbrev kSetB (name : Str) (Φ : FlT → St → Prop) (t ot : Tree) (σ : St) : Prop := SetB σ ot name t (kSetBF Φ σ)
theorem XV.setBox {o e : Expr} {name : Str} {p pos : Pos} (h : EV c e σ (kTwo c o (kSetB name Φ)))
    (hf : findIn (KK c.G.w) (.ref BoxC) name = some none := by kernel_rfl)
    (hs : swapsWith e (some (.Attribute o name p)) pos.line c.env = pure false := by rfl) : XV c (.Assign [.Attribute o name p] e pos) σ Φ :=
  XV.setAttr (h.mono fun t σ₁ k => k.mono fun ot σ₂ hpq => by obtain ⟨x, dx, b, b', e, h1, h2, h3, h4⟩ := hpq; exact ⟨x, BoxC, dx, _, e, h1, h2, cls_box _, hf, by rw [h3]; exact Nat.le_of_ble_eq_true rfl, by rw [h3]; exact h4⟩) hs
end
structure LT where
  uid : Int
  flags : List Str
  inst : Int
  modseq : Int
noncomputable def flagsT (l : List Str) : Tree := .tup (l.map .str)
noncomputable def letT (l : LT) : Tree := .letter (.int l.uid) (.bytes #[121]) (flagsT l.flags) (.int l.inst) (.int l.modseq)
noncomputable def toldT (l : LT) : Tree := .tup [.int l.uid, .bytes #[121], flagsT l.flags, .int l.inst, .int l.modseq]

/-! ### what the law holds -/
structure PS where
  ls : List LT
  next : Int
  top : Int
  floor : Int
  gone : List (Int × Int)
  all : List (Int × Int)
noncomputable def PS.box (P : PS) (lx : Addr) : BX := ⟨P.next, P.top, P.floor, lx, P.gone⟩
noncomputable def heldD (P : PS) (rx : Addr) : List (Str × Tree) := [("next", .int P.next), ("top", .int P.top), ("floor", .int P.floor), ("rows", .ptr rx), ("gone", .lst (P.gone.map pairT)), ("all", .lst (P.all.map pairT))]
noncomputable def rowT (l : LT) : List Tree := [.int l.uid, flagsT l.flags, .int l.modseq]

section
variable {c : Cx} {σ : St} {P : PS} {hx rx a : Addr}
theorem held_next : kget (heldD P rx) ("next" : Str) = some (.int P.next) := by kernel_rfl
theorem held_top : kget (heldD P rx) ("top" : Str) = some (.int P.top) := by kernel_rfl
theorem held_floor : kget (heldD P rx) ("floor" : Str) = some (.int P.floor) := by kernel_rfl
theorem held_rows : kget (heldD P rx) ("rows" : Str) = some (.ptr rx) := by kernel_rfl
theorem held_gone : kget (heldD P rx) ("gone" : Str) = some (.lst (P.gone.map pairT)) := by kernel_rfl
theorem held_all : kget (heldD P rx) ("all" : Str) = some (.lst (P.all.map pairT)) := by kernel_rfl
theorem put_next {i : Int} : kput (heldD P rx) ("next" : Str) (.int i) = heldD { P with next := i } rx := by kernel_rfl
theorem put_top {i : Int} : kput (heldD P rx) ("top" : Str) (.int i) = heldD { P with top := i } rx := by kernel_rfl
theorem put_floor {i : Int} : kput (heldD P rx) ("floor" : Str) (.int i) = heldD { P with floor := i } rx := by kernel_rfl
theorem put_rows {i : Addr} : kput (heldD P rx) ("rows" : Str) (.ptr i) = heldD P i := by kernel_rfl
theorem put_gone {g : List (Int × Int)} : kput (heldD P rx) ("gone" : Str) (.lst (g.map pairT)) = heldD { P with gone := g } rx := by kernel_rfl
theorem put_all {g : List (Int × Int)} : kput (heldD P rx) ("all" : Str) (.lst (g.map pairT)) = heldD { P with all := g } rx := by kernel_rfl
theorem held_len : (heldD P rx).length ≤ 1000000 := Nat.le_of_ble_eq_true rfl
theorem PutK.held {P' : PS} {rx' : Addr} {k : Str} {t : Tree} (h : σ.μ hx = some (.sdct (heldD P rx))) (e : kput (heldD P rx) k t = heldD P' rx') : PutK c σ hx (.str k) t (.sdct (heldD P' rx')) := by rw [← e]; exact PutK.sdct h held_len

theorem GK.row0 {t : Tree} {ts : List Tree} (h : σ.μ a = some (.lst (t :: ts))) (hl : ts.length ≤ 10 := by exact Nat.le_of_ble_eq_true rfl) : GK c σ (.ptr a) (.int 0) t := GK.seq (j := 0) (.inr (.inr ⟨_, rfl, h⟩)) (.inl ⟨by decide, rfl⟩) rfl (by rw [List.length_cons]; omega)
theorem GK.row1 {t u : Tree} {ts : List Tree} (h : σ.μ a = some (.lst (t :: u :: ts))) (hl : ts.length ≤ 10 := by exact Nat.le_of_ble_eq_true rfl) : GK c σ (.ptr a) (.int 1) u := GK.seq (j := 1) (.inr (.inr ⟨_, rfl, h⟩)) (.inl ⟨by decide, rfl⟩) rfl (by rw [List.length_cons, List.length_cons]; omega)
theorem GK.row2 {t u v : Tree} {ts : List Tree} (h : σ.μ a = some (.lst (t :: u :: v :: ts))) (hl : ts.length ≤ 10 := by exact Nat.le_of_ble_eq_true rfl) : GK c σ (.ptr a) (.int 2) v := GK.seq (j := 2) (.inr (.inr ⟨_, rfl, h⟩)) (.inl ⟨by decide, rfl⟩) rfl (by rw [List.length_cons, List.length_cons, List.length_cons]; omega)
end
noncomputable def Has (ρ : Str → Option Tree) : List (Str × Tree) → Prop
  | [] => True
  | (x, t) :: L => ρ x = some t ∧ Has ρ L
theorem Has.nil {ρ : Str → Option Tree} : Has ρ [] := trivial
theorem upd_at {ρ : Str → Option Tree} {x : Str} {t t' : Tree} (e : t = t') : upd ρ x t x = some t' := by rw [e]; exact upd_self
theorem Has.look {ρ : Str → Option Tree} {x : Str} {t : Tree} {L : List (Str × Tree)} (h : Has ρ L) (e : L.lookup x = some t) : ρ x = some t := by
  induction L with
  | nil => cases e
  | cons a L ih =>
    rw [List.lookup_cons] at e
    split at e
    · rename_i q
      cases e
      rw [show x = a.1 by simpa using q]; exact h.1
    · exact ih h.2 e
theorem Has.cons {ρ : Str → Option Tree} {x : Str} {t : Tree} {L : List (Str × Tree)} (h : ρ x = some t) (r : Has ρ L) : Has ρ ((x, t) :: L) := ⟨h, r⟩
theorem GK.cast {c : Cx} {σ : St} {t u : Tree} {i j : Int} (e : i = j) (h : GK c σ t (.int j) u) : GK c σ t (.int i) u := e ▸ h
theorem CompK.cast {c : Cx} {scope : Scope} {tg elt : Expr} {ifs : List Expr} {Ω : St → List Tree → Mem → Prop} {ts ts' : List Tree} {keep : Mem → Prop} {σ₁ : St} (e : ts = ts') (h : CompK c scope tg ifs elt Ω ts' keep σ₁) : CompK c scope tg ifs elt Ω ts keep σ₁ := e ▸ h
theorem Loop.cast {c : Cx} {tg : Expr} {body : List Stmt} {keep : Mem → Prop} {Φ : FlT → St → Prop} {ts ts' : List Tree} {σ : St} (e : ts = ts') (h : Loop c tg body keep Φ ts' σ) : Loop c tg body keep Φ ts σ := e ▸ h
set_option compiler.extract_closed false
local macro_rules | `(tactic| ktf_call ($p, $t)) => `(tactic| ((with_reducible show $p); refine $t))
local macro_rules | `(tactic| ktf_call ($p, [$xs,*])) => `(tactic| ((with_reducible show $p); ktf_call [$xs,*]))
local macro_rules | `(tactic| ktf_call [$x]) => `(tactic| refine $x ?_)
local macro_rules | `(tactic| ktf_call [$x, $xs,*]) => `(tactic| first | refine $x ?_ | ktf_call [$xs,*])
local macro_rules | `(tactic| ktf_call ⟨$x⟩) => `(tactic| exact $x)
local macro_rules | `(tactic| ktf_call ⟨$x, $xs,*⟩) => `(tactic| first | exact $x | ktf_call ⟨$xs,*⟩)
local macro_rules | `(tactic| ktf_call "lk") => `(tactic| first
  | ((with_reducible refine upd_at ?e); (case e => exact rfl))
  | assumption
  | ((with_reducible refine upd_next ?_ ?e); (case e => kernel_rfl!); ktf_call "lk")
  | exact Has.look (by assumption) (by exact rfl)
  | rfl)
local macro_rules | `(tactic| ktf_call "has") => `(tactic| ((repeat (refine Has.cons (by ktf_call "lk") ?_)); exact Has.nil))
local macro_rules | `(tactic| ktf_call "mm") => `(tactic| first
  | assumption
  | exact Mem.put_self
  | (refine (Mem.put_ne ?_).trans ?_; (first | assumption | (apply Ne.symm; assumption)); ktf_call "mm"))
local macro_rules | `(tactic| ktf_call "seq") => `(tactic| ktf_call ⟨.inl rfl, .inr (.inl rfl), .inr (.inr ⟨_, rfl, by ktf_call "mm"⟩), .inr ⟨_, rfl, by ktf_call "mm"⟩⟩)
local macro_rules | `(tactic| ktf_call "len") => `(tactic| first
  | exact Nat.le_of_ble_eq_true rfl
  | assumption
  | omega
  | ((try simp only [List.length_map, List.length_append, List.length_cons, List.length_nil]); omega))
local macro_rules | `(tactic| ktf_call "st") => `(tactic| ktf_call ⟨stores_local (by kernel_rfl!), stores_cell (by kernel_rfl!), .inl rfl⟩)
local macro_rules | `(tactic| ktf_call "ck") => `(tactic| ktf_call ⟨CK.eq, CK.ne, CK.eq_str, CK.eq_bool, CK.ne_bool, CK.lt, CK.le, CK.gt, CK.ge, CK.is_none rfl, CK.is_not_none rfl⟩)
local macro_rules | `(tactic| ktf_call "gk") => `(tactic| first
  | ((with_reducible show GK _ _ _ (Tree.int _) _); ktf_call ⟨GK.tup0, GK.tup1, GK.row0 (by ktf_call "mm"), GK.row1 (by ktf_call "mm"), GK.row2 (by ktf_call "mm")⟩)
  | exact GK.sdct (by ktf_call "mm") (by with_reducible ktf_call ⟨held_next, held_top, held_floor, held_rows, held_gone, held_all⟩))
local macro_rules | `(tactic| ktf_call "ex") => `(tactic| first
  | ktf_call (Ex1 (CK _ _ _ _ _) _, ⟨_, by ktf_call "ck", ?_⟩)
  | ktf_call (Ex1 (AttrOf _ _ _ _) _, ⟨_, AttrOf.letter rfl, rfl, ?_⟩)
  | ktf_call (Ex1 (AttrOf _ _ _ _) _, ⟨_, AttrOf.box (by ktf_call "mm") (by ktf_call "mm") rfl, rfl, ?_⟩)
  | ktf_call (Ex1 (GK _ _ _ _) _, ⟨_, by ktf_call "gk", ?_⟩)
  | ktf_call (PutAt _ _ _ (Tree.str _) _ _, ⟨_, _, _, rfl, by ktf_call "mm", PutK.held (by ktf_call "mm") (by with_reducible ktf_call ⟨put_next, put_top, put_floor, put_rows, put_gone, put_all⟩), ?_⟩)
  | ktf_call (Ints _ _ _, ⟨_, _, rfl, rfl, by decide, by decide, ?_⟩)
  | ktf_call (Ints _ _ _, ⟨_, _, rfl, rfl, by decide, ?_⟩)
  | ktf_call (Ints _ _ _, ⟨_, _, rfl, rfl, ?_⟩)
  | ktf_call (Arg1 _ _ _, ⟨_, _, rfl, by ktf_call "seq", by ktf_call "len", ?_⟩)
  | ktf_call (Tup2 _ _, ⟨_, _, rfl, ?_⟩)
  | ktf_call (Ex1 (kEq _ _) _, ⟨_, rfl, ?_⟩)
  | ktf_call (SetB _ _ _ _ _, ⟨_, _, _, _, rfl, by ktf_call "mm", by ktf_call "mm", by ktf_call ⟨putA_top, putA_next, putA_floor, putA_letters, putA_gone⟩, ?_⟩)
  | ktf_call (∃ _ _, _ = _ ∧ _, ⟨_, _, rfl, ?_⟩)
  | ktf_call (∃ _, _ = _ ∧ _, ⟨_, rfl, ?_⟩))
local macro_rules | `(tactic| ktf_call "go1") => `(tactic| first
  | ktf_call (EV _ _ _ _, [EV.var (by ktf_call "lk"), EV.int, EV.str, EV.none, EV.bool, EV.bytes])
  | ktf_call (EV _ (Expr.BinOp _ _ (Expr.ListComp _ _ _ _) _) _ _, [EV.addL])
  | ktf_call (EV _ (Expr.BinOp _ _ (Expr.List _ _) _) _ _, [EV.addL])
  | ktf_call (EV _ (Expr.Call (Expr.Name "len" _) _ _ _) _ _, [EV.cLen])
  | ktf_call (EV _ (Expr.Call (Expr.Name "min" _) _ _ _) _ _, [EV.cMin (by assumption)])
  | ktf_call (EV _ (Expr.Call (Expr.Name "max" _) [_, _] _ _) _ _, [EV.cMax (by assumption)])
  | ktf_call (EV _ (Expr.Call (Expr.Attribute _ "lower" _) [] _ _) _ _, [EV.lower])
  | ktf_call (EV _ _ _ _, [EV.add, EV.sub, EV.mod, EV.fdiv, EV.pow2, EV.attr, EV.cmp, EV.ifexp, EV.boolop, EV.tuple, EV.neg, EV.sliceStepC, EV.slice, EV.item])
  | ktf_call "ex"
  | ktf_call (SV _ _ _ _, [SV.nil, SV.cons])
  | ktf_call (XV _ _ _ _, [XV.ret, XV.ret_none, XV.ite])
  | ktf_call (XV _ _ _ _, XV.assign ?_ (by ktf_call "st"))
  | ktf_call (XV _ _ _ _, [XV.setBox])
  | ((with_reducible show XV _ _ _ _); refine XV.swap2 ?hh ?_ ?hx ?hy; (case hh => assumption); (case hx => ktf_call "st"); (case hy => ktf_call "st"))
  | ktf_call (XV _ _ _ _, [XV.assignT])
  | ktf_call (LV _ _ _ _ _, [LV.cons, LV.nil])
  | ktf_call (TV _ _ _ _, [TV.cmp, TV.chain2, TV.not, TV.boolop, TV.val])
  | ktf_call (List.length _ ≤ 1000 ∧ _, ⟨by ktf_call "len", ?_⟩)
  | ktf_call (GV _ _ _ _ _, [GV.name (by ktf_call "st")])
  | ktf_call (GV _ _ _ _ _, GV.tuple (by assumption) ?_ rfl)
  | ktf_call (GV _ _ _ _ _, [GV.item])
  | ktf_call (OV _ _ _ _ _, [OV.cons, OV.nil])
  | ktf_call (PartV _ _ _ _, [PartV.none, PartV.some])
  | ktf_call (AV _ _ _ _ _, [AV.and, AV.or, AV.and_nil, AV.or_nil])
  | ktf_call (BV _ _ _ _ _ _, [BV.and, BV.last]))
local macro_rules | `(tactic| ktf_call "goS") => `(tactic| repeat' (first
  | ktf_call (if decide _ = true then _ else _, ite_dec (fun _ => ?_) (fun _ => ?_))
  | ktf_call (if (!decide _) = true then _ else _, ite_ndec (fun _ => ?_) (fun _ => ?_))
  | ktf_call (if _ = true then _ else _, [ite_t rfl, ite_f rfl])
  | ktf_call "go1"))
local macro_rules | `(tactic| ktf_call "go") => `(tactic| repeat (ktf_call "go1"))

section
variable {G : GS} {μ : Mem} {bx dx : Addr} {b : BX}
theorem fn_is_forgotten {q : Int} (h1 : μ bx = some (.inst BoxC dx)) (h2 : μ dx = some (.attrs (boxA b))) : PF G 1 235 [.ptr bx, .int q] μ (.bool (decide (q < b.floor))) := by
  refine FN.pureOf (ns := ["box", "modseq"]) fun A L hr => ?_
  ktf_call "go"
  exact ⟨rfl, .refl _⟩

theorem fn_raised (h1 : μ bx = some (.inst BoxC dx)) (h2 : μ dx = some (.attrs (boxA b))) : FN G 1 176 [.ptr bx] μ fun t μ' => t = .int (b.top + 1) ∧ μ' = μ.put dx (.attrs (boxA { b with top := b.top + 1 })) := by
  refine FN.letOf (ns := ["box"]) fun A L hr => ?_
  have hne : dx ≠ bx := Mem.ne_of2 h2 h1 nofun
  ktf_call "go"
  exact ⟨_, .refl _, rfl, rfl⟩

/-- what ends_of gives -/
noncomputable def endsOf (lo hi g : Int) : Option (Int × Int) :=
  if g = 0 ∧ (lo = 0 ∨ hi = 0) then none else
    some (min (if lo = 0 then g else lo) (if hi = 0 then g else hi), max (if lo = 0 then g else lo) (if hi = 0 then g else hi))
noncomputable def optPairT : Option (Int × Int) → Tree
  | none => .none
  | some p => pairT p
theorem fn_ends_of {lo hi g : Int} : PF G 1 202 [.tup [.int lo, .int hi], .int g] μ (optPairT (endsOf lo hi g)) := by
  refine FN.pureOf (ns := ["pair", "greatest"]) fun A L hr => ?_
  have hh := hr.1
  ktf_call "goS"
  all_goals refine ⟨?_, .refl _⟩
  all_goals (unfold endsOf; first | (exfalso; omega) | simp [*, optPairT, pairT])

theorem fn_told {l : LT} : PF G 1 110 [letT l] μ (toldT l) := by
  refine FN.pureOf (ns := ["self"]) fun A L hr => ?_
  ktf_call "goS"
  exact ⟨rfl, .refl _⟩
end

noncomputable def Asc (ls : List LT) : Prop := ls.Pairwise fun a b => a.uid < b.uid
/-- the place of a uid, or -1 -/
noncomputable def placeOf (ls : List LT) (u : Int) : Int := match ls.findIdx? (fun l => decide (l.uid = u)) with
  | some i => i
  | none => -1

theorem placeOf_at {ls : List LT} (ha : Asc ls) {u : Int} {i : Nat} {l : LT} (h : ls[i]? = some l) (hu : l.uid = u) : placeOf ls u = i := by
  have hi : i < ls.length := (List.getElem?_eq_some_iff.mp h).1
  have hl : ls[i] = l := (List.getElem?_eq_some_iff.mp h).2
  unfold placeOf
  have : ls.findIdx? (fun l => decide (l.uid = u)) = some i := by
    rw [List.findIdx?_eq_some_iff_getElem]
    refine ⟨hi, by simp [hl, hu], fun j hj => ?_⟩
    have := List.pairwise_iff_getElem.mp ha j i (by omega) hi hj
    simp; rw [hl] at this; omega
  rw [this]
theorem placeOf_none {ls : List LT} {u : Int} (h : ∀ l ∈ ls, l.uid ≠ u) : placeOf ls u = -1 := by
  unfold placeOf
  have : ls.findIdx? (fun l => decide (l.uid = u)) = none := by
    rw [List.findIdx?_eq_none_iff]; intro l hl; simpa using h l hl
  rw [this]

section
variable {G : GS} {μ : Mem} {bx dx lx : Addr} {b : BX} {ls : List LT}

theorem fn_place_of {u : Int} (hl : μ lx = some (.lst (ls.map letT))) (ha : Asc ls) (hn : ls.length ≤ 1000) : PF G 1 162 [.ptr lx, .int u] μ (.int (placeOf ls u)) := by
  refine FN.pureOf (ns := ["letters", "uid"]) fun A L hr => ?_
  have hh := hr.1
  ktf_call "go"
  refine XV.while (fun n σ => ∃ lo hi : Nat, n = hi - lo ∧ lo ≤ hi ∧ hi ≤ ls.length ∧ (∀ i l, ls[i]? = some l → i < lo → l.uid < u) ∧ (∀ i l, ls[i]? = some l → hi ≤ i → u ≤ l.uid) ∧
    σ.ρ "low" = some (.int lo) ∧ σ.ρ "high" = some (.int hi) ∧ σ.ρ "letters" = some (.ptr lx) ∧ σ.ρ "uid" = some (.int u) ∧ σ.μ = μ) (ls.length - 0) ?_ ?_
  · refine ⟨0, ls.length, rfl, by omega, by omega, fun _ _ _ h => by omega, fun i l h h' => ?_, by ktf_call "lk", ?_, by ktf_call "lk", by ktf_call "lk", rfl⟩
    · have := (List.getElem?_eq_some_iff.mp h).1; omega
    · show _ = some (Tree.int _)
      rw [← List.length_map (f := letT) (as := ls)]; ktf_call "lk"
  rintro n ⟨ρ, μ'⟩ ⟨lo, hi, rfl, h1, h2, h3, h4, h5, h6, h7, h8, h9⟩
  dsimp only at h5 h6 h7 h8 h9
  subst h9
  ktf_call "goS"
  · rename_i hlt
    have hlt' : lo < hi := by omega
    have em : Int.fdiv ((lo : Int) + hi) 2 = ((lo + hi) / 2 : Nat) := by
      rw [Int.fdiv_eq_ediv_of_nonneg _ (by omega)]; omega
    rw [em]
    have hm : (lo + hi) / 2 < ls.length := by omega
    generalize hmid : (lo + hi) / 2 = m at *
    have hm1 : lo ≤ m := by omega
    have hm2 : m < hi := by omega
    obtain ⟨l, hml⟩ : ∃ l, ls[m]? = some l := ⟨_, List.getElem?_eq_getElem hm⟩
    have asc := fun i j (x y : LT) (hij : i < j) (hi : ls[i]? = some x) (hj : ls[j]? = some y) => by
      have a1 := (List.getElem?_eq_some_iff.mp hi)
      have a2 := (List.getElem?_eq_some_iff.mp hj)
      have := List.pairwise_iff_getElem.mp ha i j a1.1 a2.1 hij
      rw [a1.2, a2.2] at this; exact this
    refine ⟨letT l, GK.seq (ts := ls.map letT) (j := m) (.inr (.inr ⟨_, rfl, hl⟩)) (.inl ⟨by omega, by simp⟩) (by simp [hml]) (by simp; omega), ?_⟩
    ktf_call "goS"
    · rename_i hlu
      refine ⟨hi - (m + 1), by omega, m + 1, hi, rfl, by omega, by omega, fun i x h hi' => ?_, h4, by ktf_call "lk", by ktf_call "lk", by ktf_call "lk", by ktf_call "lk", rfl⟩
      rcases Nat.lt_or_ge i m with q | q
      · have := asc _ _ _ _ q h hml; omega
      · have : i = m := by omega
        subst this; rw [h] at hml; cases hml; exact hlu
    · rename_i hlu
      refine ⟨m - lo, by omega, lo, m, rfl, by omega, by omega, h3, fun i x h hi' => ?_, by ktf_call "lk", by ktf_call "lk", by ktf_call "lk", by ktf_call "lk", rfl⟩
      rcases Nat.lt_or_ge m i with q | q
      · have := asc _ _ _ _ q hml h; omega
      · have : i = m := by omega
        subst this; rw [h] at hml; cases hml; omega
  · rename_i hge hlt
    rw [List.length_map] at hlt
    have e : lo = hi := by omega
    subst e
    have hm : lo < ls.length := by omega
    obtain ⟨l, hml⟩ : ∃ l, ls[lo]? = some l := ⟨_, List.getElem?_eq_getElem hm⟩
    refine ⟨letT l, GK.seq (ts := ls.map letT) (j := lo) (.inr (.inr ⟨_, rfl, hl⟩)) (.inl ⟨by omega, by simp⟩) (by simp [hml]) (by simp; omega), ?_⟩
    ktf_call "goS"
    · rename_i hu
      exact ⟨by rw [placeOf_at ha hml hu], .refl _⟩
    · rename_i hu
      have key : ∀ x ∈ ls, x.uid ≠ u := fun x hx => ?_
      · exact ⟨by rw [placeOf_none key], .refl _⟩
      obtain ⟨i, hi, rfl⟩ := List.getElem_of_mem hx
      have hx' := List.getElem?_eq_getElem hi
      rcases Nat.lt_trichotomy i lo with q | q | q
      · have := h3 i _ hx' q; omega
      · subst q; rw [hx'] at hml; cases hml; exact hu
      · have a1 := (List.getElem?_eq_some_iff.mp hml)
        have := List.pairwise_iff_getElem.mp ha lo i hm hi q
        rw [a1.2] at this
        have := h4 lo l hml (Nat.le_refl _)
        omega
  · rename_i hge hlt
    rw [List.length_map] at hlt
    have key : ∀ x ∈ ls, x.uid ≠ u := fun x hx => ?_
    · exact ⟨by rw [placeOf_none key], .refl _⟩
    obtain ⟨i, hi, rfl⟩ := List.getElem_of_mem hx
    have hx' := List.getElem?_eq_getElem hi
    have := h3 i _ hx' (by omega); omega

theorem fn_number_in {u : Int} (h1 : μ bx = some (.inst BoxC dx)) (h2 : μ dx = some (.attrs (boxA b))) (hl : μ b.lx = some (.lst (ls.map letT))) (ha : Asc ls) (hn : ls.length ≤ 1000) :
    PF G 2 169 [.ptr bx, .int u] μ (.int (placeOf ls u + 1)) := by
  refine FN.pureOf (ns := ["box", "uid"]) fun A L hr => ?_
  have hh := hr.1
  ktf_call "go"
  refine EV.call (f := 162) 1 rfl (by kernel_rfl) (by kernel_rfl) hr ?_
  ktf_call "go"
  refine (fn_place_of hl ha hn).mono fun t μ' ⟨e1, e2⟩ => ?_
  subst e1 e2
  ktf_call "go"
  exact ⟨rfl, .refl _⟩
end

section
variable {G : GS} {μ : Mem} {bx dx lx : Addr} {b : BX} {ls : List LT}

theorem fn_uids (h1 : μ bx = some (.inst BoxC dx)) (h2 : μ dx = some (.attrs (boxA b))) (hl : μ b.lx = some (.lst (ls.map letT))) (hn : ls.length ≤ 1000) :
    PF G 1 143 [.ptr bx] μ (.lst (intsT (ls.map (·.uid)))) := by
  refine FN.pureOf (ns := ["self"]) fun A L hr => ?_
  have hh := hr.1
  ktf_call "go"
  refine EV.comp (IV.lst hh ?_)
  ktf_call "go"
  refine ⟨_, by ktf_call "seq", comp1 ls letT (fun l => .int l.uid) [] hn (by ktf_call "seq") trivial (fun C l hl' => ?_) ?_⟩
  · ktf_call "go"
    exact ⟨rfl, rfl⟩
  · exact ⟨by rw [intsT, List.map_map]; rfl, .refl _⟩

theorem fn_changed_since {q : Int} (h1 : μ bx = some (.inst BoxC dx)) (h2 : μ dx = some (.attrs (boxA b))) (hl : μ b.lx = some (.lst (ls.map letT))) (hn : ls.length ≤ 1000) :
    PF G 1 228 [.ptr bx, .int q] μ (.lst ((ls.filter fun l => decide (q < l.modseq)).map letT)) := by
  refine FN.pureOf (ns := ["box", "modseq"]) fun A L hr => ?_
  have hh := hr.1
  ktf_call "go"
  refine EV.comp (IV.lst hh ?_)
  ktf_call "go"
  refine ⟨_, by ktf_call "seq", comp1f ls letT letT (fun l => decide (q < l.modseq)) [("modseq", .int q)] hn (by ktf_call "seq") ⟨⟨by ktf_call "lk", by kernel_rfl, by kernel_rfl⟩, trivial⟩ (fun C l hl' => ?_) (fun C l hl' hq => ?_) ?_⟩
  · ktf_call "go"
    exact ⟨rfl, rfl⟩
  · ktf_call "go"
    exact ⟨rfl, rfl⟩
  · exact ⟨rfl, .refl _⟩

/-- the uids of range(1, n) -/
noncomputable def uidsTo (n : Int) : List Int := (List.range (n - 1).toNat).map fun j => 1 + (j : Nat)
noncomputable def missing (ls : List LT) (n : Int) : List Int := (uidsTo n).filter fun u => decide (placeOf ls u < 0)
theorem fn_missing (h1 : μ bx = some (.inst BoxC dx)) (h2 : μ dx = some (.attrs (boxA b))) (hl : μ b.lx = some (.lst (ls.map letT))) (ha : Asc ls) (hn : ls.length ≤ 1000) (hb : 0 ≤ b.next) (hb' : b.next ≤ 1000) :
    PF G 2 240 [.ptr bx] μ (.lst (intsT (missing ls b.next))) := by
  refine FN.pureOf (ns := ["box"]) fun A L hr => ?_
  have hh := hr.1
  ktf_call "go"
  refine EV.comp (IV.range2 hh rfl ?_)
  ktf_call "go"
  refine ⟨by decide, by decide, by omega, by omega, comp1f (List.range (b.next - 1).toNat) (fun j => .int (1 + (j : Nat))) (fun j => .int (1 + (j : Nat))) (fun j => decide (placeOf ls (1 + (j : Nat)) < 0)) [("box", .ptr bx)] (by simp; omega) trivial
    ⟨⟨by ktf_call "lk", by kernel_rfl, by kernel_rfl⟩, trivial⟩ (fun C l hl' => ?_) (fun C l hl' hq => ?_) ?_⟩
  · ktf_call "go"
    refine EV.callP 162 1 hr ?_
    ktf_call "go"
    refine ⟨_, fn_place_of hl ha hn, ?_⟩
    ktf_call "go"
    exact ⟨rfl, rfl⟩
  · ktf_call "go"
    exact ⟨rfl, rfl⟩
  · refine ⟨?_, .refl _⟩
    unfold missing uidsTo intsT
    rw [List.filter_map, List.map_map]; rfl

noncomputable def goneSince (g : List (Int × Int)) (q : Int) : List Int := sortZ ((g.filter fun p => decide (q < p.2)).map (·.1))
theorem fn_gone_since {q : Int} (h1 : μ bx = some (.inst BoxC dx)) (h2 : μ dx = some (.attrs (boxA b))) (hn : b.gone.length < 64) :
    PF G 1 245 [.ptr bx, .int q] μ (.lst (intsT (goneSince b.gone q))) := by
  refine FN.pureOf (ns := ["box", "modseq"]) fun A L hr => ?_
  have hh := hr.1
  ktf_call "go"
  refine EV.cSorted ?_
  ktf_call "go"
  refine EV.comp (IV.lst hh ?_)
  ktf_call "go"
  refine ⟨_, by ktf_call "seq", comp2f b.gone (fun p => .int p.1) (fun p => .int p.2) (fun p => .int p.1) (fun p => decide (q < p.2)) [("modseq", .int q)] hh (by omega) (by ktf_call "seq")
    ⟨⟨by ktf_call "lk", by kernel_rfl, by kernel_rfl⟩, trivial⟩ (fun C l hl' => ?_) (fun C l hl' hq => ?_) ?_⟩
  · ktf_call "go"
    exact ⟨rfl, rfl⟩
  · ktf_call "go"
    exact ⟨rfl, rfl⟩
  · ktf_call "go"
    refine ⟨_, (b.gone.filter fun p => decide (q < p.2)).map (·.1), rfl, .inl (by rw [intsT, List.map_map]; rfl), ?_, ?_⟩
    · have := List.length_filter_le (fun p : Int × Int => decide (q < p.2)) b.gone
      rw [List.length_map]; omega
    ktf_call "go"
    exact ⟨rfl, .refl _⟩

noncomputable def inEnds (u g : Int) (p : Int × Int) : Bool := match endsOf p.1 p.2 g with
  | none => false
  | some e => decide (e.1 ≤ u) && decide (u ≤ e.2)
theorem fn_has {ps : List (Int × Int)} {u g : Int} (hn : ps.length ≤ 1000) : PF G 2 216 [.tup (ps.map pairT), .int u, .int g] μ (.bool (ps.any (inEnds u g))) := by
  refine FN.pureOf (ns := ["some", "number", "greatest"]) fun A L hr => ?_
  have hh := hr.1
  ktf_call "go"
  refine XV.for (IV.tup hh ?_)
  ktf_call "go"
  refine Loop.inv (fun pre σ => σ.ρ "number" = some (.int u) ∧ σ.ρ "greatest" = some (.int g) ∧ σ.μ = μ ∧ pre.any (inEnds u g) = false) ps ?_ ?_ ⟨by ktf_call "lk", by ktf_call "lk", rfl, rfl⟩
  · rintro pre p post ⟨ρ, μ'⟩ e ⟨i1, i2, i3, i4⟩
    dsimp only at i1 i2 i3
    subst i3
    refine ⟨trivial, ?_⟩
    ktf_call "go"
    refine EV.callP 202 1 hr ?_
    ktf_call "go"
    refine ⟨_, fn_ends_of, ?_⟩
    ktf_call "go"
    have next : inEnds u g p = false → (pre ++ [p]).any (inEnds u g) = false := fun q => by rw [List.any_append, i4]; simp [q]
    have last : inEnds u g p = true → ps.any (inEnds u g) = true := fun q => by rw [e, List.any_append, List.any_cons, q]; simp
    cases q : endsOf p.1 p.2 g with
    | none =>
      have hi : inEnds u g p = false := by unfold inEnds; rw [q]
      ktf_call "goS"
      exact ⟨by ktf_call "lk", by ktf_call "lk", rfl, next hi⟩
    | some w =>
      have hi : inEnds u g p = (decide (w.1 ≤ u) && decide (u ≤ w.2)) := by unfold inEnds; rw [q]
      ktf_call "goS"
      · refine ⟨?_, .refl _⟩
        rw [last (by rw [hi]; simp [*])]
      · exact ⟨by ktf_call "lk", by ktf_call "lk", rfl, next (by rw [hi]; simp [*])⟩
      · exact ⟨by ktf_call "lk", by ktf_call "lk", rfl, next (by rw [hi]; simp [*])⟩
  · rintro ⟨ρ, μ'⟩ ⟨i1, i2, i3, i4⟩
    refine ⟨trivial, ?_⟩
    ktf_call "go"
    exact ⟨by rw [i4], by rw [show μ' = μ from i3]; exact .refl _⟩
end

section
variable {G : GS} {μ : Mem} {bx dx lx : Addr} {b : BX} {ls : List LT}

noncomputable def knownT : Option (List (Int × Int)) → Tree
  | none => .none
  | some ps => .tup (ps.map pairT)
noncomputable def found (b : BX) (ls : List LT) (q : Int) : List Int := if q < b.floor then missing ls b.next else goneSince b.gone q
noncomputable def vanished (b : BX) (ls : List LT) (q : Int) : Option (List (Int × Int)) → List Int
  | none => found b ls q
  | some ps => (found b ls q).filter fun u => ps.any (inEnds u (b.next - 1))

theorem uidsTo_length (n : Int) : (uidsTo n).length = (n - 1).toNat := by simp [uidsTo]
theorem found_length {b : BX} {ls : List LT} {q : Int} (hb' : b.next ≤ 1000) (hg : b.gone.length < 64) : (found b ls q).length ≤ 1000 := by
  unfold found
  split
  · unfold missing
    have := List.length_filter_le (fun u => decide (placeOf ls u < 0)) (uidsTo b.next)
    rw [uidsTo_length] at this; omega
  · unfold goneSince
    have := List.length_filter_le (fun p : Int × Int => decide (q < p.2)) b.gone
    rw [(sortZ_perm _).length_eq, List.length_map]; omega

theorem fn_vanished {q : Int} {known : Option (List (Int × Int))} (h1 : μ bx = some (.inst BoxC dx)) (h2 : μ dx = some (.attrs (boxA b))) (hl : μ b.lx = some (.lst (ls.map letT))) (ha : Asc ls) (hn : ls.length ≤ 1000) (hb : 0 ≤ b.next) (hb' : b.next ≤ 1000)
    (hg : b.gone.length < 64) (hk : ∀ ps, known = some ps → ps.length ≤ 1000) : PF G 3 251 [.ptr bx, .int q, knownT known] μ (.lst (intsT (vanished b ls q known))) := by
  refine FN.pureOf (ns := ["box", "modseq", "known"]) fun A L hr => ?_
  have hh := hr.1
  refine SV.cons (XV.assign (EV.to (.lst (intsT (found b ls q))) ?_ ?_) (by ktf_call "st"))
  · unfold found
    ktf_call "go"
    refine EV.callP 235 1 (hr.le (by decide)) ?_
    ktf_call "go"
    refine ⟨_, fn_is_forgotten h1 h2, ?_⟩
    ktf_call "goS"
    · refine EV.callP 240 2 (hr.le (by decide)) ?_
      ktf_call "go"
      refine ⟨_, fn_missing h1 h2 hl ha hn hb hb', ?_⟩
      exact ⟨by rw [if_pos (by assumption)], rfl⟩
    · refine EV.callP 245 1 (hr.le (by decide)) ?_
      ktf_call "go"
      refine ⟨_, fn_gone_since h1 h2 hg, ?_⟩
      exact ⟨by rw [if_neg (by assumption)], rfl⟩
  · try dsimp only
    cases known with
    | none =>
      ktf_call "goS"
      exact ⟨rfl, .refl _⟩
    | some ps =>
      ktf_call "goS"
      refine EV.comp (IV.lst hh ?_)
      ktf_call "go"
      refine ⟨_, by ktf_call "seq", comp1f (found b ls q) .int .int (fun u => ps.any (inEnds u (b.next - 1))) [("known", .tup (ps.map pairT)), ("box", .ptr bx)] (found_length hb' hg) (by ktf_call "seq")
        ⟨⟨by ktf_call "lk", by kernel_rfl, by kernel_rfl⟩, ⟨by ktf_call "lk", by kernel_rfl, by kernel_rfl⟩, trivial⟩ (fun C l hl' => ?_) (fun C l hl' hq => ?_) ?_⟩
      · ktf_call "go"
        refine EV.callP 216 2 (hr.le (by decide)) ?_
        ktf_call "go"
        refine ⟨_, fn_has (hk _ rfl), ?_⟩
        ktf_call "go"
        exact ⟨rfl, rfl⟩
      · ktf_call "go"
        exact ⟨rfl, rfl⟩
      · exact ⟨rfl, .refl _⟩
end

section
variable {G : GS} {μ : Mem} {bx dx lx : Addr} {b : BX} {ls : List LT}

noncomputable def bound (b : BX) (q : Int) : Int := min q b.top
noncomputable def forgetB (b : BX) (q : Int) : BX := if bound b q ≤ b.floor then b else { b with gone := b.gone.filter fun p => decide (bound b q < p.2), floor := bound b q }
theorem fn_forget_gone {q : Int} (h1 : μ bx = some (.inst BoxC dx)) (h2 : μ dx = some (.attrs (boxA b))) (hg : b.gone.length ≤ 1000) :
    FN G 2 276 [.ptr bx, .int q] μ fun t μ' => t = .int ((b.gone.length : Int) - (forgetB b q).gone.length) ∧ μ' = μ.put dx (.attrs (boxA (forgetB b q))) := by
  refine FN.letOf (ns := ["box", "modseq"]) fun A L hr => ?_
  have hh := hr.1
  have hne : dx ≠ bx := Mem.ne_of2 h2 h1 nofun
  ktf_call "goS"
  · rename_i hle
    refine ⟨_, .refl _, ?_, ?_⟩
    · rw [show forgetB b q = b from if_pos hle]; congr 1; omega
    · rw [show forgetB b q = b from if_pos hle]; exact (Mem.put_same h2).symm
  · rename_i hle
    have hf : forgetB b q = { b with gone := b.gone.filter fun p => decide (bound b q < p.2), floor := bound b q } := if_neg hle
    have hlen : (b.gone.filter fun p => decide (bound b q < p.2)).length ≤ 1000 := Nat.le_trans (List.length_filter_le _ _) hg
    refine XV.assignComp (IV.lst hh ?_) (by ktf_call "st")
    ktf_call "go"
    refine ⟨_, by ktf_call "seq", comp2f b.gone (fun p => .int p.1) (fun p => .int p.2) pairT (fun p => decide (bound b q < p.2)) [("bound", .int (bound b q))] hh hg (by ktf_call "seq")
      ⟨⟨by ktf_call "lk", by kernel_rfl, by kernel_rfl⟩, trivial⟩ (fun C l hl' => ?_) (fun C l hl' hq => ?_) ?_⟩
    · ktf_call "go"
      exact ⟨rfl, rfl⟩
    · ktf_call "go"
      exact ⟨rfl, rfl⟩
    ktf_call "go"
    rw [hf]
    refine ⟨_, .refl _, ?_, ?_⟩
    · simp only [List.length_map]
    · exact Mem.put_put

theorem fn_forget_beyond {m : Nat} (h1 : μ bx = some (.inst BoxC dx)) (h2 : μ dx = some (.attrs (boxA b))) (hg : b.gone.length ≤ 1000) :
    FN G 3 283 [.ptr bx, .int (m : Int)] μ fun t μ' =>
      (b.gone.length ≤ m ∧ t = .int 0 ∧ μ' = μ) ∨
      ∃ p, m < b.gone.length ∧ b.gone[b.gone.length - m - 1]? = some p ∧ t = .int ((b.gone.length : Int) - (forgetB b p.2).gone.length) ∧ μ' = μ.put dx (.attrs (boxA (forgetB b p.2))) := by
  refine FN.letOf (ns := ["box", "most"]) fun A L hr => ?_
  have hh := hr.1
  ktf_call "goS"
  · rename_i hle
    rw [List.length_map] at hle
    exact ⟨_, .refl _, .inl ⟨by omega, rfl, rfl⟩⟩
  · rename_i hle
    rw [List.length_map] at hle
    have hlt : b.gone.length - m - 1 < b.gone.length := by omega
    obtain ⟨p, hp⟩ : ∃ p, b.gone[b.gone.length - m - 1]? = some p := ⟨_, List.getElem?_eq_getElem hlt⟩
    refine EV.callF 276 2 (hr.le (by decide)) ?_
    ktf_call "go"
    have e : ((b.gone.map pairT).length : Int) - m - 1 = ((b.gone.length - m - 1 : Nat) : Int) := by rw [List.length_map]; omega
    refine ⟨pairT p, GK.cast e (GK.at _ (.inl rfl) (by rw [List.getElem?_map, hp]; rfl) (by rw [List.length_map]; omega)), ?_⟩
    ktf_call "go"
    refine (fn_forget_gone h1 h2 hg).mono fun t μ' ⟨e1, e2⟩ => ?_
    subst e1 e2
    exact ⟨_, .refl _, .inr ⟨p, by omega, hp, rfl, rfl⟩⟩

/-! ### copies -/
theorem kput_new {es : List (Int × Tree)} {k : Int} {t : Tree} (h : k ∉ es.map (·.1)) : kput es k t = es ++ [(k, t)] := by
  unfold kput
  rw [if_neg]
  intro q
  rw [List.any_eq_true] at q
  obtain ⟨e, he, q⟩ := q
  exact h (by rw [List.mem_map]; exact ⟨e, he, by simpa using q⟩)
noncomputable def copyOf (ls : List LT) : List (Int × Tree) := ls.map fun l => (l.uid, flagsT l.flags)
theorem copyOf_snoc {pre : List LT} {l : LT} : copyOf (pre ++ [l]) = copyOf pre ++ [(l.uid, flagsT l.flags)] := by simp [copyOf]
theorem fn_copy_of (h1 : μ bx = some (.inst BoxC dx)) (h2 : μ dx = some (.attrs (boxA b))) (hl : μ b.lx = some (.lst (ls.map letT))) (ha : Asc ls) (hn : ls.length ≤ 1000) :
    PF G 1 297 [.ptr bx] μ (.dct (copyOf ls)) := by
  refine FN.pureOf (ns := ["box"]) fun A L hr => ?_
  have hh := hr.1
  ktf_call "go"
  refine EV.dict0M fun d hd => ?_
  ktf_call "go"
  have n1 : bx ≠ d := Mem.ne_of h1 hd
  have n2 : dx ≠ d := Mem.ne_of h2 hd
  have n3 : b.lx ≠ d := Mem.ne_of hl hd
  refine XV.for (IV.lst hh ?_)
  ktf_call "go"
  refine ⟨_, by ktf_call "seq", Loop.inv (fun pre σ => σ.ρ "copy" = some (.ptr d) ∧ σ.μ = μ.put d (.dct (copyOf pre))) ls ?_ ?_ ⟨by ktf_call "lk", rfl⟩⟩
  · rintro pre l post ⟨ρ, μ'⟩ e ⟨i1, i2⟩
    dsimp only at i1 i2
    subst i2
    refine ⟨.inr ⟨_, rfl, by ktf_call "mm"⟩, ?_⟩
    ktf_call "go"
    refine ⟨d, _, _, rfl, by ktf_call "mm", PutK.dct (by ktf_call "mm") (by rw [copyOf, List.length_map]; have := congrArg List.length e; simp at this; omega), ?_⟩
    ktf_call "go"
    refine ⟨by ktf_call "lk", ?_⟩
    try dsimp only
    rw [Mem.put_put, kput_new]
    · rw [copyOf_snoc]
    · rw [copyOf, List.map_map, List.mem_map]
      rintro ⟨x, hx, hxe⟩
      have := List.pairwise_append.mp (e ▸ ha : Asc (pre ++ l :: post))
      have := this.2.2 x hx l (List.mem_cons_self ..)
      exact absurd hxe (Int.ne_of_lt this)
  · rintro ⟨ρ, μ'⟩ ⟨i1, i2⟩
    dsimp only at i1 i2
    subst i2
    refine ⟨.inr ⟨_, rfl, by ktf_call "mm"⟩, ?_⟩
    refine SV.cons (XV.ret (EV.freezeD ?_))
    ktf_call "go"
    refine ⟨d, _, rfl, Mem.put_self, ?_⟩
    ktf_call "go"
    refine ⟨rfl, ?_⟩
    try dsimp only
    rw [Mem.drop_put hd]
    exact .refl _

/-- the part of a copy that has not vanished -/
noncomputable def broughtKeep (es : List (Int × Tree)) (vs : List Int) : List (Int × Tree) := es.filter fun e => !decide (e.1 ∈ vs)
noncomputable def brought (es : List (Int × Tree)) (vs : List Int) (cs : List LT) : List (Int × Tree) := cs.foldl (fun d l => kput d l.uid (flagsT l.flags)) (broughtKeep es vs)
theorem kput_length (es : List (Int × Tree)) (k : Int) (t : Tree) : (kput es k t).length ≤ es.length + 1 := by
  unfold kput; split <;> simp
theorem foldput_length (cs : List LT) : ∀ es : List (Int × Tree), (cs.foldl (fun d l => kput d l.uid (flagsT l.flags)) es).length ≤ es.length + cs.length := by
  induction cs with
  | nil => intro es; simp
  | cons l cs ih =>
    intro es
    have := ih (kput es l.uid (flagsT l.flags))
    have := kput_length es l.uid (flagsT l.flags)
    simp only [List.foldl_cons, List.length_cons]; omega
theorem fn_brought {es : List (Int × Tree)} {vs : List Int} {cs : List LT} (hdd : (es.map (·.1)).Nodup) (he : es.length ≤ 1000) (hc : cs.length ≤ 1000) :
    PF G 1 290 [.dct es, .lst (intsT vs), .lst (cs.map letT)] μ (.dct (brought es vs cs)) := by
  refine FN.pureOf (ns := ["flags_by_uid", "vanished", "changed"]) fun A L hr => ?_
  have hh := hr.1
  ktf_call "go"
  refine EV.dict0M fun d hd => ?_
  ktf_call "go"
  refine XV.for (IV.dct hh ?_)
  ktf_call "go"
  have em : intsT (es.map (·.1)) = es.map fun e => Tree.int e.1 := by rw [intsT, List.map_map]; rfl
  refine Loop.cast em (Loop.inv (fun pre σ => σ.ρ "copy" = some (.ptr d) ∧ σ.ρ "flags_by_uid" = some (.dct es) ∧ σ.ρ "vanished" = some (.lst (intsT vs)) ∧ σ.ρ "changed" = some (.lst (cs.map letT)) ∧ σ.μ = μ.put d (.dct (broughtKeep pre vs))) es ?_ ?_
    ⟨by ktf_call "lk", by ktf_call "lk", by ktf_call "lk", by ktf_call "lk", rfl⟩)
  · rintro pre l post ⟨ρ, μ'⟩ e ⟨i1, i2, i3, i4, i5⟩
    dsimp only at i1 i2 i3 i4 i5
    subst i5
    refine ⟨trivial, ?_⟩
    ktf_call "go"
    refine ⟨_, CK.notin_ints (.inl rfl), ?_⟩
    have hle : (broughtKeep pre vs).length ≤ 1000 := by
      have h1 := List.length_filter_le (fun e : Int × Tree => !decide (e.1 ∈ vs)) pre
      have := congrArg List.length e
      simp at this
      unfold broughtKeep; omega
    ktf_call "goS"
    · rename_i hv
      refine ⟨l.2, GK.dct (.inl rfl) (kget_self hdd l (by rw [e]; simp)), ?_⟩
      ktf_call "go"
      refine ⟨d, _, _, rfl, by ktf_call "mm", PutK.dct (by ktf_call "mm") (by omega), ?_⟩
      ktf_call "go"
      refine ⟨by ktf_call "lk", by ktf_call "lk", by ktf_call "lk", by ktf_call "lk", ?_⟩
      try dsimp only
      rw [Mem.put_put, kput_new]
      · congr 2
        unfold broughtKeep
        rw [List.filter_append, List.filter_cons_of_pos (by simpa using hv)]; rfl
      · intro hm
        rw [List.mem_map] at hm
        obtain ⟨x, hx, hxe⟩ := hm
        have hx' := (List.mem_filter.mp hx).1
        rw [e, List.map_append, List.map_cons] at hdd
        have := (List.nodup_append.mp hdd).2.2 x.1 (List.mem_map_of_mem hx') l.1 (List.mem_cons_self ..)
        exact this hxe
    · rename_i hv
      refine ⟨by ktf_call "lk", by ktf_call "lk", by ktf_call "lk", by ktf_call "lk", ?_⟩
      try dsimp only
      congr 2
      unfold broughtKeep
      rw [List.filter_append, List.filter_cons_of_neg (by simpa using hv)]; simp
  · rintro ⟨ρ, μ'⟩ ⟨i1, i2, i3, i4, i5⟩
    dsimp only at i1 i2 i3 i4 i5
    subst i5
    refine ⟨trivial, ?_⟩
    have hbl : (broughtKeep es vs).length ≤ 1000 := Nat.le_trans (List.length_filter_le _ _) he
    ktf_call "go"
    refine XV.for (IV.lst hh ?_)
    ktf_call "go"
    refine ⟨_, by ktf_call "seq", Loop.inv (fun pre σ => σ.ρ "copy" = some (.ptr d) ∧ σ.μ = μ.put d (.dct (brought es vs pre))) cs ?_ ?_ ⟨by ktf_call "lk", rfl⟩⟩
    · rintro pre l post ⟨ρ, μ'⟩ e ⟨i1, i2⟩
      dsimp only at i1 i2
      subst i2
      refine ⟨.inl rfl, ?_⟩
      have hl1 := foldput_length pre (broughtKeep es vs)
      have hl2 := congrArg List.length e
      rw [List.length_append] at hl2
      ktf_call "go"
      refine ⟨d, _, _, rfl, by ktf_call "mm", PutK.dct (by ktf_call "mm") (by unfold brought; omega), ?_⟩
      ktf_call "go"
      refine ⟨by ktf_call "lk", ?_⟩
      try dsimp only
      rw [Mem.put_put]
      congr 2
      unfold brought
      rw [List.foldl_append]; rfl
    · rintro ⟨ρ, μ'⟩ ⟨i1, i2⟩
      dsimp only at i1 i2
      subst i2
      refine ⟨.inl rfl, ?_⟩
      refine SV.cons (XV.ret (EV.freezeD ?_))
      ktf_call "go"
      refine ⟨d, _, rfl, Mem.put_self, ?_⟩
      ktf_call "go"
      refine ⟨rfl, ?_⟩
      try dsimp only
      rw [Mem.drop_put hd]
      exact .refl _
end

noncomputable def flags4 : List Str := ["\\Answered", "\\Deleted", "\\Flagged", "\\Seen"]
noncomputable def sys5 : List Str := ["\\Seen", "\\Answered", "\\Flagged", "\\Deleted", "\\Draft"]

section
variable {G : GS} {μ : Mem} {bx dx lx : Addr} {b : BX} {ls : List LT}

theorem fn_system_flags : PF G 1 61 [] μ (.lst (sys5.map .str)) := by
  refine FN.pureOf (ns := []) fun A L hr => ?_
  have hh := hr.1
  refine SV.cons (XV.ret (EV.split "\\Seen \\Answered \\Flagged \\Deleted \\Draft" " " sys5 (EV.globStr rfl rfl ⟨rfl, ?_⟩)))
  ktf_call "go"
  refine ⟨rfl, ?_⟩
  ktf_call "go"
  exact ⟨rfl, .refl _⟩

theorem lower_short : ∀ x ∈ sys5, Builtin.Str.tooLong (Txt.lower x).length = false := by decide +kernel
theorem lower_same : ∀ x ∈ flags4, ∀ y ∈ sys5, Txt.lower x = Txt.lower y → y = x := by decide +kernel
theorem flags_sys : ∀ x ∈ flags4, x ∈ sys5 := by decide +kernel

theorem fn_flag_name {x : Str} (hx : x ∈ flags4) : PF G 2 75 [.str x] μ (.str x) := by
  refine FN.pureOf (ns := ["text"]) fun A L hr => ?_
  have hh := hr.1
  refine SV.cons (XV.for (IV.lst hh (EV.callP0 61 1 hr ⟨_, fn_system_flags, _, .inl rfl, Loop.inv (fun pre σ => σ.ρ "text" = some (.str x) ∧ σ.μ = μ ∧ x ∉ pre) sys5 ?_ ?_ ⟨by ktf_call "lk", rfl, by simp⟩⟩)))
  · rintro pre y post ⟨ρ, μ'⟩ e ⟨i1, i2, i3⟩
    dsimp only at i1 i2 i3
    subst i2
    refine ⟨.inl rfl, ?_⟩
    have hy : y ∈ sys5 := by rw [e]; simp
    ktf_call "go"
    refine ⟨lower_short x (flags_sys x hx), ?_⟩
    ktf_call "go"
    refine ⟨lower_short y hy, ?_⟩
    ktf_call "goS"
    · rename_i hq
      exact ⟨by rw [lower_same x hx y hy hq], .refl _⟩
    · rename_i hq
      refine ⟨by ktf_call "lk", rfl, ?_⟩
      rw [List.mem_append, List.mem_singleton]
      rintro (q | q)
      · exact i3 q
      · exact hq (by rw [q])
  · rintro ⟨ρ, μ'⟩ ⟨i1, i2, i3⟩
    exact absurd (flags_sys x hx) i3

end
/-! ### the flags, in order -/
noncomputable def rank (x : Str) : Int := (flags4.idxOf x : Nat)
theorem rank_inj : ∀ x ∈ flags4, ∀ y ∈ flags4, rank x = rank y → x = y := by decide +kernel
theorem rank_le : ∀ x ∈ flags4, ∀ y ∈ flags4, Spec.ltCps y.cps.toList x.cps.toList = false → rank x ≤ rank y := by decide +kernel
theorem rank_lt : ∀ x ∈ flags4, 0 ≤ rank x ∧ rank x < 4 := by decide +kernel
theorem up_len : ∀ (l : List Int) (a b : Int), (∀ x ∈ l, a ≤ x ∧ x < b) → l.Pairwise (· < ·) → (l.length : Int) ≤ max 0 (b - a)
  | [], a, b, _, _ => by simp; omega
  | x :: l, a, b, h, hp => by
    have hx := h x (List.mem_cons_self ..)
    have := up_len l (x + 1) b (fun y hy => ⟨by have := (List.pairwise_cons.mp hp).1 y hy; omega, (h y (List.mem_cons_of_mem _ hy)).2⟩) (List.pairwise_cons.mp hp).2
    rw [List.length_cons]; push_cast; omega
theorem risingS_rank : ∀ (l : List Str) (p : Str), p ∈ flags4 → (∀ x ∈ l, x ∈ flags4) → risingS p l = true → ((p :: l).map rank).Pairwise (· ≤ ·)
  | [], p, _, _, _ => by simp
  | x :: r, p, hp, hl, h => by
    simp only [risingS, Bool.and_eq_true, Bool.not_eq_true'] at h
    have hx := hl x (List.mem_cons_self ..)
    have h1 := rank_le p hp x hx h.1
    have h2 := risingS_rank r x hx (fun y hy => hl y (List.mem_cons_of_mem _ hy)) h.2
    rw [List.map_cons, List.pairwise_cons]
    refine ⟨fun a ha => ?_, h2⟩
    rw [List.map_cons] at ha h2
    rcases List.mem_cons.mp ha with rfl | ha
    · exact h1
    · have := (List.pairwise_cons.mp h2).1 a ha; omega
theorem sortedS_rank {l : List Str} (hl : ∀ x ∈ l, x ∈ flags4) (h : sortedS l = true) : (l.map rank).Pairwise (· ≤ ·) := by
  cases l with
  | nil => simp
  | cons p l => exact risingS_rank l p (hl p (List.mem_cons_self ..)) (fun x hx => hl x (List.mem_cons_of_mem _ hx)) h
theorem map_rank_inj : ∀ {l l' : List Str}, (∀ x ∈ l, x ∈ flags4) → (∀ x ∈ l', x ∈ flags4) → l.map rank = l'.map rank → l = l'
  | [], [], _, _, _ => rfl
  | [], _ :: _, _, _, h => by cases h
  | _ :: _, [], _, _, h => by cases h
  | x :: l, y :: l', h1, h2, h => by
    simp only [List.map_cons, List.cons.injEq] at h
    rw [rank_inj x (h1 x (List.mem_cons_self ..)) y (h2 y (List.mem_cons_self ..)) h.1, map_rank_inj (fun z hz => h1 z (List.mem_cons_of_mem _ hz)) (fun z hz => h2 z (List.mem_cons_of_mem _ hz)) h.2]
/-- flags as the law draws them -/
structure FlagsOk (fl : List Str) : Prop where
  mem : ∀ x ∈ fl, x ∈ flags4
  up : (fl.map rank).Pairwise (· < ·)
theorem FlagsOk.nodup {fl : List Str} (h : FlagsOk fl) : fl.Nodup := by
  have := h.up
  rw [List.pairwise_map] at this
  exact this.imp fun {a b} hlt e => by rw [e] at hlt; exact absurd hlt (Int.lt_irrefl _)
theorem FlagsOk.len {fl : List Str} (h : FlagsOk fl) : fl.length ≤ 4 := by
  have h1 := up_len (fl.map rank) 0 4 (fun a ha => by
    obtain ⟨x, hx, rfl⟩ := List.mem_map.mp ha
    exact rank_lt x (h.mem x hx)) h.up
  rw [List.length_map] at h1; omega
theorem FlagsOk.sorted {fl l : List Str} (h : FlagsOk fl) (p : l.Perm fl) (hs : sortedS l = true) : l = fl := by
  have hm : ∀ x ∈ l, x ∈ flags4 := fun x hx => h.mem x (p.mem_iff.mp hx)
  refine map_rank_inj hm h.mem (sorted_uniq (p.map rank) (sortedS_rank hm hs) (h.up.imp fun hlt => by omega))

section
variable {G : GS} {μ : Mem} {bx dx lx : Addr} {b : BX} {ls : List LT}
theorem fn_flag_tuple {fl : List Str} (hf : FlagsOk fl) : PF G 3 82 [flagsT fl] μ (flagsT fl) := by
  refine FN.pureOf (ns := ["flags"]) fun A L hr => ?_
  have hh := hr.1
  have hl := hf.len
  ktf_call "go"
  refine EV.listM ?_
  ktf_call "go"
  intro a ha
  ktf_call "go"
  refine XV.for (IV.tup hh ?_)
  ktf_call "go"
  refine Loop.inv (fun pre σ => σ.ρ "found" = some (.ptr a) ∧ σ.μ = μ.put a (.lst (pre.map .str))) fl ?_ ?_ ⟨by ktf_call "lk", rfl⟩
  · rintro pre y post ⟨ρ, μ'⟩ e ⟨i1, i2⟩
    dsimp only at i1 i2
    subst i2
    refine ⟨trivial, ?_⟩
    have hy : y ∈ fl := by rw [e]; simp
    have hl2 := congrArg List.length e
    rw [List.length_append] at hl2
    ktf_call "go"
    refine EV.callP 75 2 hr ?_
    ktf_call "go"
    refine ⟨_, fn_flag_name (hf.mem y hy), ?_⟩
    ktf_call "go"
    refine ⟨_, CK.notin_strs (.inr ⟨_, rfl, by ktf_call "mm"⟩), ?_⟩
    ktf_call "goS"
    · refine XV.append ?_
      ktf_call "go"
      refine ⟨_, _, rfl, by ktf_call "mm", ?_⟩
      ktf_call "go"
      refine ⟨_, _, rfl, by ktf_call "mm", by rw [List.length_map]; omega, ?_⟩
      ktf_call "go"
      refine ⟨by ktf_call "lk", ?_⟩
      try dsimp only
      rw [Mem.put_put, List.map_append]; rfl
    · rename_i hin
      have : y ∉ pre := fun hm => by
        have := hf.nodup
        rw [e] at this
        exact (List.nodup_append.mp this).2.2 y hm y (List.mem_cons_self ..) rfl
      exact absurd hin this
  · rintro ⟨ρ, μ'⟩ ⟨i1, i2⟩
    dsimp only at i1 i2
    subst i2
    refine ⟨trivial, ?_⟩
    refine SV.cons (XV.ret (EV.cTuple ?_))
    ktf_call "go"
    refine EV.sortedStrs rfl ?_
    ktf_call "go"
    refine ⟨_, fl, rfl, .inr ⟨_, rfl, by ktf_call "mm"⟩, by omega, fun l p hs => ?_⟩
    rw [hf.sorted p hs]
    ktf_call "go"
    exact ⟨rfl, .put ha (.refl _)⟩

/-! ### a letter is made -/
theorem fn_letter {u i q : Int} {fl : List Str} : PF G 3 113 [.int u, .bytes #[121], flagsT fl, .int i, .int q] μ (letT ⟨u, fl, i, q⟩) := by
  refine FN.freezeLetter (FN.make (fI := 96) (by kernel_rfl) (by kernel_rfl) (by kernel_rfl) fun x dx hx hdx hne => ?_)
  refine FN.letOf (ns := ["self", "uid", "octets", "flags", "instant", "modseq"]) fun A L hr => ?_
  have hh := hr.1
  have hne' := hne.symm
  refine SV.cons (XV.setAttr ?_)
  ktf_call "go"
  refine ⟨_, LetterC, _, _, rfl, by ktf_call "mm", by ktf_call "mm", cls_letter _, by kernel_rfl, by ktf_call "len", ?_⟩
  refine SV.cons (XV.setAttr ?_)
  ktf_call "go"
  refine ⟨_, LetterC, _, _, rfl, by ktf_call "mm", by ktf_call "mm", cls_letter _, by kernel_rfl, by ktf_call "len", ?_⟩
  refine SV.cons (XV.setAttr (EV.cTupleT ?_))
  ktf_call "go"
  refine ⟨_, LetterC, _, _, rfl, by ktf_call "mm", by ktf_call "mm", cls_letter _, by kernel_rfl, by ktf_call "len", ?_⟩
  refine SV.cons (XV.setAttr ?_)
  ktf_call "go"
  refine ⟨_, LetterC, _, _, rfl, by ktf_call "mm", by ktf_call "mm", cls_letter _, by kernel_rfl, by ktf_call "len", ?_⟩
  refine SV.cons (XV.setAttr ?_)
  ktf_call "go"
  refine ⟨_, LetterC, _, _, rfl, by ktf_call "mm", by ktf_call "mm", cls_letter _, by kernel_rfl, by ktf_call "len", ?_⟩
  ktf_call "go"
  refine ⟨_, .refl _, rfl, x, dx, _, _, _, _, _, rfl, hne, ?_, Mem.put_self, rfl, ?_⟩
  · try dsimp only
    ktf_call "mm"
  · funext z
    unfold Mem.drop Mem.put
    by_cases h1 : z = dx
    · subst h1; simp [hdx]
    · by_cases h2 : z = x
      · subst h2; simp [hx]
      · simp [h1, h2]
end

section
variable {c : Cx} {σ : St}
theorem cmp_strs {a b : List Str} (k : Nat) (t u : Tree) (h1 : (a.map Tree.str)[k]? = some t) (h2 : (b.map Tree.str)[k]? = some u) : Cmp 20 t u := by
  rw [List.getElem?_map] at h1 h2
  cases q1 : a[k]? with
  | none => rw [q1] at h1; cases h1
  | some x =>
    cases q2 : b[k]? with
    | none => rw [q2] at h2; cases h2
    | some y => rw [q1] at h1; rw [q2] at h2; cases h1; cases h2; exact .str x y
theorem same_strs {a b : List Str} : same (a.map Tree.str) (b.map Tree.str) = decide (a = b) := by
  rw [same_inj (f := List.map Tree.str) (fun x y h => ?_), same_decide]
  exact List.map_inj_right (fun x y e => by cases e; rfl) |>.mp h
theorem CK.eq_flags {a b : List Str} (hr : Room 0 c.A) : CK c .Eq (flagsT a) (flagsT b) σ (decide (a = b)) := by
  rw [← same_strs]; exact CK.eq_tup hr cmp_strs
theorem CK.ne_flags {a b : List Str} (hr : Room 0 c.A) : CK c .NotEq (flagsT a) (flagsT b) σ (!decide (a = b)) := by
  rw [← same_strs]; exact CK.ne_tup hr cmp_strs
end
section
variable {G : GS} {μ : Mem} {bx dx lx : Addr} {b : BX} {ls : List LT}

theorem fn_add_letter {fl : List Str} {i : Int} (h1 : μ bx = some (.inst BoxC dx)) (h2 : μ dx = some (.attrs (boxA b))) (hl : μ b.lx = some (.lst (ls.map letT))) (hn : ls.length ≤ 1000) (hf : FlagsOk fl) :
    FN G 4 183 [.ptr bx, .bytes #[121], flagsT fl, .int i] μ fun t μ' => t = letT ⟨b.next, fl, i, b.top + 1⟩ ∧
      μ' = (μ.put dx (.attrs (boxA { b with top := b.top + 1, next := b.next + 1 }))).put b.lx (.lst ((ls ++ [(⟨b.next, fl, i, b.top + 1⟩ : LT)]).map letT)) := by
  refine FN.letOf (ns := ["box", "octets", "flags", "instant"]) fun A L hr => ?_
  have hh := hr.1
  have n1 : dx ≠ bx := Mem.ne_of2 h2 h1 nofun
  have n2 : b.lx ≠ bx := Mem.ne_of2 hl h1 nofun
  have n3 : b.lx ≠ dx := Mem.ne_of2 hl h2 nofun
  ktf_call "go"
  refine EV.callP 82 3 hr ?_
  ktf_call "go"
  refine ⟨_, fn_flag_tuple hf, ?_⟩
  ktf_call "go"
  refine EV.callP 113 3 hr ?_
  ktf_call "go"
  refine EV.callF 176 1 (hr.le (by decide)) ?_
  ktf_call "go"
  refine (fn_raised h1 h2).mono fun t μ' ⟨e1, e2⟩ => ?_
  subst e1 e2
  ktf_call "go"
  refine ⟨_, fn_letter, ?_⟩
  ktf_call "go"
  refine XV.append ?_
  ktf_call "go"
  refine ⟨_, _, rfl, by ktf_call "mm", ?_⟩
  ktf_call "go"
  refine ⟨_, _, rfl, by ktf_call "mm", by rw [List.length_map]; omega, ?_⟩
  ktf_call "go"
  refine ⟨_, .refl _, rfl, ?_⟩
  try dsimp only
  rw [Mem.put_put, List.map_append]; rfl

theorem fn_set_flags {fl : List Str} {u : Int} {i : Nat} {l : LT} (h1 : μ bx = some (.inst BoxC dx)) (h2 : μ dx = some (.attrs (boxA b))) (hl : μ b.lx = some (.lst (ls.map letT))) (ha : Asc ls) (hn : ls.length ≤ 1000) (hf : FlagsOk fl)
    (hi : ls[i]? = some l) (hu : l.uid = u) :
    FN G 4 190 [.ptr bx, .int u, flagsT fl] μ fun t μ' => (l.flags = fl ∧ t = .bool false ∧ μ' = μ) ∨ (l.flags ≠ fl ∧ t = .bool true ∧
      μ' = (μ.put dx (.attrs (boxA { b with top := b.top + 1 }))).put b.lx (.lst ((ls.set i ⟨u, fl, l.inst, b.top + 1⟩).map letT))) := by
  refine FN.letOf (ns := ["box", "uid", "flags"]) fun A L hr => ?_
  have hh := hr.1
  have n1 : dx ≠ bx := Mem.ne_of2 h2 h1 nofun
  have n2 : b.lx ≠ bx := Mem.ne_of2 hl h1 nofun
  have n3 : b.lx ≠ dx := Mem.ne_of2 hl h2 nofun
  have hil : i < ls.length := (List.getElem?_eq_some_iff.mp hi).1
  ktf_call "go"
  refine EV.callP 82 3 hr ?_
  ktf_call "go"
  refine ⟨_, fn_flag_tuple hf, ?_⟩
  ktf_call "go"
  refine EV.callP 162 1 (hr.le (by decide)) ?_
  ktf_call "go"
  refine ⟨_, fn_place_of hl ha hn, ?_⟩
  rw [placeOf_at ha hi hu]
  ktf_call "goS"
  · omega
  · refine ⟨letT l, GK.at _ (.inr (.inr ⟨_, rfl, by ktf_call "mm"⟩)) (by rw [List.getElem?_map, hi]; rfl) (by rw [List.length_map]; omega), ?_⟩
    ktf_call "go"
    refine ⟨_, CK.eq_flags (hr.le (by decide)), ?_⟩
    ktf_call "goS"
    · rename_i hq
      exact ⟨_, .refl _, .inl ⟨hq, rfl, rfl⟩⟩
    · rename_i hq
      refine EV.callP 113 3 hr ?_
      ktf_call "go"
      refine EV.callF 176 1 (hr.le (by decide)) ?_
      ktf_call "go"
      refine (fn_raised h1 h2).mono fun t μ' ⟨e1, e2⟩ => ?_
      subst e1 e2
      ktf_call "go"
      refine ⟨_, fn_letter, ?_⟩
      ktf_call "go"
      refine ⟨_, _, _, rfl, by ktf_call "mm", PutK.lst (j := i) (by ktf_call "mm") (.inl ⟨by omega, by simp⟩) (by rw [List.length_map]; omega) (by rw [List.length_map]; omega), ?_⟩
      ktf_call "go"
      refine ⟨_, .refl _, .inr ⟨hq, rfl, ?_⟩⟩
      try dsimp only
      rw [List.map_set]

noncomputable def wantedD (us : List Int) : List (Int × Tree) := us.foldl (fun d u => kput d u (.bool true)) []
theorem kput_keys {es : List (Int × Tree)} {k k' : Int} {t : Tree} : k' ∈ (kput es k t).map (·.1) ↔ k' ∈ es.map (·.1) ∨ k' = k := by
  unfold kput
  split
  · rename_i h
    rw [List.any_eq_true] at h
    obtain ⟨e, he, h⟩ := h
    have e1 : (es.map fun e => if e.1 = k then (e.1, t) else e).map (·.1) = es.map (·.1) := by
      rw [List.map_map]
      refine List.map_congr_left fun e _ => ?_
      by_cases q : e.1 = k <;> simp [q]
    rw [e1]
    refine ⟨.inl, fun q => q.elim id fun q => ?_⟩
    rw [List.mem_map]
    exact ⟨e, he, by rw [q]; simpa using h⟩
  · rw [List.map_append, List.mem_append]; simp
theorem kget_isSome {es : List (Int × Tree)} {k : Int} : (kget es k).isSome = decide (k ∈ es.map (·.1)) := by
  induction es with
  | nil => rfl
  | cons e es ih =>
    unfold kget at ih ⊢
    rw [List.find?_cons]
    by_cases h : e.1 = k
    · simp [h]
    · simp only [h, decide_false]
      rw [ih]
      simp [Ne.symm h]
theorem wantedD_keys : ∀ (us : List Int) (es : List (Int × Tree)) (k : Int), k ∈ (us.foldl (fun d u => kput d u (.bool true)) es).map (·.1) ↔ k ∈ es.map (·.1) ∨ k ∈ us
  | [], es, k => by simp
  | u :: us, es, k => by
    rw [List.foldl_cons, wantedD_keys us, kput_keys, List.mem_cons]
    constructor
    · rintro ((q | q) | q)
      · exact .inl q
      · exact .inr (.inl q)
      · exact .inr (.inr q)
    · rintro (q | q | q)
      · exact .inl (.inl q)
      · exact .inl (.inr q)
      · exact .inr q
theorem wantedD_has {us : List Int} {k : Int} : (kget (wantedD us) k).isSome = decide (k ∈ us) := by
  rw [kget_isSome]
  have := wantedD_keys us [] k
  simp at this
  unfold wantedD
  simp [this]
theorem foldk_length (us : List Int) : ∀ es : List (Int × Tree), (us.foldl (fun d u => kput d u (.bool true)) es).length ≤ es.length + us.length := by
  induction us with
  | nil => intro es; simp
  | cons u us ih =>
    intro es
    have := ih (kput es u (.bool true))
    have := kput_length es u (.bool true)
    simp only [List.foldl_cons, List.length_cons]; omega
theorem cmp_ints {a b : List Int} (k : Nat) (t u : Tree) (h1 : (intsT a)[k]? = some t) (h2 : (intsT b)[k]? = some u) : Cmp 20 t u := by
  unfold intsT at h1 h2
  rw [List.getElem?_map] at h1 h2
  cases q1 : a[k]? with
  | none => rw [q1] at h1; cases h1
  | some x =>
    cases q2 : b[k]? with
    | none => rw [q2] at h2; cases h2
    | some y => rw [q1] at h1; rw [q2] at h2; cases h1; cases h2; exact .int x y
theorem same_ints {a b : List Int} : same (intsT a) (intsT b) = decide (a = b) := by
  rw [same_inj (f := intsT) (fun x y h => ?_), same_decide]
  exact List.map_inj_right (fun x y e => by cases e; rfl) |>.mp h
theorem CK.eq_ints {c : Cx} {σ : St} {t u : Tree} {a b : List Int} (h₁ : LstOf σ t (intsT a)) (h₂ : LstOf σ u (intsT b)) (hr : Room 0 c.A) : CK c .Eq t u σ (decide (a = b)) := by
  rw [← same_ints]; exact CK.eq_lst h₁ h₂ hr cmp_ints
theorem CK.ne_ints {c : Cx} {σ : St} {t u : Tree} {a b : List Int} (h₁ : LstOf σ t (intsT a)) (h₂ : LstOf σ u (intsT b)) (hr : Room 0 c.A) : CK c .NotEq t u σ (!decide (a = b)) := by
  rw [← same_ints]; exact CK.ne_lst h₁ h₂ hr cmp_ints
/-- a list compared with the empty one -/
theorem CK.eq_nil {c : Cx} {σ : St} {t u : Tree} {ts : List Tree} (h₁ : LstOf σ t ts) (h₂ : LstOf σ u []) (hr : Room 0 c.A) : CK c .Eq t u σ (decide (ts.length = 0)) := by
  have e : decide (ts.length = 0) = same ts [] := by
    cases ts with
    | nil => rw [same_self]; rfl
    | cons t ts => rw [same_false (by simp)]; rfl
  rw [e]; exact CK.eq_lst h₁ h₂ hr fun _ _ _ _ h => by simp at h
theorem CK.ne_nil {c : Cx} {σ : St} {t u : Tree} {ts : List Tree} (h₁ : LstOf σ t ts) (h₂ : LstOf σ u []) (hr : Room 0 c.A) : CK c .NotEq t u σ (!decide (ts.length = 0)) := by
  have e : decide (ts.length = 0) = same ts [] := by
    cases ts with
    | nil => rw [same_self]; rfl
    | cons t ts => rw [same_false (by simp)]; rfl
  rw [e]; exact CK.ne_lst h₁ h₂ hr fun _ _ _ _ h => by simp at h
theorem intsT_length (ns : List Int) : (intsT ns).length = ns.length := List.length_map ..
theorem intsT_map {α : Type} (L : List α) (g : α → Int) : L.map (fun a => Tree.int (g a)) = intsT (L.map g) := by rw [intsT, List.map_map]; rfl

theorem fn_expunge {us : List Int} (h1 : μ bx = some (.inst BoxC dx)) (h2 : μ dx = some (.attrs (boxA b))) (hl : μ b.lx = some (.lst (ls.map letT))) (hn : ls.length ≤ 500) (hg : b.gone.length ≤ 500) (hu : us.length ≤ 1000) :
    FN G 2 195 [.ptr bx, .lst (intsT us)] μ fun t μ' => ∃ there, there = (ls.map (·.uid)).filter (fun u => decide (u ∈ us)) ∧ t = .lst (intsT there) ∧
      (there = [] ∧ μ' = μ ∨ there ≠ [] ∧ ∃ lx', μ lx' = none ∧ μ' = (μ.put lx' (.lst ((ls.filter fun l => !decide (l.uid ∈ us)).map letT))).put dx
        (.attrs (boxA { b with top := b.top + 1, lx := lx', gone := b.gone ++ there.map fun u => (u, b.top + 1) }))) := by
  refine FN.letOf (ns := ["box", "uids"]) fun A L hr => ?_
  have hh := hr.1
  have n1 : dx ≠ bx := Mem.ne_of2 h2 h1 nofun
  have n2 : b.lx ≠ bx := Mem.ne_of2 hl h1 nofun
  have n3 : b.lx ≠ dx := Mem.ne_of2 hl h2 nofun
  ktf_call "go"
  refine EV.dict0M fun d hd => ?_
  dsimp only at hd
  have m1 : d ≠ bx := (Mem.ne_of h1 hd).symm
  have m2 : d ≠ dx := (Mem.ne_of h2 hd).symm
  have m3 : d ≠ b.lx := (Mem.ne_of hl hd).symm
  ktf_call "go"
  refine XV.for (IV.lst hh ?_)
  ktf_call "go"
  refine ⟨_, by ktf_call "seq", Loop.inv (g := Tree.int) (fun pre σ => σ.ρ "box" = some (.ptr bx) ∧ σ.ρ "wanted" = some (.ptr d) ∧ σ.μ = μ.put d (.dct (wantedD pre))) us ?_ ?_ ⟨by ktf_call "lk", by ktf_call "lk", rfl⟩⟩
  · rintro pre u post ⟨ρ, μ'⟩ e ⟨i1, i2, i3⟩
    dsimp only at i1 i2 i3
    subst i3
    have hl1 := foldk_length pre []
    have hl2 := congrArg List.length e
    rw [List.length_append] at hl2
    rw [List.length_nil] at hl1
    refine ⟨.inl rfl, ?_⟩
    ktf_call "go"
    refine ⟨d, _, _, rfl, by ktf_call "mm", PutK.dct (by ktf_call "mm") (by unfold wantedD; omega), ?_⟩
    ktf_call "go"
    refine ⟨by ktf_call "lk", by ktf_call "lk", ?_⟩
    try dsimp only
    rw [Mem.put_put]
    congr 2
    unfold wantedD
    rw [List.foldl_append]; rfl
  · rintro ⟨ρ, μ'⟩ ⟨i1, i2, i3⟩
    dsimp only at i1 i2 i3
    subst i3
    refine ⟨.inl rfl, ?_⟩
    ktf_call "go"
    refine XV.assignComp (IV.lst hh (EV.method0 1 ?_ (cls_box _) (f := 143) (by kernel_rfl) (by kernel_rfl) (by kernel_rfl) hr)) (by ktf_call "st")
    ktf_call "go"
    refine ⟨.inl ⟨bx, dx, _, rfl, by ktf_call "mm", by ktf_call "mm", rfl⟩, (fn_uids (b := b) (dx := dx) (ls := ls) (by ktf_call "mm") (by ktf_call "mm") (by ktf_call "mm") (by omega)).mono fun t μ' ⟨e1, e2⟩ => ?_⟩
    subst e1 e2
    refine ⟨_, by ktf_call "seq", comp1f (ls.map (·.uid)) .int .int (fun u => decide (u ∈ us)) [("wanted", .ptr d)] (by rw [List.length_map]; omega) (by ktf_call "seq") ⟨⟨by ktf_call "lk", by kernel_rfl, by kernel_rfl⟩, trivial⟩ (fun C l hl' => ?_) (fun C l hl' hq => ?_) ?_⟩
    · ktf_call "go"
      refine ⟨_, CK.in_dct (.inr ⟨_, rfl, by ktf_call "mm"⟩), ?_⟩
      exact ⟨wantedD_has, rfl⟩
    · ktf_call "go"
      exact ⟨rfl, rfl⟩
    have hll : ((ls.map (·.uid)).filter (fun u => decide (u ∈ us))).length ≤ 500 := Nat.le_trans (List.length_filter_le _ _) (by rw [List.length_map]; exact hn)
    generalize hth : (ls.map (·.uid)).filter (fun u => decide (u ∈ us)) = there at *
    rw [show there.map Tree.int = intsT there from rfl]
    ktf_call "go"
    refine EV.list ?_
    ktf_call "go"
    refine ⟨_, CK.eq_nil (.inl rfl) (.inl rfl) (hr.le (by decide)), ?_⟩
    rw [intsT_length]
    ktf_call "goS"
    · rename_i hq
      replace hq := List.eq_nil_of_length_eq_zero hq
      refine EV.list ?_
      ktf_call "go"
      exact ⟨μ, .put hd (.refl _), there, rfl, by rw [hq]; rfl, .inl ⟨hq, rfl⟩⟩
    · rename_i hq
      refine EV.callF 176 1 (hr.le (by decide)) ?_
      ktf_call "go"
      refine (fn_raised (b := b) (dx := dx) (by ktf_call "mm") (by ktf_call "mm")).mono fun t μ' ⟨e1, e2⟩ => ?_
      subst e1 e2
      refine SV.cons (XV.setBox (EV.compM (IV.lst hh ?_)))
      ktf_call "go"
      refine ⟨ls.map letT, .inr ⟨_, rfl, by ktf_call "mm"⟩, comp1f ls letT letT (fun l => !decide (l.uid ∈ us)) [("wanted", .ptr d)] (by omega) (.inr ⟨_, rfl, by ktf_call "mm"⟩) ⟨⟨by ktf_call "lk", by kernel_rfl, by kernel_rfl⟩, trivial⟩ (fun C l hl' => ?_) (fun C l hl' hq => ?_) fun D hD => ?_⟩
      · ktf_call "go"
        refine ⟨_, CK.notin_dct (.inr ⟨_, rfl, by ktf_call "mm"⟩), ?_⟩
        exact ⟨by rw [wantedD_has], rfl⟩
      · ktf_call "go"
        exact ⟨rfl, rfl⟩
      obtain ⟨hD1, k1⟩ := Mem.put_none hD
      obtain ⟨hD2, k2⟩ := Mem.put_none hD1
      have k3 : D ≠ bx := (Mem.ne_of h1 hD2).symm
      ktf_call "go"
      refine EV.comp (IV.lst hh ?_)
      ktf_call "go"
      refine ⟨intsT there, .inl rfl, comp1 there .int (fun u => pairT (u, b.top + 1)) [("modseq", .int (b.top + 1))] (by omega) (.inl rfl) ⟨⟨by ktf_call "lk", by kernel_rfl, by kernel_rfl⟩, trivial⟩ (fun C l hl' => ?_) ?_⟩
      · ktf_call "go"
        exact ⟨rfl, rfl⟩
      refine ⟨b.gone.map pairT, there.map fun u => pairT (u, b.top + 1), .inl rfl, .inl rfl, by rw [List.length_map, List.length_map]; omega, ?_⟩
      have eg : b.gone.map pairT ++ (there.map fun u => pairT (u, b.top + 1)) = (b.gone ++ there.map fun u => (u, b.top + 1)).map pairT := by
        rw [List.map_append, List.map_map]; rfl
      rw [eg]
      ktf_call "go"
      refine ⟨_, ?_, there, rfl, rfl, .inr ⟨fun q => hq (by rw [q]; rfl), D, hD2, rfl⟩⟩
      try dsimp only
      intro z mo h
      unfold Mem.put at h ⊢
      by_cases q1 : z = dx
      · rw [if_pos q1] at h ⊢; exact h
      · rw [if_neg q1] at h ⊢
        rw [if_neg q1]
        by_cases q2 : z = D
        · rw [if_pos q2] at h ⊢; exact h
        · rw [if_neg q2] at h ⊢
          have q3 : z ≠ d := fun q => by rw [q, hd] at h; cases h
          rw [if_neg q1, if_neg q3]; exact h
end

section
variable {c : Cx} {σ : St}
theorem GK.last {u t : Tree} {L : List Tree} (h : SeqOf σ u (L ++ [t])) (hl : L.length ≤ 1000) : GK c σ u (.int (-1)) t :=
  GK.seq (j := L.length) h (.inr ⟨by decide, by simp; omega, by simp; omega⟩) (by simp) (by simp; omega)
theorem PutK.last {a : Addr} {L : List Tree} {t t' : Tree} (ha : σ.μ a = some (.lst (L ++ [t]))) (hl : L.length ≤ 1000) : PutK c σ a (.int (-1)) t' (.lst (L ++ [t'])) := by
  have := PutK.lst (c := c) (k := -1) (j := L.length) (t := t') ha (.inr ⟨by decide, by simp; omega, by simp; omega⟩) (by simp) (by simp; omega)
  rwa [List.set_append_right _ _ (Nat.le_refl _), Nat.sub_self, List.set_cons_zero] at this
end

/-! ### ranges that are put together -/
noncomputable def dup (n : Int) : Int × Int := (n, n)
noncomputable def mergeStep (out : List (Int × Int)) (n : Int) : List (Int × Int) := match out.getLast? with
  | some p => if n ≤ p.2 + 1 then out.dropLast ++ [(p.1, max p.2 n)] else out ++ [(n, n)]
  | none => [(n, n)]
noncomputable def merged (ns : List Int) : List (Int × Int) := ns.foldl mergeStep []

structure MOk (pre : List Int) (out : List (Int × Int)) : Prop where
  mem : ∀ m, (∃ p ∈ out, p.1 ≤ m ∧ m ≤ p.2) ↔ m ∈ pre
  up : out.Pairwise fun p q => p.2 < q.1
  le : ∀ p ∈ out, p.1 ≤ p.2
  len : out.length ≤ pre.length
theorem MOk.step {pre : List Int} {out : List (Int × Int)} {n : Int} (h : MOk pre out) (hn : ∀ m ∈ pre, m < n) : MOk (pre ++ [n]) (mergeStep out n) := by
  rcases List.eq_nil_or_concat out with rfl | ⟨L, b, rfl⟩
  · refine ⟨fun m => ?_, by simp [mergeStep], by simp [mergeStep], by simp [mergeStep]⟩
    have := h.mem m
    simp only [List.not_mem_nil, false_and, exists_false, false_iff] at this
    simp only [mergeStep, List.getLast?_nil, List.mem_singleton, exists_eq_left, List.mem_append, this, false_or]
    omega
  · rw [List.concat_eq_append] at h ⊢
    have hb2 : b.2 ∈ pre := (h.mem b.2).mp ⟨b, by simp, h.le b (by simp), Int.le_refl _⟩
    have hbn := hn _ hb2
    have hble := h.le b (by simp)
    have hup := List.pairwise_append.mp h.up
    have hlen := h.len
    simp only [List.length_append, List.length_singleton] at hlen
    have em : mergeStep (L ++ [b]) n = if n ≤ b.2 + 1 then L ++ [(b.1, max b.2 n)] else L ++ [b] ++ [(n, n)] := by
      unfold mergeStep
      simp
    rw [em]
    split
    · rename_i hle
      have hmx : max b.2 n = n := by omega
      rw [hmx]
      refine ⟨fun m => ?_, ?_, fun p hp => ?_, by simp; omega⟩
      · have hm := h.mem m
        constructor
        · rintro ⟨p, hp, h1, h2⟩
          rcases List.mem_append.mp hp with hp | hp
          · exact List.mem_append_left _ (hm.mp ⟨p, List.mem_append_left _ hp, h1, h2⟩)
          · rw [List.mem_singleton] at hp; subst hp
            dsimp only at h1 h2
            by_cases q : m = n
            · subst q; simp
            · exact List.mem_append_left _ (hm.mp ⟨b, by simp, h1, by omega⟩)
        · intro hmm
          rcases List.mem_append.mp hmm with hmm | hmm
          · obtain ⟨p, hp, h1, h2⟩ := hm.mpr hmm
            rcases List.mem_append.mp hp with hp | hp
            · exact ⟨p, List.mem_append_left _ hp, h1, h2⟩
            · rw [List.mem_singleton] at hp; subst hp
              exact ⟨(p.1, n), by simp, h1, by dsimp only; omega⟩
          · rw [List.mem_singleton] at hmm; subst hmm
            exact ⟨(b.1, m), by simp, by dsimp only; omega, Int.le_refl _⟩
      · refine List.pairwise_append.mpr ⟨hup.1, by simp, fun p hp q hq => ?_⟩
        rw [List.mem_singleton] at hq; subst hq
        exact hup.2.2 p hp b (by simp)
      · rcases List.mem_append.mp hp with hp | hp
        · exact h.le p (List.mem_append_left _ hp)
        · rw [List.mem_singleton] at hp; subst hp; dsimp only; omega
    · rename_i hle
      refine ⟨fun m => ?_, ?_, fun p hp => ?_, by simp; omega⟩
      · have hm := h.mem m
        constructor
        · rintro ⟨p, hp, h1, h2⟩
          rcases List.mem_append.mp hp with hp | hp
          · exact List.mem_append_left _ (hm.mp ⟨p, hp, h1, h2⟩)
          · rw [List.mem_singleton] at hp; subst hp
            dsimp only at h1 h2
            have : m = n := by omega
            subst this; simp
        · intro hmm
          rcases List.mem_append.mp hmm with hmm | hmm
          · obtain ⟨p, hp, h1, h2⟩ := hm.mpr hmm
            exact ⟨p, List.mem_append_left _ hp, h1, h2⟩
          · rw [List.mem_singleton] at hmm; subst hmm
            exact ⟨(m, m), by simp, Int.le_refl _, Int.le_refl _⟩
      · refine List.pairwise_append.mpr ⟨h.up, by simp, fun p hp q hq => ?_⟩
        rw [List.mem_singleton] at hq; subst hq
        have : p.2 ∈ pre := (h.mem p.2).mp ⟨p, hp, h.le p hp, Int.le_refl _⟩
        have hp2 : p.2 ≤ b.2 := by
          rcases List.mem_append.mp hp with hp | hp
          · have := hup.2.2 p hp b (by simp); omega
          · rw [List.mem_singleton] at hp; subst hp; omega
        dsimp only; omega
      · rcases List.mem_append.mp hp with hp | hp
        · exact h.le p hp
        · rw [List.mem_singleton] at hp; subst hp; exact Int.le_refl _
theorem MOk.fold : ∀ (ns pre : List Int) (out : List (Int × Int)), MOk pre out → (pre ++ ns).Pairwise (· < ·) → MOk (pre ++ ns) (ns.foldl mergeStep out)
  | [], pre, out, h, _ => by simpa using h
  | n :: ns, pre, out, h, hp => by
    have h1 := h.step (n := n) fun m hm => (List.pairwise_append.mp hp).2.2 m hm n (List.mem_cons_self ..)
    have := MOk.fold ns (pre ++ [n]) _ h1 (by simpa using hp)
    simpa using this
theorem merged_ok {ns : List Int} (h : ns.Pairwise (· < ·)) : MOk ns (merged ns) := by
  have := MOk.fold ns [] [] ⟨fun m => by simp, .nil, by simp, by simp⟩ (by simpa using h)
  rw [List.nil_append] at this
  exact this
theorem merged_snoc {pre : List Int} {n : Int} : merged (pre ++ [n]) = mergeStep (merged pre) n := by unfold merged; rw [List.foldl_append]; rfl
theorem merged_length (ns : List Int) : (merged ns).length ≤ ns.length := by
  have step : ∀ out n, (mergeStep out n).length ≤ out.length + 1 := fun out n => by
    unfold mergeStep
    split
    · split
      · rw [List.length_append, List.length_dropLast, List.length_singleton]; omega
      · simp
    · simp
  have key : ∀ (ns : List Int) (out : List (Int × Int)), (ns.foldl mergeStep out).length ≤ out.length + ns.length := by
    intro ns
    induction ns with
    | nil => intro out; simp
    | cons n ns ih =>
      intro out
      have := ih (mergeStep out n)
      have := step out n
      simp only [List.foldl_cons, List.length_cons]; omega
  have := key ns []
  rw [List.length_nil, Nat.zero_add] at this
  exact this

section
variable {G : GS} {μ : Mem} {bx dx lx : Addr} {b : BX} {ls : List LT}

noncomputable def sgl (ns : List Int) : List Tree := ns.map fun n => pairT (dup n)
theorem sgl_eq {ns : List Int} : sgl ns = (ns.map dup).map pairIT := by rw [List.map_map]; rfl
theorem sgl_length {ns : List Int} : (sgl ns).length = ns.length := List.length_map ..
theorem sgl_snoc {pre : List Int} {n : Int} : sgl (pre ++ [n]) = sgl pre ++ [pairT (dup n)] := by unfold sgl; rw [List.map_append]; rfl
theorem fn_ends_same {n g : Int} (h : 1 ≤ n) (hg : n ≤ g) : PF G 1 202 [.tup [.int n, .int n], .int g] μ (pairT (dup n)) := by
  have ee : endsOf n n g = some (n, n) := by
    unfold endsOf
    rw [if_neg (by omega), if_neg (by omega)]
    congr 2 <;> omega
  have := fn_ends_of (G := G) (μ := μ) (lo := n) (hi := n) (g := g)
  rw [ee] at this
  exact this
theorem fn_plain_set {ns : List Int} {g : Int} (hns : ns.Pairwise (· < ·)) (h1 : ∀ n ∈ ns, 1 ≤ n ∧ n ≤ g) (hl : ns.length < 64) (hg : 1 ≤ g) :
    PF G 2 209 [.tup (sgl ns), .int g] μ (.tup ((merged ns).map pairT)) := by
  refine FN.pureOf (ns := ["some", "greatest"]) fun A L hr => ?_
  have hh := hr.1
  ktf_call "go"
  refine EV.listM ?_
  ktf_call "go"
  intro a ha
  ktf_call "go"
  refine XV.for (IV.tup hh ?_)
  ktf_call "go"
  refine Loop.inv (g := fun n => pairT (dup n)) (fun pre σ => σ.ρ "greatest" = some (.int g) ∧ σ.ρ "pairs" = some (.ptr a) ∧ σ.μ = μ.put a (.lst (sgl pre))) ns ?_ ?_ ⟨by ktf_call "lk", by ktf_call "lk", rfl⟩
  · rintro pre n post ⟨ρ, μ'⟩ e ⟨i1, i2, i3⟩
    dsimp only at i1 i2 i3
    subst i3
    have hn := h1 n (by rw [e]; simp)
    have hl2 := congrArg List.length e
    rw [List.length_append] at hl2
    refine ⟨trivial, ?_⟩
    ktf_call "go"
    refine EV.callP 202 1 hr ?_
    ktf_call "go"
    refine ⟨_, fn_ends_same hn.1 hn.2, ?_⟩
    ktf_call "goS"
    refine XV.append ?_
    ktf_call "go"
    refine ⟨_, _, rfl, by ktf_call "mm", ?_⟩
    ktf_call "go"
    refine ⟨_, _, rfl, by ktf_call "mm", by rw [sgl_length]; omega, ?_⟩
    ktf_call "go"
    refine ⟨by ktf_call "lk", by ktf_call "lk", ?_⟩
    try dsimp only
    rw [Mem.put_put, sgl_snoc]; rfl
  · rintro ⟨ρ, μ'⟩ ⟨i1, i2, i3⟩
    dsimp only at i1 i2 i3
    subst i3
    refine ⟨trivial, ?_⟩
    refine SV.cons (XV.sortDone ?_)
    ktf_call "go"
    refine ⟨a, ns.map dup, rfl, by rw [← sgl_eq]; exact Mem.put_self, ?_, by rw [List.length_map]; exact hl, ?_⟩
    · rw [List.pairwise_map]; exact hns
    ktf_call "go"
    refine EV.listM ?_
    ktf_call "go"
    intro o ho
    have hoa : o ≠ a := (Mem.put_none ho).2
    have hao : a ≠ o := hoa.symm
    ktf_call "go"
    refine XV.for (IV.lst hh ?_)
    ktf_call "go"
    refine ⟨sgl ns, .inr ⟨_, rfl, by ktf_call "mm"⟩, ?_⟩
    refine Loop.inv (g := fun n => pairT (dup n)) (fun pre σ => σ.ρ "out" = some (.ptr o) ∧ σ.μ = (μ.put a (.lst (sgl ns))).put o (.lst ((merged pre).map pairT))) ns ?_ ?_ ⟨by ktf_call "lk", rfl⟩
    · rintro pre n post ⟨ρ, μ'⟩ e ⟨i1, i2⟩
      dsimp only at i1 i2
      subst i2
      have hl2 := congrArg List.length e
      rw [List.length_append] at hl2
      have hml := merged_length pre
      refine ⟨.inr ⟨a, rfl, by ktf_call "mm"⟩, ?_⟩
      rcases List.eq_nil_or_concat (merged pre) with hm | ⟨M, w, hm⟩
      · have hs : merged (pre ++ [n]) = [(n, n)] := by rw [merged_snoc, hm]; rfl
        rw [hm]
        ktf_call "goS"
        all_goals first
          | (exfalso; rename_i hpos; exact absurd hpos (by decide))
          | skip
        refine XV.append ?_
        ktf_call "go"
        refine ⟨_, _, rfl, by ktf_call "mm", ?_⟩
        ktf_call "go"
        refine ⟨_, _, rfl, by ktf_call "mm", by ktf_call "len", ?_⟩
        ktf_call "go"
        refine ⟨by ktf_call "lk", ?_⟩
        try dsimp only
        rw [Mem.put_put, hs]; rfl
      · rw [List.concat_eq_append] at hm
        have em : (merged pre).map pairT = M.map pairT ++ [pairT w] := by rw [hm, List.map_append]; rfl
        have hml' : M.length ≤ 1000 := by rw [hm, List.length_append] at hml; omega
        have hs : merged (pre ++ [n]) = if n ≤ w.2 + 1 then M ++ [(w.1, max w.2 n)] else M ++ [w] ++ [(n, n)] := by
          rw [merged_snoc, hm]
          unfold mergeStep
          simp
        rw [em]
        ktf_call "goS"
        · refine ⟨_, GK.last (.inr (.inr ⟨_, rfl, by ktf_call "mm"⟩)) (by rw [List.length_map]; exact hml'), ?_⟩
          ktf_call "goS"
          · rename_i hle
            change n ≤ w.2 + 1 at hle
            refine ⟨_, GK.last (.inr (.inr ⟨_, rfl, by ktf_call "mm"⟩)) (by rw [List.length_map]; exact hml'), ?_⟩
            ktf_call "go"
            refine ⟨_, GK.last (.inr (.inr ⟨_, rfl, by ktf_call "mm"⟩)) (by rw [List.length_map]; exact hml'), ?_⟩
            ktf_call "go"
            refine ⟨o, _, _, rfl, by ktf_call "mm", PutK.last (by ktf_call "mm") (by rw [List.length_map]; exact hml'), ?_⟩
            ktf_call "go"
            refine ⟨by ktf_call "lk", ?_⟩
            try dsimp only
            rw [Mem.put_put, hs, if_pos hle, List.map_append]; rfl
          · rename_i hle
            change ¬ n ≤ w.2 + 1 at hle
            refine XV.append ?_
            ktf_call "go"
            refine ⟨_, _, rfl, by ktf_call "mm", ?_⟩
            ktf_call "go"
            refine ⟨_, _, rfl, by ktf_call "mm", by rw [List.length_append, List.length_map, List.length_singleton]; omega, ?_⟩
            ktf_call "go"
            refine ⟨by ktf_call "lk", ?_⟩
            try dsimp only
            rw [Mem.put_put, hs, if_neg hle, List.map_append, List.map_append]; rfl
        · rename_i hno
          rw [List.length_append, List.length_singleton] at hno
          omega
    · rintro ⟨ρ, μ'⟩ ⟨i1, i2⟩
      dsimp only at i1 i2
      subst i2
      have hml := merged_length ns
      refine ⟨.inr ⟨a, rfl, by ktf_call "mm"⟩, ?_⟩
      refine SV.cons (XV.ret (EV.cTuple ?_))
      ktf_call "go"
      exact ⟨rfl, .put (Mem.put_none ho).1 (.put ha (.refl _))⟩

/-- the uids 1 .. g -/
noncomputable def upTo (g : Nat) : List Int := (List.range g).map fun j => 1 + (j : Nat)
theorem upTo_length {g : Nat} : (upTo g).length = g := by simp [upTo]
theorem upTo_get {g j : Nat} (h : j < g) : (upTo g)[j]? = some (1 + (j : Nat)) := by simp [upTo, h]
theorem upTo_split {g : Nat} {pre post : List Int} {n : Int} (e : upTo g = pre ++ n :: post) : n = (pre.length : Int) + 1 := by
  have h : (upTo g)[pre.length]? = some n := by rw [e]; simp
  have hlt : pre.length < g := by
    have := congrArg List.length e
    rw [upTo_length] at this; simp at this; omega
  rw [upTo_get hlt] at h
  cases h; omega

theorem filter_next : ∀ {ns : List Int}, ns.Pairwise (· < ·) → ∀ n, ns.filter (fun m => decide (m < n + 1)) = ns.filter (fun m => decide (m < n)) ++ (if n ∈ ns then [n] else [])
  | [], _, n => by simp
  | x :: ns, h, n => by
    have hx := (List.pairwise_cons.mp h).1
    have ih := filter_next (List.pairwise_cons.mp h).2 n
    have none : n ≤ x → ns.filter (fun m => decide (m < n + 1)) = [] ∧ ns.filter (fun m => decide (m < n)) = [] ∧ n ∉ ns := fun hle => by
      refine ⟨?_, ?_, fun hm => ?_⟩
      · rw [List.filter_eq_nil_iff]; intro m hm; have := hx m hm; simp; omega
      · rw [List.filter_eq_nil_iff]; intro m hm; have := hx m hm; simp; omega
      · have := hx n hm; omega
    rcases Int.lt_trichotomy x n with q | q | q
    · rw [List.filter_cons_of_pos (by simp; omega), List.filter_cons_of_pos (by simp; omega), ih]
      have e : (n ∈ x :: ns) = (n ∈ ns) := by rw [List.mem_cons]; exact propext ⟨fun z => z.elim (fun z => by omega) id, .inr⟩
      simp only [e]; rfl
    · subst q
      obtain ⟨a1, a2, a3⟩ := none (Int.le_refl _)
      rw [List.filter_cons_of_pos (by simp; omega), List.filter_cons_of_neg (by simp), a1, a2, if_pos (List.mem_cons_self ..)]; rfl
    · obtain ⟨a1, a2, a3⟩ := none (by omega)
      rw [List.filter_cons_of_neg (by simp; omega), List.filter_cons_of_neg (by simp; omega), a1, a2, if_neg (by rw [List.mem_cons]; rintro (z | z); omega; exact a3 z)]; rfl

theorem fn_members {ns : List Int} {g : Nat} (hns : ns.Pairwise (· < ·)) (h1 : ∀ n ∈ ns, 1 ≤ n ∧ n ≤ g) (hl : ns.length < 64) (hg : g ≤ 1000) :
    PF G 3 223 [.tup (sgl ns), .lst (intsT (upTo g))] μ (.lst (intsT ns)) := by
  refine FN.pureOf (ns := ["some", "numbers"]) fun A L hr => ?_
  have hh := hr.1
  have hlen : (intsT (upTo g)).length = g := by rw [intsT_length, upTo_length]
  ktf_call "go"
  rw [hlen]
  ktf_call "goS"
  · rename_i h0
    refine EV.list ?_
    ktf_call "go"
    refine ⟨?_, .refl _⟩
    have : ns = [] := by
      cases ns with
      | nil => rfl
      | cons n ns => have := h1 n (List.mem_cons_self ..); omega
    rw [this]; rfl
  · rename_i h0
    have hg1 : 1 ≤ g := by omega
    refine EV.callP 209 2 hr ?_
    ktf_call "go"
    refine ⟨.int g, GK.seq (j := g - 1) (.inl rfl) (.inr ⟨by decide, by rw [hlen]; omega, by rw [hlen]; omega⟩) (by
      rw [intsT, List.getElem?_map, upTo_get (by omega)]
      show some (Tree.int _) = _
      congr 2; omega) (by rw [hlen]; omega), ?_⟩
    ktf_call "go"
    refine ⟨_, fn_plain_set hns h1 hl (by omega), ?_⟩
    ktf_call "go"
    refine EV.listM ?_
    ktf_call "go"
    intro o ho
    have mo := merged_ok hns
    have mlen := merged_length ns
    generalize merged ns = ps at *
    have plen : (ps.map pairT).length = ps.length := List.length_map ..
    ktf_call "go"
    refine XV.for (IV.lst hh ?_)
    ktf_call "go"
    refine ⟨_, .inl rfl, ?_⟩
    refine Loop.inv (g := Tree.int) (fun pre σ => ∃ at' : Nat, at' ≤ ps.length ∧ (∀ i p, ps[i]? = some p → i < at' → p.2 < (pre.length : Int) + 1) ∧ σ.ρ "out" = some (.ptr o) ∧ σ.ρ "pairs" = some (.tup (ps.map pairT)) ∧ σ.ρ "at" = some (.int (at' : Nat)) ∧
      σ.μ = μ.put o (.lst (intsT (ns.filter fun n => decide (n < (pre.length : Int) + 1))))) (upTo g) ?_ ?_ ⟨0, Nat.zero_le _, fun _ _ _ h => absurd h (Nat.not_lt_zero _), by ktf_call "lk", by ktf_call "lk", by ktf_call "lk", ?_⟩
    · rintro pre n post ⟨ρ, μ'⟩ e ⟨k, hk, hb, i1, i2, i3, i4⟩
      dsimp only at i1 i2 i3 i4
      subst i4
      have hn := upTo_split e
      refine ⟨.inl rfl, ?_⟩
      ktf_call "go"
      refine XV.while (fun m σ => ∃ at' : Nat, m = ps.length - at' ∧ at' ≤ ps.length ∧ (∀ i p, ps[i]? = some p → i < at' → p.2 < n) ∧ σ.ρ "out" = some (.ptr o) ∧ σ.ρ "pairs" = some (.tup (ps.map pairT)) ∧ σ.ρ "at" = some (.int (at' : Nat)) ∧ σ.ρ "number" = some (.int n) ∧
        σ.μ = μ.put o (.lst (intsT (ns.filter fun n => decide (n < (pre.length : Int) + 1))))) (ps.length - k) ⟨k, rfl, hk, fun i p h1 h2 => by have := hb i p h1 h2; omega, by ktf_call "lk", by ktf_call "lk", by ktf_call "lk", by ktf_call "lk", rfl⟩ ?_
      rintro m ⟨ρ, μ'⟩ ⟨at', rfl, h1', h2', j1, j2, j3, j4, j5⟩
      dsimp only at j1 j2 j3 j4 j5
      subst j5
      have get : ∀ {q}, ps[at']? = some q → ∀ {σ' : St} {cc : Cx}, GK cc σ' (.tup (ps.map pairT)) (.int (at' : Nat)) (pairT q) := fun hq => GK.at _ (.inr (.inl rfl)) (by rw [List.getElem?_map, hq]; rfl) (by rw [plen]; omega)
      refine TV.to (match ps[at']? with | some q => decide (q.2 < n) | none => false) ?_ ?_
      · ktf_call "go"
        rw [plen]
        ktf_call "goS"
        · rename_i hlt
          obtain ⟨q, hq⟩ : ∃ q, ps[at']? = some q := ⟨_, List.getElem?_eq_getElem (by omega)⟩
          refine ⟨_, get hq, ?_⟩
          rw [hq]
          ktf_call "goS"
          · rename_i h; exact ⟨by simp [h], rfl⟩
          · rename_i h; exact ⟨by simp at h; simp [h], rfl⟩
        · rename_i hlt
          rw [List.getElem?_eq_none (by omega)]
          exact ⟨rfl, rfl⟩
      · refine ite_b (fun h => ?_) (fun h => ?_)
        · cases hq : ps[at']? with
          | none => rw [hq] at h; cases h
          | some q =>
            rw [hq] at h
            have hqn : q.2 < n := by simpa using h
            have hlt := (List.getElem?_eq_some_iff.mp hq).1
            refine SV.cons (XV.aug_add (a := (at' : Nat)) (by ktf_call "lk") ?_ (by ktf_call "st"))
            ktf_call "go"
            refine ⟨ps.length - (at' + 1), by omega, at' + 1, rfl, by omega, fun i p h1 h2 => ?_, by ktf_call "lk", by ktf_call "lk", by ktf_call "lk", by ktf_call "lk", rfl⟩
            by_cases e' : i = at'
            · subst e'; rw [hq] at h1; cases h1; exact hqn
            · exact h2' i p h1 (by omega)
        · have hno : ∀ q, ps[at']? = some q → n ≤ q.2 := fun q hq => by rw [hq] at h; simpa using h
          have after : ∀ i q, ps[i]? = some q → at' ≤ i → n ≤ q.2 := fun i q hq hi => by
            have hlt := (List.getElem?_eq_some_iff.mp hq)
            by_cases e' : i = at'
            · subst e'; exact hno q hq
            · have hlt1 := hlt.1
              have hlt' : at' < ps.length := by omega
              have := List.pairwise_iff_getElem.mp mo.up at' i hlt' hlt.1 (by omega)
              rw [hlt.2] at this
              have h3 := mo.le q (List.mem_of_getElem? hq)
              have h4 := hno _ (List.getElem?_eq_getElem hlt')
              omega
          have hin : n ∈ ns ↔ ∃ q, ps[at']? = some q ∧ q.1 ≤ n := by
            rw [← mo.mem n]
            constructor
            · rintro ⟨q, hq, q1, q2⟩
              obtain ⟨i, hi, rfl⟩ := List.getElem_of_mem hq
              have hi' := List.getElem?_eq_getElem hi
              have hge : at' ≤ i := by
                rcases Nat.lt_or_ge i at' with z | z
                · have := h2' i _ hi' z; omega
                · exact z
              have hlt' : at' < ps.length := by omega
              refine ⟨_, List.getElem?_eq_getElem hlt', ?_⟩
              by_cases e' : i = at'
              · subst e'; exact q1
              · have := List.pairwise_iff_getElem.mp mo.up at' i hlt' hi (by omega)
                have h4 := hno _ (List.getElem?_eq_getElem hlt')
                have h3 := mo.le _ (List.getElem_mem hlt')
                omega
            · rintro ⟨q, hq, q1⟩
              exact ⟨q, List.mem_of_getElem? hq, q1, hno q hq⟩
          have next : ns.filter (fun m => decide (m < ((pre ++ [n]).length : Int) + 1)) = ns.filter (fun m => decide (m < (pre.length : Int) + 1)) ++ (if n ∈ ns then [n] else []) := by
            have el : ((pre ++ [n]).length : Int) = n := by rw [List.length_append, List.length_singleton, hn]; push_cast; omega
            rw [el, ← hn]
            exact filter_next hns n
          have el : ((pre ++ [n]).length : Int) = n := by rw [List.length_append, List.length_singleton, hn]; push_cast; omega
          have hf1 := List.length_filter_le (fun m => decide (m < (pre.length : Int) + 1)) ns
          ktf_call "go"
          rw [plen]
          ktf_call "goS"
          · rename_i hlt
            obtain ⟨q, hq⟩ : ∃ q, ps[at']? = some q := ⟨_, List.getElem?_eq_getElem (by omega)⟩
            refine ⟨_, get hq, ?_⟩
            ktf_call "goS"
            · rename_i hle
              have hm : n ∈ ns := hin.mpr ⟨q, hq, hle⟩
              rw [if_pos hm] at next
              refine XV.append ?_
              ktf_call "go"
              refine ⟨_, _, rfl, by ktf_call "mm", ?_⟩
              ktf_call "go"
              refine ⟨_, _, rfl, by ktf_call "mm", by rw [intsT_length]; omega, ?_⟩
              ktf_call "go"
              refine ⟨at', h1', fun i p a1 a2 => by rw [el]; have := h2' i p a1 a2; omega, by ktf_call "lk", by ktf_call "lk", by ktf_call "lk", ?_⟩
              try dsimp only
              rw [Mem.put_put, next, intsT, intsT, List.map_append]; rfl
            · rename_i hle
              have hm : n ∉ ns := fun hm => by
                obtain ⟨q', hq', hle'⟩ := hin.mp hm
                rw [hq] at hq'; cases hq'; exact hle hle'
              rw [if_neg hm, List.append_nil] at next
              refine ⟨at', h1', fun i p a1 a2 => by rw [el]; have := h2' i p a1 a2; omega, by ktf_call "lk", by ktf_call "lk", by ktf_call "lk", ?_⟩
              try dsimp only
              rw [next]
          · rename_i hlt
            have hm : n ∉ ns := fun hm => by
              obtain ⟨q', hq', hle'⟩ := hin.mp hm
              have := (List.getElem?_eq_some_iff.mp hq').1
              omega
            rw [if_neg hm, List.append_nil] at next
            refine ⟨at', h1', fun i p a1 a2 => by rw [el]; have := h2' i p a1 a2; omega, by ktf_call "lk", by ktf_call "lk", by ktf_call "lk", ?_⟩
            try dsimp only
            rw [next]
    · rintro ⟨ρ, μ'⟩ ⟨k, hk, hb, i1, i2, i3, i4⟩
      dsimp only at i1 i2 i3 i4
      subst i4
      refine ⟨.inl rfl, ?_⟩
      refine SV.cons (XV.ret (EV.freezeL ?_))
      ktf_call "go"
      refine ⟨o, _, rfl, Mem.put_self, ?_⟩
      ktf_call "go"
      refine ⟨?_, ?_⟩
      · rw [upTo_length, List.filter_eq_self.mpr]
        intro n hn
        have := h1 n hn
        simp; omega
      · try dsimp only
        rw [Mem.drop_put ho]; exact .refl _
    · show _ = μ.put o (.lst (intsT (ns.filter fun n => decide (n < ((0 : Nat) : Int) + 1))))
      have : ns.filter (fun n => decide (n < ((0 : Nat) : Int) + 1)) = [] := by
        rw [List.filter_eq_nil_iff]
        intro n hn
        have := h1 n hn
        simp; omega
      rw [this]; rfl
end

section
variable {G : GS} {μ : Mem} {bx dx lx : Addr} {b : BX} {ls : List LT}

/-- pairs of number and uid as the law draws them -/
structure HPok (hp : List (Int × Int)) (g : Nat) : Prop where
  up1 : (hp.map (·.1)).Pairwise (· < ·)
  up2 : (hp.map (·.2)).Pairwise (· < ·)
  in1 : ∀ n ∈ hp.map (·.1), (1 : Int) ≤ n ∧ n ≤ (g : Int)
  in2 : ∀ n ∈ hp.map (·.2), (1 : Int) ≤ n ∧ n ≤ (g : Int)
  len : hp.length < 64
noncomputable def matchT (hp : List (Int × Int)) : Tree := .tup [.tup (sgl (hp.map (·.1))), .tup (sgl (hp.map (·.2)))]
theorem rangeT_upTo {g : Nat} : rangeT 1 g = intsT (upTo g) := by unfold rangeT upTo intsT; rw [List.map_map]; rfl
theorem zipT_pairs (hp : List (Int × Int)) : zipT (intsT (hp.map (·.1))) (intsT (hp.map (·.2))) = hp.map pairT := by
  induction hp with
  | nil => rfl
  | cons p hp ih =>
    show Tree.tup _ :: zipT _ _ = _
    rw [List.map_cons, ← ih]; rfl

theorem fn_held_pairs {hp : List (Int × Int)} {g : Nat} (h : HPok hp g) (hg : g ≤ 999) : PF G 4 258 [matchT hp, .int g] μ (.lst (hp.map pairT)) := by
  refine FN.pureOf (ns := ["match", "greatest"]) fun A L hr => ?_
  have hh := hr.1
  ktf_call "go"
  refine EV.listRange hh rfl rfl ?_
  ktf_call "go"
  have eg : ((g : Int) + 1 - 1).toNat = g := by omega
  refine ⟨by decide, by decide, by omega, by omega, by omega, ?_⟩
  rw [eg, rangeT_upTo]
  ktf_call "go"
  refine EV.callP 223 3 hr ?_
  ktf_call "go"
  refine ⟨_, fn_members h.up1 h.in1 (by rw [List.length_map]; exact h.len) (by omega), ?_⟩
  ktf_call "go"
  refine EV.callP 223 3 hr ?_
  ktf_call "go"
  refine ⟨_, fn_members h.up2 h.in2 (by rw [List.length_map]; exact h.len) (by omega), ?_⟩
  have hl := h.len
  have e1 : (intsT (hp.map (·.1))).length = hp.length := by rw [intsT_length, List.length_map]
  have e2 : (intsT (hp.map (·.2))).length = hp.length := by rw [intsT_length, List.length_map]
  ktf_call "goS"
  · rename_i hne
    rw [e1, e2] at hne
    exact absurd rfl hne
  · refine EV.listZip hh rfl rfl ?_
    ktf_call "go"
    refine ⟨_, _, _, _, rfl, .inl rfl, .inl rfl, by rw [e1, e2], by rw [e1]; omega, ?_⟩
    rw [zipT_pairs]
    exact ⟨rfl, .refl _⟩

noncomputable def agreed (ls : List LT) (hp : List (Int × Int)) : Int := hp.foldl (fun best p => if placeOf ls p.2 + 1 = p.1 then p.2 else best) 0
theorem fn_agreed {hp : List (Int × Int)} (h1 : μ bx = some (.inst BoxC dx)) (h2 : μ dx = some (.attrs (boxA b))) (hl : μ b.lx = some (.lst (ls.map letT))) (ha : Asc ls) (hn : ls.length ≤ 1000)
    (hb : 1 ≤ b.next) (hb' : b.next ≤ 1000) (h : HPok hp (b.next - 1).toNat) : PF G 5 265 [.ptr bx, matchT hp] μ (.int (agreed ls hp)) := by
  refine FN.pureOf (ns := ["box", "match"]) fun A L hr => ?_
  have hh := hr.1
  ktf_call "go"
  refine XV.for (IV.lst hh (EV.callP 258 4 hr ?_))
  ktf_call "go"
  have eg : b.next - 1 = ((b.next - 1).toNat : Int) := by omega
  rw [eg]
  refine ⟨_, fn_held_pairs h (by omega), ?_⟩
  ktf_call "go"
  refine ⟨_, .inl rfl, ?_⟩
  refine Loop.inv (g := pairT) (fun pre σ => σ.ρ "box" = some (.ptr bx) ∧ σ.ρ "best" = some (.int (agreed ls pre)) ∧ σ.μ = μ) hp ?_ ?_ ⟨by ktf_call "lk", by ktf_call "lk", rfl⟩
  · rintro pre p post ⟨ρ, μ'⟩ e ⟨i1, i2, i3⟩
    dsimp only at i1 i2 i3
    subst i3
    refine ⟨.inl rfl, ?_⟩
    have es : agreed ls (pre ++ [p]) = if placeOf ls p.2 + 1 = p.1 then p.2 else agreed ls pre := by unfold agreed; rw [List.foldl_append]; rfl
    ktf_call "go"
    refine EV.callP 169 2 (hr.le (by decide)) ?_
    ktf_call "go"
    refine ⟨_, fn_number_in h1 h2 hl ha hn, ?_⟩
    ktf_call "goS"
    · rename_i hq
      rw [es, if_pos hq]
      exact ⟨by ktf_call "lk", by ktf_call "lk", rfl⟩
    · rename_i hq
      rw [es, if_neg hq]
      exact ⟨by ktf_call "lk", by ktf_call "lk", rfl⟩
  · rintro ⟨ρ, μ'⟩ ⟨i1, i2, i3⟩
    dsimp only at i1 i2 i3
    subst i3
    refine ⟨.inl rfl, ?_⟩
    ktf_call "go"
    exact ⟨rfl, .refl _⟩

noncomputable def matchO : Option (List (Int × Int)) → Tree
  | none => .none
  | some hp => matchT hp
noncomputable def resyncV (b : BX) (ls : List LT) (q : Int) (known : Option (List (Int × Int))) : Option (List (Int × Int)) → List Int
  | none => vanished b ls q known
  | some hp => if q < b.floor then (vanished b ls q known).filter fun u => decide (agreed ls hp < u) else vanished b ls q known
noncomputable def changedT (ls : List LT) (q : Int) : List Tree := (ls.filter fun l => decide (q < l.modseq)).map letT

theorem vanished_length {q : Int} {known : Option (List (Int × Int))} (hb' : b.next ≤ 1000) (hg : b.gone.length < 64) : (vanished b ls q known).length ≤ 1000 := by
  unfold vanished
  cases known with
  | none => exact found_length hb' hg
  | some ps => exact Nat.le_trans (List.length_filter_le _ _) (found_length hb' hg)

theorem fn_resync_none {v q : Int} {t u : Tree} (h1 : μ bx = some (.inst BoxC dx)) (h2 : μ dx = some (.attrs (boxA b))) (hv : v ≠ 9) : PF G 1 271 [.ptr bx, .int v, .int q, t, u] μ .none := by
  refine FN.pureOf (ns := ["box", "validity", "modseq", "known", "match"]) fun A L hr => ?_
  have hh := hr.1
  ktf_call "goS"
  · exact ⟨rfl, .refl _⟩
  · rename_i hq; exact absurd hq hv

theorem fn_resync {q : Int} {known mt : Option (List (Int × Int))} (h1 : μ bx = some (.inst BoxC dx)) (h2 : μ dx = some (.attrs (boxA b))) (hl : μ b.lx = some (.lst (ls.map letT))) (ha : Asc ls) (hn : ls.length ≤ 1000)
    (hb : 1 ≤ b.next) (hb' : b.next ≤ 1000) (hg : b.gone.length < 64) (hk : ∀ ps, known = some ps → ps.length ≤ 1000) (hm : ∀ hp, mt = some hp → HPok hp (b.next - 1).toNat) :
    PF G 6 271 [.ptr bx, .int 9, .int q, knownT known, matchO mt] μ (.tup [.lst (intsT (resyncV b ls q known mt)), .lst (changedT ls q)]) := by
  refine FN.pureOf (ns := ["box", "validity", "modseq", "known", "match"]) fun A L hr => ?_
  have hh := hr.1
  have hvl := vanished_length (b := b) (ls := ls) (q := q) (known := known) hb' hg
  ktf_call "goS"
  · rename_i hq; exact absurd rfl hq
  refine EV.callP 251 3 (hr.le (by decide)) ?_
  ktf_call "go"
  refine ⟨_, fn_vanished h1 h2 hl ha hn (by omega) hb' hg hk, ?_⟩
  refine SV.cons (XV.mono (Ψ := fun f σ' => f = .next ∧ σ'.μ = μ ∧ σ'.ρ "vanished" = some (.lst (intsT (resyncV b ls q known mt))) ∧ σ'.ρ "box" = some (.ptr bx) ∧ σ'.ρ "modseq" = some (.int q)) ?_ ?_)
  · cases mt with
    | none =>
      unfold matchO resyncV
      ktf_call "goS"
      exact ⟨rfl, rfl, by ktf_call "lk", by ktf_call "lk", by ktf_call "lk"⟩
    | some hp =>
      have hR : resyncV b ls q known (some hp) = if q < b.floor then (vanished b ls q known).filter fun u => decide (agreed ls hp < u) else vanished b ls q known := rfl
      rw [hR]
      unfold matchO matchT
      ktf_call "goS"
      refine EV.callP 235 1 (hr.le (by decide)) ?_
      ktf_call "go"
      refine ⟨_, fn_is_forgotten h1 h2, ?_⟩
      ktf_call "goS"
      · rename_i hf
        refine EV.callP 265 5 hr ?_
        ktf_call "go"
        refine ⟨_, fn_agreed h1 h2 hl ha hn hb hb' (hm hp rfl), ?_⟩
        ktf_call "go"
        refine XV.assignComp (IV.lst hh ?_) (by ktf_call "st")
        ktf_call "go"
        refine ⟨_, .inl rfl, comp1f (vanished b ls q known) .int .int (fun u => decide (agreed ls hp < u)) [("agreed", .int (agreed ls hp))] hvl (.inl rfl) ⟨⟨by ktf_call "lk", by kernel_rfl, by kernel_rfl⟩, trivial⟩ (fun C l hl' => ?_) (fun C l hl' hq => ?_) ?_⟩
        · ktf_call "go"
          exact ⟨rfl, rfl⟩
        · ktf_call "go"
          exact ⟨rfl, rfl⟩
        · ktf_call "go"
          rw [if_pos hf]
          exact ⟨rfl, rfl, by ktf_call "lk", by ktf_call "lk", by ktf_call "lk"⟩
      · rename_i hf
        rw [if_neg hf]
        exact ⟨rfl, rfl, by ktf_call "lk", by ktf_call "lk", by ktf_call "lk"⟩
  · rintro f ⟨ρ, μ'⟩ ⟨rfl, i1, i2, i3, i4⟩
    dsimp only at i1 i2 i3 i4
    subst i1
    ktf_call "go"
    refine EV.callP 228 1 (hr.le (by decide)) ?_
    ktf_call "go"
    refine ⟨_, fn_changed_since h1 h2 hl hn, ?_⟩
    ktf_call "go"
    exact ⟨rfl, .refl _⟩

/-! ### differences -/
noncomputable def keysOf (es : List (Int × Tree)) : List Int := sortZ (es.map (·.1))
noncomputable def lostOf (bs as : List (Int × Tree)) : List Int := (keysOf bs).filter fun u => !(kget as u).isSome
noncomputable def otherOf (bs as : List (Int × Tree)) : List Int := (keysOf as).filter fun u => (kget bs u).isSome && !same (kget bs u) (kget as u)
noncomputable def FlagD (es : List (Int × Tree)) : Prop := ∀ e ∈ es, ∃ fl, e.2 = flagsT fl
theorem kget_mem {es : List (Int × Tree)} {k : Int} {t : Tree} (h : kget es k = some t) : (k, t) ∈ es := by
  unfold kget at h
  cases q : es.find? (fun e => decide (e.1 = k)) with
  | none => rw [q] at h; cases h
  | some e =>
    rw [q] at h
    cases h
    have h1 := List.mem_of_find?_eq_some q
    have h2 := List.find?_some q
    have : e.1 = k := by simpa using h2
    subst this; exact h1
theorem keysOf_length {es : List (Int × Tree)} : (keysOf es).length = es.length := by rw [keysOf, (sortZ_perm _).length_eq, List.length_map]
theorem keysOf_mem {es : List (Int × Tree)} {k : Int} : k ∈ keysOf es ↔ (kget es k).isSome = true := by
  rw [kget_isSome, decide_eq_true_iff, keysOf, (sortZ_perm _).mem_iff]

theorem other_test {c : Cx} {σ : St} {bs as : List (Int × Tree)} {k : Int} {t u : Tree} (hr : Room 0 c.A) (fb : FlagD bs) (fa : FlagD as) (h1 : kget bs k = some t) (h2 : kget as k = some u) : CK c .NotEq t u σ (!same (kget bs k) (kget as k)) := by
  obtain ⟨fl, e1⟩ := fb _ (kget_mem h1)
  obtain ⟨fm, e2⟩ := fa _ (kget_mem h2)
  dsimp only at e1 e2
  subst e1 e2
  rw [h1, h2, same_inj (f := some) (fun _ _ e => by cases e; rfl)]
  have : same (flagsT fl) (flagsT fm) = decide (fl = fm) := by
    rw [show flagsT fl = Tree.tup (fl.map .str) from rfl, show flagsT fm = Tree.tup (fm.map .str) from rfl, same_inj (f := Tree.tup) (fun _ _ e => by cases e; rfl), same_strs]
  rw [this]
  exact CK.ne_flags hr

theorem fn_differences {bs as : List (Int × Tree)} (hb : bs.length < 64) (ha : as.length < 64) (fb : FlagD bs) (fa : FlagD as) :
    PF G 1 302 [.dct bs, .dct as] μ (.tup [.lst (intsT (lostOf bs as)), .lst (intsT (lostOf as bs)), .lst (intsT (otherOf bs as))]) := by
  refine FN.pureOf (ns := ["before", "after"]) fun A L hr => ?_
  have hh := hr.1
  have lb : (keysOf bs).length ≤ 1000 := by rw [keysOf_length]; omega
  have la : (keysOf as).length ≤ 1000 := by rw [keysOf_length]; omega
  ktf_call "go"
  refine XV.assignComp (IV.lst hh (EV.cSortedD hh ?_)) (by ktf_call "st")
  ktf_call "go"
  refine ⟨_, .inl rfl, comp1f (keysOf bs) .int .int (fun u => !(kget as u).isSome) [("after", .dct as)] lb (.inl rfl) ⟨⟨by ktf_call "lk", by kernel_rfl, by kernel_rfl⟩, trivial⟩ (fun C l hl' => ?_) (fun C l hl' hq => ?_) ?_⟩
  · ktf_call "go"
    exact ⟨_, CK.notin_dct (.inl rfl), rfl, rfl⟩
  · ktf_call "go"
    exact ⟨rfl, rfl⟩
  refine SV.cons (XV.assignComp (IV.lst hh (EV.cSortedD hh ?_)) (by ktf_call "st"))
  ktf_call "go"
  refine ⟨_, .inl rfl, comp1f (keysOf as) .int .int (fun u => !(kget bs u).isSome) [("before", .dct bs)] la (.inl rfl) ⟨⟨by ktf_call "lk", by kernel_rfl, by kernel_rfl⟩, trivial⟩ (fun C l hl' => ?_) (fun C l hl' hq => ?_) ?_⟩
  · ktf_call "go"
    exact ⟨_, CK.notin_dct (.inl rfl), rfl, rfl⟩
  · ktf_call "go"
    exact ⟨rfl, rfl⟩
  refine SV.cons (XV.assignComp (IV.lst hh (EV.cSortedD hh ?_)) (by ktf_call "st"))
  ktf_call "go"
  refine ⟨_, .inl rfl, comp1f (keysOf as) .int .int (fun u => (kget bs u).isSome && !same (kget bs u) (kget as u)) [("before", .dct bs), ("after", .dct as)] la (.inl rfl)
    ⟨⟨by ktf_call "lk", by kernel_rfl, by kernel_rfl⟩, ⟨by ktf_call "lk", by kernel_rfl, by kernel_rfl⟩, trivial⟩ (fun C l hl' => ?_) (fun C l hl' hq => ?_) ?_⟩
  · ktf_call "go"
    refine ⟨_, CK.in_dct (.inl rfl), ?_⟩
    cases hk : kget bs l with
    | none =>
      ktf_call "goS"
      exact ⟨rfl, rfl⟩
    | some t =>
      obtain ⟨u, hu⟩ := Option.isSome_iff_exists.mp (keysOf_mem.mp hl')
      ktf_call "goS"
      refine ⟨t, GK.dct (.inl rfl) hk, ?_⟩
      ktf_call "go"
      refine ⟨u, GK.dct (.inl rfl) hu, ?_⟩
      refine ⟨_, other_test (hr.le (by decide)) fb fa hk hu, ?_⟩
      refine ite_b (fun h => ?_) (fun h => ?_)
      · ktf_call "go"
        rw [hk] at h
        exact ⟨by rw [h]; rfl, rfl⟩
      · rw [hk] at h
        exact ⟨by rw [h]; rfl, rfl⟩
  · ktf_call "go"
    exact ⟨rfl, rfl⟩
  · ktf_call "go"
    exact ⟨rfl, .refl _⟩
end

/-! ### the flags that a number draws -/
noncomputable def L4 : List (Nat × Str) := [(0, "\\Answered"), (1, "\\Deleted"), (2, "\\Flagged"), (3, "\\Seen")]
noncomputable def bit (m : Int) (j : Nat) : Bool := decide ((m.fdiv (2 ^ j)).fmod 2 = 1)
noncomputable def names (m : Int) : List Str := (L4.filter fun a => bit m a.1).map (·.2)
theorem names_ok (m : Int) : FlagsOk (names m) := by
  refine ⟨fun x hx => ?_, ?_⟩
  · obtain ⟨a, ha, rfl⟩ := List.mem_map.mp hx
    have := (List.mem_filter.mp ha).1
    have key : ∀ a ∈ L4, a.2 ∈ flags4 := by decide +kernel
    exact key a this
  · have h4 : (L4.map (fun a => rank a.2)).Pairwise (· < ·) := by decide +kernel
    have : ((L4.filter fun a => bit m a.1).map (fun a => rank a.2)).Pairwise (· < ·) := h4.sublist (List.filter_sublist.map _)
    rw [names, List.map_map]; exact this
theorem L4_enum : enumT 0 (flags4.map Tree.str) = L4.map fun a => .tup [.int (a.1 : Nat), .str a.2] := rfl
theorem L4_lt : ∀ a ∈ L4, a.1 < 4 := by decide +kernel

section
variable {G : GS} {μ : Mem} {bx dx lx : Addr} {b : BX} {ls : List LT}
theorem fn_names {m : Int} : PF G 1 307 [.int m] μ (flagsT (names m)) := by
  refine FN.pureOf (ns := ["mask"]) fun A L hr => ?_
  have hh := hr.1
  refine SV.cons (XV.ret (EV.cTuple ?_))
  ktf_call "go"
  refine EV.comp (IV.enum hh rfl ?_)
  ktf_call "go"
  refine EV.split "\\Answered \\Deleted \\Flagged \\Seen" " " flags4 (EV.globStr rfl rfl ⟨rfl, ?_⟩)
  ktf_call "go"
  refine ⟨rfl, ?_⟩
  ktf_call "go"
  refine ⟨_, _, rfl, .inl rfl, ?_⟩
  rw [L4_enum]
  refine comp2f L4 (fun a => .int (a.1 : Nat)) (fun a => .str a.2) (fun a => .str a.2) (fun a => bit m a.1) [("mask", .int m)] hh (by decide) (.inl rfl) ⟨⟨by ktf_call "lk", by kernel_rfl, by kernel_rfl⟩, trivial⟩ (fun C l hl' => ?_) (fun C l hl' hq => ?_) ?_
  · have h4 := L4_lt l hl'
    have hp : (2 : Int) ^ l.1 = ((2 ^ l.1 : Nat) : Int) := by push_cast; rfl
    have hp1 : 2 ^ l.1 ≤ 2 ^ 3 := Nat.pow_le_pow_right (by decide) (by omega)
    have hp2 : 0 < 2 ^ l.1 := Nat.pow_pos (by decide)
    ktf_call "go"
    refine ⟨l.1, rfl, rfl, by omega, ?_⟩
    refine ⟨_, _, rfl, rfl, by rw [hp]; omega, by rw [hp]; omega, ?_⟩
    ktf_call "go"
    exact ⟨rfl, rfl⟩
  · ktf_call "go"
    exact ⟨rfl, rfl⟩
  · ktf_call "go"
    refine ⟨_, _, rfl, .inl rfl, by rw [List.length_map]; exact Nat.le_trans (List.length_filter_le _ _) (by decide), ?_⟩
    refine ⟨?_, .refl _⟩
    unfold flagsT names
    rw [List.map_map]; rfl
end

/-! ### the rows -/
structure HeldAt (μ : Mem) (hx rx : Addr) (rl : List (Addr × LT)) (P : PS) : Prop where
  hx : μ hx = some (.sdct (heldD P rx))
  rx : μ rx = some (.lst (rl.map fun a => .ptr a.1))
  rows : ∀ a ∈ rl, μ a.1 = some (.lst (rowT a.2))
  ls : rl.map (·.2) = P.ls
theorem HeldAt.len {μ : Mem} {hx rx : Addr} {rl : List (Addr × LT)} {P : PS} (h : HeldAt μ hx rx rl P) : rl.length = P.ls.length := by rw [← h.ls, List.length_map]

section
variable {G : GS} {μ : Mem} {hx rx : Addr} {rl : List (Addr × LT)} {P : PS}
theorem fn_taken (h : HeldAt μ hx rx rl P) (ha : Asc P.ls) (hn : P.ls.length ≤ 1000) : PF G 1 324 [.ptr hx] μ (.dct (copyOf P.ls)) := by
  refine FN.pureOf (ns := ["held"]) fun A L hr => ?_
  have hh := hr.1
  have k1 := h.hx
  have k2 := h.rx
  have hlen := h.len
  ktf_call "go"
  refine EV.dict0M fun d hd => ?_
  ktf_call "go"
  have n1 : hx ≠ d := Mem.ne_of k1 hd
  have n2 : rx ≠ d := Mem.ne_of k2 hd
  refine XV.for (IV.lst hh ?_)
  ktf_call "go"
  refine ⟨_, by ktf_call "seq", Loop.inv (g := fun a : Addr × LT => Tree.ptr a.1) (fun pre σ => σ.ρ "copy" = some (.ptr d) ∧ σ.μ = μ.put d (.dct (copyOf (pre.map (·.2))))) rl ?_ ?_ ⟨by ktf_call "lk", rfl⟩⟩
  · rintro pre ⟨a, l⟩ post ⟨ρ, μ'⟩ e ⟨i1, i2⟩
    dsimp only at i1 i2
    subst i2
    have k3 := h.rows (a, l) (by rw [e]; simp)
    dsimp only at k3
    have n3 : a ≠ d := Mem.ne_of k3 hd
    have hl2 := congrArg List.length e
    rw [List.length_append] at hl2
    unfold rowT at k3
    refine ⟨.inr ⟨_, rfl, by ktf_call "mm"⟩, ?_⟩
    ktf_call "go"
    refine ⟨d, _, _, rfl, by ktf_call "mm", PutK.dct (by ktf_call "mm") (by rw [copyOf, List.length_map, List.length_map]; omega), ?_⟩
    ktf_call "go"
    refine ⟨by ktf_call "lk", ?_⟩
    try dsimp only
    rw [Mem.put_put, kput_new]
    · rw [List.map_append, List.map_cons, List.map_nil, copyOf_snoc]
    · rw [copyOf, List.map_map, List.mem_map]
      rintro ⟨x, hx', hxe⟩
      have e2 : P.ls = pre.map (·.2) ++ l :: post.map (·.2) := by rw [← h.ls, e]; simp
      have := List.pairwise_append.mp (e2 ▸ ha : Asc (pre.map (·.2) ++ l :: post.map (·.2)))
      have := this.2.2 x hx' l (List.mem_cons_self ..)
      exact absurd hxe (Int.ne_of_lt this)
  · rintro ⟨ρ, μ'⟩ ⟨i1, i2⟩
    dsimp only at i1 i2
    subst i2
    refine ⟨.inr ⟨_, rfl, by ktf_call "mm"⟩, ?_⟩
    refine SV.cons (XV.ret (EV.freezeD ?_))
    ktf_call "go"
    refine ⟨d, _, rfl, Mem.put_self, ?_⟩
    ktf_call "go"
    refine ⟨by rw [h.ls], ?_⟩
    try dsimp only
    rw [Mem.drop_put hd]
    exact .refl _

/-- range(1, n) but for the rows' uids -/
noncomputable def lacking (ls : List LT) (n : Int) : List Int := (uidsTo n).filter fun u => !decide (u ∈ ls.map (·.uid))
noncomputable def dueOf (P : PS) (q : Int) : List Int := if P.floor ≤ q then goneSince P.all q else lacking P.ls P.next
theorem fn_due {q : Int} (h : HeldAt μ hx rx rl P) (hn : P.ls.length ≤ 1000) (hal : P.all.length < 64) (hb : 0 ≤ P.next) (hb' : P.next ≤ 1000) : PF G 1 329 [.ptr hx, .int q] μ (.lst (intsT (dueOf P q))) := by
  refine FN.pureOf (ns := ["held", "modseq"]) fun A L hr => ?_
  have hh := hr.1
  have k1 := h.hx
  have k2 := h.rx
  have hlen := h.len
  ktf_call "goS"
  · rename_i hle
    refine EV.cSorted ?_
    ktf_call "go"
    refine EV.comp (IV.lst hh ?_)
    ktf_call "go"
    refine ⟨_, by ktf_call "seq", comp2f P.all (fun p => .int p.1) (fun p => .int p.2) (fun p => .int p.1) (fun p => decide (q < p.2)) [("modseq", .int q)] hh (by omega) (by ktf_call "seq")
      ⟨⟨by ktf_call "lk", by kernel_rfl, by kernel_rfl⟩, trivial⟩ (fun C l hl' => ?_) (fun C l hl' hq => ?_) ?_⟩
    · ktf_call "go"
      exact ⟨rfl, rfl⟩
    · ktf_call "go"
      exact ⟨rfl, rfl⟩
    · ktf_call "go"
      refine ⟨_, (P.all.filter fun p => decide (q < p.2)).map (·.1), rfl, .inl (by rw [intsT, List.map_map]; rfl), ?_, ?_⟩
      · have := List.length_filter_le (fun p : Int × Int => decide (q < p.2)) P.all
        rw [List.length_map]; omega
      ktf_call "go"
      exact ⟨by unfold dueOf; rw [if_pos hle]; rfl, .refl _⟩
  · rename_i hle
    refine EV.comp (IV.lst hh ?_)
    ktf_call "go"
    refine ⟨_, by ktf_call "seq", comp1 rl (fun a => .ptr a.1) (fun a => .int a.2.uid) [] (by omega) (by ktf_call "seq") trivial (fun C l hl' => ?_) ?_⟩
    · have k3 := h.rows l hl'
      unfold rowT at k3
      ktf_call "go"
      exact ⟨rfl, rfl⟩
    have e1 : (rl.map fun a => Tree.int a.2.uid) = intsT (P.ls.map (·.uid)) := by rw [intsT, ← h.ls, List.map_map, List.map_map]; rfl
    rw [e1]
    refine SV.cons (XV.ret (EV.comp (IV.range2 hh rfl ?_)))
    ktf_call "go"
    refine ⟨by decide, by decide, by omega, by omega, comp1f (List.range (P.next - 1).toNat) (fun j => .int (1 + (j : Nat))) (fun j => .int (1 + (j : Nat))) (fun j => !decide (1 + (j : Int) ∈ P.ls.map (·.uid))) [("there", .lst (intsT (P.ls.map (·.uid))))] (by simp; omega) trivial
      ⟨⟨by ktf_call "lk", by kernel_rfl, by kernel_rfl⟩, trivial⟩ (fun C l hl' => ?_) (fun C l hl' hq => ?_) ?_⟩
    · ktf_call "go"
      exact ⟨_, CK.notin_ints (.inl rfl), rfl, rfl⟩
    · ktf_call "go"
      exact ⟨rfl, rfl⟩
    · refine ⟨?_, .refl _⟩
      unfold dueOf lacking uidsTo intsT
      rw [if_neg hle, List.filter_map, List.map_map]; rfl
end

noncomputable def forgetP (P : PS) (q : Int) : PS := if min q P.top ≤ P.floor then P else { P with gone := P.gone.filter fun p => decide (min q P.top < p.2), floor := min q P.top }
theorem forget_box {P : PS} {q : Int} {lx : Addr} : forgetB (P.box lx) q = (forgetP P q).box lx := by
  unfold forgetB forgetP
  show (if min q P.top ≤ P.floor then _ else _) = _
  split
  · rfl
  · rfl

theorem cmp_pairs {a b : List (Int × Int)} (k : Nat) (t u : Tree) (h1 : (a.map pairT)[k]? = some t) (h2 : (b.map pairT)[k]? = some u) : Cmp 20 t u := by
  rw [List.getElem?_map] at h1 h2
  cases q1 : a[k]? with
  | none => rw [q1] at h1; cases h1
  | some x =>
    cases q2 : b[k]? with
    | none => rw [q2] at h2; cases h2
    | some y =>
      rw [q1] at h1; rw [q2] at h2; cases h1; cases h2
      refine .tup fun i t u e1 e2 => ?_
      match i with
      | 0 => cases e1; cases e2; exact .int _ _
      | 1 => cases e1; cases e2; exact .int _ _
      | i + 2 => simp at e1
theorem CK.pairs_same {c : Cx} {σ : St} {t u : Tree} {a : List (Int × Int)} (h₁ : LstOf σ t (a.map pairT)) (h₂ : LstOf σ u (a.map pairT)) (hr : Room 0 c.A) : CK c .Eq t u σ true := by
  have := CK.eq_lst h₁ h₂ hr cmp_pairs
  rwa [same_self] at this

section
variable {G : GS} {μ : Mem} {bx dx hx lx rx : Addr} {P : PS}
theorem fn_law_forget {q told : Int} (h1 : μ bx = some (.inst BoxC dx)) (h2 : μ dx = some (.attrs (boxA ((forgetP P q).box lx)))) (k : μ hx = some (.sdct (heldD P rx))) (ht : told = (P.gone.length : Int) - (forgetP P q).gone.length) (hg : P.gone.length ≤ 1000) :
    FN G 1 312 [.ptr bx, .ptr hx, .int q, .int told] μ fun t μ' => t = .bool true ∧ μ' = μ.put hx (.sdct (heldD (forgetP P q) rx)) := by
  refine FN.letOf (ns := ["box", "held", "bound", "told"]) fun A L hr => ?_
  have hh := hr.1
  have n1 : hx ≠ bx := Mem.ne_of2 k h1 nofun
  have n2 : hx ≠ dx := Mem.ne_of2 k h2 nofun
  by_cases hle : min q P.top ≤ P.floor
  · have e : forgetP P q = P := if_pos hle
    rw [e] at ht h2 ⊢
    have h0 : told = 0 := by omega
    subst h0
    ktf_call "goS"
    · refine ⟨_, .refl _, ?_, (Mem.put_same k).symm⟩
      show Tree.bool (decide (P.floor = P.floor)) = _
      simp
    · rename_i q; exact absurd rfl q
    · rename_i q; exact absurd hle q
  · have e : forgetP P q = { P with gone := P.gone.filter fun p => decide (min q P.top < p.2), floor := min q P.top } := if_neg hle
    rw [e] at ht h2 ⊢
    dsimp only at ht
    ktf_call "go"
    refine ite_dec (fun q => absurd q hle) (fun _ => ?_)
    ktf_call "go"
    refine XV.assignComp (IV.lst hh ?_) (by ktf_call "st")
    ktf_call "go"
    refine ⟨_, .inl rfl, comp1f P.gone pairT pairT (fun p => decide (min q P.top < p.2)) [("bound", .int (min q P.top))] hg (.inl rfl)
      ⟨⟨by ktf_call "lk", by kernel_rfl, by kernel_rfl⟩, trivial⟩ (fun C l hl' => ?_) (fun C l hl' hq => ?_) ?_⟩
    · ktf_call "go"
      exact ⟨rfl, rfl⟩
    · ktf_call "go"
      exact ⟨rfl, rfl⟩
    have hf := List.length_filter_le (fun p : Int × Int => decide (min q P.top < p.2)) P.gone
    ktf_call "go"
    have e1 : (((P.gone.map pairT).length : Int) - (((P.gone.filter fun p => decide (min q P.top < p.2)).map pairT).length : Int)) = told := by rw [List.length_map, List.length_map]; exact ht.symm
    rw [e1]
    ktf_call "goS"
    · refine ⟨_, CK.pairs_same (.inl rfl) (.inl rfl) (hr.le (by decide)), ?_⟩
      refine ⟨_, .refl _, rfl, ?_⟩
      try dsimp only
      rw [Mem.put_put]
    · rename_i q; exact absurd rfl q
    · rename_i q; exact absurd rfl q
end

/-! ### box and held -/
structure MemOK (μ : Mem) (bx dx hx lx rx : Addr) (rl : List (Addr × LT)) (P : PS) : Prop where
  box : μ bx = some (.inst BoxC dx)
  att : μ dx = some (.attrs (boxA (P.box lx)))
  lets : μ lx = some (.lst (P.ls.map letT))
  held : HeldAt μ hx rx rl P
  ne : lx ≠ rx
  rne : ∀ a ∈ rl, a.1 ≠ lx ∧ a.1 ≠ rx
  nd : (rl.map (·.1)).Nodup

inductive Step : PS → PS → Prop
  | same {P : PS} : Step P P
  | add {P : PS} (fl : List Str) (i : Int) (h : FlagsOk fl) : Step P { P with ls := P.ls ++ [⟨P.next, fl, i, P.top + 1⟩], next := P.next + 1, top := P.top + 1 }
  | set {P : PS} (i : Nat) (l : LT) (fl : List Str) (hi : P.ls[i]? = some l) (h : FlagsOk fl) : Step P { P with ls := P.ls.set i ⟨l.uid, fl, l.inst, P.top + 1⟩, top := P.top + 1 }
  | exp {P : PS} (some : List Int) (h : some.Sublist (P.ls.map (·.uid))) (hne : some ≠ []) : Step P { P with ls := P.ls.filter (fun l => !decide (l.uid ∈ some)), top := P.top + 1, gone := P.gone ++ some.map (fun u => (u, P.top + 1)), all := P.all ++ some.map (fun u => (u, P.top + 1)) }
  | forget {P : PS} (q : Int) : Step P (forgetP P q)

/-- what holds of a state behind k deeds -/
structure PInv (k : Nat) (P : PS) : Prop where
  asc : Asc P.ls
  uid : ∀ l ∈ P.ls, 1 ≤ l.uid ∧ l.uid < P.next
  mq : ∀ l ∈ P.ls, l.modseq ≤ P.top
  fl : ∀ l ∈ P.ls, FlagsOk l.flags
  al : ∀ p ∈ P.all, 1 ≤ p.1 ∧ p.1 < P.next ∧ p.2 ≤ P.top ∧ ∀ l ∈ P.ls, l.uid ≠ p.1
  cnt : (P.ls.length : Int) + P.all.length + 1 = P.next
  gone : P.gone = P.all.filter fun p => decide (P.floor < p.2)
  f0 : 0 ≤ P.floor
  ft : P.floor ≤ P.top
  t1 : 1 ≤ P.top
  small : P.next ≤ (k : Int) + 1
  k12 : k ≤ 12
theorem PInv.lens {k : Nat} {P : PS} (h : PInv k P) : P.ls.length ≤ 12 ∧ P.all.length ≤ 12 ∧ P.gone.length ≤ 12 := by
  have h1 := h.cnt
  have h2 := h.small
  have h3 := h.k12
  have h4 : P.gone.length ≤ P.all.length := by rw [h.gone]; exact List.length_filter_le _ _
  omega

theorem ptrs_snoc {rl : List (Addr × LT)} {a : Addr} {l : LT} : (rl ++ [(a, l)]).map (fun a => Tree.ptr a.1) = rl.map (fun a => Tree.ptr a.1) ++ [Tree.ptr a] := by simp

section
variable {G : GS} {μ : Mem} {bx dx hx lx rx : Addr} {rl : List (Addr × LT)} {P : PS} {k : Nat}

/-- what a deed gives -/
noncomputable def DeedOK (μ : Mem) (bx dx hx : Addr) (P : PS) (t : Tree) (μ' : Mem) : Prop := t = .bool true ∧ ∃ lx' rx' rl' P', Step P P' ∧ MemOK μ' bx dx hx lx' rx' rl' P'

theorem deed_add {m : Int} (M : MemOK μ bx dx hx lx rx rl P) (I : PInv k P) (hm : m.fmod 6 < 2) : FN G 6 317 [.ptr bx, .ptr hx, .int m] μ (DeedOK μ bx dx hx P) := by
  refine FN.letOf (ns := ["box", "held", "number"]) fun A L hr => ?_
  have hh := hr.1
  obtain ⟨m1, m2, m3, ⟨m4, m5, m6, m7⟩, m8, m9, m10⟩ := M
  obtain ⟨len1, len2, len3⟩ := I.lens
  have n1 : bx ≠ dx := Mem.ne_of2 m1 m2 nofun
  have n2 : bx ≠ hx := Mem.ne_of2 m1 m4 nofun
  have n3 : bx ≠ lx := Mem.ne_of2 m1 m3 nofun
  have n4 : bx ≠ rx := Mem.ne_of2 m1 m5 nofun
  have n5 : dx ≠ hx := Mem.ne_of2 m2 m4 nofun
  have n6 : dx ≠ lx := Mem.ne_of2 m2 m3 nofun
  have n7 : dx ≠ rx := Mem.ne_of2 m2 m5 nofun
  have n8 : hx ≠ lx := Mem.ne_of2 m4 m3 nofun
  have n9 : hx ≠ rx := Mem.ne_of2 m4 m5 nofun
  have hrl : rl.length = P.ls.length := by rw [← m7, List.length_map]
  ktf_call "go"
  refine ite_dec (fun _ => ?_) (fun q => absurd hm q)
  ktf_call "go"
  refine XV.append ?_
  ktf_call "go"
  refine ⟨rx, _, rfl, by ktf_call "mm", ?_⟩
  refine LV.cons (EV.listM ?_)
  ktf_call "go"
  refine EV.callP 307 1 (hr.le (by decide)) ?_
  ktf_call "go"
  refine ⟨_, fn_names, ?_⟩
  ktf_call "go"
  intro a ha
  dsimp only at ha
  obtain ⟨ha1, ha2⟩ := Mem.put_none ha
  have c1 : a ≠ bx := (Mem.ne_of m1 ha1).symm
  have c2 : a ≠ dx := (Mem.ne_of m2 ha1).symm
  have c3 : a ≠ lx := (Mem.ne_of m3 ha1).symm
  have c4 : a ≠ rx := (Mem.ne_of m5 ha1).symm
  ktf_call "go"
  refine ⟨_, _, rfl, by ktf_call "mm", by rw [List.length_map]; omega, ?_⟩
  ktf_call "go"
  refine EV.callF 183 4 (hr.le (by decide)) ?_
  ktf_call "go"
  refine EV.callP 307 1 (hr.le (by decide)) ?_
  ktf_call "go"
  refine ⟨_, fn_names, ?_⟩
  ktf_call "go"
  refine (fn_add_letter (b := P.box lx) (ls := P.ls) (dx := dx) (by ktf_call "mm") (by ktf_call "mm") (by ktf_call "mm") (by omega) (names_ok _)).mono fun t μ' ⟨e1, e2⟩ => ?_
  subst e1 e2
  have o1 : lx ≠ hx := n8.symm
  ktf_call "go"
  refine ⟨_, .refl _, ?_, lx, rx, rl ++ [(a, ⟨P.next, names ((m.fdiv 6).fmod 16), (m.fdiv 6).fmod 1000, P.top + 1⟩)], _, .add (names ((m.fdiv 6).fmod 16)) ((m.fdiv 6).fmod 1000) (names_ok _), ⟨?_, ?_, ?_, ⟨?_, ?_, ?_, ?_⟩, m8, ?_, ?_⟩⟩
  · show Tree.bool (decide (P.next = P.next + 1 - 1)) = _
    congr 1; simp
  · dsimp only; ktf_call "mm"
  · dsimp only; ktf_call "mm"
  · dsimp only; ktf_call "mm"
  · dsimp only; ktf_call "mm"
  · dsimp only; rw [ptrs_snoc]; ktf_call "mm"
  · intro x hx'
    rcases List.mem_append.mp hx' with hx' | hx'
    · have q1 := m6 x hx'
      have q2 := m9 x hx'
      have r1 : x.1 ≠ lx := q2.1
      have r2 : x.1 ≠ rx := q2.2
      have r3 : x.1 ≠ dx := Mem.ne_of2 q1 m2 nofun
      have r4 : x.1 ≠ hx := Mem.ne_of2 q1 m4 nofun
      have r5 : x.1 ≠ a := Mem.ne_of q1 ha1
      try dsimp only
      ktf_call "mm"
    · rw [List.mem_singleton] at hx'; subst hx'
      try dsimp only
      ktf_call "mm"
  · rw [List.map_append, m7]; rfl
  · intro x hx'
    rcases List.mem_append.mp hx' with hx' | hx'
    · exact m9 x hx'
    · rw [List.mem_singleton] at hx'; subst hx'
      exact ⟨c3, c4⟩
  · rw [List.map_append, List.nodup_append]
    refine ⟨m10, by simp, fun x hx' y hy => ?_⟩
    simp only [List.map_cons, List.map_nil, List.mem_singleton] at hy
    subst hy
    obtain ⟨z, hz, rfl⟩ := List.mem_map.mp hx'
    exact Mem.ne_of (m6 z hz) ha1
end

section
variable {c : Cx} {σ : St}
theorem PutK.row1 {a : Addr} {u f q t : Tree} (h : σ.μ a = some (.lst [u, f, q])) : PutK c σ a (.int 1) t (.lst [u, t, q]) :=
  PutK.lst (j := 1) h (.inl ⟨by decide, rfl⟩) (by exact Nat.le_of_ble_eq_true rfl) (Nat.le_of_ble_eq_true rfl)
theorem PutK.row2 {a : Addr} {u f q t : Tree} (h : σ.μ a = some (.lst [u, f, q])) : PutK c σ a (.int 2) t (.lst [u, f, t]) :=
  PutK.lst (j := 2) h (.inl ⟨by decide, rfl⟩) (by exact Nat.le_of_ble_eq_true rfl) (Nat.le_of_ble_eq_true rfl)
end
theorem map_set_same {α β : Type} {f : α → β} {l : List α} {i : Nat} {x y : α} (h : l[i]? = some x) (e : f y = f x) : (l.set i y).map f = l.map f := by
  apply List.ext_getElem?
  intro j
  rw [List.getElem?_map, List.getElem?_map, List.getElem?_set]
  split
  · rename_i q
    subst q
    rw [h]
    split
    · show some (f y) = some (f x); rw [e]
    · rename_i q; exact absurd (List.getElem?_eq_some_iff.mp h).1 q
  · rfl

section
variable {G : GS} {μ : Mem} {bx dx hx lx rx : Addr} {rl : List (Addr × LT)} {P : PS} {k : Nat}
theorem deed_set {m : Int} (M : MemOK μ bx dx hx lx rx rl P) (I : PInv k P) (hm : m.fmod 6 = 2) : FN G 6 317 [.ptr bx, .ptr hx, .int m] μ (DeedOK μ bx dx hx P) := by
  refine FN.letOf (ns := ["box", "held", "number"]) fun A L hr => ?_
  have hh := hr.1
  have M0 := M
  obtain ⟨m1, m2, m3, ⟨m4, m5, m6, m7⟩, m8, m9, m10⟩ := M
  obtain ⟨len1, len2, len3⟩ := I.lens
  have n1 : bx ≠ dx := Mem.ne_of2 m1 m2 nofun
  have n2 : bx ≠ hx := Mem.ne_of2 m1 m4 nofun
  have n3 : bx ≠ lx := Mem.ne_of2 m1 m3 nofun
  have n4 : bx ≠ rx := Mem.ne_of2 m1 m5 nofun
  have n5 : dx ≠ hx := Mem.ne_of2 m2 m4 nofun
  have n6 : dx ≠ lx := Mem.ne_of2 m2 m3 nofun
  have n7 : dx ≠ rx := Mem.ne_of2 m2 m5 nofun
  have n8 : hx ≠ lx := Mem.ne_of2 m4 m3 nofun
  have n9 : hx ≠ rx := Mem.ne_of2 m4 m5 nofun
  have hrl : rl.length = P.ls.length := by rw [← m7, List.length_map]
  ktf_call "go"
  refine ite_dec (fun q => absurd q (by omega)) (fun _ => ?_)
  ktf_call "go"
  refine ite_dec (fun _ => ?_) (fun q => absurd hm q)
  ktf_call "go"
  refine EV.list ?_
  ktf_call "go"
  refine ⟨_, CK.eq_nil (.inr ⟨_, rfl, by ktf_call "mm"⟩) (.inl rfl) (hr.le (by decide)), ?_⟩
  rw [List.length_map]
  refine ite_dec (fun h0 => ?_) (fun h0 => ?_)
  · ktf_call "go"
    exact ⟨_, .refl _, rfl, lx, rx, rl, P, .same, M0⟩
  have hpos : 0 < rl.length := by omega
  ktf_call "go"
  rw [List.length_map]
  refine ⟨by omega, ?_⟩
  have i0 : 0 ≤ (m.fdiv 6).fmod (rl.length : Int) := Int.fmod_nonneg_of_pos _ (by omega)
  have i1 : (m.fdiv 6).fmod (rl.length : Int) < rl.length := Int.fmod_lt_of_pos _ (by omega)
  generalize hi : (m.fdiv 6).fmod (rl.length : Int) = i at *
  obtain ⟨n, rfl⟩ : ∃ n : Nat, i = n := ⟨i.toNat, by omega⟩
  have hn : n < rl.length := by omega
  obtain ⟨⟨a, l⟩, hal⟩ : ∃ x, rl[n]? = some x := ⟨_, List.getElem?_eq_getElem hn⟩
  have k3 := m6 (a, l) (List.mem_of_getElem? hal)
  dsimp only [rowT] at k3
  have hls : P.ls[n]? = some l := by rw [← m7, List.getElem?_map, hal]; rfl
  refine ⟨.ptr a, GK.at _ (.inr (.inr ⟨_, rfl, by ktf_call "mm"⟩)) (by rw [List.getElem?_map, hal]; rfl) (by rw [List.length_map]; omega), ?_⟩
  ktf_call "go"
  refine EV.callP 307 1 (hr.le (by decide)) ?_
  ktf_call "go"
  refine ⟨_, fn_names, ?_⟩
  have hfok := names_ok (((m.fdiv 6).fdiv 8).fmod 16)
  generalize names (((m.fdiv 6).fdiv 8).fmod 16) = fl at *
  ktf_call "go"
  refine ⟨_, CK.ne_flags (hr.le (by decide)), ?_⟩
  ktf_call "go"
  refine ite_ndec (fun hne => ?_) (fun heq => ?_)
  · have a1 : a ≠ hx := Mem.ne_of2 k3 m4 nofun
    have a2 : a ≠ dx := Mem.ne_of2 k3 m2 nofun
    have a3 : a ≠ bx := Mem.ne_of2 k3 m1 nofun
    have a4 := m9 (a, l) (List.mem_of_getElem? hal)
    have a5 : a ≠ lx := a4.1
    have a6 : a ≠ rx := a4.2
    ktf_call "go"
    refine ⟨_, _, _, rfl, by ktf_call "mm", PutK.row1 (by ktf_call "mm"), ?_⟩
    ktf_call "go"
    refine ⟨_, _, _, rfl, by ktf_call "mm", PutK.row2 (by ktf_call "mm"), ?_⟩
    ktf_call "go"
    refine EV.callF 190 4 (hr.le (by decide)) ?_
    ktf_call "go"
    refine (fn_set_flags (b := P.box lx) (ls := P.ls) (dx := dx) (by ktf_call "mm") (by ktf_call "mm") (by ktf_call "mm") I.asc (by omega) hfok hls rfl).mono fun t μ' h => ?_
    rcases h with ⟨e1, _, _⟩ | ⟨e1, e2, e3⟩
    · exact absurd e1 hne
    subst e2 e3
    have o1 : lx ≠ hx := n8.symm
    ktf_call "go"
    have ed : (!decide (l.flags = fl)) = true := by simp [hne]
    refine ⟨_, .refl _, ?_, lx, rx, rl.set n (a, ⟨l.uid, fl, l.inst, P.top + 1⟩), _, .set n l fl hls hfok, ⟨?_, ?_, ?_, ⟨?_, ?_, ?_, ?_⟩, m8, ?_, ?_⟩⟩
    · rw [ed]; rfl
    · dsimp only; ktf_call "mm"
    · dsimp only; ktf_call "mm"
    · dsimp only; ktf_call "mm"
    · dsimp only; ktf_call "mm"
    · rw [map_set_same (f := fun a : Addr × LT => Tree.ptr a.1) (y := (a, ⟨l.uid, fl, l.inst, P.top + 1⟩)) hal rfl]; dsimp only; ktf_call "mm"
    · intro x hx'
      obtain ⟨j, hj⟩ := List.getElem?_of_mem hx'
      rw [List.getElem?_set] at hj
      split at hj
      · cases hj
        try dsimp only
        ktf_call "mm"
      · rename_i hjn
        have q1 := m6 x (List.mem_of_getElem? hj)
        have q2 := m9 x (List.mem_of_getElem? hj)
        have r1 : x.1 ≠ lx := q2.1
        have r2 : x.1 ≠ rx := q2.2
        have r3 : x.1 ≠ dx := Mem.ne_of2 q1 m2 nofun
        have r4 : x.1 ≠ hx := Mem.ne_of2 q1 m4 nofun
        have r5 : x.1 ≠ a := fun q => by
          have e1 : (rl.map (·.1))[n]? = (rl.map (·.1))[j]? := by rw [List.getElem?_map, List.getElem?_map, hal, hj]; show some a = some x.1; rw [q]
          exact hjn ((List.getElem?_inj (by rw [List.length_map]; exact hn) m10).mp e1)
        try dsimp only
        ktf_call "mm"
    · rw [List.map_set, m7]
    · intro x hx'
      obtain ⟨j, hj⟩ := List.getElem?_of_mem hx'
      rw [List.getElem?_set] at hj
      split at hj
      · cases hj
        exact ⟨a5, a6⟩
      · exact m9 x (List.mem_of_getElem? hj)
    · rw [map_set_same (f := fun a : Addr × LT => a.1) (y := (a, ⟨l.uid, fl, l.inst, P.top + 1⟩)) hal rfl]; exact m10
  · ktf_call "go"
    refine EV.callF 190 4 (hr.le (by decide)) ?_
    ktf_call "go"
    refine (fn_set_flags (b := P.box lx) (ls := P.ls) (dx := dx) (by ktf_call "mm") (by ktf_call "mm") (by ktf_call "mm") I.asc (by omega) hfok hls rfl).mono fun t μ' h => ?_
    rcases h with ⟨e1, e2, e3⟩ | ⟨e1, _, _⟩
    · subst e2 e3
      ktf_call "go"
      have ed : (!decide (l.flags = fl)) = false := by simp [heq]
      refine ⟨_, .refl _, ?_, lx, rx, rl, P, .same, M0⟩
      rw [ed]; rfl
    · exact absurd heq e1
end

/-! ### slices -/
theorem pickT_map {α β : Type} (f : α → β) (L : List α) (lo hi st : Option Int) : pickT (L.map f) lo hi st = (pickT L lo hi st).map f := by
  unfold pickT
  rw [List.length_map, List.map_filterMap]
  congr 1
  funext i
  rw [List.getElem?_map]
theorem pickT_mem {α : Type} {L : List α} {lo hi st : Option Int} {x : α} (h : x ∈ pickT L lo hi st) : x ∈ L := by
  unfold pickT at h
  obtain ⟨i, _, e⟩ := List.mem_filterMap.mp h
  exact List.mem_of_getElem? e
theorem pickT_rev_mem {α : Type} {L : List α} {x : α} : x ∈ pickT L none none (some (-1)) ↔ x ∈ L := by
  refine ⟨pickT_mem, fun h => ?_⟩
  obtain ⟨i, hi, rfl⟩ := List.getElem_of_mem h
  unfold pickT
  have e : sliceBounds none none (some (-1)) L.length = ((L.length : Int) - 1, -1, -1) := rfl
  rw [e, krv_sliceRange, List.mem_filterMap]
  refine ⟨i, ?_, List.getElem?_eq_getElem hi⟩
  rw [List.mem_map]
  exact ⟨L.length - 1 - i, List.mem_range.mpr (by omega), by omega⟩
theorem pickT_rev_len {α : Type} {L : List α} : (pickT L none none (some (-1))).length ≤ L.length := by
  unfold pickT
  have e : sliceBounds none none (some (-1)) L.length = ((L.length : Int) - 1, -1, -1) := rfl
  rw [e, krv_sliceRange]
  refine Nat.le_trans (List.length_filterMap_le _ _) ?_
  rw [List.length_map, List.length_range]; exact Nat.le_refl _
theorem enumT_zip {α : Type} (g : α → Tree) : ∀ (L : List α) (k : Nat), enumT k (L.map g) = (L.zipIdx k).map fun a => .tup [.int (a.2 : Nat), g a.1]
  | [], k => rfl
  | a :: L, k => by
    simp only [List.map_cons, enumT, List.zipIdx_cons]
    rw [enumT_zip g L (k + 1)]

/-- those that a number draws, by place -/
noncomputable def drawn {α : Type} (m : Int) (w : Nat) (L : List α) : List (α × Nat) := L.zipIdx.filter fun a => bit m (a.2 % w)
theorem drawn_sub {α : Type} (m : Int) (w : Nat) (L : List α) : ((drawn m w L).map (·.1)).Sublist L := by
  have h : (drawn m w L).Sublist L.zipIdx := List.filter_sublist
  have h2 := h.map (·.1)
  rwa [List.zipIdx_map_fst] at h2

theorem sub_filter : ∀ {l sm : List Int}, l.Pairwise (· < ·) → sm.Sublist l → l.filter (fun u => decide (u ∈ sm)) = sm
  | [], sm, _, h => by have := List.sublist_nil.mp h; subst this; rfl
  | x :: l, sm, hp, h => by
    have hx := (List.pairwise_cons.mp hp).1
    have hp' := (List.pairwise_cons.mp hp).2
    cases h with
    | cons _ h =>
      rw [List.filter_cons_of_neg, sub_filter hp' h]
      simp only [decide_eq_true_eq]
      intro hm
      have := hx x (h.subset hm); omega
    | cons_cons _ h =>
      rename_i sm
      rw [List.filter_cons_of_pos (by simp)]
      congr 1
      rw [← sub_filter hp' h]
      refine List.filter_congr fun y hy => ?_
      have hyx : y ≠ x := by have := hx y hy; omega
      rw [sub_filter hp' h]
      simp [hyx]

section
variable {G : GS} {μ : Mem} {bx dx hx lx rx : Addr} {rl : List (Addr × LT)} {P : PS} {k : Nat}
theorem deed_exp {m : Int} (M : MemOK μ bx dx hx lx rx rl P) (I : PInv k P) (hm : m.fmod 6 = 3) : FN G 6 317 [.ptr bx, .ptr hx, .int m] μ (DeedOK μ bx dx hx P) := by
  refine FN.letOf (ns := ["box", "held", "number"]) fun A L hr => ?_
  have hh := hr.1
  have M0 := M
  obtain ⟨m1, m2, m3, ⟨m4, m5, m6, m7⟩, m8, m9, m10⟩ := M
  obtain ⟨len1, len2, len3⟩ := I.lens
  have n1 : bx ≠ dx := Mem.ne_of2 m1 m2 nofun
  have n2 : bx ≠ hx := Mem.ne_of2 m1 m4 nofun
  have n3 : bx ≠ lx := Mem.ne_of2 m1 m3 nofun
  have n4 : bx ≠ rx := Mem.ne_of2 m1 m5 nofun
  have n5 : dx ≠ hx := Mem.ne_of2 m2 m4 nofun
  have n6 : dx ≠ lx := Mem.ne_of2 m2 m3 nofun
  have n7 : dx ≠ rx := Mem.ne_of2 m2 m5 nofun
  have n8 : hx ≠ lx := Mem.ne_of2 m4 m3 nofun
  have n9 : hx ≠ rx := Mem.ne_of2 m4 m5 nofun
  have hrl : rl.length = P.ls.length := by rw [← m7, List.length_map]
  ktf_call "go"
  refine ite_dec (fun q => absurd q (by omega)) (fun _ => ?_)
  ktf_call "go"
  refine ite_dec (fun q => absurd q (by omega)) (fun _ => ?_)
  ktf_call "go"
  refine ite_dec (fun _ => ?_) (fun q => absurd hm q)
  ktf_call "go"
  refine EV.comp (IV.enum hh rfl ?_)
  ktf_call "go"
  refine ⟨_, _, rfl, .inr ⟨_, rfl, by ktf_call "mm"⟩, ?_⟩
  rw [enumT_zip]
  refine comp2f rl.zipIdx (fun a => .int (a.2 : Nat)) (fun a => .ptr a.1.1) (fun a => .int a.1.2.uid) (fun a => bit (m.fdiv 6) (a.2 % 6)) [("mask", .int (m.fdiv 6))] hh (by rw [List.length_zipIdx]; omega) (.inr ⟨_, rfl, by ktf_call "mm"⟩) ⟨⟨by ktf_call "lk", by kernel_rfl, by kernel_rfl⟩, trivial⟩ (fun C l hl' => ?_) (fun C l hl' hq => ?_) ?_
  · have h4 : l.2 % 6 < 6 := Nat.mod_lt _ (by decide)
    have e6 : Int.fmod (l.2 : Nat) 6 = ((l.2 % 6 : Nat) : Int) := by rw [Int.fmod_eq_emod_of_nonneg _ (by decide)]; push_cast; rfl
    have hp : (2 : Int) ^ (l.2 % 6) = ((2 ^ (l.2 % 6) : Nat) : Int) := by push_cast; rfl
    have hp1 : 2 ^ (l.2 % 6) ≤ 2 ^ 5 := Nat.pow_le_pow_right (by decide) (by omega)
    have hp2 : 0 < 2 ^ (l.2 % 6) := Nat.pow_pos (by decide)
    ktf_call "go"
    rw [e6]
    refine ⟨l.2 % 6, rfl, rfl, by omega, ?_⟩
    refine ⟨_, _, rfl, rfl, by rw [hp]; omega, by rw [hp]; omega, ?_⟩
    ktf_call "go"
    exact ⟨rfl, rfl⟩
  · have k3 := m6 l.1 (List.fst_mem_of_mem_zipIdx (x := l) hl')
    dsimp only [rowT] at k3
    ktf_call "go"
    exact ⟨rfl, rfl⟩
  have hsm : ((rl.zipIdx.filter fun a => bit (m.fdiv 6) (a.2 % 6)).map (fun a => a.1.2.uid)).Sublist (P.ls.map (·.uid)) := by
    have := (drawn_sub (m.fdiv 6) 6 rl).map (fun a : Addr × LT => a.2.uid)
    rw [← m7, List.map_map]
    unfold drawn at this
    rw [List.map_map] at this
    exact this
  rw [intsT_map]
  generalize hgsm : (rl.zipIdx.filter fun a => bit (m.fdiv 6) (a.2 % 6)).map (fun a => a.1.2.uid) = sm at *
  have hsl : sm.length ≤ 12 := by have := hsm.length_le; rw [List.length_map] at this; omega
  have hasc : (P.ls.map (·.uid)).Pairwise (· < ·) := by rw [List.pairwise_map]; exact I.asc
  ktf_call "go"
  refine EV.list ?_
  ktf_call "go"
  refine ⟨_, CK.ne_nil (.inl rfl) (.inl rfl) (hr.le (by decide)), ?_⟩
  rw [intsT_length]
  refine ite_ndec (fun h0 => ?_) (fun h0 => ?_)
  · ktf_call "go"
    refine EV.compM (IV.lst hh ?_)
    ktf_call "go"
    refine ⟨rl.map fun a => .ptr a.1, .inr ⟨_, rfl, by ktf_call "mm"⟩, comp1f rl (fun a => .ptr a.1) (fun a => .ptr a.1) (fun a => !decide (a.2.uid ∈ sm)) [("some", .lst (intsT sm))] (by omega) (.inr ⟨_, rfl, by ktf_call "mm"⟩) ⟨⟨by ktf_call "lk", by kernel_rfl, by kernel_rfl⟩, trivial⟩ (fun C l hl' => ?_) (fun C l hl' hq => ?_) fun D hD => ?_⟩
    · have k3 := m6 l hl'
      have k4 : l.1 ≠ hx := Mem.ne_of2 k3 m4 nofun
      dsimp only [rowT] at k3
      ktf_call "go"
      exact ⟨_, CK.notin_ints (.inl rfl), rfl, rfl⟩
    · ktf_call "go"
      exact ⟨rfl, rfl⟩
    dsimp only at hD
    obtain ⟨hD1, d1⟩ := Mem.put_none hD
    have d2 : D ≠ bx := (Mem.ne_of m1 hD1).symm
    have d3 : D ≠ dx := (Mem.ne_of m2 hD1).symm
    have d4 : D ≠ lx := (Mem.ne_of m3 hD1).symm
    have d5 : D ≠ rx := (Mem.ne_of m5 hD1).symm
    ktf_call "go"
    refine EV.comp (IV.lst hh ?_)
    ktf_call "go"
    refine ⟨_, .inl rfl, comp1 sm .int (fun u => pairT (u, P.top + 1)) [("held", .ptr hx)] (by omega) (.inl rfl) ⟨⟨by ktf_call "lk", by kernel_rfl, by kernel_rfl⟩, trivial⟩ (fun C l hl' => ?_) ?_⟩
    · ktf_call "go"
      exact ⟨rfl, rfl⟩
    refine ⟨P.gone.map pairT, sm.map fun u => pairT (u, P.top + 1), .inl rfl, .inl rfl, by rw [List.length_map, List.length_map]; omega, ?_⟩
    have eg : ∀ g : List (Int × Int), g.map pairT ++ (sm.map fun u => pairT (u, P.top + 1)) = (g ++ sm.map fun u => (u, P.top + 1)).map pairT := fun g => by
      rw [List.map_append, List.map_map]; rfl
    rw [eg]
    ktf_call "go"
    refine EV.comp (IV.lst hh ?_)
    ktf_call "go"
    refine ⟨_, .inl rfl, comp1 sm .int (fun u => pairT (u, P.top + 1)) [("held", .ptr hx)] (by omega) (.inl rfl) ⟨⟨by ktf_call "lk", by kernel_rfl, by kernel_rfl⟩, trivial⟩ (fun C l hl' => ?_) ?_⟩
    · ktf_call "go"
      exact ⟨rfl, rfl⟩
    refine ⟨P.all.map pairT, sm.map fun u => pairT (u, P.top + 1), .inl rfl, .inl rfl, by rw [List.length_map, List.length_map]; omega, ?_⟩
    rw [eg]
    ktf_call "go"
    refine EV.callF 195 2 (hr.le (by decide)) ?_
    ktf_call "go"
    refine ⟨intsT sm, by decide, .inl rfl, by rw [intsT_length]; omega, ?_⟩
    ktf_call "go"
    refine EV.list ?_
    ktf_call "go"
    refine ⟨_, _, .inl rfl, .inl rfl, by rw [List.length_singleton, intsT, pickT_map, List.length_map]; have := pickT_rev_len (L := sm); omega, ?_⟩
    have eu : pickT (intsT sm) none none (some (-1)) ++ [Tree.int (P.next + 1)] = intsT (pickT sm none none (some (-1)) ++ [P.next + 1]) := by
      unfold intsT; rw [pickT_map, List.map_append]; rfl
    rw [eu]
    ktf_call "go"
    have hul : (pickT sm none none (some (-1)) ++ [P.next + 1]).length ≤ 1000 := by rw [List.length_append, List.length_singleton]; have := pickT_rev_len (L := sm); omega
    have hmem : ∀ l ∈ P.ls, (l.uid ∈ pickT sm none none (some (-1)) ++ [P.next + 1]) = (l.uid ∈ sm) := fun l hl => by
      have := I.uid l hl
      rw [List.mem_append, pickT_rev_mem, List.mem_singleton]
      refine propext ⟨fun z => z.elim id fun z => by omega, .inl⟩
    refine (fn_expunge (b := P.box lx) (ls := P.ls) (dx := dx) (by ktf_call "mm") (by ktf_call "mm") (by ktf_call "mm") (by omega) (show P.gone.length ≤ 500 by omega) hul).mono fun t μ' h => ?_
    obtain ⟨there, e1, e2, e3⟩ := h
    have eth : there = sm := by
      rw [e1, ← sub_filter hasc hsm]
      refine List.filter_congr fun u hu => ?_
      obtain ⟨l, hl, rfl⟩ := List.mem_map.mp hu
      rw [sub_filter hasc hsm]
      exact decide_eq_decide.mpr (by rw [hmem l hl])
    subst eth
    rcases e3 with ⟨e3, _⟩ | ⟨e3, lx', hlx, e4⟩
    · exact absurd (by rw [e3]; rfl) h0
    have ef : P.ls.filter (fun l => !decide (l.uid ∈ pickT there none none (some (-1)) ++ [P.next + 1])) = P.ls.filter (fun l => !decide (l.uid ∈ there)) :=
      List.filter_congr fun l hl => by rw [decide_eq_decide.mpr (by rw [hmem l hl])]
    rw [ef] at e4
    subst e2 e4
    obtain ⟨q1, r1⟩ := Mem.put_none hlx
    obtain ⟨q2, _⟩ := Mem.put_none q1
    obtain ⟨q3, _⟩ := Mem.put_none q2
    obtain ⟨q4, r4⟩ := Mem.put_none q3
    obtain ⟨q5, _⟩ := Mem.put_none q4
    have s1 : lx' ≠ bx := (Mem.ne_of m1 q5).symm
    have s2 : lx' ≠ dx := (Mem.ne_of m2 q5).symm
    have s3 : lx' ≠ rx := (Mem.ne_of m5 q5).symm
    have s4 : lx' ≠ lx := (Mem.ne_of m3 q5).symm
    ktf_call "go"
    refine ⟨_, CK.eq_ints (.inl rfl) (.inl rfl) (hr.le (by decide)), ?_⟩
    have rne : there ≠ [] := e3
    refine ⟨_, .refl _, ?_, lx', D, rl.filter (fun a => !decide (a.2.uid ∈ there)), _, .exp there hsm rne, ⟨?_, ?_, ?_, ⟨?_, ?_, ?_, ?_⟩, r4, ?_, ?_⟩⟩
    · simp
    · dsimp only; ktf_call "mm"
    · dsimp only; ktf_call "mm"
    · dsimp only; ktf_call "mm"
    · dsimp only; ktf_call "mm"
    · dsimp only; ktf_call "mm"
    · intro x hx'
      have hx1 := (List.mem_filter.mp hx').1
      have g1 := m6 x hx1
      have g2 := m9 x hx1
      have g3 : x.1 ≠ lx' := Mem.ne_of g1 q5
      have g4 : x.1 ≠ D := Mem.ne_of g1 hD1
      have g5 : x.1 ≠ dx := Mem.ne_of2 g1 m2 nofun
      have g6 : x.1 ≠ hx := Mem.ne_of2 g1 m4 nofun
      try dsimp only
      ktf_call "mm"
    · show _ = P.ls.filter _
      rw [← m7, List.filter_map]; rfl
    · intro x hx'
      have hx1 := (List.mem_filter.mp hx').1
      exact ⟨Mem.ne_of (m6 x hx1) q5, Mem.ne_of (m6 x hx1) hD1⟩
    · exact m10.sublist (List.filter_sublist.map _)
  · have esm : sm = [] := List.eq_nil_of_length_eq_zero h0
    subst esm
    ktf_call "go"
    refine EV.callF 195 2 (hr.le (by decide)) ?_
    ktf_call "go"
    refine ⟨[], by decide, .inl rfl, by decide, ?_⟩
    ktf_call "go"
    refine EV.list ?_
    ktf_call "go"
    refine ⟨_, _, .inl rfl, .inl rfl, Nat.le_of_ble_eq_true rfl, ?_⟩
    have eu : pickT ([] : List Tree) none none (some (-1)) ++ [Tree.int (P.next + 1)] = intsT [P.next + 1] := rfl
    rw [eu]
    ktf_call "go"
    refine (fn_expunge (b := P.box lx) (ls := P.ls) (dx := dx) (by ktf_call "mm") (by ktf_call "mm") (by ktf_call "mm") (by omega) (show P.gone.length ≤ 500 by omega) (Nat.le_of_ble_eq_true rfl)).mono fun t μ' h => ?_
    obtain ⟨there, e1, e2, e3⟩ := h
    have eth : there = [] := by
      rw [e1, List.filter_eq_nil_iff]
      intro u hu
      obtain ⟨l, hl, rfl⟩ := List.mem_map.mp hu
      have := I.uid l hl
      simp; omega
    subst eth
    rcases e3 with ⟨_, e4⟩ | ⟨e3, _⟩
    · subst e2 e4
      ktf_call "go"
      refine ⟨_, CK.eq_ints (.inl rfl) (.inl rfl) (hr.le (by decide)), ?_⟩
      exact ⟨_, .refl _, by simp, lx, rx, rl, P, .same, M0⟩
    · exact absurd rfl e3
end

theorem forgetP_ls {P : PS} {q : Int} : (forgetP P q).ls = P.ls := by unfold forgetP; split <;> rfl

section
variable {G : GS} {μ : Mem} {bx dx hx lx rx : Addr} {rl : List (Addr × LT)} {P : PS} {k : Nat}
theorem forgotten_ok {q : Int} (M : MemOK μ bx dx hx lx rx rl P) : DeedOK μ bx dx hx P (.bool true) ((μ.put dx (.attrs (boxA ((forgetP P q).box lx)))).put hx (.sdct (heldD (forgetP P q) rx))) := by
  obtain ⟨m1, m2, m3, ⟨m4, m5, m6, m7⟩, m8, m9, m10⟩ := M
  have n1 : bx ≠ dx := Mem.ne_of2 m1 m2 nofun
  have n2 : bx ≠ hx := Mem.ne_of2 m1 m4 nofun
  have n5 : dx ≠ hx := Mem.ne_of2 m2 m4 nofun
  have n6 : dx ≠ lx := Mem.ne_of2 m2 m3 nofun
  have n7 : dx ≠ rx := Mem.ne_of2 m2 m5 nofun
  have n8 : hx ≠ lx := Mem.ne_of2 m4 m3 nofun
  have n9 : hx ≠ rx := Mem.ne_of2 m4 m5 nofun
  refine ⟨rfl, lx, rx, rl, _, .forget q, ⟨?_, ?_, ?_, ⟨?_, ?_, fun x hx' => ?_, ?_⟩, m8, m9, m10⟩⟩
  · ktf_call "mm"
  · ktf_call "mm"
  · rw [forgetP_ls]; ktf_call "mm"
  · ktf_call "mm"
  · ktf_call "mm"
  · have g1 := m6 x hx'
    have g5 : x.1 ≠ dx := Mem.ne_of2 g1 m2 nofun
    have g6 : x.1 ≠ hx := Mem.ne_of2 g1 m4 nofun
    ktf_call "mm"
  · rw [forgetP_ls]; exact m7

theorem deed_forget {m : Int} (M : MemOK μ bx dx hx lx rx rl P) (I : PInv k P) (hm : m.fmod 6 = 4) : FN G 6 317 [.ptr bx, .ptr hx, .int m] μ (DeedOK μ bx dx hx P) := by
  refine FN.letOf (ns := ["box", "held", "number"]) fun A L hr => ?_
  have hh := hr.1
  have M0 := M
  obtain ⟨m1, m2, m3, ⟨m4, m5, m6, m7⟩, m8, m9, m10⟩ := M
  obtain ⟨len1, len2, len3⟩ := I.lens
  have n1 : bx ≠ dx := Mem.ne_of2 m1 m2 nofun
  have n5 : dx ≠ hx := Mem.ne_of2 m2 m4 nofun
  have ht1 := I.t1
  ktf_call "go"
  refine ite_dec (fun q => absurd q (by omega)) (fun _ => ?_)
  ktf_call "go"
  refine ite_dec (fun q => absurd q (by omega)) (fun _ => ?_)
  ktf_call "go"
  refine ite_dec (fun q => absurd q (by omega)) (fun _ => ?_)
  ktf_call "go"
  refine ite_dec (fun _ => ?_) (fun q => absurd hm q)
  ktf_call "go"
  refine ⟨by omega, ?_⟩
  generalize (m.fdiv 6).fmod (P.top + 2) = q at *
  ktf_call "go"
  refine EV.callF 312 1 (hr.le (by decide)) ?_
  ktf_call "go"
  refine EV.callF 276 2 (hr.le (by decide)) ?_
  ktf_call "go"
  refine (fn_forget_gone (b := P.box lx) (dx := dx) (by ktf_call "mm") (by ktf_call "mm") (show P.gone.length ≤ 1000 by omega)).mono fun t μ' ⟨e1, e2⟩ => ?_
  rw [forget_box] at e1 e2
  subst e1 e2
  ktf_call "go"
  refine (fn_law_forget (P := P) (lx := lx) (rx := rx) (dx := dx) (by ktf_call "mm") (by ktf_call "mm") (by ktf_call "mm") rfl (by omega)).mono fun t μ' ⟨e1, e2⟩ => ?_
  subst e1 e2
  exact ⟨_, .refl _, forgotten_ok M0⟩

theorem deed_beyond {m : Int} (M : MemOK μ bx dx hx lx rx rl P) (I : PInv k P) (hm : m.fmod 6 = 5) : FN G 6 317 [.ptr bx, .ptr hx, .int m] μ (DeedOK μ bx dx hx P) := by
  refine FN.letOf (ns := ["box", "held", "number"]) fun A L hr => ?_
  have hh := hr.1
  have M0 := M
  obtain ⟨m1, m2, m3, ⟨m4, m5, m6, m7⟩, m8, m9, m10⟩ := M
  obtain ⟨len1, len2, len3⟩ := I.lens
  have n1 : bx ≠ dx := Mem.ne_of2 m1 m2 nofun
  have n5 : dx ≠ hx := Mem.ne_of2 m2 m4 nofun
  have ht1 := I.t1
  have hf0 := I.f0
  ktf_call "go"
  refine ite_dec (fun q => absurd q (by omega)) (fun _ => ?_)
  ktf_call "go"
  refine ite_dec (fun q => absurd q (by omega)) (fun _ => ?_)
  ktf_call "go"
  refine ite_dec (fun q => absurd q (by omega)) (fun _ => ?_)
  ktf_call "go"
  refine ite_dec (fun q => absurd q (by omega)) (fun _ => ?_)
  have i0 : 0 ≤ (m.fdiv 6).fmod 3 := Int.fmod_nonneg_of_pos _ (by decide)
  have i1 : (m.fdiv 6).fmod 3 < 3 := Int.fmod_lt_of_pos _ (by decide)
  ktf_call "go"
  generalize hi : (m.fdiv 6).fmod 3 = i at *
  obtain ⟨n, rfl⟩ : ∃ n : Nat, i = n := ⟨i.toNat, by omega⟩
  rw [List.length_map]
  refine ite_dec (fun hgt => ?_) (fun hgt => ?_)
  · have hlt : P.gone.length - n - 1 < P.gone.length := by omega
    obtain ⟨p, hp⟩ : ∃ p, P.gone[P.gone.length - n - 1]? = some p := ⟨_, List.getElem?_eq_getElem hlt⟩
    ktf_call "go"
    have e : ((P.gone.map pairT).length : Int) - n - 1 = ((P.gone.length - n - 1 : Nat) : Int) := by rw [List.length_map]; omega
    refine ⟨pairT p, GK.cast e (GK.at _ (.inl rfl) (by rw [List.getElem?_map, hp]; rfl) (by rw [List.length_map]; omega)), ?_⟩
    ktf_call "go"
    refine EV.callF 312 1 (hr.le (by decide)) ?_
    ktf_call "go"
    refine EV.callF 283 3 (hr.le (by decide)) ?_
    ktf_call "go"
    refine (fn_forget_beyond (b := P.box lx) (dx := dx) (m := n) (by ktf_call "mm") (by ktf_call "mm") (show P.gone.length ≤ 1000 by omega)).mono fun t μ' h => ?_
    rcases h with ⟨h1, _⟩ | ⟨p', h1, h2, e1, e2⟩
    · have : P.gone.length ≤ n := h1
      omega
    have ep : p' = p := by
      have : P.gone[P.gone.length - n - 1]? = some p' := h2
      rw [hp] at this; cases this; rfl
    subst ep
    rw [forget_box] at e1 e2
    subst e1 e2
    ktf_call "go"
    refine (fn_law_forget (P := P) (lx := lx) (rx := rx) (dx := dx) (by ktf_call "mm") (by ktf_call "mm") (by ktf_call "mm") rfl (by omega)).mono fun t μ' ⟨e1, e2⟩ => ?_
    subst e1 e2
    exact ⟨_, .refl _, forgotten_ok M0⟩
  · ktf_call "go"
    refine EV.callF 312 1 (hr.le (by decide)) ?_
    ktf_call "go"
    refine EV.callF 283 3 (hr.le (by decide)) ?_
    ktf_call "go"
    refine (fn_forget_beyond (b := P.box lx) (dx := dx) (m := n) (by ktf_call "mm") (by ktf_call "mm") (show P.gone.length ≤ 1000 by omega)).mono fun t μ' h => ?_
    rcases h with ⟨_, e1, e2⟩ | ⟨p', h1, _⟩
    · subst e1 e2
      have ef : forgetP P 0 = P := if_pos (by omega)
      ktf_call "go"
      refine (fn_law_forget (P := P) (q := 0) (lx := lx) (rx := rx) (dx := dx) (by ktf_call "mm") (by rw [ef]; ktf_call "mm") (by ktf_call "mm") (by rw [ef]; omega) (by omega)).mono fun t μ' ⟨e1, e2⟩ => ?_
      subst e1 e2
      refine ⟨_, .refl _, rfl, lx, rx, rl, P, .same, ?_⟩
      rw [ef, Mem.put_same m4]
      exact M0
    · have : n < P.gone.length := h1
      omega

theorem fn_deed {m : Int} (M : MemOK μ bx dx hx lx rx rl P) (I : PInv k P) : FN G 6 317 [.ptr bx, .ptr hx, .int m] μ (DeedOK μ bx dx hx P) := by
  have i0 : 0 ≤ m.fmod 6 := Int.fmod_nonneg_of_pos _ (by decide)
  have i1 : m.fmod 6 < 6 := Int.fmod_lt_of_pos _ (by decide)
  by_cases h1 : m.fmod 6 < 2
  · exact deed_add M I h1
  by_cases h2 : m.fmod 6 = 2
  · exact deed_set M I h2
  by_cases h3 : m.fmod 6 = 3
  · exact deed_exp M I h3
  by_cases h4 : m.fmod 6 = 4
  · exact deed_forget M I h4
  · exact deed_beyond M I (by omega)
end

/-! ### what the law asks of resync -/
noncomputable def knownOf (K : List Int) : Nat → Option (List (Int × Int))
  | 0 => none
  | 1 => some [(1, 0)]
  | 2 => some ((pickT K none none (some (-1))).map dup)
  | _ => some ((pickT K none none (some 2)).map dup)
noncomputable def due1 (P : PS) (cs : List (Int × Tree)) (q : Int) (j : Nat) : List Int :=
  if j = 2 then (dueOf P q).filter (fun u => (kget cs u).isSome) else if j = 3 then (dueOf P q).filter (fun u => decide (u ∈ pickT (keysOf cs) none none (some 2))) else dueOf P q
noncomputable def hpOf (cs : List (Int × Tree)) (m : Int) : List (Int × Int) := ((keysOf cs).zipIdx.filter fun a => bit m (a.2 % 8)).map fun a => ((a.2 : Int) + 1, a.1)
noncomputable def stands (us : List Int) (p : Int × Int) : Bool := decide (pickT us (some (p.1 - 1)) (some p.1) none = [p.2])
noncomputable def standing (P : PS) (hp : List (Int × Int)) : List Int := (hp.filter (stands (P.ls.map (·.uid)))).map (·.2)
noncomputable def due2 (P : PS) (cs : List (Int × Tree)) (q : Int) (s : Nat) (m : Int) : List Int :=
  if s / 4 % 2 = 1 ∧ q < P.floor then (due1 P cs q (s % 4)).filter (fun u => decide (listMax (0 :: standing P (hpOf cs m)) < u)) else due1 P cs q (s % 4)
noncomputable def mtOf (cs : List (Int × Tree)) (s : Nat) (m : Int) : Option (List (Int × Int)) := if s / 4 % 2 = 1 then some (hpOf cs m) else none

noncomputable abbrev kJoin (Ψ : St → Prop) (f : FlT) (σ : St) : Prop := f = .next ∧ Ψ σ
noncomputable abbrev kJoinH (M : Mem) (T : List (Str × Tree)) (f : FlT) (σ : St) : Prop := f = .next ∧ σ.μ = M ∧ Has σ.ρ T
theorem XV.join {c : Cx} {σ : St} {st : Stmt} {Φ : FlT → St → Prop} (Ψ : St → Prop) (h : XV c st σ (kJoin Ψ)) (k : ∀ σ', Ψ σ' → Φ .next σ') : XV c st σ Φ :=
  h.mono fun f σ' hq => by obtain ⟨e, p⟩ := hq; subst e; exact k σ' p
theorem XV.joinH {c : Cx} {σ : St} {st : Stmt} {Φ : FlT → St → Prop} (M : Mem) (T : List (Str × Tree)) (h : XV c st σ (kJoinH M T)) (k : ∀ ρ, Has ρ T → Φ .next ⟨ρ, M⟩) : XV c st σ Φ :=
  XV.join (fun σ' => σ'.μ = M ∧ Has σ'.ρ T) h fun σ' hq => by
    obtain ⟨ρ, μ'⟩ := σ'
    obtain ⟨e, q⟩ := hq
    cases e
    exact k ρ q

theorem cmp_strs_n {n : Nat} {a b : List Str} (k : Nat) (t u : Tree) (h1 : (a.map Tree.str)[k]? = some t) (h2 : (b.map Tree.str)[k]? = some u) : Cmp n t u := by
  rw [List.getElem?_map] at h1 h2
  cases q1 : a[k]? with
  | none => rw [q1] at h1; cases h1
  | some x =>
    cases q2 : b[k]? with
    | none => rw [q2] at h2; cases h2
    | some y => rw [q1] at h1; rw [q2] at h2; cases h1; cases h2; exact .str x y
theorem toldT_cmp {a b : LT} : Cmp 20 (toldT a) (toldT b) := by
  refine .tup fun i t u e1 e2 => ?_
  match i with
  | 0 => cases e1; cases e2; exact .int _ _
  | 1 => cases e1; cases e2; exact .bytes _ _
  | 2 =>
    cases e1; cases e2
    refine .tup fun i t u e1 e2 => ?_
    rw [List.getElem?_map] at e1 e2
    cases q1 : a.flags[i]? with
    | none => rw [q1] at e1; cases e1
    | some x =>
      cases q2 : b.flags[i]? with
      | none => rw [q2] at e2; cases e2
      | some y => rw [q1] at e1; rw [q2] at e2; cases e1; cases e2; exact .str _ _
  | 3 => cases e1; cases e2; exact .int _ _
  | 4 => cases e1; cases e2; exact .int _ _
  | i + 5 => simp at e1
noncomputable def ufT (a : LT) : Tree := .tup [.int a.uid, flagsT a.flags]
theorem ufT_cmp {a b : LT} : Cmp 20 (ufT a) (ufT b) := by
  refine .tup fun i t u e1 e2 => ?_
  match i with
  | 0 => cases e1; cases e2; exact .int _ _
  | 1 =>
    cases e1; cases e2
    refine .tup fun i t u e1 e2 => ?_
    rw [List.getElem?_map] at e1 e2
    cases q1 : a.flags[i]? with
    | none => rw [q1] at e1; cases e1
    | some x =>
      cases q2 : b.flags[i]? with
      | none => rw [q2] at e2; cases e2
      | some y => rw [q1] at e1; rw [q2] at e2; cases e1; cases e2; exact .str _ _
  | i + 2 => simp at e1
theorem cmp_map {α : Type} {f : α → Tree} (h : ∀ a b, Cmp 20 (f a) (f b)) {a b : List α} (k : Nat) (t u : Tree) (h1 : (a.map f)[k]? = some t) (h2 : (b.map f)[k]? = some u) : Cmp 20 t u := by
  rw [List.getElem?_map] at h1 h2
  cases q1 : a[k]? with
  | none => rw [q1] at h1; cases h1
  | some x =>
    cases q2 : b[k]? with
    | none => rw [q2] at h2; cases h2
    | some y => rw [q1] at h1; rw [q2] at h2; cases h1; cases h2; exact h x y
theorem CK.ne_same {c : Cx} {σ : St} {α : Type} {f : α → Tree} (hf : ∀ a b, Cmp 20 (f a) (f b)) {t u : Tree} {a : List α} (h₁ : LstOf σ t (a.map f)) (h₂ : LstOf σ u (a.map f)) (hr : Room 0 c.A) : CK c .NotEq t u σ false := by
  have := CK.ne_lst h₁ h₂ hr (cmp_map hf)
  rwa [same_self] at this
theorem cmp_intsN {n : Nat} {x : List Int} (i : Nat) (t u : Tree) (e1 : (intsT x)[i]? = some t) (e2 : (intsT x)[i]? = some u) : Cmp n t u := by
  unfold intsT at e1 e2
  rw [List.getElem?_map] at e1 e2
  cases q : x[i]? with
  | none => rw [q] at e1; cases e1
  | some w => rw [q] at e1 e2; cases e1; cases e2; exact .int _ _
theorem CK.three_same {c : Cx} {σ : St} {x y z : List Int} (hr : Room 0 c.A) : CK c .Eq (.tup [.lst (intsT x), .lst (intsT y), .lst (intsT z)]) (.tup [.lst (intsT x), .lst (intsT y), .lst (intsT z)]) σ true := by
  have := CK.eq_tup (c := c) (σ := σ) (ts := [.lst (intsT x), .lst (intsT y), .lst (intsT z)]) (us := [.lst (intsT x), .lst (intsT y), .lst (intsT z)]) hr fun i t u e1 e2 => by
    match i with
    | 0 => cases e1; cases e2; exact .lst cmp_intsN
    | 1 => cases e1; cases e2; exact .lst cmp_intsN
    | 2 => cases e1; cases e2; exact .lst cmp_intsN
    | i + 3 => simp at e1
  rwa [same_self] at this
theorem pickT_len {α : Type} {L : List α} {lo hi st : Option Int} : (pickT L lo hi st).length ≤ L.length := by
  have e : pickT (L.map fun _ => Value.none) lo hi st = (pickT L lo hi st).map fun _ => Value.none := pickT_map _ _ _ _ _
  have h := slicePick_size_le (L.map fun _ => Value.none).toArray lo hi st
  rw [slicePick_pick, e] at h
  simpa using h
theorem known_get {K : List Int} {j : Nat} (h : j < 4) : [Tree.none, .tup [.tup [.int 1, .int 0]], .tup ((pickT K none none (some (-1))).map fun u => pairT (dup u)), .tup ((pickT K none none (some 2)).map fun u => pairT (dup u))][j]? = some (knownT (knownOf K j)) := by
  match j, h with
  | 0, _ => rfl
  | 1, _ => rfl
  | 2, _ =>
    show some (Tree.tup (List.map (fun u => pairT (dup u)) _)) = some (Tree.tup (List.map pairT (List.map dup _)))
    rw [List.map_map]; rfl
  | 3, _ =>
    show some (Tree.tup (List.map (fun u => pairT (dup u)) _)) = some (Tree.tup (List.map pairT (List.map dup _)))
    rw [List.map_map]; rfl
theorem fmod_nat (s n : Nat) : Int.fmod (s : Int) (n : Int) = ((s % n : Nat) : Int) := by rw [Int.fmod_eq_emod_of_nonneg _ (by omega)]; push_cast; rfl
theorem fdiv_nat (s n : Nat) : Int.fdiv (s : Int) (n : Int) = ((s / n : Nat) : Int) := by rw [Int.fdiv_eq_ediv_of_nonneg _ (by omega)]; push_cast; rfl

section
variable {G : GS} {μ : Mem} {bx dx hx lx rx : Addr} {rl : List (Addr × LT)} {P : PS} {k : Nat} {cs : List (Int × Tree)} {q m : Int} {s : Nat}
set_option maxHeartbeats 4000000 in
theorem fn_right (M : MemOK μ bx dx hx lx rx rl P) (I : PInv k P) (hs : s < 8) (hcs : cs.length ≤ 12) (fcs : FlagD cs) (ncs : (cs.map (·.1)).Nodup) (hhp : HPok (hpOf cs m) (P.next - 1).toNat)
    (H1 : resyncV (P.box lx) P.ls q (knownOf (keysOf cs) (s % 4)) (mtOf cs s m) = due2 P cs q s m)
    (H2 : s % 4 < 3 → brought cs (due2 P cs q s m) (P.ls.filter fun l => decide (q < l.modseq)) = copyOf P.ls) :
    PF G 7 334 [.ptr bx, .ptr hx, .dct cs, .int q, .int (s : Int), .int m] μ (.bool true) := by
  refine FN.pureOf (ns := ["box", "held", "copy", "modseq", "sort", "mask"]) fun A L hr => ?_
  have hh := hr.1
  have hr0 : Room 0 A := hr.le (by decide)
  obtain ⟨m1, m2, m3, ⟨m4, m5, m6, m7⟩, m8, m9, m10⟩ := id M
  have mh := M.held
  obtain ⟨len1, len2, len3⟩ := I.lens
  have hrl : rl.length = P.ls.length := by rw [← m7, List.length_map]
  have hsm := I.small
  have hk12 := I.k12
  have hcn := I.cnt
  have hK : (keysOf cs).length ≤ 12 := by rw [keysOf_length]; exact hcs
  ktf_call "go"
  refine EV.callP 329 1 (hr.le (by decide)) ?_
  ktf_call "go"
  refine ⟨_, fn_due mh (by omega) (by omega) (by omega) (by omega), ?_⟩
  ktf_call "go"
  refine EV.comp (IV.lst hh ?_)
  ktf_call "go"
  have e1 : (rl.map fun a => Tree.int a.2.uid) = intsT (P.ls.map (·.uid)) := by rw [intsT, ← m7, List.map_map, List.map_map]; rfl
  refine ⟨_, by ktf_call "seq", comp1 rl (fun a => .ptr a.1) (fun a => .int a.2.uid) [] (by omega) (by ktf_call "seq") trivial (fun C l hl' => ?_) ?_ e1⟩
  · have k3 := m6 l hl'
    unfold rowT at k3
    ktf_call "go"
    exact ⟨rfl, rfl⟩
  have hdl : (dueOf P q).length ≤ 1000 := by
    unfold dueOf
    split
    · unfold goneSince
      have := List.length_filter_le (fun p : Int × Int => decide (q < p.2)) P.all
      rw [(sortZ_perm _).length_eq, List.length_map]; omega
    · unfold lacking
      have := List.length_filter_le (fun u => !decide (u ∈ P.ls.map (·.uid))) (uidsTo P.next)
      rw [uidsTo_length] at this; omega
  have hp1 := pickT_len (L := keysOf cs) (lo := none) (hi := none) (st := some (-1))
  have hp2 := pickT_len (L := keysOf cs) (lo := none) (hi := none) (st := some 2)
  have f4 : Int.fmod (s : Int) 4 = ((s % 4 : Nat) : Int) := fmod_nat s 4
  have ip : ∀ st : Option Int, pickT (intsT (keysOf cs)) none none st = (pickT (keysOf cs) none none st).map Tree.int := fun st => pickT_map _ _ _ _ _
  ktf_call "go"
  refine EV.list ?_
  ktf_call "go"
  refine EV.cTuple ?_
  ktf_call "go"
  refine EV.comp (IV.lst hh ?_)
  ktf_call "go"
  refine EV.cSortedD hh ?_
  ktf_call "go"
  ktf_call "go"
  refine ⟨intsT (keysOf cs), by decide, .inl rfl, by rw [intsT_length]; omega, ?_⟩
  refine ⟨_, .inl (congrArg Tree.lst (ip _)), comp1 (pickT (keysOf cs) none none (some (-1))) .int (fun u => pairT (dup u)) [] (by omega) (.inl (congrArg Tree.lst (ip _))) trivial (fun C l hl' => ?_) ?_⟩
  · ktf_call "go"
    exact ⟨rfl, rfl⟩
  ktf_call "go"
  ktf_call "go"
  refine EV.cTuple ?_
  ktf_call "go"
  refine EV.comp (IV.lst hh ?_)
  ktf_call "go"
  refine EV.cSortedD hh ?_
  ktf_call "go"
  ktf_call "go"
  refine ⟨intsT (keysOf cs), by decide, .inl rfl, by rw [intsT_length]; omega, ?_⟩
  refine ⟨_, .inl (congrArg Tree.lst (ip _)), comp1 (pickT (keysOf cs) none none (some 2)) .int (fun u => pairT (dup u)) [] (by omega) (.inl (congrArg Tree.lst (ip _))) trivial (fun C l hl' => ?_) ?_⟩
  · ktf_call "go"
    exact ⟨rfl, rfl⟩
  ktf_call "go"
  ktf_call "go"
  refine ⟨_, GK.cast f4 (GK.at (s % 4) (.inl rfl) (known_get (Nat.mod_lt _ (by decide))) (Nat.le_of_ble_eq_true rfl)), ?_⟩
  -- the due, by sort
  refine SV.cons (XV.joinH μ [("box", .ptr bx), ("held", .ptr hx), ("copy", .dct cs), ("modseq", .int q), ("sort", .int (s : Int)), ("mask", .int m), ("there", .lst (intsT (P.ls.map (·.uid)))), ("known", knownT (knownOf (keysOf cs) (s % 4))),
    ("due", .lst (intsT (if s % 4 = 2 then (dueOf P q).filter (fun u => (kget cs u).isSome) else dueOf P q)))] ?_ ?_)
  · ktf_call "go"
    refine ite_dec (fun h2 => ?_) (fun h2 => ?_)
    · rw [f4] at h2
      ktf_call "go"
      refine XV.assignComp (IV.lst hh ?_) (by ktf_call "st")
      ktf_call "go"
      refine ⟨_, .inl rfl, comp1f (dueOf P q) .int .int (fun u => (kget cs u).isSome) [("copy", .dct cs)] hdl (.inl rfl) ⟨⟨by ktf_call "lk", by kernel_rfl, by kernel_rfl⟩, trivial⟩ (fun C l hl' => ?_) (fun C l hl' hq => ?_) ?_⟩
      · ktf_call "go"
        exact ⟨_, CK.in_dct (.inl rfl), rfl, rfl⟩
      · ktf_call "go"
        exact ⟨rfl, rfl⟩
      ktf_call "go"
      exact ⟨rfl, rfl, by rw [if_pos (by omega)]; ktf_call "has"⟩
    · rw [f4] at h2
      ktf_call "go"
      exact ⟨rfl, rfl, by rw [if_neg (by omega)]; ktf_call "has"⟩
  intro ρ hs
  refine SV.cons (XV.joinH μ [("box", .ptr bx), ("held", .ptr hx), ("copy", .dct cs), ("modseq", .int q), ("sort", .int (s : Int)), ("mask", .int m), ("there", .lst (intsT (P.ls.map (·.uid)))), ("known", knownT (knownOf (keysOf cs) (s % 4))),
    ("due", .lst (intsT (due1 P cs q (s % 4))))] ?_ ?_)
  · ktf_call "go"
    refine ite_dec (fun h3 => ?_) (fun h3 => ?_)
    · rw [f4] at h3
      have h3' : s % 4 = 3 := by omega
      have h2' : ¬ s % 4 = 2 := by omega
      rw [if_neg h2'] at hs
      ktf_call "go"
      refine XV.assignComp (IV.lst hh ?_) (by ktf_call "st")
      ktf_call "go"
      refine ⟨_, .inl rfl, comp1f (dueOf P q) .int .int (fun u => decide (u ∈ pickT (keysOf cs) none none (some 2))) [("copy", .dct cs)] hdl (.inl rfl) ⟨⟨by ktf_call "lk", by kernel_rfl, by kernel_rfl⟩, trivial⟩ (fun C l hl' => ?_) (fun C l hl' hq => ?_) ?_⟩
      · ktf_call "go"
        refine EV.cSortedD hh ?_
        ktf_call "go"
        ktf_call "go"
        refine ⟨intsT (keysOf cs), by decide, .inl rfl, by rw [intsT_length]; omega, ?_⟩
        exact ⟨_, CK.in_ints (.inl (congrArg Tree.lst (ip _))), rfl, rfl⟩
      · ktf_call "go"
        exact ⟨rfl, rfl⟩
      ktf_call "go"
      exact ⟨rfl, rfl, by unfold due1; rw [if_neg h2', if_pos h3']; ktf_call "has"⟩
    · rw [f4] at h3
      have h3' : ¬ s % 4 = 3 := by omega
      ktf_call "go"
      exact ⟨rfl, rfl, by unfold due1; rw [if_neg h3']; ktf_call "has"⟩
  have hd1 : (due1 P cs q (s % 4)).length ≤ 1000 := by
    unfold due1
    split
    · exact Nat.le_trans (List.length_filter_le _ _) hdl
    · split
      · exact Nat.le_trans (List.length_filter_le _ _) hdl
      · exact hdl
  clear hs
  intro ρ hs
  have g4 : Int.fdiv (s : Int) 4 = ((s / 4 : Nat) : Int) := fdiv_nat s 4
  have g2 : Int.fmod ((s / 4 : Nat) : Int) 2 = ((s / 4 % 2 : Nat) : Int) := fmod_nat (s / 4) 2
  have hpl : (hpOf cs m).length ≤ 12 := by
    unfold hpOf
    have := List.length_filter_le (fun a : Int × Nat => bit m (a.2 % 8)) (keysOf cs).zipIdx
    rw [List.length_map]
    rw [List.length_zipIdx] at this; omega
  ktf_call "go1"
  refine XV.assign (EV.none ?_) (by ktf_call "st")
  refine SV.cons (XV.joinH μ [("box", .ptr bx), ("held", .ptr hx), ("copy", .dct cs), ("modseq", .int q), ("sort", .int (s : Int)), ("mask", .int m), ("known", knownT (knownOf (keysOf cs) (s % 4))),
    ("match", matchO (mtOf cs s m)), ("due", .lst (intsT (due2 P cs q s m)))] ?_ ?_)
  · ktf_call "go"
    refine ite_dec (fun h1 => ?_) (fun h1 => ?_)
    · rw [g4, g2] at h1
      have h1' : s / 4 % 2 = 1 := by omega
      obtain ⟨hp, hgp⟩ : ∃ hp, hpOf cs m = hp := ⟨_, rfl⟩
      have em : mtOf cs s m = some hp := by rw [← hgp]; exact if_pos h1'
      have eh : (((keysOf cs).zipIdx.filter fun a => bit m (a.2 % 8)).map fun a => pairT ((a.2 : Int) + 1, a.1)) = hp.map pairT := by rw [← hgp]; unfold hpOf; rw [List.map_map]; rfl
      have emt : matchO (some hp) = Tree.tup [.tup (hp.map fun p => .tup [.int p.1, .int p.1]), .tup (hp.map fun p => .tup [.int p.2, .int p.2])] := by
        show matchT hp = _
        unfold matchT sgl
        rw [List.map_map, List.map_map]; rfl
      have est : ((hp.filter (stands (P.ls.map (·.uid)))).map fun p => Tree.int p.2) = intsT (standing P hp) := by unfold standing; rw [intsT_map]
      rw [hgp] at hpl
      have hsl : (standing P hp).length ≤ 12 := by
        unfold standing
        have := List.length_filter_le (stands (P.ls.map (·.uid))) hp
        rw [List.length_map]; omega
      ktf_call "go"
      refine XV.assignComp (IV.enum hh rfl ?_) (by ktf_call "st")
      ktf_call "go"
      refine EV.cSortedD hh ?_
      ktf_call "go"
      ktf_call "go"
      refine ⟨_, intsT (keysOf cs), rfl, .inl rfl, ?_⟩
      refine CompK.cast (by rw [show intsT (keysOf cs) = (keysOf cs).map Tree.int from rfl, enumT_zip]) (comp2f (keysOf cs).zipIdx (fun a => .int (a.2 : Nat)) (fun a => .int a.1) (fun a => pairT ((a.2 : Int) + 1, a.1)) (fun a => bit m (a.2 % 8)) [("mask", .int m)] hh (by rw [List.length_zipIdx]; omega) (.inl rfl) ⟨⟨by ktf_call "lk", by kernel_rfl, by kernel_rfl⟩, trivial⟩ (fun C l hl' => ?_) (fun C l hl' hq => ?_) ?_ eh)
      · have h4 : l.2 % 8 < 8 := Nat.mod_lt _ (by decide)
        have e6 : Int.fmod (l.2 : Nat) 8 = ((l.2 % 8 : Nat) : Int) := fmod_nat l.2 8
        have hp : (2 : Int) ^ (l.2 % 8) = ((2 ^ (l.2 % 8) : Nat) : Int) := by push_cast; rfl
        have hp1 : 2 ^ (l.2 % 8) ≤ 2 ^ 7 := Nat.pow_le_pow_right (by decide) (by omega)
        have hp2 : 0 < 2 ^ (l.2 % 8) := Nat.pow_pos (by decide)
        ktf_call "go"
        rw [e6]
        refine ⟨l.2 % 8, rfl, rfl, by omega, ?_⟩
        refine ⟨_, _, rfl, rfl, by rw [hp]; omega, by rw [hp]; omega, ?_⟩
        ktf_call "go"
        exact ⟨rfl, rfl⟩
      · ktf_call "go"
        exact ⟨rfl, rfl⟩
      ktf_call "go"
      refine EV.cTuple ?_
      ktf_call "go"
      refine EV.comp (IV.lst hh ?_)
      ktf_call "go"
      refine ⟨_, .inl rfl, comp1 hp pairT (fun p => .tup [.int p.1, .int p.1]) [] (by omega) (.inl rfl) trivial (fun C l hl' => ?_) ?_⟩
      · ktf_call "go"
        exact ⟨rfl, rfl⟩
      ktf_call "go"
      ktf_call "go"
      refine EV.cTuple ?_
      ktf_call "go"
      refine EV.comp (IV.lst hh ?_)
      ktf_call "go"
      refine ⟨_, .inl rfl, comp1 hp pairT (fun p => .tup [.int p.2, .int p.2]) [] (by omega) (.inl rfl) trivial (fun C l hl' => ?_) ?_⟩
      · ktf_call "go"
        exact ⟨rfl, rfl⟩
      ktf_call "go"
      ktf_call "go"
      refine EV.comp (IV.lst hh ?_)
      ktf_call "go"
      refine ⟨_, .inl rfl, comp1f hp pairT (fun p => .int p.2) (stands (P.ls.map (·.uid))) [("there", .lst (intsT (P.ls.map (·.uid))))] (by omega) (.inl rfl) ⟨⟨by ktf_call "lk", by kernel_rfl, by kernel_rfl⟩, trivial⟩ (fun C l hl' => ?_) (fun C l hl' hq => ?_) ?_ est⟩
      · ktf_call "go"
        refine ⟨intsT (P.ls.map (·.uid)), .inl rfl, by rw [intsT_length, List.length_map]; omega, ?_⟩
        ktf_call "go"
        refine EV.list ?_
        ktf_call "go"
        rw [show pickT (intsT (P.ls.map (·.uid))) (some (l.1 - 1)) (some l.1) none = intsT (pickT (P.ls.map (·.uid)) (some (l.1 - 1)) (some l.1) none) from pickT_map _ _ _ _ _]
        exact ⟨_, CK.eq_ints (b := [l.2]) (.inl rfl) (.inl rfl) (hr.le (by decide)), rfl, rfl⟩
      · ktf_call "go"
        exact ⟨rfl, rfl⟩
      ktf_call "go"
      refine ite_dec (fun hf => ?_) (fun hf => ?_)
      · have ed : due2 P cs q s m = (due1 P cs q (s % 4)).filter (fun u => decide (listMax (0 :: standing P hp) < u)) := by
          unfold due2; rw [if_pos ⟨h1', hf⟩, hgp]
        ktf_call "go"
        refine XV.assignComp (IV.lst hh ?_) (by ktf_call "st")
        ktf_call "go"
        refine ⟨_, .inl rfl, comp1f (due1 P cs q (s % 4)) .int .int (fun u => decide (listMax (0 :: standing P hp) < u)) [("standing", .lst (intsT (standing P hp)))] hd1 (.inl rfl) ⟨⟨by ktf_call "lk", by kernel_rfl, by kernel_rfl⟩, trivial⟩ (fun C l hl' => ?_) (fun C l hl' hq => ?_) ?_⟩
        · ktf_call "go"
          refine EV.cMaxL hh (LV.cons (EV.addL (EV.list ?_)))
          ktf_call "go"
          refine ⟨[.int 0], intsT (standing P hp), .inl rfl, .inl rfl, by rw [intsT_length, List.length_singleton]; omega, ?_⟩
          ktf_call "go"
          refine ⟨_, 0 :: standing P hp, rfl, .inl rfl, by simp, ?_⟩
          ktf_call "go"
          exact ⟨rfl, rfl⟩
        · ktf_call "go"
          exact ⟨rfl, rfl⟩
        ktf_call "go"
        exact ⟨rfl, rfl, by rw [em, emt, ed]; ktf_call "has"⟩
      · have ed : due2 P cs q s m = due1 P cs q (s % 4) := by
          unfold due2; rw [if_neg fun z => hf z.2]
        ktf_call "go"
        exact ⟨rfl, rfl, by rw [em, emt, ed]; ktf_call "has"⟩
    · rw [g4, g2] at h1
      have h1' : ¬ s / 4 % 2 = 1 := by omega
      have em : mtOf cs s m = none := if_neg h1'
      have ed : due2 P cs q s m = due1 P cs q (s % 4) := by
        unfold due2; rw [if_neg fun z => h1' z.1]
      ktf_call "go"
      exact ⟨rfl, rfl, by rw [em, ed]; ktf_call "has"⟩
  clear hs
  intro ρ hs
  have hkl : ∀ ps, knownOf (keysOf cs) (s % 4) = some ps → ps.length ≤ 1000 := fun ps e => by
    unfold knownOf at e
    split at e
    · cases e
    · cases e; decide
    · cases e; rw [List.length_map]; omega
    · cases e; rw [List.length_map]; omega
  have hml : ∀ hp, mtOf cs s m = some hp → HPok hp ((P.box lx).next - 1).toNat := fun hp e => by
    unfold mtOf at e
    split at e
    · cases e; exact hhp
    · cases e
  ktf_call "go1"
  refine XV.assignT (EV.callP 271 6 hr ?_)
  ktf_call "go"
  refine ⟨.tup [.lst (intsT (due2 P cs q s m)), .lst (changedT P.ls q)], by have hz := fn_resync (G := G) (q := q) (b := P.box lx) (ls := P.ls) (dx := dx) m1 m2 m3 I.asc (by omega) (show 1 ≤ P.next by omega) (show P.next ≤ 1000 by omega) (show P.gone.length < 64 by omega) hkl hml; rwa [H1] at hz, ?_⟩
  ktf_call "go"
  refine ⟨_, CK.ne_ints (.inl rfl) (.inl rfl) hr0, ?_⟩
  refine ite_ndec (fun z => absurd rfl z) (fun _ => ?_)
  ktf_call "go"
  refine EV.callP 235 1 (hr.le (by decide)) ?_
  ktf_call "go"
  refine ⟨_, fn_is_forgotten (b := P.box lx) (dx := dx) m1 m2, ?_⟩
  ktf_call "go"
  refine ite_f (by show (decide (q < P.floor) != decide (q < P.floor)) = false; simp) ?_
  ktf_call "go"
  refine ite_f rfl ?_
  have hcl : (P.ls.filter fun l => decide (q < l.modseq)).length ≤ 12 := Nat.le_trans (List.length_filter_le _ _) len1
  have hI1 : findIn (KK G.w) (.ref LetterC) "told" = some (some (.ref 110)) := by kernel_rfl
  ktf_call "go"
  refine EV.comp (IV.lst hh ?_)
  ktf_call "go"
  refine ⟨(P.ls.filter fun l => decide (q < l.modseq)).map letT, .inl rfl, comp1 (P.ls.filter fun l => decide (q < l.modseq)) letT toldT [] (by omega) (.inl rfl) trivial (fun C l hl' => ?_) ?_⟩
  · refine EV.method0 1 ?_ (cls_letter _) hI1 (by kernel_rfl) (by kernel_rfl) (hr.le (by decide))
    ktf_call "go"
    refine ⟨.inr ⟨rfl, ⟨_, _, _, _, _, rfl⟩, by decide +kernel⟩, fn_told.mono fun t μ' ⟨e1, e2⟩ => ?_⟩
    subst e1 e2
    exact ⟨rfl, rfl⟩
  ktf_call "go"
  refine EV.comp (IV.lst hh ?_)
  ktf_call "go"
  refine ⟨P.ls.map letT, .inr ⟨_, rfl, m3⟩, comp1f P.ls letT toldT (fun l => decide (q < l.modseq)) [("modseq", .int q)] (by omega) (.inr ⟨_, rfl, m3⟩) ⟨⟨by ktf_call "lk", by kernel_rfl, by kernel_rfl⟩, trivial⟩ (fun C l hl' => ?_) (fun C l hl' hq => ?_) ?_⟩
  · ktf_call "go"
    exact ⟨rfl, rfl⟩
  · refine EV.method0 1 ?_ (cls_letter _) hI1 (by kernel_rfl) (by kernel_rfl) (hr.le (by decide))
    ktf_call "go"
    refine ⟨.inr ⟨rfl, ⟨_, _, _, _, _, rfl⟩, by decide +kernel⟩, fn_told.mono fun t μ' ⟨e1, e2⟩ => ?_⟩
    subst e1 e2
    exact ⟨rfl, rfl⟩
  refine ⟨_, CK.ne_same (fun _ _ => toldT_cmp) (.inl rfl) (.inl rfl) hr0, ?_⟩
  refine ite_f rfl ?_
  ktf_call "go"
  refine EV.comp (IV.lst hh ?_)
  ktf_call "go"
  refine ⟨(P.ls.filter fun l => decide (q < l.modseq)).map letT, .inl rfl, comp1 (P.ls.filter fun l => decide (q < l.modseq)) letT ufT [] (by omega) (.inl rfl) trivial (fun C l hl' => ?_) ?_⟩
  · ktf_call "go"
    exact ⟨rfl, rfl⟩
  ktf_call "go"
  refine EV.comp (IV.lst hh ?_)
  ktf_call "go"
  have euf : ((rl.filter fun a => decide (q < a.2.modseq)).map fun a => ufT a.2) = (P.ls.filter fun l => decide (q < l.modseq)).map ufT := by
    rw [← m7, List.filter_map, List.map_map]; rfl
  refine ⟨rl.map fun a => .ptr a.1, .inr ⟨_, rfl, m5⟩, comp1f rl (fun a => .ptr a.1) (fun a => ufT a.2) (fun a => decide (q < a.2.modseq)) [("modseq", .int q)] (by omega) (.inr ⟨_, rfl, m5⟩) ⟨⟨by ktf_call "lk", by kernel_rfl, by kernel_rfl⟩, trivial⟩ (fun C l hl' => ?_) (fun C l hl' hq => ?_) ?_ euf⟩
  · have k3 := m6 l hl'
    unfold rowT at k3
    ktf_call "go"
    exact ⟨rfl, rfl⟩
  · have k3 := m6 l hl'
    unfold rowT at k3
    ktf_call "go"
    exact ⟨rfl, rfl⟩
  refine ⟨_, CK.ne_same (fun _ _ => ufT_cmp) (.inl rfl) (.inl rfl) hr0, ?_⟩
  refine ite_f rfl ?_
  ktf_call "go"
  refine EV.callP 324 1 (hr.le (by decide)) ?_
  ktf_call "go"
  refine ⟨_, fn_taken mh I.asc (by omega), ?_⟩
  have hfd : FlagD (copyOf P.ls) := fun e he => by
    obtain ⟨l, _, rfl⟩ := List.mem_map.mp he
    exact ⟨l.flags, rfl⟩
  have hcmp : ∀ e ∈ copyOf P.ls, Cmp 20 e.2 e.2 := fun e he => by
    obtain ⟨fl, e1⟩ := hfd e he
    rw [e1]
    refine .tup fun i t u h1 h2 => ?_
    exact cmp_strs_n i t u h1 h2
  have hcol : (copyOf P.ls).length ≤ 12 := by rw [copyOf, List.length_map]; exact len1
  refine SV.cons (XV.joinH μ [("box", .ptr bx), ("copy", .dct cs), ("modseq", .int q), ("known", knownT (knownOf (keysOf cs) (s % 4))), ("match", matchO (mtOf cs s m)), ("now", .dct (copyOf P.ls))] ?_ ?_)
  · ktf_call "go"
    refine ite_dec (fun h3 => ?_) (fun h3 => ?_)
    · rw [f4] at h3
      ktf_call "go"
      refine EV.callP 290 1 (hr.le (by decide)) ?_
      ktf_call "go"
      refine ⟨.dct (copyOf P.ls), by have hz := fn_brought (G := G) (μ := μ) (es := cs) (cs := P.ls.filter fun l => decide (q < l.modseq)) (vs := due2 P cs q s m) ncs (by omega) (by omega); rwa [H2 (by omega)] at hz, ?_⟩
      ktf_call "go"
      refine ⟨_, CK.ne_dct (.inl rfl) (.inl rfl) hcmp hr0, ?_⟩
      refine ite_f rfl ?_
      ktf_call "go"
      refine EV.callP 297 1 (hr.le (by decide)) ?_
      ktf_call "go"
      refine ⟨_, fn_copy_of (b := P.box lx) (dx := dx) (ls := P.ls) m1 m2 m3 I.asc (by omega), ?_⟩
      ktf_call "go"
      refine ⟨_, CK.ne_dct (.inl rfl) (.inl rfl) hcmp hr0, ?_⟩
      refine ite_f rfl ?_
      ktf_call "go"
      refine ite_f rfl ?_
      refine ite_f rfl ?_
      ktf_call "go"
      exact ⟨rfl, rfl, by ktf_call "has"⟩
    · refine ite_f rfl ?_
      ktf_call "go"
      exact ⟨rfl, rfl, by ktf_call "has"⟩
  clear hs
  intro ρ hs
  have lb : (keysOf cs).length ≤ 1000 := by omega
  have la : (keysOf (copyOf P.ls)).length ≤ 1000 := by rw [keysOf_length]; omega
  ktf_call "go"
  refine XV.assignComp (IV.lst hh (EV.cSortedD hh ?_)) (by ktf_call "st")
  ktf_call "go"
  refine ⟨_, .inl rfl, comp1f (keysOf cs) .int .int (fun u => !(kget (copyOf P.ls) u).isSome) [("now", .dct (copyOf P.ls))] lb (.inl rfl) ⟨⟨by ktf_call "lk", by kernel_rfl, by kernel_rfl⟩, trivial⟩ (fun C l hl' => ?_) (fun C l hl' hq => ?_) ?_⟩
  · ktf_call "go"
    exact ⟨_, CK.notin_dct (.inl rfl), rfl, rfl⟩
  · ktf_call "go"
    exact ⟨rfl, rfl⟩
  refine SV.cons (XV.assignComp (IV.lst hh (EV.cSortedD hh ?_)) (by ktf_call "st"))
  ktf_call "go"
  refine ⟨_, .inl rfl, comp1f (keysOf (copyOf P.ls)) .int .int (fun u => !(kget cs u).isSome) [("copy", .dct cs)] la (.inl rfl) ⟨⟨by ktf_call "lk", by kernel_rfl, by kernel_rfl⟩, trivial⟩ (fun C l hl' => ?_) (fun C l hl' hq => ?_) ?_⟩
  · ktf_call "go"
    exact ⟨_, CK.notin_dct (.inl rfl), rfl, rfl⟩
  · ktf_call "go"
    exact ⟨rfl, rfl⟩
  refine SV.cons (XV.assignComp (IV.lst hh (EV.cSortedD hh ?_)) (by ktf_call "st"))
  ktf_call "go"
  refine ⟨_, .inl rfl, comp1f (keysOf (copyOf P.ls)) .int .int (fun u => (kget cs u).isSome && !same (kget cs u) (kget (copyOf P.ls) u)) [("copy", .dct cs), ("now", .dct (copyOf P.ls))] la (.inl rfl)
    ⟨⟨by ktf_call "lk", by kernel_rfl, by kernel_rfl⟩, ⟨by ktf_call "lk", by kernel_rfl, by kernel_rfl⟩, trivial⟩ (fun C l hl' => ?_) (fun C l hl' hq => ?_) ?_⟩
  · ktf_call "go"
    refine ⟨_, CK.in_dct (.inl rfl), ?_⟩
    cases hk : kget cs l with
    | none =>
      ktf_call "goS"
      exact ⟨rfl, rfl⟩
    | some t =>
      obtain ⟨u, hu⟩ := Option.isSome_iff_exists.mp (keysOf_mem.mp hl')
      ktf_call "goS"
      refine ⟨t, GK.dct (.inl rfl) hk, ?_⟩
      ktf_call "go"
      refine ⟨u, GK.dct (.inl rfl) hu, ?_⟩
      refine ⟨_, other_test hr0 fcs hfd hk hu, ?_⟩
      refine ite_b (fun h => ?_) (fun h => ?_)
      · ktf_call "go"
        rw [hk] at h
        exact ⟨by rw [h]; rfl, rfl⟩
      · rw [hk] at h
        exact ⟨by rw [h]; rfl, rfl⟩
  · ktf_call "go"
    exact ⟨rfl, rfl⟩
  ktf_call "go"
  refine EV.callP 302 1 (hr.le (by decide)) ?_
  ktf_call "go"
  refine ⟨_, fn_differences (by omega) (by omega) fcs hfd, ?_⟩
  ktf_call "go"
  refine ⟨_, CK.three_same hr0, ?_⟩
  ktf_call "go"
  refine ite_t rfl ?_
  ktf_call "go"
  refine EV.callP 271 1 (hr.le (by decide)) ?_
  ktf_call "go"
  refine ⟨_, fn_resync_none (b := P.box lx) (dx := dx) m1 m2 (by decide), ?_⟩
  ktf_call "go"
  exact ⟨rfl, .refl _⟩
end

/-! ### ascending lists -/
theorem asc_ext : ∀ {X Y : List Int}, X.Pairwise (· < ·) → Y.Pairwise (· < ·) → (∀ m, m ∈ X ↔ m ∈ Y) → X = Y
  | [], [], _, _, _ => rfl
  | [], y :: Y, _, _, h => by have := (h y).mpr (List.mem_cons_self ..); cases this
  | x :: X, [], _, _, h => by have := (h x).mp (List.mem_cons_self ..); cases this
  | x :: X, y :: Y, hX, hY, h => by
    have hx := (List.pairwise_cons.mp hX).1
    have hy := (List.pairwise_cons.mp hY).1
    have e : x = y := by
      have m1 := (h x).mp (List.mem_cons_self ..)
      have m2 := (h y).mpr (List.mem_cons_self ..)
      rcases List.mem_cons.mp m1 with e | m1
      · exact e
      · rcases List.mem_cons.mp m2 with e | m2
        · exact e.symm
        · have := hy x m1; have := hx y m2; omega
    subst e
    congr 1
    refine asc_ext (List.pairwise_cons.mp hX).2 (List.pairwise_cons.mp hY).2 fun m => ?_
    constructor
    · intro hm
      rcases List.mem_cons.mp ((h m).mp (List.mem_cons_of_mem _ hm)) with e | hm'
      · have := hx m hm; omega
      · exact hm'
    · intro hm
      rcases List.mem_cons.mp ((h m).mpr (List.mem_cons_of_mem _ hm)) with e | hm'
      · have := hy m hm; omega
      · exact hm'
theorem asc_len {X Y : List Int} (hX : X.Pairwise (· < ·)) (hY : Y.Pairwise (· < ·)) (h : ∀ m ∈ X, m ∈ Y) {c : Int} (hc : c ∈ Y) (hn : c ∉ X) : X.length < Y.length := by
  have e : X = Y.filter (fun m => decide (m ∈ X)) := asc_ext hX (hY.sublist List.filter_sublist) fun m => by
    rw [List.mem_filter, decide_eq_true_iff]
    exact ⟨fun z => ⟨h m z, z⟩, fun z => z.2⟩
  have : (Y.filter (fun m => decide (m ∈ X))).length < Y.length := by
    rw [List.length_filter_lt_length_iff_exists]
    exact ⟨c, hc, by simpa using hn⟩
  have hx := congrArg List.length e
  omega
theorem asc_below : ∀ {L : List Int} {i : Nat} {a : Int}, L.Pairwise (· < ·) → L[i]? = some a → (L.filter (fun m => decide (m < a))).length = i
  | [], i, a, _, h => by simp at h
  | x :: L, 0, a, hp, h => by
    simp at h; subst h
    rw [List.filter_cons_of_neg (by simp), List.filter_eq_nil_iff.mpr]
    · rfl
    · intro m hm; have := (List.pairwise_cons.mp hp).1 m hm; simp; omega
  | x :: L, i + 1, a, hp, h => by
    have h' : L[i]? = some a := by simpa using h
    have := (List.pairwise_cons.mp hp).1 a (List.mem_of_getElem? h')
    rw [List.filter_cons_of_pos (by simpa using this), List.length_cons, asc_below (List.pairwise_cons.mp hp).2 h']

theorem uids_asc {ls : List LT} (h : Asc ls) : (ls.map (·.uid)).Pairwise (· < ·) := by rw [List.pairwise_map]; exact h
theorem keys_copy {ls : List LT} (h : Asc ls) : keysOf (copyOf ls) = ls.map (·.uid) := by
  have e : (copyOf ls).map (·.1) = ls.map (·.uid) := by rw [copyOf, List.map_map]; rfl
  unfold keysOf
  rw [e]
  exact sorted_uniq (sortZ_perm _) (sortZ_sorted _) ((uids_asc h).imp fun z => by omega)
theorem copy_keys (ls : List LT) : (copyOf ls).map (·.1) = ls.map (·.uid) := by rw [copyOf, List.map_map]; rfl
theorem copy_nodup {ls : List LT} (h : Asc ls) : ((copyOf ls).map (·.1)).Nodup := by
  rw [copy_keys]
  exact (uids_asc h).imp fun z => by omega
theorem copy_flagD (ls : List LT) : FlagD (copyOf ls) := fun e he => by
  obtain ⟨l, _, rfl⟩ := List.mem_map.mp he
  exact ⟨l.flags, rfl⟩
theorem copy_get {ls : List LT} (h : Asc ls) {l : LT} (hl : l ∈ ls) : kget (copyOf ls) l.uid = some (flagsT l.flags) :=
  kget_self (copy_nodup h) (l.uid, flagsT l.flags) (List.mem_map.mpr ⟨l, hl, rfl⟩)
theorem copy_isSome {ls : List LT} {u : Int} : (kget (copyOf ls) u).isSome = decide (u ∈ ls.map (·.uid)) := by rw [kget_isSome, copy_keys]

theorem placeOf_neg {ls : List LT} {u : Int} : decide (placeOf ls u < 0) = !decide (u ∈ ls.map (·.uid)) := by
  unfold placeOf
  cases q : ls.findIdx? (fun l => decide (l.uid = u)) with
  | none =>
    have : u ∉ ls.map (·.uid) := fun hm => by
      obtain ⟨l, hl, e⟩ := List.mem_map.mp hm
      have := List.findIdx?_eq_none_iff.mp q l hl
      simp [e] at this
    simp [this]
  | some i =>
    obtain ⟨hi, h, _⟩ := List.findIdx?_eq_some_iff_getElem.mp q
    have : u ∈ ls.map (·.uid) := List.mem_map.mpr ⟨ls[i], List.getElem_mem hi, by simpa using h⟩
    simp [this]
theorem placeOf_iff {ls : List LT} (ha : Asc ls) {u : Int} {i : Nat} : placeOf ls u = (i : Int) ↔ (ls.map (·.uid))[i]? = some u := by
  constructor
  · intro h
    unfold placeOf at h
    cases q : ls.findIdx? (fun l => decide (l.uid = u)) with
    | none => rw [q] at h; simp at h
    | some j =>
      rw [q] at h
      have h' : (j : Int) = i := h
      have hj : j = i := by omega
      subst hj
      obtain ⟨hi, h, _⟩ := List.findIdx?_eq_some_iff_getElem.mp q
      rw [List.getElem?_map, List.getElem?_eq_getElem hi]
      simpa using h
  · intro h
    rw [List.getElem?_map] at h
    cases q : ls[i]? with
    | none => rw [q] at h; cases h
    | some l =>
      rw [q] at h
      exact placeOf_at ha q (by simpa using h)

/-! ### a step keeps the word -/
theorem asc_snoc {ls : List LT} {l : LT} (h : Asc ls) (hl : ∀ x ∈ ls, x.uid < l.uid) : Asc (ls ++ [l]) := by
  refine List.pairwise_append.mpr ⟨h, by simp, fun x hx y hy => ?_⟩
  rw [List.mem_singleton] at hy; subst hy; exact hl x hx
theorem asc_set {ls : List LT} {i : Nat} {l y : LT} (h : Asc ls) (hi : ls[i]? = some l) (e : y.uid = l.uid) : Asc (ls.set i y) := by
  have h2 : ((ls.set i y).map (·.uid)).Pairwise (· < ·) := by
    rw [map_set_same (f := fun l : LT => l.uid) hi e]; exact uids_asc h
  rw [List.pairwise_map] at h2; exact h2
theorem set_mem {ls : List LT} {i : Nat} {l y x : LT} (hi : ls[i]? = some l) (hx : x ∈ ls.set i y) : x = y ∨ x ∈ ls := by
  rcases List.mem_or_eq_of_mem_set hx with h | h
  · exact .inr h
  · exact .inl h

theorem filter_split {α : Type} (p : α → Bool) : ∀ L : List α, (L.filter p).length + (L.filter fun a => !p a).length = L.length
  | [] => rfl
  | a :: L => by
    have := filter_split p L
    cases h : p a with
    | true => rw [List.filter_cons_of_pos h, List.filter_cons_of_neg (by simp [h]), List.length_cons, List.length_cons]; omega
    | false => rw [List.filter_cons_of_neg (by simp [h]), List.filter_cons_of_pos (by simp [h]), List.length_cons, List.length_cons]; omega
theorem PInv.step {k : Nat} {P P' : PS} (I : PInv k P) (hk : k + 1 ≤ 12) (st : Step P P') : PInv (k + 1) P' := by
  have hs := I.small
  cases st with
  | same => exact ⟨I.asc, I.uid, I.mq, I.fl, I.al, I.cnt, I.gone, I.f0, I.ft, I.t1, by push_cast; omega, hk⟩
  | add fl i hf =>
    have hn : 1 ≤ P.next := by have := I.cnt; omega
    refine ⟨asc_snoc I.asc fun x hx => (I.uid x hx).2, fun l hl => ?_, fun l hl => ?_, fun l hl => ?_, fun p hp => ?_, ?_, I.gone, I.f0, ?_, ?_, ?_, hk⟩
    · rcases List.mem_append.mp hl with hl | hl
      · have := I.uid l hl; dsimp only; omega
      · rw [List.mem_singleton] at hl; subst hl; dsimp only; omega
    · rcases List.mem_append.mp hl with hl | hl
      · have := I.mq l hl; dsimp only; omega
      · rw [List.mem_singleton] at hl; subst hl; dsimp only; omega
    · rcases List.mem_append.mp hl with hl | hl
      · exact I.fl l hl
      · rw [List.mem_singleton] at hl; subst hl; exact hf
    · obtain ⟨a1, a2, a3, a4⟩ := I.al p hp
      refine ⟨a1, by dsimp only; omega, by dsimp only; omega, fun l hl => ?_⟩
      rcases List.mem_append.mp hl with hl | hl
      · exact a4 l hl
      · rw [List.mem_singleton] at hl; subst hl; dsimp only; omega
    · have := I.cnt; dsimp only; rw [List.length_append, List.length_singleton]; push_cast; omega
    · have := I.ft; dsimp only; omega
    · have := I.t1; dsimp only; omega
    · dsimp only; push_cast; omega
  | set i l fl hi hf =>
    have hl := List.mem_of_getElem? hi
    refine ⟨asc_set I.asc hi rfl, fun x hx => ?_, fun x hx => ?_, fun x hx => ?_, fun p hp => ?_, ?_, I.gone, I.f0, ?_, ?_, ?_, hk⟩
    · rcases set_mem hi hx with rfl | hx
      · exact I.uid l hl
      · exact I.uid x hx
    · rcases set_mem hi hx with rfl | hx
      · exact Int.le_refl _
      · have := I.mq x hx; dsimp only; omega
    · rcases set_mem hi hx with rfl | hx
      · exact hf
      · exact I.fl x hx
    · obtain ⟨a1, a2, a3, a4⟩ := I.al p hp
      refine ⟨a1, a2, by dsimp only; omega, fun x hx => ?_⟩
      rcases set_mem hi hx with rfl | hx
      · exact a4 l hl
      · exact a4 x hx
    · have := I.cnt; dsimp only; rw [List.length_set]; omega
    · have := I.ft; dsimp only; omega
    · have := I.t1; dsimp only; omega
    · dsimp only; push_cast; omega
  | exp sm hsub hne =>
    have hmem : ∀ u ∈ sm, ∃ l ∈ P.ls, l.uid = u := fun u hu => by
      obtain ⟨l, hl, e⟩ := List.mem_map.mp (hsub.subset hu); exact ⟨l, hl, e⟩
    have hlen : (P.ls.filter (fun l => !decide (l.uid ∈ sm))).length + sm.length = P.ls.length := by
      have h1 := sub_filter (uids_asc I.asc) hsub
      have h2 := congrArg List.length h1
      rw [List.filter_map, List.length_map] at h2
      have h3 := filter_split (fun l : LT => decide (l.uid ∈ sm)) P.ls
      have h4 : (P.ls.filter ((fun u => decide (u ∈ sm)) ∘ fun l : LT => l.uid)).length = (P.ls.filter fun l : LT => decide (l.uid ∈ sm)).length := rfl
      omega
    refine ⟨I.asc.sublist List.filter_sublist, fun x hx => I.uid x (List.mem_filter.mp hx).1, fun x hx => ?_, fun x hx => I.fl x (List.mem_filter.mp hx).1, fun p hp => ?_, ?_, ?_, I.f0, ?_, ?_, ?_, hk⟩
    · have := I.mq x (List.mem_filter.mp hx).1; dsimp only; omega
    · rcases List.mem_append.mp hp with hp | hp
      · obtain ⟨a1, a2, a3, a4⟩ := I.al p hp
        exact ⟨a1, a2, by dsimp only; omega, fun x hx => a4 x (List.mem_filter.mp hx).1⟩
      · obtain ⟨u, hu, rfl⟩ := List.mem_map.mp hp
        obtain ⟨l, hl, rfl⟩ := hmem u hu
        have := I.uid l hl
        refine ⟨this.1, this.2, Int.le_refl _, fun x hx e => ?_⟩
        have := (List.mem_filter.mp hx).2
        simp only [Bool.not_eq_true', decide_eq_false_iff_not] at this
        exact this (by rw [e]; exact hu)
    · have := I.cnt; dsimp only; rw [List.length_append, List.length_map]; push_cast; omega
    · dsimp only
      rw [I.gone, List.filter_append]
      congr 1
      symm
      rw [List.filter_eq_self]
      intro p hp
      obtain ⟨u, hu, rfl⟩ := List.mem_map.mp hp
      have := I.ft; simp; omega
    · have := I.ft; dsimp only; omega
    · have := I.t1; dsimp only; omega
    · dsimp only; push_cast; omega
  | forget q =>
    unfold forgetP
    split
    · exact ⟨I.asc, I.uid, I.mq, I.fl, I.al, I.cnt, I.gone, I.f0, I.ft, I.t1, by push_cast; omega, hk⟩
    · rename_i hle
      refine ⟨I.asc, I.uid, I.mq, I.fl, I.al, I.cnt, ?_, ?_, ?_, I.t1, by push_cast; omega, hk⟩
      · dsimp only
        rw [I.gone, List.filter_filter]
        refine List.filter_congr fun p hp => ?_
        have : (decide (min q P.top < p.2) && decide (P.floor < p.2)) = decide (min q P.top < p.2) := by
          by_cases h : min q P.top < p.2
          · have h2 : P.floor < p.2 := by omega
            simp [h, h2]
          · simp [h]
        exact this
      · have := I.f0; dsimp only; omega
      · dsimp only; omega

/-! ### from the copy on -/
structure Rel (P0 P : PS) : Prop where
  r1 : ∀ l ∈ P.ls, l.modseq ≤ P0.top → ∃ l0 ∈ P0.ls, l0.uid = l.uid ∧ l0.flags = l.flags
  r2 : ∀ l ∈ P.ls, l.uid < P0.next → ∃ l0 ∈ P0.ls, l0.uid = l.uid
  r3 : ∀ l0 ∈ P0.ls, (∃ l ∈ P.ls, l.uid = l0.uid) ∨ ∃ at', (l0.uid, at') ∈ P.all ∧ P0.top < at'
  r4 : P0.next ≤ P.next ∧ P0.top ≤ P.top
  r5 : ∀ l ∈ P.ls, P0.next ≤ l.uid → P0.top < l.modseq
theorem Rel.refl {k : Nat} {P : PS} (I : PInv k P) : Rel P P :=
  ⟨fun l hl _ => ⟨l, hl, rfl, rfl⟩, fun l hl _ => ⟨l, hl, rfl⟩, fun l hl => .inl ⟨l, hl, rfl⟩, ⟨Int.le_refl _, Int.le_refl _⟩, fun l hl h => by have := (I.uid l hl).2; omega⟩
theorem Rel.step {P0 P P' : PS} (R : Rel P0 P) (st : Step P P') : Rel P0 P' := by
  obtain ⟨r1, r2, r3, ⟨r4, r4'⟩, r5⟩ := R
  cases st with
  | same => exact ⟨r1, r2, r3, ⟨r4, r4'⟩, r5⟩
  | add fl i hf =>
    refine ⟨fun l hl h => ?_, fun l hl h => ?_, fun l0 hl0 => ?_, ⟨by dsimp only; omega, by dsimp only; omega⟩, fun l hl h => ?_⟩
    · rcases List.mem_append.mp hl with hl | hl
      · exact r1 l hl h
      · rw [List.mem_singleton] at hl; subst hl; dsimp only at h; omega
    · rcases List.mem_append.mp hl with hl | hl
      · exact r2 l hl h
      · rw [List.mem_singleton] at hl; subst hl; dsimp only at h; omega
    · rcases r3 l0 hl0 with ⟨l, hl, e⟩ | h
      · exact .inl ⟨l, List.mem_append_left _ hl, e⟩
      · exact .inr h
    · rcases List.mem_append.mp hl with hl | hl
      · exact r5 l hl h
      · rw [List.mem_singleton] at hl; subst hl; dsimp only; omega
  | set i l fl hi hf =>
    have hl := List.mem_of_getElem? hi
    refine ⟨fun x hx h => ?_, fun x hx h => ?_, fun l0 hl0 => ?_, ⟨by dsimp only; omega, by dsimp only; omega⟩, fun x hx h => ?_⟩
    · rcases set_mem hi hx with rfl | hx
      · dsimp only at h; omega
      · exact r1 x hx h
    · rcases set_mem hi hx with rfl | hx
      · exact r2 l hl h
      · exact r2 x hx h
    · rcases r3 l0 hl0 with ⟨y, hy, e⟩ | h
      · refine .inl ?_
        have e2 : (P.ls.set i ⟨l.uid, fl, l.inst, P.top + 1⟩).map (·.uid) = P.ls.map (·.uid) := map_set_same (f := fun l : LT => l.uid) hi rfl
        have : y.uid ∈ (P.ls.set i ⟨l.uid, fl, l.inst, P.top + 1⟩).map (·.uid) := by rw [e2]; exact List.mem_map_of_mem hy
        obtain ⟨z, hz, ez⟩ := List.mem_map.mp this
        exact ⟨z, hz, by rw [ez, e]⟩
      · exact .inr h
    · rcases set_mem hi hx with rfl | hx
      · dsimp only; omega
      · exact r5 x hx h
  | exp sm hsub hne =>
    refine ⟨fun x hx h => r1 x (List.mem_filter.mp hx).1 h, fun x hx h => r2 x (List.mem_filter.mp hx).1 h, fun l0 hl0 => ?_, ⟨r4, by dsimp only; omega⟩, fun x hx h => r5 x (List.mem_filter.mp hx).1 h⟩
    rcases r3 l0 hl0 with ⟨l, hl, e⟩ | ⟨at', h1, h2⟩
    · by_cases hm : l.uid ∈ sm
      · exact .inr ⟨P.top + 1, List.mem_append_right _ (List.mem_map.mpr ⟨l.uid, hm, by rw [e]⟩), by omega⟩
      · exact .inl ⟨l, List.mem_filter.mpr ⟨hl, by simpa using hm⟩, e⟩
    · exact .inr ⟨at', List.mem_append_left _ h1, h2⟩
  | forget q =>
    unfold forgetP
    split
    · exact ⟨r1, r2, r3, ⟨r4, r4'⟩, r5⟩
    · exact ⟨r1, r2, r3, ⟨r4, r4'⟩, r5⟩

theorem missing_eq {ls : List LT} {n : Int} : missing ls n = lacking ls n := List.filter_congr fun u _ => placeOf_neg
theorem lacking_copy {ls : List LT} {n : Int} : lacking ls n = (uidsTo n).filter fun u => !(kget (copyOf ls) u).isSome := List.filter_congr fun u _ => by rw [copy_isSome]
theorem uidsTo_mem {n u : Int} : u ∈ uidsTo n ↔ 1 ≤ u ∧ u < n := by
  unfold uidsTo
  rw [List.mem_map]
  constructor
  · rintro ⟨j, hj, rfl⟩
    have := List.mem_range.mp hj
    omega
  · rintro ⟨h1, h2⟩
    exact ⟨(u - 1).toNat, List.mem_range.mpr (by omega), by omega⟩

section
variable {k k0 : Nat} {P P0 : PS} {q m u : Int} {lx : Addr} {s : Nat}
theorem found_due (I : PInv k P) : found (P.box lx) P.ls q = dueOf P q := by
  show (if q < P.floor then missing P.ls P.next else goneSince P.gone q) = if P.floor ≤ q then goneSince P.all q else lacking P.ls P.next
  by_cases h : q < P.floor
  · rw [if_pos h, if_neg (by omega), missing_eq]
  · rw [if_neg h, if_pos (by omega)]
    unfold goneSince
    congr 2
    rw [I.gone, List.filter_filter]
    refine List.filter_congr fun p hp => ?_
    by_cases h2 : q < p.2
    · have h3 : P.floor < p.2 := by omega
      simp [h2, h3]
    · simp [h2]
theorem goneSince_mem {g : List (Int × Int)} : u ∈ goneSince g q ↔ ∃ at', (u, at') ∈ g ∧ q < at' := by
  unfold goneSince
  rw [(sortZ_perm _).mem_iff, List.mem_map]
  constructor
  · rintro ⟨p, hp, rfl⟩
    obtain ⟨h1, h2⟩ := List.mem_filter.mp hp
    exact ⟨p.2, h1, by simpa using h2⟩
  · rintro ⟨at', h1, h2⟩
    exact ⟨(u, at'), List.mem_filter.mpr ⟨h1, by simpa using h2⟩, rfl⟩
theorem due_range (I : PInv k P) (h : u ∈ dueOf P q) : 1 ≤ u ∧ u < P.next ∧ u ∉ P.ls.map (·.uid) := by
  unfold dueOf at h
  split at h
  · obtain ⟨at', h1, h2⟩ := goneSince_mem.mp h
    obtain ⟨a1, a2, a3, a4⟩ := I.al _ h1
    refine ⟨a1, a2, fun hm => ?_⟩
    obtain ⟨l, hl, e⟩ := List.mem_map.mp hm
    exact a4 l hl e
  · unfold lacking at h
    obtain ⟨h1, h2⟩ := List.mem_filter.mp h
    have := uidsTo_mem.mp h1
    exact ⟨this.1, this.2, by simpa using h2⟩

theorem any_dup {L : List Int} {g : Int} (h : ∀ n ∈ L, 1 ≤ n) : (L.map dup).any (inEnds u g) = decide (u ∈ L) := by
  induction L with
  | nil => simp
  | cons n L ih =>
    have hn := h n (List.mem_cons_self ..)
    rw [List.map_cons, List.any_cons, ih fun x hx => h x (List.mem_cons_of_mem _ hx)]
    have e : inEnds u g (dup n) = decide (u = n) := by
      unfold inEnds dup endsOf
      rw [if_neg (by omega), if_neg (by omega)]
      have e1 : min n n = n := by omega
      have e2 : max n n = n := by omega
      simp only [e1, e2]
      by_cases z : u = n
      · subst z; simp
      · have : ¬ (n ≤ u ∧ u ≤ n) := by omega
        simp [z]; omega
    rw [e]
    by_cases z : u = n <;> simp [z]

theorem keys0 (I0 : PInv k0 P0) : keysOf (copyOf P0.ls) = P0.ls.map (·.uid) := keys_copy I0.asc

theorem vanished_due (I : PInv k P) (I0 : PInv k0 P0) (hs : s < 4) : vanished (P.box lx) P.ls q (knownOf (keysOf (copyOf P0.ls)) s) = due1 P (copyOf P0.ls) q s := by
  have hf := found_due (lx := lx) (q := q) I
  have hK : ∀ n ∈ keysOf (copyOf P0.ls), 1 ≤ n := fun n hn => by
    rw [keys0 I0] at hn
    obtain ⟨l, hl, rfl⟩ := List.mem_map.mp hn
    exact (I0.uid l hl).1
  match s, hs with
  | 0, _ => exact hf
  | 1, _ =>
    show (found (P.box lx) P.ls q).filter _ = dueOf P q
    rw [hf, List.filter_eq_self]
    intro u hu
    obtain ⟨h1, h2, _⟩ := due_range I hu
    show (inEnds u (P.next - 1) (1, 0) || false) = true
    unfold inEnds endsOf
    rw [if_neg (by omega), if_neg (by omega), if_pos rfl]
    have e1 : min 1 (P.next - 1) = 1 := by omega
    have e2 : max 1 (P.next - 1) = P.next - 1 := by omega
    simp only [e1, e2]
    have h3 : u ≤ P.next - 1 := by omega
    simp [h1, h3]
  | 2, _ =>
    show (found (P.box lx) P.ls q).filter _ = (dueOf P q).filter _
    rw [hf]
    refine List.filter_congr fun u hu => ?_
    rw [any_dup fun n hn => hK n (pickT_mem hn), copy_isSome, keys0 I0]
    exact decide_eq_decide.mpr pickT_rev_mem
  | 3, _ =>
    show (found (P.box lx) P.ls q).filter _ = (dueOf P q).filter _
    rw [hf]
    refine List.filter_congr fun u hu => ?_
    rw [any_dup fun n hn => hK n (pickT_mem hn)]

/-! ### pairs of number and uid -/
theorem hp_uids (I0 : PInv k0 P0) {p : Int × Int} (h : p ∈ hpOf (copyOf P0.ls) m) : ∃ i : Nat, p.1 = (i : Int) + 1 ∧ (P0.ls.map (·.uid))[i]? = some p.2 := by
  unfold hpOf at h
  rw [keys0 I0] at h
  obtain ⟨a, ha, rfl⟩ := List.mem_map.mp h
  have := (List.mem_filter.mp ha).1
  refine ⟨a.2, rfl, ?_⟩
  exact List.mem_zipIdx_iff_getElem?.mp this
theorem hp_ok (I : PInv k P) (I0 : PInv k0 P0) (R : Rel P0 P) : HPok (hpOf (copyOf P0.ls) m) (P.next - 1).toNat := by
  have hn := I.cnt
  have hpos : 1 ≤ P.next := by omega
  have hn0 := I0.cnt
  have r4 := R.r4.1
  have asc := uids_asc I0.asc
  refine ⟨?_, ?_, fun n hn => ?_, fun n hn => ?_, ?_⟩
  · unfold hpOf
    rw [List.map_map]
    have h1 : ((keysOf (copyOf P0.ls)).zipIdx.map fun a => (a.2 : Int) + 1).Pairwise (· < ·) := by
      have h2 : ((keysOf (copyOf P0.ls)).zipIdx.map (·.2)).Pairwise (· < ·) := by
        rw [List.zipIdx_map_snd]
        exact List.pairwise_lt_range'
      rw [List.pairwise_map] at h2 ⊢
      exact h2.imp fun z => by omega
    exact h1.sublist (List.filter_sublist.map _)
  · unfold hpOf
    rw [List.map_map]
    have h1 : ((keysOf (copyOf P0.ls)).zipIdx.map (·.1)).Pairwise (· < ·) := by
      rw [List.zipIdx_map_fst, keys0 I0]; exact asc
    exact h1.sublist (List.filter_sublist.map _)
  · obtain ⟨p, hp, rfl⟩ := List.mem_map.mp hn
    obtain ⟨i, e1, e2⟩ := hp_uids I0 hp
    have hi := (List.getElem?_eq_some_iff.mp e2).1
    rw [List.length_map] at hi
    omega
  · obtain ⟨p, hp, rfl⟩ := List.mem_map.mp hn
    obtain ⟨i, e1, e2⟩ := hp_uids I0 hp
    obtain ⟨l, hl, e⟩ := List.mem_map.mp (List.mem_of_getElem? e2)
    have := I0.uid l hl
    omega
  · unfold hpOf
    have := List.length_filter_le (fun a : Int × Nat => bit m (a.2 % 8)) (keysOf (copyOf P0.ls)).zipIdx
    rw [List.length_map]
    rw [List.length_zipIdx] at this
    have h2 : (keysOf (copyOf P0.ls)).length = P0.ls.length := by rw [keys0 I0, List.length_map]
    have := I0.lens.1
    omega

theorem pickT_at {L : List Int} {i : Nat} : pickT L (some ((i : Int) + 1 - 1)) (some ((i : Int) + 1)) none = (L[i]?).toList := by
  unfold pickT
  have e : sliceBounds (some ((i : Int) + 1 - 1)) (some ((i : Int) + 1)) none L.length = (((min i L.length : Nat) : Int), ((min (i + 1) L.length : Nat) : Int), 1) := by
    have a1 : ¬ ((i : Int) + 1 - 1 < 0) := by omega
    have a2 : ¬ ((i : Int) + 1 < 0) := by omega
    have a3 : min ((i : Int) + 1 - 1) (L.length : Int) = ((min i L.length : Nat) : Int) := by omega
    have a4 : min ((i : Int) + 1) (L.length : Int) = ((min (i + 1) L.length : Nat) : Int) := by omega
    simp [sliceBounds, a2, a4]
    rw [if_neg (by omega)]
    omega
  rw [e, sliceRange_one]
  by_cases h : i < L.length
  · have e1 : min i L.length = i := by omega
    have e2 : min (i + 1) L.length = i + 1 := by omega
    rw [e1, e2, show i + 1 - i = 1 by omega, List.getElem?_eq_getElem h]
    simp [List.range_succ, h]
  · have e1 : min i L.length = L.length := by omega
    have e2 : min (i + 1) L.length = L.length := by omega
    rw [e1, e2, Nat.sub_self, List.getElem?_eq_none (by omega)]
    simp
theorem stands_iff {us : List Int} {i : Nat} {u : Int} : stands us ((i : Int) + 1, u) = decide (us[i]? = some u) := by
  unfold stands
  rw [pickT_at]
  refine decide_eq_decide.mpr ?_
  cases us[i]? with
  | none => simp
  | some w => simp

theorem agreed_fold (I : PInv k P) : ∀ (hp : List (Int × Int)) (b : Int), (∀ p ∈ hp, ∃ i : Nat, p.1 = (i : Int) + 1) → (hp.map (·.2)).Pairwise (· < ·) → (∀ p ∈ hp, b < p.2) →
    hp.foldl (fun best p => if placeOf P.ls p.2 + 1 = p.1 then p.2 else best) b = ((hp.filter (stands (P.ls.map (·.uid)))).map (·.2)).foldl max b
  | [], b, _, _, _ => rfl
  | p :: hp, b, h1, h2, h3 => by
    obtain ⟨i, e⟩ := h1 p (List.mem_cons_self ..)
    have hp2 := h3 p (List.mem_cons_self ..)
    have es : stands (P.ls.map (·.uid)) p = decide (placeOf P.ls p.2 + 1 = p.1) := by
      have : p = ((i : Int) + 1, p.2) := by rw [← e]
      rw [this, stands_iff]
      refine decide_eq_decide.mpr ?_
      rw [← placeOf_iff I.asc]
      dsimp only
      omega
    have asc2 := (List.pairwise_cons.mp h2)
    have next := fun b' (hb : ∀ p ∈ hp, b' < p.2) => agreed_fold I hp b' (fun p hp => h1 p (List.mem_cons_of_mem _ hp)) asc2.2 hb
    rw [List.foldl_cons]
    by_cases hq : placeOf P.ls p.2 + 1 = p.1
    · rw [if_pos hq, List.filter_cons_of_pos (by rw [es]; simpa using hq), List.map_cons, List.foldl_cons, show max b p.2 = p.2 by omega]
      exact next p.2 fun x hx => asc2.1 x.2 (List.mem_map_of_mem hx)
    · rw [if_neg hq, List.filter_cons_of_neg (by rw [es]; simpa using hq)]
      exact next b fun x hx => h3 x (List.mem_cons_of_mem _ hx)
theorem agreed_standing (I : PInv k P) (I0 : PInv k0 P0) (R : Rel P0 P) : agreed P.ls (hpOf (copyOf P0.ls) m) = listMax (0 :: standing P (hpOf (copyOf P0.ls) m)) := by
  have H := hp_ok (m := m) I I0 R
  refine agreed_fold I _ 0 (fun p hp => ?_) H.up2 fun p hp => ?_
  · obtain ⟨i, e, _⟩ := hp_uids I0 hp; exact ⟨i, e⟩
  · have := H.in2 p.2 (List.mem_map_of_mem hp); omega

/-- resync tells what is due -/
theorem resync_due (I : PInv k P) (I0 : PInv k0 P0) (R : Rel P0 P) (hs : s < 8) :
    resyncV (P.box lx) P.ls q (knownOf (keysOf (copyOf P0.ls)) (s % 4)) (mtOf (copyOf P0.ls) s m) = due2 P (copyOf P0.ls) q s m := by
  have hv := vanished_due (lx := lx) (q := q) (s := s % 4) I I0 (Nat.mod_lt _ (by decide))
  unfold mtOf due2
  by_cases h1 : s / 4 % 2 = 1
  · rw [if_pos h1]
    show (if q < P.floor then (vanished (P.box lx) P.ls q _).filter _ else vanished (P.box lx) P.ls q _) = _
    by_cases h2 : q < P.floor
    · rw [if_pos h2, if_pos ⟨h1, h2⟩, hv, agreed_standing I I0 R]
    · rw [if_neg h2, if_neg (fun z => h2 z.2), hv]
  · rw [if_neg h1, if_neg (fun z => h1 z.1)]
    exact hv
end

/-! ### the copy brought up to date -/
theorem asc_cut (n : Int) : ∀ {ls : List LT}, Asc ls → ls = (ls.filter fun l => decide (l.uid < n)) ++ ls.filter fun l => !decide (l.uid < n)
  | [], _ => rfl
  | l :: ls, h => by
    have hp := List.pairwise_cons.mp h
    by_cases hl : l.uid < n
    · rw [List.filter_cons_of_pos (by simpa using hl), List.filter_cons_of_neg (by simpa using hl), List.cons_append, ← asc_cut n hp.2]
    · rw [List.filter_cons_of_neg (by simpa using hl), List.filter_cons_of_pos (by simpa using hl)]
      have h1 : ls.filter (fun l => decide (l.uid < n)) = [] := List.filter_eq_nil_iff.mpr fun x hx => by
        have := hp.1 x hx; simp; omega
      have h2 : ls.filter (fun l => !decide (l.uid < n)) = ls := List.filter_eq_self.mpr fun x hx => by
        have := hp.1 x hx; simp; omega
      rw [h1, h2]; rfl

theorem put_map {A : List LT} {c : LT} (hc : c ∈ A) (g : LT → Tree) (t : Tree) :
    kput (A.map fun a => (a.uid, g a)) c.uid t = A.map fun a => (a.uid, if a.uid = c.uid then t else g a) := by
  unfold kput
  rw [if_pos]
  · rw [List.map_map]
    refine List.map_congr_left fun a _ => ?_
    by_cases h : a.uid = c.uid
    · simp [h]
    · simp [h]
  · rw [List.any_eq_true]
    exact ⟨(c.uid, g c), List.mem_map.mpr ⟨c, hc, rfl⟩, by simp⟩
theorem asc_same {A : List LT} (hA : Asc A) {a c : LT} (ha : a ∈ A) (hc : c ∈ A) (e : a.uid = c.uid) : a = c := by
  induction A with
  | nil => cases ha
  | cons x A ih =>
    have hp := List.pairwise_cons.mp hA
    rcases List.mem_cons.mp ha with rfl | ha'
    · rcases List.mem_cons.mp hc with rfl | hc'
      · rfl
      · have := hp.1 c hc'; omega
    · rcases List.mem_cons.mp hc with rfl | hc'
      · have := hp.1 a ha'; omega
      · exact ih hp.2 ha' hc'
theorem fold_map {A : List LT} (hA : Asc A) : ∀ (C : List LT) (g : LT → Tree), (∀ c ∈ C, c ∈ A) →
    C.foldl (fun d l => kput d l.uid (flagsT l.flags)) (A.map fun a => (a.uid, g a)) = A.map fun a => (a.uid, if a.uid ∈ C.map (·.uid) then flagsT a.flags else g a)
  | [], g, _ => by simp
  | c :: C, g, h => by
    have hc := h c (List.mem_cons_self ..)
    rw [List.foldl_cons, put_map hc, fold_map hA C _ fun x hx => h x (List.mem_cons_of_mem _ hx)]
    refine List.map_congr_left fun a ha => ?_
    congr 1
    by_cases h1 : a.uid ∈ C.map (·.uid)
    · rw [if_pos h1, if_pos (by rw [List.map_cons]; exact List.mem_cons_of_mem _ h1)]
    · rw [if_neg h1]
      by_cases h2 : a.uid = c.uid
      · rw [if_pos h2, if_pos (by rw [List.map_cons, h2]; exact List.mem_cons_self ..), asc_same hA ha hc h2]
      · rw [if_neg h2, if_neg]
        intro q
        rw [List.map_cons] at q
        rcases List.mem_cons.mp q with q | q
        · exact h2 q
        · exact h1 q
theorem fold_new : ∀ (B : List LT) (es : List (Int × Tree)), Asc B → (∀ b ∈ B, b.uid ∉ es.map (·.1)) →
    B.foldl (fun d l => kput d l.uid (flagsT l.flags)) es = es ++ copyOf B
  | [], es, _, _ => by simp [copyOf]
  | b :: B, es, hB, h => by
    have hp := List.pairwise_cons.mp hB
    rw [List.foldl_cons, kput_new (h b (List.mem_cons_self ..)), fold_new B _ hp.2 fun x hx => ?_]
    · simp [copyOf]
    · rw [List.map_append, List.mem_append]
      rintro (q | q)
      · exact h x (List.mem_cons_of_mem _ hx) q
      · simp at q
        have := hp.1 x hx; omega

section
variable {k k0 : Nat} {P P0 : PS} {q m u : Int} {lx : Addr} {s : Nat}
theorem due2_sub (h : u ∈ due2 P (copyOf P0.ls) q s m) : u ∈ dueOf P q := by
  have h1 : u ∈ due1 P (copyOf P0.ls) q (s % 4) := by
    unfold due2 at h
    split at h
    · exact (List.mem_filter.mp h).1
    · exact h
  unfold due1 at h1
  split at h1
  · exact (List.mem_filter.mp h1).1
  · split at h1
    · exact (List.mem_filter.mp h1).1
    · exact h1
theorem standing_below (I : PInv k P) (I0 : PInv k0 P0) (R : Rel P0 P) (hu0 : u ∈ P0.ls.map (·.uid)) (hu : u ∉ P.ls.map (·.uid)) : listMax (0 :: standing P (hpOf (copyOf P0.ls) m)) < u := by
  have hu1 : 1 ≤ u := by
    obtain ⟨l, hl, rfl⟩ := List.mem_map.mp hu0
    exact (I0.uid l hl).1
  show (standing P (hpOf (copyOf P0.ls) m)).foldl max 0 < u
  rcases (foldl_max_ge (standing P (hpOf (copyOf P0.ls) m)) 0).2.2 with e | hm
  · omega
  generalize (standing P (hpOf (copyOf P0.ls) m)).foldl max 0 = w at hm ⊢
  unfold standing at hm
  obtain ⟨p, hp, rfl⟩ := List.mem_map.mp hm
  obtain ⟨hp1, hp2⟩ := List.mem_filter.mp hp
  obtain ⟨i, e1, e2⟩ := hp_uids I0 hp1
  have e3 : (P.ls.map (·.uid))[i]? = some p.2 := by
    have : p = ((i : Int) + 1, p.2) := by rw [← e1]
    rw [this, stands_iff] at hp2
    simpa using hp2
  have hin := List.mem_of_getElem? e3
  have hin0 := List.mem_of_getElem? e2
  have hne : u ≠ p.2 := fun e => hu (e ▸ hin)
  refine Int.not_le.mp fun hle => ?_
  have c1 := asc_below (uids_asc I.asc) e3
  have c2 := asc_below (uids_asc I0.asc) e2
  have c3 : ((P.ls.map (·.uid)).filter (fun m => decide (m < p.2))).length < ((P0.ls.map (·.uid)).filter (fun m => decide (m < p.2))).length := by
    refine asc_len (c := u) ((uids_asc I.asc).sublist List.filter_sublist) ((uids_asc I0.asc).sublist List.filter_sublist) (fun x hx => ?_) ?_ ?_
    · obtain ⟨h1, h2⟩ := List.mem_filter.mp hx
      have h2 : x < p.2 := by simpa using h2
      obtain ⟨l, hl, rfl⟩ := List.mem_map.mp h1
      obtain ⟨l1, hl1, e⟩ := List.mem_map.mp hin0
      have := (I0.uid l1 hl1).2
      obtain ⟨l0, hl0, e0⟩ := R.r2 l hl (by omega)
      exact List.mem_filter.mpr ⟨List.mem_map.mpr ⟨l0, hl0, e0⟩, by simpa using h2⟩
    · exact List.mem_filter.mpr ⟨hu0, by simp; omega⟩
    · exact fun z => hu (List.mem_filter.mp z).1
  omega
theorem due_gone (I : PInv k P) (I0 : PInv k0 P0) (R : Rel P0 P) (hs : s % 4 < 3) (hu0 : u ∈ P0.ls.map (·.uid)) : u ∈ due2 P (copyOf P0.ls) P0.top s m ↔ u ∉ P.ls.map (·.uid) := by
  constructor
  · intro h
    exact (due_range I (due2_sub h)).2.2
  · intro h
    have h0 : u ∈ dueOf P P0.top := by
      unfold dueOf
      obtain ⟨l0, hl0, rfl⟩ := List.mem_map.mp hu0
      split
      · rcases R.r3 l0 hl0 with ⟨l, hl, e⟩ | ⟨at', h1, h2⟩
        · exact absurd (List.mem_map.mpr ⟨l, hl, e⟩) h
        · exact goneSince_mem.mpr ⟨at', h1, h2⟩
      · have := I0.uid l0 hl0
        have := R.r4.1
        exact List.mem_filter.mpr ⟨uidsTo_mem.mpr ⟨by omega, by omega⟩, by simpa using h⟩
    have h1 : u ∈ due1 P (copyOf P0.ls) P0.top (s % 4) := by
      unfold due1
      split
      · exact List.mem_filter.mpr ⟨h0, by rw [copy_isSome]; simpa using hu0⟩
      · rw [if_neg (by omega)]; exact h0
    unfold due2
    split
    · exact List.mem_filter.mpr ⟨h1, by simpa using standing_below I I0 R hu0 h⟩
    · exact h1

theorem brought_now (I : PInv k P) (I0 : PInv k0 P0) (R : Rel P0 P) (hs : s % 4 < 3) :
    brought (copyOf P0.ls) (due2 P (copyOf P0.ls) P0.top s m) (P.ls.filter fun l => decide (P0.top < l.modseq)) = copyOf P.ls := by
  have cut := asc_cut P0.next I.asc
  have hA : Asc (P.ls.filter fun l => decide (l.uid < P0.next)) := I.asc.sublist List.filter_sublist
  have hB : Asc (P.ls.filter fun l => !decide (l.uid < P0.next)) := I.asc.sublist List.filter_sublist
  have mA : ∀ l ∈ P.ls.filter (fun l => decide (l.uid < P0.next)), l ∈ P.ls ∧ l.uid < P0.next := fun l hl => by
    obtain ⟨h1, h2⟩ := List.mem_filter.mp hl; exact ⟨h1, by simpa using h2⟩
  have mB : ∀ l ∈ P.ls.filter (fun l => !decide (l.uid < P0.next)), l ∈ P.ls ∧ P0.next ≤ l.uid := fun l hl => by
    obtain ⟨h1, h2⟩ := List.mem_filter.mp hl; exact ⟨h1, by simpa using h2⟩
  have mA' : ∀ l ∈ P.ls, l.uid < P0.next → l ∈ P.ls.filter (fun l => decide (l.uid < P0.next)) := fun l h1 h2 => List.mem_filter.mpr ⟨h1, by simpa using h2⟩
  generalize (P.ls.filter fun l => decide (l.uid < P0.next)) = A at cut hA mA mA'
  generalize (P.ls.filter fun l => !decide (l.uid < P0.next)) = B at cut hB mB
  -- what stays of the copy
  have hk : broughtKeep (copyOf P0.ls) (due2 P (copyOf P0.ls) P0.top s m) = A.map fun a => (a.uid, (kget (copyOf P0.ls) a.uid).getD .none) := by
    have e1 : broughtKeep (copyOf P0.ls) (due2 P (copyOf P0.ls) P0.top s m) = (P0.ls.filter fun l => !decide (l.uid ∈ due2 P (copyOf P0.ls) P0.top s m)).map fun l => (l.uid, flagsT l.flags) := by
      show ((P0.ls.map fun l => (l.uid, flagsT l.flags)).filter fun e => !decide (e.1 ∈ due2 P (copyOf P0.ls) P0.top s m)) = _
      rw [List.filter_map]; rfl
    have e2 : ((P0.ls.filter fun l => !decide (l.uid ∈ due2 P (copyOf P0.ls) P0.top s m)).map fun l => (l.uid, flagsT l.flags)) = ((P0.ls.filter fun l => !decide (l.uid ∈ due2 P (copyOf P0.ls) P0.top s m)).map (·.uid)).map fun u => (u, (kget (copyOf P0.ls) u).getD .none) := by
      rw [List.map_map]
      refine List.map_congr_left fun l hl => ?_
      show (l.uid, flagsT l.flags) = (l.uid, (kget (copyOf P0.ls) l.uid).getD .none)
      rw [copy_get I0.asc (List.mem_filter.mp hl).1]; rfl
    have e3 : (P0.ls.filter fun l => !decide (l.uid ∈ due2 P (copyOf P0.ls) P0.top s m)).map (·.uid) = A.map (·.uid) := by
      refine asc_ext (uids_asc (I0.asc.sublist List.filter_sublist)) (uids_asc hA) fun x => ?_
      constructor
      · intro hx
        obtain ⟨l0, hl0, rfl⟩ := List.mem_map.mp hx
        obtain ⟨h1, h2⟩ := List.mem_filter.mp hl0
        have h2 : l0.uid ∉ due2 P (copyOf P0.ls) P0.top s m := by simpa using h2
        have h3 : l0.uid ∈ P.ls.map (·.uid) := Classical.byContradiction fun z => h2 ((due_gone I I0 R hs (List.mem_map_of_mem h1)).mpr z)
        obtain ⟨l, hl, e⟩ := List.mem_map.mp h3
        have := (I0.uid l0 h1).2
        exact List.mem_map.mpr ⟨l, mA' l hl (by omega), e⟩
      · intro hx
        obtain ⟨l, hl, rfl⟩ := List.mem_map.mp hx
        obtain ⟨h1, h2⟩ := mA l hl
        obtain ⟨l0, hl0, e⟩ := R.r2 l h1 h2
        refine List.mem_map.mpr ⟨l0, List.mem_filter.mpr ⟨hl0, ?_⟩, e⟩
        have : l0.uid ∉ due2 P (copyOf P0.ls) P0.top s m := fun z => (due_gone I I0 R hs (List.mem_map_of_mem hl0)).mp z (by rw [e]; exact List.mem_map_of_mem h1)
        simpa using this
    rw [e1, e2, e3, List.map_map]; rfl
  have hBf : B.filter (fun l => decide (P0.top < l.modseq)) = B := List.filter_eq_self.mpr fun l hl => by
    obtain ⟨h1, h2⟩ := mB l hl
    simpa using R.r5 l h1 h2
  have hP : copyOf P.ls = copyOf A ++ copyOf B := by rw [cut]; unfold copyOf; rw [List.map_append]
  have hCA : ∀ c ∈ A.filter (fun l => decide (P0.top < l.modseq)), c ∈ A := fun c hc => (List.mem_filter.mp hc).1
  have fold1 := fold_map hA (A.filter fun l => decide (P0.top < l.modseq)) (fun a => (kget (copyOf P0.ls) a.uid).getD .none) hCA
  have eA : (A.map fun a => (a.uid, if a.uid ∈ (A.filter fun l => decide (P0.top < l.modseq)).map (·.uid) then flagsT a.flags else (kget (copyOf P0.ls) a.uid).getD .none)) = copyOf A := by
    refine List.map_congr_left fun a ha => ?_
    congr 1
    split
    · rfl
    · rename_i hn
      have h1 : ¬ P0.top < a.modseq := fun z => hn (List.mem_map_of_mem (List.mem_filter.mpr ⟨ha, by simpa using z⟩))
      obtain ⟨l0, hl0, e1, e2⟩ := R.r1 a (mA a ha).1 (by omega)
      rw [← e1, copy_get I0.asc hl0, e2]; rfl
  unfold brought
  rw [hk]
  have ef : (P.ls.filter fun l => decide (P0.top < l.modseq)) = (A.filter fun l => decide (P0.top < l.modseq)) ++ B := by
    rw [cut, List.filter_append, hBf]
  rw [ef, List.foldl_append, fold1, eA, hP]
  refine fold_new B _ hB fun b hb hm => ?_
  rw [copy_keys] at hm
  obtain ⟨a, ha, e⟩ := List.mem_map.mp hm
  have := (mA a ha).2
  have := (mB b hb).2
  omega
end

section
variable {G : GS} {μ : Mem}
/-- a new box -/
noncomputable def BoxNew (μ : Mem) (t : Tree) (μ' : Mem) : Prop := ∃ x dx lx, t = .ptr x ∧ μ' x = some (.inst BoxC dx) ∧ μ' dx = some (.attrs (boxA ⟨1, 1, 0, lx, []⟩)) ∧ μ' lx = some (.lst []) ∧ Le μ μ'
theorem fn_box : FN G 2 151 [.str "box", .int 9] μ (BoxNew μ) := by
  refine FN.make (fI := 131) (by kernel_rfl) (by kernel_rfl) (by kernel_rfl) fun x dx hx hdx hne => ?_
  refine FN.letOf (ns := ["self", "name", "validity"]) fun A L hr => ?_
  have hh := hr.1
  have hne' := hne.symm
  refine SV.cons (XV.setAttr ?_)
  ktf_call "go"
  refine ⟨_, BoxC, _, _, rfl, by ktf_call "mm", by ktf_call "mm", cls_box _, by kernel_rfl, by ktf_call "len", ?_⟩
  refine SV.cons (XV.setAttr ?_)
  ktf_call "go"
  refine ⟨_, BoxC, _, _, rfl, by ktf_call "mm", by ktf_call "mm", cls_box _, by kernel_rfl, by ktf_call "len", ?_⟩
  refine SV.cons (XV.setAttr ?_)
  ktf_call "go"
  refine ⟨_, BoxC, _, _, rfl, by ktf_call "mm", by ktf_call "mm", cls_box _, by kernel_rfl, by ktf_call "len", ?_⟩
  refine SV.cons (XV.setAttr ?_)
  ktf_call "go"
  refine ⟨_, BoxC, _, _, rfl, by ktf_call "mm", by ktf_call "mm", cls_box _, by kernel_rfl, by ktf_call "len", ?_⟩
  refine SV.cons (XV.setAttr ?_)
  ktf_call "go"
  refine ⟨_, BoxC, _, _, rfl, by ktf_call "mm", by ktf_call "mm", cls_box _, by kernel_rfl, by ktf_call "len", ?_⟩
  refine SV.cons (XV.setAttr (EV.listM ?_))
  ktf_call "go"
  intro lx hlx
  dsimp only at hlx
  obtain ⟨p1, c1⟩ := Mem.put_none hlx
  obtain ⟨p2, -⟩ := Mem.put_none p1
  obtain ⟨p3, -⟩ := Mem.put_none p2
  obtain ⟨p4, -⟩ := Mem.put_none p3
  obtain ⟨p5, -⟩ := Mem.put_none p4
  obtain ⟨p6, c2⟩ := Mem.put_none p5
  obtain ⟨p7, -⟩ := Mem.put_none p6
  have c1' := c1.symm
  have c2' := c2.symm
  ktf_call "go"
  refine ⟨_, BoxC, _, _, rfl, by ktf_call "mm", by ktf_call "mm", cls_box _, by kernel_rfl, by ktf_call "len", ?_⟩
  refine SV.cons (XV.setAttr (EV.list ?_))
  ktf_call "go"
  refine ⟨_, BoxC, _, _, rfl, by ktf_call "mm", by ktf_call "mm", cls_box _, by kernel_rfl, by ktf_call "len", ?_⟩
  ktf_call "go"
  refine ⟨_, .refl _, rfl, x, dx, lx, rfl, ?_, Mem.put_self, ?_, ?_⟩
  · try dsimp only
    ktf_call "mm"
  · try dsimp only
    ktf_call "mm"
  · intro a mo ha
    have d1 : a ≠ dx := Mem.ne_of ha hdx
    have d2 : a ≠ x := Mem.ne_of ha hx
    have d3 : a ≠ lx := Mem.ne_of ha p7
    try dsimp only
    ktf_call "mm"

/-! ### the law -/
theorem held_nodup {P : PS} {rx : Addr} : ((heldD P rx).map (·.1)).Nodup := by
  show (["next", "top", "floor", "rows", "gone", "all"] : List Str).Nodup
  decide +kernel
theorem range_at {n : Nat} {pre post : List Nat} {a : Nat} (h : List.range n = pre ++ a :: post) : a = pre.length ∧ a < n := by
  have h1 : (List.range n)[pre.length]? = some a := by rw [h]; simp
  obtain ⟨h2, h3⟩ := List.getElem?_eq_some_iff.mp h1
  rw [List.getElem_range] at h3
  rw [List.length_range] at h2
  omega
theorem pickT_len12 {α : Type} {L : List α} : (pickT L none (some 12) none).length ≤ 12 := by
  unfold pickT
  refine Nat.le_trans (List.length_filterMap_le _ _) ?_
  have e : sliceBounds none (some 12) none L.length = (((0 : Nat) : Int), ((min 12 L.length : Nat) : Int), 1) := by
    have a1 : min (12 : Int) (L.length : Int) = ((min 12 L.length : Nat) : Int) := by omega
    simp [sliceBounds, a1]
  rw [e, sliceRange_one, List.length_map, List.length_range]
  omega
noncomputable def P00 : PS := ⟨[], 1, 1, 0, [], []⟩
theorem inv00 : PInv 0 P00 := ⟨List.Pairwise.nil, nofun, nofun, nofun, nofun, rfl, rfl, by decide, by decide, by decide, by decide, by decide⟩
noncomputable def Copied (P : PS) (cs : List (Int × Tree)) (q : Int) : Prop := ∃ k0 P0, PInv k0 P0 ∧ cs = copyOf P0.ls ∧ q = P0.top ∧ Rel P0 P
theorem Copied.step {P P' : PS} {cs : List (Int × Tree)} {q : Int} (h : Copied P cs q) (st : Step P P') : Copied P' cs q :=
  let ⟨k0, P0, a, b, c, d⟩ := h; ⟨k0, P0, a, b, c, d.step st⟩
theorem Copied.here {P : PS} {k : Nat} (I : PInv k P) : Copied P (copyOf P.ls) P.top := ⟨k, P, I, rfl, rfl, Rel.refl I⟩
noncomputable def firstOf : List Int → Int
  | [] => 17
  | a :: _ => a
noncomputable def LJ (bx dx hx : Addr) (ds : List Int) (first : Int) (spot i : Nat) (σ : St) : Prop := ∃ lx rx rl P cs q, MemOK σ.μ bx dx hx lx rx rl P ∧ PInv i P ∧ (spot < i → Copied P cs q) ∧
  Has σ.ρ [("box", .ptr bx), ("held", .ptr hx), ("deeds", .lst (intsT ds)), ("spot", .int (spot : Int)), ("first", .int first), ("copy", .dct cs), ("modseq", .int q)]

set_option maxHeartbeats 4000000 in
theorem fn_law {ns : List Int} {sa : Addr} {ws : List Value} (hL : G.h₁.IsList sa ws.toArray) (hI : IntsAre ws ns) (hn : ns.length ≤ 1000) : FN G 8 339 [.ptr sa] (fun _ => none) (fun t _ => t = .bool true) := by
  refine FN.letOf (ns := ["script"]) fun A L hr => ?_
  have hh := hr.1
  have hr0 : Room 0 A := hr.le (by decide)
  ktf_call "go1"
  refine XV.assign (EV.sliceH hL hI ?_) (by ktf_call "st")
  ktf_call "go"
  refine ⟨rfl, ?_⟩
  ktf_call "go"
  refine ⟨by omega, ?_⟩
  have hc := pickT_len12 (L := ns)
  generalize pickT ns none (some 12) none = cs at *
  ktf_call "go1"
  refine XV.assign (EV.to (.int (firstOf cs)) ?_ ?_) (by ktf_call "st")
  · ktf_call "go"
    refine EV.list ?_
    ktf_call "go"
    refine ⟨_, CK.ne_ints (b := []) (.inl rfl) (.inl rfl) hr0, ?_⟩
    refine ite_ndec (fun h => ?_) (fun h => ?_)
    · ktf_call "go"
      cases cs with
      | nil => exact absurd rfl h
      | cons a r => exact ⟨.int a, GK.at 0 (.inl rfl) rfl (by rw [intsT_length]; omega), rfl, rfl⟩
    · subst h
      ktf_call "go"
      exact ⟨rfl, rfl⟩
  generalize firstOf cs = first at *
  ktf_call "go"
  refine ⟨intsT cs, .inl rfl, by rw [intsT_length]; omega, ?_⟩
  rw [show pickT (intsT cs) (some 1) none none = intsT (pickT cs (some 1) none none) from pickT_map _ _ _ _ _]
  have hd : (pickT cs (some 1) none none).length ≤ 12 := Nat.le_trans pickT_len hc
  generalize pickT cs (some 1) none none = ds at *
  ktf_call "go1"
  refine XV.assign (EV.callF 151 2 (hr.le (by decide)) ?_) (by ktf_call "st")
  ktf_call "go"
  refine fn_box.mono fun t μ' hpq => ?_
  obtain ⟨bx, dx, lx, e, b1, b2, b3, _⟩ := hpq
  subst e
  ktf_call "go1"
  refine XV.assign (EV.dictM fun hx hhx => ?_) (by ktf_call "st")
  dsimp only at hhx
  refine DV.cons ?_
  ktf_call "go"
  refine DV.cons ?_
  ktf_call "go"
  refine DV.cons ?_
  ktf_call "go"
  refine DV.cons (EV.listM ?_)
  ktf_call "go"
  intro rx hrx
  dsimp only at hrx
  obtain ⟨hrx1, hrx2⟩ := Mem.put_none hrx
  refine DV.cons (EV.list ?_)
  ktf_call "go"
  refine DV.cons (EV.list ?_)
  ktf_call "go"
  have n1 : bx ≠ hx := Mem.ne_of b1 hhx
  have n2 : bx ≠ rx := Mem.ne_of b1 hrx1
  have n3 : dx ≠ hx := Mem.ne_of b2 hhx
  have n4 : dx ≠ rx := Mem.ne_of b2 hrx1
  have n5 : lx ≠ hx := Mem.ne_of b3 hhx
  have n6 : lx ≠ rx := Mem.ne_of b3 hrx1
  have n7 : hx ≠ rx := hrx2.symm
  refine DV.nil ⟨by ktf_call "mm", held_nodup (P := P00) (rx := rx), ?_⟩
  have M0 : MemOK (((μ'.put hx (.sdct [])).put rx (.lst [])).put hx (.sdct (heldD P00 rx))) bx dx hx lx rx [] P00 :=
    ⟨by ktf_call "mm", by ktf_call "mm", by ktf_call "mm", ⟨by ktf_call "mm", by ktf_call "mm", nofun, rfl⟩, n6, nofun, List.nodup_nil⟩
  -- the spot
  ktf_call "go"
  refine ⟨_, _, rfl, .inl rfl, by rw [intsT_length]; omega, ?_⟩
  rw [intsT_length]
  ktf_call "go"
  refine ⟨by omega, ?_⟩
  have s1 : 0 ≤ first.fmod ((ds.length : Int) + 1) := Int.fmod_nonneg_of_pos _ (by omega)
  have s2 : first.fmod ((ds.length : Int) + 1) < (ds.length : Int) + 1 := Int.fmod_lt_of_pos _ (by omega)
  obtain ⟨spot, hspot⟩ : ∃ n : Nat, first.fmod ((ds.length : Int) + 1) = n := ⟨(first.fmod ((ds.length : Int) + 1)).toNat, by omega⟩
  rw [hspot] at s1 s2 ⊢
  -- copy, modseq
  ktf_call "go"
  refine EV.dict0 ?_
  ktf_call "go"
  -- the deeds
  refine XV.for (IV.range1 hh rfl ?_)
  ktf_call "go"
  refine ⟨_, _, rfl, .inl rfl, by rw [intsT_length]; omega, ?_⟩
  rw [intsT_length]
  ktf_call "go"
  refine ⟨by omega, by omega, ?_⟩
  rw [Int.toNat_natCast]
  refine Loop.inv (g := fun j : Nat => Tree.int (0 + (j : Int))) (fun pre σ => LJ bx dx hx ds first spot pre.length σ) (List.range ds.length) ?_ ?_ ⟨lx, rx, [], P00, [], 1, M0, inv00, fun h => absurd h (Nat.not_lt_zero _), by ktf_call "has"⟩
  · rintro pre i post ⟨ρ, μ⟩ e ⟨lx, rx, rl, P, cp, q, M, I, hcp, i1, i2, i3, i4, i5, i6, i7, -⟩
    dsimp only at M i1 i2 i3 i4 i5 i6 i7
    obtain ⟨ei, hlt⟩ := range_at e
    subst ei
    obtain ⟨m1, m2, m3, ⟨m4, m5, m6, m7⟩, m8, m9, m10⟩ := id M
    have mh := M.held
    obtain ⟨len1, len2, len3⟩ := I.lens
    refine ⟨trivial, ?_⟩
    rw [List.length_append, List.length_singleton]
    generalize pre.length = i at *
    ktf_call "go1"
    try dsimp only
    rw [Int.zero_add]
    refine SV.cons (XV.join (fun σ' => ∃ cp q, σ'.μ = μ ∧ (spot < i + 1 → Copied P cp q) ∧ Has σ'.ρ [("box", .ptr bx), ("held", .ptr hx), ("deeds", .lst (intsT ds)), ("spot", .int (spot : Int)), ("first", .int first), ("copy", .dct cp), ("modseq", .int q), ("at", .int (i : Int))]) ?_ ?_)
    · ktf_call "go"
      refine ite_dec (fun h => ?_) (fun h => ?_)
      · ktf_call "go"
        refine EV.callP 324 1 (hr.le (by decide)) ?_
        ktf_call "go"
        refine ⟨_, fn_taken mh I.asc (by omega), ?_⟩
        ktf_call "go"
        exact ⟨rfl, _, _, rfl, fun _ => Copied.here I, by ktf_call "has"⟩
      · ktf_call "go"
        exact ⟨rfl, _, _, rfl, fun h' => hcp (by omega), by ktf_call "has"⟩
    clear i1 i2 i3 i4 i5 i6 i7 hcp
    rintro ⟨ρ, μ'⟩ ⟨cp, q, e0, hcp, i1, i2, i3, i4, i5, i6, i7, i8, -⟩
    dsimp only at e0 i1 i2 i3 i4 i5 i6 i7 i8
    subst e0
    ktf_call "go"
    refine EV.callF 317 6 (hr.le (by decide)) ?_
    ktf_call "go"
    obtain ⟨d, hd'⟩ : ∃ d, ds[i]? = some d := ⟨_, List.getElem?_eq_getElem hlt⟩
    refine ⟨.int d, GK.at i (.inl rfl) (by rw [intsT, List.getElem?_map, hd']; rfl) (by rw [intsT_length]; omega), ?_⟩
    ktf_call "go"
    refine (fn_deed M I).mono fun t μ'' hpq => ?_
    obtain ⟨e, lx', rx', rl', P', st, M'⟩ := hpq
    subst e
    obtain ⟨m1, m2, m3, ⟨m4, m5, m6, m7⟩, m8, m9, m10⟩ := id M'
    ktf_call "go"
    refine ite_f rfl ?_
    ktf_call "go"
    refine ite_f (by show (!decide (P'.top = P'.top)) = false; simp) ?_
    ktf_call "go"
    refine ite_f rfl ?_
    ktf_call "go"
    exact ⟨lx', rx', rl', P', cp, q, M', I.step (by omega) st, fun h => (hcp h).step st, by ktf_call "has"⟩
  · rintro ⟨ρ, μ⟩ ⟨lx, rx, rl, P, cp, q, M, I, hcp, i1, i2, i3, i4, i5, i6, i7, -⟩
    rw [List.length_range] at I hcp
    dsimp only at M i1 i2 i3 i4 i5 i6 i7
    obtain ⟨m1, m2, m3, ⟨m4, m5, m6, m7⟩, m8, m9, m10⟩ := id M
    have mh := M.held
    obtain ⟨len1, len2, len3⟩ := I.lens
    have hsm := I.small
    have hcn := I.cnt
    refine ⟨trivial, ?_⟩
    try dsimp only
    refine SV.cons (XV.join (fun σ' => ∃ cp q, σ'.μ = μ ∧ Copied P cp q ∧ Has σ'.ρ [("box", .ptr bx), ("held", .ptr hx), ("first", .int first), ("copy", .dct cp), ("modseq", .int q)]) ?_ ?_)
    · ktf_call "go"
      refine ⟨_, _, rfl, .inl rfl, by rw [intsT_length]; omega, ?_⟩
      rw [intsT_length]
      ktf_call "go"
      refine ite_dec (fun h => ?_) (fun h => ?_)
      · ktf_call "go"
        refine EV.callP 324 1 (hr.le (by decide)) ?_
        ktf_call "go"
        refine ⟨_, fn_taken mh I.asc (by omega), ?_⟩
        ktf_call "go"
        exact ⟨rfl, _, _, rfl, Copied.here I, by ktf_call "has"⟩
      · ktf_call "go"
        exact ⟨rfl, _, _, rfl, hcp (by omega), by ktf_call "has"⟩
    clear i1 i2 i3 i4 i5 i6 i7 hcp
    rintro ⟨ρ, μ'⟩ ⟨cp, q, e0, hcp, i1, i2, i3, i4, i5, -⟩
    dsimp only at e0 i1 i2 i3 i4 i5
    subst e0
    ktf_call "go"
    refine EV.callP 240 2 (hr.le (by decide)) ?_
    ktf_call "go"
    refine ⟨_, fn_missing (b := P.box lx) (ls := P.ls) (dx := dx) m1 m2 m3 I.asc (by omega) (show 0 ≤ P.next by omega) (show P.next ≤ 1000 by omega), ?_⟩
    ktf_call "go"
    refine EV.comp (IV.range2 hh rfl ?_)
    ktf_call "go"
    refine ⟨by decide, by decide, by omega, by omega, comp1f (List.range (P.next - 1).toNat) (fun j => .int (1 + (j : Nat))) (fun j => .int (1 + (j : Nat))) (fun j => !(kget (copyOf P.ls) (1 + (j : Int))).isSome) [("held", .ptr hx)] (by simp; omega) trivial
      ⟨⟨by ktf_call "lk", by kernel_rfl, by kernel_rfl⟩, trivial⟩ (fun C l hl' => ?_) (fun C l hl' hq => ?_) ?_⟩
    · ktf_call "go"
      refine EV.callP 324 1 (hr.le (by decide)) ?_
      ktf_call "go"
      refine ⟨_, fn_taken mh I.asc (by omega), ?_⟩
      ktf_call "go"
      exact ⟨_, CK.notin_dct (.inl rfl), rfl, rfl⟩
    · ktf_call "go"
      exact ⟨rfl, rfl⟩
    have emiss : ((List.range (P.next - 1).toNat).filter fun j : Nat => !(kget (copyOf P.ls) (1 + (j : Int))).isSome).map (fun j : Nat => Tree.int (1 + (j : Nat))) = intsT (missing P.ls P.next) := by
      rw [missing_eq, lacking_copy]
      unfold uidsTo intsT
      rw [List.filter_map, List.map_map]; rfl
    rw [emiss]
    refine ⟨_, CK.ne_ints (a := missing P.ls P.next) (.inl rfl) (.inl rfl) hr0, ?_⟩
    refine ite_f (by simp) ?_
    ktf_call "go"
    obtain ⟨k0, P0, I0, ecp, eq0, R⟩ := hcp
    subst ecp eq0
    have l0 : (copyOf P0.ls).length ≤ 12 := by rw [copyOf, List.length_map]; exact I0.lens.1
    refine XV.for (IV.range1 hh rfl ?_)
    ktf_call "go"
    refine ⟨by decide, by decide, ?_⟩
    refine Loop.inv (g := fun j : Nat => Tree.int (0 + (j : Int))) (fun pre σ => σ.μ = μ' ∧ Has σ.ρ [("box", .ptr bx), ("held", .ptr hx), ("first", .int first), ("copy", .dct (copyOf P0.ls)), ("modseq", .int P0.top)]) (List.range 8) ?_ ?_ ⟨rfl, by ktf_call "has"⟩
    · rintro pre j post ⟨ρ, μ⟩ e ⟨e0, i1, i2, i3, i4, i5, -⟩
      dsimp only at e0 i1 i2 i3 i4 i5
      subst e0
      obtain ⟨-, hlt⟩ := range_at e
      refine ⟨trivial, ?_⟩
      ktf_call "go1"
      try dsimp only
      rw [Int.zero_add]
      ktf_call "go"
      refine EV.callP 334 7 hr ?_
      ktf_call "go"
      refine ⟨_, fn_right (s := j) M I hlt l0 (copy_flagD _) (copy_nodup I0.asc) (hp_ok I I0 R) (resync_due I I0 R hlt) (fun hs => brought_now I I0 R hs), ?_⟩
      ktf_call "go"
      refine ite_f rfl ?_
      ktf_call "go"
      exact ⟨rfl, by ktf_call "has"⟩
    · rintro ⟨ρ, μ⟩ ⟨e0, i1, i2, i3, i4, i5, -⟩
      dsimp only at e0 i1 i2 i3 i4 i5
      subst e0
      refine ⟨trivial, ?_⟩
      ktf_call "go"
      exact ⟨_, .refl _, rfl⟩
end

/-! ### the call of the law -/
theorem law_end {w : World} {s₀ s₁ : Shared} {p : Program} {loose : List Str} {mean : ExcName → Option Value} {mg mb : Str → Option Value} {fa sa : Addr} {ws : List Value} {ns : List Int}
    (KX : (KK w).In s₁.heap) (T : Top p loose mean mg mb s₁.heap) (hmg : mg "law" = some (.ref fa)) (hg : s₁.gens = #[]) (hL : s₁.heap.IsList sa ws.toArray) (hI : IntsAre ws ns) (hn : ¬ ((63 : Nat) : Int) < (ns.length : Int)) :
    codeAny (model PySem.Challenge.rw_pq0971_01.row.prog w) callerA (.call (.ref fa) ⟨[.ref sa], []⟩)
      (GoodWG PySem.Challenge.rw_pq0971_01.row.claim (classAt s₀.heap) (ExcName.means s₀.heap) [ofPy (PyData.list (ns.map PyData.int))] s₁) s₁ := by
  have hfa : mg "law" = some (.ref 339) := mg_of KX T.g (by kernel_rfl)
  rw [hmg] at hfa
  cases hfa
  have top : Top1 w s₁.heap := ⟨KX, ⟨mb, T.b, T.builtins⟩, T.nolimit⟩
  have R : RepM ⟨PySem.Challenge.rw_pq0971_01.row.prog, w, s₁.heap, s₁.os⟩ (fun a => s₁.heap.get? a) (fun _ => none) (fun _ => none) s₁ :=
    ⟨top, fun _ _ e => e, fun _ _ e => e, fun _ _ e => absurd e (Option.some_ne_none _).symm, fun _ _ e => absurd e (Option.some_ne_none _).symm, hg, rfl⟩
  have hroom : Room 8 callerA := ⟨rfl, by decide, by decide⟩
  refine codeAny_mono (fn_law (G := ⟨PySem.Challenge.rw_pq0971_01.row.prog, w, s₁.heap, s₁.os⟩) hL hI (by omega) callerA _ _ s₁ [.ref sa] hroom R (by simp only [AreT, IsT]; exact ⟨_, _, rfl, rfl, rfl⟩)) fun r s' hpq => ?_
  obtain ⟨v, Z', t, μ', e1, g, R', iv, e2⟩ := hpq
  subst e1 e2
  simp only [IsT] at iv
  subst iv
  refine GoodW.toG ⟨.inl ⟨_, .bool true, [], rfl, fun _ => rfl, .bool true, ?_, fun _ => ⟨List.nodup_nil, nofun⟩⟩, fun b o e => R'.kB _ _ e, R'.os, R'.gens⟩
  refine postW_of (X := true) rfl ?_ rfl
  exact w_eq_bool (k := true) (l := true) (by simp [WTm.value]) (by simp [WTm.value])
end Mine
set_option maxHeartbeats 8000000 in
theorem PySem.Challenge.cw_pq0971_01_holds : PySem.Challenge.rw_pq0971_01.Holds := by
  refine holds_law Mine.g_said fun said => ?_
  refine holds_open (q := Mine.view) (loose := Mine.loose0) (Xt := Mine.xt) (XP := XL Mine.view []) (Yf := Mine.HK.obs) (Ya := Mine.HK.val) (YP := Mine.HK.says) (N := 4478) Mine.g_left Mine.HK.of Mine.HK.keeps (fun s e => xl_of s (Bool.and_eq_true_iff.mp e).1) XL.keeps (by rfl) (by rfl) (by rfl) (fun s e => recFacts_of (Bool.and_eq_true_iff.mp e).2) (by rfl) said (by decide +kernel) ⟨rfl, rfl, rfl, rfl, rfl, by decide +kernel⟩ ⟨[.list []], by decide +kernel, by decide +kernel⟩ ?_
  intro w s₀ s₁ mg mb G Y fa o pm cd doc dV kV ho hd hcd hD hmg hg args vals as hpre hlay hrd hwl hlo
  have KX := kIn_of Y
  refine Ground.open G ?_
  intro T B D TE TW
  wrow_args hpre hlay hrd hwl hlo
  all_goals (first | refine callC_kw (enter_call ?_) | refine enter_call ?_)
  all_goals exact Mine.law_end KX T hmg hg (by assumption) (by assumption) (by assumption)
