import PyProof.Rows.All
import Wide.All
import OpenK.AllK
import Wide.FinOn
import Lean
import PySem.Challenge.RW_qz0087_01
open PySem PySem.W PyProof.Rows
set_option Elab.async false
set_option maxRecDepth 100000
set_option linter.unusedVariables false
set_option linter.unusedSimpArgs false
namespace Mine
section
set_option maxHeartbeats 8000000
def nthS : List Stmt → Nat → Stmt
  | [], _ => .Pass default
  | a :: _, 0 => a
  | _ :: r, n + 1 => nthS r n
def defB : Stmt → List Stmt
  | .FunctionDef _ _ b _ _ _ _ _ _ _ => b
  | .ClassDef _ _ _ b _ _ _ _ _ _ _ => b
  | _ => []
def defP : Stmt → Arguments
  | .FunctionDef _ p _ _ _ _ _ _ _ _ => p
  | _ => default
def defS : Stmt → Scope
  | .FunctionDef _ _ _ _ _ _ s _ _ _ => s
  | _ => default
abbrev hd.p : Program := PySem.Challenge.rw_qz0087_01.row.toRowW.1
def hd.bd : List Stmt := behindTheImports hd.p
def hd.s (i : Nat) : Stmt := nthS hd.bd i
def hd.m (i : Nat) : Stmt := nthS (defB (hd.s i)) 0
noncomputable def hd.o43 (P : Params) : Obj := ⟨(.type "tuple"),.none,(.seq (#[]) 0),(#[])⟩
noncomputable def hd.o44 (P : Params) : Obj := ⟨.none,.none,(.fields (#[])),(#[])⟩
noncomputable def hd.o45 (P : Params) : Obj := ⟨(.type "code"),.none,(.fields (List.toArray [(.str "<module>" 182),(.str "<module>" 183),(.str "/claim/cut.py" 184),(.int 1 0),(.int 0 0),(.int 0 0),(.int 0 0),(.int 0 0),(.ref 11),(.bool .false),(.int 181 0),(.ref 12),.none,.none,.none,.none,(.int 185 0),(.int 1 0),(.str "/claim/cut.py" 186)])),(#[])⟩
noncomputable def hd.o46 (P : Params) : Obj := ⟨(.type "frame"),.none,.plain,(List.toArray [(.some (.ref 13)),(.some (.ref 3)),(.some (.ref 3)),.none,(.some (.str "__main__" 164)),.none,(.some (.ref 0))])⟩
noncomputable def hd.o49 (P : Params) : Obj := ⟨.none,.none,(.dict (List.toArray [⟨(PyData.keyHash P "type.__subclasses__.Exception.0"),(.str "type.__subclasses__.Exception.0" 214),(.int 31 0)⟩,⟨(PyData.keyHash P "type.__subclasses__.Exception.n"),(.str "type.__subclasses__.Exception.n" 215),(.int 1 0)⟩]) 2),(#[])⟩
noncomputable def hd.o50 (P : Params) : Obj := ⟨(.type "dict"),.none,(.dict (List.toArray [⟨(PyData.keyHash P "__name__"),(.str "__name__" 165),(.str "perlcore.errors" 187)⟩,⟨(PyData.keyHash P "__doc__"),(.str "__doc__" 166),.none⟩,⟨(PyData.keyHash P "__package__"),(.str "__package__" 167),.none⟩,⟨(PyData.keyHash P "__loader__"),(.str "__loader__" 168),(.builtin "__main__.__loader__#opaque")⟩,⟨(PyData.keyHash P "__spec__"),(.str "__spec__" 169),.none⟩,⟨(PyData.keyHash P "__annotations__"),(.str "__annotations__" 170),(.ref 6)⟩,⟨(PyData.keyHash P "__builtins__"),(.str "__builtins__" 171),(.ref 4)⟩,⟨(PyData.keyHash P "__file__"),(.str "__file__" 173),(.str "/claim/cut.py" 172)⟩,⟨(PyData.keyHash P "__cached__"),(.str "__cached__" 174),.none⟩,⟨(PyData.keyHash P "PerlError"),(.str "PerlError" 217),(.ref 31)⟩]) 10),(#[])⟩
noncomputable def hd.o51 (P : Params) : Obj := ⟨.none,.none,(.fields (List.toArray [(.int 2 0),(.int 0 0),(.ref 20)])),(#[])⟩
noncomputable def hd.o52 (P : Params) : Obj := ⟨(.type "tuple"),.none,(.seq (List.toArray [(.type "Exception")]) 0),(#[])⟩
noncomputable def hd.o53 (P : Params) : Obj := ⟨(.type "builtin_function_or_method"),.none,(.fields (List.toArray [(.builtin "type.__prepare__"),(.type "type")])),(#[])⟩
noncomputable def hd.o54 (P : Params) : Obj := ⟨(.type "dict"),.none,(.dict (List.toArray [⟨(PyData.keyHash P "__module__"),(.str "__module__" 196),(.str "perlcore.errors" 187)⟩,⟨(PyData.keyHash P "__qualname__"),(.str "__qualname__" 198),(.str "PerlError" 197)⟩,⟨(PyData.keyHash P "__firstlineno__"),(.str "__firstlineno__" 200),(.int 2 199)⟩,⟨(PyData.keyHash P "__init__"),(.str "__init__" 208),(.ref 28)⟩,⟨(PyData.keyHash P "__static_attributes__"),(.str "__static_attributes__" 210),(.ref 29)⟩]) 5),(#[])⟩
noncomputable def hd.o55 (P : Params) : Obj := ⟨(.type "tuple"),.none,(.seq (#[]) 0),(#[])⟩
noncomputable def hd.o56 (P : Params) : Obj := ⟨.none,.none,(.fields (List.toArray [(.int 4 0),(.int 4 0),(.ref 27)])),(#[])⟩
noncomputable def hd.o57 (P : Params) : Obj := ⟨(.type "code"),.none,(.fields (List.toArray [(.str "PerlError" 191),(.str "PerlError" 192),(.str "/claim/cut.py" 193),(.int 2 0),(.int 0 0),(.int 0 0),(.int 0 0),(.int 0 0),(.ref 18),(.bool .false),(.int 181 0),(.ref 19),.none,.none,.none,.none,(.int 194 0),(.int 2 0),(.str "/claim/cut.py" 195)])),(#[])⟩
noncomputable def hd.o58 (P : Params) : Obj := ⟨(.type "frame"),.none,.plain,(List.toArray [(.some (.ref 20)),(.some (.ref 3)),(.some (.ref 17)),.none,(.some (.str "perlcore.errors" 187)),.none,(.some (.ref 0))])⟩
noncomputable def hd.o59 (P : Params) : Obj := ⟨(.type "tuple"),.none,(.seq (#[]) 0),(#[])⟩
noncomputable def hd.o60 (P : Params) : Obj := ⟨.none,.none,(.fields (#[])),(#[])⟩
noncomputable def hd.o61 (P : Params) : Obj := ⟨(.type "tuple"),.none,(.seq (List.toArray [(.str "self" 204),(.str "text" 205)]) 0),(#[])⟩
noncomputable def hd.o62 (P : Params) : Obj := ⟨(.type "tuple"),.none,(.seq (#[]) 0),(#[])⟩
noncomputable def hd.o63 (P : Params) : Obj := ⟨.none,.none,(.func ⟨"__init__","PerlError.__init__",(defP (hd.m 1)),(.stmts (defB (hd.m 1))),(defS (hd.m 1)),0,[],.none,.none,.none,.none,.none,.none,.none,0⟩),(#[])⟩
noncomputable def hd.o64 (P : Params) : Obj := ⟨(.type "code"),.none,(.fields (List.toArray [(.str "__init__" 201),(.str "PerlError.__init__" 202),(.str "/claim/cut.py" 203),(.int 4 0),(.int 2 0),(.int 0 0),(.int 0 0),(.int 3 0),(.ref 22),(.bool .true),(.int 181 0),(.ref 23),.none,(.ref 24),(.ref 25),(.ref 26),(.int 206 0),(.int 4 0),(.str "/claim/cut.py" 207)])),(#[])⟩
noncomputable def hd.o65 (P : Params) : Obj := ⟨(.type "function"),.none,(.func ⟨"__init__","PerlError.__init__",(defP (hd.m 1)),(.stmts (defB (hd.m 1))),(defS (hd.m 1)),3,[],.none,.none,.none,(.str "perlcore.errors" 187),.none,(.ref 27),.none,0⟩),(#[])⟩
noncomputable def hd.o66 (P : Params) : Obj := ⟨(.type "tuple"),.none,(.seq (List.toArray [(.str "text" 209)]) 0),(#[])⟩
noncomputable def hd.o67 (P : Params) : Obj := ⟨(.type "dict"),.none,(.dict (List.toArray [⟨(PyData.keyHash P "__module__"),(.str "__module__" 196),(.str "perlcore.errors" 187)⟩,⟨(PyData.keyHash P "__firstlineno__"),(.str "__firstlineno__" 200),(.int 2 199)⟩,⟨(PyData.keyHash P "__init__"),(.str "__init__" 208),(.ref 28)⟩,⟨(PyData.keyHash P "__static_attributes__"),(.str "__static_attributes__" 210),(.ref 29)⟩,⟨(PyData.keyHash P "__weakref__"),(.str "__weakref__" 212),(.ref 32)⟩,⟨(PyData.keyHash P "__doc__"),(.str "__doc__" 213),.none⟩]) 3),(#[])⟩
noncomputable def hd.o68 (P : Params) : Obj := ⟨(.type "type"),.none,(.cls ⟨"PerlError",[(.type "Exception")],[(.ref 31),(.type "Exception"),(.type "BaseException"),(.type "object")],30,"PerlError",.true,[],[],.false,.none,.false⟩),(List.toArray [(.some (.ref 15)),.none,(.some (.str "PerlError" 189)),(.some (.str "PerlError" 197)),(.some (.builtin "Exception.__new__")),(.some (.bool .true))])⟩
noncomputable def hd.o69 (P : Params) : Obj := ⟨(.type "getset_descriptor"),.none,(.fields (List.toArray [(.str "__weakref__" 211),(.ref 31),(.builtin "ExceptionGroup.__weakref__"),.none])),(#[])⟩
noncomputable def hd.o70 (P : Params) : Obj := ⟨(.type "super"),.none,(.fields (List.toArray [(.ref 31),(.ref 31),(.ref 31)])),(#[])⟩
noncomputable def hd.o71 (P : Params) : Obj := ⟨(.type "builtin_function_or_method"),.none,(.fields (List.toArray [(.builtin "object.__init_subclass__"),(.ref 31)])),(#[])⟩
noncomputable def hd.o72 (P : Params) : Obj := ⟨(.type "dict"),.none,(.dict (List.toArray [⟨(PyData.keyHash P "__name__"),(.str "__name__" 165),(.str "perlcore.frames" 243)⟩,⟨(PyData.keyHash P "__doc__"),(.str "__doc__" 166),.none⟩,⟨(PyData.keyHash P "__package__"),(.str "__package__" 167),.none⟩,⟨(PyData.keyHash P "__loader__"),(.str "__loader__" 168),(.builtin "__main__.__loader__#opaque")⟩,⟨(PyData.keyHash P "__spec__"),(.str "__spec__" 169),.none⟩,⟨(PyData.keyHash P "__annotations__"),(.str "__annotations__" 170),(.ref 6)⟩,⟨(PyData.keyHash P "__builtins__"),(.str "__builtins__" 171),(.ref 4)⟩,⟨(PyData.keyHash P "__file__"),(.str "__file__" 173),(.str "/claim/cut.py" 172)⟩,⟨(PyData.keyHash P "__cached__"),(.str "__cached__" 174),.none⟩,⟨(PyData.keyHash P "PerlError"),(.str "PerlError" 217),(.ref 31)⟩,⟨(PyData.keyHash P "Die"),(.str "Die" 242),(.ref 51)⟩]) 11),(#[])⟩
noncomputable def hd.o73 (P : Params) : Obj := ⟨.none,.none,(.fields (List.toArray [(.int 2 0),(.int 0 0),(.ref 20),(.int 7 0),(.int 0 0),(.ref 40)])),(#[])⟩
noncomputable def hd.o74 (P : Params) : Obj := ⟨(.type "type"),.none,(.cls ⟨"PerlError",[(.type "Exception")],[(.ref 31),(.type "Exception"),(.type "BaseException"),(.type "object")],30,"PerlError",.true,[],[(.ref 51)],.false,.none,.false⟩),(List.toArray [(.some (.ref 15)),.none,(.some (.str "PerlError" 189)),(.some (.str "PerlError" 197)),(.some (.builtin "Exception.__new__")),(.some (.bool .true))])⟩
noncomputable def hd.o75 (P : Params) : Obj := ⟨(.type "tuple"),.none,(.seq (List.toArray [(.ref 31)]) 0),(#[])⟩
noncomputable def hd.o76 (P : Params) : Obj := ⟨(.type "builtin_function_or_method"),.none,(.fields (List.toArray [(.builtin "type.__prepare__"),(.type "type")])),(#[])⟩
noncomputable def hd.o77 (P : Params) : Obj := ⟨(.type "dict"),.none,(.dict (List.toArray [⟨(PyData.keyHash P "__module__"),(.str "__module__" 225),(.str "perlcore.errors" 187)⟩,⟨(PyData.keyHash P "__qualname__"),(.str "__qualname__" 227),(.str "Die" 226)⟩,⟨(PyData.keyHash P "__firstlineno__"),(.str "__firstlineno__" 229),(.int 7 228)⟩,⟨(PyData.keyHash P "__init__"),(.str "__init__" 237),(.ref 48)⟩,⟨(PyData.keyHash P "__static_attributes__"),(.str "__static_attributes__" 239),(.ref 49)⟩]) 5),(#[])⟩
noncomputable def hd.o78 (P : Params) : Obj := ⟨(.type "tuple"),.none,(.seq (#[]) 0),(#[])⟩
noncomputable def hd.o79 (P : Params) : Obj := ⟨.none,.none,(.fields (List.toArray [(.int 9 0),(.int 4 0),(.ref 47)])),(#[])⟩
noncomputable def hd.o80 (P : Params) : Obj := ⟨(.type "code"),.none,(.fields (List.toArray [(.str "Die" 220),(.str "Die" 221),(.str "/claim/cut.py" 222),(.int 7 0),(.int 0 0),(.int 0 0),(.int 0 0),(.int 0 0),(.ref 38),(.bool .false),(.int 181 0),(.ref 39),.none,.none,.none,.none,(.int 223 0),(.int 7 0),(.str "/claim/cut.py" 224)])),(#[])⟩
noncomputable def hd.o81 (P : Params) : Obj := ⟨(.type "frame"),.none,.plain,(List.toArray [(.some (.ref 40)),(.some (.ref 3)),(.some (.ref 37)),.none,(.some (.str "perlcore.errors" 187)),.none,(.some (.ref 0))])⟩
noncomputable def hd.o82 (P : Params) : Obj := ⟨(.type "tuple"),.none,(.seq (#[]) 0),(#[])⟩
noncomputable def hd.o83 (P : Params) : Obj := ⟨.none,.none,(.fields (#[])),(#[])⟩
noncomputable def hd.o84 (P : Params) : Obj := ⟨(.type "tuple"),.none,(.seq (List.toArray [(.str "self" 233),(.str "value" 234)]) 0),(#[])⟩
noncomputable def hd.o85 (P : Params) : Obj := ⟨(.type "tuple"),.none,(.seq (#[]) 0),(#[])⟩
noncomputable def hd.o86 (P : Params) : Obj := ⟨.none,.none,(.func ⟨"__init__","Die.__init__",(defP (hd.m 2)),(.stmts (defB (hd.m 2))),(defS (hd.m 2)),0,[],.none,.none,.none,.none,.none,.none,.none,0⟩),(#[])⟩
noncomputable def hd.o87 (P : Params) : Obj := ⟨(.type "code"),.none,(.fields (List.toArray [(.str "__init__" 230),(.str "Die.__init__" 231),(.str "/claim/cut.py" 232),(.int 9 0),(.int 2 0),(.int 0 0),(.int 0 0),(.int 3 0),(.ref 42),(.bool .true),(.int 181 0),(.ref 43),.none,(.ref 44),(.ref 45),(.ref 46),(.int 235 0),(.int 9 0),(.str "/claim/cut.py" 236)])),(#[])⟩
noncomputable def hd.o88 (P : Params) : Obj := ⟨(.type "function"),.none,(.func ⟨"__init__","Die.__init__",(defP (hd.m 2)),(.stmts (defB (hd.m 2))),(defS (hd.m 2)),3,[],.none,.none,.none,(.str "perlcore.errors" 187),.none,(.ref 47),.none,0⟩),(#[])⟩
noncomputable def hd.o89 (P : Params) : Obj := ⟨(.type "tuple"),.none,(.seq (List.toArray [(.str "value" 238)]) 0),(#[])⟩
noncomputable def hd.o90 (P : Params) : Obj := ⟨(.type "dict"),.none,(.dict (List.toArray [⟨(PyData.keyHash P "__module__"),(.str "__module__" 225),(.str "perlcore.errors" 187)⟩,⟨(PyData.keyHash P "__firstlineno__"),(.str "__firstlineno__" 229),(.int 7 228)⟩,⟨(PyData.keyHash P "__init__"),(.str "__init__" 237),(.ref 48)⟩,⟨(PyData.keyHash P "__static_attributes__"),(.str "__static_attributes__" 239),(.ref 49)⟩,⟨(PyData.keyHash P "__doc__"),(.str "__doc__" 240),.none⟩]) 2),(#[])⟩
noncomputable def hd.o91 (P : Params) : Obj := ⟨(.type "type"),.none,(.cls ⟨"Die",[(.ref 31)],[(.ref 51),(.ref 31),(.type "Exception"),(.type "BaseException"),(.type "object")],50,"Die",.true,[],[],.false,.none,.false⟩),(List.toArray [(.some (.ref 35)),.none,(.some (.str "Die" 218)),(.some (.str "Die" 226)),(.some (.builtin "Exception.__new__")),(.some (.bool .true))])⟩
noncomputable def hd.o92 (P : Params) : Obj := ⟨(.type "super"),.none,(.fields (List.toArray [(.ref 51),(.ref 51),(.ref 51)])),(#[])⟩
noncomputable def hd.o93 (P : Params) : Obj := ⟨(.type "builtin_function_or_method"),.none,(.fields (List.toArray [(.builtin "object.__init_subclass__"),(.ref 51)])),(#[])⟩
noncomputable def hd.o94 (P : Params) : Obj := ⟨(.type "dict"),.none,(.dict (List.toArray [⟨(PyData.keyHash P "__name__"),(.str "__name__" 165),(.str "perlcore.frames" 243)⟩,⟨(PyData.keyHash P "__doc__"),(.str "__doc__" 166),.none⟩,⟨(PyData.keyHash P "__package__"),(.str "__package__" 167),.none⟩,⟨(PyData.keyHash P "__loader__"),(.str "__loader__" 168),(.builtin "__main__.__loader__#opaque")⟩,⟨(PyData.keyHash P "__spec__"),(.str "__spec__" 169),.none⟩,⟨(PyData.keyHash P "__annotations__"),(.str "__annotations__" 170),(.ref 6)⟩,⟨(PyData.keyHash P "__builtins__"),(.str "__builtins__" 171),(.ref 4)⟩,⟨(PyData.keyHash P "__file__"),(.str "__file__" 173),(.str "/claim/cut.py" 172)⟩,⟨(PyData.keyHash P "__cached__"),(.str "__cached__" 174),.none⟩,⟨(PyData.keyHash P "PerlError"),(.str "PerlError" 217),(.ref 31)⟩,⟨(PyData.keyHash P "Die"),(.str "Die" 242),(.ref 51)⟩,⟨(PyData.keyHash P "Frame"),(.str "Frame" 283),(.ref 70)⟩]) 12),(#[])⟩
noncomputable def hd.o95 (P : Params) : Obj := ⟨.none,.none,(.fields (List.toArray [(.int 2 0),(.int 0 0),(.ref 20),(.int 7 0),(.int 0 0),(.ref 40),(.int 13 0),(.int 0 0),(.ref 59)])),(#[])⟩
noncomputable def hd.o96 (P : Params) : Obj := ⟨(.type "tuple"),.none,(.seq (#[]) 0),(#[])⟩
noncomputable def hd.o97 (P : Params) : Obj := ⟨(.type "builtin_function_or_method"),.none,(.fields (List.toArray [(.builtin "type.__prepare__"),(.type "type")])),(#[])⟩
noncomputable def hd.o98 (P : Params) : Obj := ⟨(.type "dict"),.none,(.dict (List.toArray [⟨(PyData.keyHash P "__module__"),(.str "__module__" 252),(.str "perlcore.frames" 243)⟩,⟨(PyData.keyHash P "__qualname__"),(.str "__qualname__" 254),(.str "Frame" 253)⟩,⟨(PyData.keyHash P "__firstlineno__"),(.str "__firstlineno__" 256),(.int 13 255)⟩,⟨(PyData.keyHash P "__init__"),(.str "__init__" 269),(.ref 67)⟩,⟨(PyData.keyHash P "__static_attributes__"),(.str "__static_attributes__" 276),(.ref 68)⟩]) 5),(#[])⟩
noncomputable def hd.o99 (P : Params) : Obj := ⟨(.type "tuple"),.none,(.seq (#[]) 0),(#[])⟩
noncomputable def hd.o100 (P : Params) : Obj := ⟨.none,.none,(.fields (List.toArray [(.int 15 0),(.int 4 0),(.ref 66)])),(#[])⟩
noncomputable def hd.o101 (P : Params) : Obj := ⟨(.type "code"),.none,(.fields (List.toArray [(.str "Frame" 247),(.str "Frame" 248),(.str "/claim/cut.py" 249),(.int 13 0),(.int 0 0),(.int 0 0),(.int 0 0),(.int 0 0),(.ref 57),(.bool .false),(.int 181 0),(.ref 58),.none,.none,.none,.none,(.int 250 0),(.int 13 0),(.str "/claim/cut.py" 251)])),(#[])⟩
noncomputable def hd.o102 (P : Params) : Obj := ⟨(.type "frame"),.none,.plain,(List.toArray [(.some (.ref 59)),(.some (.ref 3)),(.some (.ref 56)),.none,(.some (.str "perlcore.frames" 243)),.none,(.some (.ref 0))])⟩
noncomputable def hd.o103 (P : Params) : Obj := ⟨(.type "tuple"),.none,(.seq (#[]) 0),(#[])⟩
noncomputable def hd.o104 (P : Params) : Obj := ⟨.none,.none,(.fields (#[])),(#[])⟩
noncomputable def hd.o105 (P : Params) : Obj := ⟨(.type "tuple"),.none,(.seq (List.toArray [(.str "self" 260),(.str "pad" 261),(.str "args" 262),(.str "want" 263),(.str "code" 264),(.str "package" 265),(.str "line" 266)]) 0),(#[])⟩
noncomputable def hd.o106 (P : Params) : Obj := ⟨(.type "tuple"),.none,(.seq (#[]) 0),(#[])⟩
noncomputable def hd.o107 (P : Params) : Obj := ⟨.none,.none,(.func ⟨"__init__","Frame.__init__",(defP (hd.m 4)),(.stmts (defB (hd.m 4))),(defS (hd.m 4)),0,[],.none,.none,.none,.none,.none,.none,.none,0⟩),(#[])⟩
noncomputable def hd.o108 (P : Params) : Obj := ⟨(.type "code"),.none,(.fields (List.toArray [(.str "__init__" 257),(.str "Frame.__init__" 258),(.str "/claim/cut.py" 259),(.int 15 0),(.int 7 0),(.int 0 0),(.int 0 0),(.int 3 0),(.ref 61),(.bool .true),(.int 181 0),(.ref 62),.none,(.ref 63),(.ref 64),(.ref 65),(.int 267 0),(.int 15 0),(.str "/claim/cut.py" 268)])),(#[])⟩
noncomputable def hd.o109 (P : Params) : Obj := ⟨(.type "function"),.none,(.func ⟨"__init__","Frame.__init__",(defP (hd.m 4)),(.stmts (defB (hd.m 4))),(defS (hd.m 4)),3,[],.none,.none,.none,(.str "perlcore.frames" 243),.none,(.ref 66),.none,0⟩),(#[])⟩
noncomputable def hd.o110 (P : Params) : Obj := ⟨(.type "tuple"),.none,(.seq (List.toArray [(.str "args" 270),(.str "code" 271),(.str "line" 272),(.str "package" 273),(.str "pad" 274),(.str "want" 275)]) 0),(#[])⟩
noncomputable def hd.o111 (P : Params) : Obj := ⟨(.type "dict"),.none,(.dict (List.toArray [⟨(PyData.keyHash P "__module__"),(.str "__module__" 252),(.str "perlcore.frames" 243)⟩,⟨(PyData.keyHash P "__firstlineno__"),(.str "__firstlineno__" 256),(.int 13 255)⟩,⟨(PyData.keyHash P "__init__"),(.str "__init__" 269),(.ref 67)⟩,⟨(PyData.keyHash P "__static_attributes__"),(.str "__static_attributes__" 276),(.ref 68)⟩,⟨(PyData.keyHash P "__dict__"),(.str "__dict__" 278),(.ref 71)⟩,⟨(PyData.keyHash P "__weakref__"),(.str "__weakref__" 280),(.ref 72)⟩,⟨(PyData.keyHash P "__doc__"),(.str "__doc__" 281),.none⟩]) 4),(#[])⟩
noncomputable def hd.o112 (P : Params) : Obj := ⟨(.type "type"),.none,(.cls ⟨"Frame",[(.type "object")],[(.ref 70),(.type "object")],69,"Frame",.true,[],[],.false,.none,.false⟩),(List.toArray [.none,.none,(.some (.str "Frame" 245)),(.some (.str "Frame" 253)),(.some (.builtin "object.__new__")),(.some (.bool .true))])⟩
noncomputable def hd.o113 (P : Params) : Obj := ⟨(.type "getset_descriptor"),.none,(.fields (List.toArray [(.str "__dict__" 277),(.ref 70),(.builtin "function.__dict__"),(.builtin "function.__dict__#set")])),(#[])⟩
noncomputable def hd.o114 (P : Params) : Obj := ⟨(.type "getset_descriptor"),.none,(.fields (List.toArray [(.str "__weakref__" 279),(.ref 70),(.builtin "ExceptionGroup.__weakref__"),.none])),(#[])⟩
noncomputable def hd.o115 (P : Params) : Obj := ⟨(.type "super"),.none,(.fields (List.toArray [(.ref 70),(.ref 70),(.ref 70)])),(#[])⟩
noncomputable def hd.o116 (P : Params) : Obj := ⟨(.type "builtin_function_or_method"),.none,(.fields (List.toArray [(.builtin "object.__init_subclass__"),(.ref 70)])),(#[])⟩
noncomputable def hd.o117 (P : Params) : Obj := ⟨(.type "dict"),.none,(.dict (List.toArray [⟨(PyData.keyHash P "__name__"),(.str "__name__" 165),(.str "perlcore.ops" 334)⟩,⟨(PyData.keyHash P "__doc__"),(.str "__doc__" 166),.none⟩,⟨(PyData.keyHash P "__package__"),(.str "__package__" 167),.none⟩,⟨(PyData.keyHash P "__loader__"),(.str "__loader__" 168),(.builtin "__main__.__loader__#opaque")⟩,⟨(PyData.keyHash P "__spec__"),(.str "__spec__" 169),.none⟩,⟨(PyData.keyHash P "__annotations__"),(.str "__annotations__" 170),(.ref 6)⟩,⟨(PyData.keyHash P "__builtins__"),(.str "__builtins__" 171),(.ref 4)⟩,⟨(PyData.keyHash P "__file__"),(.str "__file__" 173),(.str "/claim/cut.py" 172)⟩,⟨(PyData.keyHash P "__cached__"),(.str "__cached__" 174),.none⟩,⟨(PyData.keyHash P "PerlError"),(.str "PerlError" 217),(.ref 31)⟩,⟨(PyData.keyHash P "Die"),(.str "Die" 242),(.ref 51)⟩,⟨(PyData.keyHash P "Frame"),(.str "Frame" 283),(.ref 70)⟩,⟨(PyData.keyHash P "Run"),(.str "Run" 333),(.ref 91)⟩]) 13),(#[])⟩
noncomputable def hd.o118 (P : Params) : Obj := ⟨.none,.none,(.fields (List.toArray [(.int 2 0),(.int 0 0),(.ref 20),(.int 7 0),(.int 0 0),(.ref 40),(.int 13 0),(.int 0 0),(.ref 59),(.int 22 0),(.int 0 0),(.ref 80)])),(#[])⟩
noncomputable def hd.o119 (P : Params) : Obj := ⟨(.type "tuple"),.none,(.seq (#[]) 0),(#[])⟩
noncomputable def hd.o120 (P : Params) : Obj := ⟨(.type "builtin_function_or_method"),.none,(.fields (List.toArray [(.builtin "type.__prepare__"),(.type "type")])),(#[])⟩
noncomputable def hd.o121 (P : Params) : Obj := ⟨(.type "dict"),.none,(.dict (List.toArray [⟨(PyData.keyHash P "__module__"),(.str "__module__" 291),(.str "perlcore.frames" 243)⟩,⟨(PyData.keyHash P "__qualname__"),(.str "__qualname__" 293),(.str "Run" 292)⟩,⟨(PyData.keyHash P "__firstlineno__"),(.str "__firstlineno__" 295),(.int 22 294)⟩,⟨(PyData.keyHash P "__init__"),(.str "__init__" 306),(.ref 88)⟩,⟨(PyData.keyHash P "__static_attributes__"),(.str "__static_attributes__" 326),(.ref 89)⟩]) 5),(#[])⟩
noncomputable def hd.o122 (P : Params) : Obj := ⟨(.type "tuple"),.none,(.seq (#[]) 0),(#[])⟩
noncomputable def hd.o123 (P : Params) : Obj := ⟨.none,.none,(.fields (List.toArray [(.int 24 0),(.int 4 0),(.ref 87)])),(#[])⟩
noncomputable def hd.o124 (P : Params) : Obj := ⟨(.type "code"),.none,(.fields (List.toArray [(.str "Run" 286),(.str "Run" 287),(.str "/claim/cut.py" 288),(.int 22 0),(.int 0 0),(.int 0 0),(.int 0 0),(.int 0 0),(.ref 78),(.bool .false),(.int 181 0),(.ref 79),.none,.none,.none,.none,(.int 289 0),(.int 22 0),(.str "/claim/cut.py" 290)])),(#[])⟩
noncomputable def hd.o125 (P : Params) : Obj := ⟨(.type "frame"),.none,.plain,(List.toArray [(.some (.ref 80)),(.some (.ref 3)),(.some (.ref 77)),.none,(.some (.str "perlcore.frames" 243)),.none,(.some (.ref 0))])⟩
noncomputable def hd.o126 (P : Params) : Obj := ⟨(.type "tuple"),.none,(.seq (#[]) 0),(#[])⟩
noncomputable def hd.o127 (P : Params) : Obj := ⟨.none,.none,(.fields (#[])),(#[])⟩
noncomputable def hd.o128 (P : Params) : Obj := ⟨(.type "tuple"),.none,(.seq (List.toArray [(.str "self" 299),(.str "heap" 300),(.str "counter" 301),(.str "stash" 302),(.str "limits" 303)]) 0),(#[])⟩
noncomputable def hd.o129 (P : Params) : Obj := ⟨(.type "tuple"),.none,(.seq (#[]) 0),(#[])⟩
noncomputable def hd.o130 (P : Params) : Obj := ⟨.none,.none,(.func ⟨"__init__","Run.__init__",(defP (hd.m 5)),(.stmts (defB (hd.m 5))),(defS (hd.m 5)),0,[],.none,.none,.none,.none,.none,.none,.none,0⟩),(#[])⟩
noncomputable def hd.o131 (P : Params) : Obj := ⟨(.type "code"),.none,(.fields (List.toArray [(.str "__init__" 296),(.str "Run.__init__" 297),(.str "/claim/cut.py" 298),(.int 24 0),(.int 5 0),(.int 0 0),(.int 0 0),(.int 3 0),(.ref 82),(.bool .true),(.int 181 0),(.ref 83),.none,(.ref 84),(.ref 85),(.ref 86),(.int 304 0),(.int 24 0),(.str "/claim/cut.py" 305)])),(#[])⟩
noncomputable def hd.o132 (P : Params) : Obj := ⟨(.type "function"),.none,(.func ⟨"__init__","Run.__init__",(defP (hd.m 5)),(.stmts (defB (hd.m 5))),(defS (hd.m 5)),3,[],.none,.none,.none,(.str "perlcore.frames" 243),.none,(.ref 87),.none,0⟩),(#[])⟩
noncomputable def hd.o133 (P : Params) : Obj := ⟨(.type "tuple"),.none,(.seq (List.toArray [(.str "call_code" 307),(.str "compile_text" 308),(.str "counter" 309),(.str "err" 310),(.str "frames" 311),(.str "funcs" 312),(.str "heap" 313),(.str "limits" 314),(.str "lvs" 315),(.str "match" 316),(.str "methods" 317),(.str "nodes" 318),(.str "operators" 319),(.str "out" 320),(.str "patterns" 321),(.str "saves" 322),(.str "stash" 323),(.str "statements" 324),(.str "steps" 325)]) 0),(#[])⟩
noncomputable def hd.o134 (P : Params) : Obj := ⟨(.type "dict"),.none,(.dict (List.toArray [⟨(PyData.keyHash P "__module__"),(.str "__module__" 291),(.str "perlcore.frames" 243)⟩,⟨(PyData.keyHash P "__firstlineno__"),(.str "__firstlineno__" 295),(.int 22 294)⟩,⟨(PyData.keyHash P "__init__"),(.str "__init__" 306),(.ref 88)⟩,⟨(PyData.keyHash P "__static_attributes__"),(.str "__static_attributes__" 326),(.ref 89)⟩,⟨(PyData.keyHash P "__dict__"),(.str "__dict__" 328),(.ref 92)⟩,⟨(PyData.keyHash P "__weakref__"),(.str "__weakref__" 330),(.ref 93)⟩,⟨(PyData.keyHash P "__doc__"),(.str "__doc__" 331),.none⟩]) 4),(#[])⟩
noncomputable def hd.o135 (P : Params) : Obj := ⟨(.type "type"),.none,(.cls ⟨"Run",[(.type "object")],[(.ref 91),(.type "object")],90,"Run",.true,[],[],.false,.none,.false⟩),(List.toArray [.none,.none,(.some (.str "Run" 284)),(.some (.str "Run" 292)),(.some (.builtin "object.__new__")),(.some (.bool .true))])⟩
noncomputable def hd.o136 (P : Params) : Obj := ⟨(.type "getset_descriptor"),.none,(.fields (List.toArray [(.str "__dict__" 327),(.ref 91),(.builtin "function.__dict__"),(.builtin "function.__dict__#set")])),(#[])⟩
noncomputable def hd.o137 (P : Params) : Obj := ⟨(.type "getset_descriptor"),.none,(.fields (List.toArray [(.str "__weakref__" 329),(.ref 91),(.builtin "ExceptionGroup.__weakref__"),.none])),(#[])⟩
noncomputable def hd.o138 (P : Params) : Obj := ⟨(.type "super"),.none,(.fields (List.toArray [(.ref 91),(.ref 91),(.ref 91)])),(#[])⟩
noncomputable def hd.o139 (P : Params) : Obj := ⟨(.type "builtin_function_or_method"),.none,(.fields (List.toArray [(.builtin "object.__init_subclass__"),(.ref 91)])),(#[])⟩
noncomputable def hd.o140 (P : Params) : Obj := ⟨(.type "dict"),.none,(.dict (List.toArray [⟨(PyData.keyHash P "__name__"),(.str "__name__" 165),(.str "perlcore.ops" 334)⟩,⟨(PyData.keyHash P "__doc__"),(.str "__doc__" 166),.none⟩,⟨(PyData.keyHash P "__package__"),(.str "__package__" 167),.none⟩,⟨(PyData.keyHash P "__loader__"),(.str "__loader__" 168),(.builtin "__main__.__loader__#opaque")⟩,⟨(PyData.keyHash P "__spec__"),(.str "__spec__" 169),.none⟩,⟨(PyData.keyHash P "__annotations__"),(.str "__annotations__" 170),(.ref 6)⟩,⟨(PyData.keyHash P "__builtins__"),(.str "__builtins__" 171),(.ref 4)⟩,⟨(PyData.keyHash P "__file__"),(.str "__file__" 173),(.str "/claim/cut.py" 172)⟩,⟨(PyData.keyHash P "__cached__"),(.str "__cached__" 174),.none⟩,⟨(PyData.keyHash P "PerlError"),(.str "PerlError" 217),(.ref 31)⟩,⟨(PyData.keyHash P "Die"),(.str "Die" 242),(.ref 51)⟩,⟨(PyData.keyHash P "Frame"),(.str "Frame" 283),(.ref 70)⟩,⟨(PyData.keyHash P "Run"),(.str "Run" 333),(.ref 91)⟩,⟨(PyData.keyHash P "OpsCode"),(.str "OpsCode" 372),(.ref 112)⟩]) 14),(#[])⟩
noncomputable def hd.o141 (P : Params) : Obj := ⟨.none,.none,(.fields (List.toArray [(.int 2 0),(.int 0 0),(.ref 20),(.int 7 0),(.int 0 0),(.ref 40),(.int 13 0),(.int 0 0),(.ref 59),(.int 22 0),(.int 0 0),(.ref 80),(.int 45 0),(.int 0 0),(.ref 101)])),(#[])⟩
noncomputable def hd.o142 (P : Params) : Obj := ⟨(.type "tuple"),.none,(.seq (#[]) 0),(#[])⟩
noncomputable def hd.o143 (P : Params) : Obj := ⟨(.type "builtin_function_or_method"),.none,(.fields (List.toArray [(.builtin "type.__prepare__"),(.type "type")])),(#[])⟩
noncomputable def hd.o144 (P : Params) : Obj := ⟨(.type "dict"),.none,(.dict (List.toArray [⟨(PyData.keyHash P "__module__"),(.str "__module__" 343),(.str "perlcore.ops" 334)⟩,⟨(PyData.keyHash P "__qualname__"),(.str "__qualname__" 345),(.str "OpsCode" 344)⟩,⟨(PyData.keyHash P "__firstlineno__"),(.str "__firstlineno__" 347),(.int 45 346)⟩,⟨(PyData.keyHash P "__init__"),(.str "__init__" 359),(.ref 109)⟩,⟨(PyData.keyHash P "__static_attributes__"),(.str "__static_attributes__" 365),(.ref 110)⟩]) 5),(#[])⟩
noncomputable def hd.o145 (P : Params) : Obj := ⟨(.type "tuple"),.none,(.seq (#[]) 0),(#[])⟩
noncomputable def hd.o146 (P : Params) : Obj := ⟨.none,.none,(.fields (List.toArray [(.int 47 0),(.int 4 0),(.ref 108)])),(#[])⟩
noncomputable def hd.o147 (P : Params) : Obj := ⟨(.type "code"),.none,(.fields (List.toArray [(.str "OpsCode" 338),(.str "OpsCode" 339),(.str "/claim/cut.py" 340),(.int 45 0),(.int 0 0),(.int 0 0),(.int 0 0),(.int 0 0),(.ref 99),(.bool .false),(.int 181 0),(.ref 100),.none,.none,.none,.none,(.int 341 0),(.int 45 0),(.str "/claim/cut.py" 342)])),(#[])⟩
noncomputable def hd.o148 (P : Params) : Obj := ⟨(.type "frame"),.none,.plain,(List.toArray [(.some (.ref 101)),(.some (.ref 3)),(.some (.ref 98)),.none,(.some (.str "perlcore.ops" 334)),.none,(.some (.ref 0))])⟩
noncomputable def hd.o149 (P : Params) : Obj := ⟨(.type "tuple"),.none,(.seq (#[]) 0),(#[])⟩
noncomputable def hd.o150 (P : Params) : Obj := ⟨.none,.none,(.fields (#[])),(#[])⟩
noncomputable def hd.o151 (P : Params) : Obj := ⟨(.type "tuple"),.none,(.seq (List.toArray [(.str "self" 351),(.str "rows" 352),(.str "name" 353),(.str "pad_size" 354),(.str "captures" 355),(.str "subs" 356)]) 0),(#[])⟩
noncomputable def hd.o152 (P : Params) : Obj := ⟨(.type "tuple"),.none,(.seq (#[]) 0),(#[])⟩
noncomputable def hd.o153 (P : Params) : Obj := ⟨.none,.none,(.func ⟨"__init__","OpsCode.__init__",(defP (hd.m 7)),(.stmts (defB (hd.m 7))),(defS (hd.m 7)),0,[],.none,.none,.none,.none,.none,.none,.none,0⟩),(#[])⟩
noncomputable def hd.o154 (P : Params) : Obj := ⟨(.type "code"),.none,(.fields (List.toArray [(.str "__init__" 348),(.str "OpsCode.__init__" 349),(.str "/claim/cut.py" 350),(.int 47 0),(.int 6 0),(.int 0 0),(.int 0 0),(.int 3 0),(.ref 103),(.bool .true),(.int 181 0),(.ref 104),.none,(.ref 105),(.ref 106),(.ref 107),(.int 357 0),(.int 47 0),(.str "/claim/cut.py" 358)])),(#[])⟩
noncomputable def hd.o155 (P : Params) : Obj := ⟨(.type "function"),.none,(.func ⟨"__init__","OpsCode.__init__",(defP (hd.m 7)),(.stmts (defB (hd.m 7))),(defS (hd.m 7)),3,[],.none,.none,.none,(.str "perlcore.ops" 334),.none,(.ref 108),.none,0⟩),(#[])⟩
noncomputable def hd.o156 (P : Params) : Obj := ⟨(.type "tuple"),.none,(.seq (List.toArray [(.str "captures" 360),(.str "name" 361),(.str "pad_size" 362),(.str "rows" 363),(.str "subs" 364)]) 0),(#[])⟩
noncomputable def hd.o157 (P : Params) : Obj := ⟨(.type "dict"),.none,(.dict (List.toArray [⟨(PyData.keyHash P "__module__"),(.str "__module__" 343),(.str "perlcore.ops" 334)⟩,⟨(PyData.keyHash P "__firstlineno__"),(.str "__firstlineno__" 347),(.int 45 346)⟩,⟨(PyData.keyHash P "__init__"),(.str "__init__" 359),(.ref 109)⟩,⟨(PyData.keyHash P "__static_attributes__"),(.str "__static_attributes__" 365),(.ref 110)⟩,⟨(PyData.keyHash P "__dict__"),(.str "__dict__" 367),(.ref 113)⟩,⟨(PyData.keyHash P "__weakref__"),(.str "__weakref__" 369),(.ref 114)⟩,⟨(PyData.keyHash P "__doc__"),(.str "__doc__" 370),.none⟩]) 4),(#[])⟩
noncomputable def hd.o158 (P : Params) : Obj := ⟨(.type "type"),.none,(.cls ⟨"OpsCode",[(.type "object")],[(.ref 112),(.type "object")],111,"OpsCode",.true,[],[],.false,.none,.false⟩),(List.toArray [.none,.none,(.some (.str "OpsCode" 336)),(.some (.str "OpsCode" 344)),(.some (.builtin "object.__new__")),(.some (.bool .true))])⟩
noncomputable def hd.o159 (P : Params) : Obj := ⟨(.type "getset_descriptor"),.none,(.fields (List.toArray [(.str "__dict__" 366),(.ref 112),(.builtin "function.__dict__"),(.builtin "function.__dict__#set")])),(#[])⟩
noncomputable def hd.o160 (P : Params) : Obj := ⟨(.type "getset_descriptor"),.none,(.fields (List.toArray [(.str "__weakref__" 368),(.ref 112),(.builtin "ExceptionGroup.__weakref__"),.none])),(#[])⟩
noncomputable def hd.o161 (P : Params) : Obj := ⟨(.type "super"),.none,(.fields (List.toArray [(.ref 112),(.ref 112),(.ref 112)])),(#[])⟩
noncomputable def hd.o162 (P : Params) : Obj := ⟨(.type "builtin_function_or_method"),.none,(.fields (List.toArray [(.builtin "object.__init_subclass__"),(.ref 112)])),(#[])⟩
noncomputable def hd.o163 (P : Params) : Obj := ⟨(.type "dict"),.none,(.dict (List.toArray [⟨(PyData.keyHash P "__name__"),(.str "__name__" 165),(.str "perlcore.piles" 403)⟩,⟨(PyData.keyHash P "__doc__"),(.str "__doc__" 166),.none⟩,⟨(PyData.keyHash P "__package__"),(.str "__package__" 167),.none⟩,⟨(PyData.keyHash P "__loader__"),(.str "__loader__" 168),(.builtin "__main__.__loader__#opaque")⟩,⟨(PyData.keyHash P "__spec__"),(.str "__spec__" 169),.none⟩,⟨(PyData.keyHash P "__annotations__"),(.str "__annotations__" 170),(.ref 6)⟩,⟨(PyData.keyHash P "__builtins__"),(.str "__builtins__" 171),(.ref 4)⟩,⟨(PyData.keyHash P "__file__"),(.str "__file__" 173),(.str "/claim/cut.py" 172)⟩,⟨(PyData.keyHash P "__cached__"),(.str "__cached__" 174),.none⟩,⟨(PyData.keyHash P "PerlError"),(.str "PerlError" 217),(.ref 31)⟩,⟨(PyData.keyHash P "Die"),(.str "Die" 242),(.ref 51)⟩,⟨(PyData.keyHash P "Frame"),(.str "Frame" 283),(.ref 70)⟩,⟨(PyData.keyHash P "Run"),(.str "Run" 333),(.ref 91)⟩,⟨(PyData.keyHash P "OpsCode"),(.str "OpsCode" 372),(.ref 112)⟩,⟨(PyData.keyHash P "WeighedCode"),(.str "WeighedCode" 402),(.ref 133)⟩,⟨(PyData.keyHash P "MOST_PILED"),(.str "MOST_PILED" 406),(.int 880 405)⟩,⟨(PyData.keyHash P "CALL_COST"),(.str "CALL_COST" 408),(.int 4 407)⟩,⟨(PyData.keyHash P "LEAF_COST"),(.str "LEAF_COST" 410),(.int 10 409)⟩,⟨(PyData.keyHash P "BESIDE_COST"),(.str "BESIDE_COST" 412),(.int 8 411)⟩,⟨(PyData.keyHash P "SIGN_COST"),(.str "SIGN_COST" 414),(.int 5 413)⟩,⟨(PyData.keyHash P "READING_COST"),(.str "READING_COST" 416),(.int 500 415)⟩]) 21),(#[])⟩
noncomputable def hd.o164 (P : Params) : Obj := ⟨.none,.none,(.fields (List.toArray [(.int 2 0),(.int 0 0),(.ref 20),(.int 7 0),(.int 0 0),(.ref 40),(.int 13 0),(.int 0 0),(.ref 59),(.int 22 0),(.int 0 0),(.ref 80),(.int 45 0),(.int 0 0),(.ref 101),(.int 53 0),(.int 0 0),(.ref 122)])),(#[])⟩
noncomputable def hd.o165 (P : Params) : Obj := ⟨(.type "type"),.none,(.cls ⟨"OpsCode",[(.type "object")],[(.ref 112),(.type "object")],111,"OpsCode",.true,[],[(.ref 133)],.false,.none,.false⟩),(List.toArray [.none,.none,(.some (.str "OpsCode" 336)),(.some (.str "OpsCode" 344)),(.some (.builtin "object.__new__")),(.some (.bool .true))])⟩
noncomputable def hd.o166 (P : Params) : Obj := ⟨(.type "tuple"),.none,(.seq (List.toArray [(.ref 112)]) 0),(#[])⟩
noncomputable def hd.o167 (P : Params) : Obj := ⟨(.type "builtin_function_or_method"),.none,(.fields (List.toArray [(.builtin "type.__prepare__"),(.type "type")])),(#[])⟩
noncomputable def hd.o168 (P : Params) : Obj := ⟨(.type "dict"),.none,(.dict (List.toArray [⟨(PyData.keyHash P "__module__"),(.str "__module__" 380),(.str "perlcore.ops" 334)⟩,⟨(PyData.keyHash P "__qualname__"),(.str "__qualname__" 382),(.str "WeighedCode" 381)⟩,⟨(PyData.keyHash P "__firstlineno__"),(.str "__firstlineno__" 384),(.int 53 383)⟩,⟨(PyData.keyHash P "__init__"),(.str "__init__" 397),(.ref 130)⟩,⟨(PyData.keyHash P "__static_attributes__"),(.str "__static_attributes__" 399),(.ref 131)⟩]) 5),(#[])⟩
noncomputable def hd.o169 (P : Params) : Obj := ⟨(.type "tuple"),.none,(.seq (#[]) 0),(#[])⟩
noncomputable def hd.o170 (P : Params) : Obj := ⟨.none,.none,(.fields (List.toArray [(.int 55 0),(.int 4 0),(.ref 129)])),(#[])⟩
noncomputable def hd.o171 (P : Params) : Obj := ⟨(.type "code"),.none,(.fields (List.toArray [(.str "WeighedCode" 375),(.str "WeighedCode" 376),(.str "/claim/cut.py" 377),(.int 53 0),(.int 0 0),(.int 0 0),(.int 0 0),(.int 0 0),(.ref 120),(.bool .false),(.int 181 0),(.ref 121),.none,.none,.none,.none,(.int 378 0),(.int 53 0),(.str "/claim/cut.py" 379)])),(#[])⟩
noncomputable def hd.o172 (P : Params) : Obj := ⟨(.type "frame"),.none,.plain,(List.toArray [(.some (.ref 122)),(.some (.ref 3)),(.some (.ref 119)),.none,(.some (.str "perlcore.ops" 334)),.none,(.some (.ref 0))])⟩
noncomputable def hd.o173 (P : Params) : Obj := ⟨(.type "tuple"),.none,(.seq (#[]) 0),(#[])⟩
noncomputable def hd.o174 (P : Params) : Obj := ⟨.none,.none,(.fields (#[])),(#[])⟩
noncomputable def hd.o175 (P : Params) : Obj := ⟨(.type "tuple"),.none,(.seq (List.toArray [(.str "self" 388),(.str "rows" 389),(.str "name" 390),(.str "pad_size" 391),(.str "captures" 392),(.str "subs" 393),(.str "weights" 394)]) 0),(#[])⟩
noncomputable def hd.o176 (P : Params) : Obj := ⟨(.type "tuple"),.none,(.seq (#[]) 0),(#[])⟩
noncomputable def hd.o177 (P : Params) : Obj := ⟨.none,.none,(.func ⟨"__init__","WeighedCode.__init__",(defP (hd.m 8)),(.stmts (defB (hd.m 8))),(defS (hd.m 8)),0,[],.none,.none,.none,.none,.none,.none,.none,0⟩),(#[])⟩
noncomputable def hd.o178 (P : Params) : Obj := ⟨(.type "code"),.none,(.fields (List.toArray [(.str "__init__" 385),(.str "WeighedCode.__init__" 386),(.str "/claim/cut.py" 387),(.int 55 0),(.int 7 0),(.int 0 0),(.int 0 0),(.int 3 0),(.ref 124),(.bool .true),(.int 181 0),(.ref 125),.none,(.ref 126),(.ref 127),(.ref 128),(.int 395 0),(.int 55 0),(.str "/claim/cut.py" 396)])),(#[])⟩
noncomputable def hd.o179 (P : Params) : Obj := ⟨(.type "function"),.none,(.func ⟨"__init__","WeighedCode.__init__",(defP (hd.m 8)),(.stmts (defB (hd.m 8))),(defS (hd.m 8)),3,[],.none,.none,.none,(.str "perlcore.ops" 334),.none,(.ref 129),.none,0⟩),(#[])⟩
noncomputable def hd.o180 (P : Params) : Obj := ⟨(.type "tuple"),.none,(.seq (List.toArray [(.str "weights" 398)]) 0),(#[])⟩
noncomputable def hd.o181 (P : Params) : Obj := ⟨(.type "dict"),.none,(.dict (List.toArray [⟨(PyData.keyHash P "__module__"),(.str "__module__" 380),(.str "perlcore.ops" 334)⟩,⟨(PyData.keyHash P "__firstlineno__"),(.str "__firstlineno__" 384),(.int 53 383)⟩,⟨(PyData.keyHash P "__init__"),(.str "__init__" 397),(.ref 130)⟩,⟨(PyData.keyHash P "__static_attributes__"),(.str "__static_attributes__" 399),(.ref 131)⟩,⟨(PyData.keyHash P "__doc__"),(.str "__doc__" 400),.none⟩]) 2),(#[])⟩
noncomputable def hd.o182 (P : Params) : Obj := ⟨(.type "type"),.none,(.cls ⟨"WeighedCode",[(.ref 112)],[(.ref 133),(.ref 112),(.type "object")],132,"WeighedCode",.true,[],[],.false,.none,.false⟩),(List.toArray [(.some (.ref 117)),.none,(.some (.str "WeighedCode" 373)),(.some (.str "WeighedCode" 381)),(.some (.builtin "object.__new__")),(.some (.bool .true))])⟩
noncomputable def hd.o183 (P : Params) : Obj := ⟨(.type "super"),.none,(.fields (List.toArray [(.ref 133),(.ref 133),(.ref 133)])),(#[])⟩
noncomputable def hd.o184 (P : Params) : Obj := ⟨(.type "builtin_function_or_method"),.none,(.fields (List.toArray [(.builtin "object.__init_subclass__"),(.ref 133)])),(#[])⟩
noncomputable def hd.o185 (P : Params) : Obj := ⟨(.type "dict"),.none,(.dict (List.toArray [⟨(PyData.keyHash P "__name__"),(.str "__name__" 165),(.str "perlcore.piles" 403)⟩,⟨(PyData.keyHash P "__doc__"),(.str "__doc__" 166),.none⟩,⟨(PyData.keyHash P "__package__"),(.str "__package__" 167),.none⟩,⟨(PyData.keyHash P "__loader__"),(.str "__loader__" 168),(.builtin "__main__.__loader__#opaque")⟩,⟨(PyData.keyHash P "__spec__"),(.str "__spec__" 169),.none⟩,⟨(PyData.keyHash P "__annotations__"),(.str "__annotations__" 170),(.ref 6)⟩,⟨(PyData.keyHash P "__builtins__"),(.str "__builtins__" 171),(.ref 4)⟩,⟨(PyData.keyHash P "__file__"),(.str "__file__" 173),(.str "/claim/cut.py" 172)⟩,⟨(PyData.keyHash P "__cached__"),(.str "__cached__" 174),.none⟩,⟨(PyData.keyHash P "PerlError"),(.str "PerlError" 217),(.ref 31)⟩,⟨(PyData.keyHash P "Die"),(.str "Die" 242),(.ref 51)⟩,⟨(PyData.keyHash P "Frame"),(.str "Frame" 283),(.ref 70)⟩,⟨(PyData.keyHash P "Run"),(.str "Run" 333),(.ref 91)⟩,⟨(PyData.keyHash P "OpsCode"),(.str "OpsCode" 372),(.ref 112)⟩,⟨(PyData.keyHash P "WeighedCode"),(.str "WeighedCode" 402),(.ref 133)⟩,⟨(PyData.keyHash P "MOST_PILED"),(.str "MOST_PILED" 406),(.int 880 405)⟩,⟨(PyData.keyHash P "CALL_COST"),(.str "CALL_COST" 408),(.int 4 407)⟩,⟨(PyData.keyHash P "LEAF_COST"),(.str "LEAF_COST" 410),(.int 10 409)⟩,⟨(PyData.keyHash P "BESIDE_COST"),(.str "BESIDE_COST" 412),(.int 8 411)⟩,⟨(PyData.keyHash P "SIGN_COST"),(.str "SIGN_COST" 414),(.int 5 413)⟩,⟨(PyData.keyHash P "READING_COST"),(.str "READING_COST" 416),(.int 500 415)⟩,⟨(PyData.keyHash P "WEIGHTS"),(.str "WEIGHTS" 537),(.ref 136)⟩]) 22),(#[])⟩
noncomputable def hd.o186 (P : Params) : Obj := ⟨(.type "dict"),.none,(.dict (List.toArray [⟨(PyData.keyHash P "block"),(.str "block" 417),(.int 2 418)⟩,⟨(PyData.keyHash P "expr"),(.str "expr" 420),(.int 3 421)⟩,⟨(PyData.keyHash P "if"),(.str "if" 423),(.int 4 424)⟩,⟨(PyData.keyHash P "while"),(.str "while" 426),(.int 5 427)⟩,⟨(PyData.keyHash P "dowhile"),(.str "dowhile" 429),(.int 5 430)⟩,⟨(PyData.keyHash P "cfor"),(.str "cfor" 432),(.int 5 433)⟩,⟨(PyData.keyHash P "foreach"),(.str "foreach" 435),(.int 5 436)⟩,⟨(PyData.keyHash P "bare"),(.str "bare" 438),(.int 3 439)⟩,⟨(PyData.keyHash P "return"),(.str "return" 441),(.int 2 442)⟩,⟨(PyData.keyHash P "num"),(.str "num" 444),(.int 2 445)⟩,⟨(PyData.keyHash P "str"),(.str "str" 447),(.int 2 448)⟩,⟨(PyData.keyHash P "pads"),(.str "pads" 450),(.int 2 451)⟩,⟨(PyData.keyHash P "mys"),(.str "mys" 453),(.int 2 454)⟩,⟨(PyData.keyHash P "globs"),(.str "globs" 456),(.int 2 457)⟩,⟨(PyData.keyHash P "bin"),(.str "bin" 459),(.int 3 460)⟩,⟨(PyData.keyHash P "un"),(.str "un" 462),(.int 3 463)⟩,⟨(PyData.keyHash P "and"),(.str "and" 465),(.int 3 466)⟩,⟨(PyData.keyHash P "or"),(.str "or" 468),(.int 3 469)⟩,⟨(PyData.keyHash P "dor"),(.str "dor" 471),(.int 3 472)⟩,⟨(PyData.keyHash P "xor"),(.str "xor" 474),(.int 3 475)⟩,⟨(PyData.keyHash P "cond"),(.str "cond" 477),(.int 3 478)⟩,⟨(PyData.keyHash P "list"),(.str "list" 480),(.int 3 481)⟩,⟨(PyData.keyHash P "range"),(.str "range" 483),(.int 3 484)⟩,⟨(PyData.keyHash P "repeat"),(.str "repeat" 486),(.int 3 487)⟩,⟨(PyData.keyHash P "interp"),(.str "interp" 489),(.int 3 490)⟩,⟨(PyData.keyHash P "stringify"),(.str "stringify" 492),(.int 3 493)⟩,⟨(PyData.keyHash P "call"),(.str "call" 495),(.int 4 496)⟩,⟨(PyData.keyHash P "method"),(.str "method" 498),(.int 4 499)⟩,⟨(PyData.keyHash P "assign"),(.str "assign" 501),(.int 3 502)⟩,⟨(PyData.keyHash P "doblock"),(.str "doblock" 504),(.int 2 505)⟩,⟨(PyData.keyHash P "map"),(.str "map" 507),(.int 4 508)⟩,⟨(PyData.keyHash P "grep"),(.str "grep" 510),(.int 4 511)⟩,⟨(PyData.keyHash P "sort"),(.str "sort" 513),(.int 9 514)⟩,⟨(PyData.keyHash P "func"),(.str "func" 516),(.int 6 517)⟩,⟨(PyData.keyHash P "match"),(.str "match" 519),(.int 6 520)⟩,⟨(PyData.keyHash P "subst"),(.str "subst" 521),(.int 8 522)⟩,⟨(PyData.keyHash P "trans"),(.str "trans" 523),(.int 6 524)⟩,⟨(PyData.keyHash P "local"),(.str "local" 525),(.int 6 526)⟩,⟨(PyData.keyHash P "aassign"),(.str "aassign" 527),(.int 5 528)⟩,⟨(PyData.keyHash P "refgen"),(.str "refgen" 529),(.int 5 530)⟩]) 40),(#[])⟩
noncomputable def hd.o187 (P : Params) : Obj := ⟨(.type "dict"),.none,(.dict (List.toArray [⟨(PyData.keyHash P "or"),(.str "or" 468),(.int 3 469)⟩,⟨(PyData.keyHash P "dor"),(.str "dor" 471),(.int 3 472)⟩,⟨(PyData.keyHash P "xor"),(.str "xor" 474),(.int 3 475)⟩,⟨(PyData.keyHash P "cond"),(.str "cond" 477),(.int 3 478)⟩,⟨(PyData.keyHash P "list"),(.str "list" 480),(.int 3 481)⟩,⟨(PyData.keyHash P "range"),(.str "range" 483),(.int 3 484)⟩,⟨(PyData.keyHash P "repeat"),(.str "repeat" 486),(.int 3 487)⟩,⟨(PyData.keyHash P "interp"),(.str "interp" 489),(.int 3 490)⟩,⟨(PyData.keyHash P "stringify"),(.str "stringify" 492),(.int 3 493)⟩,⟨(PyData.keyHash P "call"),(.str "call" 495),(.int 4 496)⟩,⟨(PyData.keyHash P "method"),(.str "method" 498),(.int 4 499)⟩,⟨(PyData.keyHash P "assign"),(.str "assign" 501),(.int 3 502)⟩,⟨(PyData.keyHash P "doblock"),(.str "doblock" 504),(.int 2 505)⟩,⟨(PyData.keyHash P "map"),(.str "map" 507),(.int 4 508)⟩,⟨(PyData.keyHash P "grep"),(.str "grep" 510),(.int 4 511)⟩,⟨(PyData.keyHash P "sort"),(.str "sort" 513),(.int 9 514)⟩,⟨(PyData.keyHash P "func"),(.str "func" 516),(.int 6 517)⟩]) 17),(#[])⟩
noncomputable def hd.o188 (P : Params) : Obj := ⟨(.type "dict"),.none,(.dict (List.toArray [⟨(PyData.keyHash P "match"),(.str "match" 519),(.int 6 520)⟩,⟨(PyData.keyHash P "subst"),(.str "subst" 521),(.int 8 522)⟩,⟨(PyData.keyHash P "trans"),(.str "trans" 523),(.int 6 524)⟩,⟨(PyData.keyHash P "local"),(.str "local" 525),(.int 6 526)⟩,⟨(PyData.keyHash P "aassign"),(.str "aassign" 527),(.int 5 528)⟩,⟨(PyData.keyHash P "refgen"),(.str "refgen" 529),(.int 5 530)⟩]) 6),(#[])⟩
noncomputable def hd.o192 (P : Params) : Obj := ⟨(.type "dict"),.none,(.dict (List.toArray [⟨(PyData.keyHash P "__name__"),(.str "__name__" 165),(.str "perlcore.piles" 403)⟩,⟨(PyData.keyHash P "__doc__"),(.str "__doc__" 166),.none⟩,⟨(PyData.keyHash P "__package__"),(.str "__package__" 167),.none⟩,⟨(PyData.keyHash P "__loader__"),(.str "__loader__" 168),(.builtin "__main__.__loader__#opaque")⟩,⟨(PyData.keyHash P "__spec__"),(.str "__spec__" 169),.none⟩,⟨(PyData.keyHash P "__annotations__"),(.str "__annotations__" 170),(.ref 6)⟩,⟨(PyData.keyHash P "__builtins__"),(.str "__builtins__" 171),(.ref 4)⟩,⟨(PyData.keyHash P "__file__"),(.str "__file__" 173),(.str "/claim/cut.py" 172)⟩,⟨(PyData.keyHash P "__cached__"),(.str "__cached__" 174),.none⟩,⟨(PyData.keyHash P "PerlError"),(.str "PerlError" 217),(.ref 31)⟩,⟨(PyData.keyHash P "Die"),(.str "Die" 242),(.ref 51)⟩,⟨(PyData.keyHash P "Frame"),(.str "Frame" 283),(.ref 70)⟩,⟨(PyData.keyHash P "Run"),(.str "Run" 333),(.ref 91)⟩,⟨(PyData.keyHash P "OpsCode"),(.str "OpsCode" 372),(.ref 112)⟩,⟨(PyData.keyHash P "WeighedCode"),(.str "WeighedCode" 402),(.ref 133)⟩,⟨(PyData.keyHash P "MOST_PILED"),(.str "MOST_PILED" 406),(.int 880 405)⟩,⟨(PyData.keyHash P "CALL_COST"),(.str "CALL_COST" 408),(.int 4 407)⟩,⟨(PyData.keyHash P "LEAF_COST"),(.str "LEAF_COST" 410),(.int 10 409)⟩,⟨(PyData.keyHash P "BESIDE_COST"),(.str "BESIDE_COST" 412),(.int 8 411)⟩,⟨(PyData.keyHash P "SIGN_COST"),(.str "SIGN_COST" 414),(.int 5 413)⟩,⟨(PyData.keyHash P "READING_COST"),(.str "READING_COST" 416),(.int 500 415)⟩,⟨(PyData.keyHash P "WEIGHTS"),(.str "WEIGHTS" 537),(.ref 136)⟩,⟨(PyData.keyHash P "OTHER_WEIGHT"),(.str "OTHER_WEIGHT" 539),(.int 4 538)⟩,⟨(PyData.keyHash P "CALLING"),(.str "CALLING" 552),(.ref 139)⟩,⟨(PyData.keyHash P "UNTOLD"),(.str "UNTOLD" 555),(.ref 140)⟩,⟨(PyData.keyHash P "CallFrame"),(.str "CallFrame" 587),(.ref 157)⟩,⟨(PyData.keyHash P "tree_weights"),(.str "tree_weights" 593),(.ref 164)⟩,⟨(PyData.keyHash P "code_weights"),(.str "code_weights" 600),(.ref 171)⟩]) 28),(#[])⟩
noncomputable def hd.o193 (P : Params) : Obj := ⟨.none,.none,(.fields (List.toArray [(.int 2 0),(.int 0 0),(.ref 20),(.int 7 0),(.int 0 0),(.ref 40),(.int 13 0),(.int 0 0),(.ref 59),(.int 22 0),(.int 0 0),(.ref 80),(.int 45 0),(.int 0 0),(.ref 101),(.int 53 0),(.int 0 0),(.ref 122),(.int 69 0),(.int 0 0),(.ref 146),(.int 76 0),(.int 0 0),(.ref 163),(.int 92 0),(.int 0 0),(.ref 170)])),(#[])⟩
noncomputable def hd.o194 (P : Params) : Obj := ⟨(.type "type"),.none,(.cls ⟨"Frame",[(.type "object")],[(.ref 70),(.type "object")],69,"Frame",.true,[],[(.ref 157)],.false,.none,.false⟩),(List.toArray [.none,.none,(.some (.str "Frame" 245)),(.some (.str "Frame" 253)),(.some (.builtin "object.__new__")),(.some (.bool .true))])⟩
noncomputable def hd.o195 (P : Params) : Obj := ⟨(.type "dict"),.none,(.dict (List.toArray [⟨(PyData.keyHash P "call"),(.str "call" 540),(.int 2 541)⟩,⟨(PyData.keyHash P "method"),(.str "method" 542),(.int 2 543)⟩,⟨(PyData.keyHash P "sort"),(.str "sort" 544),(.int 7 545)⟩,⟨(PyData.keyHash P "evalstr"),(.str "evalstr" 546),(.int 4 547)⟩]) 4),(#[])⟩
noncomputable def hd.o196 (P : Params) : Obj := ⟨(.type "tuple"),.none,(.seq (List.toArray [(.int 0 553),(.int 0 554)]) 0),(#[])⟩
noncomputable def hd.o197 (P : Params) : Obj := ⟨(.type "tuple"),.none,(.seq (List.toArray [(.ref 70)]) 0),(#[])⟩
noncomputable def hd.o198 (P : Params) : Obj := ⟨(.type "builtin_function_or_method"),.none,(.fields (List.toArray [(.builtin "type.__prepare__"),(.type "type")])),(#[])⟩
noncomputable def hd.o199 (P : Params) : Obj := ⟨(.type "dict"),.none,(.dict (List.toArray [⟨(PyData.keyHash P "__module__"),(.str "__module__" 563),(.str "perlcore.piles" 403)⟩,⟨(PyData.keyHash P "__qualname__"),(.str "__qualname__" 565),(.str "CallFrame" 564)⟩,⟨(PyData.keyHash P "__firstlineno__"),(.str "__firstlineno__" 567),(.int 69 566)⟩,⟨(PyData.keyHash P "__init__"),(.str "__init__" 580),(.ref 154)⟩,⟨(PyData.keyHash P "__static_attributes__"),(.str "__static_attributes__" 584),(.ref 155)⟩]) 5),(#[])⟩
noncomputable def hd.o200 (P : Params) : Obj := ⟨(.type "tuple"),.none,(.seq (#[]) 0),(#[])⟩
noncomputable def hd.o201 (P : Params) : Obj := ⟨.none,.none,(.fields (List.toArray [(.int 71 0),(.int 4 0),(.ref 153)])),(#[])⟩
noncomputable def hd.o202 (P : Params) : Obj := ⟨(.type "code"),.none,(.fields (List.toArray [(.str "CallFrame" 558),(.str "CallFrame" 559),(.str "/claim/cut.py" 560),(.int 69 0),(.int 0 0),(.int 0 0),(.int 0 0),(.int 0 0),(.ref 144),(.bool .false),(.int 181 0),(.ref 145),.none,.none,.none,.none,(.int 561 0),(.int 69 0),(.str "/claim/cut.py" 562)])),(#[])⟩
noncomputable def hd.o203 (P : Params) : Obj := ⟨(.type "frame"),.none,.plain,(List.toArray [(.some (.ref 146)),(.some (.ref 3)),(.some (.ref 143)),.none,(.some (.str "perlcore.piles" 403)),.none,(.some (.ref 0))])⟩
noncomputable def hd.o204 (P : Params) : Obj := ⟨(.type "tuple"),.none,(.seq (#[]) 0),(#[])⟩
noncomputable def hd.o205 (P : Params) : Obj := ⟨.none,.none,(.fields (#[])),(#[])⟩
noncomputable def hd.o206 (P : Params) : Obj := ⟨(.type "tuple"),.none,(.seq (List.toArray [(.str "self" 571),(.str "pad" 572),(.str "args" 573),(.str "want" 574),(.str "code" 575),(.str "package" 576),(.str "line" 577)]) 0),(#[])⟩
noncomputable def hd.o207 (P : Params) : Obj := ⟨(.type "tuple"),.none,(.seq (#[]) 0),(#[])⟩
noncomputable def hd.o208 (P : Params) : Obj := ⟨.none,.none,(.func ⟨"__init__","CallFrame.__init__",(defP (hd.m 20)),(.stmts (defB (hd.m 20))),(defS (hd.m 20)),0,[],.none,.none,.none,.none,.none,.none,.none,0⟩),(#[])⟩
noncomputable def hd.o209 (P : Params) : Obj := ⟨(.type "code"),.none,(.fields (List.toArray [(.str "__init__" 568),(.str "CallFrame.__init__" 569),(.str "/claim/cut.py" 570),(.int 71 0),(.int 7 0),(.int 0 0),(.int 0 0),(.int 3 0),(.ref 148),(.bool .true),(.int 181 0),(.ref 149),.none,(.ref 150),(.ref 151),(.ref 152),(.int 578 0),(.int 71 0),(.str "/claim/cut.py" 579)])),(#[])⟩
noncomputable def hd.o210 (P : Params) : Obj := ⟨(.type "function"),.none,(.func ⟨"__init__","CallFrame.__init__",(defP (hd.m 20)),(.stmts (defB (hd.m 20))),(defS (hd.m 20)),3,[],.none,.none,.none,(.str "perlcore.piles" 403),.none,(.ref 153),.none,0⟩),(#[])⟩
noncomputable def hd.o211 (P : Params) : Obj := ⟨(.type "tuple"),.none,(.seq (List.toArray [(.str "known" 581),(.str "piled" 582),(.str "weights" 583)]) 0),(#[])⟩
noncomputable def hd.o212 (P : Params) : Obj := ⟨(.type "dict"),.none,(.dict (List.toArray [⟨(PyData.keyHash P "__module__"),(.str "__module__" 563),(.str "perlcore.piles" 403)⟩,⟨(PyData.keyHash P "__firstlineno__"),(.str "__firstlineno__" 567),(.int 69 566)⟩,⟨(PyData.keyHash P "__init__"),(.str "__init__" 580),(.ref 154)⟩,⟨(PyData.keyHash P "__static_attributes__"),(.str "__static_attributes__" 584),(.ref 155)⟩,⟨(PyData.keyHash P "__doc__"),(.str "__doc__" 585),.none⟩]) 2),(#[])⟩
noncomputable def hd.o213 (P : Params) : Obj := ⟨(.type "type"),.none,(.cls ⟨"CallFrame",[(.ref 70)],[(.ref 157),(.ref 70),(.type "object")],156,"CallFrame",.true,[],[],.false,.none,.false⟩),(List.toArray [(.some (.ref 141)),.none,(.some (.str "CallFrame" 556)),(.some (.str "CallFrame" 564)),(.some (.builtin "object.__new__")),(.some (.bool .true))])⟩
noncomputable def hd.o214 (P : Params) : Obj := ⟨(.type "super"),.none,(.fields (List.toArray [(.ref 157),(.ref 157),(.ref 157)])),(#[])⟩
noncomputable def hd.o215 (P : Params) : Obj := ⟨(.type "builtin_function_or_method"),.none,(.fields (List.toArray [(.builtin "object.__init_subclass__"),(.ref 157)])),(#[])⟩
noncomputable def hd.o216 (P : Params) : Obj := ⟨(.type "tuple"),.none,(.seq (#[]) 0),(#[])⟩
noncomputable def hd.o217 (P : Params) : Obj := ⟨.none,.none,(.fields (#[])),(#[])⟩
noncomputable def hd.o218 (P : Params) : Obj := ⟨.none,.none,(.func ⟨"tree_weights","tree_weights",(defP (hd.s 21)),(.stmts (defB (hd.s 21))),(defS (hd.s 21)),0,[],.none,.none,.none,.none,.none,.none,.none,0⟩),(#[])⟩
noncomputable def hd.o219 (P : Params) : Obj := ⟨(.type "code"),.none,(.fields (List.toArray [(.str "tree_weights" 588),(.str "tree_weights" 589),(.str "/claim/cut.py" 590),(.int 76 0),(.int 1 0),(.int 0 0),(.int 0 0),(.int 3 0),(.ref 160),(.bool .true),(.int 181 0),(.ref 161),.none,.none,.none,(.ref 162),(.int 591 0),(.int 76 0),(.str "/claim/cut.py" 592)])),(#[])⟩
noncomputable def hd.o220 (P : Params) : Obj := ⟨(.type "function"),.none,(.func ⟨"tree_weights","tree_weights",(defP (hd.s 21)),(.stmts (defB (hd.s 21))),(defS (hd.s 21)),3,[],.none,.none,.none,(.str "perlcore.piles" 403),.none,(.ref 163),.none,0⟩),(#[])⟩
noncomputable def hd.o221 (P : Params) : Obj := ⟨(.type "tuple"),.none,(.seq (#[]) 0),(#[])⟩
noncomputable def hd.o222 (P : Params) : Obj := ⟨.none,.none,(.fields (#[])),(#[])⟩
noncomputable def hd.o223 (P : Params) : Obj := ⟨(.type "tuple"),.none,(.seq (List.toArray [(.str "code" 597)]) 0),(#[])⟩
noncomputable def hd.o224 (P : Params) : Obj := ⟨(.type "tuple"),.none,(.seq (#[]) 0),(#[])⟩
noncomputable def hd.o225 (P : Params) : Obj := ⟨.none,.none,(.func ⟨"code_weights","code_weights",(defP (hd.s 22)),(.stmts (defB (hd.s 22))),(defS (hd.s 22)),0,[],.none,.none,.none,.none,.none,.none,.none,0⟩),(#[])⟩
noncomputable def hd.o226 (P : Params) : Obj := ⟨(.type "code"),.none,(.fields (List.toArray [(.str "code_weights" 594),(.str "code_weights" 595),(.str "/claim/cut.py" 596),(.int 92 0),(.int 1 0),(.int 0 0),(.int 0 0),(.int 3 0),(.ref 165),(.bool .true),(.int 181 0),(.ref 166),.none,(.ref 167),(.ref 168),(.ref 169),(.int 598 0),(.int 92 0),(.str "/claim/cut.py" 599)])),(#[])⟩
noncomputable def hd.o227 (P : Params) : Obj := ⟨(.type "function"),.none,(.func ⟨"code_weights","code_weights",(defP (hd.s 22)),(.stmts (defB (hd.s 22))),(defS (hd.s 22)),3,[],.none,.none,.none,(.str "perlcore.piles" 403),.none,(.ref 170),.none,0⟩),(#[])⟩
noncomputable def hd.o230 (P : Params) : Obj := ⟨(.type "dict"),.none,(.dict (List.toArray [⟨(PyData.keyHash P "__name__"),(.str "__name__" 165),(.str "perlcore.values" 656)⟩,⟨(PyData.keyHash P "__doc__"),(.str "__doc__" 166),.none⟩,⟨(PyData.keyHash P "__package__"),(.str "__package__" 167),.none⟩,⟨(PyData.keyHash P "__loader__"),(.str "__loader__" 168),(.builtin "__main__.__loader__#opaque")⟩,⟨(PyData.keyHash P "__spec__"),(.str "__spec__" 169),.none⟩,⟨(PyData.keyHash P "__annotations__"),(.str "__annotations__" 170),(.ref 6)⟩,⟨(PyData.keyHash P "__builtins__"),(.str "__builtins__" 171),(.ref 4)⟩,⟨(PyData.keyHash P "__file__"),(.str "__file__" 173),(.str "/claim/cut.py" 172)⟩,⟨(PyData.keyHash P "__cached__"),(.str "__cached__" 174),.none⟩,⟨(PyData.keyHash P "PerlError"),(.str "PerlError" 217),(.ref 31)⟩,⟨(PyData.keyHash P "Die"),(.str "Die" 242),(.ref 51)⟩,⟨(PyData.keyHash P "Frame"),(.str "Frame" 283),(.ref 70)⟩,⟨(PyData.keyHash P "Run"),(.str "Run" 333),(.ref 91)⟩,⟨(PyData.keyHash P "OpsCode"),(.str "OpsCode" 372),(.ref 112)⟩,⟨(PyData.keyHash P "WeighedCode"),(.str "WeighedCode" 402),(.ref 133)⟩,⟨(PyData.keyHash P "MOST_PILED"),(.str "MOST_PILED" 406),(.int 880 405)⟩,⟨(PyData.keyHash P "CALL_COST"),(.str "CALL_COST" 408),(.int 4 407)⟩,⟨(PyData.keyHash P "LEAF_COST"),(.str "LEAF_COST" 410),(.int 10 409)⟩,⟨(PyData.keyHash P "BESIDE_COST"),(.str "BESIDE_COST" 412),(.int 8 411)⟩,⟨(PyData.keyHash P "SIGN_COST"),(.str "SIGN_COST" 414),(.int 5 413)⟩,⟨(PyData.keyHash P "READING_COST"),(.str "READING_COST" 416),(.int 500 415)⟩,⟨(PyData.keyHash P "WEIGHTS"),(.str "WEIGHTS" 537),(.ref 136)⟩,⟨(PyData.keyHash P "OTHER_WEIGHT"),(.str "OTHER_WEIGHT" 539),(.int 4 538)⟩,⟨(PyData.keyHash P "CALLING"),(.str "CALLING" 552),(.ref 139)⟩,⟨(PyData.keyHash P "UNTOLD"),(.str "UNTOLD" 555),(.ref 140)⟩,⟨(PyData.keyHash P "CallFrame"),(.str "CallFrame" 587),(.ref 157)⟩,⟨(PyData.keyHash P "tree_weights"),(.str "tree_weights" 593),(.ref 164)⟩,⟨(PyData.keyHash P "code_weights"),(.str "code_weights" 600),(.ref 171)⟩,⟨(PyData.keyHash P "weights_seen"),(.str "weights_seen" 608),(.ref 178)⟩,⟨(PyData.keyHash P "piled_behind"),(.str "piled_behind" 615),(.ref 185)⟩,⟨(PyData.keyHash P "check_pile"),(.str "check_pile" 624),(.ref 192)⟩,⟨(PyData.keyHash P "called_frame"),(.str "called_frame" 637),(.ref 199)⟩,⟨(PyData.keyHash P "check_reading"),(.str "check_reading" 645),(.ref 206)⟩,⟨(PyData.keyHash P "piled_beside"),(.str "piled_beside" 655),(.ref 213)⟩]) 34),(#[])⟩
noncomputable def hd.o231 (P : Params) : Obj := ⟨.none,.none,(.fields (List.toArray [(.int 2 0),(.int 0 0),(.ref 20),(.int 7 0),(.int 0 0),(.ref 40),(.int 13 0),(.int 0 0),(.ref 59),(.int 22 0),(.int 0 0),(.ref 80),(.int 45 0),(.int 0 0),(.ref 101),(.int 53 0),(.int 0 0),(.ref 122),(.int 69 0),(.int 0 0),(.ref 146),(.int 76 0),(.int 0 0),(.ref 163),(.int 92 0),(.int 0 0),(.ref 170),(.int 96 0),(.int 0 0),(.ref 177),(.int 102 0),(.int 0 0),(.ref 184),(.int 106 0),(.int 0 0),(.ref 191),(.int 110 0),(.int 0 0),(.ref 198),(.int 118 0),(.int 0 0),(.ref 205),(.int 121 0),(.int 0 0),(.ref 212)])),(#[])⟩
noncomputable def hd.o232 (P : Params) : Obj := ⟨(.type "tuple"),.none,(.seq (#[]) 0),(#[])⟩
noncomputable def hd.o233 (P : Params) : Obj := ⟨.none,.none,(.fields (#[])),(#[])⟩
noncomputable def hd.o234 (P : Params) : Obj := ⟨(.type "tuple"),.none,(.seq (List.toArray [(.str "frame" 604),(.str "code" 605)]) 0),(#[])⟩
noncomputable def hd.o235 (P : Params) : Obj := ⟨(.type "tuple"),.none,(.seq (#[]) 0),(#[])⟩
noncomputable def hd.o236 (P : Params) : Obj := ⟨.none,.none,(.func ⟨"weights_seen","weights_seen",(defP (hd.s 23)),(.stmts (defB (hd.s 23))),(defS (hd.s 23)),0,[],.none,.none,.none,.none,.none,.none,.none,0⟩),(#[])⟩
noncomputable def hd.o237 (P : Params) : Obj := ⟨(.type "code"),.none,(.fields (List.toArray [(.str "weights_seen" 601),(.str "weights_seen" 602),(.str "/claim/cut.py" 603),(.int 96 0),(.int 2 0),(.int 0 0),(.int 0 0),(.int 3 0),(.ref 172),(.bool .true),(.int 181 0),(.ref 173),.none,(.ref 174),(.ref 175),(.ref 176),(.int 606 0),(.int 96 0),(.str "/claim/cut.py" 607)])),(#[])⟩
noncomputable def hd.o238 (P : Params) : Obj := ⟨(.type "function"),.none,(.func ⟨"weights_seen","weights_seen",(defP (hd.s 23)),(.stmts (defB (hd.s 23))),(defS (hd.s 23)),3,[],.none,.none,.none,(.str "perlcore.piles" 403),.none,(.ref 177),.none,0⟩),(#[])⟩
noncomputable def hd.o239 (P : Params) : Obj := ⟨(.type "tuple"),.none,(.seq (#[]) 0),(#[])⟩
noncomputable def hd.o240 (P : Params) : Obj := ⟨.none,.none,(.fields (#[])),(#[])⟩
noncomputable def hd.o241 (P : Params) : Obj := ⟨(.type "tuple"),.none,(.seq (List.toArray [(.str "frame" 612)]) 0),(#[])⟩
noncomputable def hd.o242 (P : Params) : Obj := ⟨(.type "tuple"),.none,(.seq (#[]) 0),(#[])⟩
noncomputable def hd.o243 (P : Params) : Obj := ⟨.none,.none,(.func ⟨"piled_behind","piled_behind",(defP (hd.s 24)),(.stmts (defB (hd.s 24))),(defS (hd.s 24)),0,[],.none,.none,.none,.none,.none,.none,.none,0⟩),(#[])⟩
noncomputable def hd.o244 (P : Params) : Obj := ⟨(.type "code"),.none,(.fields (List.toArray [(.str "piled_behind" 609),(.str "piled_behind" 610),(.str "/claim/cut.py" 611),(.int 102 0),(.int 1 0),(.int 0 0),(.int 0 0),(.int 3 0),(.ref 179),(.bool .true),(.int 181 0),(.ref 180),.none,(.ref 181),(.ref 182),(.ref 183),(.int 613 0),(.int 102 0),(.str "/claim/cut.py" 614)])),(#[])⟩
noncomputable def hd.o245 (P : Params) : Obj := ⟨(.type "function"),.none,(.func ⟨"piled_behind","piled_behind",(defP (hd.s 24)),(.stmts (defB (hd.s 24))),(defS (hd.s 24)),3,[],.none,.none,.none,(.str "perlcore.piles" 403),.none,(.ref 184),.none,0⟩),(#[])⟩
noncomputable def hd.o246 (P : Params) : Obj := ⟨(.type "tuple"),.none,(.seq (#[]) 0),(#[])⟩
noncomputable def hd.o247 (P : Params) : Obj := ⟨.none,.none,(.fields (#[])),(#[])⟩
noncomputable def hd.o248 (P : Params) : Obj := ⟨(.type "tuple"),.none,(.seq (List.toArray [(.str "run" 619),(.str "code" 620),(.str "outer" 621)]) 0),(#[])⟩
noncomputable def hd.o249 (P : Params) : Obj := ⟨(.type "tuple"),.none,(.seq (#[]) 0),(#[])⟩
noncomputable def hd.o250 (P : Params) : Obj := ⟨.none,.none,(.func ⟨"check_pile","check_pile",(defP (hd.s 25)),(.stmts (defB (hd.s 25))),(defS (hd.s 25)),0,[],.none,.none,.none,.none,.none,.none,.none,0⟩),(#[])⟩
noncomputable def hd.o251 (P : Params) : Obj := ⟨(.type "code"),.none,(.fields (List.toArray [(.str "check_pile" 616),(.str "check_pile" 617),(.str "/claim/cut.py" 618),(.int 106 0),(.int 2 0),(.int 0 0),(.int 0 0),(.int 3 0),(.ref 186),(.bool .true),(.int 181 0),(.ref 187),.none,(.ref 188),(.ref 189),(.ref 190),(.int 622 0),(.int 106 0),(.str "/claim/cut.py" 623)])),(#[])⟩
noncomputable def hd.o252 (P : Params) : Obj := ⟨(.type "function"),.none,(.func ⟨"check_pile","check_pile",(defP (hd.s 25)),(.stmts (defB (hd.s 25))),(defS (hd.s 25)),3,[],.none,.none,.none,(.str "perlcore.piles" 403),.none,(.ref 191),.none,0⟩),(#[])⟩
noncomputable def hd.o253 (P : Params) : Obj := ⟨(.type "tuple"),.none,(.seq (#[]) 0),(#[])⟩
noncomputable def hd.o254 (P : Params) : Obj := ⟨.none,.none,(.fields (#[])),(#[])⟩
noncomputable def hd.o255 (P : Params) : Obj := ⟨(.type "tuple"),.none,(.seq (List.toArray [(.str "run" 628),(.str "pad" 629),(.str "args" 630),(.str "want" 631),(.str "code" 632),(.str "outer" 633),(.str "frame" 634)]) 0),(#[])⟩
noncomputable def hd.o256 (P : Params) : Obj := ⟨(.type "tuple"),.none,(.seq (#[]) 0),(#[])⟩
noncomputable def hd.o257 (P : Params) : Obj := ⟨.none,.none,(.func ⟨"called_frame","called_frame",(defP (hd.s 26)),(.stmts (defB (hd.s 26))),(defS (hd.s 26)),0,[],.none,.none,.none,.none,.none,.none,.none,0⟩),(#[])⟩
noncomputable def hd.o258 (P : Params) : Obj := ⟨(.type "code"),.none,(.fields (List.toArray [(.str "called_frame" 625),(.str "called_frame" 626),(.str "/claim/cut.py" 627),(.int 110 0),(.int 5 0),(.int 0 0),(.int 0 0),(.int 3 0),(.ref 193),(.bool .true),(.int 181 0),(.ref 194),.none,(.ref 195),(.ref 196),(.ref 197),(.int 635 0),(.int 110 0),(.str "/claim/cut.py" 636)])),(#[])⟩
noncomputable def hd.o259 (P : Params) : Obj := ⟨(.type "function"),.none,(.func ⟨"called_frame","called_frame",(defP (hd.s 26)),(.stmts (defB (hd.s 26))),(defS (hd.s 26)),3,[],.none,.none,.none,(.str "perlcore.piles" 403),.none,(.ref 198),.none,0⟩),(#[])⟩
noncomputable def hd.o260 (P : Params) : Obj := ⟨(.type "tuple"),.none,(.seq (#[]) 0),(#[])⟩
noncomputable def hd.o261 (P : Params) : Obj := ⟨.none,.none,(.fields (#[])),(#[])⟩
noncomputable def hd.o262 (P : Params) : Obj := ⟨(.type "tuple"),.none,(.seq (List.toArray [(.str "run" 641),(.str "text" 642)]) 0),(#[])⟩
noncomputable def hd.o263 (P : Params) : Obj := ⟨(.type "tuple"),.none,(.seq (#[]) 0),(#[])⟩
noncomputable def hd.o264 (P : Params) : Obj := ⟨.none,.none,(.func ⟨"check_reading","check_reading",(defP (hd.s 27)),(.stmts (defB (hd.s 27))),(defS (hd.s 27)),0,[],.none,.none,.none,.none,.none,.none,.none,0⟩),(#[])⟩
noncomputable def hd.o265 (P : Params) : Obj := ⟨(.type "code"),.none,(.fields (List.toArray [(.str "check_reading" 638),(.str "check_reading" 639),(.str "/claim/cut.py" 640),(.int 118 0),(.int 2 0),(.int 0 0),(.int 0 0),(.int 3 0),(.ref 200),(.bool .true),(.int 181 0),(.ref 201),.none,(.ref 202),(.ref 203),(.ref 204),(.int 643 0),(.int 118 0),(.str "/claim/cut.py" 644)])),(#[])⟩
noncomputable def hd.o266 (P : Params) : Obj := ⟨(.type "function"),.none,(.func ⟨"check_reading","check_reading",(defP (hd.s 27)),(.stmts (defB (hd.s 27))),(defS (hd.s 27)),3,[],.none,.none,.none,(.str "perlcore.piles" 403),.none,(.ref 205),.none,0⟩),(#[])⟩
noncomputable def hd.o267 (P : Params) : Obj := ⟨(.type "tuple"),.none,(.seq (#[]) 0),(#[])⟩
noncomputable def hd.o268 (P : Params) : Obj := ⟨.none,.none,(.fields (#[])),(#[])⟩
noncomputable def hd.o269 (P : Params) : Obj := ⟨(.type "tuple"),.none,(.seq (List.toArray [(.str "run" 649),(.str "work" 650),(.str "frame" 651),(.str "kept" 652)]) 0),(#[])⟩
noncomputable def hd.o270 (P : Params) : Obj := ⟨(.type "tuple"),.none,(.seq (#[]) 0),(#[])⟩
noncomputable def hd.o271 (P : Params) : Obj := ⟨.none,.none,(.func ⟨"piled_beside","piled_beside",(defP (hd.s 28)),(.stmts (defB (hd.s 28))),(defS (hd.s 28)),0,[],.none,.none,.none,.none,.none,.none,.none,0⟩),(#[])⟩
noncomputable def hd.o272 (P : Params) : Obj := ⟨(.type "code"),.none,(.fields (List.toArray [(.str "piled_beside" 646),(.str "piled_beside" 647),(.str "/claim/cut.py" 648),(.int 121 0),(.int 2 0),(.int 0 0),(.int 0 0),(.int 3 0),(.ref 207),(.bool .true),(.int 181 0),(.ref 208),.none,(.ref 209),(.ref 210),(.ref 211),(.int 653 0),(.int 121 0),(.str "/claim/cut.py" 654)])),(#[])⟩
noncomputable def hd.o273 (P : Params) : Obj := ⟨(.type "function"),.none,(.func ⟨"piled_beside","piled_beside",(defP (hd.s 28)),(.stmts (defB (hd.s 28))),(defS (hd.s 28)),3,[],.none,.none,.none,(.str "perlcore.piles" 403),.none,(.ref 212),.none,0⟩),(#[])⟩
noncomputable def hd.o274 (P : Params) : Obj := ⟨(.type "dict"),.none,(.dict (List.toArray [⟨(PyData.keyHash P "__name__"),(.str "__name__" 165),(.str "perlcore.values" 656)⟩,⟨(PyData.keyHash P "__doc__"),(.str "__doc__" 166),.none⟩,⟨(PyData.keyHash P "__package__"),(.str "__package__" 167),.none⟩,⟨(PyData.keyHash P "__loader__"),(.str "__loader__" 168),(.builtin "__main__.__loader__#opaque")⟩,⟨(PyData.keyHash P "__spec__"),(.str "__spec__" 169),.none⟩,⟨(PyData.keyHash P "__annotations__"),(.str "__annotations__" 170),(.ref 6)⟩,⟨(PyData.keyHash P "__builtins__"),(.str "__builtins__" 171),(.ref 4)⟩,⟨(PyData.keyHash P "__file__"),(.str "__file__" 173),(.str "/claim/cut.py" 172)⟩,⟨(PyData.keyHash P "__cached__"),(.str "__cached__" 174),.none⟩,⟨(PyData.keyHash P "PerlError"),(.str "PerlError" 217),(.ref 31)⟩,⟨(PyData.keyHash P "Die"),(.str "Die" 242),(.ref 51)⟩,⟨(PyData.keyHash P "Frame"),(.str "Frame" 283),(.ref 70)⟩,⟨(PyData.keyHash P "Run"),(.str "Run" 333),(.ref 91)⟩,⟨(PyData.keyHash P "OpsCode"),(.str "OpsCode" 372),(.ref 112)⟩,⟨(PyData.keyHash P "WeighedCode"),(.str "WeighedCode" 402),(.ref 133)⟩,⟨(PyData.keyHash P "MOST_PILED"),(.str "MOST_PILED" 406),(.int 880 405)⟩,⟨(PyData.keyHash P "CALL_COST"),(.str "CALL_COST" 408),(.int 4 407)⟩,⟨(PyData.keyHash P "LEAF_COST"),(.str "LEAF_COST" 410),(.int 10 409)⟩,⟨(PyData.keyHash P "BESIDE_COST"),(.str "BESIDE_COST" 412),(.int 8 411)⟩,⟨(PyData.keyHash P "SIGN_COST"),(.str "SIGN_COST" 414),(.int 5 413)⟩,⟨(PyData.keyHash P "READING_COST"),(.str "READING_COST" 416),(.int 500 415)⟩,⟨(PyData.keyHash P "WEIGHTS"),(.str "WEIGHTS" 537),(.ref 136)⟩,⟨(PyData.keyHash P "OTHER_WEIGHT"),(.str "OTHER_WEIGHT" 539),(.int 4 538)⟩,⟨(PyData.keyHash P "CALLING"),(.str "CALLING" 552),(.ref 139)⟩,⟨(PyData.keyHash P "UNTOLD"),(.str "UNTOLD" 555),(.ref 140)⟩,⟨(PyData.keyHash P "CallFrame"),(.str "CallFrame" 587),(.ref 157)⟩,⟨(PyData.keyHash P "tree_weights"),(.str "tree_weights" 593),(.ref 164)⟩,⟨(PyData.keyHash P "code_weights"),(.str "code_weights" 600),(.ref 171)⟩,⟨(PyData.keyHash P "weights_seen"),(.str "weights_seen" 608),(.ref 178)⟩,⟨(PyData.keyHash P "piled_behind"),(.str "piled_behind" 615),(.ref 185)⟩,⟨(PyData.keyHash P "check_pile"),(.str "check_pile" 624),(.ref 192)⟩,⟨(PyData.keyHash P "called_frame"),(.str "called_frame" 637),(.ref 199)⟩,⟨(PyData.keyHash P "check_reading"),(.str "check_reading" 645),(.ref 206)⟩,⟨(PyData.keyHash P "piled_beside"),(.str "piled_beside" 655),(.ref 213)⟩,⟨(PyData.keyHash P "Thing"),(.str "Thing" 691),(.ref 230)⟩]) 35),(#[])⟩
noncomputable def hd.o275 (P : Params) : Obj := ⟨.none,.none,(.fields (List.toArray [(.int 2 0),(.int 0 0),(.ref 20),(.int 7 0),(.int 0 0),(.ref 40),(.int 13 0),(.int 0 0),(.ref 59),(.int 22 0),(.int 0 0),(.ref 80),(.int 45 0),(.int 0 0),(.ref 101),(.int 53 0),(.int 0 0),(.ref 122),(.int 69 0),(.int 0 0),(.ref 146),(.int 76 0),(.int 0 0),(.ref 163),(.int 92 0),(.int 0 0),(.ref 170),(.int 96 0),(.int 0 0),(.ref 177),(.int 102 0),(.int 0 0),(.ref 184),(.int 106 0),(.int 0 0),(.ref 191),(.int 110 0),(.int 0 0),(.ref 198),(.int 118 0),(.int 0 0),(.ref 205),(.int 121 0),(.int 0 0),(.ref 212),(.int 132 0),(.int 0 0),(.ref 219)])),(#[])⟩
noncomputable def hd.o276 (P : Params) : Obj := ⟨(.type "tuple"),.none,(.seq (#[]) 0),(#[])⟩
noncomputable def hd.o277 (P : Params) : Obj := ⟨(.type "builtin_function_or_method"),.none,(.fields (List.toArray [(.builtin "type.__prepare__"),(.type "type")])),(#[])⟩
noncomputable def hd.o278 (P : Params) : Obj := ⟨(.type "dict"),.none,(.dict (List.toArray [⟨(PyData.keyHash P "__module__"),(.str "__module__" 665),(.str "perlcore.values" 656)⟩,⟨(PyData.keyHash P "__qualname__"),(.str "__qualname__" 667),(.str "Thing" 666)⟩,⟨(PyData.keyHash P "__firstlineno__"),(.str "__firstlineno__" 669),(.int 132 668)⟩,⟨(PyData.keyHash P "__init__"),(.str "__init__" 677),(.ref 227)⟩,⟨(PyData.keyHash P "__static_attributes__"),(.str "__static_attributes__" 684),(.ref 228)⟩]) 5),(#[])⟩
noncomputable def hd.o279 (P : Params) : Obj := ⟨(.type "tuple"),.none,(.seq (#[]) 0),(#[])⟩
noncomputable def hd.o280 (P : Params) : Obj := ⟨.none,.none,(.fields (List.toArray [(.int 134 0),(.int 4 0),(.ref 226)])),(#[])⟩
noncomputable def hd.o281 (P : Params) : Obj := ⟨(.type "code"),.none,(.fields (List.toArray [(.str "Thing" 660),(.str "Thing" 661),(.str "/claim/cut.py" 662),(.int 132 0),(.int 0 0),(.int 0 0),(.int 0 0),(.int 0 0),(.ref 217),(.bool .false),(.int 181 0),(.ref 218),.none,.none,.none,.none,(.int 663 0),(.int 132 0),(.str "/claim/cut.py" 664)])),(#[])⟩
noncomputable def hd.o282 (P : Params) : Obj := ⟨(.type "frame"),.none,.plain,(List.toArray [(.some (.ref 219)),(.some (.ref 3)),(.some (.ref 216)),.none,(.some (.str "perlcore.values" 656)),.none,(.some (.ref 0))])⟩
noncomputable def hd.o283 (P : Params) : Obj := ⟨(.type "tuple"),.none,(.seq (#[]) 0),(#[])⟩
noncomputable def hd.o284 (P : Params) : Obj := ⟨.none,.none,(.fields (#[])),(#[])⟩
noncomputable def hd.o285 (P : Params) : Obj := ⟨(.type "tuple"),.none,(.seq (List.toArray [(.str "self" 673),(.str "number" 674)]) 0),(#[])⟩
noncomputable def hd.o286 (P : Params) : Obj := ⟨(.type "tuple"),.none,(.seq (#[]) 0),(#[])⟩
noncomputable def hd.o287 (P : Params) : Obj := ⟨.none,.none,(.func ⟨"__init__","Thing.__init__",(defP (hd.m 30)),(.stmts (defB (hd.m 30))),(defS (hd.m 30)),0,[],.none,.none,.none,.none,.none,.none,.none,0⟩),(#[])⟩
noncomputable def hd.o288 (P : Params) : Obj := ⟨(.type "code"),.none,(.fields (List.toArray [(.str "__init__" 670),(.str "Thing.__init__" 671),(.str "/claim/cut.py" 672),(.int 134 0),(.int 2 0),(.int 0 0),(.int 0 0),(.int 3 0),(.ref 221),(.bool .true),(.int 181 0),(.ref 222),.none,(.ref 223),(.ref 224),(.ref 225),(.int 675 0),(.int 134 0),(.str "/claim/cut.py" 676)])),(#[])⟩
noncomputable def hd.o289 (P : Params) : Obj := ⟨(.type "function"),.none,(.func ⟨"__init__","Thing.__init__",(defP (hd.m 30)),(.stmts (defB (hd.m 30))),(defS (hd.m 30)),3,[],.none,.none,.none,(.str "perlcore.values" 656),.none,(.ref 226),.none,0⟩),(#[])⟩
noncomputable def hd.o290 (P : Params) : Obj := ⟨(.type "tuple"),.none,(.seq (List.toArray [(.str "blessed" 678),(.str "count" 679),(.str "is_destroyed" 680),(.str "is_freed" 681),(.str "number" 682),(.str "weak" 683)]) 0),(#[])⟩
noncomputable def hd.o291 (P : Params) : Obj := ⟨(.type "dict"),.none,(.dict (List.toArray [⟨(PyData.keyHash P "__module__"),(.str "__module__" 665),(.str "perlcore.values" 656)⟩,⟨(PyData.keyHash P "__firstlineno__"),(.str "__firstlineno__" 669),(.int 132 668)⟩,⟨(PyData.keyHash P "__init__"),(.str "__init__" 677),(.ref 227)⟩,⟨(PyData.keyHash P "__static_attributes__"),(.str "__static_attributes__" 684),(.ref 228)⟩,⟨(PyData.keyHash P "__dict__"),(.str "__dict__" 686),(.ref 231)⟩,⟨(PyData.keyHash P "__weakref__"),(.str "__weakref__" 688),(.ref 232)⟩,⟨(PyData.keyHash P "__doc__"),(.str "__doc__" 689),.none⟩]) 4),(#[])⟩
noncomputable def hd.o292 (P : Params) : Obj := ⟨(.type "type"),.none,(.cls ⟨"Thing",[(.type "object")],[(.ref 230),(.type "object")],229,"Thing",.true,[],[],.false,.none,.false⟩),(List.toArray [.none,.none,(.some (.str "Thing" 658)),(.some (.str "Thing" 666)),(.some (.builtin "object.__new__")),(.some (.bool .true))])⟩
noncomputable def hd.o293 (P : Params) : Obj := ⟨(.type "getset_descriptor"),.none,(.fields (List.toArray [(.str "__dict__" 685),(.ref 230),(.builtin "function.__dict__"),(.builtin "function.__dict__#set")])),(#[])⟩
noncomputable def hd.o294 (P : Params) : Obj := ⟨(.type "getset_descriptor"),.none,(.fields (List.toArray [(.str "__weakref__" 687),(.ref 230),(.builtin "ExceptionGroup.__weakref__"),.none])),(#[])⟩
noncomputable def hd.o295 (P : Params) : Obj := ⟨(.type "super"),.none,(.fields (List.toArray [(.ref 230),(.ref 230),(.ref 230)])),(#[])⟩
noncomputable def hd.o296 (P : Params) : Obj := ⟨(.type "builtin_function_or_method"),.none,(.fields (List.toArray [(.builtin "object.__init_subclass__"),(.ref 230)])),(#[])⟩
noncomputable def hd.o297 (P : Params) : Obj := ⟨(.type "dict"),.none,(.dict (List.toArray [⟨(PyData.keyHash P "__name__"),(.str "__name__" 165),(.str "law_qz0087_01" 722)⟩,⟨(PyData.keyHash P "__doc__"),(.str "__doc__" 166),.none⟩,⟨(PyData.keyHash P "__package__"),(.str "__package__" 167),.none⟩,⟨(PyData.keyHash P "__loader__"),(.str "__loader__" 168),(.builtin "__main__.__loader__#opaque")⟩,⟨(PyData.keyHash P "__spec__"),(.str "__spec__" 169),.none⟩,⟨(PyData.keyHash P "__annotations__"),(.str "__annotations__" 170),(.ref 6)⟩,⟨(PyData.keyHash P "__builtins__"),(.str "__builtins__" 171),(.ref 4)⟩,⟨(PyData.keyHash P "__file__"),(.str "__file__" 173),(.str "/claim/cut.py" 172)⟩,⟨(PyData.keyHash P "__cached__"),(.str "__cached__" 174),.none⟩,⟨(PyData.keyHash P "PerlError"),(.str "PerlError" 217),(.ref 31)⟩,⟨(PyData.keyHash P "Die"),(.str "Die" 242),(.ref 51)⟩,⟨(PyData.keyHash P "Frame"),(.str "Frame" 283),(.ref 70)⟩,⟨(PyData.keyHash P "Run"),(.str "Run" 333),(.ref 91)⟩,⟨(PyData.keyHash P "OpsCode"),(.str "OpsCode" 372),(.ref 112)⟩,⟨(PyData.keyHash P "WeighedCode"),(.str "WeighedCode" 402),(.ref 133)⟩,⟨(PyData.keyHash P "MOST_PILED"),(.str "MOST_PILED" 406),(.int 880 405)⟩,⟨(PyData.keyHash P "CALL_COST"),(.str "CALL_COST" 408),(.int 4 407)⟩,⟨(PyData.keyHash P "LEAF_COST"),(.str "LEAF_COST" 410),(.int 10 409)⟩,⟨(PyData.keyHash P "BESIDE_COST"),(.str "BESIDE_COST" 412),(.int 8 411)⟩,⟨(PyData.keyHash P "SIGN_COST"),(.str "SIGN_COST" 414),(.int 5 413)⟩,⟨(PyData.keyHash P "READING_COST"),(.str "READING_COST" 416),(.int 500 415)⟩,⟨(PyData.keyHash P "WEIGHTS"),(.str "WEIGHTS" 537),(.ref 136)⟩,⟨(PyData.keyHash P "OTHER_WEIGHT"),(.str "OTHER_WEIGHT" 539),(.int 4 538)⟩,⟨(PyData.keyHash P "CALLING"),(.str "CALLING" 552),(.ref 139)⟩,⟨(PyData.keyHash P "UNTOLD"),(.str "UNTOLD" 555),(.ref 140)⟩,⟨(PyData.keyHash P "CallFrame"),(.str "CallFrame" 587),(.ref 157)⟩,⟨(PyData.keyHash P "tree_weights"),(.str "tree_weights" 593),(.ref 164)⟩,⟨(PyData.keyHash P "code_weights"),(.str "code_weights" 600),(.ref 171)⟩,⟨(PyData.keyHash P "weights_seen"),(.str "weights_seen" 608),(.ref 178)⟩,⟨(PyData.keyHash P "piled_behind"),(.str "piled_behind" 615),(.ref 185)⟩,⟨(PyData.keyHash P "check_pile"),(.str "check_pile" 624),(.ref 192)⟩,⟨(PyData.keyHash P "called_frame"),(.str "called_frame" 637),(.ref 199)⟩,⟨(PyData.keyHash P "check_reading"),(.str "check_reading" 645),(.ref 206)⟩,⟨(PyData.keyHash P "piled_beside"),(.str "piled_beside" 655),(.ref 213)⟩,⟨(PyData.keyHash P "Thing"),(.str "Thing" 691),(.ref 230)⟩,⟨(PyData.keyHash P "Code"),(.str "Code" 721),(.ref 251)⟩,⟨(PyData.keyHash P "_law_words"),(.str "_law_words" 738),(.ref 254)⟩,⟨(PyData.keyHash P "_law_toss"),(.str "_law_toss" 746),(.ref 261)⟩,⟨(PyData.keyHash P "_law_tree"),(.str "_law_tree" 752),(.ref 266)⟩,⟨(PyData.keyHash P "_law_block"),(.str "_law_block" 758),(.ref 271)⟩,⟨(PyData.keyHash P "_law_weights"),(.str "_law_weights" 764),(.ref 276)⟩]) 41),(#[])⟩
noncomputable def hd.o298 (P : Params) : Obj := ⟨.none,.none,(.fields (List.toArray [(.int 2 0),(.int 0 0),(.ref 20),(.int 7 0),(.int 0 0),(.ref 40),(.int 13 0),(.int 0 0),(.ref 59),(.int 22 0),(.int 0 0),(.ref 80),(.int 45 0),(.int 0 0),(.ref 101),(.int 53 0),(.int 0 0),(.ref 122),(.int 69 0),(.int 0 0),(.ref 146),(.int 76 0),(.int 0 0),(.ref 163),(.int 92 0),(.int 0 0),(.ref 170),(.int 96 0),(.int 0 0),(.ref 177),(.int 102 0),(.int 0 0),(.ref 184),(.int 106 0),(.int 0 0),(.ref 191),(.int 110 0),(.int 0 0),(.ref 198),(.int 118 0),(.int 0 0),(.ref 205),(.int 121 0),(.int 0 0),(.ref 212),(.int 132 0),(.int 0 0),(.ref 219),(.int 141 0),(.int 0 0),(.ref 240),(.int 151 0),(.int 0 0),(.ref 260),(.int 156 0),(.int 0 0),(.ref 265),(.int 167 0),(.int 0 0),(.ref 270),(.int 170 0),(.int 0 0),(.ref 275)])),(#[])⟩
noncomputable def hd.o299 (P : Params) : Obj := ⟨(.type "type"),.none,(.cls ⟨"Thing",[(.type "object")],[(.ref 230),(.type "object")],229,"Thing",.true,[],[(.ref 251)],.false,.none,.false⟩),(List.toArray [.none,.none,(.some (.str "Thing" 658)),(.some (.str "Thing" 666)),(.some (.builtin "object.__new__")),(.some (.bool .true))])⟩
noncomputable def hd.o300 (P : Params) : Obj := ⟨(.type "tuple"),.none,(.seq (List.toArray [(.ref 230)]) 0),(#[])⟩
noncomputable def hd.o301 (P : Params) : Obj := ⟨(.type "builtin_function_or_method"),.none,(.fields (List.toArray [(.builtin "type.__prepare__"),(.type "type")])),(#[])⟩
noncomputable def hd.o302 (P : Params) : Obj := ⟨(.type "dict"),.none,(.dict (List.toArray [⟨(PyData.keyHash P "__module__"),(.str "__module__" 699),(.str "perlcore.values" 656)⟩,⟨(PyData.keyHash P "__qualname__"),(.str "__qualname__" 701),(.str "Code" 700)⟩,⟨(PyData.keyHash P "__firstlineno__"),(.str "__firstlineno__" 703),(.int 141 702)⟩,⟨(PyData.keyHash P "__init__"),(.str "__init__" 713),(.ref 248)⟩,⟨(PyData.keyHash P "__static_attributes__"),(.str "__static_attributes__" 718),(.ref 249)⟩]) 5),(#[])⟩
noncomputable def hd.o303 (P : Params) : Obj := ⟨(.type "tuple"),.none,(.seq (#[]) 0),(#[])⟩
noncomputable def hd.o304 (P : Params) : Obj := ⟨.none,.none,(.fields (List.toArray [(.int 143 0),(.int 4 0),(.ref 247)])),(#[])⟩
noncomputable def hd.o305 (P : Params) : Obj := ⟨(.type "code"),.none,(.fields (List.toArray [(.str "Code" 694),(.str "Code" 695),(.str "/claim/cut.py" 696),(.int 141 0),(.int 0 0),(.int 0 0),(.int 0 0),(.int 0 0),(.ref 238),(.bool .false),(.int 181 0),(.ref 239),.none,.none,.none,.none,(.int 697 0),(.int 141 0),(.str "/claim/cut.py" 698)])),(#[])⟩
noncomputable def hd.o306 (P : Params) : Obj := ⟨(.type "frame"),.none,.plain,(List.toArray [(.some (.ref 240)),(.some (.ref 3)),(.some (.ref 237)),.none,(.some (.str "perlcore.values" 656)),.none,(.some (.ref 0))])⟩
noncomputable def hd.o307 (P : Params) : Obj := ⟨(.type "tuple"),.none,(.seq (#[]) 0),(#[])⟩
noncomputable def hd.o308 (P : Params) : Obj := ⟨.none,.none,(.fields (#[])),(#[])⟩
noncomputable def hd.o309 (P : Params) : Obj := ⟨(.type "tuple"),.none,(.seq (List.toArray [(.str "self" 707),(.str "number" 708),(.str "sub" 709),(.str "captures" 710)]) 0),(#[])⟩
noncomputable def hd.o310 (P : Params) : Obj := ⟨(.type "tuple"),.none,(.seq (#[]) 0),(#[])⟩
noncomputable def hd.o311 (P : Params) : Obj := ⟨.none,.none,(.func ⟨"__init__","Code.__init__",(defP (hd.m 31)),(.stmts (defB (hd.m 31))),(defS (hd.m 31)),0,[],.none,.none,.none,.none,.none,.none,.none,0⟩),(#[])⟩
noncomputable def hd.o312 (P : Params) : Obj := ⟨(.type "code"),.none,(.fields (List.toArray [(.str "__init__" 704),(.str "Code.__init__" 705),(.str "/claim/cut.py" 706),(.int 143 0),(.int 4 0),(.int 0 0),(.int 0 0),(.int 3 0),(.ref 242),(.bool .true),(.int 181 0),(.ref 243),.none,(.ref 244),(.ref 245),(.ref 246),(.int 711 0),(.int 143 0),(.str "/claim/cut.py" 712)])),(#[])⟩
noncomputable def hd.o313 (P : Params) : Obj := ⟨(.type "function"),.none,(.func ⟨"__init__","Code.__init__",(defP (hd.m 31)),(.stmts (defB (hd.m 31))),(defS (hd.m 31)),3,[],.none,.none,.none,(.str "perlcore.values" 656),.none,(.ref 247),.none,0⟩),(#[])⟩
noncomputable def hd.o314 (P : Params) : Obj := ⟨(.type "tuple"),.none,(.seq (List.toArray [(.str "builtin" 714),(.str "captures" 715),(.str "package" 716),(.str "sub" 717)]) 0),(#[])⟩
noncomputable def hd.o315 (P : Params) : Obj := ⟨(.type "dict"),.none,(.dict (List.toArray [⟨(PyData.keyHash P "__module__"),(.str "__module__" 699),(.str "perlcore.values" 656)⟩,⟨(PyData.keyHash P "__firstlineno__"),(.str "__firstlineno__" 703),(.int 141 702)⟩,⟨(PyData.keyHash P "__init__"),(.str "__init__" 713),(.ref 248)⟩,⟨(PyData.keyHash P "__static_attributes__"),(.str "__static_attributes__" 718),(.ref 249)⟩,⟨(PyData.keyHash P "__doc__"),(.str "__doc__" 719),.none⟩]) 2),(#[])⟩
noncomputable def hd.o316 (P : Params) : Obj := ⟨(.type "type"),.none,(.cls ⟨"Code",[(.ref 230)],[(.ref 251),(.ref 230),(.type "object")],250,"Code",.true,[],[],.false,.none,.false⟩),(List.toArray [(.some (.ref 235)),.none,(.some (.str "Code" 692)),(.some (.str "Code" 700)),(.some (.builtin "object.__new__")),(.some (.bool .true))])⟩
noncomputable def hd.o317 (P : Params) : Obj := ⟨(.type "super"),.none,(.fields (List.toArray [(.ref 251),(.ref 251),(.ref 251)])),(#[])⟩
noncomputable def hd.o318 (P : Params) : Obj := ⟨(.type "builtin_function_or_method"),.none,(.fields (List.toArray [(.builtin "object.__init_subclass__"),(.ref 251)])),(#[])⟩
noncomputable def hd.o319 (P : Params) : Obj := ⟨(.type "tuple"),.none,(.seq (List.toArray [(.str "expr" 724),(.str "if" 725),(.str "bin" 726),(.str "list" 727),(.str "cond" 728),(.str "return" 729),(.str "func" 730),(.str "odd" 731),(.str "anonsub" 732),(.str "call" 733),(.str "method" 734),(.str "sort" 735),(.str "evalstr" 736),(.str "foreach" 737)]) 0),(#[])⟩
noncomputable def hd.o320 (P : Params) : Obj := ⟨(.type "tuple"),.none,(.seq (#[]) 0),(#[])⟩
noncomputable def hd.o321 (P : Params) : Obj := ⟨.none,.none,(.fields (#[])),(#[])⟩
noncomputable def hd.o322 (P : Params) : Obj := ⟨(.type "tuple"),.none,(.seq (List.toArray [(.str "cup" 742),(.str "many" 743)]) 0),(#[])⟩
noncomputable def hd.o323 (P : Params) : Obj := ⟨(.type "tuple"),.none,(.seq (#[]) 0),(#[])⟩
noncomputable def hd.o324 (P : Params) : Obj := ⟨.none,.none,(.func ⟨"_law_toss","_law_toss",(defP (hd.s 34)),(.stmts (defB (hd.s 34))),(defS (hd.s 34)),0,[],.none,.none,.none,.none,.none,.none,.none,0⟩),(#[])⟩
noncomputable def hd.o325 (P : Params) : Obj := ⟨(.type "code"),.none,(.fields (List.toArray [(.str "_law_toss" 739),(.str "_law_toss" 740),(.str "/claim/cut.py" 741),(.int 151 0),(.int 2 0),(.int 0 0),(.int 0 0),(.int 3 0),(.ref 255),(.bool .true),(.int 181 0),(.ref 256),.none,(.ref 257),(.ref 258),(.ref 259),(.int 744 0),(.int 151 0),(.str "/claim/cut.py" 745)])),(#[])⟩
noncomputable def hd.o326 (P : Params) : Obj := ⟨(.type "function"),.none,(.func ⟨"_law_toss","_law_toss",(defP (hd.s 34)),(.stmts (defB (hd.s 34))),(defS (hd.s 34)),3,[],.none,.none,.none,(.str "law_qz0087_01" 722),.none,(.ref 260),.none,0⟩),(#[])⟩
noncomputable def hd.o327 (P : Params) : Obj := ⟨(.type "tuple"),.none,(.seq (#[]) 0),(#[])⟩
noncomputable def hd.o328 (P : Params) : Obj := ⟨.none,.none,(.fields (#[])),(#[])⟩
noncomputable def hd.o329 (P : Params) : Obj := ⟨.none,.none,(.func ⟨"_law_tree","_law_tree",(defP (hd.s 35)),(.stmts (defB (hd.s 35))),(defS (hd.s 35)),0,[],.none,.none,.none,.none,.none,.none,.none,0⟩),(#[])⟩
noncomputable def hd.o330 (P : Params) : Obj := ⟨(.type "code"),.none,(.fields (List.toArray [(.str "_law_tree" 747),(.str "_law_tree" 748),(.str "/claim/cut.py" 749),(.int 156 0),(.int 2 0),(.int 0 0),(.int 0 0),(.int 3 0),(.ref 262),(.bool .true),(.int 181 0),(.ref 263),.none,.none,.none,(.ref 264),(.int 750 0),(.int 156 0),(.str "/claim/cut.py" 751)])),(#[])⟩
noncomputable def hd.o331 (P : Params) : Obj := ⟨(.type "function"),.none,(.func ⟨"_law_tree","_law_tree",(defP (hd.s 35)),(.stmts (defB (hd.s 35))),(defS (hd.s 35)),3,[],.none,.none,.none,(.str "law_qz0087_01" 722),.none,(.ref 265),.none,0⟩),(#[])⟩
noncomputable def hd.o332 (P : Params) : Obj := ⟨(.type "tuple"),.none,(.seq (#[]) 0),(#[])⟩
noncomputable def hd.o333 (P : Params) : Obj := ⟨.none,.none,(.fields (#[])),(#[])⟩
noncomputable def hd.o334 (P : Params) : Obj := ⟨.none,.none,(.func ⟨"_law_block","_law_block",(defP (hd.s 36)),(.stmts (defB (hd.s 36))),(defS (hd.s 36)),0,[],.none,.none,.none,.none,.none,.none,.none,0⟩),(#[])⟩
noncomputable def hd.o335 (P : Params) : Obj := ⟨(.type "code"),.none,(.fields (List.toArray [(.str "_law_block" 753),(.str "_law_block" 754),(.str "/claim/cut.py" 755),(.int 167 0),(.int 1 0),(.int 0 0),(.int 0 0),(.int 3 0),(.ref 267),(.bool .true),(.int 181 0),(.ref 268),.none,.none,.none,(.ref 269),(.int 756 0),(.int 167 0),(.str "/claim/cut.py" 757)])),(#[])⟩
noncomputable def hd.o336 (P : Params) : Obj := ⟨(.type "function"),.none,(.func ⟨"_law_block","_law_block",(defP (hd.s 36)),(.stmts (defB (hd.s 36))),(defS (hd.s 36)),3,[],.none,.none,.none,(.str "law_qz0087_01" 722),.none,(.ref 270),.none,0⟩),(#[])⟩
noncomputable def hd.o337 (P : Params) : Obj := ⟨(.type "tuple"),.none,(.seq (#[]) 0),(#[])⟩
noncomputable def hd.o338 (P : Params) : Obj := ⟨.none,.none,(.fields (#[])),(#[])⟩
noncomputable def hd.o339 (P : Params) : Obj := ⟨.none,.none,(.func ⟨"_law_weights","_law_weights",(defP (hd.s 37)),(.stmts (defB (hd.s 37))),(defS (hd.s 37)),0,[],.none,.none,.none,.none,.none,.none,.none,0⟩),(#[])⟩
noncomputable def hd.o340 (P : Params) : Obj := ⟨(.type "code"),.none,(.fields (List.toArray [(.str "_law_weights" 759),(.str "_law_weights" 760),(.str "/claim/cut.py" 761),(.int 170 0),(.int 1 0),(.int 0 0),(.int 0 0),(.int 3 0),(.ref 272),(.bool .true),(.int 181 0),(.ref 273),.none,.none,.none,(.ref 274),(.int 762 0),(.int 170 0),(.str "/claim/cut.py" 763)])),(#[])⟩
noncomputable def hd.o341 (P : Params) : Obj := ⟨(.type "function"),.none,(.func ⟨"_law_weights","_law_weights",(defP (hd.s 37)),(.stmts (defB (hd.s 37))),(defS (hd.s 37)),3,[],.none,.none,.none,(.str "law_qz0087_01" 722),.none,(.ref 275),.none,0⟩),(#[])⟩
noncomputable def hd.o342 (P : Params) : Obj := ⟨(.type "dict"),.none,(.dict (List.toArray [⟨(PyData.keyHash P "__name__"),(.str "__name__" 165),(.str "law_qz0087_01" 722)⟩,⟨(PyData.keyHash P "__doc__"),(.str "__doc__" 166),.none⟩,⟨(PyData.keyHash P "__package__"),(.str "__package__" 167),.none⟩,⟨(PyData.keyHash P "__loader__"),(.str "__loader__" 168),(.builtin "__main__.__loader__#opaque")⟩,⟨(PyData.keyHash P "__spec__"),(.str "__spec__" 169),.none⟩,⟨(PyData.keyHash P "__annotations__"),(.str "__annotations__" 170),(.ref 6)⟩,⟨(PyData.keyHash P "__builtins__"),(.str "__builtins__" 171),(.ref 4)⟩,⟨(PyData.keyHash P "__file__"),(.str "__file__" 173),(.str "/claim/cut.py" 172)⟩,⟨(PyData.keyHash P "__cached__"),(.str "__cached__" 174),.none⟩,⟨(PyData.keyHash P "PerlError"),(.str "PerlError" 217),(.ref 31)⟩,⟨(PyData.keyHash P "Die"),(.str "Die" 242),(.ref 51)⟩,⟨(PyData.keyHash P "Frame"),(.str "Frame" 283),(.ref 70)⟩,⟨(PyData.keyHash P "Run"),(.str "Run" 333),(.ref 91)⟩,⟨(PyData.keyHash P "OpsCode"),(.str "OpsCode" 372),(.ref 112)⟩,⟨(PyData.keyHash P "WeighedCode"),(.str "WeighedCode" 402),(.ref 133)⟩,⟨(PyData.keyHash P "MOST_PILED"),(.str "MOST_PILED" 406),(.int 880 405)⟩,⟨(PyData.keyHash P "CALL_COST"),(.str "CALL_COST" 408),(.int 4 407)⟩,⟨(PyData.keyHash P "LEAF_COST"),(.str "LEAF_COST" 410),(.int 10 409)⟩,⟨(PyData.keyHash P "BESIDE_COST"),(.str "BESIDE_COST" 412),(.int 8 411)⟩,⟨(PyData.keyHash P "SIGN_COST"),(.str "SIGN_COST" 414),(.int 5 413)⟩,⟨(PyData.keyHash P "READING_COST"),(.str "READING_COST" 416),(.int 500 415)⟩,⟨(PyData.keyHash P "WEIGHTS"),(.str "WEIGHTS" 537),(.ref 136)⟩,⟨(PyData.keyHash P "OTHER_WEIGHT"),(.str "OTHER_WEIGHT" 539),(.int 4 538)⟩,⟨(PyData.keyHash P "CALLING"),(.str "CALLING" 552),(.ref 139)⟩,⟨(PyData.keyHash P "UNTOLD"),(.str "UNTOLD" 555),(.ref 140)⟩,⟨(PyData.keyHash P "CallFrame"),(.str "CallFrame" 587),(.ref 157)⟩,⟨(PyData.keyHash P "tree_weights"),(.str "tree_weights" 593),(.ref 164)⟩,⟨(PyData.keyHash P "code_weights"),(.str "code_weights" 600),(.ref 171)⟩,⟨(PyData.keyHash P "weights_seen"),(.str "weights_seen" 608),(.ref 178)⟩,⟨(PyData.keyHash P "piled_behind"),(.str "piled_behind" 615),(.ref 185)⟩,⟨(PyData.keyHash P "check_pile"),(.str "check_pile" 624),(.ref 192)⟩,⟨(PyData.keyHash P "called_frame"),(.str "called_frame" 637),(.ref 199)⟩,⟨(PyData.keyHash P "check_reading"),(.str "check_reading" 645),(.ref 206)⟩,⟨(PyData.keyHash P "piled_beside"),(.str "piled_beside" 655),(.ref 213)⟩,⟨(PyData.keyHash P "Thing"),(.str "Thing" 691),(.ref 230)⟩,⟨(PyData.keyHash P "Code"),(.str "Code" 721),(.ref 251)⟩,⟨(PyData.keyHash P "_law_words"),(.str "_law_words" 738),(.ref 254)⟩,⟨(PyData.keyHash P "_law_toss"),(.str "_law_toss" 746),(.ref 261)⟩,⟨(PyData.keyHash P "_law_tree"),(.str "_law_tree" 752),(.ref 266)⟩,⟨(PyData.keyHash P "_law_block"),(.str "_law_block" 758),(.ref 271)⟩,⟨(PyData.keyHash P "_law_weights"),(.str "_law_weights" 764),(.ref 276)⟩,⟨(PyData.keyHash P "_law_of_block"),(.str "_law_of_block" 773),(.ref 283)⟩,⟨(PyData.keyHash P "_law_died"),(.str "_law_died" 781),(.ref 290)⟩,⟨(PyData.keyHash P "law"),(.str "law" 787),(.ref 295)⟩]) 44),(#[])⟩
noncomputable def hd.o343 (P : Params) : Obj := ⟨.none,.none,(.fields (List.toArray [(.int 2 0),(.int 0 0),(.ref 20),(.int 7 0),(.int 0 0),(.ref 40),(.int 13 0),(.int 0 0),(.ref 59),(.int 22 0),(.int 0 0),(.ref 80),(.int 45 0),(.int 0 0),(.ref 101),(.int 53 0),(.int 0 0),(.ref 122),(.int 69 0),(.int 0 0),(.ref 146),(.int 76 0),(.int 0 0),(.ref 163),(.int 92 0),(.int 0 0),(.ref 170),(.int 96 0),(.int 0 0),(.ref 177),(.int 102 0),(.int 0 0),(.ref 184),(.int 106 0),(.int 0 0),(.ref 191),(.int 110 0),(.int 0 0),(.ref 198),(.int 118 0),(.int 0 0),(.ref 205),(.int 121 0),(.int 0 0),(.ref 212),(.int 132 0),(.int 0 0),(.ref 219),(.int 141 0),(.int 0 0),(.ref 240),(.int 151 0),(.int 0 0),(.ref 260),(.int 156 0),(.int 0 0),(.ref 265),(.int 167 0),(.int 0 0),(.ref 270),(.int 170 0),(.int 0 0),(.ref 275),(.int 182 0),(.int 0 0),(.ref 282),(.int 185 0),(.int 0 0),(.ref 289),(.int 191 0),(.int 0 0),(.ref 294)])),(#[])⟩
noncomputable def hd.o344 (P : Params) : Obj := ⟨(.type "tuple"),.none,(.seq (#[]) 0),(#[])⟩
noncomputable def hd.o345 (P : Params) : Obj := ⟨.none,.none,(.fields (#[])),(#[])⟩
noncomputable def hd.o346 (P : Params) : Obj := ⟨(.type "tuple"),.none,(.seq (List.toArray [(.str "block" 768),(.str "about" 769),(.str "whole" 770)]) 0),(#[])⟩
noncomputable def hd.o347 (P : Params) : Obj := ⟨(.type "tuple"),.none,(.seq (#[]) 0),(#[])⟩
noncomputable def hd.o348 (P : Params) : Obj := ⟨.none,.none,(.func ⟨"_law_of_block","_law_of_block",(defP (hd.s 38)),(.stmts (defB (hd.s 38))),(defS (hd.s 38)),0,[],.none,.none,.none,.none,.none,.none,.none,0⟩),(#[])⟩
noncomputable def hd.o349 (P : Params) : Obj := ⟨(.type "code"),.none,(.fields (List.toArray [(.str "_law_of_block" 765),(.str "_law_of_block" 766),(.str "/claim/cut.py" 767),(.int 182 0),(.int 1 0),(.int 0 0),(.int 0 0),(.int 3 0),(.ref 277),(.bool .true),(.int 181 0),(.ref 278),.none,(.ref 279),(.ref 280),(.ref 281),(.int 771 0),(.int 182 0),(.str "/claim/cut.py" 772)])),(#[])⟩
noncomputable def hd.o350 (P : Params) : Obj := ⟨(.type "function"),.none,(.func ⟨"_law_of_block","_law_of_block",(defP (hd.s 38)),(.stmts (defB (hd.s 38))),(defS (hd.s 38)),3,[],.none,.none,.none,(.str "law_qz0087_01" 722),.none,(.ref 282),.none,0⟩),(#[])⟩
noncomputable def hd.o351 (P : Params) : Obj := ⟨(.type "tuple"),.none,(.seq (#[]) 0),(#[])⟩
noncomputable def hd.o352 (P : Params) : Obj := ⟨.none,.none,(.fields (#[])),(#[])⟩
noncomputable def hd.o353 (P : Params) : Obj := ⟨(.type "tuple"),.none,(.seq (List.toArray [(.str "work" 777),(.str "fault" 778)]) 0),(#[])⟩
noncomputable def hd.o354 (P : Params) : Obj := ⟨(.type "tuple"),.none,(.seq (#[]) 0),(#[])⟩
noncomputable def hd.o355 (P : Params) : Obj := ⟨.none,.none,(.func ⟨"_law_died","_law_died",(defP (hd.s 39)),(.stmts (defB (hd.s 39))),(defS (hd.s 39)),0,[],.none,.none,.none,.none,.none,.none,.none,0⟩),(#[])⟩
noncomputable def hd.o356 (P : Params) : Obj := ⟨(.type "code"),.none,(.fields (List.toArray [(.str "_law_died" 774),(.str "_law_died" 775),(.str "/claim/cut.py" 776),(.int 185 0),(.int 1 0),(.int 0 0),(.int 0 0),(.int 3 0),(.ref 284),(.bool .true),(.int 181 0),(.ref 285),.none,(.ref 286),(.ref 287),(.ref 288),(.int 779 0),(.int 185 0),(.str "/claim/cut.py" 780)])),(#[])⟩
noncomputable def hd.o357 (P : Params) : Obj := ⟨(.type "function"),.none,(.func ⟨"_law_died","_law_died",(defP (hd.s 39)),(.stmts (defB (hd.s 39))),(defS (hd.s 39)),3,[],.none,.none,.none,(.str "law_qz0087_01" 722),.none,(.ref 289),.none,0⟩),(#[])⟩
noncomputable def hd.o358 (P : Params) : Obj := ⟨(.type "tuple"),.none,(.seq (#[]) 0),(#[])⟩
noncomputable def hd.o359 (P : Params) : Obj := ⟨.none,.none,(.fields (#[])),(#[])⟩
noncomputable def hd.o360 (P : Params) : Obj := ⟨.none,.none,(.func ⟨"law","law",(defP (hd.s 40)),(.stmts (defB (hd.s 40))),(defS (hd.s 40)),0,[],.none,.none,.none,.none,.none,.none,.none,0⟩),(#[])⟩
noncomputable def hd.o361 (P : Params) : Obj := ⟨(.type "code"),.none,(.fields (List.toArray [(.str "law" 782),(.str "law" 783),(.str "/claim/cut.py" 784),(.int 191 0),(.int 1 0),(.int 0 0),(.int 0 0),(.int 3 0),(.ref 291),(.bool .true),(.int 181 0),(.ref 292),.none,.none,.none,(.ref 293),(.int 785 0),(.int 191 0),(.str "/claim/cut.py" 786)])),(#[])⟩
noncomputable def hd.o362 (P : Params) : Obj := ⟨(.type "function"),.none,(.func ⟨"law","law",(defP (hd.s 40)),(.stmts (defB (hd.s 40))),(defS (hd.s 40)),3,[],.none,.none,.none,(.str "law_qz0087_01" 722),.none,(.ref 294),.none,0⟩),(#[])⟩
noncomputable def hd.t47 (P : Params) : BT := (.node (boot_o_0 P) (.node (boot_o_1 P) (.node (boot_o_3 P) (.node (boot_o_7 P) .nil .nil) (.node (hd.o43 P) .nil .nil)) (.node (boot_o_5 P) (.node (boot_o_9 P) .nil .nil) (.node (hd.o45 P) .nil .nil))) (.node (boot_o_2 P) (.node (boot_o_4 P) (.node (boot_o_8 P) .nil .nil) (.node (hd.o44 P) .nil .nil)) (.node (boot_o_6 P) (.node (boot_o_10 P) .nil .nil) (.node (hd.o46 P) .nil .nil))))
noncomputable def hd.t71 (P : Params) : BT := (.node (boot_o_0 P) (.node (boot_o_1 P) (.node (hd.o50 P) (.node (boot_o_7 P) (.node (hd.o52 P) (.node (hd.o68 P) .nil .nil) .nil) (.node (hd.o60 P) .nil .nil)) (.node (hd.o43 P) (.node (hd.o56 P) .nil .nil) (.node (hd.o64 P) .nil .nil))) (.node (boot_o_5 P) (.node (boot_o_9 P) (.node (hd.o54 P) (.node (hd.o70 P) .nil .nil) .nil) (.node (hd.o62 P) .nil .nil)) (.node (hd.o45 P) (.node (hd.o58 P) .nil .nil) (.node (hd.o66 P) .nil .nil)))) (.node (hd.o49 P) (.node (boot_o_4 P) (.node (boot_o_8 P) (.node (hd.o53 P) (.node (hd.o69 P) .nil .nil) .nil) (.node (hd.o61 P) .nil .nil)) (.node (hd.o51 P) (.node (hd.o57 P) .nil .nil) (.node (hd.o65 P) .nil .nil))) (.node (boot_o_6 P) (.node (boot_o_10 P) (.node (hd.o55 P) (.node (hd.o71 P) .nil .nil) .nil) (.node (hd.o63 P) .nil .nil)) (.node (hd.o46 P) (.node (hd.o59 P) .nil .nil) (.node (hd.o67 P) .nil .nil)))))
noncomputable def hd.t93 (P : Params) : BT := (.node (boot_o_0 P) (.node (boot_o_1 P) (.node (hd.o72 P) (.node (boot_o_7 P) (.node (hd.o52 P) (.node (hd.o74 P) .nil .nil) (.node (hd.o87 P) .nil .nil)) (.node (hd.o60 P) (.node (hd.o79 P) .nil .nil) .nil)) (.node (hd.o43 P) (.node (hd.o56 P) (.node (hd.o75 P) .nil .nil) (.node (hd.o91 P) .nil .nil)) (.node (hd.o64 P) (.node (hd.o83 P) .nil .nil) .nil))) (.node (boot_o_5 P) (.node (boot_o_9 P) (.node (hd.o54 P) (.node (hd.o70 P) .nil .nil) (.node (hd.o89 P) .nil .nil)) (.node (hd.o62 P) (.node (hd.o81 P) .nil .nil) .nil)) (.node (hd.o45 P) (.node (hd.o58 P) (.node (hd.o77 P) .nil .nil) (.node (hd.o93 P) .nil .nil)) (.node (hd.o66 P) (.node (hd.o85 P) .nil .nil) .nil)))) (.node (hd.o49 P) (.node (boot_o_4 P) (.node (boot_o_8 P) (.node (hd.o53 P) (.node (hd.o69 P) .nil .nil) (.node (hd.o88 P) .nil .nil)) (.node (hd.o61 P) (.node (hd.o80 P) .nil .nil) .nil)) (.node (hd.o73 P) (.node (hd.o57 P) (.node (hd.o76 P) .nil .nil) (.node (hd.o92 P) .nil .nil)) (.node (hd.o65 P) (.node (hd.o84 P) .nil .nil) .nil))) (.node (boot_o_6 P) (.node (boot_o_10 P) (.node (hd.o55 P) (.node (hd.o71 P) .nil .nil) (.node (hd.o90 P) .nil .nil)) (.node (hd.o63 P) (.node (hd.o82 P) .nil .nil) .nil)) (.node (hd.o46 P) (.node (hd.o59 P) (.node (hd.o78 P) .nil .nil) .nil) (.node (hd.o67 P) (.node (hd.o86 P) .nil .nil) .nil)))))
noncomputable def hd.t116 (P : Params) : BT := (.node (boot_o_0 P) (.node (boot_o_1 P) (.node (hd.o94 P) (.node (boot_o_7 P) (.node (hd.o52 P) (.node (hd.o74 P) (.node (hd.o105 P) .nil .nil) .nil) (.node (hd.o87 P) .nil .nil)) (.node (hd.o60 P) (.node (hd.o79 P) (.node (hd.o113 P) .nil .nil) .nil) (.node (hd.o97 P) .nil .nil))) (.node (hd.o43 P) (.node (hd.o56 P) (.node (hd.o75 P) (.node (hd.o109 P) .nil .nil) .nil) (.node (hd.o91 P) .nil .nil)) (.node (hd.o64 P) (.node (hd.o83 P) .nil .nil) (.node (hd.o101 P) .nil .nil)))) (.node (boot_o_5 P) (.node (boot_o_9 P) (.node (hd.o54 P) (.node (hd.o70 P) (.node (hd.o107 P) .nil .nil) .nil) (.node (hd.o89 P) .nil .nil)) (.node (hd.o62 P) (.node (hd.o81 P) (.node (hd.o115 P) .nil .nil) .nil) (.node (hd.o99 P) .nil .nil))) (.node (hd.o45 P) (.node (hd.o58 P) (.node (hd.o77 P) (.node (hd.o111 P) .nil .nil) .nil) (.node (hd.o93 P) .nil .nil)) (.node (hd.o66 P) (.node (hd.o85 P) .nil .nil) (.node (hd.o103 P) .nil .nil))))) (.node (hd.o49 P) (.node (boot_o_4 P) (.node (boot_o_8 P) (.node (hd.o53 P) (.node (hd.o69 P) (.node (hd.o106 P) .nil .nil) .nil) (.node (hd.o88 P) .nil .nil)) (.node (hd.o61 P) (.node (hd.o80 P) (.node (hd.o114 P) .nil .nil) .nil) (.node (hd.o98 P) .nil .nil))) (.node (hd.o95 P) (.node (hd.o57 P) (.node (hd.o76 P) (.node (hd.o110 P) .nil .nil) .nil) (.node (hd.o92 P) .nil .nil)) (.node (hd.o65 P) (.node (hd.o84 P) .nil .nil) (.node (hd.o102 P) .nil .nil)))) (.node (boot_o_6 P) (.node (boot_o_10 P) (.node (hd.o55 P) (.node (hd.o71 P) (.node (hd.o108 P) .nil .nil) .nil) (.node (hd.o90 P) .nil .nil)) (.node (hd.o63 P) (.node (hd.o82 P) (.node (hd.o116 P) .nil .nil) .nil) (.node (hd.o100 P) .nil .nil))) (.node (hd.o46 P) (.node (hd.o59 P) (.node (hd.o78 P) (.node (hd.o112 P) .nil .nil) .nil) (.node (hd.o96 P) .nil .nil)) (.node (hd.o67 P) (.node (hd.o86 P) .nil .nil) (.node (hd.o104 P) .nil .nil))))))
noncomputable def hd.t139 (P : Params) : BT := (.node (boot_o_0 P) (.node (boot_o_1 P) (.node (hd.o117 P) (.node (boot_o_7 P) (.node (hd.o52 P) (.node (hd.o74 P) (.node (hd.o105 P) .nil .nil) (.node (hd.o139 P) .nil .nil)) (.node (hd.o87 P) (.node (hd.o123 P) .nil .nil) .nil)) (.node (hd.o60 P) (.node (hd.o79 P) (.node (hd.o113 P) .nil .nil) .nil) (.node (hd.o97 P) (.node (hd.o131 P) .nil .nil) .nil))) (.node (hd.o43 P) (.node (hd.o56 P) (.node (hd.o75 P) (.node (hd.o109 P) .nil .nil) .nil) (.node (hd.o91 P) (.node (hd.o127 P) .nil .nil) .nil)) (.node (hd.o64 P) (.node (hd.o83 P) (.node (hd.o119 P) .nil .nil) .nil) (.node (hd.o101 P) (.node (hd.o135 P) .nil .nil) .nil)))) (.node (boot_o_5 P) (.node (boot_o_9 P) (.node (hd.o54 P) (.node (hd.o70 P) (.node (hd.o107 P) .nil .nil) .nil) (.node (hd.o89 P) (.node (hd.o125 P) .nil .nil) .nil)) (.node (hd.o62 P) (.node (hd.o81 P) (.node (hd.o115 P) .nil .nil) .nil) (.node (hd.o99 P) (.node (hd.o133 P) .nil .nil) .nil))) (.node (hd.o45 P) (.node (hd.o58 P) (.node (hd.o77 P) (.node (hd.o111 P) .nil .nil) .nil) (.node (hd.o93 P) (.node (hd.o129 P) .nil .nil) .nil)) (.node (hd.o66 P) (.node (hd.o85 P) (.node (hd.o121 P) .nil .nil) .nil) (.node (hd.o103 P) (.node (hd.o137 P) .nil .nil) .nil))))) (.node (hd.o49 P) (.node (boot_o_4 P) (.node (boot_o_8 P) (.node (hd.o53 P) (.node (hd.o69 P) (.node (hd.o106 P) .nil .nil) .nil) (.node (hd.o88 P) (.node (hd.o124 P) .nil .nil) .nil)) (.node (hd.o61 P) (.node (hd.o80 P) (.node (hd.o114 P) .nil .nil) .nil) (.node (hd.o98 P) (.node (hd.o132 P) .nil .nil) .nil))) (.node (hd.o118 P) (.node (hd.o57 P) (.node (hd.o76 P) (.node (hd.o110 P) .nil .nil) .nil) (.node (hd.o92 P) (.node (hd.o128 P) .nil .nil) .nil)) (.node (hd.o65 P) (.node (hd.o84 P) (.node (hd.o120 P) .nil .nil) .nil) (.node (hd.o102 P) (.node (hd.o136 P) .nil .nil) .nil)))) (.node (boot_o_6 P) (.node (boot_o_10 P) (.node (hd.o55 P) (.node (hd.o71 P) (.node (hd.o108 P) .nil .nil) .nil) (.node (hd.o90 P) (.node (hd.o126 P) .nil .nil) .nil)) (.node (hd.o63 P) (.node (hd.o82 P) (.node (hd.o116 P) .nil .nil) .nil) (.node (hd.o100 P) (.node (hd.o134 P) .nil .nil) .nil))) (.node (hd.o46 P) (.node (hd.o59 P) (.node (hd.o78 P) (.node (hd.o112 P) .nil .nil) .nil) (.node (hd.o96 P) (.node (hd.o130 P) .nil .nil) .nil)) (.node (hd.o67 P) (.node (hd.o86 P) (.node (hd.o122 P) .nil .nil) .nil) (.node (hd.o104 P) (.node (hd.o138 P) .nil .nil) .nil))))))
noncomputable def hd.t162 (P : Params) : BT := (.node (boot_o_0 P) (.node (boot_o_1 P) (.node (hd.o140 P) (.node (boot_o_7 P) (.node (hd.o52 P) (.node (hd.o74 P) (.node (hd.o105 P) .nil .nil) (.node (hd.o139 P) .nil .nil)) (.node (hd.o87 P) (.node (hd.o123 P) .nil .nil) (.node (hd.o157 P) .nil .nil))) (.node (hd.o60 P) (.node (hd.o79 P) (.node (hd.o113 P) .nil .nil) (.node (hd.o149 P) .nil .nil)) (.node (hd.o97 P) (.node (hd.o131 P) .nil .nil) .nil))) (.node (hd.o43 P) (.node (hd.o56 P) (.node (hd.o75 P) (.node (hd.o109 P) .nil .nil) (.node (hd.o145 P) .nil .nil)) (.node (hd.o91 P) (.node (hd.o127 P) .nil .nil) (.node (hd.o161 P) .nil .nil))) (.node (hd.o64 P) (.node (hd.o83 P) (.node (hd.o119 P) .nil .nil) (.node (hd.o153 P) .nil .nil)) (.node (hd.o101 P) (.node (hd.o135 P) .nil .nil) .nil)))) (.node (boot_o_5 P) (.node (boot_o_9 P) (.node (hd.o54 P) (.node (hd.o70 P) (.node (hd.o107 P) .nil .nil) (.node (hd.o143 P) .nil .nil)) (.node (hd.o89 P) (.node (hd.o125 P) .nil .nil) (.node (hd.o159 P) .nil .nil))) (.node (hd.o62 P) (.node (hd.o81 P) (.node (hd.o115 P) .nil .nil) (.node (hd.o151 P) .nil .nil)) (.node (hd.o99 P) (.node (hd.o133 P) .nil .nil) .nil))) (.node (hd.o45 P) (.node (hd.o58 P) (.node (hd.o77 P) (.node (hd.o111 P) .nil .nil) (.node (hd.o147 P) .nil .nil)) (.node (hd.o93 P) (.node (hd.o129 P) .nil .nil) .nil)) (.node (hd.o66 P) (.node (hd.o85 P) (.node (hd.o121 P) .nil .nil) (.node (hd.o155 P) .nil .nil)) (.node (hd.o103 P) (.node (hd.o137 P) .nil .nil) .nil))))) (.node (hd.o49 P) (.node (boot_o_4 P) (.node (boot_o_8 P) (.node (hd.o53 P) (.node (hd.o69 P) (.node (hd.o106 P) .nil .nil) (.node (hd.o142 P) .nil .nil)) (.node (hd.o88 P) (.node (hd.o124 P) .nil .nil) (.node (hd.o158 P) .nil .nil))) (.node (hd.o61 P) (.node (hd.o80 P) (.node (hd.o114 P) .nil .nil) (.node (hd.o150 P) .nil .nil)) (.node (hd.o98 P) (.node (hd.o132 P) .nil .nil) .nil))) (.node (hd.o141 P) (.node (hd.o57 P) (.node (hd.o76 P) (.node (hd.o110 P) .nil .nil) (.node (hd.o146 P) .nil .nil)) (.node (hd.o92 P) (.node (hd.o128 P) .nil .nil) (.node (hd.o162 P) .nil .nil))) (.node (hd.o65 P) (.node (hd.o84 P) (.node (hd.o120 P) .nil .nil) (.node (hd.o154 P) .nil .nil)) (.node (hd.o102 P) (.node (hd.o136 P) .nil .nil) .nil)))) (.node (boot_o_6 P) (.node (boot_o_10 P) (.node (hd.o55 P) (.node (hd.o71 P) (.node (hd.o108 P) .nil .nil) (.node (hd.o144 P) .nil .nil)) (.node (hd.o90 P) (.node (hd.o126 P) .nil .nil) (.node (hd.o160 P) .nil .nil))) (.node (hd.o63 P) (.node (hd.o82 P) (.node (hd.o116 P) .nil .nil) (.node (hd.o152 P) .nil .nil)) (.node (hd.o100 P) (.node (hd.o134 P) .nil .nil) .nil))) (.node (hd.o46 P) (.node (hd.o59 P) (.node (hd.o78 P) (.node (hd.o112 P) .nil .nil) (.node (hd.o148 P) .nil .nil)) (.node (hd.o96 P) (.node (hd.o130 P) .nil .nil) .nil)) (.node (hd.o67 P) (.node (hd.o86 P) (.node (hd.o122 P) .nil .nil) (.node (hd.o156 P) .nil .nil)) (.node (hd.o104 P) (.node (hd.o138 P) .nil .nil) .nil))))))
noncomputable def hd.t184 (P : Params) : BT := (.node (boot_o_0 P) (.node (boot_o_1 P) (.node (hd.o163 P) (.node (boot_o_7 P) (.node (hd.o52 P) (.node (hd.o74 P) (.node (hd.o105 P) (.node (hd.o176 P) .nil .nil) .nil) (.node (hd.o139 P) .nil .nil)) (.node (hd.o87 P) (.node (hd.o123 P) .nil .nil) (.node (hd.o157 P) .nil .nil))) (.node (hd.o60 P) (.node (hd.o79 P) (.node (hd.o113 P) (.node (hd.o184 P) .nil .nil) .nil) (.node (hd.o149 P) .nil .nil)) (.node (hd.o97 P) (.node (hd.o131 P) .nil .nil) (.node (hd.o168 P) .nil .nil)))) (.node (hd.o43 P) (.node (hd.o56 P) (.node (hd.o75 P) (.node (hd.o109 P) (.node (hd.o180 P) .nil .nil) .nil) (.node (hd.o145 P) .nil .nil)) (.node (hd.o91 P) (.node (hd.o127 P) .nil .nil) (.node (hd.o161 P) .nil .nil))) (.node (hd.o64 P) (.node (hd.o83 P) (.node (hd.o119 P) .nil .nil) (.node (hd.o153 P) .nil .nil)) (.node (hd.o101 P) (.node (hd.o135 P) .nil .nil) (.node (hd.o172 P) .nil .nil))))) (.node (boot_o_5 P) (.node (boot_o_9 P) (.node (hd.o54 P) (.node (hd.o70 P) (.node (hd.o107 P) (.node (hd.o178 P) .nil .nil) .nil) (.node (hd.o143 P) .nil .nil)) (.node (hd.o89 P) (.node (hd.o125 P) .nil .nil) (.node (hd.o159 P) .nil .nil))) (.node (hd.o62 P) (.node (hd.o81 P) (.node (hd.o115 P) .nil .nil) (.node (hd.o151 P) .nil .nil)) (.node (hd.o99 P) (.node (hd.o133 P) .nil .nil) (.node (hd.o170 P) .nil .nil)))) (.node (hd.o45 P) (.node (hd.o58 P) (.node (hd.o77 P) (.node (hd.o111 P) (.node (hd.o182 P) .nil .nil) .nil) (.node (hd.o147 P) .nil .nil)) (.node (hd.o93 P) (.node (hd.o129 P) .nil .nil) (.node (hd.o166 P) .nil .nil))) (.node (hd.o66 P) (.node (hd.o85 P) (.node (hd.o121 P) .nil .nil) (.node (hd.o155 P) .nil .nil)) (.node (hd.o103 P) (.node (hd.o137 P) .nil .nil) (.node (hd.o174 P) .nil .nil)))))) (.node (hd.o49 P) (.node (boot_o_4 P) (.node (boot_o_8 P) (.node (hd.o53 P) (.node (hd.o69 P) (.node (hd.o106 P) (.node (hd.o177 P) .nil .nil) .nil) (.node (hd.o142 P) .nil .nil)) (.node (hd.o88 P) (.node (hd.o124 P) .nil .nil) (.node (hd.o165 P) .nil .nil))) (.node (hd.o61 P) (.node (hd.o80 P) (.node (hd.o114 P) .nil .nil) (.node (hd.o150 P) .nil .nil)) (.node (hd.o98 P) (.node (hd.o132 P) .nil .nil) (.node (hd.o169 P) .nil .nil)))) (.node (hd.o164 P) (.node (hd.o57 P) (.node (hd.o76 P) (.node (hd.o110 P) (.node (hd.o181 P) .nil .nil) .nil) (.node (hd.o146 P) .nil .nil)) (.node (hd.o92 P) (.node (hd.o128 P) .nil .nil) (.node (hd.o162 P) .nil .nil))) (.node (hd.o65 P) (.node (hd.o84 P) (.node (hd.o120 P) .nil .nil) (.node (hd.o154 P) .nil .nil)) (.node (hd.o102 P) (.node (hd.o136 P) .nil .nil) (.node (hd.o173 P) .nil .nil))))) (.node (boot_o_6 P) (.node (boot_o_10 P) (.node (hd.o55 P) (.node (hd.o71 P) (.node (hd.o108 P) (.node (hd.o179 P) .nil .nil) .nil) (.node (hd.o144 P) .nil .nil)) (.node (hd.o90 P) (.node (hd.o126 P) .nil .nil) (.node (hd.o160 P) .nil .nil))) (.node (hd.o63 P) (.node (hd.o82 P) (.node (hd.o116 P) .nil .nil) (.node (hd.o152 P) .nil .nil)) (.node (hd.o100 P) (.node (hd.o134 P) .nil .nil) (.node (hd.o171 P) .nil .nil)))) (.node (hd.o46 P) (.node (hd.o59 P) (.node (hd.o78 P) (.node (hd.o112 P) (.node (hd.o183 P) .nil .nil) .nil) (.node (hd.o148 P) .nil .nil)) (.node (hd.o96 P) (.node (hd.o130 P) .nil .nil) (.node (hd.o167 P) .nil .nil))) (.node (hd.o67 P) (.node (hd.o86 P) (.node (hd.o122 P) .nil .nil) (.node (hd.o156 P) .nil .nil)) (.node (hd.o104 P) (.node (hd.o138 P) .nil .nil) (.node (hd.o175 P) .nil .nil)))))))
noncomputable def hd.t188 (P : Params) : BT := (.node (boot_o_0 P) (.node (boot_o_1 P) (.node (hd.o185 P) (.node (boot_o_7 P) (.node (hd.o52 P) (.node (hd.o74 P) (.node (hd.o105 P) (.node (hd.o176 P) .nil .nil) .nil) (.node (hd.o139 P) .nil .nil)) (.node (hd.o87 P) (.node (hd.o123 P) .nil .nil) (.node (hd.o157 P) .nil .nil))) (.node (hd.o60 P) (.node (hd.o79 P) (.node (hd.o113 P) (.node (hd.o184 P) .nil .nil) .nil) (.node (hd.o149 P) .nil .nil)) (.node (hd.o97 P) (.node (hd.o131 P) .nil .nil) (.node (hd.o168 P) .nil .nil)))) (.node (hd.o43 P) (.node (hd.o56 P) (.node (hd.o75 P) (.node (hd.o109 P) (.node (hd.o180 P) .nil .nil) .nil) (.node (hd.o145 P) .nil .nil)) (.node (hd.o91 P) (.node (hd.o127 P) .nil .nil) (.node (hd.o161 P) .nil .nil))) (.node (hd.o64 P) (.node (hd.o83 P) (.node (hd.o119 P) .nil .nil) (.node (hd.o153 P) .nil .nil)) (.node (hd.o101 P) (.node (hd.o135 P) .nil .nil) (.node (hd.o172 P) .nil .nil))))) (.node (boot_o_5 P) (.node (boot_o_9 P) (.node (hd.o54 P) (.node (hd.o70 P) (.node (hd.o107 P) (.node (hd.o178 P) .nil .nil) .nil) (.node (hd.o143 P) .nil .nil)) (.node (hd.o89 P) (.node (hd.o125 P) .nil .nil) (.node (hd.o159 P) .nil .nil))) (.node (hd.o62 P) (.node (hd.o81 P) (.node (hd.o115 P) (.node (hd.o187 P) .nil .nil) .nil) (.node (hd.o151 P) .nil .nil)) (.node (hd.o99 P) (.node (hd.o133 P) .nil .nil) (.node (hd.o170 P) .nil .nil)))) (.node (hd.o45 P) (.node (hd.o58 P) (.node (hd.o77 P) (.node (hd.o111 P) (.node (hd.o182 P) .nil .nil) .nil) (.node (hd.o147 P) .nil .nil)) (.node (hd.o93 P) (.node (hd.o129 P) .nil .nil) (.node (hd.o166 P) .nil .nil))) (.node (hd.o66 P) (.node (hd.o85 P) (.node (hd.o121 P) .nil .nil) (.node (hd.o155 P) .nil .nil)) (.node (hd.o103 P) (.node (hd.o137 P) .nil .nil) (.node (hd.o174 P) .nil .nil)))))) (.node (hd.o49 P) (.node (boot_o_4 P) (.node (boot_o_8 P) (.node (hd.o53 P) (.node (hd.o69 P) (.node (hd.o106 P) (.node (hd.o177 P) .nil .nil) .nil) (.node (hd.o142 P) .nil .nil)) (.node (hd.o88 P) (.node (hd.o124 P) .nil .nil) (.node (hd.o165 P) .nil .nil))) (.node (hd.o61 P) (.node (hd.o80 P) (.node (hd.o114 P) (.node (hd.o186 P) .nil .nil) .nil) (.node (hd.o150 P) .nil .nil)) (.node (hd.o98 P) (.node (hd.o132 P) .nil .nil) (.node (hd.o169 P) .nil .nil)))) (.node (hd.o164 P) (.node (hd.o57 P) (.node (hd.o76 P) (.node (hd.o110 P) (.node (hd.o181 P) .nil .nil) .nil) (.node (hd.o146 P) .nil .nil)) (.node (hd.o92 P) (.node (hd.o128 P) .nil .nil) (.node (hd.o162 P) .nil .nil))) (.node (hd.o65 P) (.node (hd.o84 P) (.node (hd.o120 P) .nil .nil) (.node (hd.o154 P) .nil .nil)) (.node (hd.o102 P) (.node (hd.o136 P) .nil .nil) (.node (hd.o173 P) .nil .nil))))) (.node (boot_o_6 P) (.node (boot_o_10 P) (.node (hd.o55 P) (.node (hd.o71 P) (.node (hd.o108 P) (.node (hd.o179 P) .nil .nil) .nil) (.node (hd.o144 P) .nil .nil)) (.node (hd.o90 P) (.node (hd.o126 P) .nil .nil) (.node (hd.o160 P) .nil .nil))) (.node (hd.o63 P) (.node (hd.o82 P) (.node (hd.o116 P) (.node (hd.o188 P) .nil .nil) .nil) (.node (hd.o152 P) .nil .nil)) (.node (hd.o100 P) (.node (hd.o134 P) .nil .nil) (.node (hd.o171 P) .nil .nil)))) (.node (hd.o46 P) (.node (hd.o59 P) (.node (hd.o78 P) (.node (hd.o112 P) (.node (hd.o183 P) .nil .nil) .nil) (.node (hd.o148 P) .nil .nil)) (.node (hd.o96 P) (.node (hd.o130 P) .nil .nil) (.node (hd.o167 P) .nil .nil))) (.node (hd.o67 P) (.node (hd.o86 P) (.node (hd.o122 P) .nil .nil) (.node (hd.o156 P) .nil .nil)) (.node (hd.o104 P) (.node (hd.o138 P) .nil .nil) (.node (hd.o175 P) .nil .nil)))))))
noncomputable def hd.t227 (P : Params) : BT := (.node (boot_o_0 P) (.node (boot_o_1 P) (.node (hd.o192 P) (.node (boot_o_7 P) (.node (hd.o52 P) (.node (hd.o74 P) (.node (hd.o105 P) (.node (hd.o176 P) .nil .nil) .nil) (.node (hd.o139 P) (.node (hd.o215 P) .nil .nil) .nil)) (.node (hd.o87 P) (.node (hd.o123 P) (.node (hd.o199 P) .nil .nil) .nil) (.node (hd.o157 P) .nil .nil))) (.node (hd.o60 P) (.node (hd.o79 P) (.node (hd.o113 P) (.node (hd.o184 P) .nil .nil) .nil) (.node (hd.o149 P) (.node (hd.o223 P) .nil .nil) .nil)) (.node (hd.o97 P) (.node (hd.o131 P) (.node (hd.o207 P) .nil .nil) .nil) (.node (hd.o168 P) .nil .nil)))) (.node (hd.o43 P) (.node (hd.o56 P) (.node (hd.o75 P) (.node (hd.o109 P) (.node (hd.o180 P) .nil .nil) .nil) (.node (hd.o145 P) (.node (hd.o219 P) .nil .nil) .nil)) (.node (hd.o91 P) (.node (hd.o127 P) (.node (hd.o203 P) .nil .nil) .nil) (.node (hd.o161 P) .nil .nil))) (.node (hd.o64 P) (.node (hd.o83 P) (.node (hd.o119 P) (.node (hd.o195 P) .nil .nil) .nil) (.node (hd.o153 P) (.node (hd.o227 P) .nil .nil) .nil)) (.node (hd.o101 P) (.node (hd.o135 P) (.node (hd.o211 P) .nil .nil) .nil) (.node (hd.o172 P) .nil .nil))))) (.node (boot_o_5 P) (.node (boot_o_9 P) (.node (hd.o54 P) (.node (hd.o70 P) (.node (hd.o107 P) (.node (hd.o178 P) .nil .nil) .nil) (.node (hd.o143 P) (.node (hd.o217 P) .nil .nil) .nil)) (.node (hd.o89 P) (.node (hd.o125 P) (.node (hd.o201 P) .nil .nil) .nil) (.node (hd.o159 P) .nil .nil))) (.node (hd.o62 P) (.node (hd.o81 P) (.node (hd.o115 P) (.node (hd.o187 P) .nil .nil) .nil) (.node (hd.o151 P) (.node (hd.o225 P) .nil .nil) .nil)) (.node (hd.o99 P) (.node (hd.o133 P) (.node (hd.o209 P) .nil .nil) .nil) (.node (hd.o170 P) .nil .nil)))) (.node (hd.o45 P) (.node (hd.o58 P) (.node (hd.o77 P) (.node (hd.o111 P) (.node (hd.o182 P) .nil .nil) .nil) (.node (hd.o147 P) (.node (hd.o221 P) .nil .nil) .nil)) (.node (hd.o93 P) (.node (hd.o129 P) (.node (hd.o205 P) .nil .nil) .nil) (.node (hd.o166 P) .nil .nil))) (.node (hd.o66 P) (.node (hd.o85 P) (.node (hd.o121 P) (.node (hd.o197 P) .nil .nil) .nil) (.node (hd.o155 P) .nil .nil)) (.node (hd.o103 P) (.node (hd.o137 P) (.node (hd.o213 P) .nil .nil) .nil) (.node (hd.o174 P) .nil .nil)))))) (.node (hd.o49 P) (.node (boot_o_4 P) (.node (boot_o_8 P) (.node (hd.o53 P) (.node (hd.o69 P) (.node (hd.o106 P) (.node (hd.o177 P) .nil .nil) .nil) (.node (hd.o142 P) (.node (hd.o216 P) .nil .nil) .nil)) (.node (hd.o88 P) (.node (hd.o124 P) (.node (hd.o200 P) .nil .nil) .nil) (.node (hd.o165 P) .nil .nil))) (.node (hd.o61 P) (.node (hd.o80 P) (.node (hd.o114 P) (.node (hd.o186 P) .nil .nil) .nil) (.node (hd.o150 P) (.node (hd.o224 P) .nil .nil) .nil)) (.node (hd.o98 P) (.node (hd.o132 P) (.node (hd.o208 P) .nil .nil) .nil) (.node (hd.o169 P) .nil .nil)))) (.node (hd.o193 P) (.node (hd.o57 P) (.node (hd.o76 P) (.node (hd.o110 P) (.node (hd.o181 P) .nil .nil) .nil) (.node (hd.o146 P) (.node (hd.o220 P) .nil .nil) .nil)) (.node (hd.o92 P) (.node (hd.o128 P) (.node (hd.o204 P) .nil .nil) .nil) (.node (hd.o162 P) .nil .nil))) (.node (hd.o65 P) (.node (hd.o84 P) (.node (hd.o120 P) (.node (hd.o196 P) .nil .nil) .nil) (.node (hd.o154 P) .nil .nil)) (.node (hd.o102 P) (.node (hd.o136 P) (.node (hd.o212 P) .nil .nil) .nil) (.node (hd.o173 P) .nil .nil))))) (.node (boot_o_6 P) (.node (boot_o_10 P) (.node (hd.o55 P) (.node (hd.o71 P) (.node (hd.o108 P) (.node (hd.o179 P) .nil .nil) .nil) (.node (hd.o144 P) (.node (hd.o218 P) .nil .nil) .nil)) (.node (hd.o90 P) (.node (hd.o126 P) (.node (hd.o202 P) .nil .nil) .nil) (.node (hd.o160 P) .nil .nil))) (.node (hd.o63 P) (.node (hd.o82 P) (.node (hd.o116 P) (.node (hd.o188 P) .nil .nil) .nil) (.node (hd.o152 P) (.node (hd.o226 P) .nil .nil) .nil)) (.node (hd.o100 P) (.node (hd.o134 P) (.node (hd.o210 P) .nil .nil) .nil) (.node (hd.o171 P) .nil .nil)))) (.node (hd.o46 P) (.node (hd.o59 P) (.node (hd.o78 P) (.node (hd.o194 P) (.node (hd.o183 P) .nil .nil) .nil) (.node (hd.o148 P) (.node (hd.o222 P) .nil .nil) .nil)) (.node (hd.o96 P) (.node (hd.o130 P) (.node (hd.o206 P) .nil .nil) .nil) (.node (hd.o167 P) .nil .nil))) (.node (hd.o67 P) (.node (hd.o86 P) (.node (hd.o122 P) (.node (hd.o198 P) .nil .nil) .nil) (.node (hd.o156 P) .nil .nil)) (.node (hd.o104 P) (.node (hd.o138 P) (.node (hd.o214 P) .nil .nil) .nil) (.node (hd.o175 P) .nil .nil)))))))
noncomputable def hd.t273 (P : Params) : BT := (.node (boot_o_0 P) (.node (boot_o_1 P) (.node (hd.o230 P) (.node (boot_o_7 P) (.node (hd.o52 P) (.node (hd.o74 P) (.node (hd.o105 P) (.node (hd.o176 P) .nil .nil) (.node (hd.o251 P) .nil .nil)) (.node (hd.o139 P) (.node (hd.o215 P) .nil .nil) .nil)) (.node (hd.o87 P) (.node (hd.o123 P) (.node (hd.o199 P) .nil .nil) (.node (hd.o267 P) .nil .nil)) (.node (hd.o157 P) (.node (hd.o235 P) .nil .nil) .nil))) (.node (hd.o60 P) (.node (hd.o79 P) (.node (hd.o113 P) (.node (hd.o184 P) .nil .nil) (.node (hd.o259 P) .nil .nil)) (.node (hd.o149 P) (.node (hd.o223 P) .nil .nil) .nil)) (.node (hd.o97 P) (.node (hd.o131 P) (.node (hd.o207 P) .nil .nil) .nil) (.node (hd.o168 P) (.node (hd.o243 P) .nil .nil) .nil)))) (.node (hd.o43 P) (.node (hd.o56 P) (.node (hd.o75 P) (.node (hd.o109 P) (.node (hd.o180 P) .nil .nil) (.node (hd.o255 P) .nil .nil)) (.node (hd.o145 P) (.node (hd.o219 P) .nil .nil) .nil)) (.node (hd.o91 P) (.node (hd.o127 P) (.node (hd.o203 P) .nil .nil) (.node (hd.o271 P) .nil .nil)) (.node (hd.o161 P) (.node (hd.o239 P) .nil .nil) .nil))) (.node (hd.o64 P) (.node (hd.o83 P) (.node (hd.o119 P) (.node (hd.o195 P) .nil .nil) (.node (hd.o263 P) .nil .nil)) (.node (hd.o153 P) (.node (hd.o227 P) .nil .nil) .nil)) (.node (hd.o101 P) (.node (hd.o135 P) (.node (hd.o211 P) .nil .nil) .nil) (.node (hd.o172 P) (.node (hd.o247 P) .nil .nil) .nil))))) (.node (boot_o_5 P) (.node (boot_o_9 P) (.node (hd.o54 P) (.node (hd.o70 P) (.node (hd.o107 P) (.node (hd.o178 P) .nil .nil) (.node (hd.o253 P) .nil .nil)) (.node (hd.o143 P) (.node (hd.o217 P) .nil .nil) .nil)) (.node (hd.o89 P) (.node (hd.o125 P) (.node (hd.o201 P) .nil .nil) (.node (hd.o269 P) .nil .nil)) (.node (hd.o159 P) (.node (hd.o237 P) .nil .nil) .nil))) (.node (hd.o62 P) (.node (hd.o81 P) (.node (hd.o115 P) (.node (hd.o187 P) .nil .nil) (.node (hd.o261 P) .nil .nil)) (.node (hd.o151 P) (.node (hd.o225 P) .nil .nil) .nil)) (.node (hd.o99 P) (.node (hd.o133 P) (.node (hd.o209 P) .nil .nil) .nil) (.node (hd.o170 P) (.node (hd.o245 P) .nil .nil) .nil)))) (.node (hd.o45 P) (.node (hd.o58 P) (.node (hd.o77 P) (.node (hd.o111 P) (.node (hd.o182 P) .nil .nil) (.node (hd.o257 P) .nil .nil)) (.node (hd.o147 P) (.node (hd.o221 P) .nil .nil) .nil)) (.node (hd.o93 P) (.node (hd.o129 P) (.node (hd.o205 P) .nil .nil) (.node (hd.o273 P) .nil .nil)) (.node (hd.o166 P) (.node (hd.o241 P) .nil .nil) .nil))) (.node (hd.o66 P) (.node (hd.o85 P) (.node (hd.o121 P) (.node (hd.o197 P) .nil .nil) (.node (hd.o265 P) .nil .nil)) (.node (hd.o155 P) (.node (hd.o233 P) .nil .nil) .nil)) (.node (hd.o103 P) (.node (hd.o137 P) (.node (hd.o213 P) .nil .nil) .nil) (.node (hd.o174 P) (.node (hd.o249 P) .nil .nil) .nil)))))) (.node (hd.o49 P) (.node (boot_o_4 P) (.node (boot_o_8 P) (.node (hd.o53 P) (.node (hd.o69 P) (.node (hd.o106 P) (.node (hd.o177 P) .nil .nil) (.node (hd.o252 P) .nil .nil)) (.node (hd.o142 P) (.node (hd.o216 P) .nil .nil) .nil)) (.node (hd.o88 P) (.node (hd.o124 P) (.node (hd.o200 P) .nil .nil) (.node (hd.o268 P) .nil .nil)) (.node (hd.o165 P) (.node (hd.o236 P) .nil .nil) .nil))) (.node (hd.o61 P) (.node (hd.o80 P) (.node (hd.o114 P) (.node (hd.o186 P) .nil .nil) (.node (hd.o260 P) .nil .nil)) (.node (hd.o150 P) (.node (hd.o224 P) .nil .nil) .nil)) (.node (hd.o98 P) (.node (hd.o132 P) (.node (hd.o208 P) .nil .nil) .nil) (.node (hd.o169 P) (.node (hd.o244 P) .nil .nil) .nil)))) (.node (hd.o231 P) (.node (hd.o57 P) (.node (hd.o76 P) (.node (hd.o110 P) (.node (hd.o181 P) .nil .nil) (.node (hd.o256 P) .nil .nil)) (.node (hd.o146 P) (.node (hd.o220 P) .nil .nil) .nil)) (.node (hd.o92 P) (.node (hd.o128 P) (.node (hd.o204 P) .nil .nil) (.node (hd.o272 P) .nil .nil)) (.node (hd.o162 P) (.node (hd.o240 P) .nil .nil) .nil))) (.node (hd.o65 P) (.node (hd.o84 P) (.node (hd.o120 P) (.node (hd.o196 P) .nil .nil) (.node (hd.o264 P) .nil .nil)) (.node (hd.o154 P) (.node (hd.o232 P) .nil .nil) .nil)) (.node (hd.o102 P) (.node (hd.o136 P) (.node (hd.o212 P) .nil .nil) .nil) (.node (hd.o173 P) (.node (hd.o248 P) .nil .nil) .nil))))) (.node (boot_o_6 P) (.node (boot_o_10 P) (.node (hd.o55 P) (.node (hd.o71 P) (.node (hd.o108 P) (.node (hd.o179 P) .nil .nil) (.node (hd.o254 P) .nil .nil)) (.node (hd.o144 P) (.node (hd.o218 P) .nil .nil) .nil)) (.node (hd.o90 P) (.node (hd.o126 P) (.node (hd.o202 P) .nil .nil) (.node (hd.o270 P) .nil .nil)) (.node (hd.o160 P) (.node (hd.o238 P) .nil .nil) .nil))) (.node (hd.o63 P) (.node (hd.o82 P) (.node (hd.o116 P) (.node (hd.o188 P) .nil .nil) (.node (hd.o262 P) .nil .nil)) (.node (hd.o152 P) (.node (hd.o226 P) .nil .nil) .nil)) (.node (hd.o100 P) (.node (hd.o134 P) (.node (hd.o210 P) .nil .nil) .nil) (.node (hd.o171 P) (.node (hd.o246 P) .nil .nil) .nil)))) (.node (hd.o46 P) (.node (hd.o59 P) (.node (hd.o78 P) (.node (hd.o194 P) (.node (hd.o183 P) .nil .nil) (.node (hd.o258 P) .nil .nil)) (.node (hd.o148 P) (.node (hd.o222 P) .nil .nil) .nil)) (.node (hd.o96 P) (.node (hd.o130 P) (.node (hd.o206 P) .nil .nil) .nil) (.node (hd.o167 P) (.node (hd.o242 P) .nil .nil) .nil))) (.node (hd.o67 P) (.node (hd.o86 P) (.node (hd.o122 P) (.node (hd.o198 P) .nil .nil) (.node (hd.o266 P) .nil .nil)) (.node (hd.o156 P) (.node (hd.o234 P) .nil .nil) .nil)) (.node (hd.o104 P) (.node (hd.o138 P) (.node (hd.o214 P) .nil .nil) .nil) (.node (hd.o175 P) (.node (hd.o250 P) .nil .nil) .nil)))))))
noncomputable def hd.t296 (P : Params) : BT := (.node (boot_o_0 P) (.node (boot_o_1 P) (.node (hd.o274 P) (.node (boot_o_7 P) (.node (hd.o52 P) (.node (hd.o74 P) (.node (hd.o105 P) (.node (hd.o176 P) .nil .nil) (.node (hd.o251 P) .nil .nil)) (.node (hd.o139 P) (.node (hd.o215 P) .nil .nil) (.node (hd.o285 P) .nil .nil))) (.node (hd.o87 P) (.node (hd.o123 P) (.node (hd.o199 P) .nil .nil) (.node (hd.o267 P) .nil .nil)) (.node (hd.o157 P) (.node (hd.o235 P) .nil .nil) .nil))) (.node (hd.o60 P) (.node (hd.o79 P) (.node (hd.o113 P) (.node (hd.o184 P) .nil .nil) (.node (hd.o259 P) .nil .nil)) (.node (hd.o149 P) (.node (hd.o223 P) .nil .nil) (.node (hd.o293 P) .nil .nil))) (.node (hd.o97 P) (.node (hd.o131 P) (.node (hd.o207 P) .nil .nil) (.node (hd.o277 P) .nil .nil)) (.node (hd.o168 P) (.node (hd.o243 P) .nil .nil) .nil)))) (.node (hd.o43 P) (.node (hd.o56 P) (.node (hd.o75 P) (.node (hd.o109 P) (.node (hd.o180 P) .nil .nil) (.node (hd.o255 P) .nil .nil)) (.node (hd.o145 P) (.node (hd.o219 P) .nil .nil) (.node (hd.o289 P) .nil .nil))) (.node (hd.o91 P) (.node (hd.o127 P) (.node (hd.o203 P) .nil .nil) (.node (hd.o271 P) .nil .nil)) (.node (hd.o161 P) (.node (hd.o239 P) .nil .nil) .nil))) (.node (hd.o64 P) (.node (hd.o83 P) (.node (hd.o119 P) (.node (hd.o195 P) .nil .nil) (.node (hd.o263 P) .nil .nil)) (.node (hd.o153 P) (.node (hd.o227 P) .nil .nil) .nil)) (.node (hd.o101 P) (.node (hd.o135 P) (.node (hd.o211 P) .nil .nil) (.node (hd.o281 P) .nil .nil)) (.node (hd.o172 P) (.node (hd.o247 P) .nil .nil) .nil))))) (.node (boot_o_5 P) (.node (boot_o_9 P) (.node (hd.o54 P) (.node (hd.o70 P) (.node (hd.o107 P) (.node (hd.o178 P) .nil .nil) (.node (hd.o253 P) .nil .nil)) (.node (hd.o143 P) (.node (hd.o217 P) .nil .nil) (.node (hd.o287 P) .nil .nil))) (.node (hd.o89 P) (.node (hd.o125 P) (.node (hd.o201 P) .nil .nil) (.node (hd.o269 P) .nil .nil)) (.node (hd.o159 P) (.node (hd.o237 P) .nil .nil) .nil))) (.node (hd.o62 P) (.node (hd.o81 P) (.node (hd.o115 P) (.node (hd.o187 P) .nil .nil) (.node (hd.o261 P) .nil .nil)) (.node (hd.o151 P) (.node (hd.o225 P) .nil .nil) (.node (hd.o295 P) .nil .nil))) (.node (hd.o99 P) (.node (hd.o133 P) (.node (hd.o209 P) .nil .nil) (.node (hd.o279 P) .nil .nil)) (.node (hd.o170 P) (.node (hd.o245 P) .nil .nil) .nil)))) (.node (hd.o45 P) (.node (hd.o58 P) (.node (hd.o77 P) (.node (hd.o111 P) (.node (hd.o182 P) .nil .nil) (.node (hd.o257 P) .nil .nil)) (.node (hd.o147 P) (.node (hd.o221 P) .nil .nil) (.node (hd.o291 P) .nil .nil))) (.node (hd.o93 P) (.node (hd.o129 P) (.node (hd.o205 P) .nil .nil) (.node (hd.o273 P) .nil .nil)) (.node (hd.o166 P) (.node (hd.o241 P) .nil .nil) .nil))) (.node (hd.o66 P) (.node (hd.o85 P) (.node (hd.o121 P) (.node (hd.o197 P) .nil .nil) (.node (hd.o265 P) .nil .nil)) (.node (hd.o155 P) (.node (hd.o233 P) .nil .nil) .nil)) (.node (hd.o103 P) (.node (hd.o137 P) (.node (hd.o213 P) .nil .nil) (.node (hd.o283 P) .nil .nil)) (.node (hd.o174 P) (.node (hd.o249 P) .nil .nil) .nil)))))) (.node (hd.o49 P) (.node (boot_o_4 P) (.node (boot_o_8 P) (.node (hd.o53 P) (.node (hd.o69 P) (.node (hd.o106 P) (.node (hd.o177 P) .nil .nil) (.node (hd.o252 P) .nil .nil)) (.node (hd.o142 P) (.node (hd.o216 P) .nil .nil) (.node (hd.o286 P) .nil .nil))) (.node (hd.o88 P) (.node (hd.o124 P) (.node (hd.o200 P) .nil .nil) (.node (hd.o268 P) .nil .nil)) (.node (hd.o165 P) (.node (hd.o236 P) .nil .nil) .nil))) (.node (hd.o61 P) (.node (hd.o80 P) (.node (hd.o114 P) (.node (hd.o186 P) .nil .nil) (.node (hd.o260 P) .nil .nil)) (.node (hd.o150 P) (.node (hd.o224 P) .nil .nil) (.node (hd.o294 P) .nil .nil))) (.node (hd.o98 P) (.node (hd.o132 P) (.node (hd.o208 P) .nil .nil) (.node (hd.o278 P) .nil .nil)) (.node (hd.o169 P) (.node (hd.o244 P) .nil .nil) .nil)))) (.node (hd.o275 P) (.node (hd.o57 P) (.node (hd.o76 P) (.node (hd.o110 P) (.node (hd.o181 P) .nil .nil) (.node (hd.o256 P) .nil .nil)) (.node (hd.o146 P) (.node (hd.o220 P) .nil .nil) (.node (hd.o290 P) .nil .nil))) (.node (hd.o92 P) (.node (hd.o128 P) (.node (hd.o204 P) .nil .nil) (.node (hd.o272 P) .nil .nil)) (.node (hd.o162 P) (.node (hd.o240 P) .nil .nil) .nil))) (.node (hd.o65 P) (.node (hd.o84 P) (.node (hd.o120 P) (.node (hd.o196 P) .nil .nil) (.node (hd.o264 P) .nil .nil)) (.node (hd.o154 P) (.node (hd.o232 P) .nil .nil) .nil)) (.node (hd.o102 P) (.node (hd.o136 P) (.node (hd.o212 P) .nil .nil) (.node (hd.o282 P) .nil .nil)) (.node (hd.o173 P) (.node (hd.o248 P) .nil .nil) .nil))))) (.node (boot_o_6 P) (.node (boot_o_10 P) (.node (hd.o55 P) (.node (hd.o71 P) (.node (hd.o108 P) (.node (hd.o179 P) .nil .nil) (.node (hd.o254 P) .nil .nil)) (.node (hd.o144 P) (.node (hd.o218 P) .nil .nil) (.node (hd.o288 P) .nil .nil))) (.node (hd.o90 P) (.node (hd.o126 P) (.node (hd.o202 P) .nil .nil) (.node (hd.o270 P) .nil .nil)) (.node (hd.o160 P) (.node (hd.o238 P) .nil .nil) .nil))) (.node (hd.o63 P) (.node (hd.o82 P) (.node (hd.o116 P) (.node (hd.o188 P) .nil .nil) (.node (hd.o262 P) .nil .nil)) (.node (hd.o152 P) (.node (hd.o226 P) .nil .nil) (.node (hd.o296 P) .nil .nil))) (.node (hd.o100 P) (.node (hd.o134 P) (.node (hd.o210 P) .nil .nil) (.node (hd.o280 P) .nil .nil)) (.node (hd.o171 P) (.node (hd.o246 P) .nil .nil) .nil)))) (.node (hd.o46 P) (.node (hd.o59 P) (.node (hd.o78 P) (.node (hd.o194 P) (.node (hd.o183 P) .nil .nil) (.node (hd.o258 P) .nil .nil)) (.node (hd.o148 P) (.node (hd.o222 P) .nil .nil) (.node (hd.o292 P) .nil .nil))) (.node (hd.o96 P) (.node (hd.o130 P) (.node (hd.o206 P) .nil .nil) (.node (hd.o276 P) .nil .nil)) (.node (hd.o167 P) (.node (hd.o242 P) .nil .nil) .nil))) (.node (hd.o67 P) (.node (hd.o86 P) (.node (hd.o122 P) (.node (hd.o198 P) .nil .nil) (.node (hd.o266 P) .nil .nil)) (.node (hd.o156 P) (.node (hd.o234 P) .nil .nil) .nil)) (.node (hd.o104 P) (.node (hd.o138 P) (.node (hd.o214 P) .nil .nil) (.node (hd.o284 P) .nil .nil)) (.node (hd.o175 P) (.node (hd.o250 P) .nil .nil) .nil)))))))
noncomputable def hd.t341 (P : Params) : BT := (.node (boot_o_0 P) (.node (boot_o_1 P) (.node (hd.o297 P) (.node (boot_o_7 P) (.node (hd.o52 P) (.node (hd.o74 P) (.node (hd.o105 P) (.node (hd.o176 P) (.node (hd.o320 P) .nil .nil) .nil) (.node (hd.o251 P) .nil .nil)) (.node (hd.o139 P) (.node (hd.o215 P) .nil .nil) (.node (hd.o285 P) .nil .nil))) (.node (hd.o87 P) (.node (hd.o123 P) (.node (hd.o199 P) (.node (hd.o336 P) .nil .nil) .nil) (.node (hd.o267 P) .nil .nil)) (.node (hd.o157 P) (.node (hd.o235 P) .nil .nil) (.node (hd.o304 P) .nil .nil)))) (.node (hd.o60 P) (.node (hd.o79 P) (.node (hd.o113 P) (.node (hd.o184 P) (.node (hd.o328 P) .nil .nil) .nil) (.node (hd.o259 P) .nil .nil)) (.node (hd.o149 P) (.node (hd.o223 P) .nil .nil) (.node (hd.o293 P) .nil .nil))) (.node (hd.o97 P) (.node (hd.o131 P) (.node (hd.o207 P) .nil .nil) (.node (hd.o277 P) .nil .nil)) (.node (hd.o168 P) (.node (hd.o243 P) .nil .nil) (.node (hd.o312 P) .nil .nil))))) (.node (hd.o43 P) (.node (hd.o56 P) (.node (hd.o75 P) (.node (hd.o109 P) (.node (hd.o180 P) (.node (hd.o324 P) .nil .nil) .nil) (.node (hd.o255 P) .nil .nil)) (.node (hd.o145 P) (.node (hd.o219 P) .nil .nil) (.node (hd.o289 P) .nil .nil))) (.node (hd.o91 P) (.node (hd.o127 P) (.node (hd.o203 P) (.node (hd.o340 P) .nil .nil) .nil) (.node (hd.o271 P) .nil .nil)) (.node (hd.o161 P) (.node (hd.o239 P) .nil .nil) (.node (hd.o308 P) .nil .nil)))) (.node (hd.o64 P) (.node (hd.o83 P) (.node (hd.o119 P) (.node (hd.o195 P) (.node (hd.o332 P) .nil .nil) .nil) (.node (hd.o263 P) .nil .nil)) (.node (hd.o153 P) (.node (hd.o227 P) .nil .nil) (.node (hd.o300 P) .nil .nil))) (.node (hd.o101 P) (.node (hd.o135 P) (.node (hd.o211 P) .nil .nil) (.node (hd.o281 P) .nil .nil)) (.node (hd.o172 P) (.node (hd.o247 P) .nil .nil) (.node (hd.o316 P) .nil .nil)))))) (.node (boot_o_5 P) (.node (boot_o_9 P) (.node (hd.o54 P) (.node (hd.o70 P) (.node (hd.o107 P) (.node (hd.o178 P) (.node (hd.o322 P) .nil .nil) .nil) (.node (hd.o253 P) .nil .nil)) (.node (hd.o143 P) (.node (hd.o217 P) .nil .nil) (.node (hd.o287 P) .nil .nil))) (.node (hd.o89 P) (.node (hd.o125 P) (.node (hd.o201 P) (.node (hd.o338 P) .nil .nil) .nil) (.node (hd.o269 P) .nil .nil)) (.node (hd.o159 P) (.node (hd.o237 P) .nil .nil) (.node (hd.o306 P) .nil .nil)))) (.node (hd.o62 P) (.node (hd.o81 P) (.node (hd.o115 P) (.node (hd.o187 P) (.node (hd.o330 P) .nil .nil) .nil) (.node (hd.o261 P) .nil .nil)) (.node (hd.o151 P) (.node (hd.o225 P) .nil .nil) (.node (hd.o295 P) .nil .nil))) (.node (hd.o99 P) (.node (hd.o133 P) (.node (hd.o209 P) .nil .nil) (.node (hd.o279 P) .nil .nil)) (.node (hd.o170 P) (.node (hd.o245 P) .nil .nil) (.node (hd.o314 P) .nil .nil))))) (.node (hd.o45 P) (.node (hd.o58 P) (.node (hd.o77 P) (.node (hd.o111 P) (.node (hd.o182 P) (.node (hd.o326 P) .nil .nil) .nil) (.node (hd.o257 P) .nil .nil)) (.node (hd.o147 P) (.node (hd.o221 P) .nil .nil) (.node (hd.o291 P) .nil .nil))) (.node (hd.o93 P) (.node (hd.o129 P) (.node (hd.o205 P) .nil .nil) (.node (hd.o273 P) .nil .nil)) (.node (hd.o166 P) (.node (hd.o241 P) .nil .nil) (.node (hd.o310 P) .nil .nil)))) (.node (hd.o66 P) (.node (hd.o85 P) (.node (hd.o121 P) (.node (hd.o197 P) (.node (hd.o334 P) .nil .nil) .nil) (.node (hd.o265 P) .nil .nil)) (.node (hd.o155 P) (.node (hd.o233 P) .nil .nil) (.node (hd.o302 P) .nil .nil))) (.node (hd.o103 P) (.node (hd.o137 P) (.node (hd.o213 P) .nil .nil) (.node (hd.o283 P) .nil .nil)) (.node (hd.o174 P) (.node (hd.o249 P) .nil .nil) (.node (hd.o318 P) .nil .nil))))))) (.node (hd.o49 P) (.node (boot_o_4 P) (.node (boot_o_8 P) (.node (hd.o53 P) (.node (hd.o69 P) (.node (hd.o106 P) (.node (hd.o177 P) (.node (hd.o321 P) .nil .nil) .nil) (.node (hd.o252 P) .nil .nil)) (.node (hd.o142 P) (.node (hd.o216 P) .nil .nil) (.node (hd.o286 P) .nil .nil))) (.node (hd.o88 P) (.node (hd.o124 P) (.node (hd.o200 P) (.node (hd.o337 P) .nil .nil) .nil) (.node (hd.o268 P) .nil .nil)) (.node (hd.o165 P) (.node (hd.o236 P) .nil .nil) (.node (hd.o305 P) .nil .nil)))) (.node (hd.o61 P) (.node (hd.o80 P) (.node (hd.o114 P) (.node (hd.o186 P) (.node (hd.o329 P) .nil .nil) .nil) (.node (hd.o260 P) .nil .nil)) (.node (hd.o150 P) (.node (hd.o224 P) .nil .nil) (.node (hd.o294 P) .nil .nil))) (.node (hd.o98 P) (.node (hd.o132 P) (.node (hd.o208 P) .nil .nil) (.node (hd.o278 P) .nil .nil)) (.node (hd.o169 P) (.node (hd.o244 P) .nil .nil) (.node (hd.o313 P) .nil .nil))))) (.node (hd.o298 P) (.node (hd.o57 P) (.node (hd.o76 P) (.node (hd.o110 P) (.node (hd.o181 P) (.node (hd.o325 P) .nil .nil) .nil) (.node (hd.o256 P) .nil .nil)) (.node (hd.o146 P) (.node (hd.o220 P) .nil .nil) (.node (hd.o290 P) .nil .nil))) (.node (hd.o92 P) (.node (hd.o128 P) (.node (hd.o204 P) (.node (hd.o341 P) .nil .nil) .nil) (.node (hd.o272 P) .nil .nil)) (.node (hd.o162 P) (.node (hd.o240 P) .nil .nil) (.node (hd.o309 P) .nil .nil)))) (.node (hd.o65 P) (.node (hd.o84 P) (.node (hd.o120 P) (.node (hd.o196 P) (.node (hd.o333 P) .nil .nil) .nil) (.node (hd.o264 P) .nil .nil)) (.node (hd.o154 P) (.node (hd.o232 P) .nil .nil) (.node (hd.o301 P) .nil .nil))) (.node (hd.o102 P) (.node (hd.o136 P) (.node (hd.o212 P) .nil .nil) (.node (hd.o282 P) .nil .nil)) (.node (hd.o173 P) (.node (hd.o248 P) .nil .nil) (.node (hd.o317 P) .nil .nil)))))) (.node (boot_o_6 P) (.node (boot_o_10 P) (.node (hd.o55 P) (.node (hd.o71 P) (.node (hd.o108 P) (.node (hd.o179 P) (.node (hd.o323 P) .nil .nil) .nil) (.node (hd.o254 P) .nil .nil)) (.node (hd.o144 P) (.node (hd.o218 P) .nil .nil) (.node (hd.o288 P) .nil .nil))) (.node (hd.o90 P) (.node (hd.o126 P) (.node (hd.o202 P) (.node (hd.o339 P) .nil .nil) .nil) (.node (hd.o270 P) .nil .nil)) (.node (hd.o160 P) (.node (hd.o238 P) .nil .nil) (.node (hd.o307 P) .nil .nil)))) (.node (hd.o63 P) (.node (hd.o82 P) (.node (hd.o116 P) (.node (hd.o188 P) (.node (hd.o331 P) .nil .nil) .nil) (.node (hd.o262 P) .nil .nil)) (.node (hd.o152 P) (.node (hd.o226 P) .nil .nil) (.node (hd.o296 P) .nil .nil))) (.node (hd.o100 P) (.node (hd.o134 P) (.node (hd.o210 P) .nil .nil) (.node (hd.o280 P) .nil .nil)) (.node (hd.o171 P) (.node (hd.o246 P) .nil .nil) (.node (hd.o315 P) .nil .nil))))) (.node (hd.o46 P) (.node (hd.o59 P) (.node (hd.o78 P) (.node (hd.o194 P) (.node (hd.o183 P) (.node (hd.o327 P) .nil .nil) .nil) (.node (hd.o258 P) .nil .nil)) (.node (hd.o148 P) (.node (hd.o222 P) .nil .nil) (.node (hd.o299 P) .nil .nil))) (.node (hd.o96 P) (.node (hd.o130 P) (.node (hd.o206 P) .nil .nil) (.node (hd.o276 P) .nil .nil)) (.node (hd.o167 P) (.node (hd.o242 P) .nil .nil) (.node (hd.o311 P) .nil .nil)))) (.node (hd.o67 P) (.node (hd.o86 P) (.node (hd.o122 P) (.node (hd.o198 P) (.node (hd.o335 P) .nil .nil) .nil) (.node (hd.o266 P) .nil .nil)) (.node (hd.o156 P) (.node (hd.o234 P) .nil .nil) (.node (hd.o303 P) .nil .nil))) (.node (hd.o104 P) (.node (hd.o138 P) (.node (hd.o214 P) .nil .nil) (.node (hd.o284 P) .nil .nil)) (.node (hd.o175 P) (.node (hd.o250 P) .nil .nil) (.node (hd.o319 P) .nil .nil))))))))
noncomputable def hd.t362 (P : Params) : BT := (.node (boot_o_0 P) (.node (boot_o_1 P) (.node (hd.o342 P) (.node (boot_o_7 P) (.node (hd.o52 P) (.node (hd.o74 P) (.node (hd.o105 P) (.node (hd.o176 P) (.node (hd.o320 P) .nil .nil) .nil) (.node (hd.o251 P) .nil .nil)) (.node (hd.o139 P) (.node (hd.o215 P) (.node (hd.o354 P) .nil .nil) .nil) (.node (hd.o285 P) .nil .nil))) (.node (hd.o87 P) (.node (hd.o123 P) (.node (hd.o199 P) (.node (hd.o336 P) .nil .nil) .nil) (.node (hd.o267 P) .nil .nil)) (.node (hd.o157 P) (.node (hd.o235 P) .nil .nil) (.node (hd.o304 P) .nil .nil)))) (.node (hd.o60 P) (.node (hd.o79 P) (.node (hd.o113 P) (.node (hd.o184 P) (.node (hd.o328 P) .nil .nil) .nil) (.node (hd.o259 P) .nil .nil)) (.node (hd.o149 P) (.node (hd.o223 P) (.node (hd.o362 P) .nil .nil) .nil) (.node (hd.o293 P) .nil .nil))) (.node (hd.o97 P) (.node (hd.o131 P) (.node (hd.o207 P) (.node (hd.o346 P) .nil .nil) .nil) (.node (hd.o277 P) .nil .nil)) (.node (hd.o168 P) (.node (hd.o243 P) .nil .nil) (.node (hd.o312 P) .nil .nil))))) (.node (hd.o43 P) (.node (hd.o56 P) (.node (hd.o75 P) (.node (hd.o109 P) (.node (hd.o180 P) (.node (hd.o324 P) .nil .nil) .nil) (.node (hd.o255 P) .nil .nil)) (.node (hd.o145 P) (.node (hd.o219 P) (.node (hd.o358 P) .nil .nil) .nil) (.node (hd.o289 P) .nil .nil))) (.node (hd.o91 P) (.node (hd.o127 P) (.node (hd.o203 P) (.node (hd.o340 P) .nil .nil) .nil) (.node (hd.o271 P) .nil .nil)) (.node (hd.o161 P) (.node (hd.o239 P) .nil .nil) (.node (hd.o308 P) .nil .nil)))) (.node (hd.o64 P) (.node (hd.o83 P) (.node (hd.o119 P) (.node (hd.o195 P) (.node (hd.o332 P) .nil .nil) .nil) (.node (hd.o263 P) .nil .nil)) (.node (hd.o153 P) (.node (hd.o227 P) .nil .nil) (.node (hd.o300 P) .nil .nil))) (.node (hd.o101 P) (.node (hd.o135 P) (.node (hd.o211 P) (.node (hd.o350 P) .nil .nil) .nil) (.node (hd.o281 P) .nil .nil)) (.node (hd.o172 P) (.node (hd.o247 P) .nil .nil) (.node (hd.o316 P) .nil .nil)))))) (.node (boot_o_5 P) (.node (boot_o_9 P) (.node (hd.o54 P) (.node (hd.o70 P) (.node (hd.o107 P) (.node (hd.o178 P) (.node (hd.o322 P) .nil .nil) .nil) (.node (hd.o253 P) .nil .nil)) (.node (hd.o143 P) (.node (hd.o217 P) (.node (hd.o356 P) .nil .nil) .nil) (.node (hd.o287 P) .nil .nil))) (.node (hd.o89 P) (.node (hd.o125 P) (.node (hd.o201 P) (.node (hd.o338 P) .nil .nil) .nil) (.node (hd.o269 P) .nil .nil)) (.node (hd.o159 P) (.node (hd.o237 P) .nil .nil) (.node (hd.o306 P) .nil .nil)))) (.node (hd.o62 P) (.node (hd.o81 P) (.node (hd.o115 P) (.node (hd.o187 P) (.node (hd.o330 P) .nil .nil) .nil) (.node (hd.o261 P) .nil .nil)) (.node (hd.o151 P) (.node (hd.o225 P) .nil .nil) (.node (hd.o295 P) .nil .nil))) (.node (hd.o99 P) (.node (hd.o133 P) (.node (hd.o209 P) (.node (hd.o348 P) .nil .nil) .nil) (.node (hd.o279 P) .nil .nil)) (.node (hd.o170 P) (.node (hd.o245 P) .nil .nil) (.node (hd.o314 P) .nil .nil))))) (.node (hd.o45 P) (.node (hd.o58 P) (.node (hd.o77 P) (.node (hd.o111 P) (.node (hd.o182 P) (.node (hd.o326 P) .nil .nil) .nil) (.node (hd.o257 P) .nil .nil)) (.node (hd.o147 P) (.node (hd.o221 P) (.node (hd.o360 P) .nil .nil) .nil) (.node (hd.o291 P) .nil .nil))) (.node (hd.o93 P) (.node (hd.o129 P) (.node (hd.o205 P) (.node (hd.o344 P) .nil .nil) .nil) (.node (hd.o273 P) .nil .nil)) (.node (hd.o166 P) (.node (hd.o241 P) .nil .nil) (.node (hd.o310 P) .nil .nil)))) (.node (hd.o66 P) (.node (hd.o85 P) (.node (hd.o121 P) (.node (hd.o197 P) (.node (hd.o334 P) .nil .nil) .nil) (.node (hd.o265 P) .nil .nil)) (.node (hd.o155 P) (.node (hd.o233 P) .nil .nil) (.node (hd.o302 P) .nil .nil))) (.node (hd.o103 P) (.node (hd.o137 P) (.node (hd.o213 P) (.node (hd.o352 P) .nil .nil) .nil) (.node (hd.o283 P) .nil .nil)) (.node (hd.o174 P) (.node (hd.o249 P) .nil .nil) (.node (hd.o318 P) .nil .nil))))))) (.node (hd.o49 P) (.node (boot_o_4 P) (.node (boot_o_8 P) (.node (hd.o53 P) (.node (hd.o69 P) (.node (hd.o106 P) (.node (hd.o177 P) (.node (hd.o321 P) .nil .nil) .nil) (.node (hd.o252 P) .nil .nil)) (.node (hd.o142 P) (.node (hd.o216 P) (.node (hd.o355 P) .nil .nil) .nil) (.node (hd.o286 P) .nil .nil))) (.node (hd.o88 P) (.node (hd.o124 P) (.node (hd.o200 P) (.node (hd.o337 P) .nil .nil) .nil) (.node (hd.o268 P) .nil .nil)) (.node (hd.o165 P) (.node (hd.o236 P) .nil .nil) (.node (hd.o305 P) .nil .nil)))) (.node (hd.o61 P) (.node (hd.o80 P) (.node (hd.o114 P) (.node (hd.o186 P) (.node (hd.o329 P) .nil .nil) .nil) (.node (hd.o260 P) .nil .nil)) (.node (hd.o150 P) (.node (hd.o224 P) .nil .nil) (.node (hd.o294 P) .nil .nil))) (.node (hd.o98 P) (.node (hd.o132 P) (.node (hd.o208 P) (.node (hd.o347 P) .nil .nil) .nil) (.node (hd.o278 P) .nil .nil)) (.node (hd.o169 P) (.node (hd.o244 P) .nil .nil) (.node (hd.o313 P) .nil .nil))))) (.node (hd.o343 P) (.node (hd.o57 P) (.node (hd.o76 P) (.node (hd.o110 P) (.node (hd.o181 P) (.node (hd.o325 P) .nil .nil) .nil) (.node (hd.o256 P) .nil .nil)) (.node (hd.o146 P) (.node (hd.o220 P) (.node (hd.o359 P) .nil .nil) .nil) (.node (hd.o290 P) .nil .nil))) (.node (hd.o92 P) (.node (hd.o128 P) (.node (hd.o204 P) (.node (hd.o341 P) .nil .nil) .nil) (.node (hd.o272 P) .nil .nil)) (.node (hd.o162 P) (.node (hd.o240 P) .nil .nil) (.node (hd.o309 P) .nil .nil)))) (.node (hd.o65 P) (.node (hd.o84 P) (.node (hd.o120 P) (.node (hd.o196 P) (.node (hd.o333 P) .nil .nil) .nil) (.node (hd.o264 P) .nil .nil)) (.node (hd.o154 P) (.node (hd.o232 P) .nil .nil) (.node (hd.o301 P) .nil .nil))) (.node (hd.o102 P) (.node (hd.o136 P) (.node (hd.o212 P) (.node (hd.o351 P) .nil .nil) .nil) (.node (hd.o282 P) .nil .nil)) (.node (hd.o173 P) (.node (hd.o248 P) .nil .nil) (.node (hd.o317 P) .nil .nil)))))) (.node (boot_o_6 P) (.node (boot_o_10 P) (.node (hd.o55 P) (.node (hd.o71 P) (.node (hd.o108 P) (.node (hd.o179 P) (.node (hd.o323 P) .nil .nil) .nil) (.node (hd.o254 P) .nil .nil)) (.node (hd.o144 P) (.node (hd.o218 P) (.node (hd.o357 P) .nil .nil) .nil) (.node (hd.o288 P) .nil .nil))) (.node (hd.o90 P) (.node (hd.o126 P) (.node (hd.o202 P) (.node (hd.o339 P) .nil .nil) .nil) (.node (hd.o270 P) .nil .nil)) (.node (hd.o160 P) (.node (hd.o238 P) .nil .nil) (.node (hd.o307 P) .nil .nil)))) (.node (hd.o63 P) (.node (hd.o82 P) (.node (hd.o116 P) (.node (hd.o188 P) (.node (hd.o331 P) .nil .nil) .nil) (.node (hd.o262 P) .nil .nil)) (.node (hd.o152 P) (.node (hd.o226 P) .nil .nil) (.node (hd.o296 P) .nil .nil))) (.node (hd.o100 P) (.node (hd.o134 P) (.node (hd.o210 P) (.node (hd.o349 P) .nil .nil) .nil) (.node (hd.o280 P) .nil .nil)) (.node (hd.o171 P) (.node (hd.o246 P) .nil .nil) (.node (hd.o315 P) .nil .nil))))) (.node (hd.o46 P) (.node (hd.o59 P) (.node (hd.o78 P) (.node (hd.o194 P) (.node (hd.o183 P) (.node (hd.o327 P) .nil .nil) .nil) (.node (hd.o258 P) .nil .nil)) (.node (hd.o148 P) (.node (hd.o222 P) (.node (hd.o361 P) .nil .nil) .nil) (.node (hd.o299 P) .nil .nil))) (.node (hd.o96 P) (.node (hd.o130 P) (.node (hd.o206 P) (.node (hd.o345 P) .nil .nil) .nil) (.node (hd.o276 P) .nil .nil)) (.node (hd.o167 P) (.node (hd.o242 P) .nil .nil) (.node (hd.o311 P) .nil .nil)))) (.node (hd.o67 P) (.node (hd.o86 P) (.node (hd.o122 P) (.node (hd.o198 P) (.node (hd.o335 P) .nil .nil) .nil) (.node (hd.o266 P) .nil .nil)) (.node (hd.o156 P) (.node (hd.o234 P) .nil .nil) (.node (hd.o303 P) .nil .nil))) (.node (hd.o104 P) (.node (hd.o138 P) (.node (hd.o214 P) (.node (hd.o353 P) .nil .nil) .nil) (.node (hd.o284 P) .nil .nil)) (.node (hd.o175 P) (.node (hd.o250 P) .nil .nil) (.node (hd.o319 P) .nil .nil))))))))
noncomputable def hd.k49 : List Stmt := [hd.s 0, hd.s 1]
noncomputable def hd.k72 : List Stmt := [hd.s 2, hd.s 3]
noncomputable def hd.k94 : List Stmt := [hd.s 4]
noncomputable def hd.k117 : List Stmt := [hd.s 5, hd.s 6]
noncomputable def hd.k140 : List Stmt := [hd.s 7]
noncomputable def hd.k163 : List Stmt := [hd.s 8, hd.s 9, hd.s 10, hd.s 11, hd.s 12, hd.s 13, hd.s 14, hd.s 15]
noncomputable def hd.k185 : List Stmt := [hd.s 16]
noncomputable def hd.k192 : List Stmt := [hd.s 17, hd.s 18, hd.s 19, hd.s 20, hd.s 21, hd.s 22]
noncomputable def hd.k230 : List Stmt := [hd.s 23, hd.s 24, hd.s 25, hd.s 26, hd.s 27, hd.s 28, hd.s 29]
noncomputable def hd.k274 : List Stmt := [hd.s 30]
noncomputable def hd.k297 : List Stmt := [hd.s 31, hd.s 32, hd.s 33, hd.s 34, hd.s 35, hd.s 36, hd.s 37]
noncomputable def hd.k342 : List Stmt := [hd.s 38, hd.s 39, hd.s 40]
noncomputable def hd.env : Env := ⟨hd.p.main.scope, mainNs, mainNs, [], Str.empty, .none, (.ref 13), (.some 14), 0⟩
noncomputable def hd.h46 (P : Params) : Heap := ⟨⟨[(boot_o_0 P),(boot_o_1 P),(boot_o_2 P),(boot_o_3 P),(boot_o_4 P),(boot_o_5 P),(boot_o_6 P),(boot_o_7 P),(boot_o_8 P),(boot_o_9 P),(boot_o_10 P),(hd.o43 P),(hd.o44 P),(hd.o45 P),(hd.o46 P)]⟩,⟨[],[],[],0,[],[],.false,(#[]),[],0,.false,.false,.false,0,[2000,10,10],.false,0,.true,[],[],0,.false⟩⟩
noncomputable def hd.h363 (P : Params) : Heap := ⟨⟨[(boot_o_0 P),(boot_o_1 P),(hd.o49 P),(hd.o342 P),(boot_o_4 P),(boot_o_5 P),(boot_o_6 P),(boot_o_7 P),(boot_o_8 P),(boot_o_9 P),(boot_o_10 P),(hd.o43 P),(hd.o343 P),(hd.o45 P),(hd.o46 P),(hd.o52 P),(hd.o53 P),(hd.o54 P),(hd.o55 P),(hd.o56 P),(hd.o57 P),(hd.o58 P),(hd.o59 P),(hd.o60 P),(hd.o61 P),(hd.o62 P),(hd.o63 P),(hd.o64 P),(hd.o65 P),(hd.o66 P),(hd.o67 P),(hd.o74 P),(hd.o69 P),(hd.o70 P),(hd.o71 P),(hd.o75 P),(hd.o76 P),(hd.o77 P),(hd.o78 P),(hd.o79 P),(hd.o80 P),(hd.o81 P),(hd.o82 P),(hd.o83 P),(hd.o84 P),(hd.o85 P),(hd.o86 P),(hd.o87 P),(hd.o88 P),(hd.o89 P),(hd.o90 P),(hd.o91 P),(hd.o92 P),(hd.o93 P),(hd.o96 P),(hd.o97 P),(hd.o98 P),(hd.o99 P),(hd.o100 P),(hd.o101 P),(hd.o102 P),(hd.o103 P),(hd.o104 P),(hd.o105 P),(hd.o106 P),(hd.o107 P),(hd.o108 P),(hd.o109 P),(hd.o110 P),(hd.o111 P),(hd.o194 P),(hd.o113 P),(hd.o114 P),(hd.o115 P),(hd.o116 P),(hd.o119 P),(hd.o120 P),(hd.o121 P),(hd.o122 P),(hd.o123 P),(hd.o124 P),(hd.o125 P),(hd.o126 P),(hd.o127 P),(hd.o128 P),(hd.o129 P),(hd.o130 P),(hd.o131 P),(hd.o132 P),(hd.o133 P),(hd.o134 P),(hd.o135 P),(hd.o136 P),(hd.o137 P),(hd.o138 P),(hd.o139 P),(hd.o142 P),(hd.o143 P),(hd.o144 P),(hd.o145 P),(hd.o146 P),(hd.o147 P),(hd.o148 P),(hd.o149 P),(hd.o150 P),(hd.o151 P),(hd.o152 P),(hd.o153 P),(hd.o154 P),(hd.o155 P),(hd.o156 P),(hd.o157 P),(hd.o165 P),(hd.o159 P),(hd.o160 P),(hd.o161 P),(hd.o162 P),(hd.o166 P),(hd.o167 P),(hd.o168 P),(hd.o169 P),(hd.o170 P),(hd.o171 P),(hd.o172 P),(hd.o173 P),(hd.o174 P),(hd.o175 P),(hd.o176 P),(hd.o177 P),(hd.o178 P),(hd.o179 P),(hd.o180 P),(hd.o181 P),(hd.o182 P),(hd.o183 P),(hd.o184 P),(hd.o186 P),(hd.o187 P),(hd.o188 P),(hd.o195 P),(hd.o196 P),(hd.o197 P),(hd.o198 P),(hd.o199 P),(hd.o200 P),(hd.o201 P),(hd.o202 P),(hd.o203 P),(hd.o204 P),(hd.o205 P),(hd.o206 P),(hd.o207 P),(hd.o208 P),(hd.o209 P),(hd.o210 P),(hd.o211 P),(hd.o212 P),(hd.o213 P),(hd.o214 P),(hd.o215 P),(hd.o216 P),(hd.o217 P),(hd.o218 P),(hd.o219 P),(hd.o220 P),(hd.o221 P),(hd.o222 P),(hd.o223 P),(hd.o224 P),(hd.o225 P),(hd.o226 P),(hd.o227 P),(hd.o232 P),(hd.o233 P),(hd.o234 P),(hd.o235 P),(hd.o236 P),(hd.o237 P),(hd.o238 P),(hd.o239 P),(hd.o240 P),(hd.o241 P),(hd.o242 P),(hd.o243 P),(hd.o244 P),(hd.o245 P),(hd.o246 P),(hd.o247 P),(hd.o248 P),(hd.o249 P),(hd.o250 P),(hd.o251 P),(hd.o252 P),(hd.o253 P),(hd.o254 P),(hd.o255 P),(hd.o256 P),(hd.o257 P),(hd.o258 P),(hd.o259 P),(hd.o260 P),(hd.o261 P),(hd.o262 P),(hd.o263 P),(hd.o264 P),(hd.o265 P),(hd.o266 P),(hd.o267 P),(hd.o268 P),(hd.o269 P),(hd.o270 P),(hd.o271 P),(hd.o272 P),(hd.o273 P),(hd.o276 P),(hd.o277 P),(hd.o278 P),(hd.o279 P),(hd.o280 P),(hd.o281 P),(hd.o282 P),(hd.o283 P),(hd.o284 P),(hd.o285 P),(hd.o286 P),(hd.o287 P),(hd.o288 P),(hd.o289 P),(hd.o290 P),(hd.o291 P),(hd.o299 P),(hd.o293 P),(hd.o294 P),(hd.o295 P),(hd.o296 P),(hd.o300 P),(hd.o301 P),(hd.o302 P),(hd.o303 P),(hd.o304 P),(hd.o305 P),(hd.o306 P),(hd.o307 P),(hd.o308 P),(hd.o309 P),(hd.o310 P),(hd.o311 P),(hd.o312 P),(hd.o313 P),(hd.o314 P),(hd.o315 P),(hd.o316 P),(hd.o317 P),(hd.o318 P),(hd.o319 P),(hd.o320 P),(hd.o321 P),(hd.o322 P),(hd.o323 P),(hd.o324 P),(hd.o325 P),(hd.o326 P),(hd.o327 P),(hd.o328 P),(hd.o329 P),(hd.o330 P),(hd.o331 P),(hd.o332 P),(hd.o333 P),(hd.o334 P),(hd.o335 P),(hd.o336 P),(hd.o337 P),(hd.o338 P),(hd.o339 P),(hd.o340 P),(hd.o341 P),(hd.o344 P),(hd.o345 P),(hd.o346 P),(hd.o347 P),(hd.o348 P),(hd.o349 P),(hd.o350 P),(hd.o351 P),(hd.o352 P),(hd.o353 P),(hd.o354 P),(hd.o355 P),(hd.o356 P),(hd.o357 P),(hd.o358 P),(hd.o359 P),(hd.o360 P),(hd.o361 P),(hd.o362 P)]⟩,⟨[],[],[],0,[],[],.false,(#[]),[],0,.false,.false,.false,0,[2000,10,10],.false,0,.true,[],[],0,.false⟩⟩
noncomputable def hd.heap_39 (P : Params) : Frag := (nat_lit 2, hd.o49 P) :: (nat_lit 3, hd.o342 P) :: (nat_lit 15, hd.o52 P) :: (nat_lit 22, hd.o59 P) :: (nat_lit 24, hd.o61 P) :: (nat_lit 25, hd.o62 P) :: (nat_lit 27, hd.o64 P) :: (nat_lit 28, hd.o65 P) :: (nat_lit 29, hd.o66 P) :: (nat_lit 30, hd.o67 P) :: (nat_lit 31, hd.o74 P) :: (nat_lit 32, hd.o69 P) :: (nat_lit 35, hd.o75 P) :: (nat_lit 42, hd.o82 P) :: (nat_lit 44, hd.o84 P) :: (nat_lit 45, hd.o85 P) :: (nat_lit 47, hd.o87 P) :: (nat_lit 48, hd.o88 P) :: (nat_lit 49, hd.o89 P) :: (nat_lit 50, hd.o90 P) :: (nat_lit 51, hd.o91 P) :: (nat_lit 61, hd.o103 P) :: (nat_lit 63, hd.o105 P) :: (nat_lit 64, hd.o106 P) :: (nat_lit 66, hd.o108 P) :: (nat_lit 67, hd.o109 P) :: (nat_lit 68, hd.o110 P) :: (nat_lit 69, hd.o111 P) :: (nat_lit 70, hd.o194 P) :: (nat_lit 71, hd.o113 P) :: (nat_lit 72, hd.o114 P) :: (nat_lit 82, hd.o126 P) :: (nat_lit 84, hd.o128 P) :: (nat_lit 85, hd.o129 P) :: (nat_lit 87, hd.o131 P) :: (nat_lit 88, hd.o132 P) :: (nat_lit 89, hd.o133 P) :: (nat_lit 90, hd.o134 P) :: (nat_lit 91, hd.o135 P) :: (nat_lit 92, hd.o136 P) :: (nat_lit 93, hd.o137 P) :: (nat_lit 103, hd.o149 P) :: (nat_lit 105, hd.o151 P) :: (nat_lit 106, hd.o152 P) :: (nat_lit 108, hd.o154 P) :: (nat_lit 109, hd.o155 P) :: (nat_lit 110, hd.o156 P) :: (nat_lit 111, hd.o157 P) :: (nat_lit 112, hd.o165 P) :: (nat_lit 113, hd.o159 P) :: (nat_lit 114, hd.o160 P) :: (nat_lit 117, hd.o166 P) :: (nat_lit 124, hd.o173 P) :: (nat_lit 126, hd.o175 P) :: (nat_lit 127, hd.o176 P) :: (nat_lit 129, hd.o178 P) :: (nat_lit 130, hd.o179 P) :: (nat_lit 131, hd.o180 P) :: (nat_lit 132, hd.o181 P) :: (nat_lit 133, hd.o182 P) :: (nat_lit 136, hd.o186 P) :: (nat_lit 139, hd.o195 P) :: (nat_lit 140, hd.o196 P) :: (nat_lit 141, hd.o197 P) :: (nat_lit 148, hd.o204 P) :: (nat_lit 150, hd.o206 P) :: (nat_lit 151, hd.o207 P) :: (nat_lit 153, hd.o209 P) :: (nat_lit 154, hd.o210 P) :: (nat_lit 155, hd.o211 P) :: (nat_lit 156, hd.o212 P) :: (nat_lit 157, hd.o213 P) :: (nat_lit 160, hd.o216 P) :: (nat_lit 163, hd.o219 P) :: (nat_lit 164, hd.o220 P) :: (nat_lit 165, hd.o221 P) :: (nat_lit 167, hd.o223 P) :: (nat_lit 168, hd.o224 P) :: (nat_lit 170, hd.o226 P) :: (nat_lit 171, hd.o227 P) :: (nat_lit 172, hd.o232 P) :: (nat_lit 174, hd.o234 P) :: (nat_lit 175, hd.o235 P) :: (nat_lit 177, hd.o237 P) :: (nat_lit 178, hd.o238 P) :: (nat_lit 179, hd.o239 P) :: (nat_lit 181, hd.o241 P) :: (nat_lit 182, hd.o242 P) :: (nat_lit 184, hd.o244 P) :: (nat_lit 185, hd.o245 P) :: (nat_lit 186, hd.o246 P) :: (nat_lit 188, hd.o248 P) :: (nat_lit 189, hd.o249 P) :: (nat_lit 191, hd.o251 P) :: (nat_lit 192, hd.o252 P) :: (nat_lit 193, hd.o253 P) :: (nat_lit 195, hd.o255 P) :: (nat_lit 196, hd.o256 P) :: (nat_lit 198, hd.o258 P) :: (nat_lit 199, hd.o259 P) :: (nat_lit 200, hd.o260 P) :: (nat_lit 202, hd.o262 P) :: (nat_lit 203, hd.o263 P) :: (nat_lit 205, hd.o265 P) :: (nat_lit 206, hd.o266 P) :: (nat_lit 207, hd.o267 P) :: (nat_lit 209, hd.o269 P) :: (nat_lit 210, hd.o270 P) :: (nat_lit 212, hd.o272 P) :: (nat_lit 213, hd.o273 P) :: (nat_lit 221, hd.o283 P) :: (nat_lit 223, hd.o285 P) :: (nat_lit 224, hd.o286 P) :: (nat_lit 226, hd.o288 P) :: (nat_lit 227, hd.o289 P) :: (nat_lit 228, hd.o290 P) :: (nat_lit 229, hd.o291 P) :: (nat_lit 230, hd.o299 P) :: (nat_lit 231, hd.o293 P) :: (nat_lit 232, hd.o294 P) :: (nat_lit 235, hd.o300 P) :: (nat_lit 242, hd.o307 P) :: (nat_lit 244, hd.o309 P) :: (nat_lit 245, hd.o310 P) :: (nat_lit 247, hd.o312 P) :: (nat_lit 248, hd.o313 P) :: (nat_lit 249, hd.o314 P) :: (nat_lit 250, hd.o315 P) :: (nat_lit 251, hd.o316 P) :: (nat_lit 254, hd.o319 P) :: (nat_lit 255, hd.o320 P) :: (nat_lit 257, hd.o322 P) :: (nat_lit 258, hd.o323 P) :: (nat_lit 260, hd.o325 P) :: (nat_lit 261, hd.o326 P) :: (nat_lit 262, hd.o327 P) :: (nat_lit 265, hd.o330 P) :: (nat_lit 266, hd.o331 P) :: (nat_lit 267, hd.o332 P) :: (nat_lit 270, hd.o335 P) :: (nat_lit 271, hd.o336 P) :: (nat_lit 272, hd.o337 P) :: (nat_lit 275, hd.o340 P) :: (nat_lit 276, hd.o341 P) :: (nat_lit 277, hd.o344 P) :: (nat_lit 279, hd.o346 P) :: (nat_lit 280, hd.o347 P) :: (nat_lit 282, hd.o349 P) :: (nat_lit 283, hd.o350 P) :: (nat_lit 284, hd.o351 P) :: (nat_lit 286, hd.o353 P) :: (nat_lit 287, hd.o354 P) :: (nat_lit 289, hd.o356 P) :: (nat_lit 290, hd.o357 P) :: (nat_lit 291, hd.o358 P) :: (nat_lit 294, hd.o361 P) :: (nat_lit 295, hd.o362 P) :: []
noncomputable def hd.view_39 : Program := ⟨⟨[hd.s 1, hd.s 2, hd.s 4, hd.s 5, hd.s 7, hd.s 8, hd.s 10, hd.s 11, hd.s 12, hd.s 13, hd.s 14, hd.s 15, hd.s 16, hd.s 17, hd.s 18, hd.s 19, hd.s 20, hd.s 21, hd.s 22, hd.s 23, hd.s 24, hd.s 25, hd.s 26, hd.s 27, hd.s 28, hd.s 30, hd.s 31, hd.s 33, hd.s 34, hd.s 35, hd.s 36, hd.s 37, hd.s 38, hd.s 39, hd.s 40], hd.p.main.scope, hd.p.main.futureAnnotations, hd.p.main.file, hd.p.main.more⟩, hd.p.modules, hd.p.parses, hd.p.absent, hd.p.harvested, hd.p.given⟩
theorem hd.q72 : ∀ w : World, (fun os => segRunT treeTable hd.p w 11 (some (.ref 6)) 1 238 { tree := hd.t47 w.params, n := 15, life := {}, gens := #[], drawn := {}, toks := 187, os := os } (piecesOf hd.k49 hd.env (.body (behindTheImports hd.p) hd.env) ⟨0,0,0,0⟩ [topFrame ⟨0,0,0,0⟩])) = fun os => some (Flow.next, { tree := hd.t71 w.params, n := 35, life := {}, gens := #[], drawn := {}, toks := 218, os := os }, (.body (behindTheImports hd.p) hd.env), ⟨2,0,6,24⟩) := by
  intro w
  rw [PySem.W.Fast.te10110043849684766642, PySem.W.Fast.te14364793385576792824]
  kernel_rfl
theorem hd.q94 : ∀ w : World, (fun os => segRunT treeTable hd.p w 11 (some (.ref 6)) 1 255 { tree := hd.t71 w.params, n := 35, life := {}, gens := #[], drawn := {}, toks := 218, os := os } (piecesOf hd.k72 hd.env (.body (behindTheImports hd.p) hd.env) ⟨2,0,6,24⟩ [topFrame ⟨0,0,0,0⟩])) = fun os => some (Flow.next, { tree := hd.t93 w.params, n := 54, life := {}, gens := #[], drawn := {}, toks := 245, os := os }, (.body (behindTheImports hd.p) hd.env), ⟨12,0,12,8⟩) := by
  intro w
  rw [PySem.W.Fast.te10110043849684766642, PySem.W.Fast.te14364793385576792824]
  kernel_rfl
theorem hd.q117 : ∀ w : World, (fun os => segRunT treeTable hd.p w 11 (some (.ref 6)) 1 233 { tree := hd.t93 w.params, n := 54, life := {}, gens := #[], drawn := {}, toks := 245, os := os } (piecesOf hd.k94 hd.env (.body (behindTheImports hd.p) hd.env) ⟨12,0,12,8⟩ [topFrame ⟨0,0,0,0⟩])) = fun os => some (Flow.next, { tree := hd.t116 w.params, n := 75, life := {}, gens := #[], drawn := {}, toks := 284, os := os }, (.body (behindTheImports hd.p) hd.env), ⟨13,0,21,24⟩) := by
  intro w
  rw [PySem.W.Fast.te10110043849684766642, PySem.W.Fast.te14364793385576792824]
  kernel_rfl
theorem hd.q140 : ∀ w : World, (fun os => segRunT treeTable hd.p w 11 (some (.ref 6)) 1 253 { tree := hd.t116 w.params, n := 75, life := {}, gens := #[], drawn := {}, toks := 284, os := os } (piecesOf hd.k117 hd.env (.body (behindTheImports hd.p) hd.env) ⟨13,0,21,24⟩ [topFrame ⟨0,0,0,0⟩])) = fun os => some (Flow.next, { tree := hd.t139 w.params, n := 96, life := {}, gens := #[], drawn := {}, toks := 336, os := os }, (.body (behindTheImports hd.p) hd.env), ⟨44,0,44,8⟩) := by
  intro w
  rw [PySem.W.Fast.te10110043849684766642, PySem.W.Fast.te14364793385576792824]
  kernel_rfl
theorem hd.q163 : ∀ w : World, (fun os => segRunT treeTable hd.p w 11 (some (.ref 6)) 1 231 { tree := hd.t139 w.params, n := 96, life := {}, gens := #[], drawn := {}, toks := 336, os := os } (piecesOf hd.k140 hd.env (.body (behindTheImports hd.p) hd.env) ⟨44,0,44,8⟩ [topFrame ⟨0,0,0,0⟩])) = fun os => some (Flow.next, { tree := hd.t162 w.params, n := 117, life := {}, gens := #[], drawn := {}, toks := 373, os := os }, (.body (behindTheImports hd.p) hd.env), ⟨45,0,52,24⟩) := by
  intro w
  rw [PySem.W.Fast.te10110043849684766642, PySem.W.Fast.te14364793385576792824]
  kernel_rfl
theorem hd.q185 : ∀ w : World, (fun os => segRunT treeTable hd.p w 11 (some (.ref 6)) 1 314 { tree := hd.t162 w.params, n := 117, life := {}, gens := #[], drawn := {}, toks := 373, os := os } (piecesOf hd.k163 hd.env (.body (behindTheImports hd.p) hd.env) ⟨45,0,52,24⟩ [topFrame ⟨0,0,0,0⟩])) = fun os => some (Flow.next, { tree := hd.t184 w.params, n := 136, life := {}, gens := #[], drawn := {}, toks := 417, os := os }, (.body (behindTheImports hd.p) hd.env), ⟨64,0,64,12⟩) := by
  intro w
  rw [PySem.W.Fast.te10110043849684766642, PySem.W.Fast.te14364793385576792824]
  kernel_rfl
theorem hd.q189 : ∀ w : World, (fun os => segRunT treeTable hd.p (w.withFollow "special-get-raises" false) 11 (some (.ref 6)) 1 763 { tree := hd.t184 (w.withFollow "special-get-raises" false).params, n := 136, life := {}, gens := #[], drawn := {}, toks := 417, os := os } (piecesOf hd.k185 hd.env (.body (behindTheImports hd.p) hd.env) ⟨64,0,64,12⟩ [topFrame ⟨0,0,0,0⟩])) = fun os => some (Flow.next, { tree := hd.t188 (w.withFollow "special-get-raises" false).params, n := 139, life := {}, gens := #[], drawn := {}, toks := 538, os := os }, (.body (behindTheImports hd.p) hd.env), ⟨65,0,65,7⟩) := by
  intro w
  rw [PySem.W.Fast.te10110043849684766642, PySem.W.Fast.te14364793385576792824]
  kernel_rfl
theorem hd.q191 : ∀ w : World, (fun os => segRunT treeTable hd.p (w.withFollow "special-get-raises" true) 11 (some (.ref 6)) 1 763 { tree := hd.t184 (w.withFollow "special-get-raises" true).params, n := 136, life := {}, gens := #[], drawn := {}, toks := 417, os := os } (piecesOf hd.k185 hd.env (.body (behindTheImports hd.p) hd.env) ⟨64,0,64,12⟩ [topFrame ⟨0,0,0,0⟩])) = fun os => some (Flow.next, { tree := hd.t188 (w.withFollow "special-get-raises" true).params, n := 139, life := {}, gens := #[], drawn := {}, toks := 538, os := os }, (.body (behindTheImports hd.p) hd.env), ⟨65,0,65,7⟩) := by
  intro w
  rw [PySem.W.Fast.te10110043849684766642, PySem.W.Fast.te14364793385576792824]
  kernel_rfl
theorem hd.q189b : ∀ w : World, (fun os => segRunT treeTable hd.p w 11 (some (.ref 6)) 1 763 { tree := hd.t184 w.params, n := 136, life := {}, gens := #[], drawn := {}, toks := 417, os := os } (piecesOf hd.k185 hd.env (.body (behindTheImports hd.p) hd.env) ⟨64,0,64,12⟩ [topFrame ⟨0,0,0,0⟩])) = fun os => some (Flow.next, { tree := hd.t188 w.params, n := 139, life := {}, gens := #[], drawn := {}, toks := 538, os := os }, (.body (behindTheImports hd.p) hd.env), ⟨65,0,65,7⟩) := fun w => byRow2 "special-get-raises" (P := fun w => (fun os => segRunT treeTable hd.p w 11 (some (.ref 6)) 1 763 { tree := hd.t184 w.params, n := 136, life := {}, gens := #[], drawn := {}, toks := 417, os := os } (piecesOf hd.k185 hd.env (.body (behindTheImports hd.p) hd.env) ⟨64,0,64,12⟩ [topFrame ⟨0,0,0,0⟩])) = fun os => some (Flow.next, { tree := hd.t188 w.params, n := 139, life := {}, gens := #[], drawn := {}, toks := 538, os := os }, (.body (behindTheImports hd.p) hd.env), ⟨65,0,65,7⟩)) hd.q189 hd.q191 w
theorem hd.q228 : ∀ w : World, (fun os => segRunT treeTable hd.p (w.withFollow "special-get-raises" false) 11 (some (.ref 6)) 1 399 { tree := hd.t188 (w.withFollow "special-get-raises" false).params, n := 139, life := {}, gens := #[], drawn := {}, toks := 538, os := os } (piecesOf hd.k192 hd.env (.body (behindTheImports hd.p) hd.env) ⟨65,0,65,7⟩ [topFrame ⟨0,0,0,0⟩])) = fun os => some (Flow.next, { tree := hd.t227 (w.withFollow "special-get-raises" false).params, n := 172, life := {}, gens := #[], drawn := {}, toks := 601, os := os }, (.body (behindTheImports hd.p) hd.env), ⟨92,0,95,79⟩) := by
  intro w
  rw [PySem.W.Fast.te10110043849684766642, PySem.W.Fast.te14364793385576792824]
  kernel_rfl
theorem hd.q230 : ∀ w : World, (fun os => segRunT treeTable hd.p (w.withFollow "special-get-raises" true) 11 (some (.ref 6)) 1 399 { tree := hd.t188 (w.withFollow "special-get-raises" true).params, n := 139, life := {}, gens := #[], drawn := {}, toks := 538, os := os } (piecesOf hd.k192 hd.env (.body (behindTheImports hd.p) hd.env) ⟨65,0,65,7⟩ [topFrame ⟨0,0,0,0⟩])) = fun os => some (Flow.next, { tree := hd.t227 (w.withFollow "special-get-raises" true).params, n := 172, life := {}, gens := #[], drawn := {}, toks := 601, os := os }, (.body (behindTheImports hd.p) hd.env), ⟨92,0,95,79⟩) := by
  intro w
  rw [PySem.W.Fast.te10110043849684766642, PySem.W.Fast.te14364793385576792824]
  kernel_rfl
theorem hd.q228b : ∀ w : World, (fun os => segRunT treeTable hd.p w 11 (some (.ref 6)) 1 399 { tree := hd.t188 w.params, n := 139, life := {}, gens := #[], drawn := {}, toks := 538, os := os } (piecesOf hd.k192 hd.env (.body (behindTheImports hd.p) hd.env) ⟨65,0,65,7⟩ [topFrame ⟨0,0,0,0⟩])) = fun os => some (Flow.next, { tree := hd.t227 w.params, n := 172, life := {}, gens := #[], drawn := {}, toks := 601, os := os }, (.body (behindTheImports hd.p) hd.env), ⟨92,0,95,79⟩) := fun w => byRow2 "special-get-raises" (P := fun w => (fun os => segRunT treeTable hd.p w 11 (some (.ref 6)) 1 399 { tree := hd.t188 w.params, n := 139, life := {}, gens := #[], drawn := {}, toks := 538, os := os } (piecesOf hd.k192 hd.env (.body (behindTheImports hd.p) hd.env) ⟨65,0,65,7⟩ [topFrame ⟨0,0,0,0⟩])) = fun os => some (Flow.next, { tree := hd.t227 w.params, n := 172, life := {}, gens := #[], drawn := {}, toks := 601, os := os }, (.body (behindTheImports hd.p) hd.env), ⟨92,0,95,79⟩)) hd.q228 hd.q230 w
theorem hd.q274 : ∀ w : World, (fun os => segRunT treeTable hd.p w 11 (some (.ref 6)) 1 197 { tree := hd.t227 w.params, n := 172, life := {}, gens := #[], drawn := {}, toks := 601, os := os } (piecesOf hd.k230 hd.env (.body (behindTheImports hd.p) hd.env) ⟨92,0,95,79⟩ [topFrame ⟨0,0,0,0⟩])) = fun os => some (Flow.next, { tree := hd.t273 w.params, n := 214, life := {}, gens := #[], drawn := {}, toks := 658, os := os }, (.body (behindTheImports hd.p) hd.env), ⟨131,0,131,8⟩) := by
  intro w
  rw [PySem.W.Fast.te10110043849684766642, PySem.W.Fast.te14364793385576792824]
  kernel_rfl
theorem hd.q297 : ∀ w : World, (fun os => segRunT treeTable hd.p w 11 (some (.ref 6)) 1 228 { tree := hd.t273 w.params, n := 214, life := {}, gens := #[], drawn := {}, toks := 658, os := os } (piecesOf hd.k274 hd.env (.body (behindTheImports hd.p) hd.env) ⟨131,0,131,8⟩ [topFrame ⟨0,0,0,0⟩])) = fun os => some (Flow.next, { tree := hd.t296 w.params, n := 235, life := {}, gens := #[], drawn := {}, toks := 692, os := os }, (.body (behindTheImports hd.p) hd.env), ⟨132,0,140,29⟩) := by
  intro w
  rw [PySem.W.Fast.te10110043849684766642, PySem.W.Fast.te14364793385576792824]
  kernel_rfl
theorem hd.q342 : ∀ w : World, (fun os => segRunT treeTable hd.p w 11 (some (.ref 6)) 1 392 { tree := hd.t296 w.params, n := 235, life := {}, gens := #[], drawn := {}, toks := 692, os := os } (piecesOf hd.k297 hd.env (.body (behindTheImports hd.p) hd.env) ⟨132,0,140,29⟩ [topFrame ⟨0,0,0,0⟩])) = fun os => some (Flow.next, { tree := hd.t341 w.params, n := 277, life := {}, gens := #[], drawn := {}, toks := 765, os := os }, (.body (behindTheImports hd.p) hd.env), ⟨170,0,181,96⟩) := by
  intro w
  rw [PySem.W.Fast.te10110043849684766642, PySem.W.Fast.te14364793385576792824]
  kernel_rfl
theorem hd.q363 : ∀ w : World, (fun os => segRunT treeTable hd.p w 11 (some (.ref 6)) 1 88 { tree := hd.t341 w.params, n := 277, life := {}, gens := #[], drawn := {}, toks := 765, os := os } (piecesOf hd.k342 hd.env (.body (behindTheImports hd.p) hd.env) ⟨170,0,181,96⟩ [topFrame ⟨0,0,0,0⟩])) = fun os => some (Flow.next, { tree := hd.t362 w.params, n := 296, life := {}, gens := #[], drawn := {}, toks := 788, os := os }, (.body (behindTheImports hd.p) hd.env), ⟨191,0,237,85⟩) := by
  intro w
  rw [PySem.W.Fast.te10110043849684766642, PySem.W.Fast.te14364793385576792824]
  kernel_rfl
theorem hd.q47 : ∀ (w : World) (os : OsState), topGo treeTable hd.p w 11 (some (.ref 6)) 12 { heap := boot_heap w.params, gens := #[], drawn := boot_drawn, toks := boot_toks, os := os } (topStub hd.p) = some ({ heap := hd.h46 w.params, gens := #[], drawn := {}, toks := 187, os := os }, { cur := denote treeTable (.body (behindTheImports hd.p) hd.env), code := (.body (behindTheImports hd.p) hd.env), pos := ⟨0,0,0,0⟩, stack := [topFrame ⟨0,0,0,0⟩] }) := by
  intro w os
  kernel_rfl
theorem hd.q49 : ∀ (w : World) (os : OsState), segRun treeTable hd.p w 11 (some (.ref 6)) 1 1 { heap := hd.h46 w.params, gens := #[], drawn := {}, toks := 187, os := os } (blockOf (behindTheImports hd.p) hd.env (.body (behindTheImports hd.p) hd.env) ⟨0,0,0,0⟩ [topFrame ⟨0,0,0,0⟩]) = some (Flow.next, ({ tree := hd.t47 w.params, n := 15, life := {}, gens := #[], drawn := {}, toks := 187, os := os } : SharedT).abs, (.body (behindTheImports hd.p) hd.env), ⟨0,0,0,0⟩) := by
  intro w os
  kernel_rfl
theorem hd.q365 : ∀ (w : World) (os : OsState), topRun treeTable hd.p w 11 (some (.ref 6)) 2 ({ tree := hd.t362 w.params, n := 296, life := {}, gens := #[], drawn := {}, toks := 788, os := os } : SharedT).abs (restOf [] hd.env (.body (behindTheImports hd.p) hd.env) ⟨191,0,237,85⟩ [topFrame ⟨0,0,0,0⟩]) = some { heap := hd.h363 w.params, gens := #[], drawn := {}, toks := 788, os := os } := by
  intro w os
  kernel_rfl
theorem hd.qb : behindTheImports hd.p = (hd.k49 ++ (hd.k72 ++ (hd.k94 ++ (hd.k117 ++ (hd.k140 ++ (hd.k163 ++ (hd.k185 ++ (hd.k192 ++ (hd.k230 ++ (hd.k274 ++ (hd.k297 ++ (hd.k342 ++ [])))))))))))) := by kernel_rfl
theorem hd.q366 (w : World) (os : OsState) : topRun treeTable hd.p w 11 (some (.ref 6)) (Nat.add 12 (Nat.add 1 (Nat.add 238 (Nat.add 255 (Nat.add 233 (Nat.add 253 (Nat.add 231 (Nat.add 314 (Nat.add 763 (Nat.add 399 (Nat.add 197 (Nat.add 228 (Nat.add 392 (Nat.add 88 2)))))))))))))) { heap := boot_heap w.params, gens := #[], drawn := boot_drawn, toks := boot_toks, os := os } (topStub hd.p) = some { heap := hd.h363 w.params, gens := #[], drawn := {}, toks := 788, os := os } := by
  refine go_top (hd.q47 w os) (piece_block (hd.q49 w os) ?_)
  rw [show restOf (behindTheImports hd.p) hd.env (.body (behindTheImports hd.p) hd.env) ⟨0,0,0,0⟩ [topFrame ⟨0,0,0,0⟩] = restOf (hd.k49 ++ (hd.k72 ++ (hd.k94 ++ (hd.k117 ++ (hd.k140 ++ (hd.k163 ++ (hd.k185 ++ (hd.k192 ++ (hd.k230 ++ (hd.k274 ++ (hd.k297 ++ (hd.k342 ++ [])))))))))))) hd.env (.body (behindTheImports hd.p) hd.env) ⟨0,0,0,0⟩ [topFrame ⟨0,0,0,0⟩] from congrArg (fun l => restOf l hd.env (.body (behindTheImports hd.p) hd.env) ⟨0,0,0,0⟩ [topFrame ⟨0,0,0,0⟩]) hd.qb]
  exact piece_app (l := hd.k49) (rest := (hd.k72 ++ (hd.k94 ++ (hd.k117 ++ (hd.k140 ++ (hd.k163 ++ (hd.k185 ++ (hd.k192 ++ (hd.k230 ++ (hd.k274 ++ (hd.k297 ++ (hd.k342 ++ [])))))))))))) (segRun_of (congrFun (hd.q72 w) os)) (piece_app (l := hd.k72) (rest := (hd.k94 ++ (hd.k117 ++ (hd.k140 ++ (hd.k163 ++ (hd.k185 ++ (hd.k192 ++ (hd.k230 ++ (hd.k274 ++ (hd.k297 ++ (hd.k342 ++ []))))))))))) (segRun_of (congrFun (hd.q94 w) os)) (piece_app (l := hd.k94) (rest := (hd.k117 ++ (hd.k140 ++ (hd.k163 ++ (hd.k185 ++ (hd.k192 ++ (hd.k230 ++ (hd.k274 ++ (hd.k297 ++ (hd.k342 ++ [])))))))))) (segRun_of (congrFun (hd.q117 w) os)) (piece_app (l := hd.k117) (rest := (hd.k140 ++ (hd.k163 ++ (hd.k185 ++ (hd.k192 ++ (hd.k230 ++ (hd.k274 ++ (hd.k297 ++ (hd.k342 ++ []))))))))) (segRun_of (congrFun (hd.q140 w) os)) (piece_app (l := hd.k140) (rest := (hd.k163 ++ (hd.k185 ++ (hd.k192 ++ (hd.k230 ++ (hd.k274 ++ (hd.k297 ++ (hd.k342 ++ [])))))))) (segRun_of (congrFun (hd.q163 w) os)) (piece_app (l := hd.k163) (rest := (hd.k185 ++ (hd.k192 ++ (hd.k230 ++ (hd.k274 ++ (hd.k297 ++ (hd.k342 ++ []))))))) (segRun_of (congrFun (hd.q185 w) os)) (piece_app (l := hd.k185) (rest := (hd.k192 ++ (hd.k230 ++ (hd.k274 ++ (hd.k297 ++ (hd.k342 ++ [])))))) (segRun_of (congrFun (hd.q189b w) os)) (piece_app (l := hd.k192) (rest := (hd.k230 ++ (hd.k274 ++ (hd.k297 ++ (hd.k342 ++ []))))) (segRun_of (congrFun (hd.q228b w) os)) (piece_app (l := hd.k230) (rest := (hd.k274 ++ (hd.k297 ++ (hd.k342 ++ [])))) (segRun_of (congrFun (hd.q274 w) os)) (piece_app (l := hd.k274) (rest := (hd.k297 ++ (hd.k342 ++ []))) (segRun_of (congrFun (hd.q297 w) os)) (piece_app (l := hd.k297) (rest := (hd.k342 ++ [])) (segRun_of (congrFun (hd.q342 w) os)) (piece_app (l := hd.k342) (rest := []) (segRun_of (congrFun (hd.q363 w) os)) (hd.q365 w os))))))))))))
theorem hd.as : ∀ P : Params, [2,3,15,22,24,25,27,28,29,30,31,32,35,42,44,45,47,48,49,50,51,61,63,64,66,67,68,69,70,71,72,82,84,85,87,88,89,90,91,92,93,103,105,106,108,109,110,111,112,113,114,117,124,126,127,129,130,131,132,133,136,139,140,141,148,150,151,153,154,155,156,157,160,163,164,165,167,168,170,171,172,174,175,177,178,179,181,182,184,185,186,188,189,191,192,193,195,196,198,199,200,202,203,205,206,207,209,210,212,213,221,223,224,226,227,228,229,230,231,232,235,242,244,245,247,248,249,250,251,254,255,257,258,260,261,262,265,266,267,270,271,272,275,276,277,279,280,282,283,284,286,287,289,290,291,294,295] = (hd.heap_39 P).map (·.1) := fun P => by kernel_rfl
noncomputable abbrev hd.hk : Hook := kmHook hd.heap_39 [2,3,15,22,24,25,27,28,29,30,31,32,35,42,44,45,47,48,49,50,51,61,63,64,66,67,68,69,70,71,72,82,84,85,87,88,89,90,91,92,93,103,105,106,108,109,110,111,112,113,114,117,124,126,127,129,130,131,132,133,136,139,140,141,148,150,151,153,154,155,156,157,160,163,164,165,167,168,170,171,172,174,175,177,178,179,181,182,184,185,186,188,189,191,192,193,195,196,198,199,200,202,203,205,206,207,209,210,212,213,221,223,224,226,227,228,229,230,231,232,235,242,244,245,247,248,249,250,251,254,255,257,258,260,261,262,265,266,267,270,271,272,275,276,277,279,280,282,283,284,286,287,289,290,291,294,295] hd.as [292]
theorem hd.ws : PySem.Challenge.rw_qz0087_01.wellSaid = true := by kernel_rfl
theorem hd.q40 : (chainsOk hd.view_39 && opensWell PySem.Challenge.rw_qz0087_01.row.prog && (frees PySem.Challenge.rw_qz0087_01.row.toRowW && PySem.Challenge.rw_qz0087_01.row.within.isEmpty)) = true := by kernel_rfl
theorem hd.q42 : opening hd.p = plainProg hd.p.main.scope.names := by kernel_rfl
theorem hd.q43 : ∀ (s : Shared), fenceModules? hd.p s = some s := by intro s; kernel_rfl
theorem hd.q368 : ∀ w : World, ((boot_heap w.params).isNs mainGlobals && (#[] : Array GenState).size == 0, (boot_heap w.params).objs.size, (boot_heap w.params).nsMap mainGlobals (Str.ofString "__annotations__")) = (true, 11, some (Value.ref 6)) := by intro w; kernel_rfl
theorem hd.q41 : PySem.Challenge.rw_qz0087_01.row.prog.tablesWhole = true := by kernel_rfl
theorem hd.q401 : PySem.Challenge.rw_qz0087_01.row.claim.pre [WData.list []] = true := by kernel_rfl
theorem hd.q402 : (WData.layableAll [WData.list []] && PySem.Challenge.rw_qz0087_01.row.returnsAt [WData.list []]) = true := by kernel_rfl
theorem hd.q400 (w : World) : (fun os => (staticsOk (importedModules hd.p.main.body) (boot_heap w.params) (hd.h363 w.params) && namesBound hd.p (hd.h363 w.params) && gensDone { heap := hd.h363 w.params, gens := #[], drawn := {}, toks := 788, os := os } && laidKept (boot_heap w.params) (hd.h363 w.params), openSeen hd.view_39 [Str.ofString "WEIGHTS", Str.ofString "CALLING"] (importedModules hd.p.main.body) (fun s => xlAt hd.view_39 [] s && recOk PySem.Challenge.rw_qz0087_01.row.records s) true { heap := hd.h363 w.params, gens := #[], drawn := {}, toks := 788, os := os }, hd.hk.obs { heap := hd.h363 w.params, gens := #[], drawn := {}, toks := 788, os := os })) = fun _ => (true, openGood hd.view_39 [Str.ofString "WEIGHTS", Str.ofString "CALLING"], hd.hk.val w) := by kernel_rfl
abbrev hd.law : DefRec := ⟨Str.ofString "law", defP (hd.s 40), defB (hd.s 40), defS (hd.s 40), ⟨191,0,237,85⟩⟩
theorem hd : (WalkO hd.view_39 [Str.ofString "WEIGHTS", Str.ofString "CALLING"] (XL hd.view_39 []) (kmHook hd.heap_39 [2,3,15,22,24,25,27,28,29,30,31,32,35,42,44,45,47,48,49,50,51,61,63,64,66,67,68,69,70,71,72,82,84,85,87,88,89,90,91,92,93,103,105,106,108,109,110,111,112,113,114,117,124,126,127,129,130,131,132,133,136,139,140,141,148,150,151,153,154,155,156,157,160,163,164,165,167,168,170,171,172,174,175,177,178,179,181,182,184,185,186,188,189,191,192,193,195,196,198,199,200,202,203,205,206,207,209,210,212,213,221,223,224,226,227,228,229,230,231,232,235,242,244,245,247,248,249,250,251,254,255,257,258,260,261,262,265,266,267,270,271,272,275,276,277,279,280,282,283,284,286,287,289,290,291,294,295] hd.as [292]).says PySem.Challenge.rw_qz0087_01.row.toRowW hd.law [] fun f vs => PySem.call f vs) → PySem.Challenge.rw_qz0087_01.Holds := fun walk =>
  holds_law hd.ws fun said => PySem.W.holds_open (LeftO.of_pieces (N := 7306) (M := (Nat.add 12 (Nat.add 1 (Nat.add 238 (Nat.add 255 (Nat.add 233 (Nat.add 253 (Nat.add 231 (Nat.add 314 (Nat.add 763 (Nat.add 399 (Nat.add 197 (Nat.add 228 (Nat.add 392 (Nat.add 88 2))))))))))))))) (boot_open hd.q42 (by decide) hd.q43) hd.q368 hd.q366 (by kernel_rfl) hd.q400) hd.hk.of hd.hk.keeps (fun s e => xl_of s (Bool.and_eq_true_iff.mp e).1) XL.keeps (by kernel_rfl) (by kernel_rfl) (by kernel_rfl) (fun s e => recFacts_of (Bool.and_eq_true_iff.mp e).2) (by kernel_rfl) said hd.q40 ⟨rfl, rfl, rfl, rfl, rfl, hd.q41⟩ ⟨[WData.list []], hd.q401, hd.q402⟩ walk
end
open PySem.Calls PySem.Spec
theorem zc {α : Type} {P : α → Prop} {a : α} {l : List α} (h : P a) (t : ∀ b ∈ l, P b) : ∀ b ∈ a :: l, P b := List.forall_mem_cons.mpr ⟨h, t⟩
theorem zd {α : Type} {P : α → Prop} {a b c d : α} {l : List α} (h1 : P a) (h2 : P b) (h3 : P c) (h4 : P d) (t : ∀ x ∈ l, P x) : ∀ x ∈ a :: b :: c :: d :: l, P x := zc h1 (zc h2 (zc h3 (zc h4 t)))
theorem neBy {l : List (Addr × Obj)} {x y : Nat} {o : Obj} (h : ∀ p ∈ l, @Ne Nat p.1 y) (hm : ((x : Addr), o) ∈ l) : @Ne Nat x y := h _ hm
theorem zoffI {I C D : Addr} {l : List (Addr × Obj)} (h : LCg.Off3 I C D l) : ∀ p ∈ l, @Ne Nat p.1 I := fun p hp => (h.mem p hp).1
theorem zoffC {I C D : Addr} {l : List (Addr × Obj)} (h : LCg.Off3 I C D l) : ∀ p ∈ l, @Ne Nat p.1 C := fun p hp => (h.mem p hp).2.1
theorem zoffD {I C D : Addr} {l : List (Addr × Obj)} (h : LCg.Off3 I C D l) : ∀ p ∈ l, @Ne Nat p.1 D := fun p hp => (h.mem p hp).2.2
theorem zoff1 {D : Addr} {l : List (Addr × Obj)} (h : LCg.Off1 D l) : ∀ p ∈ l, @Ne Nat p.1 D := by
  induction l with
  | nil => intro p hp; cases hp
  | cons a r ih =>
    intro p hp
    rcases List.mem_cons.mp hp with rfl | hp
    · exact h.1
    · exact ih h.2 p hp
theorem mxk {a b k c : Nat} : max a b + k ≤ c ↔ a + k ≤ c ∧ b + k ≤ c := by rw [← Nat.add_max_add_right, Nat.max_le]
theorem zl0 {a n R : Nat} (h : a + n < R) : a < R := Nat.lt_of_le_of_lt (Nat.le_add_right a n) h
theorem zl1 {a n k R : Nat} (h : a + n < R) (hk : k ≤ n) : a + k < R := Nat.lt_of_le_of_lt (Nat.add_le_add_left hk a) h
theorem zl2 {a n i k R : Nat} (h : a + n < R) (hk : i + k ≤ n) : a + i + k < R := by rw [Nat.add_assoc]; exact zl1 h hk
theorem zl4 {x a k b : Nat} (h : x ≤ a) (hk : a + k ≤ b) : x + k ≤ b := Nat.le_trans (Nat.add_le_add_right h k) hk
theorem zl5 {a b c : Int} (h : b ≤ c) (h2 : a ≤ b) : a ≤ c := Int.le_trans h2 h
theorem hideG {G : Prop} (h : ∀ P : Prop, (G → P) → P) : G := h G id
local macro_rules | `(tactic| obtain $p:rcasesPatMed := $e) => do
    if ((p.raw.reprint.getD "").splitOn ",").length < 3 then Lean.Macro.throwUnsupported
    `(tactic| (refine hideG fun P9 hP9 => ?_; rcases $e:term with $p:rcasesPatMed; all_goals (refine hP9 ?_; clear hP9 P9)))
theorem ym1 {α : Type} {a1 x : α} {l : List α} : x ∈ a1 :: x :: l := List.Mem.tail _ (List.Mem.head _)
theorem ym2 {α : Type} {a1 a2 x : α} {l : List α} : x ∈ a1 :: a2 :: x :: l := List.Mem.tail _ ym1
theorem ym3 {α : Type} {a1 a2 a3 x : α} {l : List α} : x ∈ a1 :: a2 :: a3 :: x :: l := List.Mem.tail _ ym2
theorem ym4 {α : Type} {a1 a2 a3 a4 x : α} {l : List α} : x ∈ a1 :: a2 :: a3 :: a4 :: x :: l := List.Mem.tail _ ym3
theorem ym5 {α : Type} {a1 a2 a3 a4 a5 x : α} {l : List α} : x ∈ a1 :: a2 :: a3 :: a4 :: a5 :: x :: l := List.Mem.tail _ ym4
theorem ym6 {α : Type} {a1 a2 a3 a4 a5 a6 x : α} {l : List α} : x ∈ a1 :: a2 :: a3 :: a4 :: a5 :: a6 :: x :: l := List.Mem.tail _ ym5
theorem ym7 {α : Type} {a1 a2 a3 a4 a5 a6 a7 x : α} {l : List α} : x ∈ a1 :: a2 :: a3 :: a4 :: a5 :: a6 :: a7 :: x :: l := List.Mem.tail _ ym6
theorem ym8 {α : Type} {a1 a2 a3 a4 a5 a6 a7 a8 x : α} {l : List α} : x ∈ a1 :: a2 :: a3 :: a4 :: a5 :: a6 :: a7 :: a8 :: x :: l := List.Mem.tail _ ym7
theorem ym9 {α : Type} {a1 a2 a3 a4 a5 a6 a7 a8 a9 x : α} {l : List α} : x ∈ a1 :: a2 :: a3 :: a4 :: a5 :: a6 :: a7 :: a8 :: a9 :: x :: l := List.Mem.tail _ ym8
theorem ym10 {α : Type} {a1 a2 a3 a4 a5 a6 a7 a8 a9 a10 x : α} {l : List α} : x ∈ a1 :: a2 :: a3 :: a4 :: a5 :: a6 :: a7 :: a8 :: a9 :: a10 :: x :: l := List.Mem.tail _ ym9
theorem ym11 {α : Type} {a1 a2 a3 a4 a5 a6 a7 a8 a9 a10 a11 x : α} {l : List α} : x ∈ a1 :: a2 :: a3 :: a4 :: a5 :: a6 :: a7 :: a8 :: a9 :: a10 :: a11 :: x :: l := List.Mem.tail _ ym10
theorem ym12 {α : Type} {a1 a2 a3 a4 a5 a6 a7 a8 a9 a10 a11 a12 x : α} {l : List α} : x ∈ a1 :: a2 :: a3 :: a4 :: a5 :: a6 :: a7 :: a8 :: a9 :: a10 :: a11 :: a12 :: x :: l := List.Mem.tail _ ym11
theorem ym13 {α : Type} {a1 a2 a3 a4 a5 a6 a7 a8 a9 a10 a11 a12 a13 x : α} {l : List α} : x ∈ a1 :: a2 :: a3 :: a4 :: a5 :: a6 :: a7 :: a8 :: a9 :: a10 :: a11 :: a12 :: a13 :: x :: l := List.Mem.tail _ ym12
theorem ym14 {α : Type} {a1 a2 a3 a4 a5 a6 a7 a8 a9 a10 a11 a12 a13 a14 x : α} {l : List α} : x ∈ a1 :: a2 :: a3 :: a4 :: a5 :: a6 :: a7 :: a8 :: a9 :: a10 :: a11 :: a12 :: a13 :: a14 :: x :: l := List.Mem.tail _ ym13
theorem ym15 {α : Type} {a1 a2 a3 a4 a5 a6 a7 a8 a9 a10 a11 a12 a13 a14 a15 x : α} {l : List α} : x ∈ a1 :: a2 :: a3 :: a4 :: a5 :: a6 :: a7 :: a8 :: a9 :: a10 :: a11 :: a12 :: a13 :: a14 :: a15 :: x :: l := List.Mem.tail _ ym14
theorem cjt {a b g : Prop} (h : b → g) : a ∧ b → g := fun q => h q.2
theorem za {L a b : Nat} (h : a ≠ b) : L + a ≠ L + b := fun e => h (Nat.add_left_cancel e)
theorem zb {L a b c : Nat} (h : a ≠ b + c) : L + a ≠ L + b + c := by rw [Nat.add_assoc]; exact za h
theorem ze {L a b c d : Nat} (h : a ≠ b + (c + d)) : L + a ≠ L + b + c + d := by rw [Nat.add_assoc, Nat.add_assoc]; exact za h
local macro_rules | `(tactic| k_mem) => `(tactic| k_extra "MEM")
local macro_rules | `(tactic| k_lt $h:ident) => `(tactic| (replace $h := allLt_of $h; dsimp only [AllLt] at $h:ident))
local macro_rules | `(tactic| omega) => `(tactic| k_extra "OM")
local macro_rules | `(tactic| k_ne) => `(tactic| k_extra "NE")
local macro_rules | `(tactic| k_all) => `(tactic| k_extra "ALL")
example : True := by
  k_with_none
  k_with "MEM" => with_reducible first | exact List.Mem.head _ | exact ym1 | exact ym2 | exact ym3 | exact ym4 | exact ym5 | exact ym6 | exact ym7 | exact ym8 | exact ym9 | exact ym10 | exact ym11 | exact ym12 | exact ym13 | exact ym14 | exact ym15 | fail "no"
  k_with "NE" => (refine neN ?_; (try dsimp only); first | assumption | (refine Ne.symm ?_; assumption) | exact Nat.ne_of_lt (by assumption) | exact Nat.ne_of_gt (by assumption) | (with_reducible first | exact Nat.ne_of_lt (zl1 (by assumption) (by decide)) | exact Nat.ne_of_gt (zl1 (by assumption) (by decide)) | exact za (by decide) | exact zb (by decide) | exact (zb (by decide)).symm | exact ze (by decide) | exact (ze (by decide)).symm | (refine Nat.ne_of_lt ?_; (repeat (first | (rename _ < _ ∧ _ => z8; revert z8; (repeat (first | exact And.left | refine cjt ?_)); done) | (rename _ < _ ∧ _ => z8; clear z8))); done) | (refine Nat.ne_of_gt ?_; (repeat (first | (rename _ < _ ∧ _ => z8; revert z8; (repeat (first | exact And.left | refine cjt ?_)); done) | (rename _ < _ ∧ _ => z8; clear z8))); done)) | ((repeat (first | exact neBy (by assumption) (by k_mem) | (rename ∀ p : Addr × Obj, p ∈ _ → p.1 ≠ _ => hz9; clear hz9))); done) | (refine Ne.symm ?_; (repeat (first | exact neBy (by assumption) (by k_mem) | (rename ∀ p : Addr × Obj, p ∈ _ → p.1 ≠ _ => hz9; clear hz9))); done) | omega)
  k_with "OM" => with_reducible first | assumption | exact zl0 (by assumption) | exact zl1 (by assumption) (by decide +kernel) | exact zl2 (by assumption) (by decide +kernel) | decide +kernel | exact Nat.le_trans (by assumption) (by decide +kernel) | exact zl4 (by assumption) (by decide +kernel) | exact Nat.lt_of_lt_of_le (by assumption) (by decide +kernel) | exact Nat.lt_of_le_of_lt (by assumption) (by decide +kernel) | exact Int.le_trans (by assumption) (by decide +kernel) | exact zl5 (by assumption) (by decide +kernel) | exact Int.lt_of_lt_of_le (by assumption) (by decide +kernel) | exact Int.lt_of_le_of_lt (by assumption) (by decide +kernel) | fail "no"
  k_with "ALL" => first | exact List.forall_mem_nil _ | exact zc (by k_ne) (by k_all) | fail "no"
  trivial
local macro_rules | `(tactic| walk_at $s:str) => `(tactic| k_extra $s)
-- Base
theorem call_raw {prog : Program} {w : World} {A : Around} {s : Shared} {H : Heap} {muts : List (Addr × Obj)} {K : Frag} {p : Program} {loose : List Str} {mg mb : Str → Option Value}
    {R : Result → Shared → Prop} {name qual : Str} {params : Arguments} {body : List Stmt} {scope : Scope} {dV kV doc pm cdv ct oc : Value} {an od : Option Addr} {osl : Array (Option Value)} {f : Addr} {args : Args} {binds : List (Str × Value)}
    (hk : H.StaysIn s.heap) (hm : ∀ q ∈ muts, s.heap.get? q.1 = some q.2 ∧ H.get? q.1 = none) (X : K.In H) (T : TopRead p loose mg mb H)
    (ho : K.lookup f = some ⟨oc, od, .func (fnOf name qual params body scope dV kV doc pm an cdv ct), osl⟩) (hcd : codeIn K cdv qual = true) (hroom : A.depth < recursionLimit)
    (hbind : BindsTo s (fnOf name qual params body scope dV kV doc pm an cdv ct) args binds)
    (hkind : (binds.all fun y => scope.names.lookup y.1 == some .local || scope.names.lookup y.1 == some .cell) = true)
    (hnd : ((cellsFrom 0 scope.names []).map (·.1)).Nodup)
    (h : ∀ g L' h₁ tk cells, g = hideAll s.heap (muts.map (·.1)) → L' = s.heap.objs.size → H.StaysIn g → K.In g → TopRead p loose mg mb g →
      Fr g L' h₁ (bindL (envOfC qual scope L' f cdv).kindOf binds fun _ => none) → News g L' h₁ (cells ++ muts) →
      CellsAre (bindC (envOfC qual scope L' f cdv).kindOf binds fun _ => none) (cellsFrom (L' + 1) scope.names []) cells → (∀ q ∈ muts, q.1 < L') →
      wpAny (model prog w) (A.deeper (envOfC qual scope L' f cdv)) (execs body (envOfC qual scope L' f cdv))
        (fun fl s' => R (.ok (.ret (match fl with | .ret v => v | _ => .none))) s')
        (fun e s' => wpAny (model prog w) (A.deeper (envOfC qual scope L' f cdv)) (leaving (envOfC qual scope L' f cdv) e) (fun _ s'' => R (.error e) s'') (fun e' s'' => R (.error e') s'') s')
        { s with heap := h₁, toks := tk })
    (hco : scope.isCoroutine = false) (hgen : scope.isGenerator = false) (hk' : scope.kind = .function) : codeAny (model prog w) A (.call (.ref f) args) R s := by
  have st : H.StaysIn (hideAll s.heap (muts.map (·.1))) := fun b o e => hideAll_get _ (hk b o e) fun q => by
    obtain ⟨r, hr, rfl⟩ := List.mem_map.mp q
    rw [(hm r hr).2] at e; cases e
  refine codeAny_call_function (fd := fnOf name qual params body scope dV kV doc pm an cdv ct) hroom ((X.keeps hk) _ _ ho) rfl hco hgen rfl (codeRec_of (X.keeps hk) hcd) (hbind _ _ _ _ ?_)
  refine wpAny_newFunctionEnv_cells hk' (kindsX hkind _) fun env' he s' x => ?_
  subst he
  refine ⟨(T.nolimit.keeps hk).keeps x.toInCall.keep, codeAny_func ?_⟩
  obtain ⟨h₁, tk, rfl, _⟩ := x.done
  have hk₁ := x.toInCall.keep
  obtain ⟨cells, NC, Y⟩ := Cl.news (h₀ := s.heap) (Nat.le_refl _) fun n c hm => ⟨x.cell n c (lookup_of_mem_nodup (cellsFrom_names scope.names 0 (s.heap.objs.size + 1) [] [] rfl ▸ hnd) hm), x.above n c hm⟩
  refine h _ s.heap.objs.size h₁ tk cells rfl rfl st (X.keeps st) (T.keeps st) ⟨x.toInCall.ns, fun b o e => hk₁ b o (of_hideAll _ e), Nat.le_of_eq (hideAll_size _ _)⟩ (fun p hp => ?_) Y (fun q hq => Heap.lt_size (hm q hq).1)
  rcases List.mem_append.mp hp with hp | hp
  · refine ⟨(NC p hp).1, (NC p hp).2.1, ?_⟩
    cases q : (hideAll s.heap (muts.map (·.1))).get? p.1 with
    | none => rfl
    | some o => have := of_hideAll _ q; rw [(NC p hp).2.2] at this; cases this
  · exact ⟨hk₁ _ _ (hm p hp).1, Nat.ne_of_lt (Heap.lt_size (hm p hp).1), hideAll_none _ (List.mem_map_of_mem hp)⟩

theorem raw_back {h g h' : Heap} {l : List Addr} {L : Addr} {m : Str → Option Value} (hg : g = hideAll h l) (F : Fr g L h' m) : ∀ b x, b ∉ l → h.get? b = some x → h'.get? b = some x :=
  fun b x hb e => F.keep b x (hg ▸ hideAll_get _ e hb)
theorem raw_back1 {h g h' : Heap} {a : Addr} {o : Obj} {L : Addr} {m : Str → Option Value} (hg : g = hideAll h ([(a, o)].map (·.1))) (F : Fr g L h' m) : ∀ b x, b ≠ a → h.get? b = some x → h'.get? b = some x :=
  fun b x hb e => raw_back hg F b x (by simpa using hb) e
-- Toss
example : True := by
  k_with_none
  k_with "MEM" => with_reducible first | exact List.Mem.head _ | exact ym1 | exact ym2 | exact ym3 | exact ym4 | exact ym5 | exact ym6 | exact ym7 | exact ym8 | exact ym9 | exact ym10 | exact ym11 | exact ym12 | exact ym13 | exact ym14 | exact ym15 | fail "no"
  k_with "NE" => (refine neN ?_; (try dsimp only); first | assumption | (refine Ne.symm ?_; assumption) | exact Nat.ne_of_lt (by assumption) | exact Nat.ne_of_gt (by assumption) | (with_reducible first | exact Nat.ne_of_lt (zl1 (by assumption) (by decide)) | exact Nat.ne_of_gt (zl1 (by assumption) (by decide)) | exact za (by decide) | exact zb (by decide) | exact (zb (by decide)).symm | exact ze (by decide) | exact (ze (by decide)).symm | (refine Nat.ne_of_lt ?_; (repeat (first | (rename _ < _ ∧ _ => z8; revert z8; (repeat (first | exact And.left | refine cjt ?_)); done) | (rename _ < _ ∧ _ => z8; clear z8))); done) | (refine Nat.ne_of_gt ?_; (repeat (first | (rename _ < _ ∧ _ => z8; revert z8; (repeat (first | exact And.left | refine cjt ?_)); done) | (rename _ < _ ∧ _ => z8; clear z8))); done)) | ((repeat (first | exact neBy (by assumption) (by k_mem) | (rename ∀ p : Addr × Obj, p ∈ _ → p.1 ≠ _ => hz9; clear hz9))); done) | (refine Ne.symm ?_; (repeat (first | exact neBy (by assumption) (by k_mem) | (rename ∀ p : Addr × Obj, p ∈ _ → p.1 ≠ _ => hz9; clear hz9))); done) | omega)
  k_with "OM" => with_reducible first | assumption | exact zl0 (by assumption) | exact zl1 (by assumption) (by decide +kernel) | exact zl2 (by assumption) (by decide +kernel) | decide +kernel | exact Nat.le_trans (by assumption) (by decide +kernel) | exact zl4 (by assumption) (by decide +kernel) | exact Nat.lt_of_lt_of_le (by assumption) (by decide +kernel) | exact Nat.lt_of_le_of_lt (by assumption) (by decide +kernel) | exact Int.le_trans (by assumption) (by decide +kernel) | exact zl5 (by assumption) (by decide +kernel) | exact Int.lt_of_lt_of_le (by assumption) (by decide +kernel) | exact Int.lt_of_le_of_lt (by assumption) (by decide +kernel) | fail "no"
  k_with "ALL" => first | exact List.forall_mem_nil _ | exact zc (by k_ne) (by k_all) | fail "no"
  trivial
section
variable {prog : Program} {w : World} {A : Around} {E : Value → Shared → Prop} {s : Shared} {h₀ : Heap} {L d : Addr} {m : Str → Option Value} {news : List (Addr × Obj)} {g : Obj → List (Addr × Obj)} {o : Obj}
  {x : Str} {t : Tok} {v : Value} {kvs : List (Str × Value)}
theorem sub_dict {value slice : Expr} {Q : Value → Shared → Prop} (N : News h₀ L s.heap news) (hm : (d, o) ∈ news) (hd : o.IsDictOf (strKind prog w) kvs) (hv : valueAt kvs x = some v) (h : Q v { s with toks := s.toks + 1 })
    (hs : subscripted slice false (.ref d) (.str x t) = operate [.ref d, .str x t] (getItem (.ref d) (.str x t)) := by with_unfolding_all rfl) :
    wpAny (model prog w) A (subscriptTail value slice (.ref d) (.str x t)) Q E s :=
  have hD : s.heap.DictOf (strKind prog w) d kvs := Heap.dictOf_iff.mpr ⟨o, (N _ hm).1, hd⟩
  tail_any hD.typeIs slot_dict_getitem.lookup (wpAny_getItem_of (strKind_is prog w x t) hD.mapOf hv h) hs
theorem get_dict {Q : Value → Shared → Prop} (N : News h₀ L s.heap news) (hm : (d, o) ∈ news) (hd : o.IsDictOf (strKind prog w) kvs) (hv : valueAt kvs x = some v) (h : Q v { s with toks := s.toks + 1 }) :
    wpAny (model prog w) A (getItem (.ref d) (.str x t)) Q E s :=
  have hD : s.heap.DictOf (strKind prog w) d kvs := Heap.dictOf_iff.mpr ⟨o, (N _ hm).1, hd⟩
  wpAny_getItem_of (strKind_is prog w x t) hD.mapOf hv h
theorem set_dictK {Q : Unit → Shared → Prop} (F : Fr h₀ L s.heap m) (N : News h₀ L s.heap news) (U : UpdF d o news g) (hd : o.IsDictOf (strKind prog w) kvs) (hsz : kvs.length ≤ sizeLine)
    (h : ∀ h' o', Fr h₀ L h' m → News h₀ L h' (g o') → o'.IsDictOf (strKind prog w) (stored kvs x v) → Q () { s with heap := h', toks := s.toks + 1 }) :
    wpAny (model prog w) A (setItem (.ref d) (.str x t) v) Q E s := by
  obtain ⟨pre, post, rfl, hg, a, b⟩ := U.split
  have hm := N (d, o) (List.mem_append_right _ (.head _))
  refine wpAny_setItem_pairs (strKind_is prog w x t) (Heap.dictOf_iff.mpr ⟨o, hm.1, hd⟩) (fun h' hD hs => ?_) hsz
  obtain ⟨o', ho', hd'⟩ := Heap.dictOf_iff.mp hD
  exact h h' o' (F.change hs hm.2.1 hm.2.2) (hg o' ▸ N.setAt a b hs ho') hd'
end

example : True := by
  k_with "subscriptTail" => first | (k_here; (with_reducible show wpAny _ _ (subscriptTail _ _ (Value.ref _) (Value.str _ _)) _ _ _); k_dflt (refine' sub_dict ?Nzq ?mzq ?dzq ?vzq ?_ ; (case Nzq => k_asm); (case mzq => k_mem); (case dzq => k_asm); (case vzq => rfl); k_whole)) | fail "no"
  k_with "getItem ref str" => first | (k_here; k_dflt (refine' get_dict ?Nzq ?mzq ?dzq ?vzq ?_ ; (case Nzq => k_asm); (case mzq => k_mem); (case dzq => k_asm); (case vzq => rfl); k_whole)) | fail "no"
  k_with "setItem ref str" => first | ((k_here; k_dflt (refine' set_dictK ?Fzq ?Nzq ?Uzq ?dzq ?zzq ?_; (case Fzq => k_asm); (case Nzq => k_asm); (case Uzq => k_updF); (case dzq => k_asm); (case zzq => decide); k_whole); intro h' o' F' N' hd'; (try dsimp only at N'); (try k_sweep)); (try (revert h' o' F' N' hd'; intros))) | fail "no"
  trivial

noncomputable def tossV (row : List Int) (n : Int) (many : Int) : Int :=
  if n ≤ (row.length : Int) then Int.fmod (row.getD (n - 1).toNat 0) many else Int.fmod (n * n - n + 1) many

noncomputable def CupKvs (r : Addr) (n l : Int) (t1 t2 : Tok) : List (Str × Value) := [(Str.ofString "row", .ref r), (Str.ofString "at", .int n t1), (Str.ofString "left", .int l t2)]
set_option maxHeartbeats 8000000 in
theorem toss_c {w : World} {A : Around} {s : Shared} {H : Heap} {p : Program} {loose : List Str} {mg mb : Str → Option Value} {R : Result → Shared → Prop} {cup r : Addr} {o : Obj} {n l : Int} {t1 t2 : Tok} {many : Int} {tm : Tok} {vs : List Value} {row : List Int}
    (hk : H.StaysIn s.heap) (X : (hd.heap_39 w.params).In H) (T : TopRead p loose mg mb H) (hroom : A.depth + 10 < recursionLimit) (hu : A.units + 20 < cLine)
    (hc : s.heap.get? cup = some o) (hH : H.get? cup = none) (ho : o.IsDictOf (strKind PySem.Challenge.rw_qz0087_01.row.prog w) (CupKvs r n l t1 t2)) (hrow : s.heap.IsList r vs.toArray) (hi : IntsAre vs row) (h0 : 0 ≤ n) (h1 : n < 10000) (hrl : row.length ≤ 100) (hm : 0 < many) (hm2 : many < 1000)
    (hret : ∀ val h' tk o' t1' tv, val = tossV row (n + 1) many → (∀ b x, b ≠ cup → s.heap.get? b = some x → h'.get? b = some x) → h'.get? cup = some o' → o'.IsDictOf (strKind PySem.Challenge.rw_qz0087_01.row.prog w) (CupKvs r (n + 1) l t1' t2) →
      R (.ok (.ret (.int val tv))) { s with heap := h', toks := tk }) :
    codeAny (model PySem.Challenge.rw_qz0087_01.row.prog w) A (.call (.ref 261) ⟨[.ref cup, .int many tm], []⟩) R s := by
  revert X; k_fill; intro X
  refine' call_raw (muts := [(cup, o)]) hk ?km X T ?k6 ?k7 ?k8 ?k9 ?kB ?kD ?kh ?c2 ?c3 ?c4
  case km => intro q hq; rcases List.mem_singleton.mp hq with rfl; exact ⟨hc, hH⟩
  case k6 => k_is
  case k7 => k_is
  case k8 => omega
  case k9 => exact BindsTo.of_eq rfl
  case kB => exact rfl
  case kD => decide +kernel
  case c2 => exact rfl
  case c3 => exact rfl
  case c4 => exact rfl
  intro g L' h₁ tk cells hg hL st X' T' F N Y l1
  cases Y
  have hrg : g.IsList r vs.toArray := by
    obtain ⟨x, hx, hxc, y⟩ := hrow
    refine ⟨x, ?_, hxc, y⟩
    rw [hg]
    refine hideAll_get _ hx ?_
    intro q
    have e : r = cup := by simpa using q
    rw [e, hc] at hx
    cases hx
    obtain ⟨es, ep, ed, _⟩ := ho
    rw [ed.1] at hxc
    exact absurd hxc (by decide)
  simp only [List.nil_append] at N
  k_steps
  · exact hret _ _ _ _ _ _ (if_pos (by assumption)).symm (raw_back1 hg (by assumption)) (News.get (by assumption) (.head _)) (by assumption)
  · exact hret _ _ _ _ _ _ (if_neg (by assumption)).symm (raw_back1 hg (by assumption)) (News.get (by assumption) (.head _)) (by assumption)
-- Data
mutual
inductive D where
  | none
  | int (i : Int)
  | str (x : Str)
  | tup (l : DL)
  | lst (l : DL)
inductive DL where
  | nil
  | cons (d : D) (l : DL)
end

mutual
noncomputable def D.dep : D → Nat
  | .none => 0
  | .int _ => 0
  | .str _ => 0
  | .tup l => l.dep + 1
  | .lst l => l.dep + 1
noncomputable def DL.dep : DL → Nat
  | .nil => 0
  | .cons d l => max d.dep l.dep
end
mutual
noncomputable def D.siz : D → Nat
  | .none => 1
  | .int _ => 1
  | .str _ => 1
  | .tup l => l.siz + 1
  | .lst l => l.siz + 1
noncomputable def DL.siz : DL → Nat
  | .nil => 0
  | .cons d l => d.siz + l.siz
end
noncomputable def Bs : Nat → Nat
  | 0 => 12
  | h + 1 => 4 * Bs h
theorem Bs_ge : ∀ h, 12 ≤ Bs h
  | 0 => Nat.le_refl _
  | h + 1 => by have := Bs_ge h; show 12 ≤ 4 * Bs h; omega

mutual
inductive InD (Z : List (Addr × Obj)) : Value → D → Prop where
  | none : InD Z .none .none
  | int {i : Int} {t : Tok} : InD Z (.int i t) (.int i)
  | str {x : Str} {t : Tok} : InD Z (.str x t) (.str x)
  | tup {a : Addr} {vs : List Value} {n : Nat} {l : DL} : (a, ({ cls := .type "tuple", data := .seq vs.toArray n } : Obj)) ∈ Z → InDs Z vs l → InD Z (.ref a) (.tup l)
  | lst {a : Addr} {vs : List Value} {n : Nat} {l : DL} : (a, ({ cls := .type "list", data := .seq vs.toArray n } : Obj)) ∈ Z → InDs Z vs l → InD Z (.ref a) (.lst l)
inductive InDs (Z : List (Addr × Obj)) : List Value → DL → Prop where
  | nil : InDs Z [] .nil
  | cons {v : Value} {d : D} {vs : List Value} {l : DL} : InD Z v d → InDs Z vs l → InDs Z (v :: vs) (.cons d l)
end

mutual
theorem InD.mono {Z Z' : List (Addr × Obj)} (hs : ∀ p ∈ Z, p ∈ Z') : ∀ {v : Value} {d : D}, InD Z v d → InD Z' v d
  | _, _, .none => .none
  | _, _, .int => .int
  | _, _, .str => .str
  | _, _, .tup hm h => .tup (hs _ hm) (InDs.mono hs h)
  | _, _, .lst hm h => .lst (hs _ hm) (InDs.mono hs h)
theorem InDs.mono {Z Z' : List (Addr × Obj)} (hs : ∀ p ∈ Z, p ∈ Z') : ∀ {vs : List Value} {l : DL}, InDs Z vs l → InDs Z' vs l
  | _, _, .nil => .nil
  | _, _, .cons h r => .cons (InD.mono hs h) (InDs.mono hs r)
end

noncomputable def isSeq (q : Addr × Obj) : Bool := match q.2.data with
  | .seq .. => true
  | _ => false
mutual
theorem InD.filter {Z : List (Addr × Obj)} : ∀ {v : Value} {d : D}, InD Z v d → InD (Z.filter isSeq) v d
  | _, _, .none => .none
  | _, _, .int => .int
  | _, _, .str => .str
  | _, _, .tup hm h => .tup (List.mem_filter.mpr ⟨hm, rfl⟩) (InDs.filter h)
  | _, _, .lst hm h => .lst (List.mem_filter.mpr ⟨hm, rfl⟩) (InDs.filter h)
theorem InDs.filter {Z : List (Addr × Obj)} : ∀ {vs : List Value} {l : DL}, InDs Z vs l → InDs (Z.filter isSeq) vs l
  | _, _, .nil => .nil
  | _, _, .cons h r => .cons (InD.filter h) (InDs.filter r)
end
theorem seq_ne {h₀ h : Heap} {L c : Addr} {all : List (Addr × Obj)} {o : Obj} (N : News h₀ L h all) (hc : h.get? c = some o) (ho : isSeq (c, o) = false) : ∀ q ∈ all.filter isSeq, q.1 ≠ c := fun q hq e => by
  obtain ⟨hm, hs⟩ := List.mem_filter.mp hq
  have h1 := (N q hm).1
  rw [e, hc] at h1
  cases h1
  have : isSeq q = isSeq (c, q.2) := rfl
  rw [this, ho] at hs
  cases hs
theorem dict_notSeq {prog : Program} {w : World} {c : Addr} {o : Obj} {kvs : List (Str × Value)} (h : o.IsDictOf (strKind prog w) kvs) : isSeq (c, o) = false := by
  obtain ⟨es, ep, _, hd, _⟩ := h
  show (match o.data with | .seq .. => true | _ => false) = false
  rw [hd]

theorem nameB_C {M : Model} {A : Around} {E : Value → Shared → Prop} {s : Shared} {h₀ : Heap} {L c : Addr} {news : List (Addr × Obj)} {o : Obj} {env : Env} {x : Str} {pos : Pos} {v : Value} {Q : Value → Shared → Prop}
    (N : News h₀ L s.heap news) (hc : env.cells.lookup x = some c) (hm : (c, o) ∈ news) (hd : o.data = .cell (some v)) (h : Q v s)
    (hk : env.scope.kind = .function) (hx : env.kindOf x = some .cell) (hb : (x == ("__debug__" : Str)) = false) :
    wpAny M A (eval (.Name x pos) env) Q E s := wpAny_Name (wpAny_loadName_cell hk hx hc ⟨o, N.get hm, hd⟩ h) hb

theorem raw_frame {h₀ h h' : Heap} {L c : Addr} {m : Str → Option Value} {news : List (Addr × Obj)} {o o' : Obj} {g : Obj → List (Addr × Obj)} (F : Fr h₀ L h m) (N : News h₀ L h news) (U : UpdF c o news g)
    (hb : ∀ b x, b ≠ c → h.get? b = some x → h'.get? b = some x) (hc : h'.get? c = some o') : Fr h₀ L h' m ∧ News h₀ L h' (g o') := by
  obtain ⟨pre, post, rfl, hg, h1, h2⟩ := U.split
  have hm := N (c, o) (List.mem_append_right _ (.head _))
  refine ⟨⟨F.ns.at' fun o e => hb _ _ (Ne.symm hm.2.1) e, fun b x e => hb b x (fun q => by rw [q, hm.2.2] at e; cases e) (F.keep b x e), F.above⟩, ?_⟩
  rw [hg]
  intro p hp
  rcases List.mem_append.mp hp with q | q
  · have P := N p (List.mem_append_left _ q); exact ⟨hb _ _ (h1 p q) P.1, P.2⟩
  · rcases List.mem_cons.mp q with rfl | q
    · exact ⟨hc, hm.2⟩
    · have P := N p (List.mem_append_right _ (.tail _ q)); exact ⟨hb _ _ (h2 p q) P.1, P.2⟩
section
-- Tree
example : True := by
  k_with_none
  k_with "MEM" => with_reducible first | exact List.Mem.head _ | exact ym1 | exact ym2 | exact ym3 | exact ym4 | exact ym5 | exact ym6 | exact ym7 | exact ym8 | exact ym9 | exact ym10 | exact ym11 | exact ym12 | exact ym13 | exact ym14 | exact ym15 | fail "no"
  k_with "NE" => (refine neN ?_; (try dsimp only); first | assumption | (refine Ne.symm ?_; assumption) | exact Nat.ne_of_lt (by assumption) | exact Nat.ne_of_gt (by assumption) | (with_reducible first | exact Nat.ne_of_lt (zl1 (by assumption) (by decide)) | exact Nat.ne_of_gt (zl1 (by assumption) (by decide)) | exact za (by decide) | exact zb (by decide) | exact (zb (by decide)).symm | exact ze (by decide) | exact (ze (by decide)).symm | (refine Nat.ne_of_lt ?_; (repeat (first | (rename _ < _ ∧ _ => z8; revert z8; (repeat (first | exact And.left | refine cjt ?_)); done) | (rename _ < _ ∧ _ => z8; clear z8))); done) | (refine Nat.ne_of_gt ?_; (repeat (first | (rename _ < _ ∧ _ => z8; revert z8; (repeat (first | exact And.left | refine cjt ?_)); done) | (rename _ < _ ∧ _ => z8; clear z8))); done)) | ((repeat (first | exact neBy (by assumption) (by k_mem) | (rename ∀ p : Addr × Obj, p ∈ _ → p.1 ≠ _ => hz9; clear hz9))); done) | (refine Ne.symm ?_; (repeat (first | exact neBy (by assumption) (by k_mem) | (rename ∀ p : Addr × Obj, p ∈ _ → p.1 ≠ _ => hz9; clear hz9))); done) | omega)
  k_with "OM" => with_reducible first | assumption | exact zl0 (by assumption) | exact zl1 (by assumption) (by decide +kernel) | exact zl2 (by assumption) (by decide +kernel) | decide +kernel | exact Nat.le_trans (by assumption) (by decide +kernel) | exact zl4 (by assumption) (by decide +kernel) | exact Nat.lt_of_lt_of_le (by assumption) (by decide +kernel) | exact Nat.lt_of_le_of_lt (by assumption) (by decide +kernel) | exact Int.le_trans (by assumption) (by decide +kernel) | exact zl5 (by assumption) (by decide +kernel) | exact Int.lt_of_lt_of_le (by assumption) (by decide +kernel) | exact Int.lt_of_le_of_lt (by assumption) (by decide +kernel) | fail "no"
  k_with "ALL" => first | exact List.forall_mem_nil _ | exact zc (by k_ne) (by k_all) | fail "no"
  trivial
theorem tossV_bounds {row : List Int} {n many : Int} (hm : 0 < many) : 0 ≤ tossV row n many ∧ tossV row n many < many := by
  unfold tossV
  split <;> rw [Int.fmod_eq_emod_of_nonneg _ (Int.le_of_lt hm)] <;> exact ⟨Int.emod_nonneg _ (Int.ne_of_gt hm), Int.emod_lt_of_pos _ hm⟩

theorem toss_k {w : World} {A : Around} {E : Value → Shared → Prop} {s : Shared} {h₀ : Heap} {L : Addr} {m : Str → Option Value} {news : List (Addr × Obj)} {p : Program} {loose : List Str} {mg mb : Str → Option Value} {cup r : Addr} {o : Obj} {g : Obj → List (Addr × Obj)} {n l : Int} {t1 t2 : Tok} {many : Int} {tm : Tok} {vs : List Value} {row : List Int} {Q : Value → Shared → Prop}
    (F : Fr h₀ L s.heap m) (N : News h₀ L s.heap news) (X : (hd.heap_39 w.params).In h₀) (T : TopRead p loose mg mb h₀) (U : UpdF cup o news g) (ho : o.IsDictOf (strKind PySem.Challenge.rw_qz0087_01.row.prog w) (CupKvs r n l t1 t2)) (hrow : h₀.IsList r vs.toArray) (hi : IntsAre vs row)
    (hroom : A.depth + 10 < recursionLimit) (hu : A.units + 20 < cLine) (h0 : 0 ≤ n) (h1 : n < 10000) (hrl : row.length ≤ 100) (hm : 0 < many) (hm2 : many < 1000)
    (h : ∀ val h' tk o' t1' tv, 0 ≤ val → val < many → Fr h₀ L h' m → News h₀ L h' (g o') → o'.IsDictOf (strKind PySem.Challenge.rw_qz0087_01.row.prog w) (CupKvs r (n + 1) l t1' t2) → Q (.int val tv) { s with heap := h', toks := tk }) :
    wpAny (model PySem.Challenge.rw_qz0087_01.row.prog w) A (call (.ref 261) [.ref cup, .int many tm]) Q E s := by
  have hc : (cup, o) ∈ news := by obtain ⟨pre, post, rfl, _⟩ := U.split; exact List.mem_append_right _ (.head _)
  refine wpAny_call (toss_c F.keep X T hroom hu (N _ hc).1 (N _ hc).2.2 ho (hrow.at fun o e => F.keep _ o e) hi h0 h1 hrl hm hm2 fun val h' tk o' t1' tv e hb hc' ho' => ?_)
  have b := tossV_bounds (row := row) (n := n + 1) hm
  have fr := raw_frame F N U hb hc'
  exact h _ _ _ _ _ _ (e ▸ b.1) (e ▸ b.2) fr.1 fr.2 ho'

example : True := by
  k_with "subscriptTail" => first | (k_here; (with_reducible show wpAny _ _ (subscriptTail _ _ (Value.ref _) (Value.str _ _)) _ _ _); k_dflt (refine' sub_dict ?Nzq ?mzq ?dzq ?vzq ?_ ; (case Nzq => k_asm); (case mzq => k_mem); (case dzq => k_asm); (case vzq => rfl); k_whole)) | fail "no"
  k_with "getItem ref str" => first | (k_here; k_dflt (refine' get_dict ?Nzq ?mzq ?dzq ?vzq ?_ ; (case Nzq => k_asm); (case mzq => k_mem); (case dzq => k_asm); (case vzq => rfl); k_whole)) | fail "no"
  k_with "setItem ref str" => first | ((k_here; k_dflt (refine' set_dictK ?Fzq ?Nzq ?Uzq ?dzq ?zzq ?_; (case Fzq => k_asm); (case Nzq => k_asm); (case Uzq => k_updF); (case dzq => k_asm); (case zzq => decide); k_whole); intro h' o' F' N' hd'; (try dsimp only at N'); (try k_sweep)); (try (revert h' o' F' N' hd'; intros))) | fail "no"
  k_with "call ref" => first | ((k_here; (with_reducible show wpAny _ _ (call (Value.ref 261) _) _ _ _); k_dflt (refine' toss_k ?Fzq ?Nzq ?Xzq ?Tzq ?Uzq ?hozq ?hrzq ?hizq ?c1zq ?c2zq ?c3zq ?c4zq ?c5zq ?c6zq ?c7zq ?_; (case Fzq => k_asm); (case Nzq => k_asm); (case Xzq => k_asm); (case Tzq => k_asm); (case Uzq => k_updF); (case hozq => k_asm); (case hrzq => k_asm); (case hizq => k_asm); (case c1zq => (simp only [depth_deeper]; omega)); (case c2zq => (simp only [units_deeper]; omega)); (case c3zq => omega); (case c4zq => omega); (case c5zq => omega); (case c6zq => decide); (case c7zq => decide); k_whole); intro val' h' tk' o' t1' tv' hv0' hv1' F' N' hd'; (try dsimp only at N'); (try k_sweep)); (try (revert val' h' tk' o' t1' tv' hv0' hv1' F' N' hd'; intros))) | fail "no"
  k_with "eval Name" => first | (k_here; (with_reducible show wpAny _ _ (eval (Expr.Name _ _) (compEnvC _ _ _ _)) _ _ _); k_dflt (first
    | (refine' nameB_C ?Nzq ?czq ?mzq ?dzq ?_ ?azq ?bzq ?ezq; (case azq => rfl); (case bzq => rfl); (case ezq => decide); (case Nzq => k_asm); (case czq => rfl); (case mzq => k_mem); (case dzq => k_asm); k_whole)
    | (refine' nameG_K ?Fzq ?Xzq ?Tzq ?ezq ?_ ?k4zq ?k5zq ?k6zq ?k7zq; (case k4zq => rfl); (case k5zq => rfl); (case k6zq => rfl); (case k7zq => decide); (case Fzq => k_asm); (case Xzq => k_asm); (case Tzq => k_asm); (case ezq => k_is); k_whole))) | fail "no"
  trivial

noncomputable def TreeC (w : World) (H : Heap) (vs : List Value) (high : Nat) : Prop :=
    ∀ {A : Around} {s : Shared} {R : Result → Shared → Prop} {cup r : Addr} {o : Obj} {n l hn : Int} {t1 t2 th : Tok}
    (hk : H.StaysIn s.heap) (hhn : hn = (high : Int)) (hh : A.handled = none) (hroom : A.depth + 2 * high + 20 < recursionLimit) (hu : A.units + 20 * high + 40 < cLine)
    (hc : s.heap.get? cup = some o) (hH : H.get? cup = none) (ho : o.IsDictOf (strKind PySem.Challenge.rw_qz0087_01.row.prog w) (CupKvs r n l t1 t2)) (hrow : s.heap.IsList r vs.toArray) (h0 : 0 ≤ n) (hl0 : 0 ≤ l) (h1 : n + 2 * l < 5000)
    (hret : ∀ v d Z h' tk o' n' l' t1' t2', (∀ b x, b ≠ cup → s.heap.get? b = some x → h'.get? b = some x) → h'.get? cup = some o' → o'.IsDictOf (strKind PySem.Challenge.rw_qz0087_01.row.prog w) (CupKvs r n' l' t1' t2') →
      n ≤ n' → 0 ≤ l' → n' + 2 * l' ≤ n + 2 * l → (∀ q ∈ Z, h'.get? q.1 = some q.2 ∧ s.heap.get? q.1 = none) → InD Z v d → d.dep ≤ 6 * high + 1 → d.siz ≤ Bs high →
      R (.ok (.ret v)) { s with heap := h', toks := tk }),
    codeAny (model PySem.Challenge.rw_qz0087_01.row.prog w) A (.call (.ref 266) ⟨[.ref cup, .int hn th], []⟩) R s

theorem tree_k {w : World} {H : Heap} {vs : List Value} {high : Nat} (spec : TreeC w H vs high) {A : Around} {E : Value → Shared → Prop} {s : Shared} {h₀ : Heap} {L : Addr} {m : Str → Option Value} {news : List (Addr × Obj)} {cup r : Addr} {o : Obj} {g : Obj → List (Addr × Obj)} {n l hn : Int} {t1 t2 th : Tok} {Q : Value → Shared → Prop}
    (F : Fr h₀ L s.heap m) (N : News h₀ L s.heap news) (st : H.StaysIn h₀) (U : UpdF cup o news g) (ho : o.IsDictOf (strKind PySem.Challenge.rw_qz0087_01.row.prog w) (CupKvs r n l t1 t2)) (hrow : h₀.IsList r vs.toArray)
    (hhn : hn = (high : Int)) (hh : A.handled = none) (hroom : A.depth + 2 * high + 20 < recursionLimit) (hu : A.units + 20 * high + 40 < cLine) (h0 : 0 ≤ n) (hl0 : 0 ≤ l) (h1 : n + 2 * l < 5000)
    (h : ∀ v d Z h' tk o' n' l' t1' t2', Fr h₀ L h' m → News h₀ L h' (g o') → News h₀ L h' Z → (∀ q ∈ Z, ∀ p ∈ news, q.1 ≠ p.1) → o'.IsDictOf (strKind PySem.Challenge.rw_qz0087_01.row.prog w) (CupKvs r n' l' t1' t2') →
      n ≤ n' → 0 ≤ l' → n' + 2 * l' ≤ n + 2 * l → InD Z v d → d.dep ≤ 6 * high + 1 → d.siz ≤ Bs high → Q v { s with heap := h', toks := tk }) :
    wpAny (model PySem.Challenge.rw_qz0087_01.row.prog w) A (call (.ref 266) [.ref cup, .int hn th]) Q E s := by
  have hc : (cup, o) ∈ news := by obtain ⟨pre, post, rfl, _⟩ := U.split; exact List.mem_append_right _ (.head _)
  refine wpAny_call (spec (fun b o e => F.keep _ _ (st b o e)) hhn hh hroom hu (N _ hc).1 ?_ ho (hrow.at fun o e => F.keep _ o e) h0 hl0 h1 fun v d Z h' tk o' n' l' t1' t2' hb hc' ho' a1 a2 a3 hZ hD hde hsi => ?_)
  · cases q : H.get? cup with
    | none => rfl
    | some x => have := st _ _ q; rw [(N _ hc).2.2] at this; cases this
  have fr := raw_frame F N U hb hc'
  refine h v d Z h' tk o' n' l' t1' t2' fr.1 fr.2 (fun q hq => ⟨(hZ q hq).1, fun e => ?_, ?_⟩) (fun q hq p hp e => ?_) ho' a1 a2 a3 hD hde hsi
  · obtain ⟨oL, _, _, hL, _⟩ := F.ns
    have := (hZ q hq).2
    rw [e, hL] at this; cases this
  · cases e : h₀.get? q.1 with
    | none => rfl
    | some x => have := F.keep _ _ e; rw [(hZ q hq).2] at this; cases this
  · have := (N p hp).1
    rw [← e, (hZ q hq).2] at this; cases this

theorem raw_new {h g h' : Heap} {cup : Addr} {o : Obj} {L : Addr} {all Z : List (Addr × Obj)} (hg : g = hideAll h ([(cup, o)].map (·.1))) (N : News g L h' all) (hs : ∀ q ∈ Z, q ∈ all) (hne : ∀ q ∈ Z, q.1 ≠ cup) :
    ∀ q ∈ Z, h'.get? q.1 = some q.2 ∧ h.get? q.1 = none := fun q hq => by
  refine ⟨(N q (hs q hq)).1, ?_⟩
  cases e : h.get? q.1 with
  | none => rfl
  | some x =>
    have e2 : g.get? q.1 = some x := by rw [hg]; exact hideAll_get _ e (by simpa using hne q hq)
    rw [(N q (hs q hq)).2.2] at e2; cases e2



theorem row_g {prog : Program} {w : World} {h g : Heap} {cup r : Addr} {o : Obj} {vs : Array Value} {kvs : List (Str × Value)} (hg : g = hideAll h ([(cup, o)].map (·.1))) (hc : h.get? cup = some o) (hrow : h.IsList r vs) (ho : o.IsDictOf (strKind prog w) kvs) : g.IsList r vs := by
  obtain ⟨x, hx, hxc, y⟩ := hrow
  refine ⟨x, ?_, hxc, y⟩
  rw [hg]
  refine hideAll_get _ hx ?_
  intro q
  have e : r = cup := by simpa using q
  rw [e, hc] at hx
  cases hx
  obtain ⟨es, ep, ed, _⟩ := ho
  rw [ed.1] at hxc
  exact absurd hxc (by decide)

example : True := by
  k_with "SUB" => first | ((intro p9 h9; repeat' (first | exact h9 | exact List.mem_append_left _ h9 | exact List.mem_append_right _ h9 | refine List.mem_cons_of_mem _ ?_)); (try (revert p9 h9; intros))) | fail "no"
  k_with "IND" => first | first
      | exact InD.none | exact InD.int | exact InD.str | exact InDs.nil
      | (focus (refine' InD.tup ?_ ?_; rotate_right 2; k_mem; walk_at "IND"))
      | (focus (refine' InD.lst ?_ ?_; rotate_right 2; k_mem; walk_at "IND"))
      | (focus (refine' InDs.cons ?_ ?_; rotate_right 2; walk_at "IND"; walk_at "IND"))
      | (refine' InD.mono ?mzq ?hzq; (case hzq => assumption); (case mzq => walk_at "SUB")) | fail "no"
  trivial


set_option maxHeartbeats 8000000 in
theorem tree_zero {w : World} {H : Heap} {p : Program} {loose : List Str} {mg mb : Str → Option Value} (X : (hd.heap_39 w.params).In H) (T : TopRead p loose mg mb H) {vs : List Value} {row : List Int} (hi : IntsAre vs row) (hrl : row.length ≤ 100) : TreeC w H vs 0 := by
    intro A s R cup r o n l hn t1 t2 th hk hhn hh hroom hu hc hH ho hrow h0 hl0 h1 hret
    subst hhn
    revert X; k_fill; intro X
    refine' call_raw (muts := [(cup, o)]) hk ?km X T ?k6 ?k7 ?k8 ?k9 ?kB ?kD ?kh ?c2 ?c3 ?c4
    case km => intro q hq; rcases List.mem_singleton.mp hq with rfl; exact ⟨hc, hH⟩
    case k6 => k_is
    case k7 => k_is
    case k8 => omega
    case k9 => exact BindsTo.of_eq rfl
    case kB => exact rfl
    case kD => decide +kernel
    case c2 => exact rfl
    case c3 => exact rfl
    case c4 => exact rfl
    intro g L' h₁ tk cells hg hL st X' T' F N Y l1
    have hrg := row_g hg hc hrow ho
    obtain ⟨oh, oc, hE, d1, d2⟩ := CellsAre.two Y
    subst hE
    clear Y
    replace d1 : oh.data = .cell (some (.int ((0 : Nat) : Int) th)) := d1
    replace d2 : oc.data = .cell (some (.ref cup)) := d2
    replace F : Fr g L' h₁ (fun _ => none) := F
    simp only [List.nil_append, List.cons_append] at N
    k_lt l1
    k_steps
    exact (hret _ _ _ _ _ _ _ _ _ _ (raw_back1 hg (by assumption)) (News.get (by assumption) (by k_mem)) ho (by omega) (by omega) (by omega) (raw_new hg (by assumption) (fun q hq => (List.mem_filter.mp hq).1) (seq_ne (by assumption) (News.get (by assumption) (by k_mem)) (dict_notSeq ho))) (InD.filter (by walk_at "IND")) (by simp only [D.dep, DL.dep, Nat.add_assoc, mxk, Nat.max_le]; (repeat' apply And.intro) <;> omega) (by simp only [D.siz, DL.siz, Bs]; omega))

set_option maxHeartbeats 8000000 in
theorem tree_succ {w : World} {H : Heap} {p : Program} {loose : List Str} {mg mb : Str → Option Value} (X : (hd.heap_39 w.params).In H) (T : TopRead p loose mg mb H) {vs : List Value} {row : List Int} (hi : IntsAre vs row) (hrl : row.length ≤ 100) {high : Nat} (ih : TreeC w H vs high) : TreeC w H vs (high + 1) := by
    have hBs := Bs_ge high
    intro A s R cup r o n l hn t1 t2 th hk hhn hh hroom hu hc hH ho hrow h0 hl0 h1 hret
    revert X; k_fill; intro X
    refine' call_raw (muts := [(cup, o)]) hk ?km X T ?k6 ?k7 ?k8 ?k9 ?kB ?kD ?kh ?c2 ?c3 ?c4
    case km => intro q hq; rcases List.mem_singleton.mp hq with rfl; exact ⟨hc, hH⟩
    case k6 => k_is
    case k7 => k_is
    case k8 => omega
    case k9 => exact BindsTo.of_eq rfl
    case kB => exact rfl
    case kD => decide +kernel
    case c2 => exact rfl
    case c3 => exact rfl
    case c4 => exact rfl
    intro g L' h₁ tk cells hg hL st X' T' F N Y l1
    have hrg := row_g hg hc hrow ho
    obtain ⟨oh, oc, hE, d1, d2⟩ := CellsAre.two Y
    subst hE
    clear Y
    replace d1 : oh.data = .cell (some (.int hn th)) := d1
    replace d2 : oc.data = .cell (some (.ref cup)) := d2
    replace F : Fr g L' h₁ (fun _ => none) := F
    simp only [List.nil_append, List.cons_append] at N
    k_lt l1
    k_steps
    · exfalso; omega
    · exact hret _ _ _ _ _ _ _ _ _ _ (raw_back1 hg (by assumption)) (News.get (by assumption) (by k_mem)) ho (by omega) (by omega) (by omega) (raw_new hg (by assumption) (fun q hq => (List.mem_filter.mp hq).1) (seq_ne (by assumption) (News.get (by assumption) (by k_mem)) (dict_notSeq ho))) (InD.filter (by walk_at "IND")) (by simp only [D.dep, DL.dep, Nat.add_assoc, mxk, Nat.max_le]; (repeat' apply And.intro) <;> omega) (by simp only [D.siz, DL.siz, Bs]; omega)
    rename_i v2 hX tkX oX t1X tvX b0 b1 FX NX hd' hY tkY tq uq vq hr F' N' keep
    clear FX NX
    have hv2 : v2 = 0 ∨ v2 = 1 := by omega
    rcases hv2 with rfl | rfl
    · refine LCg.CompSrc.range hh F' N' hr (by decide) (n := 1) rfl (by decide) ?_
      intro g'
      clear F' N' keep hr
      refine LCg.CompRest.succ ?_
      intro v I oI C oC D' m₂ h tk' E' hP hoC hx F N off ne
      obtain ⟨ne1, ne2, ne3⟩ := ne
      have offa1 := zoffI off
      have offb1 := zoffC off
      have offc1 := zoffD off
      simp only [LCg.Off3, and_true] at off
      k_steps
      refine tree_k ih F N st (by k_updF) hd' hrg (by omega) hh (by simp only [depth_deeper]; omega) (by simp only [units_deeper]; omega) (by omega) (by omega) (by omega) fun v1 dd1 Z1 hZ1 tkZ1 oZ1 n1 l1' tz1 tz1' F1 N1 NZ1 offZ1 hdZ1 a1 b1 c1 hD1 de1 si1 => ?_
      refine LCg.CompEnd.intro F1 (all := [(I, oI), (C, oC), (D', LCg.lst []), (L' + 1 + 1, oh), (L' + 1, oc), (cup, oZ1)] ++ Z1) (fun q hq => (List.mem_append.mp hq).elim (N1 q) (NZ1 q)) ((L' + 1 + 1, oh) :: (L' + 1, oc) :: (cup, oZ1) :: Z1) (fun q hq => by simpa using hq) ?_ trivial ?_
      · refine ⟨off.1, off.2.1, off.2.2, LCg.Off3.of fun q hq => ?_⟩
        exact ⟨offZ1 q hq (I, oI) (by simp), offZ1 q hq (C, oC) (by simp), offZ1 q hq (D', LCg.lst []) (by simp)⟩
      have hZc1 : ∀ q ∈ Z1, q.1 ≠ cup := fun q hq => offZ1 q hq (cup, oX) (by simp)
      clear N N1 NZ1 offZ1 off ne1 ne2 ne3 hoC hx F
      refine LCg.CompRest.zero ?_
      unfold LCg.FinA
      intro D2 h2 tk2 F2 N2 o2
      have offd2 := zoff1 o2
      simp only [LCg.Off1] at o2
      simp only [List.nil_append, List.cons_append] at N2
      dsimp only
      k_steps
      all_goals (
        exact hret _ _ _ _ _ _ _ _ _ _ (raw_back1 hg (by assumption)) (News.get (by assumption) (by k_mem)) hdZ1 (by omega) (by omega) (by omega) (raw_new hg (by assumption) (fun q hq => (List.mem_filter.mp hq).1) (seq_ne (by assumption) (News.get (by assumption) (by k_mem)) (dict_notSeq hdZ1))) (InD.filter (by walk_at "IND")) (by simp only [D.dep, DL.dep, Nat.add_assoc, mxk, Nat.max_le]; (repeat' apply And.intro) <;> omega) (by simp only [D.siz, DL.siz, Bs]; omega))
    · refine LCg.CompSrc.range hh F' N' hr (by decide) (n := 2) rfl (by decide) ?_
      intro g'
      clear F' N' keep hr
      refine LCg.CompRest.succ ?_
      intro v I oI C oC D' m₂ h tk' E' hP hoC hx F N off ne
      obtain ⟨ne1, ne2, ne3⟩ := ne
      have offa3 := zoffI off
      have offb3 := zoffC off
      have offc3 := zoffD off
      simp only [LCg.Off3, and_true] at off
      k_steps
      refine tree_k ih F N st (by k_updF) hd' hrg (by omega) hh (by simp only [depth_deeper]; omega) (by simp only [units_deeper]; omega) (by omega) (by omega) (by omega) fun v1 dd1 Z1 hZ1 tkZ1 oZ1 n1 l1' tz1 tz1' F1 N1 NZ1 offZ1 hdZ1 a1 b1 c1 hD1 de1 si1 => ?_
      refine LCg.CompEnd.intro F1 (all := [(I, oI), (C, oC), (D', LCg.lst []), (L' + 1 + 1, oh), (L' + 1, oc), (cup, oZ1)] ++ Z1) (fun q hq => (List.mem_append.mp hq).elim (N1 q) (NZ1 q)) ((L' + 1 + 1, oh) :: (L' + 1, oc) :: (cup, oZ1) :: Z1) (fun q hq => by simpa using hq) ?_ trivial ?_
      · refine ⟨off.1, off.2.1, off.2.2, LCg.Off3.of fun q hq => ?_⟩
        exact ⟨offZ1 q hq (I, oI) (by simp), offZ1 q hq (C, oC) (by simp), offZ1 q hq (D', LCg.lst []) (by simp)⟩
      have hZc1 : ∀ q ∈ Z1, q.1 ≠ cup := fun q hq => offZ1 q hq (cup, oX) (by simp)
      clear N N1 NZ1 offZ1 off ne1 ne2 ne3 hoC hx F
      refine LCg.CompRest.succ ?_
      intro v I oI C oC D' m₂ h tk' E' hP hoC hx F N off ne
      obtain ⟨ne1, ne2, ne3⟩ := ne
      have offa4 := zoffI off
      have offb4 := zoffC off
      have offc4 := zoffD off
      simp only [LCg.Off3, and_true] at off
      k_steps
      refine tree_k ih F N st (UpdF.tail (by k_ne) (UpdF.tail (by k_ne) (UpdF.tail (by k_ne) (UpdF.tail (by k_ne) (UpdF.tail (by k_ne) (UpdF.head hZc1)))))) hdZ1 hrg (by omega) hh (by simp only [depth_deeper]; omega) (by simp only [units_deeper]; omega) (by omega) (by omega) (by omega) fun v2 dd2 Z2 hZ2 tkZ2 oZ2 n2 l2' tz2 tz2' F2 N2 NZ2 offZ2 hdZ2 a2 b2 c2 hD2 de2 si2 => ?_
      refine LCg.CompEnd.intro F2 (all := [(I, oI), (C, oC), (D', LCg.lst [v1]), (L' + 1 + 1, oh), (L' + 1, oc), (cup, oZ2)] ++ (Z2 ++ Z1)) (fun q hq => (List.mem_append.mp hq).elim (fun hq => N2 q (by simp only [List.cons_append, List.nil_append, List.mem_cons, List.not_mem_nil, or_false] at hq ⊢; rcases hq with h | h | h | h | h | h <;> simp [h])) (fun hq => (List.mem_append.mp hq).elim (NZ2 q) (fun hq => N2 q (by simp [hq])))) ((L' + 1 + 1, oh) :: (L' + 1, oc) :: (cup, oZ2) :: (Z2 ++ Z1)) (fun q hq => by simpa using hq) ?_ trivial ?_
      · refine ⟨off.1, off.2.1, off.2.2.1, LCg.Off3.of fun q hq => ?_⟩
        rcases List.mem_append.mp hq with hq | hq
        · exact ⟨offZ2 q hq (I, oI) (by simp), offZ2 q hq (C, oC) (by simp), offZ2 q hq (D', LCg.lst [v1]) (by simp)⟩
        · exact off.2.2.2.mem q hq
      have hZc2 : ∀ q ∈ Z2 ++ Z1, q.1 ≠ cup := fun q hq => (List.mem_append.mp hq).elim (fun hq => offZ2 q hq (cup, oZ1) (by simp)) (hZc1 q)
      clear N N2 NZ2 offZ2 off ne1 ne2 ne3 hoC hx F
      refine LCg.CompRest.zero ?_
      unfold LCg.FinA
      intro D2 h2 tk2 F2 N2 o2
      have offd5 := zoff1 o2
      simp only [LCg.Off1] at o2
      simp only [List.nil_append, List.cons_append] at N2
      dsimp only
      k_steps
      all_goals (
        exact hret _ _ _ _ _ _ _ _ _ _ (raw_back1 hg (by assumption)) (News.get (by assumption) (by k_mem)) hdZ2 (by omega) (by omega) (by omega) (raw_new hg (by assumption) (fun q hq => (List.mem_filter.mp hq).1) (seq_ne (by assumption) (News.get (by assumption) (by k_mem)) (dict_notSeq hdZ2))) (InD.filter (by walk_at "IND")) (by simp only [D.dep, DL.dep, Nat.add_assoc, mxk, Nat.max_le]; (repeat' apply And.intro) <;> omega) (by simp only [D.siz, DL.siz, Bs]; omega))

theorem tree_c {w : World} {H : Heap} {p : Program} {loose : List Str} {mg mb : Str → Option Value} (X : (hd.heap_39 w.params).In H) (T : TopRead p loose mg mb H) {vs : List Value} {row : List Int} (hi : IntsAre vs row) (hrl : row.length ≤ 100) : ∀ high : Nat, TreeC w H vs high
  | 0 => tree_zero X T hi hrl
  | high + 1 => tree_succ X T hi hrl (tree_c X T hi hrl high)
-- Block

noncomputable def BlockAt (Z : List (Addr × Obj)) (v : Value) : Prop := ∃ a t la vs n n2 l, v = .ref a ∧ (a, ({ cls := .type "tuple", data := .seq [Value.str (Str.ofString "block") t, .ref la].toArray n } : Obj)) ∈ Z ∧ (la, ({ cls := .type "list", data := .seq vs.toArray n2 } : Obj)) ∈ Z ∧ InDs Z vs l ∧ l.dep ≤ 25 ∧ l.siz ≤ 6144

set_option maxHeartbeats 8000000 in
theorem block_c {w : World} {H : Heap} {p : Program} {loose : List Str} {mg mb : Str → Option Value} (X : (hd.heap_39 w.params).In H) (T : TopRead p loose mg mb H) {vs : List Value} {row : List Int} (hi : IntsAre vs row) (hrl : row.length ≤ 100)
    {A : Around} {s : Shared} {R : Result → Shared → Prop} {cup r : Addr} {o : Obj} {n l : Int} {t1 t2 : Tok}
    (hk : H.StaysIn s.heap) (hh : A.handled = none) (hroom : A.depth + 50 < recursionLimit) (hu : A.units + 200 < cLine)
    (hc : s.heap.get? cup = some o) (hH : H.get? cup = none) (ho : o.IsDictOf (strKind PySem.Challenge.rw_qz0087_01.row.prog w) (CupKvs r n l t1 t2)) (hrow : s.heap.IsList r vs.toArray) (h0 : 0 ≤ n) (h1 : n < 1000)
    (hret : ∀ v Z h' tk o' n' l' t1' t2', (∀ b x, b ≠ cup → s.heap.get? b = some x → h'.get? b = some x) → h'.get? cup = some o' → o'.IsDictOf (strKind PySem.Challenge.rw_qz0087_01.row.prog w) (CupKvs r n' l' t1' t2') →
      n ≤ n' → n' ≤ n + 11 → (∀ q ∈ Z, h'.get? q.1 = some q.2 ∧ s.heap.get? q.1 = none) → BlockAt Z v →
      R (.ok (.ret v)) { s with heap := h', toks := tk }) :
    codeAny (model PySem.Challenge.rw_qz0087_01.row.prog w) A (.call (.ref 271) ⟨[.ref cup], []⟩) R s := by
    revert X; k_fill; intro X
    refine' call_raw (muts := [(cup, o)]) hk ?km X T ?k6 ?k7 ?k8 ?k9 ?kB ?kD ?kh ?c2 ?c3 ?c4
    case km => intro q hq; rcases List.mem_singleton.mp hq with rfl; exact ⟨hc, hH⟩
    case k6 => k_is
    case k7 => k_is
    case k8 => omega
    case k9 => exact BindsTo.of_eq rfl
    case kB => exact rfl
    case kD => decide +kernel
    case c2 => exact rfl
    case c3 => exact rfl
    case c4 => exact rfl
    intro g L' h₁ tk cells hg hL st X' T' F N Y l1
    have hrg := row_g hg hc hrow ho
    obtain ⟨oc, hE, d2⟩ := CellsAre.one Y
    subst hE
    clear Y
    replace d2 : oc.data = .cell (some (.ref cup)) := d2
    replace F : Fr g L' h₁ (fun _ => none) := F
    simp only [List.nil_append, List.cons_append] at N
    k_lt l1
    k_steps
    rename_i v2 hX tkX oX t1X tvX b0 b1 FX NX hd' hY tkY tq uq vq hr F' N' keep
    clear FX NX
    have hv2 : v2 = 0 ∨ v2 = 1 := by omega
    rcases hv2 with rfl | rfl
    · refine LCg.CompSrc.range hh F' N' hr (by decide) (n := 1) rfl (by decide) ?_
      intro g'
      clear F' N' keep hr
      refine LCg.CompRest.succ ?_
      intro v I oI C oC D' m₂ h tk' E' hP hoC hx F N off ne
      obtain ⟨ne1, ne2, ne3⟩ := ne
      have offa6 := zoffI off
      have offb6 := zoffC off
      have offc6 := zoffD off
      simp only [LCg.Off3, and_true] at off
      k_steps
      refine tree_k (tree_c X T hi hrl 4) F N st (by k_updF) hd' hrg (by omega) hh (by simp only [depth_deeper]; omega) (by simp only [units_deeper]; omega) (by omega) (by omega) (by omega) fun v1 dd1 Z1 hZ1 tkZ1 oZ1 n1 l1' tz1 tz1' F1 N1 NZ1 offZ1 hdZ1 a1 b1 c1 hD1 de1 si1 => ?_
      refine LCg.CompEnd.intro F1 (all := [(I, oI), (C, oC), (D', LCg.lst []), (L' + 1, oc), (cup, oZ1)] ++ Z1) (fun q hq => (List.mem_append.mp hq).elim (N1 q) (NZ1 q)) ((L' + 1, oc) :: (cup, oZ1) :: Z1) (fun q hq => by simpa using hq) ?_ trivial ?_
      · refine ⟨off.1, off.2, LCg.Off3.of fun q hq => ?_⟩
        exact ⟨offZ1 q hq (I, oI) (by simp), offZ1 q hq (C, oC) (by simp), offZ1 q hq (D', LCg.lst []) (by simp)⟩
      have hZc1 : ∀ q ∈ Z1, q.1 ≠ cup := fun q hq => offZ1 q hq (cup, oX) (by simp)
      clear N N1 NZ1 offZ1 off ne1 ne2 ne3 hoC hx F
      refine LCg.CompRest.zero ?_
      unfold LCg.FinE
      intro D2 h2 tk2 F2 N2 o2
      have offd7 := zoff1 o2
      simp only [LCg.Off1] at o2
      simp only [List.nil_append, List.cons_append] at N2
      dsimp only
      k_steps
      exact hret _ _ _ _ _ _ _ _ _ (raw_back1 hg (by assumption)) (News.get (by assumption) (by k_mem)) hdZ1 (by omega) (by omega) (raw_new hg (by assumption) (fun q hq => (List.mem_filter.mp hq).1) (seq_ne (by assumption) (News.get (by assumption) (by k_mem)) (dict_notSeq hdZ1))) ⟨_, _, _, _, _, _, _, rfl, List.mem_filter.mpr ⟨by k_mem, rfl⟩, List.mem_filter.mpr ⟨by k_mem, rfl⟩, InDs.filter (by walk_at "IND"), (by simp only [DL.dep]; omega), (by simp only [DL.siz, Bs] at *; omega)⟩
    · refine LCg.CompSrc.range hh F' N' hr (by decide) (n := 2) rfl (by decide) ?_
      intro g'
      clear F' N' keep hr
      refine LCg.CompRest.succ ?_
      intro v I oI C oC D' m₂ h tk' E' hP hoC hx F N off ne
      obtain ⟨ne1, ne2, ne3⟩ := ne
      have offa8 := zoffI off
      have offb8 := zoffC off
      have offc8 := zoffD off
      simp only [LCg.Off3, and_true] at off
      k_steps
      refine tree_k (tree_c X T hi hrl 4) F N st (by k_updF) hd' hrg (by omega) hh (by simp only [depth_deeper]; omega) (by simp only [units_deeper]; omega) (by omega) (by omega) (by omega) fun v1 dd1 Z1 hZ1 tkZ1 oZ1 n1 l1' tz1 tz1' F1 N1 NZ1 offZ1 hdZ1 a1 b1 c1 hD1 de1 si1 => ?_
      refine LCg.CompEnd.intro F1 (all := [(I, oI), (C, oC), (D', LCg.lst []), (L' + 1, oc), (cup, oZ1)] ++ Z1) (fun q hq => (List.mem_append.mp hq).elim (N1 q) (NZ1 q)) ((L' + 1, oc) :: (cup, oZ1) :: Z1) (fun q hq => by simpa using hq) ?_ trivial ?_
      · refine ⟨off.1, off.2, LCg.Off3.of fun q hq => ?_⟩
        exact ⟨offZ1 q hq (I, oI) (by simp), offZ1 q hq (C, oC) (by simp), offZ1 q hq (D', LCg.lst []) (by simp)⟩
      have hZc1 : ∀ q ∈ Z1, q.1 ≠ cup := fun q hq => offZ1 q hq (cup, oX) (by simp)
      clear N N1 NZ1 offZ1 off ne1 ne2 ne3 hoC hx F
      refine LCg.CompRest.succ ?_
      intro v I oI C oC D' m₂ h tk' E' hP hoC hx F N off ne
      obtain ⟨ne1, ne2, ne3⟩ := ne
      have offa9 := zoffI off
      have offb9 := zoffC off
      have offc9 := zoffD off
      simp only [LCg.Off3, and_true] at off
      k_steps
      refine tree_k (tree_c X T hi hrl 4) F N st (UpdF.tail (by k_ne) (UpdF.tail (by k_ne) (UpdF.tail (by k_ne) (UpdF.tail (by k_ne) (UpdF.head hZc1))))) hdZ1 hrg (by omega) hh (by simp only [depth_deeper]; omega) (by simp only [units_deeper]; omega) (by omega) (by omega) (by omega) fun v2 dd2 Z2 hZ2 tkZ2 oZ2 n2 l2' tz2 tz2' F2 N2 NZ2 offZ2 hdZ2 a2 b2 c2 hD2 de2 si2 => ?_
      refine LCg.CompEnd.intro F2 (all := [(I, oI), (C, oC), (D', LCg.lst [v1]), (L' + 1, oc), (cup, oZ2)] ++ (Z2 ++ Z1)) (fun q hq => (List.mem_append.mp hq).elim (fun hq => N2 q (by simp only [List.cons_append, List.nil_append, List.mem_cons, List.not_mem_nil, or_false] at hq ⊢; rcases hq with h | h | h | h | h <;> simp [h])) (fun hq => (List.mem_append.mp hq).elim (NZ2 q) (fun hq => N2 q (by simp [hq])))) ((L' + 1, oc) :: (cup, oZ2) :: (Z2 ++ Z1)) (fun q hq => by simpa using hq) ?_ trivial ?_
      · refine ⟨off.1, off.2.1, LCg.Off3.of fun q hq => ?_⟩
        rcases List.mem_append.mp hq with hq | hq
        · exact ⟨offZ2 q hq (I, oI) (by simp), offZ2 q hq (C, oC) (by simp), offZ2 q hq (D', LCg.lst [v1]) (by simp)⟩
        · exact off.2.2.mem q hq
      have hZc2 : ∀ q ∈ Z2 ++ Z1, q.1 ≠ cup := fun q hq => (List.mem_append.mp hq).elim (fun hq => offZ2 q hq (cup, oZ1) (by simp)) (hZc1 q)
      clear N N2 NZ2 offZ2 off ne1 ne2 ne3 hoC hx F
      refine LCg.CompRest.zero ?_
      unfold LCg.FinE
      intro D2 h2 tk2 F2 N2 o2
      have offd10 := zoff1 o2
      simp only [LCg.Off1] at o2
      simp only [List.nil_append, List.cons_append] at N2
      dsimp only
      k_steps
      exact hret _ _ _ _ _ _ _ _ _ (raw_back1 hg (by assumption)) (News.get (by assumption) (by k_mem)) hdZ2 (by omega) (by omega) (raw_new hg (by assumption) (fun q hq => (List.mem_filter.mp hq).1) (seq_ne (by assumption) (News.get (by assumption) (by k_mem)) (dict_notSeq hdZ2))) ⟨_, _, _, _, _, _, _, rfl, List.mem_filter.mpr ⟨by k_mem, rfl⟩, List.mem_filter.mpr ⟨by k_mem, rfl⟩, InDs.filter (by walk_at "IND"), (by simp only [DL.dep]; omega), (by simp only [DL.siz, Bs] at *; omega)⟩
-- Tab
example : ∀ (w : World) (H : Heap), (hd.heap_39 w.params).In H → PySem.Challenge.rw_qz0087_01 = PySem.Challenge.rw_qz0087_01 := by k_fill; intros; rfl

noncomputable def TabI (w : World) (h : Heap) (d : Addr) (f : Str → Option Int) : Prop :=
  (d == sysModules) = false ∧ ∃ fv, h.MapOf (strKind PySem.Challenge.rw_qz0087_01.row.prog w) d fv ∧ ∀ x, (f x = none → fv x = none) ∧ ∀ i, f x = some i → ∃ t, fv x = some (.int i t)
theorem TabI.keeps {w : World} {h h' : Heap} {d : Addr} {f : Str → Option Int} (T : TabI w h d f) (hk : ∀ b o, h.get? b = some o → h'.get? b = some o) : TabI w h' d f := by
  obtain ⟨lo, fv, ⟨o, es, ep, ho, r⟩, hf⟩ := T
  exact ⟨lo, fv, ⟨o, es, ep, hk _ _ ho, r⟩, hf⟩

noncomputable def IntVals (es : List DictEntry) : Prop := ∀ e ∈ es, ∃ i t, e.val = .int i t ∧ 0 ≤ i
theorem tabI_of {w : World} {h : Heap} {K : Frag} {a : Addr} {es : Array DictEntry} {n : Nat} (X : K.In h) (hl : K.lookup a = some ⟨.type "dict", none, .dict es n, #[]⟩) (hk : KeysLit w.params es.toList) (hv : IntVals es.toList) (lo : (a == sysModules) = false) :
    ∃ f : Str → Option Int, TabI w h a f ∧ ∀ x i, f x = some i → 0 ≤ i := by
  have key : ∀ x, findBy Value.isStrOf es x = none ∨ ∃ i t, findBy Value.isStrOf es x = some (.int i t) ∧ 0 ≤ i := fun x => by
    unfold findBy
    cases q : es.find? fun e => Value.isStrOf x e.key with
    | none => exact .inl rfl
    | some e =>
      obtain ⟨i, t, e1, e2⟩ := hv e (Array.mem_toList_iff.mpr (Array.mem_of_find?_eq_some q))
      exact .inr ⟨i, t, by rw [Option.map_some, e1], e2⟩
  refine ⟨fun x => match findBy Value.isStrOf es x with | some (.int i _) => some i | _ => none, ⟨lo, _, mapOf_K X hl hk, fun x => ⟨fun e => ?_, fun i e => ?_⟩⟩, fun x i e => ?_⟩
  · rcases key x with q | ⟨i, t, q, _⟩
    · exact q
    · dsimp only at e; rw [q] at e; cases e
  · rcases key x with q | ⟨j, t, q, _⟩
    · dsimp only at e; rw [q] at e; cases e
    · dsimp only at e; rw [q] at e; cases e; exact ⟨t, q⟩
  · rcases key x with q | ⟨j, t, q, h0⟩
    · dsimp only at e; rw [q] at e; cases e
    · dsimp only at e; rw [q] at e; cases e; exact h0

section
variable {w : World} {A : Around} {E : Value → Shared → Prop} {s : Shared} {h₀ : Heap} {L d : Addr} {m : Str → Option Value} {f : Str → Option Int} {x : Str} {t : Tok}
theorem tabI_in {Q : Value → Shared → Prop} (F : Fr h₀ L s.heap m) (T : TabI w h₀ d f) (h : Q (.bool (f x).isSome) { s with toks := s.toks + 1 }) :
    wpAny (model PySem.Challenge.rw_qz0087_01.row.prog w) A (compareOp .In (.str x t) (.ref d)) Q E s := by
  obtain ⟨lo, fv, hm, hf⟩ := T.keeps F.keep
  refine wpAny_in_of (strKind_is _ w x t) lo hm ?_
  cases q : f x with
  | none => rw [(hf x).1 q]; rw [q] at h; exact h
  | some i => obtain ⟨t', e⟩ := (hf x).2 i q; rw [e]; rw [q] at h; exact h
theorem tabI_sub {value slice : Expr} {i : Int} {Q : Value → Shared → Prop} (F : Fr h₀ L s.heap m) (T : TabI w h₀ d f) (hs : (f x).isSome = true) (h : ∀ t', Q (.int ((f x).getD 0) t') { s with toks := s.toks + 1 })
    (hs' : subscripted slice false (.ref d) (.str x t) = operate [.ref d, .str x t] (getItem (.ref d) (.str x t)) := by with_unfolding_all rfl) :
    wpAny (model PySem.Challenge.rw_qz0087_01.row.prog w) A (subscriptTail value slice (.ref d) (.str x t)) Q E s := by
  obtain ⟨lo, fv, hm, hf⟩ := T.keeps F.keep
  obtain ⟨i, q⟩ := Option.isSome_iff_exists.mp hs
  obtain ⟨t', e⟩ := (hf x).2 i q
  rw [q] at h
  exact tail_any hm.typeIs slot_dict_getitem.lookup (wpAny_getItem_of (strKind_is _ w x t) hm e (h t')) hs'
theorem tabI_get {i : Int} {ti : Tok} {Q : Value → Shared → Prop} (F : Fr h₀ L s.heap m) (T : TabI w h₀ d f) (h : ∀ t', Q (.int ((f x).getD i) t') { s with toks := s.toks + 1 }) :
    wpAny (model PySem.Challenge.rw_qz0087_01.row.prog w) A (call (.builtin "dict.get") [.ref d, .str x t, .int i ti]) Q E s := by
  obtain ⟨lo, fv, hm, hf⟩ := T.keeps F.keep
  refine call_meetsIn PySem.F.slot_dict_get hm.typeIs PySem.F.entry_dict_get (PySem.F.args_dict_get_3 _ _ _) (meets_dict_get_default _ d (strKind_is _ w x t) lo _) ⟨_, hm, ?_⟩
  cases q : f x with
  | none => rw [(hf x).1 q]; rw [q] at h; exact h _
  | some j => obtain ⟨t', e⟩ := (hf x).2 j q; rw [e]; rw [q] at h; exact h _
theorem tabI_meth {pl : Sem Bool} {Q : Value × List Value → Shared → Prop} (F : Fr h₀ L s.heap m) (T : TabI w h₀ d f) (h : Q (.builtin "dict.get", [.ref d]) s) :
    wpAny (model PySem.Challenge.rw_qz0087_01.row.prog w) A (getMethod (.ref d) "get" pl) Q E s := by
  obtain ⟨lo, fv, hm, hf⟩ := T.keeps F.keep
  exact getMethod_builtin hm.typeIs PySem.F.plainAttrs_dict PySem.F.slot_dict_get PySem.F.type_dict_get hm.noDict h
end

-- Comp
section
variable {prog : Program} {w : World} {A : Around} {E : Value → Shared → Prop} {s : Shared} {h₀ : Heap} {L : Addr} {m : Str → Option Value} {env : Env}

theorem rest_ind {elt : Expr} {x : Str} {scope : Scope} {cl : List (Str × Addr)} {S : List (Addr × Obj) → Prop} {P : Nat → Value → Prop} {Fin : List Value → List (Addr × Obj) → Prop} {n : Nat} (Inv : Nat → List Value → List (Addr × Obj) → Prop)
    (turn : ∀ i ys news, i < n → Inv i ys news → ∀ v I oI C oC D m₂ h tk (E' : Value → Shared → Prop), P i v → LCg.NsObj oC m₂ → m₂ x = some v → Fr h₀ L h m → News h₀ L h ((I, oI) :: (C, oC) :: (D, LCg.lst ys) :: news) → LCg.Off3 I C D news → ((@Ne Nat I C) ∧ (@Ne Nat I D) ∧ (@Ne Nat C D)) →
      wpAny (model prog w) A (eval elt (compEnvC scope cl C env)) (LCg.CompEnd h₀ L m { s with heap := h, toks := tk } I oI C oC D (LCg.lst ys) S (fun y news' => Inv (i + 1) (ys ++ [y]) news')) E' { s with heap := h, toks := tk })
    (fin : ∀ ys news, Inv n ys news → Fin ys news) : ∀ k i ys news, i + k = n → Inv i ys news → LCg.CompRest prog w A h₀ L m env elt x scope cl s S P Fin k i ys news
  | 0, i, ys, news, e, hI => LCg.CompRest.zero (fin ys news (by have : i = n := by omega
                                                                subst this; exact hI))
  | k + 1, i, ys, news, e, hI => LCg.CompRest.succ fun v I oI C oC D m₂ h tk E' a b c F N off ne =>
      wpAny_mono (turn i ys news (by omega) hI v I oI C oC D m₂ h tk E' a b c F N off ne)
        (fun y s' hy => by
          obtain ⟨h', tk', news', e1, e2, e3, e4, e5, e6⟩ := hy
          exact ⟨h', tk', news', e1, e2, e3, e4, e5, rest_ind Inv turn fin k (i + 1) (ys ++ [y]) news' (by omega) e6⟩) fun _ _ x => x

theorem restT_ind {ct elt : Expr} {x : Str} {scope : Scope} {cl : List (Str × Addr)} {S : List (Addr × Obj) → Prop} {P : Nat → Value → Prop} {Fin : List Value → List (Addr × Obj) → Prop} {n : Nat} (Inv : Nat → List Value → List (Addr × Obj) → Prop)
    (turn : ∀ i ys news, i < n → Inv i ys news → ∀ v I oI C oC D m₂ h tk (E' : Value → Shared → Prop), P i v → LCg.NsObj oC m₂ → m₂ x = some v → Fr h₀ L h m → News h₀ L h ((I, oI) :: (C, oC) :: (D, LCg.lst ys) :: news) → LCg.Off3 I C D news → ((@Ne Nat I C) ∧ (@Ne Nat I D) ∧ (@Ne Nat C D)) →
      wpAny (model prog w) A (isTrue ct (compEnvC scope cl C env) (eval ct (compEnvC scope cl C env))) (fun ok s' => if ok = true then
        wpAny (model prog w) A (eval elt (compEnvC scope cl C env)) (LCg.CompEnd h₀ L m { s with heap := h, toks := tk } I oI C oC D (LCg.lst ys) S (fun y news' => Inv (i + 1) (ys ++ [y]) news')) E' s'
        else LCg.CompEnd h₀ L m { s with heap := h, toks := tk } I oI C oC D (LCg.lst ys) S (fun _ news' => Inv (i + 1) ys news') Value.none s') E' { s with heap := h, toks := tk })
    (fin : ∀ ys news, Inv n ys news → Fin ys news) : ∀ k i ys news, i + k = n → Inv i ys news → LCt.CompRestT prog w A h₀ L m env ct elt x scope cl s S P Fin k i ys news
  | 0, i, ys, news, e, hI => LCt.CompRestT.zero (fin ys news (by have : i = n := by omega
                                                                 subst this; exact hI))
  | k + 1, i, ys, news, e, hI => LCt.CompRestT.succ fun v I oI C oC D m₂ h tk E' a b c F N off ne =>
      wpAny_mono (turn i ys news (by omega) hI v I oI C oC D m₂ h tk E' a b c F N off ne)
        (fun ok s' hok => by
          cases ok with
          | true =>
            rw [if_pos rfl] at hok ⊢
            exact wpAny_mono hok (fun y s' hy => by
              obtain ⟨h', tk', news', e1, e2, e3, e4, e5, e6⟩ := hy
              exact ⟨h', tk', news', e1, e2, e3, e4, e5, restT_ind Inv turn fin k (i + 1) (ys ++ [y]) news' (by omega) e6⟩) fun _ _ x => x
          | false =>
            rw [if_neg (by decide)] at hok ⊢
            obtain ⟨h', tk', news', e1, e2, e3, e4, e5, e6⟩ := hok
            exact ⟨h', tk', news', e1, e2, e3, e4, e5, restT_ind Inv turn fin k (i + 1) ys news' (by omega) e6⟩) fun _ _ x => x

noncomputable def SrcT (prog : Program) (w : World) (A : Around) (h₀ : Heap) (L : Addr) (m : Str → Option Value) (env : Env) (elt : Expr) (x : Str) (scope : Scope) (cl : List (Str × Addr)) (Fin : Shared → List Value → List (Addr × Obj) → Prop) (xv : Value) (s₁ : Shared) : Prop :=
  ∃ ax its news, xv = .ref ax ∧ A.handled = none ∧ Fr h₀ L s₁.heap m ∧ News h₀ L s₁.heap news ∧ (h₀.IsTuple ax its ∨ h₀.IsList ax its) ∧ its.size ≤ sizeLine ∧
    ∀ s₂ : Shared, (∃ h, s₂ = { s₁ with heap := h }) → LCg.CompRest prog w A h₀ L m env elt x scope cl s₂ (fun _ => True) (fun i v => its[i]? = some v) (Fin s₂) its.size 0 [] news

theorem tuple_block {elt iter : Expr} {x : Str} {px : Pos} {scope : Scope} {cl : List (Str × Addr)} {pos : Pos} {s₁ : Shared} {ax : Addr} {its : Array Value} {news : List (Addr × Obj)} {Fin : Shared → List Value → List (Addr × Obj) → Prop} {RR : Value → Addr → Result → Shared → Prop}
    (hcell : ∀ y ∈ scope.names, y.2 ≠ .cell) (hkind : scope.kind = .function) (hx : scope.names.lookup x = some .local)
    (hh : A.handled = none) (F : Fr h₀ L s₁.heap m) (N : News h₀ L s₁.heap news) (ht : h₀.IsTuple ax its ∨ h₀.IsList ax its) (hsz : its.size ≤ sizeLine)
    (R : ∀ s₂ : Shared, (∃ h, s₂ = { s₁ with heap := h }) → LCg.CompRest prog w A h₀ L m env elt x scope cl s₂ (fun _ => True) (fun i v => its[i]? = some v) (Fin s₂) its.size 0 [] news)
    (hRR : ∀ s₂ : Shared, (∃ h, s₂ = { s₁ with heap := h }) → ∀ D C h tk m' ys news', Fr h₀ L h m → News h₀ L h ((D, LCg.lst ys) :: news') → LCg.Off1 D news' → h.Ns C m' → h₀.get? C = none → h₀.get? D = none → C ≠ L → D ≠ L → C ≠ D → (∀ p ∈ news', p.1 ≠ C) → Fin s₂ ys news' → RR (.ref D) C (.ok .next) { s₂ with heap := h, toks := tk }) :
    wpAny (model prog w) A (pyIter (.ref ax)) (fun it s₂ => wpAny (model prog w) A (newList []) (fun acc s₃ => wpAny (model prog w) A (newFunctionEnv scope env.globals cl [] env.qual none .none (some env)) (fun cenv s₄ =>
      codeAny (model prog w) A (.compStart (.ListComp elt [⟨.Name x px, iter, [], 0⟩] scope pos) 0 it acc { cenv with scope := relabel scope env }) (RR acc cenv.locals) s₄) E s₃) E s₂) E s₁ := by
  rcases ht with ht | ht
  · have hl : s₁.heap.IsTuple ax its := ht.at fun o e => F.keep _ o e
    have hlt : ax < s₁.heap.objs.size := by obtain ⟨_, e, _⟩ := hl; exact Heap.lt_size e
    refine wpAny_pyIter_tuple hl ?_
    have up : ∀ b o, s₁.heap.get? b = some o → (s₁.heap.push { cls := .type "tuple_iterator", data := .fields #[.ref ax, .int 0 0] }).get? b = some o := fun b o e => Heap.get?_push_of_some _ e
    refine LCg.block_U (Walks.tuple hh s₁.heap.objs.size ax (Nat.ne_of_lt hlt) its) hsz (fun i h st => by obtain ⟨o, e, _⟩ := st.1; exact ⟨o, e⟩)
      (fun i h h' o nw st e e' k _ _ => ⟨by obtain ⟨o', q, r⟩ := st.1; rw [e] at q; cases q; exact ⟨o, e', r⟩, ht.at fun o e => k _ o e⟩) hcell hkind hx
      ⟨⟨_, Heap.get?_push_size _ rfl, rfl, rfl⟩, hl.at fun o e => up _ o e⟩ (fun b hb => ?_)
      (F.keeps up) (N.grown up) (Nat.ne_of_lt F.ns.lt) (next_is_new F) (fun p hp => Nat.ne_of_lt (Heap.lt_size (N p hp).1)) trivial (R _ ⟨_, rfl⟩) (hRR _ ⟨_, rfl⟩)
    show b < (s₁.heap.push _).objs.size
    rw [Heap.size_push]
    rcases List.mem_cons.mp hb with rfl | hb
    · exact Nat.lt_succ_self _
    · rw [List.mem_singleton.mp hb]; exact Nat.lt_succ_of_lt hlt
  · have hl : s₁.heap.IsList ax its := ht.at fun o e => F.keep _ o e
    have hlt : ax < s₁.heap.objs.size := by obtain ⟨_, e, _⟩ := hl; exact Heap.lt_size e
    refine wpAny_pyIter_list hl ?_
    have up : ∀ b o, s₁.heap.get? b = some o → (s₁.heap.push { cls := .type "list_iterator", data := .fields #[.ref ax, .int 0 0] }).get? b = some o := fun b o e => Heap.get?_push_of_some _ e
    refine LCg.block_U (Walks.list hh s₁.heap.objs.size ax (Nat.ne_of_lt hlt) its) hsz (fun i h st => by obtain ⟨o, e, _⟩ := st.1; exact ⟨o, e⟩)
      (fun i h h' o nw st e e' k _ _ => ⟨by obtain ⟨o', q, r⟩ := st.1; rw [e] at q; cases q; exact ⟨o, e', r⟩, ht.at fun o e => k _ o e⟩) hcell hkind hx
      ⟨⟨_, Heap.get?_push_size _ rfl, rfl, rfl⟩, hl.push _⟩ (fun b hb => ?_)
      (F.keeps up) (N.grown up) (Nat.ne_of_lt F.ns.lt) (next_is_new F) (fun p hp => Nat.ne_of_lt (Heap.lt_size (N p hp).1)) trivial (R _ ⟨_, rfl⟩) (hRR _ ⟨_, rfl⟩)
    show b < (s₁.heap.push _).objs.size
    rw [Heap.size_push]
    rcases List.mem_cons.mp hb with rfl | hb
    · exact Nat.lt_succ_self _
    · rw [List.mem_singleton.mp hb]; exact Nat.lt_succ_of_lt hlt

theorem ListComp_T {elt iter : Expr} {x : Str} {px : Pos} {scope : Scope} {cl : List (Str × Addr)} {pos : Pos} {Q : Value → Shared → Prop} (F₀ : Fr h₀ L s.heap m)
    (hclos : closureFor scope env = pure cl) (hcell : ∀ y ∈ scope.names, y.2 ≠ .cell) (hkind : scope.kind = .function)
    (hnames : ∀ y ∈ scope.names, y.2 = .local → scope.names.lookup y.1 = some .local) (hx : scope.names.lookup x = some .local)
    (h : wpAny (model prog w) A (eval iter env) (SrcT prog w A h₀ L m env elt x scope cl (fun s₂ => LCg.FinE h₀ L m s₂ Q)) E s)
    (hs : ∀ x, foldedSetIterable iter env x = pure x := by intro _; rfl) :
    wpAny (model prog w) A (eval (.ListComp elt [⟨.Name x px, iter, [], 0⟩] scope pos) env) Q E s := by
  rw [eval_ListComp]
  refine wpAny_comprehension_free (use := none) rfl hs hclos hkind hnames (wpAny_mono h (fun xv s₁ h₁ => ?_) fun _ _ e => e)
  obtain ⟨ax, its, news, rfl, hh, F, N, ht, hsz, R⟩ := h₁
  refine tuple_block hcell hkind hx hh F N ht hsz R ?_
  rintro s₂ ⟨hz, rfl⟩ D C h tk m' ys news' F' N' o1 hn hC₀ hD₀ hCL hDL hCD offC fin
  refine ⟨m', hn, fun h'' hs'' => fin D h'' tk (F'.change hs'' hCL hC₀) (fun p hp => ?_) o1⟩
  refine ⟨hs''.extBut _ _ ?_ (N' p hp).1, (N' p hp).2⟩
  rcases List.mem_cons.mp hp with rfl | hp
  · exact Ne.symm hCD
  · exact offC p hp

theorem Assign_ListComp_T {elt iter : Expr} {x y : Str} {px py : Pos} {scope : Scope} {cl : List (Str × Addr)} {pos spos : Pos} {Q : Flow → Shared → Prop} (F₀ : Fr h₀ L s.heap m) (hLe : env.locals = L)
    (hsw : swapsWith (.ListComp elt [⟨.Name x px, iter, [], 0⟩] scope pos) (some (.Name y py)) spos.line env = pure true)
    (hclos : closureFor scope env = pure cl) (hcell : ∀ z ∈ scope.names, z.2 ≠ .cell) (hkind : scope.kind = .function)
    (hnames : ∀ z ∈ scope.names, z.2 = .local → scope.names.lookup z.1 = some .local) (hx : scope.names.lookup x = some .local)
    (hy : env.kindOf y = some .local) (hp : (env.scope.kind == .class || (env.scope.kind == .module && env.locals != env.globals)) = false)
    (h : wpAny (model prog w) A (eval iter env) (SrcT prog w A h₀ L m env elt x scope cl (fun s₂ => LCg.FinA h₀ L m s₂ y Q)) E s)
    (hs : ∀ x, foldedSetIterable iter env x = pure x := by intro _; rfl) :
    wpAny (model prog w) A (exec (.Assign [.Name y py] (.ListComp elt [⟨.Name x px, iter, [], 0⟩] scope pos) spos) env) Q E s := by
  subst hLe
  rw [exec_Assign_Name_used _ _ _ _ hsw]
  refine wpAny_bind (wpAny_standAt (wpAny_bind ?_))
  show wpAny _ A (do let _ ← comprehension (.ListComp elt [⟨.Name x px, iter, [], 0⟩] scope pos) scope env _ (newList []) false (eval iter env) (some (assign (.Name y py) env))) _ _ s
  refine wpAny_bind (wpAny_mono (wpAny_comprehension_free (use := some (assign (.Name y py) env)) (Q := fun _ s' => Q .next s') rfl hs hclos hkind hnames
    (wpAny_mono h (fun xv s₁ h₁ => ?_) fun _ _ e => e)) (fun _ s' hq => wpAny_pure (wpAny_pure hq)) fun _ _ e => e)
  obtain ⟨ax, its, news, rfl, hh, F, N, ht, hsz, R⟩ := h₁
  refine tuple_block hcell hkind hx hh F N ht hsz R ?_
  rintro s₂ ⟨hz, rfl⟩ D C h' tk m' ys news' F' N' o1 hn hC₀ hD₀ hCL hDL hCD offC fin
  show wpAny _ A (assign (.Name y py) env (.ref D)) _ _ _
  refine wpAny_assign_Name (wpAny_storeName_local hy F'.ns (fun h₂ hn₂ hs₂ => ?_) hp)
  have hL₀ : h₀.get? env.locals = none := Heap.get?_none_of_le F'.above
  have F₂ : Fr h₀ env.locals h₂ (fun z => if z = y then some (.ref D) else m z) := ⟨hn₂, fun b o e => hs₂.extBut b o (fun q => by rw [q, hL₀] at e; cases e) (F'.keep b o e), F'.above⟩
  refine ⟨m', hn.sameBut hs₂ hCL, fun h'' hs'' => fin D h'' _ (F₂.change hs'' hCL hC₀) (fun p hp => ?_) o1⟩
  have z : h₂.get? p.1 = some p.2 := hs₂.extBut _ _ (N' p hp).2.1 (N' p hp).1
  refine ⟨hs''.extBut _ _ ?_ z, (N' p hp).2⟩
  rcases List.mem_cons.mp hp with rfl | hp
  · exact Ne.symm hCD
  · exact offC p hp
end
-- LwA
noncomputable def DL.toList : DL → List D
  | .nil => []
  | .cons d l => d :: l.toList
noncomputable def DL.head : DL → Option Str
  | .cons (.str x) _ => some x
  | _ => none
noncomputable def lmax : List Int → Option Int
  | [] => none
  | x :: l => some (l.foldl max x)
noncomputable def lwNode (own : Int) (c : Option Int) (ps : List (Option Int × Int)) : Option Int × Int :=
  (lmax (ps.filterMap (fun p => p.1.map (own + ·)) ++ c.toList), own + (lmax (ps.map (·.2) ++ [0])).getD 0)
theorem foldl_max_ge : ∀ (l : List Int) (x : Int), x ≤ l.foldl max x ∧ ∀ y ∈ l, y ≤ l.foldl max x
  | [], x => ⟨Int.le_refl _, fun _ h => nomatch h⟩
  | z :: l, x => by
    obtain ⟨a, b⟩ := foldl_max_ge l (max x z)
    rw [List.foldl_cons]
    refine ⟨by omega, fun y hy => ?_⟩
    rcases List.mem_cons.mp hy with rfl | hy
    · omega
    · exact b y hy
theorem foldl_max_mem : ∀ (l : List Int) (x : Int), l.foldl max x = x ∨ l.foldl max x ∈ l
  | [], x => .inl rfl
  | z :: l, x => by
    rw [List.foldl_cons]
    rcases foldl_max_mem l (max x z) with e | e
    · rw [e]
      rcases Int.le_total x z with q | q
      · exact .inr (by rw [Int.max_eq_right q]; exact List.mem_cons_self)
      · exact .inl (Int.max_eq_left q)
    · exact .inr (List.mem_cons_of_mem _ e)
theorem lmax_eq {l : List Int} {M : Int} (a : M ∈ l) (b : ∀ y ∈ l, y ≤ M) : lmax l = some M := by
  cases l with
  | nil => cases a
  | cons x l =>
    obtain ⟨c, d⟩ := foldl_max_ge l x
    have : l.foldl max x ∈ x :: l := by
      rcases foldl_max_mem l x with e | e
      · rw [e]; exact List.mem_cons_self
      · exact List.mem_cons_of_mem _ e
    have h1 := b _ this
    have h2 : M ≤ l.foldl max x := by
      rcases List.mem_cons.mp a with rfl | q
      · exact c
      · exact d _ q
    exact congrArg some (by omega)
mutual
noncomputable def D.lw (wei cal : Str → Option Int) : D → Option Int × Int
  | .none => (none, 0)
  | .int _ => (none, 0)
  | .str _ => (none, 0)
  | .lst l => lwNode 0 none (l.lws wei cal)
  | .tup l => match l.head with
    | some x => if x = Str.ofString "subdef" then (none, 0) else lwNode ((wei x).getD 4) (cal x) (l.lws wei cal)
    | none => lwNode 0 none (l.lws wei cal)
noncomputable def DL.lws (wei cal : Str → Option Int) : DL → List (Option Int × Int)
  | .nil => []
  | .cons d l => d.lw wei cal :: l.lws wei cal
end
theorem lws_eq (wei cal : Str → Option Int) : ∀ l : DL, l.lws wei cal = l.toList.map (·.lw wei cal)
  | .nil => rfl
  | .cons d l => by rw [DL.lws, lws_eq wei cal l]; rfl
theorem InDs.get {Z : List (Addr × Obj)} : ∀ {vs : List Value} {l : DL}, InDs Z vs l → ∀ (i : Nat) (v : Value), vs[i]? = some v → ∃ d, l.toList[i]? = some d ∧ InD Z v d
  | _, _, .nil, _, _, e => by cases e
  | _, _, .cons h _, 0, _, e => by cases e; exact ⟨_, rfl, h⟩
  | _, _, .cons _ r, i + 1, v, e => InDs.get r i v e
theorem InDs.len {Z : List (Addr × Obj)} : ∀ {vs : List Value} {l : DL}, InDs Z vs l → vs.length = l.toList.length
  | _, _, .nil => rfl
  | _, _, .cons _ r => congrArg (· + 1) (InDs.len r)
theorem D.siz_pos : ∀ d : D, 0 < d.siz
  | .none => Nat.one_pos
  | .int _ => Nat.one_pos
  | .str _ => Nat.one_pos
  | .tup _ => Nat.succ_pos _
  | .lst _ => Nat.succ_pos _
theorem DL.len_siz : ∀ l : DL, l.toList.length ≤ l.siz
  | .nil => Nat.le_refl _
  | .cons d l => by have := d.siz_pos; have := l.len_siz; simp only [DL.toList, List.length_cons, DL.siz]; omega
theorem DL.mem_dep : ∀ {l : DL} {i : Nat} {d : D}, l.toList[i]? = some d → d.dep ≤ l.dep ∧ d.siz ≤ l.siz
  | .nil, _, _, e => by cases e
  | .cons c l, 0, _, e => by cases e; simp only [DL.dep, DL.siz]; omega
  | .cons c l, i + 1, d, e => by have := DL.mem_dep (l := l) (i := i) e; simp only [DL.dep, DL.siz]; omega

noncomputable def D.tname : D → String
  | .none => "NoneType"
  | .int _ => "int"
  | .str _ => "str"
  | .tup _ => "tuple"
  | .lst _ => "list"
noncomputable def D.isSeq : D → Bool
  | .tup _ => true
  | .lst _ => true
  | _ => false
noncomputable def D.isTup : D → Bool
  | .tup _ => true
  | _ => false
noncomputable def D.isStr : D → Bool
  | .str _ => true
  | _ => false
theorem InD.typeIs {Z : List (Addr × Obj)} {s : Shared} {v : Value} {d : D} (h : InD Z v d) (hz : ∀ q ∈ Z, s.heap.get? q.1 = some q.2) : s.TypeIs v d.tname := by
  cases h with
  | none => rfl
  | int => rfl
  | str => rfl
  | tup hm _ => exact ⟨_, hz _ hm, rfl⟩
  | lst hm _ => exact ⟨_, hz _ hm, rfl⟩
theorem InD.isTup {Z : List (Addr × Obj)} {h₀ : Heap} {a : Addr} {l : DL} (h : InD Z (.ref a) (.tup l)) (hz : ∀ q ∈ Z, h₀.get? q.1 = some q.2) : ∃ vs, InDs Z vs l ∧ IsTup h₀ a vs.toArray := by
  cases h with
  | tup hm r => exact ⟨_, r, _, hz _ hm, rfl, _, rfl⟩
theorem InD.isList {Z : List (Addr × Obj)} {h₀ : Heap} {a : Addr} {l : DL} (h : InD Z (.ref a) (.lst l)) (hz : ∀ q ∈ Z, h₀.get? q.1 = some q.2) : ∃ vs, InDs Z vs l ∧ h₀.IsList a vs.toArray := by
  cases h with
  | lst hm r => exact ⟨_, r, _, hz _ hm, rfl, _, rfl⟩

section
variable {prog : Program} {w : World} {A : Around} {E : Value → Shared → Prop} {s : Shared} {h₀ : Heap} {L : Addr} {m : Str → Option Value} {Z news : List (Addr × Obj)} {v : Value} {d : D}
theorem ans_tuple {Z : List (Addr × Obj)} {v : Value} {d : D} (h : InD Z v d) : Answers (fun s => s.TypeIs v d.tname) v (.type "tuple") d.isTup := by
  cases h with
  | none => exact Answers.of_false_none (by decide) rfl (by rw [isSubtype_type]; rfl)
  | int => exact Answers.of_false_int (by decide) rfl (by rw [isSubtype_type]; rfl)
  | str => exact Answers.of_false_str (by decide) rfl (by rw [isSubtype_type]; rfl)
  | tup hm _ => exact Answers.of_true rfl PySem.F.isi_sub_tuple
  | lst hm _ => exact Answers.of_false_list (by decide) rfl (by rw [isSubtype_type]; rfl)
theorem ans_list {Z : List (Addr × Obj)} {v : Value} {d : D} (h : InD Z v d) : Answers (fun s => s.TypeIs v d.tname) v (.type "list") (d.isSeq && !d.isTup) := by
  cases h with
  | none => exact Answers.of_false_none (by decide) rfl (by rw [isSubtype_type]; rfl)
  | int => exact Answers.of_false_int (by decide) rfl (by rw [isSubtype_type]; rfl)
  | str => exact Answers.of_false_str (by decide) rfl (by rw [isSubtype_type]; rfl)
  | tup hm _ => exact Answers.of_false_tuple (by decide) rfl (by rw [isSubtype_type]; rfl)
  | lst hm _ => exact Answers.of_true rfl (by rw [isSubtype_type]; rfl)
theorem ans_str {Z : List (Addr × Obj)} {v : Value} {d : D} (h : InD Z v d) : Answers (fun s => s.TypeIs v d.tname) v (.type "str") d.isStr := by
  cases h with
  | none => exact Answers.of_false_none (by decide) rfl (by rw [isSubtype_type]; rfl)
  | int => exact Answers.of_false_int (by decide) rfl (by rw [isSubtype_type]; rfl)
  | str => exact Answers.of_true rfl (by rw [isSubtype_type]; rfl)
  | tup hm _ => exact Answers.of_false_tuple (by decide) rfl (by rw [isSubtype_type]; rfl)
  | lst hm _ => exact Answers.of_false_list (by decide) rfl (by rw [isSubtype_type]; rfl)
theorem isi_one {T : String} {b : Bool} {Q : Value → Shared → Prop} (F : Fr h₀ L s.heap m) (hz : ∀ q ∈ Z, h₀.get? q.1 = some q.2) (hd : InD Z v d) (ha : Answers (fun s => s.TypeIs v d.tname) v (.type T) b)
    (h : ∀ tk, Q (.bool b) { s with toks := tk }) : wpAny (model prog w) A (call (.builtin "isinstance") [v, .type T]) Q E s := by
  refine call_isinstance (S := fun _ R s => s.TypeIs v d.tname ∧ ∀ tk, R (.ok (.ret (.bool b))) { s with toks := tk }) (fun _ _ _ _ _ hs => isinstance_outer ?_ (Shared.TypeIs.not_mainsLoader hs.1)) ⟨hd.typeIs fun q hq => F.keep _ _ (hz q hq), h⟩
  exact ha _ _ _ _ _ _ _ ⟨hs.1, hs.2⟩
theorem isi_no {Q : Value → Shared → Prop} (F : Fr h₀ L s.heap m) (hz : ∀ q ∈ Z, h₀.get? q.1 = some q.2) (hd : InD Z v d) (hs : d.isStr = false)
    (h : ∀ tk, Q (.bool false) { s with toks := tk }) : wpAny (model prog w) A (call (.builtin "isinstance") [v, .type "str"]) Q E s :=
  isi_one F hz hd (ans_str hd) (by rw [hs]; exact h)
theorem isi_two {tp : Addr} {Q : Value → Shared → Prop} (F : Fr h₀ L s.heap m) (N : News h₀ L s.heap news) (hm : (tp, ({ cls := .type "tuple", data := .seq #[.type "tuple", .type "list"] } : Obj)) ∈ news) (hz : ∀ q ∈ Z, h₀.get? q.1 = some q.2) (hd : InD Z v d)
    (h : ∀ tk, Q (.bool d.isSeq) { s with toks := tk }) : wpAny (model prog w) A (call (.builtin "isinstance") [v, .ref tp]) Q E s := by
  refine IsiPair.tupleOfB (cs := [.type "tuple", .type "list"]) (vs := [d.isTup, d.isSeq && !d.isTup]) (AnswersAll.cons (ans_tuple hd) (AnswersAll.cons (ans_list hd) trivial)) (hd.typeIs fun q hq => F.keep _ _ (hz q hq)) (N.get hm) ?_ h
  cases d <;> rfl
theorem len_of {a : Addr} {vs : List Value} {Q : Value → Shared → Prop} (F : Fr h₀ L s.heap m) (ht : IsTup h₀ a vs.toArray) (hsz : vs.length ≤ 8000) (h : Q (.int vs.length (s.toks + 1)) { s with toks := s.toks + 1 + 1 }) : wpAny (model prog w) A (call (.builtin "len") [.ref a]) Q E s := by
  have ht' : IsTup s.heap a vs.toArray := by obtain ⟨o, e, r⟩ := ht; exact ⟨o, F.keep _ _ e, r⟩
  exact kun_lenT (k := (vs.length : Int)) ht' (by simp) (by omega) h
theorem len_cons {a : Addr} {v : Value} {vs : List Value} {Q : Value → Shared → Prop} (F : Fr h₀ L s.heap m) (ht : IsTup h₀ a (v :: vs).toArray) (hsz : (v :: vs).length ≤ 8000) (h : Q (.int ((vs.length : Int) + 1) (s.toks + 1)) { s with toks := s.toks + 1 + 1 }) : wpAny (model prog w) A (call (.builtin "len") [.ref a]) Q E s :=
  len_of F ht hsz (by simpa using h)
theorem len_nil {a : Addr} {Q : Value → Shared → Prop} (F : Fr h₀ L s.heap m) (ht : IsTup h₀ a ([] : List Value).toArray) (h : Q (.int 0 (s.toks + 1)) { s with toks := s.toks + 1 + 1 }) : wpAny (model prog w) A (call (.builtin "len") [.ref a]) Q E s :=
  len_of F ht (Nat.zero_le _) h
theorem item_of {value slice : Expr} {a : Addr} {vs : List Value} {k : Int} {u : Tok} {x : Value} {Q : Value → Shared → Prop} (F : Fr h₀ L s.heap m) (ht : IsTup h₀ a vs.toArray) (h0 : 0 ≤ k) (h1 : k < 10000) (hx : vs[k.toNat]? = some x) (h : Q x s)
    (hs : subscripted slice false (.ref a) (.int k u) = operate [.ref a, .int k u] (getItem (.ref a) (.int k u)) := by with_unfolding_all rfl) :
    wpAny (model prog w) A (subscriptTail value slice (.ref a) (.int k u)) Q E s := by
  have ht' : IsTup s.heap a vs.toArray := by obtain ⟨o, e, r⟩ := ht; exact ⟨o, F.keep _ _ e, r⟩
  refine item_tupleT (j := k.toNat) ht' (by omega) (by omega) ?_ hx h hs
  have : k.toNat < vs.length := by
    rcases Nat.lt_or_ge k.toNat vs.length with q | q
    · exact q
    · rw [List.getElem?_eq_none q] at hx; cases hx
  unfold seqIndex?
  repeat (first | rfl | split)
  all_goals (first | omega | simp <;> omega)
end

noncomputable def OptV (v : Value) : Option Int → Prop
  | none => v = .none
  | some i => ∃ t, v = .int i t
noncomputable def pairO (vo : Value) (i : Int) (t : Tok) (n : Nat) : Obj := { cls := .type "tuple", data := .seq [vo, .int i t].toArray n }
noncomputable def PairAt (Z : List (Addr × Obj)) (v : Value) (r : Option Int × Int) : Prop := ∃ a vo t n, v = .ref a ∧ OptV vo r.1 ∧ (a, pairO vo r.2 t n) ∈ Z
inductive PairsAt (Z : List (Addr × Obj)) : List Value → List (Option Int × Int) → Prop where
  | nil : PairsAt Z [] []
  | cons {v r vs rs} : PairAt Z v r → PairsAt Z vs rs → PairsAt Z (v :: vs) (r :: rs)
theorem PairAt.mono {Z Z' : List (Addr × Obj)} (hs : ∀ p ∈ Z, p ∈ Z') {v r} : PairAt Z v r → PairAt Z' v r
  | ⟨a, vo, t, n, e, o, m⟩ => ⟨a, vo, t, n, e, o, hs _ m⟩
theorem PairsAt.mono {Z Z' : List (Addr × Obj)} (hs : ∀ p ∈ Z, p ∈ Z') : ∀ {vs rs}, PairsAt Z vs rs → PairsAt Z' vs rs
  | _, _, .nil => .nil
  | _, _, .cons h r => .cons (h.mono hs) (PairsAt.mono hs r)
theorem PairsAt.snoc {Z : List (Addr × Obj)} {v r} (h : PairAt Z v r) : ∀ {vs rs}, PairsAt Z vs rs → PairsAt Z (vs ++ [v]) (rs ++ [r])
  | _, _, .nil => .cons h .nil
  | _, _, .cons a b => .cons a (PairsAt.snoc h b)
theorem PairsAt.get {Z : List (Addr × Obj)} {vs rs} (h : PairsAt Z vs rs) : ∀ (i : Nat) (v : Value), vs[i]? = some v → ∃ r, rs[i]? = some r ∧ PairAt Z v r := by
  induction h with
  | nil => intro i v e; cases e
  | cons h r ih =>
    intro i v e
    cases i with
    | zero => cases e; exact ⟨_, rfl, h⟩
    | succ i => exact ih i v e
theorem PairsAt.len {Z : List (Addr × Obj)} : ∀ {vs rs}, PairsAt Z vs rs → vs.length = rs.length
  | _, _, .nil => rfl
  | _, _, .cons _ r => congrArg (· + 1) (PairsAt.len r)
theorem IntsAre.snoc {x : Int} {t : Tok} : ∀ {vs l}, IntsAre vs l → IntsAre (vs ++ [.int x t]) (l ++ [x])
  | _, _, .nil => .cons _ _ .nil
  | _, _, .cons k t' r => .cons k t' (IntsAre.snoc r)
theorem take_snoc {α : Type} {l : List α} {i : Nat} {x : α} (h : l[i]? = some x) : l.take (i + 1) = l.take i ++ [x] := by
  rw [List.take_add_one, h]; rfl

noncomputable def LwC (w : World) (H : Heap) (Z : List (Addr × Obj)) (d : D) (r : Option Int × Int) : Prop :=
    ∀ {A : Around} {s : Shared} {R : Result → Shared → Prop} {v : Value}
    (hk : H.StaysIn s.heap) (hh : A.handled = none) (hroom : A.depth + 2 * d.dep + 10 < recursionLimit) (hu : A.units + 20 * d.dep + 40 < cLine)
    (hZ : ∀ q ∈ Z, s.heap.get? q.1 = some q.2) (hD : InD Z v d)
    (hret : ∀ a vo t n h' tk, (∀ b x, s.heap.get? b = some x → h'.get? b = some x) → s.heap.get? a = none → h'.get? a = some (pairO vo r.2 t n) → OptV vo r.1 → R (.ok (.ret (.ref a))) { s with heap := h', toks := tk }),
    codeAny (model PySem.Challenge.rw_qz0087_01.row.prog w) A (.call (.ref 276) ⟨[v], []⟩) R s

theorem lw_k {w : World} {H : Heap} {Z : List (Addr × Obj)} {d : D} {r : Option Int × Int} (spec : LwC w H Z d r) {A : Around} {E : Value → Shared → Prop} {s : Shared} {h₀ : Heap} {L : Addr} {m : Str → Option Value} {news : List (Addr × Obj)} {v : Value} {Q : Value → Shared → Prop}
    (F : Fr h₀ L s.heap m) (N : News h₀ L s.heap news) (st : H.StaysIn h₀) (hh : A.handled = none) (hroom : A.depth + 2 * d.dep + 10 < recursionLimit) (hu : A.units + 20 * d.dep + 40 < cLine)
    (hZ : ∀ q ∈ Z, s.heap.get? q.1 = some q.2) (hD : InD Z v d)
    (h : ∀ a vo t n h' tk, Fr h₀ L h' m → News h₀ L h' (news ++ [(a, pairO vo r.2 t n)]) → (∀ p ∈ news, p.1 ≠ a) → OptV vo r.1 → Q (.ref a) { s with heap := h', toks := tk }) :
    wpAny (model PySem.Challenge.rw_qz0087_01.row.prog w) A (call (.ref 276) [v]) Q E s := by
  refine wpAny_call (spec (fun b o e => F.keep _ _ (st b o e)) hh hroom hu hZ hD fun a vo t n h' tk hb hf ha ho => ?_)
  have hne : ∀ p ∈ news, p.1 ≠ a := fun p hp e => by have := (N p hp).1; rw [e, hf] at this; cases this
  refine h a vo t n h' tk ⟨F.ns.at' fun o e => hb _ _ e, fun b x e => hb b x (F.keep b x e), F.above⟩ (fun q hq => ?_) hne ho
  rcases List.mem_append.mp hq with hq | hq
  · exact ⟨hb _ _ (N q hq).1, (N q hq).2⟩
  · rw [List.mem_singleton.mp hq]
    refine ⟨ha, fun e => ?_, ?_⟩
    · obtain ⟨oL, _, _, hL, _⟩ := F.ns
      have e : a = L := e
      rw [e, hL] at hf; cases hf
    · cases q : h₀.get? a with
      | none => rfl
      | some x => have := F.keep _ _ q; rw [hf] at this; cases this
theorem end_snoc {h₀ : Heap} {L I C D : Addr} {m : Str → Option Value} {s₁ : Shared} {oI oC oD : Obj} {S : List (Addr × Obj) → Prop} {rest : Value → List (Addr × Obj) → Prop} {y : Value} {h' : Heap} {tk : Nat} {l : List (Addr × Obj)} {x : Addr × Obj} (news' : List (Addr × Obj))
    (F : Fr h₀ L h' m) (N : News h₀ L h' (((I, oI) :: (C, oC) :: (D, oD) :: l) ++ [x])) (e : news' = l ++ [x]) (off : LCg.Off3 I C D l) (hne : ∀ p ∈ (I, oI) :: (C, oC) :: (D, oD) :: l, p.1 ≠ x.1) (hS : S news') (r : rest y news') :
    LCg.CompEnd h₀ L m s₁ I oI C oC D oD S rest y { s₁ with heap := h', toks := tk } := by
  subst e
  refine LCg.CompEnd.intro F N _ (fun p hp => by simpa using hp) (LCg.Off3.of fun q hq => ?_) hS r
  rcases List.mem_append.mp hq with hq | hq
  · exact off.mem q hq
  · rw [List.mem_singleton.mp hq]
    exact ⟨Ne.symm (hne (I, oI) (by simp)), Ne.symm (hne (C, oC) (by simp)), Ne.symm (hne (D, oD) (by simp))⟩
theorem ne_nil {prog : Program} {w : World} {A : Around} {E : Value → Shared → Prop} {s : Shared} {h₀ : Heap} {L D b : Addr} {news : List (Addr × Obj)} {vs : List Value} {n n2 : Nat} {Q : Value → Shared → Prop} (N : News h₀ L s.heap news)
    (hm : (D, ({ cls := .type "list", data := .seq vs.toArray n } : Obj)) ∈ news) (hb : (b, ({ cls := .type "list", data := .seq #[] n2 } : Obj)) ∈ news) (hu : A.units < cLine) (h : Q (.bool (decide (0 < vs.length))) s) :
    wpAny (model prog w) A (compareOp .NotEq (.ref D) (.ref b)) Q E s := by
  cases vs with
  | nil => exact SeqAt.RcNeAt.lists (e := fun _ => true) (News.isList N hm) (News.isList N hb) rfl hu (fun j h1 _ => absurd h1 (Nat.not_lt_zero _)) prog w E Q h
  | cons v vs => exact SeqAt.RcNeAt.lists_lengths (News.isList N hm) (News.isList N hb) (by simp) hu prog w E Q (by simpa using h)
theorem ne_snoc {prog : Program} {w : World} {A : Around} {E : Value → Shared → Prop} {s : Shared} {h₀ : Heap} {L D b : Addr} {news : List (Addr × Obj)} {vs : List Value} {x : Value} {n n2 : Nat} {Q : Value → Shared → Prop} (N : News h₀ L s.heap news)
    (hm : (D, ({ cls := .type "list", data := .seq (vs ++ [x]).toArray n } : Obj)) ∈ news) (hb : (b, ({ cls := .type "list", data := .seq #[] n2 } : Obj)) ∈ news) (hu : A.units < cLine) (h : Q (.bool true) s) :
    wpAny (model prog w) A (compareOp .NotEq (.ref D) (.ref b)) Q E s := ne_nil N hm hb hu (by rw [decide_eq_true (by simp)]; exact h)
theorem tl_none {c : Option Int} (h : c.isSome = false) : c.toList = [] := by cases c <;> first | rfl | cases h
theorem tl_some {c : Option Int} (h : c.isSome = true) : c.toList = [c.getD 0] := by cases c <;> first | rfl | cases h
section
variable {r : Option Int × Int} {own M M2 : Int} {c : Option Int} {ps : List (Option Int × Int)} {cl : List Int} {ys : List Value}
theorem node_a (e : r = lwNode own c ps) (hc : c.toList = cl) (h1 : lmax (ps.filterMap (fun p => p.1.map (own + ·)) ++ cl) = some M) (h2 : lmax (ps.map (·.2) ++ [0]) = some M2) : r = (some M, own + M2) := by
  rw [e, lwNode, hc, h1, h2]; rfl
theorem node_a0 (e : r = lwNode own c ps) (hc : c.toList = []) (h1 : lmax (ps.filterMap (fun p => p.1.map (own + ·))) = some M) (h2 : lmax (ps.map (·.2) ++ [0]) = some M2) : r = (some M, own + M2) :=
  node_a e hc (by rw [List.append_nil]; exact h1) h2
theorem node_n (e : r = lwNode own c ps) (hc : c.toList = []) (h0 : decide (0 < ys.length) = false) (hi : IntsAre ys (ps.filterMap (fun p => p.1.map (own + ·)))) (h2 : lmax (ps.map (·.2) ++ [0]) = some M2) : r = (none, own + M2) := by
  have h3 : ps.filterMap (fun p => p.1.map (own + ·)) = [] := by
    have := of_decide_eq_false h0
    rw [hi.length] at this
    exact List.eq_nil_of_length_eq_zero (by omega)
  rw [e, lwNode, hc, h3, h2]; rfl
end
theorem max_led {prog : Program} {w : World} {A : Around} {E : Value → Shared → Prop} {s : Shared} {h₀ : Heap} {L D : Addr} {m : Str → Option Value} {news : List (Addr × Obj)} {vs : List Value} {ns : List Int} {n : Nat} {Q : Value → Shared → Prop} (F : Fr h₀ L s.heap m) (N : News h₀ L s.heap news)
    (hm : (D, ({ cls := .type "list", data := .seq vs.toArray n } : Obj)) ∈ news) (hi : IntsAre vs ns) (hne : 0 < vs.length) (hh : A.handled = none)
    (h : ∀ h' M (t : Tok) tk, Fr h₀ L h' m → News h₀ L h' news → lmax ns = some M → Q (.int M t) { s with heap := h', toks := tk }) : wpAny (model prog w) A (call (.builtin "max") [.ref D]) Q E s :=
  max_list_N hh F N (News.isList N hm) hi (by rw [← hi.length]; exact hne) fun h' M t tk F' N' a b => h h' M t tk F' N' (lmax_eq a b)
set_option maxHeartbeats 4000000 in
theorem append_L {prog : Program} {w : World} {A : Around} {E : Value → Shared → Prop} {s : Shared} {h₀ : Heap} {L D : Addr} {m : Str → Option Value} {news news' : List (Addr × Obj)} {vs : List Value} {x : Value} {Q : Value → Shared → Prop} (F : Fr h₀ L s.heap m) (N : News h₀ L s.heap news) (U : Upd D (LCg.lst vs) (LCg.lst (vs ++ [x])) news news') (hz : vs.length ≤ sizeLine)
    (h : ∀ h', Fr h₀ L h' m → News h₀ L h' news' → Q .none { s with heap := h' }) : wpAny (model prog w) A (call (.builtin "list.append") [.ref D, x]) Q E s := by
  rw [← LCg.lst_snoc] at U
  have U' : Upd D (W.listOf vs.toArray vs.length) (W.listOf (vs.toArray.push x) (vs.length + 1)) news news' := U
  have hz' : vs.toArray.size ≤ sizeLine := by rw [List.size_toArray]; exact hz
  have q := append_K (prog := prog) (w := w) (A := A) (E := E) (s := s) (Q := Q) F N U' h
  exact q
theorem off1_mem {D : Addr} {l : List (Addr × Obj)} (h : LCg.Off1 D l) (p : Addr × Obj) (hp : p ∈ l) : p.1 ≠ D := by
  induction l with
  | nil => cases hp
  | cons q l ih =>
    rcases List.mem_cons.mp hp with rfl | hp
    · exact h.1
    · exact ih h.2 hp
theorem item_led {prog : Program} {w : World} {A : Around} {E : Value → Shared → Prop} {s : Shared} {h₀ : Heap} {L : Addr} {news P : List (Addr × Obj)} {value slice : Expr} {a : Addr} {vs : List Value} {n : Nat} {k : Int} {u : Tok} {x : Value} {Q : Value → Shared → Prop} (N : News h₀ L s.heap news) (hs : ∀ q ∈ P, q ∈ news)
    (hm : (a, ({ cls := .type "tuple", data := .seq vs.toArray n } : Obj)) ∈ P) (h0 : 0 ≤ k) (h1 : k < 10000) (hx : vs[k.toNat]? = some x) (h : Q x s)
    (hs' : subscripted slice false (.ref a) (.int k u) = operate [.ref a, .int k u] (getItem (.ref a) (.int k u)) := by with_unfolding_all rfl) :
    wpAny (model prog w) A (subscriptTail value slice (.ref a) (.int k u)) Q E s := by
  have ht' : IsTup s.heap a vs.toArray := ⟨_, (N _ (hs _ hm)).1, rfl, _, rfl⟩
  refine item_tupleT (j := k.toNat) ht' (by omega) (by omega) ?_ hx h hs'
  have : k.toNat < vs.length := by
    rcases Nat.lt_or_ge k.toNat vs.length with q | q
    · exact q
    · rw [List.getElem?_eq_none q] at hx; cases hx
  unfold seqIndex?
  repeat (first | rfl | split)
  all_goals (first | omega | simp <;> omega)
-- Lw
example : True := by
  k_with_none
  k_with "MEM" => with_reducible first | exact List.Mem.head _ | exact ym1 | exact ym2 | exact ym3 | exact ym4 | exact ym5 | exact ym6 | exact ym7 | exact ym8 | exact ym9 | exact ym10 | exact ym11 | exact ym12 | exact ym13 | exact ym14 | exact ym15 | fail "no"
  k_with "NE" => (refine neN ?_; (try dsimp only); first | assumption | (refine Ne.symm ?_; assumption) | exact Nat.ne_of_lt (by assumption) | exact Nat.ne_of_gt (by assumption) | (with_reducible first | exact Nat.ne_of_lt (zl1 (by assumption) (by decide)) | exact Nat.ne_of_gt (zl1 (by assumption) (by decide)) | exact za (by decide) | exact zb (by decide) | exact (zb (by decide)).symm | exact ze (by decide) | exact (ze (by decide)).symm | (refine Nat.ne_of_lt ?_; (repeat (first | (rename _ < _ ∧ _ => z8; revert z8; (repeat (first | exact And.left | refine cjt ?_)); done) | (rename _ < _ ∧ _ => z8; clear z8))); done) | (refine Nat.ne_of_gt ?_; (repeat (first | (rename _ < _ ∧ _ => z8; revert z8; (repeat (first | exact And.left | refine cjt ?_)); done) | (rename _ < _ ∧ _ => z8; clear z8))); done)) | ((repeat (first | exact neBy (by assumption) (by k_mem) | (rename ∀ p : Addr × Obj, p ∈ _ → p.1 ≠ _ => hz9; clear hz9))); done) | (refine Ne.symm ?_; (repeat (first | exact neBy (by assumption) (by k_mem) | (rename ∀ p : Addr × Obj, p ∈ _ → p.1 ≠ _ => hz9; clear hz9))); done) | omega)
  k_with "OM" => with_reducible first | assumption | exact zl0 (by assumption) | exact zl1 (by assumption) (by decide +kernel) | exact zl2 (by assumption) (by decide +kernel) | decide +kernel | exact Nat.le_trans (by assumption) (by decide +kernel) | exact zl4 (by assumption) (by decide +kernel) | exact Nat.lt_of_lt_of_le (by assumption) (by decide +kernel) | exact Nat.lt_of_le_of_lt (by assumption) (by decide +kernel) | exact Int.le_trans (by assumption) (by decide +kernel) | exact zl5 (by assumption) (by decide +kernel) | exact Int.lt_of_lt_of_le (by assumption) (by decide +kernel) | exact Int.lt_of_le_of_lt (by assumption) (by decide +kernel) | fail "no"
  k_with "ALL" => first | exact List.forall_mem_nil _ | exact zc (by k_ne) (by k_all) | fail "no"
  trivial
noncomputable def Stop (P : Prop) : Prop := P
theorem Stop.mk {P : Prop} (h : Stop P) : P := h
structure Sign0 : Prop where
structure Hid (P : Prop) : Prop where
  out : P
theorem Stop.back {P : Prop} (h : P) : Stop P := h
example : True := by
  k_with "eval Name" => first | (k_here; (with_reducible show wpAny _ _ (eval (Expr.Name _ _) (compEnvC _ _ _ _)) _ _ _); k_dflt (first
    | (refine' nameB_C ?Nzq ?czq ?mzq ?dzq ?_ ?azq ?bzq ?ezq; (case azq => rfl); (case bzq => rfl); (case ezq => decide); (case Nzq => k_asm); (case czq => rfl); (case mzq => k_mem); (case dzq => k_asm); k_whole)
    | (refine' nameG_K ?Fzq ?Xzq ?Tzq ?ezq ?_ ?k4zq ?k5zq ?k6zq ?k7zq; (case k4zq => rfl); (case k5zq => rfl); (case k6zq => rfl); (case k7zq => decide); (case Fzq => k_asm); (case Xzq => k_asm); (case Tzq => k_asm); (case ezq => k_is); k_whole))) | fail "no"
  k_with "exec Assign cons ListComp" => first | (k_here; lcg_look; k_dflt (refine Assign_ListComp_T (F₀ := by k_asm) (by rfl) (by with_unfolding_all rfl) (by rfl) (by decide) (by rfl) (by decide) (by rfl) (by rfl) (by rfl) ?_)) | fail "no"
  k_with "compareOp In str ref" => first | (k_here; k_dflt (refine' tabI_in ?Fzq ?Tzq ?_; (case Fzq => k_asm); (case Tzq => k_asm); k_whole)) | fail "no"
  k_with "subscriptTail" => first | ((k_here; (with_reducible show wpAny _ _ (subscriptTail _ _ (Value.ref _) (Value.str _ _)) _ _ _); k_dflt (refine' tabI_sub (i := 0) ?Fzq ?Tzq ?szq ?_; (case Fzq => k_asm); (case Tzq => k_asm); (case szq => assumption); k_whole); intro t9'); (try (revert t9'; intros))) | fail "no"
  k_with "subscriptTail" => first | (k_here; (with_reducible show wpAny _ _ (subscriptTail _ _ (Value.ref _) (Value.int _ _)) _ _ _); k_dflt (refine' item_of ?Fzq ?Tzq ?azq ?bzq ?czq ?_; (case Fzq => k_asm); (case Tzq => k_asm); (case azq => decide); (case bzq => decide); (case czq => rfl); k_whole)) | fail "no"
  k_with "call builtin:isinstance" => first | ((k_here; (with_reducible show wpAny _ _ (call _ [_, Value.ref _]) _ _ _); k_dflt (refine' isi_two ?Fzq ?Nzq ?mzq ?zzq ?dzq ?_; (case Fzq => k_asm); (case Nzq => k_asm); (case mzq => k_mem); (case dzq => assumption); (case zzq => assumption); k_whole); intro tk9'; (try rw [show D.isSeq _ = false by assumption]); (try dsimp only [D.isSeq, D.isTup, D.isStr])); (try (revert tk9'; intros))) | fail "no"
  k_with "call builtin:isinstance" => first | ((k_here; (with_reducible show wpAny _ _ (call _ [_, Value.type "tuple"]) _ _ _); k_dflt (refine' isi_one ?Fzq ?zzq ?dzq (ans_tuple ?ezq) ?_; (case Fzq => k_asm); (case dzq => assumption); (case zzq => assumption); (case ezq => assumption); k_whole); intro tk9'; (try rw [show D.isTup _ = false by assumption]); (try dsimp only [D.isSeq, D.isTup, D.isStr])); (try (revert tk9'; intros))) | fail "no"
  k_with "call builtin:isinstance" => first | ((k_here; (with_reducible show wpAny _ _ (call _ [_, Value.type "str"]) _ _ _); k_dflt (first
    | (refine' isi_no ?Fzq ?zzq ?dzq ?ezq ?_; (case Fzq => k_asm); (case ezq => assumption); (case dzq => assumption); (case zzq => assumption); k_whole)
    | (refine' isi_one ?Fzq ?zzq ?dzq (ans_str ?ezq) ?_; (case Fzq => k_asm); (case dzq => assumption); (case zzq => assumption); (case ezq => assumption); k_whole)); intro tk9'; (try dsimp only [D.isSeq, D.isTup, D.isStr])); (try (revert tk9'; intros))) | fail "no"
  k_with "call builtin:len" => first | (k_here; k_dflt (first | (refine' len_cons ?Fzq ?Tzq ?zzq ?_; (case Fzq => k_asm); (case Tzq => k_asm); (case zzq => assumption); k_whole) | (refine' len_nil ?Fzq ?Tzq ?_; (case Fzq => k_asm); (case Tzq => k_asm); k_whole))) | fail "no"
  k_with "SUB" => first | ((intro p9 h9; repeat' (first | exact h9 | exact List.mem_append_left _ h9 | exact List.mem_append_right _ h9 | refine List.mem_cons_of_mem _ ?_)); (try (revert p9 h9; intros))) | fail "no"
  k_with "subscriptTail" => first | (k_here; (with_reducible show wpAny _ _ (subscriptTail _ _ (Value.ref _) (Value.int _ _)) _ _ _); k_dflt (refine' item_led ?Nzq ?szq ?mzq ?azq ?bzq ?czq ?_; (case Nzq => k_asm); (case mzq => assumption); (case szq => walk_at "SUB"); (case azq => decide); (case bzq => decide); (case czq => rfl); k_whole)) | fail "no"
  k_with "eval ListComp" => first | (k_here; lcg_look; k_dflt (refine LCg.ListComp_U (F₀ := by k_asm) (by rfl) (by decide) (by rfl) (by decide) (by rfl) ?_)) | fail "no"
  k_with "compareOp NotEq ref ref" => first | (k_here; (with_reducible show wpAny _ _ (compareOp CmpOp.NotEq (Value.ref _) (Value.ref _)) _ _ _); k_dflt (first | (refine' ne_snoc ?Nzq ?mzq ?bzq ?uzq ?_; (case Nzq => k_asm); (case mzq => k_mem); (case bzq => k_mem); (case uzq => (simp only [units_deeper]; omega)); k_whole) | (refine' ne_nil ?Nzq ?mzq ?bzq ?uzq ?_; (case Nzq => k_asm); (case mzq => k_mem); (case bzq => k_mem); (case uzq => (simp only [units_deeper]; omega)); k_whole))) | fail "no"
  k_with "UPD" => first | first | (focus (refine' Upd.head ?_; rotate_right 1; walk_at "OFF")) | (focus (refine' Upd.tail ?_ ?_; rotate_right 2; k_ne; walk_at "UPD")) | fail "no"
  k_with "OFF" => first | first | assumption | exact List.forall_mem_nil _ | exact zc (by k_ne) (by walk_at "OFF") | fail "no"
  k_with "call builtin:list.append" => first | ((k_here; (with_reducible show wpAny _ _ (call (Value.builtin _) [Value.ref _, _]) _ _ _); k_dflt (refine' append_L ?k1zq ?k2zq ?k3zq ?zzq ?_; (case k1zq => k_asm); (case k2zq => k_asm); (case k3zq => walk_at "UPD"); (case zzq => (rw [sizeLine_eq]; omega)); k_whole); intro h' F' N'; (try k_sweep)); (try (revert h' F' N'; intros))) | fail "no"
  k_with "call builtin:max" => first | ((k_here; (with_reducible show wpAny _ _ (call (Value.builtin _) [Value.ref _]) _ _ _); k_dflt (refine' max_led ?Fzq ?Nzq ?mzq ?izq ?nzq ?hzq ?_; (case Fzq => k_asm); (case Nzq => k_asm); (case mzq => k_mem); (case izq => first | assumption | exact IntsAre.snoc (by assumption)); (case nzq => first | assumption | (exact of_decide_eq_true (by assumption)) | (simp only [List.length_append, List.length_cons]; omega)); (case hzq => assumption); k_whole); intro h' M' t' k' F' N' a'); (try (revert h' M' t' k' F' N' a'; intros))) | fail "no"
  trivial

theorem InD.headStr {Z : List (Addr × Obj)} {v0 : Value} {d0 : D} (h0 : InD Z v0 d0) : d0.isStr = false ∨ ∃ x t, v0 = .str x t ∧ d0 = .str x := by cases h0 <;> first | exact .inl rfl | exact .inr ⟨_, _, rfl, rfl⟩
theorem lw_subdef {wei cal : Str → Option Int} {l : DL} {x : Str} (h : x = Str.ofString "subdef") : (D.tup (.cons (.str x) l)).lw wei cal = (none, 0) := by
  show (if x = Str.ofString "subdef" then _ else _) = _
  rw [if_pos h]
theorem lw_str {wei cal : Str → Option Int} {l : DL} {x : Str} (h : ¬ x = Str.ofString "subdef") : (D.tup (.cons (.str x) l)).lw wei cal = lwNode ((wei x).getD 4) (cal x) ((DL.cons (.str x) l).lws wei cal) := by
  show (if x = Str.ofString "subdef" then _ else _) = _
  rw [if_neg h]
theorem lw_in {wei cal : Str → Option Int} {l : DL} {x : Str} (h : (x == Str.ofString "subdef") = false) (hs : (wei x).isSome = true) : (D.tup (.cons (.str x) l)).lw wei cal = lwNode ((wei x).getD 0) (cal x) ((DL.cons (.str x) l).lws wei cal) := by
  rw [lw_str (ne_of_beq_false h)]
  obtain ⟨i, e⟩ := Option.isSome_iff_exists.mp hs
  rw [e]; rfl
theorem lw_out {wei cal : Str → Option Int} {l : DL} {x : Str} (h : (x == Str.ofString "subdef") = false) (hs : (wei x).isSome = false) : (D.tup (.cons (.str x) l)).lw wei cal = lwNode 4 (cal x) ((DL.cons (.str x) l).lws wei cal) := by
  rw [lw_str (ne_of_beq_false h)]
  cases e : wei x with
  | none => rfl
  | some i => rw [e] at hs; cases hs
theorem lw_ret {wei cal : Str → Option Int} {d : D} {s : Shared} {R : Result → Shared → Prop} (hret : ∀ a vo t n h' tk, (∀ b x, s.heap.get? b = some x → h'.get? b = some x) → s.heap.get? a = none → h'.get? a = some (pairO vo (d.lw wei cal).2 t n) → OptV vo (d.lw wei cal).1 → R (.ok (.ret (.ref a))) { s with heap := h', toks := tk })
    {h : Heap} {L a : Addr} {m : Str → Option Value} {all : List (Addr × Obj)} {vo : Value} {i : Int} {t : Tok} {n tk : Nat} {o : Option Int} (F : Fr s.heap L h m) (N : News s.heap L h all) (hm : (a, ({ cls := .type "tuple", data := .seq #[vo, .int i t] n } : Obj)) ∈ all) (e : d.lw wei cal = (o, i)) (ho : OptV vo o) : R (.ok (.ret (.ref a))) { s with heap := h, toks := tk } := by
  rw [e] at hret
  exact hret a vo t n h tk F.keep (N _ hm).2.2 (N _ hm).1 ho
theorem head_none {d : D} {l : DL} (h : d.isStr = false) : (DL.cons d l).head = none := by
  cases d <;> first | rfl | cases h
theorem lw_non {wei cal : Str → Option Int} {l : DL} (h : l.head = none) : (D.tup l).lw wei cal = lwNode 0 none (l.lws wei cal) := by
  rw [D.lw, h]
noncomputable def NodeF (h₀ : Heap) (cal : Str → Option Int) (a : Addr) (c : Option Int) : Bool → Prop
  | true => ∃ x t vs, IsTup h₀ a (Value.str x t :: vs).toArray ∧ c = cal x
  | false => c = none

example : True := by
  k_with "execs cons" => first | (k_here; (with_reducible show wpAny _ _ (execs (Stmt.Assign [Expr.Name (Str.ofString "pairs") _] _ _ :: _) _) _ _ _); (have mk9 : Sign0 := by assumption); clear mk9; refine Stop.mk ?_) | fail "no"
  trivial

set_option maxHeartbeats 4000000 in
theorem lw_seq {w : World} {H : Heap} {p : Program} {loose : List Str} {mg mb : Str → Option Value} (X : (hd.heap_39 w.params).In H) (T : TopRead p loose mg mb H) {wei cal : Str → Option Int} (TW : TabI w H 136 wei) (TC : TabI w H 139 cal)
    {A : Around} {s : Shared} {R : Result → Shared → Prop} {a : Addr} {Z : List (Addr × Obj)} {d : D} {l : DL} (hdl : d = .tup l ∨ d = .lst l)
    (hk : H.StaysIn s.heap) (hh : A.handled = none) (hroom : A.depth + 2 * (l.dep + 1) + 10 < recursionLimit) (hu : A.units + 20 * (l.dep + 1) + 40 < cLine)
    (hZ : ∀ q ∈ Z, s.heap.get? q.1 = some q.2) (hD : InD Z (.ref a) d) (ih : ∀ d' : D, d'.dep ≤ l.dep → d'.siz ≤ 8000 → LwC w H Z d' (d'.lw wei cal)) (hsz : l.siz + 1 ≤ 8000)
    (hret : ∀ a vo t n h' tk, (∀ b x, s.heap.get? b = some x → h'.get? b = some x) → s.heap.get? a = none → h'.get? a = some (pairO vo (d.lw wei cal).2 t n) → OptV vo (d.lw wei cal).1 → R (.ok (.ret (.ref a))) { s with heap := h', toks := tk }) :
    codeAny (model PySem.Challenge.rw_qz0087_01.row.prog w) A (.call (.ref 276) ⟨[.ref a], []⟩) R s := by
  refine' call_raw (muts := []) hk ?km X T ?k6 ?k7 ?k8 ?k9 ?kB ?kD ?kh ?c2 ?c3 ?c4
  case km => intro q hq; cases hq
  case k6 => k_is
  case k7 => k_is
  case k8 => omega
  case k9 => exact BindsTo.of_eq rfl
  case kB => exact rfl
  case kD => decide +kernel
  case c2 => exact rfl
  case c3 => exact rfl
  case c4 => exact rfl
  intro g L' h₁ tk cells hg hL st X' T' F N Y l1
  obtain ⟨oc, hE, d2⟩ := CellsAre.one Y
  subst hE
  clear Y
  replace d2 : oc.data = .cell none := d2
  replace F : Fr g L' h₁ (fun y => if y = Str.ofString "part" then some (.ref a) else none) := F
  simp only [List.nil_append, List.append_nil] at N
  simp only [List.map_nil, hideAll] at hg
  subst hg
  have TW' := TW.keeps st
  have TC' := TC.keeps st
  clear l1
  have hlen' : l.toList.length ≤ 8000 := by have := l.len_siz; omega
  refine' (fun tail => ?main : Hid (∀ (h : Heap) (tk : Nat) (isn : Bool) (c : Option Int) (own : Int) (t : Tok) (o' : Obj) (Dx : Addr) (ox : Obj) (vs : List Value), Fr s.heap L' h (fun y => if y = Str.ofString "is_node" then some (.bool isn) else if y = Str.ofString "part" then some (.ref a) else none) → News s.heap L' h [(Dx, ox), (L' + 1, o')] → o'.data = .cell (some (.int own t)) →
      InDs Z vs l → (s.heap.IsTuple a vs.toArray ∨ s.heap.IsList a vs.toArray) → d.lw wei cal = lwNode own c (l.lws wei cal) → NodeF s.heap cal a c isn → wpAny _ _ (execs _ _) _ _ { s with heap := h, toks := tk }) → _) ?tl
  case main =>
    have mark : Sign0 := ⟨⟩
    rcases hdl with rfl | rfl
    · obtain ⟨vs, hI, hT⟩ := hD.isTup hZ
      have hlen : vs.length ≤ 8000 := by rw [hI.len]; exact hlen'
      have hI2 := hI
      cases hI2 with
      | nil =>
        k_steps
        refine Stop.back ?_
        have q := tail.out
        refine' q _ _ false none _ _ _ _ _ _ ?a1 ?b1 ?c1 ?d1 ?e1 ?f1 ?g1
        case a1 => k_asm
        case b1 => k_asm
        case c1 => assumption
        case d1 => exact hI
        case e1 => exact (.inl hT)
        case f1 => exact lw_non rfl
        case g1 => exact rfl
      | cons h0 hI' =>
        rename_i v0 d0 vs l
        have hS0 := InD.headStr h0
        rcases hS0 with hS0 | ⟨x, t, rfl, rfl⟩
        · k_steps
          refine Stop.back ?_
          have q := tail.out
          refine' q _ _ false none _ _ _ _ _ _ ?a4 ?b4 ?c4 ?d4 ?e4 ?f4 ?g4
          case a4 => k_asm
          case b4 => k_asm
          case c4 => assumption
          case d4 => exact hI
          case e4 => exact (.inl hT)
          case f4 => exact lw_non (head_none hS0)
          case g4 => exact rfl
        · k_steps
          · exact lw_ret hret (by k_asm) (by k_asm) (by k_mem) (lw_subdef (eq_of_beq (by assumption))) rfl
          · refine Stop.back ?_
            have q := tail.out
            refine' q _ _ true (cal x) _ _ _ _ _ _ ?a2 ?b2 ?c2 ?d2 ?e2 ?f2 ?g2
            case a2 => k_asm
            case b2 => k_asm
            case c2 => assumption
            case d2 => exact hI
            case e2 => exact (.inl hT)
            case f2 => exact lw_in (by assumption) (by assumption)
            case g2 => exact ⟨_, _, _, hT, rfl⟩
          · refine Stop.back ?_
            have q := tail.out
            refine' q _ _ true (cal x) _ _ _ _ _ _ ?a3 ?b3 ?c3 ?d3 ?e3 ?f3 ?g3
            case a3 => k_asm
            case b3 => k_asm
            case c3 => assumption
            case d3 => exact hI
            case e3 => exact (.inl hT)
            case f3 => exact lw_out (by assumption) (by assumption)
            case g3 => exact ⟨_, _, _, hT, rfl⟩
    · obtain ⟨vs, hI, hT⟩ := hD.isList hZ
      have hlen : vs.length ≤ 8000 := by rw [hI.len]; exact hlen'
      k_steps
      refine Stop.back ?_
      have q := tail.out
      refine' q _ _ false none _ _ _ _ _ _ ?a8 ?b8 ?c8 ?d8 ?e8 ?f8 ?g8
      case a8 => k_asm
      case b8 => k_asm
      case c8 => assumption
      case d8 => exact hI
      case e8 => exact (.inr hT)
      case f8 => exact (by rw [D.lw])
      case g8 => exact rfl
  case tl =>
    refine ⟨?_⟩
    intro h tk isn c own t o' Dx ox vs F N d2 hI hS hdw hNF
    have hlen : vs.length ≤ 8000 := by rw [hI.len]; exact hlen'
    k_steps
    refine ⟨_, _, _, rfl, hh, by assumption, by assumption, hS, ?_, ?_⟩
    · rw [List.size_toArray, sizeLine_eq]; omega
    rintro s₂ ⟨hz, rfl⟩
    refine rest_ind (fun i ys news' => ∃ P, news' = _ ++ P ∧ PairsAt P ys ((l.lws wei cal).take i)) ?turn ?fin _ _ _ _ (Nat.zero_add _) ⟨[], (List.append_nil _).symm, .nil⟩
    case turn =>
      rintro i ys _ hi ⟨P, rfl, hP⟩ v I oI C oC D' m₂ h tk' E' hv hoC hx F N off ne
      obtain ⟨ne1, ne2, ne3⟩ := ne
      simp only [List.cons_append, List.nil_append] at N off
      k_steps
      obtain ⟨d', hd', hDv⟩ := hI.get i v (by simpa using hv)
      have hdd := DL.mem_dep hd'
      refine lw_k (ih d' hdd.1 (by omega)) F N st hh (by simp only [depth_deeper]; omega) (by simp only [units_deeper]; omega) (fun q hq => F.keep _ _ (hZ q hq)) hDv fun a' vo t' n' h'' tk'' F1 N1 hne ho => ?_
      refine end_snoc _ F1 N1 (List.append_assoc _ _ _).symm off hne trivial ⟨P ++ [(a', pairO vo _ t' n')], rfl, ?_⟩
      rw [take_snoc (x := d'.lw wei cal) (by rw [lws_eq, List.getElem?_map, hd']; rfl)]
      exact PairsAt.snoc ⟨_, _, _, _, rfl, ho, List.mem_append_right _ (List.mem_singleton.mpr rfl)⟩ (hP.mono fun q hq => by simp [hq])
    case fin =>
      rintro ys _ ⟨P, rfl, hP⟩
      replace hP : PairsAt P ys (l.lws wei cal) := by
        rw [List.take_of_length_le] at hP
        · exact hP
        · rw [lws_eq, List.length_map, ← hI.len, List.size_toArray]; exact Nat.le_refl _
      generalize hps : l.lws wei cal = ps at hP hdw
      have hle : ys.length ≤ 8000 := by
        rw [hP.len, ← hps, lws_eq, List.length_map, ← hI.len]; exact hlen
      unfold LCg.FinA
      intro D2 h2 tk2 F2 N2 o2
      have offd11 := zoff1 o2
      simp only [List.nil_append, List.cons_append, LCg.Off1] at o2
      simp only [List.nil_append, List.cons_append] at N2
      dsimp only
      k_steps
      refine LCt.Assign_ListComp_T (F₀ := by k_asm) (by rfl) (by with_unfolding_all rfl) (by with_unfolding_all rfl) (by decide) (by rfl) (by decide) (by rfl) (by rfl) (by rfl) ?_
      k_steps
      refine LCt.CompSrcT.ledger (its := ys.toArray) (k := ys.length) hh (by assumption) (by assumption) (by k_mem) (by rw [List.size_toArray, sizeLine_eq]; omega) ?_
      intro g'
      refine restT_ind (fun i ys2 news' => news' = _ ∧ IntsAre ys2 ((ps.take i).filterMap (fun p => p.1.map (own + ·)))) ?turn2 ?fin2 _ _ _ _ (Nat.zero_add _) ⟨rfl, .nil⟩
      case turn2 =>
        rintro i ys2 _ hi ⟨rfl, hI2⟩ v I oI C oC D' m₂ h tk' E' hv hoC hx F N off ne
        obtain ⟨ne1, ne2, ne3⟩ := ne
        obtain ⟨r, hr, pa, vo, t', n', rfl, ho, hm⟩ := hP.get i v (by simpa using hv)
        have hm' : (pa, ({ cls := .type "tuple", data := .seq [vo, .int r.2 t'].toArray n' } : Obj)) ∈ P := hm
        clear hm
        obtain ⟨r1, r2⟩ := r
        dsimp only at ho
        cases r1 with
        | none =>
          have ho : vo = .none := ho
          subst ho
          k_steps
          exact LCg.CompEnd.intro F N _ (fun p hp => hp) off (.inr ⟨_, by k_mem, rfl, _, rfl⟩) ⟨rfl, by rw [take_snoc hr, List.filterMap_append]; simpa using hI2⟩
        | some r1 =>
          obtain ⟨t2, ho⟩ := ho
          subst ho
          k_steps
          exact LCg.CompEnd.intro F N _ (fun p hp => hp) off (.inr ⟨_, by k_mem, rfl, _, rfl⟩) ⟨rfl, by rw [take_snoc hr, List.filterMap_append]; exact IntsAre.snoc hI2⟩
      case fin2 =>
        rintro ys2 _ ⟨rfl, hI2⟩
        replace hI2 : IntsAre ys2 (ps.filterMap (fun p => p.1.map (own + ·))) := by
          rw [List.take_of_length_le] at hI2
          · exact hI2
          · rw [← hP.len, List.size_toArray]; exact Nat.le_refl _
        have hle2 : ys2.length ≤ 8000 := by
          rw [hI2.length]; exact Nat.le_trans (List.length_filterMap_le _ _) (by rw [← hP.len]; exact hle)
        unfold LCg.FinA
        intro D3 h3 tk3 F3 N3 o3
        have hPD : ∀ p ∈ P, p.1 ≠ D3 := fun p hp => off1_mem o3 p (by simp [hp])
        have offd12 := zoff1 o3
        simp only [LCg.Off1] at o3
        dsimp only
        cases isn with
        | false =>
          have hNF : c = none := hNF
          subst hNF
          k_steps
          all_goals (
            refine LCg.CompSrc.ledger (its := ys.toArray) (k := ys.length) hh (by k_asm) (by k_asm) (by k_mem) (by rw [List.size_toArray, sizeLine_eq]; omega) ?_
            intro g2
            refine rest_ind (fun i ys3 news' => news' = _ ∧ IntsAre ys3 ((ps.take i).map (·.2))) ?_ ?_ _ _ _ _ (Nat.zero_add _) ⟨rfl, .nil⟩
            · rintro i ys3 _ hi ⟨rfl, hI3⟩ v I oI C oC D' m₂ h tk' E' hv hoC hx F N off ne
              obtain ⟨ne1, ne2, ne3⟩ := ne
              obtain ⟨r, hr, pa, vo, t', n', rfl, ho, hm⟩ := hP.get i v (by simpa using hv)
              have hm' : (pa, ({ cls := .type "tuple", data := .seq [vo, .int r.2 t'].toArray n' } : Obj)) ∈ P := hm
              clear hm
              k_steps
              exact LCg.CompEnd.intro F N _ (fun p hp => hp) off (.inr ⟨_, by k_mem, rfl, _, rfl⟩) ⟨rfl, by rw [take_snoc hr, List.map_append]; exact IntsAre.snoc hI3⟩
            · rintro ys3 _ ⟨rfl, hI3⟩
              replace hI3 : IntsAre ys3 (ps.map (·.2)) := by
                rw [List.take_of_length_le] at hI3
                · exact hI3
                · rw [← hP.len, List.size_toArray]; exact Nat.le_refl _
              have hle3 : ys3.length ≤ 8000 := by rw [hI3.length, List.length_map, ← hP.len]; exact hle
              unfold LCg.FinE
              intro D4 h4 tk4 F4 N4 o4
              have offd13 := zoff1 o4
              simp only [LCg.Off1] at o4
              dsimp only
              k_steps
              refine' lw_ret hret ?F ?N ?m ?e ?o
              case F => k_asm
              case N => k_asm
              case m => k_mem
              case e => first
                | exact node_a0 hdw rfl (by assumption) (by assumption)
                | exact node_a0 hdw (tl_none (by assumption)) (by assumption) (by assumption)
                | exact node_a hdw (tl_some (by assumption)) (by assumption) (by assumption)
                | exact node_n hdw rfl (by first | assumption | exact decide_eq_false (by assumption)) hI2 (by assumption)
                | exact node_n hdw (tl_none (by assumption)) (by first | assumption | exact decide_eq_false (by assumption)) hI2 (by assumption)
              case o => first | exact rfl | exact ⟨_, rfl⟩)
        | true =>
          obtain ⟨x, t5, vs5, hT5, hc⟩ := hNF
          subst hc
          k_steps
          all_goals (
            refine LCg.CompSrc.ledger (its := ys.toArray) (k := ys.length) hh (by k_asm) (by k_asm) (by k_mem) (by rw [List.size_toArray, sizeLine_eq]; omega) ?_
            intro g2
            refine rest_ind (fun i ys3 news' => news' = _ ∧ IntsAre ys3 ((ps.take i).map (·.2))) ?_ ?_ _ _ _ _ (Nat.zero_add _) ⟨rfl, .nil⟩
            · rintro i ys3 _ hi ⟨rfl, hI3⟩ v I oI C oC D' m₂ h tk' E' hv hoC hx F N off ne
              obtain ⟨ne1, ne2, ne3⟩ := ne
              obtain ⟨r, hr, pa, vo, t', n', rfl, ho, hm⟩ := hP.get i v (by simpa using hv)
              have hm' : (pa, ({ cls := .type "tuple", data := .seq [vo, .int r.2 t'].toArray n' } : Obj)) ∈ P := hm
              clear hm
              k_steps
              exact LCg.CompEnd.intro F N _ (fun p hp => hp) off (.inr ⟨_, by k_mem, rfl, _, rfl⟩) ⟨rfl, by rw [take_snoc hr, List.map_append]; exact IntsAre.snoc hI3⟩
            · rintro ys3 _ ⟨rfl, hI3⟩
              replace hI3 : IntsAre ys3 (ps.map (·.2)) := by
                rw [List.take_of_length_le] at hI3
                · exact hI3
                · rw [← hP.len, List.size_toArray]; exact Nat.le_refl _
              have hle3 : ys3.length ≤ 8000 := by rw [hI3.length, List.length_map, ← hP.len]; exact hle
              unfold LCg.FinE
              intro D4 h4 tk4 F4 N4 o4
              have offd14 := zoff1 o4
              simp only [LCg.Off1] at o4
              dsimp only
              k_steps
              refine' lw_ret hret ?F ?N ?m ?e ?o
              case F => k_asm
              case N => k_asm
              case m => k_mem
              case e => first
                | exact node_a0 hdw rfl (by assumption) (by assumption)
                | exact node_a0 hdw (tl_none (by assumption)) (by assumption) (by assumption)
                | exact node_a hdw (tl_some (by assumption)) (by assumption) (by assumption)
                | exact node_n hdw rfl (by first | assumption | exact decide_eq_false (by assumption)) hI2 (by assumption)
                | exact node_n hdw (tl_none (by assumption)) (by first | assumption | exact decide_eq_false (by assumption)) hI2 (by assumption)
              case o => first | exact rfl | exact ⟨_, rfl⟩)
-- LwC
example : True := by
  k_with_none
  k_with "MEM" => with_reducible first | exact List.Mem.head _ | exact ym1 | exact ym2 | exact ym3 | exact ym4 | exact ym5 | exact ym6 | exact ym7 | exact ym8 | exact ym9 | exact ym10 | exact ym11 | exact ym12 | exact ym13 | exact ym14 | exact ym15 | fail "no"
  k_with "NE" => (refine neN ?_; (try dsimp only); first | assumption | (refine Ne.symm ?_; assumption) | exact Nat.ne_of_lt (by assumption) | exact Nat.ne_of_gt (by assumption) | (with_reducible first | exact Nat.ne_of_lt (zl1 (by assumption) (by decide)) | exact Nat.ne_of_gt (zl1 (by assumption) (by decide)) | exact za (by decide) | exact zb (by decide) | exact (zb (by decide)).symm | exact ze (by decide) | exact (ze (by decide)).symm | (refine Nat.ne_of_lt ?_; (repeat (first | (rename _ < _ ∧ _ => z8; revert z8; (repeat (first | exact And.left | refine cjt ?_)); done) | (rename _ < _ ∧ _ => z8; clear z8))); done) | (refine Nat.ne_of_gt ?_; (repeat (first | (rename _ < _ ∧ _ => z8; revert z8; (repeat (first | exact And.left | refine cjt ?_)); done) | (rename _ < _ ∧ _ => z8; clear z8))); done)) | ((repeat (first | exact neBy (by assumption) (by k_mem) | (rename ∀ p : Addr × Obj, p ∈ _ → p.1 ≠ _ => hz9; clear hz9))); done) | (refine Ne.symm ?_; (repeat (first | exact neBy (by assumption) (by k_mem) | (rename ∀ p : Addr × Obj, p ∈ _ → p.1 ≠ _ => hz9; clear hz9))); done) | omega)
  k_with "OM" => with_reducible first | assumption | exact zl0 (by assumption) | exact zl1 (by assumption) (by decide +kernel) | exact zl2 (by assumption) (by decide +kernel) | decide +kernel | exact Nat.le_trans (by assumption) (by decide +kernel) | exact zl4 (by assumption) (by decide +kernel) | exact Nat.lt_of_lt_of_le (by assumption) (by decide +kernel) | exact Nat.lt_of_le_of_lt (by assumption) (by decide +kernel) | exact Int.le_trans (by assumption) (by decide +kernel) | exact zl5 (by assumption) (by decide +kernel) | exact Int.lt_of_lt_of_le (by assumption) (by decide +kernel) | exact Int.lt_of_le_of_lt (by assumption) (by decide +kernel) | fail "no"
  k_with "ALL" => first | exact List.forall_mem_nil _ | exact zc (by k_ne) (by k_all) | fail "no"
  trivial
example : True := by
  k_with "eval Name" => first | (k_here; (with_reducible show wpAny _ _ (eval (Expr.Name _ _) (compEnvC _ _ _ _)) _ _ _); k_dflt (first
    | (refine' nameB_C ?Nzq ?czq ?mzq ?dzq ?_ ?azq ?bzq ?ezq; (case azq => rfl); (case bzq => rfl); (case ezq => decide); (case Nzq => k_asm); (case czq => rfl); (case mzq => k_mem); (case dzq => k_asm); k_whole)
    | (refine' nameG_K ?Fzq ?Xzq ?Tzq ?ezq ?_ ?k4zq ?k5zq ?k6zq ?k7zq; (case k4zq => rfl); (case k5zq => rfl); (case k6zq => rfl); (case k7zq => decide); (case Fzq => k_asm); (case Xzq => k_asm); (case Tzq => k_asm); (case ezq => k_is); k_whole))) | fail "no"
  k_with "exec Assign cons ListComp" => first | (k_here; lcg_look; k_dflt (refine Assign_ListComp_T (F₀ := by k_asm) (by rfl) (by with_unfolding_all rfl) (by rfl) (by decide) (by rfl) (by decide) (by rfl) (by rfl) (by rfl) ?_)) | fail "no"
  k_with "compareOp In str ref" => first | (k_here; k_dflt (refine' tabI_in ?Fzq ?Tzq ?_; (case Fzq => k_asm); (case Tzq => k_asm); k_whole)) | fail "no"
  k_with "subscriptTail" => first | ((k_here; (with_reducible show wpAny _ _ (subscriptTail _ _ (Value.ref _) (Value.str _ _)) _ _ _); k_dflt (refine' tabI_sub (i := 0) ?Fzq ?Tzq ?szq ?_; (case Fzq => k_asm); (case Tzq => k_asm); (case szq => assumption); k_whole); intro t9'); (try (revert t9'; intros))) | fail "no"
  k_with "subscriptTail" => first | (k_here; (with_reducible show wpAny _ _ (subscriptTail _ _ (Value.ref _) (Value.int _ _)) _ _ _); k_dflt (refine' item_of ?Fzq ?Tzq ?azq ?bzq ?czq ?_; (case Fzq => k_asm); (case Tzq => k_asm); (case azq => decide); (case bzq => decide); (case czq => rfl); k_whole)) | fail "no"
  k_with "call builtin:isinstance" => first | ((k_here; (with_reducible show wpAny _ _ (call _ [_, Value.ref _]) _ _ _); k_dflt (refine' isi_two ?Fzq ?Nzq ?mzq ?zzq ?dzq ?_; (case Fzq => k_asm); (case Nzq => k_asm); (case mzq => k_mem); (case dzq => assumption); (case zzq => assumption); k_whole); intro tk9'; (try rw [show D.isSeq _ = false by assumption]); (try dsimp only [D.isSeq, D.isTup, D.isStr])); (try (revert tk9'; intros))) | fail "no"
  k_with "call builtin:isinstance" => first | ((k_here; (with_reducible show wpAny _ _ (call _ [_, Value.type "tuple"]) _ _ _); k_dflt (refine' isi_one ?Fzq ?zzq ?dzq (ans_tuple ?ezq) ?_; (case Fzq => k_asm); (case dzq => assumption); (case zzq => assumption); (case ezq => assumption); k_whole); intro tk9'; (try rw [show D.isTup _ = false by assumption]); (try dsimp only [D.isSeq, D.isTup, D.isStr])); (try (revert tk9'; intros))) | fail "no"
  k_with "call builtin:isinstance" => first | ((k_here; (with_reducible show wpAny _ _ (call _ [_, Value.type "str"]) _ _ _); k_dflt (first
    | (refine' isi_no ?Fzq ?zzq ?dzq ?ezq ?_; (case Fzq => k_asm); (case ezq => assumption); (case dzq => assumption); (case zzq => assumption); k_whole)
    | (refine' isi_one ?Fzq ?zzq ?dzq (ans_str ?ezq) ?_; (case Fzq => k_asm); (case dzq => assumption); (case zzq => assumption); (case ezq => assumption); k_whole)); intro tk9'; (try dsimp only [D.isSeq, D.isTup, D.isStr])); (try (revert tk9'; intros))) | fail "no"
  k_with "call builtin:len" => first | (k_here; k_dflt (first | (refine' len_cons ?Fzq ?Tzq ?zzq ?_; (case Fzq => k_asm); (case Tzq => k_asm); (case zzq => assumption); k_whole) | (refine' len_nil ?Fzq ?Tzq ?_; (case Fzq => k_asm); (case Tzq => k_asm); k_whole))) | fail "no"
  k_with "SUB" => first | ((intro p9 h9; repeat' (first | exact h9 | exact List.mem_append_left _ h9 | exact List.mem_append_right _ h9 | refine List.mem_cons_of_mem _ ?_)); (try (revert p9 h9; intros))) | fail "no"
  k_with "subscriptTail" => first | (k_here; (with_reducible show wpAny _ _ (subscriptTail _ _ (Value.ref _) (Value.int _ _)) _ _ _); k_dflt (refine' item_led ?Nzq ?szq ?mzq ?azq ?bzq ?czq ?_; (case Nzq => k_asm); (case mzq => assumption); (case szq => walk_at "SUB"); (case azq => decide); (case bzq => decide); (case czq => rfl); k_whole)) | fail "no"
  k_with "eval ListComp" => first | (k_here; lcg_look; k_dflt (refine LCg.ListComp_U (F₀ := by k_asm) (by rfl) (by decide) (by rfl) (by decide) (by rfl) ?_)) | fail "no"
  k_with "compareOp NotEq ref ref" => first | (k_here; (with_reducible show wpAny _ _ (compareOp CmpOp.NotEq (Value.ref _) (Value.ref _)) _ _ _); k_dflt (first | (refine' ne_snoc ?Nzq ?mzq ?bzq ?uzq ?_; (case Nzq => k_asm); (case mzq => k_mem); (case bzq => k_mem); (case uzq => (simp only [units_deeper]; omega)); k_whole) | (refine' ne_nil ?Nzq ?mzq ?bzq ?uzq ?_; (case Nzq => k_asm); (case mzq => k_mem); (case bzq => k_mem); (case uzq => (simp only [units_deeper]; omega)); k_whole))) | fail "no"
  k_with "UPD" => first | first | (focus (refine' Upd.head ?_; rotate_right 1; walk_at "OFF")) | (focus (refine' Upd.tail ?_ ?_; rotate_right 2; k_ne; walk_at "UPD")) | fail "no"
  k_with "OFF" => first | first | assumption | exact List.forall_mem_nil _ | exact zc (by k_ne) (by walk_at "OFF") | fail "no"
  k_with "call builtin:list.append" => first | ((k_here; (with_reducible show wpAny _ _ (call (Value.builtin _) [Value.ref _, _]) _ _ _); k_dflt (refine' append_L ?k1zq ?k2zq ?k3zq ?zzq ?_; (case k1zq => k_asm); (case k2zq => k_asm); (case k3zq => walk_at "UPD"); (case zzq => (rw [sizeLine_eq]; omega)); k_whole); intro h' F' N'; (try k_sweep)); (try (revert h' F' N'; intros))) | fail "no"
  k_with "call builtin:max" => first | ((k_here; (with_reducible show wpAny _ _ (call (Value.builtin _) [Value.ref _]) _ _ _); k_dflt (refine' max_led ?Fzq ?Nzq ?mzq ?izq ?nzq ?hzq ?_; (case Fzq => k_asm); (case Nzq => k_asm); (case mzq => k_mem); (case izq => first | assumption | exact IntsAre.snoc (by assumption)); (case nzq => first | assumption | (exact of_decide_eq_true (by assumption)) | (simp only [List.length_append, List.length_cons]; omega)); (case hzq => assumption); k_whole); intro h' M' t' k' F' N' a'); (try (revert h' M' t' k' F' N' a'; intros))) | fail "no"
  trivial

set_option maxHeartbeats 4000000 in
theorem lw_leaf {w : World} {H : Heap} {p : Program} {loose : List Str} {mg mb : Str → Option Value} (X : (hd.heap_39 w.params).In H) (T : TopRead p loose mg mb H) {wei cal : Str → Option Int}
    {A : Around} {s : Shared} {R : Result → Shared → Prop} {v : Value} {Z : List (Addr × Obj)} {d : D} (hd0 : d.isSeq = false)
    (hk : H.StaysIn s.heap) (hh : A.handled = none) (hroom : A.depth + 10 < recursionLimit) (hu : A.units + 40 < cLine)
    (hZ : ∀ q ∈ Z, s.heap.get? q.1 = some q.2) (hD : InD Z v d)
    (hret : ∀ a vo t n h' tk, (∀ b x, s.heap.get? b = some x → h'.get? b = some x) → s.heap.get? a = none → h'.get? a = some (pairO vo (d.lw wei cal).2 t n) → OptV vo (d.lw wei cal).1 → R (.ok (.ret (.ref a))) { s with heap := h', toks := tk }) :
    codeAny (model PySem.Challenge.rw_qz0087_01.row.prog w) A (.call (.ref 276) ⟨[v], []⟩) R s := by
  refine' call_raw (muts := []) hk ?km X T ?k6 ?k7 ?k8 ?k9 ?kB ?kD ?kh ?c2 ?c3 ?c4
  case km => intro q hq; cases hq
  case k6 => k_is
  case k7 => k_is
  case k8 => omega
  case k9 => exact BindsTo.of_eq rfl
  case kB => exact rfl
  case kD => decide +kernel
  case c2 => exact rfl
  case c3 => exact rfl
  case c4 => exact rfl
  intro g L' h₁ tk cells hg hL st X' T' F N Y l1
  obtain ⟨oc, hE, d2⟩ := CellsAre.one Y
  subst hE
  clear Y
  replace d2 : oc.data = .cell none := d2
  replace F : Fr g L' h₁ (fun y => if y = Str.ofString "part" then some v else none) := F
  simp only [List.nil_append, List.append_nil] at N
  simp only [List.map_nil, hideAll] at hg
  subst hg
  clear l1
  have hdw : d.lw wei cal = (none, 0) := by cases d <;> first | rfl | cases hd0
  k_steps
  refine' lw_ret hret ?F ?N ?m hdw ?o
  case F => k_asm
  case N => k_asm
  case m => k_mem
  case o => exact rfl

theorem lw_c {w : World} {H : Heap} {p : Program} {loose : List Str} {mg mb : Str → Option Value} (X : (hd.heap_39 w.params).In H) (T : TopRead p loose mg mb H) {wei cal : Str → Option Int} (TW : TabI w H 136 wei) (TC : TabI w H 139 cal) {Z : List (Addr × Obj)} :
    ∀ (k : Nat) (d : D), d.dep ≤ k → d.siz ≤ 8000 → LwC w H Z d (d.lw wei cal) := by
  intro k
  induction k with
  | zero =>
    intro d hk hs A s R v hk' hh hroom hu hZ hD hret
    cases d with
    | tup l => simp only [D.dep] at hk; omega
    | lst l => simp only [D.dep] at hk; omega
    | _ => exact lw_leaf X T rfl hk' hh (by omega) (by omega) hZ hD hret
  | succ k ih =>
    intro d hk hs A s R v hk' hh hroom hu hZ hD hret
    cases d with
    | tup l =>
      cases hD with | tup hm hI =>
      exact lw_seq X T TW TC (.inl rfl) hk' hh hroom hu hZ (.tup hm hI) (fun d' h1 h2 => ih d' (by simp only [D.dep] at hk; omega) h2) hs hret
    | lst l =>
      cases hD with | lst hm hI =>
      exact lw_seq X T TW TC (.inr rfl) hk' hh hroom hu hZ (.lst hm hI) (fun d' h1 h2 => ih d' (by simp only [D.dep] at hk; omega) h2) hs hret
    | _ => exact lw_leaf X T rfl hk' hh (by omega) (by omega) hZ hD hret
-- TwA
noncomputable def fmax (acc : Int) (l : List (Option Int)) : Int := l.foldl (fun a o => match o with | some x => max a x | none => a) acc
theorem fmax_le {b : Int} : ∀ {l : List (Option Int)} {acc : Int}, fmax acc l ≤ b ↔ acc ≤ b ∧ ∀ x, some x ∈ l → x ≤ b
  | [], acc => ⟨fun h => ⟨h, fun _ q => nomatch q⟩, fun h => h.1⟩
  | o :: l, acc => by
    show fmax (match o with | some x => max acc x | none => acc) l ≤ b ↔ _
    rw [fmax_le]
    cases o with
    | none => exact ⟨fun h => ⟨h.1, fun x hx => h.2 x (by simpa using hx)⟩, fun h => ⟨h.1, fun x hx => h.2 x (List.mem_cons_of_mem _ hx)⟩⟩
    | some y =>
      constructor
      · rintro ⟨h1, h2⟩
        have h1 : max acc y ≤ b := h1
        refine ⟨by omega, fun x hx => ?_⟩
        rcases List.mem_cons.mp hx with e | hx
        · cases e; omega
        · exact h2 x hx
      · rintro ⟨h1, h2⟩
        refine ⟨?_, fun x hx => h2 x (List.mem_cons_of_mem _ hx)⟩
        have := h2 y List.mem_cons_self
        show max acc y ≤ b
        omega
theorem lmax_le {b : Int} {l : List Int} : (∀ a, lmax l = some a → a ≤ b) ↔ ∀ y ∈ l, y ≤ b := by
  cases l with
  | nil => exact ⟨fun _ _ h => (nomatch h), fun _ _ h => (nomatch h)⟩
  | cons x l =>
    obtain ⟨c, d⟩ := foldl_max_ge l x
    have hm : l.foldl max x ∈ x :: l := by
      rcases foldl_max_mem l x with e | e
      · rw [e]; exact List.mem_cons_self
      · exact List.mem_cons_of_mem _ e
    constructor
    · intro h y hy
      have := h _ rfl
      rcases List.mem_cons.mp hy with rfl | hy
      · omega
      · have := d y hy; omega
    · intro h a ha
      cases ha
      exact h _ hm
noncomputable def aOf (wei cal : Str → Option Int) (p : D × Int) : Option Int := (p.1.lw wei cal).1.map (p.2 + ·)
noncomputable def wOf (wei cal : Str → Option Int) (p : D × Int) : Option Int := some (p.2 + (p.1.lw wei cal).2)
noncomputable def amax (wei cal : Str → Option Int) (acc : Int) (st : List (D × Int)) : Int := fmax acc (st.map (aOf wei cal))
noncomputable def wmax (wei cal : Str → Option Int) (acc : Int) (st : List (D × Int)) : Int := fmax acc (st.map (wOf wei cal))
theorem amax_le {wei cal : Str → Option Int} {acc b : Int} {st : List (D × Int)} : amax wei cal acc st ≤ b ↔ acc ≤ b ∧ ∀ p ∈ st, ∀ a, (p.1.lw wei cal).1 = some a → p.2 + a ≤ b := by
  unfold amax
  rw [fmax_le]
  refine and_congr Iff.rfl ⟨fun h p hp a ha => h _ (List.mem_map.mpr ⟨p, hp, by simp only [aOf, ha, Option.map_some]⟩), fun h x hx => ?_⟩
  obtain ⟨p, hp, e⟩ := List.mem_map.mp hx
  unfold aOf at e
  cases q : (p.1.lw wei cal).1 with
  | none => rw [q] at e; cases e
  | some a => rw [q] at e; cases e; exact h p hp a q
theorem wmax_le {wei cal : Str → Option Int} {acc b : Int} {st : List (D × Int)} : wmax wei cal acc st ≤ b ↔ acc ≤ b ∧ ∀ p ∈ st, p.2 + (p.1.lw wei cal).2 ≤ b := by
  unfold wmax
  rw [fmax_le]
  refine and_congr Iff.rfl ⟨fun h p hp => h _ (List.mem_map.mpr ⟨p, hp, rfl⟩), fun h x hx => ?_⟩
  obtain ⟨p, hp, e⟩ := List.mem_map.mp hx
  cases e; exact h p hp
theorem int_eq {a b : Int} (h : ∀ c, a ≤ c ↔ b ≤ c) : a = b := by
  have h1 := (h b).mpr (Int.le_refl _)
  have h2 := (h a).mp (Int.le_refl _)
  omega
theorem node_a_le {own b x : Int} {c : Option Int} {ps : List (Option Int × Int)} : (∀ a, (lwNode own c ps).1 = some a → x + a ≤ b) ↔ (∀ y, c = some y → x + y ≤ b) ∧ ∀ p ∈ ps, ∀ a, p.1 = some a → x + own + a ≤ b := by
  have e : (∀ a, (lwNode own c ps).1 = some a → x + a ≤ b) ↔ ∀ a, lmax (ps.filterMap (fun p => p.1.map (own + ·)) ++ c.toList) = some a → a ≤ b - x :=
    ⟨fun h a ha => by have := h a ha; omega, fun h a ha => by have := h a ha; omega⟩
  rw [e, lmax_le]
  constructor
  · intro h
    refine ⟨fun y hy => ?_, fun p hp a ha => ?_⟩
    · have := h y (List.mem_append_right _ (by rw [hy]; exact List.mem_singleton.mpr rfl)); omega
    · have := h (own + a) (List.mem_append_left _ (List.mem_filterMap.mpr ⟨p, hp, by rw [ha]; rfl⟩)); omega
  · rintro ⟨h1, h2⟩ y hy
    rcases List.mem_append.mp hy with hy | hy
    · obtain ⟨p, hp, e⟩ := List.mem_filterMap.mp hy
      cases q : p.1 with
      | none => rw [q] at e; cases e
      | some a => rw [q] at e; cases e; have := h2 p hp a q; (show own + a ≤ b - x); omega
    · cases c with
      | none => cases hy
      | some z => have hy : y ∈ [z] := hy
                  rw [List.mem_singleton.mp hy]; have := h1 z rfl; omega
theorem node_w_le {own b x : Int} {c : Option Int} {ps : List (Option Int × Int)} : x + (lwNode own c ps).2 ≤ b ↔ x + own ≤ b ∧ ∀ p ∈ ps, x + own + p.2 ≤ b := by
  have e : x + (lwNode own c ps).2 ≤ b ↔ ∀ a, lmax (ps.map (·.2) ++ [0]) = some a → a ≤ b - x - own := by
    show x + (own + (lmax (ps.map (·.2) ++ [0])).getD 0) ≤ b ↔ _
    cases q : lmax (ps.map (·.2) ++ [0]) with
    | none =>
      exfalso
      cases h : ps.map (·.2) ++ [0] with
      | nil => simp at h
      | cons y l => rw [h] at q; cases q
    | some a => exact ⟨fun h a' ha => by cases ha; have h : x + (own + a) ≤ b := h; omega, fun h => by have := h a rfl; show x + (own + a) ≤ b; omega⟩
  rw [e, lmax_le]
  constructor
  · intro h
    refine ⟨by have := h 0 (List.mem_append_right _ (List.mem_singleton.mpr rfl)); omega, fun p hp => ?_⟩
    have := h p.2 (List.mem_append_left _ (List.mem_map.mpr ⟨p, hp, rfl⟩)); omega
  · rintro ⟨h1, h2⟩ y hy
    rcases List.mem_append.mp hy with hy | hy
    · obtain ⟨p, hp, e⟩ := List.mem_map.mp hy
      have := h2 p hp; omega
    · rw [List.mem_singleton.mp hy]; omega

theorem a_turn {wei cal : Str → Option Int} {d : D} {l : DL} {own h ab ab' : Int} {c : Option Int} {st : List (D × Int)} (e : d.lw wei cal = lwNode own c (l.lws wei cal)) (hab : ∀ b, ab' ≤ b ↔ ab ≤ b ∧ ∀ y, c = some y → h + y ≤ b) :
    amax wei cal ab' (st ++ l.toList.map fun x => (x, h + own)) = amax wei cal ab (st ++ [(d, h)]) := by
  refine int_eq fun b => ?_
  rw [amax_le, amax_le, hab]
  constructor
  · rintro ⟨⟨h1, h2⟩, h3⟩
    refine ⟨h1, fun p hp => ?_⟩
    rcases List.mem_append.mp hp with hp | hp
    · exact h3 p (List.mem_append_left _ hp)
    · rw [List.mem_singleton.mp hp]
      show ∀ a, (d.lw wei cal).1 = some a → h + a ≤ b
      rw [e, node_a_le]
      refine ⟨h2, fun q hq a ha => ?_⟩
      rw [lws_eq] at hq
      obtain ⟨x, hx, rfl⟩ := List.mem_map.mp hq
      exact h3 (x, h + own) (List.mem_append_right _ (List.mem_map.mpr ⟨x, hx, rfl⟩)) a ha
  · rintro ⟨h1, h3⟩
    have h4 : ∀ a, (d.lw wei cal).1 = some a → h + a ≤ b := h3 (d, h) (List.mem_append_right _ (List.mem_singleton.mpr rfl))
    rw [e, node_a_le] at h4
    refine ⟨⟨h1, h4.1⟩, fun p hp => ?_⟩
    rcases List.mem_append.mp hp with hp | hp
    · exact h3 p (List.mem_append_left _ hp)
    · obtain ⟨x, hx, rfl⟩ := List.mem_map.mp hp
      intro a ha
      exact h4.2 _ (by rw [lws_eq]; exact List.mem_map.mpr ⟨x, hx, rfl⟩) a ha
theorem w_turn {wei cal : Str → Option Int} {d : D} {l : DL} {own h wh wh' : Int} {c : Option Int} {st : List (D × Int)} (e : d.lw wei cal = lwNode own c (l.lws wei cal)) (hwh : ∀ b, wh' ≤ b ↔ wh ≤ b ∧ h + own ≤ b) :
    wmax wei cal wh' (st ++ l.toList.map fun x => (x, h + own)) = wmax wei cal wh (st ++ [(d, h)]) := by
  refine int_eq fun b => ?_
  rw [wmax_le, wmax_le, hwh]
  constructor
  · rintro ⟨⟨h1, h2⟩, h3⟩
    refine ⟨h1, fun p hp => ?_⟩
    rcases List.mem_append.mp hp with hp | hp
    · exact h3 p (List.mem_append_left _ hp)
    · rw [List.mem_singleton.mp hp]
      show h + (d.lw wei cal).2 ≤ b
      rw [e, node_w_le]
      refine ⟨h2, fun q hq => ?_⟩
      rw [lws_eq] at hq
      obtain ⟨x, hx, rfl⟩ := List.mem_map.mp hq
      exact h3 (x, h + own) (List.mem_append_right _ (List.mem_map.mpr ⟨x, hx, rfl⟩))
  · rintro ⟨h1, h3⟩
    have h4 : h + (d.lw wei cal).2 ≤ b := h3 (d, h) (List.mem_append_right _ (List.mem_singleton.mpr rfl))
    rw [e, node_w_le] at h4
    refine ⟨⟨h1, h4.1⟩, fun p hp => ?_⟩
    rcases List.mem_append.mp hp with hp | hp
    · exact h3 p (List.mem_append_left _ hp)
    · obtain ⟨x, hx, rfl⟩ := List.mem_map.mp hp
      exact h4.2 _ (by rw [lws_eq]; exact List.mem_map.mpr ⟨x, hx, rfl⟩)
theorem a_turn' {wei cal : Str → Option Int} {d : D} {l : DL} {own h hv ab ab' A0 : Int} {c : Option Int} {st : List (D × Int)} (ehv : hv = h + own) (e : d.lw wei cal = lwNode own c (l.lws wei cal)) (hab : ∀ b, ab' ≤ b ↔ ab ≤ b ∧ ∀ y, c = some y → h + y ≤ b) (ea : amax wei cal ab (st ++ [(d, h)]) = A0) :
    amax wei cal ab' (st ++ l.toList.map fun x => (x, hv)) = A0 := by subst ehv; rw [a_turn e hab]; exact ea
theorem w_turn' {wei cal : Str → Option Int} {d : D} {l : DL} {own h hv wh wh' W0 : Int} {c : Option Int} {st : List (D × Int)} (ehv : hv = h + own) (e : d.lw wei cal = lwNode own c (l.lws wei cal)) (hwh : ∀ b, wh' ≤ b ↔ wh ≤ b ∧ h + own ≤ b) (ew : wmax wei cal wh (st ++ [(d, h)]) = W0) :
    wmax wei cal wh' (st ++ l.toList.map fun x => (x, hv)) = W0 := by subst ehv; rw [w_turn e hwh]; exact ew
theorem a_leaf {wei cal : Str → Option Int} {d : D} {h ab : Int} {st : List (D × Int)} (e : d.lw wei cal = (none, 0)) : amax wei cal ab st = amax wei cal ab (st ++ [(d, h)]) := by
  refine int_eq fun b => ?_
  rw [amax_le, amax_le]
  refine and_congr Iff.rfl ⟨fun h3 p hp => ?_, fun h3 p hp => h3 p (List.mem_append_left _ hp)⟩
  rcases List.mem_append.mp hp with hp | hp
  · exact h3 p hp
  · rw [List.mem_singleton.mp hp]
    intro a ha
    have ha : (d.lw wei cal).1 = some a := ha
    rw [e] at ha; cases ha
theorem w_leaf {wei cal : Str → Option Int} {d : D} {h wh : Int} {st : List (D × Int)} (e : d.lw wei cal = (none, 0)) (hw : h ≤ wh) : wmax wei cal wh st = wmax wei cal wh (st ++ [(d, h)]) := by
  refine int_eq fun b => ?_
  rw [wmax_le, wmax_le]
  constructor
  · rintro ⟨h1, h3⟩
    refine ⟨h1, fun p hp => ?_⟩
    rcases List.mem_append.mp hp with hp | hp
    · exact h3 p hp
    · rw [List.mem_singleton.mp hp]
      show h + (d.lw wei cal).2 ≤ b
      rw [e]
      show h + 0 ≤ b
      omega
  · rintro ⟨h1, h3⟩
    exact ⟨h1, fun p hp => h3 p (List.mem_append_left _ hp)⟩
theorem a_first {wei cal : Str → Option Int} (hwe : ∀ x i, wei x = some i → 0 ≤ i) (hca : ∀ x i, cal x = some i → 0 ≤ i) (l : DL) : amax wei cal 0 (l.toList.map fun x => (x, 0)) = max 0 (((D.lst l).lw wei cal).1.getD 0) := by
  have := a_turn (wei := wei) (cal := cal) (d := .lst l) (l := l) (own := 0) (h := 0) (ab := 0) (ab' := 0) (c := none) (st := []) (by rw [D.lw]) (fun b => ⟨fun h => ⟨h, fun _ q => nomatch q⟩, fun h => h.1⟩)
  simp only [List.nil_append, Int.add_zero] at this
  rw [this]
  refine int_eq fun b => ?_
  rw [amax_le]
  constructor
  · rintro ⟨h1, h2⟩
    have h3 : ∀ a, ((D.lst l).lw wei cal).1 = some a → 0 + a ≤ b := h2 _ (List.mem_singleton.mpr rfl)
    cases q : ((D.lst l).lw wei cal).1 with
    | none => rw [Option.getD_none]; omega
    | some a => rw [Option.getD_some]; have := h3 a q; omega
  · intro h1
    refine ⟨by omega, fun p hp => ?_⟩
    rw [List.mem_singleton.mp hp]
    intro a ha
    have ha : ((D.lst l).lw wei cal).1 = some a := ha
    rw [ha, Option.getD_some] at h1
    show 0 + a ≤ b
    omega
theorem w_first {wei cal : Str → Option Int} (l : DL) : wmax wei cal 0 (l.toList.map fun x => (x, 0)) = max 0 ((D.lst l).lw wei cal).2 := by
  have := w_turn (wei := wei) (cal := cal) (d := .lst l) (l := l) (own := 0) (h := 0) (wh := 0) (wh' := 0) (c := none) (st := []) (by rw [D.lw]) (fun b => ⟨fun h => ⟨h, by omega⟩, fun h => h.1⟩)
  simp only [List.nil_append, Int.add_zero] at this
  rw [this]
  refine int_eq fun b => ?_
  rw [wmax_le]
  constructor
  · rintro ⟨h1, h2⟩
    have h3 : 0 + ((D.lst l).lw wei cal).2 ≤ b := h2 _ (List.mem_singleton.mpr rfl)
    omega
  · intro h1
    refine ⟨by omega, fun p hp => ?_⟩
    rw [List.mem_singleton.mp hp]
    show 0 + ((D.lst l).lw wei cal).2 ≤ b
    omega
theorem node_ge {own : Int} {c : Option Int} {ps : List (Option Int × Int)} (h0 : 0 ≤ own) (hc : ∀ y, c = some y → 0 ≤ y) (hp : ∀ p ∈ ps, (∀ a, p.1 = some a → 0 ≤ a) ∧ 0 ≤ p.2) : (∀ a, (lwNode own c ps).1 = some a → 0 ≤ a) ∧ 0 ≤ (lwNode own c ps).2 := by
  constructor
  · intro a ha
    have hm : a ∈ ps.filterMap (fun p => p.1.map (own + ·)) ++ c.toList := by
      have ha : lmax (ps.filterMap (fun p => p.1.map (own + ·)) ++ c.toList) = some a := ha
      cases q : ps.filterMap (fun p => p.1.map (own + ·)) ++ c.toList with
      | nil => rw [q] at ha; cases ha
      | cons x l =>
        rw [q] at ha
        cases ha
        rcases foldl_max_mem l x with e | e
        · rw [e]; exact List.mem_cons_self
        · exact List.mem_cons_of_mem _ e
    rcases List.mem_append.mp hm with hm | hm
    · obtain ⟨p, hp', e⟩ := List.mem_filterMap.mp hm
      cases q : p.1 with
      | none => rw [q] at e; cases e
      | some y => rw [q] at e; cases e; have := (hp p hp').1 y q; (show 0 ≤ own + y); omega
    · cases c with
      | none => cases hm
      | some z => have hm : a ∈ [z] := hm
                  rw [List.mem_singleton.mp hm]; exact hc z rfl
  · have := (node_w_le (own := own) (x := 0) (b := (lwNode own c ps).2) (c := c) (ps := ps)).mp (by omega)
    omega
theorem D.lw_ge {wei cal : Str → Option Int} (hwe : ∀ x i, wei x = some i → 0 ≤ i) (hca : ∀ x i, cal x = some i → 0 ≤ i) : ∀ (k : Nat) (d : D), d.dep ≤ k → (∀ a, (d.lw wei cal).1 = some a → 0 ≤ a) ∧ 0 ≤ (d.lw wei cal).2 := by
  intro k
  induction k with
  | zero =>
    intro d hk
    cases d with
    | tup l => simp only [D.dep] at hk; omega
    | lst l => simp only [D.dep] at hk; omega
    | _ => exact ⟨fun _ h => (nomatch h), Int.le_refl _⟩
  | succ k ih =>
    intro d hk
    have kids : ∀ l : DL, l.dep ≤ k → ∀ p ∈ l.lws wei cal, (∀ a, p.1 = some a → 0 ≤ a) ∧ 0 ≤ p.2 := fun l hl p hp => by
      rw [lws_eq] at hp
      obtain ⟨x, hx, rfl⟩ := List.mem_map.mp hp
      obtain ⟨i, hi⟩ := List.mem_iff_getElem?.mp hx
      exact ih x (Nat.le_trans (DL.mem_dep hi).1 hl)
    cases d with
    | tup l =>
      simp only [D.dep] at hk
      rw [D.lw]
      split
      · rename_i x hx
        split
        · exact ⟨fun _ h => (nomatch h), Int.le_refl _⟩
        · refine node_ge ?_ (fun y hy => hca _ _ hy) (kids l (by omega))
          cases q : wei x with
          | none => decide
          | some i => exact hwe _ _ q
      · exact node_ge (Int.le_refl _) (fun _ h => (nomatch h)) (kids l (by omega))
    | lst l =>
      simp only [D.dep] at hk
      rw [D.lw]
      exact node_ge (Int.le_refl _) (fun _ h => (nomatch h)) (kids l (by omega))
    | _ => exact ⟨fun _ h => (nomatch h), Int.le_refl _⟩

noncomputable def ItemAt (Z P : List (Addr × Obj)) (y : Value) (p : D × Int) : Prop := ∃ ta v t n, y = .ref ta ∧ (ta, ({ cls := .type "tuple", data := .seq [v, .int p.2 t].toArray n } : Obj)) ∈ P ∧ InD Z v p.1
inductive ItemsAt (Z P : List (Addr × Obj)) : List Value → List (D × Int) → Prop where
  | nil : ItemsAt Z P [] []
  | cons {y p ys st} : ItemAt Z P y p → ItemsAt Z P ys st → ItemsAt Z P (y :: ys) (p :: st)
theorem ItemsAt.mono {Z P P' : List (Addr × Obj)} (hs : ∀ q ∈ P, q ∈ P') {ys st} (h : ItemsAt Z P ys st) : ItemsAt Z P' ys st := by
  induction h with
  | nil => exact .nil
  | cons a _ ih => obtain ⟨a, v, t, n, e, m, d⟩ := a; exact .cons ⟨a, v, t, n, e, hs _ m, d⟩ ih
theorem ItemsAt.append {Z P : List (Addr × Obj)} {zs su} (h : ItemsAt Z P zs su) : ∀ {ys st}, ItemsAt Z P ys st → ItemsAt Z P (ys ++ zs) (st ++ su)
  | _, _, .nil => h
  | _, _, .cons a b => .cons a (ItemsAt.append h b)
theorem ItemsAt.len {Z P : List (Addr × Obj)} : ∀ {ys st}, ItemsAt Z P ys st → ys.length = st.length
  | _, _, .nil => rfl
  | _, _, .cons _ r => congrArg (· + 1) (ItemsAt.len r)
theorem ItemsAt.last {Z P : List (Addr × Obj)} {ys : List Value} : ∀ {st : List (D × Int)} {y : Value}, ItemsAt Z P (ys ++ [y]) st → ∃ st' p, st = st' ++ [p] ∧ ItemsAt Z P ys st' ∧ ItemAt Z P y p := by
  induction ys with
  | nil =>
    intro st y h
    replace h : ItemsAt Z P (y :: []) st := h
    cases h with | cons h r => cases r; exact ⟨[], _, rfl, .nil, h⟩
  | cons z ys ih =>
    intro st y h
    replace h : ItemsAt Z P (z :: (ys ++ [y])) st := h
    cases h with | cons h r => obtain ⟨st', p, rfl, a, b⟩ := ih r; exact ⟨_ :: st', p, rfl, .cons h a, b⟩
noncomputable def stSiz : List (D × Int) → Nat
  | [] => 0
  | p :: st => p.1.siz + stSiz st
theorem stSiz_append : ∀ {a b : List (D × Int)}, stSiz (a ++ b) = stSiz a + stSiz b
  | [], _ => (Nat.zero_add _).symm
  | p :: a, b => by show p.1.siz + stSiz (a ++ b) = p.1.siz + stSiz a + stSiz b; rw [stSiz_append]; omega
theorem stSiz_kids {h : Int} : ∀ l : DL, stSiz (l.toList.map fun x => (x, h)) = l.siz
  | .nil => rfl
  | .cons d l => by show d.siz + stSiz (l.toList.map fun x => (x, h)) = _; rw [stSiz_kids l]; rfl
theorem stSiz_len : ∀ st : List (D × Int), st.length ≤ stSiz st
  | [] => Nat.le_refl _
  | p :: st => by have := p.1.siz_pos; have := stSiz_len st; simp only [List.length_cons, stSiz]; omega

section
variable {prog : Program} {w : World} {A : Around} {E : Value → Shared → Prop} {s : Shared} {h₀ : Heap} {L D b : Addr} {m : Str → Option Value} {news news' : List (Addr × Obj)} {vs zs : List Value} {x : Value} {n n2 : Nat}
theorem pop_L {Q : Value → Shared → Prop} (F : Fr h₀ L s.heap m) (N : News h₀ L s.heap news) (U : Upd D (W.listOf (vs ++ [x]).toArray n) (W.listOf vs.toArray (n + 1)) news news') (hz : (vs ++ [x]).length ≤ sizeLine)
    (h : ∀ h', Fr h₀ L h' m → News h₀ L h' news' → Q x { s with heap := h' }) : wpAny (model prog w) A (call (.builtin "list.pop") [.ref D]) Q E s :=
  kl_pop F N (kpa_last x vs) U hz h
theorem extend_L {Q : Value → Shared → Prop} (F : Fr h₀ L s.heap m) (N : News h₀ L s.heap news) (hb : (b, W.listOf zs.toArray n2) ∈ news) (n' : Nat) (hn : n' = if zs.length = 0 then n else n + 1) (U : Upd D (W.listOf vs.toArray n) (W.listOf (vs ++ zs).toArray n') news news') (hz : vs.length + zs.length ≤ sizeLine)
    (h : ∀ h', Fr h₀ L h' m → News h₀ L h' news' → Q .none { s with heap := h' }) : wpAny (model prog w) A (call (.builtin "list.extend") [.ref D, .ref b]) Q E s := by
  have hd : ¬(!vs.toArray.isEmpty && Builtin.List.listTooLong (vs.toArray.size + zs.toArray.size)) = true := by
    rw [List.size_toArray, List.size_toArray, Bool.and_eq_true]
    rintro ⟨_, q⟩
    have := of_decide_eq_true q
    omega
  by_cases he : zs.length = 0
  · have e1 := List.eq_nil_of_length_eq_zero he
    subst e1
    have hn : n' = n := hn.trans (if_pos rfl)
    subst hn
    rw [List.append_nil] at U
    exact kxn_extend F N hb rfl U hd (by simpa using Nat.le_trans (Nat.le_add_right _ _) hz) (by rw [List.size_toArray, List.size_toArray]; omega) h
  · rw [if_neg he] at hn
    subst hn
    exact kl_extend F N hb rfl (by simpa using he) (by simpa using U) hd (by simpa using Nat.le_trans (Nat.le_add_right _ _) hz) (by rw [List.size_toArray, List.size_toArray]; omega) h
end

theorem end_head {h₀ : Heap} {L I C D : Addr} {m : Str → Option Value} {s₁ : Shared} {oI oC oD : Obj} {S : List (Addr × Obj) → Prop} {rest : Value → List (Addr × Obj) → Prop} {y : Value} {h' : Heap} {tk : Nat} {l : List (Addr × Obj)} {x : Addr × Obj} (news' : List (Addr × Obj))
    (F : Fr h₀ L h' m) (N : News h₀ L h' (x :: (I, oI) :: (C, oC) :: (D, oD) :: l)) (e : news' = l ++ [x]) (off : LCg.Off3 I C D l) (hne : x.1 ≠ I ∧ x.1 ≠ C ∧ x.1 ≠ D) (hS : S news') (r : rest y news') :
    LCg.CompEnd h₀ L m s₁ I oI C oC D oD S rest y { s₁ with heap := h', toks := tk } := by
  subst e
  refine LCg.CompEnd.intro F N _ (fun p hp => ?_) (LCg.Off3.of fun q hq => ?_) hS r
  · simp only [List.mem_cons, List.mem_append, List.not_mem_nil, or_false] at hp ⊢
    rcases hp with h | h | h | h | h <;> simp [h]
  · rcases List.mem_append.mp hq with hq | hq
    · exact off.mem q hq
    · rw [List.mem_singleton.mp hq]; exact hne
inductive TwJ (Z : List (Addr × Obj)) (L : Addr) (wei cal : Str → Option Int) (A0 W0 : Int) (n : Nat) (m : Str → Option Value) (news : List (Addr × Obj)) : Prop
  | mk (ys : List Value) (st : List (D × Int)) (D : Addr) (nn : Nat) (oh : Obj) (cv : Option Value) (P : List (Addr × Obj)) (ab wh : Int) (t1 t2 : Tok) (e0 : news = (D, W.listOf ys.toArray nn) :: (L + 1, oh) :: P) (e1 : oh.data = .cell cv) (e2 : ((@Ne Nat D (L + 1)) ∧ ∀ p ∈ P, p.1 ≠ D ∧ p.1 ≠ L + 1)) (e3 : ItemsAt Z P ys st) (e4 : stSiz st = n) (e5 : n ≤ 8000) (e6 : m (Str.ofString "todo") = some (.ref D)) (e7 : m (Str.ofString "about") = some (.int ab t1)) (e8 : m (Str.ofString "whole") = some (.int wh t2)) (e9 : amax wei cal ab st = A0) (e10 : wmax wei cal wh st = W0) (e11 : ∀ p ∈ st, p.2 ≤ wh) : TwJ Z L wei cal A0 W0 n m news
theorem map_three {m : Str → Option Value} {a b c : Str} {x y z : Option Value} (h1 : m a = x) (h2 : m b = y) (h3 : m c = z) : m = fun q => if q = a then x else if q = b then y else if q = c then z else m q := by
  funext q
  by_cases e1 : q = a
  · rw [if_pos e1, e1, h1]
  · rw [if_neg e1]
    by_cases e2 : q = b
    · rw [if_pos e2, e2, h2]
    · rw [if_neg e2]
      by_cases e3 : q = c
      · rw [if_pos e3, e3, h3]
      · rw [if_neg e3]
theorem tw_step {h₀ h' : Heap} {L Da : Addr} {s : Shared} {Q : Flow → Shared → Prop} {n tk : Nat} {m₂ : Str → Option Value} {all P : List (Addr × Obj)} {Z : List (Addr × Obj)} {wei cal : Str → Option Int} {A0 W0 ab wh : Int} {ys : List Value} {st : List (D × Int)} {nn : Nat} {oh : Obj} {cv : Option Value} {t1 t2 : Tok} {f : Flow} (hf : f = .next ∨ f = .cont)
    (F : Fr h₀ L h' m₂) (N : News h₀ L h' all) (h1 : (Da, W.listOf ys.toArray nn) ∈ all) (h2 : (L + 1, oh) ∈ all) (h3 : ∀ q ∈ P, q ∈ all) (hd : oh.data = .cell cv) (hn : @Ne Nat Da (L + 1)) (hP : ∀ p ∈ P, p.1 ≠ Da ∧ p.1 ≠ L + 1) (hi : ItemsAt Z P ys st) (hs : stSiz st < n) (h6 : stSiz st ≤ 8000)
    (e1 : m₂ (Str.ofString "todo") = some (.ref Da)) (e2 : m₂ (Str.ofString "about") = some (.int ab t1)) (e3 : m₂ (Str.ofString "whole") = some (.int wh t2)) (ea : amax wei cal ab st = A0) (ew : wmax wei cal wh st = W0) (hw : ∀ p ∈ st, p.2 ≤ wh) :
    WhileStep2 h₀ L s (TwJ Z L wei cal A0 W0) Q n f { s with heap := h', toks := tk } := by
  have : ∃ h₂ tk' m₂' news₂ n', { s with heap := h', toks := tk } = ({ s with heap := h₂, toks := tk' } : Shared) ∧ Fr h₀ L h₂ m₂' ∧ News h₀ L h₂ news₂ ∧ n' < n ∧ TwJ Z L wei cal A0 W0 n' m₂' news₂ :=
    ⟨h', tk, m₂, (Da, W.listOf ys.toArray nn) :: (L + 1, oh) :: P, stSiz st, rfl, F, fun q hq => N q (by
      rcases List.mem_cons.mp hq with rfl | hq
      · exact h1
      · rcases List.mem_cons.mp hq with rfl | hq
        · exact h2
        · exact h3 q hq), hs, ys, st, Da, nn, oh, cv, P, ab, wh, t1, t2, rfl, hd, ⟨hn, hP⟩, hi, rfl, h6, e1, e2, e3, ea, ew, hw⟩
  rcases hf with rfl | rfl <;> exact this
theorem max2_K {prog : Program} {w : World} {A : Around} {E : Value → Shared → Prop} {s : Shared} {h₀ : Heap} {L : Addr} {m : Str → Option Value} {news : List (Addr × Obj)} {a b : Int} {t u : Tok} {Q : Value → Shared → Prop} (F : Fr h₀ L s.heap m) (N : News h₀ L s.heap news) (hh : A.handled = none)
    (h : ∀ h' tk t', Fr h₀ L h' m → News h₀ L h' news → Q (.int (max a b) t') { s with heap := h', toks := tk }) : wpAny (model prog w) A (call (.builtin "max") [.int a t, .int b u]) Q E s := by
  refine PySem.max_two_ints hh fun h' tk hk => ?_
  have q := fun t' => h h' tk t' (F.keeps hk) (N.grown hk)
  by_cases hc : b > a
  · rw [if_pos hc]; have := q u; rwa [Int.max_eq_right (Int.le_of_lt hc)] at this
  · rw [if_neg hc]; have := q t; rwa [Int.max_eq_left (by omega)] at this
theorem hab_some {ab h b : Int} {c : Option Int} (hs : c.isSome = true) : max ab (h + c.getD 0) ≤ b ↔ ab ≤ b ∧ ∀ y, c = some y → h + y ≤ b := by
  obtain ⟨i, rfl⟩ := Option.isSome_iff_exists.mp hs
  rw [Option.getD_some]
  exact ⟨fun q => ⟨by omega, fun y e => by cases e; omega⟩, fun q => by have := q.2 i rfl; omega⟩
theorem hab_none {ab h b : Int} {c : Option Int} (hs : c.isSome = false) : ab ≤ b ↔ ab ≤ b ∧ ∀ y, c = some y → h + y ≤ b := by
  cases c with
  | none => exact ⟨fun q => ⟨q, fun _ e => nomatch e⟩, fun q => q.1⟩
  | some i => cases hs
theorem off_append {D : Addr} {A B : List (Addr × Obj)} (a : ∀ p ∈ A, p.1 ≠ D) (b : ∀ p ∈ B, p.1 ≠ D) : ∀ p ∈ A ++ B, p.1 ≠ D := fun p hp => (List.mem_append.mp hp).elim (a p) (b p)
theorem tw_ret {x y : Int} {s : Shared} {R : Result → Shared → Prop} (hret : ∀ a' t1 t2 n h' tk, (∀ b x, s.heap.get? b = some x → h'.get? b = some x) → s.heap.get? a' = none → h'.get? a' = some (pairO (.int x t1) y t2 n) → R (.ok (.ret (.ref a'))) { s with heap := h', toks := tk })
    {h : Heap} {L a : Addr} {m : Str → Option Value} {all : List (Addr × Obj)} {t1 t2 : Tok} {n tk : Nat} (F : Fr s.heap L h m) (N : News s.heap L h all) (hm : (a, ({ cls := .type "tuple", data := .seq #[.int x t1, .int y t2] n } : Obj)) ∈ all) : R (.ok (.ret (.ref a))) { s with heap := h, toks := tk } :=
  hret a t1 t2 n h tk F.keep (N _ hm).2.2 (N _ hm).1
-- Tw
example : True := by
  k_with_none
  k_with "MEM" => with_reducible first | exact List.Mem.head _ | exact ym1 | exact ym2 | exact ym3 | exact ym4 | exact ym5 | exact ym6 | exact ym7 | exact ym8 | exact ym9 | exact ym10 | exact ym11 | exact ym12 | exact ym13 | exact ym14 | exact ym15 | fail "no"
  k_with "NE" => (refine neN ?_; (try dsimp only); first | assumption | (refine Ne.symm ?_; assumption) | exact Nat.ne_of_lt (by assumption) | exact Nat.ne_of_gt (by assumption) | (with_reducible first | exact Nat.ne_of_lt (zl1 (by assumption) (by decide)) | exact Nat.ne_of_gt (zl1 (by assumption) (by decide)) | exact za (by decide) | exact zb (by decide) | exact (zb (by decide)).symm | exact ze (by decide) | exact (ze (by decide)).symm | (refine Nat.ne_of_lt ?_; (repeat (first | (rename _ < _ ∧ _ => z8; revert z8; (repeat (first | exact And.left | refine cjt ?_)); done) | (rename _ < _ ∧ _ => z8; clear z8))); done) | (refine Nat.ne_of_gt ?_; (repeat (first | (rename _ < _ ∧ _ => z8; revert z8; (repeat (first | exact And.left | refine cjt ?_)); done) | (rename _ < _ ∧ _ => z8; clear z8))); done)) | ((repeat (first | exact neBy (by assumption) (by k_mem) | (rename ∀ p : Addr × Obj, p ∈ _ → p.1 ≠ _ => hz9; clear hz9))); done) | (refine Ne.symm ?_; (repeat (first | exact neBy (by assumption) (by k_mem) | (rename ∀ p : Addr × Obj, p ∈ _ → p.1 ≠ _ => hz9; clear hz9))); done) | omega)
  k_with "OM" => with_reducible first | assumption | exact zl0 (by assumption) | exact zl1 (by assumption) (by decide +kernel) | exact zl2 (by assumption) (by decide +kernel) | decide +kernel | exact Nat.le_trans (by assumption) (by decide +kernel) | exact zl4 (by assumption) (by decide +kernel) | exact Nat.lt_of_lt_of_le (by assumption) (by decide +kernel) | exact Nat.lt_of_le_of_lt (by assumption) (by decide +kernel) | exact Int.le_trans (by assumption) (by decide +kernel) | exact zl5 (by assumption) (by decide +kernel) | exact Int.lt_of_lt_of_le (by assumption) (by decide +kernel) | exact Int.lt_of_le_of_lt (by assumption) (by decide +kernel) | fail "no"
  k_with "ALL" => first | exact List.forall_mem_nil _ | exact zc (by k_ne) (by k_all) | fail "no"
  trivial
example : True := by
  k_with "eval Name" => first | (k_here; (with_reducible show wpAny _ _ (eval (Expr.Name _ _) (compEnvC _ _ _ _)) _ _ _); k_dflt (first
    | (refine' nameB_C ?Nzq ?czq ?mzq ?dzq ?_ ?azq ?bzq ?ezq; (case azq => rfl); (case bzq => rfl); (case ezq => decide); (case Nzq => k_asm); (case czq => rfl); (case mzq => k_mem); (case dzq => k_asm); k_whole)
    | (refine' nameG_K ?Fzq ?Xzq ?Tzq ?ezq ?_ ?k4zq ?k5zq ?k6zq ?k7zq; (case k4zq => rfl); (case k5zq => rfl); (case k6zq => rfl); (case k7zq => decide); (case Fzq => k_asm); (case Xzq => k_asm); (case Tzq => k_asm); (case ezq => k_is); k_whole))) | fail "no"
  k_with "exec Assign cons ListComp" => first | (k_here; lcg_look; k_dflt (refine Assign_ListComp_T (F₀ := by k_asm) (by rfl) (by with_unfolding_all rfl) (by rfl) (by decide) (by rfl) (by decide) (by rfl) (by rfl) (by rfl) ?_)) | fail "no"
  k_with "compareOp In str ref" => first | (k_here; k_dflt (refine' tabI_in ?Fzq ?Tzq ?_; (case Fzq => k_asm); (case Tzq => k_asm); k_whole)) | fail "no"
  k_with "subscriptTail" => first | ((k_here; (with_reducible show wpAny _ _ (subscriptTail _ _ (Value.ref _) (Value.str _ _)) _ _ _); k_dflt (refine' tabI_sub (i := 0) ?Fzq ?Tzq ?szq ?_; (case Fzq => k_asm); (case Tzq => k_asm); (case szq => assumption); k_whole); intro t9'); (try (revert t9'; intros))) | fail "no"
  k_with "subscriptTail" => first | (k_here; (with_reducible show wpAny _ _ (subscriptTail _ _ (Value.ref _) (Value.int _ _)) _ _ _); k_dflt (refine' item_of ?Fzq ?Tzq ?azq ?bzq ?czq ?_; (case Fzq => k_asm); (case Tzq => k_asm); (case azq => decide); (case bzq => decide); (case czq => rfl); k_whole)) | fail "no"
  k_with "call builtin:isinstance" => first | ((k_here; (with_reducible show wpAny _ _ (call _ [_, Value.ref _]) _ _ _); k_dflt (refine' isi_two ?Fzq ?Nzq ?mzq ?zzq ?dzq ?_; (case Fzq => k_asm); (case Nzq => k_asm); (case mzq => k_mem); (case dzq => assumption); (case zzq => assumption); k_whole); intro tk9'; (try rw [show D.isSeq _ = false by assumption]); (try rw [show D.isSeq _ = true by assumption]); (try dsimp only [D.isSeq, D.isTup, D.isStr])); (try (revert tk9'; intros))) | fail "no"
  k_with "call builtin:isinstance" => first | ((k_here; (with_reducible show wpAny _ _ (call _ [_, Value.type "tuple"]) _ _ _); k_dflt (refine' isi_one ?Fzq ?zzq ?dzq (ans_tuple ?ezq) ?_; (case Fzq => k_asm); (case dzq => assumption); (case zzq => assumption); (case ezq => assumption); k_whole); intro tk9'; (try rw [show D.isTup _ = false by assumption]); (try dsimp only [D.isSeq, D.isTup, D.isStr])); (try (revert tk9'; intros))) | fail "no"
  k_with "call builtin:isinstance" => first | ((k_here; (with_reducible show wpAny _ _ (call _ [_, Value.type "str"]) _ _ _); k_dflt (first
    | (refine' isi_no ?Fzq ?zzq ?dzq ?ezq ?_; (case Fzq => k_asm); (case ezq => assumption); (case dzq => assumption); (case zzq => assumption); k_whole)
    | (refine' isi_one ?Fzq ?zzq ?dzq (ans_str ?ezq) ?_; (case Fzq => k_asm); (case dzq => assumption); (case zzq => assumption); (case ezq => assumption); k_whole)); intro tk9'; (try dsimp only [D.isSeq, D.isTup, D.isStr])); (try (revert tk9'; intros))) | fail "no"
  k_with "call builtin:len" => first | (k_here; k_dflt (first | (refine' len_cons ?Fzq ?Tzq ?zzq ?_; (case Fzq => k_asm); (case Tzq => k_asm); (case zzq => assumption); k_whole) | (refine' len_nil ?Fzq ?Tzq ?_; (case Fzq => k_asm); (case Tzq => k_asm); k_whole))) | fail "no"
  k_with "SUB" => first | ((intro p9 h9; repeat' (first | exact h9 | exact List.mem_append_left _ h9 | exact List.mem_append_right _ h9 | refine List.mem_cons_of_mem _ ?_)); (try (revert p9 h9; intros))) | fail "no"
  k_with "subscriptTail" => first | (k_here; (with_reducible show wpAny _ _ (subscriptTail _ _ (Value.ref _) (Value.int _ _)) _ _ _); k_dflt (refine' item_led ?Nzq ?szq ?mzq ?azq ?bzq ?czq ?_; (case Nzq => k_asm); (case mzq => assumption); (case szq => walk_at "SUB"); (case azq => decide); (case bzq => decide); (case czq => rfl); k_whole)) | fail "no"
  k_with "eval ListComp" => first | (k_here; lcg_look; k_dflt (refine LCg.ListComp_U (F₀ := by k_asm) (by rfl) (by decide) (by rfl) (by decide) (by rfl) ?_)) | fail "no"
  k_with "compareOp NotEq ref ref" => first | (k_here; (with_reducible show wpAny _ _ (compareOp CmpOp.NotEq (Value.ref _) (Value.ref _)) _ _ _); k_dflt (first | (refine' ne_snoc ?Nzq ?mzq ?bzq ?uzq ?_; (case Nzq => k_asm); (case mzq => k_mem); (case bzq => k_mem); (case uzq => (simp only [units_deeper]; omega)); k_whole) | (refine' ne_nil ?Nzq ?mzq ?bzq ?uzq ?_; (case Nzq => k_asm); (case mzq => k_mem); (case bzq => k_mem); (case uzq => (simp only [units_deeper]; omega)); k_whole))) | fail "no"
  k_with "UPD" => first | first | (focus (refine' Upd.head ?_; rotate_right 1; walk_at "OFF")) | (focus (refine' Upd.tail ?_ ?_; rotate_right 2; k_ne; walk_at "UPD")) | fail "no"
  k_with "OFF" => first | first | assumption | exact List.forall_mem_nil _ | exact zc (by k_ne) (by walk_at "OFF") | fail "no"
  k_with "call builtin:list.append" => first | ((k_here; (with_reducible show wpAny _ _ (call (Value.builtin _) [Value.ref _, _]) _ _ _); k_dflt (refine' append_L ?k1zq ?k2zq ?k3zq ?zzq ?_; (case k1zq => k_asm); (case k2zq => k_asm); (case k3zq => walk_at "UPD"); (case zzq => (rw [sizeLine_eq]; omega)); k_whole); intro h' F' N'; (try k_sweep)); (try (revert h' F' N'; intros))) | fail "no"
  k_with "call builtin:max" => first | ((k_here; (with_reducible show wpAny _ _ (call (Value.builtin _) [Value.ref _]) _ _ _); k_dflt (refine' max_led ?Fzq ?Nzq ?mzq ?izq ?nzq ?hzq ?_; (case Fzq => k_asm); (case Nzq => k_asm); (case mzq => k_mem); (case izq => first | assumption | exact IntsAre.snoc (by assumption)); (case nzq => first | assumption | (exact of_decide_eq_true (by assumption)) | (simp only [List.length_append, List.length_cons]; omega)); (case hzq => assumption); k_whole); intro h' M' t' k' F' N' a'); (try (revert h' M' t' k' F' N' a'; intros))) | fail "no"
  k_with "eval ListComp" => first | (k_here; lcf_look; k_dflt (refine ListComp_T (F₀ := by k_asm) (by with_unfolding_all rfl) (by decide) (by rfl) (by decide) (by rfl) ?_)) | fail "no"
  k_with "OFF" => first | ((with_reducible refine off_append ?_ ?_); walk_at "OFF"; walk_at "OFF") | fail "no"
  k_with "call builtin:max" => first | ((k_here; (with_reducible show wpAny _ _ (call (Value.builtin _) [Value.int _ _, Value.int _ _]) _ _ _); k_dflt (refine' max2_K ?Fzq ?Nzq ?hzq ?_; (case Fzq => k_asm); (case Nzq => k_asm); (case hzq => assumption); k_whole); intro h' k' t' F' N'); (try (revert h' k' t' F' N'; intros))) | fail "no"
  k_with "ALL" => first | first | assumption | ((with_reducible refine off_append ?_ ?_); k_all; k_all) | fail "no"
  k_with "assign Tuple" => first | ((k_here; (with_reducible show wpAny _ _ (assign (Expr.Tuple _ _ _) _ (Value.ref _)) _ _ _); k_dflt (refine' unpackN_ ?k1zq ?k2zq ?k3zq ?k4zq ?k5zq ?k6zq ?_; (case k1zq => k_asm); (case k2zq => k_asm); (case k3zq => exact News.isTup (by k_asm) (by k_mem)); (case k4zq => assumption); (case k5zq => exact rfl); (case k6zq => exact rfl); k_whole); intro h' F' N'; (try k_sweep)); (try (revert h' F' N'; intros))) | fail "no"
  k_with "call builtin:list.pop" => first | ((k_here; (with_reducible show wpAny _ _ (call (Value.builtin _) [Value.ref _]) _ _ _); k_dflt (refine' pop_L ?k1zq ?k2zq ?k3zq ?zzq ?_; (case k1zq => k_asm); (case k2zq => k_asm); (case k3zq => walk_at "UPD"); (case zzq => (rw [sizeLine_eq]; omega)); k_whole); intro h' F' N'; (try k_sweep)); (try (revert h' F' N'; intros))) | fail "no"
  k_with "call builtin:list.extend" => first | ((k_here; (with_reducible show wpAny _ _ (call (Value.builtin _) [Value.ref _, Value.ref _]) _ _ _); k_dflt (refine' extend_L ?k1zq ?k2zq ?k4zq _ rfl ?k3zq ?zzq ?_; (case k1zq => k_asm); (case k2zq => k_asm); (case k4zq => k_mem); (case k3zq => walk_at "UPD"); (case zzq => (rw [sizeLine_eq]; omega)); k_whole); intro h' F' N'; (try k_sweep)); (try (revert h' F' N'; intros))) | fail "no"
  k_with "getMethod ref" => first | (k_here; k_dflt (refine' tabI_meth ?Fzq ?Tzq ?_; (case Fzq => k_asm); (case Tzq => k_asm); k_whole)) | fail "no"
  k_with "call builtin:dict.get" => first | ((k_here; k_dflt (refine' tabI_get ?Fzq ?Tzq ?_; (case Fzq => k_asm); (case Tzq => k_asm); k_whole); intro t9'); (try (revert t9'; intros))) | fail "no"
  k_with "execs cons" => first | (k_here; (with_reducible show wpAny _ _ (execs (Stmt.If (Expr.Call _ _ _ _) _ _ _ :: _) _) _ _ _); (have mk9 : Sign0 := by assumption); clear mk9; refine Stop.mk ?_) | fail "no"
  trivial
theorem map_four {m : Str → Option Value} {a b c d : Str} {x y z u : Option Value} (h1 : m a = x) (h2 : m b = y) (h3 : m c = z) (h4 : m d = u) : m = fun q => if q = a then x else if q = b then y else if q = c then z else if q = d then u else m q := by
  funext q
  by_cases e1 : q = a
  · rw [if_pos e1, e1, h1]
  · rw [if_neg e1]
    by_cases e2 : q = b
    · rw [if_pos e2, e2, h2]
    · rw [if_neg e2]
      by_cases e3 : q = c
      · rw [if_pos e3, e3, h3]
      · rw [if_neg e3]
        by_cases e4 : q = d
        · rw [if_pos e4, e4, h4]
        · rw [if_neg e4]
theorem isTup_no {d : D} (h : d.isSeq = false) : d.isTup = false := by cases d <;> first | rfl | cases h
theorem lw_no {wei cal : Str → Option Int} {d : D} (h : d.isSeq = false) : d.lw wei cal = (none, 0) := by cases d <;> first | rfl | cases h
theorem InD.isRef {Z : List (Addr × Obj)} {v : Value} {d : D} (h : InD Z v d) (hs : ¬ d.isSeq = false) : ∃ pa, v = .ref pa := by cases h <;> first | exact ⟨_, rfl⟩ | exact absurd rfl hs
theorem ItemsAt.noSt {Z P : List (Addr × Obj)} {st : List (D × Int)} (h : ItemsAt Z P [] st) : st = [] := by cases h; rfl
theorem nil_or_snoc {α : Type} (l : List α) : l = [] ∨ ∃ a b, l = a ++ [b] := by
  rcases List.eq_nil_or_concat l with h | ⟨a, b, h⟩
  · exact .inl h
  · exact .inr ⟨a, b, by rw [h, List.concat_eq_append]⟩
set_option maxHeartbeats 4000000 in
theorem tw_c {w : World} {H : Heap} {p : Program} {loose : List Str} {mg mb : Str → Option Value} (X : (hd.heap_39 w.params).In H) (T : TopRead p loose mg mb H) {wei cal : Str → Option Int} (TW : TabI w H 136 wei) (TC : TabI w H 139 cal)
    (hwe : ∀ x i, wei x = some i → 0 ≤ i) (hca : ∀ x i, cal x = some i → 0 ≤ i)
    {A : Around} {s : Shared} {R : Result → Shared → Prop} {a la : Addr} {v0 : Value} {vb : List Value} {Z : List (Addr × Obj)} {l : DL}
    (hk : H.StaysIn s.heap) (hh : A.handled = none) (hroom : A.depth + 10 < recursionLimit) (hu : A.units + 40 < cLine)
    (hZ : ∀ q ∈ Z, s.heap.get? q.1 = some q.2) (hT : IsTup s.heap a [v0, .ref la].toArray) (hL0 : s.heap.IsList la vb.toArray) (hI : InDs Z vb l) (hsz : l.siz ≤ 8000)
    (hret : ∀ a' t1 t2 n h' tk, (∀ b x, s.heap.get? b = some x → h'.get? b = some x) → s.heap.get? a' = none → h'.get? a' = some (pairO (.int (((D.lst l).lw wei cal).1.getD 0) t1) ((D.lst l).lw wei cal).2 t2 n) → R (.ok (.ret (.ref a'))) { s with heap := h', toks := tk }) :
    codeAny (model PySem.Challenge.rw_qz0087_01.row.prog w) A (.call (.ref 164) ⟨[.ref a], []⟩) R s := by
  refine' call_raw (muts := []) hk ?km X T ?k6 ?k7 ?k8 ?k9 ?kB ?kD ?kh ?c2 ?c3 ?c4
  case km => intro q hq; cases hq
  case k6 => k_is
  case k7 => k_is
  case k8 => omega
  case k9 => exact BindsTo.of_eq rfl
  case kB => exact rfl
  case kD => decide +kernel
  case c2 => exact rfl
  case c3 => exact rfl
  case c4 => exact rfl
  intro g L' h₁ tk cells hg hL st X' T' F N Y l1
  obtain ⟨oc, hE, d2⟩ := CellsAre.one Y
  subst hE
  clear Y
  replace d2 : oc.data = .cell none := d2
  replace F : Fr g L' h₁ (fun y => if y = Str.ofString "block" then some (.ref a) else none) := F
  simp only [List.nil_append, List.append_nil] at N
  simp only [List.map_nil, hideAll] at hg
  subst hg
  have TW' := TW.keeps st
  have TC' := TC.keeps st
  clear l1
  have hvb : vb.length ≤ 8000 := by rw [hI.len]; have := l.len_siz; omega
  k_steps
  refine ⟨_, _, _, rfl, hh, by assumption, by assumption, .inr hL0, ?_, ?_⟩
  · rw [List.size_toArray, sizeLine_eq]; omega
  rintro s₂ ⟨hz, rfl⟩
  refine rest_ind (fun i ys news' => ∃ P : List (Addr × Obj), news' = (L' + 1, oc) :: P ∧ (∀ p ∈ P, p.1 ≠ L' + 1) ∧ ItemsAt Z P ys ((l.toList.map fun x => (x, (0:Int))).take i)) ?turn ?fin _ _ _ _ (Nat.zero_add _) ⟨[], rfl, (fun _ q => nomatch q), .nil⟩
  case turn =>
    intro i ys _ hi x49 v I oI C oC D' m₂ h tk' E' hv hoC hx F N off ne
    obtain ⟨P, rfl, hPL, hP⟩ := x49
    obtain ⟨ne1, ne2, ne3⟩ := ne
    obtain ⟨d', hd', hDv⟩ := hI.get i v (by simpa using hv)
    k_steps
    refine' end_head (l := (L' + 1, oc) :: P) ((L' + 1, oc) :: (P ++ [_])) ?F ?N rfl off ?ne trivial ⟨P ++ [_], rfl, ?hL, ?pp⟩
    case F => k_asm
    case N => assumption
    case ne => exact ⟨by k_ne, by k_ne, by k_ne⟩
    case hL =>
      intro p hp
      rcases List.mem_append.mp hp with hp | hp
      · exact hPL p hp
      · rw [List.mem_singleton.mp hp]; k_ne
    rw [take_snoc (x := (d', (0:Int))) (by rw [List.getElem?_map, hd']; rfl)]
    exact ItemsAt.append (.cons (show ItemAt Z _ _ (d', (0 : Int)) from ⟨_, _, _, _, rfl, List.mem_append_right _ (List.mem_singleton.mpr rfl), hDv⟩) .nil) (hP.mono fun q hq => List.mem_append_left _ hq)
  case fin =>
    intro ys _ x29
    obtain ⟨P, rfl, hPL, hP⟩ := x29
    replace hP : ItemsAt Z P ys (l.toList.map fun x => (x, (0:Int))) := by
      rw [List.take_of_length_le] at hP
      · exact hP
      · rw [List.length_map, ← hI.len, List.size_toArray]; exact Nat.le_refl _
    unfold LCg.FinA
    intro D2 h2 tk2 F2 N2 o2
    have hPD : ∀ p ∈ P, p.1 ≠ D2 := fun p hp => off1_mem o2 p (by simp [hp])
    have offd15 := zoff1 o2
    simp only [LCg.Off1] at o2
    dsimp only
    walk1
    refine While_inv2 (n₀ := l.siz) (TwJ Z L' wei cal (max 0 (((D.lst l).lw wei cal).1.getD 0)) (max 0 ((D.lst l).lw wei cal).2)) F2 N2 ⟨ys, _, D2, _, oc, _, P, 0, 0, _, _, rfl, d2, ⟨by k_ne, fun p hp => ⟨hPD p hp, hPL p hp⟩⟩, hP, stSiz_kids l, hsz, rfl, rfl, rfl, a_first hwe hca l, w_first l, fun p hp => ?_⟩ ?_
    · obtain ⟨x, _, rfl⟩ := List.mem_map.mp hp
      exact Int.le_refl _
    clear F2 N2 o2 hPD hPL hP
    intro n m₁ news₁ h₁ tk₁ F N x79
    obtain ⟨ys, st, Dt, nn, oh, cv, P, ab, wh, t1, t2, rfl, hoh, ⟨hDL, hPo⟩, hit, hst, hn6, e1, e2, e3, ea, ew, hwh⟩ := x79
    have hPD : ∀ p ∈ P, p.1 ≠ Dt := fun p hp => (hPo p hp).1
    have hPL : ∀ p ∈ P, p.1 ≠ L' + 1 := fun p hp => (hPo p hp).2
    have hlen : ys.length ≤ 8000 := by rw [hit.len]; have := stSiz_len st; omega
    revert F N
    refine' (fun tail => ?main : Hid (∀ (h : Heap) (tk : Nat) (m' : Str → Option Value) (oh' : Obj) (nn' : Nat) (ys' : List Value) (st' : List (D × Int)) (d : D) (l2 : DL) (pa : Addr) (vs2 : List Value) (hv ab' wh' : Int) (t6 t7 t8 : Tok),
        Fr s.heap L' h m' → News s.heap L' h ((Dt, W.listOf ys'.toArray nn') :: (L' + 1, oh') :: P) → oh'.data = .cell (some (.int hv t8)) → m' (Str.ofString "todo") = some (.ref Dt) → m' (Str.ofString "about") = some (.int ab' t6) → m' (Str.ofString "whole") = some (.int wh' t7) → m' (Str.ofString "part") = some (.ref pa) →
        InD Z (.ref pa) d → d.isSeq = true → InDs Z vs2 l2 → (s.heap.IsTuple pa vs2.toArray ∨ s.heap.IsList pa vs2.toArray) → ItemsAt Z P ys' st' → stSiz st' + l2.siz < n →
        amax wei cal ab' (st' ++ l2.toList.map fun x => (x, hv)) = max 0 (((D.lst l).lw wei cal).1.getD 0) → wmax wei cal wh' (st' ++ l2.toList.map fun x => (x, hv)) = max 0 ((D.lst l).lw wei cal).2 → (∀ p ∈ st', p.2 ≤ wh') → hv ≤ wh' →
        wpAny _ _ (execs _ _) _ _ { s with heap := h, toks := tk }) → _) ?tl
    case main =>
      intro F N
      rw [map_three e1 e2 e3] at F
      rcases nil_or_snoc ys with rfl | ⟨ys, y, rfl⟩
      · have hst0 : st = [] := hit.noSt
        subst hst0
        have ea : ab = max 0 (((D.lst l).lw wei cal).1.getD 0) := ea
        have ew : wh = max 0 ((D.lst l).lw wei cal).2 := ew
        obtain ⟨g1, g2⟩ := D.lw_ge hwe hca _ (.lst l) (Nat.le_refl _)
        have ea2 : ab = ((D.lst l).lw wei cal).1.getD 0 := by
          cases q : ((D.lst l).lw wei cal).1 with
          | none => rw [ea, q]; rfl
          | some x => have := g1 x q; rw [ea, q, Option.getD_some]; omega
        have ew2 : wh = ((D.lst l).lw wei cal).2 := by omega
        subst ea2 ew2
        k_steps
        refine' tw_ret hret ?F ?N ?m
        case F => k_asm
        case N => k_asm
        case m => k_mem
      · obtain ⟨st, ⟨d, hgh⟩, rfl, hit', ta, v, t5, n5, rfl, hta, hDv⟩ := hit.last
        replace N : News s.heap L' h₁ ((Dt, W.listOf (ys ++ [Value.ref ta]).toArray nn) :: (L' + 1, oh) :: (ta, ({ cls := .type "tuple", data := .seq [v, .int hgh t5].toArray n5 } : Obj)) :: P) := fun q hq => N q (by
          simp only [List.mem_cons] at hq ⊢
          rcases hq with h | h | h | h
          · exact .inl h
          · exact .inr (.inl h)
          · exact .inr (.inr (h ▸ hta))
          · exact .inr (.inr h))
        have hta1 : (@Ne Nat ta Dt) ∧ (@Ne Nat ta (L' + 1)) := hPo _ hta
        have hsd : stSiz st + d.siz ≤ 8000 := by rw [stSiz_append] at hst; simp only [stSiz] at hst; omega
        have hsn : n = stSiz st + d.siz := by rw [← hst, stSiz_append]; simp only [stSiz]; omega
        have hhw : hgh ≤ wh := hwh (d, hgh) (List.mem_append_right _ (List.mem_singleton.mpr rfl))
        have hwst : ∀ p ∈ st, p.2 ≤ wh := fun p hp => hwh p (List.mem_append_left _ hp)
        have hdp := d.siz_pos
        by_cases hseq : d.isSeq = false
        · have htup := isTup_no hseq
          have hdw : d.lw wei cal = (none, 0) := lw_no hseq
          k_steps
          refine' tw_step (.inl rfl) ?Fa ?Na ?h1a ?h2a ?h3a ?hda hDL (P := P) hPo hit' ?hsa ?h6a ?e1a ?e2a ?e3a ?eaa ?ewa ?hwa
          case Fa => k_asm
          case Na => k_asm
          case h1a => k_mem
          case h2a => k_mem
          case h3a => walk_at "SUB"
          case hda => assumption
          case hsa => omega
          case h6a => omega
          case e1a => rfl
          case e2a => rfl
          case e3a => rfl
          case eaa => rw [a_leaf hdw]; exact ea
          case ewa => rw [w_leaf hdw hhw]; exact ew
          case hwa => exact hwst
        · obtain ⟨pa, rfl⟩ : ∃ pa, v = .ref pa := hDv.isRef hseq
          have mark : Sign0 := ⟨⟩
          cases d with
          | lst l2 =>
            obtain ⟨vs2, hI2, hT2⟩ := hDv.isList hZ
            k_steps
            refine Stop.back ?_
            have q := tail.out
            refine' q _ _ _ _ _ ys st _ l2 _ _ _ _ _ _ _ _ ?Fb ?Nb ?ob ?e1b ?e2b ?e3b ?e4b hDv rfl hI2 (.inr hT2) hit' ?szb ?eab ?ewb ?hwb ?hvb
            case Fb => k_asm
            case Nb => exact fun q hq => (by k_asm : News s.heap L' _ _) q (by revert q; exact zc (by k_mem) (zc (by k_mem) (by walk_at "SUB")))
            case ob => assumption
            case e1b => rfl
            case e2b => rfl
            case e3b => rfl
            case e4b => rfl
            case szb => simp only [D.siz] at *; omega
            case eab => exact a_turn' (own := 0) (c := none) (Int.add_zero _).symm (by rw [D.lw]) (fun b => ⟨fun h => ⟨h, fun _ q => nomatch q⟩, fun h => h.1⟩) ea
            case ewb => exact w_turn' (own := 0) (c := none) (Int.add_zero _).symm (by rw [D.lw]) (fun b => ⟨fun h => ⟨h, by omega⟩, fun h => h.1⟩) ew
            case hwb => exact hwst
            case hvb => exact hhw
          | tup l2 =>
            obtain ⟨vs2, hI2, hT2⟩ := hDv.isTup hZ
            have hlen2 : vs2.length ≤ 8000 := by rw [hI2.len]; have := l2.len_siz; simp only [D.siz] at hsd; omega
            have hI3 := hI2
            cases hI3 with
            | nil =>
              generalize hl2 : DL.nil = l2 at *
              k_steps
              refine Stop.back ?_
              have q := tail.out
              refine' q _ _ _ _ _ ys st _ l2 _ _ _ _ _ _ _ _ ?Fc ?Nc ?oc ?e1c ?e2c ?e3c ?e4c hDv rfl hI2 (.inl hT2) hit' ?szc ?eac ?ewc ?hwc ?hvc
              case Fc => k_asm
              case Nc => exact fun q hq => (by k_asm : News s.heap L' _ _) q (by revert q; exact zc (by k_mem) (zc (by k_mem) (by walk_at "SUB")))
              case oc => assumption
              case e1c => rfl
              case e2c => rfl
              case e3c => rfl
              case e4c => rfl
              case szc => simp only [D.siz] at *; omega
              case eac => exact a_turn' (own := 0) (c := none) (Int.add_zero _).symm (lw_non (hl2 ▸ rfl)) (fun b => ⟨fun h => ⟨h, fun _ q => nomatch q⟩, fun h => h.1⟩) ea
              case ewc => exact w_turn' (own := 0) (c := none) (Int.add_zero _).symm (lw_non (hl2 ▸ rfl)) (fun b => ⟨fun h => ⟨h, by omega⟩, fun h => h.1⟩) ew
              case hwc => exact hwst
              case hvc => exact hhw
            | cons h0 hI' =>
              rename_i v0 d0 vs3 l3
              generalize hl2 : DL.cons d0 l3 = l2 at *
              have hS0 := InD.headStr h0
              rcases hS0 with hS0 | ⟨x, t, rfl, rfl⟩
              · k_steps
                refine Stop.back ?_
                have q := tail.out
                refine' q _ _ _ _ _ ys st _ l2 _ _ _ _ _ _ _ _ ?Fd ?Nd ?od ?e1d ?e2d ?e3d ?e4d hDv rfl hI2 (.inl hT2) hit' ?szd ?ead ?ewd ?hwd ?hvd
                case Fd => k_asm
                case Nd => exact fun q hq => (by k_asm : News s.heap L' _ _) q (by revert q; exact zc (by k_mem) (zc (by k_mem) (by walk_at "SUB")))
                case od => assumption
                case e1d => rfl
                case e2d => rfl
                case e3d => rfl
                case e4d => rfl
                case szd => simp only [D.siz] at *; omega
                case ead => exact a_turn' (own := 0) (c := none) (Int.add_zero _).symm (lw_non (hl2 ▸ head_none hS0)) (fun b => ⟨fun h => ⟨h, fun _ q => nomatch q⟩, fun h => h.1⟩) ea
                case ewd => exact w_turn' (own := 0) (c := none) (Int.add_zero _).symm (lw_non (hl2 ▸ head_none hS0)) (fun b => ⟨fun h => ⟨h, by omega⟩, fun h => h.1⟩) ew
                case hwd => exact hwst
                case hvd => exact hhw
              · k_steps
                · have hdw : (D.tup l2).lw wei cal = (none, 0) := hl2 ▸ lw_subdef (eq_of_beq (by assumption))
                  refine' tw_step (.inr rfl) ?Ff ?Nf ?h1f ?h2f ?h3f ?hdf hDL (P := P) hPo hit' ?hsf ?h6f ?e1f ?e2f ?e3f ?eaf ?ewf ?hwf
                  case Ff => k_asm
                  case Nf => k_asm
                  case h1f => k_mem
                  case h2f => k_mem
                  case h3f => walk_at "SUB"
                  case hdf => assumption
                  case hsf => omega
                  case h6f => omega
                  case e1f => rfl
                  case e2f => rfl
                  case e3f => rfl
                  case eaf => rw [a_leaf hdw]; exact ea
                  case ewf => rw [w_leaf hdw hhw]; exact ew
                  case hwf => exact hwst
                · skip
                  refine Stop.back ?_
                  have q := tail.out
                  refine' q _ _ _ _ _ ys st _ l2 _ _ _ _ _ _ _ _ ?Fg ?Ng ?og ?e1g ?e2g ?e3g ?e4g hDv rfl hI2 (.inl hT2) hit' ?szg ?eag ?ewg ?hwg ?hvg
                  case Fg => k_asm
                  case Ng => exact fun q hq => (by k_asm : News s.heap L' _ _) q (by revert q; exact zc (by k_mem) (zc (by k_mem) (by walk_at "SUB")))
                  case og => assumption
                  case e1g => rfl
                  case e2g => rfl
                  case e3g => rfl
                  case e4g => rfl
                  case szg => simp only [D.siz] at *; omega
                  case eag => exact a_turn' (own := ((wei x).getD 4)) (c := (cal x)) rfl (hl2 ▸ lw_str (ne_of_beq_false (by assumption))) (fun b => hab_some (by assumption)) ea
                  case ewg => exact w_turn' (own := ((wei x).getD 4)) (c := (cal x)) rfl (hl2 ▸ lw_str (ne_of_beq_false (by assumption))) (fun b => ⟨fun h => ⟨by omega, by omega⟩, fun h => by omega⟩) ew
                  case hwg => (intro p hp; have := hwst p hp; omega)
                  case hvg => exact Int.le_max_right _ _
                · skip
                  refine Stop.back ?_
                  have q := tail.out
                  refine' q _ _ _ _ _ ys st _ l2 _ _ _ _ _ _ _ _ ?Fi ?Ni ?oi ?e1i ?e2i ?e3i ?e4i hDv rfl hI2 (.inl hT2) hit' ?szi ?eai ?ewi ?hwi ?hvi
                  case Fi => k_asm
                  case Ni => exact fun q hq => (by k_asm : News s.heap L' _ _) q (by revert q; exact zc (by k_mem) (zc (by k_mem) (by walk_at "SUB")))
                  case oi => assumption
                  case e1i => rfl
                  case e2i => rfl
                  case e3i => rfl
                  case e4i => rfl
                  case szi => simp only [D.siz] at *; omega
                  case eai => exact a_turn' (own := ((wei x).getD 4)) (c := (cal x)) rfl (hl2 ▸ lw_str (ne_of_beq_false (by assumption))) (fun b => hab_none (by assumption)) ea
                  case ewi => exact w_turn' (own := ((wei x).getD 4)) (c := (cal x)) rfl (hl2 ▸ lw_str (ne_of_beq_false (by assumption))) (fun b => ⟨fun h => ⟨by omega, by omega⟩, fun h => by omega⟩) ew
                  case hwi => (intro p hp; have := hwst p hp; omega)
                  case hvi => exact Int.le_max_right _ _
          | _ => exact absurd rfl hseq
    case tl =>
      refine ⟨?_⟩
      intro h tk m' oh' nn' ys' st' d l2 pa vs2 hv ab' wh' t6 t7 t8 F N hoh' e1 e2 e3 e4 hDv hseq hI2 hS hit' hsz2 ea ew hwst hhw
      rw [map_four e1 e2 e3 e4] at F
      have hlen2 : vs2.length ≤ 8000 := by rw [hI2.len]; have := l2.len_siz; omega
      have hlen' : ys'.length ≤ 8000 := by rw [hit'.len]; have := stSiz_len st'; omega
      k_steps
      refine ⟨_, _, _, rfl, hh, by assumption, by assumption, hS, ?_, ?_⟩
      · rw [List.size_toArray, sizeLine_eq]; omega
      rintro s₂ ⟨hz, rfl⟩
      refine rest_ind (fun i zs news' => ∃ P2 : List (Addr × Obj), news' = _ ++ P2 ∧ (∀ p ∈ P2, (@Ne Nat p.1 Dt) ∧ (@Ne Nat p.1 (L' + 1))) ∧ ItemsAt Z P2 zs ((l2.toList.map fun x => (x, hv)).take i)) ?_ ?_ _ _ _ _ (Nat.zero_add _) ⟨[], (List.append_nil _).symm, (fun _ q => nomatch q), .nil⟩
      · intro i zs _ hi x49 v I oI C oC D' m₂ h tk' E' hv' hoC hx F N off ne
        obtain ⟨P2, rfl, hPo2, hP2⟩ := x49
        obtain ⟨ne1, ne2, ne3⟩ := ne
        simp only [List.cons_append, List.nil_append] at N off
        obtain ⟨d', hd', hDv'⟩ := hI2.get i v (by simpa using hv')
        k_steps
        refine' end_head _ ?Fb1 ?Nb1 ?eb1 off ?neb1 trivial ⟨P2 ++ [_], rfl, ?hLb1, ?ppb1⟩
        case Fb1 => k_asm
        case Nb1 => assumption
        case eb1 => (simp only [List.cons_append, List.nil_append, List.append_assoc]; rfl)
        case neb1 => exact ⟨by k_ne, by k_ne, by k_ne⟩
        case hLb1 =>
          intro p hp
          rcases List.mem_append.mp hp with hp | hp
          · exact hPo2 p hp
          · rw [List.mem_singleton.mp hp]; exact ⟨by k_ne, by k_ne⟩
        case ppb1 =>
          rw [take_snoc (x := (d', hv)) (by rw [List.getElem?_map, hd']; rfl)]
          exact ItemsAt.append (.cons (show ItemAt Z _ _ (d', hv) from ⟨_, _, _, _, rfl, List.mem_append_right _ (List.mem_singleton.mpr rfl), hDv'⟩) .nil) (hP2.mono fun q hq => List.mem_append_left _ hq)
      · intro zs _ x29
        obtain ⟨P2, rfl, hPo2, hP2⟩ := x29
        replace hP2 : ItemsAt Z P2 zs (l2.toList.map fun x => (x, hv)) := by
          rw [List.take_of_length_le] at hP2
          · exact hP2
          · rw [List.length_map, ← hI2.len, List.size_toArray]; exact Nat.le_refl _
        have hzl : zs.length = l2.toList.length := by rw [hP2.len, List.length_map]
        have hPo3 : ∀ p ∈ P ++ P2, p.1 ≠ Dt ∧ p.1 ≠ L' + 1 := fun p hp => (List.mem_append.mp hp).elim (hPo p) (hPo2 p)
        have hPD2 : ∀ p ∈ P2, p.1 ≠ Dt := fun p hp => (hPo2 p hp).1
        have hlz : ys'.length + zs.length ≤ 8000 := by
          have := l2.len_siz; have := stSiz_len st'; rw [hit'.len, hzl]; omega
        unfold LCg.FinE
        intro D4 h4 tk4 F4 N4 o4
        have offd16 := zoff1 o4
        simp only [List.nil_append, List.cons_append, LCg.Off1] at o4
        simp only [List.nil_append, List.cons_append] at N4
        dsimp only
        k_steps
        refine' tw_step (.inl rfl) ?Fb ?Nb ?h1b ?h2b ?h3b ?hdb hDL (P := P ++ P2) hPo3 (ItemsAt.append (hP2.mono fun q hq => List.mem_append_right _ hq) (hit'.mono fun q hq => List.mem_append_left _ hq)) ?hsb ?h6b ?e1b ?e2b ?e3b ea ew ?hwb
        case Fb => k_asm
        case Nb => k_asm
        case h1b => k_mem
        case h2b => k_mem
        case h3b => walk_at "SUB"
        case hdb => assumption
        case hsb => (rw [stSiz_append, stSiz_kids]; omega)
        case h6b => (rw [stSiz_append, stSiz_kids]; omega)
        case e1b => rfl
        case e2b => rfl
        case e3b => rfl
        case hwb =>
          intro p hp
          rcases List.mem_append.mp hp with hp | hp
          · exact hwst p hp
          · obtain ⟨x, _, rfl⟩ := List.mem_map.mp hp
            exact hhw
-- Lb
example : True := by
  k_with_none
  k_with "MEM" => with_reducible first | exact List.Mem.head _ | exact ym1 | exact ym2 | exact ym3 | exact ym4 | exact ym5 | exact ym6 | exact ym7 | exact ym8 | exact ym9 | exact ym10 | exact ym11 | exact ym12 | exact ym13 | exact ym14 | exact ym15 | fail "no"
  k_with "NE" => (refine neN ?_; (try dsimp only); first | assumption | (refine Ne.symm ?_; assumption) | exact Nat.ne_of_lt (by assumption) | exact Nat.ne_of_gt (by assumption) | (with_reducible first | exact Nat.ne_of_lt (zl1 (by assumption) (by decide)) | exact Nat.ne_of_gt (zl1 (by assumption) (by decide)) | exact za (by decide) | exact zb (by decide) | exact (zb (by decide)).symm | exact ze (by decide) | exact (ze (by decide)).symm | (refine Nat.ne_of_lt ?_; (repeat (first | (rename _ < _ ∧ _ => z8; revert z8; (repeat (first | exact And.left | refine cjt ?_)); done) | (rename _ < _ ∧ _ => z8; clear z8))); done) | (refine Nat.ne_of_gt ?_; (repeat (first | (rename _ < _ ∧ _ => z8; revert z8; (repeat (first | exact And.left | refine cjt ?_)); done) | (rename _ < _ ∧ _ => z8; clear z8))); done)) | ((repeat (first | exact neBy (by assumption) (by k_mem) | (rename ∀ p : Addr × Obj, p ∈ _ → p.1 ≠ _ => hz9; clear hz9))); done) | (refine Ne.symm ?_; (repeat (first | exact neBy (by assumption) (by k_mem) | (rename ∀ p : Addr × Obj, p ∈ _ → p.1 ≠ _ => hz9; clear hz9))); done) | omega)
  k_with "OM" => with_reducible first | assumption | exact zl0 (by assumption) | exact zl1 (by assumption) (by decide +kernel) | exact zl2 (by assumption) (by decide +kernel) | decide +kernel | exact Nat.le_trans (by assumption) (by decide +kernel) | exact zl4 (by assumption) (by decide +kernel) | exact Nat.lt_of_lt_of_le (by assumption) (by decide +kernel) | exact Nat.lt_of_le_of_lt (by assumption) (by decide +kernel) | exact Int.le_trans (by assumption) (by decide +kernel) | exact zl5 (by assumption) (by decide +kernel) | exact Int.lt_of_lt_of_le (by assumption) (by decide +kernel) | exact Int.lt_of_le_of_lt (by assumption) (by decide +kernel) | fail "no"
  k_with "ALL" => first | exact List.forall_mem_nil _ | exact zc (by k_ne) (by k_all) | fail "no"
  trivial
example : True := by
  k_with "eval Name" => first | (k_here; (with_reducible show wpAny _ _ (eval (Expr.Name _ _) (compEnvC _ _ _ _)) _ _ _); k_dflt (first
    | (refine' nameB_C ?Nzq ?czq ?mzq ?dzq ?_ ?azq ?bzq ?ezq; (case azq => rfl); (case bzq => rfl); (case ezq => decide); (case Nzq => k_asm); (case czq => rfl); (case mzq => k_mem); (case dzq => k_asm); k_whole)
    | (refine' nameG_K ?Fzq ?Xzq ?Tzq ?ezq ?_ ?k4zq ?k5zq ?k6zq ?k7zq; (case k4zq => rfl); (case k5zq => rfl); (case k6zq => rfl); (case k7zq => decide); (case Fzq => k_asm); (case Xzq => k_asm); (case Tzq => k_asm); (case ezq => k_is); k_whole))) | fail "no"
  k_with "exec Assign cons ListComp" => first | (k_here; lcg_look; k_dflt (refine Assign_ListComp_T (F₀ := by k_asm) (by rfl) (by with_unfolding_all rfl) (by rfl) (by decide) (by rfl) (by decide) (by rfl) (by rfl) (by rfl) ?_)) | fail "no"
  k_with "compareOp In str ref" => first | (k_here; k_dflt (refine' tabI_in ?Fzq ?Tzq ?_; (case Fzq => k_asm); (case Tzq => k_asm); k_whole)) | fail "no"
  k_with "subscriptTail" => first | ((k_here; (with_reducible show wpAny _ _ (subscriptTail _ _ (Value.ref _) (Value.str _ _)) _ _ _); k_dflt (refine' tabI_sub (i := 0) ?Fzq ?Tzq ?szq ?_; (case Fzq => k_asm); (case Tzq => k_asm); (case szq => assumption); k_whole); intro t9'); (try (revert t9'; intros))) | fail "no"
  k_with "subscriptTail" => first | (k_here; (with_reducible show wpAny _ _ (subscriptTail _ _ (Value.ref _) (Value.int _ _)) _ _ _); k_dflt (refine' item_of ?Fzq ?Tzq ?azq ?bzq ?czq ?_; (case Fzq => k_asm); (case Tzq => k_asm); (case azq => decide); (case bzq => decide); (case czq => rfl); k_whole)) | fail "no"
  k_with "call builtin:isinstance" => first | ((k_here; (with_reducible show wpAny _ _ (call _ [_, Value.ref _]) _ _ _); k_dflt (refine' isi_two ?Fzq ?Nzq ?mzq ?zzq ?dzq ?_; (case Fzq => k_asm); (case Nzq => k_asm); (case mzq => k_mem); (case dzq => assumption); (case zzq => assumption); k_whole); intro tk9'; (try rw [show D.isSeq _ = false by assumption]); (try dsimp only [D.isSeq, D.isTup, D.isStr])); (try (revert tk9'; intros))) | fail "no"
  k_with "call builtin:isinstance" => first | ((k_here; (with_reducible show wpAny _ _ (call _ [_, Value.type "tuple"]) _ _ _); k_dflt (refine' isi_one ?Fzq ?zzq ?dzq (ans_tuple ?ezq) ?_; (case Fzq => k_asm); (case dzq => assumption); (case zzq => assumption); (case ezq => assumption); k_whole); intro tk9'; (try rw [show D.isTup _ = false by assumption]); (try dsimp only [D.isSeq, D.isTup, D.isStr])); (try (revert tk9'; intros))) | fail "no"
  k_with "call builtin:isinstance" => first | ((k_here; (with_reducible show wpAny _ _ (call _ [_, Value.type "str"]) _ _ _); k_dflt (first
    | (refine' isi_no ?Fzq ?zzq ?dzq ?ezq ?_; (case Fzq => k_asm); (case ezq => assumption); (case dzq => assumption); (case zzq => assumption); k_whole)
    | (refine' isi_one ?Fzq ?zzq ?dzq (ans_str ?ezq) ?_; (case Fzq => k_asm); (case dzq => assumption); (case zzq => assumption); (case ezq => assumption); k_whole)); intro tk9'; (try dsimp only [D.isSeq, D.isTup, D.isStr])); (try (revert tk9'; intros))) | fail "no"
  k_with "call builtin:len" => first | (k_here; k_dflt (first | (refine' len_cons ?Fzq ?Tzq ?zzq ?_; (case Fzq => k_asm); (case Tzq => k_asm); (case zzq => assumption); k_whole) | (refine' len_nil ?Fzq ?Tzq ?_; (case Fzq => k_asm); (case Tzq => k_asm); k_whole))) | fail "no"
  k_with "SUB" => first | ((intro p9 h9; repeat' (first | exact h9 | exact List.mem_append_left _ h9 | exact List.mem_append_right _ h9 | refine List.mem_cons_of_mem _ ?_)); (try (revert p9 h9; intros))) | fail "no"
  k_with "subscriptTail" => first | (k_here; (with_reducible show wpAny _ _ (subscriptTail _ _ (Value.ref _) (Value.int _ _)) _ _ _); k_dflt (refine' item_led ?Nzq ?szq ?mzq ?azq ?bzq ?czq ?_; (case Nzq => k_asm); (case mzq => assumption); (case szq => walk_at "SUB"); (case azq => decide); (case bzq => decide); (case czq => rfl); k_whole)) | fail "no"
  k_with "eval ListComp" => first | (k_here; lcg_look; k_dflt (refine LCg.ListComp_U (F₀ := by k_asm) (by rfl) (by decide) (by rfl) (by decide) (by rfl) ?_)) | fail "no"
  k_with "compareOp NotEq ref ref" => first | (k_here; (with_reducible show wpAny _ _ (compareOp CmpOp.NotEq (Value.ref _) (Value.ref _)) _ _ _); k_dflt (first | (refine' ne_snoc ?Nzq ?mzq ?bzq ?uzq ?_; (case Nzq => k_asm); (case mzq => k_mem); (case bzq => k_mem); (case uzq => (simp only [units_deeper]; omega)); k_whole) | (refine' ne_nil ?Nzq ?mzq ?bzq ?uzq ?_; (case Nzq => k_asm); (case mzq => k_mem); (case bzq => k_mem); (case uzq => (simp only [units_deeper]; omega)); k_whole))) | fail "no"
  k_with "UPD" => first | first | (focus (refine' Upd.head ?_; rotate_right 1; walk_at "OFF")) | (focus (refine' Upd.tail ?_ ?_; rotate_right 2; k_ne; walk_at "UPD")) | fail "no"
  k_with "OFF" => first | first | assumption | exact List.forall_mem_nil _ | exact zc (by k_ne) (by walk_at "OFF") | fail "no"
  k_with "call builtin:list.append" => first | ((k_here; (with_reducible show wpAny _ _ (call (Value.builtin _) [Value.ref _, _]) _ _ _); k_dflt (refine' append_L ?k1zq ?k2zq ?k3zq ?zzq ?_; (case k1zq => k_asm); (case k2zq => k_asm); (case k3zq => walk_at "UPD"); (case zzq => (rw [sizeLine_eq]; omega)); k_whole); intro h' F' N'; (try k_sweep)); (try (revert h' F' N'; intros))) | fail "no"
  k_with "call builtin:max" => first | ((k_here; (with_reducible show wpAny _ _ (call (Value.builtin _) [Value.ref _]) _ _ _); k_dflt (refine' max_led ?Fzq ?Nzq ?mzq ?izq ?nzq ?hzq ?_; (case Fzq => k_asm); (case Nzq => k_asm); (case mzq => k_mem); (case izq => first | assumption | exact IntsAre.snoc (by assumption)); (case nzq => first | assumption | (exact of_decide_eq_true (by assumption)) | (simp only [List.length_append, List.length_cons]; omega)); (case hzq => assumption); k_whole); intro h' M' t' k' F' N' a'); (try (revert h' M' t' k' F' N' a'; intros))) | fail "no"
  k_with "eval ListComp" => first | (k_here; lcf_look; k_dflt (refine ListComp_T (F₀ := by k_asm) (by with_unfolding_all rfl) (by decide) (by rfl) (by decide) (by rfl) ?_)) | fail "no"
  k_with "OFF" => first | ((with_reducible refine off_append ?_ ?_); walk_at "OFF"; walk_at "OFF") | fail "no"
  k_with "call builtin:max" => first | ((k_here; (with_reducible show wpAny _ _ (call (Value.builtin _) [Value.int _ _, Value.int _ _]) _ _ _); k_dflt (refine' max2_K ?Fzq ?Nzq ?hzq ?_; (case Fzq => k_asm); (case Nzq => k_asm); (case hzq => assumption); k_whole); intro h' k' t' F' N'); (try (revert h' k' t' F' N'; intros))) | fail "no"
  k_with "ALL" => first | first | assumption | ((with_reducible refine off_append ?_ ?_); k_all; k_all) | fail "no"
  k_with "assign Tuple" => first | ((k_here; (with_reducible show wpAny _ _ (assign (Expr.Tuple _ _ _) _ (Value.ref _)) _ _ _); k_dflt (refine' unpackN_ ?k1zq ?k2zq ?k3zq ?k4zq ?k5zq ?k6zq ?_; (case k1zq => k_asm); (case k2zq => k_asm); (case k3zq => exact News.isTup (by k_asm) (by k_mem)); (case k4zq => assumption); (case k5zq => exact rfl); (case k6zq => exact rfl); k_whole); intro h' F' N'; (try k_sweep)); (try (revert h' F' N'; intros))) | fail "no"
  k_with "call builtin:list.pop" => first | ((k_here; (with_reducible show wpAny _ _ (call (Value.builtin _) [Value.ref _]) _ _ _); k_dflt (refine' pop_L ?k1zq ?k2zq ?k3zq ?zzq ?_; (case k1zq => k_asm); (case k2zq => k_asm); (case k3zq => walk_at "UPD"); (case zzq => (rw [sizeLine_eq]; omega)); k_whole); intro h' F' N'; (try k_sweep)); (try (revert h' F' N'; intros))) | fail "no"
  k_with "call builtin:list.extend" => first | ((k_here; (with_reducible show wpAny _ _ (call (Value.builtin _) [Value.ref _, Value.ref _]) _ _ _); k_dflt (refine' extend_L ?k1zq ?k2zq ?k4zq _ rfl ?k3zq ?zzq ?_; (case k1zq => k_asm); (case k2zq => k_asm); (case k4zq => k_mem); (case k3zq => walk_at "UPD"); (case zzq => (rw [sizeLine_eq]; omega)); k_whole); intro h' F' N'; (try k_sweep)); (try (revert h' F' N'; intros))) | fail "no"
  k_with "getMethod ref" => first | (k_here; k_dflt (refine' tabI_meth ?Fzq ?Tzq ?_; (case Fzq => k_asm); (case Tzq => k_asm); k_whole)) | fail "no"
  k_with "call builtin:dict.get" => first | ((k_here; k_dflt (refine' tabI_get ?Fzq ?Tzq ?_; (case Fzq => k_asm); (case Tzq => k_asm); k_whole); intro t9'); (try (revert t9'; intros))) | fail "no"
  trivial

set_option maxHeartbeats 4000000 in
theorem lb_c {w : World} {H : Heap} {p : Program} {loose : List Str} {mg mb : Str → Option Value} (X : (hd.heap_39 w.params).In H) (T : TopRead p loose mg mb H) {wei cal : Str → Option Int} (TW : TabI w H 136 wei) (TC : TabI w H 139 cal)
    {A : Around} {s : Shared} {R : Result → Shared → Prop} {a la : Addr} {v0 : Value} {Z : List (Addr × Obj)} {l : DL}
    (hk : H.StaysIn s.heap) (hh : A.handled = none) (hroom : A.depth + 2 * l.dep + 20 < recursionLimit) (hu : A.units + 20 * l.dep + 80 < cLine)
    (hZ : ∀ q ∈ Z, s.heap.get? q.1 = some q.2) (hT : IsTup s.heap a [v0, .ref la].toArray) (hD : InD Z (.ref la) (.lst l)) (hsz : l.siz + 1 ≤ 8000)
    (hret : ∀ a' t1 t2 n h' tk, (∀ b x, s.heap.get? b = some x → h'.get? b = some x) → s.heap.get? a' = none → h'.get? a' = some (pairO (.int (((D.lst l).lw wei cal).1.getD 0) t1) ((D.lst l).lw wei cal).2 t2 n) → R (.ok (.ret (.ref a'))) { s with heap := h', toks := tk }) :
    codeAny (model PySem.Challenge.rw_qz0087_01.row.prog w) A (.call (.ref 283) ⟨[.ref a], []⟩) R s := by
  refine' call_raw (muts := []) hk ?km X T ?k6 ?k7 ?k8 ?k9 ?kB ?kD ?kh ?c2 ?c3 ?c4
  case km => intro q hq; cases hq
  case k6 => k_is
  case k7 => k_is
  case k8 => omega
  case k9 => exact BindsTo.of_eq rfl
  case kB => exact rfl
  case kD => decide +kernel
  case c2 => exact rfl
  case c3 => exact rfl
  case c4 => exact rfl
  intro g L' h₁ tk cells hg hL st X' T' F N Y l1
  replace F : Fr g L' h₁ (fun y => if y = Str.ofString "block" then some (.ref a) else none) := F
  have hE : cells = [] := by cases Y; rfl
  subst hE
  clear Y
  simp only [List.nil_append, List.append_nil] at N
  simp only [List.map_nil, hideAll] at hg
  subst hg
  clear l1
  k_steps
  refine lw_k (lw_c X T TW TC (Z := Z) _ (.lst l) (Nat.le_refl _) hsz) (by assumption) (by assumption) st hh (by simp only [depth_deeper, D.dep]; omega) (by simp only [units_deeper, D.dep]; omega) (fun q hq => Fr.keep (by assumption) _ _ (hZ q hq)) hD fun a' vo t n h' tk F1 N1 hne ho => ?_
  replace N1 : News s.heap L' h' [(a', ({ cls := .type "tuple", data := .seq [vo, .int ((D.lst l).lw wei cal).2 t].toArray n } : Obj))] := N1
  cases q : ((D.lst l).lw wei cal).1 with
  | none =>
    rw [q] at ho
    have ho : vo = .none := ho
    subst ho
    rw [q, Option.getD_none] at hret
    k_steps
    refine' tw_ret hret ?F ?N ?m
    case F => k_asm
    case N => k_asm
    case m => k_mem
  | some x =>
    rw [q] at ho
    obtain ⟨t9, ho⟩ := ho
    subst ho
    rw [q, Option.getD_some] at hret
    k_steps
    refine' tw_ret hret ?F2 ?N2 ?m2
    case F2 => k_asm
    case N2 => k_asm
    case m2 => k_mem
end
-- LawA
theorem news_of_new {h₀ h h' : Heap} {L : Addr} {m : Str → Option Value} {news Z : List (Addr × Obj)} (F : Fr h₀ L h m) (N : News h₀ L h news) (hZ : ∀ q ∈ Z, h'.get? q.1 = some q.2 ∧ h.get? q.1 = none) : News h₀ L h' Z ∧ ∀ q ∈ Z, ∀ p ∈ news, q.1 ≠ p.1 := by
  refine ⟨fun q hq => ⟨(hZ q hq).1, fun e => ?_, ?_⟩, fun q hq p hp e => ?_⟩
  · obtain ⟨oL, _, _, hL, _⟩ := F.ns
    have := (hZ q hq).2
    rw [e, hL] at this; cases this
  · cases e : h₀.get? q.1 with
    | none => rfl
    | some x => have := F.keep _ _ e; rw [(hZ q hq).2] at this; cases this
  · have := (N p hp).1
    rw [← e, (hZ q hq).2] at this; cases this

section
variable {w : World} {H : Heap} {p : Program} {loose : List Str} {mg mb : Str → Option Value} {A : Around} {E : Value → Shared → Prop} {s : Shared} {h₀ : Heap} {L : Addr} {m : Str → Option Value} {news : List (Addr × Obj)} {cup r : Addr} {o : Obj} {g : Obj → List (Addr × Obj)} {n l : Int} {t1 t2 : Tok} {vs : List Value} {row : List Int} {Q : Value → Shared → Prop}
theorem toss_l {many : Int} {tm : Tok} (X : (hd.heap_39 w.params).In h₀) (T : TopRead p loose mg mb h₀) (F : Fr h₀ L s.heap m) (N : News h₀ L s.heap news) (U : UpdF cup o news g) (ho : o.IsDictOf (strKind PySem.Challenge.rw_qz0087_01.row.prog w) (CupKvs r n l t1 t2)) (hrow : s.heap.IsList r vs.toArray) (hi : IntsAre vs row)
    (hroom : A.depth + 10 < recursionLimit) (hu : A.units + 20 < cLine) (h0 : 0 ≤ n) (h1 : n < 10000) (hrl : row.length ≤ 100) (hm : 0 < many) (hm2 : many < 1000)
    (h : ∀ val h' tk o' t1' tv, 0 ≤ val → val < many → Fr h₀ L h' m → News h₀ L h' (g o') → o'.IsDictOf (strKind PySem.Challenge.rw_qz0087_01.row.prog w) (CupKvs r (n + 1) l t1' t2) → Q (.int val tv) { s with heap := h', toks := tk }) :
    wpAny (model PySem.Challenge.rw_qz0087_01.row.prog w) A (call (.ref 261) [.ref cup, .int many tm]) Q E s := by
  have hc : (cup, o) ∈ news := by obtain ⟨pre, post, rfl, _⟩ := U.split; exact List.mem_append_right _ (.head _)
  refine wpAny_call (toss_c F.keep X T hroom hu (N _ hc).1 (N _ hc).2.2 ho hrow hi h0 h1 hrl hm hm2 fun val h' tk o' t1' tv e hb hc' ho' => ?_)
  have b := tossV_bounds (row := row) (n := n + 1) hm
  have fr := raw_frame F N U hb hc'
  exact h _ _ _ _ _ _ (e ▸ b.1) (e ▸ b.2) fr.1 fr.2 ho'
theorem block_l (X : (hd.heap_39 w.params).In h₀) (T : TopRead p loose mg mb h₀) (F : Fr h₀ L s.heap m) (N : News h₀ L s.heap news) (U : UpdF cup o news g) (ho : o.IsDictOf (strKind PySem.Challenge.rw_qz0087_01.row.prog w) (CupKvs r n l t1 t2)) (hrow : s.heap.IsList r vs.toArray) (hi : IntsAre vs row)
    (hh : A.handled = none) (hroom : A.depth + 50 < recursionLimit) (hu : A.units + 200 < cLine) (h0 : 0 ≤ n) (h1 : n < 1000) (hrl : row.length ≤ 100)
    (h : ∀ v Z h' tk o' n' l' t1' t2', Fr h₀ L h' m → News h₀ L h' (g o') → News h₀ L h' Z → (∀ q ∈ Z, ∀ p ∈ news, q.1 ≠ p.1) → o'.IsDictOf (strKind PySem.Challenge.rw_qz0087_01.row.prog w) (CupKvs r n' l' t1' t2') → n ≤ n' → n' ≤ n + 11 → BlockAt Z v → Q v { s with heap := h', toks := tk }) :
    wpAny (model PySem.Challenge.rw_qz0087_01.row.prog w) A (call (.ref 271) [.ref cup]) Q E s := by
  have hc : (cup, o) ∈ news := by obtain ⟨pre, post, rfl, _⟩ := U.split; exact List.mem_append_right _ (.head _)
  refine wpAny_call (block_c X T hi hrl F.keep hh hroom hu (N _ hc).1 (N _ hc).2.2 ho hrow h0 h1 fun v Z h' tk o' n' l' t1' t2' hb hc' ho' a1 a2 hZ hB => ?_)
  have fr := raw_frame F N U hb hc'
  have nz := news_of_new F N hZ
  exact h _ _ _ _ _ _ _ _ _ fr.1 fr.2 nz.1 nz.2 ho' a1 a2 hB
theorem pair_fr {h h' : Heap} {a : Addr} {ob : Obj} (F : Fr h₀ L h m) (N : News h₀ L h news) (hb : ∀ b x, h.get? b = some x → h'.get? b = some x) (hf : h.get? a = none) (ha : h'.get? a = some ob) : Fr h₀ L h' m ∧ News h₀ L h' ((a, ob) :: news) ∧ ∀ p ∈ news, p.1 ≠ a := by
  have nz := news_of_new (Z := [(a, ob)]) (h' := h') F N (fun q hq => by rw [List.mem_singleton.mp hq]; exact ⟨ha, hf⟩)
  refine ⟨⟨F.ns.at' fun o e => hb _ _ e, fun b x e => hb b x (F.keep b x e), F.above⟩, fun q hq => ?_, fun p hp e => nz.2 _ (.head _) p hp e.symm⟩
  rcases List.mem_cons.mp hq with rfl | hq
  · exact nz.1 _ (.head _)
  · exact ⟨hb _ _ (N q hq).1, (N q hq).2⟩
end

noncomputable def BlockL (Z : List (Addr × Obj)) (v : Value) (l : DL) : Prop := ∃ a t la vs n n2, v = .ref a ∧ (a, ({ cls := .type "tuple", data := .seq [Value.str (Str.ofString "block") t, .ref la].toArray n } : Obj)) ∈ Z ∧ (la, ({ cls := .type "list", data := .seq vs.toArray n2 } : Obj)) ∈ Z ∧ InDs Z vs l ∧ l.dep ≤ 25 ∧ l.siz ≤ 6144
theorem BlockAt.named {Z : List (Addr × Obj)} {v : Value} : BlockAt Z v → ∃ l, BlockL Z v l
  | ⟨a, t, la, vs, n, n2, l, h⟩ => ⟨l, a, t, la, vs, n, n2, h⟩
theorem BlockL.mono {Z Z' : List (Addr × Obj)} (hs : ∀ q ∈ Z, q ∈ Z') {v : Value} {l : DL} : BlockL Z v l → BlockL Z' v l
  | ⟨a, t, la, vs, n, n2, e, h1, h2, h3, h4⟩ => ⟨a, t, la, vs, n, n2, e, hs _ h1, hs _ h2, h3.mono hs, h4⟩
noncomputable def bwA (wei cal : Str → Option Int) (l : DL) : Int := ((D.lst l).lw wei cal).1.getD 0
noncomputable def bwW (wei cal : Str → Option Int) (l : DL) : Int := ((D.lst l).lw wei cal).2
section
variable {w : World} {p : Program} {loose : List Str} {mg mb : Str → Option Value} {A : Around} {E : Value → Shared → Prop} {s : Shared} {h₀ : Heap} {L : Addr} {m : Str → Option Value} {news Z : List (Addr × Obj)} {wei cal : Str → Option Int} {v : Value} {l : DL} {Q : Value → Shared → Prop}
theorem tw_l (X : (hd.heap_39 w.params).In h₀) (T : TopRead p loose mg mb h₀) (TW : TabI w h₀ 136 wei) (TC : TabI w h₀ 139 cal) (hwe : ∀ x i, wei x = some i → 0 ≤ i) (hca : ∀ x i, cal x = some i → 0 ≤ i)
    (F : Fr h₀ L s.heap m) (N : News h₀ L s.heap news) (hB : BlockL Z v l) (hs : ∀ q ∈ Z, q ∈ news) (hh : A.handled = none) (hroom : A.depth + 100 < recursionLimit) (hu : A.units + 700 < cLine)
    (h : ∀ a t1 t2 n h' tk, Fr h₀ L h' m → News h₀ L h' ((a, pairO (.int (bwA wei cal l) t1) (bwW wei cal l) t2 n) :: news) → (∀ p ∈ news, p.1 ≠ a) → Q (.ref a) { s with heap := h', toks := tk }) :
    wpAny (model PySem.Challenge.rw_qz0087_01.row.prog w) A (call (.ref 164) [v]) Q E s := by
  obtain ⟨a, t, la, vs, n, n2, rfl, h1, h2, h3, h4, h5⟩ := hB
  refine wpAny_call (tw_c X T TW TC hwe hca F.keep hh (by omega) (by omega) (fun q hq => (N q (hs q hq)).1) ⟨_, (N _ (hs _ h1)).1, rfl, _, rfl⟩ ⟨_, (N _ (hs _ h2)).1, rfl, _, rfl⟩ h3 (by omega) fun a' t1 t2 n' h' tk hb hf ha => ?_)
  have pf := pair_fr F N hb hf ha
  exact h a' t1 t2 n' h' tk pf.1 pf.2.1 pf.2.2
theorem lb_l (X : (hd.heap_39 w.params).In h₀) (T : TopRead p loose mg mb h₀) (TW : TabI w h₀ 136 wei) (TC : TabI w h₀ 139 cal)
    (F : Fr h₀ L s.heap m) (N : News h₀ L s.heap news) (hB : BlockL Z v l) (hs : ∀ q ∈ Z, q ∈ news) (hh : A.handled = none) (hroom : A.depth + 100 < recursionLimit) (hu : A.units + 700 < cLine)
    (h : ∀ a t1 t2 n h' tk, Fr h₀ L h' m → News h₀ L h' ((a, pairO (.int (bwA wei cal l) t1) (bwW wei cal l) t2 n) :: news) → (∀ p ∈ news, p.1 ≠ a) → Q (.ref a) { s with heap := h', toks := tk }) :
    wpAny (model PySem.Challenge.rw_qz0087_01.row.prog w) A (call (.ref 283) [v]) Q E s := by
  obtain ⟨a, t, la, vs, n, n2, rfl, h1, h2, h3, h4, h5⟩ := hB
  refine wpAny_call (lb_c X T TW TC F.keep hh (by omega) (by omega) (fun q hq => (N q (hs q hq)).1) ⟨_, (N _ (hs _ h1)).1, rfl, _, rfl⟩ (.lst h2 h3) (by omega) fun a' t1 t2 n' h' tk hb hf ha => ?_)
  have pf := pair_fr F N hb hf ha
  exact h a' t1 t2 n' h' tk pf.1 pf.2.1 pf.2.2
end
-- Exc1
open PySem.Calls PySem.Spec PySem.Builtin PySem.Builtin.ObjectAttr PySem.Builtin.Getset_descriptor
theorem freed_dict {c : Value} {d d' : Option Addr} {oda : Data} {osl : Array (Option Value)} (h : (⟨c, d, oda, osl⟩ : Obj).isFreed = false) : (⟨c, d', oda, osl⟩ : Obj).isFreed = false := by cases oda <;> first | rfl | exact h
section
variable {prog : Program} {w : World} {A : Around} {E : Value → Shared → Prop} {R : Result → Shared → Prop} {s : Shared} {K : Frag} {x C L : Addr} {h₀ : Heap} {m : Str → Option Value} {news : List (Addr × Obj)} {g : Obj → List (Addr × Obj)} {ox : Obj} {od : Option Obj} {cd : ClassData} {name : Str} {tk : Tok} {v : Value}
theorem osa_openE (X : K.In s.heap) (I : InstAt s.heap x ox C od) (hc : clsIn K C = some cd) (ne : cd.mro.isEmpty = false) (hob : cd.mro.contains (.type "object") = true) (hp : refuseLoop (.ref x) "__setattr__" cd.mro = pure ()) (ht : takerIn K C name = some none)
    (h : ∀ b, wpAny (model prog w) A.in1 (storeInOwnDict (.ref x) (.ref C) (.str name tk) name v b)
      (fun fin s' => match fin with | .done f => R (.ok f) s' | .again c' => c'.quiet = true ∧ codeAny (model prog w) A c' R s') (fun e s' => R (.error e) s') s) :
    codeAny (model prog w) A (.call (.builtin "object.__setattr__") ⟨[.ref x, .str name tk, v], []⟩) R s := by
  have SF := PySem.F.store_object
  have sub : Looks (model prog w) s.heap (isInstance (.ref x) (.type "object")) true := I.type.andThen (looks_mroIn X (by unfold mroIn; rw [hc, Option.bind_some, if_neg (by rw [ne]; decide), hob]))
  refine codeAny_call_builtin SF.slot.plain SF.entry (@check_slot (model prog w) _ _ s "object.__setattr__" "object" "__setattr__" (.ref x) [.str name tk, v] [] _ SF.kind SF.split sub (SF.args (.ref x) (.str name tk) v) ?_)
  obtain ⟨attr, ha, hr⟩ := Option.bind_eq_some_iff.mp ht
  have hm : Looks (model prog w) s.heap (mroOf (.ref C)) cd.mro := (looks_clsIn X hc).andThen .now
  have L3 : Looks (model prog w) s.heap (storeTaker? attr) none := by
    cases attr with
    | none => exact .now
    | some a =>
      obtain ⟨b, hb, e⟩ := Option.map_eq_some_iff.mp hr
      refine (looks_takesIn X hb).andThen ?_
      cases b
      · exact .now
      · cases e
  rw [osa_eq, refuse_eq]
  refine wpAny_bind (wpAny_bind (I.type.here (wpAny_bind (hm.here ?_))))
  rw [hp]
  refine wpAny_pure (wpAny_bind (I.type.here (wpAny_bind ((looks_findIn X ha).here (wpAny_bind (L3.here ?_))))))
  exact h _
end
section
variable {prog : Program} {w : World} {A : Around} {E : Value → Shared → Prop} {R : Result → Shared → Prop} {s : Shared} {K : Frag} {x C L dx : Addr} {h₀ : Heap} {m : Str → Option Value} {news news' : List (Addr × Obj)} {g : Obj → List (Addr × Obj)} {ox : Obj} {od : Option Obj} {cd : ClassData} {name : Str} {tk : Tok} {v : Value} {es es' : List DictEntry} {n n' : Nat}

theorem set_dictE {Q : Unit → Shared → Prop} (F : Fr h₀ L s.heap m) (X₀ : K.In h₀) (N : News h₀ L s.heap news) (I : InstAt s.heap x ox C (some (dictOf es n))) (hd : ox.dict = some dx)
    (hs : findIn K (.ref C) "__setattr__" = some (some (.builtin "object.__setattr__"))) (hc : clsIn K C = some cd) (ne : cd.mro.isEmpty = false) (hob : cd.mro.contains (.type "object") = true) (hp : refuseLoop (.ref x) "__setattr__" cd.mro = pure ()) (hD : cd.hasDict = true) (ht : takerIn K C name = some none) (hl : (getL name es).isSome = true)
    (e : (putL name (PyData.keyHash w.params name) (.str name (s.toks + 1)) v es, putN name es n) = (es', n')) (U : Upd dx (dictOf es n) (dictOf es' n') news news') (hz : es'.length ≤ 1000)
    (h : ∀ h', Fr h₀ L h' m → News h₀ L h' news' → Q () { s with heap := h', toks := s.toks + 2 }) :
    wpAny (model prog w) A (setAttr (.ref x) name v) Q E s := by
  obtain ⟨pre, post, rfl, rfl, a, b⟩ := U.split
  obtain ⟨e1, e2⟩ := Prod.mk.inj e
  have X : K.In s.heap := X₀.keeps F.keep
  have hL : (lookIn name (dictOf es n)).isSome = true := by rw [lookIn_dict]; exact hl
  refine set_plain X I hs (osa_openE (s := { s with toks := s.toks + 1 }) X I hc ne hob hp ht fun _ => ?_)
  obtain ⟨U1, U2⟩ := news_upd (f := Obj.putName name (PyData.keyHash w.params name) (.str name (s.toks + 1)) v) F N a b (by rw [putName_dict, e1, e2]) rfl
  have D : s.heap.get? dx = some (dictOf es n) := (N (dx, dictOf es n) (by simp)).1
  have D' := (U2 (dx, dictOf es' n') (by simp)).1
  obtain ⟨hx, hcl, hn, -⟩ := I
  obtain ⟨oc, odi, oda, osl⟩ := ox
  dsimp only at hcl hd
  subst hcl hd
  refine wpAny_bind (wpAny_pure (wpAny_bind (wpAny_bind (wpAny_loadPart hx (wpAny_bind (looks_clsIn X hc _ _ _ _ (fun _ _ e => e) ?_))))))
  rw [hD]
  refine wpAny_pure (a := some dx) (wpAny_bind (wpAny_pure (wpAny_bind ?_)))
  unfold nsSet
  refine wpAny_bind (wpAny_bind (wpAny_askSetting (wpAny_pure (wpAny_bind (wpAny_mkText (wpAny_bind (wpAny_loadPart D ?_)))))))
  have c : (!es.toArray.any (·.key.isStr name) && es.toArray.any (·.refKey)) = false := by
    rw [← Array.any_toList, ← Array.any_toList]
    unfold lookIn at hL
    dsimp only at hL
    split at hL
    · rename_i en he
      rw [List.any_eq_true.mpr ⟨en, List.mem_of_find?_eq_some he, List.find?_some he⟩]; rfl
    · split at hL
      · cases hL
      · rename_i z; rw [Bool.not_eq_true] at z; rw [z, Bool.and_false]
  dsimp only
  rw [aRefKeyMayBeTheName_at, c]
  refine wpAny_updatePart D ?_
  refine wpAny_bind (wpAny_lookBehind D' (pastItsLine_dict (by rw [List.size_toArray, sizeLine_eq]; omega)) ?_)
  exact wpAny_pure (h _ U1 U2)

theorem set_newE {Q : Unit → Shared → Prop} (F : Fr h₀ L s.heap m) (X₀ : K.In h₀) (N : News h₀ L s.heap news) (I : InstAt s.heap x ox C none) (hdn : ox.dict = none)
    (hs : findIn K (.ref C) "__setattr__" = some (some (.builtin "object.__setattr__"))) (hc : clsIn K C = some cd) (ne : cd.mro.isEmpty = false) (hob : cd.mro.contains (.type "object") = true) (hp : refuseLoop (.ref x) "__setattr__" cd.mro = pure ()) (hD : cd.hasDict = true) (ht : takerIn K C name = some none)
    (U : Upd x ox { ox with dict := some s.heap.objs.size } news news')
    (h : ∀ d h', d = s.heap.objs.size → Fr h₀ L h' m → News h₀ L h' ((d, dictOf [⟨PyData.keyHash w.params name, .str name (s.toks + 1), v⟩] 1) :: news') → (∀ p ∈ news, p.1 < d) → Q () { s with heap := h', toks := s.toks + 2 }) :
    wpAny (model prog w) A (setAttr (.ref x) name v) Q E s := by
  obtain ⟨pre, post, rfl, rfl, a, b⟩ := U.split
  have X : K.In s.heap := X₀.keeps F.keep
  refine set_plain X I hs (osa_openE (s := { s with toks := s.toks + 1 }) X I hc ne hob hp ht fun _ => ?_)
  obtain ⟨hx, hcl, hn, -⟩ := I
  obtain ⟨oc, odi, oda, osl⟩ := ox
  dsimp only at hcl hdn
  subst hcl hdn
  have F1 := F.push { cls := .type "dict", data := .dict #[] }
  have N1 := News.push F N { cls := .type "dict", data := .dict #[] }
  have lt : ∀ p ∈ pre ++ (x, (⟨.ref C, none, oda, osl⟩ : Obj)) :: post, p.1 < s.heap.objs.size := fun p hp => Heap.lt_size (N p hp).1
  have nx : s.heap.objs.size ≠ x := Nat.ne_of_gt (lt (x, ⟨.ref C, none, oda, osl⟩) (List.mem_append_right _ (.head _)))
  have hf : (⟨.ref C, some s.heap.objs.size, oda, osl⟩ : Obj).isFreed = false := freed_dict (Heap.get?_some_iff.mp hx).2
  obtain ⟨F2, N2⟩ := news_upd (pre := (s.heap.objs.size, { cls := .type "dict", data := .dict #[] }) :: pre) (f := fun o => { o with dict := some s.heap.objs.size }) (o := (⟨.ref C, none, oda, osl⟩ : Obj)) (o' := (⟨.ref C, some s.heap.objs.size, oda, osl⟩ : Obj)) F1 N1 (fun p hp => by
    rcases List.mem_cons.mp hp with rfl | hp
    · exact nx
    · exact a p hp) b rfl hf
  obtain ⟨F3, N3⟩ := news_upd (pre := []) (f := Obj.putName name (PyData.keyHash w.params name) (.str name (s.toks + 1)) v) (o := dictOf [] 0) (o' := dictOf [⟨PyData.keyHash w.params name, .str name (s.toks + 1), v⟩] 1) F2 N2 (fun _ hp => nomatch hp) (fun p hp => by
    rcases List.mem_append.mp hp with hp | hp
    · exact Nat.ne_of_lt (lt p (List.mem_append_left _ hp))
    · rcases List.mem_cons.mp hp with rfl | hp
      · exact nx.symm
      · exact Nat.ne_of_lt (lt p (List.mem_append_right _ (.tail _ hp)))) (by rw [putName_dict]; rfl) rfl
  have D := (N2 (s.heap.objs.size, dictOf [] 0) (.head _)).1
  dsimp only at D
  have D' := (N3 (s.heap.objs.size, dictOf [⟨PyData.keyHash w.params name, .str name (s.toks + 1), v⟩] 1) (.head _)).1
  dsimp only at D'
  have body : wpAny (model prog w) A.in1 (instanceDict x true) (fun od s' => od = some s.heap.objs.size ∧ s' = { s with heap := (s.heap.push { cls := .type "dict", data := .dict #[] }).update x (fun o => { o with dict := some s.heap.objs.size }), toks := s.toks + 1 }) (fun e s' => E e s') { s with toks := s.toks + 1 } := by
    unfold instanceDict
    refine wpAny_bind (wpAny_loadPart hx ?_)
    dsimp only
    refine wpAny_bind (looks_clsIn X hc _ _ _ _ (fun _ _ e => e) ?_)
    rw [hD]
    split
    · rename_i q; cases q
    split
    · rename_i q; exact absurd (show false = true from q) Bool.false_ne_true
    split
    · exact absurd hn Bool.false_ne_true
    · refine wpAny_bind (wpAny_alloc (wpAny_bind (wpAny_update (Heap.get?_push_of_some _ hx) (wpAny_pure ?_)))); exact ⟨rfl, rfl⟩
  refine wpAny_bind (wpAny_pure (wpAny_bind (wpAny_mono body (fun od s' hod => ?_) fun _ _ z => z)))
  obtain ⟨rfl, rfl⟩ := hod
  refine wpAny_bind (wpAny_pure (wpAny_bind ?_))
  unfold nsSet
  refine wpAny_bind (wpAny_bind (wpAny_askSetting (wpAny_pure (wpAny_bind (wpAny_mkText (wpAny_bind (wpAny_loadPart D ?_)))))))
  dsimp only
  rw [show aRefKeyMayBeTheName name [].toArray = false from by rw [aRefKeyMayBeTheName_at]; simp]
  refine wpAny_updatePart D ?_
  refine wpAny_bind (wpAny_lookBehind D' (pastItsLine_dict (by rw [List.size_toArray, sizeLine_eq, List.length_cons, List.length_nil]; omega)) ?_)
  exact wpAny_pure (h _ _ rfl F3 N3 lt)
end
-- Exc2
section
variable {prog : Program} {w : World} {A : Around} {E : Value → Shared → Prop} {s : Shared} {K : Frag} {e C L : Addr} {h₀ : Heap} {m : Str → Option Value} {news news' : List (Addr × Obj)} {od : Option Obj} {odi : Option Addr} {osl : Array (Option Value)} {vs : Array Value} {v : Value}
theorem init_E {Q : Value → Shared → Prop} (F : Fr h₀ L s.heap m) (X₀ : K.In h₀) (N : News h₀ L s.heap news) (hsub : mroIn K C (.type "Exception") = some true) (hsz : 0 < vs.size)
    (U : Upd e ⟨.ref C, odi, .fields vs, osl⟩ ⟨.ref C, odi, .fields (vs.setIfInBounds 0 (.ref s.heap.objs.size)), osl⟩ news news')
    (h : ∀ t h', t = s.heap.objs.size → Fr h₀ L h' m → News h₀ L h' ((t, { cls := .type "tuple", data := .seq [v].toArray }) :: news') → (∀ p ∈ news, p.1 < t) → Q .none { s with heap := h' }) :
    wpAny (model prog w) A (call (.builtin "Exception.__init__") [.ref e, v]) Q E s := by
  obtain ⟨pre, post, rfl, rfl, a, b⟩ := U.split
  have FB := PySem.F.excBase_Exception
  have X : K.In s.heap := X₀.keeps F.keep
  have he := (N (e, ⟨.ref C, odi, .fields vs, osl⟩) (List.mem_append_right _ (.head _))).1
  dsimp only at he
  have F1 := F.push { cls := .type "tuple", data := .seq [v].toArray }
  have N1 := News.push F N { cls := .type "tuple", data := .seq [v].toArray }
  have lt : ∀ p ∈ pre ++ (e, (⟨.ref C, odi, .fields vs, osl⟩ : Obj)) :: post, p.1 < s.heap.objs.size := fun p hp => Heap.lt_size (N p hp).1
  have nx : s.heap.objs.size ≠ e := Nat.ne_of_gt (lt (e, ⟨.ref C, odi, .fields vs, osl⟩) (List.mem_append_right _ (.head _)))
  have L0 : Looks (model prog w) s.heap (isInstance (.ref e) (.type "Exception")) true := by
    intro A Q E s' k q
    unfold isInstance typeOf
    refine wpAny_bind (wpAny_bind (wpAny_loadPart (k _ _ he) ?_))
    exact wpAny_pure ((looks_mroIn X hsub) _ _ _ _ k q)
  refine wpAny_call (codeAny_call_builtin FB.init.plain FB.initEntry ?_)
  have hshort := FB.noStar
  simp only [checkBuiltinCall, FB.initKind, FB.initSplit, FB.initRow]
  refine wpAny_bind (L0.here ?_)
  obtain ⟨F2, N2⟩ := news_upd (pre := (s.heap.objs.size, { cls := .type "tuple", data := .seq [v].toArray }) :: pre) (f := Obj.mapFields (·.setIfInBounds 0 (.ref s.heap.objs.size))) (o := (⟨.ref C, odi, .fields vs, osl⟩ : Obj)) (o' := (⟨.ref C, odi, .fields (vs.setIfInBounds 0 (.ref s.heap.objs.size)), osl⟩ : Obj)) F1 N1 (fun p hp => by
    rcases List.mem_cons.mp hp with rfl | hp
    · exact nx
    · exact a p hp) b rfl rfl
  have hC : ∃ o cd, s.heap.get? C = some o ∧ o.data = .cls cd := by
    unfold mroIn clsIn at hsub
    cases q : K.lookup C with
    | none => rw [q] at hsub; cases hsub
    | some o =>
      obtain ⟨oc, odd, oda, osl⟩ := o
      rw [q] at hsub
      cases oda <;> first | cases hsub; done | exact ⟨_, _, X _ _ q, rfl⟩
  obtain ⟨oC, cdC, hC, hCd⟩ := hC
  obtain ⟨hh, g, dr, t, os⟩ := s
  have hpu := Heap.get?_push_of_some { cls := .type "tuple", data := .seq [v].toArray } he
  repeat (first | with_reducible refine wpAny_loadPart_at he ?_ | (with_reducible refine wpAny_load hC ?_; rw [hCd]) | wp_step)
  rw [Array.getElem?_eq_getElem hsz]
  refine wpAny_pure ?_
  have fin : ∀ s9 : Shared, s9 = ⟨(hh.push { cls := .type "tuple", data := .seq [v].toArray }).update e (Obj.mapFields (·.setIfInBounds 0 (.ref hh.objs.size))), g, dr, t, os⟩ → Q .none s9 := fun s9 e9 => e9 ▸ h _ _ rfl F2 N2 lt
  refine wpAny_bind (wpAny_bind (wpAny_load hpu ?_))
  dsimp only
  rw [if_pos hsz]
  refine wpAny_update hpu ?_
  cases vs[0] <;> dsimp only <;> first | exact wpAny_pure (wpAny_pure (fin _ rfl)) | exact wpAny_letGo (wpAny_pure (fin _ rfl)) | exact wpAny_bind (wpAny_letGo (wpAny_pure (wpAny_pure (fin _ rfl)))) 
end
-- Exc3
example : True := by
  k_with_none
  k_with "MEM" => with_reducible first | exact List.Mem.head _ | exact ym1 | exact ym2 | exact ym3 | exact ym4 | exact ym5 | exact ym6 | exact ym7 | exact ym8 | exact ym9 | exact ym10 | exact ym11 | exact ym12 | exact ym13 | exact ym14 | exact ym15 | fail "no"
  k_with "NE" => (refine neN ?_; (try dsimp only); first | assumption | (refine Ne.symm ?_; assumption) | exact Nat.ne_of_lt (by assumption) | exact Nat.ne_of_gt (by assumption) | (with_reducible first | exact Nat.ne_of_lt (zl1 (by assumption) (by decide)) | exact Nat.ne_of_gt (zl1 (by assumption) (by decide)) | exact za (by decide) | exact zb (by decide) | exact (zb (by decide)).symm | exact ze (by decide) | exact (ze (by decide)).symm | (refine Nat.ne_of_lt ?_; (repeat (first | (rename _ < _ ∧ _ => z8; revert z8; (repeat (first | exact And.left | refine cjt ?_)); done) | (rename _ < _ ∧ _ => z8; clear z8))); done) | (refine Nat.ne_of_gt ?_; (repeat (first | (rename _ < _ ∧ _ => z8; revert z8; (repeat (first | exact And.left | refine cjt ?_)); done) | (rename _ < _ ∧ _ => z8; clear z8))); done)) | ((repeat (first | exact neBy (by assumption) (by k_mem) | (rename ∀ p : Addr × Obj, p ∈ _ → p.1 ≠ _ => hz9; clear hz9))); done) | (refine Ne.symm ?_; (repeat (first | exact neBy (by assumption) (by k_mem) | (rename ∀ p : Addr × Obj, p ∈ _ → p.1 ≠ _ => hz9; clear hz9))); done) | omega)
  k_with "OM" => with_reducible first | assumption | exact zl0 (by assumption) | exact zl1 (by assumption) (by decide +kernel) | exact zl2 (by assumption) (by decide +kernel) | decide +kernel | exact Nat.le_trans (by assumption) (by decide +kernel) | exact zl4 (by assumption) (by decide +kernel) | exact Nat.lt_of_lt_of_le (by assumption) (by decide +kernel) | exact Nat.lt_of_le_of_lt (by assumption) (by decide +kernel) | exact Int.le_trans (by assumption) (by decide +kernel) | exact zl5 (by assumption) (by decide +kernel) | exact Int.lt_of_lt_of_le (by assumption) (by decide +kernel) | exact Int.lt_of_le_of_lt (by assumption) (by decide +kernel) | fail "no"
  k_with "ALL" => first | exact List.forall_mem_nil _ | exact zc (by k_ne) (by k_all) | fail "no"
  trivial
theorem InstAt.exc_none {h₀ h : Heap} {L x C : Addr} {news : List (Addr × Obj)} {vs : Array Value} {sl : Array (Option Value)} (N : News h₀ L h news) (h1 : (x, (⟨.ref C, none, .fields vs, sl⟩ : Obj)) ∈ news) :
    W.InstAt h x ⟨.ref C, none, .fields vs, sl⟩ C none := ⟨(N _ h1).1, rfl, rfl, trivial⟩
theorem InstAt.exc_some {h₀ h : Heap} {L x C dx : Addr} {news : List (Addr × Obj)} {od : Obj} {vs : Array Value} {sl : Array (Option Value)} (N : News h₀ L h news) (h1 : (x, (⟨.ref C, some dx, .fields vs, sl⟩ : Obj)) ∈ news) (h2 : (dx, od) ∈ news) :
    W.InstAt h x ⟨.ref C, some dx, .fields vs, sl⟩ C (some od) := ⟨(N _ h1).1, rfl, rfl, (N _ h2).1⟩
theorem refuse_die (x : Addr) : refuseLoop (.ref x) "__setattr__" [.ref 51, .ref 31, .type "Exception", .type "BaseException", .type "object"] = pure () := by
  rw [refuseLoop_ref, refuseLoop_ref]; exact PySem.F.store_Exception.passes _

example : True := by
  k_with "call builtin:Exception.__init__" => first | ((k_here; k_dflt (refine' init_E ?Fzq ?Xzq ?Nzq ?szq ?zzq ?Uzq ?_; (case Fzq => k_asm); (case Xzq => k_asm); (case Nzq => k_asm); (case Uzq => k_upd); (case szq => k_is); (case zzq => assumption); k_whole); intro t' h' et' F' N' l1; (try k_lt l1)); (try (revert t' h' et' F' N' l1; intros))) | fail "no"
  trivial
theorem hid_new {h g : Heap} {l : List Addr} (hg : g = hideAll h l) {b : Addr} (e : g.get? b = none) (hb : b ∉ l) : h.get? b = none := by
  cases q : h.get? b with
  | none => rfl
  | some x => have : g.get? b = some x := by rw [hg]; exact hideAll_get _ q hb
              rw [e] at this; cases this
theorem mem_sing {e b : Addr} {o : Obj} (h : b ≠ e) : b ∉ ([(e, o)].map (·.1) : List Addr) := fun hm => h (by simpa using hm)
theorem meta_Exception : typeOf (.type "Exception") = pure (.type "type") := by kernel_rfl
example : True := by
  k_with "getMethod type:Exception" => first | (k_here; refine' method_type ?Fzq ?Xzq ?mzq (by decide +kernel) ?ezq ?hzq ?_; (case Fzq => k_asm); (case Xzq => k_asm); (case mzq => exact meta_Exception); (case ezq => k_dflt k_is); (case hzq => k_handed)) | fail "no"
  k_with "setAttr ref" => first | ((k_here; k_dflt (refine' set_newE ?Fzq ?Xzq ?Nzq ?Izq ?dnzq ?szq ?czq ?nezq ?obzq ?rfzq ?hDzq ?tzq ?Uzq ?_; (case Fzq => k_asm); (case Xzq => k_asm); (case Nzq => k_asm); (case Uzq => k_upd); (case Izq => (refine' InstAt.exc_none ?N9zq ?h9zq; (case N9zq => k_asm); (case h9zq => k_mem))); (case dnzq => exact rfl); (case szq => k_is); (case czq => k_is); (case nezq => exact rfl); (case obzq => exact rfl); (case rfzq => exact refuse_die _); (case hDzq => exact rfl); (case tzq => k_is); k_whole); intro d' h' ed' F' N' l1; (try k_lt l1)); (try (revert d' h' ed' F' N' l1; intros))) | fail "no"
  trivial

set_option maxHeartbeats 8000000 in
theorem perr_c {w : World} {A : Around} {s : Shared} {H : Heap} {p : Program} {loose : List Str} {mg mb : Str → Option Value} {R : Result → Shared → Prop} {e : Addr} {vs : Array Value} {sl : Array (Option Value)} {v : Value}
    (hk : H.StaysIn s.heap) (X : (hd.heap_39 w.params).In H) (T : TopRead p loose mg mb H) (hroom : A.depth + 10 < recursionLimit) (hu : A.units + 20 < cLine)
    (hc : s.heap.get? e = some ⟨.ref 51, none, .fields vs, sl⟩) (hH : H.get? e = none) (hz : 0 < vs.size)
    (hret : ∀ de t' tk1 h' tk, (∀ b x, b ≠ e → s.heap.get? b = some x → h'.get? b = some x) → s.heap.get? de = none → de ≠ e → h'.get? e = some ⟨.ref 51, some de, .fields (vs.setIfInBounds 0 (.ref t')), sl⟩ → h'.get? de = some (dictOf [⟨PyData.keyHash w.params "text", .str "text" tk1, v⟩] 1) →
      R (.ok (.ret .none)) { s with heap := h', toks := tk }) :
    codeAny (model PySem.Challenge.rw_qz0087_01.row.prog w) A (.call (.ref 28) ⟨[.ref e, v], []⟩) R s := by
  revert X; k_fill; intro X
  refine' call_raw (muts := [(e, ⟨.ref 51, none, .fields vs, sl⟩)]) hk ?km X T ?k6 ?k7 ?k8 ?k9 ?kB ?kD ?kh ?c2 ?c3 ?c4
  case km => intro q hq; rcases List.mem_singleton.mp hq with rfl; exact ⟨hc, hH⟩
  case k6 => k_is
  case k7 => k_is
  case k8 => omega
  case k9 => exact BindsTo.of_eq rfl
  case kB => exact rfl
  case kD => decide +kernel
  case c2 => exact rfl
  case c3 => exact rfl
  case c4 => exact rfl
  intro g L' h₁ tk cells hg hL st X' T' F N Y l1

  cases Y
  simp only [List.nil_append] at N
  k_lt l1
  replace F : Fr g L' h₁ (fun y => if y = Str.ofString "text" then some v else if y = Str.ofString "self" then some (.ref e) else none) := F
  k_steps
  rename_i t1 H1 E1 F1 N1 lt1 d1 H2 E2 F2 N2 lt2
  have eN := News.get N2 (a := e) (by k_mem)
  have dN := News.get N2 (a := d1) (by k_mem)
  have dF := News.fresh N2 (a := d1) (by k_mem)
  have dne : d1 ≠ e := by k_ne
  exact hret d1 _ _ H2 _ (raw_back1 hg F2) (hid_new hg dF (mem_sing dne)) dne (E2 ▸ eN) dN

example : True := by
  k_with "setAttr ref" => first | ((k_here; k_dflt (refine' set_dictE ?Fzq ?Xzq ?Nzq ?Izq ?dnzq ?szq ?czq ?nezq ?obzq ?rfzq ?hDzq ?tzq ?k10zq ?k11zq ?k12zq ?k13zq ?_; (case Fzq => k_asm); (case Xzq => k_asm); (case Nzq => k_asm); (case Izq => (refine' InstAt.exc_some ?N9zq ?h9zq ?h8zq; (case N9zq => k_asm); (case h9zq => k_mem); (case h8zq => k_mem))); (case dnzq => exact rfl); (case szq => k_is); (case czq => k_is); (case nezq => exact rfl); (case obzq => exact rfl); (case rfzq => exact refuse_die _); (case hDzq => exact rfl); (case tzq => k_is); (case k10zq => k_get); (case k11zq => k_put); (case k12zq => k_upd); (case k13zq => exact Nat.le_of_ble_eq_true rfl); k_whole); intro h' F' N'); (try (revert h' F' N'; intros))) | fail "no"
  trivial
theorem perr_k {w : World} {A : Around} {E : Value → Shared → Prop} {s : Shared} {h₀ : Heap} {L : Addr} {m : Str → Option Value} {news : List (Addr × Obj)} {g : Obj → List (Addr × Obj)} {p : Program} {loose : List Str} {mg mb : Str → Option Value} {Q : Value → Shared → Prop} {e : Addr} {vs : Array Value} {sl : Array (Option Value)} {v : Value}
    (X : (hd.heap_39 w.params).In h₀) (T : TopRead p loose mg mb h₀) (F : Fr h₀ L s.heap m) (N : News h₀ L s.heap news) (U : UpdF e ⟨.ref 51, none, .fields vs, sl⟩ news g) (hroom : A.depth + 10 < recursionLimit) (hu : A.units + 20 < cLine) (hz : 0 < vs.size)
    (h : ∀ de t' tk1 h' tk, Fr h₀ L h' m → News h₀ L h' ((de, dictOf [⟨PyData.keyHash w.params "text", .str "text" tk1, v⟩] 1) :: g ⟨.ref 51, some de, .fields (vs.setIfInBounds 0 (.ref t')), sl⟩) → (∀ p ∈ news, p.1 ≠ de) → Q .none { s with heap := h', toks := tk }) :
    wpAny (model PySem.Challenge.rw_qz0087_01.row.prog w) A (call (.ref 28) [.ref e, v]) Q E s := by
  have hc : (e, (⟨.ref 51, none, .fields vs, sl⟩ : Obj)) ∈ news := by obtain ⟨pre, post, rfl, _⟩ := U.split; exact List.mem_append_right _ (.head _)
  refine wpAny_call (perr_c F.keep X T hroom hu (N _ hc).1 (N _ hc).2.2 hz fun de t' tk1 h' tk hb hf hne he hd => ?_)
  have fr := raw_frame F N U hb he
  have ne1 : ∀ p ∈ news, p.1 ≠ de := fun p hp q => by have := (N p hp).1; rw [q, hf] at this; cases this
  refine h de t' tk1 h' tk fr.1 (fun q hq => ?_) ne1
  rcases List.mem_cons.mp hq with rfl | hq
  · refine ⟨hd, fun q => ?_, ?_⟩
    · obtain ⟨oL, _, _, hL, _⟩ := F.ns
      replace q : de = L := q
      rw [q, hL] at hf; cases hf
    · cases q : h₀.get? de with
      | none => rfl
      | some x => have := F.keep _ _ q; rw [hf] at this; cases this
  · exact fr.2 q hq
example : True := by
  k_with "call ref" => first | ((k_here; (with_reducible show wpAny _ _ (call (Value.ref 28) _) _ _ _); k_dflt (refine' perr_k ?Xzq ?Tzq ?Fzq ?Nzq ?Uzq ?rzq ?uzq ?zzq ?_; (case Fzq => k_asm); (case Nzq => k_asm); (case Xzq => k_asm); (case Tzq => k_asm); (case Uzq => k_updF); (case rzq => (simp only [depth_deeper]; omega)); (case uzq => (simp only [units_deeper]; omega)); (case zzq => assumption); k_whole); intro de' t' tk1' h' tk' F' N' ne'; (try dsimp only at N'); (try simp only [List.forall_mem_cons, List.not_mem_nil, false_imp_iff, implies_true, and_true] at ne')); (try (revert de' t' tk1' h' tk' F' N' ne'; intros))) | fail "no"
  trivial
set_option maxHeartbeats 8000000 in
theorem die_c {w : World} {A : Around} {s : Shared} {H : Heap} {p : Program} {loose : List Str} {mg mb : Str → Option Value} {R : Result → Shared → Prop} {e : Addr} {vs : Array Value} {sl : Array (Option Value)} {v : Value}
    (hk : H.StaysIn s.heap) (X : (hd.heap_39 w.params).In H) (T : TopRead p loose mg mb H) (hroom : A.depth + 20 < recursionLimit) (hu : A.units + 40 < cLine)
    (hc : s.heap.get? e = some ⟨.ref 51, none, .fields vs, sl⟩) (hH : H.get? e = none) (hz : 0 < vs.size)
    (hret : ∀ de t' tk1 tk2 v1 h' tk, (∀ b x, b ≠ e → s.heap.get? b = some x → h'.get? b = some x) → s.heap.get? de = none → de ≠ e → h'.get? e = some ⟨.ref 51, some de, .fields (vs.setIfInBounds 0 (.ref t')), sl⟩ → h'.get? de = some (dictOf [⟨PyData.keyHash w.params "text", .str "text" tk1, v1⟩, ⟨PyData.keyHash w.params "value", .str "value" tk2, v⟩] 2) →
      R (.ok (.ret .none)) { s with heap := h', toks := tk }) :
    codeAny (model PySem.Challenge.rw_qz0087_01.row.prog w) A (.call (.ref 48) ⟨[.ref e, v], []⟩) R s := by
  revert X; k_fill; intro X
  refine' call_raw (muts := [(e, ⟨.ref 51, none, .fields vs, sl⟩)]) hk ?km X T ?k6 ?k7 ?k8 ?k9 ?kB ?kD ?kh ?c2 ?c3 ?c4
  case km => intro q hq; rcases List.mem_singleton.mp hq with rfl; exact ⟨hc, hH⟩
  case k6 => k_is
  case k7 => k_is
  case k8 => omega
  case k9 => exact BindsTo.of_eq rfl
  case kB => exact rfl
  case kD => decide +kernel
  case c2 => exact rfl
  case c3 => exact rfl
  case c4 => exact rfl
  intro g L' h₁ tk cells hg hL st X' T' F N Y l1

  cases Y
  simp only [List.nil_append] at N
  k_lt l1
  replace F : Fr g L' h₁ (fun y => if y = Str.ofString "value" then some v else if y = Str.ofString "self" then some (.ref e) else none) := F
  k_steps
  rename_i d1 t1 k1 H1 T1 F1 N1 ne1 H2 F2 N2
  have eN := News.get N2 (a := e) (by k_mem)
  have dN := News.get N2 (a := d1) (by k_mem)
  have dF := News.fresh N2 (a := d1) (by k_mem)
  have dne : d1 ≠ e := fun q => ne1 q.symm
  exact hret d1 _ _ _ _ H2 _ (raw_back1 hg F2) (hid_new hg dF (mem_sing dne)) dne eN dN
-- Exc4
section
variable {prog : Program} {w : World} {A : Around} {R : Result → Shared → Prop} {E : Value → Shared → Prop} {h : Heap} {g : Array GenState} {d : Drawn} {t : Nat} {os : OsState}
variable {nm q : Str} {C N : Addr} {bs bm : List Value} {hdct : Bool} {sn : List Str} {sub : List Value} {ab : Bool} {col : Option Bool} {dd : Option Addr} {k0 k1 k2 k3 k5 : Option Value}

theorem check_newM {M : Model} (hB : bm.contains (.type "Exception") = true) {rest : List Value} {Q : Unit → Shared → Prop} (hC : h.get? C = some (excClassObj nm q C N bs bm hdct sn sub ab col dd k0 k1 k2 k3 k5 "Exception.__new__"))
    (hq : Q () ⟨h, g, d, t, os⟩) : wpAny M A (checkBuiltinCall "Exception.__new__" ⟨.ref C :: rest, []⟩) Q E ⟨h, g, d, t, os⟩ := by
  have FB := PySem.F.excBase_Exception
  have hcont : (Value.ref C :: bm).contains (.type "Exception") = true := by rw [List.contains_cons, hB, Bool.or_true]
  have hstar := FB.noStar
  simp only [checkBuiltinCall, FB.newKind, FB.newSplit, FB.newRow]
  repeat (first | refine wpAny_loadPart_at hC ?_ | (refine wpAny_isSubtype_exc hC ?_; rw [hcont]) | refine wpAny_staticBase_exc hC ?_ | refine wpAny_madeBy_exc hC ?_ | simp only [bne_self_eq_false, Bool.false_eq_true, if_false] | wp_step)
  exact hq

theorem exc_newM (hB : bm.contains (.type "Exception") = true) (hA : bm.contains (.type "AttributeError") = false) (hNm : bm.contains (.type "NameError") = false) (hBE : bm.contains (.type "BaseException") = true) {rest : List Value} (hC : h.get? C = some (excClassObj nm q C N bs bm hdct sn sub ab col dd k0 k1 k2 k3 k5 "Exception.__new__"))
    (hq : R (.ok (.ret (.ref (h.objs.size + 1)))) ⟨(h.push { cls := .type "tuple", data := .seq rest.toArray }).push
      { cls := .ref C, data := .fields #[.ref h.objs.size, .none, .none, .none, .bool false, .none] }, g, d, t, os⟩) (hrest : rest.length ≤ sizeLine) :
    codeAny (model prog w) A (.builtin "Exception.__new__" ⟨.ref C :: rest, []⟩) R ⟨h, g, d, t, os⟩ := by
  have FB := PySem.F.excBase_Exception
  have hends := FB.ends
  have hcB : (Value.ref C :: bm).contains (.type "Exception") = true := by rw [List.contains_cons, hB, Bool.or_true]
  have hcBE : (Value.ref C :: bm).contains (.type "BaseException") = true := by rw [List.contains_cons, hBE, Bool.or_true]
  have hcA : (Value.ref C :: bm).contains (.type "AttributeError") = false := by rw [List.contains_cons, hA]; rfl
  have hcN : (Value.ref C :: bm).contains (.type "NameError") = false := by rw [List.contains_cons, hNm]; rfl
  refine codeAny_builtinAt FB.entry ?_
  unfold Builtin.«BaseException.__new__»
  refine PySem.wpAt_bind ?_
  show PySem.wpAt _ _ _ (stack >>= _) _ _ _
  refine PySem.wpAt_bind (PySem.wpAt_stack fun p below => PySem.wpAt_of_wpAny ?_)
  wp_walk
  refine PySem.wpAt_of_wpAny ?_
  rw [FB.owner]
  repeat (first | with_reducible refine wpAny_madeHere_exc FB.canon hC ?_ | with_reducible refine wpAny_loadPart_at hC ?_ | (with_reducible refine wpAny_isSubtype_exc hC ?_; first | rw [hcB] | rw [hcBE] | rw [hcA] | rw [hcN]) | wp_step)
  show R _ _
  rw [Heap.size_push]
  exact hq

theorem type_callM {K : Frag} (hB : bm.contains (.type "Exception") = true) (hA : bm.contains (.type "AttributeError") = false) (hNm : bm.contains (.type "NameError") = false) (hBE : bm.contains (.type "BaseException") = true) {rest : List Value} {fI : Addr} {oI : Obj} {Q : PySem.Fin → Shared → Prop}
    (X : K.In h) (hC : h.get? C = some (excClassObj nm q C N bs bm hdct sn sub ab col dd k0 k1 k2 k3 k5 "Exception.__new__")) (hi : findIn K (.ref C) "__init__" = some (some (.ref fI))) (hfI : h.get? fI = some oI) (hfc : oI.cls = .type "function")
    (hq : ∀ h' e, Heap.MadeExcOf h h' e (.ref C) rest →
      wpAny (model prog w) A (call (.ref fI) (.ref e :: rest)) (fun r s' => r = .none ∧ Q (.done (.ret (.ref e))) s') E ⟨h', g, d, t, os⟩) (hrest : rest.length ≤ sizeLine) :
    wpAny (model prog w) A (Builtin.«type.__call__» ⟨.ref C :: rest, []⟩) Q E ⟨h, g, d, t, os⟩ := by
  have FB := PySem.F.excBase_Exception
  repeat (first | with_reducible refine wpAny_loadPart_at hC ?_ | with_reducible refine wpAny_madeBy_exc hC ?_ | wp_step)
  refine codeAny_call_builtin_code (Code.quiet_builtin _ FB.quiet) (check_newM hB hC ?_)
  refine exc_newM hB hA hNm hBE hC ?_ hrest
  show wpAny _ _ _ _ _ _
  have kp : ∀ b o, h.get? b = some o → ((h.push { cls := .type "tuple", data := .seq rest.toArray }).push { cls := .ref C, data := .fields #[.ref h.objs.size, .none, .none, .none, .bool false, .none] }).get? b = some o :=
    fun b o hb => Heap.get?_push_of_some _ (Heap.get?_push_of_some _ hb)
  have hC₁ := kp _ _ hC
  have hfI₁ := kp _ _ hfI
  have hget : ((h.push { cls := .type "tuple", data := .seq rest.toArray }).push
      { cls := .ref C, data := .fields #[.ref h.objs.size, .none, .none, .none, .bool false, .none] }).get? (h.objs.size + 1) = some
      { cls := .ref C, data := .fields #[.ref h.objs.size, .none, .none, .none, .bool false, .none] } := by heap_get
  have hcC : (Value.ref C :: bm).contains (.ref C) = true := by simp
  unfold isInstance
  repeat (first | with_reducible refine wpAny_loadPart_at hget ?_ | (with_reducible refine wpAny_isSubtype_exc hC₁ ?_; rw [hcC]) | wp_step)
  show wpAny _ _ (typeLookup (.ref C) _) _ _ _
  refine looks_findIn (X.keeps kp) hi _ _ _ _ (fun _ _ e => e) ?_
  refine wpAny_holding (wpAny_bind ?_)
  unfold bindSpecial
  refine wpAny_bind (wpAny_typeOf (T := "function") ⟨_, hfI₁, hfc⟩ ?_)
  rw [if_pos (by decide)]
  refine wpAny_pure (wpAny_bind (wpAny_mono (hq _ (h.objs.size + 1) ⟨kp, Heap.get?_none_of_le (Nat.le_succ _), h.objs.size, hget, Heap.get?_none_of_le (Nat.le_refl _), ?_⟩) (fun r s' hr => ?_) fun _ _ x => x))
  · exact Heap.get?_push_of_some _ (Heap.get?_push_at rfl rfl)
  · obtain ⟨rfl, hQ⟩ := hr
    wp_walk
    exact hQ

theorem call_excM {K : Frag} (hB : bm.contains (.type "Exception") = true) (hA : bm.contains (.type "AttributeError") = false) (hNm : bm.contains (.type "NameError") = false) (hBE : bm.contains (.type "BaseException") = true) {rest : List Value} {fI : Addr} {oI : Obj} {Q : Value → Shared → Prop}
    (X : K.In h) (hC : h.get? C = some (excClassObj nm q C N bs bm hdct sn sub ab col dd k0 k1 k2 k3 k5 "Exception.__new__")) (hi : findIn K (.ref C) "__init__" = some (some (.ref fI))) (hfI : h.get? fI = some oI) (hfc : oI.cls = .type "function")
    (hq : ∀ h' e, Heap.MadeExcOf h h' e (.ref C) rest →
      wpAny (model prog w) (A.under (.builtin "type.__call__" ⟨.ref C :: rest, []⟩)) (call (.ref fI) (.ref e :: rest)) (fun r s' => r = .none ∧ Q (.ref e) s') E ⟨h', g, d, t, os⟩) (hrest : rest.length ≤ sizeLine) :
    wpAny (model prog w) A (call (.ref C) rest) Q E ⟨h, g, d, t, os⟩ := by
  have f1 := tc_lookup
  have f2 := tc_bind (.ref C)
  have hT : (⟨h, g, d, t, os⟩ : Shared).TypeIs (.ref C) "type" := ⟨_, hC, rfl⟩
  refine wpAny_call (codeAny_of_tree ?_)
  show wpAny _ _ (callAny (.ref C) _) _ _ _
  repeat (any_goals (first | assumption | with_reducible refine wpAny_loadPart_at hC ?_ | wp_step))
  refine ⟨rfl, ?_⟩
  refine codeAny_call_builtin_at (Code.quiet_builtin _ (by decide +kernel)) entry_typeCall (wpAny_check_type_call_sub hC (type_callM hB hA hNm hBE X hC hi hfI hfc (fun h' e hm => ?_) hrest))
  exact hq h' e hm
end

theorem call_die {w : World} {A : Around} {E : Value → Shared → Prop} {s : Shared} {h₀ : Heap} {p : Program} {loose : List Str} {mg mb : Str → Option Value} {Q : Value → Shared → Prop} {v : Value}
    (hk : h₀.StaysIn s.heap) (X : (hd.heap_39 w.params).In h₀) (T : TopRead p loose mg mb h₀) (hroom : A.depth + 30 < recursionLimit) (hu : A.units + 60 < cLine)
    (h : ∀ e de t' tk1 tk2 v1 h' tk, (∀ b x, s.heap.get? b = some x → h'.get? b = some x) → s.heap.get? e = none → s.heap.get? de = none → de ≠ e → h'.get? e = some ⟨.ref 51, some de, .fields #[.ref t', .none, .none, .none, .bool false, .none], #[]⟩ →
      h'.get? de = some (dictOf [⟨PyData.keyHash w.params "text", .str "text" tk1, v1⟩, ⟨PyData.keyHash w.params "value", .str "value" tk2, v⟩] 2) → Q (.ref e) { s with heap := h', toks := tk }) :
    wpAny (model PySem.Challenge.rw_qz0087_01.row.prog w) A (call (.ref 51) [v]) Q E s := by
  have X1 := X.keeps hk
  obtain ⟨hh, g, d, t, os⟩ := s
  dsimp only at X1 h hk
  have hC : (hd.heap_39 w.params).lookup 51 = some (excClassObj "Die" "Die" 51 50 [.ref 31] [.ref 31, .type "Exception", .type "BaseException", .type "object"] true [] [] false none none (some (.ref 35)) none (some (.str "Die" 218)) (some (.str "Die" 226)) (some (.bool true)) "Exception.__new__") := rfl
  obtain ⟨oF, hF, hFc⟩ : ∃ o, hh.get? 48 = some o ∧ o.cls = .type "function" := by
    have : ∃ o, (hd.heap_39 w.params).lookup 48 = some o ∧ o.cls = .type "function" := ⟨_, rfl, rfl⟩
    obtain ⟨o, a, b⟩ := this
    exact ⟨o, X1 _ _ a, b⟩
  refine call_excM (K := hd.heap_39 w.params) (by decide) (by decide) (by decide) (by decide) X1 (X1 _ _ hC) rfl hF hFc (fun h' e hm => ?_) (by rw [sizeLine_eq]; show 1 ≤ _; omega)
  obtain ⟨kp, hnew, t0, he, ht0, htup⟩ := hm
  refine wpAny_call (die_c (H := hh) kp X1 (T.keeps hk) ?_ ?_ he hnew (by simp) fun de t' tk1 tk2 v1 h2 tk hb hf hne he2 hd2 => ?_)
  · rw [depth_under_make]; omega
  · rw [units_under_make]; omega
  · exact ⟨rfl, h e de t' tk1 tk2 v1 h2 tk (fun b x hx => hb b x (fun q => by rw [q, hnew] at hx; cases hx) (kp b x hx)) hnew (by
      cases q : hh.get? de with
      | none => rfl
      | some x => have := kp _ _ q; rw [hf] at this; cases this) hne (by simpa using he2) hd2⟩
-- Fly
abbrev frs (l : List Env) : List Addr := l.filterMap (·.frame)
noncomputable def noHeap : Heap := hideAll default []
theorem noHeap_get (b : Addr) : noHeap.get? b = none := by
  refine Heap.get?_none_of_le ?_
  show (hideAll default []).objs.size ≤ b
  rw [hideAll_size]
  exact Nat.zero_le _
abbrev Stk (l : List Env) (h : Heap) : Prop := h.FunFrames noHeap l
noncomputable def St (fs : List Addr) (h h' : Heap) : Prop := ∀ b o, (∀ vs, o.data ≠ .fields vs) → h.get? b = some o → (∃ sl, h'.get? b = some { o with slots := sl }) ∧ (b ∉ fs → h'.get? b = some o)
theorem St.refl (fs : List Addr) (h : Heap) : St fs h h := fun b o _ e => ⟨⟨o.slots, e⟩, fun _ => e⟩
theorem St.trans {fs : List Addr} {h h₁ h₂ : Heap} (x : St fs h h₁) (y : St fs h₁ h₂) : St fs h h₂ := fun b o hn e => by
  obtain ⟨⟨sl, e1⟩, k1⟩ := x b o hn e
  refine ⟨?_, fun hb => (y b o hn (k1 hb)).2 hb⟩
  obtain ⟨⟨sl2, e2⟩, _⟩ := y b { o with slots := sl } hn e1
  exact ⟨sl2, e2⟩
theorem St.mono {fs fs' : List Addr} {h h' : Heap} (x : St fs h h') (hs : ∀ b, b ∈ fs → b ∈ fs') : St fs' h h' := fun b o hn e => ⟨(x b o hn e).1, fun hb => (x b o hn e).2 fun q => hb (hs b q)⟩
theorem St.keep {fs : List Addr} {h h' : Heap} (k : ∀ b o, h.get? b = some o → h'.get? b = some o) : St fs h h' := fun b o _ e => ⟨⟨o.slots, k b o e⟩, fun _ => k b o e⟩
theorem Stk.st {l : List Env} {fs : List Addr} {h h' : Heap} (x : Stk l h) (k : St fs h h') : Stk l h' := x.of_keeps fun b o hb hn => by
  obtain ⟨⟨sl, e⟩, _⟩ := k b o hn hb; exact ⟨_, e, rfl⟩
theorem Stk.mem {l : List Env} {h : Heap} (x : Stk l h) {b : Addr} (hb : b ∈ frs l) : ∃ o, h.get? b = some o ∧ ∀ vs, o.data ≠ .fields vs := (Heap.FunFrames.mem x hb).2

structure Trc (h₀ h : Heap) (fs : List Addr) (e de : Addr) (fl : Value) : Prop where
  keep : ∀ b o, b ∉ fs → h₀.get? b = some o → h.get? b = some o
  slot : ∀ b o, h₀.get? b = some o → ∃ sl, h.get? b = some { o with slots := sl }
  ne : h₀.get? e = none
  ob : ∃ oe vs T oT ts, h.get? e = some oe ∧ oe.cls = .ref 51 ∧ oe.dict = some de ∧ oe.data = .fields vs ∧ vs[1]? = some (.ref T) ∧ h₀.get? T = none ∧ T ≠ e ∧ h.get? T = some oT ∧ oT.data = .fields ts ∧ ts[3]? = some fl

section
variable {M : Model} {A : Around} {E : Value → Shared → Prop} {s : Shared}
theorem entryM {env : Env} {outer : List Env} {L e : Addr} {oe : Obj} {vs : Array Value} {head : Value} {hadNext : Bool} {Q : Unit → Shared → Prop}
    (hfr : A.frames = some (env :: outer)) (hl : Stk (env :: outer) s.heap) (hf : env.frame = some L) (he : s.heap.get? e = some oe) (hd : oe.data = .fields vs) (hsz : 1 < vs.size)
    (h : ∀ h' T oT ts, (∀ b o, b ∉ frs (env :: outer) → b ≠ e → s.heap.get? b = some o → h'.get? b = some o) → (∀ b o, b ≠ e → s.heap.get? b = some o → ∃ sl, h'.get? b = some { o with slots := sl }) →
      h'.get? e = some { oe with data := .fields (vs.setIfInBounds 1 (.ref T)) } → s.heap.get? T = none → T ≠ e → h'.get? T = some oT → oT.data = .fields ts → ts[3]? = some (rawInt L) → Q () { s with heap := h' }) :
    wpAny M A (do let a ← frameOf env; let pl ← entryPlaceOf L hadNext; let b ← EntryCells.newEntry head a .none (rawInt L) .none pl; setField (.ref e) 1 b) Q E s := by
  have hene : e ∉ frs (env :: outer) := fun hm => by
    obtain ⟨o, ho, hnf⟩ := Stk.mem hl hm
    rw [he] at ho; injection ho with ho; subst ho; exact hnf vs hd
  refine wpAny_bind (wpAny_frameOf_fun hfr hl hf fun h₁ hs₁ => ?_)
  refine wpAny_bind (wpAny_entryPlaceOf fun pl hpl => ?_)
  unfold EntryCells.newEntry newFields
  refine wpAny_bind (wpAny_newObj_type ?_ (hpl.sizeOk5 _ _ _ _ _))
  have he₁ : h₁.get? e = some oe := (hs₁.2.1 e hene).trans he
  generalize hob : ({ cls := .type "traceback", dict := none, data := .fields ([head, .ref L, .none, rawInt L, .none] ++ (if pl.isEmpty then List.replicate 6 Value.none else pl)).toArray } : Obj) = ot
  have hotd : ot.data = .fields ([head, .ref L, .none, rawInt L, .none] ++ (if pl.isEmpty then List.replicate 6 Value.none else pl)).toArray := by rw [← hob]
  have hfree : ot.isFreed = false := by rw [← hob]; rfl
  have he₂ := Heap.get?_push_of_some (h := h₁) ot he₁
  refine wpAny_setField he₂ hd hsz ?_
  have hTe : h₁.objs.size ≠ e := Nat.ne_of_gt (Heap.lt_size he₁)
  have hd₃ := Obj.data_mapFields hd (·.setIfInBounds 1 (Value.ref h₁.objs.size))
  have hm : Obj.mapFields (·.setIfInBounds 1 (Value.ref h₁.objs.size)) oe = { oe with data := .fields (vs.setIfInBounds 1 (.ref h₁.objs.size)) } := by
    obtain ⟨oc, odi, oda, osl⟩ := oe
    dsimp only at hd
    subst hd
    rfl
  have he₃ := Heap.get?_update_self (Obj.mapFields (·.setIfInBounds 1 (Value.ref h₁.objs.size))) he₂ (Obj.isFreed_of_fields hd₃)
  have keep : ∀ b o, b ≠ e → h₁.get? b = some o → ((h₁.push ot).update e (Obj.mapFields (·.setIfInBounds 1 (Value.ref h₁.objs.size)))).get? b = some o := fun b o hbe hb => by
    rw [Heap.get?_update_other _ _ (Ne.symm hbe)]
    exact Heap.get?_push_of_some _ hb
  refine h _ h₁.objs.size ot _ (fun b o hb hbe hbo => keep b o hbe ((hs₁.2.1 b hb).trans hbo)) (fun b o hbe hbo => ?_) (hm ▸ he₃) ?_ hTe ((Heap.get?_update_other _ _ (Ne.symm hTe)).trans (Heap.get?_push_size h₁ hfree)) hotd ?_
  · obtain ⟨sl, hs⟩ := hs₁.2.2 b o hbo
    exact ⟨sl, keep b _ hbe hs⟩
  · cases q : s.heap.get? h₁.objs.size with
    | none => rfl
    | some x => have := Heap.lt_size q; rw [hs₁.1] at this; exact absurd this (Nat.lt_irrefl _)
  · first | (simp; done) | (rcases hpl with rfl | ⟨_, _, _, _, _, _, _, rfl⟩ <;> simp)

theorem Trc.there {h₀ h : Heap} {fs : List Addr} {e de : Addr} {fl : Value} (x : Trc h₀ h fs e de fl) : ∃ oe vs, h.get? e = some oe ∧ oe.cls = .ref 51 ∧ oe.dict = some de ∧ oe.data = .fields vs := by
  obtain ⟨_, _, _, oe, vs, _, _, _, a, b, c, d, _⟩ := x; exact ⟨oe, vs, a, b, c, d⟩

theorem leave_first {h₀ : Heap} {env : Env} {outer : List Env} {L e de : Addr} {oe : Obj} {vs : Array Value} {Q : Unit → Shared → Prop}
    (hfr : A.frames = some (env :: outer)) (hl : Stk (env :: outer) s.heap) (hf : env.frame = some L) (he : s.heap.get? e = some oe) (hc : oe.cls = .ref 51) (hdi : oe.dict = some de) (hd : oe.data = .fields vs) (h1 : vs[1]? = some .none)
    (k : ∀ b o, h₀.get? b = some o → s.heap.get? b = some o) (hn : h₀.get? e = none)
    (h : ∀ h', Trc h₀ h' (frs (env :: outer)) e de .none → St (frs (env :: outer)) s.heap h' → Q () { s with heap := h' }) : wpAny M A (leaving env (.ref e)) Q E s := by
  have hsz := (Array.getElem?_eq_some_iff.mp h1).1
  unfold leaving noteFrame
  simp only [hf]
  refine wpAny_bind (wpAny_bind (wpAny_field he hd h1 ?_))
  rw [if_neg (by decide)]
  refine entryM hfr hl hf he hd hsz fun h' T oT ts k1 k2 he' hnT hTe hT hdT h3 => ?_
  have hsz3 : 3 < ts.size := (Array.getElem?_eq_some_iff.mp h3).1
  unfold setFlight
  refine wpAny_bind (wpAny_field he' rfl (x := .ref T) (by simp [hsz]) ?_)
  rw [if_pos (show (Value.ref T != Value.none) = true from by simp)]
  have hmT : Obj.mapFields (·.setIfInBounds 3 ((none : Option Addr).elim Value.none fun f => rawInt f)) oT = { oT with data := .fields (ts.setIfInBounds 3 .none) } := by
    obtain ⟨oc, odi, oda, osl⟩ := oT
    dsimp only at hdT
    subst hdT
    rfl
  have hself := Heap.get?_update_self (h := h') (Obj.mapFields (·.setIfInBounds 3 ((none : Option Addr).elim Value.none fun f => rawInt f))) hT (Obj.isFreed_of_fields (Obj.data_mapFields hdT _))
  have other : ∀ b, b ≠ T → (h'.update T (Obj.mapFields (·.setIfInBounds 3 ((none : Option Addr).elim Value.none fun f => rawInt f)))).get? b = h'.get? b := fun b hb => Heap.get?_update_other _ _ (Ne.symm hb)
  have neT : ∀ b o, s.heap.get? b = some o → b ≠ T := fun b o hb q => by rw [q, hnT] at hb; cases hb
  have ne0 : ∀ b o, h₀.get? b = some o → b ≠ e := fun b o hb q => by rw [q, hn] at hb; cases hb
  refine wpAny_setField hT hdT hsz3 (h _ ⟨fun b o hb hbo => (other b (neT b o (k b o hbo))).trans (k1 b o hb (ne0 b o hbo) (k b o hbo)), fun b o hbo => ?_, hn, ?_⟩ fun b o hnf hbo => ?_)
  · obtain ⟨sl, q⟩ := k2 b o (ne0 b o hbo) (k b o hbo)
    exact ⟨sl, (other b (neT b o (k b o hbo))).trans q⟩
  · exact ⟨_, _, T, _, _, (other e (Ne.symm hTe)).trans he', hc, hdi, rfl, by simp [hsz], (by
      cases q : h₀.get? T with
      | none => rfl
      | some x => have := k _ _ q; rw [hnT] at this; cases this), hTe, hmT ▸ hself, rfl, by simp [hsz3]⟩
  · have nbe : b ≠ e := fun q => by rw [q, he] at hbo; cases hbo; exact hnf _ hd
    obtain ⟨sl, q⟩ := k2 b o nbe hbo
    exact ⟨⟨sl, (other b (neT b o hbo)).trans q⟩, fun hb => (other b (neT b o hbo)).trans (k1 b o hb nbe hbo)⟩

theorem note_on {h₀ : Heap} {env : Env} {outer : List Env} {fs : List Addr} {L e de : Addr} {Q : Unit → Shared → Prop}
    (hfr : A.frames = some (env :: outer)) (hl : Stk (env :: outer) s.heap) (hf : env.frame = some L) (hfs : ∀ b, b ∈ frs (env :: outer) → b ∈ fs) (ht : Trc h₀ s.heap fs e de .none)
    (h : ∀ h', Trc h₀ h' fs e de (rawInt L) → St (frs (env :: outer)) s.heap h' → Q () { s with heap := h' }) : wpAny M A (noteFrame (.ref e) env) Q E s := by
  obtain ⟨q1, q2, q3, oe, vs, T, oT, ts, he, hc, hdi, hd, h1, hnT, hTe, hT, hdT, h3⟩ := ht
  have hsz := (Array.getElem?_eq_some_iff.mp h1).1
  have hsz3 : 3 < ts.size := (Array.getElem?_eq_some_iff.mp h3).1
  unfold noteFrame
  simp only [hf]
  refine wpAny_bind (wpAny_field he hd h1 ?_)
  rw [if_pos (show (Value.ref T != Value.none) = true from by simp)]
  refine wpAny_bind (wpAny_field hT hdT h3 ?_)
  rw [if_neg (show ¬ ((Value.none == rawInt L) = true) from by simp [rawInt])]
  refine wpAny_bind (wpAny_setField hT hdT hsz3 ?_)
  have other : ∀ b, b ≠ T → (s.heap.update T (Obj.mapFields (·.setIfInBounds 3 Value.none))).get? b = s.heap.get? b := fun b hb => Heap.get?_update_other _ _ (Ne.symm hb)
  have noR : ∀ b o, s.heap.get? b = some o → (∀ vs, o.data ≠ .fields vs) → b ≠ T := fun b o hb hnf q => by
    rw [q, hT] at hb; injection hb with hb; subst hb; exact hnf ts hdT
  have noE : ∀ b o, s.heap.get? b = some o → (∀ vs, o.data ≠ .fields vs) → b ≠ e := fun b o hb hnf q => by
    rw [q, he] at hb; injection hb with hb; subst hb; exact hnf vs hd
  refine entryM hfr (hl.of_keeps fun b o hb hnf => ⟨o, (other b (noR b o hb hnf)).trans hb, rfl⟩) hf ((other e (Ne.symm hTe)).trans he) hd hsz fun h' T' oT' ts' k1 k2 he' hnT' hTe' hT' hdT' h3' => ?_
  have ne0 : ∀ b o, h₀.get? b = some o → b ≠ e := fun b o hb q => by rw [q, q3] at hb; cases hb
  have neT : ∀ b o, h₀.get? b = some o → b ≠ T := fun b o hb q => by rw [q, hnT] at hb; cases hb
  refine h h' ⟨fun b o hb hbo => ?_, fun b o hbo => ?_, q3, ?_⟩ fun b o hnf hbo => ?_
  · exact k1 b o (fun q => hb (hfs b q)) (ne0 b o hbo) ((other b (neT b o hbo)).trans (q1 b o hb hbo))
  · obtain ⟨sl, z⟩ := q2 b o hbo
    obtain ⟨sl2, z2⟩ := k2 b _ (ne0 b o hbo) ((other b (neT b o hbo)).trans z)
    exact ⟨sl2, z2⟩
  · refine ⟨_, _, T', oT', ts', he', hc, hdi, rfl, by simp [hsz], ?_, hTe', hT', hdT', h3'⟩
    cases z : h₀.get? T' with
    | none => rfl
    | some x =>
      obtain ⟨sl, z1⟩ := q2 _ _ z
      by_cases hTT : T' = T
      · rw [hTT, hnT] at z; cases z
      · rw [other T' hTT, z1] at hnT'; cases hnT'
  · have z := (other b (noR b o hbo hnf)).trans hbo
    obtain ⟨sl, z2⟩ := k2 b o (noE b o hbo hnf) z
    exact ⟨⟨sl, z2⟩, fun hb => k1 b o hb (noE b o hbo hnf) z⟩

theorem flight {h₀ : Heap} {fs : List Addr} {e de : Addr} {fl : Value} {x : Option Addr} {Q : Unit → Shared → Prop} (ht : Trc h₀ s.heap fs e de fl)
    (h : ∀ h', Trc h₀ h' fs e de (x.elim .none fun f => rawInt f) → St [] s.heap h' → Q () { s with heap := h' }) : wpAny M A (setFlight (.ref e) x) Q E s := by
  obtain ⟨q1, q2, q3, oe, vs, T, oT, ts, he, hc, hdi, hd, h1, hnT, hTe, hT, hdT, h3⟩ := ht
  have hsz3 : 3 < ts.size := (Array.getElem?_eq_some_iff.mp h3).1
  have other : ∀ b, b ≠ T → (s.heap.update T (Obj.mapFields (·.setIfInBounds 3 (x.elim Value.none fun f => rawInt f)))).get? b = s.heap.get? b := fun b hb => Heap.get?_update_other _ _ (Ne.symm hb)
  have noR : ∀ b o, s.heap.get? b = some o → (∀ vs, o.data ≠ .fields vs) → b ≠ T := fun b o hb hnf q => by
    rw [q, hT] at hb; injection hb with hb; subst hb; exact hnf ts hdT
  have neT : ∀ b o, h₀.get? b = some o → b ≠ T := fun b o hb q => by rw [q, hnT] at hb; cases hb
  unfold setFlight
  refine wpAny_bind (wpAny_field he hd h1 ?_)
  rw [if_pos (show (Value.ref T != Value.none) = true from by simp)]
  refine wpAny_setField hT hdT hsz3 (h _ ⟨fun b o hb hbo => (other b (neT b o hbo)).trans (q1 b o hb hbo), fun b o hbo => ?_, q3, ?_⟩ fun b o hnf hbo => ⟨⟨o.slots, (other b (noR b o hbo hnf)).trans hbo⟩, fun _ => (other b (noR b o hbo hnf)).trans hbo⟩)
  · obtain ⟨sl, z⟩ := q2 b o hbo
    exact ⟨sl, (other b (neT b o hbo)).trans z⟩
  · exact ⟨oe, vs, T, _, _, (other e (Ne.symm hTe)).trans he, hc, hdi, hd, h1, hnT, hTe, Heap.get?_update_self _ hT (Obj.isFreed_of_fields (Obj.data_mapFields hdT _)), Obj.data_mapFields hdT _, by simp [hsz3]⟩

theorem note_again {h₀ : Heap} {env : Env} {fs : List Addr} {L e de : Addr} {Q : Unit → Shared → Prop} (hf : env.frame = some L) (ht : Trc h₀ s.heap fs e de (rawInt L)) (h : Q () s) : wpAny M A (noteFrame (.ref e) env) Q E s := by
  obtain ⟨q1, q2, q3, oe, vs, T, oT, ts, he, hc, hdi, hd, h1, hnT, hTe, hT, hdT, h3⟩ := ht
  unfold noteFrame
  simp only [hf]
  refine wpAny_bind (wpAny_field he hd h1 ?_)
  rw [if_pos (show (Value.ref T != Value.none) = true from by simp)]
  refine wpAny_bind (wpAny_field hT hdT h3 ?_)
  rw [if_pos (show (rawInt L == rawInt L) = true from by simp)]
  exact wpAny_pure h

theorem pass_on {α : Type} {h₀ : Heap} {env : Env} {fs : List Addr} {L e de : Addr} {fl : Value} {what : String} {Q : α → Shared → Prop} (hf : env.frame = some L) (ht : Trc h₀ s.heap fs e de fl)
    (h : ∀ h', Trc h₀ h' fs e de (rawInt L) → St [] s.heap h' → E (.ref e) { s with heap := h' }) : wpAny M A (PySem.passOn what (.ref e) env : Sem α) Q E s := by
  obtain ⟨q1, q2, q3, oe, vs, T, oT, ts, he, hc, hdi, hd, h1, hnT, hTe, hT, hdT, h3⟩ := id ht
  unfold PySem.passOn
  refine wpAny_bind (wpAny_field he hd h1 ?_)
  rw [if_neg (show ¬ ((Value.ref T == Value.none) = true) from by simp), hf]
  first
    | exact wpAny_bind (wpAny_pure (wpAny_bind (flight (x := some L) ht fun h' t s => wpAny_throw (h h' t s))))
    | exact wpAny_bind (flight (x := some L) ht fun h' t s => wpAny_throw (h h' t s))
end
-- Rse
section
variable {prog : Program} {w : World} {A : Around} {E : Value → Shared → Prop} {s : Shared} {env : Env}
theorem raise_inst {ex : Expr} {pos : Pos} {Q : Flow → Shared → Prop} (hh : A.handled = none)
    (h : wpAny (model prog w) A (eval ex env) (fun v s₁ => ∃ e oe vs, v = .ref e ∧ s₁.heap.get? e = some oe ∧ oe.cls = .ref 51 ∧ oe.data = .fields vs ∧ vs[1]? = some .none ∧ (hd.heap_39 w.params).In s₁.heap ∧ E (.ref e) s₁) E s) :
    wpAny (model prog w) A (exec (.Raise (some ex) none pos) env) Q E s := by
  rw [arm_exec_Raise]
  refine wpAny_bind (wpAny_standAt ?_)
  unfold raiseStmt
  simp only [evalOpt, Option.map]
  refine wpAny_bind (wpAny_bind (wpAny_mono h (fun v s₁ h₁ => wpAny_bind (wpAny_standAt (wpAny_pure ?_))) fun _ _ x => x))
  obtain ⟨e, oe, vs, rfl, he, hc, hd, h1, X, hE⟩ := h₁
  have hC : s₁.heap.get? 51 = some (excClassObj "Die" "Die" 51 50 [.ref 31] [.ref 31, .type "Exception", .type "BaseException", .type "object"] true [] [] false none none (some (.ref 35)) none (some (.str "Die" 218)) (some (.str "Die" 226)) (some (.bool true)) "Exception.__new__") := X 51 _ rfl
  have hcB : ([Value.ref 51, .ref 31, .type "Exception", .type "BaseException", .type "object"]).contains (.type "BaseException") = true := by decide
  obtain ⟨hp, g, d, tk, os⟩ := s₁
  dsimp only at he hC hE
  obtain ⟨oc, odi, oda, osl⟩ := oe
  dsimp only at hc hd
  subst hc hd
  repeat (first | with_reducible refine wpAny_loadPart_at he ?_ | with_reducible refine wpAny_loadPart_at hC ?_ | (with_reducible refine wpAny_isSubtype_exc hC ?_; rw [hcB]) | wp_step)
  rw [h1]
  refine wpAny_pure ?_
  rw [if_neg (by decide)]
  exact wpAny_pure (wpAny_raiseNew_none hh hE)
end
-- Ob
example : True := by
  k_with_none
  k_with "MEM" => with_reducible first | exact List.Mem.head _ | exact ym1 | exact ym2 | exact ym3 | exact ym4 | exact ym5 | exact ym6 | exact ym7 | exact ym8 | exact ym9 | exact ym10 | exact ym11 | exact ym12 | exact ym13 | exact ym14 | exact ym15 | fail "no"
  k_with "NE" => (refine neN ?_; (try dsimp only); first | assumption | (refine Ne.symm ?_; assumption) | exact Nat.ne_of_lt (by assumption) | exact Nat.ne_of_gt (by assumption) | (with_reducible first | exact Nat.ne_of_lt (zl1 (by assumption) (by decide)) | exact Nat.ne_of_gt (zl1 (by assumption) (by decide)) | exact za (by decide) | exact zb (by decide) | exact (zb (by decide)).symm | exact ze (by decide) | exact (ze (by decide)).symm | (refine Nat.ne_of_lt ?_; (repeat (first | (rename _ < _ ∧ _ => z8; revert z8; (repeat (first | exact And.left | refine cjt ?_)); done) | (rename _ < _ ∧ _ => z8; clear z8))); done) | (refine Nat.ne_of_gt ?_; (repeat (first | (rename _ < _ ∧ _ => z8; revert z8; (repeat (first | exact And.left | refine cjt ?_)); done) | (rename _ < _ ∧ _ => z8; clear z8))); done)) | ((repeat (first | exact neBy (by assumption) (by k_mem) | (rename ∀ p : Addr × Obj, p ∈ _ → p.1 ≠ _ => hz9; clear hz9))); done) | (refine Ne.symm ?_; (repeat (first | exact neBy (by assumption) (by k_mem) | (rename ∀ p : Addr × Obj, p ∈ _ → p.1 ≠ _ => hz9; clear hz9))); done) | omega)
  k_with "OM" => with_reducible first | assumption | exact zl0 (by assumption) | exact zl1 (by assumption) (by decide +kernel) | exact zl2 (by assumption) (by decide +kernel) | decide +kernel | exact Nat.le_trans (by assumption) (by decide +kernel) | exact zl4 (by assumption) (by decide +kernel) | exact Nat.lt_of_lt_of_le (by assumption) (by decide +kernel) | exact Nat.lt_of_le_of_lt (by assumption) (by decide +kernel) | exact Int.le_trans (by assumption) (by decide +kernel) | exact zl5 (by assumption) (by decide +kernel) | exact Int.lt_of_lt_of_le (by assumption) (by decide +kernel) | exact Int.lt_of_le_of_lt (by assumption) (by decide +kernel) | fail "no"
  k_with "ALL" => first | exact List.forall_mem_nil _ | exact zc (by k_ne) (by k_all) | fail "no"
  trivial
theorem InstAt.of_fz {h₀ h : Heap} {L x C dx : Addr} {m : Str → Option Value} {od : Obj} {sl : Array (Option Value)} (F : Fr h₀ L h m) (h1 : h₀.get? x = some ⟨.ref C, some dx, .plain, sl⟩) (h2 : h₀.get? dx = some od) :
    W.InstAt h x ⟨.ref C, some dx, .plain, sl⟩ C (some od) := ⟨F.keep _ _ h1, rfl, rfl, F.keep _ _ h2⟩
section
variable {prog : Program} {w : World} {A : Around} {E : Value → Shared → Prop} {s : Shared} {K : Frag} {x C dx L : Addr} {h₀ : Heap} {m : Str → Option Value} {od : Obj} {sl : Array (Option Value)} {name : Str} {v : Value}
theorem get_fz {expr : Bool} {Q : Value → Shared → Prop} {attr : Option Value} (F : Fr h₀ L s.heap m) (X₀ : K.In h₀) (h1 : h₀.get? x = some ⟨.ref C, some dx, .plain, sl⟩) (h2 : h₀.get? dx = some od) (hg : plainGet K C name = true) (hh : hasDictIn K C = true)
    (ha : findIn K (.ref C) name = some attr) (hn : noGet K attr = true) (hl : lookIn name od = some (some v)) (hv : handedIn v = true) (h : Q v { s with toks := s.toks + 1 }) :
    wpAny (model prog w) A (getAttr (.ref x) name expr) Q E s :=
  get_value (X₀.keeps F.keep) (InstAt.of_fz F h1 h2) (plainGet_of hg).1 (findObj_own hh ha hn hl) hv h
end
noncomputable def tupP (a : Addr) (h : Heap) : Prop := ∃ o, h.get? a = some o ∧ o.cls = .type "tuple"
theorem tupP_of {h₀ h : Heap} {L a : Addr} {m : Str → Option Value} {vs : Array Value} (F : Fr h₀ L h m) (ht : IsTup h₀ a vs) : tupP a h := by
  obtain ⟨o, e, hc, _⟩ := ht; exact ⟨o, F.keep _ _ e, hc⟩
theorem tupP_ty {M : Model} {h₀ h : Heap} {L a : Addr} {m : Str → Option Value} {vs : Array Value} (F : Fr h₀ L h m) (ht : IsTup h₀ a vs) : Looks M h (typeOf (.ref a)) (.type "tuple") := by
  obtain ⟨o, e, hc⟩ := tupP_of F ht
  exact hc ▸ (Looks.ld e).andThen .now

example : True := by
  k_with "getAttr ref" => first | (k_here; k_dflt (refine' get_fz ?Fzq ?Xzq ?h1zq ?h2zq ?gzq ?hhzq ?hazq ?hnzq ?hlzq ?hvzq ?_; (case Fzq => k_asm); (case Xzq => k_asm); (case h1zq => assumption); (case h2zq => assumption); (case gzq => k_is); (case hhzq => k_is); (case hazq => k_is); (case hnzq => k_is); (case hlzq => assumption); (case hvzq => rfl); k_whole)) | fail "no"
  k_with "call builtin:isinstance" => first | (k_here; k_dflt (refine' isi_call ?k1zq ?k2zq ?k3zq ?k4zq ?_; (case k1zq => k_in); (case k2zq => (intro M; refine' InstAt.type (InstAt.of_fz ?F9zq ?h9zq ?g9zq); (case F9zq => k_asm); (case h9zq => assumption); (case g9zq => assumption))); (case k3zq => k_is); (case k4zq => intro e; cases e); k_whole)) | fail "no"
  k_with "call builtin:isinstance" => first | (k_here; (with_reducible show wpAny _ _ (call _ [Value.ref _, Value.ref _]) _ _ _); k_dflt (refine' isn_call (P := tupP _) ?k1zq ?k2zq ?k3zq ?k4zq ?k5zq tuple_cls ?_; (case k5zq => exact tupP_of (by k_asm) (by assumption)); (case k1zq => k_in); (case k2zq => (intro M; exact tupP_ty (by k_asm) (by assumption))); (case k3zq => k_not); (case k4zq => intro e; cases e); k_whole)) | fail "no"
  k_with "call builtin:isinstance" => first | ((k_here; (with_reducible show wpAny _ _ (call _ [Value.ref _, Value.type "tuple"]) _ _ _); k_dflt (refine' kia_one kitx_tuple ?Xzq ?pzq ?eezq ?nbzq ?_; (case pzq => exact tupP_of (by k_asm) (by assumption)); (case Xzq => k_in); (case eezq => kit_is); (case nbzq => (intro q; cases q)); k_whole); intro tk9'); (try (revert tk9'; intros))) | fail "no"
  k_with "subscriptTail" => first | (k_here; (with_reducible show wpAny _ _ (subscriptTail _ _ (Value.ref _) (Value.int _ _)) _ _ _); k_dflt (refine' item_of ?Fzq ?Tzq ?azq ?bzq ?czq ?_; (case Fzq => k_asm); (case Tzq => assumption); (case azq => decide); (case bzq => decide); (case czq => rfl); k_whole)) | fail "no"
  trivial

structure FrAt (h : Heap) (fr : Addr) (pl : Int) (wt dk : Addr) : Prop where
  ex : ∃ dfr od sl tp tl, h.get? fr = some ⟨.ref 157, some dfr, .plain, sl⟩ ∧ h.get? dfr = some od ∧ lookIn "piled" od = some (some (.int pl tp)) ∧ lookIn "weights" od = some (some (.ref wt)) ∧ lookIn "known" od = some (some (.ref dk)) ∧ lookIn "line" od = some (some (.int 1 tl)) ∧ ∃ es n0, od = dictOf es n0 ∧ es.length ≤ 100
structure PrAt (h : Heap) (wt : Addr) (a b : Int) : Prop where
  ex : ∃ ta tb, IsTup h wt [Value.int a ta, Value.int b tb].toArray
structure CdAt (h : Heap) (cd : Addr) (k : Int) (blk : Value) : Prop where
  ex : ∃ dcd od sl sub tk tp t1 t2 t3 e, h.get? cd = some ⟨.ref 251, some dcd, .plain, sl⟩ ∧ h.get? dcd = some od ∧ lookIn "sub" od = some (some (.ref sub)) ∧ lookIn "number" od = some (some (.int k tk)) ∧ lookIn "package" od = some (some (.str "main" tp)) ∧
    IsTup h sub [Value.str "subdef" t1, Value.str "main::f" t2, blk, Value.int 0 t3, Value.ref e].toArray
theorem FrAt.keeps {h h' : Heap} (k : ∀ b x, h.get? b = some x → h'.get? b = some x) {fr wt dk : Addr} {pl : Int} (x : FrAt h fr pl wt dk) : FrAt h' fr pl wt dk := by
  obtain ⟨dfr, od, sl, tp, tl, f1, f2, r⟩ := x.ex
  exact ⟨⟨dfr, od, sl, tp, tl, k _ _ f1, k _ _ f2, r⟩⟩
theorem PrAt.keeps {h h' : Heap} (k : ∀ b x, h.get? b = some x → h'.get? b = some x) {wt : Addr} {a b : Int} (x : PrAt h wt a b) : PrAt h' wt a b := by
  obtain ⟨ta, tb, o, e, r⟩ := x.ex
  exact ⟨⟨ta, tb, o, k _ _ e, r⟩⟩
theorem CdAt.keeps {h h' : Heap} (k : ∀ b x, h.get? b = some x → h'.get? b = some x) {cd : Addr} {n : Int} {blk : Value} (x : CdAt h cd n blk) : CdAt h' cd n blk := by
  obtain ⟨dcd, od, sl, sub, tk, tp, t1, t2, t3, e, f1, f2, f3, f4, f5, o, f6, r⟩ := x.ex
  exact ⟨⟨dcd, od, sl, sub, tk, tp, t1, t2, t3, e, k _ _ f1, k _ _ f2, f3, f4, f5, o, k _ _ f6, r⟩⟩

set_option maxHeartbeats 8000000 in
theorem pb_c {w : World} {A : Around} {s : Shared} {H : Heap} {p : Program} {loose : List Str} {mg mb : Str → Option Value} {R : Result → Shared → Prop} {fr wt dk : Addr} {pl a b : Int}
    (hk : H.StaysIn s.heap) (X : (hd.heap_39 w.params).In H) (T : TopRead p loose mg mb H) (hroom : A.depth + 10 < recursionLimit) (hu : A.units + 20 < cLine)
    (hf : FrAt H fr pl wt dk) (hw : PrAt H wt a b) (b1 : -1000000 ≤ pl) (b2 : pl ≤ 1000000) (b3 : -1000000 ≤ a) (b4 : a ≤ 1000000)
    (hret : ∀ h' tk t, (∀ b x, s.heap.get? b = some x → h'.get? b = some x) → R (.ok (.ret (.int (pl + a + 4) t))) { s with heap := h', toks := tk }) :
    codeAny (model PySem.Challenge.rw_qz0087_01.row.prog w) A (.call (.ref 185) ⟨[.ref fr], []⟩) R s := by
  obtain ⟨dfr, od, sl, tp, tl, f1, f2, f3, f4, f5, f6, f7⟩ := (hf.keeps hk).ex
  obtain ⟨ta, tb, hw⟩ := (hw.keeps hk).ex
  refine' call_raw (muts := []) hk ?km X T ?k6 ?k7 ?k8 ?k9 ?kB ?kD ?kh ?c2 ?c3 ?c4
  case km => intro q hq; cases hq
  case k6 => k_is
  case k7 => k_is
  case k8 => omega
  case k9 => exact BindsTo.of_eq rfl
  case kB => exact rfl
  case kD => decide +kernel
  case c2 => exact rfl
  case c3 => exact rfl
  case c4 => exact rfl
  intro g L' h₁ tk cells hg hL st X' T' F N Y l1
  simp only [List.map_nil, hideAll] at hg
  subst hg
  clear l1
  cases Y
  simp only [List.nil_append] at N
  replace F : Fr s.heap L' h₁ (fun y => if y = Str.ofString "frame" then some (.ref fr) else none) := F
  k_steps
  exact hret _ _ _ F.keep

section
variable {w : World} {p : Program} {loose : List Str} {mg mb : Str → Option Value} {A : Around} {E : Value → Shared → Prop} {s : Shared} {h₀ : Heap} {L : Addr} {m : Str → Option Value} {news Z : List (Addr × Obj)} {wei cal : Str → Option Int} {v : Value} {l : DL} {Q : Value → Shared → Prop}
theorem tw_f (X : (hd.heap_39 w.params).In h₀) (T : TopRead p loose mg mb h₀) (TW : TabI w h₀ 136 wei) (TC : TabI w h₀ 139 cal) (hwe : ∀ x i, wei x = some i → 0 ≤ i) (hca : ∀ x i, cal x = some i → 0 ≤ i)
    (F : Fr h₀ L s.heap m) (N : News h₀ L s.heap news) (hB : BlockL Z v l) (hs : ∀ q ∈ Z, h₀.get? q.1 = some q.2) (hh : A.handled = none) (hroom : A.depth + 100 < recursionLimit) (hu : A.units + 700 < cLine)
    (h : ∀ a t1 t2 n h' tk, Fr h₀ L h' m → News h₀ L h' ((a, pairO (.int (bwA wei cal l) t1) (bwW wei cal l) t2 n) :: news) → (∀ p ∈ news, p.1 ≠ a) → Q (.ref a) { s with heap := h', toks := tk }) :
    wpAny (model PySem.Challenge.rw_qz0087_01.row.prog w) A (call (.ref 164) [v]) Q E s := by
  obtain ⟨a, t, la, vs, n, n2, rfl, h1, h2, h3, h4, h5⟩ := hB
  refine wpAny_call (tw_c X T TW TC hwe hca F.keep hh (by omega) (by omega) (fun q hq => F.keep _ _ (hs q hq)) ⟨_, F.keep _ _ (hs _ h1), rfl, _, rfl⟩ ⟨_, F.keep _ _ (hs _ h2), rfl, _, rfl⟩ h3 (by omega) fun a' t1 t2 n' h' tk hb hf ha => ?_)
  have pf := pair_fr F N hb hf ha
  exact h a' t1 t2 n' h' tk pf.1 pf.2.1 pf.2.2
end
example : True := by
  k_with "call ref" => first | ((k_here; (with_reducible show wpAny _ _ (call (Value.ref 164) _) _ _ _); k_dflt (refine' tw_f ?Xzq ?Tzq ?TWzq ?TCzq ?wezq ?cazq ?Fzq ?Nzq ?Bzq ?hszq ?hhzq ?rzq ?uzq ?_; (case Fzq => k_asm); (case Nzq => k_asm); (case Xzq => k_asm); (case Tzq => k_asm); (case TWzq => assumption); (case TCzq => assumption); (case wezq => assumption); (case cazq => assumption); (case Bzq => assumption); (case hszq => assumption); (case hhzq => assumption); (case rzq => (simp only [depth_deeper]; omega)); (case uzq => (simp only [units_deeper]; omega)); k_whole); intro a' t1' t2' n' h' tk' F' N' ne'); (try (revert a' t1' t2' n' h' tk' F' N' ne'; intros))) | fail "no"
  trivial
set_option maxHeartbeats 8000000 in
theorem cw_c {w : World} {A : Around} {s : Shared} {H : Heap} {p : Program} {loose : List Str} {mg mb : Str → Option Value} {R : Result → Shared → Prop} {wei cal : Str → Option Int} {cd : Addr} {k : Int} {blk : Value} {Z : List (Addr × Obj)} {l : DL}
    (hk : H.StaysIn s.heap) (X : (hd.heap_39 w.params).In H) (T : TopRead p loose mg mb H) (TW : TabI w H 136 wei) (TC : TabI w H 139 cal) (hwe : ∀ x i, wei x = some i → 0 ≤ i) (hca : ∀ x i, cal x = some i → 0 ≤ i) (hh : A.handled = none) (hroom : A.depth + 110 < recursionLimit) (hu : A.units + 710 < cLine)
    (hc : CdAt H cd k blk) (hB : BlockL Z blk l) (hs : ∀ q ∈ Z, H.get? q.1 = some q.2)
    (hret : ∀ a t1 t2 n h' tk, (∀ b x, s.heap.get? b = some x → h'.get? b = some x) → s.heap.get? a = none → h'.get? a = some (pairO (.int (bwA wei cal l) t1) (bwW wei cal l) t2 n) → R (.ok (.ret (.ref a))) { s with heap := h', toks := tk }) :
    codeAny (model PySem.Challenge.rw_qz0087_01.row.prog w) A (.call (.ref 171) ⟨[.ref cd], []⟩) R s := by
  obtain ⟨dcd, od, sl, sub, tk, tp, t1, t2, t3, e, f1, f2, f3, f4, f5, f6⟩ := (hc.keeps hk).ex
  replace hs : ∀ q ∈ Z, s.heap.get? q.1 = some q.2 := fun q hq => hk _ _ (hs q hq)
  replace TW := TW.keeps hk
  replace TC := TC.keeps hk
  refine' call_raw (muts := []) hk ?km X T ?k6 ?k7 ?k8 ?k9 ?kB ?kD ?kh ?c2 ?c3 ?c4
  case km => intro q hq; cases hq
  case k6 => k_is
  case k7 => k_is
  case k8 => omega
  case k9 => exact BindsTo.of_eq rfl
  case kB => exact rfl
  case kD => decide +kernel
  case c2 => exact rfl
  case c3 => exact rfl
  case c4 => exact rfl
  intro g L' h₁ tk0 cells hg hL st X' T' F N Y l1
  simp only [List.map_nil, hideAll] at hg
  subst hg
  clear l1
  cases Y
  simp only [List.nil_append] at N
  replace F : Fr s.heap L' h₁ (fun y => if y = Str.ofString "code" then some (.ref cd) else none) := F
  k_steps
  rename_i a' t1' t2' n' h' tk' F' N' ne'
  exact hret a' _ _ _ h' _ F'.keep (News.fresh N' (.head _)) (News.get N' (.head _))
-- Ob2
example : True := by
  k_with_none
  k_with "MEM" => with_reducible first | exact List.Mem.head _ | exact ym1 | exact ym2 | exact ym3 | exact ym4 | exact ym5 | exact ym6 | exact ym7 | exact ym8 | exact ym9 | exact ym10 | exact ym11 | exact ym12 | exact ym13 | exact ym14 | exact ym15 | fail "no"
  k_with "NE" => (refine neN ?_; (try dsimp only); first | assumption | (refine Ne.symm ?_; assumption) | exact Nat.ne_of_lt (by assumption) | exact Nat.ne_of_gt (by assumption) | (with_reducible first | exact Nat.ne_of_lt (zl1 (by assumption) (by decide)) | exact Nat.ne_of_gt (zl1 (by assumption) (by decide)) | exact za (by decide) | exact zb (by decide) | exact (zb (by decide)).symm | exact ze (by decide) | exact (ze (by decide)).symm | (refine Nat.ne_of_lt ?_; (repeat (first | (rename _ < _ ∧ _ => z8; revert z8; (repeat (first | exact And.left | refine cjt ?_)); done) | (rename _ < _ ∧ _ => z8; clear z8))); done) | (refine Nat.ne_of_gt ?_; (repeat (first | (rename _ < _ ∧ _ => z8; revert z8; (repeat (first | exact And.left | refine cjt ?_)); done) | (rename _ < _ ∧ _ => z8; clear z8))); done)) | ((repeat (first | exact neBy (by assumption) (by k_mem) | (rename ∀ p : Addr × Obj, p ∈ _ → p.1 ≠ _ => hz9; clear hz9))); done) | (refine Ne.symm ?_; (repeat (first | exact neBy (by assumption) (by k_mem) | (rename ∀ p : Addr × Obj, p ∈ _ → p.1 ≠ _ => hz9; clear hz9))); done) | omega)
  k_with "OM" => with_reducible first | assumption | exact zl0 (by assumption) | exact zl1 (by assumption) (by decide +kernel) | exact zl2 (by assumption) (by decide +kernel) | decide +kernel | exact Nat.le_trans (by assumption) (by decide +kernel) | exact zl4 (by assumption) (by decide +kernel) | exact Nat.lt_of_lt_of_le (by assumption) (by decide +kernel) | exact Nat.lt_of_le_of_lt (by assumption) (by decide +kernel) | exact Int.le_trans (by assumption) (by decide +kernel) | exact zl5 (by assumption) (by decide +kernel) | exact Int.lt_of_lt_of_le (by assumption) (by decide +kernel) | exact Int.lt_of_le_of_lt (by assumption) (by decide +kernel) | fail "no"
  k_with "ALL" => first | exact List.forall_mem_nil _ | exact zc (by k_ne) (by k_all) | fail "no"
  trivial
example : True := by
  k_with "getAttr ref" => first | (k_here; k_dflt (refine' get_fz ?Fzq ?Xzq ?h1zq ?h2zq ?gzq ?hhzq ?hazq ?hnzq ?hlzq ?hvzq ?_; (case Fzq => k_asm); (case Xzq => k_asm); (case h1zq => assumption); (case h2zq => assumption); (case gzq => k_is); (case hhzq => k_is); (case hazq => k_is); (case hnzq => k_is); (case hlzq => assumption); (case hvzq => rfl); k_whole)) | fail "no"
  k_with "call builtin:isinstance" => first | (k_here; k_dflt (refine' isi_call ?k1zq ?k2zq ?k3zq ?k4zq ?_; (case k1zq => k_in); (case k2zq => (intro M; refine' InstAt.type (InstAt.of_fz ?F9zq ?h9zq ?g9zq); (case F9zq => k_asm); (case h9zq => assumption); (case g9zq => assumption))); (case k3zq => k_is); (case k4zq => intro e; cases e); k_whole)) | fail "no"
  k_with "call builtin:isinstance" => first | (k_here; (with_reducible show wpAny _ _ (call _ [Value.ref _, Value.ref _]) _ _ _); k_dflt (refine' isn_call (P := tupP _) ?k1zq ?k2zq ?k3zq ?k4zq ?k5zq tuple_cls ?_; (case k5zq => exact tupP_of (by k_asm) (by assumption)); (case k1zq => k_in); (case k2zq => (intro M; exact tupP_ty (by k_asm) (by assumption))); (case k3zq => k_not); (case k4zq => intro e; cases e); k_whole)) | fail "no"
  k_with "call builtin:isinstance" => first | ((k_here; (with_reducible show wpAny _ _ (call _ [Value.ref _, Value.type "tuple"]) _ _ _); k_dflt (refine' kia_one kitx_tuple ?Xzq ?pzq ?eezq ?nbzq ?_; (case pzq => exact tupP_of (by k_asm) (by assumption)); (case Xzq => k_in); (case eezq => kit_is); (case nbzq => (intro q; cases q)); k_whole); intro tk9'); (try (revert tk9'; intros))) | fail "no"
  k_with "subscriptTail" => first | (k_here; (with_reducible show wpAny _ _ (subscriptTail _ _ (Value.ref _) (Value.int _ _)) _ _ _); k_dflt (refine' item_of ?Fzq ?Tzq ?azq ?bzq ?czq ?_; (case Fzq => k_asm); (case Tzq => assumption); (case azq => decide); (case bzq => decide); (case czq => rfl); k_whole)) | fail "no"
  trivial

theorem natNe {news : List (Addr × Obj)} {a : Addr} (h : ∀ p ∈ news, p.1 ≠ a) : ∀ p ∈ news, @Ne Nat p.1 a := h
structure Kn (w : World) (h : Heap) (dom : Int → Prop) (fA fW : Int → Int) (o : Obj) (n : Nat) : Prop where
  ex : ∃ kvs, o.IsDictOf (intKind PySem.Challenge.rw_qz0087_01.row.prog w) kvs ∧ kvs.length ≤ n ∧ ∀ k v, (k, v) ∈ kvs → dom k ∧ ∃ a, v = .ref a ∧ PrAt h a (fA k) (fW k)
theorem IsDictOf.cls {prog : Program} {w : World} {o : Obj} {kvs : List (Int × Value)} (h : o.IsDictOf (intKind prog w) kvs) : o.cls = .type "dict" := by
  obtain ⟨es, ep, e, _⟩ := h; exact e.1
theorem PrAt.to {h h' : Heap} {dk wt : Addr} {o : Obj} {a b : Int} (k : ∀ b x, b ≠ dk → h.get? b = some x → h'.get? b = some x) (hd : h.get? dk = some o) (hc : o.cls = .type "dict") (x : PrAt h wt a b) : PrAt h' wt a b := by
  obtain ⟨ta, tb, o', e, hc', r⟩ := x.ex
  refine ⟨⟨ta, tb, o', k _ _ (fun q => ?_) e, hc', r⟩⟩
  rw [q, hd] at e; cases e; rw [hc] at hc'; exact absurd hc' (by decide)
theorem Kn.mono {w : World} {h : Heap} {dom : Int → Prop} {fA fW : Int → Int} {o : Obj} {n n' : Nat} (x : Kn w h dom fA fW o n) (l : n ≤ n') : Kn w h dom fA fW o n' := by
  obtain ⟨kvs, h1, h2, h3⟩ := x.ex; exact ⟨⟨kvs, h1, by omega, h3⟩⟩
theorem Kn.to {w : World} {h h' : Heap} {dk : Addr} {dom : Int → Prop} {fA fW : Int → Int} {o o' : Obj} {n : Nat} (x : Kn w h dom fA fW o n) (k : ∀ b x, b ≠ dk → h.get? b = some x → h'.get? b = some x) (hd : h.get? dk = some o') (hc : o'.cls = .type "dict") : Kn w h' dom fA fW o n := by
  obtain ⟨kvs, h1, h2, h3⟩ := x.ex
  refine ⟨⟨kvs, h1, h2, fun k' v hm => ?_⟩⟩
  obtain ⟨d, a, e, q⟩ := h3 k' v hm
  exact ⟨d, a, e, q.to k hd hc⟩

theorem stored_self {kvs : List (Int × Value)} {k : Int} {v : Value} (h : (valueAt kvs k).isSome = false) : valueAt (stored kvs k v) k = some v := by
  have h0 : valueAt kvs k = none := by
    cases q : valueAt kvs k with
    | none => rfl
    | some _ => rw [q] at h; cases h
  rw [stored_absent h0]
  unfold valueAt at h0 ⊢
  rw [List.find?_append]
  have : (kvs.find? fun kv => decide (kv.1 = k)) = none := by
    cases q : (kvs.find? fun kv => decide (kv.1 = k)) with
    | none => rfl
    | some _ => rw [q] at h0; cases h0
  rw [this]
  simp

section
variable {prog : Program} {w : World} {A : Around} {E : Value → Shared → Prop} {s : Shared} {h₀ : Heap} {L d : Addr} {m : Str → Option Value} {news : List (Addr × Obj)} {g : Obj → List (Addr × Obj)} {o : Obj}
  {x : Int} {t : Tok} {v : Value} {kvs : List (Int × Value)}
theorem notin_int {Q : Value → Shared → Prop} (N : News h₀ L s.heap news) (hm : (d, o) ∈ news) (hd : o.IsDictOf (intKind prog w) kvs) (lo : (d == sysModules) = false) (h : Q (.bool (!(valueAt kvs x).isSome)) { s with toks := s.toks + 1 }) :
    wpAny (model prog w) A (compareOp .NotIn (.int x t) (.ref d)) Q E s :=
  wpAny_notIn_of (intKind_is prog w x t) lo (Heap.dictOf_iff.mpr ⟨o, (N _ hm).1, hd⟩).mapOf h
theorem sub_int {value slice : Expr} {Q : Value → Shared → Prop} (N : News h₀ L s.heap news) (hm : (d, o) ∈ news) (hd : o.IsDictOf (intKind prog w) kvs) (hv : valueAt kvs x = some v) (h : Q v { s with toks := s.toks + 1 })
    (hs : subscripted slice false (.ref d) (.int x t) = operate [.ref d, .int x t] (getItem (.ref d) (.int x t)) := by with_unfolding_all rfl) :
    wpAny (model prog w) A (subscriptTail value slice (.ref d) (.int x t)) Q E s :=
  have hD : s.heap.DictOf (intKind prog w) d kvs := Heap.dictOf_iff.mpr ⟨o, (N _ hm).1, hd⟩
  tail_any hD.typeIs slot_dict_getitem.lookup (wpAny_getItem_of (intKind_is prog w x t) hD.mapOf hv h) hs
theorem get_int {Q : Value → Shared → Prop} (N : News h₀ L s.heap news) (hm : (d, o) ∈ news) (hd : o.IsDictOf (intKind prog w) kvs) (hv : valueAt kvs x = some v) (h : Q v { s with toks := s.toks + 1 }) :
    wpAny (model prog w) A (getItem (.ref d) (.int x t)) Q E s :=
  have hD : s.heap.DictOf (intKind prog w) d kvs := Heap.dictOf_iff.mpr ⟨o, (N _ hm).1, hd⟩
  wpAny_getItem_of (intKind_is prog w x t) hD.mapOf hv h
theorem get_int2 {Q : Value → Shared → Prop} (N : News h₀ L s.heap news) (hm : (d, o) ∈ news) (hd : o.IsDictOf (intKind prog w) kvs) (hv : (valueAt kvs x).isSome = true) (h : ∀ v, valueAt kvs x = some v → Q v { s with toks := s.toks + 1 }) :
    wpAny (model prog w) A (getItem (.ref d) (.int x t)) Q E s := by
  cases q : valueAt kvs x with
  | none => rw [q] at hv; cases hv
  | some v => exact get_int N hm hd q (h v q)
theorem set_int {Q : Unit → Shared → Prop} (F : Fr h₀ L s.heap m) (N : News h₀ L s.heap news) (U : UpdF d o news g) (hd : o.IsDictOf (intKind prog w) kvs) (hsz : kvs.length ≤ sizeLine)
    (h : ∀ h' o', Fr h₀ L h' m → News h₀ L h' (g o') → o'.IsDictOf (intKind prog w) (stored kvs x v) → Q () { s with heap := h', toks := s.toks + 1 }) :
    wpAny (model prog w) A (setItem (.ref d) (.int x t) v) Q E s := by
  obtain ⟨pre, post, rfl, hg, a, b⟩ := U.split
  have hm := N (d, o) (List.mem_append_right _ (.head _))
  refine wpAny_setItem_pairs (intKind_is prog w x t) (Heap.dictOf_iff.mpr ⟨o, hm.1, hd⟩) (fun h' hD hs => ?_) hsz
  obtain ⟨o', ho', hd'⟩ := Heap.dictOf_iff.mp hD
  exact h h' o' (F.change hs hm.2.1 hm.2.2) (hg o' ▸ N.setAt a b hs ho') hd'
end
section
variable {w : World} {p : Program} {loose : List Str} {mg mb : Str → Option Value} {A : Around} {E : Value → Shared → Prop} {s : Shared} {h₀ : Heap} {L : Addr} {m : Str → Option Value} {news Z : List (Addr × Obj)} {wei cal : Str → Option Int} {cd : Addr} {k : Int} {blk : Value} {l : DL} {Q : Value → Shared → Prop}
theorem cw_f (X : (hd.heap_39 w.params).In h₀) (T : TopRead p loose mg mb h₀) (TW : TabI w h₀ 136 wei) (TC : TabI w h₀ 139 cal) (hwe : ∀ x i, wei x = some i → 0 ≤ i) (hca : ∀ x i, cal x = some i → 0 ≤ i)
    (F : Fr h₀ L s.heap m) (N : News h₀ L s.heap news) (hc : CdAt h₀ cd k blk) (hB : BlockL Z blk l) (hs : ∀ q ∈ Z, h₀.get? q.1 = some q.2) (hh : A.handled = none) (hroom : A.depth + 110 < recursionLimit) (hu : A.units + 710 < cLine)
    (h : ∀ a t1 t2 n h' tk, Fr h₀ L h' m → News h₀ L h' ((a, pairO (.int (bwA wei cal l) t1) (bwW wei cal l) t2 n) :: news) → (∀ p ∈ news, p.1 ≠ a) → Q (.ref a) { s with heap := h', toks := tk }) :
    wpAny (model PySem.Challenge.rw_qz0087_01.row.prog w) A (call (.ref 171) [.ref cd]) Q E s := by
  refine wpAny_call (cw_c F.keep X T TW TC hwe hca hh (by omega) (by omega) hc hB hs fun a' t1 t2 n' h' tk hb hf ha => ?_)
  have pf := pair_fr F N hb hf ha
  exact h a' t1 t2 n' h' tk pf.1 pf.2.1 pf.2.2
end
example : True := by
  k_with "call ref" => first | ((k_here; (with_reducible show wpAny _ _ (call (Value.ref 171) _) _ _ _); k_dflt (refine' cw_f ?Xzq ?Tzq ?TWzq ?TCzq ?wezq ?cazq ?Fzq ?Nzq ?czq ?Bzq ?hszq ?hhzq ?rzq ?uzq ?_; (case Fzq => k_asm); (case Nzq => k_asm); (case Xzq => k_asm); (case Tzq => k_asm); (case TWzq => assumption); (case TCzq => assumption); (case wezq => assumption); (case cazq => assumption); (case czq => assumption); (case Bzq => assumption); (case hszq => assumption); (case hhzq => assumption); (case rzq => (simp only [depth_deeper]; omega)); (case uzq => (simp only [units_deeper]; omega)); k_whole); intro a' t1' t2' n' h' tk' F' N' ne'; (replace ne' := natNe ne'); (try simp only [List.forall_mem_cons, List.not_mem_nil, false_imp_iff, implies_true, and_true] at ne')); (try (revert a' t1' t2' n' h' tk' F' N' ne'; intros))) | fail "no"
  k_with "compareOp NotIn int ref" => first | (k_here; k_dflt (refine' notin_int ?Nzq ?mzq ?dzq ?lozq ?_; (case Nzq => k_asm); (case mzq => k_mem); (case dzq => k_asm); (case lozq => assumption); k_whole)) | fail "no"
  k_with "setItem ref int" => first | ((k_here; k_dflt (refine' set_int ?Fzq ?Nzq ?Uzq ?dzq ?zzq ?_; (case Fzq => k_asm); (case Nzq => k_asm); (case Uzq => k_updF); (case dzq => k_asm); (case zzq => (rw [sizeLine_eq]; omega)); k_whole); intro h' o' F' N' hd'; (try dsimp only at N')); (try (revert h' o' F' N' hd'; intros))) | fail "no"
  k_with "getItem ref int" => first | ((k_here; k_dflt (first
    | (refine' get_int ?Nzq ?mzq ?dzq ?vzq ?_ ; (case Nzq => k_asm); (case mzq => k_mem); (case dzq => k_asm); (case vzq => first | assumption | exact stored_self (by assumption)); k_whole)
    | (refine' get_int2 ?Nzq ?mzq ?dzq ?vzq ?_ ; (case Nzq => k_asm); (case mzq => k_mem); (case dzq => k_asm); (case vzq => assumption); k_whole; intro v9' hv9'))); (try (revert v9' hv9'; intros))) | fail "no"
  trivial

set_option maxHeartbeats 8000000 in
theorem ws_c {w : World} {A : Around} {s : Shared} {H : Heap} {p : Program} {loose : List Str} {mg mb : Str → Option Value} {R : Result → Shared → Prop} {wei cal : Str → Option Int} {fr wt dk cd : Addr} {pl k : Int} {blk : Value} {Z : List (Addr × Obj)} {l : DL} {dom : Int → Prop} {fA fW : Int → Int} {ok : Obj} {n : Nat}
    (hk : H.StaysIn s.heap) (X : (hd.heap_39 w.params).In H) (T : TopRead p loose mg mb H) (TW : TabI w H 136 wei) (TC : TabI w H 139 cal) (hwe : ∀ x i, wei x = some i → 0 ≤ i) (hca : ∀ x i, cal x = some i → 0 ≤ i) (hh : A.handled = none) (hroom : A.depth + 120 < recursionLimit) (hu : A.units + 720 < cLine)
    (hf : FrAt H fr pl wt dk) (hc : CdAt H cd k blk) (hB : BlockL Z blk l) (hs : ∀ q ∈ Z, H.get? q.1 = some q.2) (hdk : s.heap.get? dk = some ok) (hH : H.get? dk = none) (lo : (dk == sysModules) = false) (hK : Kn w s.heap dom fA fW ok n) (hn : n ≤ 1000) (hA : fA k = bwA wei cal l) (hW : fW k = bwW wei cal l) (hd : dom k)
    (hret : ∀ a h' tk ok', (∀ b x, b ≠ dk → s.heap.get? b = some x → h'.get? b = some x) → h'.get? dk = some ok' → Kn w h' dom fA fW ok' (n + 1) → PrAt h' a (bwA wei cal l) (bwW wei cal l) → R (.ok (.ret (.ref a))) { s with heap := h', toks := tk }) :
    codeAny (model PySem.Challenge.rw_qz0087_01.row.prog w) A (.call (.ref 178) ⟨[.ref fr, .ref cd], []⟩) R s := by
  obtain ⟨kvs, k1, k2, k3⟩ := hK.ex
  refine' call_raw (muts := [(dk, ok)]) hk ?km X T ?k6 ?k7 ?k8 ?k9 ?kB ?kD ?kh ?c2 ?c3 ?c4
  case km => intro q hq; rcases List.mem_singleton.mp hq with rfl; exact ⟨hdk, hH⟩
  case k6 => k_is
  case k7 => k_is
  case k8 => omega
  case k9 => exact BindsTo.of_eq rfl
  case kB => exact rfl
  case kD => decide +kernel
  case c2 => exact rfl
  case c3 => exact rfl
  case c4 => exact rfl
  intro g L' h₁ tk0 cells hg hL st X' T' F N Y l1

  have stg : H.StaysIn g := by
    rw [hg]
    intro b o e
    refine hideAll_get _ (hk b o e) fun q => ?_
    have : b = dk := by simpa using q
    rw [this, hH] at e; cases e
  obtain ⟨dfr, od, sl, tp, tl, f1, f2, f3, f4, f5, f6, f7⟩ := (hf.keeps stg).ex
  have hcg := hc.keeps stg
  obtain ⟨dcd, od2, sl2, sub, tk2, tp2, t12, t22, t32, e2, g1, g2, g3, g4, g5, g6⟩ := hcg.ex
  replace hs : ∀ q ∈ Z, g.get? q.1 = some q.2 := fun q hq => stg _ _ (hs q hq)
  replace TW := TW.keeps stg
  replace TC := TC.keeps stg
  cases Y
  simp only [List.nil_append] at N
  k_lt l1
  replace F : Fr g L' h₁ (fun y => if y = Str.ofString "code" then some (.ref cd) else if y = Str.ofString "frame" then some (.ref fr) else none) := F
  have kd := IsDictOf.cls k1
  k_steps
  · rename_i hb v9 hv9
    have hm : (k, v9) ∈ kvs := by
      unfold valueAt at hv9
      obtain ⟨y, hy, e⟩ := Option.map_eq_some_iff.mp hv9
      have := List.find?_some hy
      have h1 : y.1 = k := by simpa using this
      have h2 := List.mem_of_find?_eq_some hy
      rw [← h1, ← e]; exact h2
    obtain ⟨_, a9, e9, p9⟩ := k3 _ _ hm
    subst e9
    exact hret a9 _ _ ok (raw_back1 hg F) (News.get N (.head _)) ((hK.to (raw_back1 hg F) hdk kd).mono (Nat.le_succ _)) (hA ▸ hW ▸ p9.to (raw_back1 hg F) hdk kd)
  · rename_i hb tk a' t1' t2' n' h1' tk' F1 N1 ne' h2' o' F2 N2 hd'
    have P9 : PrAt h2' a' (bwA wei cal l) (bwW wei cal l) := ⟨⟨t1', t2', _, News.get N2 (.head _), rfl, _, rfl⟩⟩
    have e0 : valueAt kvs k = none := by
      cases q : valueAt kvs k with
      | none => rfl
      | some _ => rw [q] at hb; cases hb
    rw [stored_absent e0] at hd'
    refine hret a' _ _ o' (raw_back1 hg F2) (News.get N2 (ym1)) ⟨⟨_, hd', by rw [List.length_append, List.length_cons, List.length_nil]; omega, fun k9 v9 hm => ?_⟩⟩ P9
    rcases List.mem_append.mp hm with hm | hm
    · obtain ⟨d9, a9, e9, p9⟩ := k3 _ _ hm
      exact ⟨d9, a9, e9, p9.to (raw_back1 hg F2) hdk kd⟩
    · cases List.mem_singleton.mp hm
      exact ⟨hd, a', rfl, by rw [hA, hW]; exact P9⟩
-- Ob3
example : True := by
  k_with_none
  k_with "MEM" => with_reducible first | exact List.Mem.head _ | exact ym1 | exact ym2 | exact ym3 | exact ym4 | exact ym5 | exact ym6 | exact ym7 | exact ym8 | exact ym9 | exact ym10 | exact ym11 | exact ym12 | exact ym13 | exact ym14 | exact ym15 | fail "no"
  k_with "NE" => (refine neN ?_; (try dsimp only); first | assumption | (refine Ne.symm ?_; assumption) | exact Nat.ne_of_lt (by assumption) | exact Nat.ne_of_gt (by assumption) | (with_reducible first | exact Nat.ne_of_lt (zl1 (by assumption) (by decide)) | exact Nat.ne_of_gt (zl1 (by assumption) (by decide)) | exact za (by decide) | exact zb (by decide) | exact (zb (by decide)).symm | exact ze (by decide) | exact (ze (by decide)).symm | (refine Nat.ne_of_lt ?_; (repeat (first | (rename _ < _ ∧ _ => z8; revert z8; (repeat (first | exact And.left | refine cjt ?_)); done) | (rename _ < _ ∧ _ => z8; clear z8))); done) | (refine Nat.ne_of_gt ?_; (repeat (first | (rename _ < _ ∧ _ => z8; revert z8; (repeat (first | exact And.left | refine cjt ?_)); done) | (rename _ < _ ∧ _ => z8; clear z8))); done)) | ((repeat (first | exact neBy (by assumption) (by k_mem) | (rename ∀ p : Addr × Obj, p ∈ _ → p.1 ≠ _ => hz9; clear hz9))); done) | (refine Ne.symm ?_; (repeat (first | exact neBy (by assumption) (by k_mem) | (rename ∀ p : Addr × Obj, p ∈ _ → p.1 ≠ _ => hz9; clear hz9))); done) | omega)
  k_with "OM" => with_reducible first | assumption | exact zl0 (by assumption) | exact zl1 (by assumption) (by decide +kernel) | exact zl2 (by assumption) (by decide +kernel) | decide +kernel | exact Nat.le_trans (by assumption) (by decide +kernel) | exact zl4 (by assumption) (by decide +kernel) | exact Nat.lt_of_lt_of_le (by assumption) (by decide +kernel) | exact Nat.lt_of_le_of_lt (by assumption) (by decide +kernel) | exact Int.le_trans (by assumption) (by decide +kernel) | exact zl5 (by assumption) (by decide +kernel) | exact Int.lt_of_lt_of_le (by assumption) (by decide +kernel) | exact Int.lt_of_le_of_lt (by assumption) (by decide +kernel) | fail "no"
  k_with "ALL" => first | exact List.forall_mem_nil _ | exact zc (by k_ne) (by k_all) | fail "no"
  trivial
example : True := by
  k_with "getAttr ref" => first | (k_here; k_dflt (refine' get_fz ?Fzq ?Xzq ?h1zq ?h2zq ?gzq ?hhzq ?hazq ?hnzq ?hlzq ?hvzq ?_; (case Fzq => k_asm); (case Xzq => k_asm); (case h1zq => with_reducible assumption); (case h2zq => with_reducible assumption); (case gzq => k_is); (case hhzq => k_is); (case hazq => k_is); (case hnzq => k_is); (case hlzq => with_reducible assumption); (case hvzq => rfl); k_whole)) | fail "no"
  k_with "call builtin:isinstance" => first | (k_here; k_dflt (refine' isi_call ?k1zq ?k2zq ?k3zq ?k4zq ?_; (case k1zq => k_in); (case k2zq => (intro M; refine' InstAt.type (InstAt.of_fz ?F9zq ?h9zq ?g9zq); (case F9zq => k_asm); (case h9zq => with_reducible assumption); (case g9zq => with_reducible assumption))); (case k3zq => k_is); (case k4zq => intro e; cases e); k_whole)) | fail "no"
  k_with "call builtin:isinstance" => first | (k_here; (with_reducible show wpAny _ _ (call _ [Value.ref _, Value.ref _]) _ _ _); k_dflt (refine' isn_call (P := tupP _) ?k1zq ?k2zq ?k3zq ?k4zq ?k5zq tuple_cls ?_; (case k5zq => exact tupP_of (by k_asm) (by with_reducible assumption)); (case k1zq => k_in); (case k2zq => (intro M; exact tupP_ty (by k_asm) (by with_reducible assumption))); (case k3zq => k_not); (case k4zq => intro e; cases e); k_whole)) | fail "no"
  k_with "call builtin:isinstance" => first | ((k_here; (with_reducible show wpAny _ _ (call _ [Value.ref _, Value.type "tuple"]) _ _ _); k_dflt (refine' kia_one kitx_tuple ?Xzq ?pzq ?eezq ?nbzq ?_; (case pzq => exact tupP_of (by k_asm) (by with_reducible assumption)); (case Xzq => k_in); (case eezq => kit_is); (case nbzq => (intro q; cases q)); k_whole); intro tk9'); (try (revert tk9'; intros))) | fail "no"
  k_with "subscriptTail" => first | (k_here; (with_reducible show wpAny _ _ (subscriptTail _ _ (Value.ref _) (Value.int _ _)) _ _ _); k_dflt (refine' item_of ?Fzq ?Tzq ?azq ?bzq ?czq ?_; (case Fzq => k_asm); (case Tzq => with_reducible assumption); (case azq => decide); (case bzq => decide); (case czq => rfl); k_whole)) | fail "no"
  trivial

theorem Kn.all {w : World} {h h' : Heap} {dom : Int → Prop} {fA fW : Int → Int} {o : Obj} {n : Nat} (x : Kn w h dom fA fW o n) (k : ∀ b x, h.get? b = some x → h'.get? b = some x) : Kn w h' dom fA fW o n := by
  obtain ⟨kvs, h1, h2, h3⟩ := x.ex
  refine ⟨⟨kvs, h1, h2, fun k' v hm => ?_⟩⟩
  obtain ⟨d, a, e, q⟩ := h3 k' v hm
  exact ⟨d, a, e, q.keeps k⟩
theorem PrAt.st {h h' : Heap} {fs : List Addr} (k : St fs h h') {wt : Addr} {a b : Int} (x : PrAt h wt a b) : PrAt h' wt a b := by
  obtain ⟨ta, tb, o, e, hc, n, hd⟩ := x.ex
  obtain ⟨⟨sl, e2⟩, _⟩ := k _ _ (fun vs q => by rw [hd] at q; cases q) e
  exact ⟨⟨ta, tb, _, e2, hc, n, hd⟩⟩
theorem Kn.st {w : World} {h h' : Heap} {fs : List Addr} {dom : Int → Prop} {fA fW : Int → Int} {o : Obj} {n : Nat} (x : Kn w h dom fA fW o n) (k : St fs h h') : Kn w h' dom fA fW o n := by
  obtain ⟨kvs, h1, h2, h3⟩ := x.ex
  refine ⟨⟨kvs, h1, h2, fun k' v hm => ?_⟩⟩
  obtain ⟨d, a, e, q⟩ := h3 k' v hm
  exact ⟨d, a, e, q.st k⟩
theorem Stk.keep {h h' : Heap} : ∀ {l : List Env}, (∀ b ∈ frs l, ∀ o, h.get? b = some o → h'.get? b = some o) → Stk l h → Stk l h'
  | [], _, _ => trivial
  | env :: r, k, ⟨hk, ⟨L, o, hf, hn, ho, hd⟩, hr⟩ => ⟨hk, ⟨L, o, hf, hn, k L (List.mem_filterMap.mpr ⟨env, .head _, hf⟩) o ho, hd⟩, Stk.keep (fun b hb => k b (by
      obtain ⟨e, he, q⟩ := List.mem_filterMap.mp hb
      exact List.mem_filterMap.mpr ⟨e, .tail _ he, q⟩)) hr⟩
theorem Trc.less {h₀ h : Heap} {L : Addr} {fs : List Addr} {e de : Addr} {fl : Value} (x : Trc h₀ h (L :: fs) e de fl) : Trc (hideAll h₀ [L]) h fs e de fl := by
  obtain ⟨q1, q2, q3, oe, vs, T, oT, ts, a1, a2, a3, a4, a5, a6, r⟩ := x
  have no : ∀ b, h₀.get? b = none → (hideAll h₀ [L]).get? b = none := fun b hb => by
    cases q : (hideAll h₀ [L]).get? b with
    | none => rfl
    | some o => rw [of_hideAll _ q] at hb; cases hb
  have nL : ∀ b o, (hideAll h₀ [L]).get? b = some o → b ≠ L := fun b o hb q => by
    rw [q, hideAll_none _ (.head _)] at hb; cases hb
  refine ⟨fun b o hb hbo => q1 b o (fun hm => ?_) (of_hideAll _ hbo), fun b o hbo => q2 b o (of_hideAll _ hbo), no _ q3, oe, vs, T, oT, ts, a1, a2, a3, a4, a5, no _ a6, r⟩
  rcases List.mem_cons.mp hm with z | z
  · exact nL b o hbo z
  · exact hb z
theorem Trc.sub {h₀ h₀' h : Heap} {fs : List Addr} {e de : Addr} {fl : Value} (x : Trc h₀ h fs e de fl) (k : ∀ b o, h₀'.get? b = some o → h₀.get? b = some o) : Trc h₀' h fs e de fl := by
  obtain ⟨q1, q2, q3, oe, vs, T, oT, ts, a1, a2, a3, a4, a5, a6, r⟩ := x
  have no : ∀ b, h₀.get? b = none → h₀'.get? b = none := fun b hb => by
    cases q : h₀'.get? b with
    | none => rfl
    | some o => have := k _ _ q; rw [hb] at this; cases this
  exact ⟨fun b o hb hbo => q1 b o hb (k _ _ hbo), fun b o hbo => q2 b o (k _ _ hbo), no _ q3, oe, vs, T, oT, ts, a1, a2, a3, a4, a5, no _ a6, r⟩
structure Rz (w : World) (dom : Int → Prop) (fA fW : Int → Int) (fs : List Addr) (dk : Addr) (n : Nat) (h h' : Heap) (e : Addr) (fl : Value) : Prop where
  ex : ∃ de ok' es m0 t, Trc (hideAll h [dk]) h' fs e de fl ∧ h'.get? dk = some ok' ∧ Kn w h' dom fA fW ok' n ∧ h'.get? de = some (dictOf es m0) ∧ de ∉ fs ∧ getL "value" es = some (some (.str "Deep recursion" t)) ∧ h.get? de = none ∧ de ≠ dk
structure RnAt (h : Heap) (run lf fr : Addr) : Prop where
  ex : ∃ dr od sl fs, h.get? run = some ⟨.ref 91, some dr, .plain, sl⟩ ∧ h.get? dr = some od ∧ lookIn "frames" od = some (some (.ref lf)) ∧ h.IsList lf (fs ++ [Value.ref fr]).toArray ∧ fs.length ≤ 1000
theorem RnAt.keeps {h h' : Heap} (k : ∀ b x, h.get? b = some x → h'.get? b = some x) {run lf fr : Addr} (x : RnAt h run lf fr) : RnAt h' run lf fr := by
  obtain ⟨dr, od, sl, fs, f1, f2, f3, ⟨o, f4, r⟩, f5⟩ := x.ex
  exact ⟨⟨dr, od, sl, fs, k _ _ f1, k _ _ f2, f3, ⟨o, k _ _ f4, r⟩, f5⟩⟩

section
variable {prog : Program} {w : World} {A : Around} {E : Value → Shared → Prop} {s : Shared} {h₀ : Heap} {L : Addr} {m : Str → Option Value} {news : List (Addr × Obj)}
theorem last_fz {value slice : Expr} {a : Addr} {vs : List Value} {x : Value} {u : Tok} {Q : Value → Shared → Prop} (F : Fr h₀ L s.heap m) (ht : h₀.IsList a (vs ++ [x]).toArray) (hz : vs.length ≤ 1000) (h : Q x s)
    (hs : subscripted slice false (.ref a) (.int (-1) u) = operate [.ref a, .int (-1) u] (getItem (.ref a) (.int (-1) u)) := by with_unfolding_all rfl) :
    wpAny (model prog w) A (subscriptTail value slice (.ref a) (.int (-1) u)) Q E s := by
  have hl : s.heap.IsList a (vs ++ [x]).toArray := by obtain ⟨o, e, r⟩ := ht; exact ⟨o, F.keep _ _ e, r⟩
  have hsz : (vs ++ [x]).toArray.size = vs.length + 1 := by rw [List.size_toArray, List.length_append, List.length_cons, List.length_nil]
  refine tail_any hl.typeIs slot_list_getitem.lookup (wpAny_getItem_list_neg hl (by decide) (by rw [hsz]; omega) (by decide) ?_ h) hs
  rw [hsz, show ((-1 : Int) + ((vs.length + 1 : Nat) : Int)).toNat = vs.length by omega]
  simp
theorem item_pr1 {value slice : Expr} {wt : Addr} {a b : Int} {u : Tok} {Q : Value → Shared → Prop} (ht : PrAt s.heap wt a b) (h : ∀ t, Q (.int b t) s)
    (hs : subscripted slice false (.ref wt) (.int 1 u) = operate [.ref wt, .int 1 u] (getItem (.ref wt) (.int 1 u)) := by with_unfolding_all rfl) :
    wpAny (model prog w) A (subscriptTail value slice (.ref wt) (.int 1 u)) Q E s := by
  obtain ⟨ta, tb, ht⟩ := ht.ex
  exact item_tupleT (j := 1) ht (by omega) (by omega) rfl rfl (h tb) hs
theorem all_fr {h h' : Heap} (F : Fr h₀ L h m) (N : News h₀ L h news) (hb : ∀ b x, h.get? b = some x → h'.get? b = some x) : Fr h₀ L h' m ∧ News h₀ L h' news :=
  ⟨⟨F.ns.at' fun o e => hb _ _ e, fun b x e => hb b x (F.keep b x e), F.above⟩, fun q hq => ⟨hb _ _ (N q hq).1, (N q hq).2⟩⟩
end
section
variable {w : World} {p : Program} {loose : List Str} {mg mb : Str → Option Value} {A : Around} {E : Value → Shared → Prop} {s : Shared} {h₀ : Heap} {L : Addr} {m : Str → Option Value} {news Z : List (Addr × Obj)} {g : Obj → List (Addr × Obj)} {wei cal : Str → Option Int} {Q : Value → Shared → Prop}
theorem pb_f {fr wt dk : Addr} {pl a b : Int} (X : (hd.heap_39 w.params).In h₀) (T : TopRead p loose mg mb h₀) (F : Fr h₀ L s.heap m) (N : News h₀ L s.heap news) (hf : FrAt h₀ fr pl wt dk) (hw : PrAt h₀ wt a b) (hroom : A.depth + 10 < recursionLimit) (hu : A.units + 20 < cLine)
    (b1 : -1000000 ≤ pl) (b2 : pl ≤ 1000000) (b3 : -1000000 ≤ a) (b4 : a ≤ 1000000)
    (h : ∀ h' tk t, Fr h₀ L h' m → News h₀ L h' news → (∀ b x, s.heap.get? b = some x → h'.get? b = some x) → Q (.int (pl + a + 4) t) { s with heap := h', toks := tk }) :
    wpAny (model PySem.Challenge.rw_qz0087_01.row.prog w) A (call (.ref 185) [.ref fr]) Q E s :=
  wpAny_call (pb_c F.keep X T hroom hu hf hw b1 b2 b3 b4 fun h' tk t hb => h h' tk t (all_fr F N hb).1 (all_fr F N hb).2 hb)
theorem ws_f {fr wt dk cd : Addr} {pl k : Int} {blk : Value} {l : DL} {dom : Int → Prop} {fA fW : Int → Int} {ok : Obj} {n : Nat} (X : (hd.heap_39 w.params).In h₀) (T : TopRead p loose mg mb h₀) (TW : TabI w h₀ 136 wei) (TC : TabI w h₀ 139 cal) (hwe : ∀ x i, wei x = some i → 0 ≤ i) (hca : ∀ x i, cal x = some i → 0 ≤ i)
    (F : Fr h₀ L s.heap m) (N : News h₀ L s.heap news) (U : UpdF dk ok news g) (hh : A.handled = none) (hroom : A.depth + 120 < recursionLimit) (hu : A.units + 720 < cLine)
    (hf : FrAt h₀ fr pl wt dk) (hc : CdAt h₀ cd k blk) (hB : BlockL Z blk l) (hs : ∀ q ∈ Z, h₀.get? q.1 = some q.2) (lo : (dk == sysModules) = false) (hK : Kn w h₀ dom fA fW ok n) (hn : n ≤ 1000) (hA : fA k = bwA wei cal l) (hW : fW k = bwW wei cal l) (hd : dom k)
    (h : ∀ a h' tk ok', Fr h₀ L h' m → News h₀ L h' (g ok') → Kn w h' dom fA fW ok' (n + 1) → PrAt h' a (bwA wei cal l) (bwW wei cal l) → Q (.ref a) { s with heap := h', toks := tk }) :
    wpAny (model PySem.Challenge.rw_qz0087_01.row.prog w) A (call (.ref 178) [.ref fr, .ref cd]) Q E s := by
  have hm : (dk, ok) ∈ news := by obtain ⟨pre, post, rfl, _⟩ := U.split; exact List.mem_append_right _ (.head _)
  refine wpAny_call (ws_c F.keep X T TW TC hwe hca hh hroom hu hf hc hB hs (N _ hm).1 (N _ hm).2.2 lo (hK.all F.keep) hn hA hW hd fun a h' tk ok' hb hd' k9 p9 => ?_)
  have fr := raw_frame F N U hb hd'
  exact h a h' tk ok' fr.1 fr.2 k9 p9
theorem die_leaves {env : Env} {outer : List Env} {h1 : Heap} {e de : Addr} {vs : Array Value} {sl : Array (Option Value)} {E' : Value → Shared → Prop} {Q' : Unit → Shared → Prop} (hA : A.frames = some outer) (hf : env.frame = some L) (hk : env.scope.kind = .function) (F : Fr h₀ L h1 m) (hst : Stk outer h1)
    (hb : ∀ b x, h1.get? b = some x → s.heap.get? b = some x) (he0 : h1.get? e = none) (he : s.heap.get? e = some ⟨.ref 51, some de, .fields vs, sl⟩) (hv : vs[1]? = some .none)
    (h : ∀ h', Trc (hideAll (hideAll s.heap [e]) [L]) h' (frs outer) e de .none → St (L :: frs outer) s.heap h' → Q' () { s with heap := h' }) : wpAny (model PySem.Challenge.rw_qz0087_01.row.prog w) (A.deeper env) (leaving env (.ref e)) Q' E' s := by
  have hns : s.heap.Ns L m := F.ns.at' fun o q => hb _ _ q
  have hstk : Stk (env :: outer) s.heap := Heap.FunFrames.cons (by rw [hk]; decide) hf hns (noHeap_get _) (Stk.keep (fun b _ o q => hb b o q) hst)
  refine leave_first (h₀ := hideAll s.heap [e]) (Around.frames_deeper hA) hstk hf he rfl rfl rfl hv (fun b o q => of_hideAll _ q) (hideAll_none _ (.head _)) fun h' t st => ?_
  have : frs (env :: outer) = L :: frs outer := by simp only [frs, List.filterMap_cons, hf]
  rw [this] at t st
  exact h h' t.less st
end
theorem Rz.of {w : World} {dom : Int → Prop} {fA fW : Int → Int} {n : Nat} {outer : List Env} {h h1 h4 h' : Heap} {e de L dk : Addr} {ok' : Obj} {es : List DictEntry} {m0 : Nat} {t : Tok} (tr : Trc (hideAll (hideAll h4 [e]) [L]) h' (frs outer) e de .none) (st : St (L :: frs outer) h4 h')
    (kp : ∀ b x, b ≠ dk → h.get? b = some x → h1.get? b = some x) (hb4 : ∀ b x, h1.get? b = some x → h4.get? b = some x) (he0 : h1.get? e = none) (hd0 : h1.get? de = none) (hne : de ≠ e) (nL : h.get? L = none) (hLo : ∃ o, h1.get? L = some o)
    (dN : h1.get? dk = some ok') (dL : dk ≠ L) (hdf : dk ∉ frs outer) (K9 : Kn w h1 dom fA fW ok' n) (hd : h4.get? de = some (dictOf es m0)) (hv : getL "value" es = some (some (.str "Deep recursion" t))) (hst1 : Stk outer h1) : Rz w dom fA fW (frs outer) dk n h h' e .none := by
  obtain ⟨oL, hLo⟩ := hLo
  have no {a : Addr} {o : Obj} (x : h1.get? a = some o) (y : h1.get? a = none) : False := by rw [x] at y; cases y
  have deL : de ≠ L := fun q => no hLo (q ▸ hd0)
  have def_ : de ∉ frs outer := fun hm => by
    obtain ⟨o, ho, _⟩ := Stk.mem hst1 hm
    exact no ho hd0
  have nk : de ≠ dk := fun q => no dN (q ▸ hd0)
  have nd : h.get? de = none := by
    cases q : h.get? de with
    | none => rfl
    | some x => exact (no (kp _ _ nk q) hd0).elim
  refine ⟨⟨de, ok', es, m0, t, tr.sub fun b x e1 => ?_, ?_, (K9.all hb4).st st, ?_, def_, hv, nd, nk⟩⟩
  · have hb : b ≠ dk := fun q => by rw [q, hideAll_none _ (.head _)] at e1; cases e1
    have e2 := of_hideAll _ e1
    refine hideAll_get _ (hideAll_get _ (hb4 _ _ (kp b x hb e2)) fun q => ?_) fun q => ?_
    · have z := List.mem_singleton.mp q
      exact no (kp b x hb e2) (z ▸ he0)
    · have z := List.mem_singleton.mp q
      rw [z, nL] at e2; cases e2
  · obtain ⟨kvs, hi, _⟩ := K9.ex
    obtain ⟨es9, ep9, _, hdt, _⟩ := hi
    exact (st dk ok' (fun vs q => by rw [hdt] at q; cases q) (hb4 _ _ dN)).2 fun hm => (List.mem_cons.mp hm).elim dL hdf
  · exact (st de _ (fun vs q => by cases q) hd).2 fun hm => (List.mem_cons.mp hm).elim deL def_
example : True := by
  k_with "subscriptTail" => first | (k_here; (with_reducible show wpAny _ _ (subscriptTail _ _ (Value.ref _) (Value.int (-1) _)) _ _ _); k_dflt (refine' last_fz ?Fzq ?Tzq ?zzq ?_; (case Fzq => k_asm); (case Tzq => with_reducible assumption); (case zzq => with_reducible assumption); k_whole)) | fail "no"
  k_with "subscriptTail" => first | ((k_here; (with_reducible show wpAny _ _ (subscriptTail _ _ (Value.ref _) (Value.int 1 _)) _ _ _); k_dflt (refine' item_pr1 ?Tzq ?_; (case Tzq => with_reducible assumption); k_whole); intro t9'); (try (revert t9'; intros))) | fail "no"
  k_with "call ref" => first | ((k_here; (with_reducible show wpAny _ _ (call (Value.ref 185) _) _ _ _); k_dflt (refine' pb_f ?Xzq ?Tzq ?Fzq ?Nzq ?fzq ?wzq ?rzq ?uzq ?c1zq ?c2zq ?c3zq ?c4zq ?_; (case Fzq => k_asm); (case Nzq => k_asm); (case Xzq => k_asm); (case Tzq => k_asm); (case fzq => with_reducible assumption); (case wzq => with_reducible assumption); (case c1zq => omega); (case c2zq => omega); (case c3zq => omega); (case c4zq => omega); (case rzq => (simp only [depth_deeper]; omega)); (case uzq => (simp only [units_deeper]; omega)); k_whole); intro h' tk' t' F' N' hb'); (try (revert h' tk' t' F' N' hb'; intros))) | fail "no"
  k_with "call ref" => first | ((k_here; (with_reducible show wpAny _ _ (call (Value.ref 178) _) _ _ _); k_dflt (refine' ws_f ?Xzq ?Tzq ?TWzq ?TCzq ?wezq ?cazq ?Fzq ?Nzq ?Uzq ?hhzq ?rzq ?uzq ?fzq ?czq ?Bzq ?hszq ?lozq ?Kzq ?nzq ?Azq ?Wzq ?dzq ?_; (case Fzq => k_asm); (case Nzq => k_asm); (case Uzq => k_updF); (case Xzq => k_asm); (case Tzq => k_asm); (case TWzq => with_reducible assumption); (case TCzq => with_reducible assumption); (case wezq => with_reducible assumption); (case cazq => with_reducible assumption); (case fzq => with_reducible assumption); (case czq => with_reducible assumption); (case Bzq => with_reducible assumption); (case hszq => with_reducible assumption); (case hhzq => assumption); (case lozq => with_reducible assumption); (case Kzq => with_reducible assumption); (case nzq => with_reducible assumption); (case Azq => with_reducible assumption); (case Wzq => with_reducible assumption); (case dzq => with_reducible assumption); (case rzq => (simp only [depth_deeper]; omega)); (case uzq => (simp only [units_deeper]; omega)); k_whole); intro a' h' tk' ok' F' N' K' P'; (try dsimp only at N')); (try (revert a' h' tk' ok' F' N' K' P'; intros))) | fail "no"
  k_with "exec Raise" => first | (k_here; k_dflt (refine' raise_inst ?hhzq ?_; (case hhzq => assumption); k_whole)) | fail "no"
  k_with "call ref" => first | ((k_here; (with_reducible show wpAny _ _ (call (Value.ref 51) _) _ _ _); k_dflt (refine' call_die ?kzq ?Xzq ?Tzq ?rzq ?uzq ?_; (case kzq => exact Fr.keep (by k_asm)); (case Xzq => k_asm); (case Tzq => k_asm); (case rzq => (simp only [depth_deeper]; omega)); (case uzq => (simp only [units_deeper]; omega)); k_whole); intro e' de' t' tk1' tk2' v1' h' tk' hb' he0' hd0' hne' he' hd'); (try (revert e' de' t' tk1' tk2' v1' h' tk' hb' he0' hd0' hne' he' hd'; intros))) | fail "no"
  trivial

set_option maxHeartbeats 8000000 in
theorem cp_c {w : World} {A : Around} {s : Shared} {H : Heap} {p : Program} {loose : List Str} {mg mb : Str → Option Value} {R : Result → Shared → Prop} {wei cal : Str → Option Int} {run lf fr wt dk cd : Addr} {pl a b k : Int} {blk : Value} {Z : List (Addr × Obj)} {l : DL} {dom : Int → Prop} {fA fW : Int → Int} {ok : Obj} {n : Nat} {outer : List Env}
    (hk : H.StaysIn s.heap) (X : (hd.heap_39 w.params).In H) (T : TopRead p loose mg mb H) (TW : TabI w H 136 wei) (TC : TabI w H 139 cal) (hwe : ∀ x i, wei x = some i → 0 ≤ i) (hca : ∀ x i, cal x = some i → 0 ≤ i) (hh : A.handled = none) (hroom : A.depth + 130 < recursionLimit) (hu : A.units + 730 < cLine)
    (hfr : A.frames = some outer) (hst : Stk outer s.heap) (hdf : dk ∉ frs outer)
    (hr : RnAt H run lf fr) (hf : FrAt H fr pl wt dk) (hw : PrAt H wt a b) (hc : CdAt H cd k blk) (hB : BlockL Z blk l) (hs : ∀ q ∈ Z, H.get? q.1 = some q.2) (hdk : s.heap.get? dk = some ok) (hH : H.get? dk = none) (lo : (dk == sysModules) = false) (hK : Kn w s.heap dom fA fW ok n) (hn : n ≤ 1000) (hA : fA k = bwA wei cal l) (hW : fW k = bwW wei cal l) (hd : dom k)
    (b1 : -1000000 ≤ pl) (b2 : pl ≤ 1000000) (b3 : -1000000 ≤ a) (b4 : a ≤ 1000000) (b5 : 0 ≤ bwW wei cal l) (b6 : bwW wei cal l ≤ 1000000)
    (hret : pl + a + 4 + bwW wei cal l + 10 ≤ 880 → ∀ h' tk ok', (∀ b x, b ≠ dk → s.heap.get? b = some x → h'.get? b = some x) → h'.get? dk = some ok' → Kn w h' dom fA fW ok' (n + 1) → R (.ok (.ret .none)) { s with heap := h', toks := tk })
    (herr : 880 < pl + a + 4 + bwW wei cal l + 10 → ∀ h' tk e, Rz w dom fA fW (frs outer) dk (n + 1) s.heap h' e .none → R (.error (.ref e)) { s with heap := h', toks := tk }) :
    codeAny (model PySem.Challenge.rw_qz0087_01.row.prog w) A (.call (.ref 192) ⟨[.ref run, .ref cd], []⟩) R s := by
  refine' call_raw (muts := [(dk, ok)]) hk ?km X T ?k6 ?k7 ?k8 ?k9 ?kB ?kD ?kh ?c2 ?c3 ?c4
  case km => intro q hq; rcases List.mem_singleton.mp hq with rfl; exact ⟨hdk, hH⟩
  case k6 => k_is
  case k7 => k_is
  case k8 => omega
  case k9 => exact BindsTo.of_eq rfl
  case kB => exact rfl
  case kD => decide +kernel
  case c2 => exact rfl
  case c3 => exact rfl
  case c4 => exact rfl
  intro g L' h₁ tk0 cells hg hL st X' T' F N Y l1

  have stg : H.StaysIn g := by
    rw [hg]
    intro b o e
    refine hideAll_get _ (hk b o e) fun q => ?_
    have : b = dk := by simpa using q
    rw [this, hH] at e; cases e
  have hfg := hf.keeps stg
  have hwg := hw.keeps stg
  have hcg := hc.keeps stg
  obtain ⟨dr, od, sl, fs, r1, r2, r3, r4, r5⟩ := (hr.keeps stg).ex
  replace hs : ∀ q ∈ Z, g.get? q.1 = some q.2 := fun q hq => stg _ _ (hs q hq)
  replace TW := TW.keeps stg
  replace TC := TC.keeps stg
  have kd : ok.cls = .type "dict" := by obtain ⟨_, k1, _⟩ := hK.ex; exact IsDictOf.cls k1
  have hK1 : Kn w g dom fA fW ok n := hK.to (fun b x hb e => by rw [hg]; exact hideAll_get _ e (mem_sing hb)) hdk kd
  cases Y
  simp only [List.nil_append] at N
  k_lt l1
  replace F : Fr g L' h₁ (fun y => if y = Str.ofString "code" then some (.ref cd) else if y = Str.ofString "run" then some (.ref run) else none) := F
  clear hf hw hc hr hK
  have nL : s.heap.get? L' = none := by
    cases q : s.heap.get? L' with
    | none => rfl
    | some x => have := Heap.lt_size q; rw [hL] at this; exact absurd this (Nat.lt_irrefl _)
  k_steps
  · rename_i ok' F9 N9 K9 P9 t9 hcond e9 de9 t0 u1 u2 v1 h4 tk4 hb4 he0 hd0 hne he hd
    exact (X'.keeps F9.keep).keeps hb4
  · rename_i ok' F9 N9 K9 P9 t9 hcond e9 de9 t0 u1 u2 v1 h4 tk4 hb4 he0 hd0 hne he hd
    have kp := raw_back1 hg F9
    have hst1 := Stk.keep (fun b hb o q => kp b o (fun z => hdf (z ▸ hb)) q) hst
    obtain ⟨oL, _, _, hLo, _⟩ := F9.ns
    exact die_leaves hfr rfl rfl F9 hst1 hb4 he0 he rfl fun h' tr st => herr (by omega) h' _ e9 (Rz.of tr st kp hb4 he0 hd0 hne nL ⟨oL, hLo⟩ (News.get N9 (.head _)) (N9 _ (.head _)).2.1 hdf K9 hd rfl hst1)
  · rename_i ok' F9 N9 K9 P9 t9 hcond
    exact hret (by omega) _ _ ok' (raw_back1 hg F9) (News.get N9 (.head _)) K9
-- Ob4
example : True := by
  k_with_none
  k_with "MEM" => with_reducible first | exact List.Mem.head _ | exact ym1 | exact ym2 | exact ym3 | exact ym4 | exact ym5 | exact ym6 | exact ym7 | exact ym8 | exact ym9 | exact ym10 | exact ym11 | exact ym12 | exact ym13 | exact ym14 | exact ym15 | fail "no"
  k_with "NE" => (refine neN ?_; (try dsimp only); first | assumption | (refine Ne.symm ?_; assumption) | exact Nat.ne_of_lt (by assumption) | exact Nat.ne_of_gt (by assumption) | (with_reducible first | exact Nat.ne_of_lt (zl1 (by assumption) (by decide)) | exact Nat.ne_of_gt (zl1 (by assumption) (by decide)) | exact za (by decide) | exact zb (by decide) | exact (zb (by decide)).symm | exact ze (by decide) | exact (ze (by decide)).symm | (refine Nat.ne_of_lt ?_; (repeat (first | (rename _ < _ ∧ _ => z8; revert z8; (repeat (first | exact And.left | refine cjt ?_)); done) | (rename _ < _ ∧ _ => z8; clear z8))); done) | (refine Nat.ne_of_gt ?_; (repeat (first | (rename _ < _ ∧ _ => z8; revert z8; (repeat (first | exact And.left | refine cjt ?_)); done) | (rename _ < _ ∧ _ => z8; clear z8))); done)) | ((repeat (first | exact neBy (by assumption) (by k_mem) | (rename ∀ p : Addr × Obj, p ∈ _ → p.1 ≠ _ => hz9; clear hz9))); done) | (refine Ne.symm ?_; (repeat (first | exact neBy (by assumption) (by k_mem) | (rename ∀ p : Addr × Obj, p ∈ _ → p.1 ≠ _ => hz9; clear hz9))); done) | omega)
  k_with "OM" => with_reducible first | assumption | exact zl0 (by assumption) | exact zl1 (by assumption) (by decide +kernel) | exact zl2 (by assumption) (by decide +kernel) | decide +kernel | exact Nat.le_trans (by assumption) (by decide +kernel) | exact zl4 (by assumption) (by decide +kernel) | exact Nat.lt_of_lt_of_le (by assumption) (by decide +kernel) | exact Nat.lt_of_le_of_lt (by assumption) (by decide +kernel) | exact Int.le_trans (by assumption) (by decide +kernel) | exact zl5 (by assumption) (by decide +kernel) | exact Int.lt_of_lt_of_le (by assumption) (by decide +kernel) | exact Int.lt_of_le_of_lt (by assumption) (by decide +kernel) | fail "no"
  k_with "ALL" => first | exact List.forall_mem_nil _ | exact zc (by k_ne) (by k_all) | fail "no"
  trivial
example : True := by
  k_with "getAttr ref" => first | (k_here; k_dflt (refine' get_fz ?Fzq ?Xzq ?h1zq ?h2zq ?gzq ?hhzq ?hazq ?hnzq ?hlzq ?hvzq ?_; (case Fzq => k_asm); (case Xzq => k_asm); (case h1zq => with_reducible assumption); (case h2zq => with_reducible assumption); (case gzq => k_is); (case hhzq => k_is); (case hazq => k_is); (case hnzq => k_is); (case hlzq => with_reducible assumption); (case hvzq => rfl); k_whole)) | fail "no"
  k_with "call builtin:isinstance" => first | (k_here; k_dflt (refine' isi_call ?k1zq ?k2zq ?k3zq ?k4zq ?_; (case k1zq => k_in); (case k2zq => (intro M; refine' InstAt.type (InstAt.of_fz ?F9zq ?h9zq ?g9zq); (case F9zq => k_asm); (case h9zq => with_reducible assumption); (case g9zq => with_reducible assumption))); (case k3zq => k_is); (case k4zq => intro e; cases e); k_whole)) | fail "no"
  k_with "call builtin:isinstance" => first | (k_here; (with_reducible show wpAny _ _ (call _ [Value.ref _, Value.ref _]) _ _ _); k_dflt (refine' isn_call (P := tupP _) ?k1zq ?k2zq ?k3zq ?k4zq ?k5zq tuple_cls ?_; (case k5zq => exact tupP_of (by k_asm) (by with_reducible assumption)); (case k1zq => k_in); (case k2zq => (intro M; exact tupP_ty (by k_asm) (by with_reducible assumption))); (case k3zq => k_not); (case k4zq => intro e; cases e); k_whole)) | fail "no"
  k_with "call builtin:isinstance" => first | ((k_here; (with_reducible show wpAny _ _ (call _ [Value.ref _, Value.type "tuple"]) _ _ _); k_dflt (refine' kia_one kitx_tuple ?Xzq ?pzq ?eezq ?nbzq ?_; (case pzq => exact tupP_of (by k_asm) (by with_reducible assumption)); (case Xzq => k_in); (case eezq => kit_is); (case nbzq => (intro q; cases q)); k_whole); intro tk9'); (try (revert tk9'; intros))) | fail "no"
  k_with "subscriptTail" => first | (k_here; (with_reducible show wpAny _ _ (subscriptTail _ _ (Value.ref _) (Value.int _ _)) _ _ _); k_dflt (refine' item_of ?Fzq ?Tzq ?azq ?bzq ?czq ?_; (case Fzq => k_asm); (case Tzq => with_reducible assumption); (case azq => decide); (case bzq => decide); (case czq => rfl); k_whole)) | fail "no"
  k_with "subscriptTail" => first | (k_here; (with_reducible show wpAny _ _ (subscriptTail _ _ (Value.ref _) (Value.int (-1) _)) _ _ _); k_dflt (refine' last_fz ?Fzq ?Tzq ?zzq ?_; (case Fzq => k_asm); (case Tzq => with_reducible assumption); (case zzq => with_reducible assumption); k_whole)) | fail "no"
  k_with "subscriptTail" => first | ((k_here; (with_reducible show wpAny _ _ (subscriptTail _ _ (Value.ref _) (Value.int 1 _)) _ _ _); k_dflt (refine' item_pr1 ?Tzq ?_; (case Tzq => with_reducible assumption); k_whole); intro t9'); (try (revert t9'; intros))) | fail "no"
  k_with "call ref" => first | ((k_here; (with_reducible show wpAny _ _ (call (Value.ref 185) _) _ _ _); k_dflt (refine' pb_f ?Xzq ?Tzq ?Fzq ?Nzq ?fzq ?wzq ?rzq ?uzq ?c1zq ?c2zq ?c3zq ?c4zq ?_; (case Fzq => k_asm); (case Nzq => k_asm); (case Xzq => k_asm); (case Tzq => k_asm); (case fzq => with_reducible assumption); (case wzq => with_reducible assumption); (case c1zq => omega); (case c2zq => omega); (case c3zq => omega); (case c4zq => omega); (case rzq => (simp only [depth_deeper]; omega)); (case uzq => (simp only [units_deeper]; omega)); k_whole); intro h' tk' t' F' N' hb'); (try (revert h' tk' t' F' N' hb'; intros))) | fail "no"
  k_with "call ref" => first | ((k_here; (with_reducible show wpAny _ _ (call (Value.ref 178) _) _ _ _); k_dflt (refine' ws_f ?Xzq ?Tzq ?TWzq ?TCzq ?wezq ?cazq ?Fzq ?Nzq ?Uzq ?hhzq ?rzq ?uzq ?fzq ?czq ?Bzq ?hszq ?lozq ?Kzq ?nzq ?Azq ?Wzq ?dzq ?_; (case Fzq => k_asm); (case Nzq => k_asm); (case Uzq => k_updF); (case Xzq => k_asm); (case Tzq => k_asm); (case TWzq => with_reducible assumption); (case TCzq => with_reducible assumption); (case wezq => with_reducible assumption); (case cazq => with_reducible assumption); (case fzq => with_reducible assumption); (case czq => with_reducible assumption); (case Bzq => with_reducible assumption); (case hszq => with_reducible assumption); (case hhzq => assumption); (case lozq => with_reducible assumption); (case Kzq => with_reducible assumption); (case nzq => with_reducible assumption); (case Azq => with_reducible assumption); (case Wzq => with_reducible assumption); (case dzq => with_reducible assumption); (case rzq => (simp only [depth_deeper]; omega)); (case uzq => (simp only [units_deeper]; omega)); k_whole); intro a' h' tk' ok' F' N' K' P'; (try dsimp only at N')); (try (revert a' h' tk' ok' F' N' K' P'; intros))) | fail "no"
  k_with "exec Raise" => first | (k_here; k_dflt (refine' raise_inst ?hhzq ?_; (case hhzq => assumption); k_whole)) | fail "no"
  k_with "call ref" => first | ((k_here; (with_reducible show wpAny _ _ (call (Value.ref 51) _) _ _ _); k_dflt (refine' call_die ?kzq ?Xzq ?Tzq ?rzq ?uzq ?_; (case kzq => exact Fr.keep (by k_asm)); (case Xzq => k_asm); (case Tzq => k_asm); (case rzq => (simp only [depth_deeper]; omega)); (case uzq => (simp only [units_deeper]; omega)); k_whole); intro e' de' t' tk1' tk2' v1' h' tk' hb' he0' hd0' hne' he' hd'); (try (revert e' de' t' tk1' tk2' v1' h' tk' hb' he0' hd0' hne' he' hd'; intros))) | fail "no"
  trivial

theorem min2_K {prog : Program} {w : World} {A : Around} {E : Value → Shared → Prop} {s : Shared} {h₀ : Heap} {L : Addr} {m : Str → Option Value} {news : List (Addr × Obj)} {a b : Int} {t u : Tok} {Q : Value → Shared → Prop} (F : Fr h₀ L s.heap m) (N : News h₀ L s.heap news) (hh : A.handled = none)
    (h : ∀ h' tk t', Fr h₀ L h' m → News h₀ L h' news → Q (.int (min a b) t') { s with heap := h', toks := tk }) : wpAny (model prog w) A (call (.builtin "min") [.int a t, .int b u]) Q E s := by
  refine PySem.min_two_ints hh fun h' tk hk => ?_
  have q := fun t' => h h' tk t' (F.keeps hk) (N.grown hk)
  by_cases hc : b < a
  · rw [if_pos hc]; have := q u; rwa [Int.min_eq_right (Int.le_of_lt hc)] at this
  · rw [if_neg hc]; have := q t; rwa [Int.min_eq_left (by omega)] at this
example : True := by
  k_with "call builtin:min" => first | ((k_here; (with_reducible show wpAny _ _ (call (Value.builtin _) [Value.int _ _, Value.int _ _]) _ _ _); k_dflt (refine' min2_K ?Fzq ?Nzq ?hzq ?_; (case Fzq => k_asm); (case Nzq => k_asm); (case hzq => assumption); k_whole); intro h' k' t' F' N'); (try (revert h' k' t' F' N'; intros))) | fail "no"
  trivial

set_option maxHeartbeats 8000000 in
theorem cr_c {w : World} {A : Around} {s : Shared} {H : Heap} {p : Program} {loose : List Str} {mg mb : Str → Option Value} {R : Result → Shared → Prop} {run lf fr wt dk : Addr} {pl a b : Int} {tx : Str} {tt : Tok} {nt : Int} {dom : Int → Prop} {fA fW : Int → Int} {ok : Obj} {n : Nat} {outer : List Env}
    (hk : H.StaysIn s.heap) (X : (hd.heap_39 w.params).In H) (T : TopRead p loose mg mb H) (hh : A.handled = none) (hroom : A.depth + 130 < recursionLimit) (hu : A.units + 730 < cLine)
    (hfr : A.frames = some outer) (hst : Stk outer s.heap) (hdf : dk ∉ frs outer)
    (hr : RnAt H run lf fr) (hf : FrAt H fr pl wt dk) (hw : PrAt H wt a b) (hdk : s.heap.get? dk = some ok) (hH : H.get? dk = none) (hK : Kn w s.heap dom fA fW ok n)
    (b1 : -1000000 ≤ pl) (b2 : pl ≤ 1000000) (b3 : -1000000 ≤ a) (b4 : a ≤ 1000000) (hx : (tx.length : Int) = nt) (hx2 : tx.length ≤ 1000)
    (hret : pl + a + 4 + min (5 * nt) 500 ≤ 880 → ∀ h' tk, (∀ b x, s.heap.get? b = some x → h'.get? b = some x) → R (.ok (.ret .none)) { s with heap := h', toks := tk })
    (herr : 880 < pl + a + 4 + min (5 * nt) 500 → ∀ h' tk e, Rz w dom fA fW (frs outer) dk n s.heap h' e .none → R (.error (.ref e)) { s with heap := h', toks := tk }) :
    codeAny (model PySem.Challenge.rw_qz0087_01.row.prog w) A (.call (.ref 206) ⟨[.ref run, .str tx tt], []⟩) R s := by
  refine' call_raw (muts := []) hk ?km X T ?k6 ?k7 ?k8 ?k9 ?kB ?kD ?kh ?c2 ?c3 ?c4
  case km => intro q hq; cases hq
  case k6 => k_is
  case k7 => k_is
  case k8 => omega
  case k9 => exact BindsTo.of_eq rfl
  case kB => exact rfl
  case kD => decide +kernel
  case c2 => exact rfl
  case c3 => exact rfl
  case c4 => exact rfl
  intro g L' h₁ tk0 cells hg hL st X' T' F N Y l1

  simp only [List.map_nil, hideAll] at hg
  subst hg
  clear l1
  have hfg := hf.keeps hk
  have hwg := hw.keeps hk
  obtain ⟨dr, od, sl, fs, r1, r2, r3, r4, r5⟩ := (hr.keeps hk).ex
  have kd : ok.cls = .type "dict" := by obtain ⟨_, k1, _⟩ := hK.ex; exact IsDictOf.cls k1
  cases Y
  simp only [List.nil_append] at N
  replace F : Fr s.heap L' h₁ (fun y => if y = Str.ofString "text" then some (.str tx tt) else if y = Str.ofString "run" then some (.ref run) else none) := F
  clear hf hw hr
  have nL : s.heap.get? L' = none := by
    cases q : s.heap.get? L' with
    | none => rfl
    | some x => have := Heap.lt_size q; rw [hL] at this; exact absurd this (Nat.lt_irrefl _)
  have dL : dk ≠ L' := fun q => by rw [q, nL] at hdk; cases hdk
  subst hx
  k_steps
  · rename_i F9 N9 hcond e9 de9 t0 u1 u2 v1 h4 tk4 hb4 he0 hd0 hne he hd
    exact (X'.keeps F9.keep).keeps hb4
  · rename_i F9 N9 hcond e9 de9 t0 u1 u2 v1 h4 tk4 hb4 he0 hd0 hne he hd
    have hst1 := Stk.keep (fun b hb o q => F9.keep b o q) hst
    obtain ⟨oL, _, _, hLo, _⟩ := F9.ns
    exact die_leaves hfr rfl rfl F9 hst1 hb4 he0 he rfl fun h' tr st => herr hcond h' _ e9 (Rz.of tr st (fun b x _ q => F9.keep b x q) hb4 he0 hd0 hne nL ⟨oL, hLo⟩ (F9.keep _ _ hdk) dL hdf (hK.all F9.keep) hd rfl hst1)
  · rename_i F9 N9 hcond
    exact hret (Int.not_lt.mp hcond) _ _ F9.keep
-- Ini
example : True := by
  k_with_none
  k_with "MEM" => with_reducible first | exact List.Mem.head _ | exact ym1 | exact ym2 | exact ym3 | exact ym4 | exact ym5 | exact ym6 | exact ym7 | exact ym8 | exact ym9 | exact ym10 | exact ym11 | exact ym12 | exact ym13 | exact ym14 | exact ym15 | fail "no"
  k_with "NE" => (refine neN ?_; (try dsimp only); first | assumption | (refine Ne.symm ?_; assumption) | exact Nat.ne_of_lt (by assumption) | exact Nat.ne_of_gt (by assumption) | (with_reducible first | exact Nat.ne_of_lt (zl1 (by assumption) (by decide)) | exact Nat.ne_of_gt (zl1 (by assumption) (by decide)) | exact za (by decide) | exact zb (by decide) | exact (zb (by decide)).symm | exact ze (by decide) | exact (ze (by decide)).symm | (refine Nat.ne_of_lt ?_; (repeat (first | (rename _ < _ ∧ _ => z8; revert z8; (repeat (first | exact And.left | refine cjt ?_)); done) | (rename _ < _ ∧ _ => z8; clear z8))); done) | (refine Nat.ne_of_gt ?_; (repeat (first | (rename _ < _ ∧ _ => z8; revert z8; (repeat (first | exact And.left | refine cjt ?_)); done) | (rename _ < _ ∧ _ => z8; clear z8))); done)) | ((repeat (first | exact neBy (by assumption) (by k_mem) | (rename ∀ p : Addr × Obj, p ∈ _ → p.1 ≠ _ => hz9; clear hz9))); done) | (refine Ne.symm ?_; (repeat (first | exact neBy (by assumption) (by k_mem) | (rename ∀ p : Addr × Obj, p ∈ _ → p.1 ≠ _ => hz9; clear hz9))); done) | omega)
  k_with "OM" => with_reducible first | assumption | exact zl0 (by assumption) | exact zl1 (by assumption) (by decide +kernel) | exact zl2 (by assumption) (by decide +kernel) | decide +kernel | exact Nat.le_trans (by assumption) (by decide +kernel) | exact zl4 (by assumption) (by decide +kernel) | exact Nat.lt_of_lt_of_le (by assumption) (by decide +kernel) | exact Nat.lt_of_le_of_lt (by assumption) (by decide +kernel) | exact Int.le_trans (by assumption) (by decide +kernel) | exact zl5 (by assumption) (by decide +kernel) | exact Int.lt_of_lt_of_le (by assumption) (by decide +kernel) | exact Int.lt_of_le_of_lt (by assumption) (by decide +kernel) | fail "no"
  k_with "ALL" => first | exact List.forall_mem_nil _ | exact zc (by k_ne) (by k_all) | fail "no"
  trivial
theorem raw_back2 {h g h' : Heap} {x dx : Addr} {ox od : Obj} {L : Addr} {m : Str → Option Value} (hg : g = hideAll h ([(x, ox), (dx, od)].map (·.1))) (F : Fr g L h' m) (hx : h.get? x = some ox) (hx' : h'.get? x = some ox) : ∀ b o, b ≠ dx → h.get? b = some o → h'.get? b = some o := fun b o hb e => by
  by_cases q : b = x
  · subst q; rw [hx] at e; cases e; exact hx'
  · exact raw_back hg F b o (by simp [q, hb]) e
set_option maxHeartbeats 8000000 in
theorem fi_c {w : World} {A : Around} {s : Shared} {H : Heap} {p : Program} {loose : List Str} {mg mb : Str → Option Value} {R : Result → Shared → Prop} {x dx : Addr} {v1 v2 v3 v4 v5 v6 : Value}
    (hk : H.StaysIn s.heap) (X : (hd.heap_39 w.params).In H) (T : TopRead p loose mg mb H) (hroom : A.depth + 10 < recursionLimit) (hu : A.units + 20 < cLine)
    (hx : s.heap.get? x = some (instObj 157 dx)) (hd : s.heap.get? dx = some (dictOf [] 0)) (hxH : H.get? x = none) (hdH : H.get? dx = none)
    (hret : ∀ h' tk k1 k2 k3 k4 k5 k6, (∀ b o, b ≠ dx → s.heap.get? b = some o → h'.get? b = some o) → h'.get? dx = some (dictOf [⟨PyData.keyHash w.params "pad", .str "pad" k1, v1⟩, ⟨PyData.keyHash w.params "args", .str "args" k2, v2⟩, ⟨PyData.keyHash w.params "want", .str "want" k3, v3⟩, ⟨PyData.keyHash w.params "code", .str "code" k4, v4⟩, ⟨PyData.keyHash w.params "package", .str "package" k5, v5⟩, ⟨PyData.keyHash w.params "line", .str "line" k6, v6⟩] 6) → R (.ok (.ret .none)) { s with heap := h', toks := tk }) :
    codeAny (model PySem.Challenge.rw_qz0087_01.row.prog w) A (.call (.ref 67) ⟨[.ref x, v1, v2, v3, v4, v5, v6], []⟩) R s := by
  have nx : @Ne Nat x dx := fun q => by replace q : x = dx := q; rw [q, hd] at hx; cases hx
  revert X; k_fill; intro X
  refine' call_raw (muts := [(x, instObj 157 dx), (dx, dictOf [] 0)]) hk ?km X T ?k6 ?k7 ?k8 ?k9 ?kB ?kD ?kh ?c2 ?c3 ?c4
  case km => (intro q hq; rcases List.mem_cons.mp hq with rfl | hq; exact ⟨hx, hxH⟩; rcases List.mem_singleton.mp hq with rfl; exact ⟨hd, hdH⟩)
  case k6 => k_is
  case k7 => k_is
  case k8 => omega
  case k9 => exact BindsTo.of_eq rfl
  case kB => exact rfl
  case kD => decide +kernel
  case c2 => exact rfl
  case c3 => exact rfl
  case c4 => exact rfl
  intro g L' h₁ tk0 cells hg hL st X' T' F N Y l1

  cases Y
  simp only [List.nil_append] at N
  k_lt l1
  replace F : Fr g L' h₁ (fun y => if y = Str.ofString "line" then some v6 else if y = Str.ofString "package" then some v5 else if y = Str.ofString "code" then some v4 else if y = Str.ofString "want" then some v3 else if y = Str.ofString "args" then some v2 else if y = Str.ofString "pad" then some v1 else if y = Str.ofString "self" then some (.ref x) else none) := F
  k_steps
  rename_i F9 N9
  exact hret _ _ _ _ _ _ _ _ (raw_back2 hg F9 hx (News.get N9 (by k_mem))) (News.get N9 (by k_mem))
section
variable {w : World} {p : Program} {loose : List Str} {mg mb : Str → Option Value} {A : Around} {E : Value → Shared → Prop} {s : Shared} {h₀ : Heap} {L : Addr} {m : Str → Option Value} {news : List (Addr × Obj)} {g : Obj → List (Addr × Obj)} {Q : Value → Shared → Prop}
theorem fi_f {x dx : Addr} {v1 v2 v3 v4 v5 v6 : Value} (X : (hd.heap_39 w.params).In h₀) (T : TopRead p loose mg mb h₀) (F : Fr h₀ L s.heap m) (N : News h₀ L s.heap news) (U : UpdF dx (dictOf [] 0) news g) (hx : (x, instObj 157 dx) ∈ news) (hroom : A.depth + 10 < recursionLimit) (hu : A.units + 20 < cLine)
    (h : ∀ h' tk k1 k2 k3 k4 k5 k6, Fr h₀ L h' m → News h₀ L h' (g (dictOf [⟨PyData.keyHash w.params "pad", .str "pad" k1, v1⟩, ⟨PyData.keyHash w.params "args", .str "args" k2, v2⟩, ⟨PyData.keyHash w.params "want", .str "want" k3, v3⟩, ⟨PyData.keyHash w.params "code", .str "code" k4, v4⟩, ⟨PyData.keyHash w.params "package", .str "package" k5, v5⟩, ⟨PyData.keyHash w.params "line", .str "line" k6, v6⟩] 6)) → Q .none { s with heap := h', toks := tk }) :
    wpAny (model PySem.Challenge.rw_qz0087_01.row.prog w) A (call (.ref 67) [.ref x, v1, v2, v3, v4, v5, v6]) Q E s := by
  have hm : (dx, dictOf [] 0) ∈ news := by obtain ⟨pre, post, rfl, _⟩ := U.split; exact List.mem_append_right _ (.head _)
  refine wpAny_call (fi_c F.keep X T hroom hu (N _ hx).1 (N _ hm).1 (N _ hx).2.2 (N _ hm).2.2 fun h' tk k1 k2 k3 k4 k5 k6 hb hd => ?_)
  have fr := raw_frame F N U hb hd
  exact h h' tk k1 k2 k3 k4 k5 k6 fr.1 fr.2
end
example : True := by
  k_with "call ref" => first | ((k_here; (with_reducible show wpAny _ _ (call (Value.ref 67) _) _ _ _); k_dflt (refine' fi_f ?Xzq ?Tzq ?Fzq ?Nzq ?Uzq ?xzq ?rzq ?uzq ?_; (case Fzq => k_asm); (case Nzq => k_asm); (case xzq => k_mem); (case Uzq => k_updF); (case Xzq => k_asm); (case Tzq => k_asm); (case rzq => (simp only [depth_deeper]; omega)); (case uzq => (simp only [units_deeper]; omega)); k_whole); intro h' tk' k1' k2' k3' k4' k5' k6' F' N'; (try dsimp only at N')); (try (revert h' tk' k1' k2' k3' k4' k5' k6' F' N'; intros))) | fail "no"
  trivial
set_option maxHeartbeats 8000000 in
theorem ci_c {w : World} {A : Around} {s : Shared} {H : Heap} {p : Program} {loose : List Str} {mg mb : Str → Option Value} {R : Result → Shared → Prop} {x dx : Addr} {v1 v2 v3 v4 v5 v6 : Value}
    (hk : H.StaysIn s.heap) (X : (hd.heap_39 w.params).In H) (T : TopRead p loose mg mb H) (hroom : A.depth + 20 < recursionLimit) (hu : A.units + 40 < cLine)
    (hx : s.heap.get? x = some (instObj 157 dx)) (hd : s.heap.get? dx = some (dictOf [] 0)) (hxH : H.get? x = none) (hdH : H.get? dx = none)
    (hret : ∀ h' tk k1 k2 k3 k4 k5 k6 k7 k8 k9 k10 dk ok, (∀ b o, b ≠ dx → s.heap.get? b = some o → h'.get? b = some o) → h'.get? dx = some (dictOf [⟨PyData.keyHash w.params "pad", .str "pad" k1, v1⟩, ⟨PyData.keyHash w.params "args", .str "args" k2, v2⟩, ⟨PyData.keyHash w.params "want", .str "want" k3, v3⟩, ⟨PyData.keyHash w.params "code", .str "code" k4, v4⟩, ⟨PyData.keyHash w.params "package", .str "package" k5, v5⟩, ⟨PyData.keyHash w.params "line", .str "line" k6, v6⟩, ⟨PyData.keyHash w.params "piled", .str "piled" k7, .int 0 k10⟩, ⟨PyData.keyHash w.params "weights", .str "weights" k8, .ref 140⟩, ⟨PyData.keyHash w.params "known", .str "known" k9, .ref dk⟩] 9) → s.heap.get? dk = none → h'.get? dk = some ok → ok.IsDictOf (intKind PySem.Challenge.rw_qz0087_01.row.prog w) [] → (dk == sysModules) = false → R (.ok (.ret .none)) { s with heap := h', toks := tk }) :
    codeAny (model PySem.Challenge.rw_qz0087_01.row.prog w) A (.call (.ref 154) ⟨[.ref x, v1, v2, v3, v4, v5, v6], []⟩) R s := by
  have nx : @Ne Nat x dx := fun q => by replace q : x = dx := q; rw [q, hd] at hx; cases hx
  refine' call_raw (muts := [(x, instObj 157 dx), (dx, dictOf [] 0)]) hk ?km X T ?k6 ?k7 ?k8 ?k9 ?kB ?kD ?kh ?c2 ?c3 ?c4
  case km => (intro q hq; rcases List.mem_cons.mp hq with rfl | hq; exact ⟨hx, hxH⟩; rcases List.mem_singleton.mp hq with rfl; exact ⟨hd, hdH⟩)
  case k6 => k_is
  case k7 => k_is
  case k8 => omega
  case k9 => exact BindsTo.of_eq rfl
  case kB => exact rfl
  case kD => decide +kernel
  case c2 => exact rfl
  case c3 => exact rfl
  case c4 => exact rfl
  intro g L' h₁ tk0 cells hg hL st X' T' F N Y l1

  cases Y
  simp only [List.nil_append] at N
  k_lt l1
  replace F : Fr g L' h₁ (fun y => if y = Str.ofString "line" then some v6 else if y = Str.ofString "package" then some v5 else if y = Str.ofString "code" then some v4 else if y = Str.ofString "want" then some v3 else if y = Str.ofString "args" then some v2 else if y = Str.ofString "pad" then some v1 else if y = Str.ofString "self" then some (.ref x) else none) := F
  k_steps
  rename_i d9 h8 o9 lo hs fs hi fi l9 h9 F9 N9
  have nd : d9 ≠ x ∧ d9 ≠ dx := ⟨Nat.ne_of_gt l9.1, Nat.ne_of_gt l9.2.1⟩
  exact hret _ _ _ _ _ _ _ _ _ _ _ _ d9 o9 (raw_back2 hg F9 hx (News.get N9 (by k_mem))) (News.get N9 (by k_mem)) (hid_new hg (News.fresh N9 (.head _)) (by simp [nd.1, nd.2])) (News.get N9 (.head _)) hi lo
section
variable {w : World} {p : Program} {loose : List Str} {mg mb : Str → Option Value} {A : Around} {E : Value → Shared → Prop} {s : Shared} {h₀ : Heap} {L : Addr} {m : Str → Option Value} {news : List (Addr × Obj)} {Q : Value → Shared → Prop}
theorem mk_frame {v1 v2 v3 v4 v5 v6 : Value} (X : (hd.heap_39 w.params).In h₀) (T : TopRead p loose mg mb h₀) (F : Fr h₀ L s.heap m) (N : News h₀ L s.heap news) (hroom : A.depth + 30 < recursionLimit) (hu : A.units + 60 < cLine)
    (h : ∀ x dx dk ok h' tk k1 k2 k3 k4 k5 k6 k7 k8 k9 k10, Fr h₀ L h' m → News h₀ L h' ((dk, ok) :: (x, instObj 157 dx) :: (dx, dictOf [⟨PyData.keyHash w.params "pad", .str "pad" k1, v1⟩, ⟨PyData.keyHash w.params "args", .str "args" k2, v2⟩, ⟨PyData.keyHash w.params "want", .str "want" k3, v3⟩, ⟨PyData.keyHash w.params "code", .str "code" k4, v4⟩, ⟨PyData.keyHash w.params "package", .str "package" k5, v5⟩, ⟨PyData.keyHash w.params "line", .str "line" k6, v6⟩, ⟨PyData.keyHash w.params "piled", .str "piled" k7, .int 0 k10⟩, ⟨PyData.keyHash w.params "weights", .str "weights" k8, .ref 140⟩, ⟨PyData.keyHash w.params "known", .str "known" k9, .ref dk⟩] 9) :: news) → AllLt dx news → @LT.lt Nat _ dx x → @Ne Nat dk x → @Ne Nat dk dx → (∀ p ∈ news, @Ne Nat p.1 dk) → ok.IsDictOf (intKind PySem.Challenge.rw_qz0087_01.row.prog w) [] → (dk == sysModules) = false → Q (.ref x) { s with heap := h', toks := tk }) :
    wpAny (model PySem.Challenge.rw_qz0087_01.row.prog w) A (call (.ref 157) [v1, v2, v3, v4, v5, v6]) Q E s := by
  have e1 : makesIn (hd.heap_39 w.params) 157 = true := by rfl
  have e2 : findIn (hd.heap_39 w.params) (.ref 157) "__init__" = some (some (.ref 154)) := by rfl
  have e3 : isFn (hd.heap_39 w.params) (.ref 154) = true := by rfl
  refine call_cls (K := hd.heap_39 w.params) F X N e1 e2 e3 fun x dx h1 F1 N1 l1 l2 => ?_
  have nx : dx ≠ x := Nat.ne_of_lt l2
  refine ci_c F1.keep X T (by rw [depth_under_make]; omega) (by rw [units_under_make]; omega) (News.get N1 (.head _)) (News.get N1 (ym1)) (News.fresh N1 (.head _)) (News.fresh N1 (ym1)) fun h2 tk k1 k2 k3 k4 k5 k6 k7 k8 k9 k10 dk ok hb hd hf hk hi lo => ⟨rfl, ?_⟩
  have fr := raw_frame F1 N1 (g := fun o => (x, instObj 157 dx) :: (dx, o) :: news) (UpdF.tail nx.symm (UpdF.head fun p hp => Nat.ne_of_lt (l1 p hp))) hb hd
  have ne : ∀ p ∈ (x, instObj 157 dx) :: (dx, dictOf [] 0) :: news, p.1 ≠ dk := fun p hp q => by
    have := (N1 p hp).1; rw [q, hf] at this; cases this
  refine h x dx dk ok h2 tk k1 k2 k3 k4 k5 k6 k7 k8 k9 k10 fr.1 (fun q hq => ?_) (allLt_of l1) l2 (fun q => ne _ (.head _) q.symm) (fun q => ne _ (ym1) q.symm) (fun p hp => ne p (.tail _ (.tail _ hp))) hi lo
  rcases List.mem_cons.mp hq with rfl | hq
  · refine ⟨hk, fun q => ?_, ?_⟩
    · replace q : dk = L := q
      obtain ⟨oL, _, _, hL, _⟩ := F1.ns
      rw [q, hL] at hf; cases hf
    · cases q : h₀.get? dk with
      | none => rfl
      | some o => have := F1.keep _ _ q; rw [hf] at this; cases this
  · exact fr.2 q hq
end
-- Cf
example : True := by
  k_with_none
  k_with "MEM" => with_reducible first | exact List.Mem.head _ | exact ym1 | exact ym2 | exact ym3 | exact ym4 | exact ym5 | exact ym6 | exact ym7 | exact ym8 | exact ym9 | exact ym10 | exact ym11 | exact ym12 | exact ym13 | exact ym14 | exact ym15 | fail "no"
  k_with "NE" => (refine neN ?_; (try dsimp only); first | assumption | (refine Ne.symm ?_; assumption) | exact Nat.ne_of_lt (by assumption) | exact Nat.ne_of_gt (by assumption) | (with_reducible first | exact Nat.ne_of_lt (zl1 (by assumption) (by decide)) | exact Nat.ne_of_gt (zl1 (by assumption) (by decide)) | exact za (by decide) | exact zb (by decide) | exact (zb (by decide)).symm | exact ze (by decide) | exact (ze (by decide)).symm | (refine Nat.ne_of_lt ?_; (repeat (first | (rename _ < _ ∧ _ => z8; revert z8; (repeat (first | exact And.left | refine cjt ?_)); done) | (rename _ < _ ∧ _ => z8; clear z8))); done) | (refine Nat.ne_of_gt ?_; (repeat (first | (rename _ < _ ∧ _ => z8; revert z8; (repeat (first | exact And.left | refine cjt ?_)); done) | (rename _ < _ ∧ _ => z8; clear z8))); done)) | ((repeat (first | exact neBy (by assumption) (by k_mem) | (rename ∀ p : Addr × Obj, p ∈ _ → p.1 ≠ _ => hz9; clear hz9))); done) | (refine Ne.symm ?_; (repeat (first | exact neBy (by assumption) (by k_mem) | (rename ∀ p : Addr × Obj, p ∈ _ → p.1 ≠ _ => hz9; clear hz9))); done) | omega)
  k_with "OM" => with_reducible first | assumption | exact zl0 (by assumption) | exact zl1 (by assumption) (by decide +kernel) | exact zl2 (by assumption) (by decide +kernel) | decide +kernel | exact Nat.le_trans (by assumption) (by decide +kernel) | exact zl4 (by assumption) (by decide +kernel) | exact Nat.lt_of_lt_of_le (by assumption) (by decide +kernel) | exact Nat.lt_of_le_of_lt (by assumption) (by decide +kernel) | exact Int.le_trans (by assumption) (by decide +kernel) | exact zl5 (by assumption) (by decide +kernel) | exact Int.lt_of_lt_of_le (by assumption) (by decide +kernel) | exact Int.lt_of_le_of_lt (by assumption) (by decide +kernel) | fail "no"
  k_with "ALL" => first | exact List.forall_mem_nil _ | exact zc (by k_ne) (by k_all) | fail "no"
  trivial
example : True := by
  k_with "getAttr ref" => first | (k_here; k_dflt (refine' get_fz ?Fzq ?Xzq ?h1zq ?h2zq ?gzq ?hhzq ?hazq ?hnzq ?hlzq ?hvzq ?_; (case Fzq => k_asm); (case Xzq => k_asm); (case h1zq => with_reducible assumption); (case h2zq => with_reducible assumption); (case gzq => k_is); (case hhzq => k_is); (case hazq => k_is); (case hnzq => k_is); (case hlzq => with_reducible assumption); (case hvzq => rfl); k_whole)) | fail "no"
  k_with "call builtin:isinstance" => first | (k_here; k_dflt (refine' isi_call ?k1zq ?k2zq ?k3zq ?k4zq ?_; (case k1zq => k_in); (case k2zq => (intro M; refine' InstAt.type (InstAt.of_fz ?F9zq ?h9zq ?g9zq); (case F9zq => k_asm); (case h9zq => with_reducible assumption); (case g9zq => with_reducible assumption))); (case k3zq => k_is); (case k4zq => intro e; cases e); k_whole)) | fail "no"
  k_with "call builtin:isinstance" => first | (k_here; (with_reducible show wpAny _ _ (call _ [Value.ref _, Value.ref _]) _ _ _); k_dflt (refine' isn_call (P := tupP _) ?k1zq ?k2zq ?k3zq ?k4zq ?k5zq tuple_cls ?_; (case k5zq => exact tupP_of (by k_asm) (by with_reducible assumption)); (case k1zq => k_in); (case k2zq => (intro M; exact tupP_ty (by k_asm) (by with_reducible assumption))); (case k3zq => k_not); (case k4zq => intro e; cases e); k_whole)) | fail "no"
  k_with "call builtin:isinstance" => first | ((k_here; (with_reducible show wpAny _ _ (call _ [Value.ref _, Value.type "tuple"]) _ _ _); k_dflt (refine' kia_one kitx_tuple ?Xzq ?pzq ?eezq ?nbzq ?_; (case pzq => exact tupP_of (by k_asm) (by with_reducible assumption)); (case Xzq => k_in); (case eezq => kit_is); (case nbzq => (intro q; cases q)); k_whole); intro tk9'); (try (revert tk9'; intros))) | fail "no"
  k_with "subscriptTail" => first | (k_here; (with_reducible show wpAny _ _ (subscriptTail _ _ (Value.ref _) (Value.int _ _)) _ _ _); k_dflt (refine' item_of ?Fzq ?Tzq ?azq ?bzq ?czq ?_; (case Fzq => k_asm); (case Tzq => with_reducible assumption); (case azq => decide); (case bzq => decide); (case czq => rfl); k_whole)) | fail "no"
  k_with "subscriptTail" => first | (k_here; (with_reducible show wpAny _ _ (subscriptTail _ _ (Value.ref _) (Value.int (-1) _)) _ _ _); k_dflt (refine' last_fz ?Fzq ?Tzq ?zzq ?_; (case Fzq => k_asm); (case Tzq => with_reducible assumption); (case zzq => with_reducible assumption); k_whole)) | fail "no"
  k_with "subscriptTail" => first | ((k_here; (with_reducible show wpAny _ _ (subscriptTail _ _ (Value.ref _) (Value.int 1 _)) _ _ _); k_dflt (refine' item_pr1 ?Tzq ?_; (case Tzq => with_reducible assumption); k_whole); intro t9'); (try (revert t9'; intros))) | fail "no"
  k_with "call ref" => first | ((k_here; (with_reducible show wpAny _ _ (call (Value.ref 185) _) _ _ _); k_dflt (refine' pb_f ?Xzq ?Tzq ?Fzq ?Nzq ?fzq ?wzq ?rzq ?uzq ?c1zq ?c2zq ?c3zq ?c4zq ?_; (case Fzq => k_asm); (case Nzq => k_asm); (case Xzq => k_asm); (case Tzq => k_asm); (case fzq => with_reducible assumption); (case wzq => with_reducible assumption); (case c1zq => omega); (case c2zq => omega); (case c3zq => omega); (case c4zq => omega); (case rzq => (simp only [depth_deeper]; omega)); (case uzq => (simp only [units_deeper]; omega)); k_whole); intro h' tk' t' F' N' hb'); (try (revert h' tk' t' F' N' hb'; intros))) | fail "no"
  k_with "call ref" => first | ((k_here; (with_reducible show wpAny _ _ (call (Value.ref 178) _) _ _ _); k_dflt (refine' ws_f ?Xzq ?Tzq ?TWzq ?TCzq ?wezq ?cazq ?Fzq ?Nzq ?Uzq ?hhzq ?rzq ?uzq ?fzq ?czq ?Bzq ?hszq ?lozq ?Kzq ?nzq ?Azq ?Wzq ?dzq ?_; (case Fzq => k_asm); (case Nzq => k_asm); (case Uzq => k_updF); (case Xzq => k_asm); (case Tzq => k_asm); (case TWzq => with_reducible assumption); (case TCzq => with_reducible assumption); (case wezq => with_reducible assumption); (case cazq => with_reducible assumption); (case fzq => with_reducible assumption); (case czq => with_reducible assumption); (case Bzq => with_reducible assumption); (case hszq => with_reducible assumption); (case hhzq => assumption); (case lozq => with_reducible assumption); (case Kzq => with_reducible assumption); (case nzq => with_reducible assumption); (case Azq => with_reducible assumption); (case Wzq => with_reducible assumption); (case dzq => with_reducible assumption); (case rzq => (simp only [depth_deeper]; omega)); (case uzq => (simp only [units_deeper]; omega)); k_whole); intro a' h' tk' ok' F' N' K' P'; (try dsimp only at N')); (try (revert a' h' tk' ok' F' N' K' P'; intros))) | fail "no"
  trivial

section
variable {w : World} {p : Program} {loose : List Str} {mg mb : Str → Option Value} {A : Around} {E : Value → Shared → Prop} {s : Shared} {h₀ : Heap} {L : Addr} {m : Str → Option Value} {news Z : List (Addr × Obj)} {g : Obj → List (Addr × Obj)} {wei cal : Str → Option Int} {Q : Value → Shared → Prop}
theorem hide_stay {h₀ h : Heap} {L dk : Addr} {m : Str → Option Value} {ok : Obj} {news : List (Addr × Obj)} (F : Fr h₀ L h m) (N : News h₀ L h news) (hm : (dk, ok) ∈ news) : h₀.StaysIn (hideAll h [dk]) := fun b o e => hideAll_get _ (F.keep _ _ e) fun q => by
  rw [List.mem_singleton.mp q, (N _ hm).2.2] at e; cases e
theorem fr_led {h : Heap} {x dx dk wt : Addr} {es : List DictEntry} {n0 : Nat} {pl : Int} {tp tl : Tok} {news : List (Addr × Obj)} (N : News h₀ L h news) (hx : (x, instObj 157 dx) ∈ news) (hdx : (dx, dictOf es n0) ∈ news) (n1 : @Ne Nat x dk) (n2 : @Ne Nat dx dk)
    (e1 : getL "piled" es = some (some (.int pl tp))) (e2 : getL "weights" es = some (some (.ref wt))) (e3 : getL "known" es = some (some (.ref dk))) (e4 : getL "line" es = some (some (.int 1 tl))) (hz : es.length ≤ 100) : FrAt (hideAll h [dk]) x pl wt dk :=
  ⟨⟨dx, dictOf es n0, #[], tp, tl, hideAll_get _ (N _ hx).1 fun q => n1 (List.mem_singleton.mp q), hideAll_get _ (N _ hdx).1 fun q => n2 (List.mem_singleton.mp q), e1, e2, e3, e4, es, n0, rfl, hz⟩⟩
theorem ws_n {x dx wt dk cd : Addr} {es : List DictEntry} {n0 : Nat} {tp tl : Tok} {pl k : Int} {blk : Value} {l : DL} {dom : Int → Prop} {fA fW : Int → Int} {ok : Obj} {n : Nat} (X : (hd.heap_39 w.params).In h₀) (T : TopRead p loose mg mb h₀) (TW : TabI w h₀ 136 wei) (TC : TabI w h₀ 139 cal) (hwe : ∀ x i, wei x = some i → 0 ≤ i) (hca : ∀ x i, cal x = some i → 0 ≤ i)
    (F : Fr h₀ L s.heap m) (N : News h₀ L s.heap news) (hx : (x, instObj 157 dx) ∈ news) (hdx : (dx, dictOf es n0) ∈ news) (e3 : getL "known" es = some (some (.ref dk))) (U : UpdF dk ok news g) (hh : A.handled = none) (hroom : A.depth + 120 < recursionLimit) (hu : A.units + 720 < cLine)
    (n1 : @Ne Nat x dk) (n2 : @Ne Nat dx dk) (e1 : getL "piled" es = some (some (.int pl tp))) (e2 : getL "weights" es = some (some (.ref wt))) (e4 : getL "line" es = some (some (.int 1 tl))) (hz : es.length ≤ 100)
    (hc : CdAt h₀ cd k blk) (hB : BlockL Z blk l) (hs : ∀ q ∈ Z, h₀.get? q.1 = some q.2) (lo : (dk == sysModules) = false) (hK : Kn w h₀ dom fA fW ok n) (hn : n ≤ 1000) (hA : fA k = bwA wei cal l) (hW : fW k = bwW wei cal l) (hd : dom k)
    (h : ∀ a h' tk ok', Fr h₀ L h' m → News h₀ L h' (g ok') → Kn w h' dom fA fW ok' (n + 1) → PrAt h' a (bwA wei cal l) (bwW wei cal l) → Q (.ref a) { s with heap := h', toks := tk }) :
    wpAny (model PySem.Challenge.rw_qz0087_01.row.prog w) A (call (.ref 178) [.ref x, .ref cd]) Q E s := by
  have hm : (dk, ok) ∈ news := by obtain ⟨pre, post, rfl, _⟩ := U.split; exact List.mem_append_right _ (.head _)
  have st := hide_stay F N hm
  refine wpAny_call (ws_c (H := hideAll s.heap [dk]) (fun b o e => of_hideAll _ e) (X.keeps st) (T.keeps st) (TW.keeps st) (TC.keeps st) hwe hca hh hroom hu (fr_led N hx hdx n1 n2 e1 e2 e3 e4 hz) (hc.keeps st) hB (fun q hq => st _ _ (hs q hq)) (N _ hm).1 (hideAll_none _ (.head _)) lo (hK.all F.keep) hn hA hW hd fun a h' tk ok' hb hd' k9 p9 => ?_)
  have fr := raw_frame F N U hb hd'
  exact h a h' tk ok' fr.1 fr.2 k9 p9
end
example : True := by
  k_with "call ref" => first | ((k_here; (with_reducible show wpAny _ _ (call (Value.ref 157) _) _ _ _); k_dflt (refine' mk_frame ?Xzq ?Tzq ?Fzq ?Nzq ?rzq ?uzq ?_; (case Fzq => k_asm); (case Nzq => k_asm); (case Xzq => k_asm); (case Tzq => k_asm); (case rzq => (simp only [depth_deeper]; omega)); (case uzq => (simp only [units_deeper]; omega)); k_whole); intro x' dx' dk' ok' h' tk' k1' k2' k3' k4' k5' k6' k7' k8' k9' k10' F' N' lt' l2' n1' n2' n3' hi' lo'; (try dsimp only [AllLt] at lt'); (try simp only [List.forall_mem_cons, List.not_mem_nil, false_imp_iff, implies_true, and_true] at n3')); (try (revert x' dx' dk' ok' h' tk' k1' k2' k3' k4' k5' k6' k7' k8' k9' k10' F' N' lt' l2' n1' n2' n3' hi' lo'; intros))) | fail "no"
  k_with "call ref" => first | ((k_here; (with_reducible show wpAny _ _ (call (Value.ref 178) _) _ _ _); k_dflt (refine' ws_n ?Xzq ?Tzq ?TWzq ?TCzq ?wezq ?cazq ?Fzq ?Nzq ?xzq ?dxzq ?e3zq ?Uzq ?hhzq ?rzq ?uzq ?n1zq ?n2zq ?e1zq ?e2zq ?e4zq ?hzzq ?czq ?Bzq ?hszq ?lozq ?Kzq ?nzq ?Azq ?Wzq ?dzq ?_; (case Fzq => k_asm); (case Nzq => k_asm); (case xzq => k_mem); (case dxzq => k_mem); (case e3zq => k_get); (case Uzq => k_updF); (case n1zq => omega); (case n2zq => omega); (case e1zq => k_get); (case e2zq => k_get); (case e4zq => k_get); (case hzzq => exact Nat.le_of_ble_eq_true rfl); (case Xzq => k_asm); (case Tzq => k_asm); (case TWzq => with_reducible assumption); (case TCzq => with_reducible assumption); (case wezq => with_reducible assumption); (case cazq => with_reducible assumption); (case czq => with_reducible assumption); (case Bzq => with_reducible assumption); (case hszq => with_reducible assumption); (case hhzq => assumption); (case lozq => with_reducible assumption); (case Kzq => with_reducible assumption); (case nzq => with_reducible assumption); (case Azq => with_reducible assumption); (case Wzq => with_reducible assumption); (case dzq => with_reducible assumption); (case rzq => (simp only [depth_deeper]; omega)); (case uzq => (simp only [units_deeper]; omega)); k_whole); intro a' h' tk' ok' F' N' K' P'; (try dsimp only at N')); (try (revert a' h' tk' ok' F' N' K' P'; intros))) | fail "no"
  trivial

noncomputable def restOf (h₀ h : Heap) (L d : Addr) : List (Addr × Obj) := (List.range h.objs.size).filterMap fun b => match h.get? b with
  | some o => if b ≠ L ∧ b ≠ d ∧ h₀.get? b = none then some (b, o) else none
  | none => none
theorem restOf_mem {h₀ h : Heap} {L d b : Addr} {o : Obj} : (b, o) ∈ restOf h₀ h L d ↔ h.get? b = some o ∧ b ≠ L ∧ b ≠ d ∧ h₀.get? b = none := by
  unfold restOf
  rw [List.mem_filterMap]
  constructor
  · rintro ⟨c, hc, e⟩
    cases q : h.get? c with
    | none => rw [q] at e; cases e
    | some x =>
      rw [q] at e
      dsimp only at e
      by_cases hx : c ≠ L ∧ c ≠ d ∧ h₀.get? c = none
      · rw [if_pos hx] at e; cases e; exact ⟨q, hx⟩
      · rw [if_neg hx] at e; cases e
  · rintro ⟨e, hx⟩
    exact ⟨b, List.mem_range.mpr (Heap.lt_size e), by rw [e]; dsimp only; rw [if_pos hx]⟩
theorem set_rel {K : Frag} {x C dx L : Addr} {h₀ : Heap} {m : Str → Option Value} {news news' : List (Addr × Obj)} {ox : Obj} {es es' : List DictEntry} {n n' : Nat} {name : Str} {v : Value} {prog : Program} {w : World} {A : Around} {E : Value → Shared → Prop} {s : Shared} {Q : Unit → Shared → Prop} (F : Fr h₀ L s.heap m) (X₀ : K.In h₀) (N : News h₀ L s.heap news) (I : W.InstAt s.heap x ox C (some (dictOf es n))) (hd : ox.dict = some dx)
    (hs : findIn K (.ref C) "__setattr__" = some (some (.builtin "object.__setattr__"))) (hp : plainOver K C = true) (ht : takerIn K C name = some none) (hh : hasDictIn K C = true) (hl : (getL name es).isSome = true)
    (e : (putL name (PyData.keyHash w.params name) (.str name (s.toks + 1)) v es, putN name es n) = (es', n')) (U : Upd dx (dictOf es n) (dictOf es' n') news news') (hz : es'.length ≤ 1000)
    (h : ∀ h', Fr h₀ L h' m → News h₀ L h' news' → (∀ b o, b ≠ dx → b ≠ L → s.heap.get? b = some o → h'.get? b = some o) → Q () { s with heap := h', toks := s.toks + 2 }) :
    wpAny (model prog w) A (setAttr (.ref x) name v) Q E s := by
  obtain ⟨pre, post, rfl, rfl, a, b⟩ := U.split
  have hm := N (dx, dictOf es n) (List.mem_append_right _ (.head _))
  have NP : News h₀ L s.heap ((dx, dictOf es n) :: restOf h₀ s.heap L dx) := fun q hq => by
    rcases List.mem_cons.mp hq with rfl | hq
    · exact hm
    · obtain ⟨e1, e2, _, e4⟩ := restOf_mem.mp (show (q.1, q.2) ∈ _ from hq)
      exact ⟨e1, e2, e4⟩
  refine set_dict F X₀ NP I hd hs hp ht hh hl e (Upd.head fun p hp => (restOf_mem.mp (show (p.1, p.2) ∈ _ from hp)).2.2.1) hz fun h' F' N' => ?_
  have rel : ∀ b o, b ≠ dx → b ≠ L → s.heap.get? b = some o → h'.get? b = some o := fun b o hb hbL q => by
    cases z : h₀.get? b with
    | none => exact (N' (b, o) (.tail _ (restOf_mem.mpr ⟨q, hbL, hb, z⟩))).1
    | some o' => have k1 := F.keep _ _ z; rw [q] at k1; cases k1; exact F'.keep _ _ z
  refine h h' F' (fun q hq => ?_) rel
  rcases List.mem_append.mp hq with hq | hq
  · have n1 := N q (List.mem_append_left _ hq); exact ⟨rel _ _ (a q hq) n1.2.1 n1.1, n1.2⟩
  · rcases List.mem_cons.mp hq with rfl | hq
    · exact N' _ (.head _)
    · have n1 := N q (List.mem_append_right _ (.tail _ hq)); exact ⟨rel _ _ (b q hq) n1.2.1 n1.1, n1.2⟩
theorem PrAt.rel {h₀ h h' : Heap} {L dx wt : Addr} {m : Str → Option Value} {od : Obj} {a b : Int} (F : Fr h₀ L h m) (hd : h.get? dx = some od) (hc : od.cls = .type "dict") (rel : ∀ b o, b ≠ dx → b ≠ L → h.get? b = some o → h'.get? b = some o) (x : PrAt h wt a b) : PrAt h' wt a b := by
  obtain ⟨ta, tb, o', e, hc', n, hdt⟩ := x.ex
  refine ⟨⟨ta, tb, o', rel _ _ (fun q => ?_) (fun q => ?_) e, hc', n, hdt⟩⟩
  · rw [q, hd] at e; cases e; rw [hc] at hc'; exact absurd hc' (by decide)
  · obtain ⟨oL, es, ep, hL, hLd, _⟩ := F.ns
    rw [q, hL] at e; cases e; rw [hLd] at hdt; cases hdt
theorem Kn.rel {w : World} {h₀ h h' : Heap} {L dx : Addr} {m : Str → Option Value} {od : Obj} {dom : Int → Prop} {fA fW : Int → Int} {o : Obj} {n : Nat} (F : Fr h₀ L h m) (hd : h.get? dx = some od) (hc : od.cls = .type "dict") (rel : ∀ b o, b ≠ dx → b ≠ L → h.get? b = some o → h'.get? b = some o) (x : Kn w h dom fA fW o n) : Kn w h' dom fA fW o n := by
  obtain ⟨kvs, h1, h2, h3⟩ := x.ex
  refine ⟨⟨kvs, h1, h2, fun k' v hm => ?_⟩⟩
  obtain ⟨d, a, e, q⟩ := h3 k' v hm
  exact ⟨d, a, e, q.rel F hd hc rel⟩
example : True := by
  k_with "setAttr ref" => first | ((k_here; (with_reducible show wpAny _ _ (setAttr _ (Str.ofString "weights") _) _ _ _); k_dflt (refine' set_rel ?k1zq ?k2zq ?k3zq ?k4zq ?k5zq ?k6zq ?k7zq ?k8zq ?k9zq ?k10zq ?k11zq ?k12zq ?k13zq ?_; (case k1zq => k_asm); (case k2zq => k_asm); (case k3zq => k_asm); (case k4zq => k_inst); (case k5zq => exact rfl); (case k6zq => k_is); (case k7zq => k_is); (case k8zq => k_is); (case k9zq => k_is); (case k10zq => k_get); (case k11zq => k_put); (case k12zq => k_upd); (case k13zq => exact Nat.le_of_ble_eq_true rfl); k_whole; intro h' F' N' rel')); (try (revert h' F' N' rel'; intros))) | fail "no"
  trivial
set_option maxHeartbeats 8000000 in
theorem cf_c {w : World} {A : Around} {s : Shared} {H : Heap} {p : Program} {loose : List Str} {mg mb : Str → Option Value} {R : Result → Shared → Prop} {wei cal : Str → Option Int} {run lf fr wt dk cd : Addr} {pl a b k : Int} {blk v1 v2 v3 : Value} {Z : List (Addr × Obj)} {l : DL} {dom : Int → Prop} {fA fW : Int → Int} {ok : Obj} {n : Nat}
    (hk : H.StaysIn s.heap) (X : (hd.heap_39 w.params).In H) (T : TopRead p loose mg mb H) (TW : TabI w H 136 wei) (TC : TabI w H 139 cal) (hwe : ∀ x i, wei x = some i → 0 ≤ i) (hca : ∀ x i, cal x = some i → 0 ≤ i) (hh : A.handled = none) (hroom : A.depth + 130 < recursionLimit) (hu : A.units + 730 < cLine)
    (hr : RnAt H run lf fr) (hf : FrAt H fr pl wt dk) (hw : PrAt H wt a b) (hc : CdAt H cd k blk) (hB : BlockL Z blk l) (hs : ∀ q ∈ Z, H.get? q.1 = some q.2) (hdk : s.heap.get? dk = some ok) (hH : H.get? dk = none) (lo : (dk == sysModules) = false) (hK : Kn w s.heap dom fA fW ok n) (hn : n ≤ 1000) (hA : fA k = bwA wei cal l) (hW : fW k = bwW wei cal l) (hd : dom k)
    (b1 : -1000000 ≤ pl) (b2 : pl ≤ 1000000) (b3 : -1000000 ≤ a) (b4 : a ≤ 1000000)
    (hret : ∀ x dx es n0 h' tk ok' wt', (∀ b o, b ≠ dk → s.heap.get? b = some o → h'.get? b = some o) → h'.get? dk = some ok' → Kn w h' dom fA fW ok' (n + 1) → PrAt h' wt' (bwA wei cal l) (bwW wei cal l) → s.heap.get? x = none → s.heap.get? dx = none → @Ne Nat x dx → h'.get? x = some (instObj 157 dx) → h'.get? dx = some (dictOf es n0) → (∃ tp tl, getL "piled" es = some (some (.int (pl + a + 4) tp)) ∧ getL "weights" es = some (some (.ref wt')) ∧ getL "known" es = some (some (.ref dk)) ∧ getL "line" es = some (some (.int 1 tl)) ∧ es.length ≤ 100) → R (.ok (.ret (.ref x))) { s with heap := h', toks := tk }) :
    codeAny (model PySem.Challenge.rw_qz0087_01.row.prog w) A (.call (.ref 199) ⟨[.ref run, v1, v2, v3, .ref cd], []⟩) R s := by
  refine' call_raw (muts := [(dk, ok)]) hk ?km X T ?k6 ?k7 ?k8 ?k9 ?kB ?kD ?kh ?c2 ?c3 ?c4
  case km => intro q hq; rcases List.mem_singleton.mp hq with rfl; exact ⟨hdk, hH⟩
  case k6 => k_is
  case k7 => k_is
  case k8 => omega
  case k9 => exact BindsTo.of_eq rfl
  case kB => exact rfl
  case kD => decide +kernel
  case c2 => exact rfl
  case c3 => exact rfl
  case c4 => exact rfl
  intro g L' h₁ tk0 cells hg hL st X' T' F N Y l1

  have stg : H.StaysIn g := by
    rw [hg]
    intro b o e
    refine hideAll_get _ (hk b o e) fun q => ?_
    have : b = dk := by simpa using q
    rw [this, hH] at e; cases e
  have hfg := hf.keeps stg
  have hwg := hw.keeps stg
  have hcg := hc.keeps stg
  obtain ⟨dr, od, sl, fs, r1, r2, r3, r4, r5⟩ := (hr.keeps stg).ex
  obtain ⟨dfr, odf, slf, tpf, tlf, f1, f2, f3, f4, f5, f6, f7⟩ := hfg.ex
  obtain ⟨dcd, odc, slc, sub, tkc, tpc, t1c, t2c, t3c, ec, g1, g2, g3, g4, g5, g6⟩ := hcg.ex
  replace hs : ∀ q ∈ Z, g.get? q.1 = some q.2 := fun q hq => stg _ _ (hs q hq)
  replace TW := TW.keeps stg
  replace TC := TC.keeps stg
  have kd : ok.cls = .type "dict" := by obtain ⟨_, k1, _⟩ := hK.ex; exact IsDictOf.cls k1
  have hK1 : Kn w g dom fA fW ok n := hK.to (fun b x hb e => by rw [hg]; exact hideAll_get _ e (mem_sing hb)) hdk kd
  cases Y
  simp only [List.nil_append] at N
  k_lt l1
  replace F : Fr g L' h₁ (fun y => if y = Str.ofString "code" then some (.ref cd) else if y = Str.ofString "want" then some v3 else if y = Str.ofString "args" then some v2 else if y = Str.ofString "pad" then some v1 else if y = Str.ofString "run" then some (.ref run) else none) := F
  clear hf hw hc hr hK
  k_steps
  rename_i x9 dx9 dkn okn h6 tk2 k1 k2 k3 k4 k5 k6 k7 k8 k9 k10 l2 n1 n2 hi lo lt n3 h5 tk1 h4 h3 tkp tp hbp h2 F2 N2 tk0 a9 h8 tk8 ok8 F8 N8 K8 P8 h9 F9 N9 rel9
  have D8 := News.get N8 (a := dx9) (by k_mem)
  exact hret x9 dx9 _ _ _ _ ok8 a9 (raw_back1 hg F9) (News.get N9 (by k_mem)) (K8.rel F8 D8 rfl rel9) (P8.rel F8 D8 rfl rel9) (hid_new hg (News.fresh N9 (a := x9) (by k_mem)) (mem_sing (by k_ne))) (hid_new hg (News.fresh N9 (a := dx9) (by k_mem)) (mem_sing (by k_ne))) (by omega) (News.get N9 (by k_mem)) (News.get N9 (by k_mem)) ⟨_, _, rfl, rfl, rfl, by k_get, Nat.le_of_ble_eq_true rfl⟩
-- Put
noncomputable def SetP (es es1 : List DictEntry) (v : Value) : Prop := ∃ hsh key tk, key = Value.str "piled" tk ∧ es1 = putL "piled" hsh key v es
theorem isStr_str (x y : Str) (t : Tok) : (Value.str x t).isStr y = (x == y) := by
  simp [Value.isStr]
theorem putL_len {name : Str} {hsh : Int} {key v : Value} : ∀ {es : List DictEntry}, es.any (·.key.isStr name) = true → (putL name hsh key v es).length = es.length
  | [], h => by cases h
  | e :: r, h => by
    unfold putL
    by_cases q : e.key.isStr name = true
    · rw [if_pos q]; rfl
    · rw [if_neg q, List.length_cons, List.length_cons, putL_len (by rw [List.any_cons] at h; simpa [q] using h)]
theorem any_of_getL {name : Str} {es : List DictEntry} {v : Value} (h : getL name es = some (some v)) : es.any (·.key.isStr name) = true := by
  unfold getL at h
  split at h
  · rename_i e he; exact List.any_eq_true.mpr ⟨e, List.mem_of_find?_eq_some he, List.find?_some (p := fun x : DictEntry => x.key.isStr name) he⟩
  · split at h <;> cases h
theorem find_putL {name : Str} {hsh : Int} {key v : Value} : ∀ {es : List DictEntry}, es.any (·.key.isStr name) = true → ∃ e, (putL name hsh key v es).find? (·.key.isStr name) = some e ∧ e.val = v
  | [], h => by cases h
  | e :: r, h => by
    unfold putL
    by_cases q : e.key.isStr name = true
    · rw [if_pos q]; exact ⟨⟨e.hash, e.key, v⟩, by rw [List.find?_cons]; simp [q], rfl⟩
    · rw [if_neg q, List.find?_cons]
      simp only [q, Bool.false_eq_true]
      exact find_putL (by rw [List.any_cons] at h; simpa [q] using h)
theorem getL_putL {name : Str} {hsh : Int} {key v v0 : Value} {es : List DictEntry} (h : getL name es = some (some v0)) : getL name (putL name hsh key v es) = some (some v) := by
  obtain ⟨e, he, hv⟩ := find_putL (hsh := hsh) (key := key) (v := v) (any_of_getL h)
  unfold getL
  rw [he]; dsimp only; rw [hv]
theorem find_putL_ne {name nm : Str} {hsh : Int} {key v : Value} (hn : ∀ k : Value, k.isStr name = true → k.isStr nm = false) : ∀ {es : List DictEntry}, es.any (·.key.isStr name) = true →
    ((putL name hsh key v es).find? (·.key.isStr nm)).map (·.val) = (es.find? (·.key.isStr nm)).map (·.val) ∧ (putL name hsh key v es).any (·.refKey) = es.any (·.refKey)
  | [], h => by cases h
  | e :: r, h => by
    unfold putL
    by_cases q : e.key.isStr name = true
    · rw [if_pos q]
      refine ⟨?_, rfl⟩
      rw [List.find?_cons, List.find?_cons]
      simp only [hn _ q]
    · rw [if_neg q]
      have ih := find_putL_ne (hsh := hsh) (key := key) (v := v) hn (es := r) (by rw [List.any_cons] at h; simpa [q] using h)
      refine ⟨?_, by rw [List.any_cons, List.any_cons, ih.2]⟩
      rw [List.find?_cons, List.find?_cons]
      cases e.key.isStr nm
      · exact ih.1
      · rfl
theorem getL_putL_ne {name nm : Str} {hsh : Int} {key v v0 v1 : Value} {es : List DictEntry} (hn : ∀ k : Value, k.isStr name = true → k.isStr nm = false) (h : getL name es = some (some v0)) (h1 : getL nm es = some (some v1)) : getL nm (putL name hsh key v es) = some (some v1) := by
  have p := find_putL_ne (hsh := hsh) (key := key) (v := v) hn (any_of_getL h)
  unfold getL at h1 ⊢
  cases q : es.find? (·.key.isStr nm) with
  | none => rw [q] at h1; dsimp only at h1; split at h1 <;> cases h1
  | some e =>
    rw [q] at h1 p
    cases z : (putL name hsh key v es).find? (·.key.isStr nm) with
    | none => rw [z] at p; cases p.1
    | some e' =>
      rw [z] at p
      have := p.1
      simp only [Option.map_some, Option.some.injEq] at this
      dsimp only at h1 ⊢
      rw [this]; exact h1
theorem putL_back {name : Str} {hsh hsh' : Int} {key key' v v0 : Value} : ∀ {es : List DictEntry}, getL name es = some (some v0) → putL name hsh' key' v0 (putL name hsh key v es) = es
  | [], h => by cases h
  | e :: r, h => by
    unfold getL at h
    rw [List.find?_cons] at h
    by_cases q : e.key.isStr name = true
    · rw [q] at h
      dsimp only at h
      cases h
      conv => lhs; arg 5; unfold putL
      rw [if_pos q]
      unfold putL
      rw [if_pos q]
    · have q' : e.key.isStr name = false := by simpa using q
      rw [q'] at h
      conv => lhs; arg 5; unfold putL
      rw [if_neg q]
      unfold putL
      rw [if_neg q]
      congr 1
      refine putL_back (name := name) ?_
      unfold getL
      cases z : r.find? (·.key.isStr name) with
      | none =>
        rw [z] at h; dsimp only at h
        split at h
        · cases h
        · cases h
      | some e' => rw [z] at h; exact h
theorem putN_same {name : Str} {es : List DictEntry} {n : Nat} {v : Value} (h : getL name es = some (some v)) : putN name es n = n := by
  unfold putN; rw [any_of_getL h]; rfl
theorem ne_piled {nm : Str} (h : (Str.ofString "piled" == nm) = false) (k : Value) (hk : k.isStr "piled" = true) : k.isStr nm = false := by
  cases k <;> try exact rfl
  rename_i x t
  have e : (x == Str.ofString "piled") = true := hk
  rw [eq_of_beq e]; exact h
theorem SetP.self {es es1 : List DictEntry} {v v0 : Value} (x : SetP es es1 v) (h : getL "piled" es = some (some v0)) : getL "piled" es1 = some (some v) := by
  obtain ⟨_, _, _, _, rfl⟩ := x; exact getL_putL h
theorem SetP.other {es es1 : List DictEntry} {v v0 v1 : Value} {nm : Str} (x : SetP es es1 v) (h : getL "piled" es = some (some v0)) (hn : (Str.ofString "piled" == nm) = false) (h1 : getL nm es = some (some v1)) : getL nm es1 = some (some v1) := by
  obtain ⟨_, _, _, _, rfl⟩ := x; exact getL_putL_ne (ne_piled hn) h h1
theorem SetP.len {es es1 : List DictEntry} {v v0 : Value} (x : SetP es es1 v) (h : getL "piled" es = some (some v0)) : es1.length = es.length := by
  obtain ⟨_, _, _, _, rfl⟩ := x; exact putL_len (any_of_getL h)
theorem SetP.back {es es1 es2 : List DictEntry} {v v0 : Value} (x : SetP es es1 v) (y : SetP es1 es2 v0) (h : getL "piled" es = some (some v0)) : es2 = es := by
  obtain ⟨_, _, _, _, rfl⟩ := x; obtain ⟨_, _, _, _, rfl⟩ := y; exact putL_back h

structure FrE (es : List DictEntry) (pl : Int) (wt dk : Addr) : Prop where
  ex : ∃ tp tl, getL "piled" es = some (some (.int pl tp)) ∧ getL "weights" es = some (some (.ref wt)) ∧ getL "known" es = some (some (.ref dk)) ∧ getL "line" es = some (some (.int 1 tl)) ∧ es.length ≤ 100
theorem FrE.at_ {es : List DictEntry} {pl : Int} {wt dk fr dfr : Addr} {n0 : Nat} {h : Heap} {sl : Array (Option Value)} (x : FrE es pl wt dk) (h1 : h.get? fr = some ⟨.ref 157, some dfr, .plain, sl⟩) (h2 : h.get? dfr = some (dictOf es n0)) : FrAt h fr pl wt dk := by
  obtain ⟨tp, tl, e1, e2, e3, e4, e5⟩ := x.ex
  exact ⟨⟨dfr, _, sl, tp, tl, h1, h2, e1, e2, e3, e4, es, n0, rfl, e5⟩⟩
theorem FrE.of {h : Heap} {fr wt dk : Addr} {pl : Int} (x : FrAt h fr pl wt dk) : ∃ dfr es n0 sl, h.get? fr = some ⟨.ref 157, some dfr, .plain, sl⟩ ∧ h.get? dfr = some (dictOf es n0) ∧ FrE es pl wt dk := by
  obtain ⟨dfr, od, sl, tp, tl, h1, h2, e1, e2, e3, e4, es, n0, rfl, e5⟩ := x.ex
  exact ⟨dfr, es, n0, sl, h1, h2, ⟨tp, tl, e1, e2, e3, e4, e5⟩⟩
theorem FrE.set {es es1 : List DictEntry} {pl pl1 : Int} {wt dk : Addr} {t1 : Tok} (x : FrE es pl wt dk) (y : SetP es es1 (.int pl1 t1)) : FrE es1 pl1 wt dk := by
  obtain ⟨tp, tl, e1, e2, e3, e4, e5⟩ := x.ex
  exact ⟨⟨t1, tl, y.self e1, y.other e1 (by decide) e2, y.other e1 (by decide) e3, y.other e1 (by decide) e4, by rw [y.len e1]; exact e5⟩⟩

section
variable {prog : Program} {w : World} {A : Around} {E : Value → Shared → Prop} {s : Shared} {K : Frag} {x dx L : Addr} {h₀ : Heap} {m : Str → Option Value} {news news' : List (Addr × Obj)} {g : Obj → List (Addr × Obj)} {es : List DictEntry} {n0 : Nat} {sl : Array (Option Value)} {name : Str} {v v0 : Value}
theorem InstAt.of_mix (F : Fr h₀ L s.heap m) (N : News h₀ L s.heap news) (h1 : h₀.get? x = some ⟨.ref 157, some dx, .plain, sl⟩) (h2 : (dx, dictOf es n0) ∈ news) : W.InstAt s.heap x ⟨.ref 157, some dx, .plain, sl⟩ 157 (some (dictOf es n0)) := ⟨F.keep _ _ h1, rfl, rfl, (N _ h2).1⟩
theorem get_mix {expr : Bool} {Q : Value → Shared → Prop} {attr : Option Value} (F : Fr h₀ L s.heap m) (X₀ : K.In h₀) (N : News h₀ L s.heap news) (h1 : h₀.get? x = some ⟨.ref 157, some dx, .plain, sl⟩) (h2 : (dx, dictOf es n0) ∈ news) (hg : plainGet K 157 name = true) (hh : hasDictIn K 157 = true)
    (ha : findIn K (.ref 157) name = some attr) (hn : noGet K attr = true) (hl : getL name es = some (some v)) (hv : handedIn v = true) (h : Q v { s with toks := s.toks + 1 }) :
    wpAny (model prog w) A (getAttr (.ref x) name expr) Q E s :=
  get_value (X₀.keeps F.keep) (InstAt.of_mix F N h1 h2) (plainGet_of hg).1 (findObj_own hh ha hn hl) hv h
theorem set_piled {Q : Unit → Shared → Prop} (F : Fr h₀ L s.heap m) (X₀ : K.In h₀) (N : News h₀ L s.heap news) (h1 : h₀.get? x = some ⟨.ref 157, some dx, .plain, sl⟩) (U : UpdF dx (dictOf es n0) news g)
    (hs : findIn K (.ref 157) "__setattr__" = some (some (.builtin "object.__setattr__"))) (hp : plainOver K 157 = true) (ht : takerIn K 157 "piled" = some none) (hh : hasDictIn K 157 = true) (hl : getL "piled" es = some (some v0)) (hz : es.length ≤ 100)
    (h : ∀ h' es1, Fr h₀ L h' m → News h₀ L h' (g (dictOf es1 n0)) → SetP es es1 v → (∀ b o, b ≠ dx → b ≠ L → s.heap.get? b = some o → h'.get? b = some o) → Q () { s with heap := h', toks := s.toks + 2 }) :
    wpAny (model prog w) A (setAttr (.ref x) "piled" v) Q E s := by
  obtain ⟨pre, post, rfl, hg, a, b⟩ := U.split
  have hm : (dx, dictOf es n0) ∈ pre ++ (dx, dictOf es n0) :: post := List.mem_append_right _ (.head _)
  have U' : ∀ o', Upd dx (dictOf es n0) o' (pre ++ (dx, dictOf es n0) :: post) (pre ++ (dx, o') :: post) := fun o' => by
    clear hm hg N U
    induction pre with
    | nil => exact Upd.head b
    | cons p r ih => exact Upd.tail (a p (.head _)) (ih fun q hq => a q (.tail _ hq))
  refine set_rel (es' := putL "piled" (PyData.keyHash w.params "piled") (.str "piled" (s.toks + 1)) v es) (n' := n0) F X₀ N (InstAt.of_mix F N h1 hm) rfl hs hp ht hh (by rw [hl]; rfl) (by rw [putN_same hl]) (U' _) (by rw [putL_len (any_of_getL hl)]; omega) fun h' F' N' rel => ?_
  exact h h' _ F' (hg _ ▸ N') ⟨_, _, _, rfl, rfl⟩ rel
end
-- Rz2
theorem Trc.cover {h₀ h₀' h : Heap} {fs : List Addr} {e de : Addr} {fl : Value} (x : Trc h₀ h fs e de fl) (k : ∀ b o, h₀'.get? b = some o → h₀.get? b = some o ∨ (h.get? b = some o ∧ ∀ vs, o.data ≠ .fields vs)) : Trc h₀' h fs e de fl := by
  obtain ⟨q1, q2, q3, oe, vs, T, oT, ts, a1, a2, a3, a4, a5, a6, a7, a8, a9, r⟩ := x
  have no : ∀ b o ws, h₀.get? b = none → h.get? b = some o → o.data = .fields ws → h₀'.get? b = none := fun b o ws hb ho hd => by
    cases q : h₀'.get? b with
    | none => rfl
    | some o' =>
      rcases k _ _ q with z | ⟨z, zn⟩
      · rw [hb] at z; cases z
      · rw [ho] at z; cases z; exact absurd hd (zn ws)
  refine ⟨fun b o hb hbo => ?_, fun b o hbo => ?_, no _ _ _ q3 a1 a4, oe, vs, T, oT, ts, a1, a2, a3, a4, a5, no _ _ _ a6 a8 a9, a7, a8, a9, r⟩
  · rcases k _ _ hbo with z | z
    · exact q1 b o hb z
    · exact z.1
  · rcases k _ _ hbo with z | z
    · exact q2 b o z
    · exact ⟨o.slots, z.1⟩
section
variable {w : World} {dom : Int → Prop} {fA fW : Int → Int} {fs fs' : List Addr} {dk e L : Addr} {n : Nat} {h h0 h1 h2 : Heap} {fl fl' : Value} {env : Env} {outer : List Env} {M : Model} {A : Around} {E : Value → Shared → Prop} {s : Shared} {Q : Unit → Shared → Prop}
theorem noF_int {prog : Program} {o : Obj} {kvs : List (Int × Value)} (x : o.IsDictOf (intKind prog w) kvs) : ∀ vs, o.data ≠ .fields vs := fun vs q => by
  obtain ⟨_, _, _, hd, _⟩ := x; rw [hd] at q; cases q
theorem Rz.mv (x : Rz w dom fA fW fs dk n h h1 e fl) (hk : dk ∉ fs) (hs : ∀ b, b ∈ fs' → b ∈ fs) (st : St fs' h1 h2) (t : ∀ de, Trc (hideAll h [dk]) h1 fs e de fl → Trc (hideAll h [dk]) h2 fs e de fl') : Rz w dom fA fW fs dk n h h2 e fl' := by
  obtain ⟨de, ok', es, m0, t0, a1, a2, a3, a4, a5, a6, a7, a8⟩ := x.ex
  obtain ⟨kvs, ki, _⟩ := a3.ex
  exact ⟨⟨de, ok', es, m0, t0, t de a1, (st dk _ (noF_int ki) a2).2 fun q => hk (hs _ q), a3.st st, (st de _ (fun vs q => by cases q) a4).2 fun q => a5 (hs _ q), a5, a6, a7, a8⟩⟩
theorem rz_note (hfr : A.frames = some (env :: outer)) (hl : Stk (env :: outer) s.heap) (hf : env.frame = some L) (hfs : ∀ b, b ∈ frs (env :: outer) → b ∈ fs) (hk : dk ∉ fs) (x : Rz w dom fA fW fs dk n h s.heap e .none)
    (k : ∀ h', Rz w dom fA fW fs dk n h h' e (rawInt L) → St (frs (env :: outer)) s.heap h' → Q () { s with heap := h' }) : wpAny M A (noteFrame (.ref e) env) Q E s := by
  obtain ⟨de, ok', es, m0, t0, a1, a2, a3, a4, a5, a6, a7, a8⟩ := x.ex
  refine note_on hfr hl hf hfs a1 fun h' t st => k h' ?_ st
  obtain ⟨kvs, ki, _⟩ := a3.ex
  exact ⟨⟨de, ok', es, m0, t0, t, (st dk _ (noF_int ki) a2).2 fun q => hk (hfs _ q), a3.st st, (st de _ (fun vs q => by cases q) a4).2 fun q => a5 (hfs _ q), a5, a6, a7, a8⟩⟩
theorem rz_flight {y : Option Addr} (x : Rz w dom fA fW fs dk n h s.heap e fl)
    (k : ∀ h', Rz w dom fA fW fs dk n h h' e (y.elim .none fun f => rawInt f) → St [] s.heap h' → Q () { s with heap := h' }) : wpAny M A (setFlight (.ref e) y) Q E s := by
  obtain ⟨de, ok', es, m0, t0, a1, a2, a3, a4, a5, a6, a7, a8⟩ := x.ex
  refine flight a1 fun h' t st => k h' ?_ st
  obtain ⟨kvs, ki, _⟩ := a3.ex
  exact ⟨⟨de, ok', es, m0, t0, t, (st dk _ (noF_int ki) a2).2 (fun q => nomatch q), a3.st st, (st de _ (fun vs q => by cases q) a4).2 (fun q => nomatch q), a5, a6, a7, a8⟩⟩
theorem rz_again (hf : env.frame = some L) (x : Rz w dom fA fW fs dk n h s.heap e (rawInt L)) (k : Q () s) : wpAny M A (noteFrame (.ref e) env) Q E s := by
  obtain ⟨de, ok', es, m0, t0, a1, r⟩ := x.ex
  exact note_again hf a1 k
theorem rz_pass {α : Type} {what : String} {Q : α → Shared → Prop} (hf : env.frame = some L) (x : Rz w dom fA fW fs dk n h s.heap e fl)
    (k : ∀ h', Rz w dom fA fW fs dk n h h' e (rawInt L) → St [] s.heap h' → E (.ref e) { s with heap := h' }) : wpAny M A (PySem.passOn what (.ref e) env : Sem α) Q E s := by
  obtain ⟨de, ok', es, m0, t0, a1, a2, a3, a4, a5, a6, a7, a8⟩ := x.ex
  refine pass_on hf a1 fun h' t st => k h' ?_ st
  obtain ⟨kvs, ki, _⟩ := a3.ex
  exact ⟨⟨de, ok', es, m0, t0, t, (st dk _ (noF_int ki) a2).2 (fun q => nomatch q), a3.st st, (st de _ (fun vs q => by cases q) a4).2 (fun q => nomatch q), a5, a6, a7, a8⟩⟩
theorem rz_leave_next (hfr : A.frames = some (env :: outer)) (hl : Stk (env :: outer) s.heap) (hf : env.frame = some L) (hfs : ∀ b, b ∈ frs (env :: outer) → b ∈ fs) (hk : dk ∉ fs) (x : Rz w dom fA fW fs dk n h s.heap e .none)
    (k : ∀ h', Rz w dom fA fW fs dk n h h' e .none → St (frs (env :: outer)) s.heap h' → Q () { s with heap := h' }) : wpAny M A (leaving env (.ref e)) Q E s := by
  unfold leaving
  exact wpAny_bind (rz_note hfr hl hf hfs hk x fun h1 x1 s1 => rz_flight (y := none) x1 fun h2 x2 s2 => k h2 x2 (s1.trans (s2.mono fun _ q => nomatch q)))
theorem rz_leave_held (hf : env.frame = some L) (x : Rz w dom fA fW fs dk n h s.heap e (rawInt L))
    (k : ∀ h', Rz w dom fA fW fs dk n h h' e .none → St [] s.heap h' → Q () { s with heap := h' }) : wpAny M A (leaving env (.ref e)) Q E s := by
  unfold leaving
  exact wpAny_bind (rz_again hf x (rz_flight (y := none) x k))
theorem Rz.base (x : Rz w dom fA fW (L :: fs) dk n h1 h2 e fl) (k : ∀ b o, b ≠ dk → h.get? b = some o → h1.get? b = some o) (nL : h.get? L = none) : Rz w dom fA fW fs dk n h h2 e fl := by
  obtain ⟨de, ok', es, m0, t0, a1, a2, a3, a4, a5, a6, a7, a8⟩ := x.ex
  refine ⟨⟨de, ok', es, m0, t0, a1.less.sub fun b o q => ?_, a2, a3, a4, fun hm => a5 (.tail _ hm), a6, ?_, a8⟩⟩
  · have hb : b ≠ dk := fun z => by rw [z, hideAll_none _ (.head _)] at q; cases q
    have q2 := of_hideAll _ q
    refine hideAll_get _ (hideAll_get _ (k b o hb q2) fun z => hb (List.mem_singleton.mp z)) fun z => ?_
    rw [List.mem_singleton.mp z, nL] at q2; cases q2
  · cases q : h.get? de with
    | none => rfl
    | some o => have := k _ _ a8 q; rw [a7] at this; cases this
theorem Rz.cover (x : Rz w dom fA fW fs dk n h1 h2 e fl) (k : ∀ b o, b ≠ dk → h.get? b = some o → h1.get? b = some o ∨ (h2.get? b = some o ∧ ∀ vs, o.data ≠ .fields vs)) (nd : ∀ de, h1.get? de = none → de ≠ dk → (∃ es m0, h2.get? de = some (dictOf es m0) ∧ ∃ t, getL "value" es = some (some (.str "Deep recursion" t))) → h.get? de = none) : Rz w dom fA fW fs dk n h h2 e fl := by
  obtain ⟨de, ok', es, m0, t0, a1, a2, a3, a4, a5, a6, a7, a8⟩ := x.ex
  refine ⟨⟨de, ok', es, m0, t0, a1.cover fun b o q => ?_, a2, a3, a4, a5, a6, nd de a7 a8 ⟨es, m0, a4, t0, a6⟩, a8⟩⟩
  have hb : b ≠ dk := fun z => by rw [z, hideAll_none _ (.head _)] at q; cases q
  rcases k b o hb (of_hideAll _ q) with z | z
  · exact .inl (hideAll_get _ z fun y => hb (List.mem_singleton.mp y))
  · exact .inr z
theorem Rz.turn {hA : Heap} {m : Str → Option Value} {d : Addr} {od od' : Obj} (x : Rz w dom fA fW (L :: fs) dk n hA h1 e fl) (F : Fr h0 L h1 m) (hd : h1.get? d = some od) (hdd : ∃ es n1, od = dictOf es n1) (hAd : ∃ o, hA.get? d = some o) (hAL : ∃ o, hA.get? L = some o) (ndk : dk ≠ d) (nLk : dk ≠ L)
    (rel : ∀ b o, b ≠ d → b ≠ L → h1.get? b = some o → h2.get? b = some o) (hd2 : h2.get? d = some od') (k : ∀ b o, b ≠ dk → b ≠ d → h.get? b = some o → hA.get? b = some o) (hhd : h.get? d = some od') (nL : h.get? L = none) : Rz w dom fA fW fs dk n h h2 e fl := by
  obtain ⟨de, ok', es, m0, t0, a1, a2, a3, a4, a5, a6, a7, a8⟩ := x.ex
  obtain ⟨es1, n9, rfl⟩ := hdd
  obtain ⟨oAd, hAd⟩ := hAd
  obtain ⟨oAL, hAL⟩ := hAL
  have n1 : de ≠ d := fun q => by rw [q, hAd] at a7; cases a7
  have n2 : de ≠ L := fun q => by rw [q, hAL] at a7; cases a7
  obtain ⟨oL, eL, pL, hL, hLd, _⟩ := F.ns
  obtain ⟨kvs, ki, _⟩ := a3.ex
  obtain ⟨q1, q2, q3, oe, vs, T, oT, ts, b1, b2, b3, b4, b5, b6, b7, b8, b9, r⟩ := a1
  have ne : ∀ b o ws, h1.get? b = some o → o.data = .fields ws → b ≠ d ∧ b ≠ L ∧ b ≠ dk := fun b o ws hb hw => by
    refine ⟨fun q => ?_, fun q => ?_, fun q => ?_⟩
    · rw [q, hd] at hb; cases hb; cases hw
    · rw [q, hL] at hb; cases hb; rw [hLd] at hw; cases hw
    · rw [q, a2] at hb; cases hb; exact noF_int ki ws hw
  have hk : ∀ b o, (hideAll h [dk]).get? b = some o → b ≠ d → (hideAll hA [dk]).get? b = some o ∧ b ≠ L := fun b o hb nb => by
    have bk : b ≠ dk := fun z => (by rw [z, hideAll_none _ (.head _)] at hb; cases hb)
    have hb := of_hideAll _ hb
    exact ⟨hideAll_get _ (k b o bk nb hb) fun z => bk (List.mem_singleton.mp z), fun q => (by rw [q, nL] at hb; cases hb)⟩
  have e1 := ne _ _ _ b1 b4
  have e2 := ne _ _ _ b8 b9
  have no : ∀ b, (hideAll hA [dk]).get? b = none → b ≠ d → (hideAll h [dk]).get? b = none := fun b hb nb => by
    cases q : (hideAll h [dk]).get? b with
    | none => rfl
    | some o => have := (hk b o q nb).1; rw [hb] at this; cases this
  refine ⟨⟨de, ok', es, m0, t0, ⟨fun b o hb hbo => ?_, fun b o hbo => ?_, no _ q3 e1.1, oe, vs, T, oT, ts, rel _ _ e1.1 e1.2.1 b1, b2, b3, b4, b5, no _ b6 e2.1, b7, rel _ _ e2.1 e2.2.1 b8, b9, r⟩, rel _ _ ndk nLk a2, a3.rel F hd rfl rel, rel _ _ n1 n2 a4, fun hm => a5 (.tail _ hm), a6, ?_, a8⟩⟩
  · by_cases z : b = d
    · rw [z] at hbo ⊢
      have := of_hideAll _ hbo
      rw [hhd] at this; cases this
      exact hd2
    · obtain ⟨u1, u2⟩ := hk b o hbo z
      exact rel _ _ z u2 (q1 b o (fun hm => (List.mem_cons.mp hm).elim u2 hb) u1)
  · by_cases z : b = d
    · rw [z] at hbo ⊢
      have := of_hideAll _ hbo
      rw [hhd] at this; cases this
      exact ⟨od'.slots, hd2⟩
    · obtain ⟨u1, u2⟩ := hk b o hbo z
      obtain ⟨sl, y⟩ := q2 b o u1
      exact ⟨sl, rel _ _ z u2 y⟩
  · cases q : h.get? de with
    | none => rfl
    | some o => have := k _ _ a8 n1 q; rw [a7] at this; cases this
theorem Stk.slots {h h' : Heap} : ∀ {l : List Env}, (∀ b ∈ frs l, ∀ o, h.get? b = some o → ∃ sl, h'.get? b = some { o with slots := sl }) → Stk l h → Stk l h'
  | [], _, _ => trivial
  | env :: r, k, ⟨hk, ⟨L, o, hf, hn, ho, hd⟩, hr⟩ => by
    obtain ⟨sl, hs⟩ := k L (List.mem_filterMap.mpr ⟨env, .head _, hf⟩) o ho
    exact ⟨hk, ⟨L, _, hf, hn, hs, hd⟩, Stk.slots (fun b hb => k b (by
      obtain ⟨e, he, q⟩ := List.mem_filterMap.mp hb
      exact List.mem_filterMap.mpr ⟨e, .tail _ he, q⟩)) hr⟩
theorem Rz.stk {l : List Env} (x : Rz w dom fA fW fs dk n h h1 e fl) (hs : Stk l h) (hk : dk ∉ frs l) : Stk l h1 := by
  obtain ⟨de, ok', es, m0, t0, a1, _⟩ := x.ex
  exact Stk.slots (fun b hb o q => a1.slot b o (hideAll_get _ q fun z => hk (List.mem_singleton.mp z ▸ hb))) hs
theorem Rz.ns {m : Str → Option Value} (x : Rz w dom fA fW fs dk n h h1 e fl) (hn : h.Ns L m) (hk : dk ≠ L) : h1.Ns L m := by
  obtain ⟨de, ok', es, m0, t0, a1, _⟩ := x.ex
  obtain ⟨oL, es1, ep, hL, r⟩ := hn
  obtain ⟨sl, q⟩ := a1.slot L oL (hideAll_get _ hL fun z => hk (List.mem_singleton.mp z).symm)
  exact ⟨_, es1, ep, q, r⟩
theorem Rz.get {b : Addr} {o : Obj} (x : Rz w dom fA fW fs dk n h h1 e fl) (hb : h.get? b = some o) (n1 : b ≠ dk) (n2 : b ∉ fs) : h1.get? b = some o := by
  obtain ⟨de, ok', es, m0, t0, a1, _⟩ := x.ex
  exact a1.keep b o n2 (hideAll_get _ hb fun z => n1 (List.mem_singleton.mp z))
theorem Kn.tup {h h' : Heap} {o : Obj} (x : Kn w h dom fA fW o n) (k : ∀ b o, h.get? b = some o → o.cls = .type "tuple" → h'.get? b = some o) : Kn w h' dom fA fW o n := by
  obtain ⟨kvs, h1, h2, h3⟩ := x.ex
  refine ⟨⟨kvs, h1, h2, fun k' v hm => ?_⟩⟩
  obtain ⟨d, a, e, q⟩ := h3 k' v hm
  obtain ⟨ta, tb, o', e', hc, r⟩ := q.ex
  exact ⟨d, a, e, ⟨⟨ta, tb, o', k _ _ e' hc, hc, r⟩⟩⟩
end
-- Pbs
example : True := by
  k_with_none
  k_with "MEM" => with_reducible first | exact List.Mem.head _ | exact ym1 | exact ym2 | exact ym3 | exact ym4 | exact ym5 | exact ym6 | exact ym7 | exact ym8 | exact ym9 | exact ym10 | exact ym11 | exact ym12 | exact ym13 | exact ym14 | exact ym15 | fail "no"
  k_with "NE" => (refine neN ?_; (try dsimp only); first | assumption | (refine Ne.symm ?_; assumption) | exact Nat.ne_of_lt (by assumption) | exact Nat.ne_of_gt (by assumption) | (with_reducible first | exact Nat.ne_of_lt (zl1 (by assumption) (by decide)) | exact Nat.ne_of_gt (zl1 (by assumption) (by decide)) | exact za (by decide) | exact zb (by decide) | exact (zb (by decide)).symm | exact ze (by decide) | exact (ze (by decide)).symm | (refine Nat.ne_of_lt ?_; (repeat (first | (rename _ < _ ∧ _ => z8; revert z8; (repeat (first | exact And.left | refine cjt ?_)); done) | (rename _ < _ ∧ _ => z8; clear z8))); done) | (refine Nat.ne_of_gt ?_; (repeat (first | (rename _ < _ ∧ _ => z8; revert z8; (repeat (first | exact And.left | refine cjt ?_)); done) | (rename _ < _ ∧ _ => z8; clear z8))); done)) | ((repeat (first | exact neBy (by assumption) (by k_mem) | (rename ∀ p : Addr × Obj, p ∈ _ → p.1 ≠ _ => hz9; clear hz9))); done) | (refine Ne.symm ?_; (repeat (first | exact neBy (by assumption) (by k_mem) | (rename ∀ p : Addr × Obj, p ∈ _ → p.1 ≠ _ => hz9; clear hz9))); done) | omega)
  k_with "OM" => with_reducible first | assumption | exact zl0 (by assumption) | exact zl1 (by assumption) (by decide +kernel) | exact zl2 (by assumption) (by decide +kernel) | decide +kernel | exact Nat.le_trans (by assumption) (by decide +kernel) | exact zl4 (by assumption) (by decide +kernel) | exact Nat.lt_of_lt_of_le (by assumption) (by decide +kernel) | exact Nat.lt_of_le_of_lt (by assumption) (by decide +kernel) | exact Int.le_trans (by assumption) (by decide +kernel) | exact zl5 (by assumption) (by decide +kernel) | exact Int.lt_of_lt_of_le (by assumption) (by decide +kernel) | exact Int.lt_of_le_of_lt (by assumption) (by decide +kernel) | fail "no"
  k_with "ALL" => first | exact List.forall_mem_nil _ | exact zc (by k_ne) (by k_all) | fail "no"
  trivial
example : True := by
  k_with "getAttr ref" => first | (k_here; k_dflt (refine' get_fz ?Fzq ?Xzq ?h1zq ?h2zq ?gzq ?hhzq ?hazq ?hnzq ?hlzq ?hvzq ?_; (case Fzq => k_asm); (case Xzq => k_asm); (case h1zq => with_reducible assumption); (case h2zq => with_reducible assumption); (case gzq => k_is); (case hhzq => k_is); (case hazq => k_is); (case hnzq => k_is); (case hlzq => with_reducible assumption); (case hvzq => rfl); k_whole)) | fail "no"
  k_with "call builtin:isinstance" => first | (k_here; k_dflt (refine' isi_call ?k1zq ?k2zq ?k3zq ?k4zq ?_; (case k1zq => k_in); (case k2zq => (intro M; refine' InstAt.type (InstAt.of_fz ?F9zq ?h9zq ?g9zq); (case F9zq => k_asm); (case h9zq => with_reducible assumption); (case g9zq => with_reducible assumption))); (case k3zq => k_is); (case k4zq => intro e; cases e); k_whole)) | fail "no"
  k_with "call builtin:isinstance" => first | (k_here; (with_reducible show wpAny _ _ (call _ [Value.ref _, Value.ref _]) _ _ _); k_dflt (refine' isn_call (P := tupP _) ?k1zq ?k2zq ?k3zq ?k4zq ?k5zq tuple_cls ?_; (case k5zq => exact tupP_of (by k_asm) (by with_reducible assumption)); (case k1zq => k_in); (case k2zq => (intro M; exact tupP_ty (by k_asm) (by with_reducible assumption))); (case k3zq => k_not); (case k4zq => intro e; cases e); k_whole)) | fail "no"
  k_with "call builtin:isinstance" => first | ((k_here; (with_reducible show wpAny _ _ (call _ [Value.ref _, Value.type "tuple"]) _ _ _); k_dflt (refine' kia_one kitx_tuple ?Xzq ?pzq ?eezq ?nbzq ?_; (case pzq => exact tupP_of (by k_asm) (by with_reducible assumption)); (case Xzq => k_in); (case eezq => kit_is); (case nbzq => (intro q; cases q)); k_whole); intro tk9'); (try (revert tk9'; intros))) | fail "no"
  k_with "subscriptTail" => first | (k_here; (with_reducible show wpAny _ _ (subscriptTail _ _ (Value.ref _) (Value.int _ _)) _ _ _); k_dflt (refine' item_of ?Fzq ?Tzq ?azq ?bzq ?czq ?_; (case Fzq => k_asm); (case Tzq => with_reducible assumption); (case azq => decide); (case bzq => decide); (case czq => rfl); k_whole)) | fail "no"
  k_with "subscriptTail" => first | (k_here; (with_reducible show wpAny _ _ (subscriptTail _ _ (Value.ref _) (Value.int (-1) _)) _ _ _); k_dflt (refine' last_fz ?Fzq ?Tzq ?zzq ?_; (case Fzq => k_asm); (case Tzq => with_reducible assumption); (case zzq => with_reducible assumption); k_whole)) | fail "no"
  k_with "subscriptTail" => first | ((k_here; (with_reducible show wpAny _ _ (subscriptTail _ _ (Value.ref _) (Value.int 1 _)) _ _ _); k_dflt (refine' item_pr1 ?Tzq ?_; (case Tzq => with_reducible assumption); k_whole); intro t9'); (try (revert t9'; intros))) | fail "no"
  trivial

noncomputable def WorkAt (w : World) (dom : Int → Prop) (fA fW : Int → Int) (dk : Addr) (n : Nat) (f : Addr) (bad : Prop) (H : Heap) : Prop :=
  ∀ (A : Around) (outer : List Env) (s : Shared) (R : Result → Shared → Prop) (ok : Obj), H.StaysIn s.heap → A.handled = none → A.depth + 140 < recursionLimit → A.units + 740 < cLine → A.frames = some outer → Stk outer s.heap → dk ∉ frs outer → s.heap.get? dk = some ok → Kn w s.heap dom fA fW ok n →
    (¬ bad → ∀ h' tk ok', (∀ b x, b ≠ dk → s.heap.get? b = some x → h'.get? b = some x) → h'.get? dk = some ok' → Kn w h' dom fA fW ok' (n + 1) → R (.ok (.ret .none)) { s with heap := h', toks := tk }) →
    (bad → ∀ h' tk e, Rz w dom fA fW (frs outer) dk (n + 1) s.heap h' e .none → R (.error (.ref e)) { s with heap := h', toks := tk }) →
    codeAny (model PySem.Challenge.rw_qz0087_01.row.prog w) A (.call (.ref f) ⟨[], []⟩) R s
example : True := by
  k_with "getAttr ref" => first | (k_here; k_dflt (refine' get_mix ?Fzq ?Xzq ?Nzq ?h1zq ?h2zq ?gzq ?hhzq ?hazq ?hnzq ?hlzq ?hvzq ?_; (case Fzq => k_asm); (case Xzq => k_asm); (case Nzq => k_asm); (case h1zq => with_reducible assumption); (case h2zq => k_mem); (case gzq => k_is); (case hhzq => k_is); (case hazq => k_is); (case hnzq => k_is); (case hlzq => with_reducible assumption); (case hvzq => rfl); k_whole)) | fail "no"
  k_with "call builtin:isinstance" => first | (k_here; k_dflt (refine' isi_call ?k1zq ?k2zq ?k3zq ?k4zq ?_; (case k1zq => k_in); (case k2zq => (intro M; refine' InstAt.type (InstAt.of_mix ?F9zq ?N9zq ?h9zq ?g9zq); (case F9zq => k_asm); (case N9zq => k_asm); (case h9zq => with_reducible assumption); (case g9zq => k_mem))); (case k3zq => k_is); (case k4zq => intro e; cases e); k_whole)) | fail "no"
  k_with "setAttr ref" => first | ((k_here; k_dflt (refine' set_piled ?Fzq ?Xzq ?Nzq ?h1zq ?Uzq ?szq ?pzq ?tzq ?hhzq ?lzq ?zzq ?_; (case Fzq => k_asm); (case Xzq => k_asm); (case Nzq => k_asm); (case h1zq => with_reducible assumption); (case Uzq => k_updF); (case szq => k_is); (case pzq => k_is); (case tzq => k_is); (case hhzq => k_is); (case lzq => first | with_reducible assumption | exact SetP.self (by with_reducible assumption) (by with_reducible assumption)); (case zzq => first | with_reducible assumption | (rw [SetP.len (by with_reducible assumption) (by with_reducible assumption)]; with_reducible assumption)); k_whole); intro h' es1' F' N' sp' rel'; (try dsimp only at N')); (try (revert h' es1' F' N' sp' rel'; intros))) | fail "no"
  trivial
theorem fnAt_fz {h₀ h : Heap} {L f : Addr} {m : Str → Option Value} (F : Fr h₀ L h m) (x : FnAt f h₀) : FnAt f h := by
  obtain ⟨oc, od, fd, sl, e⟩ := x; exact ⟨oc, od, fd, sl, F.keep _ _ e⟩
example : True := by
  k_with "callWith ref" => first | (k_here; k_dflt (refine' callWith_F0 ?k1zq ?_; (case k1zq => exact fnAt_fz (by k_asm) (by with_reducible assumption)); k_whole; try dsimp only [List.nil_append, List.cons_append])) | fail "no"
  trivial
theorem item_fz0 {prog : Program} {w : World} {A : Around} {E : Value → Shared → Prop} {s : Shared} {h₀ : Heap} {L : Addr} {m : Str → Option Value} {value slice : Expr} {wt : Addr} {a b : Int} {u : Tok} {Q : Value → Shared → Prop} (F : Fr h₀ L s.heap m) (ht : PrAt h₀ wt a b) (h : ∀ t, Q (.int a t) s)
    (hs : subscripted slice false (.ref wt) (.int 0 u) = operate [.ref wt, .int 0 u] (getItem (.ref wt) (.int 0 u)) := by with_unfolding_all rfl) :
    wpAny (model prog w) A (subscriptTail value slice (.ref wt) (.int 0 u)) Q E s := by
  obtain ⟨ta, tb, ht⟩ := (ht.keeps F.keep).ex
  exact item_tupleT (j := 0) ht (by omega) (by omega) rfl rfl (h ta) hs
theorem item_fz1 {prog : Program} {w : World} {A : Around} {E : Value → Shared → Prop} {s : Shared} {h₀ : Heap} {L : Addr} {m : Str → Option Value} {value slice : Expr} {wt : Addr} {a b : Int} {u : Tok} {Q : Value → Shared → Prop} (F : Fr h₀ L s.heap m) (ht : PrAt h₀ wt a b) (h : ∀ t, Q (.int b t) s)
    (hs : subscripted slice false (.ref wt) (.int 1 u) = operate [.ref wt, .int 1 u] (getItem (.ref wt) (.int 1 u)) := by with_unfolding_all rfl) :
    wpAny (model prog w) A (subscriptTail value slice (.ref wt) (.int 1 u)) Q E s := item_pr1 (ht.keeps F.keep) h hs
example : True := by
  k_with "subscriptTail" => first | ((k_here; (with_reducible show wpAny _ _ (subscriptTail _ _ (Value.ref _) (Value.int 1 _)) _ _ _); k_dflt (refine' item_fz1 ?Fzq ?Tzq ?_; (case Fzq => k_asm); (case Tzq => with_reducible assumption); k_whole); intro t9'); (try (revert t9'; intros))) | fail "no"
  k_with "subscriptTail" => first | ((k_here; (with_reducible show wpAny _ _ (subscriptTail _ _ (Value.ref _) (Value.int 0 _)) _ _ _); k_dflt (refine' item_fz0 ?Fzq ?Tzq ?_; (case Fzq => k_asm); (case Tzq => with_reducible assumption); k_whole); intro t9'); (try (revert t9'; intros))) | fail "no"
  trivial

theorem stk_push {env : Env} {outer : List Env} {L : Addr} {m : Str → Option Value} {h : Heap} (hf : env.frame = some L) (hn : h.Ns L m) (hr : Stk outer h) (hk : env.scope.kind = .function := by rfl) : Stk (env :: outer) h := Heap.FunFrames.cons (by rw [hk]; decide) hf hn (noHeap_get _) hr
set_option maxHeartbeats 8000000 in
theorem pbs_c {w : World} {A : Around} {s : Shared} {H : Heap} {p : Program} {loose : List Str} {mg mb : Str → Option Value} {R : Result → Shared → Prop} {run lf fr dfr wt dk f : Addr} {pl a b : Int} {es : List DictEntry} {n0 : Nat} {sl : Array (Option Value)} {dom : Int → Prop} {fA fW : Int → Int} {ok : Obj} {n : Nat} {outer : List Env} {bad : Prop}
    (hk : H.StaysIn s.heap) (X : (hd.heap_39 w.params).In H) (T : TopRead p loose mg mb H) (hh : A.handled = none) (hroom : A.depth + 150 < recursionLimit) (hu : A.units + 750 < cLine)
    (hfr : A.frames = some outer) (hst : Stk outer s.heap) (hdf : dk ∉ frs outer) (hdf2 : dfr ∉ frs outer) (hno : ∀ b ∈ frs outer, H.get? b = none)
    (hr : RnAt H run lf fr) (h1 : H.get? fr = some ⟨.ref 157, some dfr, .plain, sl⟩) (h2 : s.heap.get? dfr = some (dictOf es n0)) (h3 : H.get? dfr = none) (hE : FrE es pl wt dk) (hw : PrAt H wt a b) (hdk : s.heap.get? dk = some ok) (hH : H.get? dk = none) (hne : @Ne Nat dk dfr) (hK : Kn w s.heap dom fA fW ok n)
    (b1 : -1000000 ≤ pl) (b2 : pl ≤ 1000000) (b3 : -1000000 ≤ a) (b4 : a ≤ 1000000) (b5 : -1000000 ≤ b) (b6 : b ≤ 1000000) (hf : FnAt f H)
    (hwork : ∀ H', (∀ b x, H.get? b = some x → H'.get? b = some x) → FrAt H' fr (pl + b - a + 8) wt dk → H'.get? dk = none → WorkAt w dom fA fW dk n f bad H')
    (hret : ¬ bad → ∀ h' tk ok', (∀ b x, b ≠ dk → s.heap.get? b = some x → h'.get? b = some x) → h'.get? dk = some ok' → Kn w h' dom fA fW ok' (n + 1) → R (.ok (.ret .none)) { s with heap := h', toks := tk })
    (herr : bad → ∀ h' tk e, Rz w dom fA fW (frs outer) dk (n + 1) s.heap h' e .none → R (.error (.ref e)) { s with heap := h', toks := tk }) :
    codeAny (model PySem.Challenge.rw_qz0087_01.row.prog w) A (.call (.ref 213) ⟨[.ref run, .ref f], []⟩) R s := by
  refine' call_raw (muts := [(dk, ok), (dfr, dictOf es n0)]) hk ?km X T ?k6 ?k7 ?k8 ?k9 ?kB ?kD ?kh ?c2 ?c3 ?c4
  case km => (intro q hq; rcases List.mem_cons.mp hq with rfl | hq; exact ⟨hdk, hH⟩; rcases List.mem_singleton.mp hq with rfl; exact ⟨h2, h3⟩)
  case k6 => k_is
  case k7 => k_is
  case k8 => omega
  case k9 => exact BindsTo.of_eq rfl
  case kB => exact rfl
  case kD => decide +kernel
  case c2 => exact rfl
  case c3 => exact rfl
  case c4 => exact rfl
  intro g L' h₁ tk0 cells hg hL st X' T' F N Y l1

  have stg : H.StaysIn g := by
    rw [hg]
    intro b o e
    refine hideAll_get _ (hk b o e) fun q => ?_
    have : b = dk ∨ b = dfr := by simpa using q
    rcases this with q | q
    · rw [q, hH] at e; cases e
    · rw [q, h3] at e; cases e
  obtain ⟨dr, od, slr, fs, r1, r2, r3, r4, r5⟩ := (hr.keeps stg).ex
  have h1g := stg _ _ h1
  have hwg := hw.keeps stg
  have hfg : FnAt f g := by obtain ⟨oc, od, fd, sl, e⟩ := hf; exact ⟨oc, od, fd, sl, stg _ _ e⟩
  obtain ⟨tp, tl, e1, e2, e3, e4, e5⟩ := hE.ex
  cases Y
  simp only [List.nil_append] at N
  k_lt l1
  replace F : Fr g L' h₁ (fun y => if y = Str.ofString "work" then some (.ref f) else if y = Str.ofString "run" then some (.ref run) else none) := F
  clear hr hw hf
  have nL : s.heap.get? L' = none := by
    cases q : s.heap.get? L' with
    | none => rfl
    | some x => have := Heap.lt_size q; rw [hL] at this; exact absurd this (Nat.lt_irrefl _)
  have kpS : ∀ b x, b ≠ dk → b ≠ dfr → s.heap.get? b = some x → g.get? b = some x := fun b x u1 u2 e => by
    rw [hg]; exact hideAll_get _ e (by simp [u1, u2])
  have kcls : ok.cls = .type "dict" := by obtain ⟨_, k1, _⟩ := hK.ex; exact IsDictOf.cls k1
  have hstg : Stk outer g := Stk.keep (fun b hb o q => kpS b o (fun z => hdf (z ▸ hb)) (fun z => hdf2 (z ▸ hb)) q) hst
  have hKg : Kn w g dom fA fW ok n := hK.tup fun b o e hc => kpS b o (fun z => by rw [z, hdk] at e; cases e; rw [kcls] at hc; exact absurd hc (by decide)) (fun z => by rw [z, h2] at e; cases e; exact absurd (show Value.type "dict" = Value.type "tuple" from hc) (by decide)) e
  k_steps
  rename_i h2' tk2 h3' F3 N3 tA tB h4 es1 F4 N4 sp rel
  have stH : g.StaysIn (hideAll h4 [dk]) := hide_stay F4 N4 (.head _)
  have D4 := News.get N4 (a := dfr) (ym1)
  have L4 : ∃ o, h4.get? L' = some o := by obtain ⟨oL, _, _, hLo, _⟩ := F4.ns; exact ⟨oL, hLo⟩
  have ndL : dk ≠ L' := (N4 _ (.head _)).2.1
  have FA : FrAt (hideAll h4 [dk]) fr (pl + b - a + 8) wt dk := (hE.set sp).at_ (stH _ _ h1g) (hideAll_get _ D4 fun z => hne (List.mem_singleton.mp z).symm)
  have st4 : Stk outer h4 := Stk.keep (fun b hb o q => F4.keep _ _ q) hstg
  refine wpAny_call (hwork _ (fun b x e => stH _ _ (stg _ _ e)) FA (hideAll_none _ (.head _)) _ _ _ _ ok (fun b o e => of_hideAll _ e) hh (by rw [depth_deeper]; omega) (by rw [units_deeper]; omega) (Around.frames_deeper hfr) (stk_push rfl F4.ns st4) (fun hm => (List.mem_cons.mp hm).elim ndL hdf) (News.get N4 (.head _)) (hKg.all F4.keep) (fun hb h5 tk5 ok5 kp5 d5 K5 => ?ok) (fun hb h5 tk5 ex5 x5 => ?err))
  case ok =>
    obtain ⟨F5, N5⟩ := raw_frame F4 N4 (UpdF.head (by k_all)) kp5 d5
    clear rel
    dsimp only
    have D5 := News.get N5 (a := dfr) (ym1)
    k_steps
    rename_i h6 es6 F6 N6 sp6 rel6
    have eb := sp.back sp6 e1
    subst eb
    refine hret hb _ _ ok5 (fun b x nb e => ?_) (News.get N6 (.head _)) (K5.rel F5 D5 rfl rel6)
    by_cases z : b = dfr
    · subst z; rw [h2] at e; cases e; exact News.get N6 (ym1)
    · exact F6.keep _ _ (kpS b x nb z e)
  case err =>
    have hdk5 : ∀ {env : Env}, env.frame = some L' → dk ∉ frs (env :: outer) := fun hf hm => by
      simp only [frs, List.filterMap_cons, hf] at hm
      exact (List.mem_cons.mp hm).elim ndL hdf
    refine rz_note (Around.frames_deeper hfr) (x5.stk (stk_push rfl F4.ns st4) (hdk5 rfl)) rfl (fun _ h => h) (hdk5 rfl) x5 fun h6 x6 s6 => ?_
    refine ⟨fun q => (by cases q), ?_⟩
    refine rz_again rfl x6 ?_
    refine rz_flight (y := none) x6 fun h7 x7 s7 => ?_
    have x7' : Rz w dom fA fW (L' :: frs outer) dk (n + 1) h4 h7 ex5 .none := x7
    have g7s : (hideAll g (frs outer)).StaysIn h7 := fun b o e => by
      have eg := of_hideAll _ e
      have nb : b ∉ frs outer := fun hm => by rw [hideAll_none _ hm] at e; cases e
      refine x7'.get (F4.keep _ _ eg) (fun z => ?_) (fun hm => (List.mem_cons.mp hm).elim (fun z => ?_) nb)
      · rw [z, (N4 _ (.head _)).2.2] at eg; cases eg
      · have := Heap.lt_size eg
        rw [z, hg, hideAll_size, hL] at this; exact absurd this (Nat.lt_irrefl _)
    have F7 := Fr.mk (x7'.ns F4.ns ndL) g7s (by rw [hideAll_size]; exact F4.above)
    have fz7 : ∀ b, g.get? b = none → (hideAll g (frs outer)).get? b = none := fun b hb => by
      cases q : (hideAll g (frs outer)).get? b with
      | none => rfl
      | some o => rw [of_hideAll _ q] at hb; cases hb
    have D7 : h7.get? dfr = some (dictOf es1 n0) := x7'.get D4 (fun z => hne z.symm) fun hm => (List.mem_cons.mp hm).elim (N4 _ (ym1)).2.1 hdf2
    have N7 : News (hideAll g (frs outer)) L' h7 [(dfr, dictOf es1 n0)] := fun q hq => by
      rw [List.mem_singleton.mp hq]
      exact ⟨D7, (N4 _ (ym1)).2.1, fz7 _ (N4 _ (ym1)).2.2⟩
    have hgH : H.StaysIn (hideAll g (frs outer)) := fun b o e => hideAll_get _ (stg _ _ e) fun hm => by rw [hno _ hm] at e; cases e
    have X7 := X.keeps hgH
    have T7 := T.keeps hgH
    have h17 := hgH _ _ h1
    have dL2 := (N4 _ (ym1)).2.1
    have kp4 : ∀ b o, g.get? b = some o → h4.get? b = some o := F4.keep
    (try clear F); (try clear N); (try clear F3); (try clear N3); (try clear F4); (try clear N4); (try clear X'); (try clear T'); (try clear h1g); (try clear rel)
    k_steps
    rename_i h8 es8 F8 N8 sp8 rel8
    have eb := sp.back sp8 e1
    subst eb
    dsimp only
    have x8 : Rz w dom fA fW (frs outer) dk (n + 1) s.heap h8 ex5 .none := x7'.turn F7 D7 ⟨_, _, rfl⟩ ⟨_, D4⟩ L4 (fun z => hne z) ndL rel8 (News.get N8 (.head _)) (fun b o u1 u2 e => kp4 _ _ (kpS b o u1 u2 e)) h2 nL
    refine rz_pass rfl x8 fun h9 x9 s9 => ?_
    exact rz_leave_held rfl x9 fun h10 x10 s10 => herr hb _ _ _ x10
-- Clo
example : True := by
  k_with_none
  k_with "MEM" => with_reducible first | exact List.Mem.head _ | exact ym1 | exact ym2 | exact ym3 | exact ym4 | exact ym5 | exact ym6 | exact ym7 | exact ym8 | exact ym9 | exact ym10 | exact ym11 | exact ym12 | exact ym13 | exact ym14 | exact ym15 | fail "no"
  k_with "NE" => (refine neN ?_; (try dsimp only); first | assumption | (refine Ne.symm ?_; assumption) | exact Nat.ne_of_lt (by assumption) | exact Nat.ne_of_gt (by assumption) | (with_reducible first | exact Nat.ne_of_lt (zl1 (by assumption) (by decide)) | exact Nat.ne_of_gt (zl1 (by assumption) (by decide)) | exact za (by decide) | exact zb (by decide) | exact (zb (by decide)).symm | exact ze (by decide) | exact (ze (by decide)).symm | (refine Nat.ne_of_lt ?_; (repeat (first | (rename _ < _ ∧ _ => z8; revert z8; (repeat (first | exact And.left | refine cjt ?_)); done) | (rename _ < _ ∧ _ => z8; clear z8))); done) | (refine Nat.ne_of_gt ?_; (repeat (first | (rename _ < _ ∧ _ => z8; revert z8; (repeat (first | exact And.left | refine cjt ?_)); done) | (rename _ < _ ∧ _ => z8; clear z8))); done)) | ((repeat (first | exact neBy (by assumption) (by k_mem) | (rename ∀ p : Addr × Obj, p ∈ _ → p.1 ≠ _ => hz9; clear hz9))); done) | (refine Ne.symm ?_; (repeat (first | exact neBy (by assumption) (by k_mem) | (rename ∀ p : Addr × Obj, p ∈ _ → p.1 ≠ _ => hz9; clear hz9))); done) | omega)
  k_with "OM" => with_reducible first | assumption | exact zl0 (by assumption) | exact zl1 (by assumption) (by decide +kernel) | exact zl2 (by assumption) (by decide +kernel) | decide +kernel | exact Nat.le_trans (by assumption) (by decide +kernel) | exact zl4 (by assumption) (by decide +kernel) | exact Nat.lt_of_lt_of_le (by assumption) (by decide +kernel) | exact Nat.lt_of_le_of_lt (by assumption) (by decide +kernel) | exact Int.le_trans (by assumption) (by decide +kernel) | exact zl5 (by assumption) (by decide +kernel) | exact Int.lt_of_lt_of_le (by assumption) (by decide +kernel) | exact Int.lt_of_le_of_lt (by assumption) (by decide +kernel) | fail "no"
  k_with "ALL" => first | exact List.forall_mem_nil _ | exact zc (by k_ne) (by k_all) | fail "no"
  trivial
theorem call_rawX {prog : Program} {w : World} {A : Around} {s : Shared} {H : Heap} {muts : List (Addr × Obj)} {K : Frag} {p : Program} {loose : List Str} {mg mb : Str → Option Value}
    {R : Result → Shared → Prop} {name qual : Str} {params : Arguments} {body : List Stmt} {scope : Scope} {cl : List (Str × Addr)} {dV kV doc pm cdv ct : Value} {an : Option Addr} {fo : Obj} {f : Addr} {args : Args} {binds : List (Str × Value)}
    (hk : H.StaysIn s.heap) (hm : ∀ q ∈ muts, s.heap.get? q.1 = some q.2 ∧ H.get? q.1 = none) (X : K.In H) (T : TopRead p loose mg mb H)
    (ho : s.heap.get? f = some fo) (hd : fo.data = .func (fnX name qual params body scope cl dV kV doc pm an cdv ct)) (hcd : s.heap.CodeRec cdv qual) (hroom : A.depth < recursionLimit)
    (hbind : BindsTo s (fnX name qual params body scope cl dV kV doc pm an cdv ct) args binds) (hloc : ∀ y ∈ binds, scope.names.lookup y.1 = some .local) (hcell : ∀ x ∈ scope.names, x.2 ≠ .cell)
    (h : ∀ g L' h₁, g = hideAll s.heap (muts.map (·.1)) → L' = s.heap.objs.size → H.StaysIn g → K.In g → TopRead p loose mg mb g →
      Fr g L' h₁ (fun y => binds.reverse.lookup y) → News g L' h₁ muts → (∀ q ∈ muts, q.1 < L') →
      wpAny (model prog w) (A.deeper (envX qual scope L' f cdv cl)) (execs body (envX qual scope L' f cdv cl))
        (fun fl s' => R (.ok (.ret (match fl with | .ret v => v | _ => .none))) s')
        (fun e s' => wpAny (model prog w) (A.deeper (envX qual scope L' f cdv cl)) (leaving (envX qual scope L' f cdv cl) e) (fun _ s'' => R (.error e) s'') (fun e' s'' => R (.error e') s'') s')
        { s with heap := h₁, toks := s.toks + binds.length })
    (hco : scope.isCoroutine = false) (hgen : scope.isGenerator = false) (hk' : scope.kind = .function) : codeAny (model prog w) A (.call (.ref f) args) R s := by
  have st : H.StaysIn (hideAll s.heap (muts.map (·.1))) := fun b o e => hideAll_get _ (hk b o e) fun q => by
    obtain ⟨r, hr, rfl⟩ := List.mem_map.mp q
    rw [(hm r hr).2] at e; cases e
  refine codeAny_call_def (fd := fnX name qual params body scope cl dV kV doc pm an cdv ct) (body := body) (binds := binds) hroom ho hd (T.nolimit.keeps hk) hcd rfl hbind hcell hloc (fun h₁ hns hk₁ => ?_) hco hgen hk'
  exact h _ s.heap.objs.size h₁ rfl rfl st (X.keeps st) (T.keeps st) ⟨hns, fun b o e => hk₁ b o (of_hideAll _ e), Nat.le_of_eq (hideAll_size _ _)⟩
    (fun q hq => ⟨hk₁ _ _ (hm q hq).1, Nat.ne_of_lt (Heap.lt_size (hm q hq).1), hideAll_none _ (List.mem_map_of_mem hq)⟩) (fun q hq => Heap.lt_size (hm q hq).1)

noncomputable def lawObj (w : World) : { o : Obj // (hd.heap_39 w.params).lookup 295 = some o } := by
  apply Subtype.mk
  case property => k_is
noncomputable def lawFd (w : World) : FuncData := match (lawObj w).1.data with
  | .func fd => fd
  | _ => default
noncomputable def stmtsOf : FuncBody → List Stmt
  | .stmts b => b
  | _ => []
noncomputable def forBody : Stmt → List Stmt
  | .For _ _ b _ _ => b
  | _ => []
noncomputable def loopB (w : World) : List Stmt := forBody (nthS (stmtsOf (lawFd w).body) 13)

structure CloAt (w : World) (h : Heap) (k : Nat) (f : Addr) (cl : List (Str × Addr)) : Prop where
  ex : ∃ fo name qual doc pm c' ct, h.get? f = some fo ∧ fo.data = .func (fnX name qual (defP (nthS (loopB w) k)) (defB (nthS (loopB w) k)) (defS (nthS (loopB w) k)) cl .none .none doc pm none (.ref c') ct) ∧ h.CodeRec (.ref c') qual
structure CellAt (h : Heap) (c : Addr) (v : Value) : Prop where
  ex : ∃ o, h.get? c = some o ∧ o.data = .cell (some v)
theorem CellAt.keeps {h h' : Heap} (k : ∀ b x, h.get? b = some x → h'.get? b = some x) {c : Addr} {v : Value} (x : CellAt h c v) : CellAt h' c v := by
  obtain ⟨o, e, d⟩ := x.ex; exact ⟨⟨o, k _ _ e, d⟩⟩
theorem CloAt.keeps {w : World} {h h' : Heap} (k : ∀ b x, h.get? b = some x → h'.get? b = some x) {j : Nat} {f : Addr} {cl : List (Str × Addr)} (x : CloAt w h j f cl) : CloAt w h' j f cl := by
  obtain ⟨fo, name, qual, doc, pm, c', ct, e, d, r⟩ := x.ex; exact ⟨⟨fo, name, qual, doc, pm, c', ct, k _ _ e, d, r.keeps k⟩⟩
theorem name_cell {M : Model} {A : Around} {E : Value → Shared → Prop} {s : Shared} {h₀ : Heap} {L a : Addr} {m : Str → Option Value} {cn : Str} {cs : Scope} {ccd : Value} {cl : List (Str × Addr)} {x : Str} {pos : Pos} {v : Value} {Q : Value → Shared → Prop} {c : Addr}
    (F : Fr h₀ L s.heap m) (hc : cl.lookup x = some c) (hv : CellAt h₀ c v) (h : Q v s)
    (hk : cs.kind = .function := by rfl) (hx : (envX cn cs L a ccd cl).kindOf x = some .free := by rfl) (hb : (x == ("__debug__" : Str)) = false := by decide) (hn : (x == ("__classdict__" : Str)) = false := by decide) :
    wpAny M A (eval (.Name x pos) (envX cn cs L a ccd cl)) Q E s := by
  obtain ⟨o, e, d⟩ := hv.ex
  exact wpAny_Name (wpAny_loadName_free hk hx hc ⟨_, F.keep _ _ e, d⟩ h hn) hb
theorem item_lst {prog : Program} {w : World} {A : Around} {E : Value → Shared → Prop} {s : Shared} {h₀ : Heap} {L : Addr} {m : Str → Option Value} {value slice : Expr} {a : Addr} {vs : List Value} {k : Int} {x : Value} {u : Tok} {Q : Value → Shared → Prop} (F : Fr h₀ L s.heap m) (ht : h₀.IsList a vs.toArray) (h0 : 0 ≤ k) (h1 : k < 10000) (hx : vs[k.toNat]? = some x) (h : Q x s)
    (hs : subscripted slice false (.ref a) (.int k u) = operate [.ref a, .int k u] (getItem (.ref a) (.int k u)) := by with_unfolding_all rfl) :
    wpAny (model prog w) A (subscriptTail value slice (.ref a) (.int k u)) Q E s := by
  have hl : s.heap.IsList a vs.toArray := by obtain ⟨o, e, r⟩ := ht; exact ⟨o, F.keep _ _ e, r⟩
  exact tail_any hl.typeIs slot_list_getitem.lookup (wpAny_getItem_list hl h0 (by omega) (by simpa using hx) h) hs
theorem Rz.mono {w : World} {dom : Int → Prop} {fA fW : Int → Int} {fs : List Addr} {dk e : Addr} {n n' : Nat} {h h1 : Heap} {fl : Value} (x : Rz w dom fA fW fs dk n h h1 e fl) (l : n ≤ n') : Rz w dom fA fW fs dk n' h h1 e fl := by
  obtain ⟨de, ok', es, m0, t0, a1, a2, a3, r⟩ := x.ex
  exact ⟨⟨de, ok', es, m0, t0, a1, a2, a3.mono l, r⟩⟩
example : True := by
  k_with "eval Name" => first | (k_here; k_dflt (refine' name_cell ?Fzq ?czq ?vzq ?_ ?azq ?bzq; (case azq => rfl); (case bzq => rfl); (case Fzq => k_asm); (case czq => rfl); (case vzq => with_reducible assumption); k_whole)) | fail "no"
  k_with "subscriptTail" => first | (k_here; (with_reducible show wpAny _ _ (subscriptTail _ _ (Value.ref _) (Value.int _ _)) _ _ _); k_dflt (refine' item_lst ?Fzq ?Tzq ?azq ?bzq ?czq ?_; (case Fzq => k_asm); (case Tzq => with_reducible assumption); (case azq => with_reducible assumption); (case bzq => with_reducible assumption); (case czq => with_reducible assumption); k_whole)) | fail "no"
  trivial

set_option maxHeartbeats 8000000 in
theorem called_w {w : World} {H : Heap} {p : Program} {loose : List Str} {mg mb : Str → Option Value} {wei cal : Str → Option Int} {run lf fr wt dk cd fc cr cc cw lc : Addr} {pl a b k wh : Int} {tw : Tok} {blk : Value} {Z : List (Addr × Obj)} {l : DL} {dom : Int → Prop} {fA fW : Int → Int} {n : Nat} {cs : List Value}
    (X : (hd.heap_39 w.params).In H) (T : TopRead p loose mg mb H) (TW : TabI w H 136 wei) (TC : TabI w H 139 cal) (hwe : ∀ x i, wei x = some i → 0 ≤ i) (hca : ∀ x i, cal x = some i → 0 ≤ i)
    (hcl : CloAt w H 2 fc [(Str.ofString "which", cw), (Str.ofString "run", cr), (Str.ofString "codes", cc)]) (hcr : CellAt H cr (.ref run)) (hcc : CellAt H cc (.ref lc)) (hcw : CellAt H cw (.int wh tw)) (hlc : H.IsList lc cs.toArray) (w0 : 0 ≤ wh) (w1 : wh < 10000) (hcs : cs[wh.toNat]? = some (.ref cd))
    (hr : RnAt H run lf fr) (hf : FrAt H fr pl wt dk) (hw : PrAt H wt a b) (hc : CdAt H cd k blk) (hB : BlockL Z blk l) (hs : ∀ q ∈ Z, H.get? q.1 = some q.2) (hH : H.get? dk = none) (lo : (dk == sysModules) = false) (hn : n ≤ 1000) (hA : fA k = bwA wei cal l) (hW : fW k = bwW wei cal l) (hd : dom k)
    (b1 : -1000000 ≤ pl) (b2 : pl ≤ 1000000) (b3 : -1000000 ≤ a) (b4 : a ≤ 1000000) (b5 : 0 ≤ bwW wei cal l) (b6 : bwW wei cal l ≤ 1000000) :
    WorkAt w dom fA fW dk n fc (880 < pl + a + 4 + bwW wei cal l + 10) H := by
  intro A outer s R ok hk hh hroom hu hfr hst hdf hdk hK hret herr
  obtain ⟨fo, name, qual, doc, pm, c', ct, o1, o2, o3⟩ := (hcl.keeps hk).ex
  conv at o2 in (defB _) => whnf
  conv at o2 in (defP _) => whnf
  conv at o2 in (defS _) => whnf
  revert X; k_fill; intro X
  refine' call_rawX (muts := [(dk, ok)]) hk ?km X T o1 o2 o3 ?k8 ?k9 ?kB ?kD ?kh ?c2 ?c3 ?c4
  case km => intro q hq; rcases List.mem_singleton.mp hq with rfl; exact ⟨hdk, hH⟩
  case k8 => omega
  case k9 => exact BindsTo.of_eq rfl
  case kB => exact locs rfl
  case kD => decide
  case c2 => exact rfl
  case c3 => exact rfl
  case c4 => exact rfl
  intro g L' h₁ hg hL stg X' T' F N l1
  have stgg : H.StaysIn g := stg
  have q1 := hcr.keeps stg
  have q2 := hcc.keeps stg
  have q3 := hcw.keeps stg
  have q4 : g.IsList lc cs.toArray := by obtain ⟨o, e, r⟩ := hlc; exact ⟨o, stg _ _ e, r⟩
  replace F : Fr g L' h₁ (fun _ => none) := F
  k_lt l1
  have nL : s.heap.get? L' = none := by
    cases q : s.heap.get? L' with
    | none => rfl
    | some x => have := Heap.lt_size q; rw [hL] at this; exact absurd this (Nat.lt_irrefl _)
  have kpS : ∀ b x, b ≠ dk → s.heap.get? b = some x → h₁.get? b = some x := fun b x hb e => F.keep _ _ (by rw [hg]; exact hideAll_get _ e (mem_sing hb))
  have kcls : ok.cls = .type "dict" := by obtain ⟨_, k1, _⟩ := hK.ex; exact IsDictOf.cls k1
  have hst1 : Stk outer h₁ := Stk.keep (fun b hb o q => kpS b o (fun z => hdf (z ▸ hb)) q) hst
  have hK1 : Kn w h₁ dom fA fW ok n := hK.to kpS hdk kcls
  have ndL : dk ≠ L' := (N _ (.head _)).2.1
  have ndf : ∀ {env : Env}, env.frame = some L' → dk ∉ frs (env :: outer) := fun hf hm => by
    simp only [frs, List.filterMap_cons, hf] at hm
    exact (List.mem_cons.mp hm).elim ndL hdf
  have hkH : H.StaysIn h₁ := fun b o e => F.keep _ _ (stg _ _ e)
  have Fns := F.ns
  have dN := News.get N (.head _)
  k_steps
  refine wpAny_call (cp_c (H := H) hkH X T TW TC hwe hca hh (by rw [depth_deeper]; omega) (by rw [units_deeper]; omega) (Around.frames_deeper hfr) (stk_push rfl Fns hst1) (ndf rfl) hr hf hw hc hB hs dN hH lo hK1 hn hA hW hd b1 b2 b3 b4 b5 b6 (fun hle h' tk ok' kp d9 K9 => ?ok) (fun hlt h' tk e x => ?err))
  case ok =>
    dsimp only
    k_steps
    exact hret (by omega) h' _ ok' (fun b x hb e => kp b x hb (kpS b x hb e)) d9 K9
  case err =>
    exact rz_leave_next (Around.frames_deeper hfr) (x.stk (stk_push rfl Fns hst1) (ndf rfl)) rfl (fun _ h => h) (ndf rfl) x fun h2 x2 _ => herr (by omega) h2 _ e (Rz.base (L := L') x2 kpS nL)

set_option maxHeartbeats 8000000 in
theorem read_w {w : World} {H : Heap} {p : Program} {loose : List Str} {mg mb : Str → Option Value} {run lf fr wt dk fc cr ct : Addr} {pl a b : Int} {tx : Str} {tt : Tok} {nt : Int} {dom : Int → Prop} {fA fW : Int → Int} {n : Nat}
    (X : (hd.heap_39 w.params).In H) (T : TopRead p loose mg mb H)
    (hcl : CloAt w H 5 fc [(Str.ofString "text", ct), (Str.ofString "run", cr)]) (hcr : CellAt H cr (.ref run)) (hct : CellAt H ct (.str tx tt)) (hx : (tx.length : Int) = nt) (hx2 : tx.length ≤ 1000)
    (hr : RnAt H run lf fr) (hf : FrAt H fr pl wt dk) (hw : PrAt H wt a b) (hH : H.get? dk = none)
    (b1 : -1000000 ≤ pl) (b2 : pl ≤ 1000000) (b3 : -1000000 ≤ a) (b4 : a ≤ 1000000) :
    WorkAt w dom fA fW dk n fc (880 < pl + a + 4 + min (5 * nt) 500) H := by
  intro A outer s R ok hk hh hroom hu hfr hst hdf hdk hK hret herr
  obtain ⟨fo, name, qual, doc, pm, c', cts, o1, o2, o3⟩ := (hcl.keeps hk).ex
  conv at o2 in (defB _) => whnf
  conv at o2 in (defP _) => whnf
  conv at o2 in (defS _) => whnf
  revert X; k_fill; intro X
  refine' call_rawX (muts := [(dk, ok)]) hk ?km X T o1 o2 o3 ?k8 ?k9 ?kB ?kD ?kh ?c2 ?c3 ?c4
  case km => intro q hq; rcases List.mem_singleton.mp hq with rfl; exact ⟨hdk, hH⟩
  case k8 => omega
  case k9 => exact BindsTo.of_eq rfl
  case kB => exact locs rfl
  case kD => decide
  case c2 => exact rfl
  case c3 => exact rfl
  case c4 => exact rfl
  intro g L' h₁ hg hL stg X' T' F N l1
  have q1 := hcr.keeps stg
  have q2 := hct.keeps stg
  replace F : Fr g L' h₁ (fun _ => none) := F
  k_lt l1
  have nL : s.heap.get? L' = none := by
    cases q : s.heap.get? L' with
    | none => rfl
    | some x => have := Heap.lt_size q; rw [hL] at this; exact absurd this (Nat.lt_irrefl _)
  have kpS : ∀ b x, b ≠ dk → s.heap.get? b = some x → h₁.get? b = some x := fun b x hb e => F.keep _ _ (by rw [hg]; exact hideAll_get _ e (mem_sing hb))
  have kcls : ok.cls = .type "dict" := by obtain ⟨_, k1, _⟩ := hK.ex; exact IsDictOf.cls k1
  have hst1 : Stk outer h₁ := Stk.keep (fun b hb o q => kpS b o (fun z => hdf (z ▸ hb)) q) hst
  have hK1 : Kn w h₁ dom fA fW ok n := hK.to kpS hdk kcls
  have ndL : dk ≠ L' := (N _ (.head _)).2.1
  have ndf : ∀ {env : Env}, env.frame = some L' → dk ∉ frs (env :: outer) := fun hf hm => by
    simp only [frs, List.filterMap_cons, hf] at hm
    exact (List.mem_cons.mp hm).elim ndL hdf
  have hkH : H.StaysIn h₁ := fun b o e => F.keep _ _ (stg _ _ e)
  have Fns := F.ns
  have dN := News.get N (.head _)
  k_steps
  refine wpAny_call (cr_c (H := H) hkH X T hh (by rw [depth_deeper]; omega) (by rw [units_deeper]; omega) (Around.frames_deeper hfr) (stk_push rfl Fns hst1) (ndf rfl) hr hf hw dN hH hK1 b1 b2 b3 b4 hx hx2 (fun hle h' tk kp => ?ok) (fun hlt h' tk e x => ?err))
  case ok =>
    dsimp only
    k_steps
    exact hret (by omega) h' _ ok (fun b x hb e => kp b x (kpS b x hb e)) (kp _ _ dN) ((hK1.all kp).mono (Nat.le_succ _))
  case err =>
    exact rz_leave_next (Around.frames_deeper hfr) (x.stk (stk_push rfl Fns hst1) (ndf rfl)) rfl (fun _ h => h) (ndf rfl) x fun h2 x2 _ => herr (by omega) h2 _ e ((Rz.base (L := L') x2 kpS nL).mono (Nat.le_succ _))
set_option maxHeartbeats 8000000 in
theorem beside_w {w : World} {H : Heap} {p : Program} {loose : List Str} {mg mb : Str → Option Value} {run lf fr dfr wt dk f fc cr cf : Addr} {pl a b : Int} {es : List DictEntry} {n0 : Nat} {sl : Array (Option Value)} {dom : Int → Prop} {fA fW : Int → Int} {n : Nat} {bad : Prop}
    (X : (hd.heap_39 w.params).In H) (T : TopRead p loose mg mb H)
    (hcl : CloAt w H 3 fc [(Str.ofString "run", cr), (Str.ofString "called", cf)]) (hcr : CellAt H cr (.ref run)) (hcf : CellAt H cf (.ref f))
    (hr : RnAt H run lf fr) (h1 : H.get? fr = some ⟨.ref 157, some dfr, .plain, sl⟩) (h3 : H.get? dfr = none) (hE : FrE es pl wt dk) (hw : PrAt H wt a b) (hH : H.get? dk = none) (hne : @Ne Nat dk dfr)
    (b1 : -1000000 ≤ pl) (b2 : pl ≤ 1000000) (b3 : -1000000 ≤ a) (b4 : a ≤ 1000000) (b5 : -1000000 ≤ b) (b6 : b ≤ 1000000) (hf : FnAt f H)
    (hwork : ∀ H', (∀ b x, H.get? b = some x → H'.get? b = some x) → FrAt H' fr (pl + b - a + 8) wt dk → H'.get? dk = none → WorkAt w dom fA fW dk n f bad H')
    {A : Around} {outer : List Env} {s : Shared} {R : Result → Shared → Prop} {ok : Obj} (hk : H.StaysIn s.heap) (hh : A.handled = none) (hroom : A.depth + 160 < recursionLimit) (hu : A.units + 760 < cLine) (hfr : A.frames = some outer) (hst : Stk outer s.heap) (hdf : dk ∉ frs outer) (hdf2 : dfr ∉ frs outer) (hno : ∀ b ∈ frs outer, H.get? b = none) (hHs : H.objs.size ≤ s.heap.objs.size) (h2 : s.heap.get? dfr = some (dictOf es n0)) (hdk : s.heap.get? dk = some ok) (hK : Kn w s.heap dom fA fW ok n)
    (hret : ¬ bad → ∀ h' tk ok', (∀ b x, b ≠ dk → s.heap.get? b = some x → h'.get? b = some x) → h'.get? dk = some ok' → Kn w h' dom fA fW ok' (n + 1) → R (.ok (.ret .none)) { s with heap := h', toks := tk })
    (herr : bad → ∀ h' tk e, Rz w dom fA fW (frs outer) dk (n + 1) s.heap h' e .none → R (.error (.ref e)) { s with heap := h', toks := tk }) :
    codeAny (model PySem.Challenge.rw_qz0087_01.row.prog w) A (.call (.ref fc) ⟨[], []⟩) R s := by
  obtain ⟨fo, name, qual, doc, pm, c', cts, o1, o2, o3⟩ := (hcl.keeps hk).ex
  conv at o2 in (defB _) => whnf
  conv at o2 in (defP _) => whnf
  conv at o2 in (defS _) => whnf
  revert X; k_fill; intro X
  refine' call_rawX (muts := [(dk, ok)]) hk ?km X T o1 o2 o3 ?k8 ?k9 ?kB ?kD ?kh ?c2 ?c3 ?c4
  case km => intro q hq; rcases List.mem_singleton.mp hq with rfl; exact ⟨hdk, hH⟩
  case k8 => omega
  case k9 => exact BindsTo.of_eq rfl
  case kB => exact locs rfl
  case kD => decide
  case c2 => exact rfl
  case c3 => exact rfl
  case c4 => exact rfl
  intro g L' h₁ hg hL stg X' T' F N l1
  have q1 := hcr.keeps stg
  have q2 := hcf.keeps stg
  replace F : Fr g L' h₁ (fun _ => none) := F
  k_lt l1
  have nL : s.heap.get? L' = none := by
    cases q : s.heap.get? L' with
    | none => rfl
    | some x => have := Heap.lt_size q; rw [hL] at this; exact absurd this (Nat.lt_irrefl _)
  have kpS : ∀ b x, b ≠ dk → s.heap.get? b = some x → h₁.get? b = some x := fun b x hb e => F.keep _ _ (by rw [hg]; exact hideAll_get _ e (mem_sing hb))
  have kcls : ok.cls = .type "dict" := by obtain ⟨_, k1, _⟩ := hK.ex; exact IsDictOf.cls k1
  have hst1 : Stk outer h₁ := Stk.keep (fun b hb o q => kpS b o (fun z => hdf (z ▸ hb)) q) hst
  have hK1 : Kn w h₁ dom fA fW ok n := hK.to kpS hdk kcls
  have ndL : dk ≠ L' := (N _ (.head _)).2.1
  have ndf : ∀ {env : Env}, env.frame = some L' → dk ∉ frs (env :: outer) := fun hf hm => by
    simp only [frs, List.filterMap_cons, hf] at hm
    exact (List.mem_cons.mp hm).elim ndL hdf
  have hkH : H.StaysIn h₁ := fun b o e => F.keep _ _ (stg _ _ e)
  have Fns := F.ns
  have dN := News.get N (.head _)
  have ndfr : dfr ≠ L' := fun z => by rw [z, nL] at h2; cases h2
  have ndf2 : ∀ {env : Env}, env.frame = some L' → dfr ∉ frs (env :: outer) := fun hf hm => by
    simp only [frs, List.filterMap_cons, hf] at hm
    exact (List.mem_cons.mp hm).elim ndfr hdf2
  have hno1 : ∀ {env : Env}, env.frame = some L' → ∀ b ∈ frs (env :: outer), H.get? b = none := fun hf b hm => by
    simp only [frs, List.filterMap_cons, hf] at hm
    rcases List.mem_cons.mp hm with z | z
    · rw [z, hL]; exact Heap.get?_none_of_le hHs
    · exact hno b z
  have h2' := kpS _ _ (fun z => hne z.symm) h2
  k_steps
  refine wpAny_call (pbs_c (H := H) hkH X T hh (by rw [depth_deeper]; omega) (by rw [units_deeper]; omega) (Around.frames_deeper hfr) (stk_push rfl Fns hst1) (ndf rfl) (ndf2 rfl) (hno1 rfl) hr h1 h2' h3 hE hw dN hH hne hK1 b1 b2 b3 b4 b5 b6 hf hwork (fun hle h' tk ok' kp d9 K9 => ?ok) (fun hlt h' tk e x => ?err))
  case ok =>
    dsimp only
    k_steps
    exact hret hle h' _ ok' (fun b x hb e => kp b x hb (kpS b x hb e)) d9 K9
  case err =>
    exact rz_leave_next (Around.frames_deeper hfr) (x.stk (stk_push rfl Fns hst1) (ndf rfl)) rfl (fun _ h => h) (ndf rfl) x fun h2 x2 _ => herr hlt h2 _ e (Rz.base (L := L') x2 kpS nL)
-- Gex
open PySem.Calls PySem.Spec PySem.Builtin PySem.Builtin.ObjectAttr PySem.Builtin.Getset_descriptor
section
variable {prog : Program} {w : World} {A : Around} {E : Value → Shared → Prop} {s : Shared} {K : Frag} {x C : Addr} {ox : Obj} {od : Option Obj} {name : Str} {v : Value}
theorem get_exc {expr : Bool} {Q : Value → Shared → Prop} (X : K.In s.heap) (I : W.InstAt s.heap x ox C od) (hga : findIn K (.ref C) "__getattribute__" = some (some (.builtin "BaseException.__getattribute__"))) (hgb : findIn K (.ref C) "__getattr__" = some none) (hsub : mroIn K C (.type "BaseException") = some true)
    (hf : findObj K C od name = some (.value v)) (hh : handedIn v = true) (h : Q v { s with toks := s.toks + 1 }) : wpAny (model prog w) A (getAttr (.ref x) name expr) Q E s := by
  obtain ⟨hp, g, d, t, os⟩ := s
  dsimp only at X I
  have L0 := I.type (M := model prog w)
  have L1 := looks_findIn (M := model prog w) X hga
  have L2 := looks_findIn (M := model prog w) X hgb
  have L3 := looks_find (M := model prog w) X I hf
  have L4 : Looks (model prog w) hp (isInstance (.ref x) (.type "BaseException")) true := L0.andThen (looks_mroIn X hsub)
  have f3 := PySem.F.attr_Exception.ga.bind (.ref x)
  have hx0 : (expr && onTheHeap (Value.builtin "BaseException.__getattribute__")) = false := by cases expr <;> rfl
  have hx2 : (Value.builtin "BaseException.__getattribute__" == Value.builtin "object.__getattribute__") = false := by decide +kernel
  have hx1 : (onTheHeap (Value.ref C) && Value.builtin "BaseException.__getattribute__" == Value.builtin "object.__getattribute__") = false := by rw [hx2]; rfl
  unfold getAttr getAttrBy
  refine wpAny_bind (wpAny_mkText (wpAny_holding (wpAny_bind (L0.at (wpAny_bind (L1.at ?_))))))
  dsimp only
  rw [hx1]
  repeat (any_goals (first | assumption | with_reducible refine Looks.at L0 ?_ | with_reducible refine Looks.at L1 ?_ | with_reducible refine Looks.at L2 ?_ | with_reducible refine Looks.at L4 ?_ | wp_step))
  refine codeAny_call_builtin PySem.F.attr_Exception.ga.plain PySem.F.entry_bexc_ga (@check_slot (model prog w) _ _ ⟨hp, g, d, t + 1, os⟩ "BaseException.__getattribute__" "BaseException" "__getattribute__" (.ref x) [.str name t] [] _ (by decide +kernel) (by decide +kernel) L4 (PySem.F.args_bexc_ga _ _) ?_)
  refine wpAny_bind (wpAny_pure (wpAny_bind (wpAny_pure (wpAny_bind (L0.at (wpAny_bind (L3.at ?_)))))))
  refine wpAny_pure ?_
  show wpAny _ _ (handedOut v) _ _ _
  rw [handedOut_of hh]; exact wpAny_pure h
end
-- Died
example : True := by
  k_with_none
  k_with "MEM" => with_reducible first | exact List.Mem.head _ | exact ym1 | exact ym2 | exact ym3 | exact ym4 | exact ym5 | exact ym6 | exact ym7 | exact ym8 | exact ym9 | exact ym10 | exact ym11 | exact ym12 | exact ym13 | exact ym14 | exact ym15 | fail "no"
  k_with "NE" => (refine neN ?_; (try dsimp only); first | assumption | (refine Ne.symm ?_; assumption) | exact Nat.ne_of_lt (by assumption) | exact Nat.ne_of_gt (by assumption) | (with_reducible first | exact Nat.ne_of_lt (zl1 (by assumption) (by decide)) | exact Nat.ne_of_gt (zl1 (by assumption) (by decide)) | exact za (by decide) | exact zb (by decide) | exact (zb (by decide)).symm | exact ze (by decide) | exact (ze (by decide)).symm | (refine Nat.ne_of_lt ?_; (repeat (first | (rename _ < _ ∧ _ => z8; revert z8; (repeat (first | exact And.left | refine cjt ?_)); done) | (rename _ < _ ∧ _ => z8; clear z8))); done) | (refine Nat.ne_of_gt ?_; (repeat (first | (rename _ < _ ∧ _ => z8; revert z8; (repeat (first | exact And.left | refine cjt ?_)); done) | (rename _ < _ ∧ _ => z8; clear z8))); done)) | ((repeat (first | exact neBy (by assumption) (by k_mem) | (rename ∀ p : Addr × Obj, p ∈ _ → p.1 ≠ _ => hz9; clear hz9))); done) | (refine Ne.symm ?_; (repeat (first | exact neBy (by assumption) (by k_mem) | (rename ∀ p : Addr × Obj, p ∈ _ → p.1 ≠ _ => hz9; clear hz9))); done) | omega)
  k_with "OM" => with_reducible first | assumption | exact zl0 (by assumption) | exact zl1 (by assumption) (by decide +kernel) | exact zl2 (by assumption) (by decide +kernel) | decide +kernel | exact Nat.le_trans (by assumption) (by decide +kernel) | exact zl4 (by assumption) (by decide +kernel) | exact Nat.lt_of_lt_of_le (by assumption) (by decide +kernel) | exact Nat.lt_of_le_of_lt (by assumption) (by decide +kernel) | exact Int.le_trans (by assumption) (by decide +kernel) | exact zl5 (by assumption) (by decide +kernel) | exact Int.lt_of_lt_of_le (by assumption) (by decide +kernel) | exact Int.lt_of_le_of_lt (by assumption) (by decide +kernel) | fail "no"
  k_with "ALL" => first | exact List.forall_mem_nil _ | exact zc (by k_ne) (by k_all) | fail "no"
  trivial
noncomputable def WorkX (w : World) (dom : Int → Prop) (fA fW : Int → Int) (dk : Addr) (n : Nat) (f : Addr) (bad : Prop) (H : Heap) (Zx : List (Addr × Obj)) : Prop :=
  ∀ (A : Around) (outer : List Env) (s : Shared) (R : Result → Shared → Prop) (ok : Obj), H.StaysIn s.heap → A.handled = none → A.depth + 160 < recursionLimit → A.units + 760 < cLine → A.frames = some outer → Stk outer s.heap → dk ∉ frs outer → (∀ b ∈ frs outer, H.get? b = none) → H.objs.size ≤ s.heap.objs.size → (∀ q ∈ Zx, s.heap.get? q.1 = some q.2 ∧ q.1 ∉ frs outer) → s.heap.get? dk = some ok → Kn w s.heap dom fA fW ok n →
    (¬ bad → ∀ h' tk ok', (∀ b x, b ≠ dk → s.heap.get? b = some x → h'.get? b = some x) → h'.get? dk = some ok' → Kn w h' dom fA fW ok' (n + 1) → R (.ok (.ret .none)) { s with heap := h', toks := tk }) →
    (bad → ∀ h' tk e, Rz w dom fA fW (frs outer) dk (n + 1) s.heap h' e .none → R (.error (.ref e)) { s with heap := h', toks := tk }) →
    codeAny (model PySem.Challenge.rw_qz0087_01.row.prog w) A (.call (.ref f) ⟨[], []⟩) R s
theorem WorkAt.x {w : World} {dom : Int → Prop} {fA fW : Int → Int} {dk : Addr} {n : Nat} {f : Addr} {bad : Prop} {H : Heap} (x : WorkAt w dom fA fW dk n f bad H) : WorkX w dom fA fW dk n f bad H [] :=
  fun A outer s R ok a b c d e f' g _ _ _ h i j k => x A outer s R ok a b (by omega) (by omega) e f' g h i j k
example : True := by
  k_with "exec Try cons cons nil nil" => first | (k_here; refine wpAny_Try_except ?_) | fail "no"
  k_with "exec Try" => first | (k_here; refine wpAny_Try_except ?_) | fail "no"
  k_with "callWith ref" => first | (k_here; k_dflt (refine' callWith_F0 ?k1zq ?_; (case k1zq => exact fnAt_fz (by k_asm) (by with_reducible assumption)); k_whole; try dsimp only [List.nil_append, List.cons_append])) | fail "no"
  trivial
theorem die_find {w : World} {es : List DictEntry} {n : Nat} {v : Value} (h : getL "value" es = some (some v)) : findObj (hd.heap_39 w.params) 51 (some (dictOf es n)) "value" = some (.value v) := findObj_own (attr := none) rfl rfl rfl h
theorem get_excN {w : World} {A : Around} {E : Value → Shared → Prop} {s : Shared} {h₀ : Heap} {L x dx : Addr} {m : Str → Option Value} {news : List (Addr × Obj)} {es : List DictEntry} {n : Nat} {vs : Array Value} {sl : Array (Option Value)} {v : Value} {expr : Bool} {Q : Value → Shared → Prop} (F : Fr h₀ L s.heap m) (X₀ : (hd.heap_39 w.params).In h₀) (N : News h₀ L s.heap news) (h1 : (x, (⟨.ref 51, some dx, .fields vs, sl⟩ : Obj)) ∈ news) (h2 : (dx, dictOf es n) ∈ news)
    (hf : findObj (hd.heap_39 w.params) 51 (some (dictOf es n)) "value" = some (.value v)) (hh : handedIn v = true) (h : Q v { s with toks := s.toks + 1 }) : wpAny (model PySem.Challenge.rw_qz0087_01.row.prog w) A (getAttr (.ref x) "value" expr) Q E s :=
  get_exc (X₀.keeps F.keep) (InstAt.exc_some N h1 h2) rfl rfl rfl hf hh h
example : True := by
  k_with "getAttr ref" => first | (k_here; k_dflt (refine' get_excN ?Fzq ?Xzq ?Nzq ?h1zq ?h2zq ?fzq ?hvzq ?_; (case Fzq => k_asm); (case Xzq => k_asm); (case Nzq => k_asm); (case h1zq => k_mem); (case h2zq => k_mem); (case fzq => with_reducible assumption); (case hvzq => rfl); k_whole)) | fail "no"
  trivial
set_option maxHeartbeats 8000000 in
theorem died_c {w : World} {A : Around} {s : Shared} {H : Heap} {p : Program} {loose : List Str} {mg mb : Str → Option Value} {R : Result → Shared → Prop} {dk f : Addr} {dom : Int → Prop} {fA fW : Int → Int} {ok : Obj} {n : Nat} {outer : List Env} {bad : Prop} {Zx : List (Addr × Obj)}
    (hk : H.StaysIn s.heap) (X : (hd.heap_39 w.params).In H) (T : TopRead p loose mg mb H) (hh : A.handled = none) (hroom : A.depth + 170 < recursionLimit) (hu : A.units + 770 < cLine)
    (hfr : A.frames = some outer) (hst : Stk outer s.heap) (hdf : dk ∉ frs outer) (hno : ∀ b ∈ frs outer, H.get? b = none) (hHs : H.objs.size ≤ s.heap.objs.size) (hZx : ∀ q ∈ Zx, s.heap.get? q.1 = some q.2 ∧ q.1 ∉ frs outer ∧ q.1 ≠ dk)
    (hdk : s.heap.get? dk = some ok) (hH : H.get? dk = none) (hK : Kn w s.heap dom fA fW ok n) (hf : FnAt f H) (hwork : WorkX w dom fA fW dk n f bad H Zx)
    (hret : ∀ h' tk ok' (bv : Bool), (bv = true ↔ bad) → (∀ b x, b ≠ dk → b ∉ frs outer → s.heap.get? b = some x → h'.get? b = some x) → (∀ b x, b ≠ dk → s.heap.get? b = some x → ∃ sl, h'.get? b = some { x with slots := sl }) → h'.get? dk = some ok' → Kn w h' dom fA fW ok' (n + 1) → R (.ok (.ret (.bool bv))) { s with heap := h', toks := tk }) :
    codeAny (model PySem.Challenge.rw_qz0087_01.row.prog w) A (.call (.ref 290) ⟨[.ref f], []⟩) R s := by
  refine' call_raw (muts := [(dk, ok)]) hk ?km X T ?k6 ?k7 ?k8 ?k9 ?kB ?kD ?kh ?c2 ?c3 ?c4
  case km => (intro q hq; rcases List.mem_singleton.mp hq with rfl; exact ⟨hdk, hH⟩)
  case k6 => k_is
  case k7 => k_is
  case k8 => omega
  case k9 => exact BindsTo.of_eq rfl
  case kB => exact rfl
  case kD => decide +kernel
  case c2 => exact rfl
  case c3 => exact rfl
  case c4 => exact rfl
  intro g L' h₁ tk0 cells hg hL st X' T' F N Y l1

  have stg : H.StaysIn g := by
    rw [hg]
    intro b o e
    refine hideAll_get _ (hk b o e) fun q => ?_
    have : b = dk := by simpa using q
    rw [this, hH] at e; cases e
  have hfg : FnAt f g := by obtain ⟨oc, od, fd, sl, e⟩ := hf; exact ⟨oc, od, fd, sl, stg _ _ e⟩
  cases Y
  simp only [List.nil_append] at N
  k_lt l1
  replace F : Fr g L' h₁ (fun y => if y = Str.ofString "work" then some (.ref f) else none) := F
  have nL : s.heap.get? L' = none := by
    cases q : s.heap.get? L' with
    | none => rfl
    | some x => have := Heap.lt_size q; rw [hL] at this; exact absurd this (Nat.lt_irrefl _)
  have kpG : ∀ b x, b ≠ dk → s.heap.get? b = some x → g.get? b = some x := fun b x hb e => by rw [hg]; exact hideAll_get _ e (mem_sing hb)
  have kpS : ∀ b x, b ≠ dk → s.heap.get? b = some x → h₁.get? b = some x := fun b x hb e => F.keep _ _ (kpG b x hb e)
  have kcls : ok.cls = .type "dict" := by obtain ⟨_, k1, _⟩ := hK.ex; exact IsDictOf.cls k1
  have hst1 : Stk outer h₁ := Stk.keep (fun b hb o q => kpS b o (fun z => hdf (z ▸ hb)) q) hst
  have hK1 : Kn w h₁ dom fA fW ok n := hK.to kpS hdk kcls
  have ndL : dk ≠ L' := (N _ (.head _)).2.1
  have ndf : ∀ {env : Env}, env.frame = some L' → dk ∉ frs (env :: outer) := fun hf hm => by
    simp only [frs, List.filterMap_cons, hf] at hm
    exact (List.mem_cons.mp hm).elim ndL hdf
  have hno1 : ∀ {env : Env}, env.frame = some L' → ∀ b ∈ frs (env :: outer), H.get? b = none := fun hf b hm => by
    simp only [frs, List.filterMap_cons, hf] at hm
    rcases List.mem_cons.mp hm with z | z
    · rw [z, hL]; exact Heap.get?_none_of_le hHs
    · exact hno b z
  have hZ1 : ∀ {env : Env}, env.frame = some L' → ∀ q ∈ Zx, h₁.get? q.1 = some q.2 ∧ q.1 ∉ frs (env :: outer) := fun hf q hq => by
    obtain ⟨u1, u2, u3⟩ := hZx q hq
    refine ⟨kpS _ _ u3 u1, fun hm => ?_⟩
    simp only [frs, List.filterMap_cons, hf] at hm
    rcases List.mem_cons.mp hm with z | z
    · rw [z, nL] at u1; cases u1
    · exact u2 z
  have hkH : H.StaysIn h₁ := fun b o e => F.keep _ _ (stg _ _ e)
  have hz1 : H.objs.size ≤ h₁.objs.size := Nat.le_trans hHs (Nat.le_of_lt (by
    obtain ⟨oL, _, _, hLo, _⟩ := F.ns
    rw [← hL]; exact Heap.lt_size hLo))
  have Fns := F.ns
  have dN := News.get N (.head _)
  have F0 := F
  have N0 := N
  have keepg : ∀ b, g.get? b = none → (hideAll g (frs outer)).get? b = none := fun b hb => by
    cases q : (hideAll g (frs outer)).get? b with
    | none => rfl
    | some o => rw [of_hideAll _ q] at hb; cases hb
  have hgH : H.StaysIn (hideAll g (frs outer)) := fun b o e => hideAll_get _ (stg _ _ e) fun hm => by rw [hno _ hm] at e; cases e
  k_steps
  refine wpAny_call (hwork _ _ _ _ ok hkH hh (by rw [depth_deeper]; omega) (by rw [units_deeper]; omega) (Around.frames_deeper hfr) (stk_push rfl Fns hst1) (ndf rfl) (hno1 rfl) hz1 (hZ1 rfl) dN hK1 (fun hb h5 tk5 ok5 kp5 d5 K5 => ?ok) (fun hb h5 tk5 ex5 x5 => ?err))
  case ok =>
    obtain ⟨F5, N5⟩ := raw_frame F0 N0 (UpdF.head (by k_all)) kp5 d5
    dsimp only
    k_steps
    refine hret h5 _ ok5 false ⟨fun q => (by cases q), fun q => absurd q hb⟩ (fun b x nb _ e => kp5 b x nb (kpS b x nb e)) (fun b x nb e => ⟨x.slots, kp5 b x nb (kpS b x nb e)⟩) d5 K5
  case err =>
    refine rz_note (Around.frames_deeper hfr) (x5.stk (stk_push rfl Fns hst1) (ndf rfl)) rfl (fun _ h => h) (ndf rfl) x5 fun h6 x6 s6 => ?_
    refine rz_flight (y := none) x6 fun h7 x7 s7 => ?_
    have x7' : Rz w dom fA fW (L' :: frs outer) dk (n + 1) h₁ h7 ex5 .none := x7
    have stay : ∀ {h9 : Heap} {fl : Value}, Rz w dom fA fW (L' :: frs outer) dk (n + 1) h₁ h9 ex5 fl → (hideAll g (frs outer)).StaysIn h9 := fun x9 b o e => by
      have eg := of_hideAll _ e
      have nb : b ∉ frs outer := fun hm => by rw [hideAll_none _ hm] at e; cases e
      refine x9.get (F0.keep _ _ eg) (fun z => ?_) (fun hm => (List.mem_cons.mp hm).elim (fun z => ?_) nb)
      · rw [z, (N0 _ (.head _)).2.2] at eg; cases eg
      · have := Heap.lt_size eg
        rw [z, hg, hideAll_size, hL] at this; exact absurd this (Nat.lt_irrefl _)
    have F7 := Fr.mk (x7'.ns Fns ndL) (stay x7') (by rw [hideAll_size]; exact F0.above)
    have N7 : News (hideAll g (frs outer)) L' h7 [] := News.nil
    have X7 := X.keeps hgH
    have T7 := T.keeps hgH
    have hgn : ∀ b, b ≠ dk → h₁.get? b = none → (hideAll g (frs outer)).get? b = none := fun b hb e => keepg _ (by
      cases q : g.get? b with
      | none => rfl
      | some o => have := F0.keep _ _ q; rw [e] at this; cases this)
    have hab : (hideAll g (frs outer)).objs.size ≤ L' := by rw [hideAll_size]; exact F0.above
    have dk1 : h₁.get? dk = some ok := dN
    have L1 : ∃ o, h₁.get? L' = some o := by obtain ⟨oL, _, _, hLo, _⟩ := Fns; exact ⟨oL, hLo⟩
    refine wpAny_handleBy_cons (codeAny_handlers_test ?_) (by intro q; cases q)
    (try clear F); (try clear N); (try clear F0); (try clear N0); (try clear X'); (try clear T')
    k_steps
    obtain ⟨de, okx, es, m0, t0, tr, a2, a3, a4, a5, a6, a7, a8⟩ := x7'.ex
    obtain ⟨oe, vse, he, hc, hdi, hda⟩ := tr.there
    have hC : h7.get? 51 = some (excClassObj "Die" "Die" 51 50 [.ref 31] [.ref 31, .type "Exception", .type "BaseException", .type "object"] true [] [] false none none (some (.ref 35)) none (some (.str "Die" 218)) (some (.str "Die" 226)) (some (.bool true)) "Exception.__new__") := (X7.keeps F7.keep) 51 _ rfl
    refine wpAny_excMatches_sub_self hC he hc (by decide) ?_
    refine codeAny_handlers_suite_as ?_
    refine rz_flight (y := none) x7' fun h8 x8 s8 => ?_
    clear a2 a3 a4 a5 a6 a7 a8 tr he hc hdi hda hC
    obtain ⟨de, okx, es, m0, t0, tr, a2, a3, a4, a5, a6, a7, a8⟩ := x8.ex
    have xne := tr.ne
    obtain ⟨oe, vse, he, hc, hdi, hda⟩ := tr.there
    obtain ⟨oc, odi, oda, osl⟩ := oe
    dsimp only at hc hdi hda
    subst hc hdi hda
    obtain ⟨oL, hLo⟩ := L1
    have nek : ex5 ≠ dk := fun z => by rw [z, a2] at he; obtain ⟨kvs, ki, _⟩ := a3.ex; cases he; exact noF_int ki _ rfl
    have ne1 : h₁.get? ex5 = none := by
      cases q : h₁.get? ex5 with
      | none => rfl
      | some o => have := hideAll_get [dk] q fun z => nek (List.mem_singleton.mp z); rw [xne] at this; cases this
    have F8 := Fr.mk (x8.ns Fns ndL) (stay x8) hab
    have neL : ex5 ≠ L' := fun z => by rw [z, hLo] at ne1; cases ne1
    have deL : de ≠ L' := fun z => by rw [z, hLo] at a7; cases a7
    generalize hZ8 : restOf (hideAll g (frs outer)) h8 L' L' = Z8
    have N8 : News (hideAll g (frs outer)) L' h8 ((ex5, ⟨.ref 51, some de, .fields vse, osl⟩) :: (de, dictOf es m0) :: Z8) := fun q hq => by
      rcases List.mem_cons.mp hq with rfl | hq
      · exact ⟨he, neL, hgn _ nek ne1⟩
      · rcases List.mem_cons.mp hq with rfl | hq
        · exact ⟨a4, deL, hgn _ a8 a7⟩
        · rw [← hZ8] at hq
          obtain ⟨u1, u2, _, u4⟩ := restOf_mem.mp (show (q.1, q.2) ∈ _ from hq)
          exact ⟨u1, u2, u4⟩
    have rel8 : ∀ {h9 : Heap} {m9 : Str → Option Value} {ex9 : List (Addr × Obj)}, Fr (hideAll g (frs outer)) L' h9 m9 → News (hideAll g (frs outer)) L' h9 (ex9 ++ Z8) → ∀ b o, b ≠ L' → h8.get? b = some o → h9.get? b = some o := fun F9 N9 b o hb q => by
      cases z : (hideAll g (frs outer)).get? b with
      | none => exact (N9 (b, o) (List.mem_append_right _ (hZ8 ▸ restOf_mem.mpr ⟨q, hb, hb, z⟩))).1
      | some o' => have := F8.keep _ _ z; rw [q] at this; cases this; exact F9.keep _ _ z
    have F8s := And.intro F8 True.intro
    have fnd := die_find (w := w) (n := m0) a6
    (try clear F7); (try clear N7)
    k_steps
    dsimp only
    rename_i F9 N9
    refine wpAny_nameGoes_keeps rfl F9.ns rfl fun h' v hn hs => ?_
    have FA := F9.set hn hs
    have NA := N9.set hs
    have kp : ∀ b x, b ≠ dk → b ∉ frs outer → s.heap.get? b = some x → h'.get? b = some x := fun b x h1 h2 h3 => by
      have nbL : b ≠ L' := fun z => by rw [z, nL] at h3; cases h3
      exact rel8 FA (ex9 := [_, _]) NA b x nbL (x8.get (kpS b x h1 h3) h1 (fun hm => (List.mem_cons.mp hm).elim nbL h2))
    have ksl : ∀ b x, b ≠ dk → s.heap.get? b = some x → ∃ sl, h'.get? b = some { x with slots := sl } := fun b x h1 h3 => by
      have nbL : b ≠ L' := fun z => by rw [z, nL] at h3; cases h3
      obtain ⟨sl, hsl⟩ := tr.slot b x (hideAll_get [dk] (kpS b x h1 h3) fun z => h1 (List.mem_singleton.mp z))
      exact ⟨sl, rel8 FA (ex9 := [_, _]) NA b _ nbL hsl⟩
    have dkA : h'.get? dk = some okx := rel8 FA (ex9 := [_, _]) NA dk okx ndL a2
    have kc8 : okx.cls = .type "dict" := by obtain ⟨_, k1, _⟩ := a3.ex; exact IsDictOf.cls k1
    have KA : Kn w h' dom fA fW okx (n + 1) := a3.rel F8s.1 a2 kc8  (fun b o _ hL q => rel8 FA (ex9 := [_, _]) NA b o hL q)
    exact hret h' _ okx true ⟨fun _ => hb, fun _ => rfl⟩ kp ksl dkA KA
example : True := by
  k_with_none
  k_with "MEM" => with_reducible first | exact List.Mem.head _ | exact ym1 | exact ym2 | exact ym3 | exact ym4 | exact ym5 | exact ym6 | exact ym7 | exact ym8 | exact ym9 | exact ym10 | exact ym11 | exact ym12 | exact ym13 | exact ym14 | exact ym15 | fail "no"
  k_with "NE" => (refine neN ?_; (try dsimp only); first | assumption | (refine Ne.symm ?_; assumption) | exact Nat.ne_of_lt (by assumption) | exact Nat.ne_of_gt (by assumption) | (with_reducible first | exact Nat.ne_of_lt (zl1 (by assumption) (by decide)) | exact Nat.ne_of_gt (zl1 (by assumption) (by decide)) | exact za (by decide) | exact zb (by decide) | exact (zb (by decide)).symm | exact ze (by decide) | exact (ze (by decide)).symm | (refine Nat.ne_of_lt ?_; (repeat (first | (rename _ < _ ∧ _ => z8; revert z8; (repeat (first | exact And.left | refine cjt ?_)); done) | (rename _ < _ ∧ _ => z8; clear z8))); done) | (refine Nat.ne_of_gt ?_; (repeat (first | (rename _ < _ ∧ _ => z8; revert z8; (repeat (first | exact And.left | refine cjt ?_)); done) | (rename _ < _ ∧ _ => z8; clear z8))); done)) | ((repeat (first | exact neBy (by assumption) (by k_mem) | (rename ∀ p : Addr × Obj, p ∈ _ → p.1 ≠ _ => hz9; clear hz9))); done) | (refine Ne.symm ?_; (repeat (first | exact neBy (by assumption) (by k_mem) | (rename ∀ p : Addr × Obj, p ∈ _ → p.1 ≠ _ => hz9; clear hz9))); done) | omega)
  k_with "OM" => with_reducible first | assumption | exact zl0 (by assumption) | exact zl1 (by assumption) (by decide +kernel) | exact zl2 (by assumption) (by decide +kernel) | decide +kernel | exact Nat.le_trans (by assumption) (by decide +kernel) | exact zl4 (by assumption) (by decide +kernel) | exact Nat.lt_of_lt_of_le (by assumption) (by decide +kernel) | exact Nat.lt_of_le_of_lt (by assumption) (by decide +kernel) | exact Int.le_trans (by assumption) (by decide +kernel) | exact zl5 (by assumption) (by decide +kernel) | exact Int.lt_of_lt_of_le (by assumption) (by decide +kernel) | exact Int.lt_of_le_of_lt (by assumption) (by decide +kernel) | fail "no"
  k_with "ALL" => first | exact List.forall_mem_nil _ | exact zc (by k_ne) (by k_all) | fail "no"
  trivial
-- Sg0
noncomputable def lawB (w : World) : List Stmt := stmtsOf (lawFd w).body
noncomputable def lawE (w : World) (fa L : Addr) : Env := envOfC (Str.ofString "law") (lawFd w).scope L fa (.ref 294)
noncomputable def Apt (l : List Nat) (Z : List (Addr × Obj)) : Prop := ∀ q ∈ Z, ∀ a ∈ l, @Ne Nat q.1 a
theorem Apt.out {l : List Nat} {Z : List (Addr × Obj)} {c : Nat} (h : Apt l Z) (hc : c ∈ l) : ∀ p ∈ Z, p.1 ≠ c := fun p hp => h p hp c hc
theorem Apt.nil {l : List Nat} : Apt l [] := fun q hq => nomatch hq
theorem Apt.cons {l : List Nat} {Z : List (Addr × Obj)} {a : Nat} {o : Obj} (h1 : ∀ b ∈ l, @Ne Nat a b) (h2 : Apt l Z) : Apt l ((a, o) :: Z) := fun q hq b hb => by
  rcases List.mem_cons.mp hq with rfl | hq
  · exact h1 b hb
  · exact h2 q hq b hb
theorem Apt.app {l : List Nat} {Z Y : List (Addr × Obj)} (h1 : Apt l Z) (h2 : Apt l Y) : Apt l (Z ++ Y) := fun q hq b hb => by
  rcases List.mem_append.mp hq with hq | hq
  · exact h1 q hq b hb
  · exact h2 q hq b hb
theorem Apt.grow {l : List Nat} {Z : List (Addr × Obj)} {a : Nat} (h : Apt l Z) (h1 : ∀ p ∈ Z, @Ne Nat p.1 a) : Apt (a :: l) Z := fun q hq b hb => by
  rcases List.mem_cons.mp hb with rfl | hb
  · exact h1 q hq
  · exact h q hq b hb
theorem Apt.of {l : List Nat} {Z news : List (Addr × Obj)} (h : ∀ q ∈ Z, ∀ p ∈ news, q.1 ≠ p.1) (hl : ∀ a ∈ l, ∃ o, ((a : Addr), o) ∈ news) : Apt l Z := fun q hq a ha => by
  obtain ⟨o, hp⟩ := hl a ha
  exact h q hq _ hp
theorem News.sub {h₀ h : Heap} {L : Addr} {l l' : List (Addr × Obj)} (N : News h₀ L h l) (hs : ∀ q ∈ l', q ∈ l) : News h₀ L h l' := fun q hq => N q (hs q hq)
theorem AllLt.ne {d : Nat} {l : List (Addr × Obj)} (h : AllLt d l) : ∀ p ∈ l, @Ne Nat p.1 d := by
  induction l with
  | nil => intro p hp; cases hp
  | cons a r ih =>
    intro p hp
    rcases List.mem_cons.mp hp with rfl | hp
    · exact Nat.ne_of_lt h.1
    · exact ih h.2 p hp
theorem slice_h {prog : Program} {w : World} {A : Around} {E : Value → Shared → Prop} {s : Shared} {h₀ : Heap} {L l : Addr} {m : Str → Option Value} {news : List (Addr × Obj)} {value slice : PySem.Expr} {vs : List Value} {row : List Int} {Q : Value → Shared → Prop} {t : Tok}
    (F : Fr h₀ L s.heap m) (N : News h₀ L s.heap news) (hl : h₀.IsList l vs.toArray) (hi : IntsAre vs row) (hlen : row.length ≤ 63)
    (h : ∀ D ws h' row', Fr h₀ L h' m → News h₀ L h' ((D, listOf (List.toArray ws) 0) :: news) → (∀ p ∈ news, p.1 < D) → IntsAre ws row' → row'.length ≤ 60 → Q (.ref D) { s with heap := h' })
    (hs : subscripted slice false (.ref l) (.ref s.heap.objs.size) = operate [.ref s.heap.objs.size, .ref l] (getItem (.ref l) (.ref s.heap.objs.size))) (ht : ∀ r, letTemporaryGo value (.ref l) r = pure ()) :
    wpAny (model prog w) A (subscriptTail value slice (.ref l) (.ref s.heap.objs.size)) Q E { s with heap := s.heap.push { cls := .type "slice", data := .fields #[.none, .int 60 t, .none] } } := by
  have hl' : s.heap.IsList l vs.toArray := by obtain ⟨o, e, r⟩ := hl; exact ⟨o, F.keep _ _ e, r⟩
  refine kmk_slice_ints F N hl' IsPart.none (IsPart.int 60 _) hi (kmk_upto hi (by decide)) rfl (fun D ws h' F' N' l1 i1 _ _ => h D ws h' _ F' N' l1 i1 ?_) hs ht ?_
  · rw [List.length_take]; exact Nat.min_le_left _ _
  · rw [List.size_toArray, hi.length]; exact Nat.le_trans hlen (Nat.le_of_ble_eq_true rfl)
section
variable {w : World} {H : Heap} {p : Program} {loose : List Str} {mg mb : Str → Option Value} {A : Around} {E : Value → Shared → Prop} {s : Shared} {h₀ : Heap} {L : Addr} {m : Str → Option Value} {news : List (Addr × Obj)} {cup r : Addr} {o : Obj} {g : Obj → List (Addr × Obj)} {n l : Int} {t1 t2 : Tok} {vs : List Value} {row : List Int} {Q : Value → Shared → Prop}
set_option maxHeartbeats 4000000 in
theorem block_m (X : (hd.heap_39 w.params).In h₀) (T : TopRead p loose mg mb h₀) (F : Fr h₀ L s.heap m) (N : News h₀ L s.heap news) (U : UpdF cup o news g) (ho : o.IsDictOf (strKind PySem.Challenge.rw_qz0087_01.row.prog w) (CupKvs r n l t1 t2)) (hrow : s.heap.IsList r vs.toArray) (hi : IntsAre vs row)
    (hh : A.handled = none) (hroom : A.depth + 50 < recursionLimit) (hu : A.units + 200 < cLine) (h0 : 0 ≤ n) (h1 : n < 1000) (hrl : row.length ≤ 100)
    (h : ∀ v Z lv h' tk o' n' l' t1' t2', Fr h₀ L h' m → News h₀ L h' (g o' ++ Z) → (∀ q ∈ Z, ∀ p ∈ news, q.1 ≠ p.1) → o'.IsDictOf (strKind PySem.Challenge.rw_qz0087_01.row.prog w) (CupKvs r n' l' t1' t2') → n ≤ n' → n' ≤ n + 11 → BlockL Z v lv → Q v { s with heap := h', toks := tk }) :
    wpAny (model PySem.Challenge.rw_qz0087_01.row.prog w) A (call (.ref 271) [.ref cup]) Q E s := by
  apply block_l X T F N U ho hrow hi hh hroom hu h0 h1 hrl
  intro v Z h' tk o' n' l' t1' t2' F' N' NZ d ho' a b B
  obtain ⟨lv, B'⟩ := B.named
  exact h v Z lv h' tk o' n' l' t1' t2' F' (fun q hq => (List.mem_append.mp hq).elim (N' q) (NZ q)) d ho' a b B'
end
-- SgA
example : True := by
  k_with "ALL" => first | ((intro q hq; (repeat (refine List.Mem.tail _ ?_)); exact hq); (try (revert q hq; intros))) | fail "no"
  k_with "ALL" => first | exact Apt.out (by with_reducible assumption) (by k_mem) | fail "no"
  k_with "ALL" => first | (refine' zc ?_ ?_; k_mem; k_all) | fail "no"
  k_with "eval Dict" => first | ((k_here; kdn_look; k_dflt (refine' kdn_str ?qzq ?Fzq ?Nzq ?bzq ?azq ?lzq ?ezq ?nzq ?_; (case qzq => rfl); (case Fzq => k_asm); (case Nzq => first | k_asm | exact News.nil); (case bzq => exact TopRead.nolimit (by k_asm)); (case azq => rfl); (case lzq => rfl); (case ezq => exact List.cons_ne_nil _ _); (case nzq => exact Nat.le_of_ble_eq_true rfl)); intro d' h' o' F' N' l1 lo' hd'; (try k_lt l1)); (try (revert d' h' o' F' N' l1 lo' hd'; intros))) | fail "no"
  k_with "subscriptTail Name Slice ref ref" => first | ((k_here; k_dflt (refine' slice_h ?Fzq ?Nzq ?lzq ?izq ?nzq ?_ ?szq ?tzq; (case Fzq => k_asm); (case Nzq => k_asm); (case lzq => with_reducible assumption); (case izq => with_reducible assumption); (case nzq => with_reducible assumption); (case szq => with_unfolding_all rfl); (case tzq => (intro _; with_unfolding_all rfl))); intro D' ws' h' row' F' N' l1 hI' hC'; (try k_lt l1); (try k_sweep)); (try (revert D' ws' h' row' F' N' l1 hI' hC'; intros))) | fail "no"
  k_with "call ref" => first | ((k_here; (with_reducible show wpAny _ _ (call (Value.ref 271) _) _ _ _); k_dflt (refine' block_m ?Xzq ?Tzq ?Fzq ?Nzq ?Uzq ?ozq ?rzq ?izq ?hhzq ?rmzq ?uzq ?azq ?bzq ?lzq ?_; (case Fzq => k_asm); (case Nzq => k_asm); (case Uzq => k_updF); (case Xzq => k_asm); (case Tzq => k_asm); (case ozq => first | with_reducible assumption | assumption); (case rzq => first | with_reducible assumption | exact News.isList (by k_asm) (by k_mem)); (case izq => with_reducible assumption); (case hhzq => assumption); (case rmzq => (first | omega | (simp only [depth_deeper]; omega))); (case uzq => (first | omega | (simp only [units_deeper]; omega))); (case azq => omega); (case bzq => omega); (case lzq => omega); k_whole); intro v' Z' lv' h' tk' o' n' l' t1' t2' F' N' dZ' ho' n1' n2' B'; (try dsimp only at N'); (try simp only [List.cons_append, List.nil_append, List.append_assoc] at N')); (try (revert v' Z' lv' h' tk' o' n' l' t1' t2' F' N' dZ' ho' n1' n2' B'; intros))) | fail "no"
  trivial

set_option maxHeartbeats 8000000 in
theorem segA {w : World} {A : Around} {E : Value → Shared → Prop} {Q : Flow → Shared → Prop} {s : Shared} {h₀ : Heap} {L fa sa : Nat} {p : Program} {loose : List Str} {mg mb : Str → Option Value} {o1 o2 o3 o4 o5 o6 o7 o8 o9 ot : Obj} {rest : List Stmt} {vs : List Value} {row : List Int}
    (X : (hd.heap_39 w.params).In h₀) (T : TopRead p loose mg mb h₀) (hh : A.handled = none) (hroom : A.depth + 200 < recursionLimit) (hu : A.units + 800 < cLine) (lL : 292 < L) (F : Fr h₀ L s.heap (fun y => if y = Str.ofString "script" then some (.ref sa) else none))
    (N : News h₀ L s.heap ((L + 9, o9) :: (L + 8, o8) :: (L + 7, o7) :: (L + 6, o6) :: (L + 5, o5) :: (L + 4, o4) :: (L + 3, o3) :: (L + 2, o2) :: (L + 1, o1) :: ((292 : Nat), ot) ::  []))
    (hsa : h₀.IsList sa vs.toArray) (hi : IntsAre vs row) (hl : row.length ≤ 63) (d1 : o1.data = .cell none)
    (h : Hid (∀ h' tk o1 (cup r : Nat) oc ws row n l t1 t2 vm lm Z, Fr h₀ L h' (fun y => if y = Str.ofString "main" then some (vm) else if y = Str.ofString "script" then some (.ref sa) else none) → News h₀ L h' ((cup, oc) :: (L + 9, o9) :: (L + 8, o8) :: (L + 7, o7) :: (L + 6, o6) :: (L + 5, o5) :: (L + 4, o4) :: (L + 3, o3) :: (L + 2, o2) :: (L + 1, o1) :: ((292 : Nat), ot) ::  Z) → Apt (cup :: [L + 9, L + 8, L + 7, L + 6, L + 5, L + 4, L + 3, L + 2, L + 1, 292]) Z → L + 9 < cup → (cup == sysModules) = false → oc.IsDictOf (strKind PySem.Challenge.rw_qz0087_01.row.prog w) (CupKvs r n l t1 t2) → (r, listOf (List.toArray ws) 0) ∈ Z → IntsAre ws row → row.length ≤ 60 → 0 ≤ n → n ≤ 11 → o1.data = .cell (some (.ref cup)) → BlockL Z vm lm → wpAny (model PySem.Challenge.rw_qz0087_01.row.prog w) A (execs rest (lawE w fa L)) Q E { s with heap := h', toks := tk })) :
    wpAny (model PySem.Challenge.rw_qz0087_01.row.prog w) A (execs (nthS (lawB w) 0 :: nthS (lawB w) 1 :: rest) (lawE w fa L)) Q E s := by
  have eE : lawE w fa L = envOfC (Str.ofString "law") (lawFd w).scope L fa (.ref 294) := rfl
  conv at eE in (FuncData.scope _) => whnf
  rw [eE]
  conv in (nthS _ 0) => whnf
  conv in (nthS _ 1) => whnf
  k_steps
  rw [← eE]
  rename_i cup h1 oe lo0 e0 l1 r ws h2 row1 i1 c1 l2 h3 oc1 k1 h4 o1' dc1 vm Z lm h5 tk oc n l t1 t2 dZ ho n1 n2 B h6 F6 N6
  have z1 : L + 9 < cup := by omega
  have z2 : (n : Int) ≤ 11 := by omega
  have z3 : Apt (cup :: [L + 9, L + 8, L + 7, L + 6, L + 5, L + 4, L + 3, L + 2, L + 1, 292]) ((r, listOf (List.toArray ws) 0) :: Z) := by
    refine Apt.cons ?_ (Apt.of dZ ?_)
    · repeat (refine zc (by k_ne) ?_)
      exact List.forall_mem_nil _
    · repeat (refine zc (⟨_, by k_mem⟩) ?_)
      exact List.forall_mem_nil _
  have z4 : News h₀ L h6 ((cup, oc) :: (L + 9, o9) :: (L + 8, o8) :: (L + 7, o7) :: (L + 6, o6) :: (L + 5, o5) :: (L + 4, o4) :: (L + 3, o3) :: (L + 2, o2) :: (L + 1, o1') :: ((292 : Nat), ot) ::  (r, listOf (List.toArray ws) 0) :: Z) := News.sub N6 (by k_all)
  have z5 : BlockL ((r, listOf (List.toArray ws) 0) :: Z) vm lm := B.mono fun q hq => .tail _ hq
  have z6 := fun tk => h.out _ tk o1' cup r oc ws row1 n l t1 t2 vm lm ((r, listOf (List.toArray ws) 0) :: Z) F6 z4 z3 z1 lo0 ho (.head _) i1 c1 n1 z2 dc1 z5
  dsimp only
  exact z6 _
-- SgB
theorem mem_in {α : Type} {a : α} {Z l : List α} (h : a ∈ Z) (hs : ∀ q ∈ Z, q ∈ l) : a ∈ l := hs a h
theorem off3_app {I C D : Addr} {l Z : List (Addr × Obj)} (h : LCg.Off3 I C D l) (hz : ∀ q ∈ Z, q.1 ≠ I ∧ q.1 ≠ C ∧ q.1 ≠ D) : LCg.Off3 I C D (l ++ Z) := LCg.Off3.of fun q hq => (List.mem_append.mp hq).elim (h.mem q) (hz q)
theorem off1_memN {D : Addr} {l : List (Addr × Obj)} (h : LCg.Off1 D l) : ∀ p ∈ l, @Ne Nat p.1 D := by
  induction l with
  | nil => intro p hp; cases hp
  | cons a r ih =>
    intro p hp
    rcases List.mem_cons.mp hp with rfl | hp
    · exact h.1
    · exact ih h.2 p hp
noncomputable def Blks (Z : List (Addr × Obj)) (ys : List Value) (ls : List DL) : Prop := ys.length = ls.length ∧ ∀ (i : Nat) v l, ys[i]? = some v → ls[i]? = some l → BlockL Z v l
theorem Blks.nil {Z : List (Addr × Obj)} : Blks Z [] [] := ⟨rfl, fun i v l h => by simp at h⟩
theorem Blks.mono {Z Z' : List (Addr × Obj)} (hs : ∀ q ∈ Z, q ∈ Z') {ys : List Value} {ls : List DL} (h : Blks Z ys ls) : Blks Z' ys ls := ⟨h.1, fun i v l a b => (h.2 i v l a b).mono hs⟩
theorem Blks.snoc {Z : List (Addr × Obj)} {ys : List Value} {ls : List DL} {v : Value} {l : DL} (h : Blks Z ys ls) (hb : BlockL Z v l) : Blks Z (ys ++ [v]) (ls ++ [l]) := by
  refine ⟨by simp [h.1], fun i x y a b => ?_⟩
  by_cases hi : i < ys.length
  · rw [List.getElem?_append_left hi] at a
    rw [List.getElem?_append_left (h.1 ▸ hi)] at b
    exact h.2 i x y a b
  · rw [List.getElem?_append_right (Nat.le_of_not_lt hi)] at a
    rw [List.getElem?_append_right (h.1 ▸ Nat.le_of_not_lt hi), ← h.1] at b
    cases q : i - ys.length with
    | zero => rw [q] at a b; cases a; cases b; exact hb
    | succ k => rw [q] at a; cases a
example : True := by
  k_with "call ref" => first | ((k_here; (with_reducible show wpAny _ _ (call (Value.ref 261) _) _ _ _); k_dflt (refine' toss_l ?Xzq ?Tzq ?Fzq ?Nzq ?Uzq ?hozq ?hrzq ?hizq ?c1zq ?c2zq ?c3zq ?c4zq ?c5zq ?c6zq ?c7zq ?_; (case Fzq => k_asm); (case Nzq => k_asm); (case Xzq => k_asm); (case Tzq => k_asm); (case Uzq => k_updF); (case hozq => with_reducible assumption); (case hrzq => first | with_reducible assumption | exact News.isList (by k_asm) (mem_in (by with_reducible assumption) (by k_all))); (case hizq => with_reducible assumption); (case c1zq => (first | omega | (simp only [depth_deeper]; omega))); (case c2zq => (first | omega | (simp only [units_deeper]; omega))); (case c3zq => omega); (case c4zq => omega); (case c5zq => omega); (case c6zq => decide); (case c7zq => decide); k_whole); intro val' h' tk' o' t1' tv' hv0' hv1' F' N' hd'; (try dsimp only at N'); (try k_sweep)); (try (revert val' h' tk' o' t1' tv' hv0' hv1' F' N' hd'; intros))) | fail "no"
  k_with "call ref" => first | ((k_here; (with_reducible show wpAny _ _ (call (Value.ref 271) _) _ _ _); k_dflt (refine' block_m ?Xzq ?Tzq ?Fzq ?Nzq ?Uzq ?ozq ?rzq ?izq ?hhzq ?rmzq ?uzq ?azq ?bzq ?lzq ?_; (case Fzq => k_asm); (case Nzq => k_asm); (case Uzq => k_updF); (case Xzq => k_asm); (case Tzq => k_asm); (case ozq => first | with_reducible assumption | assumption); (case rzq => first | with_reducible assumption | exact News.isList (by k_asm) (mem_in (by with_reducible assumption) (by k_all))); (case izq => with_reducible assumption); (case hhzq => assumption); (case rmzq => (first | omega | (simp only [depth_deeper]; omega))); (case uzq => (first | omega | (simp only [units_deeper]; omega))); (case azq => omega); (case bzq => omega); (case lzq => omega); k_whole); intro v' Z' lv' h' tk' o' n' l' t1' t2' F' N' dZ' ho' n1' n2' B'; (try dsimp only at N'); (try simp only [List.cons_append, List.nil_append, List.append_assoc] at N')); (try (revert v' Z' lv' h' tk' o' n' l' t1' t2' F' N' dZ' ho' n1' n2' B'; intros))) | fail "no"
  k_with "eval Name" => first | (k_here; (with_reducible show wpAny _ _ (eval (Expr.Name _ _) (compEnvC _ _ _ _)) _ _ _); k_dflt (first
    | (refine' nameB_C ?Nzq ?czq ?mzq ?dzq ?_ ?azq ?bzq ?ezq; (case azq => rfl); (case bzq => rfl); (case ezq => decide); (case Nzq => k_asm); (case czq => rfl); (case mzq => k_mem); (case dzq => k_asm); k_whole)
    | (refine' nameG_K ?Fzq ?Xzq ?Tzq ?ezq ?_ ?k4zq ?k5zq ?k6zq ?k7zq; (case k4zq => rfl); (case k5zq => rfl); (case k6zq => rfl); (case k7zq => decide); (case Fzq => k_asm); (case Xzq => k_asm); (case Tzq => k_asm); (case ezq => k_is); k_whole))) | fail "no"
  trivial

noncomputable def InvB (w : World) (L cup r : Nat) (o1 o2 o3 o4 o5 o6 o7 o8 o9 ot : Obj) (Z : List (Addr × Obj)) (i : Nat) (ys : List Value) (news : List (Addr × Obj)) : Prop :=
  ∃ oc n l t1 t2 Z' ls, news = (cup, oc) :: (L + 9, o9) :: (L + 8, o8) :: (L + 7, o7) :: (L + 6, o6) :: (L + 5, o5) :: (L + 4, o4) :: (L + 3, o3) :: (L + 2, o2) :: (L + 1, o1) :: ((292 : Nat), ot) ::  Z' ∧ Apt (cup :: [L + 9, L + 8, L + 7, L + 6, L + 5, L + 4, L + 3, L + 2, L + 1, 292]) Z' ∧ (∀ q ∈ Z, q ∈ Z') ∧ oc.IsDictOf (strKind PySem.Challenge.rw_qz0087_01.row.prog w) (CupKvs r n l t1 t2) ∧ (0:Int) ≤ n ∧ n ≤ 12 + 11 * (i : Int) ∧ Blks Z' ys ls ∧ ys.length = i
set_option maxHeartbeats 8000000 in
theorem segB {w : World} {A : Around} {E : Value → Shared → Prop} {Q : Flow → Shared → Prop} {s : Shared} {h₀ : Heap} {L fa sa : Nat} {p : Program} {loose : List Str} {mg mb : Str → Option Value} {o1 o2 o3 o4 o5 o6 o7 o8 o9 ot : Obj} {rest : List Stmt} {cup r : Nat} {oc : Obj} {ws : List Value} {row : List Int} {n l : Int} {t1 t2 : Tok} {Z : List (Addr × Obj)} {sa vm : Value} {lm : DL}
    (X : (hd.heap_39 w.params).In h₀) (T : TopRead p loose mg mb h₀) (hh : A.handled = none) (hroom : A.depth + 200 < recursionLimit) (hu : A.units + 800 < cLine) (lL : 292 < L) (F : Fr h₀ L s.heap (fun y => if y = Str.ofString "main" then some (vm) else if y = Str.ofString "script" then some (sa) else none)) (N : News h₀ L s.heap ((cup, oc) :: (L + 9, o9) :: (L + 8, o8) :: (L + 7, o7) :: (L + 6, o6) :: (L + 5, o5) :: (L + 4, o4) :: (L + 3, o3) :: (L + 2, o2) :: (L + 1, o1) :: ((292 : Nat), ot) ::  Z)) (ap : Apt (cup :: [L + 9, L + 8, L + 7, L + 6, L + 5, L + 4, L + 3, L + 2, L + 1, 292]) Z) (lc : L + 9 < cup) (sm : (cup == sysModules) = false) (ho : oc.IsDictOf (strKind PySem.Challenge.rw_qz0087_01.row.prog w) (CupKvs r n l t1 t2)) (hr : (r, listOf (List.toArray ws) 0) ∈ Z) (hi : IntsAre ws row) (hl : row.length ≤ 60) (n0 : 0 ≤ n) (n1 : n ≤ 11) (d1 : o1.data = .cell (some (.ref cup))) (d2 : o2.data = .cell none) (B : BlockL Z vm lm)
    (h : Hid (∀ h' tk o2 (lb : Nat) oc ys ls n l t1 t2 Z', Fr h₀ L h' (fun y => if y = Str.ofString "main" then some (vm) else if y = Str.ofString "script" then some (sa) else none) → News h₀ L h' ((cup, oc) :: (L + 9, o9) :: (L + 8, o8) :: (L + 7, o7) :: (L + 6, o6) :: (L + 5, o5) :: (L + 4, o4) :: (L + 3, o3) :: (L + 2, o2) :: (L + 1, o1) :: ((292 : Nat), ot) ::  Z') → Apt (cup :: [L + 9, L + 8, L + 7, L + 6, L + 5, L + 4, L + 3, L + 2, L + 1, 292]) Z' → (∀ q ∈ Z, q ∈ Z') → oc.IsDictOf (strKind PySem.Challenge.rw_qz0087_01.row.prog w) (CupKvs r n l t1 t2) → (0:Int) ≤ n → n ≤ 45 → o2.data = .cell (some (.ref lb)) → (lb, LCg.lst ys) ∈ Z' → Blks Z' ys ls → 1 ≤ ys.length → ys.length ≤ 3 → wpAny (model PySem.Challenge.rw_qz0087_01.row.prog w) A (execs rest (lawE w fa L)) Q E { s with heap := h', toks := tk })) :
    wpAny (model PySem.Challenge.rw_qz0087_01.row.prog w) A (execs (nthS (lawB w) 2 :: rest) (lawE w fa L)) Q E s := by
  have eE : lawE w fa L = envOfC (Str.ofString "law") (lawFd w).scope L fa (.ref 294) := rfl
  conv at eE in (FuncData.scope _) => whnf
  rw [eE]
  conv in (nthS _ 2) => whnf
  k_steps
  rename_i val h1 tk1 oc1 tq1 tv1 v0 v1 F1 N1 ho1 h2 tk2 t3 u3 v3 hr2 F2 N2 keep2
  have hv : val = 0 ∨ val = 1 ∨ val = 2 := by omega
  have hrng : Builtin.Range.small 0 (1+val) 1 = true ∧ Builtin.Range.rangeSize 0 (1+val) 1 = (((1+val).toNat : Nat) : Int) := by rcases hv with rfl | rfl | rfl <;> exact ⟨by decide, by decide⟩
  have hk1 : 1 ≤ (1+val).toNat := by omega
  have hk3 : (1+val).toNat ≤ 3 := by omega
  refine LCg.CompSrc.range hh F2 N2 hr2 hrng.1 (n := (1+val).toNat) hrng.2 (Nat.le_trans hk3 (by decide)) ?_
  intro g'
  clear F2 N2 keep2 hr2 F1 N1
  refine rest_ind (n := (1+val).toNat) (InvB w L cup r o1 o2 o3 o4 o5 o6 o7 o8 o9 ot Z) ?turn ?fin _ 0 [] _ (Nat.zero_add _) ⟨oc1, n + 1, l, _, _, Z, [], rfl, ap, fun q hq => hq, ho1, by omega, by omega, Blks.nil, rfl⟩
  case turn =>
    intro i ys news hi1 hI v I oI C oC D m₂ h tk E' hP hoC hx F N off ne
    obtain ⟨oc2, n2, l2, t12, t22, Z2, ls, rfl, ap2, sub2, ho2, a0, a1, bl, len⟩ := hI
    obtain ⟨ne1, ne2, ne3⟩ := ne
    have offZ : ∀ p ∈ Z2, p.1 ≠ I ∧ p.1 ≠ C ∧ p.1 ≠ D := fun p hp => off.mem p (by repeat (first | exact hp | refine List.Mem.tail _ ?_))
    have off0 := off
    have offa17 := zoffI off
    have offb17 := zoffC off
    have offc17 := zoffD off
    simp only [LCg.Off3] at off
    replace hr := sub2 _ hr
    k_steps
    rename_i v9 Z9 l9 h9 tk9 oc9 n9 l9' t19 t29 F9 N9 d9 ho9 m1 m2 B9
    have ap9 : Apt (cup :: [L + 9, L + 8, L + 7, L + 6, L + 5, L + 4, L + 3, L + 2, L + 1, 292]) (Z2 ++ Z9) := Apt.app ap2 (Apt.of d9 (by
      repeat (refine zc (⟨_, by k_mem⟩) ?_)
      exact List.forall_mem_nil _))
    refine LCg.CompEnd.intro F9 N9 ((cup, oc9) :: (L + 9, o9) :: (L + 8, o8) :: (L + 7, o7) :: (L + 6, o6) :: (L + 5, o5) :: (L + 4, o4) :: (L + 3, o3) :: (L + 2, o2) :: (L + 1, o1) :: ((292 : Nat), ot) ::  (Z2 ++ Z9)) (fun q hq => hq) (off3_app (l := (cup, oc9) :: (L + 9, o9) :: (L + 8, o8) :: (L + 7, o7) :: (L + 6, o6) :: (L + 5, o5) :: (L + 4, o4) :: (L + 3, o3) :: (L + 2, o2) :: (L + 1, o1) :: ((292 : Nat), ot) ::  Z2) off0 fun q hq => ⟨d9 q hq (I, oI) (by k_mem), d9 q hq (C, oC) (by k_mem), d9 q hq (D, LCg.lst ys) (by k_mem)⟩) trivial ⟨oc9, n9, _, _, _, Z2 ++ Z9, ls ++ [l9], rfl, ap9, fun q hq => List.mem_append_left _ (sub2 q hq), ho9, by omega, by omega, (bl.mono (fun q hq => List.mem_append_left _ hq)).snoc (B9.mono fun q hq => List.mem_append_right _ hq), by simp [len]⟩
  case fin =>
    intro ys news hI
    obtain ⟨oc2, n2, l2, t12, t22, Z2, ls, rfl, ap2, sub2, ho2, a0, a1, bl, len⟩ := hI
    unfold LCg.FinE
    intro D2 h3 tk3 F3 N3 o3'
    have offZ : ∀ p ∈ Z2, @Ne Nat p.1 D2 := fun p hp => off1_memN o3' p (by repeat (first | exact hp | refine List.Mem.tail _ ?_))
    have offd18 := zoff1 o3'
    simp only [LCg.Off1] at o3'
    dsimp only
    k_steps
    rw [← eE]
    rename_i h9 o9' F9 N9 d9
    have z3 : Apt (cup :: [L + 9, L + 8, L + 7, L + 6, L + 5, L + 4, L + 3, L + 2, L + 1, 292]) ((D2, LCg.lst ys) :: Z2) := by
      refine Apt.cons ?_ ap2
      repeat (refine zc (by k_ne) ?_)
      exact List.forall_mem_nil _
    have z4 : News h₀ L h9 ((cup, oc2) :: (L + 9, o9) :: (L + 8, o8) :: (L + 7, o7) :: (L + 6, o6) :: (L + 5, o5) :: (L + 4, o4) :: (L + 3, o3) :: (L + 2, o9') :: (L + 1, o1) :: ((292 : Nat), ot) ::  (D2, LCg.lst ys) :: Z2) := News.sub N9 (by k_all)
    have z6 := fun tk => h.out _ tk o9' D2 oc2 ys ls n2 l2 t12 t22 ((D2, LCg.lst ys) :: Z2) F9 z4 z3 (fun q hq => .tail _ (sub2 q hq)) ho2 a0 (by omega) d9 (.head _) (bl.mono fun q hq => .tail _ hq) (by omega) (by omega)
    dsimp only
    exact z6 _
-- SgC
example : True := by
  k_with "call ref" => first | ((k_here; (with_reducible show wpAny _ _ (call (Value.ref 164) _) _ _ _); k_dflt (refine' tw_l ?Xzq ?Tzq ?TWzq ?TCzq ?wezq ?cazq ?Fzq ?Nzq ?Bzq ?hszq ?hhzq ?c1zq ?c2zq ?_; (case Fzq => k_asm); (case Nzq => k_asm); (case Xzq => k_asm); (case Tzq => k_asm); (case TWzq => with_reducible assumption); (case TCzq => with_reducible assumption); (case wezq => with_reducible assumption); (case cazq => with_reducible assumption); (case Bzq => with_reducible assumption); (case hszq => k_all); (case hhzq => assumption); (case c1zq => (first | omega | (simp only [depth_deeper]; omega))); (case c2zq => (first | omega | (simp only [units_deeper]; omega))); k_whole); intro a' t1' t2' n' h' tk' F' N' ne'; (try simp only [List.forall_mem_cons] at ne')); (try (revert a' t1' t2' n' h' tk' F' N' ne'; intros))) | fail "no"
  k_with "call ref" => first | ((k_here; (with_reducible show wpAny _ _ (call (Value.ref 283) _) _ _ _); k_dflt (refine' lb_l ?Xzq ?Tzq ?TWzq ?TCzq ?Fzq ?Nzq ?Bzq ?hszq ?hhzq ?c1zq ?c2zq ?_; (case Fzq => k_asm); (case Nzq => k_asm); (case Xzq => k_asm); (case Tzq => k_asm); (case TWzq => with_reducible assumption); (case TCzq => with_reducible assumption); (case Bzq => with_reducible assumption); (case hszq => k_all); (case hhzq => assumption); (case c1zq => (first | omega | (simp only [depth_deeper]; omega))); (case c2zq => (first | omega | (simp only [units_deeper]; omega))); k_whole); intro a' t1' t2' n' h' tk' F' N' ne'; (try simp only [List.forall_mem_cons] at ne')); (try (revert a' t1' t2' n' h' tk' F' N' ne'; intros))) | fail "no"
  trivial

set_option maxHeartbeats 8000000 in
theorem segC {w : World} {A : Around} {E : Value → Shared → Prop} {Q : Flow → Shared → Prop} {s : Shared} {h₀ : Heap} {L fa sa : Nat} {p : Program} {loose : List Str} {mg mb : Str → Option Value} {o1 o2 o3 o4 o5 o6 o7 o8 o9 ot : Obj} {rest : List Stmt} {cup r : Nat} {oc : Obj} {ws : List Value} {row : List Int} {n l : Int} {t1 t2 : Tok} {Z : List (Addr × Obj)} {wei cal : Str → Option Int} {sa vm : Value} {lm : DL}
    (X : (hd.heap_39 w.params).In h₀) (T : TopRead p loose mg mb h₀) (hh : A.handled = none) (hroom : A.depth + 200 < recursionLimit) (hu : A.units + 800 < cLine) (lL : 292 < L) (TW : TabI w h₀ 136 wei) (TC : TabI w h₀ 139 cal) (hwe : ∀ x i, wei x = some i → 0 ≤ i) (hca : ∀ x i, cal x = some i → 0 ≤ i) (F : Fr h₀ L s.heap (fun y => if y = Str.ofString "main" then some (vm) else if y = Str.ofString "script" then some (sa) else none)) (N : News h₀ L s.heap ((cup, oc) :: (L + 9, o9) :: (L + 8, o8) :: (L + 7, o7) :: (L + 6, o6) :: (L + 5, o5) :: (L + 4, o4) :: (L + 3, o3) :: (L + 2, o2) :: (L + 1, o1) :: ((292 : Nat), ot) ::  Z)) (ap : Apt (cup :: [L + 9, L + 8, L + 7, L + 6, L + 5, L + 4, L + 3, L + 2, L + 1, 292]) Z) (lc : L + 9 < cup) (sm : (cup == sysModules) = false) (ho : oc.IsDictOf (strKind PySem.Challenge.rw_qz0087_01.row.prog w) (CupKvs r n l t1 t2)) (hr : (r, listOf (List.toArray ws) 0) ∈ Z) (hi : IntsAre ws row) (hl : row.length ≤ 60) (n0 : 0 ≤ n) (n1 : n ≤ 45) (d1 : o1.data = .cell (some (.ref cup))) (B : BlockL Z vm lm)
    (h : Hid (∀ h' tk oc (bd : Int) tb l t1, Fr h₀ L h' (fun y => if y = Str.ofString "bound" then some (.int bd tb) else if y = Str.ofString "main" then some (vm) else if y = Str.ofString "script" then some (sa) else none) → News h₀ L h' ((cup, oc) :: (L + 9, o9) :: (L + 8, o8) :: (L + 7, o7) :: (L + 6, o6) :: (L + 5, o5) :: (L + 4, o4) :: (L + 3, o3) :: (L + 2, o2) :: (L + 1, o1) :: ((292 : Nat), ot) ::  Z) → oc.IsDictOf (strKind PySem.Challenge.rw_qz0087_01.row.prog w) (CupKvs r (n + 1) l t1 t2) → 20 ≤ bd → bd ≤ 215 → wpAny (model PySem.Challenge.rw_qz0087_01.row.prog w) A (execs rest (lawE w fa L)) Q E { s with heap := h', toks := tk })) :
    wpAny (model PySem.Challenge.rw_qz0087_01.row.prog w) A (execs (nthS (lawB w) 3 :: nthS (lawB w) 4 :: rest) (lawE w fa L)) Q E s := by
  have eE : lawE w fa L = envOfC (Str.ofString "law") (lawFd w).scope L fa (.ref 294) := rfl
  conv at eE in (FuncData.scope _) => whnf
  rw [eE]
  conv in (nthS _ 3) => whnf
  conv in (nthS _ 4) => whnf
  k_steps
  rename_i val h1 tk1 oc1 tq1 tv1 v0 v1 ho1 h2 F2 N2 a3 t13 t23 n3 h3 tk3 F3 N3 ne3 a4 t14 t24 n4 h4 tk4 F4 N4 ne4
  rw [← eE]
  have z4 : News h₀ L h4 ((cup, oc1) :: (L + 9, o9) :: (L + 8, o8) :: (L + 7, o7) :: (L + 6, o6) :: (L + 5, o5) :: (L + 4, o4) :: (L + 3, o3) :: (L + 2, o2) :: (L + 1, o1) :: ((292 : Nat), ot) ::  Z) := News.sub N4 (by k_all)
  have z6 := fun tk => h.out _ tk oc1 (20 + 5 * val) _ l tq1 F4 z4 ho1 (by omega) (by omega)
  dsimp only
  exact z6 _
-- RunI
theorem putR_any {name : Str} {hsh : Int} {t : Tok} {v : Value} : ∀ {es : List DictEntry}, es.any (·.refKey) = false → (putL name hsh (.str name t) v es).any (·.refKey) = false
  | [], _ => rfl
  | e :: r, h => by
    rw [List.any_cons, Bool.or_eq_false_iff] at h
    unfold putL
    split
    · rw [List.any_cons, Bool.or_eq_false_iff]; exact ⟨h.1, h.2⟩
    · rw [List.any_cons, Bool.or_eq_false_iff]; exact ⟨h.1, putR_any h.2⟩
theorem putR_le {name : Str} {hsh : Int} {key v : Value} : ∀ {es : List DictEntry}, (putL name hsh key v es).length ≤ es.length + 1
  | [] => Nat.le_refl _
  | e :: r => by
    unfold putL
    split
    · exact Nat.le_succ _
    · exact Nat.succ_le_succ putR_le
theorem putR_self {name : Str} {hsh : Int} {t : Tok} {v : Value} : ∀ {es : List DictEntry}, ((putL name hsh (.str name t) v es).find? (·.key.isStr name)).map (·.val) = some v
  | [] => by unfold putL; rw [List.find?_cons]; dsimp only; rw [isStr_str, beq_self_eq_true]; rfl
  | e :: r => by
    unfold putL
    by_cases q : e.key.isStr name = true
    · rw [if_pos q, List.find?_cons]; dsimp only; rw [q]; rfl
    · rw [if_neg q, List.find?_cons]; simp only [q]; exact putR_self
theorem putR_other {name nm : Str} {hsh : Int} {t : Tok} {v : Value} (hn : ∀ k : Value, k.isStr name = true → k.isStr nm = false) : ∀ {es : List DictEntry}, ((putL name hsh (.str name t) v es).find? (·.key.isStr nm)).map (·.val) = (es.find? (·.key.isStr nm)).map (·.val)
  | [] => by unfold putL; rw [List.find?_cons]; dsimp only; rw [hn _ (by rw [isStr_str, beq_self_eq_true])]
  | e :: r => by
    unfold putL
    by_cases q : e.key.isStr name = true
    · rw [if_pos q, List.find?_cons, List.find?_cons]; dsimp only; rw [hn _ q]
    · rw [if_neg q, List.find?_cons, List.find?_cons]
      cases e.key.isStr nm
      · exact putR_other hn
      · rfl
theorem getL_map {nm : Str} {es : List DictEntry} {v : Value} : (es.find? (·.key.isStr nm)).map (·.val) = some v ↔ getL nm es = some (some v) := by
  unfold getL
  cases es.find? (·.key.isStr nm) with
  | none => dsimp only [Option.map]; constructor; (intro h; cases h); (intro h; split at h <;> cases h)
  | some e => simp
noncomputable def RunP (es : List DictEntry) (k : Nat) (o : Option Value) : Prop := es.any (·.refKey) = false ∧ es.length ≤ k ∧ ∀ v, o = some v → getL "frames" es = some (some v)
theorem RunP.put {es : List DictEntry} {k : Nat} {o : Option Value} {name : Str} {hsh : Int} {t : Tok} {v : Value} {b : Bool} (x : RunP es k o) (hb : (name == Str.ofString "frames") = b) : RunP (putL name hsh (.str name t) v es) (k + 1) (bif b then some v else o) := by
  refine ⟨putR_any x.1, Nat.le_trans putR_le (Nat.succ_le_succ x.2.1), fun u hu => ?_⟩
  cases b with
  | true => cases hu; have := beq_iff_eq.mp hb; subst this; exact getL_map.mp putR_self
  | false =>
    refine getL_map.mp ((putR_other fun k hk => ?_).trans (getL_map.mpr (x.2.2 _ hu)))
    cases k <;> try cases hk
    rename_i y t
    rw [isStr_str] at hk ⊢
    rw [beq_iff_eq.mp hk]; exact hb
theorem set_run {K : Frag} {x C dx L : Addr} {h₀ : Heap} {m : Str → Option Value} {news : List (Addr × Obj)} {g : Obj → List (Addr × Obj)} {ox : Obj} {es : List DictEntry} {n k : Nat} {o : Option Value} {name : Str} {v : Value} {b : Bool} {prog : Program} {w : World} {A : Around} {E : Value → Shared → Prop} {s : Shared} {Q : Unit → Shared → Prop} (F : Fr h₀ L s.heap m) (X₀ : K.In h₀) (N : News h₀ L s.heap news) (R : RunP es k o) (I : W.InstAt s.heap x ox C (some (dictOf es n))) (hd : ox.dict = some dx)
    (hs : findIn K (.ref C) "__setattr__" = some (some (.builtin "object.__setattr__"))) (hp : plainOver K C = true) (ht : takerIn K C name = some none) (hh : hasDictIn K C = true) (U : UpdF dx (dictOf es n) news g) (hb : (name == Str.ofString "frames") = b) (hz : k ≤ 900)
    (h : ∀ h' es' n' tk, Fr h₀ L h' m → News h₀ L h' (g (dictOf es' n')) → RunP es' (k + 1) (bif b then some v else o) → Q () { s with heap := h', toks := tk }) :
    wpAny (model prog w) A (setAttr (.ref x) name v) Q E s := by
  obtain ⟨pre, post, rfl, hg, a, b⟩ := U.split
  have U' : ∀ o', Upd dx (dictOf es n) o' (pre ++ (dx, dictOf es n) :: post) (pre ++ (dx, o') :: post) := fun o' => by
    clear hg N U
    induction pre with
    | nil => exact Upd.head b
    | cons p r ih => exact Upd.tail (a p (.head _)) (ih fun q hq => a q (.tail _ hq))
  have hl : (getL name es).isSome = true := by
    unfold getL
    cases es.find? (·.key.isStr name) with
    | some e => rfl
    | none => dsimp only; rw [R.1]; rfl
  have R' := R.put (hsh := PyData.keyHash w.params name) (t := s.toks + 1) (v := v) hb
  refine set_dict F X₀ N I hd hs hp ht hh hl rfl (U' _) (Nat.le_trans R'.2.1 (by omega)) fun h' F' N' => ?_
  exact h h' _ _ _ F' (by rw [hg]; exact N') R'
example : True := by
  k_with "setAttr ref" => first | ((k_here; (with_reducible show wpAny _ _ (setAttr _ _ _) _ _ _); k_dflt (refine' set_run ?k1zq ?k2zq ?k3zq ?k0zq ?k4zq ?k5zq ?k6zq ?k7zq ?k8zq ?k9zq ?k12zq ?k10zq ?k13zq ?_; (case k1zq => k_asm); (case k2zq => k_asm); (case k3zq => k_asm); (case k0zq => k_asm); (case k4zq => k_inst); (case k5zq => exact rfl); (case k6zq => k_is); (case k7zq => k_is); (case k8zq => k_is); (case k9zq => k_is); (case k10zq => exact rfl); (case k12zq => k_updF); (case k13zq => exact Nat.le_of_ble_eq_true rfl); k_whole; intro h' es' n' tk' F' N' R'; (try k_sweep))); (try (revert h' es' n' tk' F' N' R'; intros))) | fail "no"
  trivial
set_option maxHeartbeats 8000000 in
theorem ri_c {w : World} {A : Around} {s : Shared} {H : Heap} {p : Program} {loose : List Str} {mg mb : Str → Option Value} {R : Result → Shared → Prop} {x dx : Addr} {v1 v2 v3 v4 : Value}
    (hk : H.StaysIn s.heap) (X : (hd.heap_39 w.params).In H) (T : TopRead p loose mg mb H) (hroom : A.depth + 10 < recursionLimit) (hu : A.units + 20 < cLine)
    (hx : s.heap.get? x = some (instObj 91 dx)) (hd : s.heap.get? dx = some (dictOf [] 0)) (hxH : H.get? x = none) (hdH : H.get? dx = none)
    (hret : ∀ h' tk lf od, (∀ b o, b ≠ dx → s.heap.get? b = some o → h'.get? b = some o) → h'.get? dx = some od → lookIn "frames" od = some (some (.ref lf)) → s.heap.get? lf = none → h'.get? lf = some (LCg.lst []) → R (.ok (.ret .none)) { s with heap := h', toks := tk }) :
    codeAny (model PySem.Challenge.rw_qz0087_01.row.prog w) A (.call (.ref 88) ⟨[.ref x, v1, v2, v3, v4], []⟩) R s := by
  have nx : @Ne Nat x dx := fun q => by replace q : x = dx := q; rw [q, hd] at hx; cases hx
  revert X; k_fill; intro X
  refine' call_raw (muts := [(x, instObj 91 dx), (dx, dictOf [] 0)]) hk ?km X T ?k6 ?k7 ?k8 ?k9 ?kB ?kD ?kh ?c2 ?c3 ?c4
  case km => (intro q hq; rcases List.mem_cons.mp hq with rfl | hq; exact ⟨hx, hxH⟩; rcases List.mem_singleton.mp hq with rfl; exact ⟨hd, hdH⟩)
  case k6 => k_is
  case k7 => k_is
  case k8 => omega
  case k9 => exact BindsTo.of_eq rfl
  case kB => exact rfl
  case kD => decide +kernel
  case c2 => exact rfl
  case c3 => exact rfl
  case c4 => exact rfl
  intro g L' h₁ tk0 cells hg hL st X' T' F N Y l1

  cases Y
  simp only [List.nil_append] at N
  k_lt l1
  replace F : Fr g L' h₁ (fun y => if y = Str.ofString "limits" then some v4 else if y = Str.ofString "stash" then some v3 else if y = Str.ofString "counter" then some v2 else if y = Str.ofString "heap" then some v1 else if y = Str.ofString "self" then some (.ref x) else none) := F
  have R0 : RunP [] 0 none := ⟨rfl, Nat.le_refl _, fun v h => nomatch h⟩
  k_steps
  rename_i F9 N9 R9
  have q9 := News.get N9 (a := dx) (by k_mem)
  refine hret _ _ _ _ (raw_back2 hg F9 hx (News.get N9 (by k_mem))) q9 (R9.2.2 _ rfl) ?_ (News.get N9 (by k_mem))
  refine hid_new hg (News.fresh N9 (by k_mem)) ?_
  simp only [List.map_cons, List.map_nil, List.mem_cons, List.not_mem_nil, or_false, not_or]
  exact ⟨by k_ne, by k_ne⟩
section
variable {w : World} {p : Program} {loose : List Str} {mg mb : Str → Option Value} {A : Around} {E : Value → Shared → Prop} {s : Shared} {h₀ : Heap} {L : Addr} {m : Str → Option Value} {news : List (Addr × Obj)} {Q : Value → Shared → Prop}
theorem mk_run {v1 v2 v3 v4 : Value} (X : (hd.heap_39 w.params).In h₀) (T : TopRead p loose mg mb h₀) (F : Fr h₀ L s.heap m) (N : News h₀ L s.heap news) (hroom : A.depth + 30 < recursionLimit) (hu : A.units + 60 < cLine)
    (h : ∀ x dx lf od h' tk, Fr h₀ L h' m → News h₀ L h' ((lf, LCg.lst []) :: (x, instObj 91 dx) :: (dx, od) :: news) → AllLt dx news → @LT.lt Nat _ dx x → @Ne Nat lf x → @Ne Nat lf dx → (∀ p ∈ news, @Ne Nat p.1 lf) → lookIn "frames" od = some (some (.ref lf)) → Q (.ref x) { s with heap := h', toks := tk }) :
    wpAny (model PySem.Challenge.rw_qz0087_01.row.prog w) A (call (.ref 91) [v1, v2, v3, v4]) Q E s := by
  have e1 : makesIn (hd.heap_39 w.params) 91 = true := by rfl
  have e2 : findIn (hd.heap_39 w.params) (.ref 91) "__init__" = some (some (.ref 88)) := by rfl
  have e3 : isFn (hd.heap_39 w.params) (.ref 88) = true := by rfl
  refine call_cls (K := hd.heap_39 w.params) F X N e1 e2 e3 fun x dx h1 F1 N1 l1 l2 => ?_
  have nx : dx ≠ x := Nat.ne_of_lt l2
  refine ri_c F1.keep X T (by rw [depth_under_make]; omega) (by rw [units_under_make]; omega) (News.get N1 (.head _)) (News.get N1 (ym1)) (News.fresh N1 (.head _)) (News.fresh N1 (ym1)) fun h2 tk lf od hb hd hi hf hk => ⟨rfl, ?_⟩
  have fr := raw_frame F1 N1 (g := fun o => (x, instObj 91 dx) :: (dx, o) :: news) (UpdF.tail nx.symm (UpdF.head fun p hp => Nat.ne_of_lt (l1 p hp))) hb hd
  have ne : ∀ p ∈ (x, instObj 91 dx) :: (dx, dictOf [] 0) :: news, p.1 ≠ lf := fun p hp q => by
    have := (N1 p hp).1; rw [q, hf] at this; cases this
  refine h x dx lf od h2 tk fr.1 (fun q hq => ?_) (allLt_of l1) l2 (fun q => ne _ (.head _) q.symm) (fun q => ne _ (ym1) q.symm) (fun p hp => ne p (.tail _ (.tail _ hp))) hi
  rcases List.mem_cons.mp hq with rfl | hq
  · refine ⟨hk, fun q => ?_, ?_⟩
    · replace q : lf = L := q
      obtain ⟨oL, _, _, hL, _⟩ := F1.ns
      rw [q, hL] at hf; cases hf
    · cases q : h₀.get? lf with
      | none => rfl
      | some o => have := F1.keep _ _ q; rw [hf] at this; cases this
  · exact fr.2 q hq
end
-- CodeI
set_option maxHeartbeats 8000000 in
theorem ti_c {w : World} {A : Around} {s : Shared} {H : Heap} {p : Program} {loose : List Str} {mg mb : Str → Option Value} {R : Result → Shared → Prop} {x dx : Addr} {v1 : Value}
    (hk : H.StaysIn s.heap) (X : (hd.heap_39 w.params).In H) (T : TopRead p loose mg mb H) (hroom : A.depth + 10 < recursionLimit) (hu : A.units + 20 < cLine)
    (hx : s.heap.get? x = some (instObj 251 dx)) (hd : s.heap.get? dx = some (dictOf [] 0)) (hxH : H.get? x = none) (hdH : H.get? dx = none)
    (hret : ∀ h' tk lw k1 k2 k3 k4 k5 k6 j2, (∀ b o, b ≠ dx → s.heap.get? b = some o → h'.get? b = some o) → h'.get? dx = some (dictOf [⟨PyData.keyHash w.params "number", .str "number" k1, v1⟩, ⟨PyData.keyHash w.params "count", .str "count" k2, .int 0 j2⟩, ⟨PyData.keyHash w.params "blessed", .str "blessed" k3, .none⟩, ⟨PyData.keyHash w.params "weak", .str "weak" k4, .ref lw⟩, ⟨PyData.keyHash w.params "is_destroyed", .str "is_destroyed" k5, .bool false⟩, ⟨PyData.keyHash w.params "is_freed", .str "is_freed" k6, .bool false⟩] 6) → R (.ok (.ret .none)) { s with heap := h', toks := tk }) :
    codeAny (model PySem.Challenge.rw_qz0087_01.row.prog w) A (.call (.ref 227) ⟨[.ref x, v1], []⟩) R s := by
  have nx : @Ne Nat x dx := fun q => by replace q : x = dx := q; rw [q, hd] at hx; cases hx
  revert X; k_fill; intro X
  refine' call_raw (muts := [(x, instObj 251 dx), (dx, dictOf [] 0)]) hk ?km X T ?k6 ?k7 ?k8 ?k9 ?kB ?kD ?kh ?c2 ?c3 ?c4
  case km => (intro q hq; rcases List.mem_cons.mp hq with rfl | hq; exact ⟨hx, hxH⟩; rcases List.mem_singleton.mp hq with rfl; exact ⟨hd, hdH⟩)
  case k6 => k_is
  case k7 => k_is
  case k8 => omega
  case k9 => exact BindsTo.of_eq rfl
  case kB => exact rfl
  case kD => decide +kernel
  case c2 => exact rfl
  case c3 => exact rfl
  case c4 => exact rfl
  intro g L' h₁ tk0 cells hg hL st X' T' F N Y l1

  cases Y
  simp only [List.nil_append] at N
  k_lt l1
  replace F : Fr g L' h₁ (fun y => if y = Str.ofString "number" then some v1 else if y = Str.ofString "self" then some (.ref x) else none) := F
  k_steps
  rename_i F9 N9
  exact hret _ _ _ _ _ _ _ _ _ _ (raw_back2 hg F9 hx (News.get N9 (by k_mem))) (News.get N9 (a := dx) (by k_mem))
section
variable {w : World} {p : Program} {loose : List Str} {mg mb : Str → Option Value} {A : Around} {E : Value → Shared → Prop} {s : Shared} {h₀ : Heap} {L : Addr} {m : Str → Option Value} {news : List (Addr × Obj)} {g : Obj → List (Addr × Obj)} {Q : Value → Shared → Prop}
theorem ti_f {x dx : Addr} {v1 : Value} (X : (hd.heap_39 w.params).In h₀) (T : TopRead p loose mg mb h₀) (F : Fr h₀ L s.heap m) (N : News h₀ L s.heap news) (U : UpdF dx (dictOf [] 0) news g) (hx : (x, instObj 251 dx) ∈ news) (hroom : A.depth + 10 < recursionLimit) (hu : A.units + 20 < cLine)
    (h : ∀ h' tk lw k1 k2 k3 k4 k5 k6 j2, Fr h₀ L h' m → News h₀ L h' (g (dictOf [⟨PyData.keyHash w.params "number", .str "number" k1, v1⟩, ⟨PyData.keyHash w.params "count", .str "count" k2, .int 0 j2⟩, ⟨PyData.keyHash w.params "blessed", .str "blessed" k3, .none⟩, ⟨PyData.keyHash w.params "weak", .str "weak" k4, .ref lw⟩, ⟨PyData.keyHash w.params "is_destroyed", .str "is_destroyed" k5, .bool false⟩, ⟨PyData.keyHash w.params "is_freed", .str "is_freed" k6, .bool false⟩] 6)) → Q .none { s with heap := h', toks := tk }) :
    wpAny (model PySem.Challenge.rw_qz0087_01.row.prog w) A (call (.ref 227) [.ref x, v1]) Q E s := by
  have hm : (dx, dictOf [] 0) ∈ news := by obtain ⟨pre, post, rfl, _⟩ := U.split; exact List.mem_append_right _ (.head _)
  refine wpAny_call (ti_c F.keep X T hroom hu (N _ hx).1 (N _ hm).1 (N _ hx).2.2 (N _ hm).2.2 fun h' tk lw k1 k2 k3 k4 k5 k6 j2 hb hd => ?_)
  have fr := raw_frame F N U hb hd
  exact h h' tk lw k1 k2 k3 k4 k5 k6 j2 fr.1 fr.2
end
example : True := by
  k_with "call ref" => first | ((k_here; (with_reducible show wpAny _ _ (call (Value.ref 227) _) _ _ _); k_dflt (refine' ti_f ?Xzq ?Tzq ?Fzq ?Nzq ?Uzq ?xzq ?rzq ?uzq ?_; (case Fzq => k_asm); (case Nzq => k_asm); (case xzq => k_mem); (case Uzq => k_updF); (case Xzq => k_asm); (case Tzq => k_asm); (case rzq => (simp only [depth_deeper]; omega)); (case uzq => (simp only [units_deeper]; omega)); k_whole); intro h' tk' lw' k1' k2' k3' k4' k5' k6' j2' F' N'; (try dsimp only at N')); (try (revert h' tk' lw' k1' k2' k3' k4' k5' k6' j2' F' N'; intros))) | fail "no"
  trivial
set_option maxHeartbeats 8000000 in
theorem co_c {w : World} {A : Around} {s : Shared} {H : Heap} {p : Program} {loose : List Str} {mg mb : Str → Option Value} {R : Result → Shared → Prop} {x dx : Addr} {v1 v2 v3 : Value}
    (hk : H.StaysIn s.heap) (X : (hd.heap_39 w.params).In H) (T : TopRead p loose mg mb H) (hroom : A.depth + 20 < recursionLimit) (hu : A.units + 40 < cLine)
    (hx : s.heap.get? x = some (instObj 251 dx)) (hd : s.heap.get? dx = some (dictOf [] 0)) (hxH : H.get? x = none) (hdH : H.get? dx = none)
    (hret : ∀ h' tk lw k1 k2 k3 k4 k5 k6 j2 k7 k8 k9 k10 j10, (∀ b o, b ≠ dx → s.heap.get? b = some o → h'.get? b = some o) → h'.get? dx = some (dictOf [⟨PyData.keyHash w.params "number", .str "number" k1, v1⟩, ⟨PyData.keyHash w.params "count", .str "count" k2, .int 0 j2⟩, ⟨PyData.keyHash w.params "blessed", .str "blessed" k3, .none⟩, ⟨PyData.keyHash w.params "weak", .str "weak" k4, .ref lw⟩, ⟨PyData.keyHash w.params "is_destroyed", .str "is_destroyed" k5, .bool false⟩, ⟨PyData.keyHash w.params "is_freed", .str "is_freed" k6, .bool false⟩, ⟨PyData.keyHash w.params "sub", .str "sub" k7, v2⟩, ⟨PyData.keyHash w.params "captures", .str "captures" k8, v3⟩, ⟨PyData.keyHash w.params "builtin", .str "builtin" k9, .none⟩, ⟨PyData.keyHash w.params "package", .str "package" k10, .str "main" j10⟩] 10) → R (.ok (.ret .none)) { s with heap := h', toks := tk }) :
    codeAny (model PySem.Challenge.rw_qz0087_01.row.prog w) A (.call (.ref 248) ⟨[.ref x, v1, v2, v3], []⟩) R s := by
  have nx : @Ne Nat x dx := fun q => by replace q : x = dx := q; rw [q, hd] at hx; cases hx
  refine' call_raw (muts := [(x, instObj 251 dx), (dx, dictOf [] 0)]) hk ?km X T ?k6 ?k7 ?k8 ?k9 ?kB ?kD ?kh ?c2 ?c3 ?c4
  case km => (intro q hq; rcases List.mem_cons.mp hq with rfl | hq; exact ⟨hx, hxH⟩; rcases List.mem_singleton.mp hq with rfl; exact ⟨hd, hdH⟩)
  case k6 => k_is
  case k7 => k_is
  case k8 => omega
  case k9 => exact BindsTo.of_eq rfl
  case kB => exact rfl
  case kD => decide +kernel
  case c2 => exact rfl
  case c3 => exact rfl
  case c4 => exact rfl
  intro g L' h₁ tk0 cells hg hL st X' T' F N Y l1

  cases Y
  simp only [List.nil_append] at N
  k_lt l1
  replace F : Fr g L' h₁ (fun y => if y = Str.ofString "captures" then some v3 else if y = Str.ofString "sub" then some v2 else if y = Str.ofString "number" then some v1 else if y = Str.ofString "self" then some (.ref x) else none) := F
  k_steps
  rename_i F9 N9
  exact hret _ _ _ _ _ _ _ _ _ _ _ _ _ _ _ (raw_back2 hg F9 hx (News.get N9 (by k_mem))) (News.get N9 (a := dx) (by k_mem))
section
variable {w : World} {p : Program} {loose : List Str} {mg mb : Str → Option Value} {A : Around} {E : Value → Shared → Prop} {s : Shared} {h₀ : Heap} {L : Addr} {m : Str → Option Value} {news : List (Addr × Obj)} {Q : Value → Shared → Prop}
theorem mk_code {v1 v2 v3 : Value} (X : (hd.heap_39 w.params).In h₀) (T : TopRead p loose mg mb h₀) (F : Fr h₀ L s.heap m) (N : News h₀ L s.heap news) (hroom : A.depth + 30 < recursionLimit) (hu : A.units + 60 < cLine)
    (h : ∀ x dx od h' tk, Fr h₀ L h' m → News h₀ L h' ((x, instObj 251 dx) :: (dx, od) :: news) → AllLt dx news → @LT.lt Nat _ dx x → (∃ lw k1 k2 k3 k4 k5 k6 j2 k7 k8 k9 k10 j10, od = dictOf [⟨PyData.keyHash w.params "number", .str "number" k1, v1⟩, ⟨PyData.keyHash w.params "count", .str "count" k2, .int 0 j2⟩, ⟨PyData.keyHash w.params "blessed", .str "blessed" k3, .none⟩, ⟨PyData.keyHash w.params "weak", .str "weak" k4, .ref lw⟩, ⟨PyData.keyHash w.params "is_destroyed", .str "is_destroyed" k5, .bool false⟩, ⟨PyData.keyHash w.params "is_freed", .str "is_freed" k6, .bool false⟩, ⟨PyData.keyHash w.params "sub", .str "sub" k7, v2⟩, ⟨PyData.keyHash w.params "captures", .str "captures" k8, v3⟩, ⟨PyData.keyHash w.params "builtin", .str "builtin" k9, .none⟩, ⟨PyData.keyHash w.params "package", .str "package" k10, .str "main" j10⟩] 10) → Q (.ref x) { s with heap := h', toks := tk }) :
    wpAny (model PySem.Challenge.rw_qz0087_01.row.prog w) A (call (.ref 251) [v1, v2, v3]) Q E s := by
  have e1 : makesIn (hd.heap_39 w.params) 251 = true := by rfl
  have e2 : findIn (hd.heap_39 w.params) (.ref 251) "__init__" = some (some (.ref 248)) := by rfl
  have e3 : isFn (hd.heap_39 w.params) (.ref 248) = true := by rfl
  refine call_cls (K := hd.heap_39 w.params) F X N e1 e2 e3 fun x dx h1 F1 N1 l1 l2 => ?_
  have nx : dx ≠ x := Nat.ne_of_lt l2
  refine co_c F1.keep X T (by rw [depth_under_make]; omega) (by rw [units_under_make]; omega) (News.get N1 (.head _)) (News.get N1 (ym1)) (News.fresh N1 (.head _)) (News.fresh N1 (ym1)) fun h2 tk lw k1 k2 k3 k4 k5 k6 j2 k7 k8 k9 k10 j10 hb hd => ⟨rfl, ?_⟩
  have fr := raw_frame F1 N1 (g := fun o => (x, instObj 251 dx) :: (dx, o) :: news) (UpdF.tail nx.symm (UpdF.head fun p hp => Nat.ne_of_lt (l1 p hp))) hb hd
  exact h x dx _ h2 tk fr.1 fr.2 (allLt_of l1) l2 ⟨lw, k1, k2, k3, k4, k5, k6, j2, k7, k8, k9, k10, j10, rfl⟩
end
-- SgD
theorem neNat {news : List (Addr × Obj)} {a : Addr} (h : ∀ p ∈ news, p.1 ≠ a) : ∀ p ∈ news, @Ne Nat p.1 a := h
theorem tail1 {α : Type} {P : α → Prop} {a : α} {l : List α} (h : ∀ p ∈ a :: l, P p) : ∀ p ∈ l, P p := fun p hp => h p (.tail _ hp)
theorem tailLt {d : Nat} {a : Addr × Obj} {l : List (Addr × Obj)} (h : AllLt d (a :: l)) : AllLt d l := h.2
theorem neOf {a : Nat} {news : List (Addr × Obj)} {l : List Nat} (h : ∀ p ∈ news, @Ne Nat p.1 a) (hl : ∀ b ∈ l, ∃ o, ((b : Addr), o) ∈ news) : ∀ b ∈ l, @Ne Nat a b := fun b hb => by
  obtain ⟨o, ho⟩ := hl b hb
  exact (h _ ho).symm
theorem get_run {w : World} {x dx : Addr} {od : Obj} {h₀ : Heap} {L : Addr} {m : Str → Option Value} {news : List (Addr × Obj)} {A : Around} {E : Value → Shared → Prop} {s : Shared} {expr : Bool} {Q : Value → Shared → Prop} {lf : Value} (F : Fr h₀ L s.heap m) (X₀ : (hd.heap_39 w.params).In h₀) (N : News h₀ L s.heap news) (h1 : (x, instObj 91 dx) ∈ news) (h2 : (dx, od) ∈ news) (hl : lookIn "frames" od = some (some lf)) (h : Q lf { s with toks := s.toks + 1 }) (hv : handedIn lf = true := by rfl) :
    wpAny (model PySem.Challenge.rw_qz0087_01.row.prog w) A (getAttr (.ref x) "frames" expr) Q E s := by
  have g : plainGet (hd.heap_39 w.params) 91 "frames" = true := by rfl
  have hh : hasDictIn (hd.heap_39 w.params) 91 = true := by rfl
  have ha : findIn (hd.heap_39 w.params) (.ref 91) "frames" = some none := by rfl
  have hn : noGet (hd.heap_39 w.params) none = true := by rfl
  exact get_value (X₀.keeps F.keep) ⟨(N _ h1).1, rfl, rfl, (N _ h2).1⟩ (plainGet_of g).1 (findObj_own hh ha hn hl) hv h
example : True := by
  k_with "call ref" => first | ((k_here; (with_reducible show wpAny _ _ (call (Value.ref 164) _) _ _ _); k_dflt (refine' tw_l ?Xzq ?Tzq ?TWzq ?TCzq ?wezq ?cazq ?Fzq ?Nzq ?Bzq ?hszq ?hhzq ?c1zq ?c2zq ?_; (case Fzq => k_asm); (case Nzq => k_asm); (case Xzq => k_asm); (case Tzq => k_asm); (case TWzq => with_reducible assumption); (case TCzq => with_reducible assumption); (case wezq => with_reducible assumption); (case cazq => with_reducible assumption); (case Bzq => with_reducible assumption); (case hszq => k_all); (case hhzq => assumption); (case c1zq => (first | omega | (simp only [depth_deeper]; omega))); (case c2zq => (first | omega | (simp only [units_deeper]; omega))); k_whole); intro a' t1' t2' n' h' tk' F' N' ne'; (replace ne' := neNat ne'); (have w' := ne'); (have z' := ne'); (repeat (replace z' := tail1 z')); (try simp only [List.forall_mem_cons] at ne')); (try (revert a' t1' t2' n' h' tk' F' N' ne' w' z'; intros))) | fail "no"
  k_with "call ref" => first | ((k_here; (with_reducible show wpAny _ _ (call (Value.ref 283) _) _ _ _); k_dflt (refine' lb_l ?Xzq ?Tzq ?TWzq ?TCzq ?Fzq ?Nzq ?Bzq ?hszq ?hhzq ?c1zq ?c2zq ?_; (case Fzq => k_asm); (case Nzq => k_asm); (case Xzq => k_asm); (case Tzq => k_asm); (case TWzq => with_reducible assumption); (case TCzq => with_reducible assumption); (case Bzq => with_reducible assumption); (case hszq => k_all); (case hhzq => assumption); (case c1zq => (first | omega | (simp only [depth_deeper]; omega))); (case c2zq => (first | omega | (simp only [units_deeper]; omega))); k_whole); intro a' t1' t2' n' h' tk' F' N' ne'; (replace ne' := neNat ne'); (have w' := ne'); (have z' := ne'); (repeat (replace z' := tail1 z')); (try simp only [List.forall_mem_cons] at ne')); (try (revert a' t1' t2' n' h' tk' F' N' ne' w' z'; intros))) | fail "no"
  k_with "ALL" => first | exact AllLt.ne (by with_reducible assumption) | fail "no"
  k_with "ALL" => first | with_reducible assumption | fail "no"
  k_with "getAttr ref" => first | (k_here; (with_reducible show wpAny _ _ (getAttr _ (Str.ofString "frames") _) _ _ _); k_dflt (refine' get_run ?Fzq ?Xzq ?Nzq ?h1zq ?h2zq ?hlzq ?_ ?hvzq; (case Fzq => k_asm); (case Xzq => k_asm); (case Nzq => k_asm); (case h1zq => first | k_mem | exact mem_in (by with_reducible assumption) (by k_all)); (case h2zq => first | k_mem | exact mem_in (by with_reducible assumption) (by k_all)); (case hlzq => with_reducible assumption); (case hvzq => rfl); k_whole)) | fail "no"
  k_with "call ref" => first | ((k_here; (with_reducible show wpAny _ _ (call (Value.ref 157) _) _ _ _); k_dflt (refine' mk_frame ?Xzq ?Tzq ?Fzq ?Nzq ?rzq ?uzq ?_; (case Fzq => k_asm); (case Nzq => k_asm); (case Xzq => k_asm); (case Tzq => k_asm); (case rzq => (first | omega | (simp only [depth_deeper]; omega))); (case uzq => (first | omega | (simp only [units_deeper]; omega))); k_whole); intro x' dx' dk' ok' h' tk' k1' k2' k3' k4' k5' k6' k7' k8' k9' k10' F' N' lt' l2' n1' n2' n3' hi' lo'; (have w' := n3'); (have z' := n3'); (repeat (replace z' := tail1 z')); (have u' := AllLt.ne lt'); (have y' := lt'); (repeat (replace y' := tailLt y')); (try dsimp only [AllLt] at lt'); (try simp only [List.forall_mem_cons, List.not_mem_nil, false_imp_iff, implies_true, and_true] at n3')); (try (revert x' dx' dk' ok' h' tk' k1' k2' k3' k4' k5' k6' k7' k8' k9' k10' F' N' lt' l2' n1' n2' n3' hi' lo' w' z' u' y'; intros))) | fail "no"
  k_with "call ref" => first | ((k_here; (with_reducible show wpAny _ _ (call (Value.ref 91) _) _ _ _); k_dflt (refine' mk_run ?Xzq ?Tzq ?Fzq ?Nzq ?rzq ?uzq ?_; (case Fzq => k_asm); (case Nzq => k_asm); (case Xzq => k_asm); (case Tzq => k_asm); (case rzq => (first | omega | (simp only [depth_deeper]; omega))); (case uzq => (first | omega | (simp only [units_deeper]; omega))); k_whole); intro x' dx' lf' od' h' tk' F' N' lt' l2' n1' n2' n3' hi'; (have w' := n3'); (have z' := n3'); (repeat (replace z' := tail1 z')); (have u' := AllLt.ne lt'); (have y' := lt'); (repeat (replace y' := tailLt y')); (try dsimp only [AllLt] at lt'); (try simp only [List.forall_mem_cons, List.not_mem_nil, false_imp_iff, implies_true, and_true] at n3')); (try (revert x' dx' lf' od' h' tk' F' N' lt' l2' n1' n2' n3' hi' w' z' u' y'; intros))) | fail "no"
  k_with "call builtin:list.append" => first | ((k_here; k_dflt (refine' append_L ?Fzq ?Nzq ?Uzq ?zzq ?_; (case Fzq => k_asm); (case Nzq => k_asm); (case Uzq => k_upd); (case zzq => first | with_reducible assumption | exact Nat.le_of_ble_eq_true rfl); k_whole); intro h' F' N'; (try simp only [List.nil_append] at N')); (try (revert h' F' N'; intros))) | fail "no"
  trivial

set_option maxHeartbeats 8000000 in
theorem segD {w : World} {A : Around} {E : Value → Shared → Prop} {Q : Flow → Shared → Prop} {s : Shared} {h₀ : Heap} {L fa sa : Nat} {p : Program} {loose : List Str} {mg mb : Str → Option Value} {o1 o2 o3 o4 o5 o6 o7 o8 o9 ot : Obj} {rest : List Stmt} {cup r : Nat} {oc : Obj} {ws : List Value} {row : List Int} {n l : Int} {t1 t2 : Tok} {Z : List (Addr × Obj)} {wei cal : Str → Option Int} {sa vm : Value} {lm : DL} {bd : Int} {tb : Tok}
    (X : (hd.heap_39 w.params).In h₀) (T : TopRead p loose mg mb h₀) (hh : A.handled = none) (hroom : A.depth + 200 < recursionLimit) (hu : A.units + 800 < cLine) (lL : 292 < L) (TW : TabI w h₀ 136 wei) (TC : TabI w h₀ 139 cal) (hwe : ∀ x i, wei x = some i → 0 ≤ i) (hca : ∀ x i, cal x = some i → 0 ≤ i) (F : Fr h₀ L s.heap (fun y => if y = Str.ofString "bound" then some (.int bd tb) else if y = Str.ofString "main" then some (vm) else if y = Str.ofString "script" then some (sa) else none)) (N : News h₀ L s.heap ((cup, oc) :: (L + 9, o9) :: (L + 8, o8) :: (L + 7, o7) :: (L + 6, o6) :: (L + 5, o5) :: (L + 4, o4) :: (L + 3, o3) :: (L + 2, o2) :: (L + 1, o1) :: ((292 : Nat), ot) ::  Z)) (ap : Apt (cup :: [L + 9, L + 8, L + 7, L + 6, L + 5, L + 4, L + 3, L + 2, L + 1, 292]) Z) (lc : L + 9 < cup) (sm : (cup == sysModules) = false) (ho : oc.IsDictOf (strKind PySem.Challenge.rw_qz0087_01.row.prog w) (CupKvs r n l t1 t2)) (hr : (r, listOf (List.toArray ws) 0) ∈ Z) (hi : IntsAre ws row) (hl : row.length ≤ 60) (n0 : 0 ≤ n) (B : BlockL Z vm lm) (d7 : o7.data = .cell none) (b0 : 20 ≤ bd) (b1 : bd ≤ 215)
    (h : Hid (∀ h' tk o7 (run dr lf fr dfr dk wt : Nat) od es n0 ok Z', Fr h₀ L h' (fun y => if y = Str.ofString "bound" then some (.int bd tb) else if y = Str.ofString "main" then some (vm) else if y = Str.ofString "script" then some (sa) else none) → News h₀ L h' ((lf, LCg.lst [.ref fr]) :: (dfr, dictOf es n0) :: (dk, ok) :: (cup, oc) :: (L + 9, o9) :: (L + 8, o8) :: (L + 7, o7) :: (L + 6, o6) :: (L + 5, o5) :: (L + 4, o4) :: (L + 3, o3) :: (L + 2, o2) :: (L + 1, o1) :: ((292 : Nat), ot) ::  Z') → Apt (lf :: dfr :: dk :: cup :: [L + 9, L + 8, L + 7, L + 6, L + 5, L + 4, L + 3, L + 2, L + 1, 292]) Z' → (∀ q ∈ Z, q ∈ Z') → (∀ b ∈ cup :: [L + 9, L + 8, L + 7, L + 6, L + 5, L + 4, L + 3, L + 2, L + 1, 292], @Ne Nat lf b) → (∀ b ∈ lf :: cup :: [L + 9, L + 8, L + 7, L + 6, L + 5, L + 4, L + 3, L + 2, L + 1, 292], @Ne Nat dfr b) → (∀ b ∈ dfr :: lf :: cup :: [L + 9, L + 8, L + 7, L + 6, L + 5, L + 4, L + 3, L + 2, L + 1, 292], @Ne Nat dk b) → (run, instObj 91 dr) ∈ Z' → (dr, od) ∈ Z' → lookIn "frames" od = some (some (.ref lf)) → (fr, instObj 157 dfr) ∈ Z' → (∃ x1 x2 x3, (wt, pairO (.int (bwA wei cal lm) x1) (bwW wei cal lm) x2 x3) ∈ Z') → FrE es (880 - bd) wt dk → ok.IsDictOf (intKind PySem.Challenge.rw_qz0087_01.row.prog w) [] → (dk == sysModules) = false → o7.data = .cell (some (.ref run)) → wpAny (model PySem.Challenge.rw_qz0087_01.row.prog w) A (execs rest (lawE w fa L)) Q E { s with heap := h', toks := tk })) :
    wpAny (model PySem.Challenge.rw_qz0087_01.row.prog w) A (execs (nthS (lawB w) 5 :: nthS (lawB w) 6 :: nthS (lawB w) 7 :: nthS (lawB w) 8 :: rest) (lawE w fa L)) Q E s := by
  have eE : lawE w fa L = envOfC (Str.ofString "law") (lawFd w).scope L fa (.ref 294) := rfl
  conv at eE in (FuncData.scope _) => whnf
  rw [eE]
  conv in (nthS _ 5) => whnf
  conv in (nthS _ 6) => whnf
  conv in (nthS _ 7) => whnf
  conv in (nthS _ 8) => whnf
  k_steps
  rename_i x1 dx1 lf od h7 tk2 lt1 l21 n11 n21 hi1 w1 z2 u1 y1 n31 h6 o7' d7' tkB l5 h5 l1 x2 dx2 dk ok h4 tk1 k1 k2 k3 k4 k5 k6 k7 k8 k9 k10 lt2 l22 n12 n22 hi2 lo2 w2 z1 u2 y2 n32 h3 tkC a1 t11 t22 nn hh2 tkD w0 z0 ne0 hA hB F9 N9
  rw [← eE]
  have y3 : ∀ q ∈ Z, @Ne Nat q.1 dx2 := AllLt.ne y2
  clear n31 n32 ne0
  have q1 : ∀ b ∈ cup :: [L + 9, L + 8, L + 7, L + 6, L + 5, L + 4, L + 3, L + 2, L + 1, 292], @Ne Nat lf b := neOf w1 (by
    repeat (refine zc (⟨_, by k_mem⟩) ?_)
    exact List.forall_mem_nil _)
  have q2 : ∀ b ∈ lf :: cup :: [L + 9, L + 8, L + 7, L + 6, L + 5, L + 4, L + 3, L + 2, L + 1, 292], @Ne Nat dx2 b := neOf u2 (by
    repeat (refine zc (⟨_, by k_mem⟩) ?_)
    exact List.forall_mem_nil _)
  have q3 : ∀ b ∈ dx2 :: lf :: cup :: [L + 9, L + 8, L + 7, L + 6, L + 5, L + 4, L + 3, L + 2, L + 1, 292], @Ne Nat dk b := zc n22 (neOf w2 (by
    repeat (refine zc (⟨_, by k_mem⟩) ?_)
    exact List.forall_mem_nil _))
  have p1 : ∀ b ∈ dk :: lf :: dx2 :: cup :: [L + 9, L + 8, L + 7, L + 6, L + 5, L + 4, L + 3, L + 2, L + 1, 292], @Ne Nat a1 b := neOf w0 (by
    repeat (refine zc (⟨_, by k_mem⟩) ?_)
    exact List.forall_mem_nil _)
  have e1 : @Ne Nat x1 dk := w2 (x1, instObj 91 dx1) (by k_mem)
  have e2 : @Ne Nat dx1 dk := w2 (dx1, od) (by k_mem)
  have p2 : ∀ b ∈ cup :: [L + 9, L + 8, L + 7, L + 6, L + 5, L + 4, L + 3, L + 2, L + 1, 292], @Ne Nat x1 b := by
    clear n11 n21 n12 n22 e1 e2
    repeat (refine zc (by k_ne) ?_)
    exact List.forall_mem_nil _
  have p3 : ∀ b ∈ cup :: [L + 9, L + 8, L + 7, L + 6, L + 5, L + 4, L + 3, L + 2, L + 1, 292], @Ne Nat dx1 b := by
    clear n11 n21 n12 n22 e1 e2
    repeat (refine zc (by k_ne) ?_)
    exact List.forall_mem_nil _
  have p4 : ∀ b ∈ lf :: dx2 :: cup :: [L + 9, L + 8, L + 7, L + 6, L + 5, L + 4, L + 3, L + 2, L + 1, 292], @Ne Nat x2 b := by
    clear n11 n21 n12 n22 e1 e2
    repeat (refine zc (by k_ne) ?_)
    exact List.forall_mem_nil _
  have e3 : @Ne Nat x1 dx2 := by clear n11 n21 n12 n22 e1 e2; omega
  have e4 : @Ne Nat dx1 dx2 := by clear n11 n21 n12 n22 e1 e2; omega
  have z3 : Apt (lf :: dx2 :: dk :: cup :: [L + 9, L + 8, L + 7, L + 6, L + 5, L + 4, L + 3, L + 2, L + 1, 292]) ((x1, instObj 91 dx1) :: (dx1, od) :: (x2, instObj 157 dx2) :: (a1, pairO (.int (bwA wei cal lm) t11) (bwW wei cal lm) t22 nn) :: Z) := by
    refine Apt.cons (zc n11.symm (zc e3 (zc e1 p2))) (Apt.cons (zc n21.symm (zc e4 (zc e2 p3))) (Apt.cons (zc (p4 _ (by k_mem)) (zc (p4 _ (by k_mem)) (zc n12.symm (fun b hb => p4 b (.tail _ (.tail _ hb)))))) (Apt.cons (zc (p1 _ (by k_mem)) (zc (p1 _ (by k_mem)) (zc (p1 _ (by k_mem)) (fun b hb => p1 b (.tail _ (.tail _ (.tail _ hb))))))) (((ap.grow z1).grow y3).grow z2))))
  have z4 : News h₀ L hB _ := News.sub N9 (l' := (lf, LCg.lst [.ref x2]) :: (dx2, _) :: (dk, ok) :: (cup, oc) :: (L + 9, o9) :: (L + 8, o8) :: (L + 7, o7') :: (L + 6, o6) :: (L + 5, o5) :: (L + 4, o4) :: (L + 3, o3) :: (L + 2, o2) :: (L + 1, o1) :: ((292 : Nat), ot) ::  (x1, instObj 91 dx1) :: (dx1, od) :: (x2, instObj 157 dx2) :: (a1, pairO (.int (bwA wei cal lm) t11) (bwW wei cal lm) t22 nn) :: Z) (by k_all)
  have z6 := fun tk => h.out _ tk o7' x1 dx1 lf x2 dx2 dk a1 od _ _ ok _ F9 z4 z3 (fun q hq => .tail _ (.tail _ (.tail _ (.tail _ hq)))) q1 q2 q3 (.head _) (ym1) hi1 (ym2) ⟨_, _, _, ym3⟩ ⟨⟨_, _, rfl, rfl, rfl, by k_get, Nat.le_of_ble_eq_true rfl⟩⟩ hi2 lo2 d7'
  dsimp only
  exact z6 _
-- SgE
theorem item_pool {prog : Program} {w : World} {A : Around} {E : Value → Shared → Prop} {s : Shared} {h₀ : Heap} {L : Addr} {news : List (Addr × Obj)} {value slice : Expr} {a : Addr} {vs : List Value} {k : Int} {x : Value} {u : Tok} {Q : Value → Shared → Prop} (N : News h₀ L s.heap news) (ht : (a, LCg.lst vs) ∈ news) (h0 : 0 ≤ k) (h1 : k < 10000) (hx : vs[k.toNat]? = some x) (h : Q x s)
    (hs : subscripted slice false (.ref a) (.int k u) = operate [.ref a, .int k u] (getItem (.ref a) (.int k u)) := by with_unfolding_all rfl) :
    wpAny (model prog w) A (subscriptTail value slice (.ref a) (.int k u)) Q E s := by
  have hl : s.heap.IsList a vs.toArray := ⟨_, (N _ ht).1, rfl, _, rfl⟩
  exact tail_any hl.typeIs slot_list_getitem.lookup (wpAny_getItem_list hl h0 (by omega) (by simpa using hx) h) hs
theorem len_pool {prog : Program} {w : World} {A : Around} {E : Value → Shared → Prop} {s : Shared} {h₀ : Heap} {L : Addr} {news : List (Addr × Obj)} {a : Addr} {vs : List Value} {Q : Value → Shared → Prop} (N : News h₀ L s.heap news) (ht : (a, LCg.lst vs) ∈ news) (hz : vs.length ≤ 1000) (h : ∀ t, Q (.int (vs.length : Int) t) { s with toks := s.toks + 1 + 1 }) :
    wpAny (model prog w) A (call (.builtin "len") [.ref a]) Q E s := by
  have hl : s.heap.IsList a vs.toArray := ⟨_, (N _ ht).1, rfl, _, rfl⟩
  refine len_list hl (by rw [List.size_toArray]; omega) ?_
  have := h (s.toks + 1)
  rwa [List.size_toArray]
example : True := by
  k_with "call ref" => first | ((k_here; (with_reducible show wpAny _ _ (call (Value.ref 251) _) _ _ _); k_dflt (refine' mk_code ?Xzq ?Tzq ?Fzq ?Nzq ?rzq ?uzq ?_; (case Fzq => k_asm); (case Nzq => k_asm); (case Xzq => k_asm); (case Tzq => k_asm); (case rzq => (first | omega | (simp only [depth_deeper]; omega))); (case uzq => (first | omega | (simp only [units_deeper]; omega))); k_whole); intro x' dx' od' h' tk' F' N' lt' l2' oe'; (have u' := AllLt.ne lt'); (have v' := lt'); (try dsimp only [AllLt] at lt')); (try (revert x' dx' od' h' tk' F' N' lt' l2' oe' u' v'; intros))) | fail "no"
  k_with "call builtin:len" => first | ((k_here; k_dflt (refine' len_pool ?Nzq ?mzq ?zzq ?_; (case Nzq => k_asm); (case mzq => exact mem_in (by with_reducible assumption) (by k_all)); (case zzq => omega); k_whole); intro tl'); (try (revert tl'; intros))) | fail "no"
  k_with "subscriptTail" => first | (k_here; (with_reducible show wpAny _ _ (subscriptTail _ _ (Value.ref _) (Value.int _ _)) _ _ _); k_dflt (refine' item_pool ?Nzq ?mzq ?azq ?bzq ?czq ?_; (case Nzq => k_asm); (case mzq => exact mem_in (by with_reducible assumption) (by k_all)); (case azq => omega); (case bzq => omega); (case czq => with_reducible assumption); k_whole)) | fail "no"
  trivial

theorem AllLt.up {a b : Nat} {l : List (Addr × Obj)} (h : AllLt a l) (hb : a < b) : AllLt b l := by
  induction l with
  | nil => trivial
  | cons p r ih => exact ⟨Nat.lt_trans h.1 hb, ih h.2⟩
theorem ltS {a L2 L6 : Nat} {o2 o6 : Obj} {Y W : List (Addr × Obj)} (h1 : L2 < a) (h2 : L6 < a) (h3 : AllLt a (Y ++ W)) : ∀ p ∈ ((L2 : Addr), o2) :: ((L6 : Addr), o6) :: W, @Ne Nat a p.1 := fun p hp => by
  rcases List.mem_cons.mp hp with rfl | hp
  · exact Nat.ne_of_gt h1
  · rcases List.mem_cons.mp hp with rfl | hp
    · exact Nat.ne_of_gt h2
    · exact (AllLt.ne h3 p (List.mem_append_right _ hp)).symm
theorem apc {S Y : List (Addr × Obj)} {a : Addr} {o : Obj} (h1 : ∀ p ∈ S, @Ne Nat a p.1) (h2 : ∀ q ∈ Y, ∀ p ∈ S, @Ne Nat q.1 p.1) : ∀ q ∈ (a, o) :: Y, ∀ p ∈ S, @Ne Nat q.1 p.1 := zc h1 h2
theorem off3_cons {I C D a : Nat} {o : Obj} {r : List (Addr × Obj)} (h1 : I < a) (h2 : C < a) (h3 : D < a) (h : LCg.Off3 I C D r) : LCg.Off3 I C D (((a : Addr), o) :: r) := ⟨⟨Nat.ne_of_gt h1, Nat.ne_of_gt h2, Nat.ne_of_gt h3⟩, h⟩
noncomputable def CdP (Z : List (Addr × Obj)) (cd : Addr) (k : Int) (blk : Value) : Prop := ∀ h : Heap, (∀ q ∈ Z, h.get? q.1 = some q.2) → CdAt h cd k blk
theorem CdP.mono {Z Z' : List (Addr × Obj)} (hs : ∀ q ∈ Z, q ∈ Z') {cd : Addr} {k : Int} {blk : Value} (x : CdP Z cd k blk) : CdP Z' cd k blk := fun h hz => x h fun q hq => hz q (hs q hq)
noncomputable def InvE (L : Nat) (o2 o6 : Obj) (W : List (Addr × Obj)) (ys : List Value) (i : Nat) (xs : List Value) (news : List (Addr × Obj)) : Prop :=
  ∃ Y, news = (L + 2, o2) :: (L + 6, o6) :: (Y ++ W) ∧ (∀ q ∈ Y, ∀ p ∈ (L + 2, o2) :: (L + 6, o6) :: W, @Ne Nat q.1 p.1) ∧ xs.length = i ∧ ∀ (j : Nat) v, xs[j]? = some v → ∃ cd blk, v = .ref cd ∧ ys[j]? = some blk ∧ CdP Y cd (7 + (j : Int)) blk
set_option maxHeartbeats 8000000 in
theorem segE {w : World} {A : Around} {E : Value → Shared → Prop} {Q : Flow → Shared → Prop} {s : Shared} {h₀ : Heap} {L fa sa : Nat} {p : Program} {loose : List Str} {mg mb : Str → Option Value} {o1 o2 o3 o4 o5 o6 o7 o8 o9 ot : Obj} {rest : List Stmt} {W : List (Addr × Obj)} {lb : Nat} {ys : List Value} {m : Str → Option Value}
    (X : (hd.heap_39 w.params).In h₀) (T : TopRead p loose mg mb h₀) (hh : A.handled = none) (hroom : A.depth + 200 < recursionLimit) (hu : A.units + 800 < cLine) (lL : 292 < L) (F : Fr h₀ L s.heap m) (N : News h₀ L s.heap ((L + 2, o2) :: (L + 6, o6) :: W)) (ap : Apt [L + 2, L + 6] W) (d2 : o2.data = .cell (some (.ref lb))) (d6 : o6.data = .cell none) (hlb : (lb, LCg.lst ys) ∈ W) (y1 : 1 ≤ ys.length) (y3 : ys.length ≤ 3)
    (h : Hid (∀ h' tk ob (lc : Nat) xs Y, Fr h₀ L h' m → News h₀ L h' ((L + 2, o2) :: (L + 6, ob) :: (Y ++ W)) → (∀ q ∈ Y, ∀ p ∈ (L + 2, o2) :: (L + 6, o6) :: W, @Ne Nat q.1 p.1) → (lc, LCg.lst xs) ∈ Y → ob.data = .cell (some (.ref lc)) → xs.length = ys.length → (∀ (j : Nat) v, xs[j]? = some v → ∃ cd blk, v = .ref cd ∧ ys[j]? = some blk ∧ CdP Y cd (7 + (j : Int)) blk) → wpAny (model PySem.Challenge.rw_qz0087_01.row.prog w) A (execs rest (lawE w fa L)) Q E { s with heap := h', toks := tk })) :
    wpAny (model PySem.Challenge.rw_qz0087_01.row.prog w) A (execs (nthS (lawB w) 9 :: rest) (lawE w fa L)) Q E s := by
  have eE : lawE w fa L = envOfC (Str.ofString "law") (lawFd w).scope L fa (.ref 294) := rfl
  conv at eE in (FuncData.scope _) => whnf
  rw [eE]
  conv in (nthS _ 9) => whnf
  k_steps
  rename_i tl h2 tk2 t3 u3 v3 hr2 F2 N2 keep2
  have hv : ys.length = 1 ∨ ys.length = 2 ∨ ys.length = 3 := by omega
  have hrng : Builtin.Range.small 0 (ys.length : Int) 1 = true ∧ Builtin.Range.rangeSize 0 (ys.length : Int) 1 = ((ys.length : Nat) : Int) := by rcases hv with e | e | e <;> rw [e] <;> exact ⟨by decide, by decide⟩
  refine LCg.CompSrc.range hh F2 N2 hr2 hrng.1 (n := ys.length) hrng.2 (Nat.le_trans y3 (by decide)) ?_
  intro g'
  clear F2 N2 keep2 hr2
  refine rest_ind (n := ys.length) (InvE L o2 o6 W ys) ?turn ?fin _ 0 [] _ (Nat.zero_add _) ⟨[], rfl, (fun q hq => nomatch hq), rfl, fun j v hj => by simp at hj⟩
  case turn =>
    intro i xs news hi1 hI v I oI C oC D m₂ h tk E' hP hoC hx F N off ne
    obtain ⟨Y, rfl, apY, len, cds⟩ := hI
    obtain ⟨ne1, ne2, ne3⟩ := ne
    obtain ⟨tv, hv'⟩ := hP
    rw [Int.zero_add] at hv'
    subst hv'
    have off0 := off
    have offZ : ∀ p ∈ Y ++ W, p.1 ≠ I ∧ p.1 ≠ C ∧ p.1 ≠ D := fun p hp => off.mem p (.tail _ (.tail _ hp))
    have offa19 := zoffI off
    have offb19 := zoffC off
    have offc19 := zoffD off
    simp only [LCg.Off3] at off
    have hlb' : (lb, LCg.lst ys) ∈ Y ++ W := List.mem_append_right _ hlb
    obtain ⟨y, hy⟩ : ∃ y, ys[i]? = some y := ⟨ys[i], List.getElem?_eq_getElem hi1⟩
    have hy' : ys[(i : Int).toNat]? = some y := by rw [Int.toNat_natCast]; exact hy
    have ap' : ∀ p ∈ Y ++ W, @Ne Nat p.1 (L + 2) := fun p hp => (List.mem_append.mp hp).elim (fun q => apY p q (L + 2, o2) (.head _)) (fun q => ap p q _ (by simp))
    k_steps
    rename_i l1a h3 b1 D1 h2' b2 l2a h1' F1 N1 b3 x dx od h9 tk9 F9 N9 lt9 l29 oe9 u9 v9
    clear u9 v9 F1 N1
    have ax : ∀ p ∈ (L + 2, o2) :: (L + 6, o6) :: W, @Ne Nat x p.1 := ltS (Nat.lt_trans lt9.2.2.2.2.2.2.1 l29) (Nat.lt_trans lt9.2.2.2.2.2.2.2.1 l29) (AllLt.up lt9.2.2.2.2.2.2.2.2 l29)
    have ad : ∀ p ∈ (L + 2, o2) :: (L + 6, o6) :: W, @Ne Nat dx p.1 := ltS lt9.2.2.2.2.2.2.1 lt9.2.2.2.2.2.2.2.1 lt9.2.2.2.2.2.2.2.2
    have a3 : ∀ p ∈ (L + 2, o2) :: (L + 6, o6) :: W, @Ne Nat l2a p.1 := ltS b3.2.2.2.2.2.1 b3.2.2.2.2.2.2.1 b3.2.2.2.2.2.2.2
    have a2 : ∀ p ∈ (L + 2, o2) :: (L + 6, o6) :: W, @Ne Nat D1 p.1 := ltS b2.2.2.2.2.1 b2.2.2.2.2.2.1 b2.2.2.2.2.2.2
    have a1 : ∀ p ∈ (L + 2, o2) :: (L + 6, o6) :: W, @Ne Nat l1a p.1 := ltS b1.2.2.2.1 b1.2.2.2.2.1 b1.2.2.2.2.2
    obtain ⟨lw, k1, k2, k3, k4, k5, k6, j2, k7, k8, k9, k10, j10, rfl⟩ := oe9
    refine LCg.CompEnd.intro F9 N9 ((L + 2, o2) :: (L + 6, o6) :: (x, instObj 251 dx) :: (dx, _) :: (l2a, PySem.W.listOf #[] 0) :: (D1, _) :: (l1a, PySem.W.listOf #[] 0) :: (Y ++ W)) (by k_all) ⟨off0.1, off0.2.1, off3_cons (by omega) (by omega) (by omega) (off3_cons (by omega) (by omega) (by omega) (off3_cons (by omega) (by omega) (by omega) (off3_cons (by omega) (by omega) (by omega) (off3_cons (by omega) (by omega) (by omega) off0.2.2))))⟩ trivial ⟨(x, instObj 251 dx) :: (dx, _) :: (l2a, PySem.W.listOf #[] 0) :: (D1, _) :: (l1a, PySem.W.listOf #[] 0) :: Y, rfl, apc ax (apc ad (apc a3 (apc a2 (apc a1 apY)))), by simp [len], fun j v hj => ?_⟩
    by_cases hj' : j < xs.length
    · rw [List.getElem?_append_left hj'] at hj
      obtain ⟨cd, blk, e1, e2, e3⟩ := cds j v hj
      exact ⟨cd, blk, e1, e2, e3.mono fun q hq => .tail _ (.tail _ (.tail _ (.tail _ (.tail _ hq))))⟩
    · rw [List.getElem?_append_right (Nat.le_of_not_lt hj')] at hj
      have hji : j = i := by
        cases q : j - xs.length with
        | zero => omega
        | succ k => rw [q] at hj; simp at hj
      subst hji
      rw [len, Nat.sub_self] at hj
      cases hj
      exact ⟨x, y, rfl, hy, fun h hz => ⟨⟨dx, _, _, D1, _, _, _, _, _, l1a, hz _ (.head _), hz _ (ym1), rfl, rfl, rfl, ⟨_, hz _ (ym3), rfl, _, rfl⟩⟩⟩⟩
  case fin =>
    intro xs news hI
    obtain ⟨Y, rfl, apY, len, cds⟩ := hI
    unfold LCg.FinE
    intro D2 h3 tk3 F3 N3 o3'
    have offZ : ∀ p ∈ Y ++ W, @Ne Nat p.1 D2 := fun p hp => off1_memN o3' p (.tail _ (.tail _ hp))
    have ap6 : ∀ p ∈ Y ++ W, @Ne Nat p.1 (L + 6) := fun p hp => (List.mem_append.mp hp).elim (fun q => apY p q (L + 6, o6) (ym1)) (fun q => ap p q _ (by simp))
    have offd20 := zoff1 o3'
    simp only [LCg.Off1] at o3'
    dsimp only
    k_steps
    rw [← eE]
    rename_i h9 o9' F9 N9 d9
    have z4 : News h₀ L h9 ((L + 2, o2) :: (L + 6, o9') :: (((D2, LCg.lst xs) :: Y) ++ W)) := News.sub N9 (by
      refine zc (by k_mem) (zc (by k_mem) (zc (by k_mem) (fun q hq => .tail _ (.tail _ (.tail _ hq))))))
    have aD : ∀ p ∈ (L + 2, o2) :: (L + 6, o6) :: W, @Ne Nat D2 p.1 := fun p hp => by
      rcases List.mem_cons.mp hp with rfl | hp
      · exact Ne.symm o3'.1
      · rcases List.mem_cons.mp hp with rfl | hp
        · exact Ne.symm o3'.2.1
        · exact (offZ p (List.mem_append_right _ hp)).symm
    have z6 := fun tk => h.out _ tk o9' D2 xs ((D2, LCg.lst xs) :: Y) F9 z4 (apc aD apY) (.head _) d9 len fun j v hj => by
      obtain ⟨cd, blk, e1, e2, e3⟩ := cds j v hj
      exact ⟨cd, blk, e1, e2, e3.mono fun q hq => .tail _ hq⟩
    dsimp only
    exact z6 _
-- SgF
example : True := by
  k_with "eval ListComp" => first | (k_here; k_dflt (refine' LCg.ListComp_U ?Fzq ?k1zq ?k2zq ?k3zq ?k4zq ?k5zq ?_ ?k6zq; (case Fzq => k_asm); (case k1zq => rfl); (case k2zq => decide); (case k3zq => rfl); (case k4zq => decide); (case k5zq => rfl); (case k6zq => intro _; rfl))) | fail "no"
  trivial

noncomputable def Wts (wei cal : Str → Option Int) (Y : List (Addr × Obj)) (xs : List Value) (ls : List DL) : Prop := ∀ (j : Nat) v l, xs[j]? = some v → ls[j]? = some l → ∃ a t1 t2 n, v = .ref a ∧ (a, pairO (.int (bwA wei cal l) t1) (bwW wei cal l) t2 n) ∈ Y
theorem Wts.mono {wei cal : Str → Option Int} {Y Y' : List (Addr × Obj)} {xs : List Value} {ls : List DL} (hs : ∀ q ∈ Y, q ∈ Y') (h : Wts wei cal Y xs ls) : Wts wei cal Y' xs ls := fun j v l a b => by
  obtain ⟨x, t1, t2, n, e, q⟩ := h j v l a b
  exact ⟨x, t1, t2, n, e, hs _ q⟩
noncomputable def InvF (wei cal : Str → Option Int) (L : Nat) (o2 o3 : Obj) (W : List (Addr × Obj)) (ls : List DL) (i : Nat) (xs : List Value) (news : List (Addr × Obj)) : Prop :=
  ∃ Y, news = (L + 2, o2) :: (L + 3, o3) :: (Y ++ W) ∧ (∀ q ∈ Y, ∀ p ∈ (L + 2, o2) :: (L + 3, o3) :: W, @Ne Nat q.1 p.1) ∧ xs.length = i ∧ Wts wei cal Y xs ls
set_option maxHeartbeats 8000000 in
theorem segF {w : World} {A : Around} {E : Value → Shared → Prop} {Q : Flow → Shared → Prop} {s : Shared} {h₀ : Heap} {L fa sa : Nat} {p : Program} {loose : List Str} {mg mb : Str → Option Value} {o1 o2 o3 o4 o5 o6 o7 o8 o9 ot : Obj} {rest : List Stmt} {W : List (Addr × Obj)} {lb : Nat} {ys : List Value} {ls : List DL} {m : Str → Option Value} {wei cal : Str → Option Int}
    (X : (hd.heap_39 w.params).In h₀) (T : TopRead p loose mg mb h₀) (hh : A.handled = none) (hroom : A.depth + 200 < recursionLimit) (hu : A.units + 800 < cLine) (lL : 292 < L) (TW : TabI w h₀ 136 wei) (TC : TabI w h₀ 139 cal) (hwe : ∀ x i, wei x = some i → 0 ≤ i) (hca : ∀ x i, cal x = some i → 0 ≤ i) (F : Fr h₀ L s.heap m) (N : News h₀ L s.heap ((L + 2, o2) :: (L + 3, o3) :: W)) (ap : Apt [L + 2, L + 3] W) (d2 : o2.data = .cell (some (.ref lb))) (d3 : o3.data = .cell none) (hlb : (lb, LCg.lst ys) ∈ W) (hB : Blks W ys ls) (y1 : 1 ≤ ys.length) (y3 : ys.length ≤ 3)
    (h : Hid (∀ h' tk ob (lw : Nat) xs Y, Fr h₀ L h' m → News h₀ L h' ((L + 2, o2) :: (L + 3, ob) :: (Y ++ W)) → (∀ q ∈ Y, ∀ p ∈ (L + 2, o2) :: (L + 3, o3) :: W, @Ne Nat q.1 p.1) → (lw, LCg.lst xs) ∈ Y → ob.data = .cell (some (.ref lw)) → xs.length = ys.length → Wts wei cal Y xs ls → wpAny (model PySem.Challenge.rw_qz0087_01.row.prog w) A (execs rest (lawE w fa L)) Q E { s with heap := h', toks := tk })) :
    wpAny (model PySem.Challenge.rw_qz0087_01.row.prog w) A (execs (nthS (lawB w) 10 :: rest) (lawE w fa L)) Q E s := by
  have eE : lawE w fa L = envOfC (Str.ofString "law") (lawFd w).scope L fa (.ref 294) := rfl
  conv at eE in (FuncData.scope _) => whnf
  rw [eE]
  conv in (nthS _ 10) => whnf
  have F0 := F
  have N0 := N
  k_steps
  have hlb2 : (lb, LCg.lst ys) ∈ (L + 2, o2) :: (L + 3, o3) :: W := .tail _ (.tail _ hlb)
  refine LCg.CompSrc.ledger hh F0 N0 hlb2 (by rw [List.size_toArray]; exact Nat.le_trans y3 (by decide)) ?_
  intro g'
  clear F0 N0
  (try clear F)
  (try clear N)
  refine rest_ind (n := ys.toArray.size) (InvF wei cal L o2 o3 W ls) ?turn ?fin _ 0 [] _ (Nat.zero_add _) ⟨[], rfl, (fun q hq => nomatch hq), rfl, fun j v l hj => by simp at hj⟩
  case turn =>
    intro i xs news hi1 hI v I oI C oC D m₂ h tk E' hP hoC hx F N off ne
    obtain ⟨Y, rfl, apY, len, wts⟩ := hI
    obtain ⟨ne1, ne2, ne3⟩ := ne
    have off0 := off
    have hP' : ys[i]? = some v := by simpa using hP
    clear hP
    have hi2 : i < ls.length := by rw [← hB.1]; simpa using hi1
    obtain ⟨lv, hlv⟩ : ∃ l, ls[i]? = some l := ⟨ls[i], List.getElem?_eq_getElem hi2⟩
    have hBv : BlockL (Y ++ W) v lv := (hB.2 i v lv hP' hlv).mono fun q hq => List.mem_append_right _ hq
    have offa21 := zoffI off
    have offb21 := zoffC off
    have offc21 := zoffD off
    simp only [LCg.Off3] at off
    k_steps
    rename_i a9 t19 t29 n9 h9 tk9 F9 N9 w9 z9 ne9
    have ax : ∀ p ∈ (L + 2, o2) :: (L + 3, o3) :: W, @Ne Nat a9 p.1 := fun p hp => by
      rcases List.mem_cons.mp hp with rfl | hp
      · exact Ne.symm ne9.2.2.2.1
      · rcases List.mem_cons.mp hp with rfl | hp
        · exact Ne.symm ne9.2.2.2.2.1
        · exact (z9 p (List.mem_append_right _ hp)).symm
    refine LCg.CompEnd.intro F9 N9 ((L + 2, o2) :: (L + 3, o3) :: (a9, pairO (.int (bwA wei cal lv) t19) (bwW wei cal lv) t29 n9) :: (Y ++ W)) (by k_all) ⟨off0.1, off0.2.1, ⟨⟨Ne.symm ne9.1, Ne.symm ne9.2.1, Ne.symm ne9.2.2.1⟩, off0.2.2⟩⟩ (.inr ⟨_, .tail _ (.tail _ (.tail _ (List.mem_append_right _ hlb))), rfl, _, rfl⟩) ⟨(a9, _) :: Y, rfl, apc ax apY, by simp [len], fun j x l hj hl => ?_⟩
    by_cases hj' : j < xs.length
    · rw [List.getElem?_append_left hj'] at hj
      obtain ⟨b, t1, t2, n, e1, e2⟩ := wts j x l hj hl
      exact ⟨b, t1, t2, n, e1, .tail _ e2⟩
    · rw [List.getElem?_append_right (Nat.le_of_not_lt hj')] at hj
      have hji : j = i := by
        cases q : j - xs.length with
        | zero => omega
        | succ k => rw [q] at hj; simp at hj
      subst hji
      rw [len, Nat.sub_self] at hj
      cases hj
      rw [hlv] at hl
      cases hl
      exact ⟨a9, t19, t29, n9, rfl, .head _⟩
  case fin =>
    intro xs news hI
    obtain ⟨Y, rfl, apY, len, wts⟩ := hI
    unfold LCg.FinE
    intro D2 h3 tk3 F3 N3 o3'
    have offZ : ∀ p ∈ Y ++ W, @Ne Nat p.1 D2 := fun p hp => off1_memN o3' p (.tail _ (.tail _ hp))
    have ap6 : ∀ p ∈ Y ++ W, @Ne Nat p.1 (L + 3) := fun p hp => (List.mem_append.mp hp).elim (fun q => apY p q (L + 3, o3) (ym1)) (fun q => ap p q _ (by simp))
    have offd22 := zoff1 o3'
    simp only [LCg.Off1] at o3'
    dsimp only
    k_steps
    rw [← eE]
    rename_i h9 o9' F9 N9 d9
    have z4 : News h₀ L h9 ((L + 2, o2) :: (L + 3, o9') :: (((D2, LCg.lst xs) :: Y) ++ W)) := News.sub N9 (by
      refine zc (by k_mem) (zc (by k_mem) (zc (by k_mem) (fun q hq => .tail _ (.tail _ (.tail _ hq))))))
    have aD : ∀ p ∈ (L + 2, o2) :: (L + 3, o3) :: W, @Ne Nat D2 p.1 := fun p hp => by
      rcases List.mem_cons.mp hp with rfl | hp
      · exact Ne.symm o3'.1
      · rcases List.mem_cons.mp hp with rfl | hp
        · exact Ne.symm o3'.2.1
        · exact (offZ p (List.mem_append_right _ hp)).symm
    have z6 := fun tk => h.out _ tk o9' D2 xs ((D2, LCg.lst xs) :: Y) F9 z4 (apc aD apY) (.head _) d9 (by simpa using len) (wts.mono fun q hq => .tail _ hq)
    dsimp only
    exact z6 _
-- SgG
example : True := by
  k_with "assign Tuple" => first | ((k_here; (with_reducible show wpAny _ _ (assign (Expr.Tuple _ _ _) _ (Value.ref _)) _ _ _); k_dflt (refine' unpackN_ ?k1zq ?k2zq ?k3zq ?k4zq ?k5zq ?k6zq ?_; (case k1zq => k_asm); (case k2zq => k_asm); (case k3zq => exact News.isTup (by k_asm) (by k_mem)); (case k4zq => assumption); (case k5zq => exact rfl); (case k6zq => exact rfl); k_whole); intro h' F' N'; (try k_sweep)); (try (revert h' F' N'; intros))) | fail "no"
  trivial


set_option maxHeartbeats 8000000 in
theorem segG {w : World} {A : Around} {E : Value → Shared → Prop} {Q : Flow → Shared → Prop} {s : Shared} {h₀ : Heap} {L fa sa : Nat} {p : Program} {loose : List Str} {mg mb : Str → Option Value} {o1 o2 o3 o4 o5 o6 o7 o8 o9 ot : Obj} {rest : List Stmt} {W : List (Addr × Obj)} {bd : Int} {tb : Tok} {sa vm : Value} {lm : DL} {wei cal : Str → Option Int}
    (X : (hd.heap_39 w.params).In h₀) (T : TopRead p loose mg mb h₀) (hh : A.handled = none) (hroom : A.depth + 200 < recursionLimit) (hu : A.units + 800 < cLine) (lL : 292 < L) (TW : TabI w h₀ 136 wei) (TC : TabI w h₀ 139 cal) (hwe : ∀ x i, wei x = some i → 0 ≤ i) (hca : ∀ x i, cal x = some i → 0 ≤ i) (F : Fr h₀ L s.heap (fun y => if y = Str.ofString "bound" then some (.int bd tb) else if y = Str.ofString "main" then some (vm) else if y = Str.ofString "script" then some (sa) else none)) (N : News h₀ L s.heap W) (B : BlockL W vm lm)
    (h : Hid (∀ h' tk t7 t8 t9, Fr h₀ L h' (fun y => if y = Str.ofString "piled" then some (.int 0 t9) else if y = Str.ofString "whole" then some (.int (bwW wei cal lm) t8) else if y = Str.ofString "about" then some (.int (bwA wei cal lm) t7) else if y = Str.ofString "bound" then some (.int bd tb) else if y = Str.ofString "main" then some (vm) else if y = Str.ofString "script" then some (sa) else none) → News h₀ L h' W → wpAny (model PySem.Challenge.rw_qz0087_01.row.prog w) A (execs rest (lawE w fa L)) Q E { s with heap := h', toks := tk })) :
    wpAny (model PySem.Challenge.rw_qz0087_01.row.prog w) A (execs (nthS (lawB w) 11 :: nthS (lawB w) 12 :: rest) (lawE w fa L)) Q E s := by
  have eE : lawE w fa L = envOfC (Str.ofString "law") (lawFd w).scope L fa (.ref 294) := rfl
  conv at eE in (FuncData.scope _) => whnf
  rw [eE]
  conv in (nthS _ 11) => whnf
  conv in (nthS _ 12) => whnf
  k_steps
  rename_i F9 N9
  rw [← eE]
  have z6 := fun tk => h.out _ tk _ _ _ F9 (News.sub N9 fun q hq => .tail _ hq)
  dsimp only
  exact z6 _
-- Nst
noncomputable def RecP (Z : List (Addr × Obj)) (c : Addr) (qual : Str) : Prop := ∃ oc vs t, (c, oc) ∈ Z ∧ oc.data = .fields vs ∧ vs[1]? = some (.str qual t)
theorem RecP.mono {Z Z' : List (Addr × Obj)} (hs : ∀ q ∈ Z, q ∈ Z') {c : Addr} {qual : Str} (x : RecP Z c qual) : RecP Z' c qual := by
  obtain ⟨oc, vs, t, h1, r⟩ := x; exact ⟨oc, vs, t, hs _ h1, r⟩
noncomputable def TabG (Z : List (Addr × Obj)) (lst : List (Pos × Str)) (ps : Array Value) : Prop := TriplesOk ps.toList ∧ ∀ q ∈ lst, ∀ v, codeAmong q.1 ps.toList = some v → ∃ c, v = .ref c ∧ RecP Z c q.2
theorem TabG.mono {Z Z' : List (Addr × Obj)} (hs : ∀ q ∈ Z, q ∈ Z') {lst : List (Pos × Str)} {ps : Array Value} (x : TabG Z lst ps) : TabG Z' lst ps := ⟨x.1, fun q hq v hv => by
  obtain ⟨c, e, r⟩ := x.2 q hq v hv; exact ⟨c, e, r.mono hs⟩⟩
theorem codeAmong_other {pos pos' : Pos} {c : Value} (l : List Value) (h : TriplesOk l) (hp : pos.line ≠ pos'.line) : codeAmong pos' (l ++ [rawInt pos.line, rawInt pos.col, c]) = codeAmong pos' l := by
  fun_induction TriplesOk l with
  | case1 =>
    simp [codeAmong, rawInt]
    intro q
    omega
  | case2 a t b u x rest ih =>
    simp only [List.cons_append, codeAmong]
    split
    · rfl
    · exact ih h
  | case3 l h1 h2 => exact h.elim
section
variable {M : Model} {A : Around} {E : Value → Shared → Prop} {s : Shared} {h₀ : Heap} {L P c : Addr} {m mg mb : Str → Option Value} {cn : Str} {cs : Scope} {ccd : Value} {cl : List (Str × Addr)} {a : Addr}
  {p : Program} {loose : List Str} {mean : ExcName → Option Value} {name qual : Str} {params : Arguments} {body : List Stmt} {scope : Scope} {ps : Array Value} {pos : Pos} {firstLine : Nat} {clos : List (Str × Addr)} {W : List (Addr × Obj)} {lst : List (Pos × Str)}
theorem nest_any {Q : Value → Shared → Prop} (F : Fr h₀ L s.heap m) (N : News h₀ L s.heap ((P, tabObj ps) :: W)) (apP : ∀ q ∈ W, q.1 ≠ P) (T : Top p loose mean mg mb h₀) (C : CodeHd h₀ c P) (hcd : ccd = .ref c) (G : TabG W lst ps) (hq : (pos, qual) ∈ lst) (hin : ∀ q ∈ lst, q = (pos, qual) ∨ pos.line ≠ q.1.line)
    (hcl : closureFor scope (envX cn cs L a ccd cl) = pure clos)
    (h : ∀ f fo c' ctv doc pm ps' Y h' tk, fo = fnMade name qual params body scope clos doc pm c' ctv → Fr h₀ L h' m → News h₀ L h' ((P, tabObj ps') :: (f, fo) :: (Y ++ W)) → (∀ q ∈ (f, fo) :: Y, ∀ x ∈ (P, tabObj ps) :: W, @Ne Nat q.1 x.1) → RecP (Y ++ W) c' qual → TabG (Y ++ W) lst ps' → Q (.ref f) { s with heap := h', toks := tk }) :
    wpAny M A (makeFunction name qual params (.stmts body) scope (envX cn cs L a ccd cl) [] [] [] pos firstLine) Q E s := by
  cases e : codeAmong pos ps.toList with
  | none =>
    refine nest_K F N T C hcd (UpdF.head apP) G.1 e hcl fun f c' oc vs t ctv doc h' tk F' N' d1 d2 l1 l2 => ?_
    have e' : (ps ++ #[rawInt pos.line, rawInt pos.col, .ref c']).toList = ps.toList ++ [rawInt pos.line, rawInt pos.col, .ref c'] := by simp
    have hr : RecP ([(c', oc)] ++ W) c' qual := ⟨oc, vs, t, .head _, d1, d2⟩
    refine h f _ c' ctv doc ((mg "__name__").getD .none) _ [(c', oc)] h' tk rfl F' (News.sub N' ?_) ?_ hr ⟨by rw [e']; exact TriplesOk_snoc _ _ _ _ G.1, fun q hq' v hv => ?_⟩
    · refine zc (by k_mem) (zc (by k_mem) (zc (by k_mem) (fun q hq => .tail _ (.tail _ (.tail _ hq)))))
    · exact apc (fun x hx => Nat.ne_of_gt (Nat.lt_trans (l1 x hx) l2)) (apc (fun x hx => Nat.ne_of_gt (l1 x hx)) fun q hq => nomatch hq)
    · rw [e'] at hv
      rcases hin q hq' with rfl | hp
      · rw [codeAmong_snoc _ G.1 e] at hv
        cases hv
        exact ⟨c', rfl, hr⟩
      · rw [codeAmong_other _ G.1 hp] at hv
        obtain ⟨c2, e2, r2⟩ := G.2 q hq' v hv
        exact ⟨c2, e2, r2.mono fun q hq => .tail _ hq⟩
  | some v =>
    obtain ⟨c', rfl, hr⟩ := G.2 _ hq v e
    refine nestHit_K F N T C hcd (.head _) G.1 e hcl fun f ctv doc h' tk F' N' l1 => ?_
    refine h f _ c' ctv doc ((mg "__name__").getD .none) ps [] h' tk rfl F' (News.sub N' ?_) (apc (fun x hx => Nat.ne_of_gt (l1 x hx)) fun q hq => nomatch hq) hr G
    refine zc (by k_mem) (zc (by k_mem) (fun q hq => .tail _ (.tail _ hq)))
end
-- BdA
example : True := by
  k_with "call ref" => first | ((k_here; (with_reducible show wpAny _ _ (call (Value.ref 261) _) _ _ _); k_dflt (refine' toss_l ?Xzq ?Tzq ?Fzq ?Nzq ?Uzq ?hozq ?hrzq ?hizq ?c1zq ?c2zq ?c3zq ?c4zq ?c5zq ?c6zq ?c7zq ?_; (case Fzq => k_asm); (case Nzq => k_asm); (case Xzq => k_asm); (case Tzq => k_asm); (case Uzq => k_updF); (case hozq => with_reducible assumption); (case hrzq => first | with_reducible assumption | exact News.isList (by k_asm) (mem_in (by with_reducible assumption) (by k_all))); (case hizq => with_reducible assumption); (case c1zq => (first | omega | (simp only [depth_deeper]; omega))); (case c2zq => (first | omega | (simp only [units_deeper]; omega))); (case c3zq => omega); (case c4zq => omega); (case c5zq => omega); (case c6zq => first | decide | omega); (case c7zq => first | decide | omega); k_whole); intro val' h' tk' o' t1' tv' hv0' hv1' F' N' hd'; (try dsimp only at N'); (try k_sweep)); (try (revert val' h' tk' o' t1' tv' hv0' hv1' F' N' hd'; intros))) | fail "no"
  trivial

set_option maxHeartbeats 8000000 in
theorem bodyA {w : World} {A : Around} {E : Value → Shared → Prop} {Q : Flow → Shared → Prop} {s : Shared} {h₀ : Heap} {L fa sa : Nat} {p : Program} {loose : List Str} {mg mb : Str → Option Value} {o1 o2 o3 o4 o5 o6 o7 o8 o9 ot : Obj} {rest : List Stmt} {W : List (Addr × Obj)} {cup r lc : Nat} {oc : Obj} {ws xs : List Value} {row : List Int} {n l : Int} {t1 t2 : Tok} {m : Str → Option Value} {v9 : Option Value}
    (X : (hd.heap_39 w.params).In h₀) (T : TopRead p loose mg mb h₀) (hh : A.handled = none) (hroom : A.depth + 200 < recursionLimit) (hu : A.units + 800 < cLine) (lL : 292 < L) (F : Fr h₀ L s.heap m) (N : News h₀ L s.heap ((cup, oc) :: (L + 9, o9) :: (L + 1, o1) :: (L + 6, o6) :: W)) (ap : Apt [cup, L + 9] W) (lc9 : L + 9 < cup) (ho : oc.IsDictOf (strKind PySem.Challenge.rw_qz0087_01.row.prog w) (CupKvs r n l t1 t2)) (hr : (r, listOf (List.toArray ws) 0) ∈ W) (hi : IntsAre ws row) (hl : row.length ≤ 60) (n0 : 0 ≤ n) (n1 : n ≤ 5000)
    (d1 : o1.data = .cell (some (.ref cup))) (d6 : o6.data = .cell (some (.ref lc))) (d9 : o9.data = .cell v9) (hlc : (lc, LCg.lst xs) ∈ W) (x1 : 1 ≤ xs.length) (x3 : xs.length ≤ 3)
    (h : Hid (∀ h' tk oc ob (wh wy : Int) tw ty t1, Fr h₀ L h' (fun y => if y = Str.ofString "way" then some (.int wy ty) else m y) → News h₀ L h' ((cup, oc) :: (L + 9, ob) :: (L + 1, o1) :: (L + 6, o6) :: W) → oc.IsDictOf (strKind PySem.Challenge.rw_qz0087_01.row.prog w) (CupKvs r (n + 1 + 1) l t1 t2) → ob.data = .cell (some (.int wh tw)) → 0 ≤ wh → wh < (xs.length : Int) → 0 ≤ wy → wy < 4 → wpAny (model PySem.Challenge.rw_qz0087_01.row.prog w) A (execs rest (lawE w fa L)) Q E { s with heap := h', toks := tk })) :
    wpAny (model PySem.Challenge.rw_qz0087_01.row.prog w) A (execs (nthS (loopB w) 0 :: nthS (loopB w) 1 :: rest) (lawE w fa L)) Q E s := by
  have eE : lawE w fa L = envOfC (Str.ofString "law") (lawFd w).scope L fa (.ref 294) := rfl
  conv at eE in (FuncData.scope _) => whnf
  rw [eE]
  conv in (nthS _ 0) => whnf
  conv in (nthS _ 1) => whnf
  k_steps
  rename_i tl wh h3 tk1 oc1 t11 tw a0 a1 ho1 h2 ob d9' wy h1 tk0 oc2 t12 ty b0 b1 ho2 h0' F9 N9
  rw [← eE]
  have z6 := fun tk => h.out _ tk oc2 ob wh wy tw ty t12 F9 N9 ho2 d9' a0 a1 b0 b1
  dsimp only
  exact z6 _
-- BdB

noncomputable def dPos : Stmt → Pos
  | .FunctionDef _ _ _ _ _ _ _ _ _ p => p
  | _ => default
noncomputable def dLst (w : World) : List (Pos × Str) := [(dPos (nthS (loopB w) 2), Str.ofString "law.<locals>.called"), (dPos (nthS (loopB w) 3), Str.ofString "law.<locals>.beside"), (dPos (nthS (loopB w) 5), Str.ofString "law.<locals>.read")]
noncomputable def CloP (w : World) (Z : List (Addr × Obj)) (k : Nat) (f : Addr) (cl : List (Str × Addr)) : Prop := ∀ h : Heap, (∀ q ∈ Z, h.get? q.1 = some q.2) → CloAt w h k f cl
theorem CloP.mono {w : World} {Z Z' : List (Addr × Obj)} (hs : ∀ q ∈ Z, q ∈ Z') {k : Nat} {f : Addr} {cl : List (Str × Addr)} (x : CloP w Z k f cl) : CloP w Z' k f cl := fun h hz => x h fun q hq => hz q (hs q hq)
theorem RecP.drop {Y W : List (Addr × Obj)} {a c : Addr} {o : Obj} {qual : Str} {v : Option Value} (h : RecP (Y ++ (a, o) :: W) c qual) (hd : o.data = .cell v) : RecP (Y ++ W) c qual := by
  obtain ⟨oc, vs, t, h1, h2, h3⟩ := h
  refine ⟨oc, vs, t, ?_, h2, h3⟩
  rcases List.mem_append.mp h1 with h1 | h1
  · exact List.mem_append_left _ h1
  · rcases List.mem_cons.mp h1 with e | h1
    · cases e; rw [hd] at h2; cases h2
    · exact List.mem_append_right _ h1
theorem TabG.drop {Y W : List (Addr × Obj)} {a : Addr} {o : Obj} {v : Option Value} {lst : List (Pos × Str)} {ps : Array Value} (x : TabG (Y ++ (a, o) :: W) lst ps) (hd : o.data = .cell v) : TabG (Y ++ W) lst ps := ⟨x.1, fun q hq v hv => by
  obtain ⟨c, e, r⟩ := x.2 q hq v hv; exact ⟨c, e, r.drop hd⟩⟩
noncomputable def nRec (o : Obj) : Prop := ∀ vs x t, o.data = .fields vs → vs[1]? ≠ some (.str x t)
theorem nRec.of {o : Obj} (h : ∀ vs, o.data ≠ .fields vs) : nRec o := fun vs _ _ e => absurd e (h vs)
theorem RecP.dropS {Z Z' : List (Addr × Obj)} {c : Addr} {qual : Str} (x : RecP Z c qual) (hs : ∀ q ∈ Z, q ∈ Z' ∨ nRec q.2) : RecP Z' c qual := by
  obtain ⟨oc, vs, t, h1, h2, h3⟩ := x
  exact (hs _ h1).elim (fun h => ⟨oc, vs, t, h, h2, h3⟩) fun h => absurd h3 (h _ _ _ h2)
theorem TabG.dropS {Z Z' : List (Addr × Obj)} {lst : List (Pos × Str)} {ps : Array Value} (x : TabG Z lst ps) (hs : ∀ q ∈ Z, q ∈ Z' ∨ nRec q.2) : TabG Z' lst ps := ⟨x.1, fun q hq v hv => by
  obtain ⟨c, e, r⟩ := x.2 q hq v hv; exact ⟨c, e, r.dropS hs⟩⟩
theorem orApp {Y W W0 : List (Addr × Obj)} {P : Addr × Obj → Prop} (h : ∀ q ∈ W, q ∈ W0 ∨ P q) : ∀ q ∈ Y ++ W, q ∈ Y ++ W0 ∨ P q := fun q hq => (List.mem_append.mp hq).elim (fun x => .inl (List.mem_append_left _ x)) fun x => (h q x).elim (fun y => .inl (List.mem_append_right _ y)) .inr
theorem RecP.rec {Z : List (Addr × Obj)} {c : Addr} {qual : Str} (x : RecP Z c qual) {h : Heap} (hz : ∀ q ∈ Z, h.get? q.1 = some q.2) : h.CodeRec (.ref c) qual := by
  obtain ⟨oc, vs, t, h1, h2, h3⟩ := x
  exact ⟨c, oc, vs, t, rfl, hz _ h1, h2, h3⟩
theorem app_in {α : Type} {Y W : List α} {a : α} : ∀ q ∈ Y ++ W, q ∈ Y ++ a :: W := fun q hq => (List.mem_append.mp hq).elim (List.mem_append_left _) fun h => List.mem_append_right _ (.tail _ h)

set_option maxHeartbeats 8000000 in
theorem bodyB {w : World} {A : Around} {E : Value → Shared → Prop} {Q : Flow → Shared → Prop} {s : Shared} {h₀ : Heap} {L fa sa : Nat} {p : Program} {loose : List Str} {mg mb : Str → Option Value} {o1 o2 o3 o4 o5 o6 o7 o8 o9 ot : Obj} {rest : List Stmt} {W : List (Addr × Obj)} {m : Str → Option Value} {v5 : Option Value} {ps : Array Value} {p' : Program} {loose' : List Str} {mean' : ExcName → Option Value} {mg' mb' : Str → Option Value}
    (X : (hd.heap_39 w.params).In h₀) (T : TopRead p loose mg mb h₀) (hh : A.handled = none) (hroom : A.depth + 200 < recursionLimit) (hu : A.units + 800 < cLine) (lL : 292 < L) (T' : Top p' loose' mean' mg' mb' h₀) (C : CodeHd h₀ 294 292) (F : Fr h₀ L s.heap m) (N : News h₀ L s.heap (((292 : Nat), tabObj ps) :: (L + 5, o5) :: W)) (ap : Apt [292, L + 5] W) {W0 : List (Addr × Obj)} (hM : ∀ q ∈ W, q ∈ W0 ∨ nRec q.2) (hS0 : ∀ q ∈ W0, q ∈ W) (G : TabG W0 (dLst w) ps)
    (d5 : o5.data = .cell v5)
    (h : Hid (∀ h' tk ob fc fb ps' Y, Fr h₀ L h' (fun y => if y = Str.ofString "beside" then some (.ref fb) else m y) → News h₀ L h' (((292 : Nat), tabObj ps') :: (L + 5, ob) :: (Y ++ W)) → (∀ q ∈ Y, ∀ x ∈ ((292 : Nat), tabObj ps) :: (L + 5, o5) :: W, @Ne Nat q.1 x.1) → ob.data = .cell (some (.ref fc)) → CloP w (Y ++ W0) 2 fc [(Str.ofString "which", L + 9), (Str.ofString "run", L + 7), (Str.ofString "codes", L + 6)] → CloP w (Y ++ W0) 3 fb [(Str.ofString "run", L + 7), (Str.ofString "called", L + 5)] → TabG (Y ++ W0) (dLst w) ps' → wpAny (model PySem.Challenge.rw_qz0087_01.row.prog w) A (execs rest (lawE w fa L)) Q E { s with heap := h', toks := tk })) :
    wpAny (model PySem.Challenge.rw_qz0087_01.row.prog w) A (execs (nthS (loopB w) 2 :: nthS (loopB w) 3 :: rest) (lawE w fa L)) Q E s := by
  have eE : lawE w fa L = envOfC (Str.ofString "law") (lawFd w).scope L fa (.ref 294) := rfl
  conv at eE in (FuncData.scope _) => whnf
  rw [eE]
  replace G := G.mono hS0
  conv at G in (dLst w) => unfold dLst
  conv at G in (dPos _) => whnf
  conv at G in (dPos _) => whnf
  conv at G in (dPos _) => whnf
  conv in (nthS _ 2) => whnf
  conv in (nthS _ 3) => whnf
  have n5 : @Ne Nat (L + 5) 292 := by omega
  have ap1 : ∀ q ∈ (L + 5, o5) :: W, q.1 ≠ (292 : Nat) := zc n5 (fun q hq => ap q hq _ (by simp))
  iterate 1 walk1
  refine nestDef_K rfl rfl rfl ?_
  refine nest_any F N ap1 T' C rfl (G.mono fun q hq => .tail _ hq) (.head _) (zc (.inl rfl) (zc (.inr (by decide)) (zc (.inr (by decide)) (List.forall_mem_nil _)))) rfl fun fc ofc c1 ctv1 doc1 pm1 ps1 Y1 h1 tk1 e1 F1 N1 a1 R1 G1 => ?_
  have N1' := News.sub N1 (l' := ((292 : Nat), tabObj ps1) :: (L + 5, o5) :: (fc, ofc) :: (Y1 ++ W)) (zc (.head _) (zc (.tail _ (.tail _ (List.mem_append_right _ (.head _)))) (zc (ym1) (fun q hq => .tail _ (.tail _ (app_in q hq))))))
  have R1' := R1.drop d5
  have G1' := G1.drop d5
  have b5 : ∀ p ∈ Y1 ++ W, @Ne Nat p.1 (L + 5) := fun p hp => (List.mem_append.mp hp).elim (fun q => a1 p (.tail _ q) (L + 5, o5) (ym1)) (fun q => ap p q _ (by simp))
  have bf : @Ne Nat fc (L + 5) := a1 _ (.head _) (L + 5, o5) (ym1)
  have b92 : ∀ p ∈ Y1 ++ W, @Ne Nat p.1 292 := fun p hp => (List.mem_append.mp hp).elim (fun q => a1 p (.tail _ q) (292, tabObj ps) (.head _)) (fun q => ap p q _ (by simp))
  have bf2 : @Ne Nat fc 292 := a1 _ (.head _) (292, tabObj ps) (.head _)
  clear N1 N F
  dsimp only
  k_steps
  rename_i h2 o2' F2 N2 dfc
  refine nestDef_K rfl rfl rfl ?_
  refine nest_any F2 N2 (zc n5 (zc bf2 b92)) T' C rfl (G1'.mono fun q hq => .tail _ (.tail _ hq)) (ym1) (zc (.inr (by decide)) (zc (.inl rfl) (zc (.inr (by decide)) (List.forall_mem_nil _)))) rfl fun fb ofb c2 ctv2 doc2 pm2 ps2 Y2 h3 tk3 e2 F3 N3 a2 R2 G2 => ?_
  have R2' := R2.drop dfc
  have G2' := G2.drop dfc
  have N3' := News.sub N3 (l' := ((292 : Nat), tabObj ps2) :: (L + 5, o2') :: (((fb, ofb) :: (Y2 ++ ((fc, ofc) :: Y1))) ++ W)) (by
    refine zc (.head _) (zc (.tail _ (.tail _ (List.mem_append_right _ (.head _)))) (zc (ym1) (fun q hq => .tail _ (.tail _ ?_))))
    rcases List.mem_append.mp hq with hq | hq
    · rcases List.mem_append.mp hq with hq | hq
      · exact List.mem_append_left _ hq
      · rcases List.mem_cons.mp hq with rfl | hq
        · exact List.mem_append_right _ (ym1)
        · exact List.mem_append_right _ (.tail _ (.tail _ (List.mem_append_left _ hq)))
    · exact List.mem_append_right _ (.tail _ (.tail _ (List.mem_append_right _ hq))))
  clear N3 F2 N2
  dsimp only
  k_steps
  rename_i h4 F4 N4
  rw [← eE]
  have pool : ∀ q ∈ Y2 ++ ((fc, ofc) :: (Y1 ++ W)), q ∈ ((fb, ofb) :: (Y2 ++ ((fc, ofc) :: Y1))) ++ W := fun q hq => .tail _ (by
    rcases List.mem_append.mp hq with hq | hq
    · exact List.mem_append_left _ (List.mem_append_left _ hq)
    · rcases List.mem_cons.mp hq with rfl | hq
      · exact List.mem_append_left _ (List.mem_append_right _ (.head _))
      · rcases List.mem_append.mp hq with hq | hq
        · exact List.mem_append_left _ (List.mem_append_right _ (.tail _ hq))
        · exact List.mem_append_right _ hq)
  have poolM : ∀ q ∈ Y2 ++ ((fc, ofc) :: (Y1 ++ W)), q ∈ ((fb, ofb) :: (Y2 ++ ((fc, ofc) :: Y1))) ++ W0 ∨ nRec q.2 := fun q hq => orApp hM q (pool q hq)
  have pool0 : ∀ q ∈ Y2 ++ ((fc, ofc) :: (Y1 ++ W0)), q ∈ ((fb, ofb) :: (Y2 ++ ((fc, ofc) :: Y1))) ++ W0 := fun q hq => .tail _ (by
    rcases List.mem_append.mp hq with hq | hq
    · exact List.mem_append_left _ (List.mem_append_left _ hq)
    · rcases List.mem_cons.mp hq with rfl | hq
      · exact List.mem_append_left _ (List.mem_append_right _ (.head _))
      · rcases List.mem_append.mp hq with hq | hq
        · exact List.mem_append_left _ (List.mem_append_right _ (.tail _ hq))
        · exact List.mem_append_right _ hq)
  have aY : ∀ q ∈ (fb, ofb) :: (Y2 ++ ((fc, ofc) :: Y1)), ∀ x ∈ ((292 : Nat), tabObj ps) :: (L + 5, o5) :: W, @Ne Nat q.1 x.1 := by
    have up : ∀ q ∈ (fb, ofb) :: Y2, ∀ x ∈ ((292 : Nat), tabObj ps) :: (L + 5, o5) :: W, @Ne Nat q.1 x.1 := fun q hq => zc (a2 q hq (292, tabObj ps1) (.head _)) (zc (a2 q hq (L + 5, o2') (ym1)) (fun x hx => a2 q hq x (.tail _ (.tail _ (.tail _ (List.mem_append_right _ hx))))))
    intro q hq
    rcases List.mem_cons.mp hq with rfl | hq
    · exact up _ (.head _)
    · rcases List.mem_append.mp hq with hq | hq
      · exact up q (.tail _ hq)
      · exact a1 q hq
  have z6 := fun tk => h.out _ tk o2' fc fb ps2 ((fb, ofb) :: (Y2 ++ ((fc, ofc) :: Y1))) F4 N4 aY dfc (fun hp hz => ⟨⟨_, _, _, doc1, pm1, c1, ctv1, hz _ (.tail _ (List.mem_append_left _ (List.mem_append_right _ (.head _)))), congrArg Obj.data e1, (R1'.dropS (orApp hM)).rec fun q hq => hz q (pool0 q (List.mem_append_right _ (.tail _ hq)))⟩⟩) (fun hp hz => ⟨⟨_, _, _, doc2, pm2, c2, ctv2, hz _ (.head _), congrArg Obj.data e2, (R2'.dropS poolM).rec fun q hq => hz q hq⟩⟩) (G2'.dropS poolM)
  dsimp only
  exact z6 _
-- BdC
example : True := by
  k_with "eval Name" => first | (k_here; k_dflt (refine' nameX_L ?Fzq ?vzq ?_ ?azq ?bzq; (case Fzq => k_asm); (case azq => rfl); (case bzq => rfl); (case vzq => ((try dsimp only); (repeat rw [if_neg (by decide)]); (with_reducible assumption))); k_whole)) | fail "no"
  trivial

theorem dict_notFld {prog : Program} {w : World} {o : Obj} {kvs : List (Str × Value)} (h : o.IsDictOf (PySem.strKind prog w) kvs) : ∀ vs, o.data ≠ .fields vs := by
  obtain ⟨es, ep, _, hd, _⟩ := h
  intro vs e
  rw [hd] at e; cases e
theorem cell_notFld {o : Obj} {v : Option Value} (h : o.data = .cell v) : ∀ vs, o.data ≠ .fields vs := fun vs e => by rw [h] at e; cases e
theorem RecP.dropN {Y W : List (Addr × Obj)} {a c : Addr} {o : Obj} {qual : Str} (h : RecP (Y ++ (a, o) :: W) c qual) (hd : ∀ vs, o.data ≠ .fields vs) : RecP (Y ++ W) c qual := by
  obtain ⟨oc, vs, t, h1, h2, h3⟩ := h
  refine ⟨oc, vs, t, ?_, h2, h3⟩
  rcases List.mem_append.mp h1 with h1 | h1
  · exact List.mem_append_left _ h1
  · rcases List.mem_cons.mp h1 with e | h1
    · cases e; exact absurd h2 (hd _)
    · exact List.mem_append_right _ h1
theorem TabG.dropN {Y W : List (Addr × Obj)} {a : Addr} {o : Obj} {lst : List (Pos × Str)} {ps : Array Value} (x : TabG (Y ++ (a, o) :: W) lst ps) (hd : ∀ vs, o.data ≠ .fields vs) : TabG (Y ++ W) lst ps := ⟨x.1, fun q hq v hv => by
  obtain ⟨c, e, r⟩ := x.2 q hq v hv; exact ⟨c, e, r.dropN hd⟩⟩
set_option maxHeartbeats 8000000 in
theorem bodyC {w : World} {A : Around} {E : Value → Shared → Prop} {Q : Flow → Shared → Prop} {s : Shared} {h₀ : Heap} {L fa sa : Nat} {p : Program} {loose : List Str} {mg mb : Str → Option Value} {o1 o2 o3 o4 o5 o6 o7 o8 o9 ot : Obj} {rest : List Stmt} {W : List (Addr × Obj)} {cup r : Nat} {oc : Obj} {ws : List Value} {row : List Int} {n l : Int} {t1 t2 : Tok} {m : Str → Option Value} {v8 : Option Value} {ps : Array Value} {p' : Program} {loose' : List Str} {mean' : ExcName → Option Value} {mg' mb' : Str → Option Value} {pi ab : Int} {tp ta : Tok}
    (X : (hd.heap_39 w.params).In h₀) (T : TopRead p loose mg mb h₀) (hh : A.handled = none) (hroom : A.depth + 200 < recursionLimit) (hu : A.units + 800 < cLine) (lL : 292 < L) (T' : Top p' loose' mean' mg' mb' h₀) (C : CodeHd h₀ 294 292) (F : Fr h₀ L s.heap m) (N : News h₀ L s.heap ((cup, oc) :: (L + 8, o8) :: (L + 1, o1) :: ((292 : Nat), tabObj ps) :: W)) (ap : Apt [cup, L + 8, 292] W) (lc9 : L + 9 < cup) (ho : oc.IsDictOf (strKind PySem.Challenge.rw_qz0087_01.row.prog w) (CupKvs r n l t1 t2)) (hr : (r, listOf (List.toArray ws) 0) ∈ W) (hi : IntsAre ws row) (hl : row.length ≤ 60) (n0 : 0 ≤ n) (n1 : n ≤ 5000)
    (d1 : o1.data = .cell (some (.ref cup))) (d8 : o8.data = .cell v8) {W0 : List (Addr × Obj)} (hM : ∀ q ∈ W, q ∈ W0 ∨ nRec q.2) (hS0 : ∀ q ∈ W0, q ∈ W) (G : TabG W0 (dLst w) ps) (mP : m (Str.ofString "piled") = some (.int pi tp)) (mA : m (Str.ofString "about") = some (.int ab ta))
    (h : Hid (∀ h' tk oc ob fd ps' Y t1 tx tt tw (nt : Int), Fr h₀ L h' (fun y => if y = Str.ofString "waits" then some (.int (pi + ab) tw) else if y = Str.ofString "read" then some (.ref fd) else m y) → News h₀ L h' ((cup, oc) :: (L + 8, ob) :: (L + 1, o1) :: ((292 : Nat), tabObj ps') :: (Y ++ W)) → (∀ q ∈ Y, ∀ x ∈ ((292 : Nat), tabObj ps) :: (cup, oc) :: (L + 8, ob) :: (L + 1, o1) :: W, @Ne Nat q.1 x.1) → oc.IsDictOf (strKind PySem.Challenge.rw_qz0087_01.row.prog w) (CupKvs r (n + 1) l t1 t2) → ob.data = .cell (some (.str tx tt)) → (tx.length : Int) = nt → tx.length ≤ 1000 → CloP w (Y ++ W0) 5 fd [(Str.ofString "text", L + 8), (Str.ofString "run", L + 7)] → TabG (Y ++ W0) (dLst w) ps' → wpAny (model PySem.Challenge.rw_qz0087_01.row.prog w) A (execs rest (lawE w fa L)) Q E { s with heap := h', toks := tk })) :
    wpAny (model PySem.Challenge.rw_qz0087_01.row.prog w) A (execs (nthS (loopB w) 4 :: nthS (loopB w) 5 :: nthS (loopB w) 6 :: rest) (lawE w fa L)) Q E s := by
  have eE : lawE w fa L = envOfC (Str.ofString "law") (lawFd w).scope L fa (.ref 294) := rfl
  conv at eE in (FuncData.scope _) => whnf
  rw [eE]
  replace G := G.mono hS0
  conv at G in (dLst w) => unfold dLst
  conv at G in (dPos _) => whnf
  conv at G in (dPos _) => whnf
  conv at G in (dPos _) => whnf
  conv in (nthS _ 4) => whnf
  conv in (nthS _ 5) => whnf
  conv in (nthS _ 6) => whnf
  k_steps
  rename_i val h1 tk1 oc1 t11 tv v0 v1 ho1 tt kk kz kn h2 o8' F2 N2 d8'
  have hlen := kn v0
  have n8 : @Ne Nat (L + 8) 292 := by omega
  have nc : @Ne Nat cup 292 := by omega
  have n1' : @Ne Nat (L + 1) 292 := by omega
  have N2' := News.sub N2 (l' := ((292 : Nat), tabObj ps) :: (cup, oc1) :: (L + 8, o8') :: (L + 1, o1) :: W) (by k_all)
  refine nestDef_K rfl rfl rfl ?_
  refine nest_any F2 N2' (zc nc (zc n8 (zc n1' (fun q hq => ap q hq _ (by simp))))) T' C rfl (G.mono fun q hq => .tail _ (.tail _ (.tail _ hq))) (ym2) (zc (.inr (by decide)) (zc (.inr (by decide)) (zc (.inl rfl) (List.forall_mem_nil _)))) rfl fun fd ofd c2 ctv2 doc2 pm2 ps2 Y2 h3 tk3 e2 F3 N3 a2 R2 G2 => ?_
  have nd := dict_notFld ho1
  have R2' := ((R2.dropN nd).dropN (cell_notFld d8')).dropN (cell_notFld d1)
  have G2' := ((G2.dropN nd).dropN (cell_notFld d8')).dropN (cell_notFld d1)
  have N3' := News.sub N3 (l' := (cup, oc1) :: (L + 8, o8') :: (L + 1, o1) :: ((292 : Nat), tabObj ps2) :: (((fd, ofd) :: Y2) ++ W)) (by
    refine zd (.tail _ (.tail _ (List.mem_append_right _ (.head _)))) (.tail _ (.tail _ (List.mem_append_right _ (ym1)))) (.tail _ (.tail _ (List.mem_append_right _ (ym2)))) (.head _) (fun q hq => .tail _ ?_)
    rcases List.mem_cons.mp hq with rfl | hq
    · exact .head _
    · refine .tail _ ?_
      rcases List.mem_append.mp hq with hq | hq
      · exact List.mem_append_left _ hq
      · exact List.mem_append_right _ (.tail _ (.tail _ (.tail _ hq))))
  clear N3 F2 N2 N2'
  dsimp only
  k_steps
  rename_i h5 F4 N4
  rw [← eE]
  have z6 := fun tk => h.out _ tk oc1 o8' fd ps2 ((fd, ofd) :: Y2) t11 _ tt _ val F4 N4 a2 ho1 d8' (by omega) (by omega) (fun hp hz => ⟨⟨_, _, _, doc2, pm2, c2, ctv2, hz _ (.head _), congrArg Obj.data e2, (R2'.dropS (orApp hM)).rec fun q hq => hz q (.tail _ hq)⟩⟩) ((G2'.dropS (orApp hM)).mono fun q hq => .tail _ hq)
  dsimp only
  exact z6 _
-- Dl
theorem ns_slots {h h' : Heap} {L : Addr} {m : Str → Option Value} (x : h.Ns L m) (k : ∀ o, h.get? L = some o → ∃ sl, h'.get? L = some { o with slots := sl }) : h'.Ns L m := by
  obtain ⟨o, es, ep, e, hd, r⟩ := x
  obtain ⟨sl, e'⟩ := k o e
  exact ⟨_, es, ep, e', hd, r⟩
set_option maxHeartbeats 2000000 in
theorem died_l {w : World} {A : Around} {E : Value → Shared → Prop} {s : Shared} {h₀ : Heap} {L : Addr} {m : Str → Option Value} {news : List (Addr × Obj)} {p : Program} {loose : List Str} {mg mb : Str → Option Value} {g : Obj → List (Addr × Obj)} {Q : Value → Shared → Prop}
    {dk f : Addr} {dom : Int → Prop} {fA fW : Int → Int} {ok : Obj} {n : Nat} {bad : Prop} {Zx : List (Addr × Obj)} {l : List Addr} {env : Env}
    (X : (hd.heap_39 w.params).In h₀) (T : TopRead p loose mg mb h₀) (F : Fr h₀ L s.heap m) (N : News h₀ L s.heap news) (U : UpdF dk ok news g) (hh : A.handled = none) (hroom : A.depth + 170 < recursionLimit) (hu : A.units + 770 < cLine)
    (hfr : A.frames = some [env]) (hef : env.frame = some L) (hek : env.scope.kind = .function) (hK : Kn w s.heap dom fA fW ok n) (hdl : dk ∈ l) (hLl : L ∈ l) (hl : ∀ b ∈ l, h₀.get? b = none)
    (hf : FnAt f (hideAll s.heap l)) (hZx : ∀ q ∈ Zx, s.heap.get? q.1 = some q.2 ∧ q.1 ≠ L ∧ q.1 ≠ dk) (hwork : WorkX w dom fA fW dk n f bad (hideAll s.heap l) Zx)
    (h : ∀ h' tk ok' bv, (bv = true ↔ bad) → Fr h₀ L h' m → News h₀ L h' (g ok') → Kn w h' dom fA fW ok' (n + 1) → (∀ b x, b ≠ dk → b ≠ L → s.heap.get? b = some x → h'.get? b = some x) → Q (.bool bv) { s with heap := h', toks := tk }) :
    wpAny (model PySem.Challenge.rw_qz0087_01.row.prog w) A (call (.ref 290) [.ref f]) Q E s := by
  have hm : (dk, ok) ∈ news := by obtain ⟨pre, post, rfl, _⟩ := U.split; exact List.mem_append_right _ (.head _)
  have st : h₀.StaysIn (hideAll s.heap l) := fun b o e => hideAll_get _ (F.keep _ _ e) fun q => by rw [hl b q] at e; cases e
  have ndL : dk ≠ L := (N _ hm).2.1
  have hfrs : frs [env] = [L] := by simp only [frs, List.filterMap_cons, hef, List.filterMap_nil]
  refine wpAny_call (died_c (H := hideAll s.heap l) (fun b o e => of_hideAll _ e) (X.keeps st) (T.keeps st) hh hroom hu hfr (stk_push hef F.ns True.intro hek) (by rw [hfrs]; exact fun q => ndL (List.mem_singleton.mp q)) (fun b hb => by
    rw [hfrs] at hb
    rw [List.mem_singleton.mp hb]
    exact hideAll_none _ hLl) (Nat.le_of_eq (hideAll_size _ _)) (fun q hq => by
    obtain ⟨a, b, c⟩ := hZx q hq
    exact ⟨a, by rw [hfrs]; exact fun z => b (List.mem_singleton.mp z), c⟩) (N _ hm).1 (hideAll_none _ hdl) hK hf hwork fun h' tk ok' bv e1 e2 e3 e4 e5 => ?_)
  rw [hfrs] at e2
  have kp : ∀ b x, b ≠ dk → b ≠ L → s.heap.get? b = some x → h'.get? b = some x := fun b x h1 h2 => e2 b x h1 (fun z => h2 (List.mem_singleton.mp z))
  have hL₀ : h₀.get? L = none := hl L hLl
  have F' : Fr h₀ L h' m := ⟨ns_slots F.ns fun o e => e3 L o ndL.symm e, fun b x e => kp b x (fun q => by rw [q, (N _ hm).2.2] at e; cases e) (fun q => by rw [q, hL₀] at e; cases e) (F.keep b x e), F.above⟩
  refine h h' tk ok' bv e1 F' ?_ e5 kp
  obtain ⟨pre, post, rfl, hg, h1, h2⟩ := U.split
  rw [hg]
  intro q hq
  rcases List.mem_append.mp hq with hq | hq
  · have n1 := N q (List.mem_append_left _ hq)
    exact ⟨kp _ _ (h1 q hq) n1.2.1 n1.1, n1.2⟩
  · rcases List.mem_cons.mp hq with rfl | hq
    · exact ⟨e4, (N _ hm).2⟩
    · have n1 := N q (List.mem_append_right _ (.tail _ hq))
      exact ⟨kp _ _ (h2 q hq) n1.2.1 n1.1, n1.2⟩
-- Bnd
noncomputable def IntValsB (es : List DictEntry) : Prop := ∀ e ∈ es, ∃ i t, e.val = .int i t ∧ 0 ≤ i ∧ i ≤ 1000
theorem tabI_ofB {w : World} {h : Heap} {K : Frag} {a : Addr} {es : Array DictEntry} {n : Nat} (X : K.In h) (hl : K.lookup a = some ⟨.type "dict", none, .dict es n, #[]⟩) (hk : KeysLit w.params es.toList) (hv : IntValsB es.toList) (lo : (a == sysModules) = false) :
    ∃ f : Str → Option Int, TabI w h a f ∧ ∀ x i, f x = some i → 0 ≤ i ∧ i ≤ 1000 := by
  have key : ∀ x, findBy Value.isStrOf es x = none ∨ ∃ i t, findBy Value.isStrOf es x = some (.int i t) ∧ 0 ≤ i ∧ i ≤ 1000 := fun x => by
    unfold findBy
    cases q : es.find? fun e => Value.isStrOf x e.key with
    | none => exact .inl rfl
    | some e =>
      obtain ⟨i, t, e1, e2⟩ := hv e (Array.mem_toList_iff.mpr (Array.mem_of_find?_eq_some q))
      exact .inr ⟨i, t, by rw [Option.map_some, e1], e2⟩
  refine ⟨fun x => match findBy Value.isStrOf es x with | some (.int i _) => some i | _ => none, ⟨lo, _, mapOf_K X hl hk, fun x => ⟨fun e => ?_, fun i e => ?_⟩⟩, fun x i e => ?_⟩
  · rcases key x with q | ⟨i, t, q, _⟩
    · exact q
    · dsimp only at e; rw [q] at e; cases e
  · rcases key x with q | ⟨j, t, q, _⟩
    · dsimp only at e; rw [q] at e; cases e
    · dsimp only at e; rw [q] at e; cases e; exact ⟨t, q⟩
  · rcases key x with q | ⟨j, t, q, h0⟩
    · dsimp only at e; rw [q] at e; cases e
    · dsimp only at e; rw [q] at e; cases e; exact h0

theorem tabs_exB {w : World} {H : Heap} (X : (hd.heap_39 w.params).In H) : ∃ wei cal : Str → Option Int, TabI w H 136 wei ∧ TabI w H 139 cal ∧ (∀ x i, wei x = some i → 0 ≤ i ∧ i ≤ 1000) ∧ ∀ x i, cal x = some i → 0 ≤ i ∧ i ≤ 1000 := by
  have hW : ∃ f : Str → Option Int, TabI w H 136 f ∧ ∀ x i, f x = some i → 0 ≤ i ∧ i ≤ 1000 := by
    refine' tabI_ofB (a := 136) X ?k1 ?k2 ?k3 rfl
    case k1 => k_is
    case k2 => k_keys
    case k3 => unfold IntValsB; dsimp only; repeat' (first | exact List.forall_mem_nil _ | refine zc (⟨_, _, rfl, by decide⟩) ?_)
  have hC : ∃ f : Str → Option Int, TabI w H 139 f ∧ ∀ x i, f x = some i → 0 ≤ i ∧ i ≤ 1000 := by
    refine' tabI_ofB (a := 139) X ?j1 ?j2 ?j3 rfl
    case j1 => k_is
    case j2 => k_keys
    case j3 => unfold IntValsB; dsimp only; repeat' (first | exact List.forall_mem_nil _ | refine zc (⟨_, _, rfl, by decide⟩) ?_)
  obtain ⟨wei, a, b⟩ := hW
  obtain ⟨cal, c, d⟩ := hC
  exact ⟨wei, cal, a, c, b, d⟩

theorem foldl_max_le {B : Int} : ∀ (l : List Int) (x : Int), x ≤ B → (∀ y ∈ l, y ≤ B) → l.foldl max x ≤ B
  | [], x, h, _ => h
  | z :: l, x, h, k => by
    rw [List.foldl_cons]
    exact foldl_max_le l _ (Int.max_le.mpr ⟨h, k z (.head _)⟩) fun y hy => k y (.tail _ hy)
theorem lmax_bd {l : List Int} {B i : Int} (h : ∀ y ∈ l, 0 ≤ y ∧ y ≤ B) (e : lmax l = some i) : 0 ≤ i ∧ i ≤ B := by
  cases l with
  | nil => cases e
  | cons x l =>
    cases e
    have h0 := h x (.head _)
    exact ⟨Int.le_trans h0.1 (foldl_max_ge l x).1, foldl_max_le l x h0.2 fun y hy => (h y (.tail _ hy)).2⟩
noncomputable def LwBd (B : Int) (p : Option Int × Int) : Prop := (∀ i, p.1 = some i → 0 ≤ i ∧ i ≤ B) ∧ 0 ≤ p.2 ∧ p.2 ≤ B
theorem LwBd.up {B B' : Int} {p : Option Int × Int} (h : LwBd B p) (hb : B ≤ B') : LwBd B' p := ⟨fun i e => ⟨(h.1 i e).1, Int.le_trans (h.1 i e).2 hb⟩, h.2.1, Int.le_trans h.2.2 hb⟩
theorem lwNode_bd {own B : Int} {c : Option Int} {ps : List (Option Int × Int)} (h0 : 0 ≤ own) (h1 : own ≤ 1000) (hB : 0 ≤ B) (hc : ∀ i, c = some i → 0 ≤ i ∧ i ≤ 1000) (hp : ∀ p ∈ ps, LwBd B p) : LwBd (B + 1000) (lwNode own c ps) := by
  refine ⟨fun i e => lmax_bd (fun y hy => ?_) e, ?_⟩
  · rcases List.mem_append.mp hy with hy | hy
    · obtain ⟨p, hp', e⟩ := List.mem_filterMap.mp hy
      obtain ⟨q, hq, rfl⟩ := Option.map_eq_some_iff.mp e
      have := (hp p hp').1 q hq
      constructor <;> omega
    · have := hc y (by simpa using hy)
      constructor <;> omega
  · have k : ∀ y ∈ ps.map (·.2) ++ [0], 0 ≤ y ∧ y ≤ B := fun y hy => by
      rcases List.mem_append.mp hy with hy | hy
      · obtain ⟨p, hp', rfl⟩ := List.mem_map.mp hy
        exact (hp p hp').2
      · rw [List.mem_singleton.mp hy]; exact ⟨Int.le_refl _, hB⟩
    show 0 ≤ own + (lmax (ps.map (·.2) ++ [0])).getD 0 ∧ own + (lmax (ps.map (·.2) ++ [0])).getD 0 ≤ B + 1000
    cases e : lmax (ps.map (·.2) ++ [0]) with
    | none => simp only [Option.getD_none]; constructor <;> omega
    | some i => have := lmax_bd k e; simp only [Option.getD_some]; constructor <;> omega
section
variable {wei cal : Str → Option Int} (hwe : ∀ x i, wei x = some i → 0 ≤ i ∧ i ≤ 1000) (hca : ∀ x i, cal x = some i → 0 ≤ i ∧ i ≤ 1000)
include hwe hca
mutual
theorem D.lw_bd : ∀ d : D, LwBd (1000 * (d.dep : Int)) (d.lw wei cal)
  | .none => ⟨fun i e => by simp [D.lw] at e, by simp [D.lw, D.dep]⟩
  | .int _ => ⟨fun i e => by simp [D.lw] at e, by simp [D.lw, D.dep]⟩
  | .str _ => ⟨fun i e => by simp [D.lw] at e, by simp [D.lw, D.dep]⟩
  | .lst l => by
    have h := lwNode_bd (own := 0) (c := none) (by omega) (by omega) (by omega) (fun i e => by cases e) (DL.lw_bd l)
    rw [D.lw]
    exact h.up (by simp only [D.dep]; omega)
  | .tup l => by
    rw [D.lw]
    split
    · rename_i x _
      split
      · exact ⟨(fun i e => by simp at e), (by simp), (by simp only [D.dep]; omega)⟩
      · have hw : 0 ≤ (wei x).getD 4 ∧ (wei x).getD 4 ≤ 1000 := by
          cases q : wei x with
          | none => simp
          | some i => simpa using hwe x i q
        exact (lwNode_bd hw.1 hw.2 (by omega) (fun i e => hca x i e) (DL.lw_bd l)).up (by simp only [D.dep]; omega)
    · exact (lwNode_bd (own := 0) (c := none) (by omega) (by omega) (by omega) (fun i e => by cases e) (DL.lw_bd l)).up (by simp only [D.dep]; omega)
theorem DL.lw_bd : ∀ l : DL, ∀ p ∈ l.lws wei cal, LwBd (1000 * (l.dep : Int)) p
  | .nil => fun p hp => by simp [DL.lws] at hp
  | .cons d l => fun p hp => by
    rw [DL.lws] at hp
    rcases List.mem_cons.mp hp with rfl | hp
    · exact (D.lw_bd d).up (by simp only [DL.dep]; omega)
    · exact (DL.lw_bd l p hp).up (by simp only [DL.dep]; omega)
end
theorem bw_bd {l : DL} (hd : l.dep ≤ 25) : (0 ≤ bwA wei cal l ∧ bwA wei cal l ≤ 100000) ∧ 0 ≤ bwW wei cal l ∧ bwW wei cal l ≤ 100000 := by
  have h := (D.lw_bd hwe hca (.lst l)).up (B' := 100000) (by simp only [D.dep]; omega)
  refine ⟨?_, h.2⟩
  unfold bwA
  cases e : ((D.lst l).lw wei cal).1 with
  | none => simp
  | some i => simpa using h.1 i e
end
-- Tot
noncomputable def restE (h₀ h : Heap) (L : Addr) (l : List Addr) : List (Addr × Obj) := (List.range h.objs.size).filterMap fun b => match h.get? b with
  | some o => if b ≠ L ∧ b ∉ l ∧ h₀.get? b = none then some (b, o) else none
  | none => none
theorem restE_mem {h₀ h : Heap} {L b : Addr} {l : List Addr} {o : Obj} : (b, o) ∈ restE h₀ h L l ↔ h.get? b = some o ∧ b ≠ L ∧ b ∉ l ∧ h₀.get? b = none := by
  unfold restE
  rw [List.mem_filterMap]
  constructor
  · rintro ⟨c, hc, e⟩
    cases q : h.get? c with
    | none => rw [q] at e; cases e
    | some x =>
      rw [q] at e
      dsimp only at e
      by_cases hx : c ≠ L ∧ c ∉ l ∧ h₀.get? c = none
      · rw [if_pos hx] at e; cases e; exact ⟨q, hx⟩
      · rw [if_neg hx] at e; cases e
  · rintro ⟨e, hx⟩
    exact ⟨b, List.mem_range.mpr (Heap.lt_size e), by rw [e]; dsimp only; rw [if_pos hx]⟩
noncomputable def isPr (o : Obj) : Prop := o.cls = .type "tuple" ∧ ∃ vs n, o.data = .seq vs n
theorem Kn.pr {w : World} {h h' : Heap} {dom : Int → Prop} {fA fW : Int → Int} {o : Obj} {n : Nat} (x : Kn w h dom fA fW o n) (k : ∀ b o, isPr o → h.get? b = some o → h'.get? b = some o) : Kn w h' dom fA fW o n := by
  obtain ⟨kvs, h1, h2, h3⟩ := x.ex
  refine ⟨⟨kvs, h1, h2, fun k' v hm => ?_⟩⟩
  obtain ⟨d, a, e, q⟩ := h3 k' v hm
  obtain ⟨ta, tb, o', e1, hc, n', hd⟩ := q.ex
  exact ⟨d, a, e, ⟨⟨ta, tb, o', k _ _ ⟨hc, _, _, hd⟩ e1, hc, n', hd⟩⟩⟩
theorem total {h₀ h : Heap} {L : Addr} {m : Str → Option Value} {E W : List (Addr × Obj)} (F : Fr h₀ L h m) (N : News h₀ L h (E ++ W)) (ap : ∀ q ∈ W, ∀ p ∈ E, @Ne Nat q.1 p.1) (hE : ∀ p ∈ E, ¬ isPr p.2) :
    ∃ R, News h₀ L h (E ++ R) ∧ (∀ q ∈ W, q ∈ R) ∧ (∀ q ∈ R, ∀ p ∈ E, @Ne Nat q.1 p.1) ∧ ∀ h' m', Fr h₀ L h' m' → News h₀ L h' R → ∀ b o, isPr o → h.get? b = some o → h'.get? b = some o := by
  refine ⟨restE h₀ h L (E.map (·.1)), fun q hq => ?_, fun q hq => ?_, fun q hq p hp e => ?_, fun h' m' F' N' b o hp e => ?_⟩
  · rcases List.mem_append.mp hq with hq | hq
    · exact N q (List.mem_append_left _ hq)
    · obtain ⟨e1, e2, _, e4⟩ := restE_mem.mp (show (q.1, q.2) ∈ _ from hq)
      exact ⟨e1, e2, e4⟩
  · have n1 := N q (List.mem_append_right _ hq)
    refine restE_mem.mpr ⟨n1.1, n1.2.1, fun hm => ?_, n1.2.2⟩
    obtain ⟨p, hp, e⟩ := List.mem_map.mp hm
    exact ap q hq p hp e.symm
  · exact (restE_mem.mp (show (q.1, q.2) ∈ _ from hq)).2.2.1 (List.mem_map.mpr ⟨p, hp, e.symm⟩)
  · cases z : h₀.get? b with
    | some o' => have k1 := F.keep _ _ z; rw [e] at k1; cases k1; exact F'.keep _ _ z
    | none =>
      refine (N' (b, o) (restE_mem.mpr ⟨e, fun q => ?_, fun hm => ?_, z⟩)).1
      · obtain ⟨oL, es, ep, hL, hLd, _⟩ := F.ns
        rw [q, hL] at e; cases e
        obtain ⟨_, vs, n, hd⟩ := hp
        rw [hLd] at hd; cases hd
      · obtain ⟨p, hp', e'⟩ := List.mem_map.mp hm
        have n1 := (N p (List.mem_append_left _ hp')).1
        rw [e', e] at n1; cases n1
        exact hE p hp' hp
theorem cell_nPr {o : Obj} {v : Option Value} (h : o.data = .cell v) : ¬ isPr o := fun ⟨_, vs, n, e⟩ => by rw [h] at e; cases e
theorem dict_nPr {es : List DictEntry} {n : Nat} : ¬ isPr (dictOf es n) := fun ⟨_, vs, k, e⟩ => by cases e
theorem list_nPr {vs : List Value} : ¬ isPr (LCg.lst vs) := fun ⟨e, _⟩ => by injection e with e2; exact absurd e2 (by decide)
theorem kn_nPr {w : World} {h : Heap} {dom : Int → Prop} {fA fW : Int → Int} {o : Obj} {n : Nat} (x : Kn w h dom fA fW o n) : ¬ isPr o := fun ⟨_, vs, k, e⟩ => by
  obtain ⟨kvs, ⟨es, ep, _, hd, _⟩, _⟩ := x.ex
  rw [hd] at e; cases e
-- Cal
noncomputable def WtP (h₀ : Heap) (Z : List (Addr × Obj)) (wt : Addr) (a b : Int) : Prop := ∀ h : Heap, h₀.StaysIn h → (∀ q ∈ Z, h.get? q.1 = some q.2) → PrAt h wt a b
theorem WtP.mono {h₀ : Heap} {Z Z' : List (Addr × Obj)} (hs : ∀ q ∈ Z, q ∈ Z') {wt : Addr} {a b : Int} (x : WtP h₀ Z wt a b) : WtP h₀ Z' wt a b := fun h st hz => x h st fun q hq => hz q (hs q hq)
theorem WtP.on {h₀ h : Heap} {Z S : List (Addr × Obj)} {wt : Addr} {a b : Int} (x : WtP h₀ Z wt a b) (st : h₀.StaysIn h) (hz : ∀ q ∈ S, h.get? q.1 = some q.2) (hs : ∀ q ∈ Z, q ∈ S) : PrAt h wt a b := x h st fun q hq => hz q (hs q hq)
theorem rn_pool {H : Heap} {S : List (Addr × Obj)} {run dr lf fr : Nat} {od : Obj} {fs : List Value} (hz : ∀ q ∈ S, H.get? q.1 = some q.2) (m1 : (lf, LCg.lst (fs ++ [Value.ref fr])) ∈ S) (hfs : fs.length ≤ 1000) (m5 : (run, instObj 91 dr) ∈ S) (m6 : (dr, od) ∈ S) (hl : lookIn "frames" od = some (some (.ref lf))) : RnAt H run lf fr :=
  ⟨⟨dr, od, #[], fs, hz _ m5, hz _ m6, hl, ⟨_, hz _ m1, rfl, _, rfl⟩, hfs⟩⟩
theorem called_x {w : World} {H : Heap} {p : Program} {loose : List Str} {mg mb : Str → Option Value} {S : List (Addr × Obj)} {run dr lf fr dfr dk wt : Nat} {od : Obj} {es : List DictEntry} {n0 n : Nat} {fs : List Value} {pl a b : Int} {L : Nat} {o7 : Obj} {dom : Int → Prop} {fA fW : Int → Int} {wei cal : Str → Option Int} {lc fc cd : Nat} {xs : List Value} {wh k : Int} {th : Tok} {blk : Value} {lv : DL} {o6 o9 : Obj}
    (X : (hd.heap_39 w.params).In H) (T : TopRead p loose mg mb H) (hz : ∀ q ∈ S, H.get? q.1 = some q.2) (hH : H.get? dk = none) (m1 : (lf, LCg.lst (fs ++ [Value.ref fr])) ∈ S) (hfs : fs.length ≤ 1000) (m5 : (run, instObj 91 dr) ∈ S) (m6 : (dr, od) ∈ S) (hl : lookIn "frames" od = some (some (.ref lf))) (m3 : (fr, instObj 157 dfr) ∈ S) (hE : FrE es pl wt dk) (m4 : PrAt H wt a b)
    (c7 : (L + 7, o7) ∈ S) (d7 : o7.data = .cell (some (.ref run))) (b1 : -1000000 ≤ pl) (b2 : pl ≤ 1000000) (b3 : -1000000 ≤ a) (b4 : a ≤ 1000000) (m2 : (dfr, dictOf es n0) ∈ S)
    (TW : TabI w H 136 wei) (TC : TabI w H 139 cal) (hwe : ∀ x i, wei x = some i → 0 ≤ i) (hca : ∀ x i, cal x = some i → 0 ≤ i)
    (c6 : (L + 6, o6) ∈ S) (d6 : o6.data = .cell (some (.ref lc))) (c9 : (L + 9, o9) ∈ S) (d9 : o9.data = .cell (some (.int wh th))) (hlc : (lc, LCg.lst xs) ∈ S) (w0 : 0 ≤ wh) (w1 : wh < 10000) (hcs : xs[wh.toNat]? = some (.ref cd)) (hc : CdP S cd k blk) (hB : BlockL S blk lv) (hcl : CloP w S 2 fc [(Str.ofString "which", L + 9), (Str.ofString "run", L + 7), (Str.ofString "codes", L + 6)])
    (lo : (dk == sysModules) = false) (hn : n ≤ 1000) (hA : fA k = bwA wei cal lv) (hW : fW k = bwW wei cal lv) (hd : dom k) (b5 : 0 ≤ bwW wei cal lv) (b6 : bwW wei cal lv ≤ 1000000) :
    WorkX w dom fA fW dk n fc (880 < pl + a + 4 + bwW wei cal lv + 10) H [] :=
  (called_w X T TW TC hwe hca (hcl H hz) ⟨⟨o7, hz _ c7, d7⟩⟩ ⟨⟨o6, hz _ c6, d6⟩⟩ ⟨⟨o9, hz _ c9, d9⟩⟩ ⟨_, hz _ hlc, rfl, _, rfl⟩ w0 w1 hcs (rn_pool hz m1 hfs m5 m6 hl) (hE.at_ (hz _ m3) (hz _ m2)) m4 (hc H hz) hB hz hH lo hn hA hW hd b1 b2 b3 b4 b5 b6).x
theorem read_x {w : World} {H : Heap} {p : Program} {loose : List Str} {mg mb : Str → Option Value} {S : List (Addr × Obj)} {run dr lf fr dfr dk wt : Nat} {od : Obj} {es : List DictEntry} {n0 n : Nat} {fs : List Value} {pl a b : Int} {L : Nat} {o7 : Obj} {dom : Int → Prop} {fA fW : Int → Int} {fd : Nat} {o8 : Obj} {tx : Str} {tt : Tok} {nt : Int}
    (X : (hd.heap_39 w.params).In H) (T : TopRead p loose mg mb H) (hz : ∀ q ∈ S, H.get? q.1 = some q.2) (hH : H.get? dk = none) (m1 : (lf, LCg.lst (fs ++ [Value.ref fr])) ∈ S) (hfs : fs.length ≤ 1000) (m5 : (run, instObj 91 dr) ∈ S) (m6 : (dr, od) ∈ S) (hl : lookIn "frames" od = some (some (.ref lf))) (m3 : (fr, instObj 157 dfr) ∈ S) (hE : FrE es pl wt dk) (m4 : PrAt H wt a b)
    (c7 : (L + 7, o7) ∈ S) (d7 : o7.data = .cell (some (.ref run))) (b1 : -1000000 ≤ pl) (b2 : pl ≤ 1000000) (b3 : -1000000 ≤ a) (b4 : a ≤ 1000000) (m2 : (dfr, dictOf es n0) ∈ S) (c8 : (L + 8, o8) ∈ S) (d8 : o8.data = .cell (some (.str tx tt))) (hx : (tx.length : Int) = nt) (hx2 : tx.length ≤ 1000) (hcl : CloP w S 5 fd [(Str.ofString "text", L + 8), (Str.ofString "run", L + 7)]) :
    WorkX w dom fA fW dk n fd (880 < pl + a + 4 + min (5 * nt) 500) H [] :=
  (read_w X T (hcl H hz) ⟨⟨o7, hz _ c7, d7⟩⟩ ⟨⟨o8, hz _ c8, d8⟩⟩ hx hx2 (rn_pool hz m1 hfs m5 m6 hl) (hE.at_ (hz _ m3) (hz _ m2)) m4 hH b1 b2 b3 b4).x
theorem beside_x {w : World} {H : Heap} {p : Program} {loose : List Str} {mg mb : Str → Option Value} {S : List (Addr × Obj)} {run dr lf fr dfr dk wt : Nat} {od : Obj} {es : List DictEntry} {n0 n : Nat} {fs : List Value} {pl a b : Int} {L : Nat} {o7 : Obj} {dom : Int → Prop} {fA fW : Int → Int} {wei cal : Str → Option Int} {lc fc fb cd : Nat} {xs : List Value} {wh k : Int} {th : Tok} {blk : Value} {lv : DL} {o5 o6 o9 : Obj}
    (X : (hd.heap_39 w.params).In H) (T : TopRead p loose mg mb H) (hz : ∀ q ∈ S, H.get? q.1 = some q.2) (hH : H.get? dk = none) (m1 : (lf, LCg.lst (fs ++ [Value.ref fr])) ∈ S) (hfs : fs.length ≤ 1000) (m5 : (run, instObj 91 dr) ∈ S) (m6 : (dr, od) ∈ S) (hl : lookIn "frames" od = some (some (.ref lf))) (m3 : (fr, instObj 157 dfr) ∈ S) (hE : FrE es pl wt dk) (m4 : PrAt H wt a b)
    (c7 : (L + 7, o7) ∈ S) (d7 : o7.data = .cell (some (.ref run))) (b1 : -1000000 ≤ pl) (b2 : pl ≤ 1000000) (b3 : -1000000 ≤ a) (b4 : a ≤ 1000000) (h3 : H.get? dfr = none) (hne : @Ne Nat dk dfr) (b7 : -1000000 ≤ b) (b8 : b ≤ 1000000) (b9 : -1000000 ≤ pl + b - a + 8) (b10 : pl + b - a + 8 ≤ 1000000) 
    (TW : TabI w H 136 wei) (TC : TabI w H 139 cal) (hwe : ∀ x i, wei x = some i → 0 ≤ i) (hca : ∀ x i, cal x = some i → 0 ≤ i)
    (c5 : (L + 5, o5) ∈ S) (d5 : o5.data = .cell (some (.ref fc))) (c6 : (L + 6, o6) ∈ S) (d6 : o6.data = .cell (some (.ref lc))) (c9 : (L + 9, o9) ∈ S) (d9 : o9.data = .cell (some (.int wh th))) (hlc : (lc, LCg.lst xs) ∈ S) (w0 : 0 ≤ wh) (w1 : wh < 10000) (hcs : xs[wh.toNat]? = some (.ref cd)) (hc : CdP S cd k blk) (hB : BlockL S blk lv) (hcl : CloP w S 2 fc [(Str.ofString "which", L + 9), (Str.ofString "run", L + 7), (Str.ofString "codes", L + 6)]) (hcb : CloP w S 3 fb [(Str.ofString "run", L + 7), (Str.ofString "called", L + 5)])
    (lo : (dk == sysModules) = false) (hn : n ≤ 1000) (hA : fA k = bwA wei cal lv) (hW : fW k = bwW wei cal lv) (hd : dom k) (b5 : 0 ≤ bwW wei cal lv) (b6 : bwW wei cal lv ≤ 1000000) :
    WorkX w dom fA fW dk n fb (880 < pl + b - a + 8 + a + 4 + bwW wei cal lv + 10) H [(dfr, dictOf es n0)] := by
  intro A outer s R ok q1 q2 q3 q4 q5 q6 q7 q8 q9 q10 q11 q12 q13 q14
  have z := q10 _ (.head _)
  obtain ⟨fo, _, _, _, _, _, _, f1, f2, _⟩ := (hcl H hz).ex
  have fnx : FnAt fc H := by
    obtain ⟨oc, od', da, sl⟩ := fo
    dsimp only at f2
    subst f2
    exact ⟨_, _, _, _, f1⟩
  refine beside_w X T (hcb H hz) ⟨⟨o7, hz _ c7, d7⟩⟩ ⟨⟨o5, hz _ c5, d5⟩⟩ (rn_pool hz m1 hfs m5 m6 hl) (hz _ m3) h3 hE m4 hH hne b1 b2 b3 b4 b7 b8 fnx (fun H' up hF hH' => called_w (X.keeps up) (T.keeps up) (TW.keeps up) (TC.keeps up) hwe hca ((hcl H hz).keeps up) (CellAt.keeps up ⟨⟨o7, hz _ c7, d7⟩⟩) (CellAt.keeps up ⟨⟨o6, hz _ c6, d6⟩⟩) (CellAt.keeps up ⟨⟨o9, hz _ c9, d9⟩⟩) ⟨_, up _ _ (hz _ hlc), rfl, _, rfl⟩ w0 w1 hcs ((rn_pool hz m1 hfs m5 m6 hl).keeps up) hF (m4.keeps up) ((hc H hz).keeps up) hB (fun q hq => up _ _ (hz q hq)) hH' lo hn hA hW hd (by omega) (by omega) b3 b4 b5 b6) q1 q2 q3 q4 q5 q6 q7 z.2 q8 q9 z.1 q11 q12 q13 q14
-- BdF
theorem item_pool1 {prog : Program} {w : World} {A : Around} {E : Value → Shared → Prop} {s : Shared} {h₀ : Heap} {L : Addr} {news : List (Addr × Obj)} {value slice : Expr} {a : Addr} {v1 : Value} {b : Int} {t2 u : Tok} {n : Nat} {Q : Value → Shared → Prop} (N : News h₀ L s.heap news) (ht : (a, pairO v1 b t2 n) ∈ news) (h : Q (.int b t2) s)
    (hs : subscripted slice false (.ref a) (.int 1 u) = operate [.ref a, .int 1 u] (getItem (.ref a) (.int 1 u)) := by with_unfolding_all rfl) :
    wpAny (model prog w) A (subscriptTail value slice (.ref a) (.int 1 u)) Q E s :=
  item_tupleT (j := 1) (News.isTup N ht) (by decide) (by decide) rfl rfl h hs
theorem last_pool {prog : Program} {w : World} {A : Around} {E : Value → Shared → Prop} {s : Shared} {h₀ : Heap} {L : Addr} {news : List (Addr × Obj)} {value slice : Expr} {a : Addr} {vs : List Value} {x : Value} {u : Tok} {Q : Value → Shared → Prop} (N : News h₀ L s.heap news) (ht : (a, LCg.lst (vs ++ [x])) ∈ news) (hz : vs.length ≤ 1000) (h : Q x s)
    (hs : subscripted slice false (.ref a) (.int (-1) u) = operate [.ref a, .int (-1) u] (getItem (.ref a) (.int (-1) u)) := by with_unfolding_all rfl) :
    wpAny (model prog w) A (subscriptTail value slice (.ref a) (.int (-1) u)) Q E s := by
  have hl : s.heap.IsList a (vs ++ [x]).toArray := ⟨_, (N _ ht).1, rfl, _, rfl⟩
  have hsz : (vs ++ [x]).toArray.size = vs.length + 1 := by rw [List.size_toArray, List.length_append, List.length_cons, List.length_nil]
  refine tail_any hl.typeIs slot_list_getitem.lookup (wpAny_getItem_list_neg hl (by decide) (by rw [hsz]; omega) (by decide) ?_ h) hs
  rw [hsz, show ((-1 : Int) + ((vs.length + 1 : Nat) : Int)).toNat = vs.length by omega]
  simp
theorem get_pl {w : World} {x dx wt dk : Addr} {es : List DictEntry} {n0 : Nat} {pl : Int} {h₀ : Heap} {L : Addr} {m : Str → Option Value} {news : List (Addr × Obj)} {A : Around} {E : Value → Shared → Prop} {s : Shared} {expr : Bool} {Q : Value → Shared → Prop} (F : Fr h₀ L s.heap m) (X₀ : (hd.heap_39 w.params).In h₀) (N : News h₀ L s.heap news) (h1 : (x, instObj 157 dx) ∈ news) (h2 : (dx, dictOf es n0) ∈ news) (hl : FrE es pl wt dk) (h : ∀ t, Q (.int pl t) { s with toks := s.toks + 1 }) :
    wpAny (model PySem.Challenge.rw_qz0087_01.row.prog w) A (getAttr (.ref x) "piled" expr) Q E s := by
  obtain ⟨tp, tl, e1, _⟩ := hl.ex
  have g : plainGet (hd.heap_39 w.params) 157 "piled" = true := by rfl
  have hh : hasDictIn (hd.heap_39 w.params) 157 = true := by rfl
  have ha : findIn (hd.heap_39 w.params) (.ref 157) "piled" = some none := by rfl
  have hn : noGet (hd.heap_39 w.params) none = true := by rfl
  exact get_value (X₀.keeps F.keep) ⟨(N _ h1).1, rfl, rfl, (N _ h2).1⟩ (plainGet_of g).1 (findObj_own hh ha hn (show lookIn "piled" (dictOf es n0) = some (some (.int pl tp)) from e1)) rfl (h tp)
theorem fn_of_clo {w : World} {S : List (Addr × Obj)} {k : Nat} {f : Addr} {cl : List (Str × Addr)} {H : Heap} (x : CloP w S k f cl) (hz : ∀ q ∈ S, H.get? q.1 = some q.2) : FnAt f H := by
  obtain ⟨fo, _, _, _, _, _, _, f1, f2, _⟩ := (x H hz).ex
  obtain ⟨oc, od', da, sl⟩ := fo
  dsimp only at f2
  subst f2
  exact ⟨_, _, _, _, f1⟩
example : True := by
  k_with "subscriptTail" => first | (k_here; (with_reducible show wpAny _ _ (subscriptTail _ _ (Value.ref _) (Value.int 1 _)) _ _ _); k_dflt (refine' item_pool1 ?Nzq ?mzq ?_; (case Nzq => k_asm); (case mzq => exact mem_in (by with_reducible assumption) (by k_all)); k_whole)) | fail "no"
  k_with "subscriptTail" => first | (k_here; (with_reducible show wpAny _ _ (subscriptTail _ _ (Value.ref _) (Value.int (-1) _)) _ _ _); k_dflt (refine' last_pool ?Nzq ?mzq ?zzq ?_; (case Nzq => k_asm); (case mzq => k_mem); (case zzq => with_reducible assumption); k_whole)) | fail "no"
  k_with "getAttr ref" => first | ((k_here; (with_reducible show wpAny _ _ (getAttr _ (Str.ofString "piled") _) _ _ _); k_dflt (refine' get_pl ?Fzq ?Xzq ?Nzq ?h1zq ?h2zq ?hlzq ?_; (case Fzq => k_asm); (case Xzq => k_asm); (case Nzq => k_asm); (case h1zq => exact mem_in (by with_reducible assumption) (by k_all)); (case h2zq => k_mem); (case hlzq => with_reducible assumption); k_whole); intro tpl'); (try (revert tpl'; intros))) | fail "no"
  trivial

set_option maxHeartbeats 8000000 in
theorem bodyF1 {w : World} {A : Around} {E : Value → Shared → Prop} {Q : Flow → Shared → Prop} {s : Shared} {h₀ : Heap} {L fa sa : Nat} {p : Program} {loose : List Str} {mg mb : Str → Option Value} {o1 o2 o3 o4 o5 o6 o7 o8 o9 ot : Obj} {rest : List Stmt} {wei cal : Str → Option Int} {run dr lf fr dfr dk wt lc lw fc cd u9 : Nat} {od ok : Obj} {es : List DictEntry} {n0 nn : Nat} {fs xs us : List Value} {lv : DL} {pi ab wb bd wh kk : Int} {tp ta tw tb th y1 y2 : Tok} {y3 : Nat} {dom : Int → Prop} {fA fW : Int → Int} {blk : Value} {W : List (Addr × Obj)} {m : Str → Option Value}
    (X : (hd.heap_39 w.params).In h₀) (T : TopRead p loose mg mb h₀) (hh : A.handled = none) (hroom : A.depth + 200 < recursionLimit) (hu : A.units + 800 < cLine) (lL : 292 < L) (TW : TabI w h₀ 136 wei) (TC : TabI w h₀ 139 cal) (hwe : ∀ x i, wei x = some i → 0 ≤ i) (hca : ∀ x i, cal x = some i → 0 ≤ i) (F : Fr h₀ L s.heap m) (N : News h₀ L s.heap ((dk, ok) :: (lf, LCg.lst (fs ++ [Value.ref fr])) :: (dfr, dictOf es n0) :: (L + 3, o3) :: (L + 5, o5) :: (L + 6, o6) :: (L + 7, o7) :: (L + 9, o9) ::  W)) (nd : ∀ b ∈ [lf, dfr, L + 3, L + 5, L + 6, L + 7, L + 9], @Ne Nat b dk) (ap : ∀ q ∈ W, ∀ p ∈ (dk, ok) :: (lf, LCg.lst (fs ++ [Value.ref fr])) :: (dfr, dictOf es n0) :: (L + 3, o3) :: (L + 5, o5) :: (L + 6, o6) :: (L + 7, o7) :: (L + 9, o9) ::  [], @Ne Nat q.1 p.1)
    (hfr : A.frames = some [lawE w fa L]) (hK : Kn w s.heap dom fA fW ok nn) (hnn : nn ≤ 900) (lo : (dk == sysModules) = false)
    (d3 : o3.data = .cell (some (.ref lw))) (d5 : o5.data = .cell (some (.ref fc))) (d6 : o6.data = .cell (some (.ref lc))) (d7 : o7.data = .cell (some (.ref run))) (d9 : o9.data = .cell (some (.int wh th)))
    (hlw : (lw, LCg.lst us) ∈ W) (w0 : 0 ≤ wh) (w1 : wh < 3) (hus : us[wh.toNat]? = some (.ref u9)) (hu9 : (u9, pairO (.int (bwA wei cal lv) y1) (bwW wei cal lv) y2 y3) ∈ W)
    (hfs : fs.length ≤ 1000) (m5 : (run, instObj 91 dr) ∈ W) (m6 : (dr, od) ∈ W) (hl : lookIn "frames" od = some (some (.ref lf))) (m3 : (fr, instObj 157 dfr) ∈ W) (hE : FrE es (pi + 880 - bd) wt dk) (m4 : WtP h₀ W wt ab wb)
    (hlc : (lc, LCg.lst xs) ∈ W) (hcs : xs[wh.toNat]? = some (.ref cd)) (hc : CdP W cd kk blk) (hB : BlockL W blk lv) (hcl : CloP w W 2 fc [(Str.ofString "which", L + 9), (Str.ofString "run", L + 7), (Str.ofString "codes", L + 6)])
    (hA : fA kk = bwA wei cal lv) (hW : fW kk = bwW wei cal lv) (hd : dom kk) (b5 : 0 ≤ bwW wei cal lv) (b6 : bwW wei cal lv ≤ 100000) (b1 : 0 ≤ pi) (b2 : pi ≤ 200000) (b3 : 0 ≤ ab) (b4 : ab ≤ 100000) (bd0 : 20 ≤ bd) (bd1 : bd ≤ 215)
    (mP : m (Str.ofString "piled") = some (.int pi tp)) (mW : m (Str.ofString "waits") = some (.int (pi + ab) tw)) (mB : m (Str.ofString "bound") = some (.int bd tb))
    (h : Hid (∀ h' tk ok bo, bo = decide (bd < pi + ab + 4 + bwW wei cal lv + 10) → Fr h₀ L h' (fun y => if y = Str.ofString "is_over" then some (.bool bo) else m y) → News h₀ L h' ((dk, ok) :: (lf, LCg.lst (fs ++ [Value.ref fr])) :: (dfr, dictOf es n0) :: (L + 3, o3) :: (L + 5, o5) :: (L + 6, o6) :: (L + 7, o7) :: (L + 9, o9) ::  W) → Kn w h' dom fA fW ok (nn + 1) → wpAny (model PySem.Challenge.rw_qz0087_01.row.prog w) A (execs rest (lawE w fa L)) Q E { s with heap := h', toks := tk })) :
    wpAny (model PySem.Challenge.rw_qz0087_01.row.prog w) A (execs (nthS (loopB w) 9 :: nthS (loopB w) 10 :: rest) (lawE w fa L)) Q E s := by
  have eE : lawE w fa L = envOfC (Str.ofString "law") (lawFd w).scope L fa (.ref 294) := rfl
  conv at eE in (FuncData.scope _) => whnf
  rw [eE]
  conv in (nthS _ 9) => whnf
  conv in (nthS _ 10) => whnf
  obtain ⟨R, NR, wr, apR, keepR⟩ := total (E := (dk, ok) :: (lf, LCg.lst (fs ++ [Value.ref fr])) :: (dfr, dictOf es n0) :: (L + 3, o3) :: (L + 5, o5) :: (L + 6, o6) :: (L + 7, o7) :: (L + 9, o9) ::  []) F N ap (zd (kn_nPr hK) list_nPr dict_nPr (cell_nPr d3) (zd (cell_nPr d5) (cell_nPr d6) (cell_nPr d7) (cell_nPr d9) (List.forall_mem_nil _)))
  clear N
  replace hlw := wr _ hlw
  replace hu9 := wr _ hu9
  replace m5 := wr _ m5
  replace m6 := wr _ m6
  replace m3 := wr _ m3
  replace m4 := m4.mono wr
  replace hlc := wr _ hlc
  replace hc := hc.mono wr
  replace hB := hB.mono wr
  replace hcl := hcl.mono wr
  simp only [List.cons_append, List.nil_append] at NR
  have ndk : ∀ q ∈ R, q.1 ≠ dk := fun q hq => apR q hq _ (.head _)
  k_steps
  rename_i h2 F2 N2
  have K2 := hK.pr (keepR h2 _ F2 (News.sub N2 (by k_all)))
  have kdk : ∀ q ∈ (lf, LCg.lst (fs ++ [Value.ref fr])) :: (dfr, dictOf es n0) :: (L + 3, o3) :: (L + 5, o5) :: (L + 6, o6) :: (L + 7, o7) :: (L + 9, o9) ::  R, q.1 ≠ dk := (by
    simp only [List.forall_mem_cons, List.not_mem_nil, false_imp_iff, implies_true, and_true] at nd
    exact zd nd.1 nd.2.1 nd.2.2.1 nd.2.2.2.1 (zc nd.2.2.2.2.1 (zc nd.2.2.2.2.2.1 (zc nd.2.2.2.2.2.2 ndk))))
  have U2 : UpdF dk ok ((dk, ok) :: (lf, LCg.lst (fs ++ [Value.ref fr])) :: (dfr, dictOf es n0) :: (L + 3, o3) :: (L + 5, o5) :: (L + 6, o6) :: (L + 7, o7) :: (L + 9, o9) ::  R) (fun ok => (dk, ok) :: (lf, LCg.lst (fs ++ [Value.ref fr])) :: (dfr, dictOf es n0) :: (L + 3, o3) :: (L + 5, o5) :: (L + 6, o6) :: (L + 7, o7) :: (L + 9, o9) ::  R) := UpdF.head kdk
  have hL0 : h₀.get? L = none := Heap.get?_none_of_le F2.above
  have hdk0 : h₀.get? dk = none := (N2 _ (.head _)).2.2
  have hl0 : ∀ b ∈ [dk, L], h₀.get? b = none := zc hdk0 (zc hL0 (List.forall_mem_nil _))
  have stH : h₀.StaysIn (hideAll h2 [dk, L]) := fun b o e => hideAll_get _ (F2.keep _ _ e) fun q => by rw [hl0 b q] at e; cases e
  have hz : ∀ q ∈ (lf, LCg.lst (fs ++ [Value.ref fr])) :: (dfr, dictOf es n0) :: (L + 3, o3) :: (L + 5, o5) :: (L + 6, o6) :: (L + 7, o7) :: (L + 9, o9) ::  R, (hideAll h2 [dk, L]).get? q.1 = some q.2 := fun q hq => hideAll_get _ (N2 q (.tail _ hq)).1 fun z => by
    rcases List.mem_cons.mp z with z | z
    · exact kdk q hq z
    · exact (N2 q (.tail _ hq)).2.1 (List.mem_singleton.mp z)
  refine died_l (l := [dk, L]) X T F2 N2 U2 hh (by omega) (by omega) hfr rfl rfl K2 (.head _) (ym1) hl0 (fn_of_clo hcl fun q hq => hz q (.tail _ (.tail _ (.tail _ (.tail _ (.tail _ (.tail _ (.tail _ hq)))))))) (Zx := []) (fun q hq => nomatch hq) (called_x (S := (lf, LCg.lst (fs ++ [Value.ref fr])) :: (dfr, dictOf es n0) :: (L + 3, o3) :: (L + 5, o5) :: (L + 6, o6) :: (L + 7, o7) :: (L + 9, o9) ::  R) (X.keeps stH) (T.keeps stH) hz (hideAll_none _ (.head _)) (by k_mem) hfs (mem_in m5 (by k_all)) (mem_in m6 (by k_all)) hl (mem_in m3 (by k_all)) hE (m4.on stH hz (by k_all)) (by k_mem) d7 (by omega) (by omega) (by omega) (by omega) (by k_mem) (TW.keeps stH) (TC.keeps stH) hwe hca (by k_mem) d6 (by k_mem) d9 (mem_in hlc (by k_all)) w0 (by omega) hcs (hc.mono (by k_all)) (hB.mono (by k_all)) (hcl.mono (by k_all)) lo (by omega) hA hW hd b5 (by omega)) fun h3 tk3 ok3 bv ebv F3 N3 K3 keep3 => ?_
  have ebo : bv = decide (bd < pi + ab + 4 + bwW wei cal lv + 10) := by
    cases bv with
    | true => exact (decide_eq_true (by have := ebv.mp rfl; omega)).symm
    | false => exact (decide_eq_false (fun q => by have := ebv.mpr (by omega); cases this)).symm
  clear F2 N2 U2 ebv
  have NW : Hid (News h₀ L h3 ((dk, ok3) :: (lf, LCg.lst (fs ++ [Value.ref fr])) :: (dfr, dictOf es n0) :: (L + 3, o3) :: (L + 5, o5) :: (L + 6, o6) :: (L + 7, o7) :: (L + 9, o9) ::  W)) := ⟨News.sub N3 (zd (by k_mem) (by k_mem) (by k_mem) (by k_mem) (zd (by k_mem) (by k_mem) (by k_mem) (by k_mem) (fun q hq => .tail _ (.tail _ (.tail _ (.tail _ (.tail _ (.tail _ (.tail _ (.tail _ (wr q hq)))))))))))⟩
  subst ebo
  k_steps
  all_goals first
    | (exfalso; rename_i a5; simp at a5; done)
    | (exfalso; omega)
    | (rw [← eE]
       have z6 := fun tk => h.out h3 tk ok3 _ rfl F3 NW.out K3
       dsimp only
       exact z6 _)
-- BdE
example : True := by
  k_with "call builtin:min" => first | ((k_here; (with_reducible show wpAny _ _ (call (Value.builtin _) [Value.int _ _, Value.int _ _]) _ _ _); k_dflt (refine' min2_K ?Fzq ?Nzq ?hzq ?_; (case Fzq => k_asm); (case Nzq => k_asm); (case hzq => assumption); k_whole); intro h' k' t' F' N'); (try (revert h' k' t' F' N'; intros))) | fail "no"
  trivial

set_option maxHeartbeats 8000000 in
theorem bodyE {w : World} {A : Around} {E : Value → Shared → Prop} {Q : Flow → Shared → Prop} {s : Shared} {h₀ : Heap} {L fa sa : Nat} {p : Program} {loose : List Str} {mg mb : Str → Option Value} {o1 o2 o3 o4 o5 o6 o7 o8 o9 ot : Obj} {rest : List Stmt} {W : List (Addr × Obj)} {m : Str → Option Value} {run dr dk lf fr dfr fd wt : Nat} {od ok : Obj} {es : List DictEntry} {n0 nn : Nat} {fs : List Value} {wy pi ab wb bd nt : Int} {ty tw tb tt : Tok} {tx : Str} {dom : Int → Prop} {fA fW : Int → Int}
    (X : (hd.heap_39 w.params).In h₀) (T : TopRead p loose mg mb h₀) (hh : A.handled = none) (hroom : A.depth + 200 < recursionLimit) (hu : A.units + 800 < cLine) (lL : 292 < L) (F : Fr h₀ L s.heap m) (N : News h₀ L s.heap ((dk, ok) :: (lf, LCg.lst (fs ++ [Value.ref fr])) :: (dfr, dictOf es n0) :: (L + 7, o7) :: (L + 8, o8) ::  W)) (nd : ∀ b ∈ [lf, dfr, L + 7, L + 8], @Ne Nat b dk) (ap : ∀ q ∈ W, ∀ p ∈ (dk, ok) :: (lf, LCg.lst (fs ++ [Value.ref fr])) :: (dfr, dictOf es n0) :: (L + 7, o7) :: (L + 8, o8) ::  [], @Ne Nat q.1 p.1)
    (hfr : A.frames = some [lawE w fa L]) (hK : Kn w s.heap dom fA fW ok nn) (d7 : o7.data = .cell (some (.ref run))) (d8 : o8.data = .cell (some (.str tx tt))) (hx : (tx.length : Int) = nt) (hx2 : tx.length ≤ 1000)
    (hfs : fs.length ≤ 1000) (m5 : (run, instObj 91 dr) ∈ W) (m6 : (dr, od) ∈ W) (hl : lookIn "frames" od = some (some (.ref lf))) (m3 : (fr, instObj 157 dfr) ∈ W) (hE : FrE es (pi + 880 - bd) wt dk) (m4 : WtP h₀ W wt ab wb)
    (hcl : CloP w W 5 fd [(Str.ofString "text", L + 8), (Str.ofString "run", L + 7)]) (b1 : 0 ≤ pi) (b2 : pi ≤ 200000) (b3 : 0 ≤ ab) (b4 : ab ≤ 100000) (bd0 : 20 ≤ bd) (bd1 : bd ≤ 215)
    (mY : m (Str.ofString "way") = some (.int wy ty)) (mR : m (Str.ofString "read") = some (.ref fd)) (mW : m (Str.ofString "waits") = some (.int (pi + ab) tw)) (mB : m (Str.ofString "bound") = some (.int bd tb))
    (hc : wy = 3 → Hid (∀ h' tk ok, Fr h₀ L h' m → News h₀ L h' ((dk, ok) :: (lf, LCg.lst (fs ++ [Value.ref fr])) :: (dfr, dictOf es n0) :: (L + 7, o7) :: (L + 8, o8) ::  W) → Kn w h' dom fA fW ok (nn + 1) → Q .cont { s with heap := h', toks := tk }))
    (h : wy ≠ 3 → Hid (∀ tk, wpAny (model PySem.Challenge.rw_qz0087_01.row.prog w) A (execs rest (lawE w fa L)) Q E { s with toks := tk })) :
    wpAny (model PySem.Challenge.rw_qz0087_01.row.prog w) A (execs (nthS (loopB w) 8 :: rest) (lawE w fa L)) Q E s := by
  have eE : lawE w fa L = envOfC (Str.ofString "law") (lawFd w).scope L fa (.ref 294) := rfl
  conv at eE in (FuncData.scope _) => whnf
  rw [eE]
  conv in (nthS _ 8) => whnf
  obtain ⟨R, NR, wr, apR, keepR⟩ := total (E := (dk, ok) :: (lf, LCg.lst (fs ++ [Value.ref fr])) :: (dfr, dictOf es n0) :: (L + 7, o7) :: (L + 8, o8) ::  []) F N ap (zd (kn_nPr hK) list_nPr dict_nPr (cell_nPr d7) (zc (cell_nPr d8) (List.forall_mem_nil _)))
  clear N
  replace m5 := wr _ m5
  replace m6 := wr _ m6
  replace m3 := wr _ m3
  replace m4 := m4.mono wr
  replace hcl := hcl.mono wr
  simp only [List.cons_append, List.nil_append] at NR
  have ndk : ∀ q ∈ R, q.1 ≠ dk := fun q hq => apR q hq _ (.head _)
  have kdk : ∀ q ∈ (lf, LCg.lst (fs ++ [Value.ref fr])) :: (dfr, dictOf es n0) :: (L + 7, o7) :: (L + 8, o8) ::  R, q.1 ≠ dk := (by
    simp only [List.forall_mem_cons, List.not_mem_nil, false_imp_iff, implies_true, and_true] at nd
    exact zd nd.1 nd.2.1 nd.2.2.1 nd.2.2.2 ndk)
  have F2 := F
  have N2 := NR
  k_steps
  · rename_i hw3
    have U2 : UpdF dk ok ((dk, ok) :: (lf, LCg.lst (fs ++ [Value.ref fr])) :: (dfr, dictOf es n0) :: (L + 7, o7) :: (L + 8, o8) ::  R) (fun ok => (dk, ok) :: (lf, LCg.lst (fs ++ [Value.ref fr])) :: (dfr, dictOf es n0) :: (L + 7, o7) :: (L + 8, o8) ::  R) := UpdF.head kdk
    have hL0 : h₀.get? L = none := Heap.get?_none_of_le F2.above
    have hdk0 : h₀.get? dk = none := (N2 _ (.head _)).2.2
    have hl0 : ∀ b ∈ [dk, L], h₀.get? b = none := zc hdk0 (zc hL0 (List.forall_mem_nil _))
    have stH : h₀.StaysIn (hideAll s.heap [dk, L]) := fun b o e => hideAll_get _ (F2.keep _ _ e) fun q => by rw [hl0 b q] at e; cases e
    have hz : ∀ q ∈ (lf, LCg.lst (fs ++ [Value.ref fr])) :: (dfr, dictOf es n0) :: (L + 7, o7) :: (L + 8, o8) ::  R, (hideAll s.heap [dk, L]).get? q.1 = some q.2 := fun q hq => hideAll_get _ (N2 q (.tail _ hq)).1 fun z => by
      rcases List.mem_cons.mp z with z | z
      · exact kdk q hq z
      · exact (N2 q (.tail _ hq)).2.1 (List.mem_singleton.mp z)
    refine died_l (l := [dk, L]) X T F2 N2 U2 hh (by omega) (by omega) hfr rfl rfl hK (.head _) (ym1) hl0 (fn_of_clo hcl fun q hq => hz q (.tail _ (.tail _ (.tail _ (.tail _ hq))))) (Zx := []) (fun q hq => nomatch hq) (read_x (S := (lf, LCg.lst (fs ++ [Value.ref fr])) :: (dfr, dictOf es n0) :: (L + 7, o7) :: (L + 8, o8) ::  R) (X.keeps stH) (T.keeps stH) hz (hideAll_none _ (.head _)) (by k_mem) hfs (mem_in m5 (by k_all)) (mem_in m6 (by k_all)) hl (mem_in m3 (by k_all)) hE (m4.on stH hz (by k_all)) (by k_mem) d7 (by omega) (by omega) (by omega) (by omega) (by k_mem) (by k_mem) d8 hx hx2 (hcl.mono (by k_all))) fun h3 tk3 ok3 bv ebv F3 N3 K3 keep3 => ?_
    subst hx
    have ebo : bv = decide (bd < pi + ab + 4 + min (5 * (tx.length : Int)) 500) := by
      cases bv with
      | true => exact (decide_eq_true (by have := ebv.mp rfl; omega)).symm
      | false => exact (decide_eq_false (fun q => by have := ebv.mpr (by omega); cases this)).symm
    obtain ⟨R3, NR3, wr3, apR3, keepR3⟩ := total (E := (dk, ok3) :: (lf, LCg.lst (fs ++ [Value.ref fr])) :: (dfr, dictOf es n0) :: (L + 7, o7) :: (L + 8, o8) ::  []) F3 N3 (fun q hq => zc (apR q hq (dk, ok) (.head _)) (fun p hp => apR q hq p (.tail _ hp))) (zd (kn_nPr K3) list_nPr dict_nPr (cell_nPr d7) (zc (cell_nPr d8) (List.forall_mem_nil _)))
    clear F2 N2 U2 ebv N3 F NR
    simp only [List.cons_append, List.nil_append] at NR3
    subst ebo
    k_steps
    · rename_i a5
      simp at a5
    · rename_i h5 k5 t5 F5 N5 a5
      have z6 := fun tk => (hc hw3).out h5 tk ok3 F5 (News.sub N5 (zd (by k_mem) (by k_mem) (by k_mem) (by k_mem) (zc (by k_mem) (fun q hq => .tail _ (.tail _ (.tail _ (.tail _ (.tail _ (wr3 q (wr q hq)))))))))) (K3.pr (keepR3 h5 _ F5 (News.sub N5 fun q hq => .tail _ (.tail _ (.tail _ (.tail _ (.tail _ hq)))))))
      dsimp only
      exact z6 _
  · rename_i hw
    rw [← eE]
    have z6 := fun tk => (h hw).out tk
    dsimp only
    exact z6 _
-- BdD

set_option maxHeartbeats 8000000 in
theorem bodyD {w : World} {A : Around} {E : Value → Shared → Prop} {Q : Flow → Shared → Prop} {s : Shared} {h₀ : Heap} {L fa sa : Nat} {p : Program} {loose : List Str} {mg mb : Str → Option Value} {o1 o2 o3 o4 o5 o6 o7 o8 o9 ot : Obj} {rest : List Stmt} {wei cal : Str → Option Int} {run dr lf fr dfr dk wt lc lw fc cd u9 : Nat} {od ok : Obj} {es : List DictEntry} {n0 nn : Nat} {fs xs us : List Value} {lv : DL} {pi ab wb bd wh kk : Int} {tp ta tw tb th y1 y2 : Tok} {y3 : Nat} {dom : Int → Prop} {fA fW : Int → Int} {blk : Value} {W : List (Addr × Obj)} {m : Str → Option Value} {fb : Nat} {wy : Int} {ty : Tok}
    (X : (hd.heap_39 w.params).In h₀) (T : TopRead p loose mg mb h₀) (hh : A.handled = none) (hroom : A.depth + 200 < recursionLimit) (hu : A.units + 800 < cLine) (lL : 292 < L) (TW : TabI w h₀ 136 wei) (TC : TabI w h₀ 139 cal) (hwe : ∀ x i, wei x = some i → 0 ≤ i) (hca : ∀ x i, cal x = some i → 0 ≤ i) (F : Fr h₀ L s.heap m) (N : News h₀ L s.heap ((dk, ok) :: (lf, LCg.lst (fs ++ [Value.ref fr])) :: (dfr, dictOf es n0) :: (L + 3, o3) :: (L + 5, o5) :: (L + 6, o6) :: (L + 7, o7) :: (L + 9, o9) ::  W)) (nd : ∀ b ∈ [lf, dfr, L + 3, L + 5, L + 6, L + 7, L + 9], @Ne Nat b dk) (ap : ∀ q ∈ W, ∀ p ∈ (dk, ok) :: (lf, LCg.lst (fs ++ [Value.ref fr])) :: (dfr, dictOf es n0) :: (L + 3, o3) :: (L + 5, o5) :: (L + 6, o6) :: (L + 7, o7) :: (L + 9, o9) ::  [], @Ne Nat q.1 p.1)
    (hfr : A.frames = some [lawE w fa L]) (hK : Kn w s.heap dom fA fW ok nn) (hnn : nn ≤ 900) (lo : (dk == sysModules) = false)
    (d3 : o3.data = .cell (some (.ref lw))) (d5 : o5.data = .cell (some (.ref fc))) (d6 : o6.data = .cell (some (.ref lc))) (d7 : o7.data = .cell (some (.ref run))) (d9 : o9.data = .cell (some (.int wh th)))
    (hlw : (lw, LCg.lst us) ∈ W) (w0 : 0 ≤ wh) (w1 : wh < 3) (hus : us[wh.toNat]? = some (.ref u9)) (hu9 : (u9, pairO (.int (bwA wei cal lv) y1) (bwW wei cal lv) y2 y3) ∈ W)
    (hfs : fs.length ≤ 1000) (m5 : (run, instObj 91 dr) ∈ W) (m6 : (dr, od) ∈ W) (hl : lookIn "frames" od = some (some (.ref lf))) (m3 : (fr, instObj 157 dfr) ∈ W) (hE : FrE es (pi + 880 - bd) wt dk) (m4 : WtP h₀ W wt ab wb)
    (hlc : (lc, LCg.lst xs) ∈ W) (hcs : xs[wh.toNat]? = some (.ref cd)) (hc : CdP W cd kk blk) (hB : BlockL W blk lv) (hcl : CloP w W 2 fc [(Str.ofString "which", L + 9), (Str.ofString "run", L + 7), (Str.ofString "codes", L + 6)])
    (hA : fA kk = bwA wei cal lv) (hW : fW kk = bwW wei cal lv) (hd : dom kk) (b5 : 0 ≤ bwW wei cal lv) (b6 : bwW wei cal lv ≤ 100000) (b1 : 0 ≤ pi) (b2 : pi ≤ 200000) (b3 : 0 ≤ ab) (b4 : ab ≤ 100000) (bd0 : 20 ≤ bd) (bd1 : bd ≤ 215)
    (mP : m (Str.ofString "piled") = some (.int pi tp)) (mH : m (Str.ofString "whole") = some (.int wb tw)) (mY : m (Str.ofString "way") = some (.int wy ty)) (mBs : m (Str.ofString "beside") = some (.ref fb)) (hcb : CloP w W 3 fb [(Str.ofString "run", L + 7), (Str.ofString "called", L + 5)]) (b7 : 0 ≤ wb) (b8 : wb ≤ 100000) (ndf : ∀ b ∈ [lf, L + 3, L + 5, L + 6, L + 7, L + 9], @Ne Nat b dfr) (mB : m (Str.ofString "bound") = some (.int bd tb))
    (hcn : wy = 2 → Hid (∀ h' tk ok tw, Fr h₀ L h' (fun y => if y = Str.ofString "waits" then some (.int (pi + wb + 8) tw) else m y) → News h₀ L h' ((dk, ok) :: (lf, LCg.lst (fs ++ [Value.ref fr])) :: (dfr, dictOf es n0) :: (L + 3, o3) :: (L + 5, o5) :: (L + 6, o6) :: (L + 7, o7) :: (L + 9, o9) ::  W) → Kn w h' dom fA fW ok (nn + 1) → Q .cont { s with heap := h', toks := tk }))
    (h : wy ≠ 2 → Hid (∀ tk, wpAny (model PySem.Challenge.rw_qz0087_01.row.prog w) A (execs rest (lawE w fa L)) Q E { s with toks := tk })) :
    wpAny (model PySem.Challenge.rw_qz0087_01.row.prog w) A (execs (nthS (loopB w) 7 :: rest) (lawE w fa L)) Q E s := by
  have eE : lawE w fa L = envOfC (Str.ofString "law") (lawFd w).scope L fa (.ref 294) := rfl
  conv at eE in (FuncData.scope _) => whnf
  rw [eE]
  conv in (nthS _ 7) => whnf
  obtain ⟨R, NR, wr, apR, keepR⟩ := total (E := (dk, ok) :: (lf, LCg.lst (fs ++ [Value.ref fr])) :: (dfr, dictOf es n0) :: (L + 3, o3) :: (L + 5, o5) :: (L + 6, o6) :: (L + 7, o7) :: (L + 9, o9) ::  []) F N ap (zd (kn_nPr hK) list_nPr dict_nPr (cell_nPr d3) (zd (cell_nPr d5) (cell_nPr d6) (cell_nPr d7) (cell_nPr d9) (List.forall_mem_nil _)))
  clear N
  replace hlw := wr _ hlw
  replace hu9 := wr _ hu9
  replace m5 := wr _ m5
  replace m6 := wr _ m6
  replace m3 := wr _ m3
  replace hlc := wr _ hlc
  replace m4 := m4.mono wr
  replace hc := hc.mono wr
  replace hB := hB.mono wr
  replace hcl := hcl.mono wr
  replace hcb := hcb.mono wr
  simp only [List.cons_append, List.nil_append] at NR
  have kdk : ∀ q ∈ (lf, LCg.lst (fs ++ [Value.ref fr])) :: (dfr, dictOf es n0) :: (L + 3, o3) :: (L + 5, o5) :: (L + 6, o6) :: (L + 7, o7) :: (L + 9, o9) ::  R, q.1 ≠ dk := (by
    simp only [List.forall_mem_cons, List.not_mem_nil, false_imp_iff, implies_true, and_true] at nd
    exact zd nd.1 nd.2.1 nd.2.2.1 nd.2.2.2.1 (zc nd.2.2.2.2.1 (zc nd.2.2.2.2.2.1 (zc nd.2.2.2.2.2.2 (fun q hq => apR q hq _ (.head _))))))
  have kdf : ∀ q ∈ (lf, LCg.lst (fs ++ [Value.ref fr])) :: (L + 3, o3) :: (L + 5, o5) :: (L + 6, o6) :: (L + 7, o7) :: (L + 9, o9) ::  R, q.1 ≠ dfr := (by
    simp only [List.forall_mem_cons, List.not_mem_nil, false_imp_iff, implies_true, and_true] at ndf
    exact zd ndf.1 ndf.2.1 ndf.2.2.1 ndf.2.2.2.1 (zc ndf.2.2.2.2.1 (zc ndf.2.2.2.2.2 (fun q hq => apR q hq (dfr, dictOf es n0) (ym2)))))
  have ndd : @Ne Nat dk dfr := fun e => kdk (dfr, dictOf es n0) (by k_mem) e.symm
  k_steps
  · rename_i hw2 h2 F2 N2
    have K2 := hK.pr (keepR h2 _ F2 (News.sub N2 (by k_all)))
    have U2 : UpdF dk ok ((dk, ok) :: (lf, LCg.lst (fs ++ [Value.ref fr])) :: (dfr, dictOf es n0) :: (L + 3, o3) :: (L + 5, o5) :: (L + 6, o6) :: (L + 7, o7) :: (L + 9, o9) ::  R) (fun ok => (dk, ok) :: (lf, LCg.lst (fs ++ [Value.ref fr])) :: (dfr, dictOf es n0) :: (L + 3, o3) :: (L + 5, o5) :: (L + 6, o6) :: (L + 7, o7) :: (L + 9, o9) ::  R) := UpdF.head kdk
    have hl0 : ∀ b ∈ [dk, dfr, L], h₀.get? b = none := zc ((N2 _ (.head _)).2.2) (zc ((N2 (dfr, dictOf es n0) (by k_mem)).2.2) (zc (Heap.get?_none_of_le F2.above) (List.forall_mem_nil _)))
    have stH : h₀.StaysIn (hideAll h2 [dk, dfr, L]) := fun b o e => hideAll_get _ (F2.keep _ _ e) fun q => by rw [hl0 b q] at e; cases e
    have sub2 : ∀ q ∈ (lf, LCg.lst (fs ++ [Value.ref fr])) :: (L + 3, o3) :: (L + 5, o5) :: (L + 6, o6) :: (L + 7, o7) :: (L + 9, o9) ::  R, q ∈ (lf, LCg.lst (fs ++ [Value.ref fr])) :: (dfr, dictOf es n0) :: (L + 3, o3) :: (L + 5, o5) :: (L + 6, o6) :: (L + 7, o7) :: (L + 9, o9) ::  R := fun q hq => by
      rcases List.mem_cons.mp hq with rfl | hq
      · exact .head _
      · exact .tail _ (.tail _ hq)
    have hz : ∀ q ∈ (lf, LCg.lst (fs ++ [Value.ref fr])) :: (L + 3, o3) :: (L + 5, o5) :: (L + 6, o6) :: (L + 7, o7) :: (L + 9, o9) ::  R, (hideAll h2 [dk, dfr, L]).get? q.1 = some q.2 := fun q hq => hideAll_get _ (N2 q (.tail _ (sub2 q hq))).1 fun z => by
      rcases List.mem_cons.mp z with z | z
      · exact kdk q (sub2 q hq) z
      · rcases List.mem_cons.mp z with z | z
        · exact kdf q hq z
        · exact (N2 q (.tail _ (sub2 q hq))).2.1 (List.mem_singleton.mp z)
    refine died_l (l := [dk, dfr, L]) X T F2 N2 U2 hh (by omega) (by omega) hfr rfl rfl K2 (.head _) (ym2) hl0 (fn_of_clo hcb fun q hq => hz q (.tail _ (.tail _ (.tail _ (.tail _ (.tail _ (.tail _ hq))))))) (Zx := [(dfr, dictOf es n0)]) (zc (⟨(N2 (dfr, dictOf es n0) (by k_mem)).1, (N2 (dfr, dictOf es n0) (by k_mem)).2.1, ndd.symm⟩) (List.forall_mem_nil _)) (beside_x (S := (lf, LCg.lst (fs ++ [Value.ref fr])) :: (L + 3, o3) :: (L + 5, o5) :: (L + 6, o6) :: (L + 7, o7) :: (L + 9, o9) ::  R) (X.keeps stH) (T.keeps stH) hz (hideAll_none _ (.head _)) (by k_mem) hfs (mem_in m5 (by k_all)) (mem_in m6 (by k_all)) hl (mem_in m3 (by k_all)) hE (m4.on stH hz (by k_all)) (by k_mem) d7 (by omega) (by omega) (by omega) (by omega) (hideAll_none _ (ym1)) ndd (by omega) (by omega) (by omega) (by omega) (TW.keeps stH) (TC.keeps stH) hwe hca (by k_mem) d5 (by k_mem) d6 (by k_mem) d9 (mem_in hlc (by k_all)) w0 (by omega) hcs (hc.mono (by k_all)) (hB.mono (by k_all)) (hcl.mono (by k_all)) (hcb.mono (by k_all)) lo (by omega) hA hW hd b5 (by omega)) fun h3 tk3 ok3 bv ebv F3 N3 K3 keep3 => ?_
    have ebo : bv = decide (bd < pi + wb + 8 + 4 + bwW wei cal lv + 10) := by
      cases bv with
      | true => exact (decide_eq_true (by have := ebv.mp rfl; omega)).symm
      | false => exact (decide_eq_false (fun q => by have := ebv.mpr (by omega); cases this)).symm
    clear F2 N2 U2 ebv
    have NW : Hid (News h₀ L h3 ((dk, ok3) :: (lf, LCg.lst (fs ++ [Value.ref fr])) :: (dfr, dictOf es n0) :: (L + 3, o3) :: (L + 5, o5) :: (L + 6, o6) :: (L + 7, o7) :: (L + 9, o9) ::  W)) := ⟨News.sub N3 (zd (by k_mem) (by k_mem) (by k_mem) (by k_mem) (zd (by k_mem) (by k_mem) (by k_mem) (by k_mem) (fun q hq => .tail _ (.tail _ (.tail _ (.tail _ (.tail _ (.tail _ (.tail _ (.tail _ (wr q hq)))))))))))⟩
    subst ebo
    k_steps
    · rename_i a5
      simp at a5
    · have z6 := fun tk => (hcn hw2).out h3 tk ok3 _ F3 NW.out K3
      dsimp only
      exact z6 _
  · rename_i hw
    rw [← eE]
    have z6 := fun tk => (h hw).out tk
    dsimp only
    exact z6 _
-- CfL
theorem prat_pr {h : Heap} {wt : Addr} {a b : Int} (x : PrAt h wt a b) : ∃ o, h.get? wt = some o ∧ isPr o := by
  obtain ⟨ta, tb, o, e, hc, n, hd⟩ := x.ex
  exact ⟨o, e, hc, _, _, hd⟩
theorem total2 {h₀ h : Heap} {L : Addr} {m : Str → Option Value} {E W : List (Addr × Obj)} (F : Fr h₀ L h m) (NE : News h₀ L h E) (NW : News h₀ L h W) (ap : ∀ q ∈ W, ∀ p ∈ E, @Ne Nat q.1 p.1) (hE : ∀ p ∈ E, ¬ isPr p.2) :
    ∃ R, News h₀ L h R ∧ (∀ q ∈ W, q ∈ R) ∧ (∀ q ∈ R, ∀ p ∈ E, @Ne Nat q.1 p.1) ∧ (∀ h' m', Fr h₀ L h' m' → News h₀ L h' R → ∀ b o, isPr o → h.get? b = some o → h'.get? b = some o) ∧ ∀ wt a b, PrAt h wt a b → WtP h₀ R wt a b := by
  have N : News h₀ L h (E ++ W) := fun p hp => (List.mem_append.mp hp).elim (NE p) (NW p)
  have key : ∀ b o, isPr o → h.get? b = some o → h₀.get? b = none → (b, o) ∈ restE h₀ h L (E.map (·.1)) := fun b o hp e z => by
    refine restE_mem.mpr ⟨e, fun q => ?_, fun hm => ?_, z⟩
    · obtain ⟨oL, es, ep, hL, hLd, _⟩ := F.ns
      rw [q, hL] at e; cases e
      obtain ⟨_, vs, n, hd⟩ := hp
      rw [hLd] at hd; cases hd
    · obtain ⟨p, hp', e'⟩ := List.mem_map.mp hm
      have n1 := (NE p hp').1
      rw [e', e] at n1; cases n1
      exact hE p hp' hp
  refine ⟨restE h₀ h L (E.map (·.1)), fun q hq => ?_, fun q hq => ?_, fun q hq p hp e => ?_, fun h' m' F' N' b o hp e => ?_, fun wt a b x H st hz => ?_⟩
  · obtain ⟨e1, e2, _, e4⟩ := restE_mem.mp (show (q.1, q.2) ∈ _ from hq)
    exact ⟨e1, e2, e4⟩
  · have n1 := NW q hq
    refine restE_mem.mpr ⟨n1.1, n1.2.1, fun hm => ?_, n1.2.2⟩
    obtain ⟨p, hp, e⟩ := List.mem_map.mp hm
    exact ap q hq p hp e.symm
  · exact (restE_mem.mp (show (q.1, q.2) ∈ _ from hq)).2.2.1 (List.mem_map.mpr ⟨p, hp, e.symm⟩)
  · cases z : h₀.get? b with
    | some o' => have k1 := F.keep _ _ z; rw [e] at k1; cases k1; exact F'.keep _ _ z
    | none => exact (N' (b, o) (key b o hp e z)).1
  · obtain ⟨ta, tb, o, e, hc, n, hd⟩ := x.ex
    cases z : h₀.get? wt with
    | some o' => have k1 := F.keep _ _ z; rw [e] at k1; cases k1; exact ⟨⟨ta, tb, o, st _ _ z, hc, n, hd⟩⟩
    | none => exact ⟨⟨ta, tb, o, hz _ (key wt o ⟨hc, _, _, hd⟩ e z), hc, n, hd⟩⟩
set_option maxHeartbeats 2000000 in
theorem cf_l {w : World} {A : Around} {E : Value → Shared → Prop} {s : Shared} {h₀ : Heap} {L : Addr} {m : Str → Option Value} {news : List (Addr × Obj)} {p : Program} {loose : List Str} {mg mb : Str → Option Value} {g : Obj → List (Addr × Obj)} {Q : Value → Shared → Prop}
    {wei cal : Str → Option Int} {run lf fr wt dk cd : Addr} {pl a b k : Int} {blk v1 v2 v3 : Value} {Z : List (Addr × Obj)} {lv : DL} {dom : Int → Prop} {fA fW : Int → Int} {ok : Obj} {n : Nat} {l : List Addr}
    (X : (hd.heap_39 w.params).In h₀) (T : TopRead p loose mg mb h₀) (TW : TabI w h₀ 136 wei) (TC : TabI w h₀ 139 cal) (hwe : ∀ x i, wei x = some i → 0 ≤ i) (hca : ∀ x i, cal x = some i → 0 ≤ i) (F : Fr h₀ L s.heap m) (N : News h₀ L s.heap news) (U : UpdF dk ok news g) (hh : A.handled = none) (hroom : A.depth + 170 < recursionLimit) (hu : A.units + 770 < cLine)
    (hK : Kn w s.heap dom fA fW ok n) (hdl : dk ∈ l) (hl : ∀ b ∈ l, h₀.get? b = none)
    (hr : RnAt (hideAll s.heap l) run lf fr) (hf : FrAt (hideAll s.heap l) fr pl wt dk) (hw : PrAt (hideAll s.heap l) wt a b) (hc : CdAt (hideAll s.heap l) cd k blk) (hB : BlockL Z blk lv) (hs : ∀ q ∈ Z, (hideAll s.heap l).get? q.1 = some q.2) (lo : (dk == sysModules) = false) (hn : n ≤ 1000) (hA : fA k = bwA wei cal lv) (hW : fW k = bwW wei cal lv) (hd : dom k)
    (b1 : -1000000 ≤ pl) (b2 : pl ≤ 1000000) (b3 : -1000000 ≤ a) (b4 : a ≤ 1000000)
    (h : ∀ (x dx : Nat) es n0 h' tk ok' (wt' : Nat), Fr h₀ L h' m → News h₀ L h' ((x, instObj 157 dx) :: (dx, dictOf es n0) :: g ok') → s.heap.get? x = none → s.heap.get? dx = none → @Ne Nat x dx → Kn w h' dom fA fW ok' (n + 1) → PrAt h' wt' (bwA wei cal lv) (bwW wei cal lv) → FrE es (pl + a + 4) wt' dk → Q (.ref x) { s with heap := h', toks := tk }) :
    wpAny (model PySem.Challenge.rw_qz0087_01.row.prog w) A (call (.ref 199) [.ref run, v1, v2, v3, .ref cd]) Q E s := by
  have hm : (dk, ok) ∈ news := by obtain ⟨pre, post, rfl, _⟩ := U.split; exact List.mem_append_right _ (.head _)
  have st : h₀.StaysIn (hideAll s.heap l) := fun b o e => hideAll_get _ (F.keep _ _ e) fun q => by rw [hl b q] at e; cases e
  have ndL : dk ≠ L := (N _ hm).2.1
  refine wpAny_call (cf_c (H := hideAll s.heap l) (fun b o e => of_hideAll _ e) (X.keeps st) (T.keeps st) (TW.keeps st) (TC.keeps st) hwe hca hh (by omega) (by omega) hr hf hw hc hB hs (N _ hm).1 (hideAll_none _ hdl) lo hK hn hA hW hd b1 b2 b3 b4 fun x dx es n0 h' tk ok' wt' kp e4 K' P' nx ndx xd gx gdx fe => ?_)
  have hL₀ : h₀.get? L = none := Heap.get?_none_of_le F.above
  have F' : Fr h₀ L h' m := ⟨ns_slots F.ns fun o e => ⟨o.slots, kp L o ndL.symm e⟩, fun b y e => kp b y (fun q => by rw [q, (N _ hm).2.2] at e; cases e) (F.keep b y e), F.above⟩
  have new0 : ∀ y : Addr, s.heap.get? y = none → y ≠ L ∧ h₀.get? y = none := fun y e => by
    constructor
    · intro q
      obtain ⟨oL, _, _, hL, _⟩ := F.ns
      rw [q, hL] at e; cases e
    · cases z : h₀.get? y with
      | none => rfl
      | some o => rw [F.keep _ _ z] at e; cases e
  refine h x dx es n0 h' tk ok' wt' F' ?_ nx ndx xd K' P' (by obtain ⟨tp, tl, e⟩ := fe; exact ⟨⟨tp, tl, e⟩⟩)
  refine zc (⟨gx, new0 _ nx⟩) (zc (⟨gdx, new0 _ ndx⟩) ?_)
  obtain ⟨pre, post, rfl, hg, h1, h2⟩ := U.split
  rw [hg]
  intro q hq
  rcases List.mem_append.mp hq with hq | hq
  · have n1 := N q (List.mem_append_left _ hq)
    exact ⟨kp _ _ (h1 q hq) n1.1, n1.2⟩
  · rcases List.mem_cons.mp hq with rfl | hq
    · exact ⟨e4, (N _ hm).2⟩
    · have n1 := N q (List.mem_append_right _ (.tail _ hq))
      exact ⟨kp _ _ (h2 q hq) n1.1, n1.2⟩
-- BdG
theorem PrAt.pr {h h' : Heap} {wt : Addr} {a b : Int} (x : PrAt h wt a b) (k : ∀ b o, isPr o → h.get? b = some o → h'.get? b = some o) : PrAt h' wt a b := by
  obtain ⟨ta, tb, o, e, hc, n, hd⟩ := x.ex
  exact ⟨⟨ta, tb, o, k _ _ ⟨hc, _, _, hd⟩ e, hc, n, hd⟩⟩
theorem isTup_pair {h₀ h : Heap} {L : Addr} {news : List (Addr × Obj)} {a : Addr} {v1 : Value} {b : Int} {t2 : Tok} {n : Nat} (N : News h₀ L h news) (hm : (a, pairO v1 b t2 n) ∈ news) : IsTup h a [v1, .int b t2].toArray := News.isTup N hm
example : True := by
  k_with "assign Tuple" => first | ((k_here; (with_reducible show wpAny _ _ (assign (Expr.Tuple _ _ _) _ (Value.ref _)) _ _ _); k_dflt (refine' unpackN_ ?k1zq ?k2zq ?k3zq ?k4zq ?k5zq ?k6zq ?_; (case k1zq => k_asm); (case k2zq => k_asm); (case k3zq => exact isTup_pair (by k_asm) (mem_in (by with_reducible assumption) (by k_all))); (case k4zq => assumption); (case k5zq => exact rfl); (case k6zq => exact rfl); k_whole); intro h' F' N'; (try k_sweep)); (try (revert h' F' N'; intros))) | fail "no"
  k_with "call builtin:list.append" => first | ((k_here; k_dflt (refine' append_L ?Fzq ?Nzq ?Uzq ?zzq ?_; (case Fzq => k_asm); (case Nzq => k_asm); (case Uzq => with_reducible assumption); (case zzq => with_reducible assumption); k_whole); intro h' F' N'); (try (revert h' F' N'; intros))) | fail "no"
  trivial

set_option maxHeartbeats 8000000 in
theorem bodyG {w : World} {A : Around} {E : Value → Shared → Prop} {Q : Flow → Shared → Prop} {s : Shared} {h₀ : Heap} {L fa sa : Nat} {p : Program} {loose : List Str} {mg mb : Str → Option Value} {o1 o2 o3 o4 o5 o6 o7 o8 o9 ot : Obj} {rest : List Stmt} {wei cal : Str → Option Int} {run dr lf fr dfr dk wt lc lw fc cd u9 : Nat} {od ok : Obj} {es : List DictEntry} {n0 nn : Nat} {fs xs us : List Value} {lv : DL} {pi ab wb bd wh kk : Int} {tp ta tw tb th y1 y2 : Tok} {y3 : Nat} {dom : Int → Prop} {fA fW : Int → Int} {blk : Value} {W : List (Addr × Obj)} {m : Str → Option Value} {bo : Bool}
    (X : (hd.heap_39 w.params).In h₀) (T : TopRead p loose mg mb h₀) (hh : A.handled = none) (hroom : A.depth + 200 < recursionLimit) (hu : A.units + 800 < cLine) (lL : 292 < L) (TW : TabI w h₀ 136 wei) (TC : TabI w h₀ 139 cal) (hwe : ∀ x i, wei x = some i → 0 ≤ i) (hca : ∀ x i, cal x = some i → 0 ≤ i) (F : Fr h₀ L s.heap m) (N : News h₀ L s.heap ((dk, ok) :: (lf, LCg.lst (fs ++ [Value.ref fr])) :: (dfr, dictOf es n0) :: (L + 3, o3) :: (L + 5, o5) :: (L + 6, o6) :: (L + 7, o7) :: (L + 9, o9) ::  W)) (nd : ∀ b ∈ [lf, dfr, L + 3, L + 5, L + 6, L + 7, L + 9], @Ne Nat b dk) (ap : ∀ q ∈ W, ∀ p ∈ (dk, ok) :: (lf, LCg.lst (fs ++ [Value.ref fr])) :: (dfr, dictOf es n0) :: (L + 3, o3) :: (L + 5, o5) :: (L + 6, o6) :: (L + 7, o7) :: (L + 9, o9) ::  [], @Ne Nat q.1 p.1)
    (hfr : A.frames = some [lawE w fa L]) (hK : Kn w s.heap dom fA fW ok nn) (hnn : nn ≤ 900) (lo : (dk == sysModules) = false)
    (d3 : o3.data = .cell (some (.ref lw))) (d5 : o5.data = .cell (some (.ref fc))) (d6 : o6.data = .cell (some (.ref lc))) (d7 : o7.data = .cell (some (.ref run))) (d9 : o9.data = .cell (some (.int wh th)))
    (hlw : (lw, LCg.lst us) ∈ W) (w0 : 0 ≤ wh) (w1 : wh < 3) (hus : us[wh.toNat]? = some (.ref u9)) (hu9 : (u9, pairO (.int (bwA wei cal lv) y1) (bwW wei cal lv) y2 y3) ∈ W)
    (hfs : fs.length ≤ 1000) (m5 : (run, instObj 91 dr) ∈ W) (m6 : (dr, od) ∈ W) (hl : lookIn "frames" od = some (some (.ref lf))) (m3 : (fr, instObj 157 dfr) ∈ W) (hE : FrE es (pi + 880 - bd) wt dk) (m4 : WtP h₀ W wt ab wb)
    (hlc : (lc, LCg.lst xs) ∈ W) (hcs : xs[wh.toNat]? = some (.ref cd)) (hc : CdP W cd kk blk) (hB : BlockL W blk lv) (hcl : CloP w W 2 fc [(Str.ofString "which", L + 9), (Str.ofString "run", L + 7), (Str.ofString "codes", L + 6)])
    (hA : fA kk = bwA wei cal lv) (hW : fW kk = bwW wei cal lv) (hd : dom kk) (b5 : 0 ≤ bwW wei cal lv) (b6 : bwW wei cal lv ≤ 100000) (b1 : 0 ≤ pi) (b2 : pi ≤ 200000) (b3 : 0 ≤ ab) (b4 : ab ≤ 100000) (bd0 : 20 ≤ bd) (bd1 : bd ≤ 215)
    (mP : m (Str.ofString "piled") = some (.int pi tp)) (mW : m (Str.ofString "waits") = some (.int (pi + ab) tw)) (mB : m (Str.ofString "bound") = some (.int bd tb)) (mO : m (Str.ofString "is_over") = some (.bool bo)) (nlf : ∀ b ∈ [dk, dfr, L + 3, L + 5, L + 6, L + 7, L + 9], @Ne Nat b lf)
    (ht : bo = true → Hid (∀ tk, wpAny (model PySem.Challenge.rw_qz0087_01.row.prog w) A (execs rest (lawE w fa L)) Q E { s with toks := tk }))
    (h : bo = false → Hid (∀ h' tk (x dx wt' : Nat) es' n' ok' t1 t2 t3, Fr h₀ L h' (fun y => if y = Str.ofString "whole" then some (.int (bwW wei cal lv) t3) else if y = Str.ofString "about" then some (.int (bwA wei cal lv) t2) else if y = Str.ofString "piled" then some (.int (pi + ab + 4) t1) else m y) → News h₀ L h' ((dk, ok') :: (lf, LCg.lst ((fs ++ [Value.ref fr]) ++ [Value.ref x])) :: (dx, dictOf es' n') :: (L + 3, o3) :: (L + 5, o5) :: (L + 6, o6) :: (L + 7, o7) :: (L + 9, o9) ::  (x, instObj 157 dx) :: W) → (∀ p ∈ (dk, ok) :: (lf, LCg.lst (fs ++ [Value.ref fr])) :: (dfr, dictOf es n0) :: (L + 3, o3) :: (L + 5, o5) :: (L + 6, o6) :: (L + 7, o7) :: (L + 9, o9) ::  W, @Ne Nat p.1 x) → (∀ p ∈ (dk, ok) :: (lf, LCg.lst (fs ++ [Value.ref fr])) :: (dfr, dictOf es n0) :: (L + 3, o3) :: (L + 5, o5) :: (L + 6, o6) :: (L + 7, o7) :: (L + 9, o9) ::  W, @Ne Nat p.1 dx) → @Ne Nat x dx → Kn w h' dom fA fW ok' (nn + 1) → PrAt h' wt' (bwA wei cal lv) (bwW wei cal lv) → FrE es' (pi + 880 - bd + ab + 4) wt' dk → wpAny (model PySem.Challenge.rw_qz0087_01.row.prog w) A (execs rest (lawE w fa L)) Q E { s with heap := h', toks := tk })) :
    wpAny (model PySem.Challenge.rw_qz0087_01.row.prog w) A (execs (nthS (loopB w) 11 :: rest) (lawE w fa L)) Q E s := by
  have eE : lawE w fa L = envOfC (Str.ofString "law") (lawFd w).scope L fa (.ref 294) := rfl
  conv at eE in (FuncData.scope _) => whnf
  rw [eE]
  conv in (nthS _ 11) => whnf
  have NW0 : Hid (News h₀ L s.heap W) := ⟨News.sub N fun q hq => .tail _ (.tail _ (.tail _ (.tail _ (.tail _ (.tail _ (.tail _ (.tail _ hq)))))))⟩
  obtain ⟨R, NR, wr, apR, keepR⟩ := total (E := (dk, ok) :: (lf, LCg.lst (fs ++ [Value.ref fr])) :: (dfr, dictOf es n0) :: (L + 3, o3) :: (L + 5, o5) :: (L + 6, o6) :: (L + 7, o7) :: (L + 9, o9) ::  []) F N ap (zd (kn_nPr hK) list_nPr dict_nPr (cell_nPr d3) (zd (cell_nPr d5) (cell_nPr d6) (cell_nPr d7) (cell_nPr d9) (List.forall_mem_nil _)))
  clear N
  replace hlw := wr _ hlw
  replace hu9 := wr _ hu9
  replace m5 := wr _ m5
  replace m6 := wr _ m6
  replace m3 := wr _ m3
  replace hlc := wr _ hlc
  replace m4 := m4.mono wr
  replace hc := hc.mono wr
  replace hB := hB.mono wr
  replace hcl := hcl.mono wr
  simp only [List.cons_append, List.nil_append] at NR
  have kdk : ∀ q ∈ (lf, LCg.lst (fs ++ [Value.ref fr])) :: (dfr, dictOf es n0) :: (L + 3, o3) :: (L + 5, o5) :: (L + 6, o6) :: (L + 7, o7) :: (L + 9, o9) ::  R, q.1 ≠ dk := (by
    simp only [List.forall_mem_cons, List.not_mem_nil, false_imp_iff, implies_true, and_true] at nd
    exact zd nd.1 nd.2.1 nd.2.2.1 nd.2.2.2.1 (zc nd.2.2.2.2.1 (zc nd.2.2.2.2.2.1 (zc nd.2.2.2.2.2.2 (fun q hq => apR q hq _ (.head _))))))
  cases bo with
  | true =>
    k_steps
    rw [← eE]
    exact (ht rfl).out s.toks
  | false =>
    k_steps
    rename_i l9 h2 F2 N2 lt9
    have K2 := hK.pr (keepR h2 _ F2 (News.sub N2 fun q hq => .tail _ (.tail _ (.tail _ (.tail _ (.tail _ (.tail _ (.tail _ (.tail _ (.tail _ hq))))))))))
    have N2' := News.sub N2 fun q hq => List.Mem.tail _ hq
    clear N2 lt9
    have U2 : UpdF dk ok ((dk, ok) :: (lf, LCg.lst (fs ++ [Value.ref fr])) :: (dfr, dictOf es n0) :: (L + 3, o3) :: (L + 5, o5) :: (L + 6, o6) :: (L + 7, o7) :: (L + 9, o9) ::  R) (fun ok => (dk, ok) :: (lf, LCg.lst (fs ++ [Value.ref fr])) :: (dfr, dictOf es n0) :: (L + 3, o3) :: (L + 5, o5) :: (L + 6, o6) :: (L + 7, o7) :: (L + 9, o9) ::  R) := UpdF.head kdk
    have hL0 : h₀.get? L = none := Heap.get?_none_of_le F2.above
    have hdk0 : h₀.get? dk = none := (N2' _ (.head _)).2.2
    have hl0 : ∀ b ∈ [dk, L], h₀.get? b = none := zc hdk0 (zc hL0 (List.forall_mem_nil _))
    have stH : h₀.StaysIn (hideAll h2 [dk, L]) := fun b o e => hideAll_get _ (F2.keep _ _ e) fun q => by rw [hl0 b q] at e; cases e
    have hz : ∀ q ∈ (lf, LCg.lst (fs ++ [Value.ref fr])) :: (dfr, dictOf es n0) :: (L + 3, o3) :: (L + 5, o5) :: (L + 6, o6) :: (L + 7, o7) :: (L + 9, o9) ::  R, (hideAll h2 [dk, L]).get? q.1 = some q.2 := fun q hq => hideAll_get _ (N2' q (.tail _ hq)).1 fun z => by
      rcases List.mem_cons.mp z with z | z
      · exact kdk q hq z
      · exact (N2' q (.tail _ hq)).2.1 (List.mem_singleton.mp z)
    refine cf_l (l := [dk, L]) (Z := (lf, LCg.lst (fs ++ [Value.ref fr])) :: (dfr, dictOf es n0) :: (L + 3, o3) :: (L + 5, o5) :: (L + 6, o6) :: (L + 7, o7) :: (L + 9, o9) ::  R) X T TW TC hwe hca F2 N2' U2 hh (by omega) (by omega) K2 (.head _) hl0 (rn_pool hz (by k_mem) hfs (mem_in m5 (by k_all)) (mem_in m6 (by k_all)) hl) (hE.at_ (hz _ (mem_in m3 (by k_all))) (hz (dfr, dictOf es n0) (by k_mem))) (m4.on stH hz (by k_all)) ((hc.mono (by k_all)) _ hz) (hB.mono (by k_all)) hz lo (by omega) hA hW hd (by omega) (by omega) (by omega) (by omega) fun x dx es3 n3 h3 tk3 ok3 wt3 F3 N3 nx ndx xd K3 P3 E3 => ?_
    (try dsimp only at N3)
    have off : ∀ y : Nat, h2.get? y = none → ∀ p ∈ (dk, ok) :: (lf, LCg.lst (fs ++ [Value.ref fr])) :: (dfr, dictOf es n0) :: (L + 3, o3) :: (L + 5, o5) :: (L + 6, o6) :: (L + 7, o7) :: (L + 9, o9) ::  R, @Ne Nat p.1 y := fun y hy p hp q => by
      have e := (N2' p hp).1
      rw [show p.1 = y from q, hy] at e; cases e
    have offx := off x nx
    have offd := off dx ndx
    clear off
    have ap3 : ∀ q ∈ (x, instObj 157 dx) :: R, ∀ p ∈ (dk, ok3) :: (lf, LCg.lst (fs ++ [Value.ref fr])) :: (dx, dictOf es3 n3) :: (L + 3, o3) :: (L + 5, o5) :: (L + 6, o6) :: (L + 7, o7) :: (L + 9, o9) ::  [], @Ne Nat q.1 p.1 := by
      intro q hq
      rcases List.mem_cons.mp hq with rfl | hq
      · exact zd ((offx (dk, ok) (by k_mem)).symm) ((offx (lf, _) (ym1)).symm) xd ((offx (L + 3, o3) (by k_mem)).symm) (zd ((offx (L + 5, o5) (by k_mem)).symm) ((offx (L + 6, o6) (by k_mem)).symm) ((offx (L + 7, o7) (by k_mem)).symm) ((offx (L + 9, o9) (by k_mem)).symm) (List.forall_mem_nil _))
      · have a := apR q hq
        exact zd (a (dk, ok) (by k_mem)) (a (lf, _) (ym1)) (offd q (.tail _ (.tail _ (.tail _ (.tail _ (.tail _ (.tail _ (.tail _ (.tail _ hq))))))))) (a (L + 3, o3) (by k_mem)) (zd (a (L + 5, o5) (by k_mem)) (a (L + 6, o6) (by k_mem)) (a (L + 7, o7) (by k_mem)) (a (L + 9, o9) (by k_mem)) (List.forall_mem_nil _))
    have NE3 : News h₀ L h3 ((dk, ok3) :: (lf, LCg.lst (fs ++ [Value.ref fr])) :: (dx, dictOf es3 n3) :: (L + 3, o3) :: (L + 5, o5) :: (L + 6, o6) :: (L + 7, o7) :: (L + 9, o9) ::  []) := News.sub N3 (zd (by k_mem) (by k_mem) (by k_mem) (by k_mem) (zd (by k_mem) (by k_mem) (by k_mem) (by k_mem) (List.forall_mem_nil _)))
    have NW3 : News h₀ L h3 ((x, instObj 157 dx) :: R) := News.sub N3 (zc (by k_mem) (fun q hq => .tail _ (.tail _ (.tail _ (.tail _ (.tail _ (.tail _ (.tail _ (.tail _ (.tail _ (.tail _ hq)))))))))))
    obtain ⟨R3, NR3, wr3, apR3, keepR3, wtR3⟩ := total2 F3 NE3 NW3 ap3 (zd (kn_nPr K3) list_nPr dict_nPr (cell_nPr d3) (zd (cell_nPr d5) (cell_nPr d6) (cell_nPr d7) (cell_nPr d9) (List.forall_mem_nil _)))
    have N4 : News h₀ L h3 ((dk, ok3) :: (lf, LCg.lst (fs ++ [Value.ref fr])) :: (dx, dictOf es3 n3) :: (L + 3, o3) :: (L + 5, o5) :: (L + 6, o6) :: (L + 7, o7) :: (L + 9, o9) ::  R3) := fun q hq => by
      rcases List.mem_append.mp (show q ∈ ((dk, ok3) :: (lf, LCg.lst (fs ++ [Value.ref fr])) :: (dx, dictOf es3 n3) :: (L + 3, o3) :: (L + 5, o5) :: (L + 6, o6) :: (L + 7, o7) :: (L + 9, o9) ::  []) ++ R3 from hq) with h | h
      · exact NE3 q h
      · exact NR3 q h
    replace hlw := wr3 _ (.tail _ hlw)
    replace hu9 := wr3 _ (.tail _ hu9)
    have wrW : ∀ q ∈ W, q ∈ R3 := fun q hq => wr3 q (.tail _ (wr q hq))
    have mx : (x, instObj 157 dx) ∈ R3 := wr3 _ (.head _)
    have lfA : ∀ p ∈ (dx, dictOf es3 n3) :: (L + 3, o3) :: (L + 5, o5) :: (L + 6, o6) :: (L + 7, o7) :: (L + 9, o9) :: R3, p.1 ≠ lf := by
      refine zd ((offd (lf, _) (ym1)).symm) (nlf _ (by simp)) (nlf _ (by simp)) (nlf _ (by simp)) (zc (nlf _ (by simp)) (zc (nlf _ (by simp)) (fun q hq => apR3 q hq (lf, _) (ym1))))
    have U9 : Upd lf (LCg.lst (fs ++ [Value.ref fr])) (LCg.lst ((fs ++ [Value.ref fr]) ++ [Value.ref x])) ((dk, ok3) :: (lf, LCg.lst (fs ++ [Value.ref fr])) :: (dx, dictOf es3 n3) :: (L + 3, o3) :: (L + 5, o5) :: (L + 6, o6) :: (L + 7, o7) :: (L + 9, o9) ::  R3) ((dk, ok3) :: (lf, LCg.lst ((fs ++ [Value.ref fr]) ++ [Value.ref x])) :: (dx, dictOf es3 n3) :: (L + 3, o3) :: (L + 5, o5) :: (L + 6, o6) :: (L + 7, o7) :: (L + 9, o9) ::  R3) := Upd.tail (nlf dk (by simp)) (Upd.head lfA)
    have hzl : (fs ++ [Value.ref fr]).length ≤ sizeLine := by rw [List.length_append, sizeLine_eq]; simp; omega
    have offxW : ∀ p ∈ (dk, ok) :: (lf, LCg.lst (fs ++ [Value.ref fr])) :: (dfr, dictOf es n0) :: (L + 3, o3) :: (L + 5, o5) :: (L + 6, o6) :: (L + 7, o7) :: (L + 9, o9) ::  W, @Ne Nat p.1 x := fun p hp => offx p (by
      rcases List.mem_append.mp (show p ∈ ((dk, ok) :: (lf, LCg.lst (fs ++ [Value.ref fr])) :: (dfr, dictOf es n0) :: (L + 3, o3) :: (L + 5, o5) :: (L + 6, o6) :: (L + 7, o7) :: (L + 9, o9) ::  []) ++ W from hp) with h | h
      · exact List.mem_append_left (bs := R) h
      · exact List.mem_append_right ((dk, ok) :: (lf, LCg.lst (fs ++ [Value.ref fr])) :: (dfr, dictOf es n0) :: (L + 3, o3) :: (L + 5, o5) :: (L + 6, o6) :: (L + 7, o7) :: (L + 9, o9) ::  []) (wr p h))
    have offdW : ∀ p ∈ (dk, ok) :: (lf, LCg.lst (fs ++ [Value.ref fr])) :: (dfr, dictOf es n0) :: (L + 3, o3) :: (L + 5, o5) :: (L + 6, o6) :: (L + 7, o7) :: (L + 9, o9) ::  W, @Ne Nat p.1 dx := fun p hp => offd p (by
      rcases List.mem_append.mp (show p ∈ ((dk, ok) :: (lf, LCg.lst (fs ++ [Value.ref fr])) :: (dfr, dictOf es n0) :: (L + 3, o3) :: (L + 5, o5) :: (L + 6, o6) :: (L + 7, o7) :: (L + 9, o9) ::  []) ++ W from hp) with h | h
      · exact List.mem_append_left (bs := R) h
      · exact List.mem_append_right ((dk, ok) :: (lf, LCg.lst (fs ++ [Value.ref fr])) :: (dfr, dictOf es n0) :: (L + 3, o3) :: (L + 5, o5) :: (L + 6, o6) :: (L + 7, o7) :: (L + 9, o9) ::  []) (wr p h))
    clear F2 N2' U2 N3 NE3 NW3 NR3 hz stH
    (try clear F)
    (try clear NR)
    (try clear NW0)
    k_steps
    rename_i F9 N9
    rw [← eE]
    have t8 : ∀ q ∈ R3, q ∈ (dk, ok3) :: (lf, LCg.lst ((fs ++ [Value.ref fr]) ++ [Value.ref x])) :: (dx, dictOf es3 n3) :: (L + 3, o3) :: (L + 5, o5) :: (L + 6, o6) :: (L + 7, o7) :: (L + 9, o9) ::  R3 := fun q hq => .tail _ (.tail _ (.tail _ (.tail _ (.tail _ (.tail _ (.tail _ (.tail _ hq)))))))
    have kp := keepR3 _ _ F9 (News.sub N9 t8)
    have z6 := fun tk => (h rfl).out _ tk x dx wt3 es3 n3 ok3 _ _ _ F9 (News.sub N9 (zd (by k_mem) (by k_mem) (by k_mem) (by k_mem) (zd (by k_mem) (by k_mem) (by k_mem) (by k_mem) (zc (t8 _ mx) (fun q hq => t8 q (wrW q hq)))))) offxW offdW xd (K3.pr kp) (P3.pr kp) E3
    dsimp only
    exact z6 _
-- CmpD
section
variable {prog : Program} {w : World} {A : Around} {E : Value → Shared → Prop} {s : Shared} {h₀ : Heap} {L : Addr} {m : Str → Option Value} {env : Env}
noncomputable def SrcD (prog : Program) (w : World) (A : Around) (h₀ : Heap) (L : Addr) (m : Str → Option Value) (env : Env) (ct elt : Expr) (x : Str) (scope : Scope) (cl : List (Str × Addr)) (Fin : Shared → List Value → List (Addr × Obj) → Prop) (xv : Value) (s₁ : Shared) : Prop :=
  ∃ d o kvs news, xv = .ref d ∧ A.handled = none ∧ Fr h₀ L s₁.heap m ∧ News h₀ L s₁.heap news ∧ (d, o) ∈ news ∧ o.IsDictOf (intKind prog w) kvs ∧ (d == sysModules) = false ∧ kvs.length ≤ sizeLine ∧
    ∀ s₂ : Shared, (∃ h, s₂ = { s₁ with heap := h }) → LCt.CompRestT prog w A h₀ L m env ct elt x scope cl s₂ (fun nw => (d, o) ∈ nw) (fun i v => ∃ k x, kvs[i]? = some (k, x) ∧ (intKind prog w).is k v = true) (Fin s₂) kvs.length 0 [] news
set_option maxHeartbeats 2000000 in
theorem ListComp_D {ct elt iter : Expr} {x : Str} {px : Pos} {scope : Scope} {cl : List (Str × Addr)} {pos : Pos} {Q : Value → Shared → Prop} (F₀ : Fr h₀ L s.heap m)
    (hclos : closureFor scope env = pure cl) (hcell : ∀ y ∈ scope.names, y.2 ≠ .cell) (hkind : scope.kind = .function)
    (hnames : ∀ y ∈ scope.names, y.2 = .local → scope.names.lookup y.1 = some .local) (hx : scope.names.lookup x = some .local)
    (h : wpAny (model prog w) A (eval iter env) (SrcD prog w A h₀ L m env ct elt x scope cl (fun s₂ => LCg.FinE h₀ L m s₂ Q)) E s)
    (hs : ∀ x, foldedSetIterable iter env x = pure x := by intro _; rfl) :
    wpAny (model prog w) A (eval (.ListComp elt [⟨.Name x px, iter, [ct], 0⟩] scope pos) env) Q E s := by
  rw [eval_ListComp]
  refine wpAny_comprehension_free (use := none) rfl hs hclos hkind hnames (wpAny_mono h (fun xv s₁ h₁ => ?_) fun _ _ e => e)
  obtain ⟨d, o, kvs, news, rfl, hh, F, N, hm, hd, lo, hsz, R⟩ := h₁
  obtain ⟨ep, hD⟩ := (Heap.dictOf_iff.mpr ⟨o, (N _ hm).1, hd⟩ : s₁.heap.DictOf (intKind prog w) d kvs).dictAt
  have hlt : d < s₁.heap.objs.size := Heap.lt_size (N _ hm).1
  refine wpAny_pyIter_dict lo hD ?_
  have up : ∀ b x, s₁.heap.get? b = some x → (s₁.heap.push { cls := .type "dict_keyiterator", data := .fields #[.ref d, .int 0 0, .int kvs.length 0, .int ep 0] }).get? b = some x := fun b x e => Heap.get?_push_of_some _ e
  have atd : ∀ (h' : Heap) nw, News h₀ L h' nw → (d, o) ∈ nw → h'.DictAt (intKind prog w) d kvs ep := fun h' nw N' hm' => by
    obtain ⟨o', es, ho, r⟩ := id hD
    have := (N _ hm).1
    rw [ho] at this; cases this
    exact ⟨_, es, (N' _ hm').1, r⟩
  refine LCt.block_T (S := fun nw => (d, o) ∈ nw) (Walks.dictKeys hh s₁.heap.objs.size d (Nat.ne_of_lt hlt) kvs ep) hsz (fun i h st => by obtain ⟨o, e, _⟩ := st.1; exact ⟨o, e⟩)
    (fun i h h' o nw st e e' k N' S' => ⟨by obtain ⟨o', q, r⟩ := st.1; rw [e] at q; cases q; exact ⟨o, e', r⟩, atd h' nw N' S'⟩) hcell hkind hx
    ⟨⟨_, Heap.get?_push_size _ rfl, rfl, rfl⟩, hD.push _⟩ (fun b hb => ?_)
    (F.keeps up) (N.grown up) (Nat.ne_of_lt F.ns.lt) (next_is_new F) (fun p hp => Nat.ne_of_lt (Heap.lt_size (N p hp).1)) hm (R _ ⟨_, rfl⟩) ?_
  · show b < (s₁.heap.push _).objs.size
    rw [Heap.size_push]
    rcases List.mem_cons.mp hb with rfl | hb
    · exact Nat.lt_succ_self _
    · rw [List.mem_singleton.mp hb]; exact Nat.lt_succ_of_lt hlt
  · intro D C h tk m' ys news' F' N' o1 hn hC₀ hD₀ hCL hDL hCD offC fin
    refine ⟨m', hn, fun h'' hs'' => fin D h'' tk (F'.change hs'' hCL hC₀) (fun p hp => ?_) o1⟩
    refine ⟨hs''.extBut _ _ ?_ (N' p hp).1, (N' p hp).2⟩
    rcases List.mem_cons.mp hp with rfl | hp
    · exact Ne.symm hCD
    · exact offC p hp
theorem int_key {prog : Program} {w : World} {k : Int} {v : Value} (h : (intKind prog w).is k v = true) : ∃ t, v = .int k t := by
  exact Value.isInt_shape h
end
-- SgI
theorem get_knw {w : World} {x dx wt dk : Addr} {es : List DictEntry} {n0 : Nat} {pl : Int} {h₀ : Heap} {L : Addr} {m : Str → Option Value} {news : List (Addr × Obj)} {A : Around} {E : Value → Shared → Prop} {s : Shared} {expr : Bool} {Q : Value → Shared → Prop} (F : Fr h₀ L s.heap m) (X₀ : (hd.heap_39 w.params).In h₀) (N : News h₀ L s.heap news) (h1 : (x, instObj 157 dx) ∈ news) (h2 : (dx, dictOf es n0) ∈ news) (hl : FrE es pl wt dk) (h : Q (.ref dk) { s with toks := s.toks + 1 }) :
    wpAny (model PySem.Challenge.rw_qz0087_01.row.prog w) A (getAttr (.ref x) "known" expr) Q E s := by
  obtain ⟨tp, tl, e1, e2, e3, _⟩ := hl.ex
  have g : plainGet (hd.heap_39 w.params) 157 "known" = true := by rfl
  have hh : hasDictIn (hd.heap_39 w.params) 157 = true := by rfl
  have ha : findIn (hd.heap_39 w.params) (.ref 157) "known" = some none := by rfl
  have hn : noGet (hd.heap_39 w.params) none = true := by rfl
  exact get_value (X₀.keeps F.keep) ⟨(N _ h1).1, rfl, rfl, (N _ h2).1⟩ (plainGet_of g).1 (findObj_own hh ha hn (show lookIn "known" (dictOf es n0) = some (some (.ref dk)) from e3)) rfl h
theorem pr_pool {h₀ h : Heap} {L : Addr} {news : List (Addr × Obj)} {u : Addr} {a b : Int} {t1 t2 : Tok} {n : Nat} (N : News h₀ L h news) (hm : (u, pairO (.int a t1) b t2 n) ∈ news) : PrAt h u a b := ⟨⟨t1, t2, _, (N _ hm).1, rfl, _, rfl⟩⟩
theorem pr_reads {h : Heap} {u : Addr} {a b : Int} (x : PrAt h u a b) : Reads h (.ref u) (.tuple [.int a, .int b]) [] := by
  obtain ⟨ta, tb, o, e, hc, n, hd⟩ := x.ex
  exact reads_tuple_at e hc hd (ReadsAll.cons (Reads.int _ _) (ReadsAll.cons (Reads.int _ _) ReadsAll.nil))
theorem ne_pairs {prog : Program} {w : World} {A : Around} {E : Value → Shared → Prop} {s : Shared} {u v : Addr} {a b : Int} {Q : Value → Shared → Prop} (x : PrAt s.heap u a b) (y : PrAt s.heap v a b) (hu : A.units + 64 < cLine) (h : Q (.bool false) s) :
    wpAny (model prog w) A (compareOp .NotEq (.ref u) (.ref v)) Q E s :=
  ne_dataH (pr_reads x) (pr_reads y) rfl rfl hu (by
    have : (!PyData.eqv (.tuple [.int a, .int b]) (.tuple [.int a, .int b])) = false := by simp [PyData.eqv, PyData.eqvAll]
    rw [this]; exact h)
theorem valueAt_mem {kvs : List (Int × Value)} {i : Nat} {k : Int} {v : Value} (hn : (kvs.map (·.1)).Nodup) (h : kvs[i]? = some (k, v)) : valueAt kvs k = some v := by
  unfold valueAt
  have hm : (k, v) ∈ kvs := List.mem_of_getElem? h
  induction kvs generalizing i with
  | nil => cases hm
  | cons q r ih =>
    rw [List.map_cons, List.nodup_cons] at hn
    rw [List.find?_cons]
    by_cases e : q.1 = k
    · simp only [e, decide_true]
      rcases List.mem_cons.mp hm with z | z
      · rw [← z]; rfl
      · exact absurd (List.mem_map.mpr ⟨(k, v), z, e.symm⟩) hn.1
    · simp only [e, decide_false]
      cases i with
      | zero => simp at h; rw [h] at e; exact absurd rfl e
      | succ j =>
        rcases List.mem_cons.mp hm with z | z
        · rw [← z] at e; exact absurd rfl e
        · exact ih hn.2 (by simpa using h) z
theorem IsDictOf.nodup {prog : Program} {w : World} {o : Obj} {kvs : List (Int × Value)} (h : o.IsDictOf (intKind prog w) kvs) : (kvs.map (·.1)).Nodup := by
  obtain ⟨es, ep, _, _, _, _, hn⟩ := h; exact hn
example : True := by
  k_with "getAttr ref" => first | (k_here; (with_reducible show wpAny _ _ (getAttr _ (Str.ofString "known") _) _ _ _); k_dflt (refine' get_knw ?Fzq ?Xzq ?Nzq ?h1zq ?h2zq ?hlzq ?_; (case Fzq => k_asm); (case Xzq => k_asm); (case Nzq => k_asm); (case h1zq => exact mem_in (by with_reducible assumption) (by k_all)); (case h2zq => k_mem); (case hlzq => with_reducible assumption); k_whole)) | fail "no"
  trivial

set_option maxHeartbeats 8000000 in
theorem segI1 {w : World} {A : Around} {E : Value → Shared → Prop} {Q : Flow → Shared → Prop} {s : Shared} {h₀ : Heap} {L fa sa : Nat} {p : Program} {loose : List Str} {mg mb : Str → Option Value} {o1 o2 o3 o4 o5 o6 o7 o8 o9 ot : Obj} {rest : List Stmt} {run dr lf fr dfr dk wt : Nat} {od ok : Obj} {es : List DictEntry} {n0 : Nat} {fs : List Value} {pl : Int} {W : List (Addr × Obj)} {m : Str → Option Value} {v4 : Option Value}
    (X : (hd.heap_39 w.params).In h₀) (T : TopRead p loose mg mb h₀) (hh : A.handled = none) (hroom : A.depth + 200 < recursionLimit) (hu : A.units + 800 < cLine) (lL : 292 < L) (F : Fr h₀ L s.heap m) (N : News h₀ L s.heap ((lf, LCg.lst (fs ++ [Value.ref fr])) :: (dfr, dictOf es n0) :: (L + 4, o4) :: (L + 7, o7) :: W)) (n4 : ∀ b ∈ [lf, dfr], @Ne Nat b (L + 4)) (ap : ∀ q ∈ W, @Ne Nat q.1 (L + 4))
    (d4 : o4.data = .cell v4) (d7 : o7.data = .cell (some (.ref run))) (hfs : fs.length ≤ 1000) (m5 : (run, instObj 91 dr) ∈ W) (m6 : (dr, od) ∈ W) (hl : lookIn "frames" od = some (some (.ref lf))) (m3 : (fr, instObj 157 dfr) ∈ W) (hE : FrE es pl wt dk)
    (h : Hid (∀ h' tk ob, Fr h₀ L h' m → News h₀ L h' ((lf, LCg.lst (fs ++ [Value.ref fr])) :: (dfr, dictOf es n0) :: (L + 4, ob) :: (L + 7, o7) :: W) → ob.data = .cell (some (.ref dk)) → wpAny (model PySem.Challenge.rw_qz0087_01.row.prog w) A (execs rest (lawE w fa L)) Q E { s with heap := h', toks := tk })) :
    wpAny (model PySem.Challenge.rw_qz0087_01.row.prog w) A (execs (nthS (lawB w) 14 :: rest) (lawE w fa L)) Q E s := by
  have eE : lawE w fa L = envOfC (Str.ofString "law") (lawFd w).scope L fa (.ref 294) := rfl
  conv at eE in (FuncData.scope _) => whnf
  rw [eE]
  conv in (nthS _ 14) => whnf
  have ap' : ∀ q ∈ W, q.1 ≠ L + 4 := ap
  simp only [List.forall_mem_cons, List.not_mem_nil, false_imp_iff, implies_true, and_true] at n4
  k_steps
  rename_i h9 ob F9 N9 d9
  rw [← eE]
  have z6 := fun tk => h.out h9 tk ob F9 N9 d9
  dsimp only
  exact z6 _
example : True := by
  k_with "eval ListComp" => first | (k_here; k_dflt (refine' ListComp_D ?Fzq ?k1zq ?k2zq ?k3zq ?k4zq ?k5zq ?_ ?k6zq; (case Fzq => k_asm); (case k1zq => rfl); (case k2zq => decide); (case k3zq => rfl); (case k4zq => decide); (case k5zq => rfl); (case k6zq => intro _; rfl))) | fail "no"
  k_with "subscriptTail" => first | (k_here; k_dflt (refine' sub_int ?Nzq ?mzq ?dzq ?vzq ?_ ; (case Nzq => k_asm); (case mzq => k_mem); (case dzq => with_reducible assumption); (case vzq => with_reducible assumption); k_whole)) | fail "no"
  trivial

set_option maxHeartbeats 8000000 in
theorem segI2 {w : World} {A : Around} {E : Value → Shared → Prop} {Q : Flow → Shared → Prop} {s : Shared} {h₀ : Heap} {L fa sa : Nat} {p : Program} {loose : List Str} {mg mb : Str → Option Value} {o1 o2 o3 o4 o5 o6 o7 o8 o9 ot : Obj} {rest : List Stmt} {dk lw : Nat} {ok : Obj} {nn : Nat} {us : List Value} {dom : Int → Prop} {fA fW : Int → Int} {W : List (Addr × Obj)} {m : Str → Option Value}
    (X : (hd.heap_39 w.params).In h₀) (T : TopRead p loose mg mb h₀) (hh : A.handled = none) (hroom : A.depth + 200 < recursionLimit) (hu : A.units + 800 < cLine) (lL : 292 < L) (F : Fr h₀ L s.heap m) (N : News h₀ L s.heap ((dk, ok) :: (L + 3, o3) :: (L + 4, o4) :: W)) (ap : ∀ q ∈ W, ∀ p ∈ (dk, ok) :: (L + 3, o3) :: (L + 4, o4) :: [], @Ne Nat q.1 p.1)
    (hK : Kn w s.heap dom fA fW ok nn) (hnn : nn ≤ 900) (lo : (dk == sysModules) = false) (d3 : o3.data = .cell (some (.ref lw))) (d4 : o4.data = .cell (some (.ref dk)))
    (hlw : (lw, LCg.lst us) ∈ W) (hus : us.length ≤ 3) (hU : ∀ k, dom k → 7 ≤ k ∧ k < 7 + (us.length : Int) ∧ ∃ (u : Nat) (t1 t2 : Tok) (t3 : Nat), us[(k - 7).toNat]? = some (.ref u) ∧ (u, pairO (.int (fA k) t1) (fW k) t2 t3) ∈ W)
    (hq : ∀ h' tk, Fr h₀ L h' m → News h₀ L h' W → Q (.ret (.bool true)) { s with heap := h', toks := tk }) :
    wpAny (model PySem.Challenge.rw_qz0087_01.row.prog w) A (execs (nthS (lawB w) 15 :: []) (lawE w fa L)) Q E s := by
  have eE : lawE w fa L = envOfC (Str.ofString "law") (lawFd w).scope L fa (.ref 294) := rfl
  conv at eE in (FuncData.scope _) => whnf
  rw [eE]
  conv in (nthS _ 15) => whnf
  obtain ⟨kvs, k1, k2, k3⟩ := hK.ex
  have hN : ∀ p ∈ (dk, ok) :: (L + 3, o3) :: (L + 4, o4) :: [], (p ∈ (dk, ok) :: (L + 3, o3) :: (L + 4, o4) :: W) := (by k_all)
  obtain ⟨R, NR, wr, apR, keepR, wtR⟩ := total2 (E := (dk, ok) :: (L + 3, o3) :: (L + 4, o4) :: []) F (News.sub N hN) (News.sub N fun q hq => .tail _ (.tail _ (.tail _ hq))) ap (zc (kn_nPr hK) (zc (cell_nPr d3) (zc (cell_nPr d4) (List.forall_mem_nil _))))
  have k4 : ∀ k v, (k, v) ∈ kvs → dom k ∧ ∃ a, v = .ref a ∧ WtP h₀ R a (fA k) (fW k) := fun k v hm => by
    obtain ⟨c1, a, e, q⟩ := k3 k v hm
    exact ⟨c1, a, e, wtR _ _ _ q⟩
  have N0 : News h₀ L s.heap ((dk, ok) :: (L + 3, o3) :: (L + 4, o4) :: R) := fun q hq => by
    rcases List.mem_cons.mp hq with rfl | hq
    · exact N _ (.head _)
    · rcases List.mem_cons.mp hq with rfl | hq
      · exact N _ (ym1)
      · rcases List.mem_cons.mp hq with rfl | hq
        · exact N _ (ym2)
        · exact NR q hq
  have F0 := F
  clear N NR
  k_steps
  refine ⟨dk, ok, kvs, _, rfl, hh, F0, N0, .head _, k1, lo, Nat.le_trans k2 (Nat.le_trans hnn (by decide)), ?_⟩
  rintro s2 ⟨g', rfl⟩
  clear F0 N0
  (try clear F)
  refine restT_ind (n := kvs.length) (fun _ ys news => ys = [] ∧ news = (dk, ok) :: (L + 3, o3) :: (L + 4, o4) :: R) ?turn ?fin _ 0 [] _ (Nat.zero_add _) ⟨rfl, rfl⟩
  case turn =>
    intro i xs news hi1 hI v I oI C oC D m₂ h tk E' hP hoC hx F N off ne
    obtain ⟨rfl, rfl⟩ := hI
    obtain ⟨ne1, ne2, ne3⟩ := ne
    have off0 := off
    obtain ⟨k, v1, hkv, hv⟩ := hP
    obtain ⟨tk9, rfl⟩ := int_key hv
    obtain ⟨hdk, a, rfl, hWt9⟩ := k4 k v1 (List.mem_of_getElem? hkv)
    have hva := valueAt_mem (IsDictOf.nodup k1) hkv
    obtain ⟨c7, c8, u, t1, t2, t3, hu1, hu2⟩ := hU k hdk
    replace hu2 := wr _ hu2
    replace hlw := wr _ hlw
    have hzR : ∀ q ∈ R, h.get? q.1 = some q.2 := fun q hq => (N q (.tail _ (.tail _ (.tail _ (.tail _ (.tail _ (.tail _ hq))))))).1
    have offa23 := zoffI off
    have offb23 := zoffC off
    have offc23 := zoffD off
    simp only [LCg.Off3] at off
    k_steps
    refine ne_pairs (hWt9 _ F.keep hzR) (pr_pool N (.tail _ (.tail _ (.tail _ (.tail _ (.tail _ (.tail _ hu2))))))) (by omega) ?_
    k_steps
    exact LCg.CompEnd.intro F N ((dk, ok) :: (L + 3, o3) :: (L + 4, o4) :: R) (fun p hp => hp) off0 (.head _) ⟨rfl, rfl⟩
  case fin =>
    intro xs news hI
    obtain ⟨rfl, rfl⟩ := hI
    unfold LCg.FinE
    intro D2 h3 tk3 F3 N3 o3'
    have offd24 := zoff1 o3'
    simp only [LCg.Off1] at o3'
    dsimp only
    k_steps
    rename_i l9 h9 F9 N9 lt9
    exact hq h9 _ F9 (News.sub N9 fun q hq => .tail _ (.tail _ (.tail _ (.tail _ (.tail _ (wr q hq))))))
-- Turn
theorem zm0 {α : Type} {a : α} {l : List α} : a ∈ a :: l := .head _
theorem zm1 {α : Type} {a b0 : α} {l : List α} : a ∈ b0 :: a :: l := ym1
theorem zm2 {α : Type} {a b0 b1 : α} {l : List α} : a ∈ b0 :: b1 :: a :: l := ym2
theorem zm3 {α : Type} {a b0 b1 b2 : α} {l : List α} : a ∈ b0 :: b1 :: b2 :: a :: l := ym3
theorem zm4 {α : Type} {a b0 b1 b2 b3 : α} {l : List α} : a ∈ b0 :: b1 :: b2 :: b3 :: a :: l := ym4
theorem zm5 {α : Type} {a b0 b1 b2 b3 b4 : α} {l : List α} : a ∈ b0 :: b1 :: b2 :: b3 :: b4 :: a :: l := ym5
theorem zm6 {α : Type} {a b0 b1 b2 b3 b4 b5 : α} {l : List α} : a ∈ b0 :: b1 :: b2 :: b3 :: b4 :: b5 :: a :: l := ym6
theorem zm7 {α : Type} {a b0 b1 b2 b3 b4 b5 b6 : α} {l : List α} : a ∈ b0 :: b1 :: b2 :: b3 :: b4 :: b5 :: b6 :: a :: l := ym7
theorem zm8 {α : Type} {a b0 b1 b2 b3 b4 b5 b6 b7 : α} {l : List α} : a ∈ b0 :: b1 :: b2 :: b3 :: b4 :: b5 :: b6 :: b7 :: a :: l := ym8
theorem zm9 {α : Type} {a b0 b1 b2 b3 b4 b5 b6 b7 b8 : α} {l : List α} : a ∈ b0 :: b1 :: b2 :: b3 :: b4 :: b5 :: b6 :: b7 :: b8 :: a :: l := ym9
theorem zm10 {α : Type} {a b0 b1 b2 b3 b4 b5 b6 b7 b8 b9 : α} {l : List α} : a ∈ b0 :: b1 :: b2 :: b3 :: b4 :: b5 :: b6 :: b7 :: b8 :: b9 :: a :: l := ym10
theorem zm11 {α : Type} {a b0 b1 b2 b3 b4 b5 b6 b7 b8 b9 b10 : α} {l : List α} : a ∈ b0 :: b1 :: b2 :: b3 :: b4 :: b5 :: b6 :: b7 :: b8 :: b9 :: b10 :: a :: l := ym11
theorem zm12 {α : Type} {a b0 b1 b2 b3 b4 b5 b6 b7 b8 b9 b10 b11 : α} {l : List α} : a ∈ b0 :: b1 :: b2 :: b3 :: b4 :: b5 :: b6 :: b7 :: b8 :: b9 :: b10 :: b11 :: a :: l := ym12
theorem zm13 {α : Type} {a b0 b1 b2 b3 b4 b5 b6 b7 b8 b9 b10 b11 b12 : α} {l : List α} : a ∈ b0 :: b1 :: b2 :: b3 :: b4 :: b5 :: b6 :: b7 :: b8 :: b9 :: b10 :: b11 :: b12 :: a :: l := ym13
theorem zm14 {α : Type} {a b0 b1 b2 b3 b4 b5 b6 b7 b8 b9 b10 b11 b12 b13 : α} {l : List α} : a ∈ b0 :: b1 :: b2 :: b3 :: b4 :: b5 :: b6 :: b7 :: b8 :: b9 :: b10 :: b11 :: b12 :: b13 :: a :: l := ym14
theorem zm15 {α : Type} {a b0 b1 b2 b3 b4 b5 b6 b7 b8 b9 b10 b11 b12 b13 b14 : α} {l : List α} : a ∈ b0 :: b1 :: b2 :: b3 :: b4 :: b5 :: b6 :: b7 :: b8 :: b9 :: b10 :: b11 :: b12 :: b13 :: b14 :: a :: l := ym15
theorem zm16 {α : Type} {a b0 b1 b2 b3 b4 b5 b6 b7 b8 b9 b10 b11 b12 b13 b14 b15 : α} {l : List α} : a ∈ b0 :: b1 :: b2 :: b3 :: b4 :: b5 :: b6 :: b7 :: b8 :: b9 :: b10 :: b11 :: b12 :: b13 :: b14 :: b15 :: a :: l := .tail _ (ym15)
theorem zt1 {α : Type} {a b0 : α} {l : List α} (h : a ∈ l) : a ∈ b0 :: l := .tail _ (h)
theorem zt2 {α : Type} {a b0 b1 : α} {l : List α} (h : a ∈ l) : a ∈ b0 :: b1 :: l := .tail _ (.tail _ (h))
theorem zt3 {α : Type} {a b0 b1 b2 : α} {l : List α} (h : a ∈ l) : a ∈ b0 :: b1 :: b2 :: l := .tail _ (.tail _ (.tail _ (h)))
theorem zt4 {α : Type} {a b0 b1 b2 b3 : α} {l : List α} (h : a ∈ l) : a ∈ b0 :: b1 :: b2 :: b3 :: l := .tail _ (.tail _ (.tail _ (.tail _ (h))))
theorem zt5 {α : Type} {a b0 b1 b2 b3 b4 : α} {l : List α} (h : a ∈ l) : a ∈ b0 :: b1 :: b2 :: b3 :: b4 :: l := .tail _ (.tail _ (.tail _ (.tail _ (.tail _ (h)))))
theorem zt6 {α : Type} {a b0 b1 b2 b3 b4 b5 : α} {l : List α} (h : a ∈ l) : a ∈ b0 :: b1 :: b2 :: b3 :: b4 :: b5 :: l := .tail _ (.tail _ (.tail _ (.tail _ (.tail _ (.tail _ (h))))))
theorem zt7 {α : Type} {a b0 b1 b2 b3 b4 b5 b6 : α} {l : List α} (h : a ∈ l) : a ∈ b0 :: b1 :: b2 :: b3 :: b4 :: b5 :: b6 :: l := .tail _ (.tail _ (.tail _ (.tail _ (.tail _ (.tail _ (.tail _ (h)))))))
theorem zt8 {α : Type} {a b0 b1 b2 b3 b4 b5 b6 b7 : α} {l : List α} (h : a ∈ l) : a ∈ b0 :: b1 :: b2 :: b3 :: b4 :: b5 :: b6 :: b7 :: l := .tail _ (.tail _ (.tail _ (.tail _ (.tail _ (.tail _ (.tail _ (.tail _ (h))))))))
theorem zt9 {α : Type} {a b0 b1 b2 b3 b4 b5 b6 b7 b8 : α} {l : List α} (h : a ∈ l) : a ∈ b0 :: b1 :: b2 :: b3 :: b4 :: b5 :: b6 :: b7 :: b8 :: l := .tail _ (.tail _ (.tail _ (.tail _ (.tail _ (.tail _ (.tail _ (.tail _ (.tail _ (h)))))))))
theorem zt10 {α : Type} {a b0 b1 b2 b3 b4 b5 b6 b7 b8 b9 : α} {l : List α} (h : a ∈ l) : a ∈ b0 :: b1 :: b2 :: b3 :: b4 :: b5 :: b6 :: b7 :: b8 :: b9 :: l := .tail _ (.tail _ (.tail _ (.tail _ (.tail _ (.tail _ (.tail _ (.tail _ (.tail _ (.tail _ (h))))))))))
theorem zt11 {α : Type} {a b0 b1 b2 b3 b4 b5 b6 b7 b8 b9 b10 : α} {l : List α} (h : a ∈ l) : a ∈ b0 :: b1 :: b2 :: b3 :: b4 :: b5 :: b6 :: b7 :: b8 :: b9 :: b10 :: l := .tail _ (.tail _ (.tail _ (.tail _ (.tail _ (.tail _ (.tail _ (.tail _ (.tail _ (.tail _ (.tail _ (h)))))))))))
theorem zt12 {α : Type} {a b0 b1 b2 b3 b4 b5 b6 b7 b8 b9 b10 b11 : α} {l : List α} (h : a ∈ l) : a ∈ b0 :: b1 :: b2 :: b3 :: b4 :: b5 :: b6 :: b7 :: b8 :: b9 :: b10 :: b11 :: l := .tail _ (.tail _ (.tail _ (.tail _ (.tail _ (.tail _ (.tail _ (.tail _ (.tail _ (.tail _ (.tail _ (.tail _ (h))))))))))))
theorem zt13 {α : Type} {a b0 b1 b2 b3 b4 b5 b6 b7 b8 b9 b10 b11 b12 : α} {l : List α} (h : a ∈ l) : a ∈ b0 :: b1 :: b2 :: b3 :: b4 :: b5 :: b6 :: b7 :: b8 :: b9 :: b10 :: b11 :: b12 :: l := .tail _ (.tail _ (.tail _ (.tail _ (.tail _ (.tail _ (.tail _ (.tail _ (.tail _ (.tail _ (.tail _ (.tail _ (.tail _ (h)))))))))))))
theorem zt14 {α : Type} {a b0 b1 b2 b3 b4 b5 b6 b7 b8 b9 b10 b11 b12 b13 : α} {l : List α} (h : a ∈ l) : a ∈ b0 :: b1 :: b2 :: b3 :: b4 :: b5 :: b6 :: b7 :: b8 :: b9 :: b10 :: b11 :: b12 :: b13 :: l := .tail _ (.tail _ (.tail _ (.tail _ (.tail _ (.tail _ (.tail _ (.tail _ (.tail _ (.tail _ (.tail _ (.tail _ (.tail _ (.tail _ (h))))))))))))))
theorem zt15 {α : Type} {a b0 b1 b2 b3 b4 b5 b6 b7 b8 b9 b10 b11 b12 b13 b14 : α} {l : List α} (h : a ∈ l) : a ∈ b0 :: b1 :: b2 :: b3 :: b4 :: b5 :: b6 :: b7 :: b8 :: b9 :: b10 :: b11 :: b12 :: b13 :: b14 :: l := .tail _ (.tail _ (.tail _ (.tail _ (.tail _ (.tail _ (.tail _ (.tail _ (.tail _ (.tail _ (.tail _ (.tail _ (.tail _ (.tail _ (.tail _ (h)))))))))))))))
theorem zt16 {α : Type} {a b0 b1 b2 b3 b4 b5 b6 b7 b8 b9 b10 b11 b12 b13 b14 b15 : α} {l : List α} (h : a ∈ l) : a ∈ b0 :: b1 :: b2 :: b3 :: b4 :: b5 :: b6 :: b7 :: b8 :: b9 :: b10 :: b11 :: b12 :: b13 :: b14 :: b15 :: l := .tail _ (.tail _ (.tail _ (.tail _ (.tail _ (.tail _ (.tail _ (.tail _ (.tail _ (.tail _ (.tail _ (.tail _ (.tail _ (.tail _ (.tail _ (.tail _ (h))))))))))))))))
theorem zn0 {α : Type} {P : α → Prop} : ∀ b ∈ ([] : List α), P b := List.forall_mem_nil _

theorem Apt.subl {l l' : List Nat} {Z : List (Addr × Obj)} (h : Apt l Z) (hs : ∀ b ∈ l', b ∈ l) : Apt l' Z := fun q hq b hb => h q hq b (hs b hb)
theorem cell_ne {L i j : Nat} (h : i ≠ j) : @Ne Nat (L + i) (L + j) := fun e => h (Nat.add_left_cancel e)
structure NeC (L I cup dk lf dfr : Nat) : Prop where
  k0 : ∀ b ∈ [cup, dk, lf, dfr, L + 1, L + 3, L + 4, L + 5, L + 6, L + 7, L + 8, L + 9, 292], @Ne Nat b I
  k1 : ∀ b ∈ [cup, lf, dfr, L + 1, L + 3, L + 4, L + 5, L + 6, L + 7, L + 8, L + 9, 292], @Ne Nat b dk
  k2 : ∀ b ∈ [cup, dfr, L + 1, L + 3, L + 4, L + 5, L + 6, L + 7, L + 8, L + 9, 292], @Ne Nat b lf
  k3 : ∀ b ∈ [cup, L + 1, L + 3, L + 4, L + 5, L + 6, L + 7, L + 8, L + 9, 292], @Ne Nat b dfr
  k4 : ∀ b ∈ [L + 1, L + 3, L + 4, L + 5, L + 6, L + 7, L + 8, L + 9, 292], @Ne Nat b cup
  k5 : ∀ b ∈ [L + 1, L + 3, L + 4, L + 5, L + 6, L + 7, L + 8, L + 9], @Ne Nat b 292
structure KnP (w : World) (h₀ : Heap) (W : List (Addr × Obj)) (dom : Int → Prop) (fA fW : Int → Int) (o : Obj) (n : Nat) : Prop where
  ex : ∃ kvs, o.IsDictOf (intKind PySem.Challenge.rw_qz0087_01.row.prog w) kvs ∧ kvs.length ≤ n ∧ ∀ k v, (k, v) ∈ kvs → dom k ∧ ∃ a, v = .ref a ∧ WtP h₀ W a (fA k) (fW k)
theorem KnP.at_ {w : World} {h₀ h : Heap} {W : List (Addr × Obj)} {dom : Int → Prop} {fA fW : Int → Int} {o : Obj} {n : Nat} (x : KnP w h₀ W dom fA fW o n) (st : h₀.StaysIn h) (hz : ∀ q ∈ W, h.get? q.1 = some q.2) : Kn w h dom fA fW o n := by
  obtain ⟨kvs, h1, h2, h3⟩ := x.ex
  refine ⟨⟨kvs, h1, h2, fun k v hm => ?_⟩⟩
  obtain ⟨c, a, e, q⟩ := h3 k v hm
  exact ⟨c, a, e, q h st hz⟩
theorem Kn.pool {w : World} {h₀ h : Heap} {W : List (Addr × Obj)} {dom : Int → Prop} {fA fW : Int → Int} {o : Obj} {n : Nat} (x : Kn w h dom fA fW o n) (k : ∀ wt a b, PrAt h wt a b → WtP h₀ W wt a b) : KnP w h₀ W dom fA fW o n := by
  obtain ⟨kvs, h1, h2, h3⟩ := x.ex
  refine ⟨⟨kvs, h1, h2, fun k' v hm => ?_⟩⟩
  obtain ⟨c, a, e, q⟩ := h3 k' v hm
  exact ⟨c, a, e, k _ _ _ q⟩
noncomputable def Cds (W : List (Addr × Obj)) (wei cal : Str → Option Int) (xs us : List Value) (fA fW : Int → Int) : Prop := ∀ j : Nat, j < xs.length → ∃ (cd : Nat) (blk : Value) (lv : DL) (u : Nat) (t1 t2 : Tok) (t3 : Nat), xs[j]? = some (.ref cd) ∧ CdP W cd (7 + (j : Int)) blk ∧ BlockL W blk lv ∧ us[j]? = some (.ref u) ∧ (u, pairO (.int (bwA wei cal lv) t1) (bwW wei cal lv) t2 t3) ∈ W ∧ fA (7 + (j : Int)) = bwA wei cal lv ∧ fW (7 + (j : Int)) = bwW wei cal lv
theorem Cds.mono {W W' : List (Addr × Obj)} {wei cal : Str → Option Int} {xs us : List Value} {fA fW : Int → Int} (x : Cds W wei cal xs us fA fW) (hs : ∀ q ∈ W, q ∈ W') : Cds W' wei cal xs us fA fW := fun j hj => by
  obtain ⟨cd, blk, lv, u, t1, t2, t3, e1, e2, e3, e4, e5, e6, e7⟩ := x j hj
  exact ⟨cd, blk, lv, u, t1, t2, t3, e1, e2.mono hs, e3.mono hs, e4, hs _ e5, e6, e7⟩
theorem bw_bd2 {wei cal : Str → Option Int} (hwe : ∀ x i, wei x = some i → 0 ≤ i ∧ i ≤ 1000) (hca : ∀ x i, cal x = some i → 0 ≤ i ∧ i ≤ 1000) {l : DL} (hd : l.dep ≤ 25) : (0 ≤ bwA wei cal l ∧ bwA wei cal l ≤ 30000) ∧ 0 ≤ bwW wei cal l ∧ bwW wei cal l ≤ 30000 := by
  have h := (D.lw_bd hwe hca (.lst l)).up (B' := 30000) (by simp only [D.dep]; omega)
  refine ⟨?_, h.2⟩
  unfold bwA
  cases e : ((D.lst l).lw wei cal).1 with
  | none => simp
  | some i => simpa using h.1 i e
theorem BlockL.dep {Z : List (Addr × Obj)} {v : Value} {l : DL} (h : BlockL Z v l) : l.dep ≤ 25 := by
  obtain ⟨a, t, la, vs, n, n2, _, _, _, _, e, _⟩ := h; exact e
theorem dictOf_notFld {es : List DictEntry} {n : Nat} : ∀ vs, (dictOf es n).data ≠ .fields vs := fun vs e => by cases e
theorem lst_notFld {ys : List Value} : ∀ vs, (LCg.lst ys).data ≠ .fields vs := fun vs e => by cases e
theorem int_notFld {prog : Program} {w : World} {o : Obj} {kvs : List (Int × Value)} (h : o.IsDictOf (intKind prog w) kvs) : ∀ vs, o.data ≠ .fields vs := by
  obtain ⟨es, ep, _, hd, _⟩ := h
  intro vs e
  rw [hd] at e; cases e

theorem apD5 {dk : Nat} {ok ok5 : Obj} {Z S : List (Addr × Obj)} (h : ∀ q ∈ Z, ∀ p ∈ (dk, ok) :: S, @Ne Nat q.1 p.1) : ∀ q ∈ Z, ∀ p ∈ (dk, ok5) :: S, @Ne Nat q.1 p.1 := fun q hq => zc (h q hq (dk, ok) (.head _)) (fun p hp => h q hq p (.tail _ hp))
theorem loopB12 (w : World) : loopB w = [nthS (loopB w) 0, nthS (loopB w) 1, nthS (loopB w) 2, nthS (loopB w) 3, nthS (loopB w) 4, nthS (loopB w) 5, nthS (loopB w) 6, nthS (loopB w) 7, nthS (loopB w) 8, nthS (loopB w) 9, nthS (loopB w) 10, nthS (loopB w) 11] := rfl
set_option maxHeartbeats 8000000 in
theorem turn_c {w : World} {A : Around} {E : Value → Shared → Prop} {Q : Flow → Shared → Prop} {s : Shared} {h₀ : Heap} {L fa : Nat} {p : Program} {loose : List Str} {mg mb : Str → Option Value} {o1 o3 o4 o5 o6 o7 o8 o9 : Obj} {wei cal : Str → Option Int} {p' : Program} {loose' : List Str} {mean' : ExcName → Option Value} {mg' mb' : Str → Option Value} {I cup r lc lw run dr lf dk fr dfr wt : Nat} {oI oc od ok : Obj} {ws xs us fs : List Value} {row : List Int} {n l : Int} {t1 t2 : Tok} {es : List DictEntry} {n0 nn : Nat} {ps : Array Value} {pi ab wb bd : Int} {tp ta tw tb : Tok} {v4 v5 v8 v9 : Option Value} {dom : Int → Prop} {fA fW : Int → Int} {W : List (Addr × Obj)} {m : Str → Option Value}
    (X : (hd.heap_39 w.params).In h₀) (T : TopRead p loose mg mb h₀) (hh : A.handled = none) (hroom : A.depth + 200 < recursionLimit) (hu : A.units + 800 < cLine) (lL : 292 < L) (T' : Top p' loose' mean' mg' mb' h₀) (C : CodeHd h₀ 294 292) (hfr : A.frames = some [lawE w fa L]) (TW : TabI w h₀ 136 wei) (TC : TabI w h₀ 139 cal) (hwe : ∀ x i, wei x = some i → 0 ≤ i ∧ i ≤ 1000) (hca : ∀ x i, cal x = some i → 0 ≤ i ∧ i ≤ 1000)
    (hi : IntsAre ws row) (hl : row.length ≤ 60) (lc9 : L + 9 < cup) (nI : nRec oI) (d1 : o1.data = .cell (some (.ref cup))) (d3 : o3.data = .cell (some (.ref lw))) (d4 : o4.data = .cell v4) (d6 : o6.data = .cell (some (.ref lc))) (d7 : o7.data = .cell (some (.ref run))) (x1 : 1 ≤ xs.length) (x3 : xs.length ≤ 3) (hdom : ∀ j : Nat, j < xs.length → dom (7 + (j : Int))) (lo : (dk == sysModules) = false) (hlk : lookIn "frames" od = some (some (.ref lf))) (bd0 : 20 ≤ bd) (bd1 : bd ≤ 215)
    (hr : (r, listOf (List.toArray ws) 0) ∈ W) (hlc : (lc, LCg.lst xs) ∈ W) (hlw : (lw, LCg.lst us) ∈ W) (m5 : (run, instObj 91 dr) ∈ W) (m6 : (dr, od) ∈ W) (hC : Cds W wei cal xs us fA fW)
    (F : Fr h₀ L s.heap m) (N : News h₀ L s.heap ((I, oI) :: (cup, oc) :: (dk, ok) :: (lf, LCg.lst (fs ++ [Value.ref fr])) :: (dfr, dictOf es n0) :: (L + 1, o1) :: (L + 3, o3) :: (L + 4, o4) :: (L + 5, o5) :: (L + 6, o6) :: (L + 7, o7) :: (L + 8, o8) :: (L + 9, o9) :: ((292 : Nat), tabObj ps) :: W)) (ne : NeC L I cup dk lf dfr) (ap : Apt [I, cup, dk, lf, dfr, L + 1, L + 3, L + 4, L + 5, L + 6, L + 7, L + 8, L + 9, 292] W)
    (ho : oc.IsDictOf (strKind PySem.Challenge.rw_qz0087_01.row.prog w) (CupKvs r n l t1 t2)) (hn0 : 0 ≤ n) (hn1 : n ≤ 4000) (d5 : o5.data = .cell v5) (d8 : o8.data = .cell v8) (d9 : o9.data = .cell v9) (G : TabG W (dLst w) ps) (hK : KnP w h₀ W dom fA fW ok nn) (hnn : nn ≤ 800) (hfs : fs.length ≤ 900) (m3 : (fr, instObj 157 dfr) ∈ W) (hE : FrE es (pi + 880 - bd) wt dk) (m4 : WtP h₀ W wt ab wb)
    (b1 : 0 ≤ pi) (b2 : pi ≤ 160000) (b3 : 0 ≤ ab) (b4 : ab ≤ 30000) (b7 : 0 ≤ wb) (b8 : wb ≤ 30000) (mP : m (Str.ofString "piled") = some (.int pi tp)) (mA : m (Str.ofString "about") = some (.int ab ta)) (mH : m (Str.ofString "whole") = some (.int wb tw)) (mB : m (Str.ofString "bound") = some (.int bd tb))
    (hend : Hid (∀ f, (f = .next ∨ f = .cont) → ∀ h' tk m' oc' ob5 ob8 ob9 ok' fs' (fr' dfr' : Nat) es' n0' nn' ps' pi' ab' wb' (wt' : Nat) t1' tp' ta' tw' W', Fr h₀ L h' m' → News h₀ L h' ((I, oI) :: (cup, oc') :: (dk, ok') :: (lf, LCg.lst (fs' ++ [Value.ref fr'])) :: (dfr', dictOf es' n0') :: (L + 1, o1) :: (L + 3, o3) :: (L + 4, o4) :: (L + 5, ob5) :: (L + 6, o6) :: (L + 7, o7) :: (L + 8, ob8) :: (L + 9, ob9) :: ((292 : Nat), tabObj ps') :: W') → NeC L I cup dk lf dfr' → Apt [I, cup, dk, lf, dfr', L + 1, L + 3, L + 4, L + 5, L + 6, L + 7, L + 8, L + 9, 292] W' → (∀ q ∈ W, q ∈ W') → oc'.IsDictOf (strKind PySem.Challenge.rw_qz0087_01.row.prog w) (CupKvs r (n + 3) l t1' t2) → (∃ v, ob5.data = .cell v) → (∃ v, ob8.data = .cell v) → (∃ v, ob9.data = .cell v) → TabG W' (dLst w) ps' → Kn w h' dom fA fW ok' nn' → nn' ≤ nn + 3 → fs'.length ≤ fs.length + 1 → (fr', instObj 157 dfr') ∈ W' → FrE es' (pi' + 880 - bd) wt' dk → PrAt h' wt' ab' wb' → 0 ≤ pi' → pi' ≤ pi + 30004 → 0 ≤ ab' → ab' ≤ 30000 → 0 ≤ wb' → wb' ≤ 30000 → m' (Str.ofString "piled") = some (.int pi' tp') → m' (Str.ofString "about") = some (.int ab' ta') → m' (Str.ofString "whole") = some (.int wb' tw') → m' (Str.ofString "bound") = some (.int bd tb) → Q f { s with heap := h', toks := tk })) :
    wpAny (model PySem.Challenge.rw_qz0087_01.row.prog w) A (execs (loopB w) (lawE w fa L)) Q E s := by
  rw [loopB12 w]
  have hweA : ∀ x i, wei x = some i → 0 ≤ i := fun x i e => (hwe x i e).1
  have hcaA : ∀ x i, cal x = some i → 0 ≤ i := fun x i e => (hca x i e).1
  refine bodyA (sa := 0) (o2 := oI) (o3 := oI) (o4 := oI) (o5 := oI) (o7 := oI) (o8 := oI) (ot := oI) (W := (I, oI) :: (dk, ok) :: (lf, LCg.lst (fs ++ [Value.ref fr])) :: (dfr, dictOf es n0) :: (L + 3, o3) :: (L + 4, o4) :: (L + 5, o5) :: (L + 7, o7) :: (L + 8, o8) :: ((292 : Nat), tabObj ps) :: W) X T hh hroom hu lL F (News.sub N ((zd zm1 zm12 zm5 zm9 (zd zm0 zm2 zm3 zm4 (zd zm6 zm7 zm8 zm10 (zc zm11 (zc zm13 (fun q hq => zt14 (hq))))))))) (Apt.cons ((zc ((ne.k0 _ zm0).symm) (zc ((ne.k0 _ zm11).symm) zn0))) (Apt.cons ((zc ((ne.k1 _ zm0).symm) (zc ((ne.k1 _ zm10).symm) zn0))) (Apt.cons ((zc ((ne.k2 _ zm0).symm) (zc ((ne.k2 _ zm9).symm) zn0))) (Apt.cons ((zc ((ne.k3 _ zm0).symm) (zc ((ne.k3 _ zm8).symm) zn0))) (Apt.cons ((zc (ne.k4 _ zm1) (zc (cell_ne (L := L) (by decide : (3 : Nat) ≠ 9)) zn0))) (Apt.cons ((zc (ne.k4 _ zm2) (zc (cell_ne (L := L) (by decide : (4 : Nat) ≠ 9)) zn0))) (Apt.cons ((zc (ne.k4 _ zm3) (zc (cell_ne (L := L) (by decide : (5 : Nat) ≠ 9)) zn0))) (Apt.cons ((zc (ne.k4 _ zm5) (zc (cell_ne (L := L) (by decide : (7 : Nat) ≠ 9)) zn0))) (Apt.cons ((zc (ne.k4 _ zm6) (zc (cell_ne (L := L) (by decide : (8 : Nat) ≠ 9)) zn0))) (Apt.cons ((zc (ne.k4 _ zm8) (zc ((ne.k5 _ zm7).symm) zn0))) (Apt.subl ap ((zc zm1 (zc zm12 zn0)))))))))))))) lc9 ho (zt10 (hr)) hi hl hn0 (by omega) d1 d6 d9 (zt10 (hlc)) x1 x3 ⟨fun hA tkA ocA obA wh wy twh twy t1A FA NA hoA d9A w0 w1 y0 y1 => ?_⟩
  replace NA := News.sub NA ((zd zm4 zm0 zm5 zm6 (zd zm7 zm2 zm8 zm9 (zd zm10 zm3 zm11 zm12 (zc zm1 (zc zm13 (fun q hq => zt14 (hq))))))))
  clear N F
  have kfld : ∀ vs, ok.data ≠ .fields vs := by obtain ⟨kvs, k1, _⟩ := hK.ex; exact int_notFld k1
  refine bodyB (sa := 0) (o1 := oI) (o2 := oI) (o3 := oI) (o4 := oI) (o6 := oI) (o7 := oI) (o8 := oI) (o9 := oI) (ot := oI) (W := (I, oI) :: (cup, ocA) :: (dk, ok) :: (lf, LCg.lst (fs ++ [Value.ref fr])) :: (dfr, dictOf es n0) :: (L + 1, o1) :: (L + 3, o3) :: (L + 4, o4) :: (L + 6, o6) :: (L + 7, o7) :: (L + 8, o8) :: (L + 9, obA) :: W) (W0 := W) X T hh hroom hu lL T' C FA (News.sub NA ((zd zm13 zm8 zm0 zm1 (zd zm2 zm3 zm4 zm5 (zd zm6 zm7 zm9 zm10 (zc zm11 (zc zm12 (fun q hq => zt14 (hq))))))))) (Apt.cons ((zc ((ne.k0 _ zm12).symm) (zc ((ne.k0 _ zm7).symm) zn0))) (Apt.cons ((zc ((ne.k4 _ zm8).symm) (zc ((ne.k4 _ zm3).symm) zn0))) (Apt.cons ((zc ((ne.k1 _ zm11).symm) (zc ((ne.k1 _ zm6).symm) zn0))) (Apt.cons ((zc ((ne.k2 _ zm10).symm) (zc ((ne.k2 _ zm5).symm) zn0))) (Apt.cons ((zc ((ne.k3 _ zm9).symm) (zc ((ne.k3 _ zm4).symm) zn0))) (Apt.cons ((zc (ne.k5 _ zm0) (zc (cell_ne (L := L) (by decide : (1 : Nat) ≠ 5)) zn0))) (Apt.cons ((zc (ne.k5 _ zm1) (zc (cell_ne (L := L) (by decide : (3 : Nat) ≠ 5)) zn0))) (Apt.cons ((zc (ne.k5 _ zm2) (zc (cell_ne (L := L) (by decide : (4 : Nat) ≠ 5)) zn0))) (Apt.cons ((zc (ne.k5 _ zm4) (zc (cell_ne (L := L) (by decide : (6 : Nat) ≠ 5)) zn0))) (Apt.cons ((zc (ne.k5 _ zm5) (zc (cell_ne (L := L) (by decide : (7 : Nat) ≠ 5)) zn0))) (Apt.cons ((zc (ne.k5 _ zm6) (zc (cell_ne (L := L) (by decide : (8 : Nat) ≠ 5)) zn0))) (Apt.cons ((zc (ne.k5 _ zm7) (zc (cell_ne (L := L) (by decide : (9 : Nat) ≠ 5)) zn0))) (Apt.subl ap ((zc zm13 (zc zm8 zn0)))))))))))))))) ((zd (.inr nI) (.inr (nRec.of (dict_notFld hoA))) (.inr (nRec.of kfld)) (.inr (nRec.of lst_notFld)) (zd (.inr (nRec.of dictOf_notFld)) (.inr (nRec.of (cell_notFld d1))) (.inr (nRec.of (cell_notFld d3))) (.inr (nRec.of (cell_notFld d4))) (zd (.inr (nRec.of (cell_notFld d6))) (.inr (nRec.of (cell_notFld d7))) (.inr (nRec.of (cell_notFld d8))) (.inr (nRec.of (cell_notFld d9A))) (fun q hq => .inl hq))))) (fun q hq => zt12 (hq)) G d5 ⟨fun hB tkB obB fc fb psB Y1 FB NB aB d5B clc clb GB => ?_⟩
  have apB : Apt [I, cup, dk, lf, dfr, L + 1, L + 3, L + 4, L + 5, L + 6, L + 7, L + 8, L + 9, 292] (Y1 ++ W) := fun q hq => (List.mem_append.mp hq).elim (fun h => (zd (aB q h _ zm2) (aB q h _ zm3) (aB q h _ zm4) (aB q h _ zm5) (zd (aB q h _ zm6) (aB q h _ zm7) (aB q h _ zm8) (aB q h _ zm9) (zd (aB q h _ zm1) (aB q h _ zm10) (aB q h _ zm11) (aB q h _ zm12) (zc (aB q h _ zm13) (zc (aB q h _ zm0) zn0)))))) (ap q)
  replace NB := News.sub NB ((zd (zt2 (List.mem_append_right _ zm0)) (zt2 (List.mem_append_right _ zm1)) (zt2 (List.mem_append_right _ zm2)) (zt2 (List.mem_append_right _ zm3)) (zd (zt2 (List.mem_append_right _ zm4)) (zt2 (List.mem_append_right _ zm5)) (zt2 (List.mem_append_right _ zm6)) (zt2 (List.mem_append_right _ zm7)) (zd zm1 (zt2 (List.mem_append_right _ zm8)) (zt2 (List.mem_append_right _ zm9)) (zt2 (List.mem_append_right _ zm10)) (zc (zt2 (List.mem_append_right _ zm11)) (zc zm0 (fun q hq => (List.mem_append.mp hq).elim (fun h => zt2 (List.mem_append_left _ h)) (fun h => zt2 (List.mem_append_right _ (zt12 (h)))))))))))
  have sB : ∀ q ∈ W, q ∈ Y1 ++ W := fun q hq => List.mem_append_right _ hq
  clear NA FA
  have ap0 := ap
  clear ap
  have ap := apB
  refine bodyC (sa := 0) (o2 := oI) (o3 := oI) (o4 := oI) (o5 := oI) (o6 := oI) (o7 := oI) (o9 := oI) (ot := oI) (pi := pi) (ab := ab) (W := (I, oI) :: (dk, ok) :: (lf, LCg.lst (fs ++ [Value.ref fr])) :: (dfr, dictOf es n0) :: (L + 3, o3) :: (L + 4, o4) :: (L + 5, obB) :: (L + 6, o6) :: (L + 7, o7) :: (L + 9, obA) :: (Y1 ++ W)) (W0 := Y1 ++ W) X T hh hroom hu lL T' C FB (News.sub NB ((zd zm1 zm11 zm5 zm13 (zd zm0 zm2 zm3 zm4 (zd zm6 zm7 zm8 zm9 (zc zm10 (zc zm12 (fun q hq => zt14 (hq))))))))) (Apt.cons ((zc ((ne.k0 _ zm0).symm) (zc ((ne.k0 _ zm10).symm) (zc ((ne.k0 _ zm12).symm) zn0)))) (Apt.cons ((zc ((ne.k1 _ zm0).symm) (zc ((ne.k1 _ zm9).symm) (zc ((ne.k1 _ zm11).symm) zn0)))) (Apt.cons ((zc ((ne.k2 _ zm0).symm) (zc ((ne.k2 _ zm8).symm) (zc ((ne.k2 _ zm10).symm) zn0)))) (Apt.cons ((zc ((ne.k3 _ zm0).symm) (zc ((ne.k3 _ zm7).symm) (zc ((ne.k3 _ zm9).symm) zn0)))) (Apt.cons ((zc (ne.k4 _ zm1) (zc (cell_ne (L := L) (by decide : (3 : Nat) ≠ 8)) (zc (ne.k5 _ zm1) zn0)))) (Apt.cons ((zc (ne.k4 _ zm2) (zc (cell_ne (L := L) (by decide : (4 : Nat) ≠ 8)) (zc (ne.k5 _ zm2) zn0)))) (Apt.cons ((zc (ne.k4 _ zm3) (zc (cell_ne (L := L) (by decide : (5 : Nat) ≠ 8)) (zc (ne.k5 _ zm3) zn0)))) (Apt.cons ((zc (ne.k4 _ zm4) (zc (cell_ne (L := L) (by decide : (6 : Nat) ≠ 8)) (zc (ne.k5 _ zm4) zn0)))) (Apt.cons ((zc (ne.k4 _ zm5) (zc (cell_ne (L := L) (by decide : (7 : Nat) ≠ 8)) (zc (ne.k5 _ zm5) zn0)))) (Apt.cons ((zc (ne.k4 _ zm7) (zc (cell_ne (L := L) (by decide : (9 : Nat) ≠ 8)) (zc (ne.k5 _ zm7) zn0)))) (Apt.subl ap ((zc zm1 (zc zm11 (zc zm13 zn0))))))))))))))) lc9 hoA (zt10 (sB _ hr)) hi hl (by omega) (by omega) d1 d8 ((zd (.inr nI) (.inr (nRec.of kfld)) (.inr (nRec.of lst_notFld)) (.inr (nRec.of dictOf_notFld)) (zd (.inr (nRec.of (cell_notFld d3))) (.inr (nRec.of (cell_notFld d4))) (.inr (nRec.of (cell_notFld d5B))) (.inr (nRec.of (cell_notFld d6))) (zc (.inr (nRec.of (cell_notFld d7))) (zc (.inr (nRec.of (cell_notFld d9A))) (fun q hq => .inl hq)))))) (fun q hq => zt10 (hq)) GB (by (repeat rw [if_neg (by decide)]); exact mP) (by (repeat rw [if_neg (by decide)]); exact mA) ⟨fun hC' tkC ocC obC fd psC Y2 t1C tx tt twC nt FC NC aC hoC d8C hx hx2 cld GC => ?_⟩
  have apC : Apt [I, cup, dk, lf, dfr, L + 1, L + 3, L + 4, L + 5, L + 6, L + 7, L + 8, L + 9, 292] (Y2 ++ (Y1 ++ W)) := fun q hq => (List.mem_append.mp hq).elim (fun h => (zd (aC q h _ zm4) (aC q h _ zm1) (aC q h _ zm5) (aC q h _ zm6) (zd (aC q h _ zm7) (aC q h _ zm3) (aC q h _ zm8) (aC q h _ zm9) (zd (aC q h _ zm10) (aC q h _ zm11) (aC q h _ zm12) (aC q h _ zm2) (zc (aC q h _ zm13) (zc (aC q h _ zm0) zn0)))))) (ap q)
  replace NC := News.sub NC ((zd (zt4 (List.mem_append_right _ zm0)) zm0 (zt4 (List.mem_append_right _ zm1)) (zt4 (List.mem_append_right _ zm2)) (zd (zt4 (List.mem_append_right _ zm3)) zm2 (zt4 (List.mem_append_right _ zm4)) (zt4 (List.mem_append_right _ zm5)) (zd (zt4 (List.mem_append_right _ zm6)) (zt4 (List.mem_append_right _ zm7)) (zt4 (List.mem_append_right _ zm8)) zm1 (zc (zt4 (List.mem_append_right _ zm9)) (zc zm3 (fun q hq => (List.mem_append.mp hq).elim (fun h => zt4 (List.mem_append_left _ h)) (fun h => zt4 (List.mem_append_right _ (zt10 (h)))))))))))
  have sC : ∀ q ∈ W, q ∈ Y2 ++ (Y1 ++ W) := fun q hq => List.mem_append_right _ (sB q hq)
  clear NB FB ap apB aB
  have clc' := clc.mono fun q hq => List.mem_append_right Y2 hq
  have clb' := clb.mono fun q hq => List.mem_append_right Y2 hq
  clear clc clb
  generalize hWe : Y2 ++ (Y1 ++ W) = V at *
  have ap := apC
  clear apC aC
  replace hlc := sC _ hlc
  replace hlw := sC _ hlw
  replace m5 := sC _ m5
  replace m6 := sC _ m6
  replace m3 := sC _ m3
  replace m4 := m4.mono sC
  replace hC := hC.mono sC
  obtain ⟨cd, blk, lv, u9, y1', y2', y3', hcs, hcd, hBk, hus, hu9, eA, eW⟩ := hC wh.toNat (by omega)
  have bb := bw_bd2 hwe hca hBk.dep
  have hdm := hdom wh.toNat (by omega)
  have zC : ∀ q ∈ V, hC'.get? q.1 = some q.2 := fun q hq => (NC q (zt14 (hq))).1
  have K2 := hK.at_ (h := hC') FC.keep (fun q hq => zC q (sC q hq))
  have nd : ∀ b ∈ [lf, dfr, L + 3, L + 5, L + 6, L + 7, L + 9], @Ne Nat b dk := (zd (ne.k1 _ zm1) (ne.k1 _ zm2) (ne.k1 _ zm4) (ne.k1 _ zm6) (zc (ne.k1 _ zm7) (zc (ne.k1 _ zm8) (zc (ne.k1 _ zm10) zn0))))
  have ndf : ∀ b ∈ [lf, L + 3, L + 5, L + 6, L + 7, L + 9], @Ne Nat b dfr := (zd ((ne.k2 _ zm1).symm) (ne.k3 _ zm2) (ne.k3 _ zm4) (ne.k3 _ zm5) (zc (ne.k3 _ zm6) (zc (ne.k3 _ zm8) zn0)))
  have nde : ∀ b ∈ [lf, dfr, L + 7, L + 8], @Ne Nat b dk := (zd (ne.k1 _ zm1) (ne.k1 _ zm2) (ne.k1 _ zm8) (ne.k1 _ zm9) zn0)
  have nlf : ∀ b ∈ [dk, dfr, L + 3, L + 5, L + 6, L + 7, L + 9], @Ne Nat b lf := (zd ((ne.k1 _ zm1).symm) (ne.k2 _ zm1) (ne.k2 _ zm3) (ne.k2 _ zm5) (zc (ne.k2 _ zm6) (zc (ne.k2 _ zm7) (zc (ne.k2 _ zm9) zn0))))
  have apD : ∀ q ∈ (I, oI) :: (cup, ocC) :: (L + 1, o1) :: (L + 4, o4) :: (L + 8, obC) :: ((292 : Nat), tabObj psC) :: V, ∀ p ∈ (dk, ok) :: (lf, LCg.lst (fs ++ [Value.ref fr])) :: (dfr, dictOf es n0) :: (L + 3, o3) :: (L + 5, obB) :: (L + 6, o6) :: (L + 7, o7) :: (L + 9, obA) :: [], @Ne Nat q.1 p.1 := (zd (zd ((ne.k0 _ zm1).symm) ((ne.k0 _ zm2).symm) ((ne.k0 _ zm3).symm) ((ne.k0 _ zm5).symm) (zd ((ne.k0 _ zm7).symm) ((ne.k0 _ zm8).symm) ((ne.k0 _ zm9).symm) ((ne.k0 _ zm11).symm) zn0)) (zd (ne.k1 _ zm0) (ne.k2 _ zm0) (ne.k3 _ zm0) ((ne.k4 _ zm1).symm) (zd ((ne.k4 _ zm3).symm) ((ne.k4 _ zm4).symm) ((ne.k4 _ zm5).symm) ((ne.k4 _ zm7).symm) zn0)) (zd (ne.k1 _ zm3) (ne.k2 _ zm2) (ne.k3 _ zm1) (cell_ne (L := L) (by decide : (1 : Nat) ≠ 3)) (zd (cell_ne (L := L) (by decide : (1 : Nat) ≠ 5)) (cell_ne (L := L) (by decide : (1 : Nat) ≠ 6)) (cell_ne (L := L) (by decide : (1 : Nat) ≠ 7)) (cell_ne (L := L) (by decide : (1 : Nat) ≠ 9)) zn0)) (zd (ne.k1 _ zm5) (ne.k2 _ zm4) (ne.k3 _ zm3) (cell_ne (L := L) (by decide : (4 : Nat) ≠ 3)) (zd (cell_ne (L := L) (by decide : (4 : Nat) ≠ 5)) (cell_ne (L := L) (by decide : (4 : Nat) ≠ 6)) (cell_ne (L := L) (by decide : (4 : Nat) ≠ 7)) (cell_ne (L := L) (by decide : (4 : Nat) ≠ 9)) zn0)) (zc (zd (ne.k1 _ zm9) (ne.k2 _ zm8) (ne.k3 _ zm7) (cell_ne (L := L) (by decide : (8 : Nat) ≠ 3)) (zd (cell_ne (L := L) (by decide : (8 : Nat) ≠ 5)) (cell_ne (L := L) (by decide : (8 : Nat) ≠ 6)) (cell_ne (L := L) (by decide : (8 : Nat) ≠ 7)) (cell_ne (L := L) (by decide : (8 : Nat) ≠ 9)) zn0)) (zc (zd (ne.k1 _ zm11) (ne.k2 _ zm10) (ne.k3 _ zm9) ((ne.k5 _ zm1).symm) (zd ((ne.k5 _ zm3).symm) ((ne.k5 _ zm4).symm) ((ne.k5 _ zm5).symm) ((ne.k5 _ zm7).symm) zn0)) (fun q hq => (zd (ap q hq _ zm2) (ap q hq _ zm3) (ap q hq _ zm4) (ap q hq _ zm6) (zd (ap q hq _ zm8) (ap q hq _ zm9) (ap q hq _ zm10) (ap q hq _ zm12) zn0))))))
  have apE : ∀ q ∈ (I, oI) :: (cup, ocC) :: (L + 1, o1) :: (L + 3, o3) :: (L + 4, o4) :: (L + 5, obB) :: (L + 6, o6) :: (L + 9, obA) :: ((292 : Nat), tabObj psC) :: V, ∀ p ∈ (dk, ok) :: (lf, LCg.lst (fs ++ [Value.ref fr])) :: (dfr, dictOf es n0) :: (L + 7, o7) :: (L + 8, obC) :: [], @Ne Nat q.1 p.1 := (zd (zd ((ne.k0 _ zm1).symm) ((ne.k0 _ zm2).symm) ((ne.k0 _ zm3).symm) ((ne.k0 _ zm9).symm) (zc ((ne.k0 _ zm10).symm) zn0)) (zd (ne.k1 _ zm0) (ne.k2 _ zm0) (ne.k3 _ zm0) ((ne.k4 _ zm5).symm) (zc ((ne.k4 _ zm6).symm) zn0)) (zd (ne.k1 _ zm3) (ne.k2 _ zm2) (ne.k3 _ zm1) (cell_ne (L := L) (by decide : (1 : Nat) ≠ 7)) (zc (cell_ne (L := L) (by decide : (1 : Nat) ≠ 8)) zn0)) (zd (ne.k1 _ zm4) (ne.k2 _ zm3) (ne.k3 _ zm2) (cell_ne (L := L) (by decide : (3 : Nat) ≠ 7)) (zc (cell_ne (L := L) (by decide : (3 : Nat) ≠ 8)) zn0)) (zd (zd (ne.k1 _ zm5) (ne.k2 _ zm4) (ne.k3 _ zm3) (cell_ne (L := L) (by decide : (4 : Nat) ≠ 7)) (zc (cell_ne (L := L) (by decide : (4 : Nat) ≠ 8)) zn0)) (zd (ne.k1 _ zm6) (ne.k2 _ zm5) (ne.k3 _ zm4) (cell_ne (L := L) (by decide : (5 : Nat) ≠ 7)) (zc (cell_ne (L := L) (by decide : (5 : Nat) ≠ 8)) zn0)) (zd (ne.k1 _ zm7) (ne.k2 _ zm6) (ne.k3 _ zm5) (cell_ne (L := L) (by decide : (6 : Nat) ≠ 7)) (zc (cell_ne (L := L) (by decide : (6 : Nat) ≠ 8)) zn0)) (zd (ne.k1 _ zm10) (ne.k2 _ zm9) (ne.k3 _ zm8) (cell_ne (L := L) (by decide : (9 : Nat) ≠ 7)) (zc (cell_ne (L := L) (by decide : (9 : Nat) ≠ 8)) zn0)) (zc (zd (ne.k1 _ zm11) (ne.k2 _ zm10) (ne.k3 _ zm9) ((ne.k5 _ zm5).symm) (zc ((ne.k5 _ zm6).symm) zn0)) (fun q hq => (zd (ap q hq _ zm2) (ap q hq _ zm3) (ap q hq _ zm4) (ap q hq _ zm10) (zc (ap q hq _ zm11) zn0))))))
  refine bodyD (sa := 0) (o1 := oI) (o2 := oI) (o4 := oI) (o8 := oI) (ot := oI) (ta := 0) (fc := fc) (W := (I, oI) :: (cup, ocC) :: (L + 1, o1) :: (L + 4, o4) :: (L + 8, obC) :: ((292 : Nat), tabObj psC) :: V) X T hh hroom hu lL TW TC hweA hcaA FC (News.sub NC ((zd zm2 zm3 zm4 zm6 (zd zm8 zm9 zm10 zm12 (zd zm0 zm1 zm5 zm7 (zc zm11 (zc zm13 (fun q hq => zt14 (hq))))))))) nd apD hfr K2 (by omega) lo d3 d5B d6 d7 d9A (zt6 (hlw)) w0 (by omega) hus (zt6 (hu9)) (by omega) (zt6 (m5)) (zt6 (m6)) hlk (zt6 (m3)) hE (m4.mono fun q hq => zt6 (hq)) (zt6 (hlc)) hcs (hcd.mono fun q hq => zt6 (hq)) (hBk.mono fun q hq => zt6 (hq)) (clc'.mono fun q hq => zt6 (hq)) eA eW hdm bb.2.1 (by omega) b1 (by omega) b3 (by omega) bd0 bd1 (by (repeat rw [if_neg (by decide)]); exact mP) (by (repeat rw [if_neg (by decide)]); exact mH) (by (repeat rw [if_neg (by decide)]); exact if_pos rfl) (by (repeat rw [if_neg (by decide)]); exact if_pos rfl) (clb'.mono fun q hq => zt6 (hq)) b7 (by omega) ndf (by (repeat rw [if_neg (by decide)]); exact mB) (fun hw2 => ⟨fun h4 tk4 ok4 tw4 F4 N4 K4 => hend.out .cont (.inr rfl) _ _ _ ocC obB obC obA ok4 fs fr dfr es n0 (nn + 1) psC pi ab wb wt t1C tp ta tw V F4 (News.sub N4 ((zd zm8 zm9 zm0 zm1 (zd zm2 zm10 zm3 zm11 (zd zm4 zm5 zm6 zm12 (zc zm7 (zc zm13 (fun q hq => zt14 (hq))))))))) ne ap sC (by rw [show n + 3 = n + 1 + 1 + 1 by omega]; exact hoC) ⟨_, d5B⟩ ⟨_, d8C⟩ ⟨_, d9A⟩ GC K4 (by omega) (by omega) m3 hE (m4 _ F4.keep (fun q hq => (N4 q (zt14 (hq))).1)) b1 (by omega) b3 b4 b7 b8 (by (repeat rw [if_neg (by decide)]); exact mP) (by (repeat rw [if_neg (by decide)]); exact mA) (by (repeat rw [if_neg (by decide)]); exact mH) (by (repeat rw [if_neg (by decide)]); exact mB)⟩) (fun hw2 => ⟨fun tkD => ?_⟩)
  refine bodyE (sa := 0) (o1 := oI) (o2 := oI) (o3 := oI) (o4 := oI) (o5 := oI) (o6 := oI) (o9 := oI) (ot := oI) (W := (I, oI) :: (cup, ocC) :: (L + 1, o1) :: (L + 3, o3) :: (L + 4, o4) :: (L + 5, obB) :: (L + 6, o6) :: (L + 9, obA) :: ((292 : Nat), tabObj psC) :: V) X T hh hroom hu lL FC (News.sub NC ((zd zm2 zm3 zm4 zm10 (zd zm11 zm0 zm1 zm5 (zd zm6 zm7 zm8 zm9 (zc zm12 (zc zm13 (fun q hq => zt14 (hq))))))))) nde apE hfr K2 d7 d8C hx hx2 (by omega) (zt9 (m5)) (zt9 (m6)) hlk (zt9 (m3)) hE (m4.mono fun q hq => zt9 (hq)) (cld.mono fun q hq => zt9 (hq)) b1 (by omega) b3 (by omega) bd0 bd1 (by (repeat rw [if_neg (by decide)]); exact if_pos rfl) (by (repeat rw [if_neg (by decide)]); exact if_pos rfl) (by exact if_pos rfl) (by (repeat rw [if_neg (by decide)]); exact mB) (fun hw3 => ⟨fun h4 tk4 ok4 F4 N4 K4 => hend.out .cont (.inr rfl) _ _ _ ocC obB obC obA ok4 fs fr dfr es n0 (nn + 1) psC pi ab wb wt t1C tp ta tw V F4 (News.sub N4 ((zd zm5 zm6 zm0 zm1 (zd zm2 zm7 zm8 zm9 (zd zm10 zm11 zm3 zm4 (zc zm12 (zc zm13 (fun q hq => zt14 (hq))))))))) ne ap sC (by rw [show n + 3 = n + 1 + 1 + 1 by omega]; exact hoC) ⟨_, d5B⟩ ⟨_, d8C⟩ ⟨_, d9A⟩ GC K4 (by omega) (by omega) m3 hE (m4 _ F4.keep (fun q hq => (N4 q (zt14 (hq))).1)) b1 (by omega) b3 b4 b7 b8 (by (repeat rw [if_neg (by decide)]); exact mP) (by (repeat rw [if_neg (by decide)]); exact mA) (by (repeat rw [if_neg (by decide)]); exact mH) (by (repeat rw [if_neg (by decide)]); exact mB)⟩) (fun hw3 => ⟨fun tkE => ?_⟩)
  refine bodyF1 (sa := 0) (o1 := oI) (o2 := oI) (o4 := oI) (o8 := oI) (ot := oI) (ta := 0) (fc := fc) (W := (I, oI) :: (cup, ocC) :: (L + 1, o1) :: (L + 4, o4) :: (L + 8, obC) :: ((292 : Nat), tabObj psC) :: V) X T hh hroom hu lL TW TC hweA hcaA FC (News.sub NC ((zd zm2 zm3 zm4 zm6 (zd zm8 zm9 zm10 zm12 (zd zm0 zm1 zm5 zm7 (zc zm11 (zc zm13 (fun q hq => zt14 (hq))))))))) nd apD hfr K2 (by omega) lo d3 d5B d6 d7 d9A (zt6 (hlw)) w0 (by omega) hus (zt6 (hu9)) (by omega) (zt6 (m5)) (zt6 (m6)) hlk (zt6 (m3)) hE (m4.mono fun q hq => zt6 (hq)) (zt6 (hlc)) hcs (hcd.mono fun q hq => zt6 (hq)) (hBk.mono fun q hq => zt6 (hq)) (clc'.mono fun q hq => zt6 (hq)) eA eW hdm bb.2.1 (by omega) b1 (by omega) b3 (by omega) bd0 bd1 (by (repeat rw [if_neg (by decide)]); exact mP) (by exact if_pos rfl) (by (repeat rw [if_neg (by decide)]); exact mB) ⟨fun h5 tk5 ok5 bo hbo F5 N5 K5 => ?_⟩
  have NZ := News.sub N5 ((zd zm8 zm9 zm0 zm1 (zd zm2 zm10 zm3 zm11 (zd zm4 zm5 zm6 zm12 (zc zm7 (zc zm13 (fun q hq => zt14 (hq))))))))
  refine bodyG (sa := 0) (o1 := oI) (o2 := oI) (o4 := oI) (o8 := oI) (ot := oI) (ta := 0) (fc := fc) (W := (I, oI) :: (cup, ocC) :: (L + 1, o1) :: (L + 4, o4) :: (L + 8, obC) :: ((292 : Nat), tabObj psC) :: V) X T hh hroom hu lL TW TC hweA hcaA F5 N5 nd (apD5 apD) hfr K5 (by omega) lo d3 d5B d6 d7 d9A (zt6 (hlw)) w0 (by omega) hus (zt6 (hu9)) (by omega) (zt6 (m5)) (zt6 (m6)) hlk (zt6 (m3)) hE (m4.mono fun q hq => zt6 (hq)) (zt6 (hlc)) hcs (hcd.mono fun q hq => zt6 (hq)) (hBk.mono fun q hq => zt6 (hq)) (clc'.mono fun q hq => zt6 (hq)) eA eW hdm bb.2.1 (by omega) b1 (by omega) b3 (by omega) bd0 bd1 (by (repeat rw [if_neg (by decide)]); exact mP) (by rw [if_neg (by decide)]; exact if_pos rfl) (by (repeat rw [if_neg (by decide)]); exact mB) (by exact if_pos rfl) nlf
    (fun eb => ⟨fun tkG => wpAny_execs_nil ?endN⟩)
    (fun eb => ⟨fun h6 tk6 x dx wt6 es6 n6 ok6 t16 t26 t36 F6 N6 offx offd xd K6 P6 E6 => wpAny_execs_nil ?endG⟩)
  case endN => exact hend.out .next (.inl rfl) _ _ _ ocC obB obC obA ok5 fs fr dfr es n0 (nn + 1) psC pi ab wb wt t1C tp ta tw V F5 (News.sub N5 ((zd zm8 zm9 zm0 zm1 (zd zm2 zm10 zm3 zm11 (zd zm4 zm5 zm6 zm12 (zc zm7 (zc zm13 (fun q hq => zt14 (hq))))))))) ne ap sC (by rw [show n + 3 = n + 1 + 1 + 1 by omega]; exact hoC) ⟨_, d5B⟩ ⟨_, d8C⟩ ⟨_, d9A⟩ GC K5 (by omega) (by omega) m3 hE (m4 _ F5.keep (fun q hq => (N5 q (zt14 (hq))).1)) b1 (by omega) b3 b4 b7 b8 (by (repeat rw [if_neg (by decide)]); exact mP) (by (repeat rw [if_neg (by decide)]); exact mA) (by (repeat rw [if_neg (by decide)]); exact mH) (by (repeat rw [if_neg (by decide)]); exact mB)
  case endG =>
    have ne6 : NeC L I cup dk lf dx := ⟨(zd (ne.k0 _ zm0) (ne.k0 _ zm1) (ne.k0 _ zm2) ((offd _ zm8).symm) (zd (ne.k0 _ zm4) (ne.k0 _ zm5) (ne.k0 _ zm6) (ne.k0 _ zm7) (zd (ne.k0 _ zm8) (ne.k0 _ zm9) (ne.k0 _ zm10) (ne.k0 _ zm11) (zc (ne.k0 _ zm12) zn0)))), (zd (ne.k1 _ zm0) (ne.k1 _ zm1) ((offd _ zm0).symm) (ne.k1 _ zm3) (zd (ne.k1 _ zm4) (ne.k1 _ zm5) (ne.k1 _ zm6) (ne.k1 _ zm7) (zd (ne.k1 _ zm8) (ne.k1 _ zm9) (ne.k1 _ zm10) (ne.k1 _ zm11) zn0))), (zd (ne.k2 _ zm0) ((offd _ zm1).symm) (ne.k2 _ zm2) (ne.k2 _ zm3) (zd (ne.k2 _ zm4) (ne.k2 _ zm5) (ne.k2 _ zm6) (ne.k2 _ zm7) (zc (ne.k2 _ zm8) (zc (ne.k2 _ zm9) (zc (ne.k2 _ zm10) zn0))))), (zd (offd _ zm9) (offd _ zm10) (offd _ zm3) (offd _ zm11) (zd (offd _ zm4) (offd _ zm5) (offd _ zm6) (offd _ zm12) (zc (offd _ zm7) (zc (offd _ zm13) zn0)))), ne.k4, ne.k5⟩
    have ap6 : Apt [I, cup, dk, lf, dx, L + 1, L + 3, L + 4, L + 5, L + 6, L + 7, L + 8, L + 9, 292] ((x, instObj 157 dx) :: V) := Apt.cons ((zd ((offx _ zm8).symm) ((offx _ zm9).symm) ((offx _ zm0).symm) ((offx _ zm1).symm) (zd xd ((offx _ zm10).symm) ((offx _ zm3).symm) ((offx _ zm11).symm) (zd ((offx _ zm4).symm) ((offx _ zm5).symm) ((offx _ zm6).symm) ((offx _ zm12).symm) (zc ((offx _ zm7).symm) (zc ((offx _ zm13).symm) zn0)))))) (fun q hq => (zd (ap q hq _ zm0) (ap q hq _ zm1) (ap q hq _ zm2) (ap q hq _ zm3) (zd (offd q (zt14 (hq))) (ap q hq _ zm5) (ap q hq _ zm6) (ap q hq _ zm7) (zd (ap q hq _ zm8) (ap q hq _ zm9) (ap q hq _ zm10) (ap q hq _ zm11) (zc (ap q hq _ zm12) (zc (ap q hq _ zm13) zn0))))))
    exact hend.out .next (.inl rfl) _ _ _ ocC obB obC obA ok6 (fs ++ [Value.ref fr]) x dx es6 n6 (nn + 1 + 1) psC (pi + ab + 4) (bwA wei cal lv) (bwW wei cal lv) wt6 t1C t16 t26 t36 ((x, instObj 157 dx) :: V) F6 (News.sub N6 ((zd zm9 zm10 zm0 zm1 (zd zm2 zm11 zm3 zm12 (zd zm4 zm5 zm6 zm13 (zc zm7 (zc zm14 (zc zm8 (fun q hq => zt15 (hq)))))))))) ne6 ap6 (fun q hq => .tail _ (sC q hq)) (by rw [show n + 3 = n + 1 + 1 + 1 by omega]; exact hoC) ⟨_, d5B⟩ ⟨_, d8C⟩ ⟨_, d9A⟩ (GC.mono fun q hq => .tail _ hq) K6 (by omega) (by simp) (.head _) (by rw [show pi + ab + 4 + 880 - bd = pi + 880 - bd + ab + 4 by omega]; exact E6) P6 (by omega) (by omega) bb.1.1 bb.1.2 bb.2.1 bb.2.2 (by (repeat rw [if_neg (by decide)]); exact if_pos rfl) (by (repeat rw [if_neg (by decide)]); exact if_pos rfl) (by exact if_pos rfl) (by (repeat rw [if_neg (by decide)]); exact mB)
-- Rng
theorem range_turns {prog : Program} {w : World} {A : Around} {E : Value → Shared → Prop} {s : Shared} {env : Env} {h₀ : Heap} {x : Str} {body : List Stmt} {Q : Flow → Shared → Prop} {r : Addr} {a₀ b₀ : Int} {t₀ u₀ v₀ : Tok} {n : Nat} {m₀ : Str → Option Value} {news : List (Addr × Obj)} (J : Nat → (Str → Option Value) → List (Addr × Obj) → Prop)
    (hh : A.handled = none) (hr : IsRange s.heap r a₀ b₀ 1 t₀ u₀ v₀) (hsm : Builtin.Range.small a₀ b₀ 1 = true) (hn : Builtin.Range.rangeSize a₀ b₀ 1 = (n : Int)) (F : Fr h₀ env.locals s.heap m₀) (N : News h₀ env.locals s.heap news) (hj : J 0 m₀ news)
    (turn : ∀ i v m₁ nx h tk (I : Nat) oI, i < n → (∀ p ∈ nx, @Ne Nat p.1 I) → nRec oI → ¬ isPr oI → J i m₁ nx → Fr h₀ env.locals h (fun y => if y = x then some v else m₁ y) → News h₀ env.locals h ((I, oI) :: nx) →
      wpAny (model prog w) A (execs body env) (fun f s₂ => (f = .next ∨ f = .cont) ∧ ∃ h' tk' m' nx', s₂ = { s with heap := h', toks := tk' } ∧ Fr h₀ env.locals h' m' ∧ News h₀ env.locals h' ((I, oI) :: nx') ∧ (∀ p ∈ nx', @Ne Nat p.1 I) ∧ J (i + 1) m' nx') E { s with heap := h, toks := tk })
    (done : ∀ m₁ nx h tk, J n m₁ nx → Fr h₀ env.locals h m₁ → News h₀ env.locals h nx → Q .next { s with heap := h, toks := tk }) :
    wpAny (model prog w) A (pyIter (.ref r)) (fun it s₂ => LoopAtV prog w A h₀ env x body Q E it s₂) E s := by
  refine wpAny_pyIter_range hr hsm ?_
  have hI0 : h₀.get? s.heap.objs.size = none := next_is_new F
  refine ⟨s.heap.objs.size, [s.heap.objs.size], [s.heap.objs.size], n, _, _, m₀, news, J, rfl, (Walks.range (prog := prog) (w := w) hh s.heap.objs.size a₀ 1 n).bound, fun hm => absurd F.ns.lt (List.mem_singleton.mp hm ▸ Nat.lt_irrefl _), fun b hb => by rw [List.mem_singleton.mp hb]; exact hI0,
    fun p hp hI => absurd (Heap.lt_size (N p hp).1) (List.mem_singleton.mp hI ▸ Nat.lt_irrefl _), (by show IsRangeIter _ _ _ _ _; rw [hn]; simpa using Heap.get?_push_size _ rfl), F.push _, fun p hp => ⟨Heap.get?_push_of_some _ (N p hp).1, (N p hp).2⟩, hj, ?_, fun h' tk m' news' F' N' _ hJ => done m' news' h' tk hJ F' N'⟩
  intro i v m₁ nx s₁ own hs hi hP hJ hoff o1 o2 o3 hst F₁ N₁
  obtain ⟨h, tk, rfl⟩ := hs
  have e0 : h.get? s.heap.objs.size = some _ := hst
  have mI := o3 _ (List.mem_singleton.mpr rfl) hI0 _ e0
  have own1 : ∀ p ∈ own, p = (s.heap.objs.size, _) := fun p hp => by
    have q1 : p.1 = s.heap.objs.size := List.mem_singleton.mp (o1 p hp)
    have q2 := o2 p hp
    dsimp only at q2
    rw [q1, e0] at q2
    exact Prod.ext q1 (Option.some.inj q2).symm
  have off' : ∀ p ∈ nx, @Ne Nat p.1 s.heap.objs.size := fun p hp q => hoff p hp (List.mem_singleton.mpr q)
  refine wpAny_mono (turn i v m₁ nx h tk s.heap.objs.size _ hi off' ?_ ?_ hJ F₁ (zc (N₁ _ (List.mem_append_left _ mI)) (fun p hp => N₁ p (List.mem_append_right _ hp)))) (fun f s₂ q => ?_) fun _ _ x => x
  · intro vs x t e q
    cases e
    exact absurd q (by simp [rawInt])
  · intro x09
    obtain ⟨_, vs, k, e⟩ := x09
    cases e
  · obtain ⟨hf, h', tk', m', nx', rfl, F', N', of', J'⟩ := q
    have U : LoopStepU h₀ env.locals [s.heap.objs.size] own (J (i + 1)) { s with heap := h, toks := tk } .next { s with heap := h', toks := tk' } := ⟨rfl, h', tk', m', nx', rfl, F', fun p hp => by
      rcases List.mem_append.mp hp with hp | hp
      · rw [own1 p hp]; exact N' _ (.head _)
      · exact N' p (.tail _ hp), fun p hp q => of' p hp (List.mem_singleton.mp q), J'⟩
    rcases hf with rfl | rfl
    · exact .next U
    · exact .cont U

structure NeB (L cup dk lf dfr : Nat) : Prop where
  k1 : ∀ b ∈ [cup, lf, dfr, L + 1, L + 3, L + 4, L + 5, L + 6, L + 7, L + 8, L + 9, 292], @Ne Nat b dk
  k2 : ∀ b ∈ [cup, dfr, L + 1, L + 3, L + 4, L + 5, L + 6, L + 7, L + 8, L + 9, 292], @Ne Nat b lf
  k3 : ∀ b ∈ [cup, L + 1, L + 3, L + 4, L + 5, L + 6, L + 7, L + 8, L + 9, 292], @Ne Nat b dfr
  k4 : ∀ b ∈ [L + 1, L + 3, L + 4, L + 5, L + 6, L + 7, L + 8, L + 9, 292], @Ne Nat b cup
  k5 : ∀ b ∈ [L + 1, L + 3, L + 4, L + 5, L + 6, L + 7, L + 8, L + 9], @Ne Nat b 292
theorem NeC.b {L I cup dk lf dfr : Nat} (x : NeC L I cup dk lf dfr) : NeB L cup dk lf dfr := ⟨x.k1, x.k2, x.k3, x.k4, x.k5⟩
inductive LJ (w : World) (h₀ : Heap) (L cup r lc lw run dr lf dk : Nat) (o1 o3 o4 o6 o7 od : Obj) (ws xs us : List Value) (l : Int) (t2 : Tok) (wei cal : Str → Option Int) (fA fW : Int → Int) (bd : Int) (tb : Tok) (i : Nat) (m : Str → Option Value) (nx : List (Addr × Obj)) : Prop
  | mk (oc o5 o8 o9 ok : Obj) (ps : Array Value) (fs : List Value) (fr dfr wt : Nat) (es : List DictEntry) (n0 nn : Nat) (n : Int) (t1 tp ta tw : Tok) (pi ab wb : Int) (W : List (Addr × Obj)) (e0 : nx = (cup, oc) :: (dk, ok) :: (lf, LCg.lst (fs ++ [Value.ref fr])) :: (dfr, dictOf es n0) :: (L + 1, o1) :: (L + 3, o3) :: (L + 4, o4) :: (L + 5, o5) :: (L + 6, o6) :: (L + 7, o7) :: (L + 8, o8) :: (L + 9, o9) :: ((292 : Nat), tabObj ps) :: W) (e1 : NeB L cup dk lf dfr) (e2 : Apt [cup, dk, lf, dfr, L + 1, L + 3, L + 4, L + 5, L + 6, L + 7, L + 8, L + 9, 292] W) (e3 : ((r, listOf (List.toArray ws) 0) ∈ W ∧ (lc, LCg.lst xs) ∈ W ∧ (lw, LCg.lst us) ∈ W ∧ (run, instObj 91 dr) ∈ W ∧ (dr, od) ∈ W ∧ Cds W wei cal xs us fA fW)) (e4 : oc.IsDictOf (strKind PySem.Challenge.rw_qz0087_01.row.prog w) (CupKvs r n l t1 t2)) (e5 : 0 ≤ n) (e6 : n ≤ 1000 + 3 * (i : Int)) (e7 : (∃ v, o5.data = .cell v)) (e8 : (∃ v, o8.data = .cell v)) (e9 : (∃ v, o9.data = .cell v)) (e10 : TabG W (dLst w) ps) (e11 : KnP w h₀ W (fun k => 7 ≤ k ∧ k < 7 + (xs.length : Int)) fA fW ok nn) (e12 : nn ≤ 3 * i) (e13 : fs.length ≤ i) (e14 : (fr, instObj 157 dfr) ∈ W) (e15 : FrE es (pi + 880 - bd) wt dk) (e16 : WtP h₀ W wt ab wb) (e17 : 0 ≤ pi) (e18 : pi ≤ 30004 * (i : Int)) (e19 : 0 ≤ ab) (e20 : ab ≤ 30000) (e21 : 0 ≤ wb) (e22 : wb ≤ 30000) (e23 : m (Str.ofString "piled") = some (.int pi tp)) (e24 : m (Str.ofString "about") = some (.int ab ta)) (e25 : m (Str.ofString "whole") = some (.int wb tw)) (e26 : m (Str.ofString "bound") = some (.int bd tb)) : LJ w h₀ L cup r lc lw run dr lf dk o1 o3 o4 o6 o7 od ws xs us l t2 wei cal fA fW bd tb i m nx
theorem str_nPr {prog : Program} {w : World} {o : Obj} {kvs : List (Str × Value)} (h : o.IsDictOf (PySem.strKind prog w) kvs) : ¬ isPr o := fun ⟨_, vs, k, e⟩ => by
  obtain ⟨es, ep, _, hd, _⟩ := h
  rw [hd] at e; cases e
theorem tab_nPr {ps : Array Value} : ¬ isPr (tabObj ps) := fun ⟨_, vs, k, e⟩ => by cases e
theorem totalI {h₀ h : Heap} {L I : Nat} {oI : Obj} {m : Str → Option Value} {E W : List (Addr × Obj)} (F : Fr h₀ L h m) (NI : News h₀ L h ((I, oI) :: E)) (NW : News h₀ L h W) (ap : ∀ q ∈ W, ∀ p ∈ (I, oI) :: E, @Ne Nat q.1 p.1) (hI : ¬ isPr oI) (hE : ∀ p ∈ E, ¬ isPr p.2) :
    ∃ R, News h₀ L h R ∧ (∀ q ∈ W, q ∈ R) ∧ (∀ q ∈ R, ∀ p ∈ (I, oI) :: E, @Ne Nat q.1 p.1) ∧ ∀ wt a b, PrAt h wt a b → WtP h₀ R wt a b := by
  obtain ⟨R, a, b, c, _, d⟩ := total2 F NI NW ap (zc hI hE)
  exact ⟨R, a, b, c, d⟩

set_option maxHeartbeats 4000000 in
theorem turn_j {w : World} {A : Around} {E : Value → Shared → Prop} {s : Shared} {h₀ : Heap} {L fa : Nat} {p : Program} {loose : List Str} {mg mb : Str → Option Value} {o1 o3 o4 o6 o7 : Obj} {wei cal : Str → Option Int} {p' : Program} {loose' : List Str} {mean' : ExcName → Option Value} {mg' mb' : Str → Option Value} {I cup r lc lw run dr lf dk : Nat} {oI od : Obj} {ws xs us : List Value} {row : List Int} {l : Int} {t2 : Tok} {bd : Int} {tb : Tok} {v4 : Option Value} {fA fW : Int → Int} {m : Str → Option Value} {nx : List (Addr × Obj)} {i : Nat} {v : Value}
    (X : (hd.heap_39 w.params).In h₀) (T : TopRead p loose mg mb h₀) (hh : A.handled = none) (hroom : A.depth + 200 < recursionLimit) (hu : A.units + 800 < cLine) (lL : 292 < L) (T' : Top p' loose' mean' mg' mb' h₀) (C : CodeHd h₀ 294 292) (hfr : A.frames = some [lawE w fa L]) (TW : TabI w h₀ 136 wei) (TC : TabI w h₀ 139 cal) (hwe : ∀ x i, wei x = some i → 0 ≤ i ∧ i ≤ 1000) (hca : ∀ x i, cal x = some i → 0 ≤ i ∧ i ≤ 1000)
    (hi : IntsAre ws row) (hl : row.length ≤ 60) (lc9 : L + 9 < cup) (d1 : o1.data = .cell (some (.ref cup))) (d3 : o3.data = .cell (some (.ref lw))) (d4 : o4.data = .cell v4) (d6 : o6.data = .cell (some (.ref lc))) (d7 : o7.data = .cell (some (.ref run))) (x1 : 1 ≤ xs.length) (x3 : xs.length ≤ 3) (xu : us.length = xs.length) (lo : (dk == sysModules) = false) (hlk : lookIn "frames" od = some (some (.ref lf))) (bd0 : 20 ≤ bd) (bd1 : bd ≤ 215) (hi6 : i < 6) (nI : nRec oI) (pI : ¬ isPr oI) (off : ∀ p ∈ nx, @Ne Nat p.1 I) (hJ : LJ w h₀ L cup r lc lw run dr lf dk o1 o3 o4 o6 o7 od ws xs us l t2 wei cal fA fW bd tb i m nx) (F : Fr h₀ L s.heap (fun y => if y = Str.ofString "turn" then some v else m y)) (N : News h₀ L s.heap ((I, oI) :: nx)) :
    wpAny (model PySem.Challenge.rw_qz0087_01.row.prog w) A (execs (loopB w) (lawE w fa L)) (fun f s₂ => (f = .next ∨ f = .cont) ∧ ∃ h' tk' m' nx', s₂ = { s with heap := h', toks := tk' } ∧ Fr h₀ L h' m' ∧ News h₀ L h' ((I, oI) :: nx') ∧ (∀ p ∈ nx', @Ne Nat p.1 I) ∧ LJ w h₀ L cup r lc lw run dr lf dk o1 o3 o4 o6 o7 od ws xs us l t2 wei cal fA fW bd tb (i + 1) m' nx') E s := by
  obtain ⟨oc, o5, o8, o9, ok, ps, fs, fr, dfr, wt, es, n0, nn, n, t1, tp, ta, tw, pi, ab, wb, W, rfl, ne, ap, ⟨hr, hlc, hlw, m5, m6, hC⟩, ho, hn0, hn1, ⟨v5, d5⟩, ⟨v8, d8⟩, ⟨v9, d9⟩, G, hK, hnn, hfs, m3, hE, m4, b1, b2, b3, b4, b7, b8, mP, mA, mH, mB⟩ := hJ
  have neC : NeC L I cup dk lf dfr := ⟨(zd (off _ zm0) (off _ zm1) (off _ zm2) (off _ zm3) (zd (off _ zm4) (off _ zm5) (off _ zm6) (off _ zm7) (zd (off _ zm8) (off _ zm9) (off _ zm10) (off _ zm11) (zc (off _ zm12) zn0)))), ne.k1, ne.k2, ne.k3, ne.k4, ne.k5⟩
  have apC : Apt [I, cup, dk, lf, dfr, L + 1, L + 3, L + 4, L + 5, L + 6, L + 7, L + 8, L + 9, 292] W := fun q hq => zc (off q (zt13 (hq))) (ap q hq)
  refine turn_c X T hh hroom hu lL T' C hfr TW TC hwe hca hi hl lc9 nI d1 d3 d4 d6 d7 x1 x3 (dom := (fun k => 7 ≤ k ∧ k < 7 + (xs.length : Int))) (fun j hj => ⟨by omega, by omega⟩) lo hlk bd0 bd1 hr hlc hlw m5 m6 hC F N neC apC ho hn0 (by omega) d5 d8 d9 G hK (by omega) (by omega) m3 hE m4 b1 (by omega) b3 b4 b7 b8 (by rw [if_neg (by decide)]; exact mP) (by rw [if_neg (by decide)]; exact mA) (by rw [if_neg (by decide)]; exact mH) (by rw [if_neg (by decide)]; exact mB) ⟨?_⟩
  intro f hf h' tk m' oc' ob5 ob8 ob9 ok' fs' fr' dfr' es' n0' nn' ps' pi' ab' wb' wt' t1' tp' ta' tw' W' F' N' ne' ap' sub ho' e5 e8 e9 G' K' z1 z2 m3' hE' P' z3 z4 z5 z6 z7 z8 mP' mA' mH' mB'
  refine ⟨hf, h', tk, m', ?_⟩
  have NI : News h₀ L h' ((I, oI) :: (cup, oc') :: (dk, ok') :: (lf, LCg.lst (fs' ++ [Value.ref fr'])) :: (dfr', dictOf es' n0') :: (L + 1, o1) :: (L + 3, o3) :: (L + 4, o4) :: (L + 5, ob5) :: (L + 6, o6) :: (L + 7, o7) :: (L + 8, ob8) :: (L + 9, ob9) :: ((292 : Nat), tabObj ps') :: []) := News.sub N' ((zd zm0 zm1 zm2 zm3 (zd zm4 zm5 zm6 zm7 (zd zm8 zm9 zm10 zm11 (zc zm12 (zc zm13 zn0))))))
  have NW : News h₀ L h' W' := News.sub N' fun q hq => zt14 (hq)
  obtain ⟨v5', e5'⟩ := e5
  obtain ⟨v8', e8'⟩ := e8
  obtain ⟨v9', e9'⟩ := e9
  obtain ⟨R, NR, wr, apR, wtR⟩ := totalI F' NI NW (fun q hq => (zd (ap' q hq _ zm0) (ap' q hq _ zm1) (ap' q hq _ zm2) (ap' q hq _ zm3) (zd (ap' q hq _ zm4) (ap' q hq _ zm5) (ap' q hq _ zm6) (ap' q hq _ zm7) (zd (ap' q hq _ zm8) (ap' q hq _ zm9) (ap' q hq _ zm10) (ap' q hq _ zm11) (zc (ap' q hq _ zm12) (zc (ap' q hq _ zm13) zn0)))))) pI ((zd (str_nPr ho') (kn_nPr K') list_nPr dict_nPr (zd (cell_nPr d1) (cell_nPr d3) (cell_nPr d4) (cell_nPr e5') (zd (cell_nPr d6) (cell_nPr d7) (cell_nPr e8') (cell_nPr e9') (zc tab_nPr zn0)))))
  refine ⟨(cup, oc') :: (dk, ok') :: (lf, LCg.lst (fs' ++ [Value.ref fr'])) :: (dfr', dictOf es' n0') :: (L + 1, o1) :: (L + 3, o3) :: (L + 4, o4) :: (L + 5, ob5) :: (L + 6, o6) :: (L + 7, o7) :: (L + 8, ob8) :: (L + 9, ob9) :: ((292 : Nat), tabObj ps') :: R, rfl, F', ?_, ?_, ⟨oc', ob5, ob8, ob9, ok', ps', fs', fr', dfr', wt', es', n0', nn', n + 3, t1', tp', ta', tw', pi', ab', wb', R, rfl, ne'.b, fun q hq => (zd (apR q hq _ zm1) (apR q hq _ zm2) (apR q hq _ zm3) (apR q hq _ zm4) (zd (apR q hq _ zm5) (apR q hq _ zm6) (apR q hq _ zm7) (apR q hq _ zm8) (zd (apR q hq _ zm9) (apR q hq _ zm10) (apR q hq _ zm11) (apR q hq _ zm12) (zc (apR q hq _ zm13) zn0)))), ⟨wr _ (sub _ hr), wr _ (sub _ hlc), wr _ (sub _ hlw), wr _ (sub _ m5), wr _ (sub _ m6), hC.mono fun q hq => wr _ (sub q hq)⟩, ho', by omega, by omega, ⟨_, e5'⟩, ⟨_, e8'⟩, ⟨_, e9'⟩, G'.mono wr, K'.pool wtR, by omega, by omega, wr _ m3', hE', wtR _ _ _ P', z3, by omega, z5, z6, z7, z8, mP', mA', mH', mB'⟩⟩
  · refine (zd (NI _ zm0) (NI _ zm1) (NI _ zm2) (NI _ zm3) (zd (NI _ zm4) (NI _ zm5) (NI _ zm6) (NI _ zm7) (zd (NI _ zm8) (NI _ zm9) (NI _ zm10) (NI _ zm11) (zc (NI _ zm12) (zc (NI _ zm13) (fun q hq => NR q hq))))))
  · refine (zd (ne'.k0 _ zm0) (ne'.k0 _ zm1) (ne'.k0 _ zm2) (ne'.k0 _ zm3) (zd (ne'.k0 _ zm4) (ne'.k0 _ zm5) (ne'.k0 _ zm6) (ne'.k0 _ zm7) (zd (ne'.k0 _ zm8) (ne'.k0 _ zm9) (ne'.k0 _ zm10) (ne'.k0 _ zm11) (zc (ne'.k0 _ zm12) (fun q hq => apR q hq _ (.head _))))))
-- SgL
noncomputable def forNm : Stmt → Expr
  | .For t _ _ _ _ => t
  | _ => default
noncomputable def forIt : Stmt → Expr
  | .For _ i _ _ _ => i
  | _ => default
noncomputable def forPs : Stmt → Pos
  | .For _ _ _ _ p => p
  | _ => default
noncomputable def nmPs : Expr → Pos
  | .Name _ p => p
  | _ => default
theorem for13 (w : World) : nthS (lawB w) 13 = .For (.Name (Str.ofString "turn") (nmPs (forNm (nthS (lawB w) 13)))) (forIt (nthS (lawB w) 13)) (loopB w) [] (forPs (nthS (lawB w) 13)) := rfl

theorem six {v : Int} (h0 : 0 ≤ v) (h1 : v < 6) : v = 0 ∨ v = 1 ∨ v = 2 ∨ v = 3 ∨ v = 4 ∨ v = 5 := by
  obtain ⟨k, rfl⟩ := Int.eq_ofNat_of_zero_le h0
  exact (by decide : ∀ k : Nat, k < 6 → ((k : Int) = 0 ∨ (k : Int) = 1 ∨ (k : Int) = 2 ∨ (k : Int) = 3 ∨ (k : Int) = 4 ∨ (k : Int) = 5)) k (Int.ofNat_lt.mp h1)
set_option maxHeartbeats 8000000 in
theorem segL0 {w : World} {A : Around} {E : Value → Shared → Prop} {Q : Value → Shared → Prop} {s : Shared} {h₀ : Heap} {L fa : Nat} {p : Program} {loose : List Str} {mg mb : Str → Option Value} {o1 : Obj} {W : List (Addr × Obj)} {cup r : Nat} {oc : Obj} {ws : List Value} {row : List Int} {n l : Int} {t1 t2 : Tok} {m : Str → Option Value}
    (X : (hd.heap_39 w.params).In h₀) (T : TopRead p loose mg mb h₀) (hh : A.handled = none) (hroom : A.depth + 200 < recursionLimit) (hu : A.units + 800 < cLine) (lL : 292 < L) (F : Fr h₀ L s.heap m) (N : News h₀ L s.heap ((cup, oc) :: (L + 1, o1) :: W)) (ap : Apt [cup] W) (lc9 : L + 9 < cup) (ho : oc.IsDictOf (strKind PySem.Challenge.rw_qz0087_01.row.prog w) (CupKvs r n l t1 t2)) (hr : (r, listOf (List.toArray ws) 0) ∈ W) (hi : IntsAre ws row) (hl : row.length ≤ 60) (n0 : 0 ≤ n) (n1 : n ≤ 5000)
    (d1 : o1.data = .cell (some (.ref cup)))
    (h : Hid (∀ h' tk oc' (ra : Addr) (val : Int) t1' tt tu tv, Fr h₀ L h' m → News h₀ L h' ((cup, oc') :: (L + 1, o1) :: W) → IsRange h' ra 0 (1 + val) 1 tt tu tv → 0 ≤ val → val < 6 → oc'.IsDictOf (strKind PySem.Challenge.rw_qz0087_01.row.prog w) (CupKvs r (n + 1) l t1' t2) → Q (.ref ra) { s with heap := h', toks := tk })) :
    wpAny (model PySem.Challenge.rw_qz0087_01.row.prog w) A (eval (forIt (nthS (lawB w) 13)) (lawE w fa L)) Q E s := by
  have eE : lawE w fa L = envOfC (Str.ofString "law") (lawFd w).scope L fa (.ref 294) := rfl
  conv at eE in (FuncData.scope _) => whnf
  rw [eE]
  conv in (forIt _) => whnf
  k_steps
  rename_i val h1 tk1 oc1 tq1 tv1 v0 v1 F1 N1 ho1 h2 tk2 t3 u3 v3 hr2 F2 N2 keep2
  have z6 := fun tk => h.out h2 tk oc1 _ val tq1 t3 u3 v3 F2 N2 hr2 v0 v1 ho1
  dsimp only
  exact z6 _
set_option maxHeartbeats 8000000 in
theorem segL {w : World} {A : Around} {E : Value → Shared → Prop} {Q : Flow → Shared → Prop} {s : Shared} {h₀ : Heap} {L fa : Nat} {p : Program} {loose : List Str} {mg mb : Str → Option Value} {o1 o3 o4 o6 o7 : Obj} {rest : List Stmt} {wei cal : Str → Option Int} {p' : Program} {loose' : List Str} {mean' : ExcName → Option Value} {mg' mb' : Str → Option Value} {cup r lc lw run dr lf dk : Nat} {od oc o5 o8 o9 ok : Obj} {ws xs us : List Value} {row : List Int} {l : Int} {t2 : Tok} {bd : Int} {tb : Tok} {v4 : Option Value} {fA fW : Int → Int} {m : Str → Option Value} {W : List (Addr × Obj)} {fr dfr wt : Nat} {es : List DictEntry} {n0 : Nat} {n ab wb : Int} {t1 tp ta tw : Tok} {v5 v8 v9 : Option Value}
    (X : (hd.heap_39 w.params).In h₀) (T : TopRead p loose mg mb h₀) (hh : A.handled = none) (hroom : A.depth + 200 < recursionLimit) (hu : A.units + 800 < cLine) (lL : 292 < L) (T' : Top p' loose' mean' mg' mb' h₀) (C : CodeHd h₀ 294 292) (hfr : A.frames = some [lawE w fa L]) (TW : TabI w h₀ 136 wei) (TC : TabI w h₀ 139 cal) (hwe : ∀ x i, wei x = some i → 0 ≤ i ∧ i ≤ 1000) (hca : ∀ x i, cal x = some i → 0 ≤ i ∧ i ≤ 1000)
    (hi : IntsAre ws row) (hl : row.length ≤ 60) (lc9 : L + 9 < cup) (d1 : o1.data = .cell (some (.ref cup))) (d3 : o3.data = .cell (some (.ref lw))) (d4 : o4.data = .cell v4) (d6 : o6.data = .cell (some (.ref lc))) (d7 : o7.data = .cell (some (.ref run))) (x1 : 1 ≤ xs.length) (x3 : xs.length ≤ 3) (xu : us.length = xs.length) (lo : (dk == sysModules) = false) (hlk : lookIn "frames" od = some (some (.ref lf))) (bd0 : 20 ≤ bd) (bd1 : bd ≤ 215) (F : Fr h₀ L s.heap m) (N : News h₀ L s.heap ((cup, oc) :: (dk, ok) :: (lf, LCg.lst ([] ++ [Value.ref fr])) :: (dfr, dictOf es n0) :: (L + 1, o1) :: (L + 3, o3) :: (L + 4, o4) :: (L + 5, o5) :: (L + 6, o6) :: (L + 7, o7) :: (L + 8, o8) :: (L + 9, o9) :: ((292 : Nat), tabObj #[]) :: W)) (ne : NeB L cup dk lf dfr) (ap : Apt [cup, dk, lf, dfr, L + 1, L + 3, L + 4, L + 5, L + 6, L + 7, L + 8, L + 9, 292] W) (hr : (r, listOf (List.toArray ws) 0) ∈ W) (hlc : (lc, LCg.lst xs) ∈ W) (hlw : (lw, LCg.lst us) ∈ W) (m5 : (run, instObj 91 dr) ∈ W) (m6 : (dr, od) ∈ W) (hC : Cds W wei cal xs us fA fW)
    (ho : oc.IsDictOf (strKind PySem.Challenge.rw_qz0087_01.row.prog w) (CupKvs r n l t1 t2)) (hn0 : 0 ≤ n) (hn1 : n ≤ 900) (d5 : o5.data = .cell v5) (d8 : o8.data = .cell v8) (d9 : o9.data = .cell v9) (hok : ok.IsDictOf (intKind PySem.Challenge.rw_qz0087_01.row.prog w) []) (m3 : (fr, instObj 157 dfr) ∈ W) (hE : FrE es (880 - bd) wt dk) (m4 : WtP h₀ W wt ab wb) (b3 : 0 ≤ ab) (b4 : ab ≤ 30000) (b7 : 0 ≤ wb) (b8 : wb ≤ 30000)
    (mP : m (Str.ofString "piled") = some (.int 0 tp)) (mA : m (Str.ofString "about") = some (.int ab ta)) (mH : m (Str.ofString "whole") = some (.int wb tw)) (mB : m (Str.ofString "bound") = some (.int bd tb))
    (h : Hid (∀ h' tk m' nx k, k ≤ 6 → Fr h₀ L h' m' → News h₀ L h' nx → LJ w h₀ L cup r lc lw run dr lf dk o1 o3 o4 o6 o7 od ws xs us l t2 wei cal fA fW bd tb k m' nx → wpAny (model PySem.Challenge.rw_qz0087_01.row.prog w) A (execs rest (lawE w fa L)) Q (fun _ _ => False) { s with heap := h', toks := tk })) :
    wpAny (model PySem.Challenge.rw_qz0087_01.row.prog w) A (execs (nthS (lawB w) 13 :: rest) (lawE w fa L)) Q E s := by
  refine wpAny_noRaise ?_
  rw [for13 w]
  have eE : lawE w fa L = envOfC (Str.ofString "law") (lawFd w).scope L fa (.ref 294) := rfl
  refine wpAny_execs_cons ?_
  refine For_invV h₀ rfl rfl ?_
  refine segL0 (W := (dk, ok) :: (lf, LCg.lst ([] ++ [Value.ref fr])) :: (dfr, dictOf es n0) :: (L + 3, o3) :: (L + 4, o4) :: (L + 5, o5) :: (L + 6, o6) :: (L + 7, o7) :: (L + 8, o8) :: (L + 9, o9) :: ((292 : Nat), tabObj #[]) :: W) X T hh hroom hu lL F (News.sub N ((zd zm0 zm4 zm1 zm2 (zd zm3 zm5 zm6 zm7 (zd zm8 zm9 zm10 zm11 (zc zm12 (fun q hq => zt13 (hq)))))))) (Apt.cons ((zc ((ne.k1 _ zm0).symm) zn0)) (Apt.cons ((zc ((ne.k2 _ zm0).symm) zn0)) (Apt.cons ((zc ((ne.k3 _ zm0).symm) zn0)) (Apt.cons ((zc (ne.k4 _ zm1) zn0)) (Apt.cons ((zc (ne.k4 _ zm2) zn0)) (Apt.cons ((zc (ne.k4 _ zm3) zn0)) (Apt.cons ((zc (ne.k4 _ zm4) zn0)) (Apt.cons ((zc (ne.k4 _ zm5) zn0)) (Apt.cons ((zc (ne.k4 _ zm6) zn0)) (Apt.cons ((zc (ne.k4 _ zm7) zn0)) (Apt.cons ((zc (ne.k4 _ zm8) zn0)) (Apt.subl ap ((zc zm0 zn0)))))))))))))) lc9 ho (zt11 (hr)) hi hl hn0 (by omega) d1 ⟨fun h1 tk1 oc1 ra val t11 tt tu tv F1 N1 hr1 v0 v1 ho1 => ?_⟩
  have hv := six v0 v1
  have hrng : Builtin.Range.small 0 (1+val) 1 = true ∧ Builtin.Range.rangeSize 0 (1+val) 1 = (((1+val).toNat : Nat) : Int) := by rcases hv with rfl | rfl | rfl | rfl | rfl | rfl <;> exact ⟨by decide, by decide⟩
  have hk6 : (1+val).toNat ≤ 6 := by omega
  have N2 : News h₀ L h1 ((cup, oc1) :: (dk, ok) :: (lf, LCg.lst ([] ++ [Value.ref fr])) :: (dfr, dictOf es n0) :: (L + 1, o1) :: (L + 3, o3) :: (L + 4, o4) :: (L + 5, o5) :: (L + 6, o6) :: (L + 7, o7) :: (L + 8, o8) :: (L + 9, o9) :: ((292 : Nat), tabObj #[]) :: W) := News.sub N1 ((zd zm0 zm2 zm3 zm4 (zd zm1 zm5 zm6 zm7 (zd zm8 zm9 zm10 zm11 (zc zm12 (fun q hq => zt13 (hq)))))))
  refine range_turns (LJ w h₀ L cup r lc lw run dr lf dk o1 o3 o4 o6 o7 od ws xs us l t2 wei cal fA fW bd tb) hh hr1 hrng.1 (n := (1+val).toNat) hrng.2 F1 N2 ⟨oc1, o5, o8, o9, ok, #[], [], fr, dfr, wt, es, n0, 0, n + 1, t11, tp, ta, tw, 0, ab, wb, W, rfl, ne, ap, ⟨hr, hlc, hlw, m5, m6, hC⟩, ho1, by omega, by omega, ⟨_, d5⟩, ⟨_, d8⟩, ⟨_, d9⟩, ⟨trivial, fun q hq v hv => by simp [codeAmong] at hv⟩, ⟨⟨[], hok, Nat.le_refl _, fun k v hm => nomatch hm⟩⟩, Nat.zero_le _, Nat.zero_le _, m3, by rw [show (0 : Int) + 880 - bd = 880 - bd by omega]; exact hE, m4, Int.le_refl _, by omega, b3, b4, b7, b8, mP, mA, mH, mB⟩ (fun i v m₁ nx h2 tk2 I oI hi2 off nI pI hJ F2 N2 => ?turn) (fun m₁ nx h2 tk2 hJ F2 N2 => ?done)
  case turn => exact turn_j (s := { s with heap := h2, toks := tk2 }) X T hh hroom hu lL T' C hfr TW TC hwe hca hi hl lc9 d1 d3 d4 d6 d7 x1 x3 xu lo hlk bd0 bd1 (by omega) nI pI off hJ F2 N2
  case done => exact h.out h2 tk2 m₁ nx _ hk6 F2 N2 hJ
-- LawW
theorem zcc {L i cup : Nat} (h : L + 9 < cup) (hi : i ≤ 9) : @Ne Nat (L + i) cup := by omega
theorem zc2 {L cup : Nat} (h : 292 < L) (h2 : L + 9 < cup) : @Ne Nat 292 cup := by omega
theorem zc3 {L i : Nat} (h : 292 < L) : @Ne Nat (L + i) 292 := by omega
theorem lawB16 (w : World) : lawB w = [nthS (lawB w) 0, nthS (lawB w) 1, nthS (lawB w) 2, nthS (lawB w) 3, nthS (lawB w) 4, nthS (lawB w) 5, nthS (lawB w) 6, nthS (lawB w) 7, nthS (lawB w) 8, nthS (lawB w) 9, nthS (lawB w) 10, nthS (lawB w) 11, nthS (lawB w) 12, nthS (lawB w) 13, nthS (lawB w) 14, nthS (lawB w) 15] := rfl
set_option maxHeartbeats 8000000 in
theorem law_w {w : World} {A : Around} {E : Value → Shared → Prop} {Q : Flow → Shared → Prop} {s : Shared} {h₀ : Heap} {L fa sa : Nat} {p : Program} {loose : List Str} {mean : ExcName → Option Value} {mg mb : Str → Option Value} {o1 o2 o3 o4 o5 o6 o7 o8 o9 : Obj} {vs : List Value} {row : List Int}
    (X : (hd.heap_39 w.params).In h₀) (T' : Top p loose mean mg mb h₀) (C : CodeHd h₀ 294 292) (hh : A.handled = none) (hroom : A.depth + 200 < recursionLimit) (hu : A.units + 800 < cLine) (lL : 292 < L) (hfr : A.frames = some [lawE w fa L]) (F : Fr h₀ L s.heap (fun y => if y = Str.ofString "script" then some (.ref sa) else none))
    (N : News h₀ L s.heap ((L + 9, o9) :: (L + 8, o8) :: (L + 7, o7) :: (L + 6, o6) :: (L + 5, o5) :: (L + 4, o4) :: (L + 3, o3) :: (L + 2, o2) :: (L + 1, o1) :: ((292 : Nat), tabObj #[]) :: [])) (hsa : h₀.IsList sa vs.toArray) (hi : IntsAre vs row) (hl : row.length ≤ 63) (d1 : o1.data = .cell none) (d2 : o2.data = .cell none) (d3 : o3.data = .cell none) (d4 : o4.data = .cell none) (d5 : o5.data = .cell none) (d6 : o6.data = .cell none) (d7 : o7.data = .cell none) (d8 : o8.data = .cell none) (d9 : o9.data = .cell none)
    (hq : ∀ h' tk m' ps, Fr h₀ L h' m' → h'.get? (292 : Nat) = some (tabObj ps) → Q (.ret (.bool true)) { s with heap := h', toks := tk }) :
    wpAny (model PySem.Challenge.rw_qz0087_01.row.prog w) A (execs (lawB w) (lawE w fa L)) Q E s := by
  have T := topRead_of T'
  obtain ⟨wei, cal, TW, TC, hwe, hca⟩ := tabs_exB X
  have hweA : ∀ x i, wei x = some i → 0 ≤ i := fun x i e => (hwe x i e).1
  have hcaA : ∀ x i, cal x = some i → 0 ≤ i := fun x i e => (hca x i e).1
  rw [lawB16 w]
  refine segA  X T hh hroom hu lL F N hsa hi hl d1 ⟨fun h1 tk1 o1' cup r oc ws row1 n l t1 t2 vm lm Z F1 N1 ap1 lc sm ho hr hi1 hl1 n0 n1 d1' B1 => ?_⟩
  refine segB  (sa := 0) X T hh hroom hu lL F1 N1 ap1 lc sm ho hr hi1 hl1 n0 n1 d1' d2 B1 ⟨fun h2 tk2 o2' lb oc2 ys ls n2 l2 t12 t22 Z2 F2 N2 ap2 sub2 ho2 n20 n21 d2' mlb bks y1 y3 => ?_⟩
  refine segC  (sa := 0) X T hh hroom hu lL TW TC hweA hcaA F2 N2 ap2 lc sm ho2 (sub2 _ hr) hi1 hl1 n20 n21 d1' (B1.mono sub2) ⟨fun h3 tk3 oc3 bd tb l3 t13 F3 N3 ho3 b0 b1 => ?_⟩
  refine segD  (sa := 0) X T hh hroom hu lL TW TC hweA hcaA F3 N3 ap2 lc sm ho3 (sub2 _ hr) hi1 hl1 (by omega) (B1.mono sub2) d7 b0 b1 ⟨fun h4 tk4 o7' run dr lf fr dfr dk wt od es nd0 ok Z3 F4 N4 ap sub3 q1 q2 q3 m5 m6 hlk m3 mw hE hok lo d7' => ?_⟩
  have sub := fun q hq => sub3 q (sub2 q hq)
  clear N N1 N2 N3 F F1 F2 F3 ap1 ap2
  refine segE (sa := 0) (o1 := o4) (o3 := o4) (o4 := o4) (o5 := o4) (o7 := o4) (o8 := o4) (o9 := o4) (ot := o4) (W := (lf, LCg.lst [.ref fr]) :: (dfr, dictOf es nd0) :: (dk, ok) :: (cup, oc3) :: (L + 9, o9) :: (L + 8, o8) :: (L + 7, o7') :: (L + 5, o5) :: (L + 4, o4) :: (L + 3, o3) :: (L + 1, o1') :: ((292 : Nat), tabObj #[]) :: Z3) X T hh hroom hu lL F4 (News.sub N4 ((zd zm11 zm7 zm0 zm1 (zd zm2 zm3 zm4 zm5 (zd zm6 zm8 zm9 zm10 (zc zm12 (zc zm13 (fun q hq => zt14 (hq))))))))) (Apt.cons ((zc (q1 _ zm8) (zc (q1 _ zm4) zn0))) (Apt.cons ((zc (q2 _ zm9) (zc (q2 _ zm5) zn0))) (Apt.cons ((zc (q3 _ zm10) (zc (q3 _ zm6) zn0))) (Apt.cons ((zc ((zcc lc (by decide : (2 : Nat) ≤ 9)).symm) (zc ((zcc lc (by decide : (6 : Nat) ≤ 9)).symm) zn0))) (Apt.cons ((zc (cell_ne (L := L) (by decide : (9 : Nat) ≠ 2)) (zc (cell_ne (L := L) (by decide : (9 : Nat) ≠ 6)) zn0))) (Apt.cons ((zc (cell_ne (L := L) (by decide : (8 : Nat) ≠ 2)) (zc (cell_ne (L := L) (by decide : (8 : Nat) ≠ 6)) zn0))) (Apt.cons ((zc (cell_ne (L := L) (by decide : (7 : Nat) ≠ 2)) (zc (cell_ne (L := L) (by decide : (7 : Nat) ≠ 6)) zn0))) (Apt.cons ((zc (cell_ne (L := L) (by decide : (5 : Nat) ≠ 2)) (zc (cell_ne (L := L) (by decide : (5 : Nat) ≠ 6)) zn0))) (Apt.cons ((zc (cell_ne (L := L) (by decide : (4 : Nat) ≠ 2)) (zc (cell_ne (L := L) (by decide : (4 : Nat) ≠ 6)) zn0))) (Apt.cons ((zc (cell_ne (L := L) (by decide : (3 : Nat) ≠ 2)) (zc (cell_ne (L := L) (by decide : (3 : Nat) ≠ 6)) zn0))) (Apt.cons ((zc (cell_ne (L := L) (by decide : (1 : Nat) ≠ 2)) (zc (cell_ne (L := L) (by decide : (1 : Nat) ≠ 6)) zn0))) (Apt.cons ((zc ((zc3 lL (i := 2)).symm) (zc ((zc3 lL (i := 6)).symm) zn0))) (Apt.subl ap ((zc zm11 (zc zm7 zn0)))))))))))))))) d2' d6 (zt12 (sub3 _ mlb)) y1 y3 ⟨fun h5 tk5 o6' lc5 xs Y1 F5 N5 aY1 mlc d6' xl hxs => ?_⟩
  have ap5 : Apt [lf, dfr, dk, cup, L + 9, L + 8, L + 7, L + 6, L + 5, L + 4, L + 3, L + 2, L + 1, 292] (Y1 ++ Z3) := fun q hq => (List.mem_append.mp hq).elim (fun h => (zd (aY1 q h _ zm2) (aY1 q h _ zm3) (aY1 q h _ zm4) (aY1 q h _ zm5) (zd (aY1 q h _ zm6) (aY1 q h _ zm7) (aY1 q h _ zm8) (aY1 q h _ zm1) (zd (aY1 q h _ zm9) (aY1 q h _ zm10) (aY1 q h _ zm11) (aY1 q h _ zm0) (zc (aY1 q h _ zm12) (zc (aY1 q h _ zm13) zn0)))))) (ap q)
  replace N5 : News h₀ L h5 ((lf, LCg.lst [.ref fr]) :: (dfr, dictOf es nd0) :: (dk, ok) :: (cup, oc3) :: (L + 9, o9) :: (L + 8, o8) :: (L + 7, o7') :: (L + 6, o6') :: (L + 5, o5) :: (L + 4, o4) :: (L + 3, o3) :: (L + 2, o2') :: (L + 1, o1') :: ((292 : Nat), tabObj #[]) :: (Y1 ++ Z3)) := News.sub N5 ((zd (zt2 (List.mem_append_right _ zm0)) (zt2 (List.mem_append_right _ zm1)) (zt2 (List.mem_append_right _ zm2)) (zt2 (List.mem_append_right _ zm3)) (zd (zt2 (List.mem_append_right _ zm4)) (zt2 (List.mem_append_right _ zm5)) (zt2 (List.mem_append_right _ zm6)) zm1 (zd (zt2 (List.mem_append_right _ zm7)) (zt2 (List.mem_append_right _ zm8)) (zt2 (List.mem_append_right _ zm9)) zm0 (zc (zt2 (List.mem_append_right _ zm10)) (zc (zt2 (List.mem_append_right _ zm11)) (fun q hq => (List.mem_append.mp hq).elim (fun h => zt2 (List.mem_append_left _ h)) (fun h => zt2 (List.mem_append_right _ (zt12 (h)))))))))))
  clear N4 F4
  refine segF (sa := 0) (o1 := o4) (o4 := o4) (o5 := o4) (o6 := o4) (o7 := o4) (o8 := o4) (o9 := o4) (ot := o4) (W := (lf, LCg.lst [.ref fr]) :: (dfr, dictOf es nd0) :: (dk, ok) :: (cup, oc3) :: (L + 9, o9) :: (L + 8, o8) :: (L + 7, o7') :: (L + 6, o6') :: (L + 5, o5) :: (L + 4, o4) :: (L + 1, o1') :: ((292 : Nat), tabObj #[]) :: (Y1 ++ Z3)) X T hh hroom hu lL TW TC hweA hcaA F5 (News.sub N5 ((zd zm11 zm10 zm0 zm1 (zd zm2 zm3 zm4 zm5 (zd zm6 zm7 zm8 zm9 (zc zm12 (zc zm13 (fun q hq => zt14 (hq))))))))) (Apt.cons ((zc (q1 _ zm8) (zc (q1 _ zm7) zn0))) (Apt.cons ((zc (q2 _ zm9) (zc (q2 _ zm8) zn0))) (Apt.cons ((zc (q3 _ zm10) (zc (q3 _ zm9) zn0))) (Apt.cons ((zc ((zcc lc (by decide : (2 : Nat) ≤ 9)).symm) (zc ((zcc lc (by decide : (3 : Nat) ≤ 9)).symm) zn0))) (Apt.cons ((zc (cell_ne (L := L) (by decide : (9 : Nat) ≠ 2)) (zc (cell_ne (L := L) (by decide : (9 : Nat) ≠ 3)) zn0))) (Apt.cons ((zc (cell_ne (L := L) (by decide : (8 : Nat) ≠ 2)) (zc (cell_ne (L := L) (by decide : (8 : Nat) ≠ 3)) zn0))) (Apt.cons ((zc (cell_ne (L := L) (by decide : (7 : Nat) ≠ 2)) (zc (cell_ne (L := L) (by decide : (7 : Nat) ≠ 3)) zn0))) (Apt.cons ((zc (cell_ne (L := L) (by decide : (6 : Nat) ≠ 2)) (zc (cell_ne (L := L) (by decide : (6 : Nat) ≠ 3)) zn0))) (Apt.cons ((zc (cell_ne (L := L) (by decide : (5 : Nat) ≠ 2)) (zc (cell_ne (L := L) (by decide : (5 : Nat) ≠ 3)) zn0))) (Apt.cons ((zc (cell_ne (L := L) (by decide : (4 : Nat) ≠ 2)) (zc (cell_ne (L := L) (by decide : (4 : Nat) ≠ 3)) zn0))) (Apt.cons ((zc (cell_ne (L := L) (by decide : (1 : Nat) ≠ 2)) (zc (cell_ne (L := L) (by decide : (1 : Nat) ≠ 3)) zn0))) (Apt.cons ((zc ((zc3 lL (i := 2)).symm) (zc ((zc3 lL (i := 3)).symm) zn0))) (Apt.subl ap5 ((zc zm11 (zc zm10 zn0)))))))))))))))) d2' d3 (zt12 (List.mem_append_right _ (sub3 _ mlb))) (bks.mono fun q hq => zt12 (List.mem_append_right _ (sub3 q hq))) y1 y3 ⟨fun h6 tk6 o3' lw us Y2 F6 N6 aY2 mlw d3' ul wts => ?_⟩
  have ap6 : Apt [lf, dfr, dk, cup, L + 9, L + 8, L + 7, L + 6, L + 5, L + 4, L + 3, L + 2, L + 1, 292] (Y2 ++ (Y1 ++ Z3)) := fun q hq => (List.mem_append.mp hq).elim (fun h => (zd (aY2 q h _ zm2) (aY2 q h _ zm3) (aY2 q h _ zm4) (aY2 q h _ zm5) (zd (aY2 q h _ zm6) (aY2 q h _ zm7) (aY2 q h _ zm8) (aY2 q h _ zm9) (zd (aY2 q h _ zm10) (aY2 q h _ zm11) (aY2 q h _ zm1) (aY2 q h _ zm0) (zc (aY2 q h _ zm12) (zc (aY2 q h _ zm13) zn0)))))) (ap5 q)
  replace N6 : News h₀ L h6 ((lf, LCg.lst [.ref fr]) :: (dfr, dictOf es nd0) :: (dk, ok) :: (cup, oc3) :: (L + 9, o9) :: (L + 8, o8) :: (L + 7, o7') :: (L + 6, o6') :: (L + 5, o5) :: (L + 4, o4) :: (L + 3, o3') :: (L + 2, o2') :: (L + 1, o1') :: ((292 : Nat), tabObj #[]) :: (Y2 ++ (Y1 ++ Z3))) := News.sub N6 ((zd (zt2 (List.mem_append_right _ zm0)) (zt2 (List.mem_append_right _ zm1)) (zt2 (List.mem_append_right _ zm2)) (zt2 (List.mem_append_right _ zm3)) (zd (zt2 (List.mem_append_right _ zm4)) (zt2 (List.mem_append_right _ zm5)) (zt2 (List.mem_append_right _ zm6)) (zt2 (List.mem_append_right _ zm7)) (zd (zt2 (List.mem_append_right _ zm8)) (zt2 (List.mem_append_right _ zm9)) zm1 zm0 (zc (zt2 (List.mem_append_right _ zm10)) (zc (zt2 (List.mem_append_right _ zm11)) (fun q hq => (List.mem_append.mp hq).elim (fun h => zt2 (List.mem_append_left _ h)) (fun h => zt2 (List.mem_append_right _ (zt12 (h)))))))))))
  have sZ : ∀ q ∈ Z3, q ∈ Y2 ++ (Y1 ++ Z3) := fun q hq => List.mem_append_right _ (List.mem_append_right _ hq)
  have sY : ∀ q ∈ Y1, q ∈ Y2 ++ (Y1 ++ Z3) := fun q hq => List.mem_append_right _ (List.mem_append_left _ hq)
  clear N5 F5
  refine segG (o1 := o4) (o2 := o4) (o3 := o4) (o4 := o4) (o5 := o4) (o6 := o4) (o7 := o4) (o8 := o4) (o9 := o4) (ot := o4) (sa := 0) X T hh hroom hu lL TW TC hweA hcaA F6 N6 (B1.mono fun q hq => zt14 (sZ q (sub q hq))) ⟨fun h7 tk7 t7 t8 t9 F7 N7 => ?_⟩
  clear N6 F6
  have bb := bw_bd2 hwe hca B1.dep
  have hxu : us.length = xs.length := by omega
  have neB : NeB L cup dk lf dfr := ⟨(zd ((q3 _ zm2).symm) ((q3 _ zm1).symm) ((q3 _ zm0).symm) ((q3 _ zm11).symm) (zd ((q3 _ zm9).symm) ((q3 _ zm8).symm) ((q3 _ zm7).symm) ((q3 _ zm6).symm) (zd ((q3 _ zm5).symm) ((q3 _ zm4).symm) ((q3 _ zm3).symm) ((q3 _ zm12).symm) zn0))), (zd ((q1 _ zm0).symm) (q2 _ zm0) ((q1 _ zm9).symm) ((q1 _ zm7).symm) (zd ((q1 _ zm6).symm) ((q1 _ zm5).symm) ((q1 _ zm4).symm) ((q1 _ zm3).symm) (zc ((q1 _ zm2).symm) (zc ((q1 _ zm1).symm) (zc ((q1 _ zm10).symm) zn0))))), (zd ((q2 _ zm1).symm) ((q2 _ zm10).symm) ((q2 _ zm8).symm) ((q2 _ zm7).symm) (zd ((q2 _ zm6).symm) ((q2 _ zm5).symm) ((q2 _ zm4).symm) ((q2 _ zm3).symm) (zc ((q2 _ zm2).symm) (zc ((q2 _ zm11).symm) zn0)))), (zd (zcc lc (by decide : (1 : Nat) ≤ 9)) (zcc lc (by decide : (3 : Nat) ≤ 9)) (zcc lc (by decide : (4 : Nat) ≤ 9)) (zcc lc (by decide : (5 : Nat) ≤ 9)) (zd (zcc lc (by decide : (6 : Nat) ≤ 9)) (zcc lc (by decide : (7 : Nat) ≤ 9)) (zcc lc (by decide : (8 : Nat) ≤ 9)) (zcc lc (by decide : (9 : Nat) ≤ 9)) (zc (zc2 lL lc) zn0))), (zd (zc3 lL (i := 1)) (zc3 lL (i := 3)) (zc3 lL (i := 4)) (zc3 lL (i := 5)) (zd (zc3 lL (i := 6)) (zc3 lL (i := 7)) (zc3 lL (i := 8)) (zc3 lL (i := 9)) zn0))⟩
  have hl0 : ls.length = ys.length := bks.1.symm
  have hC : Cds (Y2 ++ (Y1 ++ Z3)) wei cal xs us (fun k => bwA wei cal (ls.getD (k - 7).toNat .nil)) (fun k => bwW wei cal (ls.getD (k - 7).toNat .nil)) := fun j hj => by
    have hxj : xs[j]? = some xs[j] := List.getElem?_eq_getElem hj
    obtain ⟨cd, blk, e1, e2, e3⟩ := hxs j _ hxj
    have hju : j < us.length := by omega
    have hjl : j < ls.length := by omega
    have hlj : ls[j]? = some ls[j] := List.getElem?_eq_getElem hjl
    obtain ⟨u, u1, u2, u3, e4, e5⟩ := wts j _ _ (List.getElem?_eq_getElem hju) hlj
    have e6 : (7 + (j : Int) - 7).toNat = j := by omega
    have e7 : ls.getD j .nil = ls[j] := by rw [List.getD_eq_getElem?_getD, hlj]; rfl
    refine ⟨cd, blk, ls[j], u, u1, u2, u3, by rw [hxj, e1], e3.mono sY, (bks.2 j _ _ e2 hlj).mono fun q hq => sZ q (sub3 q hq), by rw [List.getElem?_eq_getElem hju, e4], List.mem_append_left _ e5, ?_, ?_⟩
    · show bwA wei cal (ls.getD (7 + (j : Int) - 7).toNat .nil) = _
      rw [e6, e7]
    · show bwW wei cal (ls.getD (7 + (j : Int) - 7).toNat .nil) = _
      rw [e6, e7]
  obtain ⟨x1, x2, x3, hmw⟩ := mw
  have m4 : WtP h₀ (Y2 ++ (Y1 ++ Z3)) wt (bwA wei cal lm) (bwW wei cal lm) := fun h st hz => ⟨⟨_, _, _, hz _ (sZ _ hmw), rfl, _, rfl⟩⟩
  refine segL  (wei := wei) (cal := cal) X T hh hroom hu lL T' C hfr TW TC hwe hca hi1 hl1 lc d1' d3' d4 d6' d7' (by omega) (by omega) hxu lo hlk b0 b1 F7 (News.sub N7 ((zd zm3 zm2 zm0 zm1 (zd zm12 zm10 zm9 zm8 (zd zm7 zm6 zm5 zm4 (zc zm13 (fun q hq => zt14 (hq)))))))) neB (Apt.subl ap6 ((zd zm3 zm2 zm0 zm1 (zd zm12 zm10 zm9 zm8 (zd zm7 zm6 zm5 zm4 (zc zm13 zn0)))))) (sZ _ (sub _ hr)) (sY _ mlc) (List.mem_append_left _ mlw) (sZ _ m5) (sZ _ m6) hC ho3 (by omega) (by omega) d5 d8 d9 hok (sZ _ m3) hE m4 bb.1.1 bb.1.2 bb.2.1 bb.2.2 (by exact if_pos rfl) (by (repeat rw [if_neg (by decide)]); exact if_pos rfl) (by (repeat rw [if_neg (by decide)]); exact if_pos rfl) (by (repeat rw [if_neg (by decide)]); exact if_pos rfl) ⟨fun h8 tk8 m8 nx k k6 F8 N8 hJ => ?_⟩
  clear N7 F7 m3 hE m4 hok hC ho ho2 ho3 wts hxs aY1 aY2 ap ap5 ap6 bks
  obtain ⟨oc', ob5, ob8, ob9, ok', ps, fs, fr', dfr', wt', es', n0'', nn, n', t1', tp, ta, tw, pi, ab, wb, W, rfl, ne8, ap8, ⟨hr8, hlc8, hlw8, m58, m68, hC8⟩, ho8, hn0, hn1, _, _, _, G8, hK8, hnn, hfs, m38, hE8, m48, _⟩ := hJ
  refine segI1 (sa := 0) (o1 := o4) (o2 := o4) (o3 := o4) (o5 := o4) (o6 := o4) (o8 := o4) (o9 := o4) (ot := o4) (ok := o4) (W := (cup, oc') :: (dk, ok') :: (L + 1, o1') :: (L + 3, o3') :: (L + 5, ob5) :: (L + 6, o6') :: (L + 8, ob8) :: (L + 9, ob9) :: ((292 : Nat), tabObj ps) :: W) X T hh hroom hu lL F8 (News.sub N8 ((zd zm2 zm3 zm6 zm9 (zd zm0 zm1 zm4 zm5 (zd zm7 zm8 zm10 zm11 (zc zm12 (fun q hq => zt13 (hq)))))))) ((zc ((ne8.k2 _ zm4).symm) (zc ((ne8.k3 _ zm3).symm) zn0))) ((zd ((ne8.k4 _ zm2).symm) ((ne8.k1 _ zm5).symm) (cell_ne (L := L) (by decide : (1 : Nat) ≠ 4)) (cell_ne (L := L) (by decide : (3 : Nat) ≠ 4)) (zd (cell_ne (L := L) (by decide : (5 : Nat) ≠ 4)) (cell_ne (L := L) (by decide : (6 : Nat) ≠ 4)) (cell_ne (L := L) (by decide : (8 : Nat) ≠ 4)) (cell_ne (L := L) (by decide : (9 : Nat) ≠ 4)) (zc ((ne8.k5 _ zm2).symm) (fun q hq => ap8 q hq _ zm6))))) d4 d7' (by omega) (zt9 (m58)) (zt9 (m68)) hlk (zt9 (m38)) hE8 ⟨fun h9 tk9 o4' F9 N9 d4' => ?_⟩
  replace N9 : News h₀ L h9 ((cup, oc') :: (dk, ok') :: (lf, LCg.lst (fs ++ [Value.ref fr'])) :: (dfr', dictOf es' n0'') :: (L + 1, o1') :: (L + 3, o3') :: (L + 4, o4') :: (L + 5, ob5) :: (L + 6, o6') :: (L + 7, o7') :: (L + 8, ob8) :: (L + 9, ob9) :: ((292 : Nat), tabObj ps) :: W) := News.sub N9 ((zd zm4 zm5 zm0 zm1 (zd zm6 zm7 zm2 zm8 (zd zm9 zm3 zm10 zm11 (zc zm12 (fun q hq => zt13 (hq)))))))
  have K9 := hK8.at_ (h := h9) F9.keep (fun q hq => (N9 q (zt13 (hq))).1)
  have ap9 : ∀ q ∈ (cup, oc') :: (lf, LCg.lst (fs ++ [Value.ref fr'])) :: (dfr', dictOf es' n0'') :: (L + 1, o1') :: (L + 5, ob5) :: (L + 6, o6') :: (L + 7, o7') :: (L + 8, ob8) :: (L + 9, ob9) :: ((292 : Nat), tabObj ps) :: W, ∀ p ∈ (dk, ok') :: (L + 3, o3') :: (L + 4, o4') :: [], @Ne Nat q.1 p.1 := (zd (zc (ne8.k1 _ zm0) (zc ((ne8.k4 _ zm1).symm) (zc ((ne8.k4 _ zm2).symm) zn0))) (zc (ne8.k1 _ zm1) (zc ((ne8.k2 _ zm3).symm) (zc ((ne8.k2 _ zm4).symm) zn0))) (zc (ne8.k1 _ zm2) (zc ((ne8.k3 _ zm2).symm) (zc ((ne8.k3 _ zm3).symm) zn0))) (zc (ne8.k1 _ zm3) (zc (cell_ne (L := L) (by decide : (1 : Nat) ≠ 3)) (zc (cell_ne (L := L) (by decide : (1 : Nat) ≠ 4)) zn0))) (zd (zc (ne8.k1 _ zm6) (zc (cell_ne (L := L) (by decide : (5 : Nat) ≠ 3)) (zc (cell_ne (L := L) (by decide : (5 : Nat) ≠ 4)) zn0))) (zc (ne8.k1 _ zm7) (zc (cell_ne (L := L) (by decide : (6 : Nat) ≠ 3)) (zc (cell_ne (L := L) (by decide : (6 : Nat) ≠ 4)) zn0))) (zc (ne8.k1 _ zm8) (zc (cell_ne (L := L) (by decide : (7 : Nat) ≠ 3)) (zc (cell_ne (L := L) (by decide : (7 : Nat) ≠ 4)) zn0))) (zc (ne8.k1 _ zm9) (zc (cell_ne (L := L) (by decide : (8 : Nat) ≠ 3)) (zc (cell_ne (L := L) (by decide : (8 : Nat) ≠ 4)) zn0))) (zc (zc (ne8.k1 _ zm10) (zc (cell_ne (L := L) (by decide : (9 : Nat) ≠ 3)) (zc (cell_ne (L := L) (by decide : (9 : Nat) ≠ 4)) zn0))) (zc (zc (ne8.k1 _ zm11) (zc ((ne8.k5 _ zm1).symm) (zc ((ne8.k5 _ zm2).symm) zn0))) (fun q hq => (zc (ap8 q hq _ zm1) (zc (ap8 q hq _ zm5) (zc (ap8 q hq _ zm6) zn0))))))))
  refine segI2 (sa := 0) (o1 := o4) (o2 := o4) (o5 := o4) (o6 := o4) (o7 := o4) (o8 := o4) (o9 := o4) (ot := o4) (rest := default) (W := (cup, oc') :: (lf, LCg.lst (fs ++ [Value.ref fr'])) :: (dfr', dictOf es' n0'') :: (L + 1, o1') :: (L + 5, ob5) :: (L + 6, o6') :: (L + 7, o7') :: (L + 8, ob8) :: (L + 9, ob9) :: ((292 : Nat), tabObj ps) :: W) X T hh hroom hu lL F9 (News.sub N9 ((zd zm1 zm5 zm6 zm0 (zd zm2 zm3 zm4 zm7 (zd zm8 zm9 zm10 zm11 (zc zm12 (fun q hq => zt13 (hq)))))))) ap9 K9 (by omega) lo d3' d4' (zt10 (hlw8)) (by omega) (fun k hk => ?hU) (fun h10 tk10 F10 N10 => hq h10 tk10 m8 ps F10 (N10 _ zm9).1)
  case hU =>
    obtain ⟨k7, k8⟩ := hk
    obtain ⟨cd, blk, lv, u, u1, u2, u3, e1, e2, e3, e4, e5, e6, e7⟩ := hC8 (k - 7).toNat (by omega)
    have ek : 7 + (((k - 7).toNat : Nat) : Int) = k := by omega
    rw [ek] at e6 e7
    dsimp only at e6 e7
    refine ⟨k7, by omega, u, u1, u2, u3, e4, ?_⟩
    rw [e6, e7]
    exact zt10 (e5)
theorem cells_one {cm : Str → Option Value} {n : Str} {c : Addr} {r : List (Str × Addr)} {cells : List (Addr × Obj)} (x : CellsAre cm ((n, c) :: r) cells) : ∃ o cells', cells = (c, o) :: cells' ∧ o.data = .cell (cm n) ∧ CellsAre cm r cells' := by
  cases x with | cons h1 r => exact ⟨_, _, rfl, h1, r⟩
theorem cells_nil {cm : Str → Option Value} {cells : List (Addr × Obj)} (x : CellsAre cm [] cells) : cells = [] := by
  cases x; rfl
theorem cells9 {cm : Str → Option Value} {n1 n2 n3 n4 n5 n6 n7 n8 n9 : Str} {c1 c2 c3 c4 c5 c6 c7 c8 c9 : Addr} {cells : List (Addr × Obj)} (x : CellsAre cm [(n1, c1), (n2, c2), (n3, c3), (n4, c4), (n5, c5), (n6, c6), (n7, c7), (n8, c8), (n9, c9)] cells) :
    ∃ o1 o2 o3 o4 o5 o6 o7 o8 o9 : Obj, cells = [(c1, o1), (c2, o2), (c3, o3), (c4, o4), (c5, o5), (c6, o6), (c7, o7), (c8, o8), (c9, o9)] ∧ o1.data = .cell (cm n1) ∧ o2.data = .cell (cm n2) ∧ o3.data = .cell (cm n3) ∧ o4.data = .cell (cm n4) ∧ o5.data = .cell (cm n5) ∧ o6.data = .cell (cm n6) ∧ o7.data = .cell (cm n7) ∧ o8.data = .cell (cm n8) ∧ o9.data = .cell (cm n9) := by
  obtain ⟨o1, q1, rfl, d1, y1⟩ := cells_one x
  obtain ⟨o2, q2, rfl, d2, y2⟩ := cells_one y1
  obtain ⟨o3, q3, rfl, d3, y3⟩ := cells_one y2
  obtain ⟨o4, q4, rfl, d4, y4⟩ := cells_one y3
  obtain ⟨o5, q5, rfl, d5, y5⟩ := cells_one y4
  obtain ⟨o6, q6, rfl, d6, y6⟩ := cells_one y5
  obtain ⟨o7, q7, rfl, d7, y7⟩ := cells_one y6
  obtain ⟨o8, q8, rfl, d8, y8⟩ := cells_one y7
  obtain ⟨o9, q9, rfl, d9, y9⟩ := cells_one y8
  obtain rfl := cells_nil y9
  exact ⟨_, _, _, _, _, _, _, _, _, rfl, d1, d2, d3, d4, d5, d6, d7, d8, d9⟩
set_option maxHeartbeats 8000000
theorem t : PySem.Challenge.rw_qz0087_01.Holds := by
  refine hd ?_
  k_fill
  intro w s₀ s₁ mg mb G Y fa o pm cd doc dV kV ho hd hcd hD hmg hg args vals as hpre hlay hrd hwl hlo
  have KX := km_in_of Y
  km_tabs Y
  have X := (Ground.X G).1
  have V := (Ground.X G).2
  refine Ground.open G ?_
  intro T B D TE TW
  try (refine guard_noD D (by decide +kernel) ?_; clear D)
  km_lay T hmg ho hd cd
  clear hmg
  wrow_args hpre hlay hrd hwl hlo
  first | refine callC_kw (enter_call ?_) | refine enter_call ?_
  w_top on
  kn_posts
  have he := Dflts.none hD rfl; subst he; have he := Dflts.noKw hD; subst he
  refine call_cellsN (by decide) ho (fd_plain hd) (Top.nolimit T) hcd rfl ?k1 (by decide) fun h₁ tk₁ cells F N0 X0 => ?_
  case k1 => exact (kinds_of (by kinds_ok))
  obtain ⟨o1, o2, o3, o4, o5, o6, o7, o8, o9, rfl, c1, c2, c3, c4, c5, c6, c7, c8, c9⟩ := cells9 X0
  clear X0 hd
  kn_ghosts F T
  k_drop
  rename_i w5 hs0 hly hL1 hr1 hl2 w4 w3 sa vs w9 hL ra w1' r0 hI hrr hcd hcd2 X0 T0 K0 F0 N0 l0
  have N1 := N0
  have F1 := F0
  clear N0 F0 X hL ra w1' r0 hrr TE B TW V
  clear ho hT8 hT9
  refine wpAny_mono (Q := fun f s' => f = .ret (.bool true) ∧ ∃ h' tk m' ps, s' = { s₁ with heap := h', toks := tk } ∧ Fr (ghostOf s₁.heap [(294, 292)]) s₁.heap.objs.size h' m' ∧ h'.get? (292 : Nat) = some (tabObj ps)) ?walk (fun f s' q => ?fin) (fun _ _ x => x)
  case walk =>
    show wpAny _ (callerA.deeper (lawE w fa s₁.heap.objs.size)) (execs (lawB w) (lawE w fa s₁.heap.objs.size)) _ _ _
    refine law_w (p := topProg) (o9 := o1) (o8 := o2) (o7 := o3) (o6 := o4) (o5 := o5) (o4 := o6) (o3 := o7) (o2 := o8) (o1 := o9) X0 T0 codeHd rfl ?r1 ?r2 l0.1 rfl ?FF ?NN lifted hI ?hl ?e1 ?e2 ?e3 ?e4 ?e5 ?e6 ?e7 ?e8 ?e9 (fun h' tk m' ps F' g' => ⟨rfl, h', tk, m', ps, rfl, F', g'⟩)
    case r1 => first | decide | (simp only [depth_deeper]; decide)
    case r2 => first | decide | (simp only [units_deeper]; decide)
    case FF => exact F1
    case NN => exact N1
    case hl => omega
    case e1 => exact c9
    case e2 => exact c8
    case e3 => exact c7
    case e4 => exact c6
    case e5 => exact c5
    case e6 => exact c4
    case e7 => exact c3
    case e8 => exact c2
    case e9 => exact c1
  case fin =>
    obtain ⟨rfl, h', tk, m', ps, rfl, F9, g9⟩ := q
    clear c1 c2 c3 c4 c5 c6 c7 c8 c9
    refine ⟨?_, ⟨⟨ps, g9⟩, True.intro⟩⟩
    have F' := F9
    wrow_close
end Mine
set_option maxRecDepth 100000 in
theorem PySem.Challenge.cw_qz0087_01_holds : PySem.Challenge.rw_qz0087_01.Holds := by
  exact Mine.t
