import PyProof.Rows.All
import Wide.All
import OpenK.AllK
import Wide.FinOn
import PySem.Challenge.RW_nz0318_01
open PySem PySem.W PyProof.Rows PySem.Calls
set_option Elab.async false
set_option linter.all false
namespace Mine
section HEAD
open PySem.Str (ofString)
set_option maxRecDepth 100000
set_option maxHeartbeats 0
noncomputable abbrev en (P : Params) (x : Str) (k : Nat) (v : Value) : DictEntry := ⟨PyData.keyHash P x, .str x k, v⟩
noncomputable def stq (i : Nat) : Stmt := PySem.Challenge.pw_nz0318_01.main.body.getD i (.Pass default)
noncomputable def inq (s : Stmt) (j : Nat) : Stmt := match s with
  | .ClassDef _ _ _ b _ _ _ _ _ _ _ => b.getD j s
  | s => s
noncomputable def fdq (s : Stmt) (q : Str) (strip : Bool) (gl : Addr) (cl : List (Str × Addr)) (d k doc pm : Value) (an : Option Addr) (cd ct : Value) (bi : Addr) : FuncData := match s with
  | .FunctionDef n p b _ _ _ sc _ _ _ => ⟨n, q, bif strip then { p with defaults := [] } else p, .stmts b, sc, gl, cl, d, k, doc, pm, an, cd, ct, bi⟩
  | _ => default
noncomputable def o43 (P : Params) : Obj := ⟨(.type "tuple"), none, (.seq #[] 0), #[]⟩
noncomputable def o44 (P : Params) : Obj := ⟨.none, none, (.fields #[]), #[]⟩
noncomputable def o45 (P : Params) : Obj := ⟨(.type "code"), none, (.fields #[(.str (ofString "<module>") 182), (.str (ofString "<module>") 183), (.str (ofString "/claim/cut.py") 184), (.int 1 0), (.int 0 0), (.int 0 0), (.int 0 0), (.int 0 0), (.ref 11), (.bool false), (.int 181 0), (.ref 12), .none, .none, .none, .none, (.int 185 0), (.int 1 0), (.str (ofString "/claim/cut.py") 186)]), #[]⟩
noncomputable def o46 (P : Params) : Obj := ⟨(.type "frame"), none, .plain, #[(some (.ref 13)), (some (.ref 3)), (some (.ref 3)), none, (some (.str (ofString "__main__") 164)), none, (some (.ref 0))]⟩
noncomputable def o49 (P : Params) : Obj := ⟨.none, none, (.dict #[en P (ofString "type.__subclasses__.Exception.0") 232 (.int 46 0), en P (ofString "type.__subclasses__.Exception.n") 233 (.int 1 0)] 2), #[]⟩
noncomputable def o50 (P : Params) : Obj := ⟨(.type "dict"), none, (.dict #[en P (ofString "__name__") 165 (.str (ofString "postkeep.errors") 194), en P (ofString "__doc__") 166 .none, en P (ofString "__package__") 167 .none, en P (ofString "__loader__") 168 (.builtin "__main__.__loader__#opaque"), en P (ofString "__spec__") 169 .none, en P (ofString "__annotations__") 170 (.ref 6), en P (ofString "__builtins__") 171 (.ref 4), en P (ofString "__file__") 173 (.str (ofString "/claim/cut.py") 172), en P (ofString "__cached__") 174 .none, en P (ofString "_wall") 193 (.ref 21), en P (ofString "PostError") 235 (.ref 46)] 11), #[]⟩
noncomputable def o51 (P : Params) : Obj := ⟨.none, none, (.fields #[(.int 1 0), (.int 0 0), (.ref 20), (.int 5 0), (.int 0 0), (.ref 27)]), #[]⟩
noncomputable def o52 (P : Params) : Obj := ⟨(.type "tuple"), none, (.seq #[] 0), #[]⟩
noncomputable def o53 (P : Params) : Obj := ⟨.none, none, (.fields #[]), #[]⟩
noncomputable def o54 (P : Params) : Obj := ⟨(.type "tuple"), none, (.seq #[(.str (ofString "k") 190)] 0), #[]⟩
noncomputable def o55 (P : Params) : Obj := ⟨(.type "tuple"), none, (.seq #[] 0), #[]⟩
noncomputable def o56 (P : Params) : Obj := ⟨.none, none, (.func (fdq (stq 0) (ofString "_wall") false 0 [] .none .none .none .none none .none .none 0)), #[]⟩
noncomputable def o57 (P : Params) : Obj := ⟨(.type "code"), none, (.fields #[(.str (ofString "_wall") 187), (.str (ofString "_wall") 188), (.str (ofString "/claim/cut.py") 189), (.int 1 0), (.int 1 0), (.int 0 0), (.int 0 0), (.int 3 0), (.ref 15), (.bool true), (.int 181 0), (.ref 16), .none, (.ref 17), (.ref 18), (.ref 19), (.int 191 0), (.int 1 0), (.str (ofString "/claim/cut.py") 192)]), #[]⟩
noncomputable def o58 (P : Params) : Obj := ⟨(.type "function"), none, (.func (fdq (stq 0) (ofString "_wall") false 3 [] .none .none .none (.str (ofString "__main__") 164) none (.ref 20) .none 0)), #[]⟩
noncomputable def o59 (P : Params) : Obj := ⟨(.type "tuple"), none, (.seq #[(.type "Exception")] 0), #[]⟩
noncomputable def o60 (P : Params) : Obj := ⟨(.type "builtin_function_or_method"), none, (.fields #[(.builtin "type.__prepare__"), (.type "type")]), #[]⟩
noncomputable def o61 (P : Params) : Obj := ⟨(.type "dict"), none, (.dict #[en P (ofString "__module__") 203 (.str (ofString "postkeep.errors") 194), en P (ofString "__qualname__") 205 (.str (ofString "PostError") 204), en P (ofString "__firstlineno__") 207 (.int 5 206), en P (ofString "__init__") 218 (.ref 36), en P (ofString "told") 225 (.ref 43), en P (ofString "__static_attributes__") 228 (.ref 44)] 6), #[]⟩
noncomputable def o62 (P : Params) : Obj := ⟨(.type "tuple"), none, (.seq #[] 0), #[]⟩
noncomputable def o63 (P : Params) : Obj := ⟨.none, none, (.fields #[(.int 7 0), (.int 4 0), (.ref 35), (.int 12 0), (.int 4 0), (.ref 42)]), #[]⟩
noncomputable def o64 (P : Params) : Obj := ⟨(.type "code"), none, (.fields #[(.str (ofString "PostError") 198), (.str (ofString "PostError") 199), (.str (ofString "/claim/cut.py") 200), (.int 5 0), (.int 0 0), (.int 0 0), (.int 0 0), (.int 0 0), (.ref 25), (.bool false), (.int 181 0), (.ref 26), .none, .none, .none, .none, (.int 201 0), (.int 5 0), (.str (ofString "/claim/cut.py") 202)]), #[]⟩
noncomputable def o65 (P : Params) : Obj := ⟨(.type "frame"), none, .plain, #[(some (.ref 27)), (some (.ref 3)), (some (.ref 24)), none, (some (.str (ofString "postkeep.errors") 194)), none, (some (.ref 0))]⟩
noncomputable def o66 (P : Params) : Obj := ⟨(.type "tuple"), none, (.seq #[(.int (-1) 209)] 0), #[]⟩
noncomputable def o67 (P : Params) : Obj := ⟨(.type "tuple"), none, (.seq #[] 0), #[]⟩
noncomputable def o68 (P : Params) : Obj := ⟨.none, none, (.fields #[]), #[]⟩
noncomputable def o69 (P : Params) : Obj := ⟨(.type "tuple"), none, (.seq #[(.str (ofString "self") 213), (.str (ofString "what") 214), (.str (ofString "at") 215)] 0), #[]⟩
noncomputable def o70 (P : Params) : Obj := ⟨(.type "tuple"), none, (.seq #[] 0), #[]⟩
noncomputable def o71 (P : Params) : Obj := ⟨.none, none, (.func (fdq (inq (stq 2) 0) (ofString "PostError.__init__") false 0 [] .none .none .none .none none .none .none 0)), #[]⟩
noncomputable def o72 (P : Params) : Obj := ⟨(.type "code"), none, (.fields #[(.str (ofString "__init__") 210), (.str (ofString "PostError.__init__") 211), (.str (ofString "/claim/cut.py") 212), (.int 7 0), (.int 3 0), (.int 0 0), (.int 0 0), (.int 3 0), (.ref 30), (.bool true), (.int 181 0), (.ref 31), .none, (.ref 32), (.ref 33), (.ref 34), (.int 216 0), (.int 7 0), (.str (ofString "/claim/cut.py") 217)]), #[]⟩
noncomputable def o73 (P : Params) : Obj := ⟨(.type "function"), none, (.func (fdq (inq (stq 2) 0) (ofString "PostError.__init__") false 3 [] (.ref 29) .none .none (.str (ofString "postkeep.errors") 194) none (.ref 35) .none 0)), #[]⟩
noncomputable def o74 (P : Params) : Obj := ⟨(.type "tuple"), none, (.seq #[] 0), #[]⟩
noncomputable def o75 (P : Params) : Obj := ⟨.none, none, (.fields #[]), #[]⟩
noncomputable def o76 (P : Params) : Obj := ⟨(.type "tuple"), none, (.seq #[(.str (ofString "self") 222)] 0), #[]⟩
noncomputable def o77 (P : Params) : Obj := ⟨(.type "tuple"), none, (.seq #[] 0), #[]⟩
noncomputable def o78 (P : Params) : Obj := ⟨.none, none, (.func (fdq (inq (stq 2) 1) (ofString "PostError.told") false 0 [] .none .none .none .none none .none .none 0)), #[]⟩
noncomputable def o79 (P : Params) : Obj := ⟨(.type "code"), none, (.fields #[(.str (ofString "told") 219), (.str (ofString "PostError.told") 220), (.str (ofString "/claim/cut.py") 221), (.int 12 0), (.int 1 0), (.int 0 0), (.int 0 0), (.int 3 0), (.ref 37), (.bool true), (.int 181 0), (.ref 38), .none, (.ref 39), (.ref 40), (.ref 41), (.int 223 0), (.int 12 0), (.str (ofString "/claim/cut.py") 224)]), #[]⟩
noncomputable def o80 (P : Params) : Obj := ⟨(.type "function"), none, (.func (fdq (inq (stq 2) 1) (ofString "PostError.told") false 3 [] .none .none .none (.str (ofString "postkeep.errors") 194) none (.ref 42) .none 0)), #[]⟩
noncomputable def o81 (P : Params) : Obj := ⟨(.type "tuple"), none, (.seq #[(.str (ofString "at") 226), (.str (ofString "what") 227)] 0), #[]⟩
noncomputable def o82 (P : Params) : Obj := ⟨(.type "dict"), none, (.dict #[en P (ofString "__module__") 203 (.str (ofString "postkeep.errors") 194), en P (ofString "__firstlineno__") 207 (.int 5 206), en P (ofString "__init__") 218 (.ref 36), en P (ofString "told") 225 (.ref 43), en P (ofString "__static_attributes__") 228 (.ref 44), en P (ofString "__weakref__") 230 (.ref 47), en P (ofString "__doc__") 231 .none] 3), #[]⟩
noncomputable def o83 (P : Params) : Obj := ⟨(.type "type"), none, (.cls ⟨(ofString "PostError"), [(.type "Exception")], [(.ref 46), (.type "Exception"), (.type "BaseException"), (.type "object")], 45, (ofString "PostError"), true, [], [], false, none, false⟩), #[(some (.ref 22)), none, (some (.str (ofString "PostError") 196)), (some (.str (ofString "PostError") 204)), (some (.builtin "Exception.__new__")), (some (.bool true))]⟩
noncomputable def o84 (P : Params) : Obj := ⟨(.type "getset_descriptor"), none, (.fields #[(.str (ofString "__weakref__") 229), (.ref 46), (.builtin "ExceptionGroup.__weakref__"), .none]), #[]⟩
noncomputable def o85 (P : Params) : Obj := ⟨(.type "super"), none, (.fields #[(.ref 46), (.ref 46), (.ref 46)]), #[]⟩
noncomputable def o86 (P : Params) : Obj := ⟨(.type "builtin_function_or_method"), none, (.fields #[(.builtin "object.__init_subclass__"), (.ref 46)]), #[]⟩
noncomputable def o87 (P : Params) : Obj := ⟨(.type "dict"), none, (.dict #[en P (ofString "__name__") 165 (.str (ofString "postkeep.errors") 194), en P (ofString "__doc__") 166 .none, en P (ofString "__package__") 167 .none, en P (ofString "__loader__") 168 (.builtin "__main__.__loader__#opaque"), en P (ofString "__spec__") 169 .none, en P (ofString "__annotations__") 170 (.ref 6), en P (ofString "__builtins__") 171 (.ref 4), en P (ofString "__file__") 173 (.str (ofString "/claim/cut.py") 172), en P (ofString "__cached__") 174 .none, en P (ofString "_wall") 193 (.ref 21), en P (ofString "PostError") 235 (.ref 46), en P (ofString "WordFault") 251 (.ref 59)] 12), #[]⟩
noncomputable def o88 (P : Params) : Obj := ⟨.none, none, (.fields #[(.int 1 0), (.int 0 0), (.ref 20), (.int 5 0), (.int 0 0), (.ref 27), (.int 14 0), (.int 0 0), (.ref 55)]), #[]⟩
noncomputable def o89 (P : Params) : Obj := ⟨(.type "type"), none, (.cls ⟨(ofString "PostError"), [(.type "Exception")], [(.ref 46), (.type "Exception"), (.type "BaseException"), (.type "object")], 45, (ofString "PostError"), true, [], [(.ref 59)], false, none, false⟩), #[(some (.ref 22)), none, (some (.str (ofString "PostError") 196)), (some (.str (ofString "PostError") 204)), (some (.builtin "Exception.__new__")), (some (.bool true))]⟩
noncomputable def o90 (P : Params) : Obj := ⟨(.type "tuple"), none, (.seq #[(.ref 46)] 0), #[]⟩
noncomputable def o91 (P : Params) : Obj := ⟨(.type "builtin_function_or_method"), none, (.fields #[(.builtin "type.__prepare__"), (.type "type")]), #[]⟩
noncomputable def o92 (P : Params) : Obj := ⟨(.type "dict"), none, (.dict #[en P (ofString "__module__") 243 (.str (ofString "postkeep.errors") 194), en P (ofString "__qualname__") 245 (.str (ofString "WordFault") 244), en P (ofString "__firstlineno__") 247 (.int 14 246), en P (ofString "__static_attributes__") 248 (.ref 57)] 4), #[]⟩
noncomputable def o93 (P : Params) : Obj := ⟨(.type "tuple"), none, (.seq #[] 0), #[]⟩
noncomputable def o94 (P : Params) : Obj := ⟨.none, none, (.fields #[]), #[]⟩
noncomputable def o95 (P : Params) : Obj := ⟨(.type "code"), none, (.fields #[(.str (ofString "WordFault") 238), (.str (ofString "WordFault") 239), (.str (ofString "/claim/cut.py") 240), (.int 14 0), (.int 0 0), (.int 0 0), (.int 0 0), (.int 0 0), (.ref 53), (.bool false), (.int 181 0), (.ref 54), .none, .none, .none, .none, (.int 241 0), (.int 14 0), (.str (ofString "/claim/cut.py") 242)]), #[]⟩
noncomputable def o96 (P : Params) : Obj := ⟨(.type "frame"), none, .plain, #[(some (.ref 55)), (some (.ref 3)), (some (.ref 52)), none, (some (.str (ofString "postkeep.errors") 194)), none, (some (.ref 0))]⟩
noncomputable def o97 (P : Params) : Obj := ⟨(.type "tuple"), none, (.seq #[] 0), #[]⟩
noncomputable def o98 (P : Params) : Obj := ⟨(.type "dict"), none, (.dict #[en P (ofString "__module__") 243 (.str (ofString "postkeep.errors") 194), en P (ofString "__firstlineno__") 247 (.int 14 246), en P (ofString "__static_attributes__") 248 (.ref 57), en P (ofString "__doc__") 249 .none] 2), #[]⟩
noncomputable def o99 (P : Params) : Obj := ⟨(.type "type"), none, (.cls ⟨(ofString "WordFault"), [(.ref 46)], [(.ref 59), (.ref 46), (.type "Exception"), (.type "BaseException"), (.type "object")], 58, (ofString "WordFault"), true, [], [], false, none, false⟩), #[(some (.ref 50)), none, (some (.str (ofString "WordFault") 236)), (some (.str (ofString "WordFault") 244)), (some (.builtin "Exception.__new__")), (some (.bool true))]⟩
noncomputable def o100 (P : Params) : Obj := ⟨(.type "super"), none, (.fields #[(.ref 59), (.ref 59), (.ref 59)]), #[]⟩
noncomputable def o101 (P : Params) : Obj := ⟨(.type "builtin_function_or_method"), none, (.fields #[(.builtin "object.__init_subclass__"), (.ref 59)]), #[]⟩
noncomputable def o102 (P : Params) : Obj := ⟨(.type "dict"), none, (.dict #[en P (ofString "__name__") 165 (.str (ofString "postkeep.octets") 276), en P (ofString "__doc__") 166 .none, en P (ofString "__package__") 167 .none, en P (ofString "__loader__") 168 (.builtin "__main__.__loader__#opaque"), en P (ofString "__spec__") 169 .none, en P (ofString "__annotations__") 170 (.ref 6), en P (ofString "__builtins__") 171 (.ref 4), en P (ofString "__file__") 173 (.str (ofString "/claim/cut.py") 172), en P (ofString "__cached__") 174 .none, en P (ofString "_wall") 193 (.ref 21), en P (ofString "PostError") 235 (.ref 46), en P (ofString "WordFault") 251 (.ref 59), en P (ofString "MimeFault") 267 (.ref 71), en P (ofString "sign_octets") 275 (.ref 78), en P (ofString "MOST_FIGURES") 279 (.int 20 278)] 15), #[]⟩
noncomputable def o103 (P : Params) : Obj := ⟨.none, none, (.fields #[(.int 1 0), (.int 0 0), (.ref 20), (.int 5 0), (.int 0 0), (.ref 27), (.int 14 0), (.int 0 0), (.ref 55), (.int 16 0), (.int 0 0), (.ref 67), (.int 19 0), (.int 0 0), (.ref 77)]), #[]⟩
noncomputable def o104 (P : Params) : Obj := ⟨(.type "type"), none, (.cls ⟨(ofString "PostError"), [(.type "Exception")], [(.ref 46), (.type "Exception"), (.type "BaseException"), (.type "object")], 45, (ofString "PostError"), true, [], [(.ref 59), (.ref 71)], false, none, false⟩), #[(some (.ref 22)), none, (some (.str (ofString "PostError") 196)), (some (.str (ofString "PostError") 204)), (some (.builtin "Exception.__new__")), (some (.bool true))]⟩
noncomputable def o105 (P : Params) : Obj := ⟨(.type "tuple"), none, (.seq #[(.ref 46)] 0), #[]⟩
noncomputable def o106 (P : Params) : Obj := ⟨(.type "builtin_function_or_method"), none, (.fields #[(.builtin "type.__prepare__"), (.type "type")]), #[]⟩
noncomputable def o107 (P : Params) : Obj := ⟨(.type "dict"), none, (.dict #[en P (ofString "__module__") 259 (.str (ofString "postkeep.errors") 194), en P (ofString "__qualname__") 261 (.str (ofString "MimeFault") 260), en P (ofString "__firstlineno__") 263 (.int 16 262), en P (ofString "__static_attributes__") 264 (.ref 69)] 4), #[]⟩
noncomputable def o108 (P : Params) : Obj := ⟨(.type "tuple"), none, (.seq #[] 0), #[]⟩
noncomputable def o109 (P : Params) : Obj := ⟨.none, none, (.fields #[]), #[]⟩
noncomputable def o110 (P : Params) : Obj := ⟨(.type "code"), none, (.fields #[(.str (ofString "MimeFault") 254), (.str (ofString "MimeFault") 255), (.str (ofString "/claim/cut.py") 256), (.int 16 0), (.int 0 0), (.int 0 0), (.int 0 0), (.int 0 0), (.ref 65), (.bool false), (.int 181 0), (.ref 66), .none, .none, .none, .none, (.int 257 0), (.int 16 0), (.str (ofString "/claim/cut.py") 258)]), #[]⟩
noncomputable def o111 (P : Params) : Obj := ⟨(.type "frame"), none, .plain, #[(some (.ref 67)), (some (.ref 3)), (some (.ref 64)), none, (some (.str (ofString "postkeep.errors") 194)), none, (some (.ref 0))]⟩
noncomputable def o112 (P : Params) : Obj := ⟨(.type "tuple"), none, (.seq #[] 0), #[]⟩
noncomputable def o113 (P : Params) : Obj := ⟨(.type "dict"), none, (.dict #[en P (ofString "__module__") 259 (.str (ofString "postkeep.errors") 194), en P (ofString "__firstlineno__") 263 (.int 16 262), en P (ofString "__static_attributes__") 264 (.ref 69), en P (ofString "__doc__") 265 .none] 2), #[]⟩
noncomputable def o114 (P : Params) : Obj := ⟨(.type "type"), none, (.cls ⟨(ofString "MimeFault"), [(.ref 46)], [(.ref 71), (.ref 46), (.type "Exception"), (.type "BaseException"), (.type "object")], 70, (ofString "MimeFault"), true, [], [], false, none, false⟩), #[(some (.ref 62)), none, (some (.str (ofString "MimeFault") 252)), (some (.str (ofString "MimeFault") 260)), (some (.builtin "Exception.__new__")), (some (.bool true))]⟩
noncomputable def o115 (P : Params) : Obj := ⟨(.type "super"), none, (.fields #[(.ref 71), (.ref 71), (.ref 71)]), #[]⟩
noncomputable def o116 (P : Params) : Obj := ⟨(.type "builtin_function_or_method"), none, (.fields #[(.builtin "object.__init_subclass__"), (.ref 71)]), #[]⟩
noncomputable def o117 (P : Params) : Obj := ⟨(.type "tuple"), none, (.seq #[] 0), #[]⟩
noncomputable def o118 (P : Params) : Obj := ⟨.none, none, (.fields #[]), #[]⟩
noncomputable def o119 (P : Params) : Obj := ⟨.none, none, (.func (fdq (stq 6) (ofString "sign_octets") false 0 [] .none .none .none .none none .none .none 0)), #[]⟩
noncomputable def o120 (P : Params) : Obj := ⟨(.type "code"), none, (.fields #[(.str (ofString "sign_octets") 270), (.str (ofString "sign_octets") 271), (.str (ofString "/claim/cut.py") 272), (.int 19 0), (.int 1 0), (.int 0 0), (.int 0 0), (.int 3 0), (.ref 74), (.bool true), (.int 181 0), (.ref 75), .none, .none, .none, (.ref 76), (.int 273 0), (.int 19 0), (.str (ofString "/claim/cut.py") 274)]), #[]⟩
noncomputable def o121 (P : Params) : Obj := ⟨(.type "function"), none, (.func (fdq (stq 6) (ofString "sign_octets") false 3 [] .none .none .none (.str (ofString "postkeep.addresses") 268) none (.ref 77) .none 0)), #[]⟩
noncomputable def o122 (P : Params) : Obj := ⟨(.type "dict"), none, (.dict #[en P (ofString "__name__") 165 (.str (ofString "postkeep.octets") 276), en P (ofString "__doc__") 166 .none, en P (ofString "__package__") 167 .none, en P (ofString "__loader__") 168 (.builtin "__main__.__loader__#opaque"), en P (ofString "__spec__") 169 .none, en P (ofString "__annotations__") 170 (.ref 6), en P (ofString "__builtins__") 171 (.ref 4), en P (ofString "__file__") 173 (.str (ofString "/claim/cut.py") 172), en P (ofString "__cached__") 174 .none, en P (ofString "_wall") 193 (.ref 21), en P (ofString "PostError") 235 (.ref 46), en P (ofString "WordFault") 251 (.ref 59), en P (ofString "MimeFault") 267 (.ref 71), en P (ofString "sign_octets") 275 (.ref 78), en P (ofString "MOST_FIGURES") 279 (.int 20 278), en P (ofString "Cursor") 389 (.ref 160)] 16), #[]⟩
noncomputable def o123 (P : Params) : Obj := ⟨.none, none, (.fields #[(.int 1 0), (.int 0 0), (.ref 20), (.int 5 0), (.int 0 0), (.ref 27), (.int 14 0), (.int 0 0), (.ref 55), (.int 16 0), (.int 0 0), (.ref 67), (.int 19 0), (.int 0 0), (.ref 77), (.int 26 0), (.int 0 0), (.ref 84)]), #[]⟩
noncomputable def o124 (P : Params) : Obj := ⟨(.type "tuple"), none, (.seq #[] 0), #[]⟩
noncomputable def o125 (P : Params) : Obj := ⟨(.type "builtin_function_or_method"), none, (.fields #[(.builtin "type.__prepare__"), (.type "type")]), #[]⟩
noncomputable def o126 (P : Params) : Obj := ⟨(.type "dict"), none, (.dict #[en P (ofString "__module__") 287 (.str (ofString "postkeep.octets") 276), en P (ofString "__qualname__") 289 (.str (ofString "Cursor") 288), en P (ofString "__firstlineno__") 291 (.int 26 290), en P (ofString "__init__") 304 (.ref 93), en P (ofString "is_done") 311 (.ref 100), en P (ofString "peek") 321 (.ref 108), en P (ofString "take") 329 (.ref 115), en P (ofString "starts") 337 (.ref 122), en P (ofString "skip") 345 (.ref 129), en P (ofString "take_while") 353 (.ref 136), en P (ofString "take_until") 361 (.ref 143), en P (ofString "number") 370 (.ref 150), en P (ofString "find") 378 (.ref 157), en P (ofString "__static_attributes__") 382 (.ref 158)] 14), #[]⟩
noncomputable def o127 (P : Params) : Obj := ⟨(.type "tuple"), none, (.seq #[] 0), #[]⟩
noncomputable def o128 (P : Params) : Obj := ⟨.none, none, (.fields #[(.int 28 0), (.int 4 0), (.ref 92), (.int 33 0), (.int 4 0), (.ref 99), (.int 36 0), (.int 4 0), (.ref 107), (.int 40 0), (.int 4 0), (.ref 114), (.int 46 0), (.int 4 0), (.ref 121), (.int 49 0), (.int 4 0), (.ref 128), (.int 52 0), (.int 4 0), (.ref 135), (.int 55 0), (.int 4 0), (.ref 142), (.int 58 0), (.int 4 0), (.ref 149), (.int 68 0), (.int 4 0), (.ref 156)]), #[]⟩
noncomputable def o129 (P : Params) : Obj := ⟨(.type "code"), none, (.fields #[(.str (ofString "Cursor") 282), (.str (ofString "Cursor") 283), (.str (ofString "/claim/cut.py") 284), (.int 26 0), (.int 0 0), (.int 0 0), (.int 0 0), (.int 0 0), (.ref 82), (.bool false), (.int 181 0), (.ref 83), .none, .none, .none, .none, (.int 285 0), (.int 26 0), (.str (ofString "/claim/cut.py") 286)]), #[]⟩
noncomputable def o130 (P : Params) : Obj := ⟨(.type "frame"), none, .plain, #[(some (.ref 84)), (some (.ref 3)), (some (.ref 81)), none, (some (.str (ofString "postkeep.octets") 276)), none, (some (.ref 0))]⟩
noncomputable def o131 (P : Params) : Obj := ⟨(.type "tuple"), none, (.seq #[(.int 0 292), (.int (-1) 294)] 0), #[]⟩
noncomputable def o132 (P : Params) : Obj := ⟨(.type "tuple"), none, (.seq #[] 0), #[]⟩
noncomputable def o133 (P : Params) : Obj := ⟨.none, none, (.fields #[]), #[]⟩
noncomputable def o134 (P : Params) : Obj := ⟨(.type "tuple"), none, (.seq #[(.str (ofString "self") 298), (.str (ofString "data") 299), (.str (ofString "at") 300), (.str (ofString "end") 301)] 0), #[]⟩
noncomputable def o135 (P : Params) : Obj := ⟨(.type "tuple"), none, (.seq #[] 0), #[]⟩
noncomputable def o136 (P : Params) : Obj := ⟨.none, none, (.func (fdq (inq (stq 9) 0) (ofString "Cursor.__init__") false 0 [] .none .none .none .none none .none .none 0)), #[]⟩
noncomputable def o137 (P : Params) : Obj := ⟨(.type "code"), none, (.fields #[(.str (ofString "__init__") 295), (.str (ofString "Cursor.__init__") 296), (.str (ofString "/claim/cut.py") 297), (.int 28 0), (.int 4 0), (.int 0 0), (.int 0 0), (.int 3 0), (.ref 87), (.bool true), (.int 181 0), (.ref 88), .none, (.ref 89), (.ref 90), (.ref 91), (.int 302 0), (.int 28 0), (.str (ofString "/claim/cut.py") 303)]), #[]⟩
noncomputable def o138 (P : Params) : Obj := ⟨(.type "function"), none, (.func (fdq (inq (stq 9) 0) (ofString "Cursor.__init__") false 3 [] (.ref 86) .none .none (.str (ofString "postkeep.octets") 276) none (.ref 92) .none 0)), #[]⟩
noncomputable def o139 (P : Params) : Obj := ⟨(.type "tuple"), none, (.seq #[] 0), #[]⟩
noncomputable def o140 (P : Params) : Obj := ⟨.none, none, (.fields #[]), #[]⟩
noncomputable def o141 (P : Params) : Obj := ⟨(.type "tuple"), none, (.seq #[(.str (ofString "self") 308)] 0), #[]⟩
noncomputable def o142 (P : Params) : Obj := ⟨(.type "tuple"), none, (.seq #[] 0), #[]⟩
noncomputable def o143 (P : Params) : Obj := ⟨.none, none, (.func (fdq (inq (stq 9) 1) (ofString "Cursor.is_done") false 0 [] .none .none .none .none none .none .none 0)), #[]⟩
noncomputable def o144 (P : Params) : Obj := ⟨(.type "code"), none, (.fields #[(.str (ofString "is_done") 305), (.str (ofString "Cursor.is_done") 306), (.str (ofString "/claim/cut.py") 307), (.int 33 0), (.int 1 0), (.int 0 0), (.int 0 0), (.int 3 0), (.ref 94), (.bool true), (.int 181 0), (.ref 95), .none, (.ref 96), (.ref 97), (.ref 98), (.int 309 0), (.int 33 0), (.str (ofString "/claim/cut.py") 310)]), #[]⟩
noncomputable def o145 (P : Params) : Obj := ⟨(.type "function"), none, (.func (fdq (inq (stq 9) 1) (ofString "Cursor.is_done") false 3 [] .none .none .none (.str (ofString "postkeep.octets") 276) none (.ref 99) .none 0)), #[]⟩
noncomputable def o146 (P : Params) : Obj := ⟨(.type "tuple"), none, (.seq #[(.int 0 312)] 0), #[]⟩
noncomputable def o147 (P : Params) : Obj := ⟨(.type "tuple"), none, (.seq #[] 0), #[]⟩
noncomputable def o148 (P : Params) : Obj := ⟨.none, none, (.fields #[]), #[]⟩
noncomputable def o149 (P : Params) : Obj := ⟨(.type "tuple"), none, (.seq #[(.str (ofString "self") 316), (.str (ofString "ahead") 317), (.str (ofString "place") 318)] 0), #[]⟩
noncomputable def o150 (P : Params) : Obj := ⟨(.type "tuple"), none, (.seq #[] 0), #[]⟩
noncomputable def o151 (P : Params) : Obj := ⟨.none, none, (.func (fdq (inq (stq 9) 2) (ofString "Cursor.peek") false 0 [] .none .none .none .none none .none .none 0)), #[]⟩
noncomputable def o152 (P : Params) : Obj := ⟨(.type "code"), none, (.fields #[(.str (ofString "peek") 313), (.str (ofString "Cursor.peek") 314), (.str (ofString "/claim/cut.py") 315), (.int 36 0), (.int 2 0), (.int 0 0), (.int 0 0), (.int 3 0), (.ref 102), (.bool true), (.int 181 0), (.ref 103), .none, (.ref 104), (.ref 105), (.ref 106), (.int 319 0), (.int 36 0), (.str (ofString "/claim/cut.py") 320)]), #[]⟩
noncomputable def o153 (P : Params) : Obj := ⟨(.type "function"), none, (.func (fdq (inq (stq 9) 2) (ofString "Cursor.peek") false 3 [] (.ref 101) .none .none (.str (ofString "postkeep.octets") 276) none (.ref 107) .none 0)), #[]⟩
noncomputable def o154 (P : Params) : Obj := ⟨(.type "tuple"), none, (.seq #[] 0), #[]⟩
noncomputable def o155 (P : Params) : Obj := ⟨.none, none, (.fields #[]), #[]⟩
noncomputable def o156 (P : Params) : Obj := ⟨(.type "tuple"), none, (.seq #[(.str (ofString "self") 325), (.str (ofString "code") 326)] 0), #[]⟩
noncomputable def o157 (P : Params) : Obj := ⟨(.type "tuple"), none, (.seq #[] 0), #[]⟩
noncomputable def o158 (P : Params) : Obj := ⟨.none, none, (.func (fdq (inq (stq 9) 3) (ofString "Cursor.take") false 0 [] .none .none .none .none none .none .none 0)), #[]⟩
noncomputable def o159 (P : Params) : Obj := ⟨(.type "code"), none, (.fields #[(.str (ofString "take") 322), (.str (ofString "Cursor.take") 323), (.str (ofString "/claim/cut.py") 324), (.int 40 0), (.int 1 0), (.int 0 0), (.int 0 0), (.int 3 0), (.ref 109), (.bool true), (.int 181 0), (.ref 110), .none, (.ref 111), (.ref 112), (.ref 113), (.int 327 0), (.int 40 0), (.str (ofString "/claim/cut.py") 328)]), #[]⟩
noncomputable def o160 (P : Params) : Obj := ⟨(.type "function"), none, (.func (fdq (inq (stq 9) 3) (ofString "Cursor.take") false 3 [] .none .none .none (.str (ofString "postkeep.octets") 276) none (.ref 114) .none 0)), #[]⟩
noncomputable def o161 (P : Params) : Obj := ⟨(.type "tuple"), none, (.seq #[] 0), #[]⟩
noncomputable def o162 (P : Params) : Obj := ⟨.none, none, (.fields #[]), #[]⟩
noncomputable def o163 (P : Params) : Obj := ⟨(.type "tuple"), none, (.seq #[(.str (ofString "self") 333), (.str (ofString "word") 334)] 0), #[]⟩
noncomputable def o164 (P : Params) : Obj := ⟨(.type "tuple"), none, (.seq #[] 0), #[]⟩
noncomputable def o165 (P : Params) : Obj := ⟨.none, none, (.func (fdq (inq (stq 9) 4) (ofString "Cursor.starts") false 0 [] .none .none .none .none none .none .none 0)), #[]⟩
noncomputable def o166 (P : Params) : Obj := ⟨(.type "code"), none, (.fields #[(.str (ofString "starts") 330), (.str (ofString "Cursor.starts") 331), (.str (ofString "/claim/cut.py") 332), (.int 46 0), (.int 2 0), (.int 0 0), (.int 0 0), (.int 3 0), (.ref 116), (.bool true), (.int 181 0), (.ref 117), .none, (.ref 118), (.ref 119), (.ref 120), (.int 335 0), (.int 46 0), (.str (ofString "/claim/cut.py") 336)]), #[]⟩
noncomputable def o167 (P : Params) : Obj := ⟨(.type "function"), none, (.func (fdq (inq (stq 9) 4) (ofString "Cursor.starts") false 3 [] .none .none .none (.str (ofString "postkeep.octets") 276) none (.ref 121) .none 0)), #[]⟩
noncomputable def o168 (P : Params) : Obj := ⟨(.type "tuple"), none, (.seq #[] 0), #[]⟩
noncomputable def o169 (P : Params) : Obj := ⟨.none, none, (.fields #[]), #[]⟩
noncomputable def o170 (P : Params) : Obj := ⟨(.type "tuple"), none, (.seq #[(.str (ofString "self") 341), (.str (ofString "word") 342)] 0), #[]⟩
noncomputable def o171 (P : Params) : Obj := ⟨(.type "tuple"), none, (.seq #[] 0), #[]⟩
noncomputable def o172 (P : Params) : Obj := ⟨.none, none, (.func (fdq (inq (stq 9) 5) (ofString "Cursor.skip") false 0 [] .none .none .none .none none .none .none 0)), #[]⟩
noncomputable def o173 (P : Params) : Obj := ⟨(.type "code"), none, (.fields #[(.str (ofString "skip") 338), (.str (ofString "Cursor.skip") 339), (.str (ofString "/claim/cut.py") 340), (.int 49 0), (.int 2 0), (.int 0 0), (.int 0 0), (.int 3 0), (.ref 123), (.bool true), (.int 181 0), (.ref 124), .none, (.ref 125), (.ref 126), (.ref 127), (.int 343 0), (.int 49 0), (.str (ofString "/claim/cut.py") 344)]), #[]⟩
noncomputable def o174 (P : Params) : Obj := ⟨(.type "function"), none, (.func (fdq (inq (stq 9) 5) (ofString "Cursor.skip") false 3 [] .none .none .none (.str (ofString "postkeep.octets") 276) none (.ref 128) .none 0)), #[]⟩
noncomputable def o175 (P : Params) : Obj := ⟨(.type "tuple"), none, (.seq #[] 0), #[]⟩
noncomputable def o176 (P : Params) : Obj := ⟨.none, none, (.fields #[]), #[]⟩
noncomputable def o177 (P : Params) : Obj := ⟨(.type "tuple"), none, (.seq #[(.str (ofString "self") 349), (.str (ofString "codes") 350)] 0), #[]⟩
noncomputable def o178 (P : Params) : Obj := ⟨(.type "tuple"), none, (.seq #[] 0), #[]⟩
noncomputable def o179 (P : Params) : Obj := ⟨.none, none, (.func (fdq (inq (stq 9) 6) (ofString "Cursor.take_while") false 0 [] .none .none .none .none none .none .none 0)), #[]⟩
noncomputable def o180 (P : Params) : Obj := ⟨(.type "code"), none, (.fields #[(.str (ofString "take_while") 346), (.str (ofString "Cursor.take_while") 347), (.str (ofString "/claim/cut.py") 348), (.int 52 0), (.int 2 0), (.int 0 0), (.int 0 0), (.int 3 0), (.ref 130), (.bool true), (.int 181 0), (.ref 131), .none, (.ref 132), (.ref 133), (.ref 134), (.int 351 0), (.int 52 0), (.str (ofString "/claim/cut.py") 352)]), #[]⟩
noncomputable def o181 (P : Params) : Obj := ⟨(.type "function"), none, (.func (fdq (inq (stq 9) 6) (ofString "Cursor.take_while") false 3 [] .none .none .none (.str (ofString "postkeep.octets") 276) none (.ref 135) .none 0)), #[]⟩
noncomputable def o182 (P : Params) : Obj := ⟨(.type "tuple"), none, (.seq #[] 0), #[]⟩
noncomputable def o183 (P : Params) : Obj := ⟨.none, none, (.fields #[]), #[]⟩
noncomputable def o184 (P : Params) : Obj := ⟨(.type "tuple"), none, (.seq #[(.str (ofString "self") 357), (.str (ofString "codes") 358)] 0), #[]⟩
noncomputable def o185 (P : Params) : Obj := ⟨(.type "tuple"), none, (.seq #[] 0), #[]⟩
noncomputable def o186 (P : Params) : Obj := ⟨.none, none, (.func (fdq (inq (stq 9) 7) (ofString "Cursor.take_until") false 0 [] .none .none .none .none none .none .none 0)), #[]⟩
noncomputable def o187 (P : Params) : Obj := ⟨(.type "code"), none, (.fields #[(.str (ofString "take_until") 354), (.str (ofString "Cursor.take_until") 355), (.str (ofString "/claim/cut.py") 356), (.int 55 0), (.int 2 0), (.int 0 0), (.int 0 0), (.int 3 0), (.ref 137), (.bool true), (.int 181 0), (.ref 138), .none, (.ref 139), (.ref 140), (.ref 141), (.int 359 0), (.int 55 0), (.str (ofString "/claim/cut.py") 360)]), #[]⟩
noncomputable def o188 (P : Params) : Obj := ⟨(.type "function"), none, (.func (fdq (inq (stq 9) 7) (ofString "Cursor.take_until") false 3 [] .none .none .none (.str (ofString "postkeep.octets") 276) none (.ref 142) .none 0)), #[]⟩
noncomputable def o189 (P : Params) : Obj := ⟨(.type "tuple"), none, (.seq #[] 0), #[]⟩
noncomputable def o190 (P : Params) : Obj := ⟨.none, none, (.fields #[]), #[]⟩
noncomputable def o191 (P : Params) : Obj := ⟨(.type "tuple"), none, (.seq #[(.str (ofString "self") 365), (.str (ofString "first") 366), (.str (ofString "number") 367)] 0), #[]⟩
noncomputable def o192 (P : Params) : Obj := ⟨(.type "tuple"), none, (.seq #[] 0), #[]⟩
noncomputable def o193 (P : Params) : Obj := ⟨.none, none, (.func (fdq (inq (stq 9) 8) (ofString "Cursor.number") false 0 [] .none .none .none .none none .none .none 0)), #[]⟩
noncomputable def o194 (P : Params) : Obj := ⟨(.type "code"), none, (.fields #[(.str (ofString "number") 362), (.str (ofString "Cursor.number") 363), (.str (ofString "/claim/cut.py") 364), (.int 58 0), (.int 1 0), (.int 0 0), (.int 0 0), (.int 3 0), (.ref 144), (.bool true), (.int 181 0), (.ref 145), .none, (.ref 146), (.ref 147), (.ref 148), (.int 368 0), (.int 58 0), (.str (ofString "/claim/cut.py") 369)]), #[]⟩
noncomputable def o195 (P : Params) : Obj := ⟨(.type "function"), none, (.func (fdq (inq (stq 9) 8) (ofString "Cursor.number") false 3 [] .none .none .none (.str (ofString "postkeep.octets") 276) none (.ref 149) .none 0)), #[]⟩
noncomputable def o196 (P : Params) : Obj := ⟨(.type "tuple"), none, (.seq #[] 0), #[]⟩
noncomputable def o197 (P : Params) : Obj := ⟨.none, none, (.fields #[]), #[]⟩
noncomputable def o198 (P : Params) : Obj := ⟨(.type "tuple"), none, (.seq #[(.str (ofString "self") 374), (.str (ofString "word") 375)] 0), #[]⟩
noncomputable def o199 (P : Params) : Obj := ⟨(.type "tuple"), none, (.seq #[] 0), #[]⟩
noncomputable def o200 (P : Params) : Obj := ⟨.none, none, (.func (fdq (inq (stq 9) 9) (ofString "Cursor.find") false 0 [] .none .none .none .none none .none .none 0)), #[]⟩
noncomputable def o201 (P : Params) : Obj := ⟨(.type "code"), none, (.fields #[(.str (ofString "find") 371), (.str (ofString "Cursor.find") 372), (.str (ofString "/claim/cut.py") 373), (.int 68 0), (.int 2 0), (.int 0 0), (.int 0 0), (.int 3 0), (.ref 151), (.bool true), (.int 181 0), (.ref 152), .none, (.ref 153), (.ref 154), (.ref 155), (.int 376 0), (.int 68 0), (.str (ofString "/claim/cut.py") 377)]), #[]⟩
noncomputable def o202 (P : Params) : Obj := ⟨(.type "function"), none, (.func (fdq (inq (stq 9) 9) (ofString "Cursor.find") false 3 [] .none .none .none (.str (ofString "postkeep.octets") 276) none (.ref 156) .none 0)), #[]⟩
noncomputable def o203 (P : Params) : Obj := ⟨(.type "tuple"), none, (.seq #[(.str (ofString "at") 379), (.str (ofString "data") 380), (.str (ofString "end") 381)] 0), #[]⟩
noncomputable def o204 (P : Params) : Obj := ⟨(.type "dict"), none, (.dict #[en P (ofString "__module__") 287 (.str (ofString "postkeep.octets") 276), en P (ofString "__firstlineno__") 291 (.int 26 290), en P (ofString "__init__") 304 (.ref 93), en P (ofString "is_done") 311 (.ref 100), en P (ofString "peek") 321 (.ref 108), en P (ofString "take") 329 (.ref 115), en P (ofString "starts") 337 (.ref 122), en P (ofString "skip") 345 (.ref 129), en P (ofString "take_while") 353 (.ref 136), en P (ofString "take_until") 361 (.ref 143), en P (ofString "number") 370 (.ref 150), en P (ofString "find") 378 (.ref 157), en P (ofString "__static_attributes__") 382 (.ref 158), en P (ofString "__dict__") 384 (.ref 161), en P (ofString "__weakref__") 386 (.ref 162), en P (ofString "__doc__") 387 .none] 4), #[]⟩
noncomputable def o205 (P : Params) : Obj := ⟨(.type "type"), none, (.cls ⟨(ofString "Cursor"), [(.type "object")], [(.ref 160), (.type "object")], 159, (ofString "Cursor"), true, [], [], false, none, false⟩), #[none, none, (some (.str (ofString "Cursor") 280)), (some (.str (ofString "Cursor") 288)), (some (.builtin "object.__new__")), (some (.bool true))]⟩
noncomputable def o206 (P : Params) : Obj := ⟨(.type "getset_descriptor"), none, (.fields #[(.str (ofString "__dict__") 383), (.ref 160), (.builtin "function.__dict__"), (.builtin "function.__dict__#set")]), #[]⟩
noncomputable def o207 (P : Params) : Obj := ⟨(.type "getset_descriptor"), none, (.fields #[(.str (ofString "__weakref__") 385), (.ref 160), (.builtin "ExceptionGroup.__weakref__"), .none]), #[]⟩
noncomputable def o208 (P : Params) : Obj := ⟨(.type "super"), none, (.fields #[(.ref 160), (.ref 160), (.ref 160)]), #[]⟩
noncomputable def o209 (P : Params) : Obj := ⟨(.type "builtin_function_or_method"), none, (.fields #[(.builtin "object.__init_subclass__"), (.ref 160)]), #[]⟩
noncomputable def o210 (P : Params) : Obj := ⟨(.type "dict"), none, (.dict #[en P (ofString "__name__") 165 (.str (ofString "postkeep.charsets") 409), en P (ofString "__doc__") 166 .none, en P (ofString "__package__") 167 .none, en P (ofString "__loader__") 168 (.builtin "__main__.__loader__#opaque"), en P (ofString "__spec__") 169 .none, en P (ofString "__annotations__") 170 (.ref 6), en P (ofString "__builtins__") 171 (.ref 4), en P (ofString "__file__") 173 (.str (ofString "/claim/cut.py") 172), en P (ofString "__cached__") 174 .none, en P (ofString "_wall") 193 (.ref 21), en P (ofString "PostError") 235 (.ref 46), en P (ofString "WordFault") 251 (.ref 59), en P (ofString "MimeFault") 267 (.ref 71), en P (ofString "sign_octets") 275 (.ref 78), en P (ofString "MOST_FIGURES") 279 (.int 20 278), en P (ofString "Cursor") 389 (.ref 160), en P (ofString "lower_code") 396 (.ref 171), en P (ofString "lower") 402 (.ref 176), en P (ofString "lower_text") 408 (.ref 181), en P (ofString "ASCII") 412 (.str (ofString "us-ascii") 411), en P (ofString "LATIN") 414 (.str (ofString "iso-8859-1") 413), en P (ofString "UTF8") 416 (.str (ofString "utf-8") 415), en P (ofString "CHARSETS") 417 (.ref 182), en P (ofString "UNKNOWN_SIGN") 420 (.str (ofString "�") 419), en P (ofString "charset_names") 428 (.ref 189), en P (ofString "charset_name") 435 (.ref 196), en P (ofString "need_charset") 442 (.ref 203), en P (ofString "utf8_length") 448 (.ref 208), en P (ofString "utf8_octets") 459 (.ref 215), en P (ofString "follower_span") 466 (.ref 222), en P (ofString "utf8_sign") 480 (.ref 229), en P (ofString "sign_at") 489 (.ref 236)] 32), #[]⟩
noncomputable def o211 (P : Params) : Obj := ⟨.none, none, (.fields #[(.int 1 0), (.int 0 0), (.ref 20), (.int 5 0), (.int 0 0), (.ref 27), (.int 14 0), (.int 0 0), (.ref 55), (.int 16 0), (.int 0 0), (.ref 67), (.int 19 0), (.int 0 0), (.ref 77), (.int 26 0), (.int 0 0), (.ref 84), (.int 70 0), (.int 0 0), (.ref 170), (.int 72 0), (.int 0 0), (.ref 175), (.int 74 0), (.int 0 0), (.ref 180), (.int 82 0), (.int 0 0), (.ref 188), (.int 91 0), (.int 0 0), (.ref 195), (.int 93 0), (.int 0 0), (.ref 202), (.int 96 0), (.int 0 0), (.ref 207), (.int 100 0), (.int 0 0), (.ref 214), (.int 110 0), (.int 0 0), (.ref 221), (.int 118 0), (.int 0 0), (.ref 228), (.int 132 0), (.int 0 0), (.ref 235)]), #[]⟩
noncomputable def o212 (P : Params) : Obj := ⟨(.type "tuple"), none, (.seq #[] 0), #[]⟩
noncomputable def o213 (P : Params) : Obj := ⟨.none, none, (.fields #[]), #[]⟩
noncomputable def o214 (P : Params) : Obj := ⟨(.type "tuple"), none, (.seq #[(.str (ofString "code") 393)] 0), #[]⟩
noncomputable def o215 (P : Params) : Obj := ⟨(.type "tuple"), none, (.seq #[] 0), #[]⟩
noncomputable def o216 (P : Params) : Obj := ⟨.none, none, (.func (fdq (stq 10) (ofString "lower_code") false 0 [] .none .none .none .none none .none .none 0)), #[]⟩
noncomputable def o217 (P : Params) : Obj := ⟨(.type "code"), none, (.fields #[(.str (ofString "lower_code") 390), (.str (ofString "lower_code") 391), (.str (ofString "/claim/cut.py") 392), (.int 70 0), (.int 1 0), (.int 0 0), (.int 0 0), (.int 3 0), (.ref 165), (.bool true), (.int 181 0), (.ref 166), .none, (.ref 167), (.ref 168), (.ref 169), (.int 394 0), (.int 70 0), (.str (ofString "/claim/cut.py") 395)]), #[]⟩
noncomputable def o218 (P : Params) : Obj := ⟨(.type "function"), none, (.func (fdq (stq 10) (ofString "lower_code") false 3 [] .none .none .none (.str (ofString "postkeep.octets") 276) none (.ref 170) .none 0)), #[]⟩
noncomputable def o219 (P : Params) : Obj := ⟨(.type "tuple"), none, (.seq #[] 0), #[]⟩
noncomputable def o220 (P : Params) : Obj := ⟨.none, none, (.fields #[]), #[]⟩
noncomputable def o221 (P : Params) : Obj := ⟨.none, none, (.func (fdq (stq 11) (ofString "lower") false 0 [] .none .none .none .none none .none .none 0)), #[]⟩
noncomputable def o222 (P : Params) : Obj := ⟨(.type "code"), none, (.fields #[(.str (ofString "lower") 397), (.str (ofString "lower") 398), (.str (ofString "/claim/cut.py") 399), (.int 72 0), (.int 1 0), (.int 0 0), (.int 0 0), (.int 3 0), (.ref 172), (.bool true), (.int 181 0), (.ref 173), .none, .none, .none, (.ref 174), (.int 400 0), (.int 72 0), (.str (ofString "/claim/cut.py") 401)]), #[]⟩
noncomputable def o223 (P : Params) : Obj := ⟨(.type "function"), none, (.func (fdq (stq 11) (ofString "lower") false 3 [] .none .none .none (.str (ofString "postkeep.octets") 276) none (.ref 175) .none 0)), #[]⟩
noncomputable def o224 (P : Params) : Obj := ⟨(.type "tuple"), none, (.seq #[] 0), #[]⟩
noncomputable def o225 (P : Params) : Obj := ⟨.none, none, (.fields #[]), #[]⟩
noncomputable def o226 (P : Params) : Obj := ⟨.none, none, (.func (fdq (stq 12) (ofString "lower_text") false 0 [] .none .none .none .none none .none .none 0)), #[]⟩
noncomputable def o227 (P : Params) : Obj := ⟨(.type "code"), none, (.fields #[(.str (ofString "lower_text") 403), (.str (ofString "lower_text") 404), (.str (ofString "/claim/cut.py") 405), (.int 74 0), (.int 1 0), (.int 0 0), (.int 0 0), (.int 3 0), (.ref 177), (.bool true), (.int 181 0), (.ref 178), .none, .none, .none, (.ref 179), (.int 406 0), (.int 74 0), (.str (ofString "/claim/cut.py") 407)]), #[]⟩
noncomputable def o228 (P : Params) : Obj := ⟨(.type "function"), none, (.func (fdq (stq 12) (ofString "lower_text") false 3 [] .none .none .none (.str (ofString "postkeep.octets") 276) none (.ref 180) .none 0)), #[]⟩
noncomputable def o229 (P : Params) : Obj := ⟨(.type "tuple"), none, (.seq #[(.str (ofString "us-ascii") 411), (.str (ofString "iso-8859-1") 413), (.str (ofString "utf-8") 415)] 0), #[]⟩
noncomputable def o230 (P : Params) : Obj := ⟨(.type "tuple"), none, (.seq #[] 0), #[]⟩
noncomputable def o231 (P : Params) : Obj := ⟨.none, none, (.fields #[]), #[]⟩
noncomputable def o232 (P : Params) : Obj := ⟨(.type "tuple"), none, (.seq #[(.str (ofString "found") 424), (.str (ofString "alias") 425)] 0), #[]⟩
noncomputable def o233 (P : Params) : Obj := ⟨(.type "tuple"), none, (.seq #[] 0), #[]⟩
noncomputable def o234 (P : Params) : Obj := ⟨.none, none, (.func (fdq (stq 19) (ofString "charset_names") false 0 [] .none .none .none .none none .none .none 0)), #[]⟩
noncomputable def o235 (P : Params) : Obj := ⟨(.type "code"), none, (.fields #[(.str (ofString "charset_names") 421), (.str (ofString "charset_names") 422), (.str (ofString "/claim/cut.py") 423), (.int 82 0), (.int 0 0), (.int 0 0), (.int 0 0), (.int 3 0), (.ref 183), (.bool true), (.int 181 0), (.ref 184), .none, (.ref 185), (.ref 186), (.ref 187), (.int 426 0), (.int 82 0), (.str (ofString "/claim/cut.py") 427)]), #[]⟩
noncomputable def o236 (P : Params) : Obj := ⟨(.type "function"), none, (.func (fdq (stq 19) (ofString "charset_names") false 3 [] .none .none .none (.str (ofString "postkeep.charsets") 409) none (.ref 188) .none 0)), #[]⟩
noncomputable def o237 (P : Params) : Obj := ⟨(.type "tuple"), none, (.seq #[] 0), #[]⟩
noncomputable def o238 (P : Params) : Obj := ⟨.none, none, (.fields #[]), #[]⟩
noncomputable def o239 (P : Params) : Obj := ⟨(.type "tuple"), none, (.seq #[(.str (ofString "text") 432)] 0), #[]⟩
noncomputable def o240 (P : Params) : Obj := ⟨(.type "tuple"), none, (.seq #[] 0), #[]⟩
noncomputable def o241 (P : Params) : Obj := ⟨.none, none, (.func (fdq (stq 20) (ofString "charset_name") false 0 [] .none .none .none .none none .none .none 0)), #[]⟩
noncomputable def o242 (P : Params) : Obj := ⟨(.type "code"), none, (.fields #[(.str (ofString "charset_name") 429), (.str (ofString "charset_name") 430), (.str (ofString "/claim/cut.py") 431), (.int 91 0), (.int 1 0), (.int 0 0), (.int 0 0), (.int 3 0), (.ref 190), (.bool true), (.int 181 0), (.ref 191), .none, (.ref 192), (.ref 193), (.ref 194), (.int 433 0), (.int 91 0), (.str (ofString "/claim/cut.py") 434)]), #[]⟩
noncomputable def o243 (P : Params) : Obj := ⟨(.type "function"), none, (.func (fdq (stq 20) (ofString "charset_name") false 3 [] .none .none .none (.str (ofString "postkeep.charsets") 409) none (.ref 195) .none 0)), #[]⟩
noncomputable def o244 (P : Params) : Obj := ⟨(.type "tuple"), none, (.seq #[] 0), #[]⟩
noncomputable def o245 (P : Params) : Obj := ⟨.none, none, (.fields #[]), #[]⟩
noncomputable def o246 (P : Params) : Obj := ⟨(.type "tuple"), none, (.seq #[(.str (ofString "charset") 439)] 0), #[]⟩
noncomputable def o247 (P : Params) : Obj := ⟨(.type "tuple"), none, (.seq #[] 0), #[]⟩
noncomputable def o248 (P : Params) : Obj := ⟨.none, none, (.func (fdq (stq 21) (ofString "need_charset") false 0 [] .none .none .none .none none .none .none 0)), #[]⟩
noncomputable def o249 (P : Params) : Obj := ⟨(.type "code"), none, (.fields #[(.str (ofString "need_charset") 436), (.str (ofString "need_charset") 437), (.str (ofString "/claim/cut.py") 438), (.int 93 0), (.int 1 0), (.int 0 0), (.int 0 0), (.int 3 0), (.ref 197), (.bool true), (.int 181 0), (.ref 198), .none, (.ref 199), (.ref 200), (.ref 201), (.int 440 0), (.int 93 0), (.str (ofString "/claim/cut.py") 441)]), #[]⟩
noncomputable def o250 (P : Params) : Obj := ⟨(.type "function"), none, (.func (fdq (stq 21) (ofString "need_charset") false 3 [] .none .none .none (.str (ofString "postkeep.charsets") 409) none (.ref 202) .none 0)), #[]⟩
noncomputable def o251 (P : Params) : Obj := ⟨(.type "tuple"), none, (.seq #[] 0), #[]⟩
noncomputable def o252 (P : Params) : Obj := ⟨.none, none, (.fields #[]), #[]⟩
noncomputable def o253 (P : Params) : Obj := ⟨.none, none, (.func (fdq (stq 22) (ofString "utf8_length") false 0 [] .none .none .none .none none .none .none 0)), #[]⟩
noncomputable def o254 (P : Params) : Obj := ⟨(.type "code"), none, (.fields #[(.str (ofString "utf8_length") 443), (.str (ofString "utf8_length") 444), (.str (ofString "/claim/cut.py") 445), (.int 96 0), (.int 1 0), (.int 0 0), (.int 0 0), (.int 3 0), (.ref 204), (.bool true), (.int 181 0), (.ref 205), .none, .none, .none, (.ref 206), (.int 446 0), (.int 96 0), (.str (ofString "/claim/cut.py") 447)]), #[]⟩
noncomputable def o255 (P : Params) : Obj := ⟨(.type "function"), none, (.func (fdq (stq 22) (ofString "utf8_length") false 3 [] .none .none .none (.str (ofString "postkeep.charsets") 409) none (.ref 207) .none 0)), #[]⟩
noncomputable def o256 (P : Params) : Obj := ⟨(.type "tuple"), none, (.seq #[] 0), #[]⟩
noncomputable def o257 (P : Params) : Obj := ⟨.none, none, (.fields #[]), #[]⟩
noncomputable def o258 (P : Params) : Obj := ⟨(.type "tuple"), none, (.seq #[(.str (ofString "code") 452), (.str (ofString "length") 453), (.str (ofString "found") 454), (.str (ofString "left") 455), (.str (ofString "place") 456)] 0), #[]⟩
noncomputable def o259 (P : Params) : Obj := ⟨(.type "tuple"), none, (.seq #[] 0), #[]⟩
noncomputable def o260 (P : Params) : Obj := ⟨.none, none, (.func (fdq (stq 23) (ofString "utf8_octets") false 0 [] .none .none .none .none none .none .none 0)), #[]⟩
noncomputable def o261 (P : Params) : Obj := ⟨(.type "code"), none, (.fields #[(.str (ofString "utf8_octets") 449), (.str (ofString "utf8_octets") 450), (.str (ofString "/claim/cut.py") 451), (.int 100 0), (.int 1 0), (.int 0 0), (.int 0 0), (.int 3 0), (.ref 209), (.bool true), (.int 181 0), (.ref 210), .none, (.ref 211), (.ref 212), (.ref 213), (.int 457 0), (.int 100 0), (.str (ofString "/claim/cut.py") 458)]), #[]⟩
noncomputable def o262 (P : Params) : Obj := ⟨(.type "function"), none, (.func (fdq (stq 23) (ofString "utf8_octets") false 3 [] .none .none .none (.str (ofString "postkeep.charsets") 409) none (.ref 214) .none 0)), #[]⟩
noncomputable def o263 (P : Params) : Obj := ⟨(.type "tuple"), none, (.seq #[] 0), #[]⟩
noncomputable def o264 (P : Params) : Obj := ⟨.none, none, (.fields #[]), #[]⟩
noncomputable def o265 (P : Params) : Obj := ⟨(.type "tuple"), none, (.seq #[(.str (ofString "lead") 463)] 0), #[]⟩
noncomputable def o266 (P : Params) : Obj := ⟨(.type "tuple"), none, (.seq #[] 0), #[]⟩
noncomputable def o267 (P : Params) : Obj := ⟨.none, none, (.func (fdq (stq 24) (ofString "follower_span") false 0 [] .none .none .none .none none .none .none 0)), #[]⟩
noncomputable def o268 (P : Params) : Obj := ⟨(.type "code"), none, (.fields #[(.str (ofString "follower_span") 460), (.str (ofString "follower_span") 461), (.str (ofString "/claim/cut.py") 462), (.int 110 0), (.int 1 0), (.int 0 0), (.int 0 0), (.int 3 0), (.ref 216), (.bool true), (.int 181 0), (.ref 217), .none, (.ref 218), (.ref 219), (.ref 220), (.int 464 0), (.int 110 0), (.str (ofString "/claim/cut.py") 465)]), #[]⟩
noncomputable def o269 (P : Params) : Obj := ⟨(.type "function"), none, (.func (fdq (stq 24) (ofString "follower_span") false 3 [] .none .none .none (.str (ofString "postkeep.charsets") 409) none (.ref 221) .none 0)), #[]⟩
noncomputable def o270 (P : Params) : Obj := ⟨(.type "tuple"), none, (.seq #[] 0), #[]⟩
noncomputable def o271 (P : Params) : Obj := ⟨.none, none, (.fields #[]), #[]⟩
noncomputable def o272 (P : Params) : Obj := ⟨(.type "tuple"), none, (.seq #[(.str (ofString "octets") 470), (.str (ofString "at") 471), (.str (ofString "lead") 472), (.str (ofString "least") 473), (.str (ofString "most") 474), (.str (ofString "count") 475), (.str (ofString "code") 476), (.str (ofString "place") 477)] 0), #[]⟩
noncomputable def o273 (P : Params) : Obj := ⟨(.type "tuple"), none, (.seq #[] 0), #[]⟩
noncomputable def o274 (P : Params) : Obj := ⟨.none, none, (.func (fdq (stq 25) (ofString "utf8_sign") false 0 [] .none .none .none .none none .none .none 0)), #[]⟩
noncomputable def o275 (P : Params) : Obj := ⟨(.type "code"), none, (.fields #[(.str (ofString "utf8_sign") 467), (.str (ofString "utf8_sign") 468), (.str (ofString "/claim/cut.py") 469), (.int 118 0), (.int 2 0), (.int 0 0), (.int 0 0), (.int 3 0), (.ref 223), (.bool true), (.int 181 0), (.ref 224), .none, (.ref 225), (.ref 226), (.ref 227), (.int 478 0), (.int 118 0), (.str (ofString "/claim/cut.py") 479)]), #[]⟩
noncomputable def o276 (P : Params) : Obj := ⟨(.type "function"), none, (.func (fdq (stq 25) (ofString "utf8_sign") false 3 [] .none .none .none (.str (ofString "postkeep.charsets") 409) none (.ref 228) .none 0)), #[]⟩
noncomputable def o277 (P : Params) : Obj := ⟨(.type "tuple"), none, (.seq #[] 0), #[]⟩
noncomputable def o278 (P : Params) : Obj := ⟨.none, none, (.fields #[]), #[]⟩
noncomputable def o279 (P : Params) : Obj := ⟨(.type "tuple"), none, (.seq #[(.str (ofString "charset") 484), (.str (ofString "octets") 485), (.str (ofString "at") 486)] 0), #[]⟩
noncomputable def o280 (P : Params) : Obj := ⟨(.type "tuple"), none, (.seq #[] 0), #[]⟩
noncomputable def o281 (P : Params) : Obj := ⟨.none, none, (.func (fdq (stq 26) (ofString "sign_at") false 0 [] .none .none .none .none none .none .none 0)), #[]⟩
noncomputable def o282 (P : Params) : Obj := ⟨(.type "code"), none, (.fields #[(.str (ofString "sign_at") 481), (.str (ofString "sign_at") 482), (.str (ofString "/claim/cut.py") 483), (.int 132 0), (.int 3 0), (.int 0 0), (.int 0 0), (.int 3 0), (.ref 230), (.bool true), (.int 181 0), (.ref 231), .none, (.ref 232), (.ref 233), (.ref 234), (.int 487 0), (.int 132 0), (.str (ofString "/claim/cut.py") 488)]), #[]⟩
noncomputable def o283 (P : Params) : Obj := ⟨(.type "function"), none, (.func (fdq (stq 26) (ofString "sign_at") false 3 [] .none .none .none (.str (ofString "postkeep.charsets") 409) none (.ref 235) .none 0)), #[]⟩
noncomputable def o284 (P : Params) : Obj := ⟨(.type "dict"), none, (.dict #[en P (ofString "__name__") 165 (.str (ofString "postkeep.headers") 540), en P (ofString "__doc__") 166 .none, en P (ofString "__package__") 167 .none, en P (ofString "__loader__") 168 (.builtin "__main__.__loader__#opaque"), en P (ofString "__spec__") 169 .none, en P (ofString "__annotations__") 170 (.ref 6), en P (ofString "__builtins__") 171 (.ref 4), en P (ofString "__file__") 173 (.str (ofString "/claim/cut.py") 172), en P (ofString "__cached__") 174 .none, en P (ofString "_wall") 193 (.ref 21), en P (ofString "PostError") 235 (.ref 46), en P (ofString "WordFault") 251 (.ref 59), en P (ofString "MimeFault") 267 (.ref 71), en P (ofString "sign_octets") 275 (.ref 78), en P (ofString "MOST_FIGURES") 279 (.int 20 278), en P (ofString "Cursor") 389 (.ref 160), en P (ofString "lower_code") 396 (.ref 171), en P (ofString "lower") 402 (.ref 176), en P (ofString "lower_text") 408 (.ref 181), en P (ofString "ASCII") 412 (.str (ofString "us-ascii") 411), en P (ofString "LATIN") 414 (.str (ofString "iso-8859-1") 413), en P (ofString "UTF8") 416 (.str (ofString "utf-8") 415), en P (ofString "CHARSETS") 417 (.ref 182), en P (ofString "UNKNOWN_SIGN") 420 (.str (ofString "�") 419), en P (ofString "charset_names") 428 (.ref 189), en P (ofString "charset_name") 435 (.ref 196), en P (ofString "need_charset") 442 (.ref 203), en P (ofString "utf8_length") 448 (.ref 208), en P (ofString "utf8_octets") 459 (.ref 215), en P (ofString "follower_span") 466 (.ref 222), en P (ofString "utf8_sign") 480 (.ref 229), en P (ofString "sign_at") 489 (.ref 236), en P (ofString "text_in") 501 (.ref 243), en P (ofString "strict_text") 513 (.ref 250), en P (ofString "guessed_text") 520 (.ref 257), en P (ofString "has_sign") 528 (.ref 264), en P (ofString "octets_in") 539 (.ref 271)] 37), #[]⟩
noncomputable def o285 (P : Params) : Obj := ⟨.none, none, (.fields #[(.int 1 0), (.int 0 0), (.ref 20), (.int 5 0), (.int 0 0), (.ref 27), (.int 14 0), (.int 0 0), (.ref 55), (.int 16 0), (.int 0 0), (.ref 67), (.int 19 0), (.int 0 0), (.ref 77), (.int 26 0), (.int 0 0), (.ref 84), (.int 70 0), (.int 0 0), (.ref 170), (.int 72 0), (.int 0 0), (.ref 175), (.int 74 0), (.int 0 0), (.ref 180), (.int 82 0), (.int 0 0), (.ref 188), (.int 91 0), (.int 0 0), (.ref 195), (.int 93 0), (.int 0 0), (.ref 202), (.int 96 0), (.int 0 0), (.ref 207), (.int 100 0), (.int 0 0), (.ref 214), (.int 110 0), (.int 0 0), (.ref 221), (.int 118 0), (.int 0 0), (.ref 228), (.int 132 0), (.int 0 0), (.ref 235), (.int 138 0), (.int 0 0), (.ref 242), (.int 147 0), (.int 0 0), (.ref 249), (.int 158 0), (.int 0 0), (.ref 256), (.int 163 0), (.int 0 0), (.ref 263), (.int 167 0), (.int 0 0), (.ref 270)]), #[]⟩
noncomputable def o286 (P : Params) : Obj := ⟨(.type "tuple"), none, (.seq #[] 0), #[]⟩
noncomputable def o287 (P : Params) : Obj := ⟨.none, none, (.fields #[]), #[]⟩
noncomputable def o288 (P : Params) : Obj := ⟨(.type "tuple"), none, (.seq #[(.str (ofString "charset") 493), (.str (ofString "octets") 494), (.str (ofString "signs") 495), (.str (ofString "at") 496), (.str (ofString "code") 497), (.str (ofString "length") 498)] 0), #[]⟩
noncomputable def o289 (P : Params) : Obj := ⟨(.type "tuple"), none, (.seq #[] 0), #[]⟩
noncomputable def o290 (P : Params) : Obj := ⟨.none, none, (.func (fdq (stq 27) (ofString "text_in") false 0 [] .none .none .none .none none .none .none 0)), #[]⟩
noncomputable def o291 (P : Params) : Obj := ⟨(.type "code"), none, (.fields #[(.str (ofString "text_in") 490), (.str (ofString "text_in") 491), (.str (ofString "/claim/cut.py") 492), (.int 138 0), (.int 2 0), (.int 0 0), (.int 0 0), (.int 3 0), (.ref 237), (.bool true), (.int 181 0), (.ref 238), .none, (.ref 239), (.ref 240), (.ref 241), (.int 499 0), (.int 138 0), (.str (ofString "/claim/cut.py") 500)]), #[]⟩
noncomputable def o292 (P : Params) : Obj := ⟨(.type "function"), none, (.func (fdq (stq 27) (ofString "text_in") false 3 [] .none .none .none (.str (ofString "postkeep.charsets") 409) none (.ref 242) .none 0)), #[]⟩
noncomputable def o293 (P : Params) : Obj := ⟨(.type "tuple"), none, (.seq #[] 0), #[]⟩
noncomputable def o294 (P : Params) : Obj := ⟨.none, none, (.fields #[]), #[]⟩
noncomputable def o295 (P : Params) : Obj := ⟨(.type "tuple"), none, (.seq #[(.str (ofString "charset") 505), (.str (ofString "octets") 506), (.str (ofString "signs") 507), (.str (ofString "at") 508), (.str (ofString "code") 509), (.str (ofString "length") 510)] 0), #[]⟩
noncomputable def o296 (P : Params) : Obj := ⟨(.type "tuple"), none, (.seq #[] 0), #[]⟩
noncomputable def o297 (P : Params) : Obj := ⟨.none, none, (.func (fdq (stq 28) (ofString "strict_text") false 0 [] .none .none .none .none none .none .none 0)), #[]⟩
noncomputable def o298 (P : Params) : Obj := ⟨(.type "code"), none, (.fields #[(.str (ofString "strict_text") 502), (.str (ofString "strict_text") 503), (.str (ofString "/claim/cut.py") 504), (.int 147 0), (.int 2 0), (.int 0 0), (.int 0 0), (.int 3 0), (.ref 244), (.bool true), (.int 181 0), (.ref 245), .none, (.ref 246), (.ref 247), (.ref 248), (.int 511 0), (.int 147 0), (.str (ofString "/claim/cut.py") 512)]), #[]⟩
noncomputable def o299 (P : Params) : Obj := ⟨(.type "function"), none, (.func (fdq (stq 28) (ofString "strict_text") false 3 [] .none .none .none (.str (ofString "postkeep.charsets") 409) none (.ref 249) .none 0)), #[]⟩
noncomputable def o300 (P : Params) : Obj := ⟨(.type "tuple"), none, (.seq #[] 0), #[]⟩
noncomputable def o301 (P : Params) : Obj := ⟨.none, none, (.fields #[]), #[]⟩
noncomputable def o302 (P : Params) : Obj := ⟨(.type "tuple"), none, (.seq #[(.str (ofString "octets") 517)] 0), #[]⟩
noncomputable def o303 (P : Params) : Obj := ⟨(.type "tuple"), none, (.seq #[] 0), #[]⟩
noncomputable def o304 (P : Params) : Obj := ⟨.none, none, (.func (fdq (stq 29) (ofString "guessed_text") false 0 [] .none .none .none .none none .none .none 0)), #[]⟩
noncomputable def o305 (P : Params) : Obj := ⟨(.type "code"), none, (.fields #[(.str (ofString "guessed_text") 514), (.str (ofString "guessed_text") 515), (.str (ofString "/claim/cut.py") 516), (.int 158 0), (.int 1 0), (.int 0 0), (.int 0 0), (.int 3 0), (.ref 251), (.bool true), (.int 181 0), (.ref 252), .none, (.ref 253), (.ref 254), (.ref 255), (.int 518 0), (.int 158 0), (.str (ofString "/claim/cut.py") 519)]), #[]⟩
noncomputable def o306 (P : Params) : Obj := ⟨(.type "function"), none, (.func (fdq (stq 29) (ofString "guessed_text") false 3 [] .none .none .none (.str (ofString "postkeep.charsets") 409) none (.ref 256) .none 0)), #[]⟩
noncomputable def o307 (P : Params) : Obj := ⟨(.type "tuple"), none, (.seq #[] 0), #[]⟩
noncomputable def o308 (P : Params) : Obj := ⟨.none, none, (.fields #[]), #[]⟩
noncomputable def o309 (P : Params) : Obj := ⟨(.type "tuple"), none, (.seq #[(.str (ofString "charset") 524), (.str (ofString "code") 525)] 0), #[]⟩
noncomputable def o310 (P : Params) : Obj := ⟨(.type "tuple"), none, (.seq #[] 0), #[]⟩
noncomputable def o311 (P : Params) : Obj := ⟨.none, none, (.func (fdq (stq 30) (ofString "has_sign") false 0 [] .none .none .none .none none .none .none 0)), #[]⟩
noncomputable def o312 (P : Params) : Obj := ⟨(.type "code"), none, (.fields #[(.str (ofString "has_sign") 521), (.str (ofString "has_sign") 522), (.str (ofString "/claim/cut.py") 523), (.int 163 0), (.int 2 0), (.int 0 0), (.int 0 0), (.int 3 0), (.ref 258), (.bool true), (.int 181 0), (.ref 259), .none, (.ref 260), (.ref 261), (.ref 262), (.int 526 0), (.int 163 0), (.str (ofString "/claim/cut.py") 527)]), #[]⟩
noncomputable def o313 (P : Params) : Obj := ⟨(.type "function"), none, (.func (fdq (stq 30) (ofString "has_sign") false 3 [] .none .none .none (.str (ofString "postkeep.charsets") 409) none (.ref 263) .none 0)), #[]⟩
noncomputable def o314 (P : Params) : Obj := ⟨(.type "tuple"), none, (.seq #[] 0), #[]⟩
noncomputable def o315 (P : Params) : Obj := ⟨.none, none, (.fields #[]), #[]⟩
noncomputable def o316 (P : Params) : Obj := ⟨(.type "tuple"), none, (.seq #[(.str (ofString "charset") 532), (.str (ofString "text") 533), (.str (ofString "row") 534), (.str (ofString "at") 535), (.str (ofString "code") 536)] 0), #[]⟩
noncomputable def o317 (P : Params) : Obj := ⟨(.type "tuple"), none, (.seq #[] 0), #[]⟩
noncomputable def o318 (P : Params) : Obj := ⟨.none, none, (.func (fdq (stq 31) (ofString "octets_in") false 0 [] .none .none .none .none none .none .none 0)), #[]⟩
noncomputable def o319 (P : Params) : Obj := ⟨(.type "code"), none, (.fields #[(.str (ofString "octets_in") 529), (.str (ofString "octets_in") 530), (.str (ofString "/claim/cut.py") 531), (.int 167 0), (.int 2 0), (.int 0 0), (.int 0 0), (.int 3 0), (.ref 265), (.bool true), (.int 181 0), (.ref 266), .none, (.ref 267), (.ref 268), (.ref 269), (.int 537 0), (.int 167 0), (.str (ofString "/claim/cut.py") 538)]), #[]⟩
noncomputable def o320 (P : Params) : Obj := ⟨(.type "function"), none, (.func (fdq (stq 31) (ofString "octets_in") false 3 [] .none .none .none (.str (ofString "postkeep.charsets") 409) none (.ref 270) .none 0)), #[]⟩
noncomputable def o321 (P : Params) : Obj := ⟨(.type "dict"), none, (.dict #[en P (ofString "__name__") 165 (.str (ofString "postkeep.headers") 540), en P (ofString "__doc__") 166 .none, en P (ofString "__package__") 167 .none, en P (ofString "__loader__") 168 (.builtin "__main__.__loader__#opaque"), en P (ofString "__spec__") 169 .none, en P (ofString "__annotations__") 170 (.ref 6), en P (ofString "__builtins__") 171 (.ref 4), en P (ofString "__file__") 173 (.str (ofString "/claim/cut.py") 172), en P (ofString "__cached__") 174 .none, en P (ofString "_wall") 193 (.ref 21), en P (ofString "PostError") 235 (.ref 46), en P (ofString "WordFault") 251 (.ref 59), en P (ofString "MimeFault") 267 (.ref 71), en P (ofString "sign_octets") 275 (.ref 78), en P (ofString "MOST_FIGURES") 279 (.int 20 278), en P (ofString "Cursor") 389 (.ref 160), en P (ofString "lower_code") 396 (.ref 171), en P (ofString "lower") 402 (.ref 176), en P (ofString "lower_text") 408 (.ref 181), en P (ofString "ASCII") 412 (.str (ofString "us-ascii") 411), en P (ofString "LATIN") 414 (.str (ofString "iso-8859-1") 413), en P (ofString "UTF8") 416 (.str (ofString "utf-8") 415), en P (ofString "CHARSETS") 417 (.ref 182), en P (ofString "UNKNOWN_SIGN") 420 (.str (ofString "�") 419), en P (ofString "charset_names") 428 (.ref 189), en P (ofString "charset_name") 435 (.ref 196), en P (ofString "need_charset") 442 (.ref 203), en P (ofString "utf8_length") 448 (.ref 208), en P (ofString "utf8_octets") 459 (.ref 215), en P (ofString "follower_span") 466 (.ref 222), en P (ofString "utf8_sign") 480 (.ref 229), en P (ofString "sign_at") 489 (.ref 236), en P (ofString "text_in") 501 (.ref 243), en P (ofString "strict_text") 513 (.ref 250), en P (ofString "guessed_text") 520 (.ref 257), en P (ofString "has_sign") 528 (.ref 264), en P (ofString "octets_in") 539 (.ref 271), en P (ofString "Field") 585 (.ref 300), en P (ofString "line_at") 595 (.ref 311), en P (ofString "rows_of") 606 (.ref 318), en P (ofString "unfolded") 613 (.ref 325)] 41), #[]⟩
noncomputable def o322 (P : Params) : Obj := ⟨.none, none, (.fields #[(.int 1 0), (.int 0 0), (.ref 20), (.int 5 0), (.int 0 0), (.ref 27), (.int 14 0), (.int 0 0), (.ref 55), (.int 16 0), (.int 0 0), (.ref 67), (.int 19 0), (.int 0 0), (.ref 77), (.int 26 0), (.int 0 0), (.ref 84), (.int 70 0), (.int 0 0), (.ref 170), (.int 72 0), (.int 0 0), (.ref 175), (.int 74 0), (.int 0 0), (.ref 180), (.int 82 0), (.int 0 0), (.ref 188), (.int 91 0), (.int 0 0), (.ref 195), (.int 93 0), (.int 0 0), (.ref 202), (.int 96 0), (.int 0 0), (.ref 207), (.int 100 0), (.int 0 0), (.ref 214), (.int 110 0), (.int 0 0), (.ref 221), (.int 118 0), (.int 0 0), (.ref 228), (.int 132 0), (.int 0 0), (.ref 235), (.int 138 0), (.int 0 0), (.ref 242), (.int 147 0), (.int 0 0), (.ref 249), (.int 158 0), (.int 0 0), (.ref 256), (.int 163 0), (.int 0 0), (.ref 263), (.int 167 0), (.int 0 0), (.ref 270), (.int 180 0), (.int 0 0), (.ref 277), (.int 191 0), (.int 0 0), (.ref 310), (.int 198 0), (.int 0 0), (.ref 317), (.int 207 0), (.int 0 0), (.ref 324)]), #[]⟩
noncomputable def o323 (P : Params) : Obj := ⟨(.type "tuple"), none, (.seq #[] 0), #[]⟩
noncomputable def o324 (P : Params) : Obj := ⟨(.type "builtin_function_or_method"), none, (.fields #[(.builtin "type.__prepare__"), (.type "type")]), #[]⟩
noncomputable def o325 (P : Params) : Obj := ⟨(.type "dict"), none, (.dict #[en P (ofString "__module__") 549 (.str (ofString "postkeep.headers") 540), en P (ofString "__qualname__") 551 (.str (ofString "Field") 550), en P (ofString "__firstlineno__") 553 (.int 180 552), en P (ofString "__init__") 562 (.ref 285), en P (ofString "word") 568 (.ref 290), en P (ofString "told") 575 (.ref 297), en P (ofString "__static_attributes__") 578 (.ref 298)] 7), #[]⟩
noncomputable def o326 (P : Params) : Obj := ⟨(.type "tuple"), none, (.seq #[] 0), #[]⟩
noncomputable def o327 (P : Params) : Obj := ⟨.none, none, (.fields #[(.int 182 0), (.int 4 0), (.ref 284), (.int 186 0), (.int 4 0), (.ref 289), (.int 189 0), (.int 4 0), (.ref 296)]), #[]⟩
noncomputable def o328 (P : Params) : Obj := ⟨(.type "code"), none, (.fields #[(.str (ofString "Field") 544), (.str (ofString "Field") 545), (.str (ofString "/claim/cut.py") 546), (.int 180 0), (.int 0 0), (.int 0 0), (.int 0 0), (.int 0 0), (.ref 275), (.bool false), (.int 181 0), (.ref 276), .none, .none, .none, .none, (.int 547 0), (.int 180 0), (.str (ofString "/claim/cut.py") 548)]), #[]⟩
noncomputable def o329 (P : Params) : Obj := ⟨(.type "frame"), none, .plain, #[(some (.ref 277)), (some (.ref 3)), (some (.ref 274)), none, (some (.str (ofString "postkeep.headers") 540)), none, (some (.ref 0))]⟩
noncomputable def o330 (P : Params) : Obj := ⟨(.type "tuple"), none, (.seq #[] 0), #[]⟩
noncomputable def o331 (P : Params) : Obj := ⟨.none, none, (.fields #[]), #[]⟩
noncomputable def o332 (P : Params) : Obj := ⟨(.type "tuple"), none, (.seq #[(.str (ofString "self") 557), (.str (ofString "name") 558), (.str (ofString "raw") 559)] 0), #[]⟩
noncomputable def o333 (P : Params) : Obj := ⟨(.type "tuple"), none, (.seq #[] 0), #[]⟩
noncomputable def o334 (P : Params) : Obj := ⟨.none, none, (.func (fdq (inq (stq 33) 0) (ofString "Field.__init__") false 0 [] .none .none .none .none none .none .none 0)), #[]⟩
noncomputable def o335 (P : Params) : Obj := ⟨(.type "code"), none, (.fields #[(.str (ofString "__init__") 554), (.str (ofString "Field.__init__") 555), (.str (ofString "/claim/cut.py") 556), (.int 182 0), (.int 3 0), (.int 0 0), (.int 0 0), (.int 3 0), (.ref 279), (.bool true), (.int 181 0), (.ref 280), .none, (.ref 281), (.ref 282), (.ref 283), (.int 560 0), (.int 182 0), (.str (ofString "/claim/cut.py") 561)]), #[]⟩
noncomputable def o336 (P : Params) : Obj := ⟨(.type "function"), none, (.func (fdq (inq (stq 33) 0) (ofString "Field.__init__") false 3 [] .none .none .none (.str (ofString "postkeep.headers") 540) none (.ref 284) .none 0)), #[]⟩
noncomputable def o337 (P : Params) : Obj := ⟨(.type "tuple"), none, (.seq #[] 0), #[]⟩
noncomputable def o338 (P : Params) : Obj := ⟨.none, none, (.fields #[]), #[]⟩
noncomputable def o339 (P : Params) : Obj := ⟨.none, none, (.func (fdq (inq (stq 33) 1) (ofString "Field.word") false 0 [] .none .none .none .none none .none .none 0)), #[]⟩
noncomputable def o340 (P : Params) : Obj := ⟨(.type "code"), none, (.fields #[(.str (ofString "word") 563), (.str (ofString "Field.word") 564), (.str (ofString "/claim/cut.py") 565), (.int 186 0), (.int 1 0), (.int 0 0), (.int 0 0), (.int 3 0), (.ref 286), (.bool true), (.int 181 0), (.ref 287), .none, .none, .none, (.ref 288), (.int 566 0), (.int 186 0), (.str (ofString "/claim/cut.py") 567)]), #[]⟩
noncomputable def o341 (P : Params) : Obj := ⟨(.type "function"), none, (.func (fdq (inq (stq 33) 1) (ofString "Field.word") false 3 [] .none .none .none (.str (ofString "postkeep.headers") 540) none (.ref 289) .none 0)), #[]⟩
noncomputable def o342 (P : Params) : Obj := ⟨(.type "tuple"), none, (.seq #[] 0), #[]⟩
noncomputable def o343 (P : Params) : Obj := ⟨.none, none, (.fields #[]), #[]⟩
noncomputable def o344 (P : Params) : Obj := ⟨(.type "tuple"), none, (.seq #[(.str (ofString "self") 572)] 0), #[]⟩
noncomputable def o345 (P : Params) : Obj := ⟨(.type "tuple"), none, (.seq #[] 0), #[]⟩
noncomputable def o346 (P : Params) : Obj := ⟨.none, none, (.func (fdq (inq (stq 33) 2) (ofString "Field.told") false 0 [] .none .none .none .none none .none .none 0)), #[]⟩
noncomputable def o347 (P : Params) : Obj := ⟨(.type "code"), none, (.fields #[(.str (ofString "told") 569), (.str (ofString "Field.told") 570), (.str (ofString "/claim/cut.py") 571), (.int 189 0), (.int 1 0), (.int 0 0), (.int 0 0), (.int 3 0), (.ref 291), (.bool true), (.int 181 0), (.ref 292), .none, (.ref 293), (.ref 294), (.ref 295), (.int 573 0), (.int 189 0), (.str (ofString "/claim/cut.py") 574)]), #[]⟩
noncomputable def o348 (P : Params) : Obj := ⟨(.type "function"), none, (.func (fdq (inq (stq 33) 2) (ofString "Field.told") false 3 [] .none .none .none (.str (ofString "postkeep.headers") 540) none (.ref 296) .none 0)), #[]⟩
noncomputable def o349 (P : Params) : Obj := ⟨(.type "tuple"), none, (.seq #[(.str (ofString "name") 576), (.str (ofString "raw") 577)] 0), #[]⟩
noncomputable def o350 (P : Params) : Obj := ⟨(.type "dict"), none, (.dict #[en P (ofString "__module__") 549 (.str (ofString "postkeep.headers") 540), en P (ofString "__firstlineno__") 553 (.int 180 552), en P (ofString "__init__") 562 (.ref 285), en P (ofString "word") 568 (.ref 290), en P (ofString "told") 575 (.ref 297), en P (ofString "__static_attributes__") 578 (.ref 298), en P (ofString "__dict__") 580 (.ref 301), en P (ofString "__weakref__") 582 (.ref 302), en P (ofString "__doc__") 583 .none] 4), #[]⟩
noncomputable def o351 (P : Params) : Obj := ⟨(.type "type"), none, (.cls ⟨(ofString "Field"), [(.type "object")], [(.ref 300), (.type "object")], 299, (ofString "Field"), true, [], [], false, none, false⟩), #[none, none, (some (.str (ofString "Field") 542)), (some (.str (ofString "Field") 550)), (some (.builtin "object.__new__")), (some (.bool true))]⟩
noncomputable def o352 (P : Params) : Obj := ⟨(.type "getset_descriptor"), none, (.fields #[(.str (ofString "__dict__") 579), (.ref 300), (.builtin "function.__dict__"), (.builtin "function.__dict__#set")]), #[]⟩
noncomputable def o353 (P : Params) : Obj := ⟨(.type "getset_descriptor"), none, (.fields #[(.str (ofString "__weakref__") 581), (.ref 300), (.builtin "ExceptionGroup.__weakref__"), .none]), #[]⟩
noncomputable def o354 (P : Params) : Obj := ⟨(.type "super"), none, (.fields #[(.ref 300), (.ref 300), (.ref 300)]), #[]⟩
noncomputable def o355 (P : Params) : Obj := ⟨(.type "builtin_function_or_method"), none, (.fields #[(.builtin "object.__init_subclass__"), (.ref 300)]), #[]⟩
noncomputable def o356 (P : Params) : Obj := ⟨(.type "tuple"), none, (.seq #[] 0), #[]⟩
noncomputable def o357 (P : Params) : Obj := ⟨.none, none, (.fields #[]), #[]⟩
noncomputable def o358 (P : Params) : Obj := ⟨(.type "tuple"), none, (.seq #[(.str (ofString "data") 589), (.str (ofString "at") 590), (.str (ofString "end") 591), (.str (ofString "spot") 592)] 0), #[]⟩
noncomputable def o359 (P : Params) : Obj := ⟨(.type "tuple"), none, (.seq #[] 0), #[]⟩
noncomputable def o360 (P : Params) : Obj := ⟨.none, none, (.func (fdq (stq 34) (ofString "line_at") false 0 [] .none .none .none .none none .none .none 0)), #[]⟩
noncomputable def o361 (P : Params) : Obj := ⟨(.type "code"), none, (.fields #[(.str (ofString "line_at") 586), (.str (ofString "line_at") 587), (.str (ofString "/claim/cut.py") 588), (.int 191 0), (.int 3 0), (.int 0 0), (.int 0 0), (.int 3 0), (.ref 305), (.bool true), (.int 181 0), (.ref 306), .none, (.ref 307), (.ref 308), (.ref 309), (.int 593 0), (.int 191 0), (.str (ofString "/claim/cut.py") 594)]), #[]⟩
noncomputable def o362 (P : Params) : Obj := ⟨(.type "function"), none, (.func (fdq (stq 34) (ofString "line_at") false 3 [] .none .none .none (.str (ofString "postkeep.headers") 540) none (.ref 310) .none 0)), #[]⟩
noncomputable def o363 (P : Params) : Obj := ⟨(.type "tuple"), none, (.seq #[] 0), #[]⟩
noncomputable def o364 (P : Params) : Obj := ⟨.none, none, (.fields #[]), #[]⟩
noncomputable def o365 (P : Params) : Obj := ⟨(.type "tuple"), none, (.seq #[(.str (ofString "raw") 599), (.str (ofString "rows") 600), (.str (ofString "at") 601), (.str (ofString "last") 602), (.str (ofString "later") 603)] 0), #[]⟩
noncomputable def o366 (P : Params) : Obj := ⟨(.type "tuple"), none, (.seq #[] 0), #[]⟩
noncomputable def o367 (P : Params) : Obj := ⟨.none, none, (.func (fdq (stq 35) (ofString "rows_of") false 0 [] .none .none .none .none none .none .none 0)), #[]⟩
noncomputable def o368 (P : Params) : Obj := ⟨(.type "code"), none, (.fields #[(.str (ofString "rows_of") 596), (.str (ofString "rows_of") 597), (.str (ofString "/claim/cut.py") 598), (.int 198 0), (.int 1 0), (.int 0 0), (.int 0 0), (.int 3 0), (.ref 312), (.bool true), (.int 181 0), (.ref 313), .none, (.ref 314), (.ref 315), (.ref 316), (.int 604 0), (.int 198 0), (.str (ofString "/claim/cut.py") 605)]), #[]⟩
noncomputable def o369 (P : Params) : Obj := ⟨(.type "function"), none, (.func (fdq (stq 35) (ofString "rows_of") false 3 [] .none .none .none (.str (ofString "postkeep.headers") 540) none (.ref 317) .none 0)), #[]⟩
noncomputable def o370 (P : Params) : Obj := ⟨(.type "tuple"), none, (.seq #[] 0), #[]⟩
noncomputable def o371 (P : Params) : Obj := ⟨.none, none, (.fields #[]), #[]⟩
noncomputable def o372 (P : Params) : Obj := ⟨(.type "tuple"), none, (.seq #[(.str (ofString "raw") 610)] 0), #[]⟩
noncomputable def o373 (P : Params) : Obj := ⟨(.type "tuple"), none, (.seq #[] 0), #[]⟩
noncomputable def o374 (P : Params) : Obj := ⟨.none, none, (.func (fdq (stq 36) (ofString "unfolded") false 0 [] .none .none .none .none none .none .none 0)), #[]⟩
noncomputable def o375 (P : Params) : Obj := ⟨(.type "code"), none, (.fields #[(.str (ofString "unfolded") 607), (.str (ofString "unfolded") 608), (.str (ofString "/claim/cut.py") 609), (.int 207 0), (.int 1 0), (.int 0 0), (.int 0 0), (.int 3 0), (.ref 319), (.bool true), (.int 181 0), (.ref 320), .none, (.ref 321), (.ref 322), (.ref 323), (.int 611 0), (.int 207 0), (.str (ofString "/claim/cut.py") 612)]), #[]⟩
noncomputable def o376 (P : Params) : Obj := ⟨(.type "function"), none, (.func (fdq (stq 36) (ofString "unfolded") false 3 [] .none .none .none (.str (ofString "postkeep.headers") 540) none (.ref 324) .none 0)), #[]⟩
noncomputable def o377 (P : Params) : Obj := ⟨(.type "dict"), none, (.dict #[en P (ofString "__name__") 165 (.str (ofString "postkeep.params") 676), en P (ofString "__doc__") 166 .none, en P (ofString "__package__") 167 .none, en P (ofString "__loader__") 168 (.builtin "__main__.__loader__#opaque"), en P (ofString "__spec__") 169 .none, en P (ofString "__annotations__") 170 (.ref 6), en P (ofString "__builtins__") 171 (.ref 4), en P (ofString "__file__") 173 (.str (ofString "/claim/cut.py") 172), en P (ofString "__cached__") 174 .none, en P (ofString "_wall") 193 (.ref 21), en P (ofString "PostError") 235 (.ref 46), en P (ofString "WordFault") 251 (.ref 59), en P (ofString "MimeFault") 267 (.ref 71), en P (ofString "sign_octets") 275 (.ref 78), en P (ofString "MOST_FIGURES") 279 (.int 20 278), en P (ofString "Cursor") 389 (.ref 160), en P (ofString "lower_code") 396 (.ref 171), en P (ofString "lower") 402 (.ref 176), en P (ofString "lower_text") 408 (.ref 181), en P (ofString "ASCII") 412 (.str (ofString "us-ascii") 411), en P (ofString "LATIN") 414 (.str (ofString "iso-8859-1") 413), en P (ofString "UTF8") 416 (.str (ofString "utf-8") 415), en P (ofString "CHARSETS") 417 (.ref 182), en P (ofString "UNKNOWN_SIGN") 420 (.str (ofString "�") 419), en P (ofString "charset_names") 428 (.ref 189), en P (ofString "charset_name") 435 (.ref 196), en P (ofString "need_charset") 442 (.ref 203), en P (ofString "utf8_length") 448 (.ref 208), en P (ofString "utf8_octets") 459 (.ref 215), en P (ofString "follower_span") 466 (.ref 222), en P (ofString "utf8_sign") 480 (.ref 229), en P (ofString "sign_at") 489 (.ref 236), en P (ofString "text_in") 501 (.ref 243), en P (ofString "strict_text") 513 (.ref 250), en P (ofString "guessed_text") 520 (.ref 257), en P (ofString "has_sign") 528 (.ref 264), en P (ofString "octets_in") 539 (.ref 271), en P (ofString "Field") 585 (.ref 300), en P (ofString "line_at") 595 (.ref 311), en P (ofString "rows_of") 606 (.ref 318), en P (ofString "unfolded") 613 (.ref 325), en P (ofString "first_body") 623 (.ref 332), en P (ofString "MOST_DEPTH") 627 (.int 20 626), en P (ofString "NEVER_ESCAPED") 631 (.ref 333), en P (ofString "line_end") 639 (.ref 340), en P (ofString "inside_at") 649 (.ref 347), en P (ofString "closed_at") 662 (.ref 354), en P (ofString "comment_at") 675 (.ref 361), en P (ofString "WHITE") 682 (.ref 362), en P (ofString "SEMICOLON") 684 (.int 59 683), en P (ofString "EQUALS") 686 (.int 61 685), en P (ofString "QUOTE") 688 (.int 34 687), en P (ofString "BRACKET") 690 (.int 40 689), en P (ofString "PER_CENT") 692 (.int 37 691), en P (ofString "BARRED") 694 (.bytes #[40, 41, 60, 62, 64, 44, 59, 58, 92, 34, 47, 91, 93, 63, 61] 693), en P (ofString "HEX_FIGURES") 696 (.bytes #[48, 49, 50, 51, 52, 53, 54, 55, 56, 57, 65, 66, 67, 68, 69, 70] 695), en P (ofString "is_token_code") 703 (.ref 369), en P (ofString "skip_between") 710 (.ref 376), en P (ofString "take_token") 718 (.ref 383), en P (ofString "is_worth_code") 725 (.ref 390)] 60), #[]⟩
noncomputable def o378 (P : Params) : Obj := ⟨.none, none, (.fields #[(.int 1 0), (.int 0 0), (.ref 20), (.int 5 0), (.int 0 0), (.ref 27), (.int 14 0), (.int 0 0), (.ref 55), (.int 16 0), (.int 0 0), (.ref 67), (.int 19 0), (.int 0 0), (.ref 77), (.int 26 0), (.int 0 0), (.ref 84), (.int 70 0), (.int 0 0), (.ref 170), (.int 72 0), (.int 0 0), (.ref 175), (.int 74 0), (.int 0 0), (.ref 180), (.int 82 0), (.int 0 0), (.ref 188), (.int 91 0), (.int 0 0), (.ref 195), (.int 93 0), (.int 0 0), (.ref 202), (.int 96 0), (.int 0 0), (.ref 207), (.int 100 0), (.int 0 0), (.ref 214), (.int 110 0), (.int 0 0), (.ref 221), (.int 118 0), (.int 0 0), (.ref 228), (.int 132 0), (.int 0 0), (.ref 235), (.int 138 0), (.int 0 0), (.ref 242), (.int 147 0), (.int 0 0), (.ref 249), (.int 158 0), (.int 0 0), (.ref 256), (.int 163 0), (.int 0 0), (.ref 263), (.int 167 0), (.int 0 0), (.ref 270), (.int 180 0), (.int 0 0), (.ref 277), (.int 191 0), (.int 0 0), (.ref 310), (.int 198 0), (.int 0 0), (.ref 317), (.int 207 0), (.int 0 0), (.ref 324), (.int 209 0), (.int 0 0), (.ref 331), (.int 218 0), (.int 0 0), (.ref 339), (.int 222 0), (.int 0 0), (.ref 346), (.int 235 0), (.int 0 0), (.ref 353), (.int 244 0), (.int 0 0), (.ref 360), (.int 268 0), (.int 0 0), (.ref 368), (.int 270 0), (.int 0 0), (.ref 375), (.int 278 0), (.int 0 0), (.ref 382), (.int 285 0), (.int 0 0), (.ref 389)]), #[]⟩
noncomputable def o379 (P : Params) : Obj := ⟨(.type "tuple"), none, (.seq #[] 0), #[]⟩
noncomputable def o380 (P : Params) : Obj := ⟨.none, none, (.fields #[]), #[]⟩
noncomputable def o381 (P : Params) : Obj := ⟨(.type "tuple"), none, (.seq #[(.str (ofString "fields") 617), (.str (ofString "word") 618), (.str (ofString "wanted") 619), (.str (ofString "field") 620)] 0), #[]⟩
noncomputable def o382 (P : Params) : Obj := ⟨(.type "tuple"), none, (.seq #[] 0), #[]⟩
noncomputable def o383 (P : Params) : Obj := ⟨.none, none, (.func (fdq (stq 37) (ofString "first_body") false 0 [] .none .none .none .none none .none .none 0)), #[]⟩
noncomputable def o384 (P : Params) : Obj := ⟨(.type "code"), none, (.fields #[(.str (ofString "first_body") 614), (.str (ofString "first_body") 615), (.str (ofString "/claim/cut.py") 616), (.int 209 0), (.int 2 0), (.int 0 0), (.int 0 0), (.int 3 0), (.ref 326), (.bool true), (.int 181 0), (.ref 327), .none, (.ref 328), (.ref 329), (.ref 330), (.int 621 0), (.int 209 0), (.str (ofString "/claim/cut.py") 622)]), #[]⟩
noncomputable def o385 (P : Params) : Obj := ⟨(.type "function"), none, (.func (fdq (stq 37) (ofString "first_body") false 3 [] .none .none .none (.str (ofString "postkeep.headers") 540) none (.ref 331) .none 0)), #[]⟩
noncomputable def o386 (P : Params) : Obj := ⟨(.type "tuple"), none, (.seq #[(.int 0 628), (.int 10 629), (.int 13 630)] 0), #[]⟩
noncomputable def o387 (P : Params) : Obj := ⟨(.type "tuple"), none, (.seq #[] 0), #[]⟩
noncomputable def o388 (P : Params) : Obj := ⟨.none, none, (.fields #[]), #[]⟩
noncomputable def o389 (P : Params) : Obj := ⟨(.type "tuple"), none, (.seq #[(.str (ofString "data") 635), (.str (ofString "at") 636)] 0), #[]⟩
noncomputable def o390 (P : Params) : Obj := ⟨(.type "tuple"), none, (.seq #[] 0), #[]⟩
noncomputable def o391 (P : Params) : Obj := ⟨.none, none, (.func (fdq (stq 41) (ofString "line_end") false 0 [] .none .none .none .none none .none .none 0)), #[]⟩
noncomputable def o392 (P : Params) : Obj := ⟨(.type "code"), none, (.fields #[(.str (ofString "line_end") 632), (.str (ofString "line_end") 633), (.str (ofString "/claim/cut.py") 634), (.int 218 0), (.int 2 0), (.int 0 0), (.int 0 0), (.int 3 0), (.ref 334), (.bool true), (.int 181 0), (.ref 335), .none, (.ref 336), (.ref 337), (.ref 338), (.int 637 0), (.int 218 0), (.str (ofString "/claim/cut.py") 638)]), #[]⟩
noncomputable def o393 (P : Params) : Obj := ⟨(.type "function"), none, (.func (fdq (stq 41) (ofString "line_end") false 3 [] .none .none .none (.str (ofString "postkeep.tokens") 624) none (.ref 339) .none 0)), #[]⟩
noncomputable def o394 (P : Params) : Obj := ⟨(.type "tuple"), none, (.seq #[] 0), #[]⟩
noncomputable def o395 (P : Params) : Obj := ⟨.none, none, (.fields #[]), #[]⟩
noncomputable def o396 (P : Params) : Obj := ⟨(.type "tuple"), none, (.seq #[(.str (ofString "data") 643), (.str (ofString "at") 644), (.str (ofString "begun") 645), (.str (ofString "behind") 646)] 0), #[]⟩
noncomputable def o397 (P : Params) : Obj := ⟨(.type "tuple"), none, (.seq #[] 0), #[]⟩
noncomputable def o398 (P : Params) : Obj := ⟨.none, none, (.func (fdq (stq 42) (ofString "inside_at") false 0 [] .none .none .none .none none .none .none 0)), #[]⟩
noncomputable def o399 (P : Params) : Obj := ⟨(.type "code"), none, (.fields #[(.str (ofString "inside_at") 640), (.str (ofString "inside_at") 641), (.str (ofString "/claim/cut.py") 642), (.int 222 0), (.int 3 0), (.int 0 0), (.int 0 0), (.int 3 0), (.ref 341), (.bool true), (.int 181 0), (.ref 342), .none, (.ref 343), (.ref 344), (.ref 345), (.int 647 0), (.int 222 0), (.str (ofString "/claim/cut.py") 648)]), #[]⟩
noncomputable def o400 (P : Params) : Obj := ⟨(.type "function"), none, (.func (fdq (stq 42) (ofString "inside_at") false 3 [] .none .none .none (.str (ofString "postkeep.tokens") 624) none (.ref 346) .none 0)), #[]⟩
noncomputable def o401 (P : Params) : Obj := ⟨(.type "tuple"), none, (.seq #[] 0), #[]⟩
noncomputable def o402 (P : Params) : Obj := ⟨.none, none, (.fields #[]), #[]⟩
noncomputable def o403 (P : Params) : Obj := ⟨(.type "tuple"), none, (.seq #[(.str (ofString "data") 653), (.str (ofString "begun") 654), (.str (ofString "closing") 655), (.str (ofString "barred") 656), (.str (ofString "parts") 657), (.str (ofString "at") 658), (.str (ofString "octets") 659)] 0), #[]⟩
noncomputable def o404 (P : Params) : Obj := ⟨(.type "tuple"), none, (.seq #[] 0), #[]⟩
noncomputable def o405 (P : Params) : Obj := ⟨.none, none, (.func (fdq (stq 43) (ofString "closed_at") false 0 [] .none .none .none .none none .none .none 0)), #[]⟩
noncomputable def o406 (P : Params) : Obj := ⟨(.type "code"), none, (.fields #[(.str (ofString "closed_at") 650), (.str (ofString "closed_at") 651), (.str (ofString "/claim/cut.py") 652), (.int 235 0), (.int 4 0), (.int 0 0), (.int 0 0), (.int 3 0), (.ref 348), (.bool true), (.int 181 0), (.ref 349), .none, (.ref 350), (.ref 351), (.ref 352), (.int 660 0), (.int 235 0), (.str (ofString "/claim/cut.py") 661)]), #[]⟩
noncomputable def o407 (P : Params) : Obj := ⟨(.type "function"), none, (.func (fdq (stq 43) (ofString "closed_at") false 3 [] .none .none .none (.str (ofString "postkeep.tokens") 624) none (.ref 353) .none 0)), #[]⟩
noncomputable def o408 (P : Params) : Obj := ⟨(.type "tuple"), none, (.seq #[] 0), #[]⟩
noncomputable def o409 (P : Params) : Obj := ⟨.none, none, (.fields #[]), #[]⟩
noncomputable def o410 (P : Params) : Obj := ⟨(.type "tuple"), none, (.seq #[(.str (ofString "data") 666), (.str (ofString "begun") 667), (.str (ofString "parts") 668), (.str (ofString "depth") 669), (.str (ofString "at") 670), (.str (ofString "sign") 671), (.str (ofString "octets") 672)] 0), #[]⟩
noncomputable def o411 (P : Params) : Obj := ⟨(.type "tuple"), none, (.seq #[] 0), #[]⟩
noncomputable def o412 (P : Params) : Obj := ⟨.none, none, (.func (fdq (stq 44) (ofString "comment_at") false 0 [] .none .none .none .none none .none .none 0)), #[]⟩
noncomputable def o413 (P : Params) : Obj := ⟨(.type "code"), none, (.fields #[(.str (ofString "comment_at") 663), (.str (ofString "comment_at") 664), (.str (ofString "/claim/cut.py") 665), (.int 244 0), (.int 2 0), (.int 0 0), (.int 0 0), (.int 3 0), (.ref 355), (.bool true), (.int 181 0), (.ref 356), .none, (.ref 357), (.ref 358), (.ref 359), (.int 673 0), (.int 244 0), (.str (ofString "/claim/cut.py") 674)]), #[]⟩
noncomputable def o414 (P : Params) : Obj := ⟨(.type "function"), none, (.func (fdq (stq 44) (ofString "comment_at") false 3 [] .none .none .none (.str (ofString "postkeep.tokens") 624) none (.ref 360) .none 0)), #[]⟩
noncomputable def o415 (P : Params) : Obj := ⟨(.type "tuple"), none, (.seq #[(.int 9 678), (.int 10 679), (.int 13 680), (.int 32 681)] 0), #[]⟩
noncomputable def o416 (P : Params) : Obj := ⟨(.type "tuple"), none, (.seq #[] 0), #[]⟩
noncomputable def o417 (P : Params) : Obj := ⟨.none, none, (.fields #[]), #[]⟩
noncomputable def o418 (P : Params) : Obj := ⟨(.type "tuple"), none, (.seq #[(.str (ofString "code") 700)] 0), #[]⟩
noncomputable def o419 (P : Params) : Obj := ⟨(.type "tuple"), none, (.seq #[] 0), #[]⟩
noncomputable def o420 (P : Params) : Obj := ⟨.none, none, (.func (fdq (stq 54) (ofString "is_token_code") false 0 [] .none .none .none .none none .none .none 0)), #[]⟩
noncomputable def o421 (P : Params) : Obj := ⟨(.type "code"), none, (.fields #[(.str (ofString "is_token_code") 697), (.str (ofString "is_token_code") 698), (.str (ofString "/claim/cut.py") 699), (.int 268 0), (.int 1 0), (.int 0 0), (.int 0 0), (.int 3 0), (.ref 363), (.bool true), (.int 181 0), (.ref 364), .none, (.ref 365), (.ref 366), (.ref 367), (.int 701 0), (.int 268 0), (.str (ofString "/claim/cut.py") 702)]), #[]⟩
noncomputable def o422 (P : Params) : Obj := ⟨(.type "function"), none, (.func (fdq (stq 54) (ofString "is_token_code") false 3 [] .none .none .none (.str (ofString "postkeep.params") 676) none (.ref 368) .none 0)), #[]⟩
noncomputable def o423 (P : Params) : Obj := ⟨(.type "tuple"), none, (.seq #[] 0), #[]⟩
noncomputable def o424 (P : Params) : Obj := ⟨.none, none, (.fields #[]), #[]⟩
noncomputable def o425 (P : Params) : Obj := ⟨(.type "tuple"), none, (.seq #[(.str (ofString "cursor") 707)] 0), #[]⟩
noncomputable def o426 (P : Params) : Obj := ⟨(.type "tuple"), none, (.seq #[] 0), #[]⟩
noncomputable def o427 (P : Params) : Obj := ⟨.none, none, (.func (fdq (stq 55) (ofString "skip_between") false 0 [] .none .none .none .none none .none .none 0)), #[]⟩
noncomputable def o428 (P : Params) : Obj := ⟨(.type "code"), none, (.fields #[(.str (ofString "skip_between") 704), (.str (ofString "skip_between") 705), (.str (ofString "/claim/cut.py") 706), (.int 270 0), (.int 1 0), (.int 0 0), (.int 0 0), (.int 3 0), (.ref 370), (.bool true), (.int 181 0), (.ref 371), .none, (.ref 372), (.ref 373), (.ref 374), (.int 708 0), (.int 270 0), (.str (ofString "/claim/cut.py") 709)]), #[]⟩
noncomputable def o429 (P : Params) : Obj := ⟨(.type "function"), none, (.func (fdq (stq 55) (ofString "skip_between") false 3 [] .none .none .none (.str (ofString "postkeep.params") 676) none (.ref 375) .none 0)), #[]⟩
noncomputable def o430 (P : Params) : Obj := ⟨(.type "tuple"), none, (.seq #[] 0), #[]⟩
noncomputable def o431 (P : Params) : Obj := ⟨.none, none, (.fields #[]), #[]⟩
noncomputable def o432 (P : Params) : Obj := ⟨(.type "tuple"), none, (.seq #[(.str (ofString "cursor") 714), (.str (ofString "first") 715)] 0), #[]⟩
noncomputable def o433 (P : Params) : Obj := ⟨(.type "tuple"), none, (.seq #[] 0), #[]⟩
noncomputable def o434 (P : Params) : Obj := ⟨.none, none, (.func (fdq (stq 56) (ofString "take_token") false 0 [] .none .none .none .none none .none .none 0)), #[]⟩
noncomputable def o435 (P : Params) : Obj := ⟨(.type "code"), none, (.fields #[(.str (ofString "take_token") 711), (.str (ofString "take_token") 712), (.str (ofString "/claim/cut.py") 713), (.int 278 0), (.int 1 0), (.int 0 0), (.int 0 0), (.int 3 0), (.ref 377), (.bool true), (.int 181 0), (.ref 378), .none, (.ref 379), (.ref 380), (.ref 381), (.int 716 0), (.int 278 0), (.str (ofString "/claim/cut.py") 717)]), #[]⟩
noncomputable def o436 (P : Params) : Obj := ⟨(.type "function"), none, (.func (fdq (stq 56) (ofString "take_token") false 3 [] .none .none .none (.str (ofString "postkeep.params") 676) none (.ref 382) .none 0)), #[]⟩
noncomputable def o437 (P : Params) : Obj := ⟨(.type "tuple"), none, (.seq #[] 0), #[]⟩
noncomputable def o438 (P : Params) : Obj := ⟨.none, none, (.fields #[]), #[]⟩
noncomputable def o439 (P : Params) : Obj := ⟨(.type "tuple"), none, (.seq #[(.str (ofString "code") 722)] 0), #[]⟩
noncomputable def o440 (P : Params) : Obj := ⟨(.type "tuple"), none, (.seq #[] 0), #[]⟩
noncomputable def o441 (P : Params) : Obj := ⟨.none, none, (.func (fdq (stq 57) (ofString "is_worth_code") false 0 [] .none .none .none .none none .none .none 0)), #[]⟩
noncomputable def o442 (P : Params) : Obj := ⟨(.type "code"), none, (.fields #[(.str (ofString "is_worth_code") 719), (.str (ofString "is_worth_code") 720), (.str (ofString "/claim/cut.py") 721), (.int 285 0), (.int 1 0), (.int 0 0), (.int 0 0), (.int 3 0), (.ref 384), (.bool true), (.int 181 0), (.ref 385), .none, (.ref 386), (.ref 387), (.ref 388), (.int 723 0), (.int 285 0), (.str (ofString "/claim/cut.py") 724)]), #[]⟩
noncomputable def o443 (P : Params) : Obj := ⟨(.type "function"), none, (.func (fdq (stq 57) (ofString "is_worth_code") false 3 [] .none .none .none (.str (ofString "postkeep.params") 676) none (.ref 389) .none 0)), #[]⟩
noncomputable def o444 (P : Params) : Obj := ⟨(.type "dict"), none, (.dict #[en P (ofString "__name__") 165 (.str (ofString "postkeep.structure") 827), en P (ofString "__doc__") 166 .none, en P (ofString "__package__") 167 .none, en P (ofString "__loader__") 168 (.builtin "__main__.__loader__#opaque"), en P (ofString "__spec__") 169 .none, en P (ofString "__annotations__") 170 (.ref 6), en P (ofString "__builtins__") 171 (.ref 4), en P (ofString "__file__") 173 (.str (ofString "/claim/cut.py") 172), en P (ofString "__cached__") 174 .none, en P (ofString "_wall") 193 (.ref 21), en P (ofString "PostError") 235 (.ref 46), en P (ofString "WordFault") 251 (.ref 59), en P (ofString "MimeFault") 267 (.ref 71), en P (ofString "sign_octets") 275 (.ref 78), en P (ofString "MOST_FIGURES") 279 (.int 20 278), en P (ofString "Cursor") 389 (.ref 160), en P (ofString "lower_code") 396 (.ref 171), en P (ofString "lower") 402 (.ref 176), en P (ofString "lower_text") 408 (.ref 181), en P (ofString "ASCII") 412 (.str (ofString "us-ascii") 411), en P (ofString "LATIN") 414 (.str (ofString "iso-8859-1") 413), en P (ofString "UTF8") 416 (.str (ofString "utf-8") 415), en P (ofString "CHARSETS") 417 (.ref 182), en P (ofString "UNKNOWN_SIGN") 420 (.str (ofString "�") 419), en P (ofString "charset_names") 428 (.ref 189), en P (ofString "charset_name") 435 (.ref 196), en P (ofString "need_charset") 442 (.ref 203), en P (ofString "utf8_length") 448 (.ref 208), en P (ofString "utf8_octets") 459 (.ref 215), en P (ofString "follower_span") 466 (.ref 222), en P (ofString "utf8_sign") 480 (.ref 229), en P (ofString "sign_at") 489 (.ref 236), en P (ofString "text_in") 501 (.ref 243), en P (ofString "strict_text") 513 (.ref 250), en P (ofString "guessed_text") 520 (.ref 257), en P (ofString "has_sign") 528 (.ref 264), en P (ofString "octets_in") 539 (.ref 271), en P (ofString "Field") 585 (.ref 300), en P (ofString "line_at") 595 (.ref 311), en P (ofString "rows_of") 606 (.ref 318), en P (ofString "unfolded") 613 (.ref 325), en P (ofString "first_body") 623 (.ref 332), en P (ofString "MOST_DEPTH") 627 (.int 20 626), en P (ofString "NEVER_ESCAPED") 631 (.ref 333), en P (ofString "line_end") 639 (.ref 340), en P (ofString "inside_at") 649 (.ref 347), en P (ofString "closed_at") 662 (.ref 354), en P (ofString "comment_at") 675 (.ref 361), en P (ofString "WHITE") 682 (.ref 362), en P (ofString "SEMICOLON") 684 (.int 59 683), en P (ofString "EQUALS") 686 (.int 61 685), en P (ofString "QUOTE") 688 (.int 34 687), en P (ofString "BRACKET") 690 (.int 40 689), en P (ofString "PER_CENT") 692 (.int 37 691), en P (ofString "BARRED") 694 (.bytes #[40, 41, 60, 62, 64, 44, 59, 58, 92, 34, 47, 91, 93, 63, 61] 693), en P (ofString "HEX_FIGURES") 696 (.bytes #[48, 49, 50, 51, 52, 53, 54, 55, 56, 57, 65, 66, 67, 68, 69, 70] 695), en P (ofString "is_token_code") 703 (.ref 369), en P (ofString "skip_between") 710 (.ref 376), en P (ofString "take_token") 718 (.ref 383), en P (ofString "is_worth_code") 725 (.ref 390), en P (ofString "take_worth") 734 (.ref 397), en P (ofString "small_word") 740 (.ref 402), en P (ofString "take_pairs") 749 (.ref 409), en P (ofString "part_number") 758 (.ref 416), en P (ofString "part_of") 768 (.ref 423), en P (ofString "hex_worth") 774 (.ref 428), en P (ofString "percent_decoded") 784 (.ref 435), en P (ofString "charset_cut") 790 (.ref 440), en P (ofString "joined_worth") 802 (.ref 447), en P (ofString "params_of") 817 (.ref 454), en P (ofString "read_value") 826 (.ref 461), en P (ofString "params_value") 837 (.ref 468)] 72), #[]⟩
noncomputable def o445 (P : Params) : Obj := ⟨.none, none, (.fields #[(.int 1 0), (.int 0 0), (.ref 20), (.int 5 0), (.int 0 0), (.ref 27), (.int 14 0), (.int 0 0), (.ref 55), (.int 16 0), (.int 0 0), (.ref 67), (.int 19 0), (.int 0 0), (.ref 77), (.int 26 0), (.int 0 0), (.ref 84), (.int 70 0), (.int 0 0), (.ref 170), (.int 72 0), (.int 0 0), (.ref 175), (.int 74 0), (.int 0 0), (.ref 180), (.int 82 0), (.int 0 0), (.ref 188), (.int 91 0), (.int 0 0), (.ref 195), (.int 93 0), (.int 0 0), (.ref 202), (.int 96 0), (.int 0 0), (.ref 207), (.int 100 0), (.int 0 0), (.ref 214), (.int 110 0), (.int 0 0), (.ref 221), (.int 118 0), (.int 0 0), (.ref 228), (.int 132 0), (.int 0 0), (.ref 235), (.int 138 0), (.int 0 0), (.ref 242), (.int 147 0), (.int 0 0), (.ref 249), (.int 158 0), (.int 0 0), (.ref 256), (.int 163 0), (.int 0 0), (.ref 263), (.int 167 0), (.int 0 0), (.ref 270), (.int 180 0), (.int 0 0), (.ref 277), (.int 191 0), (.int 0 0), (.ref 310), (.int 198 0), (.int 0 0), (.ref 317), (.int 207 0), (.int 0 0), (.ref 324), (.int 209 0), (.int 0 0), (.ref 331), (.int 218 0), (.int 0 0), (.ref 339), (.int 222 0), (.int 0 0), (.ref 346), (.int 235 0), (.int 0 0), (.ref 353), (.int 244 0), (.int 0 0), (.ref 360), (.int 268 0), (.int 0 0), (.ref 368), (.int 270 0), (.int 0 0), (.ref 375), (.int 278 0), (.int 0 0), (.ref 382), (.int 285 0), (.int 0 0), (.ref 389), (.int 287 0), (.int 0 0), (.ref 396), (.int 297 0), (.int 0 0), (.ref 401), (.int 299 0), (.int 0 0), (.ref 408), (.int 315 0), (.int 0 0), (.ref 415), (.int 324 0), (.int 0 0), (.ref 422), (.int 333 0), (.int 0 0), (.ref 427), (.int 338 0), (.int 0 0), (.ref 434), (.int 346 0), (.int 0 0), (.ref 439), (.int 351 0), (.int 0 0), (.ref 446), (.int 362 0), (.int 0 0), (.ref 453), (.int 380 0), (.int 0 0), (.ref 460), (.int 386 0), (.int 0 0), (.ref 467)]), #[]⟩
noncomputable def o446 (P : Params) : Obj := ⟨(.type "tuple"), none, (.seq #[] 0), #[]⟩
noncomputable def o447 (P : Params) : Obj := ⟨.none, none, (.fields #[]), #[]⟩
noncomputable def o448 (P : Params) : Obj := ⟨(.type "tuple"), none, (.seq #[(.str (ofString "cursor") 729), (.str (ofString "worth") 730), (.str (ofString "first") 731)] 0), #[]⟩
noncomputable def o449 (P : Params) : Obj := ⟨(.type "tuple"), none, (.seq #[] 0), #[]⟩
noncomputable def o450 (P : Params) : Obj := ⟨.none, none, (.func (fdq (stq 58) (ofString "take_worth") false 0 [] .none .none .none .none none .none .none 0)), #[]⟩
noncomputable def o451 (P : Params) : Obj := ⟨(.type "code"), none, (.fields #[(.str (ofString "take_worth") 726), (.str (ofString "take_worth") 727), (.str (ofString "/claim/cut.py") 728), (.int 287 0), (.int 1 0), (.int 0 0), (.int 0 0), (.int 3 0), (.ref 391), (.bool true), (.int 181 0), (.ref 392), .none, (.ref 393), (.ref 394), (.ref 395), (.int 732 0), (.int 287 0), (.str (ofString "/claim/cut.py") 733)]), #[]⟩
noncomputable def o452 (P : Params) : Obj := ⟨(.type "function"), none, (.func (fdq (stq 58) (ofString "take_worth") false 3 [] .none .none .none (.str (ofString "postkeep.params") 676) none (.ref 396) .none 0)), #[]⟩
noncomputable def o453 (P : Params) : Obj := ⟨(.type "tuple"), none, (.seq #[] 0), #[]⟩
noncomputable def o454 (P : Params) : Obj := ⟨.none, none, (.fields #[]), #[]⟩
noncomputable def o455 (P : Params) : Obj := ⟨.none, none, (.func (fdq (stq 59) (ofString "small_word") false 0 [] .none .none .none .none none .none .none 0)), #[]⟩
noncomputable def o456 (P : Params) : Obj := ⟨(.type "code"), none, (.fields #[(.str (ofString "small_word") 735), (.str (ofString "small_word") 736), (.str (ofString "/claim/cut.py") 737), (.int 297 0), (.int 1 0), (.int 0 0), (.int 0 0), (.int 3 0), (.ref 398), (.bool true), (.int 181 0), (.ref 399), .none, .none, .none, (.ref 400), (.int 738 0), (.int 297 0), (.str (ofString "/claim/cut.py") 739)]), #[]⟩
noncomputable def o457 (P : Params) : Obj := ⟨(.type "function"), none, (.func (fdq (stq 59) (ofString "small_word") false 3 [] .none .none .none (.str (ofString "postkeep.params") 676) none (.ref 401) .none 0)), #[]⟩
noncomputable def o458 (P : Params) : Obj := ⟨(.type "tuple"), none, (.seq #[] 0), #[]⟩
noncomputable def o459 (P : Params) : Obj := ⟨.none, none, (.fields #[]), #[]⟩
noncomputable def o460 (P : Params) : Obj := ⟨(.type "tuple"), none, (.seq #[(.str (ofString "cursor") 744), (.str (ofString "pairs") 745), (.str (ofString "name") 746)] 0), #[]⟩
noncomputable def o461 (P : Params) : Obj := ⟨(.type "tuple"), none, (.seq #[] 0), #[]⟩
noncomputable def o462 (P : Params) : Obj := ⟨.none, none, (.func (fdq (stq 60) (ofString "take_pairs") false 0 [] .none .none .none .none none .none .none 0)), #[]⟩
noncomputable def o463 (P : Params) : Obj := ⟨(.type "code"), none, (.fields #[(.str (ofString "take_pairs") 741), (.str (ofString "take_pairs") 742), (.str (ofString "/claim/cut.py") 743), (.int 299 0), (.int 1 0), (.int 0 0), (.int 0 0), (.int 3 0), (.ref 403), (.bool true), (.int 181 0), (.ref 404), .none, (.ref 405), (.ref 406), (.ref 407), (.int 747 0), (.int 299 0), (.str (ofString "/claim/cut.py") 748)]), #[]⟩
noncomputable def o464 (P : Params) : Obj := ⟨(.type "function"), none, (.func (fdq (stq 60) (ofString "take_pairs") false 3 [] .none .none .none (.str (ofString "postkeep.params") 676) none (.ref 408) .none 0)), #[]⟩
noncomputable def o465 (P : Params) : Obj := ⟨(.type "tuple"), none, (.seq #[] 0), #[]⟩
noncomputable def o466 (P : Params) : Obj := ⟨.none, none, (.fields #[]), #[]⟩
noncomputable def o467 (P : Params) : Obj := ⟨(.type "tuple"), none, (.seq #[(.str (ofString "figures") 753), (.str (ofString "number") 754), (.str (ofString "sign") 755)] 0), #[]⟩
noncomputable def o468 (P : Params) : Obj := ⟨(.type "tuple"), none, (.seq #[] 0), #[]⟩
noncomputable def o469 (P : Params) : Obj := ⟨.none, none, (.func (fdq (stq 61) (ofString "part_number") false 0 [] .none .none .none .none none .none .none 0)), #[]⟩
noncomputable def o470 (P : Params) : Obj := ⟨(.type "code"), none, (.fields #[(.str (ofString "part_number") 750), (.str (ofString "part_number") 751), (.str (ofString "/claim/cut.py") 752), (.int 315 0), (.int 1 0), (.int 0 0), (.int 0 0), (.int 3 0), (.ref 410), (.bool true), (.int 181 0), (.ref 411), .none, (.ref 412), (.ref 413), (.ref 414), (.int 756 0), (.int 315 0), (.str (ofString "/claim/cut.py") 757)]), #[]⟩
noncomputable def o471 (P : Params) : Obj := ⟨(.type "function"), none, (.func (fdq (stq 61) (ofString "part_number") false 3 [] .none .none .none (.str (ofString "postkeep.params") 676) none (.ref 415) .none 0)), #[]⟩
noncomputable def o472 (P : Params) : Obj := ⟨(.type "tuple"), none, (.seq #[] 0), #[]⟩
noncomputable def o473 (P : Params) : Obj := ⟨.none, none, (.fields #[]), #[]⟩
noncomputable def o474 (P : Params) : Obj := ⟨(.type "tuple"), none, (.seq #[(.str (ofString "name") 762), (.str (ofString "spot") 763), (.str (ofString "is_encoded") 764), (.str (ofString "number") 765)] 0), #[]⟩
noncomputable def o475 (P : Params) : Obj := ⟨(.type "tuple"), none, (.seq #[] 0), #[]⟩
noncomputable def o476 (P : Params) : Obj := ⟨.none, none, (.func (fdq (stq 62) (ofString "part_of") false 0 [] .none .none .none .none none .none .none 0)), #[]⟩
noncomputable def o477 (P : Params) : Obj := ⟨(.type "code"), none, (.fields #[(.str (ofString "part_of") 759), (.str (ofString "part_of") 760), (.str (ofString "/claim/cut.py") 761), (.int 324 0), (.int 1 0), (.int 0 0), (.int 0 0), (.int 3 0), (.ref 417), (.bool true), (.int 181 0), (.ref 418), .none, (.ref 419), (.ref 420), (.ref 421), (.int 766 0), (.int 324 0), (.str (ofString "/claim/cut.py") 767)]), #[]⟩
noncomputable def o478 (P : Params) : Obj := ⟨(.type "function"), none, (.func (fdq (stq 62) (ofString "part_of") false 3 [] .none .none .none (.str (ofString "postkeep.params") 676) none (.ref 422) .none 0)), #[]⟩
noncomputable def o479 (P : Params) : Obj := ⟨(.type "tuple"), none, (.seq #[] 0), #[]⟩
noncomputable def o480 (P : Params) : Obj := ⟨.none, none, (.fields #[]), #[]⟩
noncomputable def o481 (P : Params) : Obj := ⟨.none, none, (.func (fdq (stq 63) (ofString "hex_worth") false 0 [] .none .none .none .none none .none .none 0)), #[]⟩
noncomputable def o482 (P : Params) : Obj := ⟨(.type "code"), none, (.fields #[(.str (ofString "hex_worth") 769), (.str (ofString "hex_worth") 770), (.str (ofString "/claim/cut.py") 771), (.int 333 0), (.int 1 0), (.int 0 0), (.int 0 0), (.int 3 0), (.ref 424), (.bool true), (.int 181 0), (.ref 425), .none, .none, .none, (.ref 426), (.int 772 0), (.int 333 0), (.str (ofString "/claim/cut.py") 773)]), #[]⟩
noncomputable def o483 (P : Params) : Obj := ⟨(.type "function"), none, (.func (fdq (stq 63) (ofString "hex_worth") false 3 [] .none .none .none (.str (ofString "postkeep.params") 676) none (.ref 427) .none 0)), #[]⟩
noncomputable def o484 (P : Params) : Obj := ⟨(.type "tuple"), none, (.seq #[] 0), #[]⟩
noncomputable def o485 (P : Params) : Obj := ⟨.none, none, (.fields #[]), #[]⟩
noncomputable def o486 (P : Params) : Obj := ⟨(.type "tuple"), none, (.seq #[(.str (ofString "octets") 778), (.str (ofString "found") 779), (.str (ofString "at") 780), (.str (ofString "worth") 781)] 0), #[]⟩
noncomputable def o487 (P : Params) : Obj := ⟨(.type "tuple"), none, (.seq #[] 0), #[]⟩
noncomputable def o488 (P : Params) : Obj := ⟨.none, none, (.func (fdq (stq 64) (ofString "percent_decoded") false 0 [] .none .none .none .none none .none .none 0)), #[]⟩
noncomputable def o489 (P : Params) : Obj := ⟨(.type "code"), none, (.fields #[(.str (ofString "percent_decoded") 775), (.str (ofString "percent_decoded") 776), (.str (ofString "/claim/cut.py") 777), (.int 338 0), (.int 1 0), (.int 0 0), (.int 0 0), (.int 3 0), (.ref 429), (.bool true), (.int 181 0), (.ref 430), .none, (.ref 431), (.ref 432), (.ref 433), (.int 782 0), (.int 338 0), (.str (ofString "/claim/cut.py") 783)]), #[]⟩
noncomputable def o490 (P : Params) : Obj := ⟨(.type "function"), none, (.func (fdq (stq 64) (ofString "percent_decoded") false 3 [] .none .none .none (.str (ofString "postkeep.params") 676) none (.ref 434) .none 0)), #[]⟩
noncomputable def o491 (P : Params) : Obj := ⟨(.type "tuple"), none, (.seq #[] 0), #[]⟩
noncomputable def o492 (P : Params) : Obj := ⟨.none, none, (.fields #[]), #[]⟩
noncomputable def o493 (P : Params) : Obj := ⟨.none, none, (.func (fdq (stq 65) (ofString "charset_cut") false 0 [] .none .none .none .none none .none .none 0)), #[]⟩
noncomputable def o494 (P : Params) : Obj := ⟨(.type "code"), none, (.fields #[(.str (ofString "charset_cut") 785), (.str (ofString "charset_cut") 786), (.str (ofString "/claim/cut.py") 787), (.int 346 0), (.int 1 0), (.int 0 0), (.int 0 0), (.int 3 0), (.ref 436), (.bool true), (.int 181 0), (.ref 437), .none, .none, .none, (.ref 438), (.int 788 0), (.int 346 0), (.str (ofString "/claim/cut.py") 789)]), #[]⟩
noncomputable def o495 (P : Params) : Obj := ⟨(.type "function"), none, (.func (fdq (stq 65) (ofString "charset_cut") false 3 [] .none .none .none (.str (ofString "postkeep.params") 676) none (.ref 439) .none 0)), #[]⟩
noncomputable def o496 (P : Params) : Obj := ⟨(.type "tuple"), none, (.seq #[] 0), #[]⟩
noncomputable def o497 (P : Params) : Obj := ⟨.none, none, (.fields #[]), #[]⟩
noncomputable def o498 (P : Params) : Obj := ⟨(.type "tuple"), none, (.seq #[(.str (ofString "parts") 794), (.str (ofString "charset") 795), (.str (ofString "octets") 796), (.str (ofString "number") 797), (.str (ofString "is_encoded") 798), (.str (ofString "worth") 799)] 0), #[]⟩
noncomputable def o499 (P : Params) : Obj := ⟨(.type "tuple"), none, (.seq #[] 0), #[]⟩
noncomputable def o500 (P : Params) : Obj := ⟨.none, none, (.func (fdq (stq 66) (ofString "joined_worth") false 0 [] .none .none .none .none none .none .none 0)), #[]⟩
noncomputable def o501 (P : Params) : Obj := ⟨(.type "code"), none, (.fields #[(.str (ofString "joined_worth") 791), (.str (ofString "joined_worth") 792), (.str (ofString "/claim/cut.py") 793), (.int 351 0), (.int 1 0), (.int 0 0), (.int 0 0), (.int 3 0), (.ref 441), (.bool true), (.int 181 0), (.ref 442), .none, (.ref 443), (.ref 444), (.ref 445), (.int 800 0), (.int 351 0), (.str (ofString "/claim/cut.py") 801)]), #[]⟩
noncomputable def o502 (P : Params) : Obj := ⟨(.type "function"), none, (.func (fdq (stq 66) (ofString "joined_worth") false 3 [] .none .none .none (.str (ofString "postkeep.params") 676) none (.ref 446) .none 0)), #[]⟩
noncomputable def o503 (P : Params) : Obj := ⟨(.type "tuple"), none, (.seq #[] 0), #[]⟩
noncomputable def o504 (P : Params) : Obj := ⟨.none, none, (.fields #[]), #[]⟩
noncomputable def o505 (P : Params) : Obj := ⟨(.type "tuple"), none, (.seq #[(.str (ofString "pairs") 806), (.str (ofString "plain") 807), (.str (ofString "parted") 808), (.str (ofString "name") 809), (.str (ofString "worth") 810), (.str (ofString "part") 811), (.str (ofString "base") 812), (.str (ofString "number") 813), (.str (ofString "is_encoded") 814)] 0), #[]⟩
noncomputable def o506 (P : Params) : Obj := ⟨(.type "tuple"), none, (.seq #[] 0), #[]⟩
noncomputable def o507 (P : Params) : Obj := ⟨.none, none, (.func (fdq (stq 67) (ofString "params_of") false 0 [] .none .none .none .none none .none .none 0)), #[]⟩
noncomputable def o508 (P : Params) : Obj := ⟨(.type "code"), none, (.fields #[(.str (ofString "params_of") 803), (.str (ofString "params_of") 804), (.str (ofString "/claim/cut.py") 805), (.int 362 0), (.int 1 0), (.int 0 0), (.int 0 0), (.int 3 0), (.ref 448), (.bool true), (.int 181 0), (.ref 449), .none, (.ref 450), (.ref 451), (.ref 452), (.int 815 0), (.int 362 0), (.str (ofString "/claim/cut.py") 816)]), #[]⟩
noncomputable def o509 (P : Params) : Obj := ⟨(.type "function"), none, (.func (fdq (stq 67) (ofString "params_of") false 3 [] .none .none .none (.str (ofString "postkeep.params") 676) none (.ref 453) .none 0)), #[]⟩
noncomputable def o510 (P : Params) : Obj := ⟨(.type "tuple"), none, (.seq #[] 0), #[]⟩
noncomputable def o511 (P : Params) : Obj := ⟨.none, none, (.fields #[]), #[]⟩
noncomputable def o512 (P : Params) : Obj := ⟨(.type "tuple"), none, (.seq #[(.str (ofString "octets") 821), (.str (ofString "cursor") 822), (.str (ofString "word") 823)] 0), #[]⟩
noncomputable def o513 (P : Params) : Obj := ⟨(.type "tuple"), none, (.seq #[] 0), #[]⟩
noncomputable def o514 (P : Params) : Obj := ⟨.none, none, (.func (fdq (stq 68) (ofString "read_value") false 0 [] .none .none .none .none none .none .none 0)), #[]⟩
noncomputable def o515 (P : Params) : Obj := ⟨(.type "code"), none, (.fields #[(.str (ofString "read_value") 818), (.str (ofString "read_value") 819), (.str (ofString "/claim/cut.py") 820), (.int 380 0), (.int 1 0), (.int 0 0), (.int 0 0), (.int 3 0), (.ref 455), (.bool true), (.int 181 0), (.ref 456), .none, (.ref 457), (.ref 458), (.ref 459), (.int 824 0), (.int 380 0), (.str (ofString "/claim/cut.py") 825)]), #[]⟩
noncomputable def o516 (P : Params) : Obj := ⟨(.type "function"), none, (.func (fdq (stq 68) (ofString "read_value") false 3 [] .none .none .none (.str (ofString "postkeep.params") 676) none (.ref 460) .none 0)), #[]⟩
noncomputable def o517 (P : Params) : Obj := ⟨(.type "tuple"), none, (.seq #[] 0), #[]⟩
noncomputable def o518 (P : Params) : Obj := ⟨.none, none, (.fields #[]), #[]⟩
noncomputable def o519 (P : Params) : Obj := ⟨(.type "tuple"), none, (.seq #[(.str (ofString "params") 832), (.str (ofString "found") 833), (.str (ofString "name") 834)] 0), #[]⟩
noncomputable def o520 (P : Params) : Obj := ⟨(.type "tuple"), none, (.seq #[] 0), #[]⟩
noncomputable def o521 (P : Params) : Obj := ⟨.none, none, (.func (fdq (stq 70) (ofString "params_value") false 0 [] .none .none .none .none none .none .none 0)), #[]⟩
noncomputable def o522 (P : Params) : Obj := ⟨(.type "code"), none, (.fields #[(.str (ofString "params_value") 829), (.str (ofString "params_value") 830), (.str (ofString "/claim/cut.py") 831), (.int 386 0), (.int 1 0), (.int 0 0), (.int 0 0), (.int 3 0), (.ref 462), (.bool true), (.int 181 0), (.ref 463), .none, (.ref 464), (.ref 465), (.ref 466), (.int 835 0), (.int 386 0), (.str (ofString "/claim/cut.py") 836)]), #[]⟩
noncomputable def o523 (P : Params) : Obj := ⟨(.type "function"), none, (.func (fdq (stq 70) (ofString "params_value") false 3 [] .none .none .none (.str (ofString "postkeep.structure") 827) none (.ref 467) .none 0)), #[]⟩
noncomputable def o524 (P : Params) : Obj := ⟨(.type "dict"), none, (.dict #[en P (ofString "__name__") 165 (.str (ofString "law_nz0318_01") 848), en P (ofString "__doc__") 166 .none, en P (ofString "__package__") 167 .none, en P (ofString "__loader__") 168 (.builtin "__main__.__loader__#opaque"), en P (ofString "__spec__") 169 .none, en P (ofString "__annotations__") 170 (.ref 6), en P (ofString "__builtins__") 171 (.ref 4), en P (ofString "__file__") 173 (.str (ofString "/claim/cut.py") 172), en P (ofString "__cached__") 174 .none, en P (ofString "_wall") 193 (.ref 21), en P (ofString "PostError") 235 (.ref 46), en P (ofString "WordFault") 251 (.ref 59), en P (ofString "MimeFault") 267 (.ref 71), en P (ofString "sign_octets") 275 (.ref 78), en P (ofString "MOST_FIGURES") 279 (.int 20 278), en P (ofString "Cursor") 389 (.ref 160), en P (ofString "lower_code") 396 (.ref 171), en P (ofString "lower") 402 (.ref 176), en P (ofString "lower_text") 408 (.ref 181), en P (ofString "ASCII") 412 (.str (ofString "us-ascii") 411), en P (ofString "LATIN") 414 (.str (ofString "iso-8859-1") 413), en P (ofString "UTF8") 416 (.str (ofString "utf-8") 415), en P (ofString "CHARSETS") 417 (.ref 182), en P (ofString "UNKNOWN_SIGN") 420 (.str (ofString "�") 419), en P (ofString "charset_names") 428 (.ref 189), en P (ofString "charset_name") 435 (.ref 196), en P (ofString "need_charset") 442 (.ref 203), en P (ofString "utf8_length") 448 (.ref 208), en P (ofString "utf8_octets") 459 (.ref 215), en P (ofString "follower_span") 466 (.ref 222), en P (ofString "utf8_sign") 480 (.ref 229), en P (ofString "sign_at") 489 (.ref 236), en P (ofString "text_in") 501 (.ref 243), en P (ofString "strict_text") 513 (.ref 250), en P (ofString "guessed_text") 520 (.ref 257), en P (ofString "has_sign") 528 (.ref 264), en P (ofString "octets_in") 539 (.ref 271), en P (ofString "Field") 585 (.ref 300), en P (ofString "line_at") 595 (.ref 311), en P (ofString "rows_of") 606 (.ref 318), en P (ofString "unfolded") 613 (.ref 325), en P (ofString "first_body") 623 (.ref 332), en P (ofString "MOST_DEPTH") 627 (.int 20 626), en P (ofString "NEVER_ESCAPED") 631 (.ref 333), en P (ofString "line_end") 639 (.ref 340), en P (ofString "inside_at") 649 (.ref 347), en P (ofString "closed_at") 662 (.ref 354), en P (ofString "comment_at") 675 (.ref 361), en P (ofString "WHITE") 682 (.ref 362), en P (ofString "SEMICOLON") 684 (.int 59 683), en P (ofString "EQUALS") 686 (.int 61 685), en P (ofString "QUOTE") 688 (.int 34 687), en P (ofString "BRACKET") 690 (.int 40 689), en P (ofString "PER_CENT") 692 (.int 37 691), en P (ofString "BARRED") 694 (.bytes #[40, 41, 60, 62, 64, 44, 59, 58, 92, 34, 47, 91, 93, 63, 61] 693), en P (ofString "HEX_FIGURES") 696 (.bytes #[48, 49, 50, 51, 52, 53, 54, 55, 56, 57, 65, 66, 67, 68, 69, 70] 695), en P (ofString "is_token_code") 703 (.ref 369), en P (ofString "skip_between") 710 (.ref 376), en P (ofString "take_token") 718 (.ref 383), en P (ofString "is_worth_code") 725 (.ref 390), en P (ofString "take_worth") 734 (.ref 397), en P (ofString "small_word") 740 (.ref 402), en P (ofString "take_pairs") 749 (.ref 409), en P (ofString "part_number") 758 (.ref 416), en P (ofString "part_of") 768 (.ref 423), en P (ofString "hex_worth") 774 (.ref 428), en P (ofString "percent_decoded") 784 (.ref 435), en P (ofString "charset_cut") 790 (.ref 440), en P (ofString "joined_worth") 802 (.ref 447), en P (ofString "params_of") 817 (.ref 454), en P (ofString "read_value") 826 (.ref 461), en P (ofString "params_value") 837 (.ref 468), en P (ofString "disposition_value") 847 (.ref 475), en P (ofString "_law_rows") 874 (.ref 484), en P (ofString "_law_wrong") 884 (.ref 485), en P (ofString "_law_draw") 894 (.ref 492), en P (ofString "law") 913 (.ref 499)] 77), #[]⟩
noncomputable def o525 (P : Params) : Obj := ⟨.none, none, (.fields #[(.int 1 0), (.int 0 0), (.ref 20), (.int 5 0), (.int 0 0), (.ref 27), (.int 14 0), (.int 0 0), (.ref 55), (.int 16 0), (.int 0 0), (.ref 67), (.int 19 0), (.int 0 0), (.ref 77), (.int 26 0), (.int 0 0), (.ref 84), (.int 70 0), (.int 0 0), (.ref 170), (.int 72 0), (.int 0 0), (.ref 175), (.int 74 0), (.int 0 0), (.ref 180), (.int 82 0), (.int 0 0), (.ref 188), (.int 91 0), (.int 0 0), (.ref 195), (.int 93 0), (.int 0 0), (.ref 202), (.int 96 0), (.int 0 0), (.ref 207), (.int 100 0), (.int 0 0), (.ref 214), (.int 110 0), (.int 0 0), (.ref 221), (.int 118 0), (.int 0 0), (.ref 228), (.int 132 0), (.int 0 0), (.ref 235), (.int 138 0), (.int 0 0), (.ref 242), (.int 147 0), (.int 0 0), (.ref 249), (.int 158 0), (.int 0 0), (.ref 256), (.int 163 0), (.int 0 0), (.ref 263), (.int 167 0), (.int 0 0), (.ref 270), (.int 180 0), (.int 0 0), (.ref 277), (.int 191 0), (.int 0 0), (.ref 310), (.int 198 0), (.int 0 0), (.ref 317), (.int 207 0), (.int 0 0), (.ref 324), (.int 209 0), (.int 0 0), (.ref 331), (.int 218 0), (.int 0 0), (.ref 339), (.int 222 0), (.int 0 0), (.ref 346), (.int 235 0), (.int 0 0), (.ref 353), (.int 244 0), (.int 0 0), (.ref 360), (.int 268 0), (.int 0 0), (.ref 368), (.int 270 0), (.int 0 0), (.ref 375), (.int 278 0), (.int 0 0), (.ref 382), (.int 285 0), (.int 0 0), (.ref 389), (.int 287 0), (.int 0 0), (.ref 396), (.int 297 0), (.int 0 0), (.ref 401), (.int 299 0), (.int 0 0), (.ref 408), (.int 315 0), (.int 0 0), (.ref 415), (.int 324 0), (.int 0 0), (.ref 422), (.int 333 0), (.int 0 0), (.ref 427), (.int 338 0), (.int 0 0), (.ref 434), (.int 346 0), (.int 0 0), (.ref 439), (.int 351 0), (.int 0 0), (.ref 446), (.int 362 0), (.int 0 0), (.ref 453), (.int 380 0), (.int 0 0), (.ref 460), (.int 386 0), (.int 0 0), (.ref 467), (.int 392 0), (.int 0 0), (.ref 474), (.int 404 0), (.int 0 0), (.ref 491), (.int 408 0), (.int 0 0), (.ref 498)]), #[]⟩
noncomputable def o526 (P : Params) : Obj := ⟨(.type "tuple"), none, (.seq #[] 0), #[]⟩
noncomputable def o527 (P : Params) : Obj := ⟨.none, none, (.fields #[]), #[]⟩
noncomputable def o528 (P : Params) : Obj := ⟨(.type "tuple"), none, (.seq #[(.str (ofString "fields") 841), (.str (ofString "body") 842), (.str (ofString "word") 843), (.str (ofString "params") 844)] 0), #[]⟩
noncomputable def o529 (P : Params) : Obj := ⟨(.type "tuple"), none, (.seq #[] 0), #[]⟩
noncomputable def o530 (P : Params) : Obj := ⟨.none, none, (.func (fdq (stq 71) (ofString "disposition_value") false 0 [] .none .none .none .none none .none .none 0)), #[]⟩
noncomputable def o531 (P : Params) : Obj := ⟨(.type "code"), none, (.fields #[(.str (ofString "disposition_value") 838), (.str (ofString "disposition_value") 839), (.str (ofString "/claim/cut.py") 840), (.int 392 0), (.int 1 0), (.int 0 0), (.int 0 0), (.int 3 0), (.ref 469), (.bool true), (.int 181 0), (.ref 470), .none, (.ref 471), (.ref 472), (.ref 473), (.int 845 0), (.int 392 0), (.str (ofString "/claim/cut.py") 846)]), #[]⟩
noncomputable def o532 (P : Params) : Obj := ⟨(.type "function"), none, (.func (fdq (stq 71) (ofString "disposition_value") false 3 [] .none .none .none (.str (ofString "postkeep.structure") 827) none (.ref 474) .none 0)), #[]⟩
noncomputable def o533 (P : Params) : Obj := ⟨(.type "tuple"), none, (.seq #[(.bytes #[97, 61, 98] 850), (.str (ofString "a") 851), (.str (ofString "b") 852)] 0), #[]⟩
noncomputable def o534 (P : Params) : Obj := ⟨(.type "tuple"), none, (.seq #[(.bytes #[65, 61, 34, 120, 32, 121, 34] 853), (.str (ofString "a") 854), (.str (ofString "x y") 855)] 0), #[]⟩
noncomputable def o535 (P : Params) : Obj := ⟨(.type "tuple"), none, (.seq #[(.bytes #[113, 61, 34, 92, 34, 122, 92, 92, 34] 856), (.str (ofString "q") 857), (.str (ofString "\"z\\") 858)] 0), #[]⟩
noncomputable def o536 (P : Params) : Obj := ⟨(.type "tuple"), none, (.seq #[(.bytes #[99, 42, 61, 117, 116, 102, 45, 56, 39, 39, 37, 67, 51, 37, 65, 57, 37, 50, 48] 859), (.str (ofString "c") 860), (.str (ofString "é ") 861)] 0), #[]⟩
noncomputable def o537 (P : Params) : Obj := ⟨(.type "tuple"), none, (.seq #[(.bytes #[108, 42, 61, 73, 83, 79, 45, 56, 56, 53, 57, 45, 49, 39, 101, 110, 39, 37, 69, 57] 862), (.str (ofString "l") 863), (.str (ofString "é") 864)] 0), #[]⟩
noncomputable def o538 (P : Params) : Obj := ⟨(.type "tuple"), none, (.seq #[(.bytes #[112, 42, 48, 61, 97, 98, 59, 80, 42, 49, 61, 34, 99, 32, 100, 34] 865), (.str (ofString "p") 866), (.str (ofString "abc d") 867)] 0), #[]⟩
noncomputable def o539 (P : Params) : Obj := ⟨(.type "tuple"), none, (.seq #[(.bytes #[40, 110, 111, 116, 101, 41, 32, 110, 32, 61, 32, 40, 111, 110, 101, 32, 40, 116, 119, 111, 41, 41, 32, 53] 868), (.str (ofString "n") 869), (.str (ofString "5") 870)] 0), #[]⟩
noncomputable def o540 (P : Params) : Obj := ⟨(.type "tuple"), none, (.seq #[(.bytes #[102, 105, 108, 101, 110, 97, 109, 101, 61, 34, 34] 871), (.str (ofString "filename") 872), (.str (ofString "") 873)] 0), #[]⟩
noncomputable def o541 (P : Params) : Obj := ⟨(.type "tuple"), none, (.seq #[(.ref 476), (.ref 477), (.ref 478), (.ref 479), (.ref 480), (.ref 481), (.ref 482), (.ref 483)] 0), #[]⟩
noncomputable def o542 (P : Params) : Obj := ⟨(.type "tuple"), none, (.seq #[(.bytes #[] 875), (.bytes #[59, 97, 61, 98] 876), (.bytes #[105, 110, 108, 105, 110, 101, 32, 97, 61, 98] 877), (.bytes #[105, 110, 108, 105, 110, 101, 59, 32, 97] 878), (.bytes #[105, 110, 108, 105, 110, 101, 59, 32, 61, 98] 879), (.bytes #[105, 110, 108, 105, 110, 101, 59, 32, 97, 61] 880), (.bytes #[40, 111, 112, 101, 110] 881), (.bytes #[105, 110, 108, 105, 110, 101, 59, 32, 97, 61, 34, 98] 882), (.bytes #[64, 59, 97, 61, 98] 883)] 0), #[]⟩
noncomputable def o543 (P : Params) : Obj := ⟨(.type "tuple"), none, (.seq #[] 0), #[]⟩
noncomputable def o544 (P : Params) : Obj := ⟨.none, none, (.fields #[]), #[]⟩
noncomputable def o545 (P : Params) : Obj := ⟨(.type "tuple"), none, (.seq #[(.str (ofString "tape") 888), (.str (ofString "many") 889), (.str (ofString "cells") 890), (.str (ofString "at") 891)] 0), #[]⟩
noncomputable def o546 (P : Params) : Obj := ⟨(.type "tuple"), none, (.seq #[] 0), #[]⟩
noncomputable def o547 (P : Params) : Obj := ⟨.none, none, (.func (fdq (stq 75) (ofString "_law_draw") false 0 [] .none .none .none .none none .none .none 0)), #[]⟩
noncomputable def o548 (P : Params) : Obj := ⟨(.type "code"), none, (.fields #[(.str (ofString "_law_draw") 885), (.str (ofString "_law_draw") 886), (.str (ofString "/claim/cut.py") 887), (.int 404 0), (.int 2 0), (.int 0 0), (.int 0 0), (.int 3 0), (.ref 486), (.bool true), (.int 181 0), (.ref 487), .none, (.ref 488), (.ref 489), (.ref 490), (.int 892 0), (.int 404 0), (.str (ofString "/claim/cut.py") 893)]), #[]⟩
noncomputable def o549 (P : Params) : Obj := ⟨(.type "function"), none, (.func (fdq (stq 75) (ofString "_law_draw") false 3 [] .none .none .none (.str (ofString "law_nz0318_01") 848) none (.ref 491) .none 0)), #[]⟩
noncomputable def o550 (P : Params) : Obj := ⟨(.type "tuple"), none, (.seq #[] 0), #[]⟩
noncomputable def o551 (P : Params) : Obj := ⟨.none, none, (.fields #[]), #[]⟩
noncomputable def o552 (P : Params) : Obj := ⟨(.type "tuple"), none, (.seq #[(.str (ofString "script") 898), (.str (ofString "tape") 899), (.str (ofString "word") 900), (.str (ofString "body") 901), (.str (ofString "worths") 902), (.str (ofString "turn") 903), (.str (ofString "text") 904), (.str (ofString "name") 905), (.str (ofString "worth") 906), (.str (ofString "told") 907), (.str (ofString "row") 908), (.str (ofString "beside") 909), (.str (ofString "wrong") 910)] 0), #[]⟩
noncomputable def o553 (P : Params) : Obj := ⟨(.type "tuple"), none, (.seq #[] 0), #[]⟩
noncomputable def o554 (P : Params) : Obj := ⟨.none, none, (.func (fdq (stq 76) (ofString "law") false 0 [] .none .none .none .none none .none .none 0)), #[]⟩
noncomputable def o555 (P : Params) : Obj := ⟨(.type "code"), none, (.fields #[(.str (ofString "law") 895), (.str (ofString "law") 896), (.str (ofString "/claim/cut.py") 897), (.int 408 0), (.int 1 0), (.int 0 0), (.int 0 0), (.int 3 0), (.ref 493), (.bool true), (.int 181 0), (.ref 494), .none, (.ref 495), (.ref 496), (.ref 497), (.int 911 0), (.int 408 0), (.str (ofString "/claim/cut.py") 912)]), #[]⟩
noncomputable def o556 (P : Params) : Obj := ⟨(.type "function"), none, (.func (fdq (stq 76) (ofString "law") false 3 [] .none .none .none (.str (ofString "law_nz0318_01") 848) none (.ref 498) .none 0)), #[]⟩
noncomputable def kf (P : Params) : Frag := (nat_lit 2, o49 P) :: (nat_lit 3, o524 P) :: (nat_lit 15, o52 P) :: (nat_lit 17, o54 P) :: (nat_lit 18, o55 P) :: (nat_lit 20, o57 P) :: (nat_lit 21, o58 P) :: (nat_lit 22, o59 P) :: (nat_lit 29, o66 P) :: (nat_lit 30, o67 P) :: (nat_lit 32, o69 P) :: (nat_lit 33, o70 P) :: (nat_lit 35, o72 P) :: (nat_lit 36, o73 P) :: (nat_lit 37, o74 P) :: (nat_lit 39, o76 P) :: (nat_lit 40, o77 P) :: (nat_lit 42, o79 P) :: (nat_lit 43, o80 P) :: (nat_lit 44, o81 P) :: (nat_lit 45, o82 P) :: (nat_lit 46, o104 P) :: (nat_lit 47, o84 P) :: (nat_lit 50, o90 P) :: (nat_lit 57, o97 P) :: (nat_lit 58, o98 P) :: (nat_lit 59, o99 P) :: (nat_lit 62, o105 P) :: (nat_lit 69, o112 P) :: (nat_lit 70, o113 P) :: (nat_lit 71, o114 P) :: (nat_lit 74, o117 P) :: (nat_lit 77, o120 P) :: (nat_lit 78, o121 P) :: (nat_lit 86, o131 P) :: (nat_lit 87, o132 P) :: (nat_lit 89, o134 P) :: (nat_lit 90, o135 P) :: (nat_lit 92, o137 P) :: (nat_lit 93, o138 P) :: (nat_lit 94, o139 P) :: (nat_lit 96, o141 P) :: (nat_lit 97, o142 P) :: (nat_lit 99, o144 P) :: (nat_lit 100, o145 P) :: (nat_lit 101, o146 P) :: (nat_lit 102, o147 P) :: (nat_lit 104, o149 P) :: (nat_lit 105, o150 P) :: (nat_lit 107, o152 P) :: (nat_lit 108, o153 P) :: (nat_lit 109, o154 P) :: (nat_lit 111, o156 P) :: (nat_lit 112, o157 P) :: (nat_lit 114, o159 P) :: (nat_lit 115, o160 P) :: (nat_lit 116, o161 P) :: (nat_lit 118, o163 P) :: (nat_lit 119, o164 P) :: (nat_lit 121, o166 P) :: (nat_lit 122, o167 P) :: (nat_lit 123, o168 P) :: (nat_lit 125, o170 P) :: (nat_lit 126, o171 P) :: (nat_lit 128, o173 P) :: (nat_lit 129, o174 P) :: (nat_lit 130, o175 P) :: (nat_lit 132, o177 P) :: (nat_lit 133, o178 P) :: (nat_lit 135, o180 P) :: (nat_lit 136, o181 P) :: (nat_lit 137, o182 P) :: (nat_lit 139, o184 P) :: (nat_lit 140, o185 P) :: (nat_lit 142, o187 P) :: (nat_lit 143, o188 P) :: (nat_lit 144, o189 P) :: (nat_lit 146, o191 P) :: (nat_lit 147, o192 P) :: (nat_lit 149, o194 P) :: (nat_lit 150, o195 P) :: (nat_lit 151, o196 P) :: (nat_lit 153, o198 P) :: (nat_lit 154, o199 P) :: (nat_lit 156, o201 P) :: (nat_lit 157, o202 P) :: (nat_lit 158, o203 P) :: (nat_lit 159, o204 P) :: (nat_lit 160, o205 P) :: (nat_lit 161, o206 P) :: (nat_lit 162, o207 P) :: (nat_lit 165, o212 P) :: (nat_lit 167, o214 P) :: (nat_lit 168, o215 P) :: (nat_lit 170, o217 P) :: (nat_lit 171, o218 P) :: (nat_lit 172, o219 P) :: (nat_lit 175, o222 P) :: (nat_lit 176, o223 P) :: (nat_lit 177, o224 P) :: (nat_lit 180, o227 P) :: (nat_lit 181, o228 P) :: (nat_lit 182, o229 P) :: (nat_lit 183, o230 P) :: (nat_lit 185, o232 P) :: (nat_lit 186, o233 P) :: (nat_lit 188, o235 P) :: (nat_lit 189, o236 P) :: (nat_lit 190, o237 P) :: (nat_lit 192, o239 P) :: (nat_lit 193, o240 P) :: (nat_lit 195, o242 P) :: (nat_lit 196, o243 P) :: (nat_lit 197, o244 P) :: (nat_lit 199, o246 P) :: (nat_lit 200, o247 P) :: (nat_lit 202, o249 P) :: (nat_lit 203, o250 P) :: (nat_lit 204, o251 P) :: (nat_lit 207, o254 P) :: (nat_lit 208, o255 P) :: (nat_lit 209, o256 P) :: (nat_lit 211, o258 P) :: (nat_lit 212, o259 P) :: (nat_lit 214, o261 P) :: (nat_lit 215, o262 P) :: (nat_lit 216, o263 P) :: (nat_lit 218, o265 P) :: (nat_lit 219, o266 P) :: (nat_lit 221, o268 P) :: (nat_lit 222, o269 P) :: (nat_lit 223, o270 P) :: (nat_lit 225, o272 P) :: (nat_lit 226, o273 P) :: (nat_lit 228, o275 P) :: (nat_lit 229, o276 P) :: (nat_lit 230, o277 P) :: (nat_lit 232, o279 P) :: (nat_lit 233, o280 P) :: (nat_lit 235, o282 P) :: (nat_lit 236, o283 P) :: (nat_lit 237, o286 P) :: (nat_lit 239, o288 P) :: (nat_lit 240, o289 P) :: (nat_lit 242, o291 P) :: (nat_lit 243, o292 P) :: (nat_lit 244, o293 P) :: (nat_lit 246, o295 P) :: (nat_lit 247, o296 P) :: (nat_lit 249, o298 P) :: (nat_lit 250, o299 P) :: (nat_lit 251, o300 P) :: (nat_lit 253, o302 P) :: (nat_lit 254, o303 P) :: (nat_lit 256, o305 P) :: (nat_lit 257, o306 P) :: (nat_lit 258, o307 P) :: (nat_lit 260, o309 P) :: (nat_lit 261, o310 P) :: (nat_lit 263, o312 P) :: (nat_lit 264, o313 P) :: (nat_lit 265, o314 P) :: (nat_lit 267, o316 P) :: (nat_lit 268, o317 P) :: (nat_lit 270, o319 P) :: (nat_lit 271, o320 P) :: (nat_lit 279, o330 P) :: (nat_lit 281, o332 P) :: (nat_lit 282, o333 P) :: (nat_lit 284, o335 P) :: (nat_lit 285, o336 P) :: (nat_lit 286, o337 P) :: (nat_lit 289, o340 P) :: (nat_lit 290, o341 P) :: (nat_lit 291, o342 P) :: (nat_lit 293, o344 P) :: (nat_lit 294, o345 P) :: (nat_lit 296, o347 P) :: (nat_lit 297, o348 P) :: (nat_lit 298, o349 P) :: (nat_lit 299, o350 P) :: (nat_lit 300, o351 P) :: (nat_lit 301, o352 P) :: (nat_lit 302, o353 P) :: (nat_lit 305, o356 P) :: (nat_lit 307, o358 P) :: (nat_lit 308, o359 P) :: (nat_lit 310, o361 P) :: (nat_lit 311, o362 P) :: (nat_lit 312, o363 P) :: (nat_lit 314, o365 P) :: (nat_lit 315, o366 P) :: (nat_lit 317, o368 P) :: (nat_lit 318, o369 P) :: (nat_lit 319, o370 P) :: (nat_lit 321, o372 P) :: (nat_lit 322, o373 P) :: (nat_lit 324, o375 P) :: (nat_lit 325, o376 P) :: (nat_lit 326, o379 P) :: (nat_lit 328, o381 P) :: (nat_lit 329, o382 P) :: (nat_lit 331, o384 P) :: (nat_lit 332, o385 P) :: (nat_lit 333, o386 P) :: (nat_lit 334, o387 P) :: (nat_lit 336, o389 P) :: (nat_lit 337, o390 P) :: (nat_lit 339, o392 P) :: (nat_lit 340, o393 P) :: (nat_lit 341, o394 P) :: (nat_lit 343, o396 P) :: (nat_lit 344, o397 P) :: (nat_lit 346, o399 P) :: (nat_lit 347, o400 P) :: (nat_lit 348, o401 P) :: (nat_lit 350, o403 P) :: (nat_lit 351, o404 P) :: (nat_lit 353, o406 P) :: (nat_lit 354, o407 P) :: (nat_lit 355, o408 P) :: (nat_lit 357, o410 P) :: (nat_lit 358, o411 P) :: (nat_lit 360, o413 P) :: (nat_lit 361, o414 P) :: (nat_lit 362, o415 P) :: (nat_lit 363, o416 P) :: (nat_lit 365, o418 P) :: (nat_lit 366, o419 P) :: (nat_lit 368, o421 P) :: (nat_lit 369, o422 P) :: (nat_lit 370, o423 P) :: (nat_lit 372, o425 P) :: (nat_lit 373, o426 P) :: (nat_lit 375, o428 P) :: (nat_lit 376, o429 P) :: (nat_lit 377, o430 P) :: (nat_lit 379, o432 P) :: (nat_lit 380, o433 P) :: (nat_lit 382, o435 P) :: (nat_lit 383, o436 P) :: (nat_lit 384, o437 P) :: (nat_lit 386, o439 P) :: (nat_lit 387, o440 P) :: (nat_lit 389, o442 P) :: (nat_lit 390, o443 P) :: (nat_lit 391, o446 P) :: (nat_lit 393, o448 P) :: (nat_lit 394, o449 P) :: (nat_lit 396, o451 P) :: (nat_lit 397, o452 P) :: (nat_lit 398, o453 P) :: (nat_lit 401, o456 P) :: (nat_lit 402, o457 P) :: (nat_lit 403, o458 P) :: (nat_lit 405, o460 P) :: (nat_lit 406, o461 P) :: (nat_lit 408, o463 P) :: (nat_lit 409, o464 P) :: (nat_lit 410, o465 P) :: (nat_lit 412, o467 P) :: (nat_lit 413, o468 P) :: (nat_lit 415, o470 P) :: (nat_lit 416, o471 P) :: (nat_lit 417, o472 P) :: (nat_lit 419, o474 P) :: (nat_lit 420, o475 P) :: (nat_lit 422, o477 P) :: (nat_lit 423, o478 P) :: (nat_lit 424, o479 P) :: (nat_lit 427, o482 P) :: (nat_lit 428, o483 P) :: (nat_lit 429, o484 P) :: (nat_lit 431, o486 P) :: (nat_lit 432, o487 P) :: (nat_lit 434, o489 P) :: (nat_lit 435, o490 P) :: (nat_lit 436, o491 P) :: (nat_lit 439, o494 P) :: (nat_lit 440, o495 P) :: (nat_lit 441, o496 P) :: (nat_lit 443, o498 P) :: (nat_lit 444, o499 P) :: (nat_lit 446, o501 P) :: (nat_lit 447, o502 P) :: (nat_lit 448, o503 P) :: (nat_lit 450, o505 P) :: (nat_lit 451, o506 P) :: (nat_lit 453, o508 P) :: (nat_lit 454, o509 P) :: (nat_lit 455, o510 P) :: (nat_lit 457, o512 P) :: (nat_lit 458, o513 P) :: (nat_lit 460, o515 P) :: (nat_lit 461, o516 P) :: (nat_lit 462, o517 P) :: (nat_lit 464, o519 P) :: (nat_lit 465, o520 P) :: (nat_lit 467, o522 P) :: (nat_lit 468, o523 P) :: (nat_lit 469, o526 P) :: (nat_lit 471, o528 P) :: (nat_lit 472, o529 P) :: (nat_lit 474, o531 P) :: (nat_lit 475, o532 P) :: (nat_lit 476, o533 P) :: (nat_lit 477, o534 P) :: (nat_lit 478, o535 P) :: (nat_lit 479, o536 P) :: (nat_lit 480, o537 P) :: (nat_lit 481, o538 P) :: (nat_lit 482, o539 P) :: (nat_lit 483, o540 P) :: (nat_lit 484, o541 P) :: (nat_lit 485, o542 P) :: (nat_lit 486, o543 P) :: (nat_lit 488, o545 P) :: (nat_lit 489, o546 P) :: (nat_lit 491, o548 P) :: (nat_lit 492, o549 P) :: (nat_lit 493, o550 P) :: (nat_lit 495, o552 P) :: (nat_lit 496, o553 P) :: (nat_lit 498, o555 P) :: (nat_lit 499, o556 P) :: []
noncomputable def tree47 (P : Params) : BT := (.node (boot_o_0 P) (.node (boot_o_1 P) (.node (boot_o_3 P) (.node (boot_o_7 P) .nil .nil) (.node (o43 P) .nil .nil)) (.node (boot_o_5 P) (.node (boot_o_9 P) .nil .nil) (.node (o45 P) .nil .nil))) (.node (boot_o_2 P) (.node (boot_o_4 P) (.node (boot_o_8 P) .nil .nil) (.node (o44 P) .nil .nil)) (.node (boot_o_6 P) (.node (boot_o_10 P) .nil .nil) (.node (o46 P) .nil .nil))))
noncomputable def tree86 (P : Params) : BT := (.node (boot_o_0 P) (.node (boot_o_1 P) (.node (o50 P) (.node (boot_o_7 P) (.node (o52 P) (.node (o68 P) .nil .nil) (.node (o84 P) .nil .nil)) (.node (o60 P) (.node (o76 P) .nil .nil) .nil)) (.node (o43 P) (.node (o56 P) (.node (o72 P) .nil .nil) .nil) (.node (o64 P) (.node (o80 P) .nil .nil) .nil))) (.node (boot_o_5 P) (.node (boot_o_9 P) (.node (o54 P) (.node (o70 P) .nil .nil) (.node (o86 P) .nil .nil)) (.node (o62 P) (.node (o78 P) .nil .nil) .nil)) (.node (o45 P) (.node (o58 P) (.node (o74 P) .nil .nil) .nil) (.node (o66 P) (.node (o82 P) .nil .nil) .nil)))) (.node (o49 P) (.node (boot_o_4 P) (.node (boot_o_8 P) (.node (o53 P) (.node (o69 P) .nil .nil) (.node (o85 P) .nil .nil)) (.node (o61 P) (.node (o77 P) .nil .nil) .nil)) (.node (o51 P) (.node (o57 P) (.node (o73 P) .nil .nil) .nil) (.node (o65 P) (.node (o81 P) .nil .nil) .nil))) (.node (boot_o_6 P) (.node (boot_o_10 P) (.node (o55 P) (.node (o71 P) .nil .nil) .nil) (.node (o63 P) (.node (o79 P) .nil .nil) .nil)) (.node (o46 P) (.node (o59 P) (.node (o75 P) .nil .nil) .nil) (.node (o67 P) (.node (o83 P) .nil .nil) .nil)))))
noncomputable def tree101 (P : Params) : BT := (.node (boot_o_0 P) (.node (boot_o_1 P) (.node (o87 P) (.node (boot_o_7 P) (.node (o52 P) (.node (o68 P) .nil .nil) (.node (o84 P) .nil .nil)) (.node (o60 P) (.node (o76 P) .nil .nil) (.node (o95 P) .nil .nil))) (.node (o43 P) (.node (o56 P) (.node (o72 P) .nil .nil) (.node (o91 P) .nil .nil)) (.node (o64 P) (.node (o80 P) .nil .nil) (.node (o99 P) .nil .nil)))) (.node (boot_o_5 P) (.node (boot_o_9 P) (.node (o54 P) (.node (o70 P) .nil .nil) (.node (o86 P) .nil .nil)) (.node (o62 P) (.node (o78 P) .nil .nil) (.node (o97 P) .nil .nil))) (.node (o45 P) (.node (o58 P) (.node (o74 P) .nil .nil) (.node (o93 P) .nil .nil)) (.node (o66 P) (.node (o82 P) .nil .nil) (.node (o101 P) .nil .nil))))) (.node (o49 P) (.node (boot_o_4 P) (.node (boot_o_8 P) (.node (o53 P) (.node (o69 P) .nil .nil) (.node (o85 P) .nil .nil)) (.node (o61 P) (.node (o77 P) .nil .nil) (.node (o96 P) .nil .nil))) (.node (o88 P) (.node (o57 P) (.node (o73 P) .nil .nil) (.node (o92 P) .nil .nil)) (.node (o65 P) (.node (o81 P) .nil .nil) (.node (o100 P) .nil .nil)))) (.node (boot_o_6 P) (.node (boot_o_10 P) (.node (o55 P) (.node (o71 P) .nil .nil) (.node (o90 P) .nil .nil)) (.node (o63 P) (.node (o79 P) .nil .nil) (.node (o98 P) .nil .nil))) (.node (o46 P) (.node (o59 P) (.node (o75 P) .nil .nil) (.node (o94 P) .nil .nil)) (.node (o67 P) (.node (o89 P) .nil .nil) .nil)))))
noncomputable def tree121 (P : Params) : BT := (.node (boot_o_0 P) (.node (boot_o_1 P) (.node (o102 P) (.node (boot_o_7 P) (.node (o52 P) (.node (o68 P) (.node (o106 P) .nil .nil) .nil) (.node (o84 P) .nil .nil)) (.node (o60 P) (.node (o76 P) (.node (o114 P) .nil .nil) .nil) (.node (o95 P) .nil .nil))) (.node (o43 P) (.node (o56 P) (.node (o72 P) (.node (o110 P) .nil .nil) .nil) (.node (o91 P) .nil .nil)) (.node (o64 P) (.node (o80 P) (.node (o118 P) .nil .nil) .nil) (.node (o99 P) .nil .nil)))) (.node (boot_o_5 P) (.node (boot_o_9 P) (.node (o54 P) (.node (o70 P) (.node (o108 P) .nil .nil) .nil) (.node (o86 P) .nil .nil)) (.node (o62 P) (.node (o78 P) (.node (o116 P) .nil .nil) .nil) (.node (o97 P) .nil .nil))) (.node (o45 P) (.node (o58 P) (.node (o74 P) (.node (o112 P) .nil .nil) .nil) (.node (o93 P) .nil .nil)) (.node (o66 P) (.node (o82 P) (.node (o120 P) .nil .nil) .nil) (.node (o101 P) .nil .nil))))) (.node (o49 P) (.node (boot_o_4 P) (.node (boot_o_8 P) (.node (o53 P) (.node (o69 P) (.node (o107 P) .nil .nil) .nil) (.node (o85 P) .nil .nil)) (.node (o61 P) (.node (o77 P) (.node (o115 P) .nil .nil) .nil) (.node (o96 P) .nil .nil))) (.node (o103 P) (.node (o57 P) (.node (o73 P) (.node (o111 P) .nil .nil) .nil) (.node (o92 P) .nil .nil)) (.node (o65 P) (.node (o81 P) (.node (o119 P) .nil .nil) .nil) (.node (o100 P) .nil .nil)))) (.node (boot_o_6 P) (.node (boot_o_10 P) (.node (o55 P) (.node (o71 P) (.node (o109 P) .nil .nil) .nil) (.node (o90 P) .nil .nil)) (.node (o63 P) (.node (o79 P) (.node (o117 P) .nil .nil) .nil) (.node (o98 P) .nil .nil))) (.node (o46 P) (.node (o59 P) (.node (o75 P) (.node (o113 P) .nil .nil) .nil) (.node (o94 P) .nil .nil)) (.node (o67 P) (.node (o104 P) (.node (o121 P) .nil .nil) .nil) (.node (o105 P) .nil .nil))))))
noncomputable def tree209 (P : Params) : BT := (.node (boot_o_0 P) (.node (boot_o_1 P) (.node (o122 P) (.node (boot_o_7 P) (.node (o52 P) (.node (o68 P) (.node (o106 P) (.node (o172 P) .nil .nil) .nil) (.node (o140 P) (.node (o204 P) .nil .nil) .nil)) (.node (o84 P) (.node (o124 P) (.node (o188 P) .nil .nil) .nil) (.node (o156 P) .nil .nil))) (.node (o60 P) (.node (o76 P) (.node (o114 P) (.node (o180 P) .nil .nil) .nil) (.node (o148 P) .nil .nil)) (.node (o95 P) (.node (o132 P) (.node (o196 P) .nil .nil) .nil) (.node (o164 P) .nil .nil)))) (.node (o43 P) (.node (o56 P) (.node (o72 P) (.node (o110 P) (.node (o176 P) .nil .nil) .nil) (.node (o144 P) (.node (o208 P) .nil .nil) .nil)) (.node (o91 P) (.node (o128 P) (.node (o192 P) .nil .nil) .nil) (.node (o160 P) .nil .nil))) (.node (o64 P) (.node (o80 P) (.node (o118 P) (.node (o184 P) .nil .nil) .nil) (.node (o152 P) .nil .nil)) (.node (o99 P) (.node (o136 P) (.node (o200 P) .nil .nil) .nil) (.node (o168 P) .nil .nil))))) (.node (boot_o_5 P) (.node (boot_o_9 P) (.node (o54 P) (.node (o70 P) (.node (o108 P) (.node (o174 P) .nil .nil) .nil) (.node (o142 P) (.node (o206 P) .nil .nil) .nil)) (.node (o86 P) (.node (o126 P) (.node (o190 P) .nil .nil) .nil) (.node (o158 P) .nil .nil))) (.node (o62 P) (.node (o78 P) (.node (o116 P) (.node (o182 P) .nil .nil) .nil) (.node (o150 P) .nil .nil)) (.node (o97 P) (.node (o134 P) (.node (o198 P) .nil .nil) .nil) (.node (o166 P) .nil .nil)))) (.node (o45 P) (.node (o58 P) (.node (o74 P) (.node (o112 P) (.node (o178 P) .nil .nil) .nil) (.node (o146 P) .nil .nil)) (.node (o93 P) (.node (o130 P) (.node (o194 P) .nil .nil) .nil) (.node (o162 P) .nil .nil))) (.node (o66 P) (.node (o82 P) (.node (o120 P) (.node (o186 P) .nil .nil) .nil) (.node (o154 P) .nil .nil)) (.node (o101 P) (.node (o138 P) (.node (o202 P) .nil .nil) .nil) (.node (o170 P) .nil .nil)))))) (.node (o49 P) (.node (boot_o_4 P) (.node (boot_o_8 P) (.node (o53 P) (.node (o69 P) (.node (o107 P) (.node (o173 P) .nil .nil) .nil) (.node (o141 P) (.node (o205 P) .nil .nil) .nil)) (.node (o85 P) (.node (o125 P) (.node (o189 P) .nil .nil) .nil) (.node (o157 P) .nil .nil))) (.node (o61 P) (.node (o77 P) (.node (o115 P) (.node (o181 P) .nil .nil) .nil) (.node (o149 P) .nil .nil)) (.node (o96 P) (.node (o133 P) (.node (o197 P) .nil .nil) .nil) (.node (o165 P) .nil .nil)))) (.node (o123 P) (.node (o57 P) (.node (o73 P) (.node (o111 P) (.node (o177 P) .nil .nil) .nil) (.node (o145 P) (.node (o209 P) .nil .nil) .nil)) (.node (o92 P) (.node (o129 P) (.node (o193 P) .nil .nil) .nil) (.node (o161 P) .nil .nil))) (.node (o65 P) (.node (o81 P) (.node (o119 P) (.node (o185 P) .nil .nil) .nil) (.node (o153 P) .nil .nil)) (.node (o100 P) (.node (o137 P) (.node (o201 P) .nil .nil) .nil) (.node (o169 P) .nil .nil))))) (.node (boot_o_6 P) (.node (boot_o_10 P) (.node (o55 P) (.node (o71 P) (.node (o109 P) (.node (o175 P) .nil .nil) .nil) (.node (o143 P) (.node (o207 P) .nil .nil) .nil)) (.node (o90 P) (.node (o127 P) (.node (o191 P) .nil .nil) .nil) (.node (o159 P) .nil .nil))) (.node (o63 P) (.node (o79 P) (.node (o117 P) (.node (o183 P) .nil .nil) .nil) (.node (o151 P) .nil .nil)) (.node (o98 P) (.node (o135 P) (.node (o199 P) .nil .nil) .nil) (.node (o167 P) .nil .nil)))) (.node (o46 P) (.node (o59 P) (.node (o75 P) (.node (o113 P) (.node (o179 P) .nil .nil) .nil) (.node (o147 P) .nil .nil)) (.node (o94 P) (.node (o131 P) (.node (o195 P) .nil .nil) .nil) (.node (o163 P) .nil .nil))) (.node (o67 P) (.node (o104 P) (.node (o121 P) (.node (o187 P) .nil .nil) .nil) (.node (o155 P) .nil .nil)) (.node (o105 P) (.node (o139 P) (.node (o203 P) .nil .nil) .nil) (.node (o171 P) .nil .nil)))))))
noncomputable def tree283 (P : Params) : BT := (.node (boot_o_0 P) (.node (boot_o_1 P) (.node (o210 P) (.node (boot_o_7 P) (.node (o52 P) (.node (o68 P) (.node (o106 P) (.node (o172 P) .nil .nil) (.node (o238 P) .nil .nil)) (.node (o140 P) (.node (o204 P) .nil .nil) (.node (o270 P) .nil .nil))) (.node (o84 P) (.node (o124 P) (.node (o188 P) .nil .nil) (.node (o254 P) .nil .nil)) (.node (o156 P) (.node (o222 P) .nil .nil) .nil))) (.node (o60 P) (.node (o76 P) (.node (o114 P) (.node (o180 P) .nil .nil) (.node (o246 P) .nil .nil)) (.node (o148 P) (.node (o214 P) .nil .nil) (.node (o278 P) .nil .nil))) (.node (o95 P) (.node (o132 P) (.node (o196 P) .nil .nil) (.node (o262 P) .nil .nil)) (.node (o164 P) (.node (o230 P) .nil .nil) .nil)))) (.node (o43 P) (.node (o56 P) (.node (o72 P) (.node (o110 P) (.node (o176 P) .nil .nil) (.node (o242 P) .nil .nil)) (.node (o144 P) (.node (o208 P) .nil .nil) (.node (o274 P) .nil .nil))) (.node (o91 P) (.node (o128 P) (.node (o192 P) .nil .nil) (.node (o258 P) .nil .nil)) (.node (o160 P) (.node (o226 P) .nil .nil) .nil))) (.node (o64 P) (.node (o80 P) (.node (o118 P) (.node (o184 P) .nil .nil) (.node (o250 P) .nil .nil)) (.node (o152 P) (.node (o218 P) .nil .nil) (.node (o282 P) .nil .nil))) (.node (o99 P) (.node (o136 P) (.node (o200 P) .nil .nil) (.node (o266 P) .nil .nil)) (.node (o168 P) (.node (o234 P) .nil .nil) .nil))))) (.node (boot_o_5 P) (.node (boot_o_9 P) (.node (o54 P) (.node (o70 P) (.node (o108 P) (.node (o174 P) .nil .nil) (.node (o240 P) .nil .nil)) (.node (o142 P) (.node (o206 P) .nil .nil) (.node (o272 P) .nil .nil))) (.node (o86 P) (.node (o126 P) (.node (o190 P) .nil .nil) (.node (o256 P) .nil .nil)) (.node (o158 P) (.node (o224 P) .nil .nil) .nil))) (.node (o62 P) (.node (o78 P) (.node (o116 P) (.node (o182 P) .nil .nil) (.node (o248 P) .nil .nil)) (.node (o150 P) (.node (o216 P) .nil .nil) (.node (o280 P) .nil .nil))) (.node (o97 P) (.node (o134 P) (.node (o198 P) .nil .nil) (.node (o264 P) .nil .nil)) (.node (o166 P) (.node (o232 P) .nil .nil) .nil)))) (.node (o45 P) (.node (o58 P) (.node (o74 P) (.node (o112 P) (.node (o178 P) .nil .nil) (.node (o244 P) .nil .nil)) (.node (o146 P) (.node (o212 P) .nil .nil) (.node (o276 P) .nil .nil))) (.node (o93 P) (.node (o130 P) (.node (o194 P) .nil .nil) (.node (o260 P) .nil .nil)) (.node (o162 P) (.node (o228 P) .nil .nil) .nil))) (.node (o66 P) (.node (o82 P) (.node (o120 P) (.node (o186 P) .nil .nil) (.node (o252 P) .nil .nil)) (.node (o154 P) (.node (o220 P) .nil .nil) .nil)) (.node (o101 P) (.node (o138 P) (.node (o202 P) .nil .nil) (.node (o268 P) .nil .nil)) (.node (o170 P) (.node (o236 P) .nil .nil) .nil)))))) (.node (o49 P) (.node (boot_o_4 P) (.node (boot_o_8 P) (.node (o53 P) (.node (o69 P) (.node (o107 P) (.node (o173 P) .nil .nil) (.node (o239 P) .nil .nil)) (.node (o141 P) (.node (o205 P) .nil .nil) (.node (o271 P) .nil .nil))) (.node (o85 P) (.node (o125 P) (.node (o189 P) .nil .nil) (.node (o255 P) .nil .nil)) (.node (o157 P) (.node (o223 P) .nil .nil) .nil))) (.node (o61 P) (.node (o77 P) (.node (o115 P) (.node (o181 P) .nil .nil) (.node (o247 P) .nil .nil)) (.node (o149 P) (.node (o215 P) .nil .nil) (.node (o279 P) .nil .nil))) (.node (o96 P) (.node (o133 P) (.node (o197 P) .nil .nil) (.node (o263 P) .nil .nil)) (.node (o165 P) (.node (o231 P) .nil .nil) .nil)))) (.node (o211 P) (.node (o57 P) (.node (o73 P) (.node (o111 P) (.node (o177 P) .nil .nil) (.node (o243 P) .nil .nil)) (.node (o145 P) (.node (o209 P) .nil .nil) (.node (o275 P) .nil .nil))) (.node (o92 P) (.node (o129 P) (.node (o193 P) .nil .nil) (.node (o259 P) .nil .nil)) (.node (o161 P) (.node (o227 P) .nil .nil) .nil))) (.node (o65 P) (.node (o81 P) (.node (o119 P) (.node (o185 P) .nil .nil) (.node (o251 P) .nil .nil)) (.node (o153 P) (.node (o219 P) .nil .nil) (.node (o283 P) .nil .nil))) (.node (o100 P) (.node (o137 P) (.node (o201 P) .nil .nil) (.node (o267 P) .nil .nil)) (.node (o169 P) (.node (o235 P) .nil .nil) .nil))))) (.node (boot_o_6 P) (.node (boot_o_10 P) (.node (o55 P) (.node (o71 P) (.node (o109 P) (.node (o175 P) .nil .nil) (.node (o241 P) .nil .nil)) (.node (o143 P) (.node (o207 P) .nil .nil) (.node (o273 P) .nil .nil))) (.node (o90 P) (.node (o127 P) (.node (o191 P) .nil .nil) (.node (o257 P) .nil .nil)) (.node (o159 P) (.node (o225 P) .nil .nil) .nil))) (.node (o63 P) (.node (o79 P) (.node (o117 P) (.node (o183 P) .nil .nil) (.node (o249 P) .nil .nil)) (.node (o151 P) (.node (o217 P) .nil .nil) (.node (o281 P) .nil .nil))) (.node (o98 P) (.node (o135 P) (.node (o199 P) .nil .nil) (.node (o265 P) .nil .nil)) (.node (o167 P) (.node (o233 P) .nil .nil) .nil)))) (.node (o46 P) (.node (o59 P) (.node (o75 P) (.node (o113 P) (.node (o179 P) .nil .nil) (.node (o245 P) .nil .nil)) (.node (o147 P) (.node (o213 P) .nil .nil) (.node (o277 P) .nil .nil))) (.node (o94 P) (.node (o131 P) (.node (o195 P) .nil .nil) (.node (o261 P) .nil .nil)) (.node (o163 P) (.node (o229 P) .nil .nil) .nil))) (.node (o67 P) (.node (o104 P) (.node (o121 P) (.node (o187 P) .nil .nil) (.node (o253 P) .nil .nil)) (.node (o155 P) (.node (o221 P) .nil .nil) .nil)) (.node (o105 P) (.node (o139 P) (.node (o203 P) .nil .nil) (.node (o269 P) .nil .nil)) (.node (o171 P) (.node (o237 P) .nil .nil) .nil)))))))
noncomputable def tree320 (P : Params) : BT := (.node (boot_o_0 P) (.node (boot_o_1 P) (.node (o284 P) (.node (boot_o_7 P) (.node (o52 P) (.node (o68 P) (.node (o106 P) (.node (o172 P) (.node (o304 P) .nil .nil) .nil) (.node (o238 P) .nil .nil)) (.node (o140 P) (.node (o204 P) .nil .nil) (.node (o270 P) .nil .nil))) (.node (o84 P) (.node (o124 P) (.node (o188 P) (.node (o320 P) .nil .nil) .nil) (.node (o254 P) .nil .nil)) (.node (o156 P) (.node (o222 P) .nil .nil) (.node (o288 P) .nil .nil)))) (.node (o60 P) (.node (o76 P) (.node (o114 P) (.node (o180 P) (.node (o312 P) .nil .nil) .nil) (.node (o246 P) .nil .nil)) (.node (o148 P) (.node (o214 P) .nil .nil) (.node (o278 P) .nil .nil))) (.node (o95 P) (.node (o132 P) (.node (o196 P) .nil .nil) (.node (o262 P) .nil .nil)) (.node (o164 P) (.node (o230 P) .nil .nil) (.node (o296 P) .nil .nil))))) (.node (o43 P) (.node (o56 P) (.node (o72 P) (.node (o110 P) (.node (o176 P) (.node (o308 P) .nil .nil) .nil) (.node (o242 P) .nil .nil)) (.node (o144 P) (.node (o208 P) .nil .nil) (.node (o274 P) .nil .nil))) (.node (o91 P) (.node (o128 P) (.node (o192 P) .nil .nil) (.node (o258 P) .nil .nil)) (.node (o160 P) (.node (o226 P) .nil .nil) (.node (o292 P) .nil .nil)))) (.node (o64 P) (.node (o80 P) (.node (o118 P) (.node (o184 P) (.node (o316 P) .nil .nil) .nil) (.node (o250 P) .nil .nil)) (.node (o152 P) (.node (o218 P) .nil .nil) (.node (o282 P) .nil .nil))) (.node (o99 P) (.node (o136 P) (.node (o200 P) .nil .nil) (.node (o266 P) .nil .nil)) (.node (o168 P) (.node (o234 P) .nil .nil) (.node (o300 P) .nil .nil)))))) (.node (boot_o_5 P) (.node (boot_o_9 P) (.node (o54 P) (.node (o70 P) (.node (o108 P) (.node (o174 P) (.node (o306 P) .nil .nil) .nil) (.node (o240 P) .nil .nil)) (.node (o142 P) (.node (o206 P) .nil .nil) (.node (o272 P) .nil .nil))) (.node (o86 P) (.node (o126 P) (.node (o190 P) .nil .nil) (.node (o256 P) .nil .nil)) (.node (o158 P) (.node (o224 P) .nil .nil) (.node (o290 P) .nil .nil)))) (.node (o62 P) (.node (o78 P) (.node (o116 P) (.node (o182 P) (.node (o314 P) .nil .nil) .nil) (.node (o248 P) .nil .nil)) (.node (o150 P) (.node (o216 P) .nil .nil) (.node (o280 P) .nil .nil))) (.node (o97 P) (.node (o134 P) (.node (o198 P) .nil .nil) (.node (o264 P) .nil .nil)) (.node (o166 P) (.node (o232 P) .nil .nil) (.node (o298 P) .nil .nil))))) (.node (o45 P) (.node (o58 P) (.node (o74 P) (.node (o112 P) (.node (o178 P) (.node (o310 P) .nil .nil) .nil) (.node (o244 P) .nil .nil)) (.node (o146 P) (.node (o212 P) .nil .nil) (.node (o276 P) .nil .nil))) (.node (o93 P) (.node (o130 P) (.node (o194 P) .nil .nil) (.node (o260 P) .nil .nil)) (.node (o162 P) (.node (o228 P) .nil .nil) (.node (o294 P) .nil .nil)))) (.node (o66 P) (.node (o82 P) (.node (o120 P) (.node (o186 P) (.node (o318 P) .nil .nil) .nil) (.node (o252 P) .nil .nil)) (.node (o154 P) (.node (o220 P) .nil .nil) (.node (o286 P) .nil .nil))) (.node (o101 P) (.node (o138 P) (.node (o202 P) .nil .nil) (.node (o268 P) .nil .nil)) (.node (o170 P) (.node (o236 P) .nil .nil) (.node (o302 P) .nil .nil))))))) (.node (o49 P) (.node (boot_o_4 P) (.node (boot_o_8 P) (.node (o53 P) (.node (o69 P) (.node (o107 P) (.node (o173 P) (.node (o305 P) .nil .nil) .nil) (.node (o239 P) .nil .nil)) (.node (o141 P) (.node (o205 P) .nil .nil) (.node (o271 P) .nil .nil))) (.node (o85 P) (.node (o125 P) (.node (o189 P) .nil .nil) (.node (o255 P) .nil .nil)) (.node (o157 P) (.node (o223 P) .nil .nil) (.node (o289 P) .nil .nil)))) (.node (o61 P) (.node (o77 P) (.node (o115 P) (.node (o181 P) (.node (o313 P) .nil .nil) .nil) (.node (o247 P) .nil .nil)) (.node (o149 P) (.node (o215 P) .nil .nil) (.node (o279 P) .nil .nil))) (.node (o96 P) (.node (o133 P) (.node (o197 P) .nil .nil) (.node (o263 P) .nil .nil)) (.node (o165 P) (.node (o231 P) .nil .nil) (.node (o297 P) .nil .nil))))) (.node (o285 P) (.node (o57 P) (.node (o73 P) (.node (o111 P) (.node (o177 P) (.node (o309 P) .nil .nil) .nil) (.node (o243 P) .nil .nil)) (.node (o145 P) (.node (o209 P) .nil .nil) (.node (o275 P) .nil .nil))) (.node (o92 P) (.node (o129 P) (.node (o193 P) .nil .nil) (.node (o259 P) .nil .nil)) (.node (o161 P) (.node (o227 P) .nil .nil) (.node (o293 P) .nil .nil)))) (.node (o65 P) (.node (o81 P) (.node (o119 P) (.node (o185 P) (.node (o317 P) .nil .nil) .nil) (.node (o251 P) .nil .nil)) (.node (o153 P) (.node (o219 P) .nil .nil) (.node (o283 P) .nil .nil))) (.node (o100 P) (.node (o137 P) (.node (o201 P) .nil .nil) (.node (o267 P) .nil .nil)) (.node (o169 P) (.node (o235 P) .nil .nil) (.node (o301 P) .nil .nil)))))) (.node (boot_o_6 P) (.node (boot_o_10 P) (.node (o55 P) (.node (o71 P) (.node (o109 P) (.node (o175 P) (.node (o307 P) .nil .nil) .nil) (.node (o241 P) .nil .nil)) (.node (o143 P) (.node (o207 P) .nil .nil) (.node (o273 P) .nil .nil))) (.node (o90 P) (.node (o127 P) (.node (o191 P) .nil .nil) (.node (o257 P) .nil .nil)) (.node (o159 P) (.node (o225 P) .nil .nil) (.node (o291 P) .nil .nil)))) (.node (o63 P) (.node (o79 P) (.node (o117 P) (.node (o183 P) (.node (o315 P) .nil .nil) .nil) (.node (o249 P) .nil .nil)) (.node (o151 P) (.node (o217 P) .nil .nil) (.node (o281 P) .nil .nil))) (.node (o98 P) (.node (o135 P) (.node (o199 P) .nil .nil) (.node (o265 P) .nil .nil)) (.node (o167 P) (.node (o233 P) .nil .nil) (.node (o299 P) .nil .nil))))) (.node (o46 P) (.node (o59 P) (.node (o75 P) (.node (o113 P) (.node (o179 P) (.node (o311 P) .nil .nil) .nil) (.node (o245 P) .nil .nil)) (.node (o147 P) (.node (o213 P) .nil .nil) (.node (o277 P) .nil .nil))) (.node (o94 P) (.node (o131 P) (.node (o195 P) .nil .nil) (.node (o261 P) .nil .nil)) (.node (o163 P) (.node (o229 P) .nil .nil) (.node (o295 P) .nil .nil)))) (.node (o67 P) (.node (o104 P) (.node (o121 P) (.node (o187 P) (.node (o319 P) .nil .nil) .nil) (.node (o253 P) .nil .nil)) (.node (o155 P) (.node (o221 P) .nil .nil) (.node (o287 P) .nil .nil))) (.node (o105 P) (.node (o139 P) (.node (o203 P) .nil .nil) (.node (o269 P) .nil .nil)) (.node (o171 P) (.node (o237 P) .nil .nil) (.node (o303 P) .nil .nil))))))))
noncomputable def tree376 (P : Params) : BT := (.node (boot_o_0 P) (.node (boot_o_1 P) (.node (o321 P) (.node (boot_o_7 P) (.node (o52 P) (.node (o68 P) (.node (o106 P) (.node (o172 P) (.node (o304 P) .nil .nil) .nil) (.node (o238 P) (.node (o370 P) .nil .nil) .nil)) (.node (o140 P) (.node (o204 P) (.node (o338 P) .nil .nil) .nil) (.node (o270 P) .nil .nil))) (.node (o84 P) (.node (o124 P) (.node (o188 P) (.node (o320 P) .nil .nil) .nil) (.node (o254 P) .nil .nil)) (.node (o156 P) (.node (o222 P) (.node (o354 P) .nil .nil) .nil) (.node (o288 P) .nil .nil)))) (.node (o60 P) (.node (o76 P) (.node (o114 P) (.node (o180 P) (.node (o312 P) .nil .nil) .nil) (.node (o246 P) .nil .nil)) (.node (o148 P) (.node (o214 P) (.node (o346 P) .nil .nil) .nil) (.node (o278 P) .nil .nil))) (.node (o95 P) (.node (o132 P) (.node (o196 P) (.node (o330 P) .nil .nil) .nil) (.node (o262 P) .nil .nil)) (.node (o164 P) (.node (o230 P) (.node (o362 P) .nil .nil) .nil) (.node (o296 P) .nil .nil))))) (.node (o43 P) (.node (o56 P) (.node (o72 P) (.node (o110 P) (.node (o176 P) (.node (o308 P) .nil .nil) .nil) (.node (o242 P) (.node (o374 P) .nil .nil) .nil)) (.node (o144 P) (.node (o208 P) (.node (o342 P) .nil .nil) .nil) (.node (o274 P) .nil .nil))) (.node (o91 P) (.node (o128 P) (.node (o192 P) (.node (o326 P) .nil .nil) .nil) (.node (o258 P) .nil .nil)) (.node (o160 P) (.node (o226 P) (.node (o358 P) .nil .nil) .nil) (.node (o292 P) .nil .nil)))) (.node (o64 P) (.node (o80 P) (.node (o118 P) (.node (o184 P) (.node (o316 P) .nil .nil) .nil) (.node (o250 P) .nil .nil)) (.node (o152 P) (.node (o218 P) (.node (o350 P) .nil .nil) .nil) (.node (o282 P) .nil .nil))) (.node (o99 P) (.node (o136 P) (.node (o200 P) (.node (o334 P) .nil .nil) .nil) (.node (o266 P) .nil .nil)) (.node (o168 P) (.node (o234 P) (.node (o366 P) .nil .nil) .nil) (.node (o300 P) .nil .nil)))))) (.node (boot_o_5 P) (.node (boot_o_9 P) (.node (o54 P) (.node (o70 P) (.node (o108 P) (.node (o174 P) (.node (o306 P) .nil .nil) .nil) (.node (o240 P) (.node (o372 P) .nil .nil) .nil)) (.node (o142 P) (.node (o206 P) (.node (o340 P) .nil .nil) .nil) (.node (o272 P) .nil .nil))) (.node (o86 P) (.node (o126 P) (.node (o190 P) (.node (o324 P) .nil .nil) .nil) (.node (o256 P) .nil .nil)) (.node (o158 P) (.node (o224 P) (.node (o356 P) .nil .nil) .nil) (.node (o290 P) .nil .nil)))) (.node (o62 P) (.node (o78 P) (.node (o116 P) (.node (o182 P) (.node (o314 P) .nil .nil) .nil) (.node (o248 P) .nil .nil)) (.node (o150 P) (.node (o216 P) (.node (o348 P) .nil .nil) .nil) (.node (o280 P) .nil .nil))) (.node (o97 P) (.node (o134 P) (.node (o198 P) (.node (o332 P) .nil .nil) .nil) (.node (o264 P) .nil .nil)) (.node (o166 P) (.node (o232 P) (.node (o364 P) .nil .nil) .nil) (.node (o298 P) .nil .nil))))) (.node (o45 P) (.node (o58 P) (.node (o74 P) (.node (o112 P) (.node (o178 P) (.node (o310 P) .nil .nil) .nil) (.node (o244 P) (.node (o376 P) .nil .nil) .nil)) (.node (o146 P) (.node (o212 P) (.node (o344 P) .nil .nil) .nil) (.node (o276 P) .nil .nil))) (.node (o93 P) (.node (o130 P) (.node (o194 P) (.node (o328 P) .nil .nil) .nil) (.node (o260 P) .nil .nil)) (.node (o162 P) (.node (o228 P) (.node (o360 P) .nil .nil) .nil) (.node (o294 P) .nil .nil)))) (.node (o66 P) (.node (o82 P) (.node (o120 P) (.node (o186 P) (.node (o318 P) .nil .nil) .nil) (.node (o252 P) .nil .nil)) (.node (o154 P) (.node (o220 P) (.node (o352 P) .nil .nil) .nil) (.node (o286 P) .nil .nil))) (.node (o101 P) (.node (o138 P) (.node (o202 P) (.node (o336 P) .nil .nil) .nil) (.node (o268 P) .nil .nil)) (.node (o170 P) (.node (o236 P) (.node (o368 P) .nil .nil) .nil) (.node (o302 P) .nil .nil))))))) (.node (o49 P) (.node (boot_o_4 P) (.node (boot_o_8 P) (.node (o53 P) (.node (o69 P) (.node (o107 P) (.node (o173 P) (.node (o305 P) .nil .nil) .nil) (.node (o239 P) (.node (o371 P) .nil .nil) .nil)) (.node (o141 P) (.node (o205 P) (.node (o339 P) .nil .nil) .nil) (.node (o271 P) .nil .nil))) (.node (o85 P) (.node (o125 P) (.node (o189 P) (.node (o323 P) .nil .nil) .nil) (.node (o255 P) .nil .nil)) (.node (o157 P) (.node (o223 P) (.node (o355 P) .nil .nil) .nil) (.node (o289 P) .nil .nil)))) (.node (o61 P) (.node (o77 P) (.node (o115 P) (.node (o181 P) (.node (o313 P) .nil .nil) .nil) (.node (o247 P) .nil .nil)) (.node (o149 P) (.node (o215 P) (.node (o347 P) .nil .nil) .nil) (.node (o279 P) .nil .nil))) (.node (o96 P) (.node (o133 P) (.node (o197 P) (.node (o331 P) .nil .nil) .nil) (.node (o263 P) .nil .nil)) (.node (o165 P) (.node (o231 P) (.node (o363 P) .nil .nil) .nil) (.node (o297 P) .nil .nil))))) (.node (o322 P) (.node (o57 P) (.node (o73 P) (.node (o111 P) (.node (o177 P) (.node (o309 P) .nil .nil) .nil) (.node (o243 P) (.node (o375 P) .nil .nil) .nil)) (.node (o145 P) (.node (o209 P) (.node (o343 P) .nil .nil) .nil) (.node (o275 P) .nil .nil))) (.node (o92 P) (.node (o129 P) (.node (o193 P) (.node (o327 P) .nil .nil) .nil) (.node (o259 P) .nil .nil)) (.node (o161 P) (.node (o227 P) (.node (o359 P) .nil .nil) .nil) (.node (o293 P) .nil .nil)))) (.node (o65 P) (.node (o81 P) (.node (o119 P) (.node (o185 P) (.node (o317 P) .nil .nil) .nil) (.node (o251 P) .nil .nil)) (.node (o153 P) (.node (o219 P) (.node (o351 P) .nil .nil) .nil) (.node (o283 P) .nil .nil))) (.node (o100 P) (.node (o137 P) (.node (o201 P) (.node (o335 P) .nil .nil) .nil) (.node (o267 P) .nil .nil)) (.node (o169 P) (.node (o235 P) (.node (o367 P) .nil .nil) .nil) (.node (o301 P) .nil .nil)))))) (.node (boot_o_6 P) (.node (boot_o_10 P) (.node (o55 P) (.node (o71 P) (.node (o109 P) (.node (o175 P) (.node (o307 P) .nil .nil) .nil) (.node (o241 P) (.node (o373 P) .nil .nil) .nil)) (.node (o143 P) (.node (o207 P) (.node (o341 P) .nil .nil) .nil) (.node (o273 P) .nil .nil))) (.node (o90 P) (.node (o127 P) (.node (o191 P) (.node (o325 P) .nil .nil) .nil) (.node (o257 P) .nil .nil)) (.node (o159 P) (.node (o225 P) (.node (o357 P) .nil .nil) .nil) (.node (o291 P) .nil .nil)))) (.node (o63 P) (.node (o79 P) (.node (o117 P) (.node (o183 P) (.node (o315 P) .nil .nil) .nil) (.node (o249 P) .nil .nil)) (.node (o151 P) (.node (o217 P) (.node (o349 P) .nil .nil) .nil) (.node (o281 P) .nil .nil))) (.node (o98 P) (.node (o135 P) (.node (o199 P) (.node (o333 P) .nil .nil) .nil) (.node (o265 P) .nil .nil)) (.node (o167 P) (.node (o233 P) (.node (o365 P) .nil .nil) .nil) (.node (o299 P) .nil .nil))))) (.node (o46 P) (.node (o59 P) (.node (o75 P) (.node (o113 P) (.node (o179 P) (.node (o311 P) .nil .nil) .nil) (.node (o245 P) .nil .nil)) (.node (o147 P) (.node (o213 P) (.node (o345 P) .nil .nil) .nil) (.node (o277 P) .nil .nil))) (.node (o94 P) (.node (o131 P) (.node (o195 P) (.node (o329 P) .nil .nil) .nil) (.node (o261 P) .nil .nil)) (.node (o163 P) (.node (o229 P) (.node (o361 P) .nil .nil) .nil) (.node (o295 P) .nil .nil)))) (.node (o67 P) (.node (o104 P) (.node (o121 P) (.node (o187 P) (.node (o319 P) .nil .nil) .nil) (.node (o253 P) .nil .nil)) (.node (o155 P) (.node (o221 P) (.node (o353 P) .nil .nil) .nil) (.node (o287 P) .nil .nil))) (.node (o105 P) (.node (o139 P) (.node (o203 P) (.node (o337 P) .nil .nil) .nil) (.node (o269 P) .nil .nil)) (.node (o171 P) (.node (o237 P) (.node (o369 P) .nil .nil) .nil) (.node (o303 P) .nil .nil))))))))
noncomputable def tree443 (P : Params) : BT := (.node (boot_o_0 P) (.node (boot_o_1 P) (.node (o377 P) (.node (boot_o_7 P) (.node (o52 P) (.node (o68 P) (.node (o106 P) (.node (o172 P) (.node (o304 P) .nil .nil) (.node (o436 P) .nil .nil)) (.node (o238 P) (.node (o370 P) .nil .nil) .nil)) (.node (o140 P) (.node (o204 P) (.node (o338 P) .nil .nil) .nil) (.node (o270 P) (.node (o404 P) .nil .nil) .nil))) (.node (o84 P) (.node (o124 P) (.node (o188 P) (.node (o320 P) .nil .nil) .nil) (.node (o254 P) (.node (o388 P) .nil .nil) .nil)) (.node (o156 P) (.node (o222 P) (.node (o354 P) .nil .nil) .nil) (.node (o288 P) (.node (o420 P) .nil .nil) .nil)))) (.node (o60 P) (.node (o76 P) (.node (o114 P) (.node (o180 P) (.node (o312 P) .nil .nil) .nil) (.node (o246 P) (.node (o380 P) .nil .nil) .nil)) (.node (o148 P) (.node (o214 P) (.node (o346 P) .nil .nil) .nil) (.node (o278 P) (.node (o412 P) .nil .nil) .nil))) (.node (o95 P) (.node (o132 P) (.node (o196 P) (.node (o330 P) .nil .nil) .nil) (.node (o262 P) (.node (o396 P) .nil .nil) .nil)) (.node (o164 P) (.node (o230 P) (.node (o362 P) .nil .nil) .nil) (.node (o296 P) (.node (o428 P) .nil .nil) .nil))))) (.node (o43 P) (.node (o56 P) (.node (o72 P) (.node (o110 P) (.node (o176 P) (.node (o308 P) .nil .nil) (.node (o440 P) .nil .nil)) (.node (o242 P) (.node (o374 P) .nil .nil) .nil)) (.node (o144 P) (.node (o208 P) (.node (o342 P) .nil .nil) .nil) (.node (o274 P) (.node (o408 P) .nil .nil) .nil))) (.node (o91 P) (.node (o128 P) (.node (o192 P) (.node (o326 P) .nil .nil) .nil) (.node (o258 P) (.node (o392 P) .nil .nil) .nil)) (.node (o160 P) (.node (o226 P) (.node (o358 P) .nil .nil) .nil) (.node (o292 P) (.node (o424 P) .nil .nil) .nil)))) (.node (o64 P) (.node (o80 P) (.node (o118 P) (.node (o184 P) (.node (o316 P) .nil .nil) .nil) (.node (o250 P) (.node (o384 P) .nil .nil) .nil)) (.node (o152 P) (.node (o218 P) (.node (o350 P) .nil .nil) .nil) (.node (o282 P) (.node (o416 P) .nil .nil) .nil))) (.node (o99 P) (.node (o136 P) (.node (o200 P) (.node (o334 P) .nil .nil) .nil) (.node (o266 P) (.node (o400 P) .nil .nil) .nil)) (.node (o168 P) (.node (o234 P) (.node (o366 P) .nil .nil) .nil) (.node (o300 P) (.node (o432 P) .nil .nil) .nil)))))) (.node (boot_o_5 P) (.node (boot_o_9 P) (.node (o54 P) (.node (o70 P) (.node (o108 P) (.node (o174 P) (.node (o306 P) .nil .nil) (.node (o438 P) .nil .nil)) (.node (o240 P) (.node (o372 P) .nil .nil) .nil)) (.node (o142 P) (.node (o206 P) (.node (o340 P) .nil .nil) .nil) (.node (o272 P) (.node (o406 P) .nil .nil) .nil))) (.node (o86 P) (.node (o126 P) (.node (o190 P) (.node (o324 P) .nil .nil) .nil) (.node (o256 P) (.node (o390 P) .nil .nil) .nil)) (.node (o158 P) (.node (o224 P) (.node (o356 P) .nil .nil) .nil) (.node (o290 P) (.node (o422 P) .nil .nil) .nil)))) (.node (o62 P) (.node (o78 P) (.node (o116 P) (.node (o182 P) (.node (o314 P) .nil .nil) .nil) (.node (o248 P) (.node (o382 P) .nil .nil) .nil)) (.node (o150 P) (.node (o216 P) (.node (o348 P) .nil .nil) .nil) (.node (o280 P) (.node (o414 P) .nil .nil) .nil))) (.node (o97 P) (.node (o134 P) (.node (o198 P) (.node (o332 P) .nil .nil) .nil) (.node (o264 P) (.node (o398 P) .nil .nil) .nil)) (.node (o166 P) (.node (o232 P) (.node (o364 P) .nil .nil) .nil) (.node (o298 P) (.node (o430 P) .nil .nil) .nil))))) (.node (o45 P) (.node (o58 P) (.node (o74 P) (.node (o112 P) (.node (o178 P) (.node (o310 P) .nil .nil) (.node (o442 P) .nil .nil)) (.node (o244 P) (.node (o376 P) .nil .nil) .nil)) (.node (o146 P) (.node (o212 P) (.node (o344 P) .nil .nil) .nil) (.node (o276 P) (.node (o410 P) .nil .nil) .nil))) (.node (o93 P) (.node (o130 P) (.node (o194 P) (.node (o328 P) .nil .nil) .nil) (.node (o260 P) (.node (o394 P) .nil .nil) .nil)) (.node (o162 P) (.node (o228 P) (.node (o360 P) .nil .nil) .nil) (.node (o294 P) (.node (o426 P) .nil .nil) .nil)))) (.node (o66 P) (.node (o82 P) (.node (o120 P) (.node (o186 P) (.node (o318 P) .nil .nil) .nil) (.node (o252 P) (.node (o386 P) .nil .nil) .nil)) (.node (o154 P) (.node (o220 P) (.node (o352 P) .nil .nil) .nil) (.node (o286 P) (.node (o418 P) .nil .nil) .nil))) (.node (o101 P) (.node (o138 P) (.node (o202 P) (.node (o336 P) .nil .nil) .nil) (.node (o268 P) (.node (o402 P) .nil .nil) .nil)) (.node (o170 P) (.node (o236 P) (.node (o368 P) .nil .nil) .nil) (.node (o302 P) (.node (o434 P) .nil .nil) .nil))))))) (.node (o49 P) (.node (boot_o_4 P) (.node (boot_o_8 P) (.node (o53 P) (.node (o69 P) (.node (o107 P) (.node (o173 P) (.node (o305 P) .nil .nil) (.node (o437 P) .nil .nil)) (.node (o239 P) (.node (o371 P) .nil .nil) .nil)) (.node (o141 P) (.node (o205 P) (.node (o339 P) .nil .nil) .nil) (.node (o271 P) (.node (o405 P) .nil .nil) .nil))) (.node (o85 P) (.node (o125 P) (.node (o189 P) (.node (o323 P) .nil .nil) .nil) (.node (o255 P) (.node (o389 P) .nil .nil) .nil)) (.node (o157 P) (.node (o223 P) (.node (o355 P) .nil .nil) .nil) (.node (o289 P) (.node (o421 P) .nil .nil) .nil)))) (.node (o61 P) (.node (o77 P) (.node (o115 P) (.node (o181 P) (.node (o313 P) .nil .nil) .nil) (.node (o247 P) (.node (o381 P) .nil .nil) .nil)) (.node (o149 P) (.node (o215 P) (.node (o347 P) .nil .nil) .nil) (.node (o279 P) (.node (o413 P) .nil .nil) .nil))) (.node (o96 P) (.node (o133 P) (.node (o197 P) (.node (o331 P) .nil .nil) .nil) (.node (o263 P) (.node (o397 P) .nil .nil) .nil)) (.node (o165 P) (.node (o231 P) (.node (o363 P) .nil .nil) .nil) (.node (o297 P) (.node (o429 P) .nil .nil) .nil))))) (.node (o378 P) (.node (o57 P) (.node (o73 P) (.node (o111 P) (.node (o177 P) (.node (o309 P) .nil .nil) (.node (o441 P) .nil .nil)) (.node (o243 P) (.node (o375 P) .nil .nil) .nil)) (.node (o145 P) (.node (o209 P) (.node (o343 P) .nil .nil) .nil) (.node (o275 P) (.node (o409 P) .nil .nil) .nil))) (.node (o92 P) (.node (o129 P) (.node (o193 P) (.node (o327 P) .nil .nil) .nil) (.node (o259 P) (.node (o393 P) .nil .nil) .nil)) (.node (o161 P) (.node (o227 P) (.node (o359 P) .nil .nil) .nil) (.node (o293 P) (.node (o425 P) .nil .nil) .nil)))) (.node (o65 P) (.node (o81 P) (.node (o119 P) (.node (o185 P) (.node (o317 P) .nil .nil) .nil) (.node (o251 P) (.node (o385 P) .nil .nil) .nil)) (.node (o153 P) (.node (o219 P) (.node (o351 P) .nil .nil) .nil) (.node (o283 P) (.node (o417 P) .nil .nil) .nil))) (.node (o100 P) (.node (o137 P) (.node (o201 P) (.node (o335 P) .nil .nil) .nil) (.node (o267 P) (.node (o401 P) .nil .nil) .nil)) (.node (o169 P) (.node (o235 P) (.node (o367 P) .nil .nil) .nil) (.node (o301 P) (.node (o433 P) .nil .nil) .nil)))))) (.node (boot_o_6 P) (.node (boot_o_10 P) (.node (o55 P) (.node (o71 P) (.node (o109 P) (.node (o175 P) (.node (o307 P) .nil .nil) (.node (o439 P) .nil .nil)) (.node (o241 P) (.node (o373 P) .nil .nil) .nil)) (.node (o143 P) (.node (o207 P) (.node (o341 P) .nil .nil) .nil) (.node (o273 P) (.node (o407 P) .nil .nil) .nil))) (.node (o90 P) (.node (o127 P) (.node (o191 P) (.node (o325 P) .nil .nil) .nil) (.node (o257 P) (.node (o391 P) .nil .nil) .nil)) (.node (o159 P) (.node (o225 P) (.node (o357 P) .nil .nil) .nil) (.node (o291 P) (.node (o423 P) .nil .nil) .nil)))) (.node (o63 P) (.node (o79 P) (.node (o117 P) (.node (o183 P) (.node (o315 P) .nil .nil) .nil) (.node (o249 P) (.node (o383 P) .nil .nil) .nil)) (.node (o151 P) (.node (o217 P) (.node (o349 P) .nil .nil) .nil) (.node (o281 P) (.node (o415 P) .nil .nil) .nil))) (.node (o98 P) (.node (o135 P) (.node (o199 P) (.node (o333 P) .nil .nil) .nil) (.node (o265 P) (.node (o399 P) .nil .nil) .nil)) (.node (o167 P) (.node (o233 P) (.node (o365 P) .nil .nil) .nil) (.node (o299 P) (.node (o431 P) .nil .nil) .nil))))) (.node (o46 P) (.node (o59 P) (.node (o75 P) (.node (o113 P) (.node (o179 P) (.node (o311 P) .nil .nil) (.node (o443 P) .nil .nil)) (.node (o245 P) (.node (o379 P) .nil .nil) .nil)) (.node (o147 P) (.node (o213 P) (.node (o345 P) .nil .nil) .nil) (.node (o277 P) (.node (o411 P) .nil .nil) .nil))) (.node (o94 P) (.node (o131 P) (.node (o195 P) (.node (o329 P) .nil .nil) .nil) (.node (o261 P) (.node (o395 P) .nil .nil) .nil)) (.node (o163 P) (.node (o229 P) (.node (o361 P) .nil .nil) .nil) (.node (o295 P) (.node (o427 P) .nil .nil) .nil)))) (.node (o67 P) (.node (o104 P) (.node (o121 P) (.node (o187 P) (.node (o319 P) .nil .nil) .nil) (.node (o253 P) (.node (o387 P) .nil .nil) .nil)) (.node (o155 P) (.node (o221 P) (.node (o353 P) .nil .nil) .nil) (.node (o287 P) (.node (o419 P) .nil .nil) .nil))) (.node (o105 P) (.node (o139 P) (.node (o203 P) (.node (o337 P) .nil .nil) .nil) (.node (o269 P) (.node (o403 P) .nil .nil) .nil)) (.node (o171 P) (.node (o237 P) (.node (o369 P) .nil .nil) .nil) (.node (o303 P) (.node (o435 P) .nil .nil) .nil))))))))
noncomputable def tree523 (P : Params) : BT := (.node (boot_o_0 P) (.node (boot_o_1 P) (.node (o444 P) (.node (boot_o_7 P) (.node (o52 P) (.node (o68 P) (.node (o106 P) (.node (o172 P) (.node (o304 P) .nil .nil) (.node (o436 P) .nil .nil)) (.node (o238 P) (.node (o370 P) .nil .nil) (.node (o502 P) .nil .nil))) (.node (o140 P) (.node (o204 P) (.node (o338 P) .nil .nil) (.node (o470 P) .nil .nil)) (.node (o270 P) (.node (o404 P) .nil .nil) .nil))) (.node (o84 P) (.node (o124 P) (.node (o188 P) (.node (o320 P) .nil .nil) (.node (o454 P) .nil .nil)) (.node (o254 P) (.node (o388 P) .nil .nil) (.node (o518 P) .nil .nil))) (.node (o156 P) (.node (o222 P) (.node (o354 P) .nil .nil) (.node (o486 P) .nil .nil)) (.node (o288 P) (.node (o420 P) .nil .nil) .nil)))) (.node (o60 P) (.node (o76 P) (.node (o114 P) (.node (o180 P) (.node (o312 P) .nil .nil) (.node (o446 P) .nil .nil)) (.node (o246 P) (.node (o380 P) .nil .nil) (.node (o510 P) .nil .nil))) (.node (o148 P) (.node (o214 P) (.node (o346 P) .nil .nil) (.node (o478 P) .nil .nil)) (.node (o278 P) (.node (o412 P) .nil .nil) .nil))) (.node (o95 P) (.node (o132 P) (.node (o196 P) (.node (o330 P) .nil .nil) (.node (o462 P) .nil .nil)) (.node (o262 P) (.node (o396 P) .nil .nil) .nil)) (.node (o164 P) (.node (o230 P) (.node (o362 P) .nil .nil) (.node (o494 P) .nil .nil)) (.node (o296 P) (.node (o428 P) .nil .nil) .nil))))) (.node (o43 P) (.node (o56 P) (.node (o72 P) (.node (o110 P) (.node (o176 P) (.node (o308 P) .nil .nil) (.node (o440 P) .nil .nil)) (.node (o242 P) (.node (o374 P) .nil .nil) (.node (o506 P) .nil .nil))) (.node (o144 P) (.node (o208 P) (.node (o342 P) .nil .nil) (.node (o474 P) .nil .nil)) (.node (o274 P) (.node (o408 P) .nil .nil) .nil))) (.node (o91 P) (.node (o128 P) (.node (o192 P) (.node (o326 P) .nil .nil) (.node (o458 P) .nil .nil)) (.node (o258 P) (.node (o392 P) .nil .nil) (.node (o522 P) .nil .nil))) (.node (o160 P) (.node (o226 P) (.node (o358 P) .nil .nil) (.node (o490 P) .nil .nil)) (.node (o292 P) (.node (o424 P) .nil .nil) .nil)))) (.node (o64 P) (.node (o80 P) (.node (o118 P) (.node (o184 P) (.node (o316 P) .nil .nil) (.node (o450 P) .nil .nil)) (.node (o250 P) (.node (o384 P) .nil .nil) (.node (o514 P) .nil .nil))) (.node (o152 P) (.node (o218 P) (.node (o350 P) .nil .nil) (.node (o482 P) .nil .nil)) (.node (o282 P) (.node (o416 P) .nil .nil) .nil))) (.node (o99 P) (.node (o136 P) (.node (o200 P) (.node (o334 P) .nil .nil) (.node (o466 P) .nil .nil)) (.node (o266 P) (.node (o400 P) .nil .nil) .nil)) (.node (o168 P) (.node (o234 P) (.node (o366 P) .nil .nil) (.node (o498 P) .nil .nil)) (.node (o300 P) (.node (o432 P) .nil .nil) .nil)))))) (.node (boot_o_5 P) (.node (boot_o_9 P) (.node (o54 P) (.node (o70 P) (.node (o108 P) (.node (o174 P) (.node (o306 P) .nil .nil) (.node (o438 P) .nil .nil)) (.node (o240 P) (.node (o372 P) .nil .nil) (.node (o504 P) .nil .nil))) (.node (o142 P) (.node (o206 P) (.node (o340 P) .nil .nil) (.node (o472 P) .nil .nil)) (.node (o272 P) (.node (o406 P) .nil .nil) .nil))) (.node (o86 P) (.node (o126 P) (.node (o190 P) (.node (o324 P) .nil .nil) (.node (o456 P) .nil .nil)) (.node (o256 P) (.node (o390 P) .nil .nil) (.node (o520 P) .nil .nil))) (.node (o158 P) (.node (o224 P) (.node (o356 P) .nil .nil) (.node (o488 P) .nil .nil)) (.node (o290 P) (.node (o422 P) .nil .nil) .nil)))) (.node (o62 P) (.node (o78 P) (.node (o116 P) (.node (o182 P) (.node (o314 P) .nil .nil) (.node (o448 P) .nil .nil)) (.node (o248 P) (.node (o382 P) .nil .nil) (.node (o512 P) .nil .nil))) (.node (o150 P) (.node (o216 P) (.node (o348 P) .nil .nil) (.node (o480 P) .nil .nil)) (.node (o280 P) (.node (o414 P) .nil .nil) .nil))) (.node (o97 P) (.node (o134 P) (.node (o198 P) (.node (o332 P) .nil .nil) (.node (o464 P) .nil .nil)) (.node (o264 P) (.node (o398 P) .nil .nil) .nil)) (.node (o166 P) (.node (o232 P) (.node (o364 P) .nil .nil) (.node (o496 P) .nil .nil)) (.node (o298 P) (.node (o430 P) .nil .nil) .nil))))) (.node (o45 P) (.node (o58 P) (.node (o74 P) (.node (o112 P) (.node (o178 P) (.node (o310 P) .nil .nil) (.node (o442 P) .nil .nil)) (.node (o244 P) (.node (o376 P) .nil .nil) (.node (o508 P) .nil .nil))) (.node (o146 P) (.node (o212 P) (.node (o344 P) .nil .nil) (.node (o476 P) .nil .nil)) (.node (o276 P) (.node (o410 P) .nil .nil) .nil))) (.node (o93 P) (.node (o130 P) (.node (o194 P) (.node (o328 P) .nil .nil) (.node (o460 P) .nil .nil)) (.node (o260 P) (.node (o394 P) .nil .nil) .nil)) (.node (o162 P) (.node (o228 P) (.node (o360 P) .nil .nil) (.node (o492 P) .nil .nil)) (.node (o294 P) (.node (o426 P) .nil .nil) .nil)))) (.node (o66 P) (.node (o82 P) (.node (o120 P) (.node (o186 P) (.node (o318 P) .nil .nil) (.node (o452 P) .nil .nil)) (.node (o252 P) (.node (o386 P) .nil .nil) (.node (o516 P) .nil .nil))) (.node (o154 P) (.node (o220 P) (.node (o352 P) .nil .nil) (.node (o484 P) .nil .nil)) (.node (o286 P) (.node (o418 P) .nil .nil) .nil))) (.node (o101 P) (.node (o138 P) (.node (o202 P) (.node (o336 P) .nil .nil) (.node (o468 P) .nil .nil)) (.node (o268 P) (.node (o402 P) .nil .nil) .nil)) (.node (o170 P) (.node (o236 P) (.node (o368 P) .nil .nil) (.node (o500 P) .nil .nil)) (.node (o302 P) (.node (o434 P) .nil .nil) .nil))))))) (.node (o49 P) (.node (boot_o_4 P) (.node (boot_o_8 P) (.node (o53 P) (.node (o69 P) (.node (o107 P) (.node (o173 P) (.node (o305 P) .nil .nil) (.node (o437 P) .nil .nil)) (.node (o239 P) (.node (o371 P) .nil .nil) (.node (o503 P) .nil .nil))) (.node (o141 P) (.node (o205 P) (.node (o339 P) .nil .nil) (.node (o471 P) .nil .nil)) (.node (o271 P) (.node (o405 P) .nil .nil) .nil))) (.node (o85 P) (.node (o125 P) (.node (o189 P) (.node (o323 P) .nil .nil) (.node (o455 P) .nil .nil)) (.node (o255 P) (.node (o389 P) .nil .nil) (.node (o519 P) .nil .nil))) (.node (o157 P) (.node (o223 P) (.node (o355 P) .nil .nil) (.node (o487 P) .nil .nil)) (.node (o289 P) (.node (o421 P) .nil .nil) .nil)))) (.node (o61 P) (.node (o77 P) (.node (o115 P) (.node (o181 P) (.node (o313 P) .nil .nil) (.node (o447 P) .nil .nil)) (.node (o247 P) (.node (o381 P) .nil .nil) (.node (o511 P) .nil .nil))) (.node (o149 P) (.node (o215 P) (.node (o347 P) .nil .nil) (.node (o479 P) .nil .nil)) (.node (o279 P) (.node (o413 P) .nil .nil) .nil))) (.node (o96 P) (.node (o133 P) (.node (o197 P) (.node (o331 P) .nil .nil) (.node (o463 P) .nil .nil)) (.node (o263 P) (.node (o397 P) .nil .nil) .nil)) (.node (o165 P) (.node (o231 P) (.node (o363 P) .nil .nil) (.node (o495 P) .nil .nil)) (.node (o297 P) (.node (o429 P) .nil .nil) .nil))))) (.node (o445 P) (.node (o57 P) (.node (o73 P) (.node (o111 P) (.node (o177 P) (.node (o309 P) .nil .nil) (.node (o441 P) .nil .nil)) (.node (o243 P) (.node (o375 P) .nil .nil) (.node (o507 P) .nil .nil))) (.node (o145 P) (.node (o209 P) (.node (o343 P) .nil .nil) (.node (o475 P) .nil .nil)) (.node (o275 P) (.node (o409 P) .nil .nil) .nil))) (.node (o92 P) (.node (o129 P) (.node (o193 P) (.node (o327 P) .nil .nil) (.node (o459 P) .nil .nil)) (.node (o259 P) (.node (o393 P) .nil .nil) (.node (o523 P) .nil .nil))) (.node (o161 P) (.node (o227 P) (.node (o359 P) .nil .nil) (.node (o491 P) .nil .nil)) (.node (o293 P) (.node (o425 P) .nil .nil) .nil)))) (.node (o65 P) (.node (o81 P) (.node (o119 P) (.node (o185 P) (.node (o317 P) .nil .nil) (.node (o451 P) .nil .nil)) (.node (o251 P) (.node (o385 P) .nil .nil) (.node (o515 P) .nil .nil))) (.node (o153 P) (.node (o219 P) (.node (o351 P) .nil .nil) (.node (o483 P) .nil .nil)) (.node (o283 P) (.node (o417 P) .nil .nil) .nil))) (.node (o100 P) (.node (o137 P) (.node (o201 P) (.node (o335 P) .nil .nil) (.node (o467 P) .nil .nil)) (.node (o267 P) (.node (o401 P) .nil .nil) .nil)) (.node (o169 P) (.node (o235 P) (.node (o367 P) .nil .nil) (.node (o499 P) .nil .nil)) (.node (o301 P) (.node (o433 P) .nil .nil) .nil)))))) (.node (boot_o_6 P) (.node (boot_o_10 P) (.node (o55 P) (.node (o71 P) (.node (o109 P) (.node (o175 P) (.node (o307 P) .nil .nil) (.node (o439 P) .nil .nil)) (.node (o241 P) (.node (o373 P) .nil .nil) (.node (o505 P) .nil .nil))) (.node (o143 P) (.node (o207 P) (.node (o341 P) .nil .nil) (.node (o473 P) .nil .nil)) (.node (o273 P) (.node (o407 P) .nil .nil) .nil))) (.node (o90 P) (.node (o127 P) (.node (o191 P) (.node (o325 P) .nil .nil) (.node (o457 P) .nil .nil)) (.node (o257 P) (.node (o391 P) .nil .nil) (.node (o521 P) .nil .nil))) (.node (o159 P) (.node (o225 P) (.node (o357 P) .nil .nil) (.node (o489 P) .nil .nil)) (.node (o291 P) (.node (o423 P) .nil .nil) .nil)))) (.node (o63 P) (.node (o79 P) (.node (o117 P) (.node (o183 P) (.node (o315 P) .nil .nil) (.node (o449 P) .nil .nil)) (.node (o249 P) (.node (o383 P) .nil .nil) (.node (o513 P) .nil .nil))) (.node (o151 P) (.node (o217 P) (.node (o349 P) .nil .nil) (.node (o481 P) .nil .nil)) (.node (o281 P) (.node (o415 P) .nil .nil) .nil))) (.node (o98 P) (.node (o135 P) (.node (o199 P) (.node (o333 P) .nil .nil) (.node (o465 P) .nil .nil)) (.node (o265 P) (.node (o399 P) .nil .nil) .nil)) (.node (o167 P) (.node (o233 P) (.node (o365 P) .nil .nil) (.node (o497 P) .nil .nil)) (.node (o299 P) (.node (o431 P) .nil .nil) .nil))))) (.node (o46 P) (.node (o59 P) (.node (o75 P) (.node (o113 P) (.node (o179 P) (.node (o311 P) .nil .nil) (.node (o443 P) .nil .nil)) (.node (o245 P) (.node (o379 P) .nil .nil) (.node (o509 P) .nil .nil))) (.node (o147 P) (.node (o213 P) (.node (o345 P) .nil .nil) (.node (o477 P) .nil .nil)) (.node (o277 P) (.node (o411 P) .nil .nil) .nil))) (.node (o94 P) (.node (o131 P) (.node (o195 P) (.node (o329 P) .nil .nil) (.node (o461 P) .nil .nil)) (.node (o261 P) (.node (o395 P) .nil .nil) .nil)) (.node (o163 P) (.node (o229 P) (.node (o361 P) .nil .nil) (.node (o493 P) .nil .nil)) (.node (o295 P) (.node (o427 P) .nil .nil) .nil)))) (.node (o67 P) (.node (o104 P) (.node (o121 P) (.node (o187 P) (.node (o319 P) .nil .nil) (.node (o453 P) .nil .nil)) (.node (o253 P) (.node (o387 P) .nil .nil) (.node (o517 P) .nil .nil))) (.node (o155 P) (.node (o221 P) (.node (o353 P) .nil .nil) (.node (o485 P) .nil .nil)) (.node (o287 P) (.node (o419 P) .nil .nil) .nil))) (.node (o105 P) (.node (o139 P) (.node (o203 P) (.node (o337 P) .nil .nil) (.node (o469 P) .nil .nil)) (.node (o269 P) (.node (o403 P) .nil .nil) .nil)) (.node (o171 P) (.node (o237 P) (.node (o369 P) .nil .nil) (.node (o501 P) .nil .nil)) (.node (o303 P) (.node (o435 P) .nil .nil) .nil))))))))
noncomputable def tree556 (P : Params) : BT := (.node (boot_o_0 P) (.node (boot_o_1 P) (.node (o524 P) (.node (boot_o_7 P) (.node (o52 P) (.node (o68 P) (.node (o106 P) (.node (o172 P) (.node (o304 P) .nil .nil) (.node (o436 P) .nil .nil)) (.node (o238 P) (.node (o370 P) .nil .nil) (.node (o502 P) .nil .nil))) (.node (o140 P) (.node (o204 P) (.node (o338 P) .nil .nil) (.node (o470 P) .nil .nil)) (.node (o270 P) (.node (o404 P) .nil .nil) (.node (o536 P) .nil .nil)))) (.node (o84 P) (.node (o124 P) (.node (o188 P) (.node (o320 P) .nil .nil) (.node (o454 P) .nil .nil)) (.node (o254 P) (.node (o388 P) .nil .nil) (.node (o518 P) .nil .nil))) (.node (o156 P) (.node (o222 P) (.node (o354 P) .nil .nil) (.node (o486 P) .nil .nil)) (.node (o288 P) (.node (o420 P) .nil .nil) (.node (o552 P) .nil .nil))))) (.node (o60 P) (.node (o76 P) (.node (o114 P) (.node (o180 P) (.node (o312 P) .nil .nil) (.node (o446 P) .nil .nil)) (.node (o246 P) (.node (o380 P) .nil .nil) (.node (o510 P) .nil .nil))) (.node (o148 P) (.node (o214 P) (.node (o346 P) .nil .nil) (.node (o478 P) .nil .nil)) (.node (o278 P) (.node (o412 P) .nil .nil) (.node (o544 P) .nil .nil)))) (.node (o95 P) (.node (o132 P) (.node (o196 P) (.node (o330 P) .nil .nil) (.node (o462 P) .nil .nil)) (.node (o262 P) (.node (o396 P) .nil .nil) (.node (o528 P) .nil .nil))) (.node (o164 P) (.node (o230 P) (.node (o362 P) .nil .nil) (.node (o494 P) .nil .nil)) (.node (o296 P) (.node (o428 P) .nil .nil) .nil))))) (.node (o43 P) (.node (o56 P) (.node (o72 P) (.node (o110 P) (.node (o176 P) (.node (o308 P) .nil .nil) (.node (o440 P) .nil .nil)) (.node (o242 P) (.node (o374 P) .nil .nil) (.node (o506 P) .nil .nil))) (.node (o144 P) (.node (o208 P) (.node (o342 P) .nil .nil) (.node (o474 P) .nil .nil)) (.node (o274 P) (.node (o408 P) .nil .nil) (.node (o540 P) .nil .nil)))) (.node (o91 P) (.node (o128 P) (.node (o192 P) (.node (o326 P) .nil .nil) (.node (o458 P) .nil .nil)) (.node (o258 P) (.node (o392 P) .nil .nil) (.node (o522 P) .nil .nil))) (.node (o160 P) (.node (o226 P) (.node (o358 P) .nil .nil) (.node (o490 P) .nil .nil)) (.node (o292 P) (.node (o424 P) .nil .nil) (.node (o556 P) .nil .nil))))) (.node (o64 P) (.node (o80 P) (.node (o118 P) (.node (o184 P) (.node (o316 P) .nil .nil) (.node (o450 P) .nil .nil)) (.node (o250 P) (.node (o384 P) .nil .nil) (.node (o514 P) .nil .nil))) (.node (o152 P) (.node (o218 P) (.node (o350 P) .nil .nil) (.node (o482 P) .nil .nil)) (.node (o282 P) (.node (o416 P) .nil .nil) (.node (o548 P) .nil .nil)))) (.node (o99 P) (.node (o136 P) (.node (o200 P) (.node (o334 P) .nil .nil) (.node (o466 P) .nil .nil)) (.node (o266 P) (.node (o400 P) .nil .nil) (.node (o532 P) .nil .nil))) (.node (o168 P) (.node (o234 P) (.node (o366 P) .nil .nil) (.node (o498 P) .nil .nil)) (.node (o300 P) (.node (o432 P) .nil .nil) .nil)))))) (.node (boot_o_5 P) (.node (boot_o_9 P) (.node (o54 P) (.node (o70 P) (.node (o108 P) (.node (o174 P) (.node (o306 P) .nil .nil) (.node (o438 P) .nil .nil)) (.node (o240 P) (.node (o372 P) .nil .nil) (.node (o504 P) .nil .nil))) (.node (o142 P) (.node (o206 P) (.node (o340 P) .nil .nil) (.node (o472 P) .nil .nil)) (.node (o272 P) (.node (o406 P) .nil .nil) (.node (o538 P) .nil .nil)))) (.node (o86 P) (.node (o126 P) (.node (o190 P) (.node (o324 P) .nil .nil) (.node (o456 P) .nil .nil)) (.node (o256 P) (.node (o390 P) .nil .nil) (.node (o520 P) .nil .nil))) (.node (o158 P) (.node (o224 P) (.node (o356 P) .nil .nil) (.node (o488 P) .nil .nil)) (.node (o290 P) (.node (o422 P) .nil .nil) (.node (o554 P) .nil .nil))))) (.node (o62 P) (.node (o78 P) (.node (o116 P) (.node (o182 P) (.node (o314 P) .nil .nil) (.node (o448 P) .nil .nil)) (.node (o248 P) (.node (o382 P) .nil .nil) (.node (o512 P) .nil .nil))) (.node (o150 P) (.node (o216 P) (.node (o348 P) .nil .nil) (.node (o480 P) .nil .nil)) (.node (o280 P) (.node (o414 P) .nil .nil) (.node (o546 P) .nil .nil)))) (.node (o97 P) (.node (o134 P) (.node (o198 P) (.node (o332 P) .nil .nil) (.node (o464 P) .nil .nil)) (.node (o264 P) (.node (o398 P) .nil .nil) (.node (o530 P) .nil .nil))) (.node (o166 P) (.node (o232 P) (.node (o364 P) .nil .nil) (.node (o496 P) .nil .nil)) (.node (o298 P) (.node (o430 P) .nil .nil) .nil))))) (.node (o45 P) (.node (o58 P) (.node (o74 P) (.node (o112 P) (.node (o178 P) (.node (o310 P) .nil .nil) (.node (o442 P) .nil .nil)) (.node (o244 P) (.node (o376 P) .nil .nil) (.node (o508 P) .nil .nil))) (.node (o146 P) (.node (o212 P) (.node (o344 P) .nil .nil) (.node (o476 P) .nil .nil)) (.node (o276 P) (.node (o410 P) .nil .nil) (.node (o542 P) .nil .nil)))) (.node (o93 P) (.node (o130 P) (.node (o194 P) (.node (o328 P) .nil .nil) (.node (o460 P) .nil .nil)) (.node (o260 P) (.node (o394 P) .nil .nil) (.node (o526 P) .nil .nil))) (.node (o162 P) (.node (o228 P) (.node (o360 P) .nil .nil) (.node (o492 P) .nil .nil)) (.node (o294 P) (.node (o426 P) .nil .nil) .nil)))) (.node (o66 P) (.node (o82 P) (.node (o120 P) (.node (o186 P) (.node (o318 P) .nil .nil) (.node (o452 P) .nil .nil)) (.node (o252 P) (.node (o386 P) .nil .nil) (.node (o516 P) .nil .nil))) (.node (o154 P) (.node (o220 P) (.node (o352 P) .nil .nil) (.node (o484 P) .nil .nil)) (.node (o286 P) (.node (o418 P) .nil .nil) (.node (o550 P) .nil .nil)))) (.node (o101 P) (.node (o138 P) (.node (o202 P) (.node (o336 P) .nil .nil) (.node (o468 P) .nil .nil)) (.node (o268 P) (.node (o402 P) .nil .nil) (.node (o534 P) .nil .nil))) (.node (o170 P) (.node (o236 P) (.node (o368 P) .nil .nil) (.node (o500 P) .nil .nil)) (.node (o302 P) (.node (o434 P) .nil .nil) .nil))))))) (.node (o49 P) (.node (boot_o_4 P) (.node (boot_o_8 P) (.node (o53 P) (.node (o69 P) (.node (o107 P) (.node (o173 P) (.node (o305 P) .nil .nil) (.node (o437 P) .nil .nil)) (.node (o239 P) (.node (o371 P) .nil .nil) (.node (o503 P) .nil .nil))) (.node (o141 P) (.node (o205 P) (.node (o339 P) .nil .nil) (.node (o471 P) .nil .nil)) (.node (o271 P) (.node (o405 P) .nil .nil) (.node (o537 P) .nil .nil)))) (.node (o85 P) (.node (o125 P) (.node (o189 P) (.node (o323 P) .nil .nil) (.node (o455 P) .nil .nil)) (.node (o255 P) (.node (o389 P) .nil .nil) (.node (o519 P) .nil .nil))) (.node (o157 P) (.node (o223 P) (.node (o355 P) .nil .nil) (.node (o487 P) .nil .nil)) (.node (o289 P) (.node (o421 P) .nil .nil) (.node (o553 P) .nil .nil))))) (.node (o61 P) (.node (o77 P) (.node (o115 P) (.node (o181 P) (.node (o313 P) .nil .nil) (.node (o447 P) .nil .nil)) (.node (o247 P) (.node (o381 P) .nil .nil) (.node (o511 P) .nil .nil))) (.node (o149 P) (.node (o215 P) (.node (o347 P) .nil .nil) (.node (o479 P) .nil .nil)) (.node (o279 P) (.node (o413 P) .nil .nil) (.node (o545 P) .nil .nil)))) (.node (o96 P) (.node (o133 P) (.node (o197 P) (.node (o331 P) .nil .nil) (.node (o463 P) .nil .nil)) (.node (o263 P) (.node (o397 P) .nil .nil) (.node (o529 P) .nil .nil))) (.node (o165 P) (.node (o231 P) (.node (o363 P) .nil .nil) (.node (o495 P) .nil .nil)) (.node (o297 P) (.node (o429 P) .nil .nil) .nil))))) (.node (o525 P) (.node (o57 P) (.node (o73 P) (.node (o111 P) (.node (o177 P) (.node (o309 P) .nil .nil) (.node (o441 P) .nil .nil)) (.node (o243 P) (.node (o375 P) .nil .nil) (.node (o507 P) .nil .nil))) (.node (o145 P) (.node (o209 P) (.node (o343 P) .nil .nil) (.node (o475 P) .nil .nil)) (.node (o275 P) (.node (o409 P) .nil .nil) (.node (o541 P) .nil .nil)))) (.node (o92 P) (.node (o129 P) (.node (o193 P) (.node (o327 P) .nil .nil) (.node (o459 P) .nil .nil)) (.node (o259 P) (.node (o393 P) .nil .nil) (.node (o523 P) .nil .nil))) (.node (o161 P) (.node (o227 P) (.node (o359 P) .nil .nil) (.node (o491 P) .nil .nil)) (.node (o293 P) (.node (o425 P) .nil .nil) .nil)))) (.node (o65 P) (.node (o81 P) (.node (o119 P) (.node (o185 P) (.node (o317 P) .nil .nil) (.node (o451 P) .nil .nil)) (.node (o251 P) (.node (o385 P) .nil .nil) (.node (o515 P) .nil .nil))) (.node (o153 P) (.node (o219 P) (.node (o351 P) .nil .nil) (.node (o483 P) .nil .nil)) (.node (o283 P) (.node (o417 P) .nil .nil) (.node (o549 P) .nil .nil)))) (.node (o100 P) (.node (o137 P) (.node (o201 P) (.node (o335 P) .nil .nil) (.node (o467 P) .nil .nil)) (.node (o267 P) (.node (o401 P) .nil .nil) (.node (o533 P) .nil .nil))) (.node (o169 P) (.node (o235 P) (.node (o367 P) .nil .nil) (.node (o499 P) .nil .nil)) (.node (o301 P) (.node (o433 P) .nil .nil) .nil)))))) (.node (boot_o_6 P) (.node (boot_o_10 P) (.node (o55 P) (.node (o71 P) (.node (o109 P) (.node (o175 P) (.node (o307 P) .nil .nil) (.node (o439 P) .nil .nil)) (.node (o241 P) (.node (o373 P) .nil .nil) (.node (o505 P) .nil .nil))) (.node (o143 P) (.node (o207 P) (.node (o341 P) .nil .nil) (.node (o473 P) .nil .nil)) (.node (o273 P) (.node (o407 P) .nil .nil) (.node (o539 P) .nil .nil)))) (.node (o90 P) (.node (o127 P) (.node (o191 P) (.node (o325 P) .nil .nil) (.node (o457 P) .nil .nil)) (.node (o257 P) (.node (o391 P) .nil .nil) (.node (o521 P) .nil .nil))) (.node (o159 P) (.node (o225 P) (.node (o357 P) .nil .nil) (.node (o489 P) .nil .nil)) (.node (o291 P) (.node (o423 P) .nil .nil) (.node (o555 P) .nil .nil))))) (.node (o63 P) (.node (o79 P) (.node (o117 P) (.node (o183 P) (.node (o315 P) .nil .nil) (.node (o449 P) .nil .nil)) (.node (o249 P) (.node (o383 P) .nil .nil) (.node (o513 P) .nil .nil))) (.node (o151 P) (.node (o217 P) (.node (o349 P) .nil .nil) (.node (o481 P) .nil .nil)) (.node (o281 P) (.node (o415 P) .nil .nil) (.node (o547 P) .nil .nil)))) (.node (o98 P) (.node (o135 P) (.node (o199 P) (.node (o333 P) .nil .nil) (.node (o465 P) .nil .nil)) (.node (o265 P) (.node (o399 P) .nil .nil) (.node (o531 P) .nil .nil))) (.node (o167 P) (.node (o233 P) (.node (o365 P) .nil .nil) (.node (o497 P) .nil .nil)) (.node (o299 P) (.node (o431 P) .nil .nil) .nil))))) (.node (o46 P) (.node (o59 P) (.node (o75 P) (.node (o113 P) (.node (o179 P) (.node (o311 P) .nil .nil) (.node (o443 P) .nil .nil)) (.node (o245 P) (.node (o379 P) .nil .nil) (.node (o509 P) .nil .nil))) (.node (o147 P) (.node (o213 P) (.node (o345 P) .nil .nil) (.node (o477 P) .nil .nil)) (.node (o277 P) (.node (o411 P) .nil .nil) (.node (o543 P) .nil .nil)))) (.node (o94 P) (.node (o131 P) (.node (o195 P) (.node (o329 P) .nil .nil) (.node (o461 P) .nil .nil)) (.node (o261 P) (.node (o395 P) .nil .nil) (.node (o527 P) .nil .nil))) (.node (o163 P) (.node (o229 P) (.node (o361 P) .nil .nil) (.node (o493 P) .nil .nil)) (.node (o295 P) (.node (o427 P) .nil .nil) .nil)))) (.node (o67 P) (.node (o104 P) (.node (o121 P) (.node (o187 P) (.node (o319 P) .nil .nil) (.node (o453 P) .nil .nil)) (.node (o253 P) (.node (o387 P) .nil .nil) (.node (o517 P) .nil .nil))) (.node (o155 P) (.node (o221 P) (.node (o353 P) .nil .nil) (.node (o485 P) .nil .nil)) (.node (o287 P) (.node (o419 P) .nil .nil) (.node (o551 P) .nil .nil)))) (.node (o105 P) (.node (o139 P) (.node (o203 P) (.node (o337 P) .nil .nil) (.node (o469 P) .nil .nil)) (.node (o269 P) (.node (o403 P) .nil .nil) (.node (o535 P) .nil .nil))) (.node (o171 P) (.node (o237 P) (.node (o369 P) .nil .nil) (.node (o501 P) .nil .nil)) (.node (o303 P) (.node (o435 P) .nil .nil) .nil))))))))
noncomputable def heap46 (P : Params) : Heap := ⟨#[boot_o_0 P, boot_o_1 P, boot_o_2 P, boot_o_3 P, boot_o_4 P, boot_o_5 P, boot_o_6 P, boot_o_7 P, boot_o_8 P, boot_o_9 P, boot_o_10 P, o43 P, o44 P, o45 P, o46 P], {}⟩
noncomputable def heap557 (P : Params) : Heap := ⟨#[boot_o_0 P, boot_o_1 P, o49 P, o524 P, boot_o_4 P, boot_o_5 P, boot_o_6 P, boot_o_7 P, boot_o_8 P, boot_o_9 P, boot_o_10 P, o43 P, o525 P, o45 P, o46 P, o52 P, o53 P, o54 P, o55 P, o56 P, o57 P, o58 P, o59 P, o60 P, o61 P, o62 P, o63 P, o64 P, o65 P, o66 P, o67 P, o68 P, o69 P, o70 P, o71 P, o72 P, o73 P, o74 P, o75 P, o76 P, o77 P, o78 P, o79 P, o80 P, o81 P, o82 P, o104 P, o84 P, o85 P, o86 P, o90 P, o91 P, o92 P, o93 P, o94 P, o95 P, o96 P, o97 P, o98 P, o99 P, o100 P, o101 P, o105 P, o106 P, o107 P, o108 P, o109 P, o110 P, o111 P, o112 P, o113 P, o114 P, o115 P, o116 P, o117 P, o118 P, o119 P, o120 P, o121 P, o124 P, o125 P, o126 P, o127 P, o128 P, o129 P, o130 P, o131 P, o132 P, o133 P, o134 P, o135 P, o136 P, o137 P, o138 P, o139 P, o140 P, o141 P, o142 P, o143 P, o144 P, o145 P, o146 P, o147 P, o148 P, o149 P, o150 P, o151 P, o152 P, o153 P, o154 P, o155 P, o156 P, o157 P, o158 P, o159 P, o160 P, o161 P, o162 P, o163 P, o164 P, o165 P, o166 P, o167 P, o168 P, o169 P, o170 P, o171 P, o172 P, o173 P, o174 P, o175 P, o176 P, o177 P, o178 P, o179 P, o180 P, o181 P, o182 P, o183 P, o184 P, o185 P, o186 P, o187 P, o188 P, o189 P, o190 P, o191 P, o192 P, o193 P, o194 P, o195 P, o196 P, o197 P, o198 P, o199 P, o200 P, o201 P, o202 P, o203 P, o204 P, o205 P, o206 P, o207 P, o208 P, o209 P, o212 P, o213 P, o214 P, o215 P, o216 P, o217 P, o218 P, o219 P, o220 P, o221 P, o222 P, o223 P, o224 P, o225 P, o226 P, o227 P, o228 P, o229 P, o230 P, o231 P, o232 P, o233 P, o234 P, o235 P, o236 P, o237 P, o238 P, o239 P, o240 P, o241 P, o242 P, o243 P, o244 P, o245 P, o246 P, o247 P, o248 P, o249 P, o250 P, o251 P, o252 P, o253 P, o254 P, o255 P, o256 P, o257 P, o258 P, o259 P, o260 P, o261 P, o262 P, o263 P, o264 P, o265 P, o266 P, o267 P, o268 P, o269 P, o270 P, o271 P, o272 P, o273 P, o274 P, o275 P, o276 P, o277 P, o278 P, o279 P, o280 P, o281 P, o282 P, o283 P, o286 P, o287 P, o288 P, o289 P, o290 P, o291 P, o292 P, o293 P, o294 P, o295 P, o296 P, o297 P, o298 P, o299 P, o300 P, o301 P, o302 P, o303 P, o304 P, o305 P, o306 P, o307 P, o308 P, o309 P, o310 P, o311 P, o312 P, o313 P, o314 P, o315 P, o316 P, o317 P, o318 P, o319 P, o320 P, o323 P, o324 P, o325 P, o326 P, o327 P, o328 P, o329 P, o330 P, o331 P, o332 P, o333 P, o334 P, o335 P, o336 P, o337 P, o338 P, o339 P, o340 P, o341 P, o342 P, o343 P, o344 P, o345 P, o346 P, o347 P, o348 P, o349 P, o350 P, o351 P, o352 P, o353 P, o354 P, o355 P, o356 P, o357 P, o358 P, o359 P, o360 P, o361 P, o362 P, o363 P, o364 P, o365 P, o366 P, o367 P, o368 P, o369 P, o370 P, o371 P, o372 P, o373 P, o374 P, o375 P, o376 P, o379 P, o380 P, o381 P, o382 P, o383 P, o384 P, o385 P, o386 P, o387 P, o388 P, o389 P, o390 P, o391 P, o392 P, o393 P, o394 P, o395 P, o396 P, o397 P, o398 P, o399 P, o400 P, o401 P, o402 P, o403 P, o404 P, o405 P, o406 P, o407 P, o408 P, o409 P, o410 P, o411 P, o412 P, o413 P, o414 P, o415 P, o416 P, o417 P, o418 P, o419 P, o420 P, o421 P, o422 P, o423 P, o424 P, o425 P, o426 P, o427 P, o428 P, o429 P, o430 P, o431 P, o432 P, o433 P, o434 P, o435 P, o436 P, o437 P, o438 P, o439 P, o440 P, o441 P, o442 P, o443 P, o446 P, o447 P, o448 P, o449 P, o450 P, o451 P, o452 P, o453 P, o454 P, o455 P, o456 P, o457 P, o458 P, o459 P, o460 P, o461 P, o462 P, o463 P, o464 P, o465 P, o466 P, o467 P, o468 P, o469 P, o470 P, o471 P, o472 P, o473 P, o474 P, o475 P, o476 P, o477 P, o478 P, o479 P, o480 P, o481 P, o482 P, o483 P, o484 P, o485 P, o486 P, o487 P, o488 P, o489 P, o490 P, o491 P, o492 P, o493 P, o494 P, o495 P, o496 P, o497 P, o498 P, o499 P, o500 P, o501 P, o502 P, o503 P, o504 P, o505 P, o506 P, o507 P, o508 P, o509 P, o510 P, o511 P, o512 P, o513 P, o514 P, o515 P, o516 P, o517 P, o518 P, o519 P, o520 P, o521 P, o522 P, o523 P, o526 P, o527 P, o528 P, o529 P, o530 P, o531 P, o532 P, o533 P, o534 P, o535 P, o536 P, o537 P, o538 P, o539 P, o540 P, o541 P, o542 P, o543 P, o544 P, o545 P, o546 P, o547 P, o548 P, o549 P, o550 P, o551 P, o552 P, o553 P, o554 P, o555 P, o556 P], {}⟩
noncomputable abbrev rq : OpenRow := OpenLaw.row PySem.Challenge.rw_nz0318_01
noncomputable abbrev prq : Program := (OpenRow.toRowW rq).1
noncomputable def envq : Env := { scope := prq.main.scope, locals := mainNs, globals := mainNs, cells := [], code := .ref 13, frame := some 14 }
noncomputable abbrev cdq : Code := .body (behindTheImports prq) envq
noncomputable abbrev bq : List Frame := [topFrame ⟨0, 0, 0, 0⟩]
noncomputable def viewq : Program := { PySem.Challenge.pw_nz0318_01 with main := { PySem.Challenge.pw_nz0318_01.main with body := [stq 0, stq 2, stq 3, stq 4, stq 6, stq 8, stq 9, stq 10, stq 11, stq 12, stq 14, stq 15, stq 16, stq 17, stq 18, stq 19, stq 20, stq 21, stq 22, stq 23, stq 24, stq 25, stq 26, stq 27, stq 28, stq 29, stq 30, stq 31, stq 33, stq 34, stq 35, stq 36, stq 37, stq 39, stq 40, stq 41, stq 42, stq 43, stq 44, stq 46, stq 47, stq 48, stq 49, stq 50, stq 51, stq 52, stq 53, stq 54, stq 55, stq 56, stq 57, stq 58, stq 59, stq 60, stq 61, stq 62, stq 63, stq 64, stq 65, stq 66, stq 67, stq 68, stq 70, stq 71, stq 73, stq 74, stq 75, stq 76] } }
noncomputable abbrev looseq : List Str := [ofString "PostError", ofString "CHARSETS", ofString "UNKNOWN_SIGN"]
noncomputable def stsq0 : List Stmt := ((behindTheImports prq).drop 0).take 3
noncomputable def stsq1 : List Stmt := ((behindTheImports prq).drop 3).take 1
noncomputable def stsq2 : List Stmt := ((behindTheImports prq).drop 4).take 5
noncomputable def stsq3 : List Stmt := ((behindTheImports prq).drop 9).take 1
noncomputable def stsq4 : List Stmt := ((behindTheImports prq).drop 10).take 17
noncomputable def stsq5 : List Stmt := ((behindTheImports prq).drop 27).take 6
noncomputable def stsq6 : List Stmt := ((behindTheImports prq).drop 33).take 4
noncomputable def stsq7 : List Stmt := ((behindTheImports prq).drop 37).take 21
noncomputable def stsq8 : List Stmt := ((behindTheImports prq).drop 58).take 13
noncomputable def stsq9 : List Stmt := ((behindTheImports prq).drop 71).take 6
theorem sgq0 (w : World) : (fun os => segRunT treeTable prq w 11 (some (.ref 6)) 1 307 ⟨tree47 w.params, 15, {}, ⟨[]⟩, ⟨0, 0, 0, 0⟩, 187, os⟩ (piecesOf stsq0 envq cdq ⟨0, 0, 0, 0⟩ bq)) = fun os => some (.next, ⟨tree86 w.params, 50, {}, ⟨[]⟩, ⟨0, 0, 0, 0⟩, 236, os⟩, cdq, ⟨5, 0, 13, 35⟩) := by
  rewrite [PySem.W.Fast.te10110043849684766642, PySem.W.Fast.te14364793385576792824]
  kernel_rfl
theorem sgq1 (w : World) : (fun os => segRunT treeTable prq w 11 (some (.ref 6)) 1 214 ⟨tree86 w.params, 50, {}, ⟨[]⟩, ⟨0, 0, 0, 0⟩, 236, os⟩ (piecesOf stsq1 envq cdq ⟨5, 0, 13, 35⟩ bq)) = fun os => some (.next, ⟨tree101 w.params, 62, {}, ⟨[]⟩, ⟨0, 0, 0, 0⟩, 252, os⟩, cdq, ⟨14, 0, 15, 8⟩) := by
  rewrite [PySem.W.Fast.te10110043849684766642, PySem.W.Fast.te14364793385576792824]
  kernel_rfl
theorem sgq2 (w : World) : (fun os => segRunT treeTable prq w 11 (some (.ref 6)) 1 267 ⟨tree101 w.params, 62, {}, ⟨[]⟩, ⟨0, 0, 0, 0⟩, 252, os⟩ (piecesOf stsq2 envq cdq ⟨14, 0, 15, 8⟩ bq)) = fun os => some (.next, ⟨tree121 w.params, 79, {}, ⟨[]⟩, ⟨0, 0, 0, 0⟩, 280, os⟩, cdq, ⟨25, 0, 25, 12⟩) := by
  rewrite [PySem.W.Fast.te10110043849684766642, PySem.W.Fast.te14364793385576792824]
  kernel_rfl
theorem sgq3 (w : World) : (fun os => segRunT treeTable prq w 11 (some (.ref 6)) 1 526 ⟨tree121 w.params, 79, {}, ⟨[]⟩, ⟨0, 0, 0, 0⟩, 280, os⟩ (piecesOf stsq3 envq cdq ⟨25, 0, 25, 12⟩ bq)) = fun os => some (.next, ⟨tree209 w.params, 165, {}, ⟨[]⟩, ⟨0, 0, 0, 0⟩, 390, os⟩, cdq, ⟨26, 0, 69, 54⟩) := by
  rewrite [PySem.W.Fast.te10110043849684766642, PySem.W.Fast.te14364793385576792824]
  kernel_rfl
theorem sgq4 (w : World) : (fun os => segRunT treeTable prq w 11 (some (.ref 6)) 1 395 ⟨tree209 w.params, 165, {}, ⟨[]⟩, ⟨0, 0, 0, 0⟩, 390, os⟩ (piecesOf stsq4 envq cdq ⟨26, 0, 69, 54⟩ bq)) = fun os => some (.next, ⟨tree283 w.params, 237, {}, ⟨[]⟩, ⟨0, 0, 0, 0⟩, 490, os⟩, cdq, ⟨132, 0, 137, 26⟩) := by
  rewrite [PySem.W.Fast.te10110043849684766642, PySem.W.Fast.te14364793385576792824]
  kernel_rfl
theorem sgq5 (w : World) : (fun os => segRunT treeTable prq w 11 (some (.ref 6)) 1 170 ⟨tree283 w.params, 237, {}, ⟨[]⟩, ⟨0, 0, 0, 0⟩, 490, os⟩ (piecesOf stsq5 envq cdq ⟨132, 0, 137, 26⟩ bq)) = fun os => some (.next, ⟨tree320 w.params, 272, {}, ⟨[]⟩, ⟨0, 0, 0, 0⟩, 542, os⟩, cdq, ⟨179, 0, 179, 8⟩) := by
  rewrite [PySem.W.Fast.te10110043849684766642, PySem.W.Fast.te14364793385576792824]
  kernel_rfl
theorem sgq6 (w : World) : (fun os => segRunT treeTable prq w 11 (some (.ref 6)) 1 378 ⟨tree320 w.params, 272, {}, ⟨[]⟩, ⟨0, 0, 0, 0⟩, 542, os⟩ (piecesOf stsq6 envq cdq ⟨179, 0, 179, 8⟩ bq)) = fun os => some (.next, ⟨tree376 w.params, 326, {}, ⟨[]⟩, ⟨0, 0, 0, 0⟩, 614, os⟩, cdq, ⟨207, 0, 208, 47⟩) := by
  rewrite [PySem.W.Fast.te10110043849684766642, PySem.W.Fast.te14364793385576792824]
  kernel_rfl
theorem sgq7 (w : World) : (fun os => segRunT treeTable prq w 11 (some (.ref 6)) 1 399 ⟨tree376 w.params, 326, {}, ⟨[]⟩, ⟨0, 0, 0, 0⟩, 614, os⟩ (piecesOf stsq7 envq cdq ⟨207, 0, 208, 47⟩ bq)) = fun os => some (.next, ⟨tree443 w.params, 391, {}, ⟨[]⟩, ⟨0, 0, 0, 0⟩, 726, os⟩, cdq, ⟨285, 0, 286, 44⟩) := by
  rewrite [PySem.W.Fast.te10110043849684766642, PySem.W.Fast.te14364793385576792824]
  kernel_rfl
theorem sgq8 (w : World) : (fun os => segRunT treeTable prq w 11 (some (.ref 6)) 1 378 ⟨tree443 w.params, 391, {}, ⟨[]⟩, ⟨0, 0, 0, 0⟩, 726, os⟩ (piecesOf stsq8 envq cdq ⟨285, 0, 286, 44⟩ bq)) = fun os => some (.next, ⟨tree523 w.params, 469, {}, ⟨[]⟩, ⟨0, 0, 0, 0⟩, 838, os⟩, cdq, ⟨386, 0, 391, 41⟩) := by
  rewrite [PySem.W.Fast.te10110043849684766642, PySem.W.Fast.te14364793385576792824]
  kernel_rfl
theorem sgq9 (w : World) : (fun os => segRunT treeTable prq w 11 (some (.ref 6)) 1 184 ⟨tree523 w.params, 469, {}, ⟨[]⟩, ⟨0, 0, 0, 0⟩, 838, os⟩ (piecesOf stsq9 envq cdq ⟨386, 0, 391, 41⟩ bq)) = fun os => some (.next, ⟨tree556 w.params, 500, {}, ⟨[]⟩, ⟨0, 0, 0, 0⟩, 914, os⟩, cdq, ⟨408, 0, 426, 85⟩) := by
  rewrite [PySem.W.Fast.te10110043849684766642, PySem.W.Fast.te14364793385576792824]
  kernel_rfl
theorem preq (w : World) : (fun os => topGo treeTable prq w 11 (some (.ref 6)) 12 ⟨boot_heap w.params, ⟨[]⟩, boot_drawn, boot_toks, os⟩ (topStub prq)) = fun os => some (⟨heap46 w.params, ⟨[]⟩, ⟨0, 0, 0, 0⟩, 187, os⟩, ⟨denote treeTable cdq, cdq, ⟨0, 0, 0, 0⟩, bq⟩) := by kernel_rfl
theorem blkq (w : World) : (fun os => segRun treeTable prq w 11 (some (.ref 6)) 1 1 ⟨heap46 w.params, ⟨[]⟩, ⟨0, 0, 0, 0⟩, 187, os⟩ (blockOf (behindTheImports prq) envq cdq ⟨0, 0, 0, 0⟩ bq)) = fun os => some (.next, SharedT.abs ⟨tree47 w.params, 15, {}, ⟨[]⟩, ⟨0, 0, 0, 0⟩, 187, os⟩, cdq, ⟨0, 0, 0, 0⟩) := by kernel_rfl
theorem finq (w : World) : (fun os => topRun treeTable prq w 11 (some (.ref 6)) 2 (SharedT.abs ⟨tree556 w.params, 500, {}, ⟨[]⟩, ⟨0, 0, 0, 0⟩, 914, os⟩) ⟨doneF .next, cdq, ⟨408, 0, 426, 85⟩, bq⟩) = fun os => some ⟨heap557 w.params, ⟨[]⟩, ⟨0, 0, 0, 0⟩, 914, os⟩ := by kernel_rfl
noncomputable abbrev topS (w : World) (os : OsState) : Shared := ⟨heap557 w.params, ⟨[]⟩, ⟨0, 0, 0, 0⟩, 914, os⟩
theorem runq (w : World) (os : OsState) : topRun treeTable prq w 11 (some (.ref 6)) (Nat.add 12 (Nat.add 1 (Nat.add 307 (Nat.add 214 (Nat.add 267 (Nat.add 526 (Nat.add 395 (Nat.add 170 (Nat.add 378 (Nat.add 399 (Nat.add 378 (Nat.add 184 2)))))))))))) ⟨boot_heap w.params, ⟨[]⟩, boot_drawn, boot_toks, os⟩ (topStub prq) = some (topS w os) :=
  go_top (congrFun (preq w) os) (piece_block (congrFun (blkq w) os) (b := stsq0 ++ (stsq1 ++ (stsq2 ++ (stsq3 ++ (stsq4 ++ (stsq5 ++ (stsq6 ++ (stsq7 ++ (stsq8 ++ (stsq9 ++ [])))))))))) (piece_app (l := stsq0) (rest := stsq1 ++ (stsq2 ++ (stsq3 ++ (stsq4 ++ (stsq5 ++ (stsq6 ++ (stsq7 ++ (stsq8 ++ (stsq9 ++ []))))))))) (segRun_of (congrFun (sgq0 w) os)) (piece_app (l := stsq1) (rest := stsq2 ++ (stsq3 ++ (stsq4 ++ (stsq5 ++ (stsq6 ++ (stsq7 ++ (stsq8 ++ (stsq9 ++ [])))))))) (segRun_of (congrFun (sgq1 w) os)) (piece_app (l := stsq2) (rest := stsq3 ++ (stsq4 ++ (stsq5 ++ (stsq6 ++ (stsq7 ++ (stsq8 ++ (stsq9 ++ []))))))) (segRun_of (congrFun (sgq2 w) os)) (piece_app (l := stsq3) (rest := stsq4 ++ (stsq5 ++ (stsq6 ++ (stsq7 ++ (stsq8 ++ (stsq9 ++ [])))))) (segRun_of (congrFun (sgq3 w) os)) (piece_app (l := stsq4) (rest := stsq5 ++ (stsq6 ++ (stsq7 ++ (stsq8 ++ (stsq9 ++ []))))) (segRun_of (congrFun (sgq4 w) os)) (piece_app (l := stsq5) (rest := stsq6 ++ (stsq7 ++ (stsq8 ++ (stsq9 ++ [])))) (segRun_of (congrFun (sgq5 w) os)) (piece_app (l := stsq6) (rest := stsq7 ++ (stsq8 ++ (stsq9 ++ []))) (segRun_of (congrFun (sgq6 w) os)) (piece_app (l := stsq7) (rest := stsq8 ++ (stsq9 ++ [])) (segRun_of (congrFun (sgq7 w) os)) (piece_app (l := stsq8) (rest := stsq9 ++ []) (segRun_of (congrFun (sgq8 w) os)) (piece_app (l := stsq9) (rest := []) (segRun_of (congrFun (sgq9 w) os)) (congrFun (finq w) os))))))))))))
noncomputable abbrev valsq : List (Str × WData) := [(ofString "CHARSETS", .tuple [.str ⟨#[117, 115, 45, 97, 115, 99, 105, 105]⟩, .str ⟨#[105, 115, 111, 45, 56, 56, 53, 57, 45, 49]⟩, .str ⟨#[117, 116, 102, 45, 56]⟩]), (ofString "UNKNOWN_SIGN", .str ⟨#[65533]⟩)]
theorem ksq (P : Params) : ([2, 3, 15, 17, 18, 20, 21, 22, 29, 30, 32, 33, 35, 36, 37, 39, 40, 42, 43, 44, 45, 46, 47, 50, 57, 58, 59, 62, 69, 70, 71, 74, 77, 78, 86, 87, 89, 90, 92, 93, 94, 96, 97, 99, 100, 101, 102, 104, 105, 107, 108, 109, 111, 112, 114, 115, 116, 118, 119, 121, 122, 123, 125, 126, 128, 129, 130, 132, 133, 135, 136, 137, 139, 140, 142, 143, 144, 146, 147, 149, 150, 151, 153, 154, 156, 157, 158, 159, 160, 161, 162, 165, 167, 168, 170, 171, 172, 175, 176, 177, 180, 181, 182, 183, 185, 186, 188, 189, 190, 192, 193, 195, 196, 197, 199, 200, 202, 203, 204, 207, 208, 209, 211, 212, 214, 215, 216, 218, 219, 221, 222, 223, 225, 226, 228, 229, 230, 232, 233, 235, 236, 237, 239, 240, 242, 243, 244, 246, 247, 249, 250, 251, 253, 254, 256, 257, 258, 260, 261, 263, 264, 265, 267, 268, 270, 271, 279, 281, 282, 284, 285, 286, 289, 290, 291, 293, 294, 296, 297, 298, 299, 300, 301, 302, 305, 307, 308, 310, 311, 312, 314, 315, 317, 318, 319, 321, 322, 324, 325, 326, 328, 329, 331, 332, 333, 334, 336, 337, 339, 340, 341, 343, 344, 346, 347, 348, 350, 351, 353, 354, 355, 357, 358, 360, 361, 362, 363, 365, 366, 368, 369, 370, 372, 373, 375, 376, 377, 379, 380, 382, 383, 384, 386, 387, 389, 390, 391, 393, 394, 396, 397, 398, 401, 402, 403, 405, 406, 408, 409, 410, 412, 413, 415, 416, 417, 419, 420, 422, 423, 424, 427, 428, 429, 431, 432, 434, 435, 436, 439, 440, 441, 443, 444, 446, 447, 448, 450, 451, 453, 454, 455, 457, 458, 460, 461, 462, 464, 465, 467, 468, 469, 471, 472, 474, 475, 476, 477, 478, 479, 480, 481, 482, 483, 484, 485, 486, 488, 489, 491, 492, 493, 495, 496, 498, 499] : List Addr) = (kf P).map (·.1) := by kernel_rfl
noncomputable abbrev hookq : Hook := kHook kf [2, 3, 15, 17, 18, 20, 21, 22, 29, 30, 32, 33, 35, 36, 37, 39, 40, 42, 43, 44, 45, 46, 47, 50, 57, 58, 59, 62, 69, 70, 71, 74, 77, 78, 86, 87, 89, 90, 92, 93, 94, 96, 97, 99, 100, 101, 102, 104, 105, 107, 108, 109, 111, 112, 114, 115, 116, 118, 119, 121, 122, 123, 125, 126, 128, 129, 130, 132, 133, 135, 136, 137, 139, 140, 142, 143, 144, 146, 147, 149, 150, 151, 153, 154, 156, 157, 158, 159, 160, 161, 162, 165, 167, 168, 170, 171, 172, 175, 176, 177, 180, 181, 182, 183, 185, 186, 188, 189, 190, 192, 193, 195, 196, 197, 199, 200, 202, 203, 204, 207, 208, 209, 211, 212, 214, 215, 216, 218, 219, 221, 222, 223, 225, 226, 228, 229, 230, 232, 233, 235, 236, 237, 239, 240, 242, 243, 244, 246, 247, 249, 250, 251, 253, 254, 256, 257, 258, 260, 261, 263, 264, 265, 267, 268, 270, 271, 279, 281, 282, 284, 285, 286, 289, 290, 291, 293, 294, 296, 297, 298, 299, 300, 301, 302, 305, 307, 308, 310, 311, 312, 314, 315, 317, 318, 319, 321, 322, 324, 325, 326, 328, 329, 331, 332, 333, 334, 336, 337, 339, 340, 341, 343, 344, 346, 347, 348, 350, 351, 353, 354, 355, 357, 358, 360, 361, 362, 363, 365, 366, 368, 369, 370, 372, 373, 375, 376, 377, 379, 380, 382, 383, 384, 386, 387, 389, 390, 391, 393, 394, 396, 397, 398, 401, 402, 403, 405, 406, 408, 409, 410, 412, 413, 415, 416, 417, 419, 420, 422, 423, 424, 427, 428, 429, 431, 432, 434, 435, 436, 439, 440, 441, 443, 444, 446, 447, 448, 450, 451, 453, 454, 455, 457, 458, 460, 461, 462, 464, 465, 467, 468, 469, 471, 472, 474, 475, 476, 477, 478, 479, 480, 481, 482, 483, 484, 485, 486, 488, 489, 491, 492, 493, 495, 496, 498, 499] ksq
theorem opq : opening prq = plainProg prq.main.scope.names := by kernel_rfl
theorem feq (s : Shared) : fenceModules? prq s = some s := by kernel_rfl
theorem szq (w : World) : ((boot_heap w.params).isNs mainGlobals && (#[] : Array GenState).size == 0, (boot_heap w.params).objs.size, (boot_heap w.params).nsMap mainGlobals "__annotations__") = (true, 11, some (.ref 6)) := by kernel_rfl
theorem lkq1 (w : World) : (fun os => (staticsOk (importedModules prq.main.body) (boot_heap w.params) (heap557 w.params) && namesBound prq (heap557 w.params) && gensDone (topS w os) && laidKept (boot_heap w.params) (heap557 w.params))) = fun _ => true := by kernel_rfl
theorem lkq2 (w : World) : (fun os => seen ((recsOf viewq).map (·.name)) (ownsOf viewq) [] { topS w os with gens := #[] }) = fun _ => expectedOf viewq := by kernel_rfl
theorem lkq3 (w : World) : (fun os => (topS w os).heap.bltView) = fun _ => bltViewBooted := by kernel_rfl
theorem lkq4 (w : World) : (fun os => ((topS w os).heap.keysOk (looseW viewq looseq) ((recsOf viewq).map (·.name)) ((litsOf viewq).map (·.1)) ((clssOf viewq (looseW viewq looseq)).map (·.name)) && (topS w os).heap.accountedOkI (importedModules prq.main.body) && (topS w os).heap.isNs mainGlobals && (topS w os).heap.isNs builtinsNs && tablesOk viewq (topS w os).heap && (xlAt viewq valsq (topS w os) && recOk rq.toRowW.records (topS w os)) && (if true then (topS w os).gens.size == 0 else !leftWithCleanup (topS w os).gens))) = fun _ => true := by kernel_rfl
theorem lkq5 (w : World) : (fun os => tabsOk viewq (topS w os)) = fun _ => true := by kernel_rfl
theorem lkq6 (w : World) : (fun os => pinSeenD viewq (drecsOf viewq) (topS w os)) = fun _ => pinGoodD (drecsOf viewq) := by kernel_rfl
theorem lkq7 (w : World) : (fun os => plainSeenE viewq (looseW viewq looseq) (topS w os)) = fun _ => plainGoodE viewq (looseW viewq looseq) := by kernel_rfl
theorem lkq8 (w : World) : (fun os => plainSeenD viewq looseq (topS w os)) = fun _ => plainGoodD viewq looseq := by kernel_rfl
theorem lkq9 (w : World) : (fun os => wideSeen viewq (topS w os)) = fun _ => wideGood viewq := by kernel_rfl
theorem lkq10 (w : World) : (fun os => clsSeenW viewq looseq (topS w os)) = fun _ => clsGoodW viewq looseq := by kernel_rfl
theorem lkq11 (w : World) : (fun os => hookq.obs (topS w os)) = fun _ => hookq.val w := by kernel_rfl
theorem pairq {α β : Type} {a a' : OsState → α} {b b' : OsState → β} (x : a = a') (y : b = b') : (fun os => (a os, b os)) = fun os => (a' os, b' os) := by rw [x, y]
theorem lookq (w : World) : (fun os => ((staticsOk (importedModules prq.main.body) (boot_heap w.params) (heap557 w.params) && namesBound prq (heap557 w.params) && gensDone (topS w os) && laidKept (boot_heap w.params) (heap557 w.params)),
    openSeen viewq looseq (importedModules prq.main.body) (fun s => xlAt viewq valsq s && recOk rq.toRowW.records s) true (topS w os), hookq.obs (topS w os))) = fun _ => (true, openGood viewq looseq, hookq.val w) :=
  pairq (lkq1 w) (pairq (pairq (lkq2 w) (pairq (lkq3 w) (pairq (lkq4 w) (pairq (lkq5 w) (pairq (lkq6 w) (pairq (lkq7 w) (pairq (lkq8 w) (pairq (lkq9 w) (lkq10 w))))))))) (lkq11 w))
theorem leftq : LeftO prq viewq looseq (fun s => xlAt viewq valsq s && recOk rq.toRowW.records s) hookq.obs hookq.val 6542 :=
  LeftO.of_pieces (H₀ := boot_heap) (H₁ := heap557) (gs₀ := ⟨[]⟩) (gs₁ := ⟨[]⟩) (d₀ := boot_drawn) (d₁ := ⟨0, 0, 0, 0⟩) (k₀ := boot_toks) (k₁ := 914) (m₀ := 11) (ann := some (.ref 6)) (boot_open opq rfl feq) szq runq rfl lookq
theorem saidq : PySem.Challenge.rw_nz0318_01.wellSaid = true := by kernel_rfl
end HEAD
end Mine
open PySem PySem.W PyProof.Rows PySem.Calls
set_option Elab.async false
set_option linter.all false
set_option genInjectivity false
set_option genSizeOf false
set_option genSizeOfSpec false
namespace Mine
local macro_rules | `(tactic| omega) => `(tactic| k_extra "omega")
theorem wd_J_9 : True := by
  k_with "omega" => first | (with_reducible first | assumption | exact Int.le_of_lt (by assumption) | exact Int.lt_of_not_ge (by assumption) | exact Int.le_of_not_gt (by assumption) | exact Int.le_trans (by assumption) (by assumption) | exact Int.le_trans (by assumption) (Int.le_of_lt (by assumption)) | exact Int.le_trans (Int.le_of_lt (by assumption)) (by assumption) | exact Int.lt_of_le_of_lt (by assumption) (by assumption) | exact Int.lt_of_lt_of_le (by assumption) (by assumption) | exact Nat.le_of_lt (by assumption) | exact Nat.lt_of_not_ge (by assumption) | exact Nat.le_of_not_gt (by assumption) | exact Nat.le_trans (by assumption) (by assumption) | exact Nat.le_trans (by assumption) (Nat.le_of_lt (by assumption)) | exact Nat.le_trans (Nat.le_of_lt (by assumption)) (by assumption) | exact Nat.lt_of_le_of_lt (by assumption) (by assumption) | exact Nat.lt_of_lt_of_le (by assumption) (by assumption) | exact Int.le_of_lt (Int.lt_of_not_ge (by assumption)) | exact Int.not_lt_of_ge (by assumption) | exact Int.not_le_of_gt (by assumption) | exact Int.lt_succ _ | exact Int.le_refl _ | exact Nat.le_refl _) | ((with_reducible refine mu_lt ?_ ?_ ?_) <;> omega) | lia | omega (splitDisjunctions := true)
  k_with "omegb" => first | (with_reducible first | assumption | exact Int.le_of_lt (by assumption) | exact Int.lt_of_not_ge (by assumption) | exact Int.le_of_not_gt (by assumption) | exact Int.le_trans (by assumption) (by assumption) | exact Int.le_trans (by assumption) (Int.le_of_lt (by assumption)) | exact Int.le_trans (Int.le_of_lt (by assumption)) (by assumption) | exact Int.lt_of_le_of_lt (by assumption) (by assumption) | exact Int.lt_of_lt_of_le (by assumption) (by assumption) | exact Nat.le_of_lt (by assumption) | exact Nat.lt_of_not_ge (by assumption) | exact Nat.le_of_not_gt (by assumption) | exact Nat.le_trans (by assumption) (by assumption) | exact Nat.le_trans (by assumption) (Nat.le_of_lt (by assumption)) | exact Nat.le_trans (Nat.le_of_lt (by assumption)) (by assumption) | exact Nat.lt_of_le_of_lt (by assumption) (by assumption) | exact Nat.lt_of_lt_of_le (by assumption) (by assumption) | exact Int.le_of_lt (Int.lt_of_not_ge (by assumption)) | exact Int.not_lt_of_ge (by assumption) | exact Int.not_le_of_gt (by assumption) | exact Int.lt_succ _ | exact Int.le_refl _ | exact Nat.le_refl _) | ((with_reducible refine mu_lt ?_ ?_ ?_) <;> omega) | omega (splitDisjunctions := true)
  k_with "ktr_unf" => first | exact List.forall_mem_nil _ | (refine' List.forall_mem_cons.mpr ⟨?a, ?b⟩; (case a => k_mem); (case b => ktr_unf))
  k_with "tb_rel" => first | exact Wo.all off0 | exact Wo.all (off2 (by assumption) (by assumption)) | exact Wo.nil | (refine' Wo.skip ?a ?b; (case a => k_mem); (case b => tb_rel)) | (refine' Wo.keep ?a ?b; (case a => ktr_rel); (case b => tb_rel))
  k_with "tb_start" => ((try dsimp only [List.map_cons, List.map_nil]); tb_rel)
  trivial
section JFW
open PySem PySem.W PyProof.Rows PySem.Calls
theorem mu_lt {n : Nat} {x y : Int} (h0 : 0 ≤ x) (hx : x ≤ n) (h : x < y) : n + 1 - y.toNat < n + 1 - x.toNat :=
  Nat.sub_lt_sub_left (Nat.lt_succ_of_le (Int.toNat_le.mpr hx)) ((Int.toNat_lt_toNat (Int.lt_of_le_of_lt h0 h)).mpr h)
theorem tn_add {a : Int} (k : Nat) (h0 : 0 ≤ a) : (a + (k : Int)).toNat = a.toNat + k := by
  obtain ⟨n, rfl⟩ := Int.eq_ofNat_of_zero_le h0; rfl
theorem tn_sub {a : Int} (k : Nat) (h0 : 0 ≤ a) : (a + (k : Int)).toNat - a.toNat = k := by rw [tn_add k h0, Nat.add_sub_cancel_left]
theorem tn_back {a x : Int} (h0 : 0 ≤ a) (h1 : a ≤ x) : a + ((x.toNat - a.toNat : Nat) : Int) = x := by
  obtain ⟨m, rfl⟩ := Int.eq_ofNat_of_zero_le h0
  obtain ⟨n, rfl⟩ := Int.eq_ofNat_of_zero_le (Int.le_trans h0 h1)
  exact congrArg Int.ofNat (Nat.add_sub_of_le (Int.ofNat_le.mp h1))

noncomputable def Own (g h : Heap) (own : List (Addr × Obj)) : Prop := ∀ q ∈ own, h.get? q.1 = some q.2 ∧ g.get? q.1 = none

noncomputable abbrev Ar (dp un : Nat) (gd : Option (List Code)) (envs : List Env) : Around := { handled := none, depth := dp, frames := some envs, guards := gd, units := un }

theorem ar_depth (dp un : Nat) (gd : Option (List Code)) (envs : List Env) : (Ar dp un gd envs).depth = dp := rfl
theorem ar_units (dp un : Nat) (gd : Option (List Code)) (envs : List Env) : (Ar dp un gd envs).units = un := rfl
noncomputable def Spec (prog : Program) (w : World) (K : Frag) (p : Program) (loose : List Str) (mean : ExcName → Option Value) (mg mb : Str → Option Value) (f : Addr) (args : Args) (D : Nat) (own : List (Addr × Obj))
    (Post : Nat → Value → List (Addr × Obj) → Prop) (Exc : Prop) : Prop :=
  ∀ (dp un : Nat) (gd : Option (List Code)) (envs : List Env) (base g : Heap) (s : Shared) (R : Result → Shared → Prop),
    Below (Ar dp un gd envs) base envs g → g.StaysIn s.heap → Own g s.heap own → K.In g → Top p loose mean mg mb g → g.objs.size ≤ s.heap.objs.size →
    dp + D < recursionLimit → un + 10 * D < cLine →
    (∀ v own' h' tk', Post s.heap.objs.size v own' → g.StaysIn h' → Own g h' own' → R (.ok (.ret v)) { s with heap := h', toks := tk' }) →
    (Exc → ∀ e t vs h' tk', RaisedK base envs e (.ref 59) t vs [] h' → g.UpToSlots h' → R (.error (.ref e)) { s with heap := h', toks := tk' }) →
    codeAny (model prog w) (Ar dp un gd envs) (.call (.ref f) args) R s

noncomputable def mapR : List (Str × Value) → Str → Option Value
  | [] => fun _ => none
  | x :: r => fun y => if y = x.1 then some x.2 else mapR r y
theorem mapR_eq : ∀ (l : List (Str × Value)), mapR l = fun y => l.lookup y
  | [] => rfl
  | (k, v) :: r => by
    funext y
    show (if y = k then some v else mapR r y) = _
    rw [mapR_eq r, List.lookup_cons]
    by_cases e : y = k
    · subst e; simp
    · have : (y == k) = false := beq_false_of_ne e
      simp [e, this]

section
variable {prog : Program} {w : World} {K : Frag} {p : Program} {loose : List Str} {mean : ExcName → Option Value} {mg mb : Str → Option Value} {f : Addr} {args : Args} {D : Nat} {own : List (Addr × Obj)}
  {Post : Nat → Value → List (Addr × Obj) → Prop} {Exc : Prop}

theorem spec_of {name qual : Str} {params : Arguments} {body : List Stmt} {scope : Scope} {dV kV doc pm cdv ct oc : Value} {an od : Option Addr} {osl : Array (Option Value)} {rb : List (Str × Value)}
    (ho : K.lookup f = some ⟨oc, od, .func (fnOf name qual params body scope dV kV doc pm an cdv ct), osl⟩) (hcd : codeIn K cdv qual = true)
    (hbind : ∀ s : Shared, K.In s.heap → BindsTo s (fnOf name qual params body scope dV kV doc pm an cdv ct) args rb.reverse)
    (hloc : ∀ y ∈ rb.reverse, scope.names.lookup y.1 = some .local)
    (hco : scope.isCoroutine = false) (hgen : scope.isGenerator = false) (hk : scope.kind = .function) (hcell : ∀ x ∈ scope.names, x.2 ≠ .cell)
    (hD : 1 ≤ D)
    (h : ∀ (dp un : Nat) (gd : Option (List Code)) (envs : List Env) (base g : Heap) (L' : Addr) (h₁ : Heap) (gens : Array GenState) (drawn : Drawn) (tk : Nat) (os : OsState) (R : Result → Shared → Prop),
      Below (Ar dp un gd envs) base envs g → Fr g L' h₁ (mapR rb) → News g L' h₁ own → K.In g → Top p loose mean mg mb g → (∀ q ∈ own, q.1 < L') →
      dp + D < recursionLimit → un + 10 * D < cLine →
      (∀ v own' L'' m' h' tk', Fr g L'' h' m' → News g L'' h' own' → Post L' v own' → R (.ok (.ret v)) ⟨h', gens, drawn, tk', os⟩) →
      (Exc → ∀ e t vs h' tk', RaisedK base envs e (.ref 59) t vs [] h' → g.UpToSlots h' → R (.error (.ref e)) ⟨h', gens, drawn, tk', os⟩) →
      wpAny (model prog w) ((Ar dp un gd envs).deeper (envOf qual scope L' f cdv)) (execs body (envOf qual scope L' f cdv))
        (fun fl s' => R (.ok (.ret (match fl with | .ret v => v | _ => .none))) s')
        (fun e s' => wpAny (model prog w) ((Ar dp un gd envs).deeper (envOf qual scope L' f cdv)) (leaving (envOf qual scope L' f cdv) e) (fun _ s'' => R (.error e) s'') (fun e' s'' => R (.error e') s'') s')
        ⟨h₁, gens, drawn, tk, os⟩) : Spec prog w K p loose mean mg mb f args D own Post Exc := by
  intro dp un gd envs base g s R B hst hown X T hsz hd hu ret exc
  have Xs : K.In s.heap := X.keeps hst
  refine codeAny_call_def (fd := fnOf name qual params body scope dV kV doc pm an cdv ct) (body := body) (binds := rb.reverse) (by show dp < recursionLimit; omega) (Xs _ _ ho) rfl (T.nolimit.keeps hst) (codeRec_of Xs hcd) rfl (hbind s Xs) hcell hloc (fun h₁ hns hk₁ => ?_) hco hgen hk
  have F : Fr g s.heap.objs.size h₁ (mapR rb) := ⟨by rw [mapR_eq]; simpa only [List.reverse_reverse] using hns, fun b o e => hk₁ b o (hst b o e), hsz⟩
  have N : News g s.heap.objs.size h₁ own := fun q hq => ⟨hk₁ _ _ (hown q hq).1, Nat.ne_of_lt (Heap.lt_size (hown q hq).1), (hown q hq).2⟩
  exact h dp un gd envs base g s.heap.objs.size h₁ s.gens s.drawn (s.toks + rb.reverse.length) s.os R B F N X T (fun q hq => Heap.lt_size (hown q hq).1) hd hu
    (fun v own' L'' m' h' tk' F' N' hP => ret v own' h' tk' hP F'.keep fun q hq => ⟨(N' q hq).1, (N' q hq).2.2⟩) exc

theorem ground_own {A A₀ : Around} {base h₀ h : Heap} {outer : List Env} {L : Addr} {m : Str → Option Value} {env : Env} {news own : List (Addr × Obj)}
    (B : Below A₀ base outer h₀) (F : Fr h₀ L h m) (N : News h₀ L h news) (hA : A.frames = some (env :: outer)) (hf : env.frame = some L) (hke : env.scope.kind = .function) (P : ∀ q ∈ own, q ∈ news) :
    Fr h₀ L (hideAll h (own.map (·.1))) m ∧ Below A base (env :: outer) (hideAll h (own.map (·.1))) ∧ h₀.StaysIn (hideAll h (own.map (·.1))) ∧ Own (hideAll h (own.map (·.1))) h own := by
  have nm : ∀ b o, h₀.get? b = some o → b ∉ own.map (·.1) := fun b o e q => by
    obtain ⟨p, hp, rfl⟩ := List.mem_map.mp q
    rw [(N p (P p hp)).2.2] at e; cases e
  have st : h₀.StaysIn (hideAll h (own.map (·.1))) := fun b o e => hideAll_get _ (F.keep b o e) (nm b o e)
  obtain ⟨oL, es, ep, hL, hLd, hLk, hLf⟩ := F.ns
  have nL : L ∉ own.map (·.1) := fun q => by
    obtain ⟨p, hp, e⟩ := List.mem_map.mp q
    exact (N p (P p hp)).2.1 e
  have hLg := hideAll_get (own.map (·.1)) hL nL
  have B₁ := pushX B F hf hke
  refine ⟨⟨⟨oL, es, ep, hLg, hLd, hLk, hLf⟩, st, F.above⟩, ⟨hA, fun b o e => st b o (B.stays b o e), funFrames_hideAll B₁.frames fun env' he b hb hf' => ?_⟩, st, fun q hq => ⟨(N q (P q hq)).1, hideAll_none _ (List.mem_map_of_mem hq)⟩⟩
  cases he with
  | head => exact nL ((Option.some.inj (hf.symm.trans hf') : L = b) ▸ hb)
  | tail _ he =>
    obtain ⟨L₁, o₁, hf₁, ho₁⟩ := funFrames_in B.frames env' he
    rw [hf₁] at hf'
    exact nm L₁ o₁ ho₁ ((Option.some.inj hf' : L₁ = b) ▸ hb)

theorem ar_eq (A : Around) {envs : List Env} (hA : A.frames = some envs) (hh : A.handled = none) : A = Ar A.depth A.units A.guards envs := by
  obtain ⟨a, b, c, d, e⟩ := A
  simp only at hA hh
  subst hA; subst hh; rfl

/-- a call of a function whose contract is known, at code level -/
theorem Spec.code (S : Spec prog w K p loose mean mg mb f args D own Post Exc) {A A₀ : Around} {base h₀ : Heap} {outer : List Env} {env : Env} {L : Addr} {m : Str → Option Value} {s : Shared} {news rest : List (Addr × Obj)} {R : Result → Shared → Prop}
    (B : Below A₀ base outer h₀) (F : Fr h₀ L s.heap m) (X : K.In h₀) (N : News h₀ L s.heap news) (T : Top p loose mean mg mb h₀)
    (hA : A.frames = some (env :: outer)) (hh : A.handled = none) (hf : env.frame = some L) (hke : env.scope.kind = .function) (hd : A.depth + D < recursionLimit) (hu : A.units + 10 * D < cLine)
    (P : ∀ q ∈ own, q ∈ news) (hrest : ∀ q ∈ rest, q ∈ news ∧ ∀ r ∈ own, q.1 ≠ r.1)
    (ret : ∀ v own' h' tk', Post s.heap.objs.size v own' → Fr h₀ L h' m → News h₀ L h' (own' ++ rest) → (∀ q ∈ news, q.1 < s.heap.objs.size) → (∀ q ∈ own', ∀ r ∈ rest, q.1 ≠ r.1) → R (.ok (.ret v)) { s with heap := h', toks := tk' })
    (exc : Exc → ∀ e t vs h' tk' g₂, RaisedK base (env :: outer) e (.ref 59) t vs [] h' → Fr h₀ L g₂ m → g₂.UpToSlots h' → R (.error (.ref e)) { s with heap := h', toks := tk' }) :
    codeAny (model prog w) A (.call (.ref f) args) R s := by
  obtain ⟨Fg, Bg, st, O⟩ := ground_own (A := A) B F N hA hf hke P
  rw [ar_eq A hA hh] at Bg ⊢
  refine S A.depth A.units A.guards (env :: outer) base _ s R Bg (fun b o e => of_hideAll _ e) O (X.keeps st) (T.keeps st) (Nat.le_of_eq (hideAll_size _ _)) hd hu (fun v own' h' tk' hP k' O' => ?_) fun hx e t vs h' tk' Rz U => exc hx e t vs h' tk' _ Rz Fg U
  obtain ⟨oL, es, ep, hLg, hLd, hLk, hLf⟩ := Fg.ns
  refine ret v own' h' tk' hP ⟨⟨oL, es, ep, k' L oL hLg, hLd, hLk, hLf⟩, fun b o e => k' b o (st b o e), F.above⟩ (fun q hq => ?_) (fun q hq => Heap.lt_size (N q hq).1) (fun q hq r hr e => ?_)
  rotate_left
  · obtain ⟨hn, hne⟩ := hrest r hr
    have hg := hideAll_get (own.map (·.1)) (N r hn).1 (fun hm => by
      obtain ⟨r', hr', e'⟩ := List.mem_map.mp hm
      exact hne r' hr' e'.symm)
    have := (O' q hq).2
    rw [e, hg] at this; cases this
  rcases List.mem_append.mp hq with hq | hq
  · refine ⟨(O' q hq).1, fun e => ?_, ?_⟩
    · have := (O' q hq).2; rw [e, hLg] at this; cases this
    · cases e : h₀.get? q.1 with
      | none => rfl
      | some o => have := (O' q hq).2; rw [st _ _ e] at this; cases this
  · obtain ⟨hn, hne⟩ := hrest q hq
    refine ⟨k' _ _ (hideAll_get _ (N q hn).1 fun hm => ?_), (N q hn).2⟩
    obtain ⟨r, hr, e⟩ := List.mem_map.mp hm
    exact hne r hr e.symm

noncomputable def ApartOne (a : Nat) : List (Addr × Obj) → Prop
  | [] => True
  | r :: l => @Ne Nat a r.1 ∧ ApartOne a l
noncomputable def Apart : List (Addr × Obj) → List (Addr × Obj) → Prop
  | [], _ => True
  | q :: o, l => ApartOne q.1 l ∧ Apart o l
theorem apartOne_of {a : Addr} : ∀ {l : List (Addr × Obj)}, (∀ r ∈ l, a ≠ r.1) → ApartOne a l
  | [], _ => trivial
  | r :: _, h => ⟨h r (.head _), apartOne_of fun x hx => h x (.tail _ hx)⟩
theorem apart_of : ∀ {o l : List (Addr × Obj)}, (∀ q ∈ o, ∀ r ∈ l, q.1 ≠ r.1) → Apart o l
  | [], _, _ => trivial
  | q :: _, _, h => ⟨apartOne_of (h q (.head _)), apart_of fun x hx => h x (.tail _ hx)⟩
theorem apart_iff : ∀ {o l : List (Addr × Obj)}, Apart o l → ∀ q ∈ o, ∀ r ∈ l, q.1 ≠ r.1
  | [], _, _, _, hq => nomatch hq
  | q :: o, l, h, x, hx => by
    rcases List.mem_cons.mp hx with rfl | hx
    · have h1 := h.1
      clear h hx
      induction l with
      | nil => intro r hr; nomatch hr
      | cons y l ih => intro r hr; rcases List.mem_cons.mp hr with rfl | hr; exact h1.1; exact ih h1.2 r hr
    · exact apart_iff h.2 x hx
/-- what stays of a ledger beside the addresses handed over -/
inductive Wo (as : List Addr) : List (Addr × Obj) → List (Addr × Obj) → Prop
  | nil : Wo as [] []
  | skip {q r r'} : q.1 ∈ as → Wo as r r' → Wo as (q :: r) r'
  | keep {q r r'} : (∀ a ∈ as, q.1 ≠ a) → Wo as r r' → Wo as (q :: r) (q :: r')
  | all {r} : (∀ q ∈ r, ∀ a ∈ as, q.1 ≠ a) → Wo as r r
theorem Wo.rest {as : List Addr} {r r' : List (Addr × Obj)} (w : Wo as r r') : ∀ q ∈ r', q ∈ r ∧ ∀ a ∈ as, q.1 ≠ a := by
  induction w with
  | nil => exact fun q h => nomatch h
  | skip _ _ ih => exact fun q h => ⟨.tail _ (ih q h).1, (ih q h).2⟩
  | keep hn _ ih =>
    intro q h
    rcases List.mem_cons.mp h with rfl | h
    · exact ⟨.head _, hn⟩
    · exact ⟨.tail _ (ih q h).1, (ih q h).2⟩
  | all hn => exact fun q h => ⟨h, hn q h⟩

theorem Spec.call {vs : List Value} (S : Spec prog w K p loose mean mg mb f ⟨vs, []⟩ D own Post Exc) {A A₀ : Around} {base h₀ : Heap} {outer : List Env} {env : Env} {L : Addr} {m : Str → Option Value} {s : Shared} {news rest : List (Addr × Obj)} {Q E : Value → Shared → Prop}
    (B : Below A₀ base outer h₀) (F : Fr h₀ L s.heap m) (X : K.In h₀) (N : News h₀ L s.heap news) (T : Top p loose mean mg mb h₀)
    (hA : A.frames = some (env :: outer)) (hh : A.handled = none) (hf : env.frame = some L) (hke : env.scope.kind = .function) (hd : A.depth + D < recursionLimit) (hu : A.units + 10 * D < cLine)
    (P : ∀ q ∈ own, q ∈ news) (W : Wo (own.map (·.1)) news rest)
    (ret : ∀ v own' h' tk', Post s.heap.objs.size v own' → Fr h₀ L h' m → News h₀ L h' (own' ++ rest) → AllLt s.heap.objs.size news → Apart own' rest → Q v { s with heap := h', toks := tk' })
    (exc : Exc → ∀ e t vs h' tk' g₂, RaisedK base (env :: outer) e (.ref 59) t vs [] h' → Fr h₀ L g₂ m → g₂.UpToSlots h' → E (.ref e) { s with heap := h', toks := tk' }) :
    wpAny (model prog w) A (PySem.call (.ref f) vs) Q E s :=
  wpAny_call (Spec.code S B F X N T hA hh hf hke hd hu P (fun q hq => ⟨(W.rest q hq).1, fun r hr => (W.rest q hq).2 _ (List.mem_map_of_mem hr)⟩)
    (fun v own' h' tk' a b c d e => ret v own' h' tk' a b c (allLt_of d) (apart_of e)) exc)

theorem news_ne {h₀ h : Heap} {L a b : Addr} {o o' : Obj} {news : List (Addr × Obj)} (N : News h₀ L h news) (h1 : (a, o) ∈ news) (h2 : (b, o') ∈ news) (hn : o ≠ o') : a ≠ b := by
  rintro rfl
  exact hn (Option.some.inj ((N _ h1).1.symm.trans (N _ h2).1))
theorem news_mono {h₀ h : Heap} {L : Addr} {l l' : List (Addr × Obj)} (N : News h₀ L h l) (hs : ∀ p ∈ l', p ∈ l) : News h₀ L h l' := fun p hp => N p (hs p hp)
end
inductive StopAt (n : Nat) : Prop
  | here
theorem stopAt {n : Nat} : StopAt n := .here
noncomputable def StopHere (p : Prop) : Prop := p
theorem stop_here {p : Prop} (h : StopHere p) : p := h
noncomputable def StopHere2 (p : Prop) : Prop := p
theorem stop_here2 {p : Prop} (h : StopHere2 p) : p := h
theorem off0 {os : List (Addr × Obj)} : ∀ q ∈ os, ∀ a ∈ ([] : List (Addr × Obj)).map (·.1), q.1 ≠ a := fun _ _ _ h => nomatch h
theorem off2 {os : List (Addr × Obj)} {c d : Addr} {x y : Obj} (h1 : ∀ q ∈ os, q.1 ≠ c) (h2 : ∀ q ∈ os, q.1 ≠ d) : ∀ q ∈ os, ∀ a ∈ ([(c, x), (d, y)] : List (Addr × Obj)).map (·.1), q.1 ≠ a := fun q hq a ha => by
  rcases List.mem_cons.mp ha with rfl | ha
  · exact h1 q hq
  · rw [List.mem_singleton.mp ha]; exact h2 q hq
theorem room_d {dp D j D2 r : Nat} (h : dp + D < r) (e : j + D2 ≤ D) : (dp + j) + D2 < r := by omega
theorem room_u {un D j D2 r : Nat} (h : un + 10 * D < r) (e : j + 10 * D2 ≤ 10 * D) : (un + j) + 10 * D2 < r := by omega
noncomputable abbrev P0 (V : Value) (O : List (Addr × Obj)) (C : Prop) : Nat → Value → List (Addr × Obj) → Prop := fun _ v' o' => v' = V ∧ o' = O ∧ C
noncomputable abbrev P1 {α1 : Type} (V : α1 → Value) (O : α1 → List (Addr × Obj)) (C : α1 → Prop) : Nat → Value → List (Addr × Obj) → Prop := fun _ v' o' => ∃ a, v' = V a ∧ o' = O a ∧ C a
noncomputable abbrev P2 {α1 α2 : Type} (V : α1 → α2 → Value) (O : α1 → α2 → List (Addr × Obj)) (C : α1 → α2 → Prop) : Nat → Value → List (Addr × Obj) → Prop := fun _ v' o' => ∃ a b, v' = V a b ∧ o' = O a b ∧ C a b
noncomputable abbrev P3 {α1 α2 α3 : Type} (V : α1 → α2 → α3 → Value) (O : α1 → α2 → α3 → List (Addr × Obj)) (C : α1 → α2 → α3 → Prop) : Nat → Value → List (Addr × Obj) → Prop := fun _ v' o' => ∃ a b c, v' = V a b c ∧ o' = O a b c ∧ C a b c
noncomputable abbrev P4 {α1 α2 α3 α4 : Type} (V : α1 → α2 → α3 → α4 → Value) (O : α1 → α2 → α3 → α4 → List (Addr × Obj)) (C : α1 → α2 → α3 → α4 → Prop) : Nat → Value → List (Addr × Obj) → Prop := fun _ v' o' => ∃ a b c d, v' = V a b c d ∧ o' = O a b c d ∧ C a b c d
noncomputable abbrev P5 {α1 α2 α3 α4 α5 : Type} (V : α1 → α2 → α3 → α4 → α5 → Value) (O : α1 → α2 → α3 → α4 → α5 → List (Addr × Obj)) (C : α1 → α2 → α3 → α4 → α5 → Prop) : Nat → Value → List (Addr × Obj) → Prop := fun _ v' o' => ∃ a b c d e, v' = V a b c d e ∧ o' = O a b c d e ∧ C a b c d e
noncomputable abbrev P6 {α1 α2 α3 α4 α5 α6 : Type} (V : α1 → α2 → α3 → α4 → α5 → α6 → Value) (O : α1 → α2 → α3 → α4 → α5 → α6 → List (Addr × Obj)) (C : α1 → α2 → α3 → α4 → α5 → α6 → Prop) : Nat → Value → List (Addr × Obj) → Prop := fun _ v' o' => ∃ a b c d e f, v' = V a b c d e f ∧ o' = O a b c d e f ∧ C a b c d e f
noncomputable abbrev P7 {α1 α2 α3 α4 α5 α6 α7 : Type} (V : α1 → α2 → α3 → α4 → α5 → α6 → α7 → Value) (O : α1 → α2 → α3 → α4 → α5 → α6 → α7 → List (Addr × Obj)) (C : α1 → α2 → α3 → α4 → α5 → α6 → α7 → Prop) : Nat → Value → List (Addr × Obj) → Prop := fun _ v' o' => ∃ a b c d e f g, v' = V a b c d e f g ∧ o' = O a b c d e f g ∧ C a b c d e f g
section
variable {prog : Program} {w : World} {K : Frag} {p : Program} {loose : List Str} {mean : ExcName → Option Value} {mg mb : Str → Option Value} {f : Addr} {D : Nat} {own : List (Addr × Obj)} {Exc : Prop} {vs : List Value} {A A₀ : Around} {base h₀ : Heap} {outer : List Env} {env : Env} {L : Addr} {m : Str → Option Value} {s : Shared} {news rest : List (Addr × Obj)} {Q E : Value → Shared → Prop}
theorem Spec.call0 {V : Value} {O : List (Addr × Obj)} {C : Prop} (S : Spec prog w K p loose mean mg mb f ⟨vs, []⟩ D own (P0 V O C) Exc)
    (B : Below A₀ base outer h₀) (F : Fr h₀ L s.heap m) (X : K.In h₀) (N : News h₀ L s.heap news) (T : Top p loose mean mg mb h₀)
    (hA : A.frames = some (env :: outer)) (hh : A.handled = none) (hf : env.frame = some L) (hke : env.scope.kind = .function) (hd : A.depth + D < recursionLimit) (hu : A.units + 10 * D < cLine)
    (P : ∀ q ∈ own, q ∈ news) (W : Wo (own.map (·.1)) news rest)
    (ret : ∀ h' tk', C → Fr h₀ L h' m → News h₀ L h' (O ++ rest) → AllLt s.heap.objs.size news → Apart (O) rest → Q (V) { s with heap := h', toks := tk' })
    (exc : Exc → ∀ e t vs h' tk' g₂, RaisedK base (env :: outer) e (.ref 59) t vs [] h' → Fr h₀ L g₂ m → g₂.UpToSlots h' → E (.ref e) { s with heap := h', toks := tk' }) :
    wpAny (model prog w) A (PySem.call (.ref f) vs) Q E s :=
  Spec.call S B F X N T hA hh hf hke hd hu P W (by rintro v own' h' tk' ⟨rfl, rfl, hf⟩ F' N' l1 l2; exact ret h' tk' hf F' N' l1 l2) exc
theorem Spec.call1 {α1 : Type} {V : α1 → Value} {O : α1 → List (Addr × Obj)} {C : α1 → Prop} (S : Spec prog w K p loose mean mg mb f ⟨vs, []⟩ D own (P1 V O C) Exc)
    (B : Below A₀ base outer h₀) (F : Fr h₀ L s.heap m) (X : K.In h₀) (N : News h₀ L s.heap news) (T : Top p loose mean mg mb h₀)
    (hA : A.frames = some (env :: outer)) (hh : A.handled = none) (hf : env.frame = some L) (hke : env.scope.kind = .function) (hd : A.depth + D < recursionLimit) (hu : A.units + 10 * D < cLine)
    (P : ∀ q ∈ own, q ∈ news) (W : Wo (own.map (·.1)) news rest)
    (ret : ∀ a h' tk', C a → Fr h₀ L h' m → News h₀ L h' (O a ++ rest) → AllLt s.heap.objs.size news → Apart (O a) rest → Q (V a) { s with heap := h', toks := tk' })
    (exc : Exc → ∀ e t vs h' tk' g₂, RaisedK base (env :: outer) e (.ref 59) t vs [] h' → Fr h₀ L g₂ m → g₂.UpToSlots h' → E (.ref e) { s with heap := h', toks := tk' }) :
    wpAny (model prog w) A (PySem.call (.ref f) vs) Q E s :=
  Spec.call S B F X N T hA hh hf hke hd hu P W (by rintro v own' h' tk' ⟨a, rfl, rfl, hf⟩ F' N' l1 l2; exact ret a h' tk' hf F' N' l1 l2) exc
theorem Spec.call2 {α1 α2 : Type} {V : α1 → α2 → Value} {O : α1 → α2 → List (Addr × Obj)} {C : α1 → α2 → Prop} (S : Spec prog w K p loose mean mg mb f ⟨vs, []⟩ D own (P2 V O C) Exc)
    (B : Below A₀ base outer h₀) (F : Fr h₀ L s.heap m) (X : K.In h₀) (N : News h₀ L s.heap news) (T : Top p loose mean mg mb h₀)
    (hA : A.frames = some (env :: outer)) (hh : A.handled = none) (hf : env.frame = some L) (hke : env.scope.kind = .function) (hd : A.depth + D < recursionLimit) (hu : A.units + 10 * D < cLine)
    (P : ∀ q ∈ own, q ∈ news) (W : Wo (own.map (·.1)) news rest)
    (ret : ∀ a b h' tk', C a b → Fr h₀ L h' m → News h₀ L h' (O a b ++ rest) → AllLt s.heap.objs.size news → Apart (O a b) rest → Q (V a b) { s with heap := h', toks := tk' })
    (exc : Exc → ∀ e t vs h' tk' g₂, RaisedK base (env :: outer) e (.ref 59) t vs [] h' → Fr h₀ L g₂ m → g₂.UpToSlots h' → E (.ref e) { s with heap := h', toks := tk' }) :
    wpAny (model prog w) A (PySem.call (.ref f) vs) Q E s :=
  Spec.call S B F X N T hA hh hf hke hd hu P W (by rintro v own' h' tk' ⟨a, b, rfl, rfl, hf⟩ F' N' l1 l2; exact ret a b h' tk' hf F' N' l1 l2) exc
theorem Spec.call3 {α1 α2 α3 : Type} {V : α1 → α2 → α3 → Value} {O : α1 → α2 → α3 → List (Addr × Obj)} {C : α1 → α2 → α3 → Prop} (S : Spec prog w K p loose mean mg mb f ⟨vs, []⟩ D own (P3 V O C) Exc)
    (B : Below A₀ base outer h₀) (F : Fr h₀ L s.heap m) (X : K.In h₀) (N : News h₀ L s.heap news) (T : Top p loose mean mg mb h₀)
    (hA : A.frames = some (env :: outer)) (hh : A.handled = none) (hf : env.frame = some L) (hke : env.scope.kind = .function) (hd : A.depth + D < recursionLimit) (hu : A.units + 10 * D < cLine)
    (P : ∀ q ∈ own, q ∈ news) (W : Wo (own.map (·.1)) news rest)
    (ret : ∀ a b c h' tk', C a b c → Fr h₀ L h' m → News h₀ L h' (O a b c ++ rest) → AllLt s.heap.objs.size news → Apart (O a b c) rest → Q (V a b c) { s with heap := h', toks := tk' })
    (exc : Exc → ∀ e t vs h' tk' g₂, RaisedK base (env :: outer) e (.ref 59) t vs [] h' → Fr h₀ L g₂ m → g₂.UpToSlots h' → E (.ref e) { s with heap := h', toks := tk' }) :
    wpAny (model prog w) A (PySem.call (.ref f) vs) Q E s :=
  Spec.call S B F X N T hA hh hf hke hd hu P W (by rintro v own' h' tk' ⟨a, b, c, rfl, rfl, hf⟩ F' N' l1 l2; exact ret a b c h' tk' hf F' N' l1 l2) exc
theorem Spec.call4 {α1 α2 α3 α4 : Type} {V : α1 → α2 → α3 → α4 → Value} {O : α1 → α2 → α3 → α4 → List (Addr × Obj)} {C : α1 → α2 → α3 → α4 → Prop} (S : Spec prog w K p loose mean mg mb f ⟨vs, []⟩ D own (P4 V O C) Exc)
    (B : Below A₀ base outer h₀) (F : Fr h₀ L s.heap m) (X : K.In h₀) (N : News h₀ L s.heap news) (T : Top p loose mean mg mb h₀)
    (hA : A.frames = some (env :: outer)) (hh : A.handled = none) (hf : env.frame = some L) (hke : env.scope.kind = .function) (hd : A.depth + D < recursionLimit) (hu : A.units + 10 * D < cLine)
    (P : ∀ q ∈ own, q ∈ news) (W : Wo (own.map (·.1)) news rest)
    (ret : ∀ a b c d h' tk', C a b c d → Fr h₀ L h' m → News h₀ L h' (O a b c d ++ rest) → AllLt s.heap.objs.size news → Apart (O a b c d) rest → Q (V a b c d) { s with heap := h', toks := tk' })
    (exc : Exc → ∀ e t vs h' tk' g₂, RaisedK base (env :: outer) e (.ref 59) t vs [] h' → Fr h₀ L g₂ m → g₂.UpToSlots h' → E (.ref e) { s with heap := h', toks := tk' }) :
    wpAny (model prog w) A (PySem.call (.ref f) vs) Q E s :=
  Spec.call S B F X N T hA hh hf hke hd hu P W (by rintro v own' h' tk' ⟨a, b, c, d, rfl, rfl, hf⟩ F' N' l1 l2; exact ret a b c d h' tk' hf F' N' l1 l2) exc
theorem Spec.call5 {α1 α2 α3 α4 α5 : Type} {V : α1 → α2 → α3 → α4 → α5 → Value} {O : α1 → α2 → α3 → α4 → α5 → List (Addr × Obj)} {C : α1 → α2 → α3 → α4 → α5 → Prop} (S : Spec prog w K p loose mean mg mb f ⟨vs, []⟩ D own (P5 V O C) Exc)
    (B : Below A₀ base outer h₀) (F : Fr h₀ L s.heap m) (X : K.In h₀) (N : News h₀ L s.heap news) (T : Top p loose mean mg mb h₀)
    (hA : A.frames = some (env :: outer)) (hh : A.handled = none) (hf : env.frame = some L) (hke : env.scope.kind = .function) (hd : A.depth + D < recursionLimit) (hu : A.units + 10 * D < cLine)
    (P : ∀ q ∈ own, q ∈ news) (W : Wo (own.map (·.1)) news rest)
    (ret : ∀ a b c d e h' tk', C a b c d e → Fr h₀ L h' m → News h₀ L h' (O a b c d e ++ rest) → AllLt s.heap.objs.size news → Apart (O a b c d e) rest → Q (V a b c d e) { s with heap := h', toks := tk' })
    (exc : Exc → ∀ e t vs h' tk' g₂, RaisedK base (env :: outer) e (.ref 59) t vs [] h' → Fr h₀ L g₂ m → g₂.UpToSlots h' → E (.ref e) { s with heap := h', toks := tk' }) :
    wpAny (model prog w) A (PySem.call (.ref f) vs) Q E s :=
  Spec.call S B F X N T hA hh hf hke hd hu P W (by rintro v own' h' tk' ⟨a, b, c, d, e, rfl, rfl, hf⟩ F' N' l1 l2; exact ret a b c d e h' tk' hf F' N' l1 l2) exc
theorem Spec.call6 {α1 α2 α3 α4 α5 α6 : Type} {V : α1 → α2 → α3 → α4 → α5 → α6 → Value} {O : α1 → α2 → α3 → α4 → α5 → α6 → List (Addr × Obj)} {C : α1 → α2 → α3 → α4 → α5 → α6 → Prop} (S : Spec prog w K p loose mean mg mb f ⟨vs, []⟩ D own (P6 V O C) Exc)
    (B : Below A₀ base outer h₀) (F : Fr h₀ L s.heap m) (X : K.In h₀) (N : News h₀ L s.heap news) (T : Top p loose mean mg mb h₀)
    (hA : A.frames = some (env :: outer)) (hh : A.handled = none) (hf : env.frame = some L) (hke : env.scope.kind = .function) (hd : A.depth + D < recursionLimit) (hu : A.units + 10 * D < cLine)
    (P : ∀ q ∈ own, q ∈ news) (W : Wo (own.map (·.1)) news rest)
    (ret : ∀ a b c d e f h' tk', C a b c d e f → Fr h₀ L h' m → News h₀ L h' (O a b c d e f ++ rest) → AllLt s.heap.objs.size news → Apart (O a b c d e f) rest → Q (V a b c d e f) { s with heap := h', toks := tk' })
    (exc : Exc → ∀ e t vs h' tk' g₂, RaisedK base (env :: outer) e (.ref 59) t vs [] h' → Fr h₀ L g₂ m → g₂.UpToSlots h' → E (.ref e) { s with heap := h', toks := tk' }) :
    wpAny (model prog w) A (PySem.call (.ref f) vs) Q E s :=
  Spec.call S B F X N T hA hh hf hke hd hu P W (by rintro v own' h' tk' ⟨a, b, c, d, e, f, rfl, rfl, hf⟩ F' N' l1 l2; exact ret a b c d e f h' tk' hf F' N' l1 l2) exc
end
section PFS
set_option maxRecDepth 100000
variable {prog : Program} {w : World}
section
variable {K : Frag} {p : Program} {loose : List Str} {mean : ExcName → Option Value} {mg mb : Str → Option Value} {f : Addr} {args : Args} {D : Nat} {own : List (Addr × Obj)}
  {Post : Nat → Value → List (Addr × Obj) → Prop} {Exc : Prop}
theorem spec_of3 {name qual : Str} {params : Arguments} {body : List Stmt} {scope : Scope} {dV kV doc pm cdv ct oc : Value} {an od : Option Addr} {osl : Array (Option Value)} {rb : List (Str × Value)}
    (ho : K.lookup f = some ⟨oc, od, .func (fnOf name qual params body scope dV kV doc pm an cdv ct), osl⟩) (hcd : codeIn K cdv qual = true)
    (hbind : ∀ s : Shared, K.In s.heap → BindsTo s (fnOf name qual params body scope dV kV doc pm an cdv ct) args rb.reverse)
    (hloc : ∀ y ∈ rb.reverse, scope.names.lookup y.1 = some .local)
    (hco : scope.isCoroutine = false) (hgen : scope.isGenerator = false) (hk : scope.kind = .function) (hcell : ∀ x ∈ scope.names, x.2 ≠ .cell)
    (hD : 1 ≤ D)
    (h : ∀ (dp un : Nat) (gd : Option (List Code)) (envs : List Env) (base g : Heap) (L' : Addr) (h₁ : Heap) (gens : Array GenState) (drawn : Drawn) (tk : Nat) (os : OsState) (R : Result → Shared → Prop),
      Below (Ar dp un gd envs) base envs g → Fr g L' h₁ (mapR rb) → News g L' h₁ own → K.In g → Top p loose mean mg mb g → (∀ q ∈ own, q.1 < L') →
      dp + D < recursionLimit → un + 10 * D < cLine →
      (∀ v own' L'' m' h' tk', Fr g L'' h' m' → News g L'' h' own' → Post L' v own' → R (.ok (.ret v)) ⟨h', gens, drawn, tk', os⟩) →
      (Exc → ∀ e t vs h' tk', RaisedK base envs e (.ref 59) t vs [] h' → g.UpToSlots h' → R (.error (.ref e)) ⟨h', gens, drawn, tk', os⟩) →
      let env := envOf qual scope L' f cdv
      let A := (Ar dp un gd envs).deeper env
      wpAny (model prog w) A (execs body env)
        (fun fl s' => R (.ok (.ret (match fl with | .ret v => v | _ => .none))) s')
        (fun e s' => wpAny (model prog w) A (leaving env e) (fun _ s'' => R (.error e) s'') (fun e' s'' => R (.error e') s'') s')
        ⟨h₁, gens, drawn, tk, os⟩) : Spec prog w K p loose mean mg mb f args D own Post Exc := spec_of ho hcd hbind hloc hco hgen hk hcell hD h
end
end PFS
end JFW
local macro_rules | `(tactic| walk_at $s:str) => `(tactic| k_extra $s)
local macro_rules | `(tactic| ktr_unf) => `(tactic| k_extra "ktr_unf")
local macro_rules | `(tactic| ktr_rel) => `(tactic| first | assumption | exact List.forall_mem_nil _ | (refine' List.forall_mem_cons.mpr ⟨?a, ?b⟩; (case a => (refine neN ?_; (try dsimp only); first | assumption | (refine Ne.symm ?_; assumption) | omega)); (case b => ktr_rel)))
local macro_rules | `(tactic| tb_rel) => `(tactic| k_extra "tb_rel")
local macro_rules | `(tactic| tb_start) => `(tactic| k_extra "tb_start")
local macro_rules | `(tactic| k_all) => `(tactic| assumption)
theorem warm_J {w : World} (X : (kf w.params).In (default : Heap)) : PySem.Challenge.rw_nz0318_01.row.name = PySem.Challenge.rw_nz0318_01.row.name ∧ (kf w.params).In (default : Heap) := by
  k_fill
  exact ⟨rfl, X⟩
section JC1
open PySem PySem.W PyProof.Rows PySem.Calls
section PC1
/-- the dict of a Cursor: what turns is its place alone -/
noncomputable abbrev curD (h1 h2 h3 : Int) (k1 k2 k3 t1 t3 : Nat) (b : Array UInt8) (t2 : Nat) (a : Int) : Obj :=
  dictOf [⟨h1, .str "data" k1, .bytes b t1⟩, ⟨h2, .str "at" k2, .int a t2⟩, ⟨h3, .str "end" k3, .int (b.size : Int) t3⟩] 3
noncomputable abbrev curN (c d : Addr) (h1 h2 h3 : Int) (k1 k2 k3 t1 t3 : Nat) (b : Array UInt8) (t2 : Nat) (a : Int) : List (Addr × Obj) := [(c, instObj 160 d), (d, curD h1 h2 h3 k1 k2 k3 t1 t3 b t2 a)]
noncomputable def pk (b : Array UInt8) (a : Int) : Int := if 0 ≤ a ∧ a < (b.size : Int) then ((b.getD a.toNat 0).toNat : Int) else -1

theorem item_b {prog : Program} {w : World} {A : Around} {E : Value → Shared → Prop} {s : Shared} {value slice : PySem.Expr} {b : Array UInt8} {t u : Tok} {i : Int} {Q : Value → Shared → Prop} (h0 : 0 ≤ i) (h1 : i < (b.size : Int)) (hsz : b.size ≤ 1099511627776)
    (h : ∀ t' k, Q (.int ((b.getD i.toNat 0).toNat : Int) t') { s with toks := k })
    (hs : subscripted slice false (.bytes b t) (.int i u) = operate [.bytes b t, .int i u] (getItem (.bytes b t) (.int i u)))
    (ht : ∀ r, letTemporaryGo value (.bytes b t) r = pure ()) :
    wpAny (model prog w) A (subscriptTail value slice (.bytes b t) (.int i u)) Q E s := by
  refine KBw.item_K rfl (by rw [KBw.ints_length]; exact hsz) h0 (by rw [KBw.ints_length]; exact h1) (fun t' k _ _ => ?_) hs ht
  have : (KBw.bInts b).getD i.toNat 0 = ((b.getD i.toNat 0).toNat : Int) := by
    have hl : i.toNat < b.size := by omega
    simp [KBw.bInts, List.getD_eq_getElem?_getD, hl, Array.getD]
  rw [this]
  exact h t' k
theorem pk_a {b : Array UInt8} {a : Int} (h0 : 0 ≤ a) (h : a < (b.size : Int)) : ((b.getD (a + 0).toNat 0).toNat : Int) = pk b a := by unfold pk; rw [if_pos ⟨h0, h⟩, Int.add_zero]
theorem pk_b {b : Array UInt8} {a : Int} (h : ¬ (0 ≤ a ∧ a < (b.size : Int))) : -1 = pk b a := by unfold pk; rw [if_neg h]
theorem wd_C1_0 : True := by
  k_with "subscriptTail" => (k_here; (with_reducible show wpAny _ _ (subscriptTail _ _ (Value.bytes _ _) (Value.int _ _)) _ _ _); (refine item_b (hs := by with_unfolding_all rfl) (ht := by intro _; with_unfolding_all rfl) ?_ ?_ ?_ ?_); (focus ((try simp only [decide_eq_true_eq, decide_eq_false_iff_not] at *); omega)); (focus ((try simp only [decide_eq_true_eq, decide_eq_false_iff_not] at *); omega)); (focus omega); intro _ _)
  trivial
variable {prog : Program} {w : World} {p : Program} {loose : List Str} {mean : ExcName → Option Value} {mg mb : Str → Option Value}
set_option maxRecDepth 100000
set_option maxHeartbeats 4000000
theorem is_done_spec (c d : Addr) (h1 h2 h3 : Int) (k1 k2 k3 t1 t3 : Nat) (b : Array UInt8) (t2 : Nat) (a : Int) : Spec prog w (kf w.params) p loose mean mg mb 100 ⟨[.ref c], []⟩ 2 (curN c d h1 h2 h3 k1 k2 k3 t1 t3 b t2 a)
    (P0 (.bool (decide ((b.size : Int) ≤ a))) (curN c d h1 h2 h3 k1 k2 k3 t1 t3 b t2 a) True) False := by
  refine' spec_of3 (rb := [("self", .ref c)]) ?k1 ?k2 ?k3 ?k4 ?k5 ?k6 ?k7 ?k8 ?k9 ?_
  case k1 => k_is
  case k2 => k_is
  case k3 => first | exact fun s Xs => BindsTo.of_eq rfl | exact fun s Xs => binds_K Xs rfl (by k_is) rfl rfl rfl
  case k4 => exact locs rfl
  case k5 => exact rfl
  case k6 => exact rfl
  case k7 => exact rfl
  case k8 => decide
  case k9 => decide
  intro dp un gd envs base g L' h₁ gens drawn tk os R B F N X T lt hd hu ret exc eE aA
  k_fold
  (try k_lt lt)
  (try dsimp only)
  (try k_fold)
  k_steps
  all_goals (exact ret _ _ _ _ _ _ (by k_asm) (by k_asm) ⟨rfl, rfl, trivial⟩)
theorem wd_C1_1 : True := by
  k_with "call ref" => (k_here; (show wpAny _ _ (PySem.call (Value.ref 100) [_]) _ _ _); (refine' Spec.call0 (is_done_spec _ _ _ _ _ _ _ _ _ _ _ _ _) ?B ?F ?X ?N ?T rfl rfl rfl rfl ?hd ?hu ?P ?W ?_ (fun h => h.elim)); (case F => k_asm); (case N => k_asm); (case B => k_asm); (case X => k_asm); (case T => k_asm); (case hd => first | exact room_d (j := 1) hd (by decide) | exact room_d (j := 2) hd (by decide) | exact room_d (j := 3) hd (by decide) | (simp only [ar_depth, ar_units, depth_deeper, depth_mark, depth_under_make, depth_under_kw, depth_in1, units_deeper, units_in1, units_under_make, Around.mark_units]; omega)); (case hu => first | exact room_u (j := 0) hu (by decide) | exact room_u (j := 1) hu (by decide) | exact room_u (j := 2) hu (by decide) | exact room_u (j := 3) hu (by decide) | (simp only [ar_depth, ar_units, depth_deeper, depth_mark, depth_under_make, depth_under_kw, depth_in1, units_deeper, units_in1, units_under_make, Around.mark_units]; omega)); (case P => ktr_unf); (case W => tb_start); ((intro  h' tk' hP' F' N' l1 l2; (dsimp only [List.cons_append, List.nil_append] at N'); clear l1 l2; clear hP'; (try k_sweep); (try dsimp only))))
  trivial
theorem peek_spec (c d : Addr) (h1 h2 h3 : Int) (k1 k2 k3 t1 t3 : Nat) (b : Array UInt8) (t2 : Nat) (a : Int) (hb : b.size ≤ 4000) : Spec prog w (kf w.params) p loose mean mg mb 108 ⟨[.ref c], []⟩ 2 (curN c d h1 h2 h3 k1 k2 k3 t1 t3 b t2 a)
    (P1 (fun t => .int (pk b a) t) (fun _ => curN c d h1 h2 h3 k1 k2 k3 t1 t3 b t2 a) (fun _ => True)) False := by
  refine' spec_of3 (rb := [("ahead", .int 0 312), ("self", .ref c)]) ?k1 ?k2 ?k3 ?k4 ?k5 ?k6 ?k7 ?k8 ?k9 ?_
  case k1 => k_is
  case k2 => k_is
  case k3 => exact fun s Xs => binds_K Xs rfl (by k_is) rfl rfl rfl
  case k4 => exact locs rfl
  case k5 => exact rfl
  case k6 => exact rfl
  case k7 => exact rfl
  case k8 => decide
  case k9 => decide
  intro dp un gd envs base g L' h₁ gens drawn tk os R B F N X T lt hd hu ret exc eE aA
  k_fold
  (try k_lt lt)
  (try dsimp only)
  (try k_fold)
  k_steps
  all_goals (simp only [decide_eq_true_eq, decide_eq_false_iff_not] at *)
  · exact ret _ _ _ _ _ _ (by k_asm) (by k_asm) ⟨_, congrArg (fun z => Value.int z _) (pk_a (by omega) (by omega)), rfl, trivial⟩
  · exact ret _ _ _ _ _ _ (by k_asm) (by k_asm) ⟨_, congrArg (fun z => Value.int z _) (pk_b (by omega)), rfl, trivial⟩
  · exact ret _ _ _ _ _ _ (by k_asm) (by k_asm) ⟨_, congrArg (fun z => Value.int z _) (pk_b (by omega)), rfl, trivial⟩
theorem wd_C1_2 : True := by
  k_with "call ref" => (k_here; (show wpAny _ _ (PySem.call (Value.ref 108) [_]) _ _ _); (refine' Spec.call1 (peek_spec _ _ _ _ _ _ _ _ _ _ _ _ _ (by assumption)) ?B ?F ?X ?N ?T rfl rfl rfl rfl ?hd ?hu ?P ?W ?_ (fun h => h.elim)); (case F => k_asm); (case N => k_asm); (case B => k_asm); (case X => k_asm); (case T => k_asm); (case hd => first | exact room_d (j := 1) hd (by decide) | exact room_d (j := 2) hd (by decide) | exact room_d (j := 3) hd (by decide) | (simp only [ar_depth, ar_units, depth_deeper, depth_mark, depth_under_make, depth_under_kw, depth_in1, units_deeper, units_in1, units_under_make, Around.mark_units]; omega)); (case hu => first | exact room_u (j := 0) hu (by decide) | exact room_u (j := 1) hu (by decide) | exact room_u (j := 2) hu (by decide) | exact room_u (j := 3) hu (by decide) | (simp only [ar_depth, ar_units, depth_deeper, depth_mark, depth_under_make, depth_under_kw, depth_in1, units_deeper, units_in1, units_under_make, Around.mark_units]; omega)); (case P => ktr_unf); (case W => tb_start); ((intro tp' h' tk' hP' F' N' l1 l2; (dsimp only [List.cons_append, List.nil_append] at N'); clear l1 l2; clear hP'; (try k_sweep); (try dsimp only))))
  trivial
noncomputable def adv (b : Array UInt8) (x : Int) : Int := if x < (b.size : Int) then x + 1 else x
theorem adv_nn {b : Array UInt8} {x : Int} (h : 0 ≤ x) : 0 ≤ adv b x := by unfold adv; split <;> omega
theorem adv_le {b : Array UInt8} {x : Int} (h : x ≤ (b.size : Int)) : adv b x ≤ (b.size : Int) := by unfold adv; split <;> omega
theorem adv_in {b : Array UInt8} {x : Int} (h : x < (b.size : Int)) : adv b x = x + 1 := if_pos h
theorem pk_lt {b : Array UInt8} {a : Int} (h0 : 0 ≤ a) (h : 0 ≤ pk b a) : a < (b.size : Int) := by
  unfold pk at h
  by_cases q : 0 ≤ a ∧ a < (b.size : Int)
  · exact q.2
  · rw [if_neg q] at h; omega
theorem pk_ge {b : Array UInt8} {a : Int} (h0 : 0 ≤ a) (h : ¬ 0 ≤ pk b a) : ¬ a < (b.size : Int) := by
  intro q
  unfold pk at h
  rw [if_pos ⟨h0, q⟩] at h; omega
theorem take_spec (c d : Addr) (h1 h2 h3 : Int) (k1 k2 k3 t1 t3 : Nat) (b : Array UInt8) (t2 : Nat) (a : Int) (hb : b.size ≤ 4000) (h0 : 0 ≤ a) : Spec prog w (kf w.params) p loose mean mg mb 115 ⟨[.ref c], []⟩ 4 (curN c d h1 h2 h3 k1 k2 k3 t1 t3 b t2 a)
    (P2 (fun t _ => .int (pk b a) t) (fun _ t2' => curN c d h1 h2 h3 k1 k2 k3 t1 t3 b t2' (adv b a)) (fun _ _ => 0 ≤ adv b a)) False := by
  refine' spec_of3 (rb := [("self", .ref c)]) ?k1 ?k2 ?k3 ?k4 ?k5 ?k6 ?k7 ?k8 ?k9 ?_
  case k1 => k_is
  case k2 => k_is
  case k3 => first | exact fun s Xs => BindsTo.of_eq rfl | exact fun s Xs => binds_K Xs rfl (by k_is) rfl rfl rfl
  case k4 => exact locs rfl
  case k5 => exact rfl
  case k6 => exact rfl
  case k7 => exact rfl
  case k8 => decide
  case k9 => decide
  intro dp un gd envs base g L' h₁ gens drawn tk os R B F N X T lt hd hu ret exc eE aA
  k_fold
  (try k_lt lt)
  (try dsimp only)
  have hcd : c ≠ d := news_ne N (.head _) (.tail _ (.head _)) (fun e => by cases e)
  (try k_fold)
  k_steps
  · exact ret _ _ _ _ _ _ (by k_asm) (by k_asm) ⟨_, _, rfl, by rw [adv, if_pos (pk_lt h0 (by assumption))], adv_nn h0⟩
  · exact ret _ _ _ _ _ _ (by k_asm) (by k_asm) ⟨_, _, rfl, by rw [adv, if_neg (pk_ge h0 (by assumption))], adv_nn h0⟩
theorem wd_C1_3 : True := by
  k_with "call ref" => (k_here; (show wpAny _ _ (PySem.call (Value.ref 115) [_]) _ _ _); (refine' Spec.call2 (take_spec _ _ _ _ _ _ _ _ _ _ _ _ _ (by assumption) ?s1) ?B ?F ?X ?N ?T rfl rfl rfl rfl ?hd ?hu ?P ?W ?_ (fun h => h.elim)); (case F => k_asm); (case N => k_asm); (case B => k_asm); (case X => k_asm); (case T => k_asm); (case hd => first | exact room_d (j := 1) hd (by decide) | exact room_d (j := 2) hd (by decide) | exact room_d (j := 3) hd (by decide) | (simp only [ar_depth, ar_units, depth_deeper, depth_mark, depth_under_make, depth_under_kw, depth_in1, units_deeper, units_in1, units_under_make, Around.mark_units]; omega)); (case hu => first | exact room_u (j := 0) hu (by decide) | exact room_u (j := 1) hu (by decide) | exact room_u (j := 2) hu (by decide) | exact room_u (j := 3) hu (by decide) | (simp only [ar_depth, ar_units, depth_deeper, depth_mark, depth_under_make, depth_under_kw, depth_in1, units_deeper, units_in1, units_under_make, Around.mark_units]; omega)); (case P => ktr_unf); (case W => tb_start); (case s1 => first | assumption | omega); ((intro tv' tt' h' tk' hP' F' N' l1 l2; (dsimp only [List.cons_append, List.nil_append] at N'); clear l1 l2; (obtain hn1' := hP'); (try k_sweep); (try dsimp only))))
  trivial
end PC1
end JC1
section JEX
open PySem PySem.W PyProof.Rows PySem.Calls Builtin Builtin.ObjectAttr Builtin.BaseException
section PEX
set_option maxRecDepth 100000
/-- an exception of the text's own: made, its first field a tuple -/
noncomputable abbrev excO (t : Addr) (dd : Option Addr) : Obj := { cls := .ref 59, dict := dd, data := .fields #[.ref t, .none, .none, .none, .bool false, .none] }
noncomputable abbrev tupO (l : List Value) (n : Nat) : Obj := { cls := .type "tuple", data := .seq l.toArray n }
noncomputable def mroX : List Value := [.type "Exception", .type "BaseException", .type "object"]
theorem passesX (self : Value) : refuseLoop self "__setattr__" mroX = pure () := by
  show refuseLoop self "__setattr__" [.type "Exception", .type "BaseException", .type "object"] = pure ()
  kernel_rfl
theorem putL_length {name : Str} {hsh : Int} {key v : Value} : ∀ es : List DictEntry, (putL name hsh key v es).length ≤ es.length + 1
  | [] => Nat.le_refl _
  | e :: r => by
    unfold putL
    split
    · simp
    · have := putL_length (name := name) (hsh := hsh) (key := key) (v := v) r
      simp only [List.length_cons]; omega
section
variable {prog : Program} {w : World} {A : Around} {s : Shared} {K : Frag} {x : Addr} {R : Result → Shared → Prop} {cd : ClassData} {h₀ : Heap} {L : Addr} {m : Str → Option Value} {post : List (Addr × Obj)} {E : Value → Shared → Prop}
theorem sub59 {M : Model} {h : Heap} {b : Value} (X : K.In h) (hc : clsIn K 59 = some cd) (hm : cd.mro = .ref 59 :: .ref 46 :: mroX) : Looks M h (isSubtype (.ref 59) b) ((Value.ref 59 :: .ref 46 :: mroX).contains b) :=
  looks_mroIn X (by unfold mroIn; rw [hc, Option.bind_some, hm]; rfl)
theorem exc_open {ox : Obj} {od : Option Obj} {name : Str} {tk : Tok} {v : Value} (X : K.In s.heap) (I : PySem.W.InstAt s.heap x ox 59 od) (hc : clsIn K 59 = some cd) (hm : cd.mro = .ref 59 :: .ref 46 :: mroX) (ha : findIn K (.ref 59) name = some none)
    (h : ∀ b, wpAny (model prog w) A.in1 (storeInOwnDict (.ref x) (.ref 59) (.str name tk) name v b)
      (fun fin s' => match fin with | .done f => R (.ok f) s' | .again c' => c'.quiet = true ∧ codeAny (model prog w) A c' R s') (fun e s' => R (.error e) s') s) :
    codeAny (model prog w) A (.call (.builtin "object.__setattr__") ⟨[.ref x, .str name tk, v], []⟩) R s := by
  have SF := PySem.F.store_object
  have sub : Looks (model prog w) s.heap (isInstance (.ref x) (.type "object")) true := I.type.andThen (sub59 (b := .type "object") X hc hm)
  refine codeAny_call_builtin SF.slot.plain SF.entry (@check_slot (model prog w) _ _ s "object.__setattr__" "object" "__setattr__" (.ref x) [.str name tk, v] [] _ SF.kind SF.split sub (SF.args (.ref x) (.str name tk) v) ?_)
  have hm' : Looks (model prog w) s.heap (mroOf (.ref 59)) cd.mro := (looks_clsIn X hc).andThen .now
  rw [osa_eq, refuse_eq]
  refine wpAny_bind (wpAny_bind (I.type.here (wpAny_bind (hm'.here ?_))))
  rw [hm, refuseLoop_ref, refuseLoop_ref, passesX]
  refine wpAny_pure (wpAny_bind (I.type.here (wpAny_bind ((looks_findIn X ha).here (wpAny_bind ?_)))))
  exact wpAny_pure (h _)

/-- storing behind a dict that stands -/
theorem nsSet_known {d : Addr} {es : List DictEntry} {n : Nat} {name : Str} {v : Value} {Q : Fin → Shared → Prop} (F : Fr h₀ L s.heap m) (N : News h₀ L s.heap ((d, dictOf es n) :: post)) (hne : ∀ q ∈ post, q.1 ≠ d)
    (hk : es.all (fun e => !e.refKey) = true) (hz : es.length ≤ 900)
    (h : ∀ h', Fr h₀ L h' m → News h₀ L h' ((d, dictOf (putL name (PyData.keyHash w.params name) (.str name s.toks) v es) (putN name es n)) :: post) → Q (.done (.ret .none)) { s with heap := h', toks := s.toks + 1 }) :
    wpAny (model prog w) A (storeInDict d (.str name tk) name v) Q E s := by
  obtain ⟨U1, U2⟩ := news_upd (pre := []) (f := Obj.putName name (PyData.keyHash w.params name) (.str name s.toks) v) F N (fun _ hp => nomatch hp) hne (putName_dict name _ _ v es n) rfl
  have D := (N _ (.head _)).1
  have D' := (U2 _ (.head _)).1
  unfold storeInDict
  refine wpAny_bind (wpAny_pure (wpAny_bind ?_))
  unfold nsSet
  refine wpAny_bind (wpAny_bind (wpAny_askSetting (wpAny_pure (wpAny_bind (wpAny_mkText (wpAny_bind (wpAny_loadPart D ?_)))))))
  dsimp only
  have c : (!(es.toArray).any (·.key.isStr name) && (es.toArray).any (·.refKey)) = false := by
    have : (es.toArray).any (·.refKey) = false := by
      rw [← Array.any_toList]
      rw [List.any_eq_false]
      intro e he
      have := List.all_eq_true.mp hk e he
      simpa using this
    rw [this, Bool.and_false]
  rw [aRefKeyMayBeTheName_at, c]
  refine wpAny_updatePart D ?_
  refine wpAny_bind (wpAny_lookBehind D' (pastItsLine_dict (by
    have : (putL name (PyData.keyHash w.params name) (.str name s.toks) v es).length ≤ es.length + 1 := by
      have := putL_length (name := name) (hsh := PyData.keyHash w.params name) (key := .str name s.toks) (v := v) es
      omega
    rw [List.size_toArray, sizeLine_eq]; omega)) ?_)
  exact wpAny_pure (h _ U1 U2)

theorem store_first {name : Str} {tk : Tok} {v : Value} {b : Bool} {t : Addr} {Q : Fin → Shared → Prop} (F : Fr h₀ L s.heap m) (N : News h₀ L s.heap ((x, excO t none) :: post)) (X : K.In s.heap) (hc : clsIn K 59 = some cd) (hh : cd.hasDict = true) (hne : ∀ q ∈ post, q.1 ≠ x)
    (h : ∀ d h', (∀ q ∈ (x, excO t none) :: post, q.1 < d) → Fr h₀ L h' m → News h₀ L h' ((d, dictOf [⟨PyData.keyHash w.params name, .str name s.toks, v⟩] 1) :: (x, excO t (some d)) :: post) → Q (.done (.ret .none)) { s with heap := h', toks := s.toks + 1 }) :
    wpAny (model prog w) A (storeInOwnDict (.ref x) (.ref 59) (.str name tk) name v b) Q E s := by
  have D := (N _ (.head _)).1
  have lt : ∀ q ∈ (x, excO t none) :: post, q.1 < s.heap.objs.size := fun q hq => Heap.lt_size (N q hq).1
  unfold storeInOwnDict
  refine wpAny_bind (wpAny_pure ?_)
  rw [if_neg (show ¬ ((Value.ref 59 == Value.type "module") = true) by decide)]
  refine wpAny_bind ?_
  unfold ownDictForStores instanceDict
  refine wpAny_bind (wpAny_loadPart D ?_)
  dsimp only
  refine wpAny_bind ((looks_clsIn X hc).here ?_)
  rw [hh]
  refine wpAny_bind (wpAny_alloc ?_)
  have F1 := F.push (dictOf [] 0)
  have N1 := N.push F (dictOf [] 0)
  have hx1 : (s.heap.push (dictOf [] 0)).get? x = some (excO t none) := Heap.get?_push_of_some _ D
  have hlt : x < s.heap.objs.size := lt _ (.head _)
  have hne1 : ∀ q ∈ post, q.1 ≠ x := hne
  obtain ⟨U1, U2⟩ := news_upd (pre := [(s.heap.objs.size, dictOf [] 0)]) (f := fun o => { o with dict := some s.heap.objs.size }) F1 N1 (fun q hq => by rw [List.mem_singleton.mp hq]; exact Nat.ne_of_gt hlt) hne1 (o' := excO t (some s.heap.objs.size)) rfl rfl
  refine wpAny_bind (wpAny_update hx1 ?_)
  refine wpAny_pure ?_
  exact nsSet_known (s := { s with heap := (s.heap.push (dictOf [] 0)).update x fun o => { o with dict := some s.heap.objs.size } }) U1 U2 (fun q hq => by
    rcases List.mem_cons.mp hq with rfl | hq
    · exact Nat.ne_of_lt hlt
    · exact Nat.ne_of_lt (lt q (.tail _ hq))) rfl (by simp) fun h' F' N' => h _ h' lt F' N'

theorem store_next {name : Str} {tk : Tok} {v : Value} {b : Bool} {t d : Addr} {es : List DictEntry} {n : Nat} {Q : Fin → Shared → Prop} (F : Fr h₀ L s.heap m) (N : News h₀ L s.heap ((d, dictOf es n) :: (x, excO t (some d)) :: post)) (X : K.In s.heap) (hc : clsIn K 59 = some cd) (hh : cd.hasDict = true)
    (hne : ∀ q ∈ (x, excO t (some d)) :: post, q.1 ≠ d) (hk : es.all (fun e => !e.refKey) = true) (hz : es.length ≤ 900)
    (h : ∀ h', Fr h₀ L h' m → News h₀ L h' ((d, dictOf (putL name (PyData.keyHash w.params name) (.str name s.toks) v es) (putN name es n)) :: (x, excO t (some d)) :: post) → Q (.done (.ret .none)) { s with heap := h', toks := s.toks + 1 }) :
    wpAny (model prog w) A (storeInOwnDict (.ref x) (.ref 59) (.str name tk) name v b) Q E s := by
  have D := (N _ (.tail _ (.head _))).1
  unfold storeInOwnDict
  refine wpAny_bind (wpAny_pure ?_)
  rw [if_neg (show ¬ ((Value.ref 59 == Value.type "module") = true) by decide)]
  refine wpAny_bind ?_
  unfold ownDictForStores instanceDict
  refine wpAny_bind (wpAny_loadPart D ?_)
  dsimp only
  refine wpAny_bind ((looks_clsIn X hc).here ?_)
  rw [hh]
  refine wpAny_pure ?_
  exact nsSet_known F N hne hk hz h

theorem set_first {name : Str} {v : Value} {t : Addr} {Q : Unit → Shared → Prop} (F : Fr h₀ L s.heap m) (X₀ : K.In h₀) (N : News h₀ L s.heap ((x, excO t none) :: post)) (hc : clsIn K 59 = some cd) (hm : cd.mro = .ref 59 :: .ref 46 :: mroX) (hh : cd.hasDict = true)
    (hs : findIn K (.ref 59) "__setattr__" = some (some (.builtin "object.__setattr__"))) (ha : findIn K (.ref 59) name = some none) (hne : ∀ q ∈ post, q.1 ≠ x)
    (h : ∀ d h', (∀ q ∈ (x, excO t none) :: post, q.1 < d) → Fr h₀ L h' m → News h₀ L h' ((d, dictOf [⟨PyData.keyHash w.params name, .str name (s.toks + 1), v⟩] 1) :: (x, excO t (some d)) :: post) → Q () { s with heap := h', toks := s.toks + 2 }) :
    wpAny (model prog w) A (setAttr (.ref x) name v) Q E s := by
  have X := X₀.keeps F.keep
  have I : PySem.W.InstAt s.heap x (excO t none) 59 none := ⟨(N _ (.head _)).1, rfl, rfl, trivial⟩
  refine set_plain X I hs (exc_open (s := { s with toks := s.toks + 1 }) X I hc hm ha fun b => ?_)
  exact store_first (s := { s with toks := s.toks + 1 }) F N X hc hh hne fun d h' lt F' N' => h d h' lt F' N'
theorem set_next {name : Str} {v : Value} {t d : Addr} {es : List DictEntry} {n : Nat} {Q : Unit → Shared → Prop} (F : Fr h₀ L s.heap m) (X₀ : K.In h₀) (N : News h₀ L s.heap ((d, dictOf es n) :: (x, excO t (some d)) :: post)) (hc : clsIn K 59 = some cd) (hm : cd.mro = .ref 59 :: .ref 46 :: mroX) (hh : cd.hasDict = true)
    (hs : findIn K (.ref 59) "__setattr__" = some (some (.builtin "object.__setattr__"))) (ha : findIn K (.ref 59) name = some none) (hne : ∀ q ∈ (x, excO t (some d)) :: post, q.1 ≠ d) (hk : es.all (fun e => !e.refKey) = true) (hz : es.length ≤ 900)
    (h : ∀ h', Fr h₀ L h' m → News h₀ L h' ((d, dictOf (putL name (PyData.keyHash w.params name) (.str name (s.toks + 1)) v es) (putN name es n)) :: (x, excO t (some d)) :: post) → Q () { s with heap := h', toks := s.toks + 2 }) :
    wpAny (model prog w) A (setAttr (.ref x) name v) Q E s := by
  have X := X₀.keeps F.keep
  have I : PySem.W.InstAt s.heap x (excO t (some d)) 59 (some (dictOf es n)) := ⟨(N _ (.tail _ (.head _))).1, rfl, rfl, (N _ (.head _)).1⟩
  refine set_plain X I hs (exc_open (s := { s with toks := s.toks + 1 }) X I hc hm ha fun b => ?_)
  exact store_next (s := { s with toks := s.toks + 1 }) F N X hc hh hne hk hz fun h' F' N' => h h' F' N'

variable {nm q : Str} {N' : Addr} {bs : List Value} {hdct : Bool} {sn : List Str} {sub : List Value} {ab : Bool} {col : Option Bool} {dd : Option Addr} {k0 k1 k2 k3 k5 : Option Value}
theorem check_init {M : Model} {v : Value} {t : Addr} {h : Heap} {g : Array GenState} {d : Drawn} {tk : Nat} {os : OsState} {Q : Unit → Shared → Prop} (hC : h.get? 59 = some (excClassObj nm q 59 N' bs (.ref 46 :: mroX) hdct sn sub ab col dd k0 k1 k2 k3 k5 "Exception.__new__"))
    (he : h.get? x = some (excO t none)) (hq : Q () ⟨h, g, d, tk, os⟩) : wpAny M A (checkBuiltinCall "Exception.__init__" ⟨[.ref x, v], []⟩) Q E ⟨h, g, d, tk, os⟩ := by
  have F := PySem.F.excBase_Exception
  have hcB : (Value.ref 59 :: .ref 46 :: mroX).contains (.type "Exception") = true := by decide
  have hshort := F.noStar
  simp only [checkBuiltinCall, F.initKind, F.initSplit, F.initRow]
  repeat (first | with_reducible refine wpAny_loadPart_at he ?_ | with_reducible refine wpAny_loadPart_at hC ?_ | (with_reducible refine wpAny_isSubtype_exc hC ?_; rw [hcB]) | wp_step)
  exact hq
/-- Exception.__init__ upon it -/
theorem init_exc {v : Value} {t : Addr} (F : Fr h₀ L s.heap m) (X₀ : K.In h₀) (N : News h₀ L s.heap ((x, excO t none) :: post)) (hC : K.lookup 59 = some (excClassObj nm q 59 N' bs (.ref 46 :: mroX) hdct sn sub ab col dd k0 k1 k2 k3 k5 "Exception.__new__")) (hne : ∀ q ∈ post, q.1 ≠ x)
    (h : ∀ t' h', (∀ q ∈ (x, excO t none) :: post, q.1 < t') → Fr h₀ L h' m → News h₀ L h' ((x, excO t' none) :: (t', tupO [v] 0) :: post) → R (.ok (.ret .none)) { s with heap := h' }) :
    codeAny (model prog w) A (.call (.builtin "Exception.__init__") ⟨[.ref x, v], []⟩) R s := by
  have X := X₀.keeps F.keep
  have FB := PySem.F.excBase_Exception
  have D := (N _ (.head _)).1
  have I : PySem.W.InstAt s.heap x (excO t none) 59 none := ⟨D, rfl, rfl, trivial⟩
  have lt : ∀ q ∈ (x, excO t none) :: post, q.1 < s.heap.objs.size := fun q hq => Heap.lt_size (N q hq).1
  refine codeAny_call_builtin FB.init.plain FB.initEntry ?_
  show wpAny _ _ _ _ _ ⟨s.heap, s.gens, s.drawn, s.toks, s.os⟩
  refine check_init (X _ _ hC) D ?_
  show wpAny _ _ _ _ _ s
  unfold Builtin.«BaseException.__init__»
  refine wpAny_bind (wpAny_newTuple ?_)
  have F1 := F.push { cls := .type "tuple", data := .seq [v].toArray }
  have N1 := N.push F { cls := .type "tuple", data := .seq [v].toArray }
  have hx1 := Heap.get?_push_of_some { cls := .type "tuple", data := .seq [v].toArray } D
  have hlt : x < s.heap.objs.size := lt _ (.head _)
  obtain ⟨U1, U2⟩ := news_upd (pre := [(s.heap.objs.size, tupO [v] 0)]) (f := Obj.mapFields (·.setIfInBounds 0 (.ref s.heap.objs.size))) F1 N1 (fun q hq => by rw [List.mem_singleton.mp hq]; exact Nat.ne_of_gt hlt) hne (o' := excO s.heap.objs.size none) rfl rfl
  have hN : News h₀ L ((s.heap.push { cls := .type "tuple", data := .seq [v].toArray }).update x (Obj.mapFields (·.setIfInBounds 0 (.ref s.heap.objs.size)))) ((x, excO s.heap.objs.size none) :: (s.heap.objs.size, tupO [v] 0) :: post) := fun q hq => U2 q (by
    rcases List.mem_cons.mp hq with rfl | hq
    · exact .tail _ (.head _)
    · rcases List.mem_cons.mp hq with rfl | hq
      · exact .head _
      · exact .tail _ (.tail _ hq))
  have done := h _ _ lt U1 hN
  unfold bexcPut
  refine wpAny_bind (wpAny_bind (wpAny_field hx1 rfl rfl ?_))
  refine wpAny_bind (wpAny_setField hx1 rfl (by simp) ?_)
  refine wpAny_letGo ?_
  exact wpAny_pure done
end
end PEX
end JEX
section JEX2
open PySem PySem.W PyProof.Rows PySem.Calls Builtin Builtin.ObjectAttr Builtin.BaseException
section PEX2
variable {prog : Program} {w : World} {p : Program} {loose : List Str} {mean : ExcName → Option Value} {mg mb : Str → Option Value}
set_option maxRecDepth 100000
set_option maxHeartbeats 4000000
theorem hC59 : (kf w.params).lookup 59 = some (excClassObj (Str.ofString "WordFault") (Str.ofString "WordFault") 59 58 [Value.ref 46] (.ref 46 :: mroX) true [] [] false none none (some (Value.ref 50)) none (some (Value.str (Str.ofString "WordFault") 236)) (some (Value.str (Str.ofString "WordFault") 244)) (some (Value.bool true)) "Exception.__new__") := by k_is
theorem clsIn_of {K : Frag} {C N : Addr} {nm q : Str} {bs bm : List Value} {hdct : Bool} {sn : List Str} {sub : List Value} {ab : Bool} {col : Option Bool} {dd : Option Addr} {k0 k1 k2 k3 k5 : Option Value} {newId : String} (h : K.lookup C = some (excClassObj nm q C N bs bm hdct sn sub ab col dd k0 k1 k2 k3 k5 newId)) :
    clsIn K C = some { name := nm, bases := bs, mro := .ref C :: bm, ns := N, qualname := q, hasDict := hdct, slotNames := sn, subclasses := sub, abstract := ab, collection := col, hasDel := false } := by
  unfold clsIn
  rw [h]
theorem meta_exc : typeOf (.type "Exception") = pure (.type "type") := by with_unfolding_all rfl
theorem wd_EX2_0 : True := by
  k_with "getMethod type:Exception" => (k_here; refine' method_type ?F ?X ?m (by decide +kernel) ?e ?h ?_; (case F => k_asm); (case X => k_asm); (case m => exact meta_exc); (case e => k_dflt k_is); (case h => k_handed))
  k_with "call builtin:Exception.__init__" => (k_here; refine wpAny_call ?_; refine' init_exc ?F ?X ?N hC59 ?ne ?_; (case F => k_asm); (case X => k_asm); (case N => k_asm); (case ne => ktr_rel); (intro t' h' l1 F' N'; (try k_lt l1); (try k_sweep); (try dsimp only)))
  k_with "setAttr ref" => (k_here; refine' set_first ?F ?X ?N (clsIn_of hC59) rfl rfl ?hs ?ha ?ne ?_; (case F => k_asm); (case X => k_asm); (case N => k_asm); (case hs => k_is); (case ha => k_is); (case ne => ktr_rel); (intro d' h' l1 F' N'; (try k_lt l1); (try k_sweep); (try dsimp only)))
  k_with "setAttr ref" => (k_here; refine' set_next ?F ?X ?N (clsIn_of hC59) rfl rfl ?hs ?ha ?ne ?hk ?z ?_; (case F => k_asm); (case X => k_asm); (case N => k_asm); (case hs => k_is); (case ha => k_is); (case ne => ktr_rel); (case hk => rfl); (case z => simp); (intro h' F' N'; (try k_sweep); (try dsimp only)))
  trivial
theorem init36_spec (x t : Addr) (wh : Str) (tw : Nat) (i : Int) (ti : Nat) : Spec prog w (kf w.params) p loose mean mg mb 36 ⟨[.ref x, .str wh tw, .int i ti], []⟩ 3 [(x, excO t none)]
    (P4 (fun _ _ _ _ => .none) (fun d t' es n => [(d, dictOf es n), (x, excO t' (some d)), (t', tupO [.str wh tw] 0)]) (fun _ _ _ _ => True)) False := by
  refine' spec_of3 (rb := [("at", .int i ti), ("what", .str wh tw), ("self", .ref x)]) ?k1 ?k2 ?k3 ?k4 ?k5 ?k6 ?k7 ?k8 ?k9 ?_
  case k1 => k_is
  case k2 => k_is
  case k3 => first | exact fun s Xs => BindsTo.of_eq rfl | exact fun s Xs => binds_K Xs rfl (by k_is) rfl rfl rfl
  case k4 => exact locs rfl
  case k5 => exact rfl
  case k6 => exact rfl
  case k7 => exact rfl
  case k8 => decide
  case k9 => decide
  intro dp un gd envs base g L' h₁ gens drawn tk os R B F N X T lt hd hu ret exc eE aA
  k_fold
  (try k_lt lt)
  (try dsimp only)
  (try k_fold)
  k_steps
  all_goals (exact ret _ _ _ _ _ _ (by k_asm) (by k_asm) ⟨_, _, _, _, rfl, rfl, trivial⟩)

section
variable {h : Heap} {g : Array GenState} {d : Drawn} {t : Nat} {os : OsState} {A : Around} {M : Model} {E : Value → Shared → Prop} {rest : List Value} {R : Result → Shared → Prop}
noncomputable abbrev WFc : Obj := excClassObj (Str.ofString "WordFault") (Str.ofString "WordFault") 59 58 [Value.ref 46] (.ref 46 :: mroX) true [] [] false none none (some (Value.ref 50)) none (some (Value.str (Str.ofString "WordFault") 236)) (some (Value.str (Str.ofString "WordFault") 244)) (some (Value.bool true)) "Exception.__new__"
theorem new_check {Q : Unit → Shared → Prop} (hC : h.get? 59 = some WFc) (hq : Q () ⟨h, g, d, t, os⟩) : wpAny M A (checkBuiltinCall "Exception.__new__" ⟨.ref 59 :: rest, []⟩) Q E ⟨h, g, d, t, os⟩ := by
  have F := PySem.F.excBase_Exception
  have hcB : (Value.ref 59 :: .ref 46 :: mroX).contains (.type "Exception") = true := by decide
  have hstar := F.noStar
  simp only [checkBuiltinCall, F.newKind, F.newSplit, F.newRow]
  repeat (first | refine wpAny_loadPart_at hC ?_ | (refine wpAny_isSubtype_exc hC ?_; rw [hcB]) | refine wpAny_staticBase_exc hC ?_ | refine wpAny_madeBy_exc hC ?_ | simp only [bne_self_eq_false, Bool.false_eq_true, if_false] | wp_step)
  exact hq
theorem new_code (hC : h.get? 59 = some WFc)
    (hq : R (.ok (.ret (.ref (h.objs.size + 1)))) ⟨(h.push (tupO rest 0)).push (excO h.objs.size none), g, d, t, os⟩) (hrest : rest.length ≤ sizeLine) :
    codeAny (model prog w) A (.builtin "Exception.__new__" ⟨.ref 59 :: rest, []⟩) R ⟨h, g, d, t, os⟩ := by
  have F := PySem.F.excBase_Exception
  have hends := F.ends
  have hcB : (Value.ref 59 :: .ref 46 :: mroX).contains (.type "Exception") = true := by decide
  have hcA : (Value.ref 59 :: .ref 46 :: mroX).contains (.type "AttributeError") = false := by decide
  have hcN : (Value.ref 59 :: .ref 46 :: mroX).contains (.type "NameError") = false := by decide
  refine codeAny_builtinAt F.entry ?_
  unfold Builtin.«BaseException.__new__»
  refine PySem.wpAt_bind ?_
  show PySem.wpAt _ _ _ (stack >>= _) _ _ _
  refine PySem.wpAt_bind (PySem.wpAt_stack fun p below => PySem.wpAt_of_wpAny ?_)
  wp_walk
  refine PySem.wpAt_of_wpAny ?_
  rw [F.owner]
  repeat (first | with_reducible refine wpAny_madeHere_exc F.canon hC ?_ | with_reducible refine wpAny_loadPart_at hC ?_ | (with_reducible refine wpAny_isSubtype_exc hC ?_; first | rw [hcB] | rw [hcA] | rw [hcN]) | wp_step)
  show R _ _
  rw [Heap.size_push]
  exact hq
end
theorem type_call {A A₀ : Around} {base h₀ : Heap} {outer : List Env} {env : Env} {L : Addr} {m : Str → Option Value} {h : Heap} {g : Array GenState} {dr : Drawn} {tk : Nat} {os : OsState} {news : List (Addr × Obj)} {wh : Str} {tw : Nat} {i : Int} {ti : Nat} {Q : Fin → Shared → Prop} {E : Value → Shared → Prop}
    (B : Below A₀ base outer h₀) (F : Fr h₀ L h m) (X : (kf w.params).In h₀) (N : News h₀ L h news) (T : Top p loose mean mg mb h₀)
    (hA : A.frames = some (env :: outer)) (hh : A.handled = none) (hf : env.frame = some L) (hke : env.scope.kind = .function) (hd : A.depth + 3 < recursionLimit) (hu : A.units + 10 * 3 < cLine)
    (ret : ∀ e t d es n h' tk', Fr h₀ L h' m → News h₀ L h' ((d, dictOf es n) :: (e, excO t (some d)) :: (t, tupO [.str wh tw] 0) :: news) → AllLt e news → Q (.done (.ret (.ref e))) ⟨h', g, dr, tk', os⟩) :
    wpAny (model prog w) A (Builtin.«type.__call__» ⟨[.ref 59, .str wh tw, .int i ti], []⟩) Q E ⟨h, g, dr, tk, os⟩ := by
  have FB := PySem.F.excBase_Exception
  have Xs := X.keeps F.keep
  have hC : h.get? 59 = some WFc := Xs _ _ hC59
  repeat (first | with_reducible refine wpAny_loadPart_at hC ?_ | with_reducible refine wpAny_madeBy_exc hC ?_ | wp_step)
  refine codeAny_call_builtin_code (Code.quiet_builtin _ FB.quiet) (new_check hC ?_)
  refine new_code hC ?_ (by rw [sizeLine_eq]; simp)
  show wpAny _ _ _ _ _ _
  have F2 := (F.push (tupO [.str wh tw, .int i ti] 0)).push (excO h.objs.size none)
  have N2 := (N.push F (tupO [.str wh tw, .int i ti] 0)).push (F.push _) (excO h.objs.size none)
  rw [Heap.size_push] at N2
  have hget := (N2 _ (.head _)).1
  have hC₁ := (X.keeps F2.keep) _ _ hC59
  have hcC : (Value.ref 59 :: .ref 46 :: mroX).contains (.ref 59) = true := by decide
  unfold isInstance
  repeat (first | with_reducible refine wpAny_loadPart_at hget ?_ | (with_reducible refine wpAny_isSubtype_exc hC₁ ?_; rw [hcC]) | wp_step)
  have Xs₁ := X.keeps F2.keep
  refine (looks_findIn Xs₁ (show findIn (kf w.params) (.ref 59) "__init__" = some (some (.ref 36)) by k_is)).here ?_
  refine wpAny_holding (wpAny_bind ((bind_fn Xs₁ _ (show typeIn (kf w.params) (.ref 36) = some (.type "function") by k_is)).here ?_))
  refine wpAny_bind ?_
  refine (?_ : wpAny _ _ (PySem.call (.ref 36) [.ref (h.objs.size + 1), .str wh tw, .int i ti]) _ _ _)
  have lt : ∀ q ∈ news, q.1 < h.objs.size := fun q hq => Heap.lt_size (N q hq).1
  refine Spec.call4 (rest := (h.objs.size, tupO [.str wh tw, .int i ti] 0) :: news) (init36_spec (h.objs.size + 1) h.objs.size wh tw i ti) B F2 X N2 T hA hh hf hke hd hu (fun q hq => ?_) ?_ ?_ (fun h => h.elim)
  · rw [List.mem_singleton.mp hq]; exact .head _
  · refine .skip (.head _) (.keep (fun a ha => ?_) (.all fun q hq a ha => ?_))
    · rw [List.mem_singleton.mp ha]; exact Nat.ne_of_lt (Nat.lt_succ_self _)
    · rw [List.mem_singleton.mp ha]; exact Nat.ne_of_lt (Nat.lt_succ_of_lt (lt q hq))
  · rintro d t' es n h' tk' - F' N' - -
    refine wpAny_pure ?_
    refine (?_ : wpAny _ _ (PySem.ret (Value.ref (h.objs.size + 1))) _ _ _)
    refine wpAny_pure (ret _ t' d es n _ _ F' (news_mono N' fun q hq => ?_) (allLt_of fun q hq => Nat.lt_succ_of_lt (lt q hq)))
    rcases List.mem_cons.mp hq with rfl | hq
    · exact .head _
    · rcases List.mem_cons.mp hq with rfl | hq
      · exact .tail _ (.head _)
      · rcases List.mem_cons.mp hq with rfl | hq
        · exact .tail _ (.tail _ (.head _))
        · exact .tail _ (.tail _ (.tail _ (.tail _ hq)))

/-- the exception made -/
theorem call_WF {A A₀ : Around} {base h₀ : Heap} {outer : List Env} {env : Env} {L : Addr} {m : Str → Option Value} {s : Shared} {news : List (Addr × Obj)} {wh : Str} {tw : Nat} {i : Int} {ti : Nat} {Q E : Value → Shared → Prop}
    (B : Below A₀ base outer h₀) (F : Fr h₀ L s.heap m) (X : (kf w.params).In h₀) (N : News h₀ L s.heap news) (T : Top p loose mean mg mb h₀)
    (hA : A.frames = some (env :: outer)) (hh : A.handled = none) (hf : env.frame = some L) (hke : env.scope.kind = .function) (hd : A.depth + 4 < recursionLimit) (hu : A.units + 10 * 4 < cLine)
    (ret : ∀ e t d es n h' tk', Fr h₀ L h' m → News h₀ L h' ((d, dictOf es n) :: (e, excO t (some d)) :: (t, tupO [.str wh tw] 0) :: news) → AllLt e news → Q (.ref e) { s with heap := h', toks := tk' }) :
    wpAny (model prog w) A (PySem.call (.ref 59) [.str wh tw, .int i ti]) Q E s := by
  first | ((have h := And.left s); (have g := And.left (And.right s)); (have dr := And.left (And.right (And.right s))); (have tk := And.left (And.right (And.right (And.right s)))); (have os := (And.right (And.right (And.right (And.right s))))); clear s) | obtain ⟨h, g, dr, tk, os⟩ := s
  have hC : h.get? 59 = some WFc := (X.keeps F.keep) _ _ hC59
  have f1 := tc_lookup
  have f2 := tc_bind (.ref 59)
  have hT : (⟨h, g, dr, tk, os⟩ : Shared).TypeIs (.ref 59) "type" := ⟨_, hC, rfl⟩
  refine wpAny_call (codeAny_of_tree ?_)
  show wpAny _ _ (callAny (.ref 59) _) _ _ _
  repeat (any_goals (first | assumption | with_reducible refine wpAny_loadPart_at hC ?_ | wp_step))
  refine ⟨rfl, ?_⟩
  refine codeAny_call_builtin_at (Code.quiet_builtin _ (by decide +kernel)) entry_typeCall (wpAny_check_type_call_sub hC (type_call B F X N T ?_ ?_ hf hke ?_ ?_ fun e t d es n h' tk' F' N' l => ?_))
  · exact hA
  · exact hh
  · show A.depth + 1 + 3 < recursionLimit
    omega
  · show A.units + 1 + 10 * 3 < cLine
    omega
  · exact ret e t d es n h' tk' F' N' l

noncomputable def RaiseAt (E : Value → Shared → Prop) (v : Value) (s₁ : Shared) : Prop :=
  ∃ e t d, v = .ref e ∧ s₁.heap.get? e = some (excO t (some d)) ∧ s₁.heap.get? 59 = some WFc ∧ E (.ref e) s₁
theorem raise_intro {h₀ : Heap} {L : Addr} {m : Str → Option Value} {s : Shared} {news : List (Addr × Obj)} {e t d : Addr} {E : Value → Shared → Prop} (F : Fr h₀ L s.heap m) (X : (kf w.params).In h₀) (N : News h₀ L s.heap news) (he : (e, excO t (some d)) ∈ news) (h : E (.ref e) s) : RaiseAt E (.ref e) s :=
  ⟨e, t, d, rfl, (N _ he).1, (X.keeps F.keep) _ _ hC59, h⟩
theorem raise_stmt {M : Model} {A : Around} {E : Value → Shared → Prop} {s : Shared} {env : Env} {x : Expr} {pos : Pos} {Q : Flow → Shared → Prop} (hh : A.handled = none) (h : wpAny M A (eval x env) (RaiseAt E) E s) :
    wpAny M A (exec (.Raise (some x) none pos) env) Q E s := by
  rw [arm_exec_Raise]
  have hcB : (Value.ref 59 :: .ref 46 :: mroX).contains (.type "BaseException") = true := by decide
  refine wpAny_bind (wpAny_standAt ?_)
  rw [PySem.arm_evalOpt_some, show evalOpt none env = none from rfl, Option.map_some, Option.map_none]
  unfold raiseStmt
  refine wpAny_bind ?_
  refine wpAny_bind (wpAny_mono h (fun v s₁ h₁ => ?_) fun _ _ x => x)
  refine wpAny_bind (wpAny_standAt (wpAny_pure ?_))
  obtain ⟨e, t, d, rfl, he, hC, hE⟩ := h₁
  first | ((have hp := And.left s₁); (have g := And.left (And.right s₁)); (have dr := And.left (And.right (And.right s₁))); (have tk := And.left (And.right (And.right (And.right s₁)))); (have os := (And.right (And.right (And.right (And.right s₁))))); clear s₁) | obtain ⟨hp, g, dr, tk, os⟩ := s₁
  repeat (first | with_reducible refine wpAny_loadPart_at he ?_ | with_reducible refine wpAny_loadPart_at hC ?_ | (with_reducible refine wpAny_isSubtype_exc hC ?_; rw [hcB]) | wp_step)
  exact wpAny_raiseNew_none hh hE
theorem leave_WF {M : Model} {A : Around} {E : Value → Shared → Prop} {s' : Shared} {base g : Heap} {outer : List Env} {L a e t d : Addr} {m : Str → Option Value} {name : Str} {scope : Scope} {cd : Value} {Q : Unit → Shared → Prop} {news : List (Addr × Obj)} {l : List Value} {k : Nat}
    (K : Below A base outer g) (F : Fr g L s'.heap m) (N : News g L s'.heap news) (he : (e, excO t (some d)) ∈ news) (ht : (t, tupO l k) ∈ news)
    (hQ : ∀ h' t, RaisedK base outer e (.ref 59) t l [] h' → g.UpToSlots h' → Q () { s' with heap := h' }) (hk : scope.kind = .function) :
    wpAny M (A.deeper (envOf name scope L a cd)) (leaving (envOf name scope L a cd) (.ref e)) Q E s' := by
  have K' := K.push (name := name) (a := a) (cd := cd) F hk
  have fresh : ∀ b o, (b, o) ∈ news → base.get? b = none := fun b o hb => fresh_of_stays K.stays (N _ hb).2.2
  refine wpAny_leaving_firstW (a0 := .ref t) (Around.frames_deeper K.stack) K'.frames rfl (N _ he).1 K'.stays (fresh _ _ he) rfl rfl rfl fun h' hL => ?_
  obtain ⟨k1, ⟨_, _, k2⟩, k3, k4⟩ := hL
  refine hQ h' t ⟨⟨base, fun _ _ e => e, fun _ hq => (nomatch hq), ⟨k1, fresh _ _ he, k2, k3⟩, fresh _ _ ht⟩, Heap.TupAt.of_slots ⟨_, _, (N _ ht).1, rfl, rfl⟩ k4⟩ ?_
  exact (Heap.UpToSlots.of_keeps F.keep).trans k4
end PEX2
end JEX2
section JRB
open PySem PySem.W PyProof.Rows PySem.Calls
namespace BM
open Builtin
set_option maxRecDepth 100000
set_option maxHeartbeats 2000000
theorem slot_find : Slot "bytes" "find" "bytes.find" :=
  .of (owner := "bytes") (n := "find") (by rw [typeLookup_type, builtinLookup_eq_fast]; kernel_rfl) (by decide +kernel) (by decide +kernel) (by decide +kernel)
    (by first | exact .inl (by decide +kernel) | exact .inr (by decide +kernel)) (by rw [isSubtype_type]; kernel_rfl)
theorem type_find : typeOf (.builtin "bytes.find") = pure (.type "method_descriptor") := by show builtinType _ = _; rw [builtinType_eq_fast]; kernel_rfl
theorem entry_find : entryFor table "bytes.find" = some Builtin.«bytes.find» := entryFor_of_tree (by kernel_rfl)
theorem args_find (a b c d : Value) : argsOk "bytes.find" ⟨[a, b, c, d], []⟩ := by
  unfold argsOk; rw [signature?_of (id := "bytes.find") (n := ['d', 'n', 'i', 'f']) (o := ['s', 'e', 't', 'y', 'b']) (by kernel_rfl) FB.owner_bytes]; kernel_rfl
theorem slot_join : Slot "bytes" "join" "bytes.join" :=
  .of (owner := "bytes") (n := "join") (by rw [typeLookup_type, builtinLookup_eq_fast]; kernel_rfl) (by decide +kernel) (by decide +kernel) (by decide +kernel)
    (by first | exact .inl (by decide +kernel) | exact .inr (by decide +kernel)) (by rw [isSubtype_type]; kernel_rfl)
theorem type_join : typeOf (.builtin "bytes.join") = pure (.type "method_descriptor") := by show builtinType _ = _; rw [builtinType_eq_fast]; kernel_rfl
theorem entry_join : entryFor table "bytes.join" = some Builtin.«bytes.join» := entryFor_of_tree (by kernel_rfl)
theorem args_join (a b : Value) : argsOk "bytes.join" ⟨[a, b], []⟩ := by
  unfold argsOk; rw [signature?_of (id := "bytes.join") (n := ['n', 'i', 'o', 'j']) (o := ['s', 'e', 't', 'y', 'b']) (by kernel_rfl) FB.owner_bytes]; kernel_rfl
theorem slot_strip : Slot "bytes" "strip" "bytes.strip" :=
  .of (owner := "bytes") (n := "strip") (by rw [typeLookup_type, builtinLookup_eq_fast]; kernel_rfl) (by decide +kernel) (by decide +kernel) (by decide +kernel)
    (by first | exact .inl (by decide +kernel) | exact .inr (by decide +kernel)) (by rw [isSubtype_type]; kernel_rfl)
theorem type_strip : typeOf (.builtin "bytes.strip") = pure (.type "method_descriptor") := by show builtinType _ = _; rw [builtinType_eq_fast]; kernel_rfl
theorem entry_strip : entryFor table "bytes.strip" = some Builtin.«bytes.strip» := entryFor_of_tree (by kernel_rfl)
theorem args_strip (a b : Value) : argsOk "bytes.strip" ⟨[a, b], []⟩ := by
  unfold argsOk; rw [signature?_of (id := "bytes.strip") (n := ['p', 'i', 'r', 't', 's']) (o := ['s', 'e', 't', 'y', 'b']) (by kernel_rfl) FB.owner_bytes]; kernel_rfl
theorem slot_split : Slot "bytes" "split" "bytes.split" :=
  .of (owner := "bytes") (n := "split") (by rw [typeLookup_type, builtinLookup_eq_fast]; kernel_rfl) (by decide +kernel) (by decide +kernel) (by decide +kernel)
    (by first | exact .inl (by decide +kernel) | exact .inr (by decide +kernel)) (by rw [isSubtype_type]; kernel_rfl)
theorem type_split : typeOf (.builtin "bytes.split") = pure (.type "method_descriptor") := by show builtinType _ = _; rw [builtinType_eq_fast]; kernel_rfl
theorem entry_split : entryFor table "bytes.split" = some Builtin.«bytes.split» := entryFor_of_tree (by kernel_rfl)
theorem args_split (a b c : Value) : argsOk "bytes.split" ⟨[a, b, c], []⟩ := by
  unfold argsOk; rw [signature?_of (id := "bytes.split") (n := ['t', 'i', 'l', 'p', 's']) (o := ['s', 'e', 't', 'y', 'b']) (by kernel_rfl) FB.owner_bytes]; kernel_rfl
theorem slot_index : Slot "bytes" "index" "bytes.index" :=
  .of (owner := "bytes") (n := "index") (by rw [typeLookup_type, builtinLookup_eq_fast]; kernel_rfl) (by decide +kernel) (by decide +kernel) (by decide +kernel)
    (by first | exact .inl (by decide +kernel) | exact .inr (by decide +kernel)) (by rw [isSubtype_type]; kernel_rfl)
theorem type_index : typeOf (.builtin "bytes.index") = pure (.type "method_descriptor") := by show builtinType _ = _; rw [builtinType_eq_fast]; kernel_rfl
theorem entry_index : entryFor table "bytes.index" = some Builtin.«bytes.index» := entryFor_of_tree (by kernel_rfl)
theorem args_index (a b : Value) : argsOk "bytes.index" ⟨[a, b], []⟩ := by
  unfold argsOk; rw [signature?_of (id := "bytes.index") (n := ['x', 'e', 'd', 'n', 'i']) (o := ['s', 'e', 't', 'y', 'b']) (by kernel_rfl) FB.owner_bytes]; kernel_rfl

section
variable {prog : Program} {w : World} {A : Around} {E : Value → Shared → Prop} {s : Shared} {M : Model} {pl : Sem Bool}
theorem m_find {b : Array UInt8} {t : Tok} {Q : Value × List Value → Shared → Prop} (h : Q (.builtin "bytes.find", [.bytes b t]) s) : wpAny M A (getMethod (.bytes b t) "find" pl) Q E s := by
  with_reducible exact KBd.method_of (.bytes b t) (typeIs_bytes _ _ _) slot_find type_find KBd.noRef h
theorem m_join {b : Array UInt8} {t : Tok} {Q : Value × List Value → Shared → Prop} (h : Q (.builtin "bytes.join", [.bytes b t]) s) : wpAny M A (getMethod (.bytes b t) "join" pl) Q E s := by
  with_reducible exact KBd.method_of (.bytes b t) (typeIs_bytes _ _ _) slot_join type_join KBd.noRef h
theorem m_strip {b : Array UInt8} {t : Tok} {Q : Value × List Value → Shared → Prop} (h : Q (.builtin "bytes.strip", [.bytes b t]) s) : wpAny M A (getMethod (.bytes b t) "strip" pl) Q E s := by
  with_reducible exact KBd.method_of (.bytes b t) (typeIs_bytes _ _ _) slot_strip type_strip KBd.noRef h
theorem m_split {b : Array UInt8} {t : Tok} {Q : Value × List Value → Shared → Prop} (h : Q (.builtin "bytes.split", [.bytes b t]) s) : wpAny M A (getMethod (.bytes b t) "split" pl) Q E s := by
  with_reducible exact KBd.method_of (.bytes b t) (typeIs_bytes _ _ _) slot_split type_split KBd.noRef h
theorem m_index {b : Array UInt8} {t : Tok} {Q : Value × List Value → Shared → Prop} (h : Q (.builtin "bytes.index", [.bytes b t]) s) : wpAny M A (getMethod (.bytes b t) "index" pl) Q E s := by
  with_reducible exact KBd.method_of (.bytes b t) (typeIs_bytes _ _ _) slot_index type_index KBd.noRef h
end

theorem bound_int (i : Int) (u : Tok) {M : Model} {A : Around} {E : Value → Shared → Prop} {s : Shared} {Q : Option Int → Shared → Prop} (h : Q (some i) s) : wpAny M A (Bytes.bound? (some (.int i u))) Q E s := by
  unfold Bytes.bound?
  refine wpAny_bind (wpAny_specialOf (T := "int") (typeIs_int _ _ _) F.slot_int_index.lookup ?_)
  exact wpAny_bind (wpAny_pure (wpAny_pure h))

noncomputable def findI (b sub : Array UInt8) (lo hi : Nat) : Int := match Bytes.find? b sub lo hi with | some i => (i : Int) | none => -1
/-- bytes.find with two bounds in the data -/
theorem meets_find (b sub : Array UInt8) (t u v x : Tok) (lo hi : Nat) (h1 : lo ≤ b.size) (h2 : hi ≤ b.size) (hs : sub.size = 1) (hlh : lo ≤ hi) :
    Meets («bytes.find» ⟨[.bytes b t, .bytes sub u, .int (lo : Int) v, .int (hi : Int) x], []⟩) (fun _ R s => ∀ t' k, R (.ok (.ret (.int (findI b sub lo hi) t'))) { s with toks := k }) := by
  refine .of_wp fun prog w A R s h => ?_
  unfold «bytes.find» Bytes.searchM
  refine wpAny_bind ?_
  unfold Bytes.searchArgs
  refine wpAny_bind (wpAny_of_eq (a := (Value.bytes b t, [Value.bytes sub u, .int (lo : Int) v, .int (hi : Int) x])) rfl ?_)
  refine wpAny_bind (bound_int _ _ ?_)
  refine wpAny_bind (bound_int _ _ ?_)
  refine wpAny_bind (wpAny_of_eq KBy.buffer_eq ?_)
  refine wpAny_bind (wpAny_pure ?_)
  refine wpAny_bind (wpAny_of_eq (a := b) rfl ?_)
  have hw : Bytes.window b.size (some (lo : Int)) (some (hi : Int)) = ((lo : Int), (hi : Int)) := by
    unfold Bytes.window
    have a1 : ¬ ((lo : Int) < 0) := by omega
    have a2 : ¬ ((hi : Int) < 0) := by omega
    simp only [Option.getD_some, a1, a2, if_false]
    rw [Int.min_eq_right (by omega)]
  rw [hw]
  refine wpAny_pure ?_
  dsimp only
  by_cases hq : (hi : Int) - (lo : Int) < (sub.size : Int)
  · rw [if_pos hq]
    have e : lo = hi := by omega
    subst e
    have hf : findI b sub lo lo = -1 := by
      unfold findI Bytes.find?
      rw [show lo + 1 - (lo + sub.size) = 0 by omega]
      rfl
    rw [hf] at h
    refine wpAny_bind (wpAny_rule (wpAny_bind (wpAny_mkInt (wpAny_pure ⟨_, rfl, h _ _⟩))))
  · rw [if_neg hq]
    simp only [Option.bind_some, Int.toNat_natCast, Bool.false_eq_true, if_false]
    unfold findI at h
    split
    · rename_i i hi'
      rw [hi'] at h
      exact wpAny_bind (wpAny_mkInt (wpAny_pure ⟨_, rfl, h _ _⟩))
    · rename_i hi'
      rw [hi'] at h
      exact wpAny_bind (wpAny_rule (wpAny_bind (wpAny_mkInt (wpAny_pure ⟨_, rfl, h _ _⟩))))

theorem like_eq {id : String} {b : Array UInt8} {t : Tok} : Bytes.bytesLike id (.bytes b t) = pure b := by
  unfold Bytes.bytesLike
  rw [KBy.buffer_eq]
  rfl
noncomputable def stripB (b : Array UInt8) (set : Array UInt8) : Array UInt8 := (((b.toList.dropWhile set.contains).reverse.dropWhile set.contains).reverse).toArray
theorem meets_strip (b set : Array UInt8) (t u : Tok) (hz : b.size ≤ 16777216) :
    Meets («bytes.strip» ⟨[.bytes b t, .bytes set u], []⟩) (fun _ R s => ∀ t' k, R (.ok (.ret (.bytes (stripB b set) t'))) { s with toks := k }) := by
  refine .of_wp fun prog w A R s h => ?_
  unfold «bytes.strip» Bytes.stripM
  refine wpAny_bind (wpAny_of_eq (a := (Value.bytes b t, [Value.bytes set u])) rfl ?_)
  refine wpAny_bind ?_
  refine wpAny_of_eq like_eq ?_
  refine wpAny_bind (wpAny_pure ?_)
  refine wpAny_bind (wpAny_of_eq (a := b) rfl ?_)
  dsimp only
  have key : (((b.toList.dropWhile set.contains).reverse.dropWhile set.contains).reverse).length ≤ b.size ∧ ((((b.toList.dropWhile set.contains).reverse.dropWhile set.contains).reverse).length = b.size → stripB b set = b) := by
    have l0 : b.toList.length = b.size := Array.length_toList
    have l1 : (b.toList.dropWhile set.contains).length ≤ b.toList.length := (List.dropWhile_sublist _).length_le
    have l2 : ((b.toList.dropWhile set.contains).reverse.dropWhile set.contains).length ≤ (b.toList.dropWhile set.contains).reverse.length := (List.dropWhile_sublist _).length_le
    rw [List.length_reverse] at l2 ⊢
    refine ⟨by omega, fun e' => ?_⟩
    have h3 : b.toList.dropWhile set.contains = b.toList := (List.dropWhile_sublist _).eq_of_length (by omega)
    unfold stripB
    rw [h3] at e' ⊢
    have h4 : b.toList.reverse.dropWhile set.contains = b.toList.reverse := (List.dropWhile_sublist _).eq_of_length (by rw [List.length_reverse]; omega)
    rw [h4]; simp
  refine wpAny_ite ?_
  by_cases e : (((b.toList.dropWhile set.contains).reverse.dropWhile set.contains).reverse).length = b.size
  · refine ite_pos (beq_iff_eq.mpr e) ?_
    have hs := key.2 e
    rw [hs] at h
    refine wpAny_bind (wpAny_rule ?_)
    refine wpAny_bind ?_
    unfold Bytes.Kind.same
    refine (?_ : wpAny _ _ (pure (Value.bytes b t)) _ _ _)
    exact wpAny_pure (wpAny_pure ⟨_, rfl, h t s.toks⟩)
  · refine ite_neg (fun hc => e (beq_iff_eq.mp hc)) ?_
    refine wpAny_bind ?_
    refine (?_ : wpAny _ _ (mkBytes (stripB b set)) _ _ _)
    unfold mkBytes
    have hz' : ¬ (stripB b set).size > sizeLine := by
      rw [sizeLine_eq]
      have := key.1
      unfold stripB
      rw [List.size_toArray]
      omega
    rw [if_neg hz']
    exact wpAny_bind (wpAny_fresh (wpAny_pure (wpAny_pure ⟨_, rfl, h _ _⟩)))

theorem asIndex_int (i : Int) (u : Tok) : asIndex (.int i u) = pure i := rfl
theorem meets_contains (b : Array UInt8) (i : Int) (t u : Tok) (h0 : 0 ≤ i) (h1 : i < 256) :
    Meets («bytes.__contains__» ⟨[.bytes b t, .int i u], []⟩) (fun _ R s => R (.ok (.ret (.bool (b.contains i.toNat.toUInt8)))) s) := by
  refine .of_wp fun prog w A R s h => ?_
  unfold «bytes.__contains__»
  refine wpAny_bind (wpAny_of_eq (a := (Value.bytes b t, [Value.int i u])) rfl ?_)
  refine wpAny_bind ?_
  unfold Bytes.containsIn
  refine wpAny_bind (wpAny_of_eq (a := Except.ok i) (by rw [asIndex_int]; rfl) ?_)
  refine wpAny_bind (wpAny_of_eq KBy.buffer_eq ?_)
  dsimp only
  have e : (decide (i < 0) || decide (i ≥ 256)) = false := by simp; omega
  rw [e]
  exact wpAny_pure (wpAny_pure ⟨_, rfl, h⟩)

noncomputable def catB (l : List (Array UInt8)) : Array UInt8 := (l.map (·.toList)).flatten.toArray
theorem joined_nil (l : List (Array UInt8)) : Bytes.joined #[] l = catB l := by
  unfold Bytes.joined catB
  have key : ∀ (l : List (Array UInt8)) (k : Nat) (acc : Array UInt8), (l.zipIdx k).foldl (fun out (p : Array UInt8 × Nat) => (if p.2 > 0 then out ++ #[] else out) ++ p.1) acc = acc ++ (l.map (·.toList)).flatten.toArray := by
    intro l
    induction l with
    | nil => intro k acc; simp
    | cons a l ih =>
      intro k acc
      rw [List.zipIdx_cons, List.foldl_cons, ih]
      apply Array.ext'
      simp
  have := key l 0 #[]
  simpa using this

theorem quietTake_eq {id : String} {b : Array UInt8} {t : Tok} {fl : Int} : Bytes.takeBufferQuiet? id (.bytes b t) fl = pure (some (b, none)) := by
  have own : Bytes.slotIsOwn (.bytes b t) "__buffer__" = pure true := KBy.own_buffer
  unfold Bytes.takeBufferQuiet? Bytes.takeBuffer?
  rw [KBy.special_eq KBy.look_buffer, own]
  simp only [pure_bind, Bool.not_true, Bool.false_eq_true, if_false]
  have e : ∀ f, Bytes.buffer? id (.bytes b t) f = pure (some b) := by
    intro f
    unfold Bytes.buffer?
    rw [KBy.special_eq KBy.look_buffer, own, KBy.own_release]
    rfl
  rw [e]
  rfl
noncomputable def ByOf (v : Value) (b : Array UInt8) : Prop := ∃ t, v = .bytes b t
inductive BysAre : List Value → List (Array UInt8) → Prop
  | nil : BysAre [] []
  | cons (b : Array UInt8) (t : Tok) {vs bs} : BysAre vs bs → BysAre (.bytes b t :: vs) (b :: bs)
theorem BysAre.snoc {vs : List Value} {bs : List (Array UInt8)} (h : BysAre vs bs) (b : Array UInt8) (t : Tok) : BysAre (vs ++ [.bytes b t]) (bs ++ [b]) := by
  induction h with
  | nil => exact .cons b t .nil
  | cons c u _ ih => exact .cons c u ih
theorem BysAre.length {vs : List Value} {bs : List (Array UInt8)} (h : BysAre vs bs) : vs.length = bs.length := by
  induction h with
  | nil => rfl
  | cons _ _ _ ih => simp [ih]
theorem BysAre.get {vs : List Value} {bs : List (Array UInt8)} (h : BysAre vs bs) : ∀ i (hi : i < bs.length), ∃ t, vs[i]? = some (.bytes (bs[i]) t) := by
  induction h with
  | nil => intro i hi; exact absurd hi (Nat.not_lt_zero _)
  | cons c u _ ih =>
    intro i hi
    cases i with
    | zero => exact ⟨u, rfl⟩
    | succ i =>
      obtain ⟨t, e⟩ := ih i (by simpa using hi)
      exact ⟨t, by simpa using e⟩
theorem joinLetGo_any {M : Model} {A : Around} {E : Value → Shared → Prop} {s : Shared} {Q : Unit → Shared → Prop} (keep : List Value) (h : Q () s) : ∀ (taken : List (Value × Option Value)), (∀ p ∈ taken, p.2 = none) → wpAny M A (Bytes.joinLetGo taken keep) Q E s
  | [], _ => wpAny_pure h
  | (x, w) :: rest, hw => by
    have e : w = none := hw _ (.head _)
    subst e
    unfold Bytes.joinLetGo
    refine wpAny_bind (wpAny_letGo ?_)
    exact joinLetGo_any keep h rest fun p hp => hw p (.tail _ hp)
/-- b''.join of a list of bytes -/
theorem meets_join {D : Addr} {vs : List Value} {bs : List (Array UInt8)} {c : Nat} (t : Tok) (hb : BysAre vs bs) (hz : (catB bs).size ≤ 16777216) :
    Meets («bytes.join» ⟨[.bytes #[] t, .ref D], []⟩) (fun _ R s => s.heap.get? D = some { cls := .type "list", data := .seq vs.toArray c } ∧ ∀ t' k, R (.ok (.ret (.bytes (catB bs) t'))) { s with toks := k }) := by
  refine .of_wp fun prog w A R s hS => ?_
  obtain ⟨hD, h⟩ := hS
  delta «bytes.join» Bytes.joinM
  refine wpAny_bind (wpAny_of_eq (a := (Value.bytes #[] t, Value.ref D)) rfl ?_)
  have hT : s.TypeIs (.ref D) "list" := ⟨_, hD, rfl⟩
  refine wpAny_bind (?_ : wpAny _ _ (Bytes.joinItems (.ref D)) _ _ _)
  unfold Bytes.joinItems
  refine wpAny_bind (wpAny_typeOf hT ?_)
  refine (?_ : wpAny _ _ (pure (Value.ref D)) _ _ _)
  refine wpAny_pure ?_
  refine wpAny_bind (wpAny_seqItems hD rfl ?_)
  have hlen := hb.length
  have hget := hb.get
  have heap : ∀ b' t', vs = [.bytes b' t'] → bs = [b'] := fun b t' e => by
    subst e
    cases hb with
    | cons _ _ hr => cases hr; rfl
  have only : ∀ v, vs = [v] → ∃ b' t', v = .bytes b' t' := fun v e => by
    subst e
    cases hb with
    | cons b' t' hr => exact ⟨b', t', rfl⟩
  clear hb
  match hvs : vs with
  | [v] =>
    obtain ⟨b', t', rfl⟩ := only v rfl
    obtain rfl := heap b' t' rfl
    refine wpAny_bind (wpAny_of_eq (a := Value.type "bytes") rfl ?_)
    refine (?_ : wpAny _ _ (rule _ >>= fun _ => ret (.bytes b' t')) _ _ _)
    have e : catB [b'] = b' := by simp [catB]
    rw [e] at h
    exact wpAny_bind (wpAny_rule (wpAny_pure ⟨_, rfl, h _ _⟩))
  | [] =>
    obtain rfl : bs = [] := by cases bs with
      | nil => rfl
      | cons a r => simp at hlen
    refine wpAny_bind ?_
    rw [Std.Legacy.Range.forIn_eq_forIn_range']
    refine (?_ : wpAny _ _ (pure (#[], [])) _ _ _)
    refine wpAny_pure ?_
    refine wpAny_bind (wpAny_of_eq (a := (#[] : Array UInt8)) rfl ?_)
    refine (?_ : wpAny _ _ (mkBytes #[] >>= _) _ _ _)
    refine wpAny_bind ?_
    unfold mkBytes
    rw [if_neg (by rw [sizeLine_eq]; decide)]
    refine wpAny_bind (wpAny_fresh (wpAny_pure ?_))
    refine wpAny_bind (wpAny_holding (wpAny_point ?_))
    refine wpAny_bind (joinLetGo_any _ ?_ [] (by simp))
    exact wpAny_pure ⟨_, rfl, h _ _⟩
  | x :: y :: r =>
    refine wpAny_bind ?_
    rw [Std.Legacy.Range.forIn_eq_forIn_range']
    refine wpAny_forIn_list _ (fun rest (p : Array (Array UInt8) × List (Value × Option Value)) s' => s' = s ∧ ∃ k, k ≤ bs.length ∧ rest = List.range' k (bs.length - k) ∧ p.1.toList = bs.take k ∧ ∀ q ∈ p.2, q.2 = none ∧ q.1.onHeap = false) _ ?_ ?_ _ _ ⟨rfl, 0, Nat.zero_le _, ?_, rfl, by simp⟩
    · rintro i rest ⟨parts, taken⟩ s' ⟨rfl, k, hk, hr, hp, ht⟩
      have hkn : k < bs.length := by
        rcases Nat.lt_or_ge k bs.length with q | q
        · exact q
        · rw [Nat.sub_eq_zero_of_le q] at hr; cases hr
      have hr' : i = k ∧ rest = List.range' (k + 1) (bs.length - (k + 1)) := by
        rw [show bs.length - k = (bs.length - (k + 1)) + 1 by omega, List.range'_succ] at hr
        cases hr
        exact ⟨rfl, rfl⟩
      obtain ⟨rfl, rfl⟩ := hr'
      obtain ⟨u, hu⟩ := hget i hkn
      have hx : (x :: y :: r).toArray.getD i Value.none = .bytes bs[i] u := by
        have : i < (x :: y :: r).length := by rw [hlen]; exact hkn
        rw [Array.getD_eq_getD_getElem?, List.getElem?_toArray, hu]
        rfl
      refine wpAny_bind (wpAny_seqItems hD rfl ?_)
      dsimp only
      rw [hx]
      have hany : (Bytes.Kind.bytes == Bytes.Kind.bytearray || taken.any fun x => x.1.onHeap) = false := by
        have : taken.any (fun x => x.1.onHeap) = false := by
          rw [List.any_eq_false]
          intro q hq
          rw [(ht q hq).2]; simp
        rw [this]; rfl
      rw [hany]
      refine wpAny_ite (ite_neg Bool.false_ne_true ?_)
      refine wpAny_bind (wpAny_holding (wpAny_of_eq quietTake_eq ?_))
      dsimp only
      refine wpAny_bind (wpAny_seqItems hD rfl ?_)
      dsimp only
      refine wpAny_ite (ite_neg (by simp) ?_)
      refine wpAny_pure ?_
      refine ⟨rfl, i + 1, hkn, rfl, ?_, ?_⟩
      · show (parts.push bs[i]).toList = _
        rw [Array.toList_push]
        have hp' : parts.toList = bs.take i := hp
        rw [hp', List.take_add_one, List.getElem?_eq_getElem hkn]
        rfl
      · intro q hq
        rcases List.mem_append.mp hq with hq | hq
        · exact ht q hq
        · rw [List.mem_singleton.mp hq]
          exact ⟨rfl, rfl⟩
    · rintro ⟨parts, taken⟩ s' ⟨rfl, k, hk, hr, hp, ht⟩
      have hkn : k = bs.length := by
        rcases Nat.lt_or_ge k bs.length with q | q
        · rw [show bs.length - k = (bs.length - (k + 1)) + 1 by omega, List.range'_succ] at hr; cases hr
        · omega
      rw [hkn, List.take_length] at hp
      dsimp only at hp ht ⊢
      refine wpAny_bind (wpAny_of_eq (a := (#[] : Array UInt8)) rfl ?_)
      have hsum : Array.foldl (fun (x1 : Nat) (x2 : Array UInt8) => x1 + x2.size) ((#[] : Array UInt8).size * (parts.size - 1)) parts = (catB bs).size := by
        rw [← Array.foldl_toList, hp]
        have key : ∀ (l : List (Array UInt8)) (n : Nat), l.foldl (fun (x1 : Nat) (x2 : Array UInt8) => x1 + x2.size) n = n + (catB l).size := by
          intro l
          induction l with
          | nil => intro n; simp [catB]
          | cons a l ih =>
            intro n
            rw [List.foldl_cons, ih]
            simp [catB, Nat.add_assoc]
        rw [key]
        simp
      refine wpAny_ite (ite_neg ?_ ?_)
      · rw [hsum, KBy.tooLong_not hz]
        exact Bool.false_ne_true
      · rw [joined_nil, hp]
        refine (?_ : wpAny _ _ (mkBytes (catB bs) >>= _) _ _ _)
        refine wpAny_bind ?_
        unfold mkBytes
        rw [if_neg (by rw [sizeLine_eq]; omega)]
        refine wpAny_bind (wpAny_fresh (wpAny_pure ?_))
        refine wpAny_bind (wpAny_holding (wpAny_point ?_))
        refine wpAny_bind (joinLetGo_any _ ?_ taken (fun q hq => (ht q hq).1))
        exact wpAny_pure ⟨_, rfl, h _ _⟩
    · rw [← hlen]
      simp [Std.Legacy.Range.size]
end BM
end JRB
section JRB2
open PySem PySem.W PyProof.Rows PySem.Calls Builtin
namespace BM
set_option maxRecDepth 100000
theorem slot_contains : Slot "bytes" "__contains__" "bytes.__contains__" :=
  .of (owner := "bytes") (n := "__contains__") (by rw [typeLookup_type, builtinLookup_eq_fast]; kernel_rfl) (by decide +kernel) (by decide +kernel) (by decide +kernel)
    (by first | exact .inl (by decide +kernel) | exact .inr (by decide +kernel)) (by rw [isSubtype_type]; kernel_rfl)
theorem entry_contains : entryFor table "bytes.__contains__" = some Builtin.«bytes.__contains__» := entryFor_of_tree (by kernel_rfl)
theorem args_contains (a b : Value) : argsOk "bytes.__contains__" ⟨[a, b], []⟩ := by
  unfold argsOk; rw [signature?_of (id := "bytes.__contains__") (n := ['_', '_', 's', 'n', 'i', 'a', 't', 'n', 'o', 'c', '_', '_']) (o := ['s', 'e', 't', 'y', 'b']) (by kernel_rfl) FB.owner_bytes]; kernel_rfl
section
variable {prog : Program} {w : World} {A : Around} {E : Value → Shared → Prop} {s : Shared}
theorem contains_b {b : Array UInt8} {i : Int} {t u : Tok} {Q : Bool → Shared → Prop} (h0 : 0 ≤ i) (h1 : i < 256) (h : Q (b.contains i.toNat.toUInt8) s) :
    wpAny (model prog w) A (contains (.bytes b t) (.int i u)) Q E s := by
  have hT : s.TypeIs (.bytes b t) "bytes" := typeIs_bytes _ _ _
  unfold contains
  try with_reducible refine wpAny_holding ?_
  refine wpAny_bind (wpAny_specialOf hT slot_contains.lookup ?_)
  show wpAny _ _ (if (some (Value.builtin "bytes.__contains__") == some Value.none) = true then _ else _) _ E s
  rw [if_neg (by rw [beq_builtin_none]; exact Bool.false_ne_true)]
  refine wpAny_bind (wpAny_callSpecialUnlessNone?_slot (name := Str.ofString "__contains__") hT slot_contains ?_)
  refine call_meets slot_contains hT entry_contains (args_contains _ _) (meets_contains b i t u h0 h1) ?_
  exact wpAny_pure h
theorem in_b {b : Array UInt8} {i : Int} {t u : Tok} {Q : Value → Shared → Prop} (h0 : 0 ≤ i) (h1 : i < 256) (h : Q (.bool (b.contains i.toNat.toUInt8)) s) :
    wpAny (model prog w) A (compareOp .In (.int i u) (.bytes b t)) Q E s := by
  show wpAny _ _ (do return .bool (← contains (.bytes b t) (.int i u))) Q E s
  exact wpAny_bind (contains_b h0 h1 (wpAny_pure h))
theorem notin_b {b : Array UInt8} {i : Int} {t u : Tok} {Q : Value → Shared → Prop} (h0 : 0 ≤ i) (h1 : i < 256) (h : Q (.bool (!(b.contains i.toNat.toUInt8))) s) :
    wpAny (model prog w) A (compareOp .NotIn (.int i u) (.bytes b t)) Q E s := by
  show wpAny _ _ (do return .bool (!(← contains (.bytes b t) (.int i u)))) Q E s
  exact wpAny_bind (contains_b h0 h1 (wpAny_pure h))
end
end BM
end JRB2
section JC2
open PySem PySem.W PyProof.Rows PySem.Calls
section PC2
variable {prog : Program} {w : World} {p : Program} {loose : List Str} {mean : ExcName → Option Value} {mg mb : Str → Option Value}
set_option maxRecDepth 100000
set_option maxHeartbeats 4000000
noncomputable def barredB : Array UInt8 := #[40, 41, 60, 62, 64, 44, 59, 58, 92, 34, 47, 91, 93, 63, 61]
noncomputable def tokI (i : Int) : Bool := decide (32 < i) && decide (i < 127) && !(barredB.contains i.toNat.toUInt8)
noncomputable def worthI (i : Int) : Bool := decide (127 < i) || tokI i
theorem wd_C2_0 : True := by
  k_with "compareOp NotIn int bytes" => (k_here; refine BM.notin_b (by omega) (by omega) ?_)
  k_with "compareOp In int bytes" => (k_here; refine BM.in_b (by omega) (by omega) ?_)
  trivial
theorem tok_a {i : Int} (h1 : 32 < i) (h2 : i < 127) : tokI i = !(barredB.contains i.toNat.toUInt8) := by simp [tokI, h1, h2]
theorem tok_b {i : Int} (h2 : ¬ i < 127) : tokI i = decide (i < 127) := by simp [tokI, h2]
theorem tok_c {i : Int} (h2 : ¬ 32 < i) : tokI i = decide (32 < i) := by simp [tokI, h2]
theorem worth_a {i : Int} (h2 : 127 < i) : worthI i = decide (127 < i) := by simp [worthI, h2]
theorem worth_b {i : Int} (h2 : ¬ 127 < i) : worthI i = tokI i := by simp [worthI, h2]
theorem is_token_spec (i : Int) (t : Nat) : Spec prog w (kf w.params) p loose mean mg mb 369 ⟨[.int i t], []⟩ 2 []
    (P0 (.bool (tokI i)) [] True) False := by
  refine' spec_of3 (rb := [("code", .int i t)]) ?k1 ?k2 ?k3 ?k4 ?k5 ?k6 ?k7 ?k8 ?k9 ?_
  case k1 => k_is
  case k2 => k_is
  case k3 => first | exact fun s Xs => BindsTo.of_eq rfl | exact fun s Xs => binds_K Xs rfl (by k_is) rfl rfl rfl
  case k4 => exact locs rfl
  case k5 => exact rfl
  case k6 => exact rfl
  case k7 => exact rfl
  case k8 => decide
  case k9 => decide
  intro dp un gd envs base g L' h₁ gens drawn tk os R B F N X T lt hd hu ret exc eE aA
  k_fold
  (try k_lt lt)
  (try dsimp only)
  (try k_fold)
  k_steps
  all_goals (refine ret _ _ _ _ _ _ (by k_asm) (by k_asm) ⟨?_, rfl, trivial⟩; first | (rw [tok_a (by assumption) (by assumption)]; rfl) | rw [tok_b (by assumption)] | rw [tok_c (by assumption)])
theorem wd_C2_1 : True := by
  k_with "call ref" => (k_here; (show wpAny _ _ (PySem.call (Value.ref 369) [_]) _ _ _); (refine' Spec.call0 (is_token_spec _ _) ?B ?F ?X ?N ?T rfl rfl rfl rfl ?hd ?hu ?P ?W ?_ (fun h => h.elim)); (case F => k_asm); (case N => k_asm); (case B => k_asm); (case X => k_asm); (case T => k_asm); (case hd => first | exact room_d (j := 1) hd (by decide) | exact room_d (j := 2) hd (by decide) | exact room_d (j := 3) hd (by decide) | (simp only [ar_depth, ar_units, depth_deeper, depth_mark, depth_under_make, depth_under_kw, depth_in1, units_deeper, units_in1, units_under_make, Around.mark_units]; omega)); (case hu => first | exact room_u (j := 0) hu (by decide) | exact room_u (j := 1) hu (by decide) | exact room_u (j := 2) hu (by decide) | exact room_u (j := 3) hu (by decide) | (simp only [ar_depth, ar_units, depth_deeper, depth_mark, depth_under_make, depth_under_kw, depth_in1, units_deeper, units_in1, units_under_make, Around.mark_units]; omega)); (case P => ktr_unf); (case W => tb_start); ((intro  h' tk' hP' F' N' l1 l2; (dsimp only [List.cons_append, List.nil_append] at N'); clear l1 l2; clear hP'; (try k_sweep); (try dsimp only))))
  trivial
theorem is_worth_spec (i : Int) (t : Nat) : Spec prog w (kf w.params) p loose mean mg mb 390 ⟨[.int i t], []⟩ 4 []
    (P0 (.bool (worthI i)) [] True) False := by
  refine' spec_of3 (rb := [("code", .int i t)]) ?k1 ?k2 ?k3 ?k4 ?k5 ?k6 ?k7 ?k8 ?k9 ?_
  case k1 => k_is
  case k2 => k_is
  case k3 => first | exact fun s Xs => BindsTo.of_eq rfl | exact fun s Xs => binds_K Xs rfl (by k_is) rfl rfl rfl
  case k4 => exact locs rfl
  case k5 => exact rfl
  case k6 => exact rfl
  case k7 => exact rfl
  case k8 => decide
  case k9 => decide
  intro dp un gd envs base g L' h₁ gens drawn tk os R B F N X T lt hd hu ret exc eE aA
  k_fold
  (try k_lt lt)
  (try dsimp only)
  (try k_fold)
  k_steps
  all_goals (refine ret _ _ _ _ _ _ (by k_asm) (by k_asm) ⟨?_, rfl, trivial⟩; first | rw [worth_a (by assumption)] | rw [worth_b (by assumption)])
theorem wd_C2_2 : True := by
  k_with "call ref" => (k_here; (show wpAny _ _ (PySem.call (Value.ref 390) [_]) _ _ _); (refine' Spec.call0 (is_worth_spec _ _) ?B ?F ?X ?N ?T rfl rfl rfl rfl ?hd ?hu ?P ?W ?_ (fun h => h.elim)); (case F => k_asm); (case N => k_asm); (case B => k_asm); (case X => k_asm); (case T => k_asm); (case hd => first | exact room_d (j := 1) hd (by decide) | exact room_d (j := 2) hd (by decide) | exact room_d (j := 3) hd (by decide) | (simp only [ar_depth, ar_units, depth_deeper, depth_mark, depth_under_make, depth_under_kw, depth_in1, units_deeper, units_in1, units_under_make, Around.mark_units]; omega)); (case hu => first | exact room_u (j := 0) hu (by decide) | exact room_u (j := 1) hu (by decide) | exact room_u (j := 2) hu (by decide) | exact room_u (j := 3) hu (by decide) | (simp only [ar_depth, ar_units, depth_deeper, depth_mark, depth_under_make, depth_under_kw, depth_in1, units_deeper, units_in1, units_under_make, Around.mark_units]; omega)); (case P => ktr_unf); (case W => tb_start); ((intro  h' tk' hP' F' N' l1 l2; (dsimp only [List.cons_append, List.nil_append] at N'); clear l1 l2; clear hP'; (try k_sweep); (try dsimp only))))
  trivial
end PC2
end JC2
section JSL
open PySem PySem.W PyProof.Rows PySem.Calls
section PSL
/-- what is left of the octets from a place on; a piece of them -/
noncomputable def suf (b : Array UInt8) (a : Int) : List UInt8 := b.toList.drop a.toNat
noncomputable def sl (b : Array UInt8) (i j : Int) : Array UInt8 := ((suf b i).take (j.toNat - i.toNat)).toArray
theorem clip_nn {n : Nat} {i : Int} (hi : 0 ≤ i) : clipAt n i = min i.toNat n := by
  obtain ⟨m, rfl⟩ := Int.eq_ofNat_of_zero_le hi
  unfold clipAt
  rw [if_neg (Int.not_lt_of_ge hi), Int.max_eq_right (Int.le_min.mpr ⟨hi, Int.natCast_nonneg n⟩)]
  rcases Nat.le_total m n with h | h
  · rw [Int.min_eq_left (Int.ofNat_le.mpr h)]; exact (Nat.min_eq_left h).symm
  · rw [Int.min_eq_right (Int.ofNat_le.mpr h)]; exact (Nat.min_eq_right h).symm
theorem picked_nn {b : Array UInt8} {i j : Int} (hi : 0 ≤ i) (hj : 0 ≤ j) : KBy.picked b (some i) (some j) = sl b i j := by
  rw [KBc.picked_eq]
  unfold sl suf
  congr 1
  simp only [Option.elim]
  rw [clip_nn hi, clip_nn hj]
  have hl : b.toList.length = b.size := Array.length_toList
  by_cases h1 : i.toNat ≤ b.size
  · rw [Nat.min_eq_left h1]
    by_cases h2 : j.toNat ≤ b.size
    · rw [Nat.min_eq_left h2]
    · rw [Nat.min_eq_right (show b.size ≤ j.toNat by omega), List.take_of_length_le (by rw [List.length_drop]; omega), List.take_of_length_le (by rw [List.length_drop]; omega)]
  · rw [Nat.min_eq_right (show b.size ≤ i.toNat by omega), List.drop_of_length_le (by omega), List.drop_of_length_le (by omega)]
    simp
theorem suf_nil {b : Array UInt8} {a : Int} (h : (b.size : Int) ≤ a) : suf b a = [] := List.drop_of_length_le (by rw [Array.length_toList]; omega)
theorem suf_cons {b : Array UInt8} {a : Int} (h0 : 0 ≤ a) (h : a < (b.size : Int)) : suf b a = b.getD a.toNat 0 :: suf b (a + 1) := by
  unfold suf
  have hl : a.toNat < b.toList.length := by rw [Array.length_toList]; omega
  rw [List.drop_eq_getElem_cons hl]
  congr 1
  · have : a.toNat < b.size := by omega
    simp [Array.getD, this]
  · rw [show (a + 1).toNat = a.toNat + 1 by omega]
theorem suf_length {b : Array UInt8} {a : Int} : (suf b a).length = b.size - a.toNat := by unfold suf; rw [List.length_drop, Array.length_toList]
theorem suf_drop {b : Array UInt8} {a : Int} {k : Nat} (h0 : 0 ≤ a) : (suf b a).drop k = suf b (a + k) := by
  unfold suf
  rw [List.drop_drop, tn_add k h0]
theorem sl_size_le {b : Array UInt8} {i j : Int} : (sl b i j).size ≤ b.size := by
  unfold sl
  rw [List.size_toArray, List.length_take, suf_length]; exact Nat.le_trans (Nat.min_le_right _ _) (Nat.sub_le _ _)
section
variable {prog : Program} {w : World} {A : Around} {E : Value → Shared → Prop} {s : Shared} {value slice : PySem.Expr} {b : Array UInt8} {t : Tok} {h₀ : Heap} {L : Addr} {m : PySem.Str → Option Value} {news : List (Addr × Obj)} {Q : Value → Shared → Prop} {i j : Int}
theorem slice_ij {ti tj : Tok} (hF : Fr h₀ L s.heap m) (hN : News h₀ L s.heap news) (hi : 0 ≤ i) (hj : 0 ≤ j) (hz : b.size ≤ 16777216)
    (h : ∀ h' t' k, Fr h₀ L h' m → News h₀ L h' news → Q (.bytes (sl b i j) t') { s with heap := h', toks := k })
    (hs : subscripted slice false (.bytes b t) (.ref s.heap.objs.size) = operate [.ref s.heap.objs.size, .bytes b t] (getItem (.bytes b t) (.ref s.heap.objs.size)))
    (ht : ∀ r, letTemporaryGo value (.bytes b t) r = pure ()) :
    wpAny (model prog w) A (subscriptTail value slice (.bytes b t) (.ref s.heap.objs.size)) Q E { s with heap := s.heap.push { cls := .type "slice", data := .fields #[.int i ti, .int j tj, .none] } } := by
  refine KBc.slice_K hF hN rfl (.int i ti) (.int j tj) (by rw [KBw.ints_length]; exact hz) (fun h' t' k F' N' _ => ?_) hs ht
  rw [picked_nn hi hj]
  exact h h' t' k F' N'
end
noncomputable def lineEndP (a : Int) : List UInt8 → Int
  | c :: r => if c = 10 then a + 1 else if c = 13 then (match r with | d :: _ => if d = 10 then a + 2 else -1 | [] => -1) else -1
  | [] => -1
theorem sl_one {b : Array UInt8} {a : Int} (h0 : 0 ≤ a) : sl b a (a + 1) = ((suf b a).take 1).toArray := by unfold sl; rw [show (a + 1).toNat - a.toNat = 1 from tn_sub 1 h0]
theorem sl_two {b : Array UInt8} {a : Int} (h0 : 0 ≤ a) : sl b a (a + 2) = ((suf b a).take 2).toArray := by unfold sl; rw [show (a + 2).toNat - a.toNat = 2 from tn_sub 2 h0]
theorem sl_eq1 {b : Array UInt8} {a : Int} {c : UInt8} (h0 : 0 ≤ a) : ((sl b a (a + 1)).toList == #[c].toList) = match suf b a with | d :: _ => d == c | [] => false := by
  rw [sl_one h0]
  rcases e : suf b a with _ | ⟨d, r⟩
  · rfl
  · show ([d] == [c]) = _
    simp
theorem sl_eq2 {b : Array UInt8} {a : Int} {c d : UInt8} (h0 : 0 ≤ a) : ((sl b a (a + 2)).toList == #[c, d].toList) = match suf b a with | x :: y :: _ => x == c && y == d | _ => false := by
  rw [sl_two h0]
  rcases e : suf b a with _ | ⟨x, _ | ⟨y, r⟩⟩
  · rfl
  · show ([x] == [c, d]) = false
    simp
  · show ([x, y] == [c, d]) = _
    simp
theorem lineEnd_1 {b : Array UInt8} {a : Int} (h0 : 0 ≤ a) (h : ((sl b a (a + 1)).toList == #[10].toList) = true) : lineEndP a (suf b a) = a + 1 := by
  rw [sl_eq1 h0] at h
  rcases e : suf b a with _ | ⟨c, r⟩
  · rw [e] at h; simp at h
  · rw [e] at h
    simp at h
    simp [lineEndP, h]
theorem lineEnd_2 {b : Array UInt8} {a : Int} (h0 : 0 ≤ a) (h : ((sl b a (a + 2)).toList == #[13, 10].toList) = true) : lineEndP a (suf b a) = a + 2 := by
  rw [sl_eq2 h0] at h
  rcases e : suf b a with _ | ⟨c, _ | ⟨d, r⟩⟩
  · rw [e] at h; simp at h
  · rw [e] at h; simp at h
  · rw [e] at h
    simp at h
    simp [lineEndP, h]
theorem lineEnd_3 {b : Array UInt8} {a : Int} (h0 : 0 ≤ a) (h1 : ((sl b a (a + 1)).toList == #[10].toList) = false) (h : ((sl b a (a + 2)).toList == #[13, 10].toList) = false) : lineEndP a (suf b a) = -1 := by
  rw [sl_eq1 h0] at h1
  rw [sl_eq2 h0] at h
  rcases e : suf b a with _ | ⟨c, _ | ⟨d, r⟩⟩
  · rfl
  · rw [e] at h1
    simp at h1
    simp [lineEndP, h1]
  · rw [e] at h1 h
    simp at h1 h
    simp only [lineEndP, h1, if_false]
    by_cases hc : c = 13
    · simp [hc, h hc]
    · simp [hc]
noncomputable def escB (c : UInt8) : Bool := c == 0 || c == 10 || c == 13
noncomputable def insideL : List UInt8 → Option (List UInt8 × List UInt8)
  | [] => none
  | c :: r => if c = 92 then (match r with | [] => none | d :: r' => if escB d then none else some ([d], r'))
      else if c = 10 then some ([], r)
      else if c = 13 then (match r with | d :: r' => if d = 10 then some ([], r') else none | [] => none)
      else if c = 0 then none else some ([c], r)

theorem u8 {c : UInt8} {n : Nat} (h : ((c.toNat : Int) = (n : Int))) : c = n.toUInt8 := by
  have : c.toNat = n := by omega
  rw [← this]; simp
theorem in_any {c : UInt8} : ([0, 10, 13] : List Int).any (· == (c.toNat : Int)) = escB c := by
  simp only [List.any_cons, List.any_nil, Bool.or_false, escB]
  have e : ∀ n : Nat, n < 256 → (((n : Int) == (c.toNat : Int)) = (c == n.toUInt8)) := by
    intro n hn
    rw [Bool.eq_iff_iff, beq_iff_eq, beq_iff_eq]
    constructor
    · intro h; exact u8 h.symm
    · intro h; subst h; simp; omega
  rw [show (0 : Int) = ((0 : Nat) : Int) from rfl, show (10 : Int) = ((10 : Nat) : Int) from rfl, show (13 : Int) = ((13 : Nat) : Int) from rfl, e 0 (by decide), e 10 (by decide), e 13 (by decide), Bool.or_assoc]
  rfl
theorem suf_c {b : Array UInt8} {a : Int} (h0 : 0 ≤ a) (h : ¬ (b.size : Int) ≤ a) : suf b a = b.getD a.toNat 0 :: suf b (a + 1) := suf_cons h0 (by omega)
theorem ins1 {b : Array UInt8} {a : Int} (h : (b.size : Int) ≤ a) : insideL (suf b a) = none := by rw [suf_nil h]; rfl
theorem ins2 {b : Array UInt8} {a : Int} (h0 : 0 ≤ a) (h1 : ¬ (b.size : Int) ≤ a) (h2 : ((b.getD a.toNat 0).toNat : Int) = 92) (h3 : a + 1 = (b.size : Int)) : insideL (suf b a) = none := by
  rw [suf_c h0 h1, suf_nil (show (b.size : Int) ≤ a + 1 by omega), u8 (n := 92) h2]; rfl
theorem ins3 {b : Array UInt8} {a : Int} (h0 : 0 ≤ a) (h1 : ¬ (b.size : Int) ≤ a) (h2 : ((b.getD a.toNat 0).toNat : Int) = 92) (h3 : a + 1 ≠ (b.size : Int)) (h4 : ([0, 10, 13] : List Int).any (· == ((b.getD (a + 1).toNat 0).toNat : Int)) = true) : insideL (suf b a) = none := by
  rw [in_any] at h4
  rw [suf_c h0 h1, suf_c (show 0 ≤ a + 1 by omega) (show ¬ (b.size : Int) ≤ a + 1 by omega), u8 (n := 92) h2]
  show (if escB _ then none else some _) = none
  rw [h4]; rfl
theorem ins4 {b : Array UInt8} {a : Int} (h0 : 0 ≤ a) (h1 : ¬ (b.size : Int) ≤ a) (h2 : ((b.getD a.toNat 0).toNat : Int) = 92) (h3 : a + 1 ≠ (b.size : Int)) (h4 : ([0, 10, 13] : List Int).any (· == ((b.getD (a + 1).toNat 0).toNat : Int)) = false) :
    insideL (suf b a) = some ((sl b (a + 1) (a + 2)).toList, suf b (a + 2)) ∧ a < a + 2 ∧ a + 2 ≤ (b.size : Int) := by
  refine ⟨?_, by omega, by omega⟩
  rw [in_any] at h4
  rw [show a + 2 = (a + 1) + 1 by omega, sl_one (show 0 ≤ a + 1 by omega), suf_c h0 h1, suf_c (show 0 ≤ a + 1 by omega) (show ¬ (b.size : Int) ≤ a + 1 by omega), u8 (n := 92) h2]
  show (if escB _ then none else some _) = _
  rw [h4]; rfl
theorem nb {c : UInt8} (h : ((c.toNat : Int)) ≠ 92) : c ≠ 92 := by rintro rfl; exact h rfl
theorem ins5 {b : Array UInt8} {a : Int} (h0 : 0 ≤ a) (h1 : ¬ (b.size : Int) ≤ a) (h2 : ((b.getD a.toNat 0).toNat : Int) ≠ 92) (h3 : 0 ≤ lineEndP a (suf b a)) :
    insideL (suf b a) = some ((#[] : Array UInt8).toList, suf b (lineEndP a (suf b a))) ∧ a < lineEndP a (suf b a) ∧ lineEndP a (suf b a) ≤ (b.size : Int) := by
  have hc := nb h2
  rw [suf_c h0 h1] at h3 ⊢
  unfold insideL
  unfold lineEndP at h3 ⊢
  simp only [hc, if_false]
  by_cases h10 : b.getD a.toNat 0 = 10
  · simp only [h10, if_true]; exact ⟨trivial, by omega, by omega⟩
  · simp only [h10, if_false] at h3 ⊢
    by_cases h13 : b.getD a.toNat 0 = 13
    · simp only [h13, if_true] at h3 ⊢
      by_cases hs : (b.size : Int) ≤ a + 1
      · rw [suf_nil hs] at h3; simp at h3
      · rw [suf_c (show 0 ≤ a + 1 by omega) hs] at h3 ⊢
        dsimp only at h3 ⊢
        by_cases hd : b.getD (a + 1).toNat 0 = 10
        · simp only [hd, if_true]; rw [show a + 1 + 1 = a + 2 by omega]; exact ⟨rfl, by omega, by omega⟩
        · simp only [hd, if_false] at h3; omega
    · simp only [h13, if_false] at h3; omega
theorem ins6 {b : Array UInt8} {a : Int} (h0 : 0 ≤ a) (h1 : ¬ (b.size : Int) ≤ a) (h2 : ((b.getD a.toNat 0).toNat : Int) ≠ 92) (h3 : ¬ 0 ≤ lineEndP a (suf b a)) :
    insideL (suf b a) = if escB (b.getD a.toNat 0) then none else some ((sl b a (a + 1)).toList, suf b (a + 1)) := by
  have hc := nb h2
  rw [sl_one h0]
  rw [suf_c h0 h1] at h3 ⊢
  unfold insideL
  unfold lineEndP at h3
  simp only [hc, if_false]
  by_cases h10 : b.getD a.toNat 0 = 10
  · simp only [h10, if_true] at h3; omega
  · simp only [h10, if_false] at h3 ⊢
    by_cases h13 : b.getD a.toNat 0 = 13
    · simp only [h13, if_true] at h3 ⊢
      rw [if_pos (show escB 13 = true from rfl)]
      by_cases hs : (b.size : Int) ≤ a + 1
      · rw [suf_nil hs]
      · rw [suf_c (show 0 ≤ a + 1 by omega) hs] at h3 ⊢
        dsimp only at h3 ⊢
        by_cases hd : b.getD (a + 1).toNat 0 = 10
        · simp only [hd, if_true] at h3; omega
        · simp only [hd, if_false]
    · simp only [h13, if_false]
      generalize b.getD a.toNat 0 = c at *
      by_cases h00 : c = 0
      · simp [h00, escB]
      · simp [h00, escB, h10, h13]
theorem ins6t {b : Array UInt8} {a : Int} (h0 : 0 ≤ a) (h1 : ¬ (b.size : Int) ≤ a) (h2 : ((b.getD a.toNat 0).toNat : Int) ≠ 92) (h3 : ¬ 0 ≤ lineEndP a (suf b a)) (h4 : ([0, 10, 13] : List Int).any (· == ((b.getD a.toNat 0).toNat : Int)) = true) : insideL (suf b a) = none := by
  rw [in_any] at h4
  rw [ins6 h0 h1 h2 h3, h4]; rfl
theorem ins6f {b : Array UInt8} {a : Int} (h0 : 0 ≤ a) (h1 : ¬ (b.size : Int) ≤ a) (h2 : ((b.getD a.toNat 0).toNat : Int) ≠ 92) (h3 : ¬ 0 ≤ lineEndP a (suf b a)) (h4 : ([0, 10, 13] : List Int).any (· == ((b.getD a.toNat 0).toNat : Int)) = false) :
    insideL (suf b a) = some ((sl b a (a + 1)).toList, suf b (a + 1)) ∧ a < a + 1 ∧ a + 1 ≤ (b.size : Int) := by
  rw [in_any] at h4
  rw [ins6 h0 h1 h2 h3, h4]; exact ⟨rfl, by omega, by omega⟩
end PSL
end JSL
section JC3
open PySem PySem.W PyProof.Rows PySem.Calls
section PC3
variable {prog : Program} {w : World} {p : Program} {loose : List Str} {mean : ExcName → Option Value} {mg mb : Str → Option Value}
set_option maxRecDepth 100000
set_option maxHeartbeats 4000000
theorem wd_C3_0 : True := by
  k_with "subscriptTail" => (k_here; (show wpAny _ _ (subscriptTail _ (Expr.Slice (some _) (some _) none _) (Value.bytes _ _) (Value.ref _)) _ _ _); (with_reducible rename Fr _ _ _ _ => F'); (with_reducible rename News _ _ _ _ => N'); (refine slice_ij (hs := by with_unfolding_all rfl) (ht := by intro _; with_unfolding_all rfl) (s := ⟨_, _, _, _, _⟩) F' N' (by omega) (by omega) (by omega) ?_); intro _ _ _ _ _; (try k_sweep))
  trivial
theorem in_tupK {A : Around} {E : Value → Shared → Prop} {s : Shared} {K : Frag} {h₀ : Heap} {L a : Addr} {m : Str → Option Value} {l : List Value} {ns : List Int} {n : Nat} {dd : Option Addr} {sl : Array (Option Value)} {x : Int} {t : Tok} {Q : Value → Shared → Prop}
    (F : Fr h₀ L s.heap m) (X : K.In h₀) (hl : K.lookup a = some ⟨.type "tuple", dd, .seq l.toArray n, sl⟩) (hi : IntsAre l ns) (h : Q (.bool (ns.any (· == x))) s) : wpAny (model prog w) A (compareOp .In (.int x t) (.ref a)) Q E s :=
  in_tuple_ints (tupK (X.keeps F.keep) hl) hi h
theorem line_end_spec (b : Array UInt8) (tb : Nat) (a : Int) (t : Nat) (hb : b.size ≤ 4000) (h0 : 0 ≤ a) : Spec prog w (kf w.params) p loose mean mg mb 340 ⟨[.bytes b tb, .int a t], []⟩ 2 []
    (P1 (fun t' => .int (lineEndP a (suf b a)) t') (fun _ => []) (fun _ => True)) False := by
  refine' spec_of3 (rb := [("at", .int a t), ("data", .bytes b tb)]) ?k1 ?k2 ?k3 ?k4 ?k5 ?k6 ?k7 ?k8 ?k9 ?_
  case k1 => k_is
  case k2 => k_is
  case k3 => first | exact fun s Xs => BindsTo.of_eq rfl | exact fun s Xs => binds_K Xs rfl (by k_is) rfl rfl rfl
  case k4 => exact locs rfl
  case k5 => exact rfl
  case k6 => exact rfl
  case k7 => exact rfl
  case k8 => decide
  case k9 => decide
  intro dp un gd envs base g L' h₁ gens drawn tk os R B F N X T lt hd hu ret exc eE aA
  k_fold
  (try k_lt lt)
  (try dsimp only)
  (try k_fold)
  k_steps
  all_goals first
    | exact ret _ _ _ _ _ _ (by k_asm) (by k_asm) ⟨_, congrArg (fun z => Value.int z _) (lineEnd_1 h0 (by assumption)).symm, rfl, trivial⟩
    | exact ret _ _ _ _ _ _ (by k_asm) (by k_asm) ⟨_, congrArg (fun z => Value.int z _) (lineEnd_2 h0 (by assumption)).symm, rfl, trivial⟩
    | exact ret _ _ _ _ _ _ (by k_asm) (by k_asm) ⟨_, congrArg (fun z => Value.int z _) (lineEnd_3 h0 (by assumption) (by assumption)).symm, rfl, trivial⟩
theorem wd_C3_1 : True := by
  k_with "call ref" => (k_here; (show wpAny _ _ (PySem.call (Value.ref 340) [_, _]) _ _ _); (refine' Spec.call1 (line_end_spec _ _ _ _ (by assumption) (by first | assumption | omega)) ?B ?F ?X ?N ?T rfl rfl rfl rfl ?hd ?hu ?P ?W ?_ (fun h => h.elim)); (case F => k_asm); (case N => k_asm); (case B => k_asm); (case X => k_asm); (case T => k_asm); (case hd => first | exact room_d (j := 1) hd (by decide) | exact room_d (j := 2) hd (by decide) | exact room_d (j := 3) hd (by decide) | (simp only [ar_depth, ar_units, depth_deeper, depth_mark, depth_under_make, depth_under_kw, depth_in1, units_deeper, units_in1, units_under_make, Around.mark_units]; omega)); (case hu => first | exact room_u (j := 0) hu (by decide) | exact room_u (j := 1) hu (by decide) | exact room_u (j := 2) hu (by decide) | exact room_u (j := 3) hu (by decide) | (simp only [ar_depth, ar_units, depth_deeper, depth_mark, depth_under_make, depth_under_kw, depth_in1, units_deeper, units_in1, units_under_make, Around.mark_units]; omega)); (case P => ktr_unf); (case W => tb_start); ((intro tl' h' tk' hP' F' N' l1 l2; (dsimp only [List.cons_append, List.nil_append] at N'); clear l1 l2; clear hP'; (try k_sweep); (try dsimp only))))
  k_with "subscriptTail" => (k_here; (show wpAny _ _ (subscriptTail _ _ (Value.bytes _ _) (Value.int _ _)) _ _ _); (refine item_b (hs := by with_unfolding_all rfl) (ht := by intro _; with_unfolding_all rfl) ?_ ?_ ?_ ?_); (focus ((try simp only [decide_eq_true_eq, decide_eq_false_iff_not] at *); omega)); (focus ((try simp only [decide_eq_true_eq, decide_eq_false_iff_not] at *); omega)); (focus omega); intro _ _)
  k_with "exec Raise some none" => (k_here; refine raise_stmt rfl ?_)
  k_with "call ref" => (k_here; (show wpAny _ _ (PySem.call (Value.ref 59) [Value.str _ _, Value.int _ _]) _ _ _); (refine' call_WF ?B ?F ?X ?N ?T rfl rfl rfl rfl ?hd ?hu ?_); (case F => k_asm); (case N => k_asm); (case B => k_asm); (case X => k_asm); (case T => k_asm); (case hd => first | exact room_d (j := 1) hd (by decide) | exact room_d (j := 2) hd (by decide) | exact room_d (j := 3) hd (by decide) | (simp only [ar_depth, ar_units, depth_deeper, depth_mark, depth_under_make, depth_under_kw, depth_in1, units_deeper, units_in1, units_under_make, Around.mark_units]; omega)); (case hu => first | exact room_u (j := 0) hu (by decide) | exact room_u (j := 1) hu (by decide) | exact room_u (j := 2) hu (by decide) | exact room_u (j := 3) hu (by decide) | (simp only [ar_depth, ar_units, depth_deeper, depth_mark, depth_under_make, depth_under_kw, depth_in1, units_deeper, units_in1, units_under_make, Around.mark_units]; omega)); (intro e' t' d' es' n' h' tk' F' N' l1; (try k_sweep); (try dsimp only)))
  k_with "RaiseAt" => (refine' raise_intro ?F ?X ?N ?he ?_; (case F => k_asm); (case N => k_asm); (case X => k_asm); (case he => k_mem))
  k_with "leaving ref" => (k_here; refine' leave_WF (hk := by rfl) ?K ?F ?N ?he ?ht ?_; (case F => k_asm); (case N => k_asm); (case K => k_asm); (case he => k_mem); (case ht => k_mem); (intro h' t' R' U'; (try dsimp only)))
  k_with "compareOp In int ref" => (k_here; k_dflt (refine' in_tupK ?F ?X ?l ?i ?_; (case F => k_asm); (case X => k_asm); (case l => k_is); (case i => repeat constructor)))
  trivial
theorem inside_at_spec (b : Array UInt8) (tb : Nat) (a : Int) (t : Nat) (c : Int) (tc : Nat) (hb : b.size ≤ 4000) (h0 : 0 ≤ a) : Spec prog w (kf w.params) p loose mean mg mb 347 ⟨[.bytes b tb, .int a t, .int c tc], []⟩ 6 []
    (P6 (fun D _ _ _ _ _ => .ref D) (fun D n o a' t1 t2 => [(D, tupO [.bytes o t1, .int a' t2] n)]) (fun _ _ o a' _ _ => insideL (suf b a) = some (o.toList, suf b a') ∧ a < a' ∧ a' ≤ (b.size : Int))) (insideL (suf b a) = none) := by
  refine' spec_of3 (rb := [("begun", .int c tc), ("at", .int a t), ("data", .bytes b tb)]) ?k1 ?k2 ?k3 ?k4 ?k5 ?k6 ?k7 ?k8 ?k9 ?_
  case k1 => k_is
  case k2 => k_is
  case k3 => first | exact fun s Xs => BindsTo.of_eq rfl | exact fun s Xs => binds_K Xs rfl (by k_is) rfl rfl rfl
  case k4 => exact locs rfl
  case k5 => exact rfl
  case k6 => exact rfl
  case k7 => exact rfl
  case k8 => decide
  case k9 => decide
  intro dp un gd envs base g L' h₁ gens drawn tk os R B F N X T lt hd hu ret exc eE aA
  k_fold
  (try k_lt lt)
  (try dsimp only)
  (try k_fold)
  k_steps
  all_goals first
    | exact exc (ins1 (by assumption)) _ _ _ _ _ (by assumption) (by assumption)
    | exact exc (ins2 h0 (by assumption) (by assumption) (by assumption)) _ _ _ _ _ (by assumption) (by assumption)
    | exact exc (ins3 h0 (by assumption) (by assumption) (by assumption) (by assumption)) _ _ _ _ _ (by assumption) (by assumption)
    | exact exc (ins6t h0 (by assumption) (by assumption) (by assumption) (by assumption)) _ _ _ _ _ (by assumption) (by assumption)
    | (exfalso; omega)
    | exact ret _ _ _ _ _ _ (by k_asm) (by k_asm) ⟨_, _, _, _, _, _, rfl, rfl, ins4 h0 (by assumption) (by assumption) (by assumption) (by assumption)⟩
    | exact ret _ _ _ _ _ _ (by k_asm) (by k_asm) ⟨_, _, _, _, _, _, rfl, rfl, ins5 h0 (by assumption) (by assumption) (by assumption)⟩
    | exact ret _ _ _ _ _ _ (by k_asm) (by k_asm) ⟨_, _, _, _, _, _, rfl, rfl, ins6f h0 (by assumption) (by assumption) (by assumption) (by assumption)⟩
theorem wd_C3_2 : True := by
  k_with "call ref" => (k_here; (show wpAny _ _ (PySem.call (Value.ref 347) [_, _, _]) _ _ _); (refine' Spec.call6 (inside_at_spec _ _ _ _ _ _ (by assumption) (by first | assumption | omega)) ?B ?F ?X ?N ?T rfl rfl rfl rfl ?hd ?hu ?P ?W ?_ ?_); (case F => k_asm); (case N => k_asm); (case B => k_asm); (case X => k_asm); (case T => k_asm); (case hd => first | exact room_d (j := 1) hd (by decide) | exact room_d (j := 2) hd (by decide) | exact room_d (j := 3) hd (by decide) | (simp only [ar_depth, ar_units, depth_deeper, depth_mark, depth_under_make, depth_under_kw, depth_in1, units_deeper, units_in1, units_under_make, Around.mark_units]; omega)); (case hu => first | exact room_u (j := 0) hu (by decide) | exact room_u (j := 1) hu (by decide) | exact room_u (j := 2) hu (by decide) | exact room_u (j := 3) hu (by decide) | (simp only [ar_depth, ar_units, depth_deeper, depth_mark, depth_under_make, depth_under_kw, depth_in1, units_deeper, units_in1, units_under_make, Around.mark_units]; omega)); (case P => ktr_unf); (case W => tb_start); (all_goals first | (intro Di' ni' oi' ai' ti1' ti2' h' tk' hP' F' N' l1 l2; (dsimp only [List.cons_append, List.nil_append] at N'); (simp only [AllLt, and_true] at l1); (simp only [Apart, ApartOne, and_true] at l2); (first | ((have hi1' := And.left hP'); (have hi2' := And.left (And.right hP')); (have hi3' := (And.right (And.right hP'))); clear hP') | obtain ⟨hi1', hi2', hi3'⟩ := hP'); (try k_sweep); (try dsimp only)) | (intro _ e' t' vs' h' tk' g' R' F' U'; (try dsimp only))))
  trivial
end PC3
end JC3
section JPA
open PySem PySem.W PyProof.Rows PySem.Calls
section PPA
theorem inside_lt {l o r : List UInt8} (h : insideL l = some (o, r)) : r.length < l.length := by
  unfold insideL at h
  rcases l with _ | ⟨c, l⟩
  · cases h
  · dsimp only at h
    split at h
    · rcases l with _ | ⟨d, l⟩
      · cases h
      · dsimp only at h
        split at h
        · cases h
        · cases h; simp; omega
    · split at h
      · cases h; simp
      · split at h
        · rcases l with _ | ⟨d, l⟩
          · cases h
          · dsimp only at h
            split at h
            · cases h; simp; omega
            · cases h
        · split at h
          · cases h
          · cases h; simp
noncomputable def deep (d : Nat) (l : List UInt8) : Nat := match l with | c :: _ => if c = 40 then d + 1 else if c = 41 then d - 1 else d | [] => d
noncomputable def commentL (d : Nat) (l : List UInt8) : Option (List UInt8) :=
  if 20 < deep d l then none else
  match h : insideL l with
  | none => none
  | some (_, r) => if deep d l = 0 then some r else commentL (deep d l) r
termination_by l.length
decreasing_by exact inside_lt h
theorem comment_none {d : Nat} {l : List UInt8} (h : insideL l = none) : commentL d l = none := by
  rw [commentL]
  split
  · rfl
  · split
    · rfl
    · rename_i q; rw [h] at q; cases q
theorem comment_deep {d : Nat} {l : List UInt8} (h : 20 < deep d l) : commentL d l = none := by rw [commentL, if_pos h]
theorem comment_end {d : Nat} {l o r : List UInt8} (h : insideL l = some (o, r)) (h0 : deep d l = 0) : commentL d l = some r := by
  rw [commentL, if_neg (by omega)]
  split
  · rename_i q; rw [h] at q; cases q
  · rename_i q; rw [h] at q; cases q; rw [if_pos h0]
theorem comment_go {d : Nat} {l o r : List UInt8} (h : insideL l = some (o, r)) (h1 : ¬ 20 < deep d l) (h0 : deep d l ≠ 0) : commentL d l = commentL (deep d l) r := by
  rw [commentL, if_neg h1]
  split
  · rename_i q; rw [h] at q; cases q
  · rename_i q; rw [h] at q; cases q; rw [if_neg h0]
noncomputable def closedL (l : List UInt8) : Option (List UInt8 × List UInt8) :=
  if l.head? = some 34 then some ([], l.tail) else
  match h : insideL l with
  | none => none
  | some (o, r) => (closedL r).map fun q => (o ++ q.1, q.2)
termination_by l.length
decreasing_by exact inside_lt h
theorem closed_end {l : List UInt8} (h : l.head? = some 34) : closedL l = some ([], l.tail) := by rw [closedL, if_pos h]
theorem closed_none {l : List UInt8} (h : l.head? ≠ some 34) (h1 : insideL l = none) : closedL l = none := by
  rw [closedL, if_neg h]
  split
  · rfl
  · rename_i q; rw [h1] at q; cases q
theorem closed_go {l o r : List UInt8} (h : l.head? ≠ some 34) (h1 : insideL l = some (o, r)) : closedL l = (closedL r).map fun q => (o ++ q.1, q.2) := by
  rw [closedL, if_neg h]
  split
  · rename_i q; rw [h1] at q; cases q
  · rename_i q; rw [h1] at q; cases q; rfl
end PPA
end JPA
section JRB3
open PySem PySem.W PyProof.Rows PySem.Calls Builtin
section PRB3
set_option maxRecDepth 100000
open BM
theorem bys_dropLast {vs : List Value} {bs : List (Array UInt8)} (h : BysAre vs bs) : BysAre vs.dropLast bs.dropLast := by
  induction h with
  | nil => exact .nil
  | cons b t h ih =>
    cases h with
    | nil => exact .nil
    | cons c u h => exact .cons b t ih
theorem catB_nil : catB [] = #[] := rfl
theorem catB_snoc (l : List (Array UInt8)) (b : Array UInt8) : (catB (l ++ [b])).toList = (catB l).toList ++ b.toList := by simp [catB]
theorem catB_snoc_size (l : List (Array UInt8)) (b : Array UInt8) : (catB (l ++ [b])).size = (catB l).size + b.size := by
  have := congrArg List.length (catB_snoc l b)
  simpa using this
theorem catB_dropLast (l : List (Array UInt8)) : (catB l.dropLast).size ≤ (catB l).size := by
  rcases List.eq_nil_or_concat l with rfl | ⟨l', b, rfl⟩
  · exact Nat.le_refl _
  · rw [List.concat_eq_append, List.dropLast_concat, catB_snoc_size]; omega
section
variable {prog : Program} {w : World} {A : Around} {E : Value → Shared → Prop} {s : Shared} {h₀ : Heap} {L l : Addr} {m : Str → Option Value} {news : List (Addr × Obj)} {value slice : PySem.Expr} {vs : List Value} {Q : Value → Shared → Prop}
theorem clip_last (n : Nat) : clipAt n (-1) = n - 1 := by
  cases n with
  | zero => rfl
  | succ n =>
    unfold clipAt
    have e : (-1 : Int) + ((n + 1 : Nat) : Int) = n := by rw [Int.natCast_add, Int.add_comm]; exact Int.add_neg_cancel_right _ _
    rw [if_pos (by decide), e, Int.min_eq_left (Int.ofNat_le.mpr (Nat.le_succ n)), Int.max_eq_right (Int.natCast_nonneg n)]
    rfl
theorem pick_butlast (vs : List Value) : slicePick vs.toArray none (some (-1)) none = vs.dropLast.toArray := by
  rw [kmk_pick_nat (a := 0) (b := vs.length - 1) vs.toArray]
  · simp only [List.drop_zero, Nat.sub_zero]
    rw [List.dropLast_eq_take]
  · rw [sliceBounds_plain]
    simp only [Option.elim, List.size_toArray]
    congr 1
    congr 1
    rw [clip_last]
theorem slice_butlast {tj : Tok} (F : Fr h₀ L s.heap m) (N : News h₀ L s.heap news) (hl : s.heap.IsList l vs.toArray)
    (h : ∀ D h', Fr h₀ L h' m → News h₀ L h' ((D, PySem.W.listOf vs.dropLast.toArray 0) :: news) → (∀ p ∈ news, p.1 < D) → Q (.ref D) { s with heap := h' })
    (hs : subscripted slice false (.ref l) (.ref s.heap.objs.size) = operate [.ref s.heap.objs.size, .ref l] (getItem (.ref l) (.ref s.heap.objs.size))) (ht : ∀ r, letTemporaryGo value (.ref l) r = pure ()) (hz : vs.length ≤ sizeLine) :
    wpAny (model prog w) A (subscriptTail value slice (.ref l) (.ref s.heap.objs.size)) Q E { s with heap := s.heap.push { cls := .type "slice", data := .fields #[.none, .int (-1) tj, .none] } } := by
  refine kmk_slice F N hl .none (.int (-1) tj) (fun D h' F' N' l1 => h D h' F' ?_ l1) hs ht (by rw [List.size_toArray]; exact hz)
  rw [← pick_butlast]
  exact N'
theorem join_K {D : Addr} {bs : List (Array UInt8)} {c : Nat} {t : Tok} (N : News h₀ L s.heap news) (hm : (D, PySem.W.listOf vs.toArray c) ∈ news) (hb : BysAre vs bs) (hz : (catB bs).size ≤ 16777216)
    (h : ∀ t' k, Q (.bytes (catB bs) t') { s with toks := k }) : wpAny (model prog w) A (PySem.call (.builtin "bytes.join") [.bytes #[] t, .ref D]) Q E s :=
  call_meets slot_join (typeIs_bytes _ _ _) entry_join (args_join _ _) (meets_join t hb hz) ⟨(N _ hm).1, fun t' k => h t' k⟩
end
theorem deep_a {b : Array UInt8} {a : Int} {d : Nat} (h0 : 0 ≤ a) (h : ((sl b a (a + 1)).toList == #[40].toList) = true) : deep d (suf b a) = d + 1 := by
  rw [sl_eq1 h0] at h
  rcases e : suf b a with _ | ⟨c, r⟩
  · rw [e] at h; simp at h
  · rw [e] at h; simp at h; simp [deep, h]
theorem deep_b {b : Array UInt8} {a : Int} {d : Nat} (h0 : 0 ≤ a) (h1 : ((sl b a (a + 1)).toList == #[40].toList) = false) (h : ((sl b a (a + 1)).toList == #[41].toList) = true) : deep d (suf b a) = d - 1 := by
  rw [sl_eq1 h0] at h h1
  rcases e : suf b a with _ | ⟨c, r⟩
  · rw [e] at h; simp at h
  · rw [e] at h h1; simp at h h1; simp [deep, h]
theorem deep_c {b : Array UInt8} {a : Int} {d : Nat} (h0 : 0 ≤ a) (h1 : ((sl b a (a + 1)).toList == #[40].toList) = false) (h : ((sl b a (a + 1)).toList == #[41].toList) = false) : deep d (suf b a) = d := by
  rw [sl_eq1 h0] at h h1
  rcases e : suf b a with _ | ⟨c, r⟩
  · rfl
  · rw [e] at h h1; simp at h h1; simp [deep, h, h1]
theorem inside_le {l o r : List UInt8} (h : insideL l = some (o, r)) : o.length ≤ 1 := by
  unfold insideL at h
  rcases l with _ | ⟨c, l⟩
  · cases h
  · dsimp only at h
    split at h
    · rcases l with _ | ⟨d, l⟩
      · cases h
      · dsimp only at h
        split at h
        · cases h
        · cases h; simp
    · split at h
      · cases h; simp
      · split at h
        · rcases l with _ | ⟨d, l⟩
          · cases h
          · dsimp only at h
            split at h
            · cases h; simp
            · cases h
        · split at h
          · cases h
          · cases h; simp
end PRB3
end JRB3
section JC4
open PySem PySem.W PyProof.Rows PySem.Calls
section PC4
variable {prog : Program} {w : World} {p : Program} {loose : List Str} {mean : ExcName → Option Value} {mg mb : Str → Option Value}
set_option maxRecDepth 100000
set_option maxHeartbeats 4000000
theorem wd_C4_0 : True := by
  k_with "exec While Compare cons nil" => (k_here; (have hmk9 := (show StopAt 0 by assumption)); clear hmk9; refine stop_here ?_)
  k_with "exec While UnaryOp cons nil" => (k_here; (have hmk9 := (show StopAt 0 by assumption)); clear hmk9; refine stop_here ?_)
  k_with "exec While Call cons nil" => (k_here; (have hmk9 := (show StopAt 0 by assumption)); clear hmk9; refine stop_here ?_)
  k_with "exec While Constant cons nil" => (k_here; (have hmk9 := (show StopAt 0 by assumption)); clear hmk9; refine stop_here ?_)
  trivial
theorem at_name {h₀ : Heap} {L : Addr} {h : Heap} {m : Str → Option Value} (_F : Fr h₀ L h m) {x : Str} (v : Nat → Value) (e : ∃ t, m x = some (v t)) : ∃ t, m x = some (v t) := e
theorem wd_C4_1 : True := by
  k_with "getMethod bytes" => (k_here; (show wpAny _ _ (getMethod (Value.bytes _ _) "join" _) _ _ _); refine BM.m_join ?_)
  k_with "call builtin:list.append" => (k_here; (with_reducible show wpAny _ _ (PySem.call (Value.builtin _) [Value.ref _, Value.bytes _ _]) _ _ _); (refine' append_K ?k1 ?k2 ?k3 ?_ ?z; (case k1 => k_asm); (case k2 => k_asm); (case k3 => k_upd); (case z => ((have hLB := BM.BysAre.length (by assumption)); (rw [List.size_toArray, sizeLine_eq]); omega)); k_whole); intro h' F' N'; (try k_sweep))
  k_with "subscriptTail Name Slice ref ref" => (k_here; (show wpAny _ _ (subscriptTail _ (PySem.Expr.Slice none (some _) none _) (Value.ref _) (Value.ref _)) _ _ _); (with_reducible rename Fr _ _ _ _ => F'); (with_reducible rename News _ _ _ _ => N'); (refine' slice_butlast (s := ⟨_, _, _, _, _⟩) F' N' (News.isList N' ?m) ?_ ?s ?t ?z); (case m => k_mem); (case s => with_unfolding_all rfl); (case t => (intro _; with_unfolding_all rfl)); (case z => ((have hLB := BM.BysAre.length (by assumption)); (rw [sizeLine_eq]; omega))); (intro D' h' F' N' l1; (try k_lt l1); (try k_sweep)))
  k_with "call builtin:bytes.join" => (k_here; (refine' join_K ?N ?m ?b ?z ?_); (case N => k_asm); (case m => k_mem); (case b => first | assumption | exact bys_dropLast (by assumption)); (case z => first | omega | (refine Nat.le_trans (catB_dropLast _) ?_; omega)); intro _ _)
  k_with "KswEnd" => refine stop_here ?_
  trivial
noncomputable def CmP (b : Array UInt8) (S : Option (List UInt8)) (d : Int) (x : Int) : Prop := if d = 0 then x ≤ (b.size : Int) ∧ S = some (suf b x) else commentL d.toNat (suf b x) = S
theorem cm_turn {b : Array UInt8} {S : Option (List UInt8)} {d d' x y : Int} {o : List UInt8} (hP : CmP b S d x) (hd : 0 < d) (hdeep : deep d.toNat (suf b x) = d'.toNat) (hd' : 0 ≤ d') (h20 : d' ≤ 20) (hi : insideL (suf b x) = some (o, suf b y)) (hy : y ≤ (b.size : Int)) : CmP b S d' y := by
  unfold CmP at hP ⊢
  rw [if_neg (by omega)] at hP
  by_cases h : d' = 0
  · rw [if_pos h]
    refine ⟨hy, ?_⟩
    rw [← hP]
    exact comment_end hi (by rw [hdeep, h]; rfl)
  · rw [if_neg h, ← hP, ← hdeep]
    exact (comment_go hi (by rw [hdeep]; omega) (by rw [hdeep]; omega)).symm
theorem cm_deep {b : Array UInt8} {S : Option (List UInt8)} {d x : Int} (hP : CmP b S d x) (hd : 0 < d) (h : 20 < deep d.toNat (suf b x)) : S = none := by
  unfold CmP at hP
  rw [if_neg (by omega)] at hP
  rw [← hP]; exact comment_deep h
theorem cm_none {b : Array UInt8} {S : Option (List UInt8)} {d x : Int} (hP : CmP b S d x) (hd : 0 < d) (h : insideL (suf b x) = none) : S = none := by
  unfold CmP at hP
  rw [if_neg (by omega)] at hP
  rw [← hP]; exact comment_none h
theorem cm_size {b : Array UInt8} {bs : List (Array UInt8)} {a x y : Int} {o : Array UInt8} (hz : (BM.catB bs).size + bs.length ≤ 2 * (x - a).toNat) (hi : insideL (suf b x) = some (o.toList, suf b y)) (ha : a + 1 ≤ x) (hxy : x < y) (_hy : y ≤ (b.size : Int)) (_h0 : 0 ≤ a) : (BM.catB (bs ++ [o])).size + (bs ++ [o]).length ≤ 2 * (y - a).toNat := by
  rw [catB_snoc_size, List.length_append, List.length_singleton]
  have := inside_le hi
  rw [Array.length_toList] at this
  omega
structure CSt where
  vs : List Value
  n : Nat
  d : Int
  a : Int
  td : Nat
  ta : Nat
theorem comment_at_spec (b : Array UInt8) (tb : Nat) (a : Int) (t : Nat) (hb : b.size ≤ 4000) (h0 : 0 ≤ a) : Spec prog w (kf w.params) p loose mean mg mb 361 ⟨[.bytes b tb, .int a t], []⟩ 10 []
    (P6 (fun D _ _ _ _ _ => .ref D) (fun D n o a' t1 t2 => [(D, tupO [.bytes o t1, .int a' t2] n)]) (fun _ _ _ a' _ _ => commentL 1 (suf b (a + 1)) = some (suf b a') ∧ a < a' ∧ a' ≤ (b.size : Int))) (commentL 1 (suf b (a + 1)) = none) := by
  refine' spec_of3 (rb := [("begun", .int a t), ("data", .bytes b tb)]) ?k1 ?k2 ?k3 ?k4 ?k5 ?k6 ?k7 ?k8 ?k9 ?_
  case k1 => k_is
  case k2 => k_is
  case k3 => first | exact fun s Xs => BindsTo.of_eq rfl | exact fun s Xs => binds_K Xs rfl (by k_is) rfl rfl rfl
  case k4 => exact locs rfl
  case k5 => exact rfl
  case k6 => exact rfl
  case k7 => exact rfl
  case k8 => decide
  case k9 => decide
  intro dp un gd envs base g L' h₁ gens drawn tk os R B F N X T lt hd hu ret exc eE aA
  k_fold
  (try k_lt lt)
  (try dsimp only)
  have hmk0 : StopAt 0 := .here
  (try k_fold)
  k_steps
  unfold StopHere
  rename Fr _ _ _ _ => F9
  rename News _ _ _ _ => N9
  rename_i P _ _ _ _ _
  obtain ⟨td0, hd0⟩ := at_name F9 (x := "depth") (fun t => .int 1 t) ⟨_, rfl⟩
  obtain ⟨ta0, ha0⟩ := at_name F9 (x := "at") (fun t => .int (a + 1) t) ⟨_, rfl⟩
  refine' ksw_while (σ := CSt) (fun c => [(P, listOf c.vs.toArray c.n)]) (fun c => [("depth", .int c.d c.td), ("at", .int c.a c.ta)]) (fun c => (∃ bs, BM.BysAre c.vs bs ∧ (BM.catB bs).size + bs.length ≤ 2 * (c.a - a).toNat) ∧ 0 ≤ c.d ∧ c.d ≤ 20 ∧ a + 1 ≤ c.a) ["sign", "octets"]
    (fun c => CmP b (commentL 1 (suf b (a + 1))) c.d c.a) (fun c => b.size + 1 - c.a.toNat) ⟨[], 0, 1, a + 1, td0, ta0⟩ F9 N9 ?cwF ?cwK ?cwP ?cwT
  case cwF => exact ⟨⟨[], .nil, Nat.zero_le _⟩, Int.zero_le_ofNat 1, by show (1 : Int) ≤ 20; decide, Int.le_refl _⟩
  case cwK => exact List.forall_mem_cons.mpr ⟨hd0, List.forall_mem_cons.mpr ⟨ha0, List.forall_mem_nil _⟩⟩
  case cwP => rfl
  case cwT =>
    intro c u h tk9 hF hP F N
    obtain ⟨⟨bs, hB, hz⟩, hdl, hdh, ha⟩ := hF
    clear F9 N9 hd0 ha0
    (try k_fold)
    have hex : c.d = 0 → c.a ≤ (b.size : Int) := fun e => by unfold CmP at hP; rw [if_pos e] at hP; exact hP.1
    k_steps
    · exact exc (cm_deep hP (by assumption) (by rw [deep_a (by omega) (by assumption)]; omega)) _ _ _ _ _ (by assumption) (by assumption)
    · unfold StopHere
      ((rename News _ _ _ _ => nE'); (try simp only [List.push_toArray] at nE'); (refine' ksw_end ⟨_, _, _, _, _, _⟩ (by assumption) nE' ?e1 ?_ ?e3 ?e4 ?_ ?_); (case e1 => ktr_unf); (case e3 => kst_all); (case e4 => (intro z h2 h3; (simp only [List.forall_mem_cons, List.not_mem_nil, false_implies, implies_true, and_true, ne_eq] at h2); (simp only [List.contains_cons, List.contains_nil, Bool.or_false, Bool.or_eq_false_iff, beq_eq_false_iff_ne, ne_eq] at h3); simp [kstB, h2, h3])))
      · exact ⟨⟨_, BM.BysAre.snoc hB _ _, cm_size hz (by assumption) ha (by assumption) (by assumption) h0⟩, by show 0 ≤ c.d + 1; omega, by show c.d + 1 ≤ 20; omega, by dsimp only; omega⟩
      · exact cm_turn (d' := c.d + 1) hP (by assumption) (by rw [deep_a (by omega) (by assumption)]; omega) (by omega) (by omega) (by assumption) (by assumption)
      · dsimp only; omega
    · exact exc (cm_none hP (by assumption) (by assumption)) _ _ _ _ _ (by assumption) (by assumption)
    · unfold StopHere
      ((rename News _ _ _ _ => nE'); (try simp only [List.push_toArray] at nE'); (refine' ksw_end ⟨_, _, _, _, _, _⟩ (by assumption) nE' ?e1 ?_ ?e3 ?e4 ?_ ?_); (case e1 => ktr_unf); (case e3 => kst_all); (case e4 => (intro z h2 h3; (simp only [List.forall_mem_cons, List.not_mem_nil, false_implies, implies_true, and_true, ne_eq] at h2); (simp only [List.contains_cons, List.contains_nil, Bool.or_false, Bool.or_eq_false_iff, beq_eq_false_iff_ne, ne_eq] at h3); simp [kstB, h2, h3])))
      · exact ⟨⟨_, BM.BysAre.snoc hB _ _, cm_size hz (by assumption) ha (by assumption) (by assumption) h0⟩, by show 0 ≤ c.d - 1; omega, by show c.d - 1 ≤ 20; omega, by dsimp only; omega⟩
      · exact cm_turn (d' := c.d - 1) hP (by assumption) (by rw [deep_b (by omega) (by assumption) (by assumption)]; omega) (by omega) (by omega) (by assumption) (by assumption)
      · dsimp only; omega
    · exact exc (cm_none hP (by assumption) (by assumption)) _ _ _ _ _ (by assumption) (by assumption)
    · unfold StopHere
      ((rename News _ _ _ _ => nE'); (try simp only [List.push_toArray] at nE'); (refine' ksw_end ⟨_, _, _, _, _, _⟩ (by assumption) nE' ?e1 ?_ ?e3 ?e4 ?_ ?_); (case e1 => ktr_unf); (case e3 => kst_all); (case e4 => (intro z h2 h3; (simp only [List.forall_mem_cons, List.not_mem_nil, false_implies, implies_true, and_true, ne_eq] at h2); (simp only [List.contains_cons, List.contains_nil, Bool.or_false, Bool.or_eq_false_iff, beq_eq_false_iff_ne, ne_eq] at h3); simp [kstB, h2, h3])))
      · exact ⟨⟨_, BM.BysAre.snoc hB _ _, cm_size hz (by assumption) ha (by assumption) (by assumption) h0⟩, hdl, hdh, by dsimp only; omega⟩
      · exact cm_turn (d' := c.d) hP (by assumption) (by rw [deep_c (by omega) (by assumption) (by assumption)]) (by omega) (by omega) (by assumption) (by assumption)
      · dsimp only; omega
    · exact exc (cm_none hP (by assumption) (by assumption)) _ _ _ _ _ (by assumption) (by assumption)
    · have hc0 : c.d = 0 := by omega
      unfold CmP at hP
      rw [if_pos hc0] at hP
      refine' ret _ [(_, _)] _ _ _ _ (by k_asm) (news_mono (by k_asm) ?_) ⟨_, _, _, _, _, _, rfl, rfl, hP.2, by omega, hP.1⟩
      ktr_unf
theorem wd_C4_2 : True := by
  k_with "call ref" => (k_here; (show wpAny _ _ (PySem.call (Value.ref 361) [_, _]) _ _ _); (refine' Spec.call6 (comment_at_spec _ _ _ _ (by assumption) (by first | assumption | omega)) ?B ?F ?X ?N ?T rfl rfl rfl rfl ?hd ?hu ?P ?W ?_ ?_); (case F => k_asm); (case N => k_asm); (case B => k_asm); (case X => k_asm); (case T => k_asm); (case hd => first | exact room_d (j := 1) hd (by decide) | exact room_d (j := 2) hd (by decide) | exact room_d (j := 3) hd (by decide) | (simp only [ar_depth, ar_units, depth_deeper, depth_mark, depth_under_make, depth_under_kw, depth_in1, units_deeper, units_in1, units_under_make, Around.mark_units]; omega)); (case hu => first | exact room_u (j := 0) hu (by decide) | exact room_u (j := 1) hu (by decide) | exact room_u (j := 2) hu (by decide) | exact room_u (j := 3) hu (by decide) | (simp only [ar_depth, ar_units, depth_deeper, depth_mark, depth_under_make, depth_under_kw, depth_in1, units_deeper, units_in1, units_under_make, Around.mark_units]; omega)); (case P => ktr_unf); (case W => tb_start); (all_goals first | (intro Dc' nc' oc' ac' tc1' tc2' h' tk' hP' F' N' l1 l2; (dsimp only [List.cons_append, List.nil_append] at N'); (simp only [AllLt, and_true] at l1); (simp only [Apart, ApartOne, and_true] at l2); (first | ((have hc1' := And.left hP'); (have hc2' := And.left (And.right hP')); (have hc3' := (And.right (And.right hP'))); clear hP') | obtain ⟨hc1', hc2', hc3'⟩ := hP'); (try k_sweep); (try dsimp only)) | (intro _ e' t' vs' h' tk' g' R' F' U'; (try dsimp only))))
  trivial
end PC4
end JC4
section JC5
open PySem PySem.W PyProof.Rows PySem.Calls
section PC5
variable {prog : Program} {w : World} {p : Program} {loose : List Str} {mean : ExcName → Option Value} {mg mb : Str → Option Value}
set_option maxRecDepth 100000
set_option maxHeartbeats 4000000
theorem u8_lt (c : UInt8) : ((c.toNat : Nat) : Int) < 256 := by have := c.toNat_lt; omega
theorem in_bnil {A : Around} {E : Value → Shared → Prop} {s : Shared} {i : Int} {t u : Tok} {Q : Value → Shared → Prop} (h0 : 0 ≤ i) (h1 : i < 256) (h : Q (.bool false) s) : wpAny (model prog w) A (compareOp .In (.int i u) (.bytes #[] t)) Q E s := BM.in_b h0 h1 (by rw [show (#[] : Array UInt8).contains i.toNat.toUInt8 = false from by simp]; exact h)
theorem wd_C5_0 : True := by
  k_with "compareOp In int bytes" => (k_here; (show wpAny _ _ (compareOp _ _ (Value.bytes #[] _)) _ _ _); refine in_bnil (by omega) (by first | omega | exact u8_lt _) ?_)
  trivial
theorem head_ne {b : Array UInt8} {x : Int} (h0 : 0 ≤ x) (h : ((sl b x (x + 1)).toList != [34]) = true) : (suf b x).head? ≠ some 34 := by
  have h' : ((sl b x (x + 1)).toList == #[34].toList) = false := by
    rw [bne, Bool.not_eq_true'] at h; exact h
  rw [sl_eq1 h0] at h'
  rcases e : suf b x with _ | ⟨c, r⟩
  · simp
  · rw [e] at h'; simpa using h'
theorem head_is {b : Array UInt8} {x : Int} (h0 : 0 ≤ x) (h : ((sl b x (x + 1)).toList != [34]) = false) : (suf b x).head? = some 34 ∧ (suf b x).tail = suf b (x + 1) ∧ x < (b.size : Int) := by
  have h' : ((sl b x (x + 1)).toList == #[34].toList) = true := by
    rw [bne, Bool.not_eq_false'] at h; exact h
  rw [sl_eq1 h0] at h'
  have hx : x < (b.size : Int) := by
    by_cases q : x < (b.size : Int)
    · exact q
    · rw [suf_nil (by omega)] at h'; cases h'
  rw [suf_cons h0 hx] at h' ⊢
  refine ⟨?_, rfl, hx⟩
  simpa using h'
theorem cl_size {b : Array UInt8} {bs : List (Array UInt8)} {a x y : Int} {o : Array UInt8} (hz : (BM.catB bs).size + bs.length ≤ 2 * (x - a).toNat) (hi : insideL (suf b x) = some (o.toList, suf b y)) (ha : a ≤ x) (hxy : x < y) : (BM.catB (bs ++ [o])).size + (bs ++ [o]).length ≤ 2 * (y - a).toNat := by
  rw [catB_snoc_size, List.length_append, List.length_singleton]
  have := inside_le hi
  rw [Array.length_toList] at this
  omega
theorem cl_go {b : Array UInt8} {S : Option (List UInt8 × List UInt8)} {bs : List (Array UInt8)} {x y : Int} {o : Array UInt8} (h : (suf b x).head? ≠ some 34) (hi : insideL (suf b x) = some (o.toList, suf b y))
    (hS : S = (closedL (suf b x)).map fun q => ((BM.catB bs).toList ++ q.1, q.2)) : S = (closedL (suf b y)).map fun q => ((BM.catB (bs ++ [o])).toList ++ q.1, q.2) := by
  rw [hS, closed_go h hi, catB_snoc]
  cases closedL (suf b y) with
  | none => rfl
  | some q => simp
theorem cl_none {b : Array UInt8} {S : Option (List UInt8 × List UInt8)} {bs : List (Array UInt8)} {x : Int} (h : (suf b x).head? ≠ some 34) (hi : insideL (suf b x) = none)
    (hS : S = (closedL (suf b x)).map fun q => ((BM.catB bs).toList ++ q.1, q.2)) : S = none := by
  rw [hS, closed_none h hi]; rfl
theorem cl_end {b : Array UInt8} {S : Option (List UInt8 × List UInt8)} {bs : List (Array UInt8)} {x : Int} (h : (suf b x).head? = some 34 ∧ (suf b x).tail = suf b (x + 1) ∧ x < (b.size : Int))
    (hS : S = (closedL (suf b x)).map fun q => ((BM.catB bs).toList ++ q.1, q.2)) : S = some ((BM.catB bs).toList, suf b (x + 1)) := by
  rw [hS, closed_end h.1, h.2.1]; simp
structure DSt where
  vs : List Value
  n : Nat
  a : Int
  ta : Nat
theorem closed_at_spec (b : Array UInt8) (tb : Nat) (a : Int) (t tq te : Nat) (hb : b.size ≤ 4000) (h0 : 0 ≤ a) : Spec prog w (kf w.params) p loose mean mg mb 354 ⟨[.bytes b tb, .int a t, .bytes #[34] tq, .bytes #[] te], []⟩ 10 []
    (P6 (fun D _ _ _ _ _ => .ref D) (fun D n o a' t1 t2 => [(D, tupO [.bytes o t1, .int a' t2] n)]) (fun _ _ o a' _ _ => closedL (suf b (a + 1)) = some (o.toList, suf b a') ∧ a < a' ∧ a' ≤ (b.size : Int))) (closedL (suf b (a + 1)) = none) := by
  refine' spec_of3 (rb := [("barred", .bytes #[] te), ("closing", .bytes #[34] tq), ("begun", .int a t), ("data", .bytes b tb)]) ?k1 ?k2 ?k3 ?k4 ?k5 ?k6 ?k7 ?k8 ?k9 ?_
  case k1 => k_is
  case k2 => k_is
  case k3 => first | exact fun s Xs => BindsTo.of_eq rfl | exact fun s Xs => binds_K Xs rfl (by k_is) rfl rfl rfl
  case k4 => exact locs rfl
  case k5 => exact rfl
  case k6 => exact rfl
  case k7 => exact rfl
  case k8 => decide
  case k9 => decide
  intro dp un gd envs base g L' h₁ gens drawn tk os R B F N X T lt hd hu ret exc eE aA
  k_fold
  (try k_lt lt)
  (try dsimp only)
  have hmk0 : StopAt 0 := .here
  k_steps
  unfold StopHere
  rename Fr _ _ _ _ => F9
  rename News _ _ _ _ => N9
  rename_i P _ _ _ _
  obtain ⟨ta0, ha0⟩ := at_name F9 (x := "at") (fun t => .int (a + 1) t) ⟨_, rfl⟩
  refine' ksw_while (σ := DSt) (fun c => [(P, listOf c.vs.toArray c.n)]) (fun c => [("at", .int c.a c.ta)]) (fun c => (∃ bs, BM.BysAre c.vs bs ∧ (BM.catB bs).size + bs.length ≤ 2 * (c.a - (a + 1)).toNat ∧ closedL (suf b (a + 1)) = (closedL (suf b c.a)).map fun q => ((BM.catB bs).toList ++ q.1, q.2)) ∧ a + 1 ≤ c.a ∧ (a + 1 < c.a → c.a ≤ (b.size : Int))) ["octets"]
    (fun _ => True) (fun c => b.size + 1 - c.a.toNat) ⟨[], 0, a + 1, ta0⟩ F9 N9 ?cwF ?cwK ?cwP ?cwT
  case cwF => exact ⟨⟨[], .nil, Nat.zero_le _, by rw [catB_nil]; simp⟩, Int.le_refl _, fun h => absurd h (Int.lt_irrefl _)⟩
  case cwK => exact List.forall_mem_cons.mpr ⟨ha0, List.forall_mem_nil _⟩
  case cwP => trivial
  case cwT =>
    intro c u h tk9 hF hP F N
    obtain ⟨⟨bs, hB, hz, hS⟩, ha, hle⟩ := hF
    clear F9 N9 ha0 hP
    (try k_fold)
    k_steps
    · unfold StopHere
      ((rename News _ _ _ _ => nE'); (try simp only [List.push_toArray] at nE'); (refine' ksw_end ⟨_, _, _, _⟩ (by assumption) nE' ?e1 ?_ ?e3 ?e4 ?_ ?_); (case e1 => ktr_unf); (case e3 => kst_all); (case e4 => (intro z h2 h3; (simp only [List.forall_mem_cons, List.not_mem_nil, false_implies, implies_true, and_true, ne_eq] at h2); (simp only [List.contains_cons, List.contains_nil, Bool.or_false, Bool.or_eq_false_iff, beq_eq_false_iff_ne, ne_eq] at h3); simp [kstB, h2, h3])))
      · exact ⟨⟨_, BM.BysAre.snoc hB _ _, cl_size hz (by assumption) ha (by assumption), cl_go (head_ne (by omega) (by assumption)) (by assumption) hS⟩, by dsimp only; omega, fun _ => by assumption⟩
      · trivial
      · dsimp only; omega
    · exact exc (cl_none (head_ne (by omega) (by assumption)) (by assumption) hS) _ _ _ _ _ (by assumption) (by assumption)
    · unfold StopHere
      ((rename News _ _ _ _ => nE'); (try simp only [List.push_toArray] at nE'); (refine' ksw_end ⟨_, _, _, _⟩ (by assumption) nE' ?e1 ?_ ?e3 ?e4 ?_ ?_); (case e1 => ktr_unf); (case e3 => kst_all); (case e4 => (intro z h2 h3; (simp only [List.forall_mem_cons, List.not_mem_nil, false_implies, implies_true, and_true, ne_eq] at h2); (simp only [List.contains_cons, List.contains_nil, Bool.or_false, Bool.or_eq_false_iff, beq_eq_false_iff_ne, ne_eq] at h3); simp [kstB, h2, h3])))
      · exact ⟨⟨_, BM.BysAre.snoc hB _ _, cl_size hz (by assumption) ha (by assumption), cl_go (head_ne (by omega) (by assumption)) (by assumption) hS⟩, by dsimp only; omega, fun _ => by assumption⟩
      · trivial
      · dsimp only; omega
    · exact exc (cl_none (head_ne (by omega) (by assumption)) (by assumption) hS) _ _ _ _ _ (by assumption) (by assumption)
    · have hq := head_is (b := b) (x := c.a) (by omega) (by assumption)
      refine' ret _ [(_, _)] _ _ _ _ (by k_asm) (news_mono (by k_asm) ?_) ⟨_, _, _, _, _, _, rfl, rfl, cl_end hq hS, by omega, by omega⟩
      ktr_unf
theorem wd_C5_1 : True := by
  k_with "call ref" => (k_here; (show wpAny _ _ (PySem.call (Value.ref 354) [_, _, _, _]) _ _ _); (refine' Spec.call6 (closed_at_spec _ _ _ _ _ _ (by assumption) (by first | assumption | omega)) ?B ?F ?X ?N ?T rfl rfl rfl rfl ?hd ?hu ?P ?W ?_ ?_); (case F => k_asm); (case N => k_asm); (case B => k_asm); (case X => k_asm); (case T => k_asm); (case hd => first | exact room_d (j := 1) hd (by decide) | exact room_d (j := 2) hd (by decide) | exact room_d (j := 3) hd (by decide) | (simp only [ar_depth, ar_units, depth_deeper, depth_mark, depth_under_make, depth_under_kw, depth_in1, units_deeper, units_in1, units_under_make, Around.mark_units]; omega)); (case hu => first | exact room_u (j := 0) hu (by decide) | exact room_u (j := 1) hu (by decide) | exact room_u (j := 2) hu (by decide) | exact room_u (j := 3) hu (by decide) | (simp only [ar_depth, ar_units, depth_deeper, depth_mark, depth_under_make, depth_under_kw, depth_in1, units_deeper, units_in1, units_under_make, Around.mark_units]; omega)); (case P => ktr_unf); (case W => tb_start); (all_goals first | (intro Dc' nc' oc' ac' tc1' tc2' h' tk' hP' F' N' l1 l2; (dsimp only [List.cons_append, List.nil_append] at N'); (simp only [AllLt, and_true] at l1); (simp only [Apart, ApartOne, and_true] at l2); (first | ((have hc1' := And.left hP'); (have hc2' := And.left (And.right hP')); (have hc3' := (And.right (And.right hP'))); clear hP') | obtain ⟨hc1', hc2', hc3'⟩ := hP'); (try k_sweep); (try dsimp only)) | (intro _ e' t' vs' h' tk' g' R' F' U'; (try dsimp only))))
  trivial
end PC5
end JC5
section JPB
open PySem PySem.W PyProof.Rows PySem.Calls
section PPB
theorem comment_lt {d : Nat} : ∀ {l r : List UInt8}, commentL d l = some r → r.length < l.length := by
  intro l
  induction hn : l.length using Nat.strongRecOn generalizing d l with
  | ind n ih =>
    intro r h
    subst hn
    rw [commentL] at h
    split at h
    · cases h
    · split at h
      · cases h
      · rename_i o r' hi
        have := inside_lt hi
        split at h
        · cases h; exact this
        · have := ih _ this rfl h
          omega
noncomputable def whiteB (c : UInt8) : Bool := c == 9 || c == 10 || c == 13 || c == 32
noncomputable def skipL (l : List UInt8) : Option (List UInt8) :=
  match l with
  | [] => some []
  | c :: r => if whiteB c then skipL r else if c = 40 then (match h : commentL 1 r with | none => none | some r' => skipL r') else some (c :: r)
termination_by l.length
decreasing_by
  · simp
  · have := comment_lt h; simp; omega
theorem skip_nil : skipL [] = some [] := by rw [skipL]
theorem skip_white {c : UInt8} {r : List UInt8} (h : whiteB c = true) : skipL (c :: r) = skipL r := by rw [skipL, if_pos h]
theorem skip_com {r r' : List UInt8} (h : commentL 1 r = some r') : skipL (40 :: r) = skipL r' := by
  rw [skipL, if_neg (by decide), if_pos rfl]
  split
  · rename_i q; rw [h] at q; cases q
  · rename_i q; rw [h] at q; cases q; rfl
theorem skip_bad {r : List UInt8} (h : commentL 1 r = none) : skipL (40 :: r) = none := by
  rw [skipL, if_neg (by decide), if_pos rfl]
  split
  · rfl
  · rename_i q; rw [h] at q; cases q
theorem skip_stop {c : UInt8} {r : List UInt8} (h : whiteB c = false) (h2 : c ≠ 40) : skipL (c :: r) = some (c :: r) := by rw [skipL, if_neg (by simp [h]), if_neg h2]
theorem skip_le : ∀ {l r : List UInt8}, skipL l = some r → r.length ≤ l.length := by
  intro l
  induction hn : l.length using Nat.strongRecOn generalizing l with
  | ind n ih =>
    intro r h
    subst hn
    rcases l with _ | ⟨c, l⟩
    · rw [skip_nil] at h; cases h; exact Nat.le_refl _
    · cases hw : whiteB c with
      | true => rw [skip_white hw] at h; have := ih _ (by simp) rfl h; simp; omega
      | false =>
        by_cases h4 : c = 40
        · subst h4
          cases hc : commentL 1 l with
          | none => rw [skip_bad hc] at h; cases h
          | some r' => rw [skip_com hc] at h; have := comment_lt hc; have := ih _ (show r'.length < _ by simp; omega) rfl h; simp; omega
        · rw [skip_stop hw h4] at h; cases h; exact Nat.le_refl _

noncomputable def tokC (c : UInt8) : Bool := tokI (c.toNat : Int)
noncomputable def worthC (c : UInt8) : Bool := worthI (c.toNat : Int)
/-- a word: its letters and what is left -/
noncomputable def tokL (l : List UInt8) : Option (List UInt8 × List UInt8) := if (l.takeWhile tokC).isEmpty then none else some (l.takeWhile tokC, l.dropWhile tokC)
noncomputable def worthL (l : List UInt8) : Option (List UInt8 × List UInt8) :=
  match l with
  | [] => none
  | c :: r => if c = 34 then closedL r else if (l.takeWhile worthC).isEmpty then none else some (l.takeWhile worthC, l.dropWhile worthC)
end PPB
end JPB
section JC6
open PySem PySem.W PyProof.Rows PySem.Calls
section PC6
variable {prog : Program} {w : World} {p : Program} {loose : List Str} {mean : ExcName → Option Value} {mg mb : Str → Option Value}
set_option maxRecDepth 100000
set_option maxHeartbeats 4000000
theorem pk_in {b : Array UInt8} {x : Int} (h0 : 0 ≤ x) (h : ¬ (b.size : Int) ≤ x) : pk b x = ((b.getD x.toNat 0).toNat : Int) := by unfold pk; rw [if_pos ⟨h0, by omega⟩]
theorem any_white {c : UInt8} : ([9, 10, 13, 32] : List Int).any (· == (c.toNat : Int)) = whiteB c := by
  simp only [List.any_cons, List.any_nil, Bool.or_false, whiteB]
  have e : ∀ n : Nat, n < 256 → (((n : Int) == (c.toNat : Int)) = (c == n.toUInt8)) := by
    intro n hn
    rw [Bool.eq_iff_iff, beq_iff_eq, beq_iff_eq]
    constructor
    · intro h; exact u8 h.symm
    · intro h; subst h; simp; omega
  rw [show (9 : Int) = ((9 : Nat) : Int) from rfl, show (10 : Int) = ((10 : Nat) : Int) from rfl, show (13 : Int) = ((13 : Nat) : Int) from rfl, show (32 : Int) = ((32 : Nat) : Int) from rfl, e 9 (by decide), e 10 (by decide), e 13 (by decide), e 32 (by decide), ← Bool.or_assoc, ← Bool.or_assoc]
  rfl
theorem sk_white {b : Array UInt8} {x : Int} {S : Option (List UInt8)} (h0 : 0 ≤ x) (h : ¬ (b.size : Int) ≤ x) (hw : (([9, 10, 13, 32] : List Int).any fun y => y == pk b x) = true) (hP : skipL (suf b x) = S) : skipL (suf b (x + 1)) = S := by
  rw [pk_in h0 h, any_white] at hw
  rw [← hP, suf_c h0 h, skip_white hw]
theorem sk_com {b : Array UInt8} {x y : Int} {S : Option (List UInt8)} (h0 : 0 ≤ x) (h : ¬ (b.size : Int) ≤ x) (hc : pk b x = 40) (hi : commentL 1 (suf b (x + 1)) = some (suf b y)) (hP : skipL (suf b x) = S) : skipL (suf b y) = S := by
  rw [pk_in h0 h] at hc
  rw [← hP, suf_c h0 h, u8 (n := 40) hc]
  exact (skip_com hi).symm
theorem sk_bad {b : Array UInt8} {x : Int} {S : Option (List UInt8)} (h0 : 0 ≤ x) (h : ¬ (b.size : Int) ≤ x) (hc : pk b x = 40) (hi : commentL 1 (suf b (x + 1)) = none) (hP : skipL (suf b x) = S) : S = none := by
  rw [pk_in h0 h] at hc
  rw [← hP, suf_c h0 h, u8 (n := 40) hc]
  exact skip_bad hi
theorem sk_stop {b : Array UInt8} {x : Int} {S : Option (List UInt8)} (h0 : 0 ≤ x) (h : ¬ (b.size : Int) ≤ x) (hw : (([9, 10, 13, 32] : List Int).any fun y => y == pk b x) = false) (hc : pk b x ≠ 40) (hP : skipL (suf b x) = S) : S = some (suf b x) := by
  rw [pk_in h0 h] at hc
  rw [pk_in h0 h, any_white] at hw
  rw [← hP, suf_c h0 h]
  exact skip_stop hw (by rintro e; rw [e] at hc; exact hc rfl)
structure SSt where
  a : Int
  t2 : Nat
theorem skip_spec (c d : Addr) (h1 h2 h3 : Int) (k1 k2 k3 t1 t3 : Nat) (b : Array UInt8) (t2 : Nat) (a : Int) (hb : b.size ≤ 4000) (h0 : 0 ≤ a) (ha : a ≤ (b.size : Int)) : Spec prog w (kf w.params) p loose mean mg mb 376 ⟨[.ref c], []⟩ 14 (curN c d h1 h2 h3 k1 k2 k3 t1 t3 b t2 a)
    (P2 (fun _ _ => .none) (fun t2' a' => curN c d h1 h2 h3 k1 k2 k3 t1 t3 b t2' a') (fun _ a' => skipL (suf b a) = some (suf b a') ∧ a ≤ a' ∧ a' ≤ (b.size : Int) ∧ 0 ≤ a')) (skipL (suf b a) = none) := by
  refine' spec_of3 (rb := [("cursor", .ref c)]) ?k1 ?k2 ?k3 ?k4 ?k5 ?k6 ?k7 ?k8 ?k9 ?_
  case k1 => k_is
  case k2 => k_is
  case k3 => first | exact fun s Xs => BindsTo.of_eq rfl | exact fun s Xs => binds_K Xs rfl (by k_is) rfl rfl rfl
  case k4 => exact locs rfl
  case k5 => exact rfl
  case k6 => exact rfl
  case k7 => exact rfl
  case k8 => decide
  case k9 => decide
  intro dp un gd envs base g L' h₁ gens drawn tk os R B F N X T lt hd hu ret exc eE aA
  k_fold
  (try k_lt lt)
  (try dsimp only)
  have hmk0 : StopAt 0 := .here
  have hcd : c ≠ d := news_ne N (.head _) (.tail _ (.head _)) (fun e => by cases e)
  k_steps
  unfold StopHere
  refine' ksw_while (σ := SSt) (fun x => curN c d h1 h2 h3 k1 k2 k3 t1 t3 b x.t2 x.a) (fun x => []) (fun x => a ≤ x.a ∧ x.a ≤ (b.size : Int)) []
    (fun x => skipL (suf b x.a) = skipL (suf b a)) (fun x => b.size + 1 - x.a.toNat) ⟨a, t2⟩ F N ⟨Int.le_refl _, ha⟩ (List.forall_mem_nil _) rfl ?cwT
  case cwT =>
    intro x u h tk9 hF hP F9 N9
    clear F N
    first | ((have hxl := And.left hF); (have hxh := (And.right hF)); clear hF) | obtain ⟨hxl, hxh⟩ := hF
    (try k_fold)
    k_steps
    · exact ret _ _ _ _ _ _ (by k_asm) (by k_asm) ⟨_, _, rfl, rfl, by rw [← hP, suf_nil (by assumption), skip_nil], hxl, hxh, Int.le_trans h0 hxl⟩
    · unfold StopHere
      rw [adv_in (show x.a < (b.size : Int) by omega)] at *
      ((rename News _ _ _ _ => nE'); (try simp only [List.push_toArray] at nE'); (refine' ksw_end ⟨_, _⟩ (by assumption) nE' ?e1 ?_ ?e3 ?e4 ?_ ?_); (case e1 => ktr_unf); (case e3 => kst_all); (case e4 => (intro z h2 h3; (simp only [List.forall_mem_cons, List.not_mem_nil, false_implies, implies_true, and_true, ne_eq] at h2); (simp only [List.contains_cons, List.contains_nil, Bool.or_false, Bool.or_eq_false_iff, beq_eq_false_iff_ne, ne_eq] at h3); simp [kstB, h2, h3])))
      · dsimp only; omega
      · exact sk_white (by omega) (by assumption) (by assumption) hP
      · dsimp only; omega
    · unfold StopHere
      ((rename News _ _ _ _ => nE'); (try simp only [List.push_toArray] at nE'); (refine' ksw_end ⟨_, _⟩ (by assumption) nE' ?e1 ?_ ?e3 ?e4 ?_ ?_); (case e1 => ktr_unf); (case e3 => kst_all); (case e4 => (intro z h2 h3; (simp only [List.forall_mem_cons, List.not_mem_nil, false_implies, implies_true, and_true, ne_eq] at h2); (simp only [List.contains_cons, List.contains_nil, Bool.or_false, Bool.or_eq_false_iff, beq_eq_false_iff_ne, ne_eq] at h3); simp [kstB, h2, h3])))
      · dsimp only; omega
      · exact sk_com (by omega) (by assumption) (by assumption) (by assumption) hP
      · dsimp only; omega
    · exact exc (sk_bad (by omega) (by assumption) (by assumption) (by assumption) hP) _ _ _ _ _ (by assumption) (by assumption)
    · exact ret _ _ _ _ _ _ (by k_asm) (by k_asm) ⟨_, _, rfl, rfl, sk_stop (by omega) (by assumption) (by assumption) (by assumption) hP, hxl, hxh, Int.le_trans h0 hxl⟩
theorem wd_C6_0 : True := by
  k_with "call ref" => (k_here; (show wpAny _ _ (PySem.call (Value.ref 376) [_]) _ _ _); (refine' Spec.call2 (skip_spec _ _ _ _ _ _ _ _ _ _ _ _ _ (by assumption) ?s1 ?s2) ?B ?F ?X ?N ?T rfl rfl rfl rfl ?hd ?hu ?P ?W ?_ ?_); (case F => k_asm); (case N => k_asm); (case B => k_asm); (case X => k_asm); (case T => k_asm); (case hd => first | exact room_d (j := 1) hd (by decide) | exact room_d (j := 2) hd (by decide) | exact room_d (j := 3) hd (by decide) | (simp only [ar_depth, ar_units, depth_deeper, depth_mark, depth_under_make, depth_under_kw, depth_in1, units_deeper, units_in1, units_under_make, Around.mark_units]; omega)); (case hu => first | exact room_u (j := 0) hu (by decide) | exact room_u (j := 1) hu (by decide) | exact room_u (j := 2) hu (by decide) | exact room_u (j := 3) hu (by decide) | (simp only [ar_depth, ar_units, depth_deeper, depth_mark, depth_under_make, depth_under_kw, depth_in1, units_deeper, units_in1, units_under_make, Around.mark_units]; omega)); (case P => ktr_unf); (case W => tb_start); (case s1 => first | assumption | omega); (case s2 => first | assumption | exact adv_le (by assumption) | exact adv_le (Int.le_of_lt (by assumption)) | omega); (all_goals first | (intro ts' as' h' tk' hP' F' N' l1 l2; (dsimp only [List.cons_append, List.nil_append] at N'); clear l1 l2; (first | ((have hs1' := And.left hP'); (have hs2' := And.left (And.right hP')); (have hs3' := And.left (And.right (And.right hP'))); (have hs4' := (And.right (And.right (And.right hP')))); clear hP') | obtain ⟨hs1', hs2', hs3', hs4'⟩ := hP'); (try k_sweep); (try dsimp only)) | (intro _ e' t' vs' h' tk' g' R' F' U'; (try dsimp only))))
  trivial
end PC6
end JC6
section JC7
open PySem PySem.W PyProof.Rows PySem.Calls
section PC7
variable {prog : Program} {w : World} {p : Program} {loose : List Str} {mean : ExcName → Option Value} {mg mb : Str → Option Value}
set_option maxRecDepth 100000
set_option maxHeartbeats 4000000
theorem sl_snoc {b : Array UInt8} {a x : Int} (h0 : 0 ≤ a) (h1 : a ≤ x) (h2 : x < (b.size : Int)) : (sl b a (x + 1)).toList = (sl b a x).toList ++ [b.getD x.toNat 0] := by
  unfold sl
  rw [show (x + 1).toNat - a.toNat = (x.toNat - a.toNat) + 1 from by rw [show (x + 1).toNat = x.toNat + 1 from tn_add 1 (Int.le_trans h0 h1)]; exact Nat.succ_sub (Int.toNat_le_toNat h1)]
  show (suf b a).take _ = (suf b a).take _ ++ _
  rw [List.take_add_one]
  congr 1
  have : (suf b a)[x.toNat - a.toNat]? = some (b.getD x.toNat 0) := by
    have e := suf_drop (b := b) (k := x.toNat - a.toNat) h0
    rw [tn_back h0 h1] at e
    have e2 : ((suf b a).drop (x.toNat - a.toNat)).head? = some (b.getD x.toNat 0) := by rw [e, suf_cons (by omega) h2]; rfl
    rwa [List.head?_drop] at e2
  rw [this]; rfl
theorem sl_self {b : Array UInt8} {a : Int} : (sl b a a).toList = [] := by unfold sl; simp
theorem span_go {P : UInt8 → Bool} {b : Array UInt8} {a x : Int} (h0 : 0 ≤ a) (h1 : a ≤ x) (h2 : x < (b.size : Int)) (hp : P (b.getD x.toNat 0) = true)
    (h : (suf b a).takeWhile P = (sl b a x).toList ++ (suf b x).takeWhile P ∧ (suf b a).dropWhile P = (suf b x).dropWhile P) :
    (suf b a).takeWhile P = (sl b a (x + 1)).toList ++ (suf b (x + 1)).takeWhile P ∧ (suf b a).dropWhile P = (suf b (x + 1)).dropWhile P := by
  first | ((have e1 := And.left h); (have e2 := (And.right h)); clear h) | obtain ⟨e1, e2⟩ := h
  rw [suf_cons (b := b) (a := x) (by omega) h2] at e1 e2
  rw [e1, e2, sl_snoc h0 h1 h2, List.takeWhile_cons_of_pos hp, List.dropWhile_cons_of_pos hp]
  exact ⟨by rw [List.append_assoc]; rfl, rfl⟩
theorem span_end {P : UInt8 → Bool} {b : Array UInt8} {a x : Int} (hx : 0 ≤ x) (hp : x < (b.size : Int) → P (b.getD x.toNat 0) = false)
    (h : (suf b a).takeWhile P = (sl b a x).toList ++ (suf b x).takeWhile P ∧ (suf b a).dropWhile P = (suf b x).dropWhile P) :
    (suf b a).takeWhile P = (sl b a x).toList ∧ (suf b a).dropWhile P = suf b x := by
  first | ((have e1 := And.left h); (have e2 := (And.right h)); clear h) | obtain ⟨e1, e2⟩ := h
  by_cases h2 : x < (b.size : Int)
  · rw [suf_cons hx h2] at e1 e2
    have hn : ¬ P (b.getD x.toNat 0) = true := by rw [hp h2]; exact Bool.false_ne_true
    rw [suf_cons hx h2, e1, e2, List.takeWhile_cons_of_neg hn, List.dropWhile_cons_of_neg hn]
    exact ⟨List.append_nil _, rfl⟩
  · have hs : suf b x = [] := suf_nil (show (b.size : Int) ≤ x by omega)
    rw [hs] at e1 e2 ⊢
    rw [e1, e2]
    simp
theorem sl_len {b : Array UInt8} {a x : Int} (h1 : a ≤ x) (h0 : 0 ≤ a) (h2 : x ≤ (b.size : Int)) : (sl b a x).toList.length = (x - a).toNat := by
  unfold sl
  show ((suf b a).take _).length = _
  rw [List.length_take, suf_length]
  obtain ⟨m, rfl⟩ := Int.eq_ofNat_of_zero_le h0
  obtain ⟨n, rfl⟩ := Int.eq_ofNat_of_zero_le (Int.le_trans h0 h1)
  rw [Int.toNat_sub]
  exact Nat.min_eq_left (Nat.sub_le_sub_right (Int.ofNat_le.mp h2) m)
theorem tok_in {b : Array UInt8} {x : Int} (h0 : 0 ≤ x) (h : tokI (pk b x) = true) : x < (b.size : Int) ∧ tokC (b.getD x.toNat 0) = true := by
  have hx : x < (b.size : Int) := by
    by_cases q : x < (b.size : Int)
    · exact q
    · unfold pk at h; rw [if_neg (by omega)] at h; exact absurd h (by decide)
  exact ⟨hx, by rwa [pk_in h0 (by omega)] at h⟩
theorem tok_out {b : Array UInt8} {x : Int} (h0 : 0 ≤ x) (h : tokI (pk b x) = false) : x < (b.size : Int) → tokC (b.getD x.toNat 0) = false := fun hx => by rwa [pk_in h0 (by omega)] at h
theorem worth_in {b : Array UInt8} {x : Int} (h0 : 0 ≤ x) (h : worthI (pk b x) = true) : x < (b.size : Int) ∧ worthC (b.getD x.toNat 0) = true := by
  have hx : x < (b.size : Int) := by
    by_cases q : x < (b.size : Int)
    · exact q
    · unfold pk at h; rw [if_neg (by omega)] at h; exact absurd h (by decide)
  exact ⟨hx, by rwa [pk_in h0 (by omega)] at h⟩
theorem worth_out {b : Array UInt8} {x : Int} (h0 : 0 ≤ x) (h : worthI (pk b x) = false) : x < (b.size : Int) → worthC (b.getD x.toNat 0) = false := fun hx => by rwa [pk_in h0 (by omega)] at h
theorem tok_some {b : Array UInt8} {a x : Int} (h0 : 0 ≤ a) (h1 : a < x) (h2 : x ≤ (b.size : Int)) (h : (suf b a).takeWhile tokC = (sl b a x).toList ∧ (suf b a).dropWhile tokC = suf b x) : tokL (suf b a) = some ((sl b a x).toList, suf b x) := by
  unfold tokL
  have := sl_len (b := b) (show a ≤ x by omega) h0 h2
  rw [h.1, h.2, if_neg]
  rw [List.isEmpty_iff]
  intro e; rw [e] at this; simp at this; omega
theorem tok_none {b : Array UInt8} {a x : Int} (e : x = a) (h : (suf b a).takeWhile tokC = (sl b a x).toList ∧ (suf b a).dropWhile tokC = suf b x) : tokL (suf b a) = none := by
  subst e
  unfold tokL
  rw [h.1, sl_self]; rfl
theorem worth_some {b : Array UInt8} {a x : Int} (h0 : 0 ≤ a) (h1 : a < x) (h2 : x ≤ (b.size : Int)) (hq : pk b a ≠ 34) (h : (suf b a).takeWhile worthC = (sl b a x).toList ∧ (suf b a).dropWhile worthC = suf b x) : worthL (suf b a) = some ((sl b a x).toList, suf b x) := by
  have := sl_len (b := b) (show a ≤ x by omega) h0 h2
  have hs := suf_cons (b := b) h0 (show a < (b.size : Int) by omega)
  have hc : b.getD a.toNat 0 ≠ 34 := by intro e; rw [pk_in h0 (by omega), e] at hq; exact hq rfl
  unfold worthL
  rw [hs] at h ⊢
  dsimp only
  rw [if_neg hc, h.1, h.2, if_neg]
  rw [List.isEmpty_iff]
  intro e; rw [e] at this; simp at this; omega
theorem worth_none {b : Array UInt8} {a x : Int} (h0 : 0 ≤ a) (e : x = a) (hq : pk b a ≠ 34) (h : (suf b a).takeWhile worthC = (sl b a x).toList ∧ (suf b a).dropWhile worthC = suf b x) : worthL (suf b a) = none := by
  subst e
  rw [sl_self] at h
  by_cases hx : x < (b.size : Int)
  · have hs := suf_cons (b := b) h0 hx
    have hc : b.getD x.toNat 0 ≠ 34 := by intro e; rw [pk_in h0 (by omega), e] at hq; exact hq rfl
    unfold worthL
    rw [hs] at h ⊢
    dsimp only
    rw [if_neg hc, h.1]; rfl
  · rw [suf_nil (by omega)]; rfl
theorem worth_q {b : Array UInt8} {a : Int} (h0 : 0 ≤ a) (hq : pk b a = 34) : worthL (suf b a) = closedL (suf b (a + 1)) := by
  have hx : a < (b.size : Int) := by
    by_cases q : a < (b.size : Int)
    · exact q
    · unfold pk at hq; rw [if_neg (by omega)] at hq; omega
  rw [pk_in h0 (by omega)] at hq
  rw [suf_cons h0 hx, u8 (n := 34) hq]
  rfl
theorem token_spec (c d : Addr) (h1 h2 h3 : Int) (k1 k2 k3 t1 t3 : Nat) (b : Array UInt8) (t2 : Nat) (a : Int) (hb : b.size ≤ 4000) (h0 : 0 ≤ a) (ha : a ≤ (b.size : Int)) : Spec prog w (kf w.params) p loose mean mg mb 383 ⟨[.ref c], []⟩ 8 (curN c d h1 h2 h3 k1 k2 k3 t1 t3 b t2 a)
    (P3 (fun _ a' tv => .bytes (sl b a a') tv) (fun t2' a' _ => curN c d h1 h2 h3 k1 k2 k3 t1 t3 b t2' a') (fun _ a' _ => tokL (suf b a) = some ((sl b a a').toList, suf b a') ∧ a < a' ∧ a' ≤ (b.size : Int) ∧ 0 ≤ a')) (tokL (suf b a) = none) := by
  refine' spec_of3 (rb := [("cursor", .ref c)]) ?k1 ?k2 ?k3 ?k4 ?k5 ?k6 ?k7 ?k8 ?k9 ?_
  case k1 => k_is
  case k2 => k_is
  case k3 => first | exact fun s Xs => BindsTo.of_eq rfl | exact fun s Xs => binds_K Xs rfl (by k_is) rfl rfl rfl
  case k4 => exact locs rfl
  case k5 => exact rfl
  case k6 => exact rfl
  case k7 => exact rfl
  case k8 => decide
  case k9 => decide
  intro dp un gd envs base g L' h₁ gens drawn tk os R B F N X T lt hd hu ret exc eE aA
  k_fold
  (try k_lt lt)
  (try dsimp only)
  have hmk0 : StopAt 0 := .here
  have hcd : c ≠ d := news_ne N (.head _) (.tail _ (.head _)) (fun e => by cases e)
  k_steps
  unfold StopHere
  rename Fr _ _ _ _ => F9
  rename News _ _ _ _ => N9
  refine' ksw_while (σ := SSt) (fun x => curN c d h1 h2 h3 k1 k2 k3 t1 t3 b x.t2 x.a) (fun x => []) (fun x => a ≤ x.a ∧ x.a ≤ (b.size : Int)) []
    (fun x => (suf b a).takeWhile tokC = (sl b a x.a).toList ++ (suf b x.a).takeWhile tokC ∧ (suf b a).dropWhile tokC = (suf b x.a).dropWhile tokC) (fun x => b.size + 1 - x.a.toNat) ⟨a, t2⟩ F9 N9 ⟨Int.le_refl _, ha⟩ (List.forall_mem_nil _) ⟨by rw [sl_self]; rfl, rfl⟩ ?cwT
  case cwT =>
    intro x u h tk9 hF hP F N
    clear F9 N9
    first | ((have hxl := And.left hF); (have hxh := (And.right hF)); clear hF) | obtain ⟨hxl, hxh⟩ := hF
    (try k_fold)
    k_steps
    · have hw := tok_in (b := b) (x := x.a) (by omega) (by assumption)
      unfold StopHere
      rw [adv_in hw.1] at *
      ((rename News _ _ _ _ => nE'); (try simp only [List.push_toArray] at nE'); (refine' ksw_end ⟨_, _⟩ (by assumption) nE' ?e1 ?_ ?e3 ?e4 ?_ ?_); (case e1 => ktr_unf); (case e3 => kst_all); (case e4 => (intro z h2 h3; (simp only [List.forall_mem_cons, List.not_mem_nil, false_implies, implies_true, and_true, ne_eq] at h2); (simp only [List.contains_cons, List.contains_nil, Bool.or_false, Bool.or_eq_false_iff, beq_eq_false_iff_ne, ne_eq] at h3); simp [kstB, h2, h3])))
      · dsimp only; omega
      · exact span_go h0 hxl hw.1 hw.2 hP
      · dsimp only; omega
    · exact exc (tok_none (x := x.a) (by omega) (span_end (by omega) (tok_out (by omega) (by assumption)) hP)) _ _ _ _ _ (by assumption) (by assumption)
    · exact ret _ _ _ _ _ _ (by k_asm) (by k_asm) ⟨_, _, _, rfl, rfl, tok_some h0 (by omega) hxh (span_end (by omega) (tok_out (by omega) (by assumption)) hP), by omega, hxh, Int.le_trans h0 hxl⟩
theorem wd_C7_0 : True := by
  k_with "call ref" => (k_here; (show wpAny _ _ (PySem.call (Value.ref 383) [_]) _ _ _); (refine' Spec.call3 (token_spec _ _ _ _ _ _ _ _ _ _ _ _ _ (by assumption) ?s1 ?s2) ?B ?F ?X ?N ?T rfl rfl rfl rfl ?hd ?hu ?P ?W ?_ ?_); (case F => k_asm); (case N => k_asm); (case B => k_asm); (case X => k_asm); (case T => k_asm); (case hd => first | exact room_d (j := 1) hd (by decide) | exact room_d (j := 2) hd (by decide) | exact room_d (j := 3) hd (by decide) | (simp only [ar_depth, ar_units, depth_deeper, depth_mark, depth_under_make, depth_under_kw, depth_in1, units_deeper, units_in1, units_under_make, Around.mark_units]; omega)); (case hu => first | exact room_u (j := 0) hu (by decide) | exact room_u (j := 1) hu (by decide) | exact room_u (j := 2) hu (by decide) | exact room_u (j := 3) hu (by decide) | (simp only [ar_depth, ar_units, depth_deeper, depth_mark, depth_under_make, depth_under_kw, depth_in1, units_deeper, units_in1, units_under_make, Around.mark_units]; omega)); (case P => ktr_unf); (case W => tb_start); (case s1 => first | assumption | omega); (case s2 => first | assumption | omega); (all_goals first | (intro tk2' at' tv' h' tk' hP' F' N' l1 l2; (dsimp only [List.cons_append, List.nil_append] at N'); clear l1 l2; (first | ((have ht1' := And.left hP'); (have ht2' := And.left (And.right hP')); (have ht3' := And.left (And.right (And.right hP'))); (have ht4' := (And.right (And.right (And.right hP')))); clear hP') | obtain ⟨ht1', ht2', ht3', ht4'⟩ := hP'); (try k_sweep); (try dsimp only)) | (intro _ e' t' vs' h' tk' g' R' F' U'; (try dsimp only))))
  trivial
theorem worth_spec (c d : Addr) (h1 h2 h3 : Int) (k1 k2 k3 t1 t3 : Nat) (b : Array UInt8) (t2 : Nat) (a : Int) (hb : b.size ≤ 4000) (h0 : 0 ≤ a) (ha : a ≤ (b.size : Int)) : Spec prog w (kf w.params) p loose mean mg mb 397 ⟨[.ref c], []⟩ 14 (curN c d h1 h2 h3 k1 k2 k3 t1 t3 b t2 a)
    (P4 (fun _ _ o tv => .bytes o tv) (fun t2' a' _ _ => curN c d h1 h2 h3 k1 k2 k3 t1 t3 b t2' a') (fun _ a' o _ => worthL (suf b a) = some (o.toList, suf b a') ∧ a < a' ∧ a' ≤ (b.size : Int) ∧ 0 ≤ a')) (worthL (suf b a) = none) := by
  refine' spec_of3 (rb := [("cursor", .ref c)]) ?k1 ?k2 ?k3 ?k4 ?k5 ?k6 ?k7 ?k8 ?k9 ?_
  case k1 => k_is
  case k2 => k_is
  case k3 => first | exact fun s Xs => BindsTo.of_eq rfl | exact fun s Xs => binds_K Xs rfl (by k_is) rfl rfl rfl
  case k4 => exact locs rfl
  case k5 => exact rfl
  case k6 => exact rfl
  case k7 => exact rfl
  case k8 => decide
  case k9 => decide
  intro dp un gd envs base g L' h₁ gens drawn tk os R B F N X T lt hd hu ret exc eE aA
  k_fold
  (try k_lt lt)
  (try dsimp only)
  have hmk0 : StopAt 0 := .here
  have hcd : c ≠ d := news_ne N (.head _) (.tail _ (.head _)) (fun e => by cases e)
  k_steps
  · refine' ret _ _ _ _ _ _ (by k_asm) (news_mono (by k_asm) ?_) ⟨_, _, _, _, rfl, rfl, (worth_q h0 (by assumption)).trans (by assumption), by omega, by assumption, by omega⟩
    ktr_unf
  · exact exc ((worth_q h0 (by assumption)).trans (by assumption)) _ _ _ _ _ (by assumption) (by assumption)
  unfold StopHere
  have hq : pk b a ≠ 34 := by assumption
  rename Fr _ _ _ _ => F9
  rename News _ _ _ _ => N9
  refine' ksw_while (σ := SSt) (fun x => curN c d h1 h2 h3 k1 k2 k3 t1 t3 b x.t2 x.a) (fun x => []) (fun x => a ≤ x.a ∧ x.a ≤ (b.size : Int)) []
    (fun x => (suf b a).takeWhile worthC = (sl b a x.a).toList ++ (suf b x.a).takeWhile worthC ∧ (suf b a).dropWhile worthC = (suf b x.a).dropWhile worthC) (fun x => b.size + 1 - x.a.toNat) ⟨a, t2⟩ F9 N9 ⟨Int.le_refl _, ha⟩ (List.forall_mem_nil _) ⟨by rw [sl_self]; rfl, rfl⟩ ?cwT
  case cwT =>
    intro x u h tk9 hF hP F N
    clear F9 N9
    first | ((have hxl := And.left hF); (have hxh := (And.right hF)); clear hF) | obtain ⟨hxl, hxh⟩ := hF
    (try k_fold)
    k_steps
    · have hw := worth_in (b := b) (x := x.a) (by omega) (by assumption)
      unfold StopHere
      rw [adv_in hw.1] at *
      ((rename News _ _ _ _ => nE'); (try simp only [List.push_toArray] at nE'); (refine' ksw_end ⟨_, _⟩ (by assumption) nE' ?e1 ?_ ?e3 ?e4 ?_ ?_); (case e1 => ktr_unf); (case e3 => kst_all); (case e4 => (intro z h2 h3; (simp only [List.forall_mem_cons, List.not_mem_nil, false_implies, implies_true, and_true, ne_eq] at h2); (simp only [List.contains_cons, List.contains_nil, Bool.or_false, Bool.or_eq_false_iff, beq_eq_false_iff_ne, ne_eq] at h3); simp [kstB, h2, h3])))
      · dsimp only; omega
      · exact span_go h0 hxl hw.1 hw.2 hP
      · dsimp only; omega
    · exact exc (worth_none h0 (x := x.a) (by omega) hq (span_end (by omega) (worth_out (by omega) (by assumption)) hP)) _ _ _ _ _ (by assumption) (by assumption)
    · exact ret _ _ _ _ _ _ (by k_asm) (by k_asm) ⟨_, _, _, _, rfl, rfl, worth_some h0 (by omega) hxh hq (span_end (by omega) (worth_out (by omega) (by assumption)) hP), by omega, hxh, Int.le_trans h0 hxl⟩
theorem wd_C7_1 : True := by
  k_with "call ref" => (k_here; (show wpAny _ _ (PySem.call (Value.ref 397) [_]) _ _ _); (refine' Spec.call4 (worth_spec _ _ _ _ _ _ _ _ _ _ _ _ _ (by assumption) ?s1 ?s2) ?B ?F ?X ?N ?T rfl rfl rfl rfl ?hd ?hu ?P ?W ?_ ?_); (case F => k_asm); (case N => k_asm); (case B => k_asm); (case X => k_asm); (case T => k_asm); (case hd => first | exact room_d (j := 1) hd (by decide) | exact room_d (j := 2) hd (by decide) | exact room_d (j := 3) hd (by decide) | (simp only [ar_depth, ar_units, depth_deeper, depth_mark, depth_under_make, depth_under_kw, depth_in1, units_deeper, units_in1, units_under_make, Around.mark_units]; omega)); (case hu => first | exact room_u (j := 0) hu (by decide) | exact room_u (j := 1) hu (by decide) | exact room_u (j := 2) hu (by decide) | exact room_u (j := 3) hu (by decide) | (simp only [ar_depth, ar_units, depth_deeper, depth_mark, depth_under_make, depth_under_kw, depth_in1, units_deeper, units_in1, units_under_make, Around.mark_units]; omega)); (case P => ktr_unf); (case W => tb_start); (case s1 => first | assumption | omega); (case s2 => first | assumption | omega); (all_goals first | (intro tw2' aw' ow' tv' h' tk' hP' F' N' l1 l2; (dsimp only [List.cons_append, List.nil_append] at N'); clear l1 l2; (first | ((have hw1' := And.left hP'); (have hw2' := And.left (And.right hP')); (have hw3' := And.left (And.right (And.right hP'))); (have hw4' := (And.right (And.right (And.right hP')))); clear hP') | obtain ⟨hw1', hw2', hw3', hw4'⟩ := hP'); (try k_sweep); (try dsimp only)) | (intro _ e' t' vs' h' tk' g' R' F' U'; (try dsimp only))))
  trivial
end PC7
end JC7
section JCM
open PySem PySem.W PyProof.Rows PySem.Calls
section PCM
set_option maxRecDepth 100000
open LCg
variable {prog : Program} {w : World} {A : Around} {E : Value → Shared → Prop} {s : Shared} {h₀ : Heap} {L : Addr} {m : Str → Option Value} {env : Env}
/-- the end of an element: its value, and all as it stood -/
noncomputable def EltEnd (h₀ : Heap) (L : Addr) (m : Str → Option Value) (s₂ : Shared) (led : List (Addr × Obj)) (g : Value → Prop) (y : Value) (s₃ : Shared) : Prop :=
  ∃ h' tk', s₃ = { s₂ with heap := h', toks := tk' } ∧ Fr h₀ L h' m ∧ News h₀ L h' led ∧ g y
theorem elt_end {s₂ : Shared} {led nx : List (Addr × Obj)} {g : Value → Prop} {y : Value} {h' : Heap} {tk' : Nat} (F : Fr h₀ L h' m) (N : News h₀ L h' nx) (hs : ∀ p ∈ led, p ∈ nx) (hg : g y) : EltEnd h₀ L m s₂ led g y { s₂ with heap := h', toks := tk' } :=
  ⟨h', tk', rfl, F, fun p hp => N p (hs p hp), hg⟩
noncomputable abbrev EltOk (prog : Program) (w : World) (A : Around) (h₀ : Heap) (L : Addr) (m : Str → Option Value) (env : Env) (elt : Expr) (x : Str) (scope : Scope) (cl : List (Str × Addr)) (s : Shared) (news : List (Addr × Obj)) (n : Nat) (P : Nat → Value → Prop) (g : Nat → Value → Prop) : Prop :=
  ∀ (i : Nat) (v : Value) (ys : List Value) (I : Addr) (oI : Obj) (C : Addr) (oC : Obj) (D : Addr) (m₂ : Str → Option Value) (h : Heap) (tk : Nat) (E' : Value → Shared → Prop), i < n → P i v → NsObj oC m₂ → m₂ x = some v → Fr h₀ L h m → News h₀ L h ((I, oI) :: (C, oC) :: (D, lst ys) :: news) → Off3 I C D news → ((@Ne Nat I C) ∧ (@Ne Nat I D) ∧ (@Ne Nat C D)) →
      wpAny (model prog w) A (eval elt (compEnvC scope cl C env)) (EltEnd h₀ L m s ((I, oI) :: (C, oC) :: (D, lst ys) :: news) (g i)) E' { s with heap := h, toks := tk }
noncomputable abbrev FinOk (h₀ : Heap) (L : Addr) (m : Str → Option Value) (s : Shared) (news : List (Addr × Obj)) (n : Nat) (g : Nat → Value → Prop) (Q : Value → Shared → Prop) : Prop :=
  ∀ (D : Addr) (h : Heap) (tk : Nat) (ys : List Value), ys.length = n → (∀ i y, ys[i]? = some y → g i y) → Fr h₀ L h m → News h₀ L h ((D, listOf ys.toArray n) :: news) → Off1 D news → Q (.ref D) { s with heap := h, toks := tk }
theorem comp_rest {elt : Expr} {x : Str} {scope : Scope} {cl : List (Str × Addr)} {news : List (Addr × Obj)} {n : Nat} {P : Nat → Value → Prop} {g : Nat → Value → Prop} {Q : Value → Shared → Prop}
    (he : EltOk prog w A h₀ L m env elt x scope cl s news n P g) (hf : FinOk h₀ L m s news n g Q) :
    ∀ k i ys, i + k = n → ys.length = i → (∀ j y, ys[j]? = some y → g j y) → CompRest prog w A h₀ L m env elt x scope cl s (fun _ => True) P (FinE h₀ L m s Q) k i ys news
  | 0, i, ys, hk, hl, hg => CompRest.zero fun D h tk F N o => by
    have e : i = n := by omega
    subst e
    subst hl
    unfold FinOk at hf
    exact hf D h tk ys rfl hg F N o
  | k + 1, i, ys, hk, hl, hg => CompRest.succ fun v I oI C oC D m₂ h tk E' hP hC hx F N off ne => by
    refine wpAny_mono (he i v ys I oI C oC D m₂ h tk E' (by omega) hP hC hx F N off ne) (fun y s₃ q => ?_) fun _ _ z => z
    obtain ⟨h', tk', rfl, F', N', hy⟩ := q
    refine ⟨h', tk', news, rfl, F', N', off, trivial, ?_⟩
    refine comp_rest he hf k (i + 1) (ys ++ [y]) (by omega) (by simp [hl]) fun j z hj => ?_
    rcases Nat.lt_or_ge j ys.length with q | q
    · rw [List.getElem?_append_left q] at hj; exact hg j z hj
    · rw [List.getElem?_append_right q] at hj
      rcases Nat.eq_or_lt_of_le q with e | e
      · rw [← e, Nat.sub_self] at hj
        cases hj
        rw [hl] at e
        rw [← e]; exact hy
      · rw [List.getElem?_eq_none (by simp; omega)] at hj; cases hj

noncomputable def SrcB (prog : Program) (w : World) (A : Around) (h₀ : Heap) (L : Addr) (m : Str → Option Value) (env : Env) (elt : Expr) (x : Str) (scope : Scope) (cl : List (Str × Addr)) (Q : Value → Shared → Prop) (xv : Value) (s₁ : Shared) : Prop :=
  ∃ b t news g, xv = .bytes b t ∧ b.size ≤ sizeLine ∧ A.handled = none ∧ Fr h₀ L s₁.heap m ∧ News h₀ L s₁.heap news ∧
    ∀ s₂ : Shared, (∃ h, s₂ = { s₁ with heap := h }) → EltOk prog w A h₀ L m env elt x scope cl s₂ news b.size (fun i v => ∃ c u, b[i]? = some c ∧ v = .int (c.toNat : Int) u) g ∧ FinOk h₀ L m s₂ news b.size g Q
noncomputable def SrcT (prog : Program) (w : World) (A : Around) (h₀ : Heap) (L : Addr) (m : Str → Option Value) (env : Env) (elt : Expr) (x : Str) (scope : Scope) (cl : List (Str × Addr)) (Q : Value → Shared → Prop) (xv : Value) (s₁ : Shared) : Prop :=
  ∃ y t news g, xv = .str y t ∧ y.cps.size ≤ sizeLine ∧ A.handled = none ∧ Fr h₀ L s₁.heap m ∧ News h₀ L s₁.heap news ∧
    ∀ s₂ : Shared, (∃ h, s₂ = { s₁ with heap := h }) → EltOk prog w A h₀ L m env elt x scope cl s₂ news y.cps.size (SignAt y) g ∧ FinOk h₀ L m s₂ news y.cps.size g Q

theorem comp_B {elt iter : Expr} {x : Str} {px : Pos} {scope : Scope} {cl : List (Str × Addr)} {pos : Pos} {Q : Value → Shared → Prop} (_F₀ : Fr h₀ L s.heap m)
    (hclos : closureFor scope env = pure cl) (hcell : ∀ y ∈ scope.names, y.2 ≠ .cell) (hkind : scope.kind = .function)
    (hnames : ∀ y ∈ scope.names, y.2 = .local → scope.names.lookup y.1 = some .local) (hx : scope.names.lookup x = some .local)
    (h : wpAny (model prog w) A (eval iter env) (SrcB prog w A h₀ L m env elt x scope cl Q) E s)
    (hs : ∀ x, foldedSetIterable iter env x = pure x) :
    wpAny (model prog w) A (eval (.ListComp elt [⟨.Name x px, iter, [], 0⟩] scope pos) env) Q E s := by
  rw [eval_ListComp]
  refine wpAny_comprehension_free (use := none) rfl hs hclos hkind hnames (wpAny_mono h (fun xv s₁ h₁ => ?_) fun _ _ e => e)
  obtain ⟨b, t, news, g, rfl, hz, hh, F, N, H⟩ := h₁
  refine KBw.pyIter_bytes ?_
  obtain ⟨he, hf⟩ := H { s₁ with heap := s₁.heap.push { cls := .type "bytes_iterator", data := .fields #[.bytes b t, .int 0 0] } } ⟨_, rfl⟩
  have up : ∀ b' o, s₁.heap.get? b' = some o → (s₁.heap.push { cls := .type "bytes_iterator", data := .fields #[.bytes b t, .int 0 0] }).get? b' = some o := fun b o e => Heap.get?_push_of_some _ e
  refine block_U (S := fun _ => True) (KBw.walks hh s₁.heap.objs.size b t) hz (fun i h st => by obtain ⟨o, e, _⟩ := st; exact ⟨o, e⟩) (fun i h h' o nw st e e' _ _ _ => ?_) hcell hkind hx ⟨_, Heap.get?_push_size _ rfl, rfl, rfl⟩ (fun b' hb => ?_)
      (F.keeps up) (N.grown up) (Nat.ne_of_lt F.ns.lt) (next_is_new F) (fun p hp => Nat.ne_of_lt (Heap.lt_size (N p hp).1)) trivial (comp_rest he hf b.size 0 [] (Nat.zero_add _) rfl (fun j y hj => by cases hj)) ?_
  · obtain ⟨o', q, r⟩ := st; rw [e] at q; cases q; exact ⟨o, e', r⟩
  · rw [List.mem_singleton.mp hb]
    show s₁.heap.objs.size < (s₁.heap.push _).objs.size
    rw [Heap.size_push]; exact Nat.lt_succ_self _
  · intro D C h tk m' ys news' F' N' o1 hn hC₀ hD₀ hCL hDL hCD offC fin
    refine ⟨m', hn, fun h'' hs'' => fin D h'' tk (F'.change hs'' hCL hC₀) (fun p hp => ?_) o1⟩
    refine ⟨hs''.extBut _ _ ?_ (N' p hp).1, (N' p hp).2⟩
    rcases List.mem_cons.mp hp with rfl | hp
    · exact Ne.symm hCD
    · exact offC p hp
theorem comp_T {elt iter : Expr} {x : Str} {px : Pos} {scope : Scope} {cl : List (Str × Addr)} {pos : Pos} {Q : Value → Shared → Prop} (_F₀ : Fr h₀ L s.heap m)
    (hclos : closureFor scope env = pure cl) (hcell : ∀ y ∈ scope.names, y.2 ≠ .cell) (hkind : scope.kind = .function)
    (hnames : ∀ y ∈ scope.names, y.2 = .local → scope.names.lookup y.1 = some .local) (hx : scope.names.lookup x = some .local)
    (h : wpAny (model prog w) A (eval iter env) (SrcT prog w A h₀ L m env elt x scope cl Q) E s)
    (hs : ∀ x, foldedSetIterable iter env x = pure x) :
    wpAny (model prog w) A (eval (.ListComp elt [⟨.Name x px, iter, [], 0⟩] scope pos) env) Q E s := by
  rw [eval_ListComp]
  refine wpAny_comprehension_free (use := none) rfl hs hclos hkind hnames (wpAny_mono h (fun xv s₁ h₁ => ?_) fun _ _ e => e)
  obtain ⟨y, t, news, g, rfl, hz, hh, F, N, H⟩ := h₁
  have main : ∀ (ty : String) (o : Obj), (∃ o', (s₁.heap.push o).get? s₁.heap.objs.size = some o' ∧ o'.cls = .type ty ∧ o'.data = .fields #[.str y t, .int ((0 : Nat) : Int) 0]) → Walks prog w A s₁.heap.objs.size [s₁.heap.objs.size] [s₁.heap.objs.size] y.cps.size (SignAt y) (fun i h => h.IsStrIter s₁.heap.objs.size ty y t i) →
      wpAny (model prog w) A (newList []) (fun acc s₃ => wpAny (model prog w) A (newFunctionEnv scope env.globals cl [] env.qual none .none (some env)) (fun cenv s₄ =>
        codeAny (model prog w) A (.compStart (.ListComp elt [⟨.Name x px, iter, [], 0⟩] scope pos) 0 (.ref s₁.heap.objs.size) acc { cenv with scope := relabel scope env }) (compPost (model prog w) A E none Q acc cenv.locals) s₄) E s₃) E { s₁ with heap := s₁.heap.push o } := by
    intro ty o st0 W
    obtain ⟨he, hf⟩ := H { s₁ with heap := s₁.heap.push o } ⟨_, rfl⟩
    have up : ∀ b' o', s₁.heap.get? b' = some o' → (s₁.heap.push o).get? b' = some o' := fun b o e => Heap.get?_push_of_some _ e
    refine block_U (S := fun _ => True) W hz (fun i h st => by obtain ⟨o, e, _⟩ := st; exact ⟨o, e⟩) (fun i h h' o nw st e e' _ _ _ => ?_) hcell hkind hx st0 (fun b' hb => ?_)
        (F.keeps up) (N.grown up) (Nat.ne_of_lt F.ns.lt) (next_is_new F) (fun p hp => Nat.ne_of_lt (Heap.lt_size (N p hp).1)) trivial (comp_rest he hf y.cps.size 0 [] (Nat.zero_add _) rfl (fun j z hj => by cases hj)) ?_
    · obtain ⟨o', q, r⟩ := st; rw [e] at q; cases q; exact ⟨o, e', r⟩
    · rw [List.mem_singleton.mp hb]
      show s₁.heap.objs.size < (s₁.heap.push _).objs.size
      rw [Heap.size_push]; exact Nat.lt_succ_self _
    · intro D C h tk m' ys news' F' N' o1 hn hC₀ hD₀ hCL hDL hCD offC fin
      refine ⟨m', hn, fun h'' hs'' => fin D h'' tk (F'.change hs'' hCL hC₀) (fun p hp => ?_) o1⟩
      refine ⟨hs''.extBut _ _ ?_ (N' p hp).1, (N' p hp).2⟩
      rcases List.mem_cons.mp hp with rfl | hp
      · exact Ne.symm hCD
      · exact offC p hp
  cases ha : y.cps.all (· < 128)
  · exact wpAny_pyIter_wide ha (main _ _ ⟨_, Heap.get?_push_size _ rfl, rfl, rfl⟩ (Walks.strWide hh _ y t))
  · exact wpAny_pyIter_ascii ha (main _ _ ⟨_, Heap.get?_push_size _ rfl, rfl, rfl⟩ (Walks.strAscii hh _ y t))

theorem src_B {elt : Expr} {x : Str} {scope : Scope} {cl : List (Str × Addr)} {Q : Value → Shared → Prop} {b : Array UInt8} {t : Tok} {news : List (Addr × Obj)} {s₁ : Shared} (g : Nat → Value → Prop) (hz : b.size ≤ sizeLine) (hh : A.handled = none) (F : Fr h₀ L s₁.heap m) (N : News h₀ L s₁.heap news)
    (he : ∀ s₂ : Shared, (∃ h, s₂ = { s₁ with heap := h }) → EltOk prog w A h₀ L m env elt x scope cl s₂ news b.size (fun i v => ∃ c u, b[i]? = some c ∧ v = .int (c.toNat : Int) u) g)
    (hf : ∀ s₂ : Shared, (∃ h, s₂ = { s₁ with heap := h }) → FinOk h₀ L m s₂ news b.size g Q) : SrcB prog w A h₀ L m env elt x scope cl Q (.bytes b t) s₁ :=
  ⟨b, t, news, g, rfl, hz, hh, F, N, fun s₂ h => ⟨he s₂ h, hf s₂ h⟩⟩
theorem src_T {elt : Expr} {x : Str} {scope : Scope} {cl : List (Str × Addr)} {Q : Value → Shared → Prop} {y : Str} {t : Tok} {news : List (Addr × Obj)} {s₁ : Shared} (g : Nat → Value → Prop) (hz : y.cps.size ≤ sizeLine) (hh : A.handled = none) (F : Fr h₀ L s₁.heap m) (N : News h₀ L s₁.heap news)
    (he : ∀ s₂ : Shared, (∃ h, s₂ = { s₁ with heap := h }) → EltOk prog w A h₀ L m env elt x scope cl s₂ news y.cps.size (SignAt y) g)
    (hf : ∀ s₂ : Shared, (∃ h, s₂ = { s₁ with heap := h }) → FinOk h₀ L m s₂ news y.cps.size g Q) : SrcT prog w A h₀ L m env elt x scope cl Q (.str y t) s₁ :=
  ⟨y, t, news, g, rfl, hz, hh, F, N, fun s₂ h => ⟨he s₂ h, hf s₂ h⟩⟩
end PCM
end JCM
section JC8
open PySem PySem.W PyProof.Rows PySem.Calls
section PC8
variable {prog : Program} {w : World} {p : Program} {loose : List Str} {mean : ExcName → Option Value} {mg mb : Str → Option Value}
set_option maxRecDepth 100000
set_option maxHeartbeats 4000000
noncomputable def lowI (i : Int) : Int := if 65 ≤ i ∧ i ≤ 90 then i + 32 else i
theorem lowI_a {i : Int} (h : 65 ≤ i ∧ i ≤ 90) : i + 32 = lowI i := (if_pos h).symm
theorem lowI_b {i : Int} (h : ¬ (65 ≤ i ∧ i ≤ 90)) : i = lowI i := (if_neg h).symm
noncomputable def lowC (c : UInt8) : UInt8 := if 65 ≤ c.toNat ∧ c.toNat ≤ 90 then c + 32 else c
noncomputable def lowN (c : Nat) : Nat := if 65 ≤ c ∧ c ≤ 90 then c + 32 else c
theorem lowI_N (c : Nat) : lowI (c : Int) = (lowN c : Int) := by unfold lowI lowN; split <;> split <;> omega
theorem lowN_C (c : UInt8) : lowN c.toNat = (lowC c).toNat := by
  unfold lowN lowC
  split
  · rename_i h
    rw [UInt8.toNat_add]
    show c.toNat + 32 = (c.toNat + 32) % 256
    omega
  · rfl
theorem kInts {α : Type} {f : α → Int} : ∀ {l : List α} {ys : List Value}, ys.length = l.length → (∀ (i : Nat) (y : Value), ys[i]? = some y → ∃ (c : α) (u : Tok), l[i]? = some c ∧ y = Value.int (f c) u) → IntsAre ys (l.map f)
  | [], [], _, _ => .nil
  | [], _ :: _, h, _ => by simp at h
  | _ :: _, [], h, _ => by simp at h
  | a :: l, y :: ys, h, hg => by
    obtain ⟨c, u, hc, rfl⟩ := hg 0 y rfl
    cases hc
    exact .cons _ _ (kInts (by simpa using h) fun i z hz => hg (i + 1) z hz)
theorem kStrs {α : Type} {f : α → Str} : ∀ {l : List α} {ys : List Value}, ys.length = l.length → (∀ (i : Nat) (y : Value), ys[i]? = some y → ∃ (c : α) (u : Tok), l[i]? = some c ∧ y = Value.str (f c) u) → StrsAre ys (l.map f)
  | [], [], _, _ => .nil
  | [], _ :: _, h, _ => by simp at h
  | _ :: _, [], h, _ => by simp at h
  | a :: l, y :: ys, h, hg => by
    obtain ⟨c, u, hc, rfl⟩ := hg 0 y rfl
    cases hc
    exact .cons _ _ (kStrs (by simpa using h) fun i z hz => hg (i + 1) z hz)
theorem low_in (l : List UInt8) : KBa.In (l.map fun c => lowI (c.toNat : Int)) := by
  intro n hn
  obtain ⟨c, _, rfl⟩ := List.mem_map.mp hn
  rw [lowI_N, lowN_C]
  exact ⟨by omega, by have := (lowC c).toNat_lt; omega⟩
theorem low_arr (l : List UInt8) : byteArr (l.map fun c => lowI (c.toNat : Int)) = (l.map lowC).toArray := by
  unfold byteArr
  rw [List.map_map]
  congr 1
  apply List.map_congr_left
  intro c _
  show (lowI (c.toNat : Int)).toNat.toUInt8 = lowC c
  rw [lowI_N, lowN_C, Int.toNat_natCast]
  simp
theorem u8_lti (c : UInt8) : ((c.toNat : Nat) : Int) < 256 := by have := c.toNat_lt; omega
theorem bytes_of {A : Around} {E : Value → Shared → Prop} {s : Shared} {h₀ : Heap} {L D : Addr} {m : Str → Option Value} {news : List (Addr × Obj)} {ys : List Value} {k : Nat} {ns : List Int} {Q : Value → Shared → Prop} (F : Fr h₀ L s.heap m) (N : News h₀ L s.heap news) (hh : A.handled = none) (hm : (D, listOf ys.toArray k) ∈ news) (hi : IntsAre ys ns) (hr : KBa.In ns) (hn : ns.length ≤ 16777216)
    (h : ∀ h' t' k, Fr h₀ L h' m → News h₀ L h' news → KBa.In ns → Q (.bytes (byteArr ns) t') { s with heap := h', toks := k }) : wpAny (model prog w) A (PySem.call (.type "bytes") [.ref D]) Q E s :=
  KBa.make_K F N hh (News.isList N hm) hi hr hn h
noncomputable def strB (l : List UInt8) : Str := ⟨(l.map UInt8.toNat).toArray⟩
theorem lower_code_spec (i : Int) (t : Nat) : Spec prog w (kf w.params) p loose mean mg mb 171 ⟨[.int i t], []⟩ 2 []
    (P1 (fun t' => .int (lowI i) t') (fun _ => []) (fun _ => True)) False := by
  refine' spec_of3 (rb := [("code", .int i t)]) ?k1 ?k2 ?k3 ?k4 ?k5 ?k6 ?k7 ?k8 ?k9 ?_
  case k1 => k_is
  case k2 => k_is
  case k3 => first | exact fun s Xs => BindsTo.of_eq rfl | exact fun s Xs => binds_K Xs rfl (by k_is) rfl rfl rfl
  case k4 => exact locs rfl
  case k5 => exact rfl
  case k6 => exact rfl
  case k7 => exact rfl
  case k8 => decide
  case k9 => decide
  intro dp un gd envs base g L' h₁ gens drawn tk os R B F N X T lt hd hu ret exc eE aA
  k_fold
  (try k_lt lt)
  (try dsimp only)
  k_steps
  · exact ret _ _ _ _ _ _ (by k_asm) (by k_asm) ⟨_, congrArg (fun z => Value.int z _) (lowI_a (by omega)), rfl, trivial⟩
  · exact ret _ _ _ _ _ _ (by k_asm) (by k_asm) ⟨_, congrArg (fun z => Value.int z _) (lowI_b (by omega)), rfl, trivial⟩
  · exact ret _ _ _ _ _ _ (by k_asm) (by k_asm) ⟨_, congrArg (fun z => Value.int z _) (lowI_b (by omega)), rfl, trivial⟩
theorem wd_C8_0 : True := by
  k_with "call ref" => (k_here; (show wpAny _ _ (PySem.call (Value.ref 171) [_]) _ _ _); (refine' Spec.call1 (lower_code_spec _ _) ?B ?F ?X ?N ?T rfl rfl rfl rfl ?hd ?hu ?P ?W ?_ (fun h => h.elim)); (case F => k_asm); (case N => k_asm); (case B => k_asm); (case X => k_asm); (case T => k_asm); (case hd => first | exact room_d (j := 1) hd (by decide) | exact room_d (j := 2) hd (by decide) | exact room_d (j := 3) hd (by decide) | (simp only [ar_depth, ar_units, depth_deeper, depth_mark, depth_under_make, depth_under_kw, depth_in1, units_deeper, units_in1, units_under_make, Around.mark_units]; omega)); (case hu => first | exact room_u (j := 0) hu (by decide) | exact room_u (j := 1) hu (by decide) | exact room_u (j := 2) hu (by decide) | exact room_u (j := 3) hu (by decide) | (simp only [ar_depth, ar_units, depth_deeper, depth_mark, depth_under_make, depth_under_kw, depth_in1, units_deeper, units_in1, units_under_make, Around.mark_units]; omega)); (case P => ktr_unf); (case W => tb_start); ((intro tl' h' tk' hP' F' N' l1 l2; (dsimp only [List.cons_append, List.nil_append] at N'); clear l1 l2; clear hP'; (try k_sweep); (try dsimp only))))
  k_with "eval ListComp" => (k_here; (have hmk9 := (show StopAt 1 by assumption)); clear hmk9; k_dflt (refine comp_B (hs := by intro _; rfl) (by k_asm) (by rfl) (by decide) (by rfl) (by decide) (by rfl) ?_))
  k_with "eval ListComp" => (k_here; (have hmk9 := (show StopAt 2 by assumption)); clear hmk9; k_dflt (refine comp_T (hs := by intro _; rfl) (by k_asm) (by rfl) (by decide) (by rfl) (by decide) (by rfl) ?_))
  k_with "SrcT" => (refine stop_here2 ?_)
  k_with "SrcB" => (refine stop_here2 ?_)
  k_with "EltEnd" => (refine stop_here2 ?_)
  trivial
section
theorem lower_spec (b : Array UInt8) (t : Nat) (hb : b.size ≤ 4000) : Spec prog w (kf w.params) p loose mean mg mb 176 ⟨[.bytes b t], []⟩ 5 []
    (P1 (fun t' => .bytes ((b.toList.map lowC).toArray) t') (fun _ => []) (fun _ => True)) False := by
  refine' spec_of3 (rb := [("octets", .bytes b t)]) ?k1 ?k2 ?k3 ?k4 ?k5 ?k6 ?k7 ?k8 ?k9 ?_
  case k1 => k_is
  case k2 => k_is
  case k3 => first | exact fun s Xs => BindsTo.of_eq rfl | exact fun s Xs => binds_K Xs rfl (by k_is) rfl rfl rfl
  case k4 => exact locs rfl
  case k5 => exact rfl
  case k6 => exact rfl
  case k7 => exact rfl
  case k8 => decide
  case k9 => decide
  intro dp un gd envs base g L' h₁ gens drawn tk os R B F N X T lt hd hu ret exc eE aA
  k_fold
  (try k_lt lt)
  (try dsimp only)
  have hmk1 : StopAt 1 := .here
  k_steps
  unfold StopHere2
  refine src_B (fun i v => ∃ c u, b.toList[i]? = some c ∧ v = .int (lowI (c.toNat : Int)) u) (by rw [sizeLine_eq]; omega) rfl (by k_asm) (by k_asm) ?_ ?_
  · rintro s₂ ⟨h2, rfl⟩ i v ys I oI C oC D m₂ h tk2 E' hi ⟨c, u, hc, rfl⟩ hC hx F2 N2 off ne
    clear F N
    (try simp only [LCg.Off3, and_true] at off)
    (try k_fold)
    k_steps
    unfold StopHere2
    exact elt_end (by k_asm) (by k_asm) (fun _ hp => hp) ⟨c, _, by rw [Array.getElem?_toList]; exact hc, rfl⟩
  · rintro s₂ ⟨h2, rfl⟩ D h tk2 ys hl hg F2 N2 off
    clear F N
    have hI := kInts (f := fun c : UInt8 => lowI (c.toNat : Int)) (by rw [hl, Array.length_toList]) hg
    clear hg
    k_steps
    refine bytes_of F2 N2 rfl (.head _) hI (low_in _) (by rw [List.length_map, Array.length_toList]; omega) ?_
    intro h3 t3 k3 F3 N3 _
    rw [low_arr]
    k_steps
    exact ret _ _ _ _ _ _ (by k_asm) (News.nil) ⟨_, rfl, rfl, trivial⟩
theorem wd_C8_1 : True := by
  k_with "call ref" => (k_here; (show wpAny _ _ (PySem.call (Value.ref 176) [_]) _ _ _); (refine' Spec.call1 (lower_spec _ _ (by assumption)) ?B ?F ?X ?N ?T rfl rfl rfl rfl ?hd ?hu ?P ?W ?_ (fun h => h.elim)); (case F => k_asm); (case N => k_asm); (case B => k_asm); (case X => k_asm); (case T => k_asm); (case hd => first | exact room_d (j := 1) hd (by decide) | exact room_d (j := 2) hd (by decide) | exact room_d (j := 3) hd (by decide) | (simp only [ar_depth, ar_units, depth_deeper, depth_mark, depth_under_make, depth_under_kw, depth_in1, units_deeper, units_in1, units_under_make, Around.mark_units]; omega)); (case hu => first | exact room_u (j := 0) hu (by decide) | exact room_u (j := 1) hu (by decide) | exact room_u (j := 2) hu (by decide) | exact room_u (j := 3) hu (by decide) | (simp only [ar_depth, ar_units, depth_deeper, depth_mark, depth_under_make, depth_under_kw, depth_in1, units_deeper, units_in1, units_under_make, Around.mark_units]; omega)); (case P => ktr_unf); (case W => tb_start); ((intro tl' h' tk' hP' F' N' l1 l2; (dsimp only [List.cons_append, List.nil_append] at N'); clear l1 l2; clear hP'; (try k_sweep); (try dsimp only))))
  trivial
end
theorem glue_chars {α : Type} (f : α → Nat) (l : List α) : Txt.join (Str.ofString "") (l.map fun c => (⟨#[f c]⟩ : Str)) = ⟨(l.map f).toArray⟩ := by
  have e0 : (Str.ofString "").cps = #[] := by rfl
  have key : ∀ (l : List α) (acc : Array Nat), (l.map fun c => (⟨#[f c]⟩ : Str)).foldl (fun acc p => acc ++ (Str.ofString "").cps ++ p.cps) acc = acc ++ (l.map f).toArray := by
    intro l
    induction l with
    | nil => intro acc; simp
    | cons a l ih =>
      intro acc
      rw [List.map_cons, List.foldl_cons, ih, e0]
      apply Array.ext'
      simp
  show PySem.Builtin.Str.glued _ _ = _
  unfold PySem.Builtin.Str.glued
  rcases l with _ | ⟨a, l⟩
  · rfl
  · rw [List.map_cons]
    simp only [List.drop_one, List.tail_cons, List.headD_cons]
    rw [key]
    congr 1
    apply Array.ext'
    simp
theorem sum_one {α : Type} (f : α → Nat) (l : List α) : ((l.map fun c => (⟨#[f c]⟩ : Str)).map (·.length)).sum = l.length := by
  induction l with
  | nil => rfl
  | cons a l ih =>
    rw [List.map_cons, List.map_cons, List.sum_cons, ih, List.length_cons]
    show 1 + l.length = l.length + 1
    omega
theorem join_of {A : Around} {E : Value → Shared → Prop} {s : Shared} {h₀ : Heap} {L D : Addr} {news : List (Addr × Obj)} {ys : List Value} {k : Nat} {zs : List Str} {t : Tok} {Q : Value → Shared → Prop} (N : News h₀ L s.heap news) (hm : (D, listOf ys.toArray k) ∈ news) (hi : StrsAre ys zs) (hn : (zs.map (·.length)).sum ≤ 16777216)
    (h : ∀ t' k, Q (.str (Txt.join (Str.ofString "") zs) t') { s with toks := k }) : wpAny (model prog w) A (PySem.call (.builtin "str.join") [.str (Str.ofString "") t, .ref D]) Q E s :=
  join_list (News.isList N hm) (by simpa using hi) (by rw [show (Str.ofString "").length = 0 from rfl, Nat.mul_zero]; exact hn) h
section
theorem small_word_spec (b : Array UInt8) (t : Nat) (hb : b.size ≤ 4000) : Spec prog w (kf w.params) p loose mean mg mb 402 ⟨[.bytes b t], []⟩ 7 []
    (P1 (fun t' => .str (strB (b.toList.map lowC)) t') (fun _ => []) (fun _ => True)) False := by
  refine' spec_of3 (rb := [("octets", .bytes b t)]) ?k1 ?k2 ?k3 ?k4 ?k5 ?k6 ?k7 ?k8 ?k9 ?_
  case k1 => k_is
  case k2 => k_is
  case k3 => first | exact fun s Xs => BindsTo.of_eq rfl | exact fun s Xs => binds_K Xs rfl (by k_is) rfl rfl rfl
  case k4 => exact locs rfl
  case k5 => exact rfl
  case k6 => exact rfl
  case k7 => exact rfl
  case k8 => decide
  case k9 => decide
  intro dp un gd envs base g L' h₁ gens drawn tk os R B F N X T lt hd hu ret exc eE aA
  k_fold
  (try k_lt lt)
  (try dsimp only)
  have hmk1 : StopAt 1 := .here
  k_steps
  unfold StopHere2
  refine src_B (fun i v => ∃ c u, (b.toList.map lowC)[i]? = some c ∧ v = .str ⟨#[c.toNat]⟩ u) (by rw [sizeLine_eq]; simp; omega) rfl (by k_asm) (by k_asm) ?_ ?_
  · rintro s₂ ⟨h2, rfl⟩ i v ys I oI C oC D m₂ h tk2 E' hi ⟨c, u, hc, rfl⟩ hC hx F2 N2 off ne
    (try simp only [LCg.Off3, and_true] at off)
    (try k_fold)
    have hc8 := u8_lti c
    k_steps
    unfold StopHere2
    exact elt_end (by k_asm) (by k_asm) (fun _ hp => hp) ⟨c, _, by simpa using hc, rfl⟩
  · rintro s₂ ⟨h2, rfl⟩ D h tk2 ys hl hg F2 N2 off
    have hI := kStrs (f := fun c : UInt8 => (⟨#[c.toNat]⟩ : Str)) (by rw [hl, List.size_toArray]) hg
    clear hg
    k_steps
    refine join_of N2 (.head _) hI (by rw [sum_one (fun c : UInt8 => c.toNat), List.length_map, Array.length_toList]; omega) ?_
    intro t3 k3
    rw [glue_chars (fun c : UInt8 => c.toNat)]
    k_steps
    exact ret _ _ _ _ _ _ (by k_asm) (News.nil) ⟨_, rfl, rfl, trivial⟩
theorem wd_C8_2 : True := by
  k_with "call ref" => (k_here; (show wpAny _ _ (PySem.call (Value.ref 402) [_]) _ _ _); (refine' Spec.call1 (small_word_spec _ _ ?s1) ?B ?F ?X ?N ?T rfl rfl rfl rfl ?hd ?hu ?P ?W ?_ (fun h => h.elim)); (case F => k_asm); (case N => k_asm); (case B => k_asm); (case X => k_asm); (case T => k_asm); (case hd => first | exact room_d (j := 1) hd (by decide) | exact room_d (j := 2) hd (by decide) | exact room_d (j := 3) hd (by decide) | (simp only [ar_depth, ar_units, depth_deeper, depth_mark, depth_under_make, depth_under_kw, depth_in1, units_deeper, units_in1, units_under_make, Around.mark_units]; omega)); (case hu => first | exact room_u (j := 0) hu (by decide) | exact room_u (j := 1) hu (by decide) | exact room_u (j := 2) hu (by decide) | exact room_u (j := 3) hu (by decide) | (simp only [ar_depth, ar_units, depth_deeper, depth_mark, depth_under_make, depth_under_kw, depth_in1, units_deeper, units_in1, units_under_make, Around.mark_units]; omega)); (case P => ktr_unf); (case W => tb_start); (case s1 => first | assumption | exact Nat.le_trans sl_size_le (by assumption)); ((intro tm' h' tk' hP' F' N' l1 l2; (dsimp only [List.cons_append, List.nil_append] at N'); clear l1 l2; clear hP'; (try k_sweep); (try dsimp only))))
  trivial
end
end PC8
end JC8
section JC9
open PySem PySem.W PyProof.Rows PySem.Calls
section PC9
variable {prog : Program} {w : World} {p : Program} {loose : List Str} {mean : ExcName → Option Value} {mg mb : Str → Option Value}
set_option maxRecDepth 100000
set_option maxHeartbeats 4000000
noncomputable def lowT (x : Str) : Str := ⟨(x.cps.toList.map lowN).toArray⟩
theorem strB_lt (l : List UInt8) : ∀ c ∈ (strB l).cps.toList, c < 256 := by
  intro c hc
  unfold strB at hc
  simp only [List.mem_map] at hc
  obtain ⟨a, _, rfl⟩ := hc
  exact a.toNat_lt
theorem lowT_strB (l : List UInt8) : lowT (strB l) = strB (l.map lowC) := by
  unfold lowT strB
  simp only [List.map_map]
  congr 2
  apply List.map_congr_left
  intro c _
  exact lowN_C c
section
theorem lower_text_spec (x : Str) (t : Nat) (hz : x.cps.size ≤ 4000) (hc : ∀ c ∈ x.cps.toList, c < 256) : Spec prog w (kf w.params) p loose mean mg mb 181 ⟨[.str x t], []⟩ 5 []
    (P1 (fun t' => .str (lowT x) t') (fun _ => []) (fun _ => True)) False := by
  refine' spec_of3 (rb := [("text", .str x t)]) ?k1 ?k2 ?k3 ?k4 ?k5 ?k6 ?k7 ?k8 ?k9 ?_
  case k1 => k_is
  case k2 => k_is
  case k3 => first | exact fun s Xs => BindsTo.of_eq rfl | exact fun s Xs => binds_K Xs rfl (by k_is) rfl rfl rfl
  case k4 => exact locs rfl
  case k5 => exact rfl
  case k6 => exact rfl
  case k7 => exact rfl
  case k8 => decide
  case k9 => decide
  intro dp un gd envs base g L' h₁ gens drawn tk os R B F N X T lt hd hu ret exc eE aA
  k_fold
  (try k_lt lt)
  (try dsimp only)
  have hmk2 : StopAt 2 := .here
  k_steps
  unfold StopHere2
  refine src_T (fun i v => ∃ c u, x.cps.toList[i]? = some c ∧ v = .str ⟨#[lowN c]⟩ u) (by rw [sizeLine_eq]; omega) rfl (by k_asm) (by k_asm) ?_ ?_
  · rintro s₂ ⟨h2, rfl⟩ i v ys I oI C oC D m₂ h tk2 E' hi ⟨c, u, hci, rfl⟩ hC hx F2 N2 off ne
    (try simp only [LCg.Off3, and_true] at off)
    (try k_fold)
    have hc8 : c < 256 := hc c (by rw [← Array.getElem?_toList] at hci; exact List.mem_of_getElem? hci)
    have hl8 : 0 ≤ lowI (c : Int) ∧ lowI (c : Int) < 1000 := by unfold lowI; split <;> omega
    k_steps
    unfold StopHere2
    exact elt_end (by k_asm) (by k_asm) (fun _ hp => hp) ⟨c, _, by rw [Array.getElem?_toList]; exact hci, by rw [lowI_N]; rfl⟩
  · rintro s₂ ⟨h2, rfl⟩ D h tk2 ys hl hg F2 N2 off
    have hI := kStrs (f := fun c : Nat => (⟨#[lowN c]⟩ : Str)) (by rw [hl, Array.length_toList]) hg
    clear hg
    k_steps
    refine join_of N2 (.head _) hI (by rw [sum_one lowN, Array.length_toList]; omega) ?_
    intro t3 k3
    rw [glue_chars lowN]
    k_steps
    exact ret _ _ _ _ _ _ (by k_asm) (News.nil) ⟨_, rfl, rfl, trivial⟩
theorem wd_C9_0 : True := by
  k_with "call ref" => (k_here; (show wpAny _ _ (PySem.call (Value.ref 181) [_]) _ _ _); (refine' Spec.call1 (lower_text_spec _ _ ?s1 ?s2) ?B ?F ?X ?N ?T rfl rfl rfl rfl ?hd ?hu ?P ?W ?_ (fun h => h.elim)); (case F => k_asm); (case N => k_asm); (case B => k_asm); (case X => k_asm); (case T => k_asm); (case hd => first | exact room_d (j := 1) hd (by decide) | exact room_d (j := 2) hd (by decide) | exact room_d (j := 3) hd (by decide) | (simp only [ar_depth, ar_units, depth_deeper, depth_mark, depth_under_make, depth_under_kw, depth_in1, units_deeper, units_in1, units_under_make, Around.mark_units]; omega)); (case hu => first | exact room_u (j := 0) hu (by decide) | exact room_u (j := 1) hu (by decide) | exact room_u (j := 2) hu (by decide) | exact room_u (j := 3) hu (by decide) | (simp only [ar_depth, ar_units, depth_deeper, depth_mark, depth_under_make, depth_under_kw, depth_in1, units_deeper, units_in1, units_under_make, Around.mark_units]; omega)); (case P => ktr_unf); (case W => tb_start); (case s1 => first | assumption | omega | (simp only [List.size_toArray, List.length_map, Array.length_toList]; omega)); (case s2 => first | assumption | exact strB_lt _); ((intro tl' h' tk' hP' F' N' l1 l2; (dsimp only [List.cons_append, List.nil_append] at N'); clear l1 l2; clear hP'; (try k_sweep); (try dsimp only))))
  trivial
end
section
noncomputable abbrev fldD (h1 h2 : Int) (k1 k2 t1 t2 : Nat) (nm rw : Array UInt8) : Obj := dictOf [⟨h1, .str "name" k1, .bytes nm t1⟩, ⟨h2, .str "raw" k2, .bytes rw t2⟩] 2
noncomputable abbrev fldN (f d : Addr) (h1 h2 : Int) (k1 k2 t1 t2 : Nat) (nm rw : Array UInt8) : List (Addr × Obj) := [(f, instObj 300 d), (d, fldD h1 h2 k1 k2 t1 t2 nm rw)]
theorem word_spec (f d : Addr) (h1 h2 : Int) (k1 k2 t1 t2 : Nat) (nm rw : Array UInt8) (hz : nm.size ≤ 4000) : Spec prog w (kf w.params) p loose mean mg mb 290 ⟨[.ref f], []⟩ 7 (fldN f d h1 h2 k1 k2 t1 t2 nm rw)
    (P1 (fun t' => .str (strB (nm.toList.map lowC)) t') (fun _ => fldN f d h1 h2 k1 k2 t1 t2 nm rw) (fun _ => True)) False := by
  refine' spec_of3 (rb := [("self", .ref f)]) ?k1 ?k2 ?k3 ?k4 ?k5 ?k6 ?k7 ?k8 ?k9 ?_
  case k1 => k_is
  case k2 => k_is
  case k3 => first | exact fun s Xs => BindsTo.of_eq rfl | exact fun s Xs => binds_K Xs rfl (by k_is) rfl rfl rfl
  case k4 => exact locs rfl
  case k5 => exact rfl
  case k6 => exact rfl
  case k7 => exact rfl
  case k8 => decide
  case k9 => decide
  intro dp un gd envs base g L' h₁ gens drawn tk os R B F N X T lt hd hu ret exc eE aA
  k_fold
  (try k_lt lt)
  (try dsimp only)
  have hmk1 : StopAt 1 := .here
  k_steps
  unfold StopHere2
  refine src_B (fun i v => ∃ c u, nm.toList[i]? = some c ∧ v = .str ⟨#[c.toNat]⟩ u) (by rw [sizeLine_eq]; omega) rfl (by k_asm) (by k_asm) ?_ ?_
  · rintro s₂ ⟨h2, rfl⟩ i v ys I oI C oC D m₂ h tk2 E' hi ⟨c, u, hci, rfl⟩ hC hx F2 N2 off ne
    (try simp only [LCg.Off3, and_true] at off)
    (try k_fold)
    have hc8 := u8_lti c
    k_steps
    unfold StopHere2
    exact elt_end (by k_asm) (by k_asm) (fun _ hp => hp) ⟨c, _, by rw [Array.getElem?_toList]; exact hci, rfl⟩
  · rintro s₂ ⟨h2, rfl⟩ D h tk2 ys hl hg F2 N2 off
    have hI := kStrs (f := fun c : UInt8 => (⟨#[c.toNat]⟩ : Str)) (by rw [hl, Array.length_toList]) hg
    clear hg
    k_steps
    refine join_of N2 (.head _) hI (by rw [sum_one (fun c : UInt8 => c.toNat), Array.length_toList]; omega) ?_
    intro t3 k3
    rw [glue_chars (fun c : UInt8 => c.toNat)]
    (try show wpAny _ _ _ _ _ _)
    k_steps
    refine' ret _ _ _ _ _ _ (by k_asm) (news_mono (by k_asm) ?_) ⟨_, congrArg (fun z => Value.str z _) (lowT_strB nm.toList), rfl, trivial⟩
    ktr_unf
theorem wd_C9_1 : True := by
  k_with "call ref" => (k_here; (show wpAny _ _ (PySem.call (Value.ref 290) [_]) _ _ _); (refine' Spec.call1 (word_spec _ _ _ _ _ _ _ _ _ _ (by assumption)) ?B ?F ?X ?N ?T rfl rfl rfl rfl ?hd ?hu ?P ?W ?_ (fun h => h.elim)); (case F => k_asm); (case N => k_asm); (case B => k_asm); (case X => k_asm); (case T => k_asm); (case hd => first | exact room_d (j := 1) hd (by decide) | exact room_d (j := 2) hd (by decide) | exact room_d (j := 3) hd (by decide) | (simp only [ar_depth, ar_units, depth_deeper, depth_mark, depth_under_make, depth_under_kw, depth_in1, units_deeper, units_in1, units_under_make, Around.mark_units]; omega)); (case hu => first | exact room_u (j := 0) hu (by decide) | exact room_u (j := 1) hu (by decide) | exact room_u (j := 2) hu (by decide) | exact room_u (j := 3) hu (by decide) | (simp only [ar_depth, ar_units, depth_deeper, depth_mark, depth_under_make, depth_under_kw, depth_in1, units_deeper, units_in1, units_under_make, Around.mark_units]; omega)); (case P => ktr_unf); (case W => tb_start); ((intro tl' h' tk' hP' F' N' l1 l2; (dsimp only [List.cons_append, List.nil_append] at N'); clear l1 l2; clear hP'; (try k_sweep); (try dsimp only))))
  trivial
end
end PC9
end JC9
section JPC
open PySem PySem.W PyProof.Rows PySem.Calls
section PPC
theorem closed_le : ∀ {l o r : List UInt8}, closedL l = some (o, r) → r.length < l.length := by
  intro l
  induction hn : l.length using Nat.strongRecOn generalizing l with
  | ind n ih =>
    intro o r h
    subst hn
    by_cases hq : l.head? = some 34
    · rw [closed_end hq] at h; cases h
      rcases l with _ | ⟨c, l⟩
      · cases hq
      · simp
    · cases hi : insideL l with
      | none => rw [closed_none hq hi] at h; cases h
      | some q =>
        obtain ⟨o1, r1⟩ := q
        rw [closed_go hq hi] at h
        cases hc : closedL r1 with
        | none => rw [hc] at h; cases h
        | some q2 =>
          rw [hc] at h; cases h
          have h1 := inside_lt hi
          have h2 := ih _ h1 rfl hc
          omega
theorem tok_le {l o r : List UInt8} (h : tokL l = some (o, r)) : r.length < l.length := by
  unfold tokL at h
  split at h
  · cases h
  · rename_i q
    cases h
    have e := List.takeWhile_append_dropWhile (p := tokC) (l := l)
    have := congrArg List.length e
    rw [List.length_append] at this
    have : (l.takeWhile tokC).length ≠ 0 := fun z => q (by rw [List.isEmpty_iff]; exact List.eq_nil_of_length_eq_zero z)
    omega
theorem worth_le {l o r : List UInt8} (h : worthL l = some (o, r)) : r.length < l.length := by
  unfold worthL at h
  rcases l with _ | ⟨c, l⟩
  · cases h
  · dsimp only at h
    split at h
    · have := closed_le h; simp; omega
    · split at h
      · cases h
      · rename_i q
        cases h
        have e := List.takeWhile_append_dropWhile (p := worthC) (l := c :: l)
        have := congrArg List.length e
        rw [List.length_append] at this
        have : ((c :: l).takeWhile worthC).length ≠ 0 := fun z => q (by rw [List.isEmpty_iff]; exact List.eq_nil_of_length_eq_zero z)
        omega
/-- one parameter behind its semicolon: what is left, and the pair if there is one -/
noncomputable def paramL (l : List UInt8) : Option (Option (List UInt8 × List UInt8) × List UInt8) :=
  match skipL l with
  | none => none
  | some l2 =>
    if l2.head? = none ∨ l2.head? = some 59 then some (none, l2) else
    match tokL l2 with
    | none => none
    | some (n, l3) => match skipL l3 with
      | none => none
      | some l4 => if l4.head? = some 61 then (match skipL l4.tail with
          | none => none
          | some l6 => match worthL l6 with
            | none => none
            | some (wv, l7) => match skipL l7 with
              | none => none
              | some l8 => some (some (n.map lowC, wv), l8)) else none
theorem param_le {l l8 : List UInt8} {x : Option (List UInt8 × List UInt8)} (h : paramL l = some (x, l8)) : l8.length ≤ l.length := by
  unfold paramL at h
  cases h1 : skipL l with
  | none => rw [h1] at h; cases h
  | some l2 =>
    rw [h1] at h
    have g1 := skip_le h1
    dsimp only at h
    split at h
    · cases h; exact g1
    · cases h2 : tokL l2 with
      | none => rw [h2] at h; cases h
      | some q =>
        obtain ⟨n, l3⟩ := q
        rw [h2] at h
        dsimp only at h
        have g2 := tok_le h2
        cases h3 : skipL l3 with
        | none => rw [h3] at h; cases h
        | some l4 =>
          rw [h3] at h
          dsimp only at h
          have g3 := skip_le h3
          split at h
          · cases h4 : skipL l4.tail with
            | none => rw [h4] at h; cases h
            | some l6 =>
              rw [h4] at h
              dsimp only at h
              have g4 := skip_le h4
              have g4' : l4.tail.length ≤ l4.length := by simp
              cases h5 : worthL l6 with
              | none => rw [h5] at h; cases h
              | some q =>
                obtain ⟨wv, l7⟩ := q
                rw [h5] at h
                dsimp only at h
                have g5 := worth_le h5
                cases h6 : skipL l7 with
                | none => rw [h6] at h; cases h
                | some l8' =>
                  rw [h6] at h
                  have g6 := skip_le h6
                  cases h; omega
          · cases h
noncomputable def pairsL (l : List UInt8) : Option (List (List UInt8 × List UInt8)) :=
  match l with
  | [] => some []
  | c :: r => if c = 59 then (match h : paramL r with
      | none => none
      | some (x, l8) => (pairsL l8).map fun ps => x.toList ++ ps) else none
termination_by l.length
decreasing_by have := param_le h; simp; omega
theorem pairs_nil : pairsL [] = some [] := by rw [pairsL]
theorem pairs_bad {c : UInt8} {r : List UInt8} (h : c ≠ 59) : pairsL (c :: r) = none := by rw [pairsL, if_neg h]
theorem pairs_none {r : List UInt8} (h : paramL r = none) : pairsL (59 :: r) = none := by
  rw [pairsL, if_pos rfl]
  split
  · rfl
  · rename_i q; rw [h] at q; cases q
theorem pairs_go {r l8 : List UInt8} {x : Option (List UInt8 × List UInt8)} (h : paramL r = some (x, l8)) : pairsL (59 :: r) = (pairsL l8).map fun ps => x.toList ++ ps := by
  rw [pairsL, if_pos rfl]
  split
  · rename_i q; rw [h] at q; cases q
  · rename_i q; rw [h] at q; cases q; rfl
end PPC
end JPC
section JPD
open PySem PySem.W PyProof.Rows PySem.Calls
section PPD
theorem hd_not {b : Array UInt8} {s : Int} (h0 : 0 ≤ s) (h : ¬ (b.size : Int) ≤ s) (h2 : pk b s ≠ 59) : ¬ ((suf b s).head? = none ∨ (suf b s).head? = some 59) := by
  rw [suf_c h0 h]
  rw [pk_in h0 h] at h2
  intro e
  rcases e with e | e
  · cases e
  · simp only [List.head?_cons, Option.some.injEq] at e
    rw [e] at h2; exact h2 rfl
theorem hd_yes {b : Array UInt8} {s : Int} (h0 : 0 ≤ s) (h : (b.size : Int) ≤ s ∨ pk b s = 59) : (suf b s).head? = none ∨ (suf b s).head? = some 59 := by
  by_cases q : (b.size : Int) ≤ s
  · rw [suf_nil q]; exact .inl rfl
  · rcases h with h | h
    · exact absurd h q
    · rw [pk_in h0 q] at h
      rw [suf_c h0 q, u8 (n := 59) h]; exact .inr rfl
theorem hd_61 {b : Array UInt8} {s : Int} (h0 : 0 ≤ s) (h : pk b s = 61) : (suf b s).head? = some 61 ∧ (suf b s).tail = suf b (adv b s) ∧ s < (b.size : Int) := by
  have hx : s < (b.size : Int) := by
    by_cases q : s < (b.size : Int)
    · exact q
    · unfold pk at h; rw [if_neg (by omega)] at h; omega
  rw [pk_in h0 (by omega)] at h
  unfold adv
  rw [suf_cons h0 hx, u8 (n := 61) h, if_pos hx]
  exact ⟨rfl, rfl, hx⟩
theorem hd_n61 {b : Array UInt8} {s : Int} (h0 : 0 ≤ s) (h : pk b s ≠ 61) : (suf b s).head? ≠ some 61 := by
  by_cases q : (b.size : Int) ≤ s
  · rw [suf_nil q]; intro e; cases e
  · rw [pk_in h0 q] at h
    rw [suf_c h0 q]
    intro e
    simp only [List.head?_cons, Option.some.injEq] at e
    rw [e] at h; exact h rfl
section
variable {b : Array UInt8} {x s1 a1 s2 s3 w1 s4 : Int} {nm wv : List UInt8}
theorem par1 (hs1 : skipL (suf b (adv b x)) = none) : paramL (suf b (adv b x)) = none := by unfold paramL; rw [hs1]
theorem par2 (hs1 : skipL (suf b (adv b x)) = some (suf b s1)) (hb : 0 ≤ s1) (h : (b.size : Int) ≤ s1 ∨ pk b s1 = 59) : paramL (suf b (adv b x)) = some (none, suf b s1) := by
  unfold paramL; rw [hs1]; dsimp only; rw [if_pos (hd_yes hb h)]
theorem par3 (hs1 : skipL (suf b (adv b x)) = some (suf b s1)) (hb : 0 ≤ s1) (h : ¬ (b.size : Int) ≤ s1) (h2 : pk b s1 ≠ 59) (ht : tokL (suf b s1) = none) : paramL (suf b (adv b x)) = none := by
  unfold paramL; rw [hs1]; dsimp only; rw [if_neg (hd_not hb h h2), ht]
theorem par4 (hs1 : skipL (suf b (adv b x)) = some (suf b s1)) (hb : 0 ≤ s1) (h : ¬ (b.size : Int) ≤ s1) (h2 : pk b s1 ≠ 59) (ht : tokL (suf b s1) = some (nm, suf b a1)) (hs2 : skipL (suf b a1) = none) : paramL (suf b (adv b x)) = none := by
  unfold paramL; rw [hs1]; dsimp only; rw [if_neg (hd_not hb h h2), ht]; dsimp only; rw [hs2]
theorem par5 (hs1 : skipL (suf b (adv b x)) = some (suf b s1)) (hb : 0 ≤ s1) (h : ¬ (b.size : Int) ≤ s1) (h2 : pk b s1 ≠ 59) (ht : tokL (suf b s1) = some (nm, suf b a1)) (hs2 : skipL (suf b a1) = some (suf b s2)) (hb2 : 0 ≤ s2) (h61 : pk b s2 ≠ 61) : paramL (suf b (adv b x)) = none := by
  unfold paramL; rw [hs1]; dsimp only; rw [if_neg (hd_not hb h h2), ht]; dsimp only; rw [hs2]; dsimp only; rw [if_neg (hd_n61 hb2 h61)]
theorem par6 (hs1 : skipL (suf b (adv b x)) = some (suf b s1)) (hb : 0 ≤ s1) (h : ¬ (b.size : Int) ≤ s1) (h2 : pk b s1 ≠ 59) (ht : tokL (suf b s1) = some (nm, suf b a1)) (hs2 : skipL (suf b a1) = some (suf b s2)) (hb2 : 0 ≤ s2) (h61 : pk b s2 = 61)
    (hs3 : skipL (suf b (adv b s2)) = none) : paramL (suf b (adv b x)) = none := by
  unfold paramL; rw [hs1]; dsimp only; rw [if_neg (hd_not hb h h2), ht]; dsimp only; rw [hs2]; dsimp only; rw [if_pos (hd_61 hb2 h61).1, (hd_61 hb2 h61).2.1, hs3]
theorem par7 (hs1 : skipL (suf b (adv b x)) = some (suf b s1)) (hb : 0 ≤ s1) (h : ¬ (b.size : Int) ≤ s1) (h2 : pk b s1 ≠ 59) (ht : tokL (suf b s1) = some (nm, suf b a1)) (hs2 : skipL (suf b a1) = some (suf b s2)) (hb2 : 0 ≤ s2) (h61 : pk b s2 = 61)
    (hs3 : skipL (suf b (adv b s2)) = some (suf b s3)) (hw : worthL (suf b s3) = none) : paramL (suf b (adv b x)) = none := by
  unfold paramL; rw [hs1]; dsimp only; rw [if_neg (hd_not hb h h2), ht]; dsimp only; rw [hs2]; dsimp only; rw [if_pos (hd_61 hb2 h61).1, (hd_61 hb2 h61).2.1, hs3]; dsimp only; rw [hw]
theorem par8 (hs1 : skipL (suf b (adv b x)) = some (suf b s1)) (hb : 0 ≤ s1) (h : ¬ (b.size : Int) ≤ s1) (h2 : pk b s1 ≠ 59) (ht : tokL (suf b s1) = some (nm, suf b a1)) (hs2 : skipL (suf b a1) = some (suf b s2)) (hb2 : 0 ≤ s2) (h61 : pk b s2 = 61)
    (hs3 : skipL (suf b (adv b s2)) = some (suf b s3)) (hw : worthL (suf b s3) = some (wv, suf b w1)) (hs4 : skipL (suf b w1) = none) : paramL (suf b (adv b x)) = none := by
  unfold paramL; rw [hs1]; dsimp only; rw [if_neg (hd_not hb h h2), ht]; dsimp only; rw [hs2]; dsimp only; rw [if_pos (hd_61 hb2 h61).1, (hd_61 hb2 h61).2.1, hs3]; dsimp only; rw [hw]; dsimp only; rw [hs4]
theorem par9 (hs1 : skipL (suf b (adv b x)) = some (suf b s1)) (hb : 0 ≤ s1) (h : ¬ (b.size : Int) ≤ s1) (h2 : pk b s1 ≠ 59) (ht : tokL (suf b s1) = some (nm, suf b a1)) (hs2 : skipL (suf b a1) = some (suf b s2)) (hb2 : 0 ≤ s2) (h61 : pk b s2 = 61)
    (hs3 : skipL (suf b (adv b s2)) = some (suf b s3)) (hw : worthL (suf b s3) = some (wv, suf b w1)) (hs4 : skipL (suf b w1) = some (suf b s4)) : paramL (suf b (adv b x)) = some (some (nm.map lowC, wv), suf b s4) := by
  unfold paramL; rw [hs1]; dsimp only; rw [if_neg (hd_not hb h h2), ht]; dsimp only; rw [hs2]; dsimp only; rw [if_pos (hd_61 hb2 h61).1, (hd_61 hb2 h61).2.1, hs3]; dsimp only; rw [hw]; dsimp only; rw [hs4]
variable {S : Option (List (List UInt8 × List UInt8))} {ps : List (List UInt8 × List UInt8)} {o : Option (List UInt8 × List UInt8)} {y : Int}
theorem pr_59 (h0 : 0 ≤ x) (hx : ¬ (b.size : Int) ≤ x) (h : pk b x = 59) : suf b x = 59 :: suf b (adv b x) := by
  rw [pk_in h0 hx] at h
  unfold adv
  rw [suf_c h0 hx, u8 (n := 59) h, if_pos (by omega)]
  rfl
theorem pr_none (h0 : 0 ≤ x) (hx : ¬ (b.size : Int) ≤ x) (h : pk b x = 59) (hS : S = (pairsL (suf b x)).map fun r => ps ++ r) (hp : paramL (suf b (adv b x)) = none) : S = none := by
  rw [hS, pr_59 h0 hx h, pairs_none hp]; rfl
theorem pr_bad (h0 : 0 ≤ x) (hx : ¬ (b.size : Int) ≤ x) (h : pk b x ≠ 59) (hS : S = (pairsL (suf b x)).map fun r => ps ++ r) : S = none := by
  rw [pk_in h0 hx] at h
  rw [hS, suf_c h0 hx, pairs_bad]; rfl
  intro e; rw [e] at h; exact h rfl
theorem pr_go (h0 : 0 ≤ x) (hx : ¬ (b.size : Int) ≤ x) (h : pk b x = 59) (hS : S = (pairsL (suf b x)).map fun r => ps ++ r) (hp : paramL (suf b (adv b x)) = some (o, suf b y)) : S = (pairsL (suf b y)).map fun r => (ps ++ o.toList) ++ r := by
  rw [hS, pr_59 h0 hx h, pairs_go hp]
  cases pairsL (suf b y) with
  | none => rfl
  | some z => simp
theorem pr_end (hx : (b.size : Int) ≤ x) (hS : S = (pairsL (suf b x)).map fun r => ps ++ r) : S = some ps := by
  rw [hS, suf_nil hx, pairs_nil]; simp
end
end PPD
end JPD
section JC10
open PySem PySem.W PyProof.Rows PySem.Calls
section PC10
variable {prog : Program} {w : World} {p : Program} {loose : List Str} {mean : ExcName → Option Value} {mg mb : Str → Option Value}
set_option maxRecDepth 100000
set_option maxHeartbeats 4000000
/-- tuples of a name and its worth -/
inductive PrsAre : List (Addr × Obj) → List (List UInt8 × List UInt8) → Prop
  | nil : PrsAre [] []
  | cons (a : Addr) (n : List UInt8) (t : Tok) (wb : Array UInt8) (u : Tok) (k : Nat) {os ps} : PrsAre os ps → PrsAre ((a, tupO [.str (strB n) t, .bytes wb u] k) :: os) ((n, wb.toList) :: ps)
theorem PrsAre.snoc {os : List (Addr × Obj)} {ps : List (List UInt8 × List UInt8)} (h : PrsAre os ps) (a : Addr) (n : List UInt8) (t : Tok) (wb : Array UInt8) (u : Tok) (k : Nat) : PrsAre (os ++ [(a, tupO [.str (strB n) t, .bytes wb u] k)]) (ps ++ [(n, wb.toList)]) := by
  induction h with
  | nil => exact .cons a n t wb u k .nil
  | cons b m t' wb' u' k' _ ih => exact .cons b m t' wb' u' k' ih
theorem PrsAre.ne {os : List (Addr × Obj)} {ps : List (List UInt8 × List UInt8)} (h : PrsAre os ps) {o : Obj} (ho : o.cls ≠ .type "tuple") : ∀ q ∈ os, q.2 ≠ o := by
  induction h with
  | nil => intro q hq; nomatch hq
  | cons b m t' wb' u' k' _ ih =>
    intro q hq
    rcases List.mem_cons.mp hq with rfl | hq
    · rintro rfl; exact ho rfl
    · exact ih q hq
theorem news_off {h₀ h : Heap} {L a : Addr} {o : Obj} {news os : List (Addr × Obj)} (N : News h₀ L h news) (h1 : (a, o) ∈ news) (h2 : ∀ q ∈ os, q ∈ news) (hn : ∀ q ∈ os, q.2 ≠ o) : ∀ q ∈ os, q.1 ≠ a := fun q hq e => hn q hq (by
  have z := (N q (h2 q hq)).1
  rw [e, (N _ h1).1] at z
  exact (Option.some.inj z).symm)
theorem wd_C10_0 : True := by
  k_with "call builtin:list.append" => (k_here; (refine' append_K ?k1 ?k2 ?k3 ?_ ?z; (case k1 => k_asm); (case k2 => k_asm); (case k3 => k_upd); (case z => (rw [List.size_toArray, List.length_map, sizeLine_eq]; omega)); k_whole); intro h' F' N'; (try k_sweep))
  trivial
structure RSt where
  a : Int
  t2 : Nat
  os : List (Addr × Obj)
  k : Nat
noncomputable abbrev RLed (c d P : Addr) (h1 h2 h3 : Int) (k1 k2 k3 t1 t3 : Nat) (b : Array UInt8) (x : RSt) : List (Addr × Obj) := (c, instObj 160 d) :: (d, curD h1 h2 h3 k1 k2 k3 t1 t3 b x.t2 x.a) :: (P, listOf (x.os.map fun q => Value.ref q.1).toArray x.k) :: x.os
noncomputable abbrev RFacts (b : Array UInt8) (as : Int) (x : RSt) : Prop := as ≤ x.a ∧ x.a ≤ (b.size : Int) ∧ ∃ ps, PrsAre x.os ps ∧ pairsL (suf b as) = (pairsL (suf b x.a)).map (fun r => ps ++ r) ∧ x.os.length ≤ x.a.toNat ∧ ps.length ≤ x.a.toNat
theorem rs_end {h₀ h' : Heap} {L : Addr} {s : Shared} {m₀ m' : Str → Option Value} {c d P : Addr} {h1 h2 h3 : Int} {k1 k2 k3 t1 t3 : Nat} {b : Array UInt8} {as y : Int} {x : RSt} {news' os' : List (Addr × Obj)} {t2' k' tk' : Nat} {its : Array Value} {ps : List (List UInt8 × List UInt8)}
    (F : Fr h₀ L h' m') (N : News h₀ L h' news') (hc : (c, instObj 160 d) ∈ news') (hd : (d, curD h1 h2 h3 k1 k2 k3 t1 t3 b t2' y) ∈ news') (hP : (P, listOf its k') ∈ news') (ho : ∀ q ∈ os', q ∈ news') (hits : its = (os'.map fun q => Value.ref q.1).toArray)
    (hps : PrsAre os' ps) (hS : pairsL (suf b as) = (pairsL (suf b y)).map (fun r => ps ++ r)) (hl : os'.length ≤ x.a.toNat + 1) (hl2 : ps.length ≤ x.a.toNat + 1) (hlt : x.a < y) (hy : y ≤ (b.size : Int)) (hx : as ≤ x.a) (h0 : 0 ≤ x.a) (hr : ∀ z, (["name"] : List Str).contains z = false → m' z = m₀ z) :
    KswEnd h₀ L s (RLed c d P h1 h2 h3 k1 k2 k3 t1 t3 b) (fun _ => []) (RFacts b as) ["name"] m₀ (fun _ => True) (fun x => b.size + 1 - x.a.toNat) x { s with heap := h', toks := tk' } := by
  subst hits
  refine ksw_end ⟨y, t2', os', k'⟩ F N (fun q hq => ?_) ⟨Int.le_trans hx (Int.le_of_lt hlt), hy, ps, hps, hS, by dsimp only; omega, by dsimp only; omega⟩ (List.forall_mem_nil _) (fun z _ h => hr z h) trivial (by dsimp only; omega)
  rcases List.mem_cons.mp hq with rfl | hq
  · exact hc
  · rcases List.mem_cons.mp hq with rfl | hq
    · exact hd
    · rcases List.mem_cons.mp hq with rfl | hq
      · exact hP
      · exact ho q hq
theorem rs_end2 {h₀ h' : Heap} {L : Addr} {s : Shared} {m₀ m' : Str → Option Value} {c d P T : Addr} {h1 h2 h3 : Int} {k1 k2 k3 t1 t3 : Nat} {b : Array UInt8} {as y : Int} {x : RSt} {news' : List (Addr × Obj)} {t2' k' tk' kk tt uu : Nat} {ps : List (List UInt8 × List UInt8)} {n : List UInt8} {wb : Array UInt8}
    (F : Fr h₀ L h' m') (N : News h₀ L h' news') (hc : (c, instObj 160 d) ∈ news') (hd : (d, curD h1 h2 h3 k1 k2 k3 t1 t3 b t2' y) ∈ news') (hP : (P, listOf ((x.os.map fun q => Value.ref q.1).toArray.push (.ref T)) k') ∈ news') (hT : (T, tupO [.str (strB n) tt, .bytes wb uu] kk) ∈ news') (ho : ∀ q ∈ x.os, q ∈ news')
    (hps : PrsAre x.os ps) (hS : pairsL (suf b as) = (pairsL (suf b y)).map (fun r => (ps ++ (some (n, wb.toList)).toList) ++ r)) (hl : x.os.length ≤ x.a.toNat) (hl2 : ps.length ≤ x.a.toNat) (hlt : x.a < y) (hy : y ≤ (b.size : Int)) (hx : as ≤ x.a) (h0 : 0 ≤ x.a) (hr : ∀ z, (["name"] : List Str).contains z = false → m' z = m₀ z) :
    KswEnd h₀ L s (RLed c d P h1 h2 h3 k1 k2 k3 t1 t3 b) (fun _ => []) (RFacts b as) ["name"] m₀ (fun _ => True) (fun x => b.size + 1 - x.a.toNat) x { s with heap := h', toks := tk' } := by
  refine rs_end (os' := x.os ++ [(T, tupO [.str (strB n) tt, .bytes wb uu] kk)]) (ps := ps ++ [(n, wb.toList)]) F N hc hd hP (fun q hq => ?_) (by rw [List.map_append, List.push_toArray]; rfl) (hps.snoc _ _ _ _ _ _) hS (by rw [List.length_append, List.length_singleton]; omega) (by rw [List.length_append, List.length_singleton]; omega) hlt hy hx h0 hr
  rcases List.mem_append.mp hq with hq | hq
  · exact ho q hq
  · rw [List.mem_singleton.mp hq]; exact hT
theorem adv_lt {b : Array UInt8} {x y : Int} (h : ¬ (b.size : Int) ≤ x) (h2 : adv b x ≤ y) : x < y := by
  rw [adv_in (by omega)] at h2; omega
theorem adv_ge {b : Array UInt8} {x : Int} : x ≤ adv b x := by unfold adv; split <;> omega
theorem rs_lt {b : Array UInt8} {x s1 a1 s2 s3 w1 s4 : Int} (h : ¬ (b.size : Int) ≤ x) (h1 : adv b x ≤ s1) (h2 : s1 < a1) (h3 : a1 ≤ s2) (h4 : adv b s2 ≤ s3) (h5 : s3 < w1) (h6 : w1 ≤ s4) : x < s4 := by
  have := adv_lt h h1
  have := adv_ge (b := b) (x := s2)
  omega
theorem pairs_spec (c d : Addr) (h1 h2 h3 : Int) (k1 k2 k3 t1 t3 : Nat) (b : Array UInt8) (t2 : Nat) (a : Int) (hb : b.size ≤ 4000) (h0 : 0 ≤ a) (ha : a ≤ (b.size : Int)) : Spec prog w (kf w.params) p loose mean mg mb 409 ⟨[.ref c], []⟩ 20 (curN c d h1 h2 h3 k1 k2 k3 t1 t3 b t2 a)
    (P4 (fun P _ _ _ => .ref P) (fun P os n _ => (P, listOf (os.map fun q => Value.ref q.1).toArray n) :: os) (fun _ os _ ps => PrsAre os ps ∧ (skipL (suf b a)).bind pairsL = some ps ∧ ps.length ≤ b.size)) ((skipL (suf b a)).bind pairsL = none) := by
  refine' spec_of3 (rb := [("cursor", .ref c)]) ?k1 ?k2 ?k3 ?k4 ?k5 ?k6 ?k7 ?k8 ?k9 ?_
  case k1 => k_is
  case k2 => k_is
  case k3 => first | exact fun s Xs => BindsTo.of_eq rfl | exact fun s Xs => binds_K Xs rfl (by k_is) rfl rfl rfl
  case k4 => exact locs rfl
  case k5 => exact rfl
  case k6 => exact rfl
  case k7 => exact rfl
  case k8 => decide
  case k9 => decide
  intro dp un gd envs base g L' h₁ gens drawn tk os R B F N X T lt hd hu ret exc eE aA
  k_fold
  (try k_lt lt)
  (try dsimp only)
  have hmk0 : StopAt 0 := .here
  have hcd : c ≠ d := news_ne N (.head _) (.tail _ (.head _)) (fun e => by cases e)
  k_steps
  rotate_left
  · exact exc (by rw [show skipL (suf b a) = none by assumption]; rfl) _ _ _ _ _ (by assumption) (by assumption)
  unfold StopHere
  rename Fr _ _ _ _ => F9
  rename News _ _ _ _ => N9
  rename_i P _ lP _
  have hS : (skipL (suf b a)).bind pairsL = pairsL (suf b as') := by rw [hs1']; rfl
  have hNl : News g L' _ [(c, instObj 160 d), (d, curD h1 h2 h3 k1 k2 k3 t1 t3 b ts' as'), (P, listOf #[] 0)] := N9
  rw [hS] at ret exc
  refine' ksw_while (σ := RSt) (RLed c d P h1 h2 h3 k1 k2 k3 t1 t3 b) (fun _ => []) (RFacts b as') ["name"]
    (fun _ => True) (fun x => b.size + 1 - x.a.toNat) ⟨as', ts', [], 0⟩ F9 hNl ⟨Int.le_refl _, hs3', [], .nil, by simp, Nat.zero_le _, Nat.zero_le _⟩ (List.forall_mem_nil _) trivial ?cwT
  case cwT =>
    intro x u h tk9 hF hP F N
    clear F9 N9 hNl hP
    first | ((have hxl := And.left hF); (have hxh := And.left (And.right hF)); (have ps := And.left (And.right (And.right hF))); (have hps := And.left (And.right (And.right (And.right hF)))); (have hSx := And.left (And.right (And.right (And.right (And.right hF))))); (have hlen := And.left (And.right (And.right (And.right (And.right (And.right hF)))))); (have hlen2 := (And.right (And.right (And.right (And.right (And.right (And.right hF))))))); clear hF) | obtain ⟨hxl, hxh, ps, hps, hSx, hlen, hlen2⟩ := hF
    have hoc : ∀ q ∈ x.os, q.1 ≠ c := news_off N (.head _) (fun q hq => .tail _ (.tail _ (.tail _ hq))) (hps.ne (by show Value.ref 160 ≠ _; simp))
    have hod : ∀ q ∈ x.os, q.1 ≠ d := news_off N (.tail _ (.head _)) (fun q hq => .tail _ (.tail _ (.tail _ hq))) (hps.ne (by show Value.type "dict" ≠ _; simp))
    have hoP : ∀ q ∈ x.os, q.1 ≠ P := news_off N (.tail _ (.tail _ (.head _))) (fun q hq => .tail _ (.tail _ (.tail _ hq))) (hps.ne (by show Value.type "list" ≠ _; simp))
    have hx0 : 0 ≤ x.a := by omega
    (try k_fold)
    k_steps
    · refine' ret _ ((P, listOf (x.os.map fun q => Value.ref q.1).toArray x.k) :: x.os) _ _ _ _ (by k_asm) (news_mono (by k_asm) ?_) ⟨_, _, _, _, rfl, rfl, hps, pr_end (by assumption) hSx, by omega⟩
      exact fun q hq => .tail _ (.tail _ hq)
    · exact exc (pr_bad hx0 (by assumption) (by assumption) hSx) _ _ _ _ _ (by assumption) (by assumption)
    all_goals first
      | exact exc (pr_none (x := x.a) hx0 (by assumption) (by assumption) hSx (par1 (by assumption))) _ _ _ _ _ (by assumption) (by assumption)
      | exact exc (pr_none (x := x.a) hx0 (by assumption) (by assumption) hSx (par3 (by assumption) (by assumption) (by assumption) (by assumption) (by assumption))) _ _ _ _ _ (by assumption) (by assumption)
      | exact exc (pr_none (x := x.a) hx0 (by assumption) (by assumption) hSx (par4 (by assumption) (by assumption) (by assumption) (by assumption) (by assumption) (by assumption))) _ _ _ _ _ (by assumption) (by assumption)
      | exact exc (pr_none (x := x.a) hx0 (by assumption) (by assumption) hSx (par5 (by assumption) (by assumption) (by assumption) (by assumption) (by assumption) (by assumption) (by assumption) (by assumption))) _ _ _ _ _ (by assumption) (by assumption)
      | exact exc (pr_none (x := x.a) hx0 (by assumption) (by assumption) hSx (par6 (by assumption) (by assumption) (by assumption) (by assumption) (by assumption) (by assumption) (by assumption) (by assumption) (by assumption))) _ _ _ _ _ (by assumption) (by assumption)
      | exact exc (pr_none (x := x.a) hx0 (by assumption) (by assumption) hSx (par7 (by assumption) (by assumption) (by assumption) (by assumption) (by assumption) (by assumption) (by assumption) (by assumption) (by assumption) (by assumption))) _ _ _ _ _ (by assumption) (by assumption)
      | exact exc (pr_none (x := x.a) hx0 (by assumption) (by assumption) hSx (par8 (by assumption) (by assumption) (by assumption) (by assumption) (by assumption) (by assumption) (by assumption) (by assumption) (by assumption) (by assumption) (by assumption))) _ _ _ _ _ (by assumption) (by assumption)
      | skip
    all_goals unfold StopHere
    · refine rs_end (os' := x.os) (by k_asm) (by k_asm) (by k_mem) (by k_mem) (by k_mem) (fun q hq => .tail _ (.tail _ (.tail _ hq))) rfl hps ((pr_go (x := x.a) (o := none) (by assumption) (by assumption) (by assumption) hSx (par2 (by assumption) (by assumption) (.inl (by assumption)))).trans (by simp)) (Nat.le_succ_of_le hlen) (Nat.le_succ_of_le hlen2) ?_ (by assumption) hxl hx0 ?_
      · exact adv_lt (by assumption) (by assumption)
      · intro z hz; (simp only [List.contains_cons, List.contains_nil, Bool.or_false, beq_eq_false_iff_ne, ne_eq] at hz); simp [kstB, hz]
    · refine rs_end2 (by k_asm) (by k_asm) (by k_mem) (by k_mem) (by k_mem) (by k_mem) (fun q hq => .tail _ (.tail _ (.tail _ (.tail _ hq)))) hps (pr_go (x := x.a) hx0 (by assumption) (by assumption) hSx (par9 (by assumption) (by assumption) (by assumption) (by assumption) (by assumption) (by assumption) (by assumption) (by assumption) (by assumption) (by assumption) (by assumption))) hlen hlen2 (rs_lt (by assumption) (by assumption) (by assumption) (by assumption) (by assumption) (by assumption) (by assumption)) (by assumption) hxl hx0 ?_
      · intro z hz; (simp only [List.contains_cons, List.contains_nil, Bool.or_false, beq_eq_false_iff_ne, ne_eq] at hz); simp [kstB, hz]
    · refine rs_end (os' := x.os) (by k_asm) (by k_asm) (by k_mem) (by k_mem) (by k_mem) (fun q hq => .tail _ (.tail _ (.tail _ hq))) rfl hps ((pr_go (x := x.a) (o := none) (by assumption) (by assumption) (by assumption) hSx (par2 (by assumption) (by assumption) (.inr (by assumption)))).trans (by simp)) (Nat.le_succ_of_le hlen) (Nat.le_succ_of_le hlen2) ?_ (by assumption) hxl hx0 ?_
      · exact adv_lt (by assumption) (by assumption)
      · intro z hz; (simp only [List.contains_cons, List.contains_nil, Bool.or_false, beq_eq_false_iff_ne, ne_eq] at hz); simp [kstB, hz]
theorem wd_C10_1 : True := by
  k_with "call ref" => (k_here; (show wpAny _ _ (PySem.call (Value.ref 409) [_]) _ _ _); (refine' Spec.call4 (pairs_spec _ _ _ _ _ _ _ _ _ _ _ _ _ (by assumption) ?s1 ?s2) ?B ?F ?X ?N ?T rfl rfl rfl rfl ?hd ?hu ?P ?W ?_ ?_); (case F => k_asm); (case N => k_asm); (case B => k_asm); (case X => k_asm); (case T => k_asm); (case hd => first | exact room_d (j := 1) hd (by decide) | exact room_d (j := 2) hd (by decide) | exact room_d (j := 3) hd (by decide) | (simp only [ar_depth, ar_units, depth_deeper, depth_mark, depth_under_make, depth_under_kw, depth_in1, units_deeper, units_in1, units_under_make, Around.mark_units]; omega)); (case hu => first | exact room_u (j := 0) hu (by decide) | exact room_u (j := 1) hu (by decide) | exact room_u (j := 2) hu (by decide) | exact room_u (j := 3) hu (by decide) | (simp only [ar_depth, ar_units, depth_deeper, depth_mark, depth_under_make, depth_under_kw, depth_in1, units_deeper, units_in1, units_under_make, Around.mark_units]; omega)); (case P => ktr_unf); (case W => tb_start); (case s1 => first | assumption | omega); (case s2 => first | assumption | omega); (all_goals first | (intro Pp' op' np' pp' h' tk' hP' F' N' l1 l2; (dsimp only [List.cons_append, List.nil_append] at N'); (simp only [AllLt, and_true] at l1); (simp only [Apart, ApartOne, and_true] at l2); (first | ((have hp1' := And.left hP'); (have hp2' := And.left (And.right hP')); (have hp3' := (And.right (And.right hP'))); clear hP') | obtain ⟨hp1', hp2', hp3'⟩ := hP'); (try k_sweep); (try dsimp only)) | (intro _ e' t' vs' h' tk' g' R' F' U'; (try dsimp only))))
  trivial
end PC10
end JC10
section JFO
open PySem PySem.W PyProof.Rows PySem.Calls PySem.Spec
section PFO
set_option maxRecDepth 100000
variable {prog : Program} {w : World} {A : Around} {E : Value → Shared → Prop} {s : Shared} {env : Env} {h₀ : Heap} {target : Expr} {body : List Stmt} {Q : Flow → Shared → Prop}
/-- the end of a turn of a for loop -/
noncomputable def ForEnd {σ : Type} (h₀ : Heap) (L : Addr) (s : Shared) (Led : σ → List (Addr × Obj)) (ps : σ → List (Str × Value)) (Facts : σ → Prop) (stored : List Str) (m₀ : Str → Option Value) (it : Addr × Obj) (s₂ : Shared) : Prop :=
  ∃ (c' : σ) (h' : Heap) (tk : Nat) (m' : Str → Option Value) (news' : List (Addr × Obj)), s₂ = { s with heap := h', toks := tk } ∧ Fr h₀ L h' m' ∧ News h₀ L h' news' ∧ it ∈ news' ∧ (∀ p ∈ Led c', p ∈ news') ∧ Facts c' ∧ (∀ p ∈ ps c', m' p.1 = some p.2) ∧ (∀ z, (∀ p ∈ ps c', z ≠ p.1) → stored.contains z = false → m' z = m₀ z)
theorem for_end {σ : Type} {L : Addr} {s : Shared} {Led : σ → List (Addr × Obj)} {ps : σ → List (Str × Value)} {Facts : σ → Prop} {stored : List Str} {m₀ m' : Str → Option Value} {it : Addr × Obj} {h' : Heap} {tk : Nat} {news' : List (Addr × Obj)} (c' : σ)
    (F : Fr h₀ L h' m') (N : News h₀ L h' news') (hi : it ∈ news') (hn : ∀ p ∈ Led c', p ∈ news') (hf : Facts c') (hk : ∀ p ∈ ps c', m' p.1 = some p.2) (hr : ∀ z, (∀ p ∈ ps c', z ≠ p.1) → stored.contains z = false → m' z = m₀ z) :
    ForEnd h₀ L s Led ps Facts stored m₀ it { s with heap := h', toks := tk } := ⟨c', h', tk, m', news', rfl, F, N, hi, hn, hf, hk, hr⟩
noncomputable def ForPost {σ : Type} (h₀ : Heap) (L : Addr) (s : Shared) (Led : σ → List (Addr × Obj)) (ps : σ → List (Str × Value)) (Facts : σ → Prop) (stored : List Str) (m₀ : Str → Option Value) (it : Addr × Obj) (Q : Flow → Shared → Prop) (f : Flow) (s₂ : Shared) : Prop :=
  match f with
  | .ret v => Q (.ret v) s₂
  | .brk => Q .next s₂
  | _ => ForEnd h₀ L s Led ps Facts stored m₀ it s₂
/-- all turns of a for loop -/
theorem for_items {σ : Type} {nm : String} {I : Addr} {keep : List (Addr × Obj)} {m₀ : Str → Option Value} (Led : σ → List (Addr × Obj)) (ps : σ → List (Str × Value)) (Facts : List Itm → σ → Prop) (stored : List Str)
    (hcls : ∀ xs c, Facts xs c → ∀ p ∈ Led c, p.2.cls ≠ .type nm) (hkeep : ∀ xs c, Facts xs c → SubL keep (Led c))
    (turn : ∀ a r c (u : Str → Option Value) v h tk o, Facts (a :: r) c → a.Is v h → o.cls = .type nm → Fr h₀ env.locals h (kstB (fun z => if stored.contains z then u z else m₀ z) (ps c)) → News h₀ env.locals h ((I, o) :: Led c) →
      wpAny (model prog w) A (assign target env v) (fun _ s₂ => wpAny (model prog w) A (execs body env) (ForPost h₀ env.locals { s with heap := h, toks := tk } Led ps (Facts r) stored m₀ (I, o) Q) E s₂) E { s with heap := h, toks := tk })
    (done : ∀ c (u : Str → Option Value) h tk, Facts [] c → Fr h₀ env.locals h (kstB (fun z => if stored.contains z then u z else m₀ z) (ps c)) → News h₀ env.locals h (Led c) → Q .next { s with heap := h, toks := tk }) :
    ∀ xs c m, Facts xs c → (∀ p ∈ ps c, m p.1 = some p.2) → (∀ z, (∀ p ∈ ps c, z ≠ p.1) → stored.contains z = false → m z = m₀ z) → ItemsRest prog w A E h₀ env target body Q s [(I, nm)] keep xs m (Led c)
  | [], c, m, hf, h1, h2 => fun h tk F N => done c m h tk hf (ksw_fr h1 h2 F) N
  | a :: r, c, m, hf, h1, h2 => fun v h tk ha F o ho N => by
    refine wpAny_mono (turn a r c m v h tk o hf ha ho (ksw_fr h1 h2 F) N) (fun _ s₂ q => wpAny_mono q (fun f s₃ p => ?_) fun _ _ e => e) fun _ _ e => e
    have fin : ForEnd h₀ env.locals { s with heap := h, toks := tk } Led ps (Facts r) stored m₀ (I, o) s₃ → UnrEndW h₀ env.locals { s with heap := h, toks := tk } [(I, o)] (fun m' n' => SubL keep n' ∧ ItemsRest prog w A E h₀ env target body Q s [(I, nm)] keep r m' n') s₃ := by
      rintro ⟨c', h', tk', m', news', rfl, F', N', hi, hn, hf', hk', hr'⟩
      refine ⟨h', tk', m', Led c', rfl, F', fun p hp => ?_, fun p hp q hq e => ?_, hkeep _ _ hf', for_items Led ps Facts stored hcls hkeep turn done r c' m' hf' hk' hr'⟩
      · rcases List.mem_cons.mp hp with rfl | hp
        · exact N' _ hi
        · exact N' _ (hn p hp)
      · rw [List.mem_singleton.mp hq] at e
        have z1 := (N' _ (hn p hp)).1
        have z2 := (N' _ hi).1
        rw [e, z2] at z1
        refine hcls _ _ hf' p hp ?_
        rw [← Option.some.inj z1]; exact ho
    cases f with
    | ret v => exact p
    | brk => exact p
    | next => exact fin p
    | cont => exact fin p
theorem letGo_rangeiter {E : Value → Shared → Prop} {target : Expr} {I : Addr} {x l c : Int} {v : Value} {Q' : Unit → Shared → Prop} {s' : Shared} (hit : IsRangeIter s'.heap I x l c) (h : Q' () s') :
    wpAny (model prog w) A (letOwnedTupleGo target (.ref I) v) Q' E s' := by
  unfold letOwnedTupleGo
  cases target <;> first
    | exact wpAny_pure h
    | (cases v <;> first
        | exact wpAny_pure h
        | (refine wpAny_bind (wpAny_load hit ?_)
           exact wpAny_pure h))
theorem iter_rangeTurns {r : Addr} {a₀ b₀ : Int} {t₀ u₀ v₀ : Tok} {n : Nat} {m₀ : Str → Option Value} {news : List (Addr × Obj)}
    (hh : A.handled = none) (hr : IsRange s.heap r a₀ b₀ 1 t₀ u₀ v₀) (hsmall : Builtin.Range.small a₀ b₀ 1 = true) (hn : Builtin.Range.rangeSize a₀ b₀ 1 = (n : Int)) (F : Fr h₀ env.locals s.heap m₀) (N : News h₀ env.locals s.heap news)
    (rest₀ : ∀ I : Addr, (∀ p ∈ news, p.1 < I) → ItemsRest prog w A E h₀ env target body Q s [(I, "range_iterator")] [] ((List.range n).map fun (i : Nat) => .tok (.int (a₀ + (i : Int)))) m₀ news) :
    wpAny (model prog w) A (pyIter (.ref r)) (fun it s₂ => TurnsAt prog w A h₀ env target body Q E it s₂) E s := by
  refine wpAny_pyIter_range hr hsmall ?_
  refine ktu_core (tk0 := s.toks) (keep := []) (KTurns.ofWalks (Walks.range hh s.heap.objs.size a₀ 1 n).bound fun i v s Q E st q => letGo_rangeiter st q) (by simp) (fun i v h hp => ?_) (fun i h st => ?_) (fun b hb => ?_) (fun b hb => by simpa using hb) (fun b hb => ?_) ?_ (fun p hp hI => ?_) ?_ (F.push _) (fun p hp => ⟨Heap.get?_push_of_some _ (N p hp).1, (N p hp).2⟩) trivial (rest₀ _ fun p hp => Heap.lt_size (N p hp).1)
  · obtain ⟨hi, t, rfl⟩ := hp
    exact ⟨.tok (.int (a₀ + (i : Int))), by simp [hi], t, by simp⟩
  · exact ⟨[(s.heap.objs.size, _)], ⟨⟨rfl, rfl⟩, trivial⟩, fun p hp => by rw [List.mem_singleton.mp hp]; exact st⟩
  · have hb' : b = s.heap.objs.size := by simpa using hb
    rw [hb']
    exact ⟨List.mem_cons_self .., next_is_new F⟩
  · exact .inl (by simpa using hb)
  · intro hI
    exact absurd F.ns.lt ((List.mem_singleton.mp hI) ▸ Nat.lt_irrefl _)
  · exact absurd (Heap.lt_size (N p hp).1) ((List.mem_singleton.mp hI) ▸ Nat.lt_irrefl _)
  · show IsRangeIter _ _ _ _ _
    rw [hn]; simpa using Heap.get?_push_size _ rfl
theorem ForPost.mono {σ : Type} {L : Addr} {s : Shared} {Led : σ → List (Addr × Obj)} {ps : σ → List (Str × Value)} {Facts Facts' : σ → Prop} {stored : List Str} {m₀ : Str → Option Value} {it : Addr × Obj} {Q : Flow → Shared → Prop} {f : Flow} {s₂ : Shared} (h : ∀ c, Facts c → Facts' c)
    (p : ForPost h₀ L s Led ps Facts stored m₀ it Q f s₂) : ForPost h₀ L s Led ps Facts' stored m₀ it Q f s₂ := by
  cases f with
  | ret v => exact p
  | brk => exact p
  | next =>
    obtain ⟨c', h', tk, m', news', e, F', N', hi, hn, hf, hk, hr⟩ := p
    exact ⟨c', h', tk, m', news', e, F', N', hi, hn, h _ hf, hk, hr⟩
  | cont =>
    obtain ⟨c', h', tk, m', news', e, F', N', hi, hn, hf, hk, hr⟩ := p
    exact ⟨c', h', tk, m', news', e, F', N', hi, hn, h _ hf, hk, hr⟩
/-- turns by their number -/
theorem for_idx {σ : Type} {nm : String} {I : Addr} {keep : List (Addr × Obj)} {m₀ : Str → Option Value} {n : Nat} (xs : List Itm) (hn : xs.length = n) (Led : σ → List (Addr × Obj)) (ps : σ → List (Str × Value)) (Facts : Nat → σ → Prop) (stored : List Str)
    (hcls : ∀ i c, Facts i c → ∀ p ∈ Led c, p.2.cls ≠ .type nm) (hkeep : ∀ i c, Facts i c → SubL keep (Led c))
    (turn : ∀ i a c (u : Str → Option Value) v h tk o, i < n → xs[i]? = some a → Facts i c → a.Is v h → o.cls = .type nm → Fr h₀ env.locals h (kstB (fun z => if stored.contains z then u z else m₀ z) (ps c)) → News h₀ env.locals h ((I, o) :: Led c) →
      wpAny (model prog w) A (assign target env v) (fun _ s₂ => wpAny (model prog w) A (execs body env) (ForPost h₀ env.locals { s with heap := h, toks := tk } Led ps (Facts (i + 1)) stored m₀ (I, o) Q) E s₂) E { s with heap := h, toks := tk })
    (done : ∀ c (u : Str → Option Value) h tk, Facts n c → Fr h₀ env.locals h (kstB (fun z => if stored.contains z then u z else m₀ z) (ps c)) → News h₀ env.locals h (Led c) → Q .next { s with heap := h, toks := tk })
    (c : σ) (m : Str → Option Value) (hf : Facts 0 c) (h1 : ∀ p ∈ ps c, m p.1 = some p.2) (h2 : ∀ z, (∀ p ∈ ps c, z ≠ p.1) → stored.contains z = false → m z = m₀ z) :
    ItemsRest prog w A E h₀ env target body Q s [(I, nm)] keep xs m (Led c) := by
  refine for_items Led ps (fun l c => ∃ i, l = xs.drop i ∧ i ≤ n ∧ Facts i c) stored (fun l c ⟨i, _, _, h⟩ => hcls i c h) (fun l c ⟨i, _, _, h⟩ => hkeep i c h) ?_ ?_ xs c m ⟨0, rfl, Nat.zero_le _, hf⟩ h1 h2
  · rintro a r c u v h tk o ⟨i, hd, hi, hf⟩ ha ho F N
    have hlt : i < n := by
      rcases Nat.lt_or_ge i n with q | q
      · exact q
      · rw [List.drop_of_length_le (by omega)] at hd; cases hd
    have hg : xs[i]? = some a := by
      have := congrArg List.head? hd
      rw [List.head?_drop] at this
      exact this.symm
    have hr : r = xs.drop (i + 1) := by
      have := congrArg List.tail hd
      rw [List.tail_drop] at this
      exact this
    refine wpAny_mono (turn i a c u v h tk o hlt hg hf ha ho F N) (fun _ s₂ q => wpAny_mono q (fun f s₃ p => ForPost.mono (fun c' hf' => ?_) p) fun _ _ e => e) fun _ _ e => e
    exact ⟨i + 1, hr, hlt, hf'⟩
  · rintro c u h tk ⟨i, hd, hi, hf⟩ F N
    have : i = n := by
      rcases Nat.lt_or_ge i n with q | q
      · have := congrArg List.length hd
        rw [List.length_drop] at this
        simp only [List.length_nil] at this
        omega
      · omega
    subst this
    exact done c u h tk hf F N
theorem for_range {σ : Type} {r : Addr} {a₀ b₀ : Int} {t₀ u₀ v₀ : Tok} {n : Nat} {m₀ : Str → Option Value} {news : List (Addr × Obj)} (Led : σ → List (Addr × Obj)) (ps : σ → List (Str × Value)) (Facts : Nat → σ → Prop) (stored : List Str) (c₀ : σ)
    (hh : A.handled = none) (hr : IsRange s.heap r a₀ b₀ 1 t₀ u₀ v₀) (hsmall : Builtin.Range.small a₀ b₀ 1 = true) (hn : Builtin.Range.rangeSize a₀ b₀ 1 = (n : Int)) (F : Fr h₀ env.locals s.heap m₀) (N : News h₀ env.locals s.heap news) (hN : ∀ p ∈ Led c₀, p ∈ news)
    (hcls : ∀ i c, Facts i c → ∀ p ∈ Led c, p.2.cls ≠ .type "range_iterator") (hf : Facts 0 c₀) (h1 : ∀ p ∈ ps c₀, m₀ p.1 = some p.2)
    (turn : ∀ I i c (u : Str → Option Value) t h tk o, i < n → Facts i c → o.cls = .type "range_iterator" → Fr h₀ env.locals h (kstB (fun z => if stored.contains z then u z else m₀ z) (ps c)) → News h₀ env.locals h ((I, o) :: Led c) →
      wpAny (model prog w) A (assign target env (.int (a₀ + (i : Int)) t)) (fun _ s₂ => wpAny (model prog w) A (execs body env) (ForPost h₀ env.locals { s with heap := h, toks := tk } Led ps (Facts (i + 1)) stored m₀ (I, o) Q) E s₂) E { s with heap := h, toks := tk })
    (done : ∀ c (u : Str → Option Value) h tk, Facts n c → Fr h₀ env.locals h (kstB (fun z => if stored.contains z then u z else m₀ z) (ps c)) → News h₀ env.locals h (Led c) → Q .next { s with heap := h, toks := tk }) :
    wpAny (model prog w) A (pyIter (.ref r)) (fun it s₂ => TurnsAt prog w A h₀ env target body Q E it s₂) E s := by
  refine iter_rangeTurns hh hr hsmall hn F (fun p hp => N p (hN p hp)) fun I _ => ?_
  refine for_idx (keep := []) _ (by simp) Led ps Facts stored hcls (fun _ _ _ => trivial) (fun i a c u v h tk o hi ha hf hv ho F' N' => ?_) done c₀ m₀ hf h1 fun _ _ _ => rfl
  have ha' : a = .tok (.int (a₀ + (i : Int))) := by
    rw [List.getElem?_map, List.getElem?_range hi] at ha
    exact (Option.some.inj ha).symm
  subst ha'
  obtain ⟨t, rfl⟩ := hv
  exact turn I i c u t h tk o hi hf ho F' N'
theorem for_list {σ : Type} {ax : Addr} {lo : Obj} {vs : List Value} {k n : Nat} {m₀ : Str → Option Value} {news : List (Addr × Obj)} (hv : vs.length = n) (Led : σ → List (Addr × Obj)) (ps : σ → List (Str × Value)) (Facts : Nat → σ → Prop) (stored : List Str) (c₀ : σ)
    (hh : A.handled = none) (F : Fr h₀ env.locals s.heap m₀) (N : News h₀ env.locals s.heap news) (hN : ∀ p ∈ Led c₀, p ∈ news) (hm : ∀ c, (ax, lo) ∈ Led c) (hc : lo.cls = .type "list") (hd : lo.data = .seq vs.toArray k)
    (hcls : ∀ i c, Facts i c → ∀ p ∈ Led c, p.2.cls ≠ .type "list_iterator") (hf : Facts 0 c₀) (h1 : ∀ p ∈ ps c₀, m₀ p.1 = some p.2)
    (turn : ∀ I i c (u : Str → Option Value) v h tk o, i < n → vs[i]? = some v → Facts i c → o.cls = .type "list_iterator" → Fr h₀ env.locals h (kstB (fun z => if stored.contains z then u z else m₀ z) (ps c)) → News h₀ env.locals h ((I, o) :: Led c) →
      wpAny (model prog w) A (assign target env v) (fun _ s₂ => wpAny (model prog w) A (execs body env) (ForPost h₀ env.locals { s with heap := h, toks := tk } Led ps (Facts (i + 1)) stored m₀ (I, o) Q) E s₂) E { s with heap := h, toks := tk })
    (done : ∀ c (u : Str → Option Value) h tk, Facts n c → Fr h₀ env.locals h (kstB (fun z => if stored.contains z then u z else m₀ z) (ps c)) → News h₀ env.locals h (Led c) → Q .next { s with heap := h, toks := tk }) :
    wpAny (model prog w) A (pyIter (.ref ax)) (fun it s₂ => TurnsAt prog w A h₀ env target body Q E it s₂) E s := by
  refine iter_listTurns (lo := lo) hh F (fun p hp => N p (hN p hp)) (hm c₀) hc hd fun I _ => ?_
  refine for_idx (keep := [(ax, lo)]) _ (by rw [List.length_map, hv]) Led ps Facts stored hcls (fun _ c _ => And.intro (hm c) trivial) (fun i a c u v h tk o hi ha hf hv ho F' N' => ?_) done c₀ m₀ hf h1 fun _ _ _ => rfl
  rw [List.getElem?_map] at ha
  obtain ⟨x, hx, rfl⟩ := Option.map_eq_some_iff.mp ha
  obtain rfl : v = x := hv
  exact turn I i c u v h tk o hi hx hf ho F' N'
theorem for_tuple {σ : Type} {ax : Addr} {lo : Obj} {vs : List Value} {k n : Nat} {m₀ : Str → Option Value} {news : List (Addr × Obj)} (hv : vs.length = n) (Led : σ → List (Addr × Obj)) (ps : σ → List (Str × Value)) (Facts : Nat → σ → Prop) (stored : List Str) (c₀ : σ)
    (hh : A.handled = none) (F : Fr h₀ env.locals s.heap m₀) (N : News h₀ env.locals s.heap news) (hN : ∀ p ∈ Led c₀, p ∈ news) (hm : ∀ c, (ax, lo) ∈ Led c) (hc : lo.cls = .type "tuple") (hd : lo.data = .seq vs.toArray k)
    (hcls : ∀ i c, Facts i c → ∀ p ∈ Led c, p.2.cls ≠ .type "tuple_iterator") (hf : Facts 0 c₀) (h1 : ∀ p ∈ ps c₀, m₀ p.1 = some p.2)
    (turn : ∀ I i c (u : Str → Option Value) v h tk o, i < n → vs[i]? = some v → Facts i c → o.cls = .type "tuple_iterator" → Fr h₀ env.locals h (kstB (fun z => if stored.contains z then u z else m₀ z) (ps c)) → News h₀ env.locals h ((I, o) :: Led c) →
      wpAny (model prog w) A (assign target env v) (fun _ s₂ => wpAny (model prog w) A (execs body env) (ForPost h₀ env.locals { s with heap := h, toks := tk } Led ps (Facts (i + 1)) stored m₀ (I, o) Q) E s₂) E { s with heap := h, toks := tk })
    (done : ∀ c (u : Str → Option Value) h tk, Facts n c → Fr h₀ env.locals h (kstB (fun z => if stored.contains z then u z else m₀ z) (ps c)) → News h₀ env.locals h (Led c) → Q .next { s with heap := h, toks := tk }) :
    wpAny (model prog w) A (pyIter (.ref ax)) (fun it s₂ => TurnsAt prog w A h₀ env target body Q E it s₂) E s := by
  refine iter_tupTurns (lo := lo) hh F (fun p hp => N p (hN p hp)) (hm c₀) hc hd fun I _ => ?_
  refine for_idx (keep := [(ax, lo)]) _ (by rw [List.length_map, hv]) Led ps Facts stored hcls (fun _ c _ => And.intro (hm c) trivial) (fun i a c u v h tk o hi ha hf hv ho F' N' => ?_) done c₀ m₀ hf h1 fun _ _ _ => rfl
  rw [List.getElem?_map] at ha
  obtain ⟨x, hx, rfl⟩ := Option.map_eq_some_iff.mp ha
  obtain rfl : v = x := hv
  exact turn I i c u v h tk o hi hx hf ho F' N'
theorem for_tuple2 {σ : Type} {ax : Addr} {lo : Obj} {vs : List Value} {k n : Nat} {m₀ : Str → Option Value} (Led : σ → List (Addr × Obj)) (ps : σ → List (Str × Value)) (Facts : Nat → σ → Prop) (stored : List Str) (c₀ : σ)
    (F : Fr h₀ env.locals s.heap m₀) (N : News h₀ env.locals s.heap ((ax, lo) :: Led c₀)) (hc : lo.cls = .type "tuple") (hd : lo.data = .seq vs.toArray k) (hv : vs.length = n) (hh : A.handled = none)
    (hcls : ∀ i c, Facts i c → ∀ p ∈ Led c, p.2.cls ≠ .type "tuple_iterator") (hf : Facts 0 c₀) (h1 : ∀ p ∈ ps c₀, m₀ p.1 = some p.2)
    (turn : ∀ I i c (u : Str → Option Value) v h tk o, i < n → vs[i]? = some v → Facts i c → o.cls = .type "tuple_iterator" → Fr h₀ env.locals h (kstB (fun z => if stored.contains z then u z else m₀ z) (ps c)) → News h₀ env.locals h ((I, o) :: (ax, lo) :: Led c) →
      wpAny (model prog w) A (assign target env v) (fun _ s₂ => wpAny (model prog w) A (execs body env) (ForPost h₀ env.locals { s with heap := h, toks := tk } (fun c => (ax, lo) :: Led c) ps (Facts (i + 1)) stored m₀ (I, o) Q) E s₂) E { s with heap := h, toks := tk })
    (done : ∀ c (u : Str → Option Value) h tk, Facts n c → Fr h₀ env.locals h (kstB (fun z => if stored.contains z then u z else m₀ z) (ps c)) → News h₀ env.locals h ((ax, lo) :: Led c) → Q .next { s with heap := h, toks := tk }) :
    wpAny (model prog w) A (pyIter (.ref ax)) (fun it s₂ => TurnsAt prog w A h₀ env target body Q E it s₂) E s :=
  for_tuple hv (fun c => (ax, lo) :: Led c) ps Facts stored c₀ hh F N (fun _ hp => hp) (fun _ => .head _) hc hd (fun i c hf => List.forall_mem_cons.mpr ⟨by rw [hc]; simp, hcls i c hf⟩) hf h1 turn done
theorem for_list2 {σ : Type} {ax : Addr} {lo : Obj} {vs : List Value} {k n : Nat} {m₀ : Str → Option Value} (Led : σ → List (Addr × Obj)) (ps : σ → List (Str × Value)) (Facts : Nat → σ → Prop) (stored : List Str) (c₀ : σ)
    (F : Fr h₀ env.locals s.heap m₀) (N : News h₀ env.locals s.heap ((ax, lo) :: Led c₀)) (hc : lo.cls = .type "list") (hd : lo.data = .seq vs.toArray k) (hv : vs.length = n) (hh : A.handled = none)
    (hcls : ∀ i c, Facts i c → ∀ p ∈ Led c, p.2.cls ≠ .type "list_iterator") (hf : Facts 0 c₀) (h1 : ∀ p ∈ ps c₀, m₀ p.1 = some p.2)
    (turn : ∀ I i c (u : Str → Option Value) v h tk o, i < n → vs[i]? = some v → Facts i c → o.cls = .type "list_iterator" → Fr h₀ env.locals h (kstB (fun z => if stored.contains z then u z else m₀ z) (ps c)) → News h₀ env.locals h ((I, o) :: (ax, lo) :: Led c) →
      wpAny (model prog w) A (assign target env v) (fun _ s₂ => wpAny (model prog w) A (execs body env) (ForPost h₀ env.locals { s with heap := h, toks := tk } (fun c => (ax, lo) :: Led c) ps (Facts (i + 1)) stored m₀ (I, o) Q) E s₂) E { s with heap := h, toks := tk })
    (done : ∀ c (u : Str → Option Value) h tk, Facts n c → Fr h₀ env.locals h (kstB (fun z => if stored.contains z then u z else m₀ z) (ps c)) → News h₀ env.locals h ((ax, lo) :: Led c) → Q .next { s with heap := h, toks := tk }) :
    wpAny (model prog w) A (pyIter (.ref ax)) (fun it s₂ => TurnsAt prog w A h₀ env target body Q E it s₂) E s :=
  for_list hv (fun c => (ax, lo) :: Led c) ps Facts stored c₀ hh F N (fun _ hp => hp) (fun _ => .head _) hc hd (fun i c hf => List.forall_mem_cons.mpr ⟨by rw [hc]; simp, hcls i c hf⟩) hf h1 turn done
end PFO
end JFO
section JC11
open PySem PySem.W PyProof.Rows PySem.Calls
section PC11
variable {prog : Program} {w : World} {p : Program} {loose : List Str} {mean : ExcName → Option Value} {mg mb : Str → Option Value}
set_option maxRecDepth 100000
set_option maxHeartbeats 4000000
section
variable {A : Around} {E : Value → Shared → Prop} {s : Shared} {x : Str} {t u : Tok} {i : Int} {Q : Value → Shared → Prop}
theorem len_t (hz : x.cps.size ≤ 4000) (h : ∀ t' k, Q (.int (x.cps.size : Int) t') { s with toks := k }) : wpAny (model prog w) A (PySem.call (.builtin "len") [.str x t]) Q E s :=
  PySem.P.len_str (by show ¬ (x.cps.size : Int) ≥ _; omega) (h _ _)
theorem item_t {value slice : PySem.Expr} (h0 : 0 ≤ i) (h1 : i < (x.cps.size : Int)) (hz : x.cps.size ≤ 4000) (h : ∀ t' k, Q (.str ⟨#[x.cps.getD i.toNat 0]⟩ t') { s with toks := k })
    (hs : subscripted slice false (.str x t) (.int i u) = operate [.str x t, .int i u] (getItem (.str x t) (.int i u))) :
    wpAny (model prog w) A (subscriptTail value slice (.str x t) (.int i u)) Q E s := by
  refine tail_any (typeIs_str _ _ _) F.slot_str_getitem.lookup (PySem.P.getItem_str (c := x.cps.getD i.toNat 0) ?_ ?_ (h _ _)) hs
  · rw [decide_eq_false (by omega), decide_eq_false (by omega)]; rfl
  · have e : seqIndex? i x.length = some i.toNat := by
      unfold seqIndex?
      have e1 : ¬ i < 0 := by omega
      have e2 : x.length = x.cps.size := rfl
      simp [e1, e2]; omega
    rw [e]
    have hl : i.toNat < x.cps.size := by omega
    simp [Array.getD, hl]
end
theorem range_size (n : Nat) : Builtin.Range.rangeSize 0 (n : Int) 1 = (n : Int) := by
  unfold Builtin.Range.rangeSize
  rw [if_pos (by decide)]
  split
  · rw [Int.ediv_one]; omega
  · omega
theorem range_small {n : Nat} (h : n ≤ 4000) : Builtin.Range.small 0 (n : Int) 1 = true := by
  exact small_one (by omega) (by omega) (by omega) (by omega)
theorem nth_lt {l : Array Nat} {i b : Nat} (h : ∀ c ∈ l.toList, c < b) (hi : i < l.size) : l.getD (0 + (i : Int)).toNat 0 < b := by
  have e : (0 + (i : Int)).toNat = i := by omega
  rw [e]
  have : l.getD i 0 = l[i] := by simp [Array.getD, hi]
  rw [this]
  exact h _ (Array.getElem_mem_toList hi)
theorem kst_one {u m₀ : Str → Option Value} {v : Value} {k : Str} {z : Str} (hz : ([k] : List Str).contains z = false) : (if z = k then some v else kstB (fun z => if ([k] : List Str).contains z then u z else m₀ z) [] z) = m₀ z := by
  simp only [List.contains_cons, List.contains_nil, Bool.or_false, beq_eq_false_iff_ne, ne_eq] at hz
  simp [kstB, hz]
theorem nat_in {l : List Nat} (h : ∀ c ∈ l, c < 256) : KBa.In (l.map fun c : Nat => (c : Int)) := by
  intro n hn
  obtain ⟨c, hc, rfl⟩ := List.mem_map.mp hn
  have := h c hc
  exact ⟨by omega, by omega⟩
theorem nat_arr (l : List Nat) : byteArr (l.map fun c : Nat => (c : Int)) = (l.map Nat.toUInt8).toArray := by
  unfold byteArr
  rw [List.map_map]
  congr 1
theorem wd_C11_0 : True := by
  k_with "exec For Name Call cons nil" => (k_here; (have hmk9 := (show StopAt 3 by assumption)); clear hmk9; refine stop_here ?_)
  k_with "pyIter ref" => (k_here; (have hmk9 := (show StopAt 3 by assumption)); clear hmk9; refine stop_here ?_)
  k_with "ForPost" => (dsimp only [ForPost])
  k_with "ForEnd" => (refine stop_here ?_)
  k_with "call builtin:len" => (k_here; (show wpAny _ _ (PySem.call (Value.builtin "len") [Value.str _ _]) _ _ _); refine len_t (by assumption) ?_; intro _ _)
  k_with "subscriptTail Name Name str int" => (k_here; (show wpAny _ _ (subscriptTail _ _ (Value.str _ _) (Value.int _ _)) _ _ _); refine item_t (hs := by with_unfolding_all rfl) (by first | assumption | omega) (by first | assumption | omega) (by assumption) ?_; intro _ _)
  k_with "subscriptTail Name BinOp str int" => (k_here; (show wpAny _ _ (subscriptTail _ _ (Value.str _ _) (Value.int _ _)) _ _ _); refine item_t (hs := by with_unfolding_all rfl) (by first | assumption | omega) (by first | assumption | omega) (by assumption) ?_; intro _ _)
  k_with "subscriptTail Name Constant str int" => (k_here; (show wpAny _ _ (subscriptTail _ _ (Value.str _ _) (Value.int _ _)) _ _ _); refine item_t (hs := by with_unfolding_all rfl) (by first | assumption | omega) (by first | assumption | omega) (by assumption) ?_; intro _ _)
  trivial
theorem sign_octets_spec (x : Str) (t : Nat) (hz : x.cps.size ≤ 4000) (hx : ∀ c ∈ x.cps.toList, c < 256) : Spec prog w (kf w.params) p loose mean mg mb 78 ⟨[.str x t], []⟩ 4 []
    (P1 (fun t' => .bytes ((x.cps.toList.map Nat.toUInt8).toArray) t') (fun _ => []) (fun _ => True)) False := by
  refine' spec_of3 (rb := [("text", .str x t)]) ?k1 ?k2 ?k3 ?k4 ?k5 ?k6 ?k7 ?k8 ?k9 ?_
  case k1 => k_is
  case k2 => k_is
  case k3 => first | exact fun s Xs => BindsTo.of_eq rfl | exact fun s Xs => binds_K Xs rfl (by k_is) rfl rfl rfl
  case k4 => exact locs rfl
  case k5 => exact rfl
  case k6 => exact rfl
  case k7 => exact rfl
  case k8 => decide
  case k9 => decide
  intro dp un gd envs base g L' h₁ gens drawn tk os R B F N X T lt hd hu ret exc eE aA
  k_fold
  (try k_lt lt)
  (try dsimp only)
  have hmk3 : StopAt 3 := .here
  k_steps
  unfold StopHere
  rename Fr _ _ _ _ => F9
  rename News _ _ _ _ => N9
  refine For_turns F9 ?_
  k_whole
  k_steps
  unfold StopHere
  rename IsRange _ _ _ _ _ _ _ _ => hR
  rename Fr _ _ _ _ => F8
  rename News _ _ _ _ => N8
  refine for_range (σ := Unit) (n := x.cps.size) (fun _ => []) (fun _ => []) (fun _ _ => True) ["at"] () rfl hR (range_small hz) (range_size _) F8 N8 (List.forall_mem_nil _) (fun _ _ _ => List.forall_mem_nil _) trivial (List.forall_mem_nil _) ?_ ?_
  · intro I i c u t8 h tk8 o hi _ ho F N
    clear F8 N8 hR
    have hc := nth_lt hx hi
    (try dsimp only)
    (try k_fold)
    k_steps
    all_goals first
      | (exfalso; omega)
      | (unfold StopHere; exact for_end () (by k_asm) (by k_asm) (.head _) (List.forall_mem_nil _) trivial (List.forall_mem_nil _) (fun z _ hz => kst_one hz))
  · intro c u h tk8 _ F N
    clear F8 N8 hR
    (try dsimp only)
    (try k_fold)
    have hmk2 : StopAt 2 := .here
    k_steps
    unfold StopHere2
    refine src_T (fun i v => ∃ c u, x.cps.toList[i]? = some c ∧ v = .int (c : Int) u) (by rw [sizeLine_eq]; omega) rfl (by k_asm) (by k_asm) ?_ ?_
    · rintro s₂ ⟨h2, rfl⟩ i v ys I oI C oC D m₂ h tk2 E' hi ⟨c, u, hci, rfl⟩ hC hx F2 N2 off ne
      (try simp only [LCg.Off3, and_true] at off)
      (try k_fold)
      k_steps
      unfold StopHere2
      exact elt_end (by k_asm) (by k_asm) (fun _ hp => hp) ⟨c, _, by rw [Array.getElem?_toList]; exact hci, rfl⟩
    · rintro s₂ ⟨h2, rfl⟩ D h tk2 ys hl hg F2 N2 off
      have hI := kInts (f := fun c : Nat => (c : Int)) (by rw [hl, Array.length_toList]) hg
      clear hg
      k_steps
      refine bytes_of F2 N2 rfl (.head _) hI (nat_in hx) (by rw [List.length_map, Array.length_toList]; omega) ?_
      intro h3 t3 k3 F3 N3 _
      rw [nat_arr]
      k_steps
      exact ret _ _ _ _ _ _ (by k_asm) (News.nil) ⟨_, rfl, rfl, trivial⟩
theorem wd_C11_1 : True := by
  k_with "call ref" => (k_here; (show wpAny _ _ (PySem.call (Value.ref 78) [_]) _ _ _); (refine' Spec.call1 (sign_octets_spec _ _ ?s1 ?s2) ?B ?F ?X ?N ?T rfl rfl rfl rfl ?hd ?hu ?P ?W ?_ (fun h => h.elim)); (case F => k_asm); (case N => k_asm); (case B => k_asm); (case X => k_asm); (case T => k_asm); (case hd => first | exact room_d (j := 1) hd (by decide) | exact room_d (j := 2) hd (by decide) | exact room_d (j := 3) hd (by decide) | (simp only [ar_depth, ar_units, depth_deeper, depth_mark, depth_under_make, depth_under_kw, depth_in1, units_deeper, units_in1, units_under_make, Around.mark_units]; omega)); (case hu => first | exact room_u (j := 0) hu (by decide) | exact room_u (j := 1) hu (by decide) | exact room_u (j := 2) hu (by decide) | exact room_u (j := 3) hu (by decide) | (simp only [ar_depth, ar_units, depth_deeper, depth_mark, depth_under_make, depth_under_kw, depth_in1, units_deeper, units_in1, units_under_make, Around.mark_units]; omega)); (case P => ktr_unf); (case W => tb_start); (case s1 => first | assumption | (simp only [lowT, List.size_toArray, List.length_map, Array.length_toList]; omega)); (case s2 => first | assumption | exact strB_lt _); ((intro tl' h' tk' hP' F' N' l1 l2; (dsimp only [List.cons_append, List.nil_append] at N'); clear l1 l2; clear hP'; (try k_sweep); (try dsimp only))))
  trivial
end PC11
end JC11
section JC12
open PySem PySem.W PyProof.Rows PySem.Calls
section PC12
variable {prog : Program} {w : World} {p : Program} {loose : List Str} {mean : ExcName → Option Value} {mg mb : Str → Option Value}
set_option maxRecDepth 100000
set_option maxHeartbeats 4000000
noncomputable def strEqV (x : Str) (v : Value) : Bool := match v with | .str z _ => z == x | _ => false
theorem notin_tupK {A : Around} {E : Value → Shared → Prop} {s : Shared} {K : Frag} {h₀ : Heap} {L a : Addr} {m : Str → Option Value} {l : List Value} {zs : List Str} {n : Nat} {dd : Option Addr} {sl : Array (Option Value)} {x : Str} {t : Tok} {Q : Value → Shared → Prop} (b : Bool)
    (F : Fr h₀ L s.heap m) (X : K.In h₀) (hl : K.lookup a = some ⟨.type "tuple", dd, .seq l.toArray n, sl⟩) (hs : StrsAre l zs) (hb : l.any (strEqV x) = b) (h : Q (.bool (!b)) s) : wpAny (model prog w) A (compareOp .NotIn (.str x t) (.ref a)) Q E s := by
  refine PySem.SeqAt.notIn_tupleAt (strEqV x) (items := l.toArray) ⟨_, (X.keeps F.keep) _ _ hl, rfl, n, rfl⟩ (fun y hy => ?_) (by rw [← Array.any_toList]; rw [show l.toArray.toList = l from rfl, hb]; exact h)
  obtain ⟨z, t', e⟩ := hs.all y (by simpa using hy)
  subst e
  exact PySem.SeqAt.EqAt.str_str _ _ _ _
theorem wd_C12_0 : True := by
  k_with "compareOp NotIn str ref" => (k_here; k_dflt (first | (refine' notin_tupK true ?F ?X ?l ?i ?b ?_; (case F => k_asm); (case X => k_asm); (case l => k_is); (case i => repeat constructor); (case b => decide)) | (refine' notin_tupK false ?F ?X ?l ?i ?b ?_; (case F => k_asm); (case X => k_asm); (case l => k_is); (case i => repeat constructor); (case b => decide))))
  trivial
noncomputable abbrev utf8S : Str := Str.ofString "utf-8"
noncomputable abbrev latinS : Str := Str.ofString "iso-8859-1"
theorem need_utf8_spec (t : Nat) : Spec prog w (kf w.params) p loose mean mg mb 203 ⟨[.str utf8S t], []⟩ 2 [] (P0 .none [] True) False := by
  refine' spec_of3 (rb := [("charset", .str utf8S t)]) ?k1 ?k2 ?k3 ?k4 ?k5 ?k6 ?k7 ?k8 ?k9 ?_
  case k1 => k_is
  case k2 => k_is
  case k3 => first | exact fun s Xs => BindsTo.of_eq rfl | exact fun s Xs => binds_K Xs rfl (by k_is) rfl rfl rfl
  case k4 => exact locs rfl
  case k5 => exact rfl
  case k6 => exact rfl
  case k7 => exact rfl
  case k8 => decide
  case k9 => decide
  intro dp un gd envs base g L' h₁ gens drawn tk os R B F N X T lt hd hu ret exc eE aA
  k_fold
  (try k_lt lt)
  (try dsimp only)
  k_steps
  all_goals exact ret _ _ _ _ _ _ (by k_asm) (by k_asm) ⟨rfl, rfl, trivial⟩
theorem need_latin_spec (t : Nat) : Spec prog w (kf w.params) p loose mean mg mb 203 ⟨[.str latinS t], []⟩ 2 [] (P0 .none [] True) False := by
  refine' spec_of3 (rb := [("charset", .str latinS t)]) ?k1 ?k2 ?k3 ?k4 ?k5 ?k6 ?k7 ?k8 ?k9 ?_
  case k1 => k_is
  case k2 => k_is
  case k3 => first | exact fun s Xs => BindsTo.of_eq rfl | exact fun s Xs => binds_K Xs rfl (by k_is) rfl rfl rfl
  case k4 => exact locs rfl
  case k5 => exact rfl
  case k6 => exact rfl
  case k7 => exact rfl
  case k8 => decide
  case k9 => decide
  intro dp un gd envs base g L' h₁ gens drawn tk os R B F N X T lt hd hu ret exc eE aA
  k_fold
  (try k_lt lt)
  (try dsimp only)
  k_steps
  all_goals exact ret _ _ _ _ _ _ (by k_asm) (by k_asm) ⟨rfl, rfl, trivial⟩
theorem wd_C12_1 : True := by
  k_with "call ref" => (k_here; (show wpAny _ _ (PySem.call (Value.ref 203) [_]) _ _ _); (refine' Spec.call0 (need_utf8_spec _) ?B ?F ?X ?N ?T rfl rfl rfl rfl ?hd ?hu ?P ?W ?_ (fun h => h.elim)); (case F => k_asm); (case N => k_asm); (case B => k_asm); (case X => k_asm); (case T => k_asm); (case hd => first | exact room_d (j := 1) hd (by decide) | exact room_d (j := 2) hd (by decide) | exact room_d (j := 3) hd (by decide) | (simp only [ar_depth, ar_units, depth_deeper, depth_mark, depth_under_make, depth_under_kw, depth_in1, units_deeper, units_in1, units_under_make, Around.mark_units]; omega)); (case hu => first | exact room_u (j := 0) hu (by decide) | exact room_u (j := 1) hu (by decide) | exact room_u (j := 2) hu (by decide) | exact room_u (j := 3) hu (by decide) | (simp only [ar_depth, ar_units, depth_deeper, depth_mark, depth_under_make, depth_under_kw, depth_in1, units_deeper, units_in1, units_under_make, Around.mark_units]; omega)); (case P => ktr_unf); (case W => tb_start); ((intro  h' tk' hP' F' N' l1 l2; (dsimp only [List.cons_append, List.nil_append] at N'); clear l1 l2; clear hP'; (try k_sweep); (try dsimp only))))
  k_with "call ref" => (k_here; (show wpAny _ _ (PySem.call (Value.ref 203) [_]) _ _ _); (refine' Spec.call0 (need_latin_spec _) ?B ?F ?X ?N ?T rfl rfl rfl rfl ?hd ?hu ?P ?W ?_ (fun h => h.elim)); (case F => k_asm); (case N => k_asm); (case B => k_asm); (case X => k_asm); (case T => k_asm); (case hd => first | exact room_d (j := 1) hd (by decide) | exact room_d (j := 2) hd (by decide) | exact room_d (j := 3) hd (by decide) | (simp only [ar_depth, ar_units, depth_deeper, depth_mark, depth_under_make, depth_under_kw, depth_in1, units_deeper, units_in1, units_under_make, Around.mark_units]; omega)); (case hu => first | exact room_u (j := 0) hu (by decide) | exact room_u (j := 1) hu (by decide) | exact room_u (j := 2) hu (by decide) | exact room_u (j := 3) hu (by decide) | (simp only [ar_depth, ar_units, depth_deeper, depth_mark, depth_under_make, depth_under_kw, depth_in1, units_deeper, units_in1, units_under_make, Around.mark_units]; omega)); (case P => ktr_unf); (case W => tb_start); ((intro  h' tk' hP' F' N' l1 l2; (dsimp only [List.cons_append, List.nil_append] at N'); clear l1 l2; clear hP'; (try k_sweep); (try dsimp only))))
  k_with "subscriptTail Name Name bytes int" => (k_here; (show wpAny _ _ (subscriptTail _ _ (Value.bytes _ _) (Value.int _ _)) _ _ _); refine item_b (hs := by with_unfolding_all rfl) (ht := by intro _; with_unfolding_all rfl) (by first | assumption | omega) (by first | assumption | omega) (by omega) ?_; intro _ _)
  trivial
noncomputable abbrev oct (b : Array UInt8) (a : Int) : Int := ((b.getD a.toNat 0).toNat : Int)
theorem utf8_sign_spec (b : Array UInt8) (tb : Nat) (a : Int) (t : Nat) (hb : b.size ≤ 4000) (h0 : 0 ≤ a) (h1 : a < (b.size : Int)) (h7 : oct b a < 128) : Spec prog w (kf w.params) p loose mean mg mb 229 ⟨[.bytes b tb, .int a t], []⟩ 2 []
    (P4 (fun D _ _ _ => .ref D) (fun D n t1 t2 => [(D, tupO [.int (oct b a) t1, .int 1 t2] n)]) (fun _ _ _ _ => True)) False := by
  refine' spec_of3 (rb := [("at", .int a t), ("octets", .bytes b tb)]) ?k1 ?k2 ?k3 ?k4 ?k5 ?k6 ?k7 ?k8 ?k9 ?_
  case k1 => k_is
  case k2 => k_is
  case k3 => first | exact fun s Xs => BindsTo.of_eq rfl | exact fun s Xs => binds_K Xs rfl (by k_is) rfl rfl rfl
  case k4 => exact locs rfl
  case k5 => exact rfl
  case k6 => exact rfl
  case k7 => exact rfl
  case k8 => decide
  case k9 => decide
  intro dp un gd envs base g L' h₁ gens drawn tk os R B F N X T lt hd hu ret exc eE aA
  k_fold
  (try k_lt lt)
  (try dsimp only)
  k_steps
  all_goals exact ret _ _ _ _ _ _ (by k_asm) (by k_asm) ⟨_, _, _, _, rfl, rfl, trivial⟩
theorem wd_C12_2 : True := by
  k_with "call ref" => (k_here; (show wpAny _ _ (PySem.call (Value.ref 229) [_, _]) _ _ _); (refine' Spec.call4 (utf8_sign_spec _ _ _ _ (by assumption) (by assumption) (by assumption) (by assumption)) ?B ?F ?X ?N ?T rfl rfl rfl rfl ?hd ?hu ?P ?W ?_ (fun h => h.elim)); (case F => k_asm); (case N => k_asm); (case B => k_asm); (case X => k_asm); (case T => k_asm); (case hd => first | exact room_d (j := 1) hd (by decide) | exact room_d (j := 2) hd (by decide) | exact room_d (j := 3) hd (by decide) | (simp only [ar_depth, ar_units, depth_deeper, depth_mark, depth_under_make, depth_under_kw, depth_in1, units_deeper, units_in1, units_under_make, Around.mark_units]; omega)); (case hu => first | exact room_u (j := 0) hu (by decide) | exact room_u (j := 1) hu (by decide) | exact room_u (j := 2) hu (by decide) | exact room_u (j := 3) hu (by decide) | (simp only [ar_depth, ar_units, depth_deeper, depth_mark, depth_under_make, depth_under_kw, depth_in1, units_deeper, units_in1, units_under_make, Around.mark_units]; omega)); (case P => ktr_unf); (case W => tb_start); ((intro Du' nu' tu1' tu2' h' tk' hP' F' N' l1 l2; (dsimp only [List.cons_append, List.nil_append] at N'); (simp only [AllLt, and_true] at l1); (simp only [Apart, ApartOne, and_true] at l2); clear hP'; (try k_sweep); (try dsimp only))))
  trivial
theorem sign_at_spec (b : Array UInt8) (tc tb : Nat) (a : Int) (t : Nat) (hb : b.size ≤ 4000) (h0 : 0 ≤ a) (h1 : a < (b.size : Int)) (h7 : oct b a < 128) : Spec prog w (kf w.params) p loose mean mg mb 236 ⟨[.str utf8S tc, .bytes b tb, .int a t], []⟩ 4 []
    (P4 (fun D _ _ _ => .ref D) (fun D n t1 t2 => [(D, tupO [.int (oct b a) t1, .int 1 t2] n)]) (fun _ _ _ _ => True)) False := by
  refine' spec_of3 (rb := [("at", .int a t), ("octets", .bytes b tb), ("charset", .str utf8S tc)]) ?k1 ?k2 ?k3 ?k4 ?k5 ?k6 ?k7 ?k8 ?k9 ?_
  case k1 => k_is
  case k2 => k_is
  case k3 => first | exact fun s Xs => BindsTo.of_eq rfl | exact fun s Xs => binds_K Xs rfl (by k_is) rfl rfl rfl
  case k4 => exact locs rfl
  case k5 => exact rfl
  case k6 => exact rfl
  case k7 => exact rfl
  case k8 => decide
  case k9 => decide
  intro dp un gd envs base g L' h₁ gens drawn tk os R B F N X T lt hd hu ret exc eE aA
  k_fold
  (try k_lt lt)
  (try dsimp only)
  k_steps
  all_goals exact ret _ _ _ _ _ _ (by k_asm) (by k_asm) ⟨_, _, _, _, rfl, rfl, trivial⟩
theorem wd_C12_3 : True := by
  k_with "call ref" => (k_here; (show wpAny _ _ (PySem.call (Value.ref 236) [_, _, _]) _ _ _); (refine' Spec.call4 (sign_at_spec _ _ _ _ _ (by first | assumption | decide) (by first | assumption | omega) (by first | assumption | omega | decide) (by first | assumption | exact oct_lt (by assumption) (by first | assumption | omega) (by first | assumption | omega) | decide)) ?B ?F ?X ?N ?T rfl rfl rfl rfl ?hd ?hu ?P ?W ?_ (fun h => h.elim)); (case F => k_asm); (case N => k_asm); (case B => k_asm); (case X => k_asm); (case T => k_asm); (case hd => first | exact room_d (j := 1) hd (by decide) | exact room_d (j := 2) hd (by decide) | exact room_d (j := 3) hd (by decide) | (simp only [ar_depth, ar_units, depth_deeper, depth_mark, depth_under_make, depth_under_kw, depth_in1, units_deeper, units_in1, units_under_make, Around.mark_units]; omega)); (case hu => first | exact room_u (j := 0) hu (by decide) | exact room_u (j := 1) hu (by decide) | exact room_u (j := 2) hu (by decide) | exact room_u (j := 3) hu (by decide) | (simp only [ar_depth, ar_units, depth_deeper, depth_mark, depth_under_make, depth_under_kw, depth_in1, units_deeper, units_in1, units_under_make, Around.mark_units]; omega)); (case P => ktr_unf); (case W => tb_start); ((intro Du' nu' tu1' tu2' h' tk' hP' F' N' l1 l2; (dsimp only [List.cons_append, List.nil_append] at N'); (simp only [AllLt, and_true] at l1); (simp only [Apart, ApartOne, and_true] at l2); clear hP'; (try k_sweep); (try dsimp only))))
  trivial
theorem oct_lt {b : Array UInt8} {a : Int} {k : Nat} (h : ∀ c ∈ b.toList, c.toNat < k) (h0 : 0 ≤ a) (h1 : a < (b.size : Int)) : oct b a < (k : Int) := by
  have hl : a.toNat < b.size := by omega
  have e : b.getD a.toNat 0 = b[a.toNat] := by simp [Array.getD, hl]
  unfold oct
  rw [e]
  have := h _ (Array.getElem_mem_toList hl)
  omega
theorem oct_nn {b : Array UInt8} {a : Int} : 0 ≤ oct b a := by unfold oct; omega
theorem chars_snoc {b : Array UInt8} {a : Int} (h0 : 0 ≤ a) (h1 : a < (b.size : Int)) : ((b.toList.take (a + 1).toNat).map fun c : UInt8 => (⟨#[c.toNat]⟩ : Str)) = ((b.toList.take a.toNat).map fun c : UInt8 => (⟨#[c.toNat]⟩ : Str)) ++ [⟨#[(oct b a).toNat]⟩] := by
  rw [show (a + 1).toNat = a.toNat + 1 by omega, List.take_add_one, List.map_append]
  congr 1
  have hl : a.toNat < b.size := by omega
  simp [oct, Array.getD, hl]
theorem strs_snoc {vs : List Value} {ss : List Str} (h : StrsAre vs ss) (x : Str) (t : Tok) : StrsAre (vs ++ [.str x t]) (ss ++ [x]) := by
  induction h with
  | nil => exact .cons x t .nil
  | cons c u _ ih => exact .cons c u ih
structure TSt where
  vs : List Value
  n : Nat
  a : Int
  ta : Nat
theorem wd_C12_4 : True := by
  k_with "call builtin:list.append" => (k_here; (with_reducible show wpAny _ _ (PySem.call (Value.builtin _) [Value.ref _, Value.str _ _]) _ _ _); (refine' append_K ?k1 ?k2 ?k3 ?_ ?z; (case k1 => k_asm); (case k2 => k_asm); (case k3 => k_upd); (case z => ((rw [List.size_toArray, sizeLine_eq]); (have hLB := StrsAre.length (by assumption)); (simp only [List.length_map, List.length_take, Array.length_toList] at hLB); omega)); k_whole); intro h' F' N'; (try k_sweep))
  trivial
theorem strict_spec (b : Array UInt8) (tc tb : Nat) (hb : b.size ≤ 4000) (h7 : ∀ c ∈ b.toList, c.toNat < 128) : Spec prog w (kf w.params) p loose mean mg mb 250 ⟨[.str utf8S tc, .bytes b tb], []⟩ 6 []
    (P1 (fun t => .str (strB b.toList) t) (fun _ => []) (fun _ => True)) False := by
  refine' spec_of3 (rb := [("octets", .bytes b tb), ("charset", .str utf8S tc)]) ?k1 ?k2 ?k3 ?k4 ?k5 ?k6 ?k7 ?k8 ?k9 ?_
  case k1 => k_is
  case k2 => k_is
  case k3 => first | exact fun s Xs => BindsTo.of_eq rfl | exact fun s Xs => binds_K Xs rfl (by k_is) rfl rfl rfl
  case k4 => exact locs rfl
  case k5 => exact rfl
  case k6 => exact rfl
  case k7 => exact rfl
  case k8 => decide
  case k9 => decide
  intro dp un gd envs base g L' h₁ gens drawn tk os R B F N X T lt hd hu ret exc eE aA
  k_fold
  (try k_lt lt)
  (try dsimp only)
  have hmk0 : StopAt 0 := .here
  k_steps
  unfold StopHere
  rename Fr _ _ _ _ => F9
  rename News _ _ _ _ => N9
  rename_i P _ _ _ _
  obtain ⟨ta0, ha0⟩ := at_name F9 (x := "at") (fun t => .int 0 t) ⟨_, rfl⟩
  refine' ksw_while (σ := TSt) (fun c => [(P, listOf c.vs.toArray c.n)]) (fun c => [("at", .int c.a c.ta)]) (fun c => StrsAre c.vs ((b.toList.take c.a.toNat).map fun c : UInt8 => (⟨#[c.toNat]⟩ : Str)) ∧ 0 ≤ c.a ∧ c.a ≤ (b.size : Int)) ["code", "length"]
    (fun _ => True) (fun c => b.size + 1 - c.a.toNat) ⟨[], 0, 0, ta0⟩ F9 N9 ?cwF ?cwK ?cwP ?cwT
  case cwF => exact ⟨.nil, Int.le_refl _, by dsimp only; omega⟩
  case cwK => exact List.forall_mem_cons.mpr ⟨ha0, List.forall_mem_nil _⟩
  case cwP => trivial
  case cwT =>
    intro c u h tk9 hF hP F N
    first | ((have hS := And.left hF); (have ha := And.left (And.right hF)); (have hle := (And.right (And.right hF))); clear hF) | obtain ⟨hS, ha, hle⟩ := hF
    clear F9 N9 ha0 hP
    (try k_fold)
    have hc8 : oct b c.a < 256 := u8_lti _
    have hc0 : 0 ≤ oct b c.a := oct_nn
    k_steps
    · unfold StopHere
      ((rename News _ _ _ _ => nE'); (try simp only [List.push_toArray] at nE'); (refine' ksw_end ⟨_, _, _, _⟩ (by assumption) nE' ?e1 ?_ ?e3 ?e4 ?_ ?_); (case e1 => ktr_unf); (case e3 => kst_all); (case e4 => (intro z h2 h3; (simp only [List.forall_mem_cons, List.not_mem_nil, false_implies, implies_true, and_true, ne_eq] at h2); (simp only [List.contains_cons, List.contains_nil, Bool.or_false, Bool.or_eq_false_iff, beq_eq_false_iff_ne, ne_eq] at h3); simp [kstB, h2, h3])))
      · refine ⟨?_, by dsimp only; omega, by dsimp only; omega⟩
        rw [chars_snoc ha (by assumption)]
        exact strs_snoc hS _ _
      · trivial
      · dsimp only; omega
    · refine join_of (by assumption) (.head _) hS (by rw [sum_one (fun c : UInt8 => c.toNat), List.length_take, Array.length_toList]; omega) ?_
      intro t3 k3
      rw [glue_chars (fun c : UInt8 => c.toNat), show c.a.toNat = b.size by omega, show b.toList.take b.size = b.toList from List.take_of_length_le (by rw [Array.length_toList]; exact Nat.le_refl _)]
      k_steps
      exact ret _ _ _ _ _ _ (by k_asm) (News.nil) ⟨_, rfl, rfl, trivial⟩
theorem wd_C12_5 : True := by
  k_with "call ref" => (k_here; (show wpAny _ _ (PySem.call (Value.ref 250) [_, _]) _ _ _); (refine' Spec.call1 (strict_spec _ _ _ (by assumption) (by assumption)) ?B ?F ?X ?N ?T rfl rfl rfl rfl ?hd ?hu ?P ?W ?_ (fun h => h.elim)); (case F => k_asm); (case N => k_asm); (case B => k_asm); (case X => k_asm); (case T => k_asm); (case hd => first | exact room_d (j := 1) hd (by decide) | exact room_d (j := 2) hd (by decide) | exact room_d (j := 3) hd (by decide) | (simp only [ar_depth, ar_units, depth_deeper, depth_mark, depth_under_make, depth_under_kw, depth_in1, units_deeper, units_in1, units_under_make, Around.mark_units]; omega)); (case hu => first | exact room_u (j := 0) hu (by decide) | exact room_u (j := 1) hu (by decide) | exact room_u (j := 2) hu (by decide) | exact room_u (j := 3) hu (by decide) | (simp only [ar_depth, ar_units, depth_deeper, depth_mark, depth_under_make, depth_under_kw, depth_in1, units_deeper, units_in1, units_under_make, Around.mark_units]; omega)); (case P => ktr_unf); (case W => tb_start); ((intro tg' h' tk' hP' F' N' l1 l2; (dsimp only [List.cons_append, List.nil_append] at N'); clear l1 l2; clear hP'; (try k_sweep); (try dsimp only))))
  trivial
end PC12
end JC12
section JC13
open PySem PySem.W PyProof.Rows PySem.Calls
section PC13
variable {prog : Program} {w : World} {p : Program} {loose : List Str} {mean : ExcName → Option Value} {mg mb : Str → Option Value}
set_option maxRecDepth 100000
set_option maxHeartbeats 4000000
theorem guessed_spec (b : Array UInt8) (tb : Nat) (hb : b.size ≤ 4000) (h7 : ∀ c ∈ b.toList, c.toNat < 128) : Spec prog w (kf w.params) p loose mean mg mb 257 ⟨[.bytes b tb], []⟩ 8 []
    (P1 (fun t => .str (strB b.toList) t) (fun _ => []) (fun _ => True)) False := by
  refine' spec_of3 (rb := [("octets", .bytes b tb)]) ?k1 ?k2 ?k3 ?k4 ?k5 ?k6 ?k7 ?k8 ?k9 ?_
  case k1 => k_is
  case k2 => k_is
  case k3 => first | exact fun s Xs => BindsTo.of_eq rfl | exact fun s Xs => binds_K Xs rfl (by k_is) rfl rfl rfl
  case k4 => exact locs rfl
  case k5 => exact rfl
  case k6 => exact rfl
  case k7 => exact rfl
  case k8 => decide
  case k9 => decide
  intro dp un gd envs base g L' h₁ gens drawn tk os R B F N X T lt hd hu ret exc eE aA
  k_fold
  (try k_lt lt)
  (try dsimp only)
  k_steps
  all_goals exact ret _ _ _ _ _ _ (by k_asm) (by k_asm) ⟨_, rfl, rfl, trivial⟩
theorem wd_C13_0 : True := by
  k_with "call ref" => (k_here; (show wpAny _ _ (PySem.call (Value.ref 257) [_]) _ _ _); (refine' Spec.call1 (guessed_spec _ _ (by first | assumption | decide) (by first | assumption | (simp; done) | decide)) ?B ?F ?X ?N ?T rfl rfl rfl rfl ?hd ?hu ?P ?W ?_ (fun h => h.elim)); (case F => k_asm); (case N => k_asm); (case B => k_asm); (case X => k_asm); (case T => k_asm); (case hd => first | exact room_d (j := 1) hd (by decide) | exact room_d (j := 2) hd (by decide) | exact room_d (j := 3) hd (by decide) | (simp only [ar_depth, ar_units, depth_deeper, depth_mark, depth_under_make, depth_under_kw, depth_in1, units_deeper, units_in1, units_under_make, Around.mark_units]; omega)); (case hu => first | exact room_u (j := 0) hu (by decide) | exact room_u (j := 1) hu (by decide) | exact room_u (j := 2) hu (by decide) | exact room_u (j := 3) hu (by decide) | (simp only [ar_depth, ar_units, depth_deeper, depth_mark, depth_under_make, depth_under_kw, depth_in1, units_deeper, units_in1, units_under_make, Around.mark_units]; omega)); (case P => ktr_unf); (case W => tb_start); ((intro tg' h' tk' hP' F' N' l1 l2; (dsimp only [List.cons_append, List.nil_append] at N'); clear l1 l2; clear hP'; (try k_sweep); (try dsimp only))))
  trivial
/-- the latin octet and the utf-8 octets of the law -/
noncomputable abbrev e9 : Array UInt8 := #[233]
noncomputable abbrev c3 : Array UInt8 := #[195, 169, 32]
theorem span_spec (t : Nat) : Spec prog w (kf w.params) p loose mean mg mb 222 ⟨[.int 195 t], []⟩ 2 []
    (P5 (fun D _ _ _ _ => .ref D) (fun D n t1 t2 t3 => [(D, tupO [.int 128 t1, .int 191 t2, .int 1 t3] n)]) (fun _ _ _ _ _ => True)) False := by
  refine' spec_of3 (rb := [("lead", .int 195 t)]) ?k1 ?k2 ?k3 ?k4 ?k5 ?k6 ?k7 ?k8 ?k9 ?_
  case k1 => k_is
  case k2 => k_is
  case k3 => first | exact fun s Xs => BindsTo.of_eq rfl | exact fun s Xs => binds_K Xs rfl (by k_is) rfl rfl rfl
  case k4 => exact locs rfl
  case k5 => exact rfl
  case k6 => exact rfl
  case k7 => exact rfl
  case k8 => decide
  case k9 => decide
  intro dp un gd envs base g L' h₁ gens drawn tk os R B F N X T lt hd hu ret exc eE aA
  k_fold
  (try k_lt lt)
  (try dsimp only)
  k_steps
  all_goals exact ret _ _ _ _ _ _ (by k_asm) (by k_asm) ⟨_, _, _, _, _, rfl, rfl, trivial⟩
theorem wd_C13_1 : True := by
  k_with "call ref" => (k_here; (show wpAny _ _ (PySem.call (Value.ref 222) [_]) _ _ _); (refine' Spec.call5 (span_spec _) ?B ?F ?X ?N ?T rfl rfl rfl rfl ?hd ?hu ?P ?W ?_ (fun h => h.elim)); (case F => k_asm); (case N => k_asm); (case B => k_asm); (case X => k_asm); (case T => k_asm); (case hd => first | exact room_d (j := 1) hd (by decide) | exact room_d (j := 2) hd (by decide) | exact room_d (j := 3) hd (by decide) | (simp only [ar_depth, ar_units, depth_deeper, depth_mark, depth_under_make, depth_under_kw, depth_in1, units_deeper, units_in1, units_under_make, Around.mark_units]; omega)); (case hu => first | exact room_u (j := 0) hu (by decide) | exact room_u (j := 1) hu (by decide) | exact room_u (j := 2) hu (by decide) | exact room_u (j := 3) hu (by decide) | (simp only [ar_depth, ar_units, depth_deeper, depth_mark, depth_under_make, depth_under_kw, depth_in1, units_deeper, units_in1, units_under_make, Around.mark_units]; omega)); (case P => ktr_unf); (case W => tb_start); ((intro Ds' ns' ts1' ts2' ts3' h' tk' hP' F' N' l1 l2; (dsimp only [List.cons_append, List.nil_append] at N'); (simp only [AllLt, and_true] at l1); (simp only [Apart, ApartOne, and_true] at l2); clear hP'; (try k_sweep); (try dsimp only))))
  trivial
theorem utf8_c3_spec (tb t : Nat) : Spec prog w (kf w.params) p loose mean mg mb 229 ⟨[.bytes c3 tb, .int 0 t], []⟩ 4 []
    (P4 (fun D _ _ _ => .ref D) (fun D n t1 t2 => [(D, tupO [.int 233 t1, .int 2 t2] n)]) (fun _ _ _ _ => True)) False := by
  refine' spec_of3 (rb := [("at", .int 0 t), ("octets", .bytes c3 tb)]) ?k1 ?k2 ?k3 ?k4 ?k5 ?k6 ?k7 ?k8 ?k9 ?_
  case k1 => k_is
  case k2 => k_is
  case k3 => first | exact fun s Xs => BindsTo.of_eq rfl | exact fun s Xs => binds_K Xs rfl (by k_is) rfl rfl rfl
  case k4 => exact locs rfl
  case k5 => exact rfl
  case k6 => exact rfl
  case k7 => exact rfl
  case k8 => decide
  case k9 => decide
  intro dp un gd envs base g L' h₁ gens drawn tk os R B F N X T lt hd hu ret exc eE aA
  k_fold
  (try k_lt lt)
  (try dsimp only)
  k_steps
  unfold qk
  dsimp only
  refine ret _ [(_, tupO [.int 233 _, .int 2 _] 0)] _ _ _ _ (by k_asm) (news_mono (by k_asm) (List.forall_mem_cons.mpr ⟨by with_unfolding_all exact .head _, List.forall_mem_nil _⟩)) ⟨_, _, _, _, rfl, rfl, trivial⟩
theorem wd_C13_2 : True := by
  k_with "call ref" => (k_here; (show wpAny _ _ (PySem.call (Value.ref 229) [_, _]) _ _ _); (refine' Spec.call4 (utf8_c3_spec _ _) ?B ?F ?X ?N ?T rfl rfl rfl rfl ?hd ?hu ?P ?W ?_ (fun h => h.elim)); (case F => k_asm); (case N => k_asm); (case B => k_asm); (case X => k_asm); (case T => k_asm); (case hd => first | exact room_d (j := 1) hd (by decide) | exact room_d (j := 2) hd (by decide) | exact room_d (j := 3) hd (by decide) | (simp only [ar_depth, ar_units, depth_deeper, depth_mark, depth_under_make, depth_under_kw, depth_in1, units_deeper, units_in1, units_under_make, Around.mark_units]; omega)); (case hu => first | exact room_u (j := 0) hu (by decide) | exact room_u (j := 1) hu (by decide) | exact room_u (j := 2) hu (by decide) | exact room_u (j := 3) hu (by decide) | (simp only [ar_depth, ar_units, depth_deeper, depth_mark, depth_under_make, depth_under_kw, depth_in1, units_deeper, units_in1, units_under_make, Around.mark_units]; omega)); (case P => ktr_unf); (case W => tb_start); ((intro Du' nu' tu1' tu2' h' tk' hP' F' N' l1 l2; (dsimp only [List.cons_append, List.nil_append] at N'); (simp only [AllLt, and_true] at l1); (simp only [Apart, ApartOne, and_true] at l2); clear hP'; (try k_sweep); (try dsimp only))))
  trivial
theorem sign_c3_spec (tc tb t : Nat) : Spec prog w (kf w.params) p loose mean mg mb 236 ⟨[.str utf8S tc, .bytes c3 tb, .int 0 t], []⟩ 6 []
    (P4 (fun D _ _ _ => .ref D) (fun D n t1 t2 => [(D, tupO [.int 233 t1, .int 2 t2] n)]) (fun _ _ _ _ => True)) False := by
  refine' spec_of3 (rb := [("at", .int 0 t), ("octets", .bytes c3 tb), ("charset", .str utf8S tc)]) ?k1 ?k2 ?k3 ?k4 ?k5 ?k6 ?k7 ?k8 ?k9 ?_
  case k1 => k_is
  case k2 => k_is
  case k3 => first | exact fun s Xs => BindsTo.of_eq rfl | exact fun s Xs => binds_K Xs rfl (by k_is) rfl rfl rfl
  case k4 => exact locs rfl
  case k5 => exact rfl
  case k6 => exact rfl
  case k7 => exact rfl
  case k8 => decide
  case k9 => decide
  intro dp un gd envs base g L' h₁ gens drawn tk os R B F N X T lt hd hu ret exc eE aA
  k_fold
  (try k_lt lt)
  (try dsimp only)
  k_steps
  all_goals exact ret _ _ _ _ _ _ (by k_asm) (by k_asm) ⟨_, _, _, _, rfl, rfl, trivial⟩
theorem wd_C13_3 : True := by
  k_with "call ref" => (k_here; (show wpAny _ _ (PySem.call (Value.ref 236) [_, _, _]) _ _ _); (refine' Spec.call4 (sign_c3_spec _ _ _) ?B ?F ?X ?N ?T rfl rfl rfl rfl ?hd ?hu ?P ?W ?_ (fun h => h.elim)); (case F => k_asm); (case N => k_asm); (case B => k_asm); (case X => k_asm); (case T => k_asm); (case hd => first | exact room_d (j := 1) hd (by decide) | exact room_d (j := 2) hd (by decide) | exact room_d (j := 3) hd (by decide) | (simp only [ar_depth, ar_units, depth_deeper, depth_mark, depth_under_make, depth_under_kw, depth_in1, units_deeper, units_in1, units_under_make, Around.mark_units]; omega)); (case hu => first | exact room_u (j := 0) hu (by decide) | exact room_u (j := 1) hu (by decide) | exact room_u (j := 2) hu (by decide) | exact room_u (j := 3) hu (by decide) | (simp only [ar_depth, ar_units, depth_deeper, depth_mark, depth_under_make, depth_under_kw, depth_in1, units_deeper, units_in1, units_under_make, Around.mark_units]; omega)); (case P => ktr_unf); (case W => tb_start); ((intro Du' nu' tu1' tu2' h' tk' hP' F' N' l1 l2; (dsimp only [List.cons_append, List.nil_append] at N'); (simp only [AllLt, and_true] at l1); (simp only [Apart, ApartOne, and_true] at l2); clear hP'; (try k_sweep); (try dsimp only))))
  trivial
theorem sign_latin_spec (b : Array UInt8) (tc tb : Nat) (a : Int) (t : Nat) (hb : b.size ≤ 4000) (h0 : 0 ≤ a) (h1 : a < (b.size : Int)) : Spec prog w (kf w.params) p loose mean mg mb 236 ⟨[.str latinS tc, .bytes b tb, .int a t], []⟩ 2 []
    (P4 (fun D _ _ _ => .ref D) (fun D n t1 t2 => [(D, tupO [.int (oct b a) t1, .int 1 t2] n)]) (fun _ _ _ _ => True)) False := by
  refine' spec_of3 (rb := [("at", .int a t), ("octets", .bytes b tb), ("charset", .str latinS tc)]) ?k1 ?k2 ?k3 ?k4 ?k5 ?k6 ?k7 ?k8 ?k9 ?_
  case k1 => k_is
  case k2 => k_is
  case k3 => first | exact fun s Xs => BindsTo.of_eq rfl | exact fun s Xs => binds_K Xs rfl (by k_is) rfl rfl rfl
  case k4 => exact locs rfl
  case k5 => exact rfl
  case k6 => exact rfl
  case k7 => exact rfl
  case k8 => decide
  case k9 => decide
  intro dp un gd envs base g L' h₁ gens drawn tk os R B F N X T lt hd hu ret exc eE aA
  k_fold
  (try k_lt lt)
  (try dsimp only)
  k_steps
  all_goals exact ret _ _ _ _ _ _ (by k_asm) (by k_asm) ⟨_, _, _, _, rfl, rfl, trivial⟩
theorem wd_C13_4 : True := by
  k_with "call ref" => (k_here; (show wpAny _ _ (PySem.call (Value.ref 236) [_, _, _]) _ _ _); (refine' Spec.call4 (sign_latin_spec _ _ _ _ _ (by decide) (by decide) (by decide)) ?B ?F ?X ?N ?T rfl rfl rfl rfl ?hd ?hu ?P ?W ?_ (fun h => h.elim)); (case F => k_asm); (case N => k_asm); (case B => k_asm); (case X => k_asm); (case T => k_asm); (case hd => first | exact room_d (j := 1) hd (by decide) | exact room_d (j := 2) hd (by decide) | exact room_d (j := 3) hd (by decide) | (simp only [ar_depth, ar_units, depth_deeper, depth_mark, depth_under_make, depth_under_kw, depth_in1, units_deeper, units_in1, units_under_make, Around.mark_units]; omega)); (case hu => first | exact room_u (j := 0) hu (by decide) | exact room_u (j := 1) hu (by decide) | exact room_u (j := 2) hu (by decide) | exact room_u (j := 3) hu (by decide) | (simp only [ar_depth, ar_units, depth_deeper, depth_mark, depth_under_make, depth_under_kw, depth_in1, units_deeper, units_in1, units_under_make, Around.mark_units]; omega)); (case P => ktr_unf); (case W => tb_start); ((intro Du' nu' tu1' tu2' h' tk' hP' F' N' l1 l2; (dsimp only [List.cons_append, List.nil_append] at N'); (simp only [AllLt, and_true] at l1); (simp only [Apart, ApartOne, and_true] at l2); clear hP'; (try k_sweep); (try dsimp only))))
  trivial
theorem text_latin_spec (tc tb : Nat) : Spec prog w (kf w.params) p loose mean mg mb 243 ⟨[.str latinS tc, .bytes e9 tb], []⟩ 4 []
    (P1 (fun t => .str ⟨#[233]⟩ t) (fun _ => []) (fun _ => True)) False := by
  refine' spec_of3 (rb := [("octets", .bytes e9 tb), ("charset", .str latinS tc)]) ?k1 ?k2 ?k3 ?k4 ?k5 ?k6 ?k7 ?k8 ?k9 ?_
  case k1 => k_is
  case k2 => k_is
  case k3 => first | exact fun s Xs => BindsTo.of_eq rfl | exact fun s Xs => binds_K Xs rfl (by k_is) rfl rfl rfl
  case k4 => exact locs rfl
  case k5 => exact rfl
  case k6 => exact rfl
  case k7 => exact rfl
  case k8 => decide
  case k9 => decide
  intro dp un gd envs base g L' h₁ gens drawn tk os R B F N X T lt hd hu ret exc eE aA
  k_fold
  (try k_lt lt)
  (try dsimp only)
  k_steps
  exact ret _ _ _ _ _ _ (by k_asm) (News.nil) ⟨_, congrArg (fun z => Value.str z _) (by kernel_rfl), rfl, trivial⟩
theorem text_utf_spec (tc tb : Nat) : Spec prog w (kf w.params) p loose mean mg mb 243 ⟨[.str utf8S tc, .bytes c3 tb], []⟩ 8 []
    (P1 (fun t => .str ⟨#[233, 32]⟩ t) (fun _ => []) (fun _ => True)) False := by
  refine' spec_of3 (rb := [("octets", .bytes c3 tb), ("charset", .str utf8S tc)]) ?k1 ?k2 ?k3 ?k4 ?k5 ?k6 ?k7 ?k8 ?k9 ?_
  case k1 => k_is
  case k2 => k_is
  case k3 => first | exact fun s Xs => BindsTo.of_eq rfl | exact fun s Xs => binds_K Xs rfl (by k_is) rfl rfl rfl
  case k4 => exact locs rfl
  case k5 => exact rfl
  case k6 => exact rfl
  case k7 => exact rfl
  case k8 => decide
  case k9 => decide
  intro dp un gd envs base g L' h₁ gens drawn tk os R B F N X T lt hd hu ret exc eE aA
  k_fold
  (try k_lt lt)
  (try dsimp only)
  k_steps
  exact ret _ _ _ _ _ _ (by k_asm) (News.nil) ⟨_, congrArg (fun z => Value.str z _) (by kernel_rfl), rfl, trivial⟩
theorem wd_C13_5 : True := by
  k_with "call ref" => (k_here; (show wpAny _ _ (PySem.call (Value.ref 243) [_, _]) _ _ _); (refine' Spec.call1 (text_latin_spec _ _) ?B ?F ?X ?N ?T rfl rfl rfl rfl ?hd ?hu ?P ?W ?_ (fun h => h.elim)); (case F => k_asm); (case N => k_asm); (case B => k_asm); (case X => k_asm); (case T => k_asm); (case hd => first | exact room_d (j := 1) hd (by decide) | exact room_d (j := 2) hd (by decide) | exact room_d (j := 3) hd (by decide) | (simp only [ar_depth, ar_units, depth_deeper, depth_mark, depth_under_make, depth_under_kw, depth_in1, units_deeper, units_in1, units_under_make, Around.mark_units]; omega)); (case hu => first | exact room_u (j := 0) hu (by decide) | exact room_u (j := 1) hu (by decide) | exact room_u (j := 2) hu (by decide) | exact room_u (j := 3) hu (by decide) | (simp only [ar_depth, ar_units, depth_deeper, depth_mark, depth_under_make, depth_under_kw, depth_in1, units_deeper, units_in1, units_under_make, Around.mark_units]; omega)); (case P => ktr_unf); (case W => tb_start); ((intro tx' h' tk' hP' F' N' l1 l2; (dsimp only [List.cons_append, List.nil_append] at N'); clear l1 l2; clear hP'; (try k_sweep); (try dsimp only))))
  k_with "call ref" => (k_here; (show wpAny _ _ (PySem.call (Value.ref 243) [_, _]) _ _ _); (refine' Spec.call1 (text_utf_spec _ _) ?B ?F ?X ?N ?T rfl rfl rfl rfl ?hd ?hu ?P ?W ?_ (fun h => h.elim)); (case F => k_asm); (case N => k_asm); (case B => k_asm); (case X => k_asm); (case T => k_asm); (case hd => first | exact room_d (j := 1) hd (by decide) | exact room_d (j := 2) hd (by decide) | exact room_d (j := 3) hd (by decide) | (simp only [ar_depth, ar_units, depth_deeper, depth_mark, depth_under_make, depth_under_kw, depth_in1, units_deeper, units_in1, units_under_make, Around.mark_units]; omega)); (case hu => first | exact room_u (j := 0) hu (by decide) | exact room_u (j := 1) hu (by decide) | exact room_u (j := 2) hu (by decide) | exact room_u (j := 3) hu (by decide) | (simp only [ar_depth, ar_units, depth_deeper, depth_mark, depth_under_make, depth_under_kw, depth_in1, units_deeper, units_in1, units_under_make, Around.mark_units]; omega)); (case P => ktr_unf); (case W => tb_start); ((intro tx' h' tk' hP' F' N' l1 l2; (dsimp only [List.cons_append, List.nil_append] at N'); clear l1 l2; clear hP'; (try k_sweep); (try dsimp only))))
  trivial
end PC13
end JC13
section JRB4
open PySem PySem.W PyProof.Rows PySem.Calls Builtin
section PRB4
set_option maxRecDepth 100000
set_option maxHeartbeats 400000
open BM
noncomputable abbrev hexB : Array UInt8 := #[48, 49, 50, 51, 52, 53, 54, 55, 56, 57, 65, 66, 67, 68, 69, 70]
noncomputable def IdxIs (x : UInt8) (k : Int) : Prop := ∀ t u, «bytes.index» ⟨[.bytes hexB t, .int (x.toNat : Int) u], []⟩ = retInt k
theorem idx48 : IdxIs 48 0 := fun _ _ => by kernel_rfl
theorem idx50 : IdxIs 50 2 := fun _ _ => by kernel_rfl
theorem idx51 : IdxIs 51 3 := fun _ _ => by kernel_rfl
theorem idx57 : IdxIs 57 9 := fun _ _ => by kernel_rfl
theorem idx65 : IdxIs 65 10 := fun _ _ => by kernel_rfl
theorem idx67 : IdxIs 67 12 := fun _ _ => by kernel_rfl
theorem idx69 : IdxIs 69 14 := fun _ _ => by kernel_rfl
section
variable {prog : Program} {w : World} {A : Around} {E : Value → Shared → Prop} {s : Shared} {h₀ : Heap} {L : Addr} {m : Str → Option Value} {news : List (Addr × Obj)} {Q : Value → Shared → Prop} {t u v : Tok}
theorem meets_idx {x : UInt8} {k : Int} (h : IdxIs x k) (t u : Tok) : Meets («bytes.index» ⟨[.bytes hexB t, .int (x.toNat : Int) u], []⟩) (fun _ R s => ∀ t' n, R (.ok (.ret (.int k t'))) { s with toks := n }) := by
  refine .of_wp fun prog w A R s h' => ?_
  rw [h t u]
  exact wpAny_bind (wpAny_mkInt (wpAny_pure ⟨_, rfl, h' _ _⟩))
theorem idx_call {x : UInt8} {k : Int} (h : IdxIs x k) (q : ∀ t' n, Q (.int k t') { s with toks := n }) : wpAny (model prog w) A (PySem.call (.builtin "bytes.index") [.bytes hexB t, .int (x.toNat : Int) u]) Q E s :=
  call_meets slot_index (typeIs_bytes _ _ _) entry_index (args_index _ _) (meets_idx h t u) (fun t' n => q t' n)
end
/-- the texts of the law behind their stars -/
noncomputable abbrev cS : Array UInt8 := #[117, 116, 102, 45, 56, 39, 39, 37, 67, 51, 37, 65, 57, 37, 50, 48]
noncomputable abbrev cP : Array UInt8 := #[37, 67, 51, 37, 65, 57, 37, 50, 48]
noncomputable abbrev lS : Array UInt8 := #[73, 83, 79, 45, 56, 56, 53, 57, 45, 49, 39, 101, 110, 39, 37, 69, 57]
noncomputable abbrev lP : Array UInt8 := #[37, 69, 57]
noncomputable def SplitIs (b p q r : Array UInt8) : Prop := ∀ t u v, «bytes.split» ⟨[.bytes b t, .bytes #[39] u, .int 2 v], []⟩ = (do
    let a ← mkBytes p
    let b ← mkBytes q
    let c ← mkBytes r
    ret (← newList [a, b, c]))
theorem split_c : SplitIs cS #[117, 116, 102, 45, 56] #[] cP := fun _ _ _ => by kernel_rfl
theorem split_l : SplitIs lS #[73, 83, 79, 45, 56, 56, 53, 57, 45, 49] #[101, 110] lP := fun _ _ _ => by kernel_rfl
theorem mkB {M : Model} {A : Around} {E : Value → Shared → Prop} {s : Shared} {Q : Value → Shared → Prop} {b : Array UInt8} (hz : b.size ≤ 16777216) (h : ∀ t n, Q (.bytes b t) { s with toks := n }) : wpAny M A (mkBytes b) Q E s := by
  unfold mkBytes
  rw [if_neg (by rw [sizeLine_eq]; omega)]
  exact wpAny_bind (wpAny_fresh (wpAny_pure (h _ _)))
theorem meets_split {b p q r : Array UInt8} (h : SplitIs b p q r) (hz : p.size ≤ 1000 ∧ q.size ≤ 1000 ∧ r.size ≤ 1000) (t u v : Tok) : Meets («bytes.split» ⟨[.bytes b t, .bytes #[39] u, .int 2 v], []⟩)
    (fun _ R s => ∀ n t1 t2 t3, R (.ok (.ret (.ref s.heap.objs.size))) { s with heap := s.heap.push (listOf #[.bytes p t1, .bytes q t2, .bytes r t3] 0), toks := n }) := by
  refine .of_wp fun prog w A R s h' => ?_
  rw [h t u v]
  refine wpAny_bind (mkB (by omega) fun t1 n1 => wpAny_bind (mkB (by omega) fun t2 n2 => wpAny_bind (mkB (by omega) fun t3 n3 => wpAny_bind (wpAny_newList ?_ (by rw [sizeLine_eq]; simp)))))
  exact wpAny_pure ⟨_, rfl, h' n3 t1 t2 t3⟩
section
variable {prog : Program} {w : World} {A : Around} {E : Value → Shared → Prop} {s : Shared} {h₀ : Heap} {L : Addr} {m : Str → Option Value} {news : List (Addr × Obj)} {Q : Value → Shared → Prop} {t u v : Tok}
theorem split_call {b p q r : Array UInt8} (h : SplitIs b p q r) (hz : p.size ≤ 1000 ∧ q.size ≤ 1000 ∧ r.size ≤ 1000) (F : Fr h₀ L s.heap m) (N : News h₀ L s.heap news)
    (k : ∀ D h' n t1 t2 t3, Fr h₀ L h' m → News h₀ L h' ((D, listOf #[.bytes p t1, .bytes q t2, .bytes r t3] 0) :: news) → (∀ x ∈ news, x.1 < D) → Q (.ref D) { s with heap := h', toks := n }) :
    wpAny (model prog w) A (PySem.call (.builtin "bytes.split") [.bytes b t, .bytes #[39] u, .int 2 v]) Q E s :=
  call_meets slot_split (typeIs_bytes _ _ _) entry_split (args_split _ _ _) (meets_split h hz t u v) fun n t1 t2 t3 => k _ _ n t1 t2 t3 (F.push _) (N.push F _) fun x hx => Heap.lt_size (N x hx).1
end
end PRB4
end JRB4
section JC14
open PySem PySem.W PyProof.Rows PySem.Calls
section PC14
variable {prog : Program} {w : World} {p : Program} {loose : List Str} {mean : ExcName → Option Value} {mg mb : Str → Option Value}
set_option maxRecDepth 100000
set_option maxHeartbeats 4000000
theorem wd_C14_0 : True := by
  k_with "getMethod bytes" => (k_here; (show wpAny _ _ (getMethod (Value.bytes _ _) "index" _) _ _ _); refine BM.m_index ?_)
  k_with "getMethod bytes" => (k_here; (show wpAny _ _ (getMethod (Value.bytes _ _) "split" _) _ _ _); refine BM.m_split ?_)
  k_with "call builtin:bytes.index" => (k_here; refine idx_call (by assumption) ?_; intro _ _)
  trivial
section
variable {A : Around} {E : Value → Shared → Prop} {s : Shared} {value slice : PySem.Expr} {x y : UInt8} {t u : Tok} {Q : Value → Shared → Prop}
theorem item_0 (h : ∀ t' k, Q (.int (x.toNat : Int) t') { s with toks := k })
    (hs : subscripted slice false (.bytes #[x, y] t) (.int 0 u) = operate [.bytes #[x, y] t, .int 0 u] (getItem (.bytes #[x, y] t) (.int 0 u)))
    (ht : ∀ r, letTemporaryGo value (.bytes #[x, y] t) r = pure ()) :
    wpAny (model prog w) A (subscriptTail value slice (.bytes #[x, y] t) (.int 0 u)) Q E s := item_b (Int.le_refl _) (by show (0 : Int) < ((2 : Nat) : Int); decide) (by show 2 ≤ _; decide) h hs ht
theorem item_1 (h : ∀ t' k, Q (.int (y.toNat : Int) t') { s with toks := k })
    (hs : subscripted slice false (.bytes #[x, y] t) (.int 1 u) = operate [.bytes #[x, y] t, .int 1 u] (getItem (.bytes #[x, y] t) (.int 1 u)))
    (ht : ∀ r, letTemporaryGo value (.bytes #[x, y] t) r = pure ()) :
    wpAny (model prog w) A (subscriptTail value slice (.bytes #[x, y] t) (.int 1 u)) Q E s := item_b (by decide) (by show (1 : Int) < ((2 : Nat) : Int); decide) (by show 2 ≤ _; decide) h hs ht
theorem notin_hex (hx : hexB.contains x = true) (h : Q (.bool false) s) : wpAny (model prog w) A (compareOp .NotIn (.int (x.toNat : Int) u) (.bytes hexB t)) Q E s := by
  refine BM.notin_b (by omega) (u8_lti x) ?_
  have e : (x.toNat : Int).toNat.toUInt8 = x := by simp
  rw [e, hx]; exact h
end
theorem wd_C14_1 : True := by
  k_with "subscriptTail Name Constant bytes int" => (k_here; first | (refine item_0 (hs := by with_unfolding_all rfl) (ht := by intro _; with_unfolding_all rfl) ?_; intro _ _) | (refine item_1 (hs := by with_unfolding_all rfl) (ht := by intro _; with_unfolding_all rfl) ?_; intro _ _))
  k_with "compareOp NotIn int bytes" => (k_here; refine notin_hex (by assumption) ?_)
  trivial
theorem u8_in (l : List UInt8) : KBa.In (l.map fun c : UInt8 => (c.toNat : Int)) := by
  intro n hn
  obtain ⟨c, _, rfl⟩ := List.mem_map.mp hn
  exact ⟨by omega, u8_lti c⟩
theorem u8_arr (l : List UInt8) : byteArr (l.map fun c : UInt8 => (c.toNat : Int)) = l.toArray := by
  unfold byteArr
  rw [List.map_map]
  congr 1
  have : (fun x : Int => x.toNat.toUInt8) ∘ (fun c : UInt8 => (c.toNat : Int)) = id := by
    funext c
    simp
  rw [this, List.map_id]
theorem hex_spec (x y : UInt8) (i j : Int) (t : Nat) (hx : hexB.contains x = true) (hy : hexB.contains y = true) (nx : ¬ (97 ≤ (x.toNat : Int) ∧ (x.toNat : Int) ≤ 102)) (ny : ¬ (97 ≤ (y.toNat : Int) ∧ (y.toNat : Int) ≤ 102)) (ix : IdxIs x i) (iy : IdxIs y j)
    (hi : 0 ≤ i ∧ i < 16) (hj : 0 ≤ j ∧ j < 16) : Spec prog w (kf w.params) p loose mean mg mb 428 ⟨[.bytes #[x, y] t], []⟩ 2 []
    (P1 (fun t => .int (16 * i + j) t) (fun _ => []) (fun _ => True)) False := by
  refine' spec_of3 (rb := [("octets", .bytes #[x, y] t)]) ?k1 ?k2 ?k3 ?k4 ?k5 ?k6 ?k7 ?k8 ?k9 ?_
  case k1 => k_is
  case k2 => k_is
  case k3 => first | exact fun s Xs => BindsTo.of_eq rfl | exact fun s Xs => binds_K Xs rfl (by k_is) rfl rfl rfl
  case k4 => exact locs rfl
  case k5 => exact rfl
  case k6 => exact rfl
  case k7 => exact rfl
  case k8 => decide
  case k9 => decide
  intro dp un gd envs base g L' h₁ gens drawn tk os R B F N X T lt hd hu ret exc eE aA
  k_fold
  (try k_lt lt)
  (try dsimp only)
  have hmk1 : StopAt 1 := .here
  k_steps
  unfold StopHere2
  refine src_B (fun i v => ∃ c u, [x, y][i]? = some c ∧ v = .int (c.toNat : Int) u) (by rw [sizeLine_eq]; simp) rfl (by k_asm) (by k_asm) ?_ ?_
  · rintro s₂ ⟨h2, rfl⟩ i v ys I oI C oC D m₂ h tk2 E' hi ⟨c, u, hci, rfl⟩ hC hx F2 N2 off ne
    (try simp only [LCg.Off3, and_true] at off)
    (try k_fold)
    have hc9 : ¬ (97 ≤ (c.toNat : Int) ∧ (c.toNat : Int) ≤ 102) := by
      rcases i with _ | _ | i
      · cases hci; exact nx
      · cases hci; exact ny
      · simp at hci
    k_steps
    all_goals first | (exfalso; omega) | (unfold StopHere2; exact elt_end (by k_asm) (by k_asm) (fun _ hp => hp) ⟨c, _, by simpa using hci, rfl⟩)
  · rintro s₂ ⟨h2, rfl⟩ D h tk2 ys hl hg F2 N2 off
    have hI := kInts (f := fun c : UInt8 => (c.toNat : Int)) hl hg
    clear hg
    k_steps
    refine bytes_of F2 N2 rfl (.head _) hI (u8_in _) (by simp) ?_
    intro h3 t3 k3 F3 N3 _
    rw [u8_arr, show (#[x, y].toList.toArray : Array UInt8) = #[x, y] from rfl]
    k_steps
    all_goals first
      | (exfalso; exact absurd rfl (by assumption))
      | exact ret _ _ _ _ _ _ (by k_asm) (News.nil) ⟨_, rfl, rfl, trivial⟩
theorem hexE9 (t : Nat) : Spec prog w (kf w.params) p loose mean mg mb 428 ⟨[.bytes #[69, 57] t], []⟩ 2 [] (P1 (fun t => .int 233 t) (fun _ => []) (fun _ => True)) False :=
  hex_spec 69 57 14 9 t (by kernel_rfl) (by kernel_rfl) (by decide) (by decide) idx69 idx57 (by decide) (by decide)
theorem wd_C14_2 : True := by
  k_with "call ref" => (k_here; (show wpAny _ _ (PySem.call (Value.ref 428) [_]) _ _ _); (refine' Spec.call1 (hexE9 _) ?B ?F ?X ?N ?T rfl rfl rfl rfl ?hd ?hu ?P ?W ?_ (fun h => h.elim)); (case F => k_asm); (case N => k_asm); (case B => k_asm); (case X => k_asm); (case T => k_asm); (case hd => first | exact room_d (j := 1) hd (by decide) | exact room_d (j := 2) hd (by decide) | exact room_d (j := 3) hd (by decide) | (simp only [ar_depth, ar_units, depth_deeper, depth_mark, depth_under_make, depth_under_kw, depth_in1, units_deeper, units_in1, units_under_make, Around.mark_units]; omega)); (case hu => first | exact room_u (j := 0) hu (by decide) | exact room_u (j := 1) hu (by decide) | exact room_u (j := 2) hu (by decide) | exact room_u (j := 3) hu (by decide) | (simp only [ar_depth, ar_units, depth_deeper, depth_mark, depth_under_make, depth_under_kw, depth_in1, units_deeper, units_in1, units_under_make, Around.mark_units]; omega)); (case P => ktr_unf); (case W => tb_start); ((intro th' h' tk' hP' F' N' l1 l2; (dsimp only [List.cons_append, List.nil_append] at N'); clear l1 l2; clear hP'; (try k_sweep); (try dsimp only))))
  trivial
theorem hexC3 (t : Nat) : Spec prog w (kf w.params) p loose mean mg mb 428 ⟨[.bytes #[67, 51] t], []⟩ 2 [] (P1 (fun t => .int 195 t) (fun _ => []) (fun _ => True)) False :=
  hex_spec 67 51 12 3 t (by kernel_rfl) (by kernel_rfl) (by decide) (by decide) idx67 idx51 (by decide) (by decide)
theorem wd_C14_3 : True := by
  k_with "call ref" => (k_here; (show wpAny _ _ (PySem.call (Value.ref 428) [_]) _ _ _); (refine' Spec.call1 (hexC3 _) ?B ?F ?X ?N ?T rfl rfl rfl rfl ?hd ?hu ?P ?W ?_ (fun h => h.elim)); (case F => k_asm); (case N => k_asm); (case B => k_asm); (case X => k_asm); (case T => k_asm); (case hd => first | exact room_d (j := 1) hd (by decide) | exact room_d (j := 2) hd (by decide) | exact room_d (j := 3) hd (by decide) | (simp only [ar_depth, ar_units, depth_deeper, depth_mark, depth_under_make, depth_under_kw, depth_in1, units_deeper, units_in1, units_under_make, Around.mark_units]; omega)); (case hu => first | exact room_u (j := 0) hu (by decide) | exact room_u (j := 1) hu (by decide) | exact room_u (j := 2) hu (by decide) | exact room_u (j := 3) hu (by decide) | (simp only [ar_depth, ar_units, depth_deeper, depth_mark, depth_under_make, depth_under_kw, depth_in1, units_deeper, units_in1, units_under_make, Around.mark_units]; omega)); (case P => ktr_unf); (case W => tb_start); ((intro th' h' tk' hP' F' N' l1 l2; (dsimp only [List.cons_append, List.nil_append] at N'); clear l1 l2; clear hP'; (try k_sweep); (try dsimp only))))
  trivial
theorem hexA9 (t : Nat) : Spec prog w (kf w.params) p loose mean mg mb 428 ⟨[.bytes #[65, 57] t], []⟩ 2 [] (P1 (fun t => .int 169 t) (fun _ => []) (fun _ => True)) False :=
  hex_spec 65 57 10 9 t (by kernel_rfl) (by kernel_rfl) (by decide) (by decide) idx65 idx57 (by decide) (by decide)
theorem wd_C14_4 : True := by
  k_with "call ref" => (k_here; (show wpAny _ _ (PySem.call (Value.ref 428) [_]) _ _ _); (refine' Spec.call1 (hexA9 _) ?B ?F ?X ?N ?T rfl rfl rfl rfl ?hd ?hu ?P ?W ?_ (fun h => h.elim)); (case F => k_asm); (case N => k_asm); (case B => k_asm); (case X => k_asm); (case T => k_asm); (case hd => first | exact room_d (j := 1) hd (by decide) | exact room_d (j := 2) hd (by decide) | exact room_d (j := 3) hd (by decide) | (simp only [ar_depth, ar_units, depth_deeper, depth_mark, depth_under_make, depth_under_kw, depth_in1, units_deeper, units_in1, units_under_make, Around.mark_units]; omega)); (case hu => first | exact room_u (j := 0) hu (by decide) | exact room_u (j := 1) hu (by decide) | exact room_u (j := 2) hu (by decide) | exact room_u (j := 3) hu (by decide) | (simp only [ar_depth, ar_units, depth_deeper, depth_mark, depth_under_make, depth_under_kw, depth_in1, units_deeper, units_in1, units_under_make, Around.mark_units]; omega)); (case P => ktr_unf); (case W => tb_start); ((intro th' h' tk' hP' F' N' l1 l2; (dsimp only [List.cons_append, List.nil_append] at N'); clear l1 l2; clear hP'; (try k_sweep); (try dsimp only))))
  trivial
theorem hex20 (t : Nat) : Spec prog w (kf w.params) p loose mean mg mb 428 ⟨[.bytes #[50, 48] t], []⟩ 2 [] (P1 (fun t => .int 32 t) (fun _ => []) (fun _ => True)) False :=
  hex_spec 50 48 2 0 t (by kernel_rfl) (by kernel_rfl) (by decide) (by decide) idx50 idx48 (by decide) (by decide)
theorem wd_C14_5 : True := by
  k_with "call ref" => (k_here; (show wpAny _ _ (PySem.call (Value.ref 428) [_]) _ _ _); (refine' Spec.call1 (hex20 _) ?B ?F ?X ?N ?T rfl rfl rfl rfl ?hd ?hu ?P ?W ?_ (fun h => h.elim)); (case F => k_asm); (case N => k_asm); (case B => k_asm); (case X => k_asm); (case T => k_asm); (case hd => first | exact room_d (j := 1) hd (by decide) | exact room_d (j := 2) hd (by decide) | exact room_d (j := 3) hd (by decide) | (simp only [ar_depth, ar_units, depth_deeper, depth_mark, depth_under_make, depth_under_kw, depth_in1, units_deeper, units_in1, units_under_make, Around.mark_units]; omega)); (case hu => first | exact room_u (j := 0) hu (by decide) | exact room_u (j := 1) hu (by decide) | exact room_u (j := 2) hu (by decide) | exact room_u (j := 3) hu (by decide) | (simp only [ar_depth, ar_units, depth_deeper, depth_mark, depth_under_make, depth_under_kw, depth_in1, units_deeper, units_in1, units_under_make, Around.mark_units]; omega)); (case P => ktr_unf); (case W => tb_start); ((intro th' h' tk' hP' F' N' l1 l2; (dsimp only [List.cons_append, List.nil_append] at N'); clear l1 l2; clear hP'; (try k_sweep); (try dsimp only))))
  trivial
end PC14
end JC14
section JC15
open PySem PySem.W PyProof.Rows PySem.Calls
section PC15
variable {prog : Program} {w : World} {p : Program} {loose : List Str} {mean : ExcName → Option Value} {mg mb : Str → Option Value}
set_option maxRecDepth 100000
set_option maxHeartbeats 4000000
theorem pkL : KBy.picked lP (some (0 + 1)) (some (0 + 3)) = #[69, 57] := by kernel_rfl
theorem pkC1 : KBy.picked cP (some (0 + 1)) (some (0 + 3)) = #[67, 51] := by kernel_rfl
theorem pkC2 : KBy.picked cP (some (0 + 3 + 1)) (some (0 + 3 + 3)) = #[65, 57] := by kernel_rfl
theorem pkC3 : KBy.picked cP (some (0 + 3 + 3 + 1)) (some (0 + 3 + 3 + 3)) = #[50, 48] := by kernel_rfl
theorem wd_C15_0 : True := by
  k_with "call ref" => (k_here; (show wpAny _ _ (PySem.call (Value.ref 428) [Value.bytes (KBy.picked _ _ _) _]) _ _ _); first | rw [pkL] | rw [pkC1] | rw [pkC2] | rw [pkC3])
  trivial
theorem percent_l_spec (t : Nat) : Spec prog w (kf w.params) p loose mean mg mb 435 ⟨[.bytes lP t], []⟩ 4 []
    (P1 (fun t => .bytes e9 t) (fun _ => []) (fun _ => True)) False := by
  refine' spec_of3 (rb := [("octets", .bytes lP t)]) ?k1 ?k2 ?k3 ?k4 ?k5 ?k6 ?k7 ?k8 ?k9 ?_
  case k1 => k_is
  case k2 => k_is
  case k3 => first | exact fun s Xs => BindsTo.of_eq rfl | exact fun s Xs => binds_K Xs rfl (by k_is) rfl rfl rfl
  case k4 => exact locs rfl
  case k5 => exact rfl
  case k6 => exact rfl
  case k7 => exact rfl
  case k8 => decide
  case k9 => decide
  intro dp un gd envs base g L' h₁ gens drawn tk os R B F N X T lt hd hu ret exc eE aA
  k_fold
  (try k_lt lt)
  (try dsimp only)
  k_steps
  all_goals exact ret _ _ _ _ _ _ (by k_asm) (News.nil) ⟨_, rfl, rfl, trivial⟩
theorem percent_c_spec (t : Nat) : Spec prog w (kf w.params) p loose mean mg mb 435 ⟨[.bytes cP t], []⟩ 4 []
    (P1 (fun t => .bytes c3 t) (fun _ => []) (fun _ => True)) False := by
  refine' spec_of3 (rb := [("octets", .bytes cP t)]) ?k1 ?k2 ?k3 ?k4 ?k5 ?k6 ?k7 ?k8 ?k9 ?_
  case k1 => k_is
  case k2 => k_is
  case k3 => first | exact fun s Xs => BindsTo.of_eq rfl | exact fun s Xs => binds_K Xs rfl (by k_is) rfl rfl rfl
  case k4 => exact locs rfl
  case k5 => exact rfl
  case k6 => exact rfl
  case k7 => exact rfl
  case k8 => decide
  case k9 => decide
  intro dp un gd envs base g L' h₁ gens drawn tk os R B F N X T lt hd hu ret exc eE aA
  k_fold
  (try k_lt lt)
  (try dsimp only)
  k_steps
  all_goals exact ret _ _ _ _ _ _ (by k_asm) (News.nil) ⟨_, rfl, rfl, trivial⟩
theorem wd_C15_1 : True := by
  k_with "call ref" => (k_here; (show wpAny _ _ (PySem.call (Value.ref 435) [_]) _ _ _); (refine' Spec.call1 (percent_l_spec _) ?B ?F ?X ?N ?T rfl rfl rfl rfl ?hd ?hu ?P ?W ?_ (fun h => h.elim)); (case F => k_asm); (case N => k_asm); (case B => k_asm); (case X => k_asm); (case T => k_asm); (case hd => first | exact room_d (j := 1) hd (by decide) | exact room_d (j := 2) hd (by decide) | exact room_d (j := 3) hd (by decide) | (simp only [ar_depth, ar_units, depth_deeper, depth_mark, depth_under_make, depth_under_kw, depth_in1, units_deeper, units_in1, units_under_make, Around.mark_units]; omega)); (case hu => first | exact room_u (j := 0) hu (by decide) | exact room_u (j := 1) hu (by decide) | exact room_u (j := 2) hu (by decide) | exact room_u (j := 3) hu (by decide) | (simp only [ar_depth, ar_units, depth_deeper, depth_mark, depth_under_make, depth_under_kw, depth_in1, units_deeper, units_in1, units_under_make, Around.mark_units]; omega)); (case P => ktr_unf); (case W => tb_start); ((intro tp' h' tk' hP' F' N' l1 l2; (dsimp only [List.cons_append, List.nil_append] at N'); clear l1 l2; clear hP'; (try k_sweep); (try dsimp only))))
  k_with "call ref" => (k_here; (show wpAny _ _ (PySem.call (Value.ref 435) [_]) _ _ _); (refine' Spec.call1 (percent_c_spec _) ?B ?F ?X ?N ?T rfl rfl rfl rfl ?hd ?hu ?P ?W ?_ (fun h => h.elim)); (case F => k_asm); (case N => k_asm); (case B => k_asm); (case X => k_asm); (case T => k_asm); (case hd => first | exact room_d (j := 1) hd (by decide) | exact room_d (j := 2) hd (by decide) | exact room_d (j := 3) hd (by decide) | (simp only [ar_depth, ar_units, depth_deeper, depth_mark, depth_under_make, depth_under_kw, depth_in1, units_deeper, units_in1, units_under_make, Around.mark_units]; omega)); (case hu => first | exact room_u (j := 0) hu (by decide) | exact room_u (j := 1) hu (by decide) | exact room_u (j := 2) hu (by decide) | exact room_u (j := 3) hu (by decide) | (simp only [ar_depth, ar_units, depth_deeper, depth_mark, depth_under_make, depth_under_kw, depth_in1, units_deeper, units_in1, units_under_make, Around.mark_units]; omega)); (case P => ktr_unf); (case W => tb_start); ((intro tp' h' tk' hP' F' N' l1 l2; (dsimp only [List.cons_append, List.nil_append] at N'); clear l1 l2; clear hP'; (try k_sweep); (try dsimp only))))
  trivial
end PC15
end JC15
section JDD
open PySem PySem.W PyProof.Rows PySem.Calls PyProof.V
section PDD
variable {K : Type} [DecidableEq K]
theorem find_put {kvs : List (K × Value)} {k k' : K} {v : Value} : ((kvs.map fun kv => if kv.1 = k then (kv.1, v) else kv).find? fun kv => kv.1 = k').map (·.2) = if k' = k ∧ (kvs.any fun kv => kv.1 = k) = true then some v else (kvs.find? fun kv => kv.1 = k').map (·.2) := by
  induction kvs with
  | nil => simp
  | cons a l ih =>
    rw [List.map_cons, List.find?_cons, List.find?_cons, List.any_cons]
    by_cases h1 : a.1 = k
    · by_cases h2 : k' = k
      · subst h2; simp [h1]
      · have h3 : ¬ k = k' := fun e => h2 e.symm
        simp only [h1, h2, h3, if_true, decide_false, false_and, if_false] at ih ⊢
        exact ih
    · by_cases h2 : a.1 = k'
      · have h3 : ¬ k' = k := fun e => h1 (h2.trans e)
        simp [h1, h2, h3]
      · simp only [h1, h2, if_false, decide_false, Bool.false_or] at ih ⊢
        exact ih
theorem valueAt_stored {kvs : List (K × Value)} {k k' : K} {v : Value} : valueAt (stored kvs k v) k' = if k' = k then some v else valueAt kvs k' := by
  unfold stored
  by_cases h : (kvs.any fun kv => kv.1 = k) = true
  · rw [if_pos h]
    unfold valueAt
    rw [find_put]
    simp [h]
  · rw [if_neg h]
    unfold valueAt
    rw [List.find?_append]
    by_cases e : k' = k
    · subst e
      have : kvs.find? (fun kv => kv.1 = k') = none := by
        rw [List.find?_eq_none]
        intro x hx hk
        exact h (List.any_eq_true.mpr ⟨x, hx, hk⟩)
      rw [this]; simp
    · have e' : ¬ k = k' := fun q => e q.symm
      simp [e, e']
theorem valueAt_new {kvs : List (K × Value)} {k : K} {v : Value} : valueAt (stored kvs k v) k = some v := by rw [valueAt_stored, if_pos rfl]
theorem valueAt_old {kvs : List (K × Value)} {k k' : K} {v : Value} (h : k' ≠ k) : valueAt (stored kvs k v) k' = valueAt kvs k' := by rw [valueAt_stored, if_neg h]
theorem valueAt_none {kvs : List (K × Value)} {k : K} : valueAt kvs k = none ↔ k ∉ kvs.map (·.1) := by
  unfold valueAt
  rw [Option.map_eq_none_iff, List.find?_eq_none]
  constructor
  · intro h hm
    obtain ⟨x, hx, e⟩ := List.mem_map.mp hm
    exact h x hx (by simpa using e)
  · intro h x hx e
    exact h (List.mem_map.mpr ⟨x, hx, by simpa using e⟩)
theorem strs_at {vs : List Value} {zs : List Str} (h : StrsAre vs zs) : ∀ {i : Nat} {v : Value}, vs[i]? = some v → ∃ z t, zs[i]? = some z ∧ v = .str z t := by
  induction h with
  | nil => intro i v e; simp at e
  | cons z t _ ih =>
    intro i v e
    cases i with
    | zero => exact ⟨z, t, rfl, (Option.some.inj e).symm⟩
    | succ i => exact ih (by simpa using e)
structure DSt2 where
  o : Obj
  kvs : List (Str × Value)
end PDD
end JDD
section JC16
open PySem PySem.W PyProof.Rows PySem.Calls
section PC16
variable {prog : Program} {w : World} {p : Program} {loose : List Str} {mean : ExcName → Option Value} {mg mb : Str → Option Value}
set_option maxRecDepth 100000
set_option maxHeartbeats 4000000
theorem wd_C16_0 : True := by
  k_with "exec For Name Tuple cons nil" => (k_here; (have hmk9 := (show StopAt 3 by assumption)); clear hmk9; refine stop_here ?_)
  trivial
noncomputable abbrev al1 : List Str := ["us-ascii", "ascii", "ansi_x3.4-1968", "iso_646.irv:1991", "iso-ir-6", "iso646-us", "us", "cp367", "ibm367"]
noncomputable abbrev al2 : List Str := ["iso-8859-1", "iso_8859-1", "iso_8859-1:1987", "iso-ir-100", "latin1", "l1", "cp819", "ibm819"]
noncomputable abbrev al3 : List Str := ["utf-8", "utf8"]
theorem put_lat {kvs : List (Str × Value)} {z : Str} {t : Tok} {i : Nat} (hz : al2[i]? = some z) (h : 0 < i → ∃ t, valueAt kvs latinS = some (.str latinS t)) : ∃ t', valueAt (stored kvs z (.str latinS t)) latinS = some (.str latinS t') := by
  by_cases e : latinS = z
  · subst e; exact ⟨_, valueAt_new⟩
  · rw [valueAt_old e]
    refine h (Nat.pos_of_ne_zero fun q => ?_)
    subst q
    exact e (Option.some.inj hz)
theorem put_lat3 {kvs : List (Str × Value)} {z : Str} {v : Value} {i : Nat} (hz : al3[i]? = some z) (h : ∃ t, valueAt kvs latinS = some (.str latinS t)) : ∃ t', valueAt (stored kvs z v) latinS = some (.str latinS t') := by
  rw [valueAt_old]
  · exact h
  · rcases i with _ | _ | i
    · cases hz; decide
    · cases hz; decide
    · simp at hz
theorem put_utf {kvs : List (Str × Value)} {z : Str} {t : Tok} {i : Nat} (hz : al3[i]? = some z) (h : 0 < i → ∃ t, valueAt kvs utf8S = some (.str utf8S t)) : ∃ t', valueAt (stored kvs z (.str utf8S t)) utf8S = some (.str utf8S t') := by
  by_cases e : utf8S = z
  · subst e; exact ⟨_, valueAt_new⟩
  · rw [valueAt_old e]
    refine h (Nat.pos_of_ne_zero fun q => ?_)
    subst q
    exact e (Option.some.inj hz)
theorem news_drop2 {h₀ h : Heap} {L : Addr} {a b : Addr × Obj} {r : List (Addr × Obj)} (N : News h₀ L h (a :: b :: r)) : News h₀ L h (a :: r) := news_mono N fun q hq => by
  rcases List.mem_cons.mp hq with rfl | hq
  · exact .head _
  · exact .tail _ (.tail _ hq)
theorem dict_cls {K : Type} [DecidableEq K] {knd : PySem.KeyKind prog w K} {o : Obj} {kvs : List (K × Value)} (h : o.IsDictOf knd kvs) : o.cls = .type "dict" := by
  first | ((have es := And.left h); (have ep := And.left (And.right h)); (have h1 := And.left (And.right (And.right h))); clear h) | obtain ⟨es, ep, h1, _⟩ := h
  exact h1.1
theorem wd_C16_1 : True := by
  k_with "setItem ref str" => (k_here; refine' kda_set (knd := PySem.strKind _ _) ?F ?N ?U ?d (strKind_is _ _ _ _) ?z ?_; (case F => k_asm); (case N => k_asm); (case U => k_updF); (case d => k_asm); (case z => (rw [sizeLine_eq]; omega)); intro h' o' F' N' hd'; (try dsimp only at N'))
  trivial
theorem names_spec : Spec prog w (kf w.params) p loose mean mg mb 189 ⟨[], []⟩ 2 []
    (P3 (fun D _ _ => .ref D) (fun D o _ => [(D, o)]) (fun D o kvs => Obj.IsDictOf (PySem.strKind prog w) o kvs ∧ (D == sysModules) = false ∧ ∀ r, (r = latinS ∨ r = utf8S) → ∃ t, valueAt kvs r = some (.str r t))) False := by
  refine' spec_of3 (rb := []) ?k1 ?k2 ?k3 ?k4 ?k5 ?k6 ?k7 ?k8 ?k9 ?_
  case k1 => k_is
  case k2 => k_is
  case k3 => first | exact fun s Xs => BindsTo.of_eq rfl | exact fun s Xs => binds_K Xs rfl (by k_is) rfl rfl rfl
  case k4 => exact locs rfl
  case k5 => exact rfl
  case k6 => exact rfl
  case k7 => exact rfl
  case k8 => decide
  case k9 => decide
  intro dp un gd envs base g L' h₁ gens drawn tk os R B F N X T lt hd hu ret exc eE aA
  k_fold
  (try k_lt lt)
  (try dsimp only)
  have hmk3 : StopAt 3 := .here
  k_steps
  unfold StopHere
  rename Fr _ _ _ _ => F9
  rename News _ _ _ _ => N9
  refine For_turns F9 ?_
  k_whole
  k_steps
  unfold StopHere
  rename Fr _ _ _ _ => F8
  rename News _ _ _ _ => N8
  rename_i d _ o₀ lo hs fs hi fi _ _ D _ _
  clear fs hi fi
  refine' for_tuple2 (σ := DSt2) (n := 9) (fun c => [(d, c.o)]) (fun _ => []) (fun i c => Obj.IsDictOf (PySem.strKind prog w) c.o c.kvs ∧ c.kvs.length ≤ i + 0) ["alias"] ⟨o₀, []⟩ F8 N8 rfl rfl rfl rfl ?hc ⟨hs, Nat.le_refl _⟩ (List.forall_mem_nil _) ?turn ?done
  case hc => exact fun i c hf => List.forall_mem_cons.mpr ⟨by rw [dict_cls hf.1]; simp, List.forall_mem_nil _⟩
  case turn =>
    intro I i c u v h tk8 o hi hv hf ho F N
    obtain ⟨z, t9, hz, rfl⟩ := strs_at (zs := al1) (by repeat constructor) hv
    first | ((have hd9 := And.left hf); (have hl := (And.right hf)); clear hf) | obtain ⟨hd9, hl⟩ := hf
    clear F8 N8 hv
    (try dsimp only)
    (try k_fold)
    have hId : @Ne Nat I d := news_ne N (.head _) (.tail _ (.tail _ (.head _))) (fun e => by rw [e, dict_cls hd9] at ho; simp at ho)
    k_steps
    unfold StopHere
    exact for_end ⟨_, _⟩ (by k_asm) (by k_asm) (.head _) (fun p hp => .tail _ hp) ⟨by assumption, Nat.le_trans (stored_length_le _ _ _) (by omega)⟩ (List.forall_mem_nil _) (fun z _ hz => kst_one hz)
  case done =>
    intro c9 u h tk8 hf F N
    first | ((have hd9 := And.left hf); (have hl := (And.right hf)); clear hf) | obtain ⟨hd9, hl⟩ := hf
    clear F8 N8
    (try dsimp only)
    (try k_fold)
    k_steps
    unfold StopHere
    rename Fr _ _ _ _ => F9
    refine For_turns F9 ?_
    k_whole
    k_steps
    unfold StopHere
    rename Fr _ _ _ _ => F8
    rename News _ _ _ _ => N8
    replace N8 := news_drop2 N8
    refine' for_tuple2 (σ := DSt2) (n := 8) (fun c => [(d, c.o)]) (fun _ => []) (fun i c => Obj.IsDictOf (PySem.strKind prog w) c.o c.kvs ∧ c.kvs.length ≤ i + 9 ∧ (0 < i → ∃ t, valueAt c.kvs latinS = some (.str latinS t))) ["alias"] ⟨c9.o, c9.kvs⟩ F8 N8 rfl rfl rfl rfl ?hc ⟨hd9, hl, fun h => absurd h (Nat.lt_irrefl _)⟩ (List.forall_mem_nil _) ?turn ?done
    case hc => exact fun i c hf => List.forall_mem_cons.mpr ⟨by rw [dict_cls hf.1]; simp, List.forall_mem_nil _⟩
    case turn =>
      intro I i c u v h tk8 o hi hv hf ho F N
      obtain ⟨z, t9, hz, rfl⟩ := strs_at (zs := al2) (by repeat constructor) hv
      first | ((have hd9 := And.left hf); (have hl := And.left (And.right hf)); (have hq := (And.right (And.right hf))); clear hf) | obtain ⟨hd9, hl, hq⟩ := hf
      clear F8 N8 hv
      (try dsimp only)
      (try k_fold)
      have hId : @Ne Nat I d := news_ne N (.head _) (.tail _ (.tail _ (.head _))) (fun e => by rw [e, dict_cls hd9] at ho; simp at ho)
      k_steps
      unfold StopHere
      exact for_end ⟨_, _⟩ (by k_asm) (by k_asm) (.head _) (fun p hp => .tail _ hp) ⟨by assumption, Nat.le_trans (stored_length_le _ _ _) (by omega), fun _ => put_lat hz hq⟩ (List.forall_mem_nil _) (fun z _ hz => kst_one hz)
    case done =>
      intro c8 u h tk8 hf F N
      first | ((have hd8 := And.left hf); (have hl := And.left (And.right hf)); (have hq := (And.right (And.right hf))); clear hf) | obtain ⟨hd8, hl, hq⟩ := hf
      clear F8 N8
      (try dsimp only)
      (try k_fold)
      k_steps
      unfold StopHere
      rename Fr _ _ _ _ => F9
      refine For_turns F9 ?_
      k_whole
      k_steps
      unfold StopHere
      rename Fr _ _ _ _ => F8
      rename News _ _ _ _ => N8
      replace N8 := news_drop2 N8
      refine' for_tuple2 (σ := DSt2) (n := 2) (fun c => [(d, c.o)]) (fun _ => []) (fun i c => Obj.IsDictOf (PySem.strKind prog w) c.o c.kvs ∧ c.kvs.length ≤ i + 17 ∧ (∃ t, valueAt c.kvs latinS = some (.str latinS t)) ∧ (0 < i → ∃ t, valueAt c.kvs utf8S = some (.str utf8S t))) ["alias"] ⟨c8.o, c8.kvs⟩ F8 N8 rfl rfl rfl rfl ?hc ⟨hd8, hl, hq (by decide), fun h => absurd h (Nat.lt_irrefl _)⟩ (List.forall_mem_nil _) ?turn ?done
      case hc => exact fun i c hf => List.forall_mem_cons.mpr ⟨by rw [dict_cls hf.1]; simp, List.forall_mem_nil _⟩
      case turn =>
        intro I i c u v h tk8 o hi hv hf ho F N
        obtain ⟨z, t9, hz, rfl⟩ := strs_at (zs := al3) (by repeat constructor) hv
        first | ((have hd9 := And.left hf); (have hl := And.left (And.right hf)); (have hq := And.left (And.right (And.right hf))); (have hr := (And.right (And.right (And.right hf)))); clear hf) | obtain ⟨hd9, hl, hq, hr⟩ := hf
        clear F8 N8 hv
        (try dsimp only)
        (try k_fold)
        have hId : @Ne Nat I d := news_ne N (.head _) (.tail _ (.tail _ (.head _))) (fun e => by rw [e, dict_cls hd9] at ho; simp at ho)
        k_steps
        unfold StopHere
        exact for_end ⟨_, _⟩ (by k_asm) (by k_asm) (.head _) (fun p hp => .tail _ hp) ⟨by assumption, Nat.le_trans (stored_length_le _ _ _) (by omega), put_lat3 hz hq, fun _ => put_utf hz hr⟩ (List.forall_mem_nil _) (fun z _ hz => kst_one hz)
      case done =>
        intro c2 u h tk8 hf F N
        first | ((have hd2 := And.left hf); (have hl := And.left (And.right hf)); (have hq := And.left (And.right (And.right hf))); (have hr := (And.right (And.right (And.right hf)))); clear hf) | obtain ⟨hd2, hl, hq, hr⟩ := hf
        clear F8 N8
        (try dsimp only)
        (try k_fold)
        k_steps
        exact ret _ _ _ _ _ _ (by k_asm) (news_mono (by k_asm) (List.forall_mem_cons.mpr ⟨.tail _ (.head _), List.forall_mem_nil _⟩)) ⟨_, _, _, rfl, rfl, hd2, lo, fun r h => by rcases h with rfl | rfl; exact hq; exact hr (by decide)⟩
theorem wd_C16_2 : True := by
  k_with "call ref" => (k_here; (show wpAny _ _ (PySem.call (Value.ref 189) []) _ _ _); (refine' Spec.call3 (names_spec) ?B ?F ?X ?N ?T rfl rfl rfl rfl ?hd ?hu ?P ?W ?_ (fun h => h.elim)); (case F => k_asm); (case N => k_asm); (case B => k_asm); (case X => k_asm); (case T => k_asm); (case hd => first | exact room_d (j := 1) hd (by decide) | exact room_d (j := 2) hd (by decide) | exact room_d (j := 3) hd (by decide) | (simp only [ar_depth, ar_units, depth_deeper, depth_mark, depth_under_make, depth_under_kw, depth_in1, units_deeper, units_in1, units_under_make, Around.mark_units]; omega)); (case hu => first | exact room_u (j := 0) hu (by decide) | exact room_u (j := 1) hu (by decide) | exact room_u (j := 2) hu (by decide) | exact room_u (j := 3) hu (by decide) | (simp only [ar_depth, ar_units, depth_deeper, depth_mark, depth_under_make, depth_under_kw, depth_in1, units_deeper, units_in1, units_under_make, Around.mark_units]; omega)); (case P => ktr_unf); (case W => tb_start); ((intro Dn' on' kn' h' tk' hP' F' N' l1 l2; (dsimp only [List.cons_append, List.nil_append] at N'); (simp only [AllLt, and_true] at l1); (simp only [Apart, ApartOne, and_true] at l2); (first | ((have hn1' := And.left hP'); (have hn2' := And.left (And.right hP')); (have hn3' := (And.right (And.right hP'))); clear hP') | obtain ⟨hn1', hn2', hn3'⟩ := hP'); (try k_sweep); (try dsimp only))))
  k_with "getMethod ref" => (k_here; (with_reducible show wpAny _ _ (getMethod _ (Str.ofString "get") _) _ _ _); refine kdg_method (knd := PySem.strKind _ _) (by k_asm) (by k_mem) (by assumption) ?_)
  k_with "call builtin:dict.get" => (k_here; refine kdg_get2 (knd := PySem.strKind _ _) (by k_asm) (by k_mem) (by assumption) (by assumption) (strKind_is _ _ _ _) _ (by assumption) ?_)
  trivial
theorem charset_name_spec (x : Str) (t : Nat) (hz : x.cps.size ≤ 4000) (hx : ∀ c ∈ x.cps.toList, c < 256) (hr : lowT x = latinS ∨ lowT x = utf8S) : Spec prog w (kf w.params) p loose mean mg mb 196 ⟨[.str x t], []⟩ 7 []
    (P1 (fun t => .str (lowT x) t) (fun _ => []) (fun _ => True)) False := by
  refine' spec_of3 (rb := [("text", .str x t)]) ?k1 ?k2 ?k3 ?k4 ?k5 ?k6 ?k7 ?k8 ?k9 ?_
  case k1 => k_is
  case k2 => k_is
  case k3 => first | exact fun s Xs => BindsTo.of_eq rfl | exact fun s Xs => binds_K Xs rfl (by k_is) rfl rfl rfl
  case k4 => exact locs rfl
  case k5 => exact rfl
  case k6 => exact rfl
  case k7 => exact rfl
  case k8 => decide
  case k9 => decide
  intro dp un gd envs base g L' h₁ gens drawn tk os R B F N X T lt hd hu ret exc eE aA
  k_fold
  (try k_lt lt)
  (try dsimp only)
  k_steps
  obtain ⟨tq9, hq9⟩ := hn3' _ hr
  k_steps
  exact ret _ _ _ _ _ _ (by k_asm) (News.nil) ⟨_, rfl, rfl, trivial⟩
end PC16
end JC16
section JC17
open PySem PySem.W PyProof.Rows PySem.Calls
section PC17
variable {prog : Program} {w : World} {p : Program} {loose : List Str} {mean : ExcName → Option Value} {mg mb : Str → Option Value}
set_option maxRecDepth 100000
set_option maxHeartbeats 4000000
theorem wd_C17_0 : True := by
  k_with "call ref" => (k_here; (show wpAny _ _ (PySem.call (Value.ref 196) [_]) _ _ _); (refine' Spec.call1 (charset_name_spec _ _ ?s1 ?s2 ?s3) ?B ?F ?X ?N ?T rfl rfl rfl rfl ?hd ?hu ?P ?W ?_ (fun h => h.elim)); (case F => k_asm); (case N => k_asm); (case B => k_asm); (case X => k_asm); (case T => k_asm); (case hd => first | exact room_d (j := 1) hd (by decide) | exact room_d (j := 2) hd (by decide) | exact room_d (j := 3) hd (by decide) | (simp only [ar_depth, ar_units, depth_deeper, depth_mark, depth_under_make, depth_under_kw, depth_in1, units_deeper, units_in1, units_under_make, Around.mark_units]; omega)); (case hu => first | exact room_u (j := 0) hu (by decide) | exact room_u (j := 1) hu (by decide) | exact room_u (j := 2) hu (by decide) | exact room_u (j := 3) hu (by decide) | (simp only [ar_depth, ar_units, depth_deeper, depth_mark, depth_under_make, depth_under_kw, depth_in1, units_deeper, units_in1, units_under_make, Around.mark_units]; omega)); (case P => ktr_unf); (case W => tb_start); (case s1 => first | assumption | (show (Array.size (List.toArray (List.map _ _))) ≤ _; simp only [List.size_toArray, List.length_map, Array.length_toList]; omega)); (case s2 => first | assumption | exact strB_lt _); (case s3 => assumption); ((intro tl' h' tk' hP' F' N' l1 l2; (dsimp only [List.cons_append, List.nil_append] at N'); clear l1 l2; clear hP'; (try k_sweep); (try dsimp only))))
  k_with "call builtin:bytes.split" => (k_here; refine' split_call ?h ?z ?F ?N ?_; (case h => assumption); (case z => assumption); (case F => k_asm); (case N => k_asm); (intro D' h' n' t1' t2' t3' F' N' l1; (try k_lt l1); (try k_sweep)))
  trivial
theorem cut_spec (b q r s : Array UInt8) (t : Nat) (hb : SplitIs b q r s) (hz : q.size ≤ 1000 ∧ r.size ≤ 1000 ∧ s.size ≤ 1000) (hr : lowT (strB q.toList) = latinS ∨ lowT (strB q.toList) = utf8S) : Spec prog w (kf w.params) p loose mean mg mb 440 ⟨[.bytes b t], []⟩ 9 []
    (P4 (fun D _ _ _ => .ref D) (fun D n t1 t2 => [(D, tupO [.str (lowT (strB q.toList)) t1, .bytes s t2] n)]) (fun _ _ _ _ => True)) False := by
  refine' spec_of3 (rb := [("octets", .bytes b t)]) ?k1 ?k2 ?k3 ?k4 ?k5 ?k6 ?k7 ?k8 ?k9 ?_
  case k1 => k_is
  case k2 => k_is
  case k3 => first | exact fun s Xs => BindsTo.of_eq rfl | exact fun s Xs => binds_K Xs rfl (by k_is) rfl rfl rfl
  case k4 => exact locs rfl
  case k5 => exact rfl
  case k6 => exact rfl
  case k7 => exact rfl
  case k8 => decide
  case k9 => decide
  intro dp un gd envs base g L' h₁ gens drawn tk os R B F N X T lt hd hu ret exc eE aA
  k_fold
  (try k_lt lt)
  (try dsimp only)
  have hmk1 : StopAt 1 := .here
  k_steps
  unfold StopHere2
  refine src_B (fun i v => ∃ c u, q.toList[i]? = some c ∧ v = .str ⟨#[c.toNat]⟩ u) (by rw [sizeLine_eq]; omega) rfl (by k_asm) (by k_asm) ?_ ?_
  · rintro s₂ ⟨h2, rfl⟩ i v ys I oI C oC D m₂ h tk2 E' hi ⟨c, u, hci, rfl⟩ hC hx F2 N2 off ne
    (try simp only [LCg.Off3, and_true] at off)
    (try k_fold)
    have hc8 := u8_lti c
    k_steps
    unfold StopHere2
    exact elt_end (by k_asm) (by k_asm) (fun _ hp => hp) ⟨c, _, by rw [Array.getElem?_toList]; exact hci, rfl⟩
  · rintro s₂ ⟨h2, rfl⟩ D h tk2 ys hl hg F2 N2 off
    have hI := kStrs (f := fun c : UInt8 => (⟨#[c.toNat]⟩ : Str)) (by rw [hl, Array.length_toList]) hg
    clear hg
    (try simp only [LCg.Off1, and_true] at off)
    k_steps
    refine join_of N2 (.head _) hI (by rw [sum_one (fun c : UInt8 => c.toNat), Array.length_toList]; omega) ?_
    intro t3 k3
    rw [glue_chars (fun c : UInt8 => c.toNat), show (⟨(q.toList.map fun c : UInt8 => c.toNat).toArray⟩ : Str) = strB q.toList from rfl]
    k_steps
    exact ret _ _ _ _ _ _ (by k_asm) (news_mono (by k_asm) (List.forall_mem_cons.mpr ⟨.head _, List.forall_mem_nil _⟩)) ⟨_, _, _, _, rfl, rfl, trivial⟩
theorem cut_c_spec (t : Nat) : Spec prog w (kf w.params) p loose mean mg mb 440 ⟨[.bytes cS t], []⟩ 9 []
    (P4 (fun D _ _ _ => .ref D) (fun D n t1 t2 => [(D, tupO [.str utf8S t1, .bytes cP t2] n)]) (fun _ _ _ _ => True)) False := by
  have h := cut_spec (prog := prog) (w := w) (p := p) (loose := loose) (mean := mean) (mg := mg) (mb := mb) cS _ _ _ t split_c (by decide) (.inr (by kernel_rfl))
  rw [show lowT (strB (#[117, 116, 102, 45, 56] : Array UInt8).toList) = utf8S from by kernel_rfl] at h
  exact h
theorem cut_l_spec (t : Nat) : Spec prog w (kf w.params) p loose mean mg mb 440 ⟨[.bytes lS t], []⟩ 9 []
    (P4 (fun D _ _ _ => .ref D) (fun D n t1 t2 => [(D, tupO [.str latinS t1, .bytes lP t2] n)]) (fun _ _ _ _ => True)) False := by
  have h := cut_spec (prog := prog) (w := w) (p := p) (loose := loose) (mean := mean) (mg := mg) (mb := mb) lS _ _ _ t split_l (by decide) (.inl (by kernel_rfl))
  rw [show lowT (strB (#[73, 83, 79, 45, 56, 56, 53, 57, 45, 49] : Array UInt8).toList) = latinS from by kernel_rfl] at h
  exact h
theorem wd_C17_1 : True := by
  k_with "call ref" => (k_here; (show wpAny _ _ (PySem.call (Value.ref 440) [_]) _ _ _); (refine' Spec.call4 (cut_c_spec _) ?B ?F ?X ?N ?T rfl rfl rfl rfl ?hd ?hu ?P ?W ?_ (fun h => h.elim)); (case F => k_asm); (case N => k_asm); (case B => k_asm); (case X => k_asm); (case T => k_asm); (case hd => first | exact room_d (j := 1) hd (by decide) | exact room_d (j := 2) hd (by decide) | exact room_d (j := 3) hd (by decide) | (simp only [ar_depth, ar_units, depth_deeper, depth_mark, depth_under_make, depth_under_kw, depth_in1, units_deeper, units_in1, units_under_make, Around.mark_units]; omega)); (case hu => first | exact room_u (j := 0) hu (by decide) | exact room_u (j := 1) hu (by decide) | exact room_u (j := 2) hu (by decide) | exact room_u (j := 3) hu (by decide) | (simp only [ar_depth, ar_units, depth_deeper, depth_mark, depth_under_make, depth_under_kw, depth_in1, units_deeper, units_in1, units_under_make, Around.mark_units]; omega)); (case P => ktr_unf); (case W => tb_start); ((intro Dk' nk' tk1' tk2' h' tk' hP' F' N' l1 l2; (dsimp only [List.cons_append, List.nil_append] at N'); (simp only [AllLt, and_true] at l1); (simp only [Apart, ApartOne, and_true] at l2); clear hP'; (try k_sweep); (try dsimp only))))
  k_with "call ref" => (k_here; (show wpAny _ _ (PySem.call (Value.ref 440) [_]) _ _ _); (refine' Spec.call4 (cut_l_spec _) ?B ?F ?X ?N ?T rfl rfl rfl rfl ?hd ?hu ?P ?W ?_ (fun h => h.elim)); (case F => k_asm); (case N => k_asm); (case B => k_asm); (case X => k_asm); (case T => k_asm); (case hd => first | exact room_d (j := 1) hd (by decide) | exact room_d (j := 2) hd (by decide) | exact room_d (j := 3) hd (by decide) | (simp only [ar_depth, ar_units, depth_deeper, depth_mark, depth_under_make, depth_under_kw, depth_in1, units_deeper, units_in1, units_under_make, Around.mark_units]; omega)); (case hu => first | exact room_u (j := 0) hu (by decide) | exact room_u (j := 1) hu (by decide) | exact room_u (j := 2) hu (by decide) | exact room_u (j := 3) hu (by decide) | (simp only [ar_depth, ar_units, depth_deeper, depth_mark, depth_under_make, depth_under_kw, depth_in1, units_deeper, units_in1, units_under_make, Around.mark_units]; omega)); (case P => ktr_unf); (case W => tb_start); ((intro Dk' nk' tk1' tk2' h' tk' hP' F' N' l1 l2; (dsimp only [List.cons_append, List.nil_append] at N'); (simp only [AllLt, and_true] at l1); (simp only [Apart, ApartOne, and_true] at l2); clear hP'; (try k_sweep); (try dsimp only))))
  trivial
end PC17
end JC17
section JC18
open PySem PySem.W PyProof.Rows PySem.Calls
section PC18
variable {prog : Program} {w : World} {p : Program} {loose : List Str} {mean : ExcName → Option Value} {mg mb : Str → Option Value}
set_option maxRecDepth 100000
set_option maxHeartbeats 4000000
theorem joined_c_spec (d T0 : Addr) (n t1 : Nat) (o : Obj) (hd9 : Obj.IsDictOf (PySem.intKind prog w) o [(0, .ref T0)]) (lo9 : (d == sysModules) = false) : Spec prog w (kf w.params) p loose mean mg mb 447 ⟨[.ref d], []⟩ 11 [(d, o), (T0, tupO [.bool true, .bytes cS t1] n)]
    (P1 (fun t => .str ⟨#[233, 32]⟩ t) (fun _ => [(d, o), (T0, tupO [.bool true, .bytes cS t1] n)]) (fun _ => True)) False := by
  refine' spec_of3 (rb := [("parts", .ref d)]) ?k1 ?k2 ?k3 ?k4 ?k5 ?k6 ?k7 ?k8 ?k9 ?_
  case k1 => k_is
  case k2 => k_is
  case k3 => first | exact fun s Xs => BindsTo.of_eq rfl | exact fun s Xs => binds_K Xs rfl (by k_is) rfl rfl rfl
  case k4 => exact locs rfl
  case k5 => exact rfl
  case k6 => exact rfl
  case k7 => exact rfl
  case k8 => decide
  case k9 => decide
  intro dp un gd envs base g L' h₁ gens drawn tk os R B F N X T lt hd hu ret exc eE aA
  k_fold
  (try k_lt lt)
  (try dsimp only)
  k_steps
  refine' ret _ [(d, o), (T0, tupO [.bool true, .bytes cS t1] n)] _ _ _ _ (by k_asm) (news_mono (by k_asm) ?_) ⟨_, rfl, rfl, trivial⟩
  ktr_unf
theorem joined_l_spec (d T0 : Addr) (n t1 : Nat) (o : Obj) (hd9 : Obj.IsDictOf (PySem.intKind prog w) o [(0, .ref T0)]) (lo9 : (d == sysModules) = false) : Spec prog w (kf w.params) p loose mean mg mb 447 ⟨[.ref d], []⟩ 11 [(d, o), (T0, tupO [.bool true, .bytes lS t1] n)]
    (P1 (fun t => .str ⟨#[233]⟩ t) (fun _ => [(d, o), (T0, tupO [.bool true, .bytes lS t1] n)]) (fun _ => True)) False := by
  refine' spec_of3 (rb := [("parts", .ref d)]) ?k1 ?k2 ?k3 ?k4 ?k5 ?k6 ?k7 ?k8 ?k9 ?_
  case k1 => k_is
  case k2 => k_is
  case k3 => first | exact fun s Xs => BindsTo.of_eq rfl | exact fun s Xs => binds_K Xs rfl (by k_is) rfl rfl rfl
  case k4 => exact locs rfl
  case k5 => exact rfl
  case k6 => exact rfl
  case k7 => exact rfl
  case k8 => decide
  case k9 => decide
  intro dp un gd envs base g L' h₁ gens drawn tk os R B F N X T lt hd hu ret exc eE aA
  k_fold
  (try k_lt lt)
  (try dsimp only)
  k_steps
  refine' ret _ [(d, o), (T0, tupO [.bool true, .bytes lS t1] n)] _ _ _ _ (by k_asm) (news_mono (by k_asm) ?_) ⟨_, rfl, rfl, trivial⟩
  ktr_unf
noncomputable abbrev abB : Array UInt8 := #[97, 98]
noncomputable abbrev cdB : Array UInt8 := #[99, 32, 100]
theorem joined_p_spec (d T0 T1 : Addr) (n t1 n2 t2 : Nat) (o : Obj) (hd9 : Obj.IsDictOf (PySem.intKind prog w) o [(0, .ref T0), (1, .ref T1)]) (lo9 : (d == sysModules) = false) : Spec prog w (kf w.params) p loose mean mg mb 447 ⟨[.ref d], []⟩ 11 [(d, o), (T0, tupO [.bool false, .bytes abB t1] n), (T1, tupO [.bool false, .bytes cdB t2] n2)]
    (P1 (fun t => .str ⟨#[97, 98, 99, 32, 100]⟩ t) (fun _ => [(d, o), (T0, tupO [.bool false, .bytes abB t1] n), (T1, tupO [.bool false, .bytes cdB t2] n2)]) (fun _ => True)) False := by
  refine' spec_of3 (rb := [("parts", .ref d)]) ?k1 ?k2 ?k3 ?k4 ?k5 ?k6 ?k7 ?k8 ?k9 ?_
  case k1 => k_is
  case k2 => k_is
  case k3 => first | exact fun s Xs => BindsTo.of_eq rfl | exact fun s Xs => binds_K Xs rfl (by k_is) rfl rfl rfl
  case k4 => exact locs rfl
  case k5 => exact rfl
  case k6 => exact rfl
  case k7 => exact rfl
  case k8 => decide
  case k9 => decide
  intro dp un gd envs base g L' h₁ gens drawn tk os R B F N X T lt hd hu ret exc eE aA
  k_fold
  (try k_lt lt)
  (try dsimp only)
  k_steps
  refine' ret _ [(d, o), (T0, tupO [.bool false, .bytes abB t1] n), (T1, tupO [.bool false, .bytes cdB t2] n2)] _ _ _ _ (by k_asm) (news_mono (by k_asm) ?_) ⟨_, rfl, rfl, trivial⟩
  ktr_unf
theorem wd_C18_0 : True := by
  k_with "call ref" => (k_here; (show wpAny _ _ (PySem.call (Value.ref 447) [_]) _ _ _); (refine' Spec.call1 (joined_c_spec _ _ _ _ _ (by assumption) (by assumption)) ?B ?F ?X ?N ?T rfl rfl rfl rfl ?hd ?hu ?P ?W ?_ (fun h => h.elim)); (case F => k_asm); (case N => k_asm); (case B => k_asm); (case X => k_asm); (case T => k_asm); (case hd => first | exact room_d (j := 1) hd (by decide) | exact room_d (j := 2) hd (by decide) | exact room_d (j := 3) hd (by decide) | (simp only [ar_depth, ar_units, depth_deeper, depth_mark, depth_under_make, depth_under_kw, depth_in1, units_deeper, units_in1, units_under_make, Around.mark_units]; omega)); (case hu => first | exact room_u (j := 0) hu (by decide) | exact room_u (j := 1) hu (by decide) | exact room_u (j := 2) hu (by decide) | exact room_u (j := 3) hu (by decide) | (simp only [ar_depth, ar_units, depth_deeper, depth_mark, depth_under_make, depth_under_kw, depth_in1, units_deeper, units_in1, units_under_make, Around.mark_units]; omega)); (case P => ktr_unf); (case W => tb_start); ((intro tj' h' tk' hP' F' N' l1 l2; (dsimp only [List.cons_append, List.nil_append] at N'); clear l1 l2; clear hP'; (try k_sweep); (try dsimp only))))
  k_with "call ref" => (k_here; (show wpAny _ _ (PySem.call (Value.ref 447) [_]) _ _ _); (refine' Spec.call1 (joined_l_spec _ _ _ _ _ (by assumption) (by assumption)) ?B ?F ?X ?N ?T rfl rfl rfl rfl ?hd ?hu ?P ?W ?_ (fun h => h.elim)); (case F => k_asm); (case N => k_asm); (case B => k_asm); (case X => k_asm); (case T => k_asm); (case hd => first | exact room_d (j := 1) hd (by decide) | exact room_d (j := 2) hd (by decide) | exact room_d (j := 3) hd (by decide) | (simp only [ar_depth, ar_units, depth_deeper, depth_mark, depth_under_make, depth_under_kw, depth_in1, units_deeper, units_in1, units_under_make, Around.mark_units]; omega)); (case hu => first | exact room_u (j := 0) hu (by decide) | exact room_u (j := 1) hu (by decide) | exact room_u (j := 2) hu (by decide) | exact room_u (j := 3) hu (by decide) | (simp only [ar_depth, ar_units, depth_deeper, depth_mark, depth_under_make, depth_under_kw, depth_in1, units_deeper, units_in1, units_under_make, Around.mark_units]; omega)); (case P => ktr_unf); (case W => tb_start); ((intro tj' h' tk' hP' F' N' l1 l2; (dsimp only [List.cons_append, List.nil_append] at N'); clear l1 l2; clear hP'; (try k_sweep); (try dsimp only))))
  k_with "call ref" => (k_here; (show wpAny _ _ (PySem.call (Value.ref 447) [_]) _ _ _); (refine' Spec.call1 (joined_p_spec _ _ _ _ _ _ _ _ (by assumption) (by assumption)) ?B ?F ?X ?N ?T rfl rfl rfl rfl ?hd ?hu ?P ?W ?_ (fun h => h.elim)); (case F => k_asm); (case N => k_asm); (case B => k_asm); (case X => k_asm); (case T => k_asm); (case hd => first | exact room_d (j := 1) hd (by decide) | exact room_d (j := 2) hd (by decide) | exact room_d (j := 3) hd (by decide) | (simp only [ar_depth, ar_units, depth_deeper, depth_mark, depth_under_make, depth_under_kw, depth_in1, units_deeper, units_in1, units_under_make, Around.mark_units]; omega)); (case hu => first | exact room_u (j := 0) hu (by decide) | exact room_u (j := 1) hu (by decide) | exact room_u (j := 2) hu (by decide) | exact room_u (j := 3) hu (by decide) | (simp only [ar_depth, ar_units, depth_deeper, depth_mark, depth_under_make, depth_under_kw, depth_in1, units_deeper, units_in1, units_under_make, Around.mark_units]; omega)); (case P => ktr_unf); (case W => tb_start); ((intro tj' h' tk' hP' F' N' l1 l2; (dsimp only [List.cons_append, List.nil_append] at N'); clear l1 l2; clear hP'; (try k_sweep); (try dsimp only))))
  trivial
end PC18
end JC18
section JFT
open PySem PySem.W PyProof.Rows PySem.Calls PySem.Spec
section PFT
set_option maxRecDepth 100000
variable {prog : Program} {w : World} {A : Around} {E : Value → Shared → Prop} {s : Shared} {env : Env} {h₀ : Heap} {target : Expr} {body : List Stmt} {Q : Flow → Shared → Prop}
theorem letGo_asciiiter {E : Value → Shared → Prop} {target : Expr} {I : Addr} {x : Str} {t : Tok} {i : Nat} {v : Value} {Q' : Unit → Shared → Prop} {s' : Shared} (hit : s'.heap.IsStrIter I "str_ascii_iterator" x t i) (h : Q' () s') :
    wpAny (model prog w) A (letOwnedTupleGo target (.ref I) v) Q' E s' := by
  obtain ⟨o, ho, h1, h2⟩ := hit
  unfold letOwnedTupleGo
  cases target <;> first
    | exact wpAny_pure h
    | (cases v <;> first
        | exact wpAny_pure h
        | (refine wpAny_bind (wpAny_load ho ?_)
           obtain ⟨c, d⟩ := o
           simp only at h1 h2
           subst h1 h2
           exact wpAny_pure h))
theorem iter_textTurns {y : Str} {t₀ : Tok} {m₀ : Str → Option Value} {news : List (Addr × Obj)}
    (hh : A.handled = none) (ha : y.cps.all (· < 128) = true) (F : Fr h₀ env.locals s.heap m₀) (N : News h₀ env.locals s.heap news)
    (rest₀ : ∀ I : Addr, ItemsRest prog w A E h₀ env target body Q s [(I, "str_ascii_iterator")] [] (y.cps.toList.map fun (c : Nat) => .tok (.str ⟨#[c]⟩)) m₀ news) :
    wpAny (model prog w) A (pyIter (.str y t₀)) (fun it s₂ => TurnsAt prog w A h₀ env target body Q E it s₂) E s := by
  refine wpAny_pyIter_ascii ha ?_
  refine ktu_core (tk0 := s.toks) (keep := []) (KTurns.ofWalks (Walks.strAscii hh s.heap.objs.size y t₀).bound fun i v s Q E st q => letGo_asciiiter st q) (by simp) (fun i v h hp => ?_) (fun i h st => ?_) (fun b hb => ?_) (fun b hb => by simpa using hb) (fun b hb => ?_) ?_ (fun p hp hI => ?_) ?_ (F.push _) (fun p hp => ⟨Heap.get?_push_of_some _ (N p hp).1, (N p hp).2⟩) trivial (rest₀ _)
  · obtain ⟨hi, c, u, hc, rfl⟩ := hp
    exact ⟨.tok (.str ⟨#[c]⟩), by rw [List.getElem?_map, Array.getElem?_toList, hc]; rfl, u, rfl⟩
  · obtain ⟨o, ho, h1, h2⟩ := st
    exact ⟨[(s.heap.objs.size, o)], ⟨⟨rfl, h1⟩, trivial⟩, fun p hp => by rw [List.mem_singleton.mp hp]; exact ho⟩
  · have hb' : b = s.heap.objs.size := by simpa using hb
    rw [hb']
    exact ⟨List.mem_cons_self .., next_is_new F⟩
  · exact .inl (by simpa using hb)
  · intro hI
    exact absurd F.ns.lt ((List.mem_singleton.mp hI) ▸ Nat.lt_irrefl _)
  · exact absurd (Heap.lt_size (N p hp).1) ((List.mem_singleton.mp hI) ▸ Nat.lt_irrefl _)
  · exact ⟨_, Heap.get?_push_size _ rfl, rfl, rfl⟩
theorem for_text {σ : Type} {y : Str} {t₀ : Tok} {n : Nat} {m₀ : Str → Option Value} (Led : σ → List (Addr × Obj)) (ps : σ → List (Str × Value)) (Facts : Nat → σ → Prop) (stored : List Str) (c₀ : σ)
    (F : Fr h₀ env.locals s.heap m₀) (N : News h₀ env.locals s.heap (Led c₀)) (ha : y.cps.all (· < 128) = true) (hn : y.cps.size = n) (hh : A.handled = none)
    (hcls : ∀ i c, Facts i c → ∀ p ∈ Led c, p.2.cls ≠ .type "str_ascii_iterator") (hf : Facts 0 c₀) (h1 : ∀ p ∈ ps c₀, m₀ p.1 = some p.2)
    (turn : ∀ I i a c (u : Str → Option Value) t h tk o, i < n → y.cps[i]? = some a → Facts i c → o.cls = .type "str_ascii_iterator" → Fr h₀ env.locals h (kstB (fun z => if stored.contains z then u z else m₀ z) (ps c)) → News h₀ env.locals h ((I, o) :: Led c) →
      wpAny (model prog w) A (assign target env (.str ⟨#[a]⟩ t)) (fun _ s₂ => wpAny (model prog w) A (execs body env) (ForPost h₀ env.locals { s with heap := h, toks := tk } Led ps (Facts (i + 1)) stored m₀ (I, o) Q) E s₂) E { s with heap := h, toks := tk })
    (done : ∀ c (u : Str → Option Value) h tk, Facts n c → Fr h₀ env.locals h (kstB (fun z => if stored.contains z then u z else m₀ z) (ps c)) → News h₀ env.locals h (Led c) → Q .next { s with heap := h, toks := tk }) :
    wpAny (model prog w) A (pyIter (.str y t₀)) (fun it s₂ => TurnsAt prog w A h₀ env target body Q E it s₂) E s := by
  refine iter_textTurns hh ha F N fun I => ?_
  refine for_idx (keep := []) _ (by rw [List.length_map, Array.length_toList, hn]) Led ps Facts stored hcls (fun _ _ _ => trivial) (fun i a c u v h tk o hi ha hf hv ho F' N' => ?_) done c₀ m₀ hf h1 fun _ _ _ => rfl
  rw [List.getElem?_map, Array.getElem?_toList] at ha
  obtain ⟨x, hx, rfl⟩ := Option.map_eq_some_iff.mp ha
  obtain ⟨t, rfl⟩ := hv
  exact turn I i x c u t h tk o hi hx hf ho F' N'
end PFT
end JFT
section JC19
open PySem PySem.W PyProof.Rows PySem.Calls
section PC19
variable {prog : Program} {w : World} {p : Program} {loose : List Str} {mean : ExcName → Option Value} {mg mb : Str → Option Value}
set_option maxRecDepth 100000
set_option maxHeartbeats 4000000
theorem kst_num {u m₀ : Str → Option Value} {a b c : Value} {k j z : Str} (h1 : z ≠ k) (h2 : ([j] : List Str).contains z = false) :
    (if z = k then some a else if z = j then some b else kstB (fun z => if ([j] : List Str).contains z then u z else if z = k then some c else m₀ z) [(k, d)] z) = (if z = k then some c else m₀ z) := by
  have h3 := h2
  simp only [List.contains_cons, List.contains_nil, Bool.or_false, beq_eq_false_iff_ne, ne_eq] at h3
  simp [kstB, h1, h3]
theorem wd_C19_0 : True := by
  k_with "exec For Name Name cons nil" => (k_here; (have hmk9 := (show StopAt 3 by assumption)); clear hmk9; refine stop_here ?_)
  k_with "pyIter str" => (k_here; (have hmk9 := (show StopAt 3 by assumption)); clear hmk9; refine stop_here ?_)
  trivial
theorem number_0_spec (t : Nat) : Spec prog w (kf w.params) p loose mean mg mb 416 ⟨[.str "0" t], []⟩ 2 []
    (P1 (fun t => .int 0 t) (fun _ => []) (fun _ => True)) False := by
  refine' spec_of3 (rb := [("figures", .str "0" t)]) ?k1 ?k2 ?k3 ?k4 ?k5 ?k6 ?k7 ?k8 ?k9 ?_
  case k1 => k_is
  case k2 => k_is
  case k3 => first | exact fun s Xs => BindsTo.of_eq rfl | exact fun s Xs => binds_K Xs rfl (by k_is) rfl rfl rfl
  case k4 => exact locs rfl
  case k5 => exact rfl
  case k6 => exact rfl
  case k7 => exact rfl
  case k8 => decide
  case k9 => decide
  intro dp un gd envs base g L' h₁ gens drawn tk os R B F N X T lt hd hu ret exc eE aA
  k_fold
  (try k_lt lt)
  (try dsimp only)
  have hmk3 : StopAt 3 := .here
  k_steps
  unfold StopHere
  rename Fr _ _ _ _ => F9
  refine For_turns F9 ?_
  k_whole
  k_steps
  unfold StopHere
  rename Fr _ _ _ _ => F8
  rename News _ _ _ _ => N8
  refine for_text (σ := Int × Nat) (n := 1) (fun _ => []) (fun c => [("number", .int c.1 c.2)]) (fun i c => c.1 = if i = 0 then 0 else 0) ["sign"] (0, _) F8 N8 (by kernel_rfl) rfl rfl (fun _ _ _ => List.forall_mem_nil _) rfl (List.forall_mem_singleton.mpr rfl) ?_ ?_
  · rintro I i a ⟨c, tc⟩ u t8 h tk o hi hc hf ho F N
    obtain rfl : i = 0 := by omega
    obtain rfl : (48 : Nat) = a := Option.some.inj (hc.symm ▸ rfl)
    obtain rfl : c = 0 := hf
    clear F8 N8
    (try dsimp only)
    (try k_fold)
    k_steps
    all_goals
      unfold StopHere
      exact for_end (_, _) (by k_asm) (by k_asm) (.head _) (List.forall_mem_nil _) (by dsimp only; decide) (List.forall_mem_singleton.mpr rfl) (fun z h1 h2 => kst_num (h1 _ (.head _)) h2)
  · rintro ⟨c, tc⟩ u h tk hf F N
    obtain rfl : c = 0 := hf
    clear F8 N8
    (try dsimp only)
    (try k_fold)
    k_steps
    exact ret _ _ _ _ _ _ (by k_asm) (News.nil) ⟨_, rfl, rfl, trivial⟩
theorem number_1_spec (t : Nat) : Spec prog w (kf w.params) p loose mean mg mb 416 ⟨[.str "1" t], []⟩ 2 []
    (P1 (fun t => .int 1 t) (fun _ => []) (fun _ => True)) False := by
  refine' spec_of3 (rb := [("figures", .str "1" t)]) ?k1 ?k2 ?k3 ?k4 ?k5 ?k6 ?k7 ?k8 ?k9 ?_
  case k1 => k_is
  case k2 => k_is
  case k3 => first | exact fun s Xs => BindsTo.of_eq rfl | exact fun s Xs => binds_K Xs rfl (by k_is) rfl rfl rfl
  case k4 => exact locs rfl
  case k5 => exact rfl
  case k6 => exact rfl
  case k7 => exact rfl
  case k8 => decide
  case k9 => decide
  intro dp un gd envs base g L' h₁ gens drawn tk os R B F N X T lt hd hu ret exc eE aA
  k_fold
  (try k_lt lt)
  (try dsimp only)
  have hmk3 : StopAt 3 := .here
  k_steps
  unfold StopHere
  rename Fr _ _ _ _ => F9
  refine For_turns F9 ?_
  k_whole
  k_steps
  unfold StopHere
  rename Fr _ _ _ _ => F8
  rename News _ _ _ _ => N8
  refine for_text (σ := Int × Nat) (n := 1) (fun _ => []) (fun c => [("number", .int c.1 c.2)]) (fun i c => c.1 = if i = 0 then 0 else 1) ["sign"] (0, _) F8 N8 (by kernel_rfl) rfl rfl (fun _ _ _ => List.forall_mem_nil _) rfl (List.forall_mem_singleton.mpr rfl) ?_ ?_
  · rintro I i a ⟨c, tc⟩ u t8 h tk o hi hc hf ho F N
    obtain rfl : i = 0 := by omega
    obtain rfl : (49 : Nat) = a := Option.some.inj (hc.symm ▸ rfl)
    obtain rfl : c = 0 := hf
    clear F8 N8
    (try dsimp only)
    (try k_fold)
    k_steps
    all_goals
      unfold StopHere
      exact for_end (_, _) (by k_asm) (by k_asm) (.head _) (List.forall_mem_nil _) (by dsimp only; decide) (List.forall_mem_singleton.mpr rfl) (fun z h1 h2 => kst_num (h1 _ (.head _)) h2)
  · rintro ⟨c, tc⟩ u h tk hf F N
    obtain rfl : c = 1 := hf
    clear F8 N8
    (try dsimp only)
    (try k_fold)
    k_steps
    exact ret _ _ _ _ _ _ (by k_asm) (News.nil) ⟨_, rfl, rfl, trivial⟩
theorem wd_C19_1 : True := by
  k_with "call ref" => (k_here; (show wpAny _ _ (PySem.call (Value.ref 416) [_]) _ _ _); (refine' Spec.call1 (number_0_spec _) ?B ?F ?X ?N ?T rfl rfl rfl rfl ?hd ?hu ?P ?W ?_ (fun h => h.elim)); (case F => k_asm); (case N => k_asm); (case B => k_asm); (case X => k_asm); (case T => k_asm); (case hd => first | exact room_d (j := 1) hd (by decide) | exact room_d (j := 2) hd (by decide) | exact room_d (j := 3) hd (by decide) | (simp only [ar_depth, ar_units, depth_deeper, depth_mark, depth_under_make, depth_under_kw, depth_in1, units_deeper, units_in1, units_under_make, Around.mark_units]; omega)); (case hu => first | exact room_u (j := 0) hu (by decide) | exact room_u (j := 1) hu (by decide) | exact room_u (j := 2) hu (by decide) | exact room_u (j := 3) hu (by decide) | (simp only [ar_depth, ar_units, depth_deeper, depth_mark, depth_under_make, depth_under_kw, depth_in1, units_deeper, units_in1, units_under_make, Around.mark_units]; omega)); (case P => ktr_unf); (case W => tb_start); ((intro tn' h' tk' hP' F' N' l1 l2; (dsimp only [List.cons_append, List.nil_append] at N'); clear l1 l2; clear hP'; (try k_sweep); (try dsimp only))))
  k_with "call ref" => (k_here; (show wpAny _ _ (PySem.call (Value.ref 416) [_]) _ _ _); (refine' Spec.call1 (number_1_spec _) ?B ?F ?X ?N ?T rfl rfl rfl rfl ?hd ?hu ?P ?W ?_ (fun h => h.elim)); (case F => k_asm); (case N => k_asm); (case B => k_asm); (case X => k_asm); (case T => k_asm); (case hd => first | exact room_d (j := 1) hd (by decide) | exact room_d (j := 2) hd (by decide) | exact room_d (j := 3) hd (by decide) | (simp only [ar_depth, ar_units, depth_deeper, depth_mark, depth_under_make, depth_under_kw, depth_in1, units_deeper, units_in1, units_under_make, Around.mark_units]; omega)); (case hu => first | exact room_u (j := 0) hu (by decide) | exact room_u (j := 1) hu (by decide) | exact room_u (j := 2) hu (by decide) | exact room_u (j := 3) hu (by decide) | (simp only [ar_depth, ar_units, depth_deeper, depth_mark, depth_under_make, depth_under_kw, depth_in1, units_deeper, units_in1, units_under_make, Around.mark_units]; omega)); (case P => ktr_unf); (case W => tb_start); ((intro tn' h' tk' hP' F' N' l1 l2; (dsimp only [List.cons_append, List.nil_append] at N'); clear l1 l2; clear hP'; (try k_sweep); (try dsimp only))))
  trivial
theorem part_a_spec (t : Nat) : Spec prog w (kf w.params) p loose mean mg mb 423 ⟨[.str "a" t], []⟩ 4 [] (P0 .none [] True) False := by
  refine' spec_of3 (rb := [("name", .str "a" t)]) ?k1 ?k2 ?k3 ?k4 ?k5 ?k6 ?k7 ?k8 ?k9 ?_
  case k1 => k_is
  case k2 => k_is
  case k3 => first | exact fun s Xs => BindsTo.of_eq rfl | exact fun s Xs => binds_K Xs rfl (by k_is) rfl rfl rfl
  case k4 => exact locs rfl
  case k5 => exact rfl
  case k6 => exact rfl
  case k7 => exact rfl
  case k8 => decide
  case k9 => decide
  intro dp un gd envs base g L' h₁ gens drawn tk os R B F N X T lt hd hu ret exc eE aA
  k_fold
  (try k_lt lt)
  (try dsimp only)
  k_steps
  all_goals exact ret _ _ _ _ _ _ (by k_asm) (News.nil) ⟨rfl, rfl, trivial⟩
theorem part_q_spec (t : Nat) : Spec prog w (kf w.params) p loose mean mg mb 423 ⟨[.str "q" t], []⟩ 4 [] (P0 .none [] True) False := by
  refine' spec_of3 (rb := [("name", .str "q" t)]) ?k1 ?k2 ?k3 ?k4 ?k5 ?k6 ?k7 ?k8 ?k9 ?_
  case k1 => k_is
  case k2 => k_is
  case k3 => first | exact fun s Xs => BindsTo.of_eq rfl | exact fun s Xs => binds_K Xs rfl (by k_is) rfl rfl rfl
  case k4 => exact locs rfl
  case k5 => exact rfl
  case k6 => exact rfl
  case k7 => exact rfl
  case k8 => decide
  case k9 => decide
  intro dp un gd envs base g L' h₁ gens drawn tk os R B F N X T lt hd hu ret exc eE aA
  k_fold
  (try k_lt lt)
  (try dsimp only)
  k_steps
  all_goals exact ret _ _ _ _ _ _ (by k_asm) (News.nil) ⟨rfl, rfl, trivial⟩
theorem part_n_spec (t : Nat) : Spec prog w (kf w.params) p loose mean mg mb 423 ⟨[.str "n" t], []⟩ 4 [] (P0 .none [] True) False := by
  refine' spec_of3 (rb := [("name", .str "n" t)]) ?k1 ?k2 ?k3 ?k4 ?k5 ?k6 ?k7 ?k8 ?k9 ?_
  case k1 => k_is
  case k2 => k_is
  case k3 => first | exact fun s Xs => BindsTo.of_eq rfl | exact fun s Xs => binds_K Xs rfl (by k_is) rfl rfl rfl
  case k4 => exact locs rfl
  case k5 => exact rfl
  case k6 => exact rfl
  case k7 => exact rfl
  case k8 => decide
  case k9 => decide
  intro dp un gd envs base g L' h₁ gens drawn tk os R B F N X T lt hd hu ret exc eE aA
  k_fold
  (try k_lt lt)
  (try dsimp only)
  k_steps
  all_goals exact ret _ _ _ _ _ _ (by k_asm) (News.nil) ⟨rfl, rfl, trivial⟩
theorem part_filename_spec (t : Nat) : Spec prog w (kf w.params) p loose mean mg mb 423 ⟨[.str "filename" t], []⟩ 4 [] (P0 .none [] True) False := by
  refine' spec_of3 (rb := [("name", .str "filename" t)]) ?k1 ?k2 ?k3 ?k4 ?k5 ?k6 ?k7 ?k8 ?k9 ?_
  case k1 => k_is
  case k2 => k_is
  case k3 => first | exact fun s Xs => BindsTo.of_eq rfl | exact fun s Xs => binds_K Xs rfl (by k_is) rfl rfl rfl
  case k4 => exact locs rfl
  case k5 => exact rfl
  case k6 => exact rfl
  case k7 => exact rfl
  case k8 => decide
  case k9 => decide
  intro dp un gd envs base g L' h₁ gens drawn tk os R B F N X T lt hd hu ret exc eE aA
  k_fold
  (try k_lt lt)
  (try dsimp only)
  k_steps
  all_goals exact ret _ _ _ _ _ _ (by k_asm) (News.nil) ⟨rfl, rfl, trivial⟩
theorem part_c_spec (t : Nat) : Spec prog w (kf w.params) p loose mean mg mb 423 ⟨[.str "c*" t], []⟩ 4 []
    (P4 (fun D _ _ _ => .ref D) (fun D n t1 t2 => [(D, tupO [.str "c" t1, .int 0 t2, .bool true] n)]) (fun _ _ _ _ => True)) False := by
  refine' spec_of3 (rb := [("name", .str "c*" t)]) ?k1 ?k2 ?k3 ?k4 ?k5 ?k6 ?k7 ?k8 ?k9 ?_
  case k1 => k_is
  case k2 => k_is
  case k3 => first | exact fun s Xs => BindsTo.of_eq rfl | exact fun s Xs => binds_K Xs rfl (by k_is) rfl rfl rfl
  case k4 => exact locs rfl
  case k5 => exact rfl
  case k6 => exact rfl
  case k7 => exact rfl
  case k8 => decide
  case k9 => decide
  intro dp un gd envs base g L' h₁ gens drawn tk os R B F N X T lt hd hu ret exc eE aA
  k_fold
  (try k_lt lt)
  (try dsimp only)
  k_steps
  unfold qk; dsimp only
  exact ret _ _ _ _ _ _ (by k_asm) (by k_asm) ⟨_, _, _, _, rfl, rfl, trivial⟩
theorem part_l_spec (t : Nat) : Spec prog w (kf w.params) p loose mean mg mb 423 ⟨[.str "l*" t], []⟩ 4 []
    (P4 (fun D _ _ _ => .ref D) (fun D n t1 t2 => [(D, tupO [.str "l" t1, .int 0 t2, .bool true] n)]) (fun _ _ _ _ => True)) False := by
  refine' spec_of3 (rb := [("name", .str "l*" t)]) ?k1 ?k2 ?k3 ?k4 ?k5 ?k6 ?k7 ?k8 ?k9 ?_
  case k1 => k_is
  case k2 => k_is
  case k3 => first | exact fun s Xs => BindsTo.of_eq rfl | exact fun s Xs => binds_K Xs rfl (by k_is) rfl rfl rfl
  case k4 => exact locs rfl
  case k5 => exact rfl
  case k6 => exact rfl
  case k7 => exact rfl
  case k8 => decide
  case k9 => decide
  intro dp un gd envs base g L' h₁ gens drawn tk os R B F N X T lt hd hu ret exc eE aA
  k_fold
  (try k_lt lt)
  (try dsimp only)
  k_steps
  unfold qk; dsimp only
  exact ret _ _ _ _ _ _ (by k_asm) (by k_asm) ⟨_, _, _, _, rfl, rfl, trivial⟩
theorem part_p0_spec (t : Nat) : Spec prog w (kf w.params) p loose mean mg mb 423 ⟨[.str "p*0" t], []⟩ 4 []
    (P4 (fun D _ _ _ => .ref D) (fun D n t1 t2 => [(D, tupO [.str "p" t1, .int 0 t2, .bool false] n)]) (fun _ _ _ _ => True)) False := by
  refine' spec_of3 (rb := [("name", .str "p*0" t)]) ?k1 ?k2 ?k3 ?k4 ?k5 ?k6 ?k7 ?k8 ?k9 ?_
  case k1 => k_is
  case k2 => k_is
  case k3 => first | exact fun s Xs => BindsTo.of_eq rfl | exact fun s Xs => binds_K Xs rfl (by k_is) rfl rfl rfl
  case k4 => exact locs rfl
  case k5 => exact rfl
  case k6 => exact rfl
  case k7 => exact rfl
  case k8 => decide
  case k9 => decide
  intro dp un gd envs base g L' h₁ gens drawn tk os R B F N X T lt hd hu ret exc eE aA
  k_fold
  (try k_lt lt)
  (try dsimp only)
  k_steps
  unfold qk; dsimp only
  exact ret _ _ _ _ _ _ (by k_asm) (by k_asm) ⟨_, _, _, _, rfl, rfl, trivial⟩
theorem part_p1_spec (t : Nat) : Spec prog w (kf w.params) p loose mean mg mb 423 ⟨[.str "p*1" t], []⟩ 4 []
    (P4 (fun D _ _ _ => .ref D) (fun D n t1 t2 => [(D, tupO [.str "p" t1, .int 1 t2, .bool false] n)]) (fun _ _ _ _ => True)) False := by
  refine' spec_of3 (rb := [("name", .str "p*1" t)]) ?k1 ?k2 ?k3 ?k4 ?k5 ?k6 ?k7 ?k8 ?k9 ?_
  case k1 => k_is
  case k2 => k_is
  case k3 => first | exact fun s Xs => BindsTo.of_eq rfl | exact fun s Xs => binds_K Xs rfl (by k_is) rfl rfl rfl
  case k4 => exact locs rfl
  case k5 => exact rfl
  case k6 => exact rfl
  case k7 => exact rfl
  case k8 => decide
  case k9 => decide
  intro dp un gd envs base g L' h₁ gens drawn tk os R B F N X T lt hd hu ret exc eE aA
  k_fold
  (try k_lt lt)
  (try dsimp only)
  k_steps
  unfold qk; dsimp only
  exact ret _ _ _ _ _ _ (by k_asm) (by k_asm) ⟨_, _, _, _, rfl, rfl, trivial⟩
end PC19
end JC19
section JFC
open PySem PySem.W PyProof.Rows PySem.Calls
section PFC
variable {prog : Program} {w : World} {K : Frag} {p : Program} {loose : List Str} {mean : ExcName → Option Value} {mg mb : Str → Option Value} {f : Addr} {args : Args} {D : Nat}
  {Post : Nat → Value → List (Addr × Obj) → Prop} {Exc : Prop}
/-- the contract's opening for a function with cells (it owns nothing) -/
theorem spec_of_c {name qual : Str} {params : Arguments} {body : List Stmt} {scope : Scope} {dV kV doc pm cdv ct oc : Value} {an od : Option Addr} {osl : Array (Option Value)} {rb : List (Str × Value)}
    (ho : K.lookup f = some ⟨oc, od, .func (fnOf name qual params body scope dV kV doc pm an cdv ct), osl⟩) (hcd : codeIn K cdv qual = true)
    (hbind : ∀ s : Shared, K.In s.heap → BindsTo s (fnOf name qual params body scope dV kV doc pm an cdv ct) args rb.reverse)
    (hkind : (rb.reverse.all fun y => scope.names.lookup y.1 == some .local || scope.names.lookup y.1 == some .cell) = true)
    (hnd : ((cellsFrom 0 scope.names []).map (·.1)).Nodup)
    (hco : scope.isCoroutine = false) (hgen : scope.isGenerator = false) (hk : scope.kind = .function)
    (hD : 1 ≤ D)
    (h : ∀ (dp un : Nat) (gd : Option (List Code)) (envs : List Env) (base g : Heap) (L' : Addr) (h₁ : Heap) (gens : Array GenState) (drawn : Drawn) (tk : Nat) (os : OsState) (R : Result → Shared → Prop) (cells : List (Addr × Obj)),
      Below (Ar dp un gd envs) base envs g → Fr g L' h₁ (bindL (envOfC qual scope L' f cdv).kindOf rb.reverse fun _ => none) → News g L' h₁ cells →
      CellsAre (bindC (envOfC qual scope L' f cdv).kindOf rb.reverse fun _ => none) (cellsFrom (L' + 1) scope.names []) cells → K.In g → Top p loose mean mg mb g →
      dp + D < recursionLimit → un + 10 * D < cLine →
      (∀ v own' L'' m' h' tk', Fr g L'' h' m' → News g L'' h' own' → Post L' v own' → R (.ok (.ret v)) ⟨h', gens, drawn, tk', os⟩) →
      (Exc → ∀ e t vs h' tk', RaisedK base envs e (.ref 59) t vs [] h' → g.UpToSlots h' → R (.error (.ref e)) ⟨h', gens, drawn, tk', os⟩) →
      wpAny (model prog w) ((Ar dp un gd envs).deeper (envOfC qual scope L' f cdv)) (execs body (envOfC qual scope L' f cdv))
        (fun fl s' => R (.ok (.ret (match fl with | .ret v => v | _ => .none))) s')
        (fun e s' => wpAny (model prog w) ((Ar dp un gd envs).deeper (envOfC qual scope L' f cdv)) (leaving (envOfC qual scope L' f cdv) e) (fun _ s'' => R (.error e) s'') (fun e' s'' => R (.error e') s'') s')
        ⟨h₁, gens, drawn, tk, os⟩) : Spec prog w K p loose mean mg mb f args D [] Post Exc := by
  intro dp un gd envs base g s R B hst hown X T hsz hd hu ret exc
  have Xs : K.In s.heap := X.keeps hst
  refine codeAny_call_function (fd := fnOf name qual params body scope dV kV doc pm an cdv ct) ?_ (Xs _ _ ho) rfl hco hgen rfl (codeRec_of Xs hcd) ((hbind s Xs) _ _ _ _ ?_)
  · show dp < recursionLimit
    omega
  refine wpAny_newFunctionEnv_cells hk (kindsX hkind _) fun env' he s' x => ?_
  subst he
  refine ⟨((T.nolimit.keeps hst).keeps x.toInCall.keep), codeAny_func ?_⟩
  obtain ⟨h₁, tk, rfl, _⟩ := x.done
  have hk₁ := x.toInCall.keep
  obtain ⟨cells, NC, Y⟩ := Cl.news (h₀ := s.heap) (Nat.le_refl _) fun n c hm => ⟨x.cell n c (lookup_of_mem_nodup (cellsFrom_names scope.names 0 (s.heap.objs.size + 1) [] [] rfl ▸ hnd) hm), x.above n c hm⟩
  refine h dp un gd envs base g s.heap.objs.size h₁ s.gens s.drawn tk s.os R cells B ⟨x.toInCall.ns, fun b o e => hk₁ b o (hst b o e), hsz⟩ (fun q hq => ?_) Y X T hd hu (fun v own' L'' m' h' tk' F' N' hP => ret v own' h' tk' hP F'.keep fun q hq => ⟨(N' q hq).1, (N' q hq).2.2⟩) exc
  refine ⟨(NC q hq).1, (NC q hq).2.1, ?_⟩
  cases e : g.get? q.1 with
  | none => rfl
  | some o => have := hst _ _ e; rw [(NC q hq).2.2] at this; cases this
end PFC
end JFC
section JCM2
open PySem PySem.W PyProof.Rows PySem.Calls PySem.Spec
section PCM2
open LCg LCt
set_option maxHeartbeats 2000000
variable {prog : Program} {w : World} {A : Around} {E : Value → Shared → Prop} {s : Shared} {h₀ : Heap} {L : Addr} {m : Str → Option Value} {env : Env}
noncomputable def TupAt (ax : Addr) (its : Array Value) (news : List (Addr × Obj)) : Prop := False ∨ ∃ o, (ax, o) ∈ news ∧ o.cls = .type "tuple" ∧ ∃ n, o.data = .seq its n
/-- a block with one test over a written tuple: the source is reached -/
noncomputable def SrcTu (prog : Program) (w : World) (A : Around) (h₀ : Heap) (L : Addr) (m : Str → Option Value) (env : Env) (ct elt : Expr) (x : Str) (scope : Scope) (cl : List (Str × Addr)) (Fin : Shared → List Value → List (Addr × Obj) → Prop) (xv : Value) (s₁ : Shared) : Prop :=
  ∃ ax its news, xv = .ref ax ∧ A.handled = none ∧ Fr h₀ L s₁.heap m ∧ News h₀ L s₁.heap news ∧ TupAt ax its news ∧ its.size ≤ sizeLine ∧
    ∀ s₂ : Shared, (∃ h, s₂ = { s₁ with heap := h }) → CompRestT prog w A h₀ L m env ct elt x scope cl s₂ (TupAt ax its) (fun i v => its[i]? = some v) (Fin s₂) its.size 0 [] news
theorem src_tu {ct elt : Expr} {x : Str} {scope : Scope} {cl : List (Str × Addr)} {Fin : Shared → List Value → List (Addr × Obj) → Prop} {ax : Addr} {its : Array Value} {k : Nat} {news : List (Addr × Obj)} {s₁ : Shared}
    (hh : A.handled = none) (F : Fr h₀ L s₁.heap m) (N : News h₀ L s₁.heap news) (hm : (ax, ({ cls := .type "tuple", data := .seq its k } : Obj)) ∈ news) (hsz : its.size ≤ sizeLine)
    (h : ∀ g, CompRestT prog w A h₀ L m env ct elt x scope cl { s₁ with heap := g } (TupAt ax its) (fun i v => its[i]? = some v) (Fin { s₁ with heap := g }) its.size 0 [] news) :
    SrcTu prog w A h₀ L m env ct elt x scope cl Fin (.ref ax) s₁ := ⟨ax, its, news, rfl, hh, F, N, .inr ⟨_, hm, rfl, _, rfl⟩, hsz, fun _ ⟨g, e⟩ => e ▸ h g⟩
theorem comp_Tu {ct elt iter : Expr} {x : Str} {px : Pos} {scope : Scope} {cl : List (Str × Addr)} {pos : Pos} {Q : Value → Shared → Prop} (_F₀ : Fr h₀ L s.heap m)
    (hclos : closureFor scope env = pure cl) (hcell : ∀ y ∈ scope.names, y.2 ≠ .cell) (hkind : scope.kind = .function)
    (hnames : ∀ y ∈ scope.names, y.2 = .local → scope.names.lookup y.1 = some .local) (hx : scope.names.lookup x = some .local)
    (h : wpAny (model prog w) A (eval iter env) (SrcTu prog w A h₀ L m env ct elt x scope cl (fun s₂ => FinE h₀ L m s₂ Q)) E s)
    (hs : ∀ x, foldedSetIterable iter env x = pure x) :
    wpAny (model prog w) A (eval (.ListComp elt [⟨.Name x px, iter, [ct], 0⟩] scope pos) env) Q E s := by
  rw [eval_ListComp]
  refine wpAny_comprehension_free (use := none) rfl hs hclos hkind hnames (wpAny_mono h (fun xv s₁ h₁ => ?_) fun _ _ e => e)
  obtain ⟨ax, its, news, rfl, hh, F, N, hz | ⟨o, hm, hoc, k, hod⟩, hsz, R⟩ := h₁
  · exact hz.elim
  have hl : s₁.heap.IsTuple ax its := ⟨o, (N _ hm).1, hoc, k, hod⟩
  have hlt : ax < s₁.heap.objs.size := Heap.lt_size (N _ hm).1
  refine wpAny_pyIter_tuple hl ?_
  have up : ∀ b o, s₁.heap.get? b = some o → (s₁.heap.push { cls := .type "tuple_iterator", data := .fields #[.ref ax, .int 0 0] }).get? b = some o := fun b o e => Heap.get?_push_of_some _ e
  refine block_T (Walks.tuple hh s₁.heap.objs.size ax (Nat.ne_of_lt hlt) its) hsz (fun i h st => by obtain ⟨o, e, _⟩ := st.1; exact ⟨o, e⟩) (fun i h h' oI nw st e e' _ N' hS => ?_) hcell hkind hx ⟨⟨_, Heap.get?_push_size _ rfl, rfl, rfl⟩, ⟨o, up _ _ (N _ hm).1, hoc, k, hod⟩⟩ (fun b hb => ?_)
    (F.keeps up) (N.grown up) (Nat.ne_of_lt F.ns.lt) (next_is_new F) (fun p hp => Nat.ne_of_lt (Heap.lt_size (N p hp).1)) (.inr ⟨o, hm, hoc, k, hod⟩) (R _ ⟨_, rfl⟩) ?_
  · obtain ⟨⟨o', q, r⟩, _⟩ := st
    rw [e] at q; cases q
    obtain hz | ⟨o2, hm2, c2, k2, d2⟩ := hS
    · exact hz.elim
    exact ⟨⟨_, e', r⟩, ⟨o2, (N' _ hm2).1, c2, k2, d2⟩⟩
  · show b < (s₁.heap.push _).objs.size
    rw [Heap.size_push]
    rcases List.mem_cons.mp hb with rfl | hb
    · exact Nat.lt_succ_self _
    · rw [List.mem_singleton.mp hb]; exact Nat.lt_succ_of_lt hlt
  · intro D C h tk m' ys news' F' N' o1 hn hC₀ hD₀ hCL hDL hCD offC fin
    refine ⟨m', hn, fun h'' hs'' => fin D h'' tk (F'.change hs'' hCL hC₀) (fun p hp => ?_) o1⟩
    refine ⟨hs''.extBut _ _ ?_ (N' p hp).1, (N' p hp).2⟩
    rcases List.mem_cons.mp hp with rfl | hp
    · exact Ne.symm hCD
    · exact offC p hp
end PCM2
end JCM2
section JC20
open PySem PySem.W PyProof.Rows PySem.Calls
section PC20
variable {prog : Program} {w : World} {p : Program} {loose : List Str} {mean : ExcName → Option Value} {mg mb : Str → Option Value}
set_option maxRecDepth 100000
set_option maxHeartbeats 4000000
theorem wd_C20_0 : True := by
  k_with "eval ListComp" => (k_here; (have hmk9 := (show StopAt 4 by assumption)); clear hmk9; k_dflt (refine comp_Tu (hs := by intro _; rfl) (by k_asm) (by with_unfolding_all rfl) (by decide) (by rfl) (by decide) (by rfl) ?_))
  k_with "SrcTu" => (k_here; k_dflt (refine src_tu (by rfl) (by k_asm) (by k_asm) (by k_mem) (by first | size_fits | exact Nat.le_of_ble_eq_true rfl) ?_; intro g'; lct_lit))
  trivial
theorem len8_a_spec (c : Int) (t : Nat) (h0 : 0 ≤ c) (h1 : c < 128) : Spec prog w (kf w.params) p loose mean mg mb 208 ⟨[.int c t], []⟩ 2 []
    (P1 (fun t => .int 1 t) (fun _ => []) (fun _ => True)) False := by
  refine' spec_of_c (rb := [("code", .int c t)]) ?k1 ?k2 ?k3 ?k4 ?k5 ?k6 ?k7 ?k8 ?k9 ?_
  case k1 => k_is
  case k2 => k_is
  case k3 => first | exact fun s Xs => BindsTo.of_eq rfl | exact fun s Xs => binds_K Xs rfl (by k_is) rfl rfl rfl
  case k4 => exact rfl
  case k5 => decide +kernel
  case k6 => exact rfl
  case k7 => exact rfl
  case k8 => exact rfl
  case k9 => decide
  intro dp un gd envs base g L' h₁ gens drawn tk os R cells B F N Y X T hd hu ret exc
  (try dsimp only)
  k_fold
  k_cells Y
  (try dsimp only)
  have hmk4 : StopAt 4 := .here
  k_steps
  all_goals exact ret _ _ _ _ _ _ (by k_asm) (News.nil) ⟨_, rfl, rfl, trivial⟩
theorem len8_e_spec (t : Nat) : Spec prog w (kf w.params) p loose mean mg mb 208 ⟨[.int 233 t], []⟩ 2 []
    (P1 (fun t => .int 2 t) (fun _ => []) (fun _ => True)) False := by
  refine' spec_of_c (rb := [("code", .int 233 t)]) ?k1 ?k2 ?k3 ?k4 ?k5 ?k6 ?k7 ?k8 ?k9 ?_
  case k1 => k_is
  case k2 => k_is
  case k3 => first | exact fun s Xs => BindsTo.of_eq rfl | exact fun s Xs => binds_K Xs rfl (by k_is) rfl rfl rfl
  case k4 => exact rfl
  case k5 => decide +kernel
  case k6 => exact rfl
  case k7 => exact rfl
  case k8 => exact rfl
  case k9 => decide
  intro dp un gd envs base g L' h₁ gens drawn tk os R cells B F N Y X T hd hu ret exc
  (try dsimp only)
  k_fold
  k_cells Y
  (try dsimp only)
  have hmk4 : StopAt 4 := .here
  k_steps
  all_goals exact ret _ _ _ _ _ _ (by k_asm) (News.nil) ⟨_, rfl, rfl, trivial⟩
theorem wd_C20_1 : True := by
  k_with "call ref" => (k_here; (show wpAny _ _ (PySem.call (Value.ref 208) [_]) _ _ _); (refine' Spec.call1 (len8_a_spec _ _ (by assumption) (by assumption)) ?B ?F ?X ?N ?T rfl rfl rfl rfl ?hd ?hu ?P ?W ?_ (fun h => h.elim)); (case F => k_asm); (case N => k_asm); (case B => k_asm); (case X => k_asm); (case T => k_asm); (case hd => first | exact room_d (j := 1) hd (by decide) | exact room_d (j := 2) hd (by decide) | exact room_d (j := 3) hd (by decide) | (simp only [ar_depth, ar_units, depth_deeper, depth_mark, depth_under_make, depth_under_kw, depth_in1, units_deeper, units_in1, units_under_make, Around.mark_units]; omega)); (case hu => first | exact room_u (j := 0) hu (by decide) | exact room_u (j := 1) hu (by decide) | exact room_u (j := 2) hu (by decide) | exact room_u (j := 3) hu (by decide) | (simp only [ar_depth, ar_units, depth_deeper, depth_mark, depth_under_make, depth_under_kw, depth_in1, units_deeper, units_in1, units_under_make, Around.mark_units]; omega)); (case P => ktr_unf); (case W => tb_start); ((intro tz' h' tk' hP' F' N' l1 l2; (dsimp only [List.cons_append, List.nil_append] at N'); clear l1 l2; clear hP'; (try k_sweep); (try dsimp only))))
  k_with "call ref" => (k_here; (show wpAny _ _ (PySem.call (Value.ref 208) [_]) _ _ _); (refine' Spec.call1 (len8_e_spec _) ?B ?F ?X ?N ?T rfl rfl rfl rfl ?hd ?hu ?P ?W ?_ (fun h => h.elim)); (case F => k_asm); (case N => k_asm); (case B => k_asm); (case X => k_asm); (case T => k_asm); (case hd => first | exact room_d (j := 1) hd (by decide) | exact room_d (j := 2) hd (by decide) | exact room_d (j := 3) hd (by decide) | (simp only [ar_depth, ar_units, depth_deeper, depth_mark, depth_under_make, depth_under_kw, depth_in1, units_deeper, units_in1, units_under_make, Around.mark_units]; omega)); (case hu => first | exact room_u (j := 0) hu (by decide) | exact room_u (j := 1) hu (by decide) | exact room_u (j := 2) hu (by decide) | exact room_u (j := 3) hu (by decide) | (simp only [ar_depth, ar_units, depth_deeper, depth_mark, depth_under_make, depth_under_kw, depth_in1, units_deeper, units_in1, units_under_make, Around.mark_units]; omega)); (case P => ktr_unf); (case W => tb_start); ((intro tz' h' tk' hP' F' N' l1 l2; (dsimp only [List.cons_append, List.nil_append] at N'); clear l1 l2; clear hP'; (try k_sweep); (try dsimp only))))
  trivial
theorem has_a_spec (c : Int) (tc t : Nat) (h0 : 0 ≤ c) (h1 : c < 128) : Spec prog w (kf w.params) p loose mean mg mb 264 ⟨[.str utf8S tc, .int c t], []⟩ 4 [] (P0 (.bool true) [] True) False := by
  refine' spec_of3 (rb := [("code", .int c t), ("charset", .str utf8S tc)]) ?k1 ?k2 ?k3 ?k4 ?k5 ?k6 ?k7 ?k8 ?k9 ?_
  case k1 => k_is
  case k2 => k_is
  case k3 => first | exact fun s Xs => BindsTo.of_eq rfl | exact fun s Xs => binds_K Xs rfl (by k_is) rfl rfl rfl
  case k4 => exact locs rfl
  case k5 => exact rfl
  case k6 => exact rfl
  case k7 => exact rfl
  case k8 => decide
  case k9 => decide
  intro dp un gd envs base g L' h₁ gens drawn tk os R B F N X T lt hd hu ret exc eE aA
  k_fold
  (try k_lt lt)
  (try dsimp only)
  k_steps
  all_goals exact ret _ _ _ _ _ _ (by k_asm) (News.nil) ⟨rfl, rfl, trivial⟩
theorem has_e_spec (tc t : Nat) : Spec prog w (kf w.params) p loose mean mg mb 264 ⟨[.str utf8S tc, .int 233 t], []⟩ 4 [] (P0 (.bool true) [] True) False := by
  refine' spec_of3 (rb := [("code", .int 233 t), ("charset", .str utf8S tc)]) ?k1 ?k2 ?k3 ?k4 ?k5 ?k6 ?k7 ?k8 ?k9 ?_
  case k1 => k_is
  case k2 => k_is
  case k3 => first | exact fun s Xs => BindsTo.of_eq rfl | exact fun s Xs => binds_K Xs rfl (by k_is) rfl rfl rfl
  case k4 => exact locs rfl
  case k5 => exact rfl
  case k6 => exact rfl
  case k7 => exact rfl
  case k8 => decide
  case k9 => decide
  intro dp un gd envs base g L' h₁ gens drawn tk os R B F N X T lt hd hu ret exc eE aA
  k_fold
  (try k_lt lt)
  (try dsimp only)
  k_steps
  all_goals exact ret _ _ _ _ _ _ (by k_asm) (News.nil) ⟨rfl, rfl, trivial⟩
theorem wd_C20_2 : True := by
  k_with "call ref" => (k_here; (show wpAny _ _ (PySem.call (Value.ref 264) [_, _]) _ _ _); (refine' Spec.call0 (has_a_spec _ _ _ (by assumption) (by assumption)) ?B ?F ?X ?N ?T rfl rfl rfl rfl ?hd ?hu ?P ?W ?_ (fun h => h.elim)); (case F => k_asm); (case N => k_asm); (case B => k_asm); (case X => k_asm); (case T => k_asm); (case hd => first | exact room_d (j := 1) hd (by decide) | exact room_d (j := 2) hd (by decide) | exact room_d (j := 3) hd (by decide) | (simp only [ar_depth, ar_units, depth_deeper, depth_mark, depth_under_make, depth_under_kw, depth_in1, units_deeper, units_in1, units_under_make, Around.mark_units]; omega)); (case hu => first | exact room_u (j := 0) hu (by decide) | exact room_u (j := 1) hu (by decide) | exact room_u (j := 2) hu (by decide) | exact room_u (j := 3) hu (by decide) | (simp only [ar_depth, ar_units, depth_deeper, depth_mark, depth_under_make, depth_under_kw, depth_in1, units_deeper, units_in1, units_under_make, Around.mark_units]; omega)); (case P => ktr_unf); (case W => tb_start); ((intro  h' tk' hP' F' N' l1 l2; (dsimp only [List.cons_append, List.nil_append] at N'); clear l1 l2; clear hP'; (try k_sweep); (try dsimp only))))
  k_with "call ref" => (k_here; (show wpAny _ _ (PySem.call (Value.ref 264) [_, _]) _ _ _); (refine' Spec.call0 (has_e_spec _ _) ?B ?F ?X ?N ?T rfl rfl rfl rfl ?hd ?hu ?P ?W ?_ (fun h => h.elim)); (case F => k_asm); (case N => k_asm); (case B => k_asm); (case X => k_asm); (case T => k_asm); (case hd => first | exact room_d (j := 1) hd (by decide) | exact room_d (j := 2) hd (by decide) | exact room_d (j := 3) hd (by decide) | (simp only [ar_depth, ar_units, depth_deeper, depth_mark, depth_under_make, depth_under_kw, depth_in1, units_deeper, units_in1, units_under_make, Around.mark_units]; omega)); (case hu => first | exact room_u (j := 0) hu (by decide) | exact room_u (j := 1) hu (by decide) | exact room_u (j := 2) hu (by decide) | exact room_u (j := 3) hu (by decide) | (simp only [ar_depth, ar_units, depth_deeper, depth_mark, depth_under_make, depth_under_kw, depth_in1, units_deeper, units_in1, units_under_make, Around.mark_units]; omega)); (case P => ktr_unf); (case W => tb_start); ((intro  h' tk' hP' F' N' l1 l2; (dsimp only [List.cons_append, List.nil_append] at N'); clear l1 l2; clear hP'; (try k_sweep); (try dsimp only))))
  trivial
theorem oct8_a_spec (c : Int) (t : Nat) (h0 : 0 ≤ c) (h1 : c < 128) : Spec prog w (kf w.params) p loose mean mg mb 215 ⟨[.int c t], []⟩ 4 []
    (P3 (fun D _ _ => .ref D) (fun D n t1 => [(D, listOf #[.int c t1] n)]) (fun _ _ _ => True)) False := by
  refine' spec_of3 (rb := [("code", .int c t)]) ?k1 ?k2 ?k3 ?k4 ?k5 ?k6 ?k7 ?k8 ?k9 ?_
  case k1 => k_is
  case k2 => k_is
  case k3 => first | exact fun s Xs => BindsTo.of_eq rfl | exact fun s Xs => binds_K Xs rfl (by k_is) rfl rfl rfl
  case k4 => exact locs rfl
  case k5 => exact rfl
  case k6 => exact rfl
  case k7 => exact rfl
  case k8 => decide
  case k9 => decide
  intro dp un gd envs base g L' h₁ gens drawn tk os R B F N X T lt hd hu ret exc eE aA
  k_fold
  (try k_lt lt)
  (try dsimp only)
  k_steps
  rename News _ _ _ _ => N9
  exact ret _ _ _ _ _ _ (by k_asm) (fun q hq => by rw [List.mem_singleton.mp hq]; exact N9 _ (.head _)) ⟨_, 0, t, rfl, rfl, trivial⟩
structure OSt where
  o : Obj
  a : Int
  ta : Nat
theorem kst_left {u m₀ : Str → Option Value} {a b c d : Value} {k j z : Str} (h1 : z ≠ k) (h2 : ([j] : List Str).contains z = false) :
    (if z = k then some a else if z = j then some b else kstB (fun z => if ([j] : List Str).contains z then u z else if z = k then some c else m₀ z) [(k, d)] z) = (if z = k then some c else m₀ z) := kst_num h1 h2
theorem oct8_e_spec (t : Nat) : Spec prog w (kf w.params) p loose mean mg mb 215 ⟨[.int 233 t], []⟩ 4 []
    (P4 (fun D _ _ _ => .ref D) (fun D n t1 t2 => [(D, listOf #[.int 195 t1, .int 169 t2] n)]) (fun _ _ _ _ => True)) False := by
  refine' spec_of3 (rb := [("code", .int 233 t)]) ?k1 ?k2 ?k3 ?k4 ?k5 ?k6 ?k7 ?k8 ?k9 ?_
  case k1 => k_is
  case k2 => k_is
  case k3 => first | exact fun s Xs => BindsTo.of_eq rfl | exact fun s Xs => binds_K Xs rfl (by k_is) rfl rfl rfl
  case k4 => exact locs rfl
  case k5 => exact rfl
  case k6 => exact rfl
  case k7 => exact rfl
  case k8 => decide
  case k9 => decide
  intro dp un gd envs base g L' h₁ gens drawn tk os R B F N X T lt hd hu ret exc eE aA
  k_fold
  (try k_lt lt)
  (try dsimp only)
  have hmk3 : StopAt 3 := .here
  k_steps
  unfold StopHere
  rename Fr _ _ _ _ => F9
  rename News _ _ _ _ => N9
  refine For_turns F9 ?_
  k_whole
  k_steps
  unfold StopHere
  rename IsRange _ _ _ _ _ _ _ _ => hR
  rename Fr _ _ _ _ => F8
  rename News _ _ _ _ => N8
  obtain ⟨ta0, ha0⟩ := at_name F8 (x := "left") (fun t => .int 233 t) ⟨_, rfl⟩
  refine' for_range (σ := OSt) (n := 1) (fun c => [(_, c.o)]) (fun c => [("left", .int c.a c.ta)]) (fun i c => (i = 0 ∧ c.o = listOf #[] 0 ∧ c.a = 233) ∨ (0 < i ∧ ∃ t k, c.o = listOf #[.int 169 t] k ∧ c.a = 3)) ["place"] ⟨listOf #[] 0, 233, ta0⟩ rfl hR (by rfl) (by rfl) F8 N8 (fun p hp => hp) ?hc (.inl ⟨rfl, rfl, rfl⟩) (List.forall_mem_singleton.mpr ha0) ?turn ?done
  case hc =>
    rintro i c hf p hp
    rw [List.mem_singleton.mp hp]
    rcases hf with ⟨_, h, _⟩ | ⟨_, t, k, h, _⟩
    · rw [h]; simp
    · rw [h]; simp
  case turn =>
    rintro I i ⟨o, a, ta⟩ u t8 h tk oI hi hf ho F N
    obtain rfl : i = 0 := by omega
    obtain ⟨_, rfl, rfl⟩ | ⟨hz, _⟩ := hf
    rotate_left
    · exact absurd hz (Nat.lt_irrefl _)
    clear F8 N8 hR ha0
    (try dsimp only)
    (try k_fold)
    (try dsimp only at N)
    have hId := news_ne N (.head _) (.tail _ (.head _)) (fun e => by rw [e] at ho; simp at ho)
    k_steps
    unfold StopHere
    exact for_end ⟨_, _, _⟩ (by k_asm) (by k_asm) (by k_mem) (List.forall_mem_singleton.mpr (by k_mem)) (.inr ⟨by decide, _, _, rfl, rfl⟩) (List.forall_mem_singleton.mpr rfl) (fun z h1 h2 => kst_left (h1 _ (.head _)) h2)
  case done =>
    rintro ⟨o, a, ta⟩ u h tk hf F N
    obtain ⟨hz, _⟩ | ⟨_, t1, k1, rfl, rfl⟩ := hf
    · exact absurd hz (by decide)
    clear F8 N8 hR ha0
    (try dsimp only)
    (try k_fold)
    k_steps
    unfold qk; dsimp only
    rename News _ _ _ _ => N9
    exact ret _ _ _ _ _ _ (by k_asm) (fun q hq => by rw [List.mem_singleton.mp hq]; exact N9 _ (.head _)) ⟨_, 0, _, t1, rfl, rfl, trivial⟩
end PC20
end JC20
section JC21
open PySem PySem.W PyProof.Rows PySem.Calls
section PC21
variable {prog : Program} {w : World} {p : Program} {loose : List Str} {mean : ExcName → Option Value} {mg mb : Str → Option Value}
set_option maxRecDepth 100000
set_option maxHeartbeats 4000000
theorem has_e2_spec (c : Int) (tc t : Nat) (h : c = 233) : Spec prog w (kf w.params) p loose mean mg mb 264 ⟨[.str utf8S tc, .int c t], []⟩ 4 [] (P0 (.bool true) [] True) False := by subst h; exact has_e_spec _ _
theorem oct8_e2_spec (c : Int) (t : Nat) (h : c = 233) : Spec prog w (kf w.params) p loose mean mg mb 215 ⟨[.int c t], []⟩ 4 []
    (P4 (fun D _ _ _ => .ref D) (fun D n t1 t2 => [(D, listOf #[.int 195 t1, .int 169 t2] n)]) (fun _ _ _ _ => True)) False := by subst h; exact oct8_e_spec _
theorem wd_C21_0 : True := by
  k_with "call ref" => (k_here; (show wpAny _ _ (PySem.call (Value.ref 264) [_, _]) _ _ _); (refine' Spec.call0 (has_e2_spec _ _ _ (by assumption)) ?B ?F ?X ?N ?T rfl rfl rfl rfl ?hd ?hu ?P ?W ?_ (fun h => h.elim)); (case F => k_asm); (case N => k_asm); (case B => k_asm); (case X => k_asm); (case T => k_asm); (case hd => first | exact room_d (j := 1) hd (by decide) | exact room_d (j := 2) hd (by decide) | exact room_d (j := 3) hd (by decide) | (simp only [ar_depth, ar_units, depth_deeper, depth_mark, depth_under_make, depth_under_kw, depth_in1, units_deeper, units_in1, units_under_make, Around.mark_units]; omega)); (case hu => first | exact room_u (j := 0) hu (by decide) | exact room_u (j := 1) hu (by decide) | exact room_u (j := 2) hu (by decide) | exact room_u (j := 3) hu (by decide) | (simp only [ar_depth, ar_units, depth_deeper, depth_mark, depth_under_make, depth_under_kw, depth_in1, units_deeper, units_in1, units_under_make, Around.mark_units]; omega)); (case P => ktr_unf); (case W => tb_start); ((intro  h' tk' hP' F' N' l1 l2; (dsimp only [List.cons_append, List.nil_append] at N'); clear l1 l2; clear hP'; (try k_sweep); (try dsimp only))))
  k_with "call ref" => (k_here; (show wpAny _ _ (PySem.call (Value.ref 215) [_]) _ _ _); (refine' Spec.call3 (oct8_a_spec _ _ (by assumption) (by assumption)) ?B ?F ?X ?N ?T rfl rfl rfl rfl ?hd ?hu ?P ?W ?_ (fun h => h.elim)); (case F => k_asm); (case N => k_asm); (case B => k_asm); (case X => k_asm); (case T => k_asm); (case hd => first | exact room_d (j := 1) hd (by decide) | exact room_d (j := 2) hd (by decide) | exact room_d (j := 3) hd (by decide) | (simp only [ar_depth, ar_units, depth_deeper, depth_mark, depth_under_make, depth_under_kw, depth_in1, units_deeper, units_in1, units_under_make, Around.mark_units]; omega)); (case hu => first | exact room_u (j := 0) hu (by decide) | exact room_u (j := 1) hu (by decide) | exact room_u (j := 2) hu (by decide) | exact room_u (j := 3) hu (by decide) | (simp only [ar_depth, ar_units, depth_deeper, depth_mark, depth_under_make, depth_under_kw, depth_in1, units_deeper, units_in1, units_under_make, Around.mark_units]; omega)); (case P => ktr_unf); (case W => tb_start); ((intro Do' no' to1' h' tk' hP' F' N' l1 l2; (dsimp only [List.cons_append, List.nil_append] at N'); (simp only [AllLt, and_true] at l1); (simp only [Apart, ApartOne, and_true] at l2); clear hP'; (try k_sweep); (try dsimp only))))
  k_with "call ref" => (k_here; (show wpAny _ _ (PySem.call (Value.ref 215) [_]) _ _ _); (refine' Spec.call4 (oct8_e2_spec _ _ (by assumption)) ?B ?F ?X ?N ?T rfl rfl rfl rfl ?hd ?hu ?P ?W ?_ (fun h => h.elim)); (case F => k_asm); (case N => k_asm); (case B => k_asm); (case X => k_asm); (case T => k_asm); (case hd => first | exact room_d (j := 1) hd (by decide) | exact room_d (j := 2) hd (by decide) | exact room_d (j := 3) hd (by decide) | (simp only [ar_depth, ar_units, depth_deeper, depth_mark, depth_under_make, depth_under_kw, depth_in1, units_deeper, units_in1, units_under_make, Around.mark_units]; omega)); (case hu => first | exact room_u (j := 0) hu (by decide) | exact room_u (j := 1) hu (by decide) | exact room_u (j := 2) hu (by decide) | exact room_u (j := 3) hu (by decide) | (simp only [ar_depth, ar_units, depth_deeper, depth_mark, depth_under_make, depth_under_kw, depth_in1, units_deeper, units_in1, units_under_make, Around.mark_units]; omega)); (case P => ktr_unf); (case W => tb_start); ((intro Do' no' to1' to2' h' tk' hP' F' N' l1 l2; (dsimp only [List.cons_append, List.nil_append] at N'); (simp only [AllLt, and_true] at l1); (simp only [Apart, ApartOne, and_true] at l2); clear hP'; (try k_sweep); (try dsimp only))))
  trivial
noncomputable def u8I (c : Nat) : List Int := if c < 128 then [(c : Int)] else [195, 169]
noncomputable abbrev u8L (l : List Nat) : List Int := l.flatMap u8I
theorem u8_len : ∀ l : List Nat, (u8L l).length ≤ 2 * l.length
  | [] => Nat.le_refl _
  | c :: l => by
    have := u8_len l
    unfold u8L at this ⊢
    rw [List.flatMap_cons, List.length_append, List.length_cons]
    unfold u8I at this ⊢
    split <;> simp only [List.length_cons, List.length_nil] <;> omega
theorem u8L_in {l : List Nat} : KBa.In (u8L l) := by
  intro n hn
  obtain ⟨c, _, hc⟩ := List.mem_flatMap.mp hn
  unfold u8I at hc
  split at hc
  · rw [List.mem_singleton.mp hc]; exact ⟨by omega, by omega⟩
  · rcases List.mem_cons.mp hc with rfl | hc
    · exact ⟨by decide, by decide⟩
    · rw [List.mem_singleton.mp hc]; exact ⟨by decide, by decide⟩
theorem take_next {x : Array Nat} {i : Nat} (hi : i < x.size) : x.toList.take (i + 1) = x.toList.take i ++ [x.getD (0 + (i : Int)).toNat 0] := by
  have e : (0 + (i : Int)).toNat = i := by omega
  rw [List.take_add_one, e]
  congr 1
  simp [Array.getD, hi]
theorem u8_a {x : Array Nat} {i : Nat} {vs : List Value} {t : Tok} (hi : i < x.size) (h : ((x.getD (0 + (i : Int)).toNat 0 : Nat) : Int) < 128) (hv : IntsAre vs (u8L (x.toList.take i))) : IntsAre (vs ++ [.int ((x.getD (0 + (i : Int)).toNat 0 : Nat) : Int) t]) (u8L (x.toList.take (i + 1))) := by
  rw [take_next hi, u8L, List.flatMap_append, List.flatMap_singleton]
  refine hv.append ?_
  rw [u8I, if_pos (by omega)]
  exact .cons _ _ .nil
theorem u8_e {x : Array Nat} {i : Nat} {vs : List Value} {t u : Tok} (hi : i < x.size) (h : ((x.getD (0 + (i : Int)).toNat 0 : Nat) : Int) = 233) (hv : IntsAre vs (u8L (x.toList.take i))) : IntsAre (vs ++ [.int 195 t, .int 169 u]) (u8L (x.toList.take (i + 1))) := by
  rw [take_next hi, u8L, List.flatMap_append, List.flatMap_singleton]
  refine hv.append ?_
  rw [u8I, if_neg (by omega)]
  exact .cons _ _ (.cons _ _ .nil)
theorem nth_or {l : Array Nat} {i : Nat} (h : ∀ c ∈ l.toList, c < 128 ∨ c = 233) (hi : i < l.size) : ((l.getD (0 + (i : Int)).toNat 0 : Nat) : Int) < 128 ∨ ((l.getD (0 + (i : Int)).toNat 0 : Nat) : Int) = 233 := by
  have e : (0 + (i : Int)).toNat = i := by omega
  rw [e]
  have : l.getD i 0 = l[i] := by simp [Array.getD, hi]
  rw [this]
  rcases h _ (Array.getElem_mem_toList hi) with q | q
  · exact .inl (by omega)
  · exact .inr (by omega)
theorem u8_room {x : Array Nat} {i : Nat} {vs : List Value} (hz : x.size ≤ 4000) (hv : IntsAre vs (u8L (x.toList.take i))) : vs.length ≤ 8000 := by
  have h1 := hv.length
  have h2 := u8_len (x.toList.take i)
  have h3 : (x.toList.take i).length ≤ x.size := Nat.le_trans (List.length_take_le' ..) (Nat.le_of_eq Array.length_toList)
  omega
theorem ext_ints {A : Around} {E : Value → Shared → Prop} {s : Shared} {h₀ : Heap} {L D b : Addr} {m : Str → Option Value} {news news' : List (Addr × Obj)} {vs ws : List Value} {n n2 : Nat} {Q : Value → Shared → Prop} (F : Fr h₀ L s.heap m) (N : News h₀ L s.heap news) (hb : (b, listOf ws.toArray n2) ∈ news) (hne : ws.length ≠ 0)
    (hz : vs.length ≤ 8000) (hw : ws.length ≤ 8000) (U : Upd D (listOf vs.toArray n) (listOf (vs ++ ws).toArray (n + 1)) news news')
    (h : ∀ h', Fr h₀ L h' m → News h₀ L h' news' → Q .none { s with heap := h' }) : wpAny (model prog w) A (PySem.call (.builtin "list.extend") [.ref D, .ref b]) Q E s := by
  refine PySem.W.kl_extend F N hb rfl hne U ?_ ?_ ?_ h
  · unfold Builtin.List.listTooLong
    simp only [List.size_toArray, sizeLine_eq]
    rw [decide_eq_false (by omega)]
    simp
  · rw [sizeLine_eq]
    show vs.length ≤ _
    omega
  · simp only [List.size_toArray, sizeLine_eq]
    omega
theorem wd_C21_1 : True := by
  k_with "call builtin:list.extend" => (k_here; (with_reducible show wpAny _ _ (PySem.call (Value.builtin _) [Value.ref _, Value.ref _]) _ _ _); (refine' ext_ints ?F ?N ?b ?ne ?z ?y ?U ?_; (case F => k_asm); (case N => k_asm); (case b => k_mem); (case U => k_upd); (case ne => exact Nat.succ_ne_zero _); (case z => exact u8_room (by assumption) (by assumption)); (case y => exact Nat.le_of_ble_eq_true rfl); k_whole); intro h' F' N'; (try dsimp only at N'); (try k_sweep))
  trivial
theorem kst_2 {u m₀ : Str → Option Value} {a b : Value} {j k z : Str} (h2 : ([j, k] : List Str).contains z = false) :
    (if z = k then some a else if z = j then some b else kstB (fun z => if ([j, k] : List Str).contains z then u z else m₀ z) [] z) = m₀ z := by
  have h3 := h2
  simp only [List.contains_cons, List.contains_nil, Bool.or_false, Bool.or_eq_false_iff, beq_eq_false_iff_ne, ne_eq] at h3
  simp [kstB, h3]
structure IL where
  vs : List Value
  n : Nat
theorem octets_in_spec (x : Str) (tc t : Nat) (hz : x.cps.size ≤ 4000) (hx : ∀ c ∈ x.cps.toList, c < 128 ∨ c = 233) : Spec prog w (kf w.params) p loose mean mg mb 271 ⟨[.str utf8S tc, .str x t], []⟩ 6 []
    (P1 (fun t' => .bytes (byteArr (u8L x.cps.toList)) t') (fun _ => []) (fun _ => True)) False := by
  refine' spec_of3 (rb := [("text", .str x t), ("charset", .str utf8S tc)]) ?k1 ?k2 ?k3 ?k4 ?k5 ?k6 ?k7 ?k8 ?k9 ?_
  case k1 => k_is
  case k2 => k_is
  case k3 => first | exact fun s Xs => BindsTo.of_eq rfl | exact fun s Xs => binds_K Xs rfl (by k_is) rfl rfl rfl
  case k4 => exact locs rfl
  case k5 => exact rfl
  case k6 => exact rfl
  case k7 => exact rfl
  case k8 => decide
  case k9 => decide
  intro dp un gd envs base g L' h₁ gens drawn tk os R B F N X T lt hd hu ret exc eE aA
  k_fold
  (try k_lt lt)
  (try dsimp only)
  have hmk3 : StopAt 3 := .here
  k_steps
  unfold StopHere
  rename Fr _ _ _ _ => F9
  rename News _ _ _ _ => N9
  refine For_turns F9 ?_
  k_whole
  k_steps
  unfold StopHere
  rename IsRange _ _ _ _ _ _ _ _ => hR
  rename Fr _ _ _ _ => F8
  rename News _ _ _ _ => N8
  refine' for_range (σ := IL) (n := x.cps.size) (fun c => [(_, listOf c.vs.toArray c.n)]) (fun _ => []) (fun i c => IntsAre c.vs (u8L (x.cps.toList.take i))) ["at", "code"] ⟨[], 0⟩ rfl hR (range_small hz) (range_size _) F8 N8 (fun p hp => hp) ?hc .nil (List.forall_mem_nil _) ?turn ?done
  case hc =>
    intro i c hf p hp
    rw [List.mem_singleton.mp hp]
    simp
  case turn =>
    intro I i c u t8 h tk o hi hf ho F N
    clear F8 N8 hR
    have hc := nth_or hx hi
    have hc0 : (0 : Int) ≤ ((x.cps.getD (0 + (i : Int)).toNat 0 : Nat) : Int) := Int.natCast_nonneg _
    (try dsimp only)
    (try k_fold)
    have hId := news_ne N (.head _) (.tail _ (.head _)) (fun e => by rw [e] at ho; simp at ho)
    rcases hc with hc | hc
    · k_steps
      unfold StopHere
      exact for_end ⟨_, _⟩ (by k_asm) (by k_asm) (by k_mem) (List.forall_mem_singleton.mpr (by k_mem)) (u8_a hi hc hf) (List.forall_mem_nil _) (fun z _ hz => kst_2 hz)
    · k_steps
      unfold StopHere
      exact for_end ⟨_, _⟩ (by k_asm) (by k_asm) (by k_mem) (List.forall_mem_singleton.mpr (by k_mem)) (u8_e hi hc hf) (List.forall_mem_nil _) (fun z _ hz => kst_2 hz)
  case done =>
    intro c u h tk hf F N
    clear F8 N8 hR
    (try dsimp only)
    (try k_fold)
    k_steps
    rw [show x.cps.toList.take x.cps.size = x.cps.toList from List.take_of_length_le (by rw [Array.length_toList]; exact Nat.le_refl _)] at hf
    refine bytes_of (by assumption) (by assumption) rfl (.head _) hf u8L_in (Nat.le_trans (u8_len _) (by rw [Array.length_toList]; omega)) ?_
    intro h3 t3 k3 F3 N3 _
    unfold qk; dsimp only
    exact ret _ _ _ _ _ _ F3 (News.nil) ⟨_, rfl, rfl, trivial⟩
end PC21
end JC21
section JPE
open PySem PySem.W PyProof.Rows PySem.Calls Builtin
section PPE
set_option maxRecDepth 100000
open BM
/-- a text without its line ends -/
noncomputable def joinL : List UInt8 → List UInt8
  | [] => []
  | c :: r => if c = 10 then joinL r else if c = 13 ∧ r.head? = some 10 then joinL r else c :: joinL r
theorem join_no {l : List UInt8} (h : ∀ c ∈ l, c ≠ 10) : joinL l = l := by
  induction l with
  | nil => rfl
  | cons c r ih =>
    have h1 : r.head? ≠ some 10 := by
      intro e
      rcases r with _ | ⟨d, r⟩
      · cases e
      · exact h d (.tail _ (.head _)) (Option.some.inj e)
    rw [joinL, if_neg (h c (.head _)), if_neg (fun e => h1 e.2), ih fun d hd => h d (.tail _ hd)]
theorem join_cut {r : List UInt8} : ∀ {l : List UInt8}, (∀ c ∈ l, c ≠ 10) → joinL (l ++ 10 :: r) = (if l.getLast? = some 13 then l.dropLast else l) ++ joinL r
  | [], _ => by rw [List.nil_append, joinL, if_pos rfl]; rfl
  | [c], h => by
    rw [List.singleton_append, joinL, if_neg (h c (.head _))]
    by_cases e : c = 13
    · subst e
      rw [if_pos ⟨rfl, rfl⟩, joinL, if_pos rfl]; rfl
    · have e2 : [c].getLast? ≠ some 13 := fun q => e (Option.some.inj q)
      rw [if_neg (fun q => e q.1), joinL, if_pos rfl, if_neg e2]; rfl
  | c :: d :: l, h => by
    have ih := join_cut (r := r) (l := d :: l) fun x hx => h x (.tail _ hx)
    rw [List.cons_append, joinL, if_neg (h c (.head _)), if_neg (fun q => h d (.tail _ (.head _)) (Option.some.inj q.2)), ih]
    rw [List.getLast?_cons_cons]
    split
    · rfl
    · rfl
theorem ext_one {b : Array UInt8} {i : Nat} (h : i < b.size) : (b.extract i (i + 1) == #[10]) = (b[i] == 10) := by
  have e : b.extract i (i + 1) = #[b[i]] := by
    apply Array.ext'
    rw [Array.toList_extract, List.extract_eq_drop_take, show i + 1 - i = 1 from Nat.add_sub_cancel_left _ _]
    rw [List.drop_eq_getElem_cons (by rw [Array.length_toList]; exact h)]
    simp
  rw [e]
  rw [Bool.eq_iff_iff]
  simp
theorem find_ind (b : Array UInt8) : ∀ (n lo : Nat), lo + n = b.size → match (List.range' lo n).find? fun i => b.extract i (i + 1) == #[10] with
    | none => ∀ c ∈ b.toList.drop lo, c ≠ 10
    | some i => lo ≤ i ∧ i < b.size ∧ ∃ l, b.toList.drop lo = l ++ 10 :: b.toList.drop (i + 1) ∧ l.length = i - lo ∧ ∀ c ∈ l, c ≠ 10
  | 0, lo, h => by
    show ∀ c ∈ b.toList.drop lo, c ≠ 10
    rw [List.drop_of_length_le (by rw [Array.length_toList]; exact Nat.le_of_eq h.symm)]
    intro c hc; nomatch hc
  | n + 1, lo, h => by
    have hlo : lo < b.size := h ▸ Nat.lt_add_of_pos_right (Nat.succ_pos n)
    have ih := find_ind b n (lo + 1) ((Nat.succ_add_eq_add_succ lo n).trans h)
    have e : b.toList.drop lo = b[lo] :: b.toList.drop (lo + 1) := by
      rw [List.drop_eq_getElem_cons (by rw [Array.length_toList]; exact hlo)]; simp
    rw [List.range'_succ, List.find?_cons, ext_one hlo, e]
    by_cases q : b[lo] = 10
    · rw [beq_iff_eq.mpr q]
      exact ⟨Nat.le_refl _, hlo, [], by rw [q]; rfl, by simp, fun c hc => nomatch hc⟩
    · rw [beq_eq_false_iff_ne.mpr q]
      dsimp only
      split at ih
      · rename_i heq
        rw [heq]
        intro c hc
        rcases List.mem_cons.mp hc with rfl | hc
        · exact q
        · exact ih c hc
      · rename_i heq
        rw [heq]
        obtain ⟨h1, h2, l, h3, h4, h5⟩ := ih
        refine ⟨Nat.le_of_succ_le h1, h2, b[lo] :: l, by rw [h3]; rfl, by rw [List.length_cons, h4, Nat.sub_add_eq]; exact Nat.sub_add_cancel (Nat.le_sub_of_add_le (Nat.add_comm 1 lo ▸ h1)), fun c hc => ?_⟩
        rcases List.mem_cons.mp hc with rfl | hc
        · exact q
        · exact h5 c hc
noncomputable def nlI (b : Array UInt8) (a : Int) : Int := findI b #[10] a.toNat b.size
theorem nl_all {b : Array UInt8} {a : Int} (h0 : 0 ≤ a) (h1 : a ≤ (b.size : Int)) : (nlI b a = -1 ∧ ∀ c ∈ suf b a, c ≠ 10) ∨ (a ≤ nlI b a ∧ nlI b a < (b.size : Int) ∧ ∃ l, suf b a = l ++ 10 :: suf b (nlI b a + 1) ∧ (l.length : Int) = nlI b a - a ∧ ∀ c ∈ l, c ≠ 10) := by
  have h := find_ind b (b.size - a.toNat) a.toNat (Nat.add_sub_of_le (Int.toNat_le.mpr h1))
  unfold nlI findI Bytes.find?
  rw [show b.size + 1 - (a.toNat + (#[10] : Array UInt8).size) = b.size - a.toNat from Nat.add_sub_add_right _ _ _, show (List.range (b.size - a.toNat)).map (· + a.toNat) = List.range' a.toNat (b.size - a.toNat) by rw [List.range_eq_range', show (fun x => x + a.toNat) = (a.toNat + ·) from funext fun x => Nat.add_comm _ _, List.map_add_range', Nat.add_zero]]
  show _ ∨ _
  rw [show (fun i => b.extract i (i + (#[10] : Array UInt8).size) == #[10]) = fun i => b.extract i (i + 1) == #[10] from rfl]
  split at h
  · rename_i e
    rw [e]
    exact .inl ⟨rfl, h⟩
  · rename_i i e
    rw [e]
    obtain ⟨h2, h3, l, h4, h5, h6⟩ := h
    refine .inr ⟨Int.toNat_le.mp h2, Int.ofNat_lt.mpr h3, l, ?_, by dsimp only; rw [h5, Int.ofNat_sub h2, Int.toNat_of_nonneg h0], h6⟩
    unfold suf
    rw [show ((i : Int) + 1).toNat = i + 1 from rfl]
    exact h4
theorem sl_all {b : Array UInt8} {a : Int} (h0 : 0 ≤ a) : (sl b a (b.size : Int)).toList = suf b a := by
  unfold sl
  show (suf b a).take _ = _
  rw [List.take_of_length_le]
  rw [suf_length]; exact Nat.le_refl _
theorem nl_neg {b : Array UInt8} {a : Int} (h0 : 0 ≤ a) (h1 : a ≤ (b.size : Int)) (h : nlI b a < 0) : joinL (suf b a) = (sl b a (b.size : Int)).toList := by
  rcases nl_all h0 h1 with ⟨_, q⟩ | ⟨q, _⟩
  · rw [join_no q, sl_all h0]
  · k_extra "omegb"
theorem nl_in {b : Array UInt8} {a : Int} (h0 : 0 ≤ a) (h1 : a ≤ (b.size : Int)) (h : ¬ nlI b a < 0) : a ≤ nlI b a ∧ nlI b a < (b.size : Int) := by
  rcases nl_all h0 h1 with ⟨q, _⟩ | ⟨q1, q2, _⟩
  · k_extra "omegb"
  · exact ⟨q1, q2⟩
theorem sl_pre {b : Array UInt8} {a j : Int} {l r : List UInt8} (h0 : 0 ≤ a) (h : suf b a = l ++ r) (hj : j = a + (l.length : Int)) : (sl b a j).toList = l := by
  unfold sl
  show (suf b a).take _ = _
  subst hj
  rw [h, tn_sub l.length h0, List.take_left']
  rfl
theorem last_is {b : Array UInt8} {a j : Int} {l r : List UInt8} (h0 : 0 ≤ a) (h : suf b a = l ++ r) (hj : j = a + (l.length : Int)) (hl : a < j) : l.getLast? = some (b.getD (j - 1).toNat 0) := by
  have hp : 0 < l.length := Int.natCast_pos.mp (Int.lt_of_add_lt_add_left (a := a) (by rw [Int.add_zero, ← hj]; exact hl))
  obtain ⟨k, hk⟩ := Nat.exists_eq_succ_of_ne_zero (Nat.ne_of_gt hp)
  have e0 : j - 1 = a + (k : Int) := by
    rw [hj, hk, show ((k.succ : Nat) : Int) = k + 1 from rfl, ← Int.add_assoc]; exact Int.add_sub_cancel _ _
  have e1 : l.getLast? = l[k]? := by rw [List.getLast?_eq_getElem?, hk]; rfl
  have e2 : (suf b a)[k]? = l[k]? := by rw [h, List.getElem?_append_left (hk ▸ Nat.lt_succ_self k)]
  rw [e1, ← e2, e0, tn_add k h0]
  unfold suf
  rw [List.getElem?_drop]
  have hlt : a.toNat + k < b.size := by
    have := congrArg List.length h
    rw [suf_length, List.length_append, hk] at this
    exact Nat.add_lt_of_lt_sub' (this ▸ Nat.lt_of_lt_of_le (Nat.lt_succ_self k) (Nat.le_add_right _ _))
  simp only [Array.getD, hlt, dif_pos, Array.getElem?_toList, getElem?_pos]
  rfl
theorem nl_13 {b : Array UInt8} {a : Int} (h0 : 0 ≤ a) (h1 : a ≤ (b.size : Int)) (h : ¬ nlI b a < 0) (hg : a < nlI b a) (h13 : ((b.getD (nlI b a - 1).toNat 0).toNat : Int) = 13) : joinL (suf b a) = (sl b a (nlI b a - 1)).toList ++ joinL (suf b (nlI b a + 1)) := by
  rcases nl_all h0 h1 with ⟨q, _⟩ | ⟨q1, q2, l, q3, q4, q5⟩
  · k_extra "omegb"
  · have e := last_is h0 q3 (by k_extra "omegb") hg
    rw [u8 (n := 13) h13] at e
    have hl : l = l.dropLast ++ [13] := by
      obtain ⟨l', rfl⟩ := List.getLast?_eq_some_iff.mp e
      rw [List.dropLast_concat]; rfl
    rw [q3, join_cut q5, if_pos (show l.getLast? = some 13 from e)]
    congr 1
    refine (sl_pre (r := 13 :: 10 :: suf b (nlI b a + 1)) h0 ?_ ?_).symm
    · rw [q3]; rw [hl] ; simp
    · rw [List.length_dropLast]; k_extra "omegb"
theorem nl_no {b : Array UInt8} {a : Int} (h0 : 0 ≤ a) (h1 : a ≤ (b.size : Int)) (h : ¬ nlI b a < 0) (hg : ¬ a < nlI b a ∨ ((b.getD (nlI b a - 1).toNat 0).toNat : Int) ≠ 13) : joinL (suf b a) = (sl b a (nlI b a)).toList ++ joinL (suf b (nlI b a + 1)) := by
  rcases nl_all h0 h1 with ⟨q, _⟩ | ⟨q1, q2, l, q3, q4, q5⟩
  · k_extra "omegb"
  · rw [q3, join_cut q5, if_neg, sl_pre h0 q3 (by k_extra "omegb")]
    intro e
    by_cases hz : a < nlI b a
    · have e2 := last_is h0 q3 (by k_extra "omegb") hz
      rw [e] at e2
      rcases hg with hg | hg
      · exact hg hz
      · exact hg (by rw [← Option.some.inj e2]; rfl)
    · have : l = [] := List.eq_nil_of_length_eq_zero (by k_extra "omegb")
      rw [this] at e; cases e
section
variable {prog : Program} {w : World} {A : Around} {E : Value → Shared → Prop} {s : Shared} {Q : Value → Shared → Prop} {b : Array UInt8} {t u v x : Tok} {a : Int}
theorem find_call (h0 : 0 ≤ a) (h1 : a ≤ (b.size : Int)) (h : ∀ t' k, Q (.int (nlI b a) t') { s with toks := k }) : wpAny (model prog w) A (PySem.call (.builtin "bytes.find") [.bytes b t, .bytes #[10] u, .int a v, .int (b.size : Int) x]) Q E s := by
  obtain ⟨n, rfl⟩ := Int.eq_ofNat_of_zero_le h0
  exact call_meets slot_find (typeIs_bytes _ _ _) entry_find (args_find _ _ _ _) (meets_find b #[10] t u v x n b.size (by k_extra "omegb") (Nat.le_refl _) rfl (by k_extra "omegb")) (fun t' k => h t' k)
theorem strip_call {set : Array UInt8} (hz : b.size ≤ 16777216) (h : ∀ t' k, Q (.bytes (stripB b set) t') { s with toks := k }) : wpAny (model prog w) A (PySem.call (.builtin "bytes.strip") [.bytes b t, .bytes set u]) Q E s :=
  call_meets slot_strip (typeIs_bytes _ _ _) entry_strip (args_strip _ _) (meets_strip b set t u hz) (fun t' k => h t' k)
end
end PPE
end JPE
section JC22
open PySem PySem.W PyProof.Rows PySem.Calls
section PC22
variable {prog : Program} {w : World} {p : Program} {loose : List Str} {mean : ExcName → Option Value} {mg mb : Str → Option Value}
set_option maxRecDepth 100000
set_option maxHeartbeats 4000000
theorem wd_C22_0 : True := by
  k_with "getMethod bytes" => (k_here; (show wpAny _ _ (getMethod (Value.bytes _ _) "find" _) _ _ _); refine BM.m_find ?_)
  k_with "getMethod bytes" => (k_here; (show wpAny _ _ (getMethod (Value.bytes _ _) "strip" _) _ _ _); refine BM.m_strip ?_)
  k_with "call builtin:bytes.find" => (k_here; refine find_call (by assumption) (by assumption) ?_; intro _ _)
  k_with "subscriptTail Name BinOp bytes int" => (k_here; (show wpAny _ _ (subscriptTail _ _ (Value.bytes _ _) (Value.int (nlI _ _ - 1) _)) _ _ _); refine item_b (hs := by with_unfolding_all rfl) (ht := by intro _; with_unfolding_all rfl) (by first | assumption | k_extra "omegb") (by first | assumption | k_extra "omegb") (by k_extra "omegb") ?_; intro _ _)
  trivial
theorem lp1 {b : Array UInt8} {a : Int} (h0 : 0 ≤ a) (h1 : a ≤ (b.size : Int)) (h : ¬ nlI b a < 0) (hg : a < nlI b a) (h13 : ((b.getD (nlI b a - 1).toNat 0).toNat : Int) = 13) : 0 ≤ nlI b a - 1 ∧ nlI b a - 1 < (b.size : Int) ∧ a < nlI b a + 1 ∧ nlI b a + 1 ≤ (b.size : Int) ∧ joinL (suf b a) = (sl b a (nlI b a - 1)).toList ++ joinL (suf b (nlI b a + 1)) := by
  obtain ⟨h2, h3⟩ := nl_in h0 h1 h
  exact ⟨by k_extra "omegb", by k_extra "omegb", by k_extra "omegb", by k_extra "omegb", nl_13 h0 h1 h hg h13⟩
theorem lp2 {b : Array UInt8} {a : Int} (h0 : 0 ≤ a) (h1 : a ≤ (b.size : Int)) (h : ¬ nlI b a < 0) (hg : ¬ a < nlI b a ∨ ((b.getD (nlI b a - 1).toNat 0).toNat : Int) ≠ 13) : 0 ≤ nlI b a ∧ nlI b a < (b.size : Int) ∧ a < nlI b a + 1 ∧ nlI b a + 1 ≤ (b.size : Int) ∧ joinL (suf b a) = (sl b a (nlI b a)).toList ++ joinL (suf b (nlI b a + 1)) := by
  obtain ⟨h2, h3⟩ := nl_in h0 h1 h
  exact ⟨by k_extra "omegb", by k_extra "omegb", by k_extra "omegb", by k_extra "omegb", nl_no h0 h1 h hg⟩
theorem line_at_spec (b : Array UInt8) (tb : Nat) (a : Int) (t te : Nat) (hb : b.size ≤ 4000) (h0 : 0 ≤ a) (h1 : a ≤ (b.size : Int)) : Spec prog w (kf w.params) p loose mean mg mb 311 ⟨[.bytes b tb, .int a t, .int (b.size : Int) te], []⟩ 2 []
    (P6 (fun D _ _ _ _ _ => .ref D) (fun D n l r t1 t2 => [(D, tupO [.int l t1, .int r t2] n)]) (fun _ _ l r _ _ => (l = (b.size : Int) ∧ joinL (suf b a) = (sl b a l).toList) ∨ (0 ≤ l ∧ l < (b.size : Int) ∧ a < r ∧ r ≤ (b.size : Int) ∧ joinL (suf b a) = (sl b a l).toList ++ joinL (suf b r)))) False := by
  refine' spec_of3 (rb := [("end", .int (b.size : Int) te), ("at", .int a t), ("data", .bytes b tb)]) ?k1 ?k2 ?k3 ?k4 ?k5 ?k6 ?k7 ?k8 ?k9 ?_
  case k1 => k_is
  case k2 => k_is
  case k3 => first | exact fun s Xs => BindsTo.of_eq rfl | exact fun s Xs => binds_K Xs rfl (by k_is) rfl rfl rfl
  case k4 => exact locs rfl
  case k5 => exact rfl
  case k6 => exact rfl
  case k7 => exact rfl
  case k8 => decide
  case k9 => decide
  intro dp un gd envs base g L' h₁ gens drawn tk os R B F N X T lt hd hu ret exc eE aA
  k_fold
  (try k_lt lt)
  (try dsimp only)
  rcases Int.lt_or_le (nlI b a) 0 with hn | hn
  · k_steps
    exact ret _ _ _ _ _ _ (by k_asm) (by k_asm) ⟨_, _, _, _, _, _, rfl, rfl, .inl ⟨rfl, nl_neg h0 h1 hn⟩⟩
  · have hn' : ¬ nlI b a < 0 := by k_extra "omegb"
    obtain ⟨hn1, hn2⟩ := nl_in h0 h1 hn'
    k_steps
    all_goals
      unfold qk; dsimp only
      first
        | exact ret _ _ _ _ _ _ (by k_asm) (by k_asm) ⟨_, _, _, _, _, _, rfl, rfl, .inr (lp1 h0 h1 hn' (by assumption) (by assumption))⟩
        | exact ret _ _ _ _ _ _ (by k_asm) (by k_asm) ⟨_, _, _, _, _, _, rfl, rfl, .inr (lp2 h0 h1 hn' (.inr (by assumption)))⟩
        | exact ret _ _ _ _ _ _ (by k_asm) (by k_asm) ⟨_, _, _, _, _, _, rfl, rfl, .inr (lp2 h0 h1 hn' (.inl (by assumption)))⟩
theorem wd_C22_1 : True := by
  k_with "call ref" => (k_here; (show wpAny _ _ (PySem.call (Value.ref 311) [_, _, _]) _ _ _); (refine' Spec.call6 (line_at_spec _ _ _ _ _ (by assumption) (by assumption) (by assumption)) ?B ?F ?X ?N ?T rfl rfl rfl rfl ?hd ?hu ?P ?W ?_ (fun h => h.elim)); (case F => k_asm); (case N => k_asm); (case B => k_asm); (case X => k_asm); (case T => k_asm); (case hd => first | exact room_d (j := 1) hd (by decide) | exact room_d (j := 2) hd (by decide) | exact room_d (j := 3) hd (by decide) | (simp only [ar_depth, ar_units, depth_deeper, depth_mark, depth_under_make, depth_under_kw, depth_in1, units_deeper, units_in1, units_under_make, Around.mark_units]; k_extra "omegb")); (case hu => first | exact room_u (j := 0) hu (by decide) | exact room_u (j := 1) hu (by decide) | exact room_u (j := 2) hu (by decide) | exact room_u (j := 3) hu (by decide) | (simp only [ar_depth, ar_units, depth_deeper, depth_mark, depth_under_make, depth_under_kw, depth_in1, units_deeper, units_in1, units_under_make, Around.mark_units]; k_extra "omegb")); (case P => ktr_unf); (case W => tb_start); ((intro Dl' nlx' el' rl' tl1' tl2' h' tk' hP' F' N' l1 l2; (dsimp only [List.cons_append, List.nil_append] at N'); (simp only [AllLt, and_true] at l1); (simp only [Apart, ApartOne, and_true] at l2); (obtain hl1' := hP'); (try k_sweep); (try dsimp only))))
  trivial
theorem join_len : ∀ l : List UInt8, (joinL l).length ≤ l.length
  | [] => Nat.le_refl _
  | c :: r => by
    have := join_len r
    rw [joinL]
    split
    · rw [List.length_cons]; k_extra "omegb"
    · split
      · rw [List.length_cons]; k_extra "omegb"
      · rw [List.length_cons, List.length_cons]; k_extra "omegb"
structure WSt where
  vs : List Value
  n : Nat
  a : Int
  ta : Nat
theorem ro_end {b : Array UInt8} {bs : List (Array UInt8)} {a l : Int} (hj : joinL (suf b 0) = (BM.catB bs).toList ++ joinL (suf b a)) (h : joinL (suf b a) = (sl b a l).toList) : (BM.catB (bs ++ [sl b a l])).toList = joinL b.toList := by
  rw [catB_snoc, ← h, ← hj]; rfl
theorem ro_go {b : Array UInt8} {bs : List (Array UInt8)} {a l r : Int} (hj : joinL (suf b 0) = (BM.catB bs).toList ++ joinL (suf b a)) (h : joinL (suf b a) = (sl b a l).toList ++ joinL (suf b r)) : joinL (suf b 0) = (BM.catB (bs ++ [sl b a l])).toList ++ joinL (suf b r) := by
  rw [catB_snoc, hj, h, List.append_assoc]
theorem rows_of_spec (b : Array UInt8) (tb : Nat) (hb : b.size ≤ 4000) : Spec prog w (kf w.params) p loose mean mg mb 318 ⟨[.bytes b tb], []⟩ 4 []
    (P3 (fun P _ _ => .ref P) (fun P vs n => [(P, listOf vs.toArray n)]) (fun _ vs _ => ∃ bs, BM.BysAre vs bs ∧ (BM.catB bs).toList = joinL b.toList)) False := by
  refine' spec_of3 (rb := [("raw", .bytes b tb)]) ?k1 ?k2 ?k3 ?k4 ?k5 ?k6 ?k7 ?k8 ?k9 ?_
  case k1 => k_is
  case k2 => k_is
  case k3 => first | exact fun s Xs => BindsTo.of_eq rfl | exact fun s Xs => binds_K Xs rfl (by k_is) rfl rfl rfl
  case k4 => exact locs rfl
  case k5 => exact rfl
  case k6 => exact rfl
  case k7 => exact rfl
  case k8 => decide
  case k9 => decide
  intro dp un gd envs base g L' h₁ gens drawn tk os R B F N X T lt hd hu ret exc eE aA
  k_fold
  (try k_lt lt)
  (try dsimp only)
  have hmk0 : StopAt 0 := .here
  k_steps
  unfold StopHere
  rename Fr _ _ _ _ => F9
  rename News _ _ _ _ => N9
  obtain ⟨ta0, ha0⟩ := at_name F9 (x := "at") (fun t => .int 0 t) ⟨_, rfl⟩
  refine' ksw_while (σ := WSt) (fun c => [(_, listOf c.vs.toArray c.n)]) (fun c => [("at", .int c.a c.ta)]) (fun c => 0 ≤ c.a ∧ c.a ≤ (b.size : Int) ∧ ∃ bs, BM.BysAre c.vs bs ∧ bs.length ≤ c.a.toNat ∧ joinL (suf b 0) = (BM.catB bs).toList ++ joinL (suf b c.a)) ["last", "later"]
    (fun _ => True) (fun c => b.size + 1 - c.a.toNat) ⟨[], 0, 0, ta0⟩ F9 N9 ?cwF ?cwK ?cwP ?cwT
  case cwF => exact ⟨Int.le_refl _, by dsimp only; k_extra "omegb", [], .nil, Nat.zero_le _, rfl⟩
  case cwK => exact List.forall_mem_singleton.mpr ha0
  case cwP => trivial
  case cwT =>
    intro c u h tk9 hF hP F N
    first | ((have hc0 := And.left hF); (have hc1 := And.left (And.right hF)); (have bs := And.left (And.right (And.right hF))); (have hB := And.left (And.right (And.right (And.right hF)))); (have hz := And.left (And.right (And.right (And.right (And.right hF))))); (have hj := (And.right (And.right (And.right (And.right (And.right hF)))))); clear hF) | obtain ⟨hc0, hc1, bs, hB, hz, hj⟩ := hF
    clear F9 N9 ha0 hP
    (try k_fold)
    k_steps
    · obtain ⟨_, hl2⟩ | ⟨_, hl2, _⟩ := hP'
      · (try simp only [List.push_toArray] at *)
        refine' ret _ [(_, _)] _ _ _ _ (by k_asm) (news_mono (by k_asm) ?_) ⟨_, _, _, rfl, rfl, _, BM.BysAre.snoc hB _ _, ro_end hj hl2⟩
        ktr_unf
      · exfalso; k_extra "omegb"
    · unfold StopHere
      obtain ⟨hl2, _⟩ | ⟨hl2, hl3, hl4, hl5, hl6⟩ := hP'
      · exact absurd hl2 (by assumption)
      ((rename News _ _ _ _ => nE'); (try simp only [List.push_toArray] at nE'); (refine' ksw_end ⟨_, _, _, _⟩ (by assumption) nE' ?e1 ?_ ?e3 ?e4 ?_ ?_); (case e1 => ktr_unf); (case e3 => kst_all); (case e4 => (intro z h2 h3; (simp only [List.forall_mem_cons, List.not_mem_nil, false_implies, implies_true, and_true, ne_eq] at h2); (simp only [List.contains_cons, List.contains_nil, Bool.or_false, Bool.or_eq_false_iff, beq_eq_false_iff_ne, ne_eq] at h3); simp [kstB, h2, h3])))
      · exact ⟨by dsimp only; k_extra "omegb", hl5, _, BM.BysAre.snoc hB _ _, by rw [List.length_append, List.length_singleton]; dsimp only; k_extra "omegb", ro_go hj hl6⟩
      · trivial
      · dsimp only; k_extra "omegb"
end PC22
end JC22
section JC23
open PySem PySem.W PyProof.Rows PySem.Calls
section PC23
variable {prog : Program} {w : World} {p : Program} {loose : List Str} {mean : ExcName → Option Value} {mg mb : Str → Option Value}
set_option maxRecDepth 100000
set_option maxHeartbeats 4000000
theorem wd_C23_0 : True := by
  k_with "call ref" => (k_here; (show wpAny _ _ (PySem.call (Value.ref 318) [_]) _ _ _); (refine' Spec.call3 (rows_of_spec _ _ (by assumption)) ?B ?F ?X ?N ?T rfl rfl rfl rfl ?hd ?hu ?P ?W ?_ (fun h => h.elim)); (case F => k_asm); (case N => k_asm); (case B => k_asm); (case X => k_asm); (case T => k_asm); (case hd => first | exact room_d (j := 1) hd (by decide) | exact room_d (j := 2) hd (by decide) | exact room_d (j := 3) hd (by decide) | (simp only [ar_depth, ar_units, depth_deeper, depth_mark, depth_under_make, depth_under_kw, depth_in1, units_deeper, units_in1, units_under_make, Around.mark_units]; omega)); (case hu => first | exact room_u (j := 0) hu (by decide) | exact room_u (j := 1) hu (by decide) | exact room_u (j := 2) hu (by decide) | exact room_u (j := 3) hu (by decide) | (simp only [ar_depth, ar_units, depth_deeper, depth_mark, depth_under_make, depth_under_kw, depth_in1, units_deeper, units_in1, units_under_make, Around.mark_units]; omega)); (case P => ktr_unf); (case W => tb_start); ((intro Pr' vr' nr' h' tk' hP' F' N' l1 l2; (dsimp only [List.cons_append, List.nil_append] at N'); (simp only [AllLt, and_true] at l1); (simp only [Apart, ApartOne, and_true] at l2); (first | ((have br' := And.left hP'); (have hr1' := And.left (And.right hP')); (have hr2' := (And.right (And.right hP'))); clear hP') | obtain ⟨br', hr1', hr2'⟩ := hP'); (try k_sweep); (try dsimp only))))
  k_with "call builtin:bytes.join" => (k_here; (refine' join_K ?N ?m ?b ?z ?_); (case N => k_asm); (case m => k_mem); (case b => assumption); (case z => exact Nat.le_trans (catB_le (by assumption)) (by omega)); intro _ _)
  k_with "call builtin:bytes.strip" => (k_here; refine strip_call ?z ?_; (case z => exact Nat.le_trans (catB_le (by assumption)) (by omega)); intro _ _)
  trivial
theorem catB_le {b : Array UInt8} {bs : List (Array UInt8)} (h : (BM.catB bs).toList = joinL b.toList) : (BM.catB bs).size ≤ b.size := by
  have := join_len b.toList
  rw [← h, Array.length_toList, Array.length_toList] at this
  exact this
noncomputable def unfoldB (b : Array UInt8) : Array UInt8 := BM.stripB (joinL b.toList).toArray #[32, 9]
theorem unf {b : Array UInt8} {bs : List (Array UInt8)} (h : (BM.catB bs).toList = joinL b.toList) : BM.stripB (BM.catB bs) #[32, 9] = unfoldB b := by
  unfold unfoldB
  rw [← h]
theorem unfolded_spec (b : Array UInt8) (tb : Nat) (hb : b.size ≤ 4000) : Spec prog w (kf w.params) p loose mean mg mb 325 ⟨[.bytes b tb], []⟩ 6 []
    (P1 (fun t => .bytes (unfoldB b) t) (fun _ => []) (fun _ => True)) False := by
  refine' spec_of3 (rb := [("raw", .bytes b tb)]) ?k1 ?k2 ?k3 ?k4 ?k5 ?k6 ?k7 ?k8 ?k9 ?_
  case k1 => k_is
  case k2 => k_is
  case k3 => first | exact fun s Xs => BindsTo.of_eq rfl | exact fun s Xs => binds_K Xs rfl (by k_is) rfl rfl rfl
  case k4 => exact locs rfl
  case k5 => exact rfl
  case k6 => exact rfl
  case k7 => exact rfl
  case k8 => decide
  case k9 => decide
  intro dp un gd envs base g L' h₁ gens drawn tk os R B F N X T lt hd hu ret exc eE aA
  k_fold
  (try k_lt lt)
  (try dsimp only)
  k_steps
  exact ret _ _ _ _ _ _ (by k_asm) (News.nil) ⟨_, congrArg (fun z => Value.bytes z _) (unf hr2'), rfl, trivial⟩
theorem wd_C23_1 : True := by
  k_with "call ref" => (k_here; (show wpAny _ _ (PySem.call (Value.ref 325) [_]) _ _ _); (refine' Spec.call1 (unfolded_spec _ _ (by assumption)) ?B ?F ?X ?N ?T rfl rfl rfl rfl ?hd ?hu ?P ?W ?_ (fun h => h.elim)); (case F => k_asm); (case N => k_asm); (case B => k_asm); (case X => k_asm); (case T => k_asm); (case hd => first | exact room_d (j := 1) hd (by decide) | exact room_d (j := 2) hd (by decide) | exact room_d (j := 3) hd (by decide) | (simp only [ar_depth, ar_units, depth_deeper, depth_mark, depth_under_make, depth_under_kw, depth_in1, units_deeper, units_in1, units_under_make, Around.mark_units]; omega)); (case hu => first | exact room_u (j := 0) hu (by decide) | exact room_u (j := 1) hu (by decide) | exact room_u (j := 2) hu (by decide) | exact room_u (j := 3) hu (by decide) | (simp only [ar_depth, ar_units, depth_deeper, depth_mark, depth_under_make, depth_under_kw, depth_in1, units_deeper, units_in1, units_under_make, Around.mark_units]; omega)); (case P => ktr_unf); (case W => tb_start); ((intro tu' h' tk' hP' F' N' l1 l2; (dsimp only [List.cons_append, List.nil_append] at N'); clear l1 l2; clear hP'; (try k_sweep); (try dsimp only))))
  trivial
noncomputable abbrev cdS : Str := "content-disposition"
theorem lower_cd_spec (t : Nat) : Spec prog w (kf w.params) p loose mean mg mb 181 ⟨[.str cdS t], []⟩ 5 []
    (P1 (fun t' => .str cdS t') (fun _ => []) (fun _ => True)) False := by
  have h := lower_text_spec (prog := prog) (w := w) (p := p) (loose := loose) (mean := mean) (mg := mg) (mb := mb) cdS t (by decide) (by decide)
  rw [show lowT cdS = cdS by decide] at h
  exact h
noncomputable abbrev isF (nm : Array UInt8) (x : Str) : Prop := strB (nm.toList.map lowC) = x
theorem word2_spec (f d : Addr) (h1 h2 : Int) (k1 k2 t1 t2 : Nat) (nm rw : Array UInt8) (x : Str) (hz : nm.size ≤ 4000) (hx : isF nm x) : Spec prog w (kf w.params) p loose mean mg mb 290 ⟨[.ref f], []⟩ 7 (fldN f d h1 h2 k1 k2 t1 t2 nm rw)
    (P1 (fun t' => .str x t') (fun _ => fldN f d h1 h2 k1 k2 t1 t2 nm rw) (fun _ => True)) False := by
  subst hx; exact word_spec f d h1 h2 k1 k2 t1 t2 nm rw hz
theorem wd_C23_2 : True := by
  k_with "call ref" => (k_here; (show wpAny _ _ (PySem.call (Value.ref 181) [_]) _ _ _); (refine' Spec.call1 (lower_cd_spec _) ?B ?F ?X ?N ?T rfl rfl rfl rfl ?hd ?hu ?P ?W ?_ (fun h => h.elim)); (case F => k_asm); (case N => k_asm); (case B => k_asm); (case X => k_asm); (case T => k_asm); (case hd => first | exact room_d (j := 1) hd (by decide) | exact room_d (j := 2) hd (by decide) | exact room_d (j := 3) hd (by decide) | (simp only [ar_depth, ar_units, depth_deeper, depth_mark, depth_under_make, depth_under_kw, depth_in1, units_deeper, units_in1, units_under_make, Around.mark_units]; omega)); (case hu => first | exact room_u (j := 0) hu (by decide) | exact room_u (j := 1) hu (by decide) | exact room_u (j := 2) hu (by decide) | exact room_u (j := 3) hu (by decide) | (simp only [ar_depth, ar_units, depth_deeper, depth_mark, depth_under_make, depth_under_kw, depth_in1, units_deeper, units_in1, units_under_make, Around.mark_units]; omega)); (case P => ktr_unf); (case W => tb_start); ((intro tl' h' tk' hP' F' N' l1 l2; (dsimp only [List.cons_append, List.nil_append] at N'); clear l1 l2; clear hP'; (try k_sweep); (try dsimp only))))
  k_with "call ref" => (k_here; (show wpAny _ _ (PySem.call (Value.ref 290) [_]) _ _ _); (refine' Spec.call1 (word2_spec _ _ _ _ _ _ _ _ _ _ _ ?s1 ?s2) ?B ?F ?X ?N ?T rfl rfl rfl rfl ?hd ?hu ?P ?W ?_ (fun h => h.elim)); (case F => k_asm); (case N => k_asm); (case B => k_asm); (case X => k_asm); (case T => k_asm); (case hd => first | exact room_d (j := 1) hd (by decide) | exact room_d (j := 2) hd (by decide) | exact room_d (j := 3) hd (by decide) | (simp only [ar_depth, ar_units, depth_deeper, depth_mark, depth_under_make, depth_under_kw, depth_in1, units_deeper, units_in1, units_under_make, Around.mark_units]; omega)); (case hu => first | exact room_u (j := 0) hu (by decide) | exact room_u (j := 1) hu (by decide) | exact room_u (j := 2) hu (by decide) | exact room_u (j := 3) hu (by decide) | (simp only [ar_depth, ar_units, depth_deeper, depth_mark, depth_under_make, depth_under_kw, depth_in1, units_deeper, units_in1, units_under_make, Around.mark_units]; omega)); (case P => ktr_unf); (case W => tb_start); (case s2 => assumption); (case s1 => assumption); ((intro tl' h' tk' hP' F' N' l1 l2; (dsimp only [List.cons_append, List.nil_append] at N'); clear l1 l2; clear hP'; (try k_sweep); (try dsimp only))))
  trivial
noncomputable abbrev fbN (l : Addr) (vs : List Value) (n : Nat) (os : List (Addr × Obj)) : List (Addr × Obj) := (l, listOf vs.toArray n) :: os
theorem first_hit_spec (l f d : Addr) (vs : List Value) (n : Nat) (h1 h2 : Int) (k1 k2 t1 t2 : Nat) (nm rw : Array UInt8) (tw : Nat) (hz : nm.size ≤ 4000) (hr : rw.size ≤ 4000) (hx : isF nm cdS) : Spec prog w (kf w.params) p loose mean mg mb 332 ⟨[.ref l, .str cdS tw], []⟩ 9 (fbN l (.ref f :: vs) n (fldN f d h1 h2 k1 k2 t1 t2 nm rw))
    (P1 (fun t' => .bytes (unfoldB rw) t') (fun _ => fbN l (.ref f :: vs) n (fldN f d h1 h2 k1 k2 t1 t2 nm rw)) (fun _ => True)) False := by
  refine' spec_of3 (rb := [("word", .str cdS tw), ("fields", .ref l)]) ?k1 ?k2 ?k3 ?k4 ?k5 ?k6 ?k7 ?k8 ?k9 ?_
  case k1 => k_is
  case k2 => k_is
  case k3 => first | exact fun s Xs => BindsTo.of_eq rfl | exact fun s Xs => binds_K Xs rfl (by k_is) rfl rfl rfl
  case k4 => exact locs rfl
  case k5 => exact rfl
  case k6 => exact rfl
  case k7 => exact rfl
  case k8 => decide
  case k9 => decide
  intro dp un gd envs base g L' h₁ gens drawn tk os R B F N X T lt hd hu ret exc eE aA
  k_fold
  (try k_lt lt)
  (try dsimp only)
  have hmk3 : StopAt 3 := .here
  k_steps
  unfold StopHere
  rename Fr _ _ _ _ => F9
  refine For_turns F9 ?_
  k_whole
  k_steps
  unfold StopHere
  rename Fr _ _ _ _ => F8
  rename News _ _ _ _ => N8
  refine' for_list2 (σ := Unit) (fun _ => [(f, instObj 300 d), (d, fldD h1 h2 k1 k2 t1 t2 nm rw)]) (fun _ => []) (fun i _ => i = 0) ["field"] () F8 N8 rfl rfl rfl rfl ?hc rfl (List.forall_mem_nil _) ?turn ?done
  case hc => exact fun i c _ => List.forall_mem_cons.mpr ⟨by simp, List.forall_mem_singleton.mpr (by simp)⟩
  case turn =>
    rintro I i c u v h tk8 o hi hv rfl ho F N
    obtain rfl : Value.ref f = v := Option.some.inj hv
    clear F8 N8 hv hi
    (try dsimp only)
    (try k_fold)
    have hIf : @Ne Nat I f := news_ne N (.head _) (.tail _ (.tail _ (.head _))) (fun e => by rw [e] at ho; simp at ho)
    have hId : @Ne Nat I d := news_ne N (.head _) (.tail _ (.tail _ (.tail _ (.head _)))) (fun e => by rw [e] at ho; simp at ho)
    have hlf : @Ne Nat l f := news_ne N (.tail _ (.head _)) (.tail _ (.tail _ (.head _))) (fun e => by cases e)
    have hld : @Ne Nat l d := news_ne N (.tail _ (.head _)) (.tail _ (.tail _ (.tail _ (.head _)))) (fun e => absurd (congrArg Obj.cls e) (by simp))
    k_steps
    refine' ret _ [(_, _), (_, _), (_, _)] _ _ _ _ (by k_asm) (news_mono (by k_asm) ?_) ⟨_, rfl, rfl, trivial⟩
    ktr_unf
  case done =>
    intro c u h tk8 hf F N
    cases hf
noncomputable abbrev sbS : Str := "subject"
theorem first_miss_spec (l f d : Addr) (n : Nat) (h1 h2 : Int) (k1 k2 t1 t2 : Nat) (nm rw : Array UInt8) (tw : Nat) (hz : nm.size ≤ 4000) (hx : isF nm sbS) : Spec prog w (kf w.params) p loose mean mg mb 332 ⟨[.ref l, .str cdS tw], []⟩ 9 (fbN l [.ref f] n (fldN f d h1 h2 k1 k2 t1 t2 nm rw))
    (P0 .none (fbN l [.ref f] n (fldN f d h1 h2 k1 k2 t1 t2 nm rw)) True) False := by
  refine' spec_of3 (rb := [("word", .str cdS tw), ("fields", .ref l)]) ?k1 ?k2 ?k3 ?k4 ?k5 ?k6 ?k7 ?k8 ?k9 ?_
  case k1 => k_is
  case k2 => k_is
  case k3 => first | exact fun s Xs => BindsTo.of_eq rfl | exact fun s Xs => binds_K Xs rfl (by k_is) rfl rfl rfl
  case k4 => exact locs rfl
  case k5 => exact rfl
  case k6 => exact rfl
  case k7 => exact rfl
  case k8 => decide
  case k9 => decide
  intro dp un gd envs base g L' h₁ gens drawn tk os R B F N X T lt hd hu ret exc eE aA
  k_fold
  (try k_lt lt)
  (try dsimp only)
  have hmk3 : StopAt 3 := .here
  k_steps
  unfold StopHere
  rename Fr _ _ _ _ => F9
  refine For_turns F9 ?_
  k_whole
  k_steps
  unfold StopHere
  rename Fr _ _ _ _ => F8
  rename News _ _ _ _ => N8
  refine' for_list2 (σ := Unit) (n := 1) (fun _ => [(f, instObj 300 d), (d, fldD h1 h2 k1 k2 t1 t2 nm rw)]) (fun _ => []) (fun i _ => True) ["field"] () F8 N8 rfl rfl rfl rfl ?hc trivial (List.forall_mem_nil _) ?turn ?done
  case hc => exact fun i c _ => List.forall_mem_cons.mpr ⟨by simp, List.forall_mem_singleton.mpr (by simp)⟩
  case turn =>
    rintro I i c u v h tk8 o hi hv - ho F N
    obtain rfl : i = 0 := by omega
    obtain rfl : Value.ref f = v := Option.some.inj hv
    clear F8 N8 hv hi
    (try dsimp only)
    (try k_fold)
    have hIf : @Ne Nat I f := news_ne N (.head _) (.tail _ (.tail _ (.head _))) (fun e => by rw [e] at ho; simp at ho)
    have hId : @Ne Nat I d := news_ne N (.head _) (.tail _ (.tail _ (.tail _ (.head _)))) (fun e => by rw [e] at ho; simp at ho)
    have hlf : @Ne Nat l f := news_ne N (.tail _ (.head _)) (.tail _ (.tail _ (.head _))) (fun e => by cases e)
    have hld : @Ne Nat l d := news_ne N (.tail _ (.head _)) (.tail _ (.tail _ (.tail _ (.head _)))) (fun e => absurd (congrArg Obj.cls e) (by simp))
    k_steps
    unfold StopHere
    refine for_end () (by k_asm) (by k_asm) (by k_mem) (List.forall_mem_cons.mpr ⟨by k_mem, List.forall_mem_cons.mpr ⟨by k_mem, List.forall_mem_cons.mpr ⟨by k_mem, List.forall_mem_nil _⟩⟩⟩) trivial (List.forall_mem_nil _) (fun z _ hz => kst_one hz)
  case done =>
    intro c u h tk8 hf F N
    clear F8 N8
    (try dsimp only)
    (try k_fold)
    k_steps
    unfold qk; dsimp only
    exact ret _ _ _ _ _ _ (by k_asm) (by k_asm) ⟨rfl, rfl, trivial⟩
theorem first_two_spec (l f d e d2 : Addr) (v9 : Value) (n : Nat) (h1 h2 h3 h4 : Int) (k1 k2 k3 k4 t1 t2 t3 t4 : Nat) (nm rw nn rr : Array UInt8) (tw : Nat) (hfe : @Ne Nat f e) (hdd : @Ne Nat d d2) (hz : nm.size ≤ 4000) (hz2 : nn.size ≤ 4000) (hr : rr.size ≤ 4000) (hx : isF nm sbS) (hy : isF nn cdS) : Spec prog w (kf w.params) p loose mean mg mb 332 ⟨[.ref l, .str cdS tw], []⟩ 9
    (fbN l [.ref f, .ref e, v9] n [(f, instObj 300 d), (d, fldD h1 h2 k1 k2 t1 t2 nm rw), (e, instObj 300 d2), (d2, fldD h3 h4 k3 k4 t3 t4 nn rr)])
    (P1 (fun t' => .bytes (unfoldB rr) t') (fun _ => fbN l [.ref f, .ref e, v9] n [(f, instObj 300 d), (d, fldD h1 h2 k1 k2 t1 t2 nm rw), (e, instObj 300 d2), (d2, fldD h3 h4 k3 k4 t3 t4 nn rr)]) (fun _ => True)) False := by
  refine' spec_of3 (rb := [("word", .str cdS tw), ("fields", .ref l)]) ?k1 ?k2 ?k3 ?k4 ?k5 ?k6 ?k7 ?k8 ?k9 ?_
  case k1 => k_is
  case k2 => k_is
  case k3 => first | exact fun s Xs => BindsTo.of_eq rfl | exact fun s Xs => binds_K Xs rfl (by k_is) rfl rfl rfl
  case k4 => exact locs rfl
  case k5 => exact rfl
  case k6 => exact rfl
  case k7 => exact rfl
  case k8 => decide
  case k9 => decide
  intro dp un gd envs base g L' h₁ gens drawn tk os R B F N X T lt hd hu ret exc eE aA
  k_fold
  (try k_lt lt)
  (try dsimp only)
  have hmk3 : StopAt 3 := .here
  k_steps
  unfold StopHere
  rename Fr _ _ _ _ => F9
  refine For_turns F9 ?_
  k_whole
  k_steps
  unfold StopHere
  rename Fr _ _ _ _ => F8
  rename News _ _ _ _ => N8
  refine' for_list2 (σ := Unit) (n := 3) (fun _ => [(f, instObj 300 d), (d, fldD h1 h2 k1 k2 t1 t2 nm rw), (e, instObj 300 d2), (d2, fldD h3 h4 k3 k4 t3 t4 nn rr)]) (fun _ => []) (fun i _ => i = 0 ∨ i = 1) ["field"] () F8 N8 rfl rfl rfl rfl ?hc (.inl rfl) (List.forall_mem_nil _) ?turn ?done
  case hc => exact fun i c _ => List.forall_mem_cons.mpr ⟨by simp, List.forall_mem_cons.mpr ⟨by simp, List.forall_mem_cons.mpr ⟨by simp, List.forall_mem_singleton.mpr (by simp)⟩⟩⟩
  case turn =>
    rintro I i c u v h tk8 o hi hv hf ho F N
    clear F8 N8 hi
    rcases hf with rfl | rfl
    · obtain rfl : Value.ref f = v := Option.some.inj hv
      clear hv
      (try dsimp only)
      (try k_fold)
      have hIf : @Ne Nat I f := news_ne N (.head _) (.tail _ (.tail _ (.head _))) (fun e => by rw [e] at ho; simp at ho)
      have hId : @Ne Nat I d := news_ne N (.head _) (.tail _ (.tail _ (.tail _ (.head _)))) (fun e => by rw [e] at ho; simp at ho)
      have hlf : @Ne Nat l f := news_ne N (.tail _ (.head _)) (.tail _ (.tail _ (.head _))) (fun e => by cases e)
      have hld : @Ne Nat l d := news_ne N (.tail _ (.head _)) (.tail _ (.tail _ (.tail _ (.head _)))) (fun e => absurd (congrArg Obj.cls e) (by simp))
      have hfe2 : @Ne Nat e f := Ne.symm hfe
      have hdd2 : @Ne Nat d2 d := Ne.symm hdd
      have hfd2 : @Ne Nat f d2 := news_ne N (.tail _ (.tail _ (.head _))) (.tail _ (.tail _ (.tail _ (.tail _ (.tail _ (.head _)))))) (fun e => by cases e)
      have hde : @Ne Nat e d := news_ne N (.tail _ (.tail _ (.tail _ (.tail _ (.head _))))) (.tail _ (.tail _ (.tail _ (.head _)))) (fun e => by cases e)
      have hfd2' : @Ne Nat d2 f := Ne.symm hfd2
      have hde' : @Ne Nat d e := Ne.symm hde
      k_steps
      unfold StopHere
      refine for_end () (by k_asm) (by k_asm) (by k_mem) (List.forall_mem_cons.mpr ⟨by k_mem, List.forall_mem_cons.mpr ⟨by k_mem, List.forall_mem_cons.mpr ⟨by k_mem, List.forall_mem_cons.mpr ⟨by k_mem, List.forall_mem_cons.mpr ⟨by k_mem, List.forall_mem_nil _⟩⟩⟩⟩⟩) (.inr rfl) (List.forall_mem_nil _) (fun z _ hz => kst_one hz)
    · obtain rfl : Value.ref e = v := Option.some.inj hv
      clear hv
      (try dsimp only)
      (try k_fold)
      have hIf : @Ne Nat I e := news_ne N (.head _) (.tail _ (.tail _ (.tail _ (.tail _ (.head _))))) (fun e => by rw [e] at ho; simp at ho)
      have hId : @Ne Nat I d2 := news_ne N (.head _) (.tail _ (.tail _ (.tail _ (.tail _ (.tail _ (.head _)))))) (fun e => by rw [e] at ho; simp at ho)
      have hlf : @Ne Nat l e := news_ne N (.tail _ (.head _)) (.tail _ (.tail _ (.tail _ (.tail _ (.head _))))) (fun e => by cases e)
      have hld : @Ne Nat l d2 := news_ne N (.tail _ (.head _)) (.tail _ (.tail _ (.tail _ (.tail _ (.tail _ (.head _)))))) (fun e => absurd (congrArg Obj.cls e) (by simp))
      have hfe2 : @Ne Nat e f := Ne.symm hfe
      have hdd2 : @Ne Nat d2 d := Ne.symm hdd
      have hfd2 : @Ne Nat f d2 := news_ne N (.tail _ (.tail _ (.head _))) (.tail _ (.tail _ (.tail _ (.tail _ (.tail _ (.head _)))))) (fun e => by cases e)
      have hde : @Ne Nat e d := news_ne N (.tail _ (.tail _ (.tail _ (.tail _ (.head _))))) (.tail _ (.tail _ (.tail _ (.head _)))) (fun e => by cases e)
      have hfd2' : @Ne Nat d2 f := Ne.symm hfd2
      have hde' : @Ne Nat d e := Ne.symm hde
      k_steps
      refine' ret _ [(_, _), (_, _), (_, _), (_, _), (_, _)] _ _ _ _ (by k_asm) (news_mono (by k_asm) ?_) ⟨_, rfl, rfl, trivial⟩
      ktr_unf
  case done =>
    intro c u h tk8 hf F N
    rcases hf with hf | hf <;> exact absurd hf (by decide)
end PC23
end JC23
section JPF
open PySem PySem.W PyProof.Rows PySem.Calls PyProof.V
section PPF
set_option maxRecDepth 100000
/-- the nine kinds of parameters in the law's texts: their names and worths -/
noncomputable def nmS : Nat → Str
  | 0 => "a" | 1 => "a" | 2 => "q" | 3 => "c*" | 4 => "l*" | 5 => "p*0" | 6 => "p*1" | 7 => "n" | _ => "filename"
noncomputable def wtB : Nat → Array UInt8
  | 0 => #[98] | 1 => #[120, 32, 121] | 2 => #[34, 122, 92] | 3 => cS | 4 => lS | 5 => abB | 6 => cdB | 7 => #[53] | _ => #[]
noncomputable def nmB : Nat → List UInt8
  | 0 => [97] | 1 => [97] | 2 => [113] | 3 => [99, 42] | 4 => [108, 42] | 5 => [112, 42, 48] | 6 => [112, 42, 49] | 7 => [110] | _ => [102, 105, 108, 101, 110, 97, 109, 101]
theorem nm_eq : ∀ k : Nat, strB (nmB k) = nmS k
  | 0 => rfl | 1 => rfl | 2 => rfl | 3 => rfl | 4 => rfl | 5 => rfl | 6 => rfl | 7 => rfl | _ + 8 => rfl
inductive KdAre : List (Addr × Obj) → List Nat → Prop
  | nil : KdAre [] []
  | cons (a : Addr) (k : Nat) (t u n : Nat) {os ks} : KdAre os ks → KdAre ((a, tupO [.str (nmS k) t, .bytes (wtB k) u] n) :: os) (k :: ks)
theorem kd_of : ∀ {os : List (Addr × Obj)} {ks : List Nat}, PrsAre os (ks.map fun k => (nmB k, (wtB k).toList)) → KdAre os ks
  | _, [], h => by cases h; exact .nil
  | _, k :: ks, h => by
    rw [List.map_cons] at h
    generalize hw : (wtB k).toList = wl at h
    cases h with
    | cons a n t wb u c h =>
      obtain rfl : wtB k = wb := Array.toList_inj.mp hw
      rw [nm_eq]
      exact .cons a k t u c (kd_of h)
theorem kd_at {os : List (Addr × Obj)} {ks : List Nat} (h : KdAre os ks) : ∀ {i : Nat} {v : Value}, (os.map fun q => Value.ref q.1)[i]? = some v → ∃ T k t u n, v = .ref T ∧ ks[i]? = some k ∧ (T, tupO [.str (nmS k) t, .bytes (wtB k) u] n) ∈ os := by
  induction h with
  | nil => intro i v e; simp at e
  | cons a k t u n _ ih =>
    intro i v e
    cases i with
    | zero => exact ⟨a, k, t, u, n, (Option.some.inj e).symm, rfl, .head _⟩
    | succ i =>
      obtain ⟨T, k', t', u', n', e1, e2, e3⟩ := ih (by simpa using e)
      exact ⟨T, k', t', u', n', e1, by simpa using e2, .tail _ e3⟩
theorem kd_len {os : List (Addr × Obj)} {ks : List Nat} (h : KdAre os ks) : os.length = ks.length := by
  induction h with
  | nil => rfl
  | cons _ _ _ _ _ _ ih => rw [List.length_cons, List.length_cons, ih]
theorem kd_cls {os : List (Addr × Obj)} {ks : List Nat} (h : KdAre os ks) : ∀ q ∈ os, q.2.cls = .type "tuple" := by
  induction h with
  | nil => intro q hq; nomatch hq
  | cons _ _ _ _ _ _ ih =>
    intro q hq
    rcases List.mem_cons.mp hq with rfl | hq
    · rfl
    · exact ih q hq
noncomputable def isPl (k : Nat) : Bool := k < 3 || 6 < k
noncomputable def wtS (k : Nat) : Str := strB (wtB k).toList
noncomputable def addP (acc : List (Str × Str)) (k : Nat) : List (Str × Str) := if isPl k then (if nmS k ∈ acc.map (·.1) then acc else acc ++ [(nmS k, wtS k)]) else acc
noncomputable def addQ (acc : List Nat) (k : Nat) : List Nat := match k with | 3 => acc ++ [3] | 4 => acc ++ [4] | 5 => acc ++ [6] | 6 => acc.map (fun b => if b = 6 then 5 else b) | _ => acc
noncomputable def plain1 (ks : List Nat) : List (Str × Str) := ks.foldl addP []
noncomputable def parted1 (ks : List Nat) : List Nat := ks.foldl addQ []
noncomputable def bnS : Nat → Str | 3 => "c" | 4 => "l" | _ => "p"
noncomputable def jtS : Nat → Str | 3 => ⟨#[233, 32]⟩ | 4 => ⟨#[233]⟩ | _ => ⟨#[97, 98, 99, 32, 100]⟩
noncomputable def plainW (ks : List Nat) : List (Str × Str) := plain1 ks ++ (parted1 ks).map fun b => (bnS b, jtS b)
/-- what the order of the kinds must be like -/
noncomputable def KOk (ks : List Nat) : Prop := (∀ i k, ks[i]? = some k → k < 9 ∧ (k = 3 → 3 ∉ parted1 (ks.take i)) ∧ (k = 4 → 4 ∉ parted1 (ks.take i)) ∧ (k = 5 → 5 ∉ parted1 (ks.take i) ∧ 6 ∉ parted1 (ks.take i)) ∧ (k = 6 → 6 ∈ parted1 (ks.take i))) ∧ 6 ∉ parted1 ks
theorem take_at {ks : List Nat} {i k : Nat} (h : ks[i]? = some k) : ks.take (i + 1) = ks.take i ++ [k] := by rw [List.take_add_one, h]; rfl
theorem plain_at {ks : List Nat} {i k : Nat} (h : ks[i]? = some k) : plain1 (ks.take (i + 1)) = addP (plain1 (ks.take i)) k := by unfold plain1; rw [take_at h, List.foldl_append]; rfl
theorem parted_at {ks : List Nat} {i k : Nat} (h : ks[i]? = some k) : parted1 (ks.take (i + 1)) = addQ (parted1 (ks.take i)) k := by unfold parted1; rw [take_at h, List.foldl_append]; rfl
inductive KvAre : List (Str × Value) → List (Str × Str) → Prop
  | nil : KvAre [] []
  | cons (x y : Str) (t : Nat) {kvs ws} : KvAre kvs ws → KvAre ((x, .str y t) :: kvs) ((x, y) :: ws)
theorem KvAre.keys {kvs : List (Str × Value)} {ws : List (Str × Str)} (h : KvAre kvs ws) : kvs.map (·.1) = ws.map (·.1) := by
  induction h with
  | nil => rfl
  | cons _ _ _ _ ih => rw [List.map_cons, List.map_cons, ih]
theorem KvAre.snoc {kvs : List (Str × Value)} {ws : List (Str × Str)} (h : KvAre kvs ws) (x y : Str) (t : Nat) : KvAre (kvs ++ [(x, .str y t)]) (ws ++ [(x, y)]) := by
  induction h with
  | nil => exact .cons x y t .nil
  | cons a b u _ ih => exact .cons a b u ih
theorem stored_app {K : Type} [DecidableEq K] {kvs : List (K × Value)} {k : K} {v : Value} (h : k ∉ kvs.map (·.1)) : stored kvs k v = kvs ++ [(k, v)] := by
  unfold stored
  rw [if_neg]
  intro e
  obtain ⟨x, hx, e⟩ := List.any_eq_true.mp e
  exact h (List.mem_map.mpr ⟨x, hx, by simpa using e⟩)
theorem KvAre.put {kvs : List (Str × Value)} {ws : List (Str × Str)} (h : KvAre kvs ws) {x y : Str} {t : Nat} (hn : x ∉ ws.map (·.1)) : KvAre (stored kvs x (.str y t)) (ws ++ [(x, y)]) := by
  rw [stored_app (by rw [h.keys]; exact hn)]
  exact h.snoc x y t
/-- an entry of the parted names: its inner dict, with its tuples -/
noncomputable def EntIs (prog : Program) (w : World) (ts : List (Addr × Obj)) (kv : Str × Value) (b : Nat) : Prop :=
  ∃ D o T n t, kv.2 = .ref D ∧ kv.1 = bnS b ∧ (D, o) ∈ ts ∧ (D == sysModules) = false ∧
    ((b = 3 ∧ o.IsDictOf (PySem.intKind prog w) [(0, .ref T)] ∧ (T, tupO [.bool true, .bytes cS t] n) ∈ ts) ∨
     (b = 4 ∧ o.IsDictOf (PySem.intKind prog w) [(0, .ref T)] ∧ (T, tupO [.bool true, .bytes lS t] n) ∈ ts) ∨
     (b = 6 ∧ o.IsDictOf (PySem.intKind prog w) [(0, .ref T)] ∧ (T, tupO [.bool false, .bytes abB t] n) ∈ ts) ∨
     (b = 5 ∧ ∃ T1 n1 t1, o.IsDictOf (PySem.intKind prog w) [(0, .ref T), (1, .ref T1)] ∧ (T, tupO [.bool false, .bytes abB t] n) ∈ ts ∧ (T1, tupO [.bool false, .bytes cdB t1] n1) ∈ ts))
inductive PdAre (prog : Program) (w : World) (ts : List (Addr × Obj)) : List (Str × Value) → List Nat → Prop
  | nil : PdAre prog w ts [] []
  | cons (kv : Str × Value) (b : Nat) {kvs bs} : EntIs prog w ts kv b → PdAre prog w ts kvs bs → PdAre prog w ts (kv :: kvs) (b :: bs)
theorem EntIs.mono {prog : Program} {w : World} {ts ts' : List (Addr × Obj)} {kv : Str × Value} {b : Nat} (hs : ∀ q ∈ ts, q ∈ ts') (h : EntIs prog w ts kv b) : EntIs prog w ts' kv b := by
  obtain ⟨D, o, T, n, t, h1, h2, h3, h4, h5⟩ := h
  refine ⟨D, o, T, n, t, h1, h2, hs _ h3, h4, ?_⟩
  rcases h5 with ⟨a, b, c⟩ | ⟨a, b, c⟩ | ⟨a, b, c⟩ | ⟨a, T1, n1, t1, b, c, d⟩
  · exact .inl ⟨a, b, hs _ c⟩
  · exact .inr (.inl ⟨a, b, hs _ c⟩)
  · exact .inr (.inr (.inl ⟨a, b, hs _ c⟩))
  · exact .inr (.inr (.inr ⟨a, T1, n1, t1, b, hs _ c, hs _ d⟩))
theorem PdAre.mono {prog : Program} {w : World} {ts ts' : List (Addr × Obj)} {kvs : List (Str × Value)} {bs : List Nat} (hs : ∀ q ∈ ts, q ∈ ts') (h : PdAre prog w ts kvs bs) : PdAre prog w ts' kvs bs := by
  induction h with
  | nil => exact .nil
  | cons kv b e _ ih => exact .cons kv b (e.mono hs) ih
theorem PdAre.snoc {prog : Program} {w : World} {ts : List (Addr × Obj)} {kvs : List (Str × Value)} {bs : List Nat} (h : PdAre prog w ts kvs bs) {kv : Str × Value} {b : Nat} (e : EntIs prog w ts kv b) : PdAre prog w ts (kvs ++ [kv]) (bs ++ [b]) := by
  induction h with
  | nil => exact .cons kv b e .nil
  | cons a c e' _ ih => exact .cons a c e' ih
theorem PdAre.keys {prog : Program} {w : World} {ts : List (Addr × Obj)} {kvs : List (Str × Value)} {bs : List Nat} (h : PdAre prog w ts kvs bs) : kvs.map (·.1) = bs.map bnS := by
  induction h with
  | nil => rfl
  | cons kv b e _ ih =>
    obtain ⟨_, _, _, _, _, _, h2, _⟩ := e
    rw [List.map_cons, List.map_cons, ih, h2]
theorem PdAre.at {prog : Program} {w : World} {ts : List (Addr × Obj)} {kvs : List (Str × Value)} {bs : List Nat} (h : PdAre prog w ts kvs bs) : ∀ {i : Nat} {kv : Str × Value}, kvs[i]? = some kv → ∃ b, bs[i]? = some b ∧ EntIs prog w ts kv b := by
  induction h with
  | nil => intro i kv e; simp at e
  | cons a c e' _ ih =>
    intro i kv e
    cases i with
    | zero => exact ⟨c, rfl, Option.some.inj e ▸ e'⟩
    | succ i =>
      obtain ⟨b, h1, h2⟩ := ih (by simpa using e)
      exact ⟨b, by simpa using h1, h2⟩
end PPF
end JPF
section JFD
open PySem PySem.W PyProof.Rows PySem.Calls PySem.Spec
section PFD
set_option maxRecDepth 100000
variable {prog : Program} {w : World} {A : Around} {E : Value → Shared → Prop} {s : Shared} {env : Env} {h₀ : Heap} {target : Expr} {body : List Stmt} {Q : Flow → Shared → Prop}
theorem iter_dictTurns {ax : Addr} {lo : Obj} {kvs : List (Str × Value)} {m₀ : Str → Option Value} {news : List (Addr × Obj)}
    (hh : A.handled = none) (F : Fr h₀ env.locals s.heap m₀) (N : News h₀ env.locals s.heap news) (hm : (ax, lo) ∈ news) (hd : lo.IsDictOf (PySem.strKind prog w) kvs) (hs : (ax == sysModules) = false)
    (rest₀ : ∀ I : Addr, ItemsRest prog w A E h₀ env target body Q s [(I, "dict_keyiterator")] [(ax, lo)] (kvs.map fun kv => .tok (.str kv.1)) m₀ news) :
    wpAny (model prog w) A (pyIter (.ref ax)) (fun it s₂ => TurnsAt prog w A h₀ env target body Q E it s₂) E s := by
  have hax := N _ hm
  obtain ⟨es, ep, h1, h2, h3, h4, h5⟩ := hd
  have hl : s.heap.DictAt (PySem.strKind prog w) ax kvs ep := ⟨lo, es, hax.1, h1, h2, h3, h4, h5⟩
  have hlt : ax < s.heap.objs.size := Heap.lt_size hax.1
  have hne : ax ≠ s.heap.objs.size := Nat.ne_of_lt hlt
  refine wpAny_pyIter_dict hs hl ?_
  refine ktu_core (tk0 := s.toks) (keep := [(ax, lo)]) (KTurns.ofWalks (Walks.dictKeys (knd := PySem.strKind prog w) hh s.heap.objs.size ax hne kvs ep).bound fun i v s Q E st q => letGo_keyiter st.1 q) (by simp) (fun i v h hp => ?_) (fun i h st => ?_) (fun b hb => ?_) (fun b hb => by simpa using hb) (fun b hb => ?_) ?_ (fun p hp hI => ?_) ?_ (F.push _) (fun p hp => ⟨Heap.get?_push_of_some _ (N p hp).1, (N p hp).2⟩) (And.intro hm trivial) (rest₀ _)
  · obtain ⟨_, k, x, hk, hv⟩ := hp
    obtain ⟨t, rfl⟩ := Value.isStrOf_shape hv
    exact ⟨.tok (.str k), by rw [List.getElem?_map, hk]; rfl, t, rfl⟩
  · obtain ⟨it, hit, hic, _⟩ := st.1
    exact ⟨[(s.heap.objs.size, it)], ⟨⟨rfl, hic⟩, trivial⟩, fun p hp => by rw [List.mem_singleton.mp hp]; exact hit⟩
  · have hb' : b = s.heap.objs.size := by simpa using hb
    rw [hb']
    exact ⟨List.mem_cons_self .., next_is_new F⟩
  · have hb' : b = s.heap.objs.size ∨ b = ax := by simpa using hb
    rcases hb' with e | e
    · exact .inl (by simp [e])
    · exact .inr ⟨lo, by simp [e]⟩
  · intro hI
    rcases List.mem_cons.mp hI with e | hI
    · exact absurd F.ns.lt (e ▸ Nat.lt_irrefl _)
    · exact hax.2.1 (List.mem_singleton.mp hI).symm
  · exact absurd (Heap.lt_size (N p hp).1) ((List.mem_singleton.mp hI) ▸ Nat.lt_irrefl _)
  · exact ⟨⟨_, Heap.get?_push_size _ rfl, rfl, rfl⟩, ⟨lo, es, Heap.get?_push_of_some _ hax.1, h1, h2, h3, h4, h5⟩⟩
theorem for_dict {σ : Type} {ax : Addr} {lo : Obj} {kvs : List (Str × Value)} {n : Nat} {m₀ : Str → Option Value} (Led : σ → List (Addr × Obj)) (ps : σ → List (Str × Value)) (Facts : Nat → σ → Prop) (stored : List Str) (c₀ : σ)
    (F : Fr h₀ env.locals s.heap m₀) (N : News h₀ env.locals s.heap ((ax, lo) :: Led c₀)) (hd : lo.IsDictOf (PySem.strKind prog w) kvs) (hs : (ax == sysModules) = false) (hn : kvs.length = n) (hh : A.handled = none)
    (hcls : ∀ i c, Facts i c → ∀ p ∈ Led c, p.2.cls ≠ .type "dict_keyiterator") (hf : Facts 0 c₀) (h1 : ∀ p ∈ ps c₀, m₀ p.1 = some p.2)
    (turn : ∀ I i kv c (u : Str → Option Value) t h tk o, i < n → kvs[i]? = some kv → Facts i c → o.cls = .type "dict_keyiterator" → Fr h₀ env.locals h (kstB (fun z => if stored.contains z then u z else m₀ z) (ps c)) → News h₀ env.locals h ((I, o) :: (ax, lo) :: Led c) →
      wpAny (model prog w) A (assign target env (.str kv.1 t)) (fun _ s₂ => wpAny (model prog w) A (execs body env) (ForPost h₀ env.locals { s with heap := h, toks := tk } (fun c => (ax, lo) :: Led c) ps (Facts (i + 1)) stored m₀ (I, o) Q) E s₂) E { s with heap := h, toks := tk })
    (done : ∀ c (u : Str → Option Value) h tk, Facts n c → Fr h₀ env.locals h (kstB (fun z => if stored.contains z then u z else m₀ z) (ps c)) → News h₀ env.locals h ((ax, lo) :: Led c) → Q .next { s with heap := h, toks := tk }) :
    wpAny (model prog w) A (pyIter (.ref ax)) (fun it s₂ => TurnsAt prog w A h₀ env target body Q E it s₂) E s := by
  have hc : lo.cls = .type "dict" := by
    obtain ⟨es, ep, h1, _⟩ := hd
    exact h1.1
  refine iter_dictTurns hh F N (.head _) hd hs fun I => ?_
  refine for_idx (keep := [(ax, lo)]) _ (by rw [List.length_map, hn]) (fun c => (ax, lo) :: Led c) ps Facts stored (fun i c hf => List.forall_mem_cons.mpr ⟨by rw [hc]; simp, hcls i c hf⟩) (fun _ c _ => And.intro (.head _) trivial) (fun i a c u v h tk o hi ha hf hv ho F' N' => ?_) done c₀ m₀ hf h1 fun _ _ _ => rfl
  rw [List.getElem?_map] at ha
  obtain ⟨x, hx, rfl⟩ := Option.map_eq_some_iff.mp ha
  obtain ⟨t, rfl⟩ := hv
  exact turn I i x c u t h tk o hi hx hf ho F' N'
end PFD
end JFD
section JFX
open PySem PySem.W PyProof.Rows PySem.Calls
section PFX
variable {prog : Program} {w : World} {K : Frag} {p : Program} {loose : List Str} {mean : ExcName → Option Value} {mg mb : Str → Option Value} {f : Addr} {D : Nat} {own : List (Addr × Obj)} {Exc : Prop} {vs : List Value} {A A₀ : Around} {base h₀ : Heap} {outer : List Env} {env : Env} {L : Addr} {m : Str → Option Value} {s : Shared} {news : List (Addr × Obj)} {Q E : Value → Shared → Prop}
theorem wo_filter (as : List Addr) : ∀ (l : List (Addr × Obj)), Wo as l (l.filter fun q => decide (∀ a ∈ as, @Ne Nat q.1 a))
  | [] => .nil
  | q :: l => by
    rw [List.filter_cons]
    by_cases h : ∀ a ∈ as, @Ne Nat q.1 a
    · rw [if_pos (decide_eq_true h)]; exact .keep h (wo_filter as l)
    · rw [if_neg (by simpa using h)]
      refine .skip ?_ (wo_filter as l)
      refine Classical.byContradiction fun hn => h fun a ha e => hn (e ▸ ha)
theorem news_whole {h h' : Heap} (N : News h₀ L h news) (hP : ∀ q ∈ own, q ∈ news) (N' : News h₀ L h' (own ++ news.filter fun (q : Addr × Obj) => decide (∀ a ∈ (own.map fun (r : Addr × Obj) => r.1), @Ne Nat q.1 a))) : News h₀ L h' news := fun q hq => by
  by_cases h1 : ∀ a ∈ (own.map fun (r : Addr × Obj) => r.1), @Ne Nat q.1 a
  · exact N' q (List.mem_append_right _ (List.mem_filter.mpr ⟨hq, decide_eq_true h1⟩))
  · obtain ⟨a, ha⟩ := Classical.not_forall.mp h1
    obtain ⟨hm, hn⟩ := Classical.not_imp.mp ha
    obtain ⟨r, hr, e⟩ := List.mem_map.mp hm
    have he : q.1 = r.1 := (Classical.not_not.mp hn).trans e.symm
    have z1 := (N q hq).1
    have z2 := (N r (hP r hr)).1
    rw [he, z2] at z1
    have : q = r := Prod.ext he (Option.some.inj z1).symm
    rw [this]; exact N' r (List.mem_append_left _ hr)
/-- a call that leaves the objects handed over as they are -/
theorem Spec.callR1 {α1 : Type} {V : α1 → Value} {C : α1 → Prop} (S : Spec prog w K p loose mean mg mb f ⟨vs, []⟩ D own (P1 V (fun _ => own) C) Exc)
    (B : Below A₀ base outer h₀) (F : Fr h₀ L s.heap m) (X : K.In h₀) (N : News h₀ L s.heap news) (T : Top p loose mean mg mb h₀)
    (hA : A.frames = some (env :: outer)) (hh : A.handled = none) (hf : env.frame = some L) (hke : env.scope.kind = .function) (hd : A.depth + D < recursionLimit) (hu : A.units + 10 * D < cLine)
    (P : ∀ q ∈ own, q ∈ news)
    (ret : ∀ a h' tk', C a → Fr h₀ L h' m → News h₀ L h' news → Q (V a) { s with heap := h', toks := tk' })
    (exc : Exc → ∀ e t vs h' tk' g₂, RaisedK base (env :: outer) e (.ref 59) t vs [] h' → Fr h₀ L g₂ m → g₂.UpToSlots h' → E (.ref e) { s with heap := h', toks := tk' }) :
    wpAny (model prog w) A (PySem.call (.ref f) vs) Q E s :=
  Spec.call1 S B F X N T hA hh hf hke hd hu P (wo_filter _ _) (fun a h' tk' hc F' N' _ _ => ret a h' tk' hc F' (news_whole N P N')) exc
end PFX
end JFX
section JC24
open PySem PySem.W PyProof.Rows PySem.Calls PyProof.V
section PC24
variable {prog : Program} {w : World} {p : Program} {loose : List Str} {mean : ExcName → Option Value} {mg mb : Str → Option Value}
set_option maxRecDepth 100000
set_option maxHeartbeats 4000000
theorem wd_C24_0 : True := by
  k_with "exec For Tuple Name cons nil" => (k_here; (have hmk9 := (show StopAt 3 by assumption)); clear hmk9; refine stop_here ?_)
  trivial
noncomputable def IsPl (x : Str) : Prop := x = "a" ∨ x = "q" ∨ x = "n" ∨ x = "filename"
theorem pl_of : ∀ {k : Nat}, isPl k = true → IsPl (nmS k)
  | 0, _ => .inl rfl
  | 1, _ => .inl rfl
  | 2, _ => .inr (.inl rfl)
  | 7, _ => .inr (.inr (.inl rfl))
  | _ + 8, _ => .inr (.inr (.inr rfl))
theorem pl_low : ∀ {k : Nat}, isPl k = true → (∀ c ∈ (wtB k).toList, c.toNat < 128) ∧ (wtB k).size ≤ 4000
  | 0, _ => by decide
  | 1, _ => by decide
  | 2, _ => by decide
  | 7, _ => by decide
  | _ + 8, _ => ⟨fun c hc => absurd hc (by simp [wtB]), Nat.zero_le _⟩
noncomputable def PtIs (x y : Str) (m : Int) (e : Bool) : Prop := (x = "c*" ∧ y = "c" ∧ m = 0 ∧ e = true) ∨ (x = "l*" ∧ y = "l" ∧ m = 0 ∧ e = true) ∨ (x = "p*0" ∧ y = "p" ∧ m = 0 ∧ e = false) ∨ (x = "p*1" ∧ y = "p" ∧ m = 1 ∧ e = false)
theorem pt_of : ∀ {k : Nat}, isPl k = false → k ≠ 6 → ∃ y e, PtIs (nmS k) y 0 e ∧ ((k = 3 ∧ y = "c" ∧ e = true) ∨ (k = 4 ∧ y = "l" ∧ e = true) ∨ (k = 5 ∧ y = "p" ∧ e = false))
  | 3, _, _ => ⟨"c", true, .inl ⟨rfl, rfl, rfl, rfl⟩, .inl ⟨rfl, rfl, rfl⟩⟩
  | 4, _, _ => ⟨"l", true, .inr (.inl ⟨rfl, rfl, rfl, rfl⟩), .inr (.inl ⟨rfl, rfl, rfl⟩)⟩
  | 5, _, _ => ⟨"p", false, .inr (.inr (.inl ⟨rfl, rfl, rfl, rfl⟩)), .inr (.inr ⟨rfl, rfl, rfl⟩)⟩
  | 6, _, h => absurd rfl h
theorem part_pl_spec (x : Str) (t : Nat) (h : IsPl x) : Spec prog w (kf w.params) p loose mean mg mb 423 ⟨[.str x t], []⟩ 4 [] (P0 .none [] True) False := by
  rcases h with rfl | rfl | rfl | rfl
  · exact part_a_spec t
  · exact part_q_spec t
  · exact part_n_spec t
  · exact part_filename_spec t
theorem part_pt_spec (x : Str) (t : Nat) (y : Str) (m : Int) (e : Bool) (h : PtIs x y m e) : Spec prog w (kf w.params) p loose mean mg mb 423 ⟨[.str x t], []⟩ 4 []
    (P4 (fun D _ _ _ => .ref D) (fun D n t1 t2 => [(D, tupO [.str y t1, .int m t2, .bool e] n)]) (fun _ _ _ _ => True)) False := by
  rcases h with ⟨rfl, rfl, rfl, rfl⟩ | ⟨rfl, rfl, rfl, rfl⟩ | ⟨rfl, rfl, rfl, rfl⟩ | ⟨rfl, rfl, rfl, rfl⟩
  · exact part_c_spec t
  · exact part_l_spec t
  · exact part_p0_spec t
  · exact part_p1_spec t
theorem wd_C24_1 : True := by
  k_with "call ref" => (k_here; (show wpAny _ _ (PySem.call (Value.ref 423) [_]) _ _ _); (refine' Spec.call4 (part_pt_spec _ _ _ _ _ (by assumption)) ?B ?F ?X ?N ?T rfl rfl rfl rfl ?hd ?hu ?P ?W ?_ (fun h => h.elim)); (case F => k_asm); (case N => k_asm); (case B => k_asm); (case X => k_asm); (case T => k_asm); (case hd => first | exact room_d (j := 1) hd (by decide) | exact room_d (j := 2) hd (by decide) | exact room_d (j := 3) hd (by decide) | (simp only [ar_depth, ar_units, depth_deeper, depth_mark, depth_under_make, depth_under_kw, depth_in1, units_deeper, units_in1, units_under_make, Around.mark_units]; omega)); (case hu => first | exact room_u (j := 0) hu (by decide) | exact room_u (j := 1) hu (by decide) | exact room_u (j := 2) hu (by decide) | exact room_u (j := 3) hu (by decide) | (simp only [ar_depth, ar_units, depth_deeper, depth_mark, depth_under_make, depth_under_kw, depth_in1, units_deeper, units_in1, units_under_make, Around.mark_units]; omega)); (case P => ktr_unf); (case W => tb_start); ((intro Dq' nq' tq1' tq2' h' tk' hP' F' N' l1 l2; (dsimp only [List.cons_append, List.nil_append] at N'); (simp only [AllLt, and_true] at l1); (simp only [Apart, ApartOne, and_true] at l2); clear hP'; (try k_sweep); (try dsimp only))))
  k_with "call ref" => (k_here; (show wpAny _ _ (PySem.call (Value.ref 423) [_]) _ _ _); (refine' Spec.call0 (part_pl_spec _ _ (by assumption)) ?B ?F ?X ?N ?T rfl rfl rfl rfl ?hd ?hu ?P ?W ?_ (fun h => h.elim)); (case F => k_asm); (case N => k_asm); (case B => k_asm); (case X => k_asm); (case T => k_asm); (case hd => first | exact room_d (j := 1) hd (by decide) | exact room_d (j := 2) hd (by decide) | exact room_d (j := 3) hd (by decide) | (simp only [ar_depth, ar_units, depth_deeper, depth_mark, depth_under_make, depth_under_kw, depth_in1, units_deeper, units_in1, units_under_make, Around.mark_units]; omega)); (case hu => first | exact room_u (j := 0) hu (by decide) | exact room_u (j := 1) hu (by decide) | exact room_u (j := 2) hu (by decide) | exact room_u (j := 3) hu (by decide) | (simp only [ar_depth, ar_units, depth_deeper, depth_mark, depth_under_make, depth_under_kw, depth_in1, units_deeper, units_in1, units_under_make, Around.mark_units]; omega)); (case P => ktr_unf); (case W => tb_start); ((intro  h' tk' hP' F' N' l1 l2; (dsimp only [List.cons_append, List.nil_append] at N'); clear l1 l2; clear hP'; (try k_sweep); (try dsimp only))))
  k_with "call ref" => (k_here; (show wpAny _ _ (PySem.call (Value.ref 257) [_]) _ _ _); (refine' Spec.call1 (guessed_spec _ _ (by assumption) (by assumption)) ?B ?F ?X ?N ?T rfl rfl rfl rfl ?hd ?hu ?P ?W ?_ (fun h => h.elim)); (case F => k_asm); (case N => k_asm); (case B => k_asm); (case X => k_asm); (case T => k_asm); (case hd => first | exact room_d (j := 1) hd (by decide) | exact room_d (j := 2) hd (by decide) | exact room_d (j := 3) hd (by decide) | (simp only [ar_depth, ar_units, depth_deeper, depth_mark, depth_under_make, depth_under_kw, depth_in1, units_deeper, units_in1, units_under_make, Around.mark_units]; omega)); (case hu => first | exact room_u (j := 0) hu (by decide) | exact room_u (j := 1) hu (by decide) | exact room_u (j := 2) hu (by decide) | exact room_u (j := 3) hu (by decide) | (simp only [ar_depth, ar_units, depth_deeper, depth_mark, depth_under_make, depth_under_kw, depth_in1, units_deeper, units_in1, units_under_make, Around.mark_units]; omega)); (case P => ktr_unf); (case W => tb_start); ((intro tg' h' tk' hP' F' N' l1 l2; (dsimp only [List.cons_append, List.nil_append] at N'); clear l1 l2; clear hP'; (try k_sweep); (try dsimp only))))
  trivial
theorem notin_d {A : Around} {E : Value → Shared → Prop} {s : Shared} {h₀ : Heap} {L d : Addr} {o : Obj} {kvs : List (Str × Value)} {news : List (Addr × Obj)} {x : Str} {t : Tok} {Q : Value → Shared → Prop} (N : News h₀ L s.heap news) (hp : (d, o) ∈ news) (hd : o.IsDictOf (PySem.strKind prog w) kvs) (lo : (d == sysModules) = false) (b : Bool) (hb : (valueAt kvs x).isSome = b)
    (h : Q (.bool (!b)) { s with toks := s.toks + 1 }) : wpAny (model prog w) A (compareOp .NotIn (.str x t) (.ref d)) Q E s :=
  wpAny_notIn_of (PySem.strKind_is _ _ _ _) lo (PySem.W.kda_dict N hp hd).mapOf (by rw [hb]; exact h)
theorem wd_C24_2 : True := by
  k_with "compareOp NotIn str ref" => (k_here; k_dflt (refine' notin_d ?N ?m ?d ?l _ ?b ?_; (case N => k_asm); (case m => k_mem); (case d => assumption); (case l => assumption); (case b => assumption)))
  k_with "subscriptTail Name Name ref str" => (k_here; k_dflt (refine' PySem.W.kda_item (knd := PySem.strKind _ _) ?N ?m ?d (PySem.strKind_is _ _ _ _) ?l ?_; (case N => k_asm); (case m => k_mem); (case d => assumption); (case l => first | exact valueAt_new | assumption)))
  trivial
structure QSt where
  o1 : Obj
  kv1 : List (Str × Value)
  o2 : Obj
  kv2 : List (Str × Value)
  ts : List (Addr × Obj)
structure PInv (prog : Program) (w : World) (prs : List (Addr × Obj)) (ks : List Nat) (D1 D2 : Addr) (i : Nat) (c : QSt) : Prop where
  h1 : c.o1.IsDictOf (PySem.strKind prog w) c.kv1
  a1 : KvAre c.kv1 (plain1 (ks.take i))
  h2 : c.o2.IsDictOf (PySem.strKind prog w) c.kv2
  a2 : PdAre prog w c.ts c.kv2 (parted1 (ks.take i))
  nd : (c.kv2.map (·.2)).Nodup
  sub : ∀ q ∈ prs, q ∈ c.ts
  t1 : ∀ q ∈ c.ts, q.1 ≠ D1
  t2 : ∀ q ∈ c.ts, q.1 ≠ D2
  cl : ∀ q ∈ c.ts, q.2.cls ≠ .type "list" ∧ q.2.cls ≠ .type "list_iterator"
  ci : ∀ q ∈ c.ts, q.2.cls ≠ .type "dict_keyiterator"
  z1 : c.kv1.length ≤ i
  z2 : c.kv2.length ≤ i
section
variable {prs : List (Addr × Obj)} {ks : List Nat} {D1 D2 : Addr} {i k : Nat} {c : QSt}
theorem allLt_mem {d : Addr} : ∀ {l : List (Addr × Obj)}, AllLt d l → ∀ q ∈ l, q.1 < d
  | [], _, _, hq => nomatch hq
  | _ :: l, h, q, hq => by
    rcases List.mem_cons.mp hq with rfl | hq
    · exact h.1
    · exact allLt_mem h.2 q hq
theorem addQ_pl {l : List Nat} : ∀ {k : Nat}, isPl k = true → addQ l k = l
  | 0, _ => rfl
  | 1, _ => rfl
  | 2, _ => rfl
  | 7, _ => rfl
  | _ + 8, _ => rfl
theorem pinv_keep (h : PInv prog w prs ks D1 D2 i c) (hk : ks[i]? = some k) (hp : isPl k = true) (hv : (valueAt c.kv1 (nmS k)).isSome = true) : PInv prog w prs ks D1 D2 (i + 1) c := by
  have hm : nmS k ∈ (plain1 (ks.take i)).map (·.1) := by
    rw [← h.a1.keys]
    by_cases e : nmS k ∈ c.kv1.map (·.1)
    · exact e
    · rw [valueAt_none.mpr e] at hv; cases hv
  refine ⟨h.h1, ?_, h.h2, ?_, h.nd, h.sub, h.t1, h.t2, h.cl, h.ci, Nat.le_succ_of_le h.z1, Nat.le_succ_of_le h.z2⟩
  · rw [plain_at hk, addP, if_pos hp, if_pos hm]; exact h.a1
  · rw [parted_at hk, addQ_pl hp]; exact h.a2
theorem pinv_put (h : PInv prog w prs ks D1 D2 i c) (hk : ks[i]? = some k) (hp : isPl k = true) (hv : (valueAt c.kv1 (nmS k)).isSome = false) {o' : Obj} {t : Nat} (hd : o'.IsDictOf (PySem.strKind prog w) (stored c.kv1 (nmS k) (.str (wtS k) t))) : PInv prog w prs ks D1 D2 (i + 1) ⟨o', stored c.kv1 (nmS k) (.str (wtS k) t), c.o2, c.kv2, c.ts⟩ := by
  have hm : nmS k ∉ (plain1 (ks.take i)).map (·.1) := by
    rw [← h.a1.keys]
    refine valueAt_none.mp ?_
    cases e : valueAt c.kv1 (nmS k) with
    | none => rfl
    | some v => rw [e] at hv; cases hv
  refine ⟨hd, ?_, h.h2, ?_, h.nd, h.sub, h.t1, h.t2, h.cl, h.ci, Nat.le_trans (stored_length_le _ _ _) (Nat.succ_le_succ h.z1), Nat.le_succ_of_le h.z2⟩
  · rw [plain_at hk, addP, if_pos hp, if_neg hm]; exact h.a1.put hm
  · rw [parted_at hk, addQ_pl hp]; exact h.a2
theorem pd_base {ts : List (Addr × Obj)} {kvs : List (Str × Value)} {bs : List Nat} (h : PdAre prog w ts kvs bs) : ∀ b ∈ bs, b = 3 ∨ b = 4 ∨ b = 5 ∨ b = 6 := by
  induction h with
  | nil => intro v hv; nomatch hv
  | cons kv b e _ ih =>
    intro v hv
    rcases List.mem_cons.mp hv with rfl | hv
    · first | ((have D := And.left e); (have o := And.left (And.right e)); (have T := And.left (And.right (And.right e))); (have n := And.left (And.right (And.right (And.right e)))); (have t := And.left (And.right (And.right (And.right (And.right e))))); (have q := (And.right (And.right (And.right (And.right (And.right (And.right (And.right (And.right (And.right e)))))))))); clear e) | obtain ⟨D, o, T, n, t, _, _, _, _, q⟩ := e
      rcases q with ⟨a, _⟩ | ⟨a, _⟩ | ⟨a, _⟩ | ⟨a, _⟩ <;> simp [a]
    · exact ih v hv
theorem pd_ref {ts : List (Addr × Obj)} {kvs : List (Str × Value)} {bs : List Nat} (h : PdAre prog w ts kvs bs) : ∀ v ∈ kvs.map (·.2), ∃ q ∈ ts, v = .ref q.1 := by
  induction h with
  | nil => intro v hv; nomatch hv
  | cons kv b e _ ih =>
    intro v hv
    rcases List.mem_cons.mp hv with rfl | hv
    · first | ((have D := And.left e); (have o := And.left (And.right e)); (have h1 := And.left (And.right (And.right (And.right (And.right (And.right e)))))); (have h3 := And.left (And.right (And.right (And.right (And.right (And.right (And.right (And.right e)))))))); clear e) | obtain ⟨D, o, _, _, _, h1, _, h3, _⟩ := e
      exact ⟨(D, o), h3, h1⟩
    · exact ih v hv
theorem base_new (h : PInv prog w prs ks D1 D2 i c) (ho : k < 9 ∧ (k = 3 → 3 ∉ parted1 (ks.take i)) ∧ (k = 4 → 4 ∉ parted1 (ks.take i)) ∧ (k = 5 → 5 ∉ parted1 (ks.take i) ∧ 6 ∉ parted1 (ks.take i)) ∧ (k = 6 → 6 ∈ parted1 (ks.take i))) {y : Str} {e : Bool} (hy : (k = 3 ∧ y = "c" ∧ e = true) ∨ (k = 4 ∧ y = "l" ∧ e = true) ∨ (k = 5 ∧ y = "p" ∧ e = false)) : (valueAt c.kv2 y).isSome = false := by
  have hb := pd_base h.a2
  have key : y ∉ c.kv2.map (·.1) := by
    rw [h.a2.keys]
    intro hm
    obtain ⟨b, hb1, hb2⟩ := List.mem_map.mp hm
    rcases hb b hb1 with rfl | rfl | rfl | rfl <;> rcases hy with ⟨rfl, rfl, _⟩ | ⟨rfl, rfl, _⟩ | ⟨rfl, rfl, _⟩ <;> first
      | exact absurd hb2 (by decide)
      | exact ho.2.1 rfl hb1
      | exact ho.2.2.1 rfl hb1
      | exact (ho.2.2.2.1 rfl).1 hb1
      | exact (ho.2.2.2.1 rfl).2 hb1
  rw [valueAt_none.mpr key]; rfl
theorem val_at : ∀ {kvs : List (Str × Value)} {i : Nat} {y : Str} {v : Value}, (kvs.map (·.1)).Nodup → kvs[i]? = some (y, v) → valueAt kvs y = some v
  | [], _, _, _, _, hi => by simp at hi
  | a :: l, 0, y, v, _, hi => by
    obtain rfl : a = (y, v) := Option.some.inj hi
    simp [valueAt]
  | a :: l, i + 1, y, v, hn, hi => by
    rw [List.map_cons, List.nodup_cons] at hn
    have hi' : l[i]? = some (y, v) := by simpa using hi
    have hne : ¬ a.1 = y := fun e => hn.1 (e ▸ List.mem_map.mpr ⟨(y, v), List.mem_of_getElem? hi', rfl⟩)
    have := val_at hn.2 hi'
    unfold valueAt at this ⊢
    rw [List.find?_cons]
    simpa [hne] using this
theorem val_of {o : Obj} {kvs : List (Str × Value)} (h : o.IsDictOf (PySem.strKind prog w) kvs) {i : Nat} {y : Str} {v : Value} (hi : kvs[i]? = some (y, v)) : valueAt kvs y = some v := by
  first | ((have hn := (And.right (And.right (And.right (And.right (And.right (And.right h))))))); clear h) | obtain ⟨_, _, _, _, _, _, hn⟩ := h
  exact val_at hn hi
theorem ks_all (hk : KdAre prs ks) : ks.take prs.length = ks := List.take_of_length_le (Nat.le_of_eq (kd_len hk).symm)
theorem pd_len {ts : List (Addr × Obj)} {kvs : List (Str × Value)} {bs : List Nat} (h : PdAre prog w ts kvs bs) : kvs.length = bs.length := by
  induction h with
  | nil => rfl
  | cons kv b e _ ih => rw [List.length_cons, List.length_cons, ih]
theorem pl_end (hk : KdAre prs ks) (h : PInv prog w prs ks D1 D2 prs.length c) {kv : List (Str × Value)} (hx : KvAre kv (plain1 ks ++ ((parted1 ks).take c.kv2.length).map fun b => (bnS b, jtS b))) : KvAre kv (plainW ks) := by
  have e := pd_len h.a2
  rw [ks_all hk] at e
  rw [e, List.take_length] at hx
  exact hx
theorem pinv_new (h : PInv prog w prs ks D1 D2 i c) (hk : ks[i]? = some k) {y : Str} {e : Bool} (hy : (k = 3 ∧ y = "c" ∧ e = true) ∨ (k = 4 ∧ y = "l" ∧ e = true) ∨ (k = 5 ∧ y = "p" ∧ e = false)) (hv : (valueAt c.kv2 y).isSome = false) {o' od : Obj} {d T : Addr} {u n : Nat}
    (hd : o'.IsDictOf (PySem.strKind prog w) (stored c.kv2 y (.ref d))) (hi : od.IsDictOf (PySem.intKind prog w) [(0, .ref T)]) (lo : (d == sysModules) = false) (hlt : AllLt d c.ts) (hd1 : @LT.lt Nat _ D1 d) (hd2 : @LT.lt Nat _ D2 d) (hdT : @LT.lt Nat _ d T) :
    PInv prog w prs ks D1 D2 (i + 1) ⟨c.o1, c.kv1, o', stored c.kv2 y (.ref d), (d, od) :: (T, tupO [.bool e, .bytes (wtB k) u] n) :: c.ts⟩ := by
  have hm : y ∉ c.kv2.map (·.1) := by
    refine valueAt_none.mp ?_
    cases e : valueAt c.kv2 y with
    | none => rfl
    | some v => rw [e] at hv; cases hv
  have hts : ∀ q ∈ c.ts, q ∈ (d, od) :: (T, tupO [.bool e, .bytes (wtB k) u] n) :: c.ts := fun q hq => .tail _ (.tail _ hq)
  refine ⟨h.h1, ?_, hd, ?_, ?_, fun q hq => hts q (h.sub q hq), ?_, ?_, ?_, ?_, Nat.le_succ_of_le h.z1, Nat.le_trans (stored_length_le _ _ _) (Nat.succ_le_succ h.z2)⟩
  · rw [plain_at hk, addP, if_neg]
    · exact h.a1
    · rcases hy with ⟨rfl, _⟩ | ⟨rfl, _⟩ | ⟨rfl, _⟩ <;> decide
  · rw [parted_at hk, stored_app hm]
    rcases hy with ⟨rfl, rfl, rfl⟩ | ⟨rfl, rfl, rfl⟩ | ⟨rfl, rfl, rfl⟩
    · exact (h.a2.mono hts).snoc ⟨d, od, T, n, u, rfl, rfl, .head _, lo, .inl ⟨rfl, hi, .tail _ (.head _)⟩⟩
    · exact (h.a2.mono hts).snoc ⟨d, od, T, n, u, rfl, rfl, .head _, lo, .inr (.inl ⟨rfl, hi, .tail _ (.head _)⟩)⟩
    · exact (h.a2.mono hts).snoc ⟨d, od, T, n, u, rfl, rfl, .head _, lo, .inr (.inr (.inl ⟨rfl, hi, .tail _ (.head _)⟩))⟩
  · rw [stored_app hm, List.map_append]
    refine List.nodup_append.mpr ⟨h.nd, by simp, fun a ha b hb e => ?_⟩
    obtain ⟨q, hq, rfl⟩ := pd_ref h.a2 a ha
    rw [List.mem_singleton.mp hb] at e
    have : q.1 = d := by injection e
    exact absurd (allLt_mem hlt q hq) (this ▸ Nat.lt_irrefl _)
  · refine List.forall_mem_cons.mpr ⟨(Nat.ne_of_lt hd1).symm, List.forall_mem_cons.mpr ⟨(Nat.ne_of_lt (Nat.lt_trans hd1 hdT)).symm, h.t1⟩⟩
  · refine List.forall_mem_cons.mpr ⟨(Nat.ne_of_lt hd2).symm, List.forall_mem_cons.mpr ⟨(Nat.ne_of_lt (Nat.lt_trans hd2 hdT)).symm, h.t2⟩⟩
  · refine List.forall_mem_cons.mpr ⟨by rw [dict_cls hi]; simp, List.forall_mem_cons.mpr ⟨by simp, h.cl⟩⟩
  · refine List.forall_mem_cons.mpr ⟨by rw [dict_cls hi]; simp, List.forall_mem_cons.mpr ⟨by simp, h.ci⟩⟩
theorem nodup_inj {α β : Type} {f : α → β} : ∀ {l : List α}, (l.map f).Nodup → ∀ {a b : α}, a ∈ l → b ∈ l → f a = f b → a = b
  | [], _, _, _, ha, _, _ => nomatch ha
  | x :: l, h, a, b, ha, hb, e => by
    rw [List.map_cons, List.nodup_cons] at h
    rcases List.mem_cons.mp ha with h1 | h1
    · rcases List.mem_cons.mp hb with h2 | h2
      · exact h1.trans h2.symm
      · exact absurd (List.mem_map.mpr ⟨b, h2, (h1 ▸ e).symm⟩) h.1
    · rcases List.mem_cons.mp hb with h2 | h2
      · exact absurd (List.mem_map.mpr ⟨a, h1, h2 ▸ e⟩) h.1
      · exact nodup_inj h.2 h1 h2 e
/-- a ledger without one address -/
noncomputable def away (D : Addr) (ts : List (Addr × Obj)) : List (Addr × Obj) := ts.filter fun q => decide (q.1 ≠ D)
theorem away_mem {D : Addr} {ts : List (Addr × Obj)} {q : Addr × Obj} : q ∈ away D ts ↔ q ∈ ts ∧ q.1 ≠ D := by
  unfold away
  rw [List.mem_filter]
  simp
theorem away_off {D : Addr} {ts : List (Addr × Obj)} : ∀ q ∈ away D ts, q.1 ≠ D := fun _ h => (away_mem.mp h).2
theorem six_at {ts : List (Addr × Obj)} {kvs : List (Str × Value)} {bs : List Nat} (h : PdAre prog w ts kvs bs) (h6 : 6 ∈ bs) : ∃ (i : Nat) (D : Addr) (o : Obj) (T : Addr) (n t : Nat), kvs[i]? = some (("p" : Str), Value.ref D) ∧ (D, o) ∈ ts ∧ (D == sysModules) = false ∧ o.IsDictOf (PySem.intKind prog w) [(0, .ref T)] ∧ (T, tupO [.bool false, .bytes abB t] n) ∈ ts := by
  induction h with
  | nil => nomatch h6
  | cons kv b e _ ih =>
    rcases List.mem_cons.mp h6 with rfl | h6
    · first | ((have D := And.left e); (have o := And.left (And.right e)); (have T := And.left (And.right (And.right e))); (have n := And.left (And.right (And.right (And.right e)))); (have t := And.left (And.right (And.right (And.right (And.right e))))); (have h1 := And.left (And.right (And.right (And.right (And.right (And.right e)))))); (have h2 := And.left (And.right (And.right (And.right (And.right (And.right (And.right e))))))); (have h3 := And.left (And.right (And.right (And.right (And.right (And.right (And.right (And.right e)))))))); (have h4 := And.left (And.right (And.right (And.right (And.right (And.right (And.right (And.right (And.right e))))))))); (have q := (And.right (And.right (And.right (And.right (And.right (And.right (And.right (And.right (And.right e)))))))))); clear e) | obtain ⟨D, o, T, n, t, h1, h2, h3, h4, q⟩ := e
      first | ((have y := And.left kv); (have v := (And.right kv)); clear kv) | obtain ⟨y, v⟩ := kv
      dsimp only at h1 h2
      subst h1 h2
      rcases q with ⟨a, _⟩ | ⟨a, _⟩ | ⟨_, a, b⟩ | ⟨a, _⟩
      · cases a
      · cases a
      · exact ⟨0, D, o, T, n, t, rfl, h3, h4, a, b⟩
      · cases a
    · obtain ⟨i, D, o, T, n, t, a, b⟩ := ih h6
      exact ⟨i + 1, D, o, T, n, t, by simpa using a, b⟩
theorem pd_six {ts ts' : List (Addr × Obj)} {kvs : List (Str × Value)} {bs : List Nat} {D : Addr} (h : PdAre prog w ts kvs bs) (hE : EntIs prog w ts' (("p" : Str), Value.ref D) 5) (h6 : ∀ kv ∈ kvs, kv.1 = "p" → kv = (("p" : Str), Value.ref D)) (hv : ∀ kv ∈ kvs, kv.2 = .ref D → kv = (("p" : Str), Value.ref D)) (h5 : 5 ∉ bs)
    (hs : ∀ q ∈ ts, q.1 ≠ D → q ∈ ts') (ht : ∀ q ∈ ts, q.2.cls = .type "tuple" → q.1 ≠ D) : PdAre prog w ts' kvs (bs.map fun b => if b = 6 then 5 else b) := by
  induction h with
  | nil => exact .nil
  | cons kv b e _ ih =>
    have ih := ih (fun x hx => h6 x (.tail _ hx)) (fun x hx => hv x (.tail _ hx)) (fun hx => h5 (.tail _ hx))
    rw [List.map_cons]
    refine .cons _ _ ?_ ih
    first | ((have D' := And.left e); (have o' := And.left (And.right e)); (have T' := And.left (And.right (And.right e))); (have n' := And.left (And.right (And.right (And.right e)))); (have t' := And.left (And.right (And.right (And.right (And.right e))))); (have h1 := And.left (And.right (And.right (And.right (And.right (And.right e)))))); (have h2 := And.left (And.right (And.right (And.right (And.right (And.right (And.right e))))))); (have h3 := And.left (And.right (And.right (And.right (And.right (And.right (And.right (And.right e)))))))); (have h4 := And.left (And.right (And.right (And.right (And.right (And.right (And.right (And.right (And.right e))))))))); (have q := (And.right (And.right (And.right (And.right (And.right (And.right (And.right (And.right (And.right e)))))))))); clear e) | obtain ⟨D', o', T', n', t', h1, h2, h3, h4, q⟩ := e
    have hc := h6 kv (.head _)
    have hv := hv kv (.head _)
    have key : kv.1 ≠ "p" → (D', o') ∈ ts' := fun hn => hs _ h3 fun e => by
      dsimp only at e
      subst e
      rw [hv h1] at hn; exact hn rfl
    rcases q with ⟨rfl, a, b⟩ | ⟨rfl, a, b⟩ | ⟨rfl, a, b⟩ | ⟨rfl, a⟩
    · exact ⟨D', o', T', n', t', h1, h2, key (by rw [h2]; decide), h4, .inl ⟨rfl, a, hs _ b (ht _ b rfl)⟩⟩
    · exact ⟨D', o', T', n', t', h1, h2, key (by rw [h2]; decide), h4, .inr (.inl ⟨rfl, a, hs _ b (ht _ b rfl)⟩)⟩
    · rw [hc h2]; exact hE
    · exact absurd (.head _) h5
theorem pinv_six (h : PInv prog w prs ks D1 D2 i c) (hp : ∀ q ∈ prs, q.2.cls = .type "tuple") (hk : ks[i]? = some 6) {j : Nat} {D T : Addr} {o : Obj} {n t : Nat} (hj : c.kv2[j]? = some (("p" : Str), Value.ref D)) (lo : (D == sysModules) = false) (hDo : (D, o) ∈ c.ts) (hT : (T, tupO [.bool false, .bytes abB t] n) ∈ c.ts) (h6 : 6 ∈ parted1 (ks.take i))
    (ht : ∀ q ∈ c.ts, q.2.cls = .type "tuple" → q.1 ≠ D) {o' : Obj} {T1 : Addr} {n1 t1 : Nat} (ho' : o'.IsDictOf (PySem.intKind prog w) [(0, .ref T), (1, .ref T1)]) (hd1 : @Ne Nat T1 D1) (hd2 : @Ne Nat T1 D2) :
    PInv prog w prs ks D1 D2 (i + 1) ⟨c.o1, c.kv1, c.o2, c.kv2, (D, o') :: (T1, tupO [.bool false, .bytes cdB t1] n1) :: away D c.ts⟩ := by
  have hm : ((("p" : Str), Value.ref D)) ∈ c.kv2 := List.mem_of_getElem? hj
  have hkn : (c.kv2.map (·.1)).Nodup := by
    first | ((have hn := (And.right (And.right (And.right (And.right (And.right (And.right h.h2)))))))) | obtain ⟨_, _, _, _, _, _, hn⟩ := h.h2
    exact hn
  have h5 : 5 ∉ parted1 (ks.take i) := fun h5 => by
    have e := h.a2.keys
    rw [e] at hkn
    exact absurd (nodup_inj hkn h5 h6 rfl) (by decide)
  refine ⟨h.h1, ?_, h.h2, ?_, h.nd, ?_, ?_, ?_, ?_, ?_, Nat.le_succ_of_le h.z1, Nat.le_succ_of_le h.z2⟩
  · rw [plain_at hk]; exact h.a1
  · rw [parted_at hk]
    refine pd_six h.a2 ⟨D, o', T, n, t, rfl, rfl, .head _, lo, .inr (.inr (.inr ⟨rfl, T1, n1, t1, ho', .tail _ (.tail _ (away_mem.mpr ⟨hT, ht _ hT rfl⟩)), .tail _ (.head _)⟩))⟩ (fun kv hkv e => nodup_inj hkn hkv hm e) (fun kv hkv e => nodup_inj h.nd hkv hm e) h5 (fun q hq e => .tail _ (.tail _ (away_mem.mpr ⟨hq, e⟩))) ht
  · exact fun q hq => .tail _ (.tail _ (away_mem.mpr ⟨h.sub q hq, ht q (h.sub q hq) (hp q hq)⟩))
  · exact List.forall_mem_cons.mpr ⟨h.t1 (D, o) hDo, List.forall_mem_cons.mpr ⟨hd1, fun q hq => h.t1 q (away_mem.mp hq).1⟩⟩
  · exact List.forall_mem_cons.mpr ⟨h.t2 (D, o) hDo, List.forall_mem_cons.mpr ⟨hd2, fun q hq => h.t2 q (away_mem.mp hq).1⟩⟩
  · exact List.forall_mem_cons.mpr ⟨by rw [dict_cls ho']; simp, List.forall_mem_cons.mpr ⟨by simp, fun q hq => h.cl q (away_mem.mp hq).1⟩⟩
  · exact List.forall_mem_cons.mpr ⟨by rw [dict_cls ho']; simp, List.forall_mem_cons.mpr ⟨by simp, fun q hq => h.ci q (away_mem.mp hq).1⟩⟩
theorem ent_spec {ts : List (Addr × Obj)} {kv : Str × Value} {b : Nat} (h : EntIs prog w ts kv b) (h6 : b ≠ 6) : ∃ D oD T r os, kv = (bnS b, .ref D) ∧ (D, oD) ∈ ts ∧ (D == sysModules) = false ∧ Obj.IsDictOf (PySem.intKind prog w) oD ((0, .ref T) :: r) ∧ (∀ q ∈ os, q ∈ ts) ∧
    Spec prog w (kf w.params) p loose mean mg mb 447 ⟨[.ref D], []⟩ 11 os (P1 (fun t => .str (jtS b) t) (fun _ => os) (fun _ => True)) False := by
  first | ((have D := And.left h); (have o := And.left (And.right h)); (have T := And.left (And.right (And.right h))); (have n := And.left (And.right (And.right (And.right h)))); (have t := And.left (And.right (And.right (And.right (And.right h))))); (have h1 := And.left (And.right (And.right (And.right (And.right (And.right h)))))); (have h2 := And.left (And.right (And.right (And.right (And.right (And.right (And.right h))))))); (have h3 := And.left (And.right (And.right (And.right (And.right (And.right (And.right (And.right h)))))))); (have h4 := And.left (And.right (And.right (And.right (And.right (And.right (And.right (And.right (And.right h))))))))); (have q := (And.right (And.right (And.right (And.right (And.right (And.right (And.right (And.right (And.right h)))))))))); clear h) | obtain ⟨D, o, T, n, t, h1, h2, h3, h4, q⟩ := h
  have e : kv = (bnS b, .ref D) := Prod.ext h2 h1
  rcases q with ⟨rfl, a, b⟩ | ⟨rfl, a, b⟩ | ⟨rfl, a, b⟩ | ⟨rfl, T1, n1, t1, a, b, c⟩
  · exact ⟨D, o, T, [], _, e, h3, h4, a, List.forall_mem_cons.mpr ⟨h3, List.forall_mem_singleton.mpr b⟩, joined_c_spec D T n t o a h4⟩
  · exact ⟨D, o, T, [], _, e, h3, h4, a, List.forall_mem_cons.mpr ⟨h3, List.forall_mem_singleton.mpr b⟩, joined_l_spec D T n t o a h4⟩
  · exact absurd rfl h6
  · exact ⟨D, o, T, _, _, e, h3, h4, a, List.forall_mem_cons.mpr ⟨h3, List.forall_mem_cons.mpr ⟨b, List.forall_mem_singleton.mpr c⟩⟩, joined_p_spec D T T1 n t n1 t1 o a h4⟩
theorem plain1_pl : ∀ (ks : List Nat) (acc : List (Str × Str)), (∀ x ∈ acc.map (·.1), IsPl x) → ∀ x ∈ (ks.foldl addP acc).map (·.1), IsPl x
  | [], _, h => h
  | k :: ks, acc, h => by
    rw [List.foldl_cons]
    refine plain1_pl ks _ fun x hx => ?_
    unfold addP at hx
    split at hx
    · rename_i hp
      split at hx
      · exact h x hx
      · rw [List.map_append] at hx
        rcases List.mem_append.mp hx with hx | hx
        · exact h x hx
        · rw [List.mem_singleton.mp hx]; exact pl_of hp
    · exact h x hx
theorem bn_new (hk : KdAre prs ks) (h : PInv prog w prs ks D1 D2 prs.length c) {j b : Nat} (hb : (parted1 ks)[j]? = some b) : bnS b ∉ (plain1 ks ++ ((parted1 ks).take j).map fun b => (bnS b, jtS b)).map (·.1) := by
  have hpd := h.a2
  rw [ks_all hk] at hpd
  have hkn : (c.kv2.map (·.1)).Nodup := by
    first | ((have hn := (And.right (And.right (And.right (And.right (And.right (And.right h.h2)))))))) | obtain ⟨_, _, _, _, _, _, hn⟩ := h.h2
    exact hn
  rw [hpd.keys] at hkn
  rw [List.map_append, List.map_map]
  intro hm
  rcases List.mem_append.mp hm with hm | hm
  · have := plain1_pl ks [] (fun x hx => nomatch hx) _ hm
    rcases pd_base hpd b (List.mem_of_getElem? hb) with rfl | rfl | rfl | rfl <;> revert this <;> unfold IsPl <;> decide
  · have e : parted1 ks = (parted1 ks).take j ++ (parted1 ks).drop j := (List.take_append_drop _ _).symm
    rw [e, List.map_append] at hkn
    have hd : b ∈ (parted1 ks).drop j := by
      refine List.mem_of_getElem? (i := 0) ?_
      rw [List.getElem?_drop]; exact hb
    exact (List.nodup_append.mp hkn).2.2 (bnS b) hm (bnS b) (List.mem_map.mpr ⟨b, hd, rfl⟩) rfl
theorem kv_turn (hk : KdAre prs ks) (h : PInv prog w prs ks D1 D2 prs.length c) {j b t : Nat} (hb : (parted1 ks)[j]? = some b) {kv : List (Str × Value)} (hv : KvAre kv (plain1 ks ++ ((parted1 ks).take j).map fun b => (bnS b, jtS b))) :
    KvAre (stored kv (bnS b) (.str (jtS b) t)) (plain1 ks ++ ((parted1 ks).take (j + 1)).map fun b => (bnS b, jtS b)) := by
  have := hv.put (y := jtS b) (t := t) (bn_new hk h hb)
  rw [take_at hb, List.map_append, ← List.append_assoc]
  exact this
end
end PC24
end JC24
section JFL
open PySem PySem.W PyProof.Rows PySem.Calls PySem.Spec
section PFL
set_option maxRecDepth 100000
variable {prog : Program} {w : World} {A : Around} {E : Value → Shared → Prop} {s : Shared} {env : Env} {h₀ : Heap} {target : Expr} {body : List Stmt} {Q : Flow → Shared → Prop}
/-- for_list2 with the frame and the end of a turn under names: smaller terms -/
theorem for_list3 {σ : Type} {ax : Addr} {lo : Obj} {vs : List Value} {k n : Nat} {m₀ : Str → Option Value} (Led : σ → List (Addr × Obj)) (ps : σ → List (Str × Value)) (Facts : Nat → σ → Prop) (stored : List Str) (c₀ : σ)
    (F : Fr h₀ env.locals s.heap m₀) (N : News h₀ env.locals s.heap ((ax, lo) :: Led c₀)) (hc : lo.cls = .type "list") (hd : lo.data = .seq vs.toArray k) (hv : vs.length = n) (hh : A.handled = none)
    (hcls : ∀ i c, Facts i c → ∀ p ∈ Led c, p.2.cls ≠ .type "list_iterator") (hf : Facts 0 c₀) (h1 : ∀ p ∈ ps c₀, m₀ p.1 = some p.2)
    (turn : ∀ I i c (u : Str → Option Value) v h tk o, i < n → vs[i]? = some v → Facts i c → o.cls = .type "list_iterator" → let mm := kstB (fun z => if stored.contains z then u z else m₀ z) (ps c); Fr h₀ env.locals h mm → News h₀ env.locals h ((I, o) :: (ax, lo) :: Led c) →
      let post := ForPost h₀ env.locals { s with heap := h, toks := tk } (fun c => (ax, lo) :: Led c) ps (Facts (i + 1)) stored m₀ (I, o) Q
      wpAny (model prog w) A (assign target env v) (fun _ s₂ => wpAny (model prog w) A (execs body env) post E s₂) E { s with heap := h, toks := tk })
    (done : ∀ c (u : Str → Option Value) h tk, Facts n c → let mm := kstB (fun z => if stored.contains z then u z else m₀ z) (ps c); Fr h₀ env.locals h mm → News h₀ env.locals h ((ax, lo) :: Led c) → Q .next { s with heap := h, toks := tk }) :
    wpAny (model prog w) A (pyIter (.ref ax)) (fun it s₂ => TurnsAt prog w A h₀ env target body Q E it s₂) E s := for_list2 Led ps Facts stored c₀ F N hc hd hv hh hcls hf h1 turn done
theorem for_dict3 {σ : Type} {ax : Addr} {lo : Obj} {kvs : List (Str × Value)} {n : Nat} {m₀ : Str → Option Value} (Led : σ → List (Addr × Obj)) (ps : σ → List (Str × Value)) (Facts : Nat → σ → Prop) (stored : List Str) (c₀ : σ)
    (F : Fr h₀ env.locals s.heap m₀) (N : News h₀ env.locals s.heap ((ax, lo) :: Led c₀)) (hd : lo.IsDictOf (PySem.strKind prog w) kvs) (hs : (ax == sysModules) = false) (hn : kvs.length = n) (hh : A.handled = none)
    (hcls : ∀ i c, Facts i c → ∀ p ∈ Led c, p.2.cls ≠ .type "dict_keyiterator") (hf : Facts 0 c₀) (h1 : ∀ p ∈ ps c₀, m₀ p.1 = some p.2)
    (turn : ∀ I i kv c (u : Str → Option Value) t h tk o, i < n → kvs[i]? = some kv → Facts i c → o.cls = .type "dict_keyiterator" → let mm := kstB (fun z => if stored.contains z then u z else m₀ z) (ps c); Fr h₀ env.locals h mm → News h₀ env.locals h ((I, o) :: (ax, lo) :: Led c) →
      let post := ForPost h₀ env.locals { s with heap := h, toks := tk } (fun c => (ax, lo) :: Led c) ps (Facts (i + 1)) stored m₀ (I, o) Q
      wpAny (model prog w) A (assign target env (.str kv.1 t)) (fun _ s₂ => wpAny (model prog w) A (execs body env) post E s₂) E { s with heap := h, toks := tk })
    (done : ∀ c (u : Str → Option Value) h tk, Facts n c → let mm := kstB (fun z => if stored.contains z then u z else m₀ z) (ps c); Fr h₀ env.locals h mm → News h₀ env.locals h ((ax, lo) :: Led c) → Q .next { s with heap := h, toks := tk }) :
    wpAny (model prog w) A (pyIter (.ref ax)) (fun it s₂ => TurnsAt prog w A h₀ env target body Q E it s₂) E s := for_dict Led ps Facts stored c₀ F N hd hs hn hh hcls hf h1 turn done
theorem for_range3 {σ : Type} {r : Addr} {a₀ b₀ : Int} {t₀ u₀ v₀ : Tok} {n : Nat} {m₀ : Str → Option Value} {news : List (Addr × Obj)} (Led : σ → List (Addr × Obj)) (ps : σ → List (Str × Value)) (Facts : Nat → σ → Prop) (stored : List Str) (c₀ : σ)
    (hh : A.handled = none) (hr : IsRange s.heap r a₀ b₀ 1 t₀ u₀ v₀) (hsmall : Builtin.Range.small a₀ b₀ 1 = true) (hn : Builtin.Range.rangeSize a₀ b₀ 1 = (n : Int)) (F : Fr h₀ env.locals s.heap m₀) (N : News h₀ env.locals s.heap news) (hN : ∀ p ∈ Led c₀, p ∈ news)
    (hcls : ∀ i c, Facts i c → ∀ p ∈ Led c, p.2.cls ≠ .type "range_iterator") (hf : Facts 0 c₀) (h1 : ∀ p ∈ ps c₀, m₀ p.1 = some p.2)
    (turn : ∀ I i c (u : Str → Option Value) t h tk o, i < n → Facts i c → o.cls = .type "range_iterator" → let mm := kstB (fun z => if stored.contains z then u z else m₀ z) (ps c); Fr h₀ env.locals h mm → News h₀ env.locals h ((I, o) :: Led c) →
      let post := ForPost h₀ env.locals { s with heap := h, toks := tk } Led ps (Facts (i + 1)) stored m₀ (I, o) Q
      wpAny (model prog w) A (assign target env (.int (a₀ + (i : Int)) t)) (fun _ s₂ => wpAny (model prog w) A (execs body env) post E s₂) E { s with heap := h, toks := tk })
    (done : ∀ c (u : Str → Option Value) h tk, Facts n c → let mm := kstB (fun z => if stored.contains z then u z else m₀ z) (ps c); Fr h₀ env.locals h mm → News h₀ env.locals h (Led c) → Q .next { s with heap := h, toks := tk }) :
    wpAny (model prog w) A (pyIter (.ref r)) (fun it s₂ => TurnsAt prog w A h₀ env target body Q E it s₂) E s := for_range Led ps Facts stored c₀ hh hr hsmall hn F N hN hcls hf h1 turn done
end PFL
end JFL
section JC25
open PySem PySem.W PyProof.Rows PySem.Calls PyProof.V
section PC25
variable {prog : Program} {w : World} {p : Program} {loose : List Str} {mean : ExcName → Option Value} {mg mb : Str → Option Value}
set_option maxRecDepth 100000
set_option maxHeartbeats 4000000
theorem wd_C25_0 : True := by
  k_with "exec Assign" => k_fold
  k_with "exec If" => k_fold
  k_with "exec Expr" => k_fold
  k_with "compareOp In int ref" => (k_here; k_dflt (refine' PySem.W.kda_in (knd := PySem.intKind _ _) ?N ?m ?d ?l (PySem.intKind_is _ _ _ _) true rfl ?_; (case N => k_asm); (case m => k_mem); (case d => assumption); (case l => assumption)))
  k_with "call ref" => (k_here; (show wpAny _ _ (PySem.call (Value.ref 447) [_]) _ _ _); (refine' Spec.callR1 ((by assumption)) ?B ?F ?X ?N ?T rfl rfl rfl rfl ?hd ?hu ?P ?_ (fun h => h.elim)); (case F => k_asm); (case N => k_asm); (case B => k_asm); (case X => k_asm); (case T => k_asm); (case hd => first | exact room_d (j := 1) hd (by decide) | exact room_d (j := 2) hd (by decide) | exact room_d (j := 3) hd (by decide) | (simp only [ar_depth, ar_units, depth_deeper, depth_mark, depth_under_make, depth_under_kw, depth_in1, units_deeper, units_in1, units_under_make, Around.mark_units]; omega)); (case hu => first | exact room_u (j := 0) hu (by decide) | exact room_u (j := 1) hu (by decide) | exact room_u (j := 2) hu (by decide) | exact room_u (j := 3) hu (by decide) | (simp only [ar_depth, ar_units, depth_deeper, depth_mark, depth_under_make, depth_under_kw, depth_in1, units_deeper, units_in1, units_under_make, Around.mark_units]; omega)); (case P => first | assumption | ktr_unf); ((intro tj' h' tk' hP' F' N'; clear hP'; (try k_sweep); (try dsimp only))))
  trivial
theorem params_spec (P : Addr) (prs : List (Addr × Obj)) (n : Nat) (ks : List Nat) (hk : KdAre prs ks) (ho : KOk ks) (hl : prs.length ≤ 4000) : Spec prog w (kf w.params) p loose mean mg mb 454 ⟨[.ref P], []⟩ 13 ((P, listOf (prs.map fun q => Value.ref q.1).toArray n) :: prs)
    (P3 (fun D _ _ => .ref D) (fun D o _ => [(D, o)]) (fun D o kvs => o.IsDictOf (PySem.strKind prog w) kvs ∧ (D == sysModules) = false ∧ KvAre kvs (plainW ks))) False := by
  refine' spec_of3 (rb := [("pairs", .ref P)]) ?k1 ?k2 ?k3 ?k4 ?k5 ?k6 ?k7 ?k8 ?k9 ?_
  case k1 => k_is
  case k2 => k_is
  case k3 => first | exact fun s Xs => BindsTo.of_eq rfl | exact fun s Xs => binds_K Xs rfl (by k_is) rfl rfl rfl
  case k4 => exact locs rfl
  case k5 => exact rfl
  case k6 => exact rfl
  case k7 => exact rfl
  case k8 => decide
  case k9 => decide
  intro dp un gd envs base g L' h₁ gens drawn tk os R B F N X T lt hd hu ret exc eE aA
  k_fold
  (try k_lt lt)
  (try dsimp only)
  have hmk3 : StopAt 3 := .here
  k_steps
  unfold StopHere
  rename Fr _ _ _ _ => F9
  refine For_turns F9 ?_
  k_whole
  k_steps
  unfold StopHere
  rename Fr _ _ _ _ => F8
  rename News _ _ _ _ => N8
  rename_i D1 _ o1 lo1 hs1 _ _ _ l1 _ D2 _ o2 lo2 hs2 _ _ _ l2 _
  have N7 := news_mono (l' := (P, listOf (prs.map fun q => Value.ref q.1).toArray n) :: (D2, o2) :: (D1, o1) :: prs) N8 (fun q hq => by
    rcases List.mem_cons.mp hq with rfl | hq
    · exact .tail _ (.tail _ (.head _))
    · rcases List.mem_cons.mp hq with rfl | hq
      · exact .head _
      · rcases List.mem_cons.mp hq with rfl | hq
        · exact .tail _ (.head _)
        · exact .tail _ (.tail _ (.tail _ hq)))
  refine' for_list3 (σ := QSt) (n := prs.length) (fun c => (D2, c.o2) :: (D1, c.o1) :: c.ts) (fun _ => []) (PInv prog w prs ks D1 D2) ["name", "worth", "part", "base", "number", "is_encoded"] ⟨o1, [], o2, [], prs⟩ F8 N7 rfl rfl (List.length_map _) rfl ?hc ?h0 (List.forall_mem_nil _) ?turn ?done
  case hc =>
    intro i c hf
    exact List.forall_mem_cons.mpr ⟨by rw [dict_cls hf.h2]; simp, List.forall_mem_cons.mpr ⟨by rw [dict_cls hf.h1]; simp, fun q hq => (hf.cl q hq).2⟩⟩
  case h0 => exact ⟨hs1, .nil, hs2, .nil, List.nodup_nil, fun q hq => hq, fun q hq => Nat.ne_of_lt (allLt_mem l1.2 q hq), fun q hq => Nat.ne_of_lt (allLt_mem l2.2.2 q hq), fun q hq => by rw [kd_cls hk q hq]; simp, fun q hq => by rw [kd_cls hk q hq]; simp, Nat.le_refl _, Nat.le_refl _⟩
  case done =>
    intro c u h tk8 hf mm F N
    clear F8 N8 N7
    (try dsimp only)
    (try k_fold)
    have hD : @Ne Nat D2 D1 := fun e => absurd l2.1 (e ▸ Nat.lt_irrefl _)
    k_steps
    unfold StopHere
    rename Fr _ _ _ _ => F5
    refine For_turns F5 ?_
    k_whole
    k_steps
    unfold StopHere
    rename Fr _ _ _ _ => F4
    rename News _ _ _ _ => N4
    have N3 := news_mono (l' := (D2, c.o2) :: (D1, c.o1) :: c.ts) N4 (fun q hq => .tail _ hq)
    refine' for_dict3 (σ := QSt) (n := c.kv2.length) (fun x => (D1, x.o1) :: c.ts) (fun _ => []) (fun i x => x.o1.IsDictOf (PySem.strKind prog w) x.kv1 ∧ KvAre x.kv1 (plain1 ks ++ ((parted1 ks).take i).map fun b => (bnS b, jtS b)) ∧ x.kv1.length ≤ prs.length + i) ["base"] c F4 N3 hf.h2 lo2 rfl rfl ?hc2 ?h02 (List.forall_mem_nil _) ?turn2 ?done2
    case hc2 => exact fun i x hx => List.forall_mem_cons.mpr ⟨by rw [dict_cls hx.1]; simp, fun q hq => hf.ci q hq⟩
    case h02 => exact ⟨hf.h1, by have := hf.a1; rw [ks_all hk] at this; rw [List.take_zero]; simpa using this, hf.z1⟩
    case turn2 =>
      intro I i kv x u t9 h tk9 o hi hkv hx hoI mm3 F N post
      clear F4 N4 N3
      (try dsimp only)
      (try k_fold)
      obtain ⟨b, hb, hent⟩ := hf.a2.at hkv
      rw [ks_all hk] at hb
      obtain ⟨D, oD, T, r9, os, rfl, m1, lo9, hd9, hos, hS9⟩ := ent_spec (p := p) (loose := loose) (mean := mean) (mg := mg) (mb := mb) hent (fun e => ho.2 (e ▸ List.mem_of_getElem? hb))
      have hh2 := hf.h2
      first | ((have hh1 := And.left hx); (have hkv1 := And.left (And.right hx)); (have hx3 := (And.right (And.right hx))); clear hx) | obtain ⟨hh1, hkv1, hx3⟩ := hx
      have hzz := hf.z2
      have hval : valueAt c.kv2 (bnS b) = some (.ref D) := val_of hf.h2 hkv
      have hos' : ∀ q ∈ os, q ∈ (D, oD) :: (I, o) :: (D2, c.o2) :: (D1, x.o1) :: c.ts := fun q hq => .tail _ (.tail _ (.tail _ (.tail _ (hos q hq))))
      have hD1 : @Ne Nat D D1 := hf.t1 _ m1
      have hI1 : @Ne Nat I D1 := news_ne N (.head _) (.tail _ (.tail _ (.head _))) (fun e => by rw [e, dict_cls hh1] at hoI; simp at hoI)
      have hts1 : ∀ q ∈ c.ts, q.1 ≠ D1 := hf.t1
      have N6 := news_mono (l' := (D, oD) :: (I, o) :: (D2, c.o2) :: (D1, x.o1) :: c.ts) N (fun q hq => by
        rcases List.mem_cons.mp hq with rfl | hq
        · exact .tail _ (.tail _ (.tail _ m1))
        · exact hq)
      clear N
      k_steps
      k_here
      show wpAny _ _ (PySem.call (Value.ref 447) [_]) _ _ _
      refine' Spec.callR1 hS9 ?B ?F ?X ?N ?T rfl rfl rfl rfl ?hd ?hu ?P ?_ (fun h => h.elim)
      case F => k_asm
      case N => k_asm
      case B => k_asm
      case X => k_asm
      case T => k_asm
      case P => assumption
      case hd => first | exact room_d (j := 1) hd (by decide) | exact room_d (j := 2) hd (by decide)
      case hu => exact room_u (j := 3) hu (by decide)
      intro tj' h' tk' hP' F' N'; clear hP'; (try k_sweep); (try dsimp only)
      k_steps
      unfold StopHere
      refine for_end ⟨_, _, c.o2, c.kv2, c.ts⟩ (by k_asm) (by k_asm) (by k_mem) (List.forall_mem_cons.mpr ⟨by k_mem, List.forall_mem_cons.mpr ⟨by k_mem, fun q hq => .tail _ (.tail _ (.tail _ (.tail _ hq)))⟩⟩) ⟨by assumption, kv_turn hk hf hb hkv1, Nat.le_trans (stored_length_le _ _ _) (Nat.succ_le_succ hx3)⟩ (List.forall_mem_nil _) ?_
      (intro z h2 h3; (simp only [List.contains_cons, List.contains_nil, Bool.or_false, Bool.or_eq_false_iff, beq_eq_false_iff_ne, ne_eq] at h3); simp [kstB, h3, mm3])
    case done2 =>
      intro x u h tk9 hx mm2 F N
      clear F4 N4 N3
      (try dsimp only)
      (try k_fold)
      k_steps
      (try dsimp only)
      (try unfold qk)
      (try dsimp only)
      rename News _ _ _ _ => N2
      exact ret _ [(D1, x.o1)] _ _ _ _ (by k_asm) (fun q hq => by rw [List.mem_singleton.mp hq]; exact N2 _ (.tail _ (.head _))) ⟨_, _, _, rfl, rfl, hx.1, lo1, pl_end hk hf hx.2.1⟩
  case turn =>
    intro I i c u v h tk8 o hi hv hf hoI mm F N post
    clear F8 N8 N7
    (try dsimp only)
    (try k_fold)
    obtain ⟨T0, k, t, u8, n8, rfl, hki, hm⟩ := kd_at hk hv
    have hf0 := hf
    first | ((have h1 := And.left hf); (have a1 := And.left (And.right hf)); (have h2 := And.left (And.right (And.right hf))); (have a2 := And.left (And.right (And.right (And.right hf)))); (have nd := And.left (And.right (And.right (And.right (And.right hf))))); (have sub := And.left (And.right (And.right (And.right (And.right (And.right hf)))))); (have t1 := And.left (And.right (And.right (And.right (And.right (And.right (And.right hf))))))); (have t2 := And.left (And.right (And.right (And.right (And.right (And.right (And.right (And.right hf)))))))); (have cl := And.left (And.right (And.right (And.right (And.right (And.right (And.right (And.right (And.right hf))))))))); (have z1 := And.left (And.right (And.right (And.right (And.right (And.right (And.right (And.right (And.right (And.right hf)))))))))); (have z2 := (And.right (And.right (And.right (And.right (And.right (And.right (And.right (And.right (And.right (And.right hf))))))))))); clear hf) | obtain ⟨h1, a1, h2, a2, nd, sub, t1, t2, cl, z1, z2⟩ := hf
    have N6 := news_mono (l' := (T0, tupO [.str (nmS k) t, .bytes (wtB k) u8] n8) :: (I, o) :: (P, listOf (prs.map fun q => Value.ref q.1).toArray n) :: (D2, c.o2) :: (D1, c.o1) :: c.ts) N (fun q hq => by
      rcases List.mem_cons.mp hq with rfl | hq
      · exact .tail _ (.tail _ (.tail _ (.tail _ (sub _ hm))))
      · exact hq)
    have hD : @Ne Nat D2 D1 := fun e => absurd l2.1 (e ▸ Nat.lt_irrefl _)
    have hT1 : @Ne Nat T0 D1 := t1 _ (sub _ hm)
    have hT2 : @Ne Nat T0 D2 := t2 _ (sub _ hm)
    have hI1 : @Ne Nat I D1 := news_ne N (.head _) (.tail _ (.tail _ (.tail _ (.head _)))) (fun e => by rw [e, dict_cls h1] at hoI; simp at hoI)
    have hI2 : @Ne Nat I D2 := news_ne N (.head _) (.tail _ (.tail _ (.head _))) (fun e => by rw [e, dict_cls h2] at hoI; simp at hoI)
    have hP1 : @Ne Nat P D1 := fun e => absurd l1.1 (e ▸ Nat.lt_irrefl _)
    have hP2 : @Ne Nat P D2 := fun e => absurd l2.2.1 (e ▸ Nat.lt_irrefl _)
    clear N
    cases hp : isPl k
    · obtain ⟨hk9, ho3, ho4, ho5, ho6⟩ := ho.1 i k hki
      by_cases h6 : k = 6
      · subst h6
        obtain ⟨j, D, oD, T, n7, t7, hj, hDo, loD, hdD, hTm⟩ := six_at hf0.a2 (ho6 rfl)
        have hpt : PtIs (nmS 6) "p" 1 false := .inr (.inr (.inr ⟨rfl, rfl, rfl, rfl⟩))
        have htt : ∀ q ∈ c.ts, q.2.cls = .type "tuple" → q.1 ≠ D := fun q hq hc e => by
          have z1 := (N6 q (.tail _ (.tail _ (.tail _ (.tail _ (.tail _ hq)))))).1
          have z2 := (N6 _ (.tail _ (.tail _ (.tail _ (.tail _ (.tail _ hDo)))))).1
          rw [e, z2] at z1
          rw [← Option.some.inj z1, dict_cls hdD] at hc
          simp at hc
        have hval : valueAt c.kv2 "p" = some (.ref D) := val_of hf0.h2 hj
        have hvs : (valueAt c.kv2 "p").isSome = true := by rw [hval]; rfl
        have hD3 : @Ne Nat D D1 := t1 _ hDo
        have hD4 : @Ne Nat D D2 := t2 _ hDo
        have hT0 : @Ne Nat T0 D := htt _ (sub _ hm) rfl
        have hI3 : @Ne Nat I D := news_ne N6 (.tail _ (.head _)) (.tail _ (.tail _ (.tail _ (.tail _ (.tail _ hDo))))) (fun e => by rw [e, dict_cls hdD] at hoI; simp at hoI)
        have hP3 : @Ne Nat P D := news_ne N6 (.tail _ (.tail _ (.head _))) (.tail _ (.tail _ (.tail _ (.tail _ (.tail _ hDo))))) (fun e => by have := dict_cls hdD; rw [← e] at this; simp at this)
        have hoff : ∀ q ∈ away D c.ts, q.1 ≠ D := away_off
        have N5 := news_mono (l' := (D, oD) :: (T0, tupO [.str (nmS 6) t, .bytes (wtB 6) u8] n8) :: (I, o) :: (P, listOf (prs.map fun q => Value.ref q.1).toArray n) :: (D2, c.o2) :: (D1, c.o1) :: away D c.ts) N6 (fun q hq => by
          rcases List.mem_cons.mp hq with rfl | hq
          · exact .tail _ (.tail _ (.tail _ (.tail _ (.tail _ hDo))))
          · rcases List.mem_cons.mp hq with rfl | hq
            · exact .head _
            · rcases List.mem_cons.mp hq with rfl | hq
              · exact .tail _ (.head _)
              · rcases List.mem_cons.mp hq with rfl | hq
                · exact .tail _ (.tail _ (.head _))
                · rcases List.mem_cons.mp hq with rfl | hq
                  · exact .tail _ (.tail _ (.tail _ (.head _)))
                  · rcases List.mem_cons.mp hq with rfl | hq
                    · exact .tail _ (.tail _ (.tail _ (.tail _ (.head _))))
                    · exact .tail _ (.tail _ (.tail _ (.tail _ (.tail _ (away_mem.mp hq).1)))))
        clear N6
        k_steps
        rename News _ _ _ _ => N7
        have hn1 := news_ne N7 (.head _) (.tail _ (.tail _ (.head _))) (fun e => by have := dict_cls hdD; rw [← e] at this; simp at this)
        have hn2 := news_ne N7 (.head _) (.tail _ (.tail _ (.tail _ (.tail _ (.tail _ (.tail _ (.head _))))))) (fun e => by have := dict_cls hf0.h2; rw [← e] at this; simp at this)
        have hn3 := news_ne N7 (.head _) (.tail _ (.tail _ (.tail _ (.tail _ (.tail _ (.tail _ (.tail _ (.head _)))))))) (fun e => by have := dict_cls hf0.h1; rw [← e] at this; simp at this)
        k_steps
        unfold StopHere
        refine for_end ⟨_, _, _, _, _⟩ (by k_asm) (by k_asm) (by k_mem) ?_ (pinv_six (n1 := 0) (t1 := u8) hf0 (kd_cls hk) hki hj loD hDo hTm (ho6 rfl) htt (by assumption) hn3 hn2) (List.forall_mem_nil _) ?_
        · exact List.forall_mem_cons.mpr ⟨by k_mem, List.forall_mem_cons.mpr ⟨by k_mem, List.forall_mem_cons.mpr ⟨by k_mem, List.forall_mem_cons.mpr ⟨by k_mem, List.forall_mem_cons.mpr ⟨by k_mem, fun q hq => .tail _ (.tail _ (.tail _ (.tail _ (.tail _ (.tail _ (.tail _ (.tail _ hq)))))))⟩⟩⟩⟩⟩
        · (intro z h2 h3; (simp only [List.contains_cons, List.contains_nil, Bool.or_false, Bool.or_eq_false_iff, beq_eq_false_iff_ne, ne_eq] at h3); simp [kstB, h3, mm])
      · obtain ⟨y, e, hpt, hy⟩ := pt_of (k := k) hp h6
        have hvn : (valueAt c.kv2 y).isSome = false := base_new hf0 (ho.1 i k hki) hy
        have hz2 : c.kv2.length ≤ 4000 := by omega
        k_steps
        unfold StopHere
        rename @LT.lt Nat _ Dq' _ ∧ _ => l9
        rename @LT.lt Nat _ _ _ ∧ @LT.lt Nat _ Dq' _ ∧ _ => l8
        refine for_end ⟨_, _, _, _, _⟩ (by k_asm) (by k_asm) (by k_mem) ?_ (pinv_new (n := 0) (u := u8) hf0 hki hy hvn (by assumption) (by assumption) (by assumption) l9.2.2.2.2.2.2 l9.2.2.2.2.2.1 l9.2.2.2.2.1 l8.1) (List.forall_mem_nil _) ?_
        · exact List.forall_mem_cons.mpr ⟨by k_mem, List.forall_mem_cons.mpr ⟨by k_mem, List.forall_mem_cons.mpr ⟨by k_mem, List.forall_mem_cons.mpr ⟨by k_mem, List.forall_mem_cons.mpr ⟨by k_mem, fun q hq => .tail _ (.tail _ (.tail _ (.tail _ (.tail _ (.tail _ (.tail _ (.tail _ hq)))))))⟩⟩⟩⟩⟩
        · (intro z h2 h3; (simp only [List.contains_cons, List.contains_nil, Bool.or_false, Bool.or_eq_false_iff, beq_eq_false_iff_ne, ne_eq] at h3); simp [kstB, h3, mm])
    · have hpl := pl_of hp
      obtain ⟨hw1, hw2⟩ := pl_low hp
      rcases Bool.eq_false_or_eq_true (valueAt c.kv1 (nmS k)).isSome with hv1 | hv1
      · k_steps
        unfold StopHere
        refine for_end c (by k_asm) (by k_asm) (by k_mem) (List.forall_mem_cons.mpr ⟨by k_mem, List.forall_mem_cons.mpr ⟨by k_mem, List.forall_mem_cons.mpr ⟨by k_mem, fun q hq => .tail _ (.tail _ (.tail _ (.tail _ (.tail _ hq))))⟩⟩⟩) (pinv_keep hf0 hki hp hv1) (List.forall_mem_nil _) ?_
        (intro z h2 h3; (simp only [List.contains_cons, List.contains_nil, Bool.or_false, Bool.or_eq_false_iff, beq_eq_false_iff_ne, ne_eq] at h3); simp [kstB, h3, mm])
      · k_steps
        unfold StopHere
        refine for_end ⟨_, _, c.o2, c.kv2, c.ts⟩ (by k_asm) (by k_asm) (by k_mem) (List.forall_mem_cons.mpr ⟨by k_mem, List.forall_mem_cons.mpr ⟨by k_mem, List.forall_mem_cons.mpr ⟨by k_mem, fun q hq => .tail _ (.tail _ (.tail _ (.tail _ (.tail _ hq))))⟩⟩⟩) (pinv_put hf0 hki hp hv1 (by assumption)) (List.forall_mem_nil _) ?_
        (intro z h2 h3; (simp only [List.contains_cons, List.contains_nil, Bool.or_false, Bool.or_eq_false_iff, beq_eq_false_iff_ne, ne_eq] at h3); simp [kstB, h3, mm])
end PC25
end JC25
section JFN
open PySem PySem.W PyProof.Rows PySem.Calls
section PFN
variable {prog : Program} {w : World} {K : Frag} {p : Program} {loose : List Str} {mean : ExcName → Option Value} {mg mb : Str → Option Value} {fI C : Addr} {D : Nat} {vs : List Value} {A A₀ : Around} {base h₀ : Heap} {outer : List Env} {env : Env} {L : Addr} {m : Str → Option Value} {s : Shared} {news : List (Addr × Obj)} {Q E : Value → Shared → Prop}
/-- a new object of an own class, by the contract of its __init__ -/
theorem call_new {G : Addr → Addr → List (Addr × Obj) → Prop} (S : ∀ x dx, x ≠ dx → Spec prog w K p loose mean mg mb fI ⟨.ref x :: vs, []⟩ D [(x, instObj C dx), (dx, dictOf [] 0)] (fun _ v o => v = .none ∧ G x dx o) False)
    (hm : makesIn K C = true) (hi : findIn K (.ref C) "__init__" = some (some (.ref fI))) (hfn : isFn K (.ref fI) = true)
    (B : Below A₀ base outer h₀) (F : Fr h₀ L s.heap m) (X : K.In h₀) (N : News h₀ L s.heap news) (T : Top p loose mean mg mb h₀)
    (hA : A.frames = some (env :: outer)) (hh : A.handled = none) (hf : env.frame = some L) (hke : env.scope.kind = .function) (hd : A.depth + 1 + D < recursionLimit) (hu : A.units + 1 + 10 * D < cLine)
    (ret : ∀ x dx o h' tk', G x dx o → Fr h₀ L h' m → News h₀ L h' (o ++ news) → AllLt dx news → @LT.lt Nat _ dx x → Q (.ref x) { s with heap := h', toks := tk' }) :
    wpAny (model prog w) A (PySem.call (.ref C) vs) Q E s := by
  refine call_cls F X N hm hi hfn fun x dx h' F' N' l1 l2 => ?_
  have hne : x ≠ dx := Nat.ne_of_gt l2
  refine Spec.code (rest := news) (S x dx hne) B F' X N' T hA hh hf hke hd hu (fun q hq => ?_) (fun q hq => ⟨.tail _ (.tail _ hq), fun r hr => ?_⟩) (fun v o h₂ tk' hP F₂ N₂ _ _ => ?_) fun h => h.elim
  · rcases List.mem_cons.mp hq with rfl | hq
    · exact .head _
    · rw [List.mem_singleton.mp hq]; exact .tail _ (.head _)
  · have hq := l1 q hq
    rcases List.mem_cons.mp hr with rfl | hr
    · exact Nat.ne_of_lt (Nat.lt_trans hq l2)
    · rw [List.mem_singleton.mp hr]; exact Nat.ne_of_lt hq
  · obtain ⟨rfl, hG⟩ := hP
    exact ⟨rfl, ret x dx o h₂ tk' hG F₂ N₂ (allLt_of l1) l2⟩
end PFN
end JFN
section JC26
open PySem PySem.W PyProof.Rows PySem.Calls PyProof.V
section PC26
variable {prog : Program} {w : World} {p : Program} {loose : List Str} {mean : ExcName → Option Value} {mg mb : Str → Option Value}
set_option maxRecDepth 100000
set_option maxHeartbeats 4000000
/-- what a whole value says: its word in small letters and its pairs -/
noncomputable def valueL (l : List UInt8) : Option (List UInt8 × List (List UInt8 × List UInt8)) :=
  match skipL l with
  | none => none
  | some l1 => match tokL l1 with
    | none => none
    | some (n, l2) => ((skipL l2).bind pairsL).map fun ps => (n.map lowC, ps)
noncomputable abbrev prK (ks : List Nat) : List (List UInt8 × List UInt8) := ks.map fun k => (nmB k, (wtB k).toList)
theorem val_0 {b : Array UInt8} : suf b 0 = b.toList := rfl
section
variable {b : Array UInt8} {a1 a2 : Int} {x : List UInt8} {ps : List (List UInt8 × List UInt8)}
theorem val_some (h1 : skipL (suf b 0) = some (suf b a1)) (h2 : tokL (suf b a1) = some (x, suf b a2)) (h3 : (skipL (suf b a2)).bind pairsL = some ps) : valueL b.toList = some (x.map lowC, ps) := by
  unfold valueL
  rw [← val_0, h1]; dsimp only; rw [h2]; dsimp only; rw [h3]; rfl
theorem val_none1 (h1 : skipL (suf b 0) = none) : valueL b.toList = none := by
  unfold valueL
  rw [← val_0, h1]
theorem val_none2 (h1 : skipL (suf b 0) = some (suf b a1)) (h2 : tokL (suf b a1) = none) : valueL b.toList = none := by
  unfold valueL
  rw [← val_0, h1]; dsimp only; rw [h2]
theorem val_none3 (h1 : skipL (suf b 0) = some (suf b a1)) (h2 : tokL (suf b a1) = some (x, suf b a2)) (h3 : (skipL (suf b a2)).bind pairsL = none) : valueL b.toList = none := by
  unfold valueL
  rw [← val_0, h1]; dsimp only; rw [h2]; dsimp only; rw [h3]; rfl
end
theorem wo_self (l : List (Addr × Obj)) : ∀ (r : List (Addr × Obj)), (∀ q ∈ r, q ∈ l) → Wo (l.map fun q => q.1) r []
  | [], _ => .nil
  | q :: r, h => .skip (List.mem_map.mpr ⟨q, h q (.head _), rfl⟩) (wo_self l r fun x hx => h x (.tail _ hx))
theorem init93_spec (x dx : Addr) (b : Array UInt8) (tb : Nat) (hb : b.size ≤ 4000) (hne : x ≠ dx) : Spec prog w (kf w.params) p loose mean mg mb 93 ⟨[.ref x, .bytes b tb], []⟩ 3 [(x, instObj 160 dx), (dx, dictOf [] 0)]
    (fun _ v o => v = .none ∧ ∃ h1 h2 h3 k1 k2 k3 t1 t3 t2, o = curN x dx h1 h2 h3 k1 k2 k3 t1 t3 b t2 0) False := by
  refine' spec_of (rb := [("end", .int (-1) 294), ("at", .int 0 292), ("data", .bytes b tb), ("self", .ref x)]) ?k1 ?k2 ?k3 ?k4 ?k5 ?k6 ?k7 ?k8 ?k9 ?_
  case k1 => k_is
  case k2 => k_is
  case k3 => exact fun s Xs => binds_K Xs rfl (by k_is) rfl rfl rfl
  case k4 => exact locs rfl
  case k5 => exact rfl
  case k6 => exact rfl
  case k7 => exact rfl
  case k8 => decide
  case k9 => decide
  intro dp un gd envs base g L' h₁ gens drawn tk os R B F N X T lt hd hu ret exc
  k_fold
  k_lt lt
  (try dsimp only)
  (try k_fold)
  k_steps
  exact ret _ _ _ _ _ _ (by k_asm) (by k_asm) ⟨rfl, _, _, _, _, _, _, _, _, _, rfl⟩
theorem wd_C26_0 : True := by
  k_with "call ref" => (k_here; (show wpAny _ _ (PySem.call (Value.ref 160) [_]) _ _ _); (refine' call_new (fun x dx hx => init93_spec x dx _ _ (by assumption) hx) ?m ?i ?f ?B ?F ?X ?N ?T rfl rfl rfl rfl ?hd ?hu ?_); (case m => k_is); (case i => k_is); (case f => k_is); (case F => k_asm); (case N => k_asm); (case B => k_asm); (case X => k_asm); (case T => k_asm); (case hd => (simp only [ar_depth, depth_deeper, depth_in1]; omega)); (case hu => (simp only [ar_units, units_deeper, units_in1]; omega)); (rintro xc' dc' _ h' tk' ⟨h1', h2', h3', k1', k2', k3', t1', t3', t2', rfl⟩ F' N' l1 l2; (dsimp only [List.cons_append, List.nil_append] at N'); (simp only [AllLt, and_true] at l1); (try k_sweep); (try dsimp only)))
  trivial
theorem value_spec (b : Array UInt8) (tb : Nat) (hb : b.size ≤ 4000) (hk : ∀ x ps, valueL b.toList = some (x, ps) → ∃ ks, ps = prK ks ∧ KOk ks) : Spec prog w (kf w.params) p loose mean mg mb 461 ⟨[.bytes b tb], []⟩ 22 []
    (P7 (fun T _ _ _ _ _ _ => .ref T) (fun T x t D o _ _ => [(T, tupO [.str (strB x) t, .ref D] 0), (D, o)]) (fun _ x _ D o kvs ks => o.IsDictOf (PySem.strKind prog w) kvs ∧ (D == sysModules) = false ∧ KvAre kvs (plainW ks) ∧ valueL b.toList = some (x, prK ks))) (valueL b.toList = none) := by
  refine' spec_of (rb := [("octets", .bytes b tb)]) ?k1 ?k2 ?k3 ?k4 ?k5 ?k6 ?k7 ?k8 ?k9 ?_
  case k1 => k_is
  case k2 => k_is
  case k3 => first | exact fun s Xs => BindsTo.of_eq rfl | exact fun s Xs => binds_K Xs rfl (by k_is) rfl rfl rfl
  case k4 => exact locs rfl
  case k5 => exact rfl
  case k6 => exact rfl
  case k7 => exact rfl
  case k8 => decide
  case k9 => decide
  intro dp un gd envs base g L' h₁ gens drawn tk os R B F N X T lt hd hu ret exc
  k_fold
  k_lt lt
  (try dsimp only)
  k_steps
  rotate_left
  · exact exc (val_none3 (by assumption) (by assumption) (by assumption)) _ _ _ _ _ (by assumption) (by assumption)
  · exact exc (val_none2 (by assumption) (by assumption)) _ _ _ _ _ (by assumption) (by assumption)
  · exact exc (val_none1 (by assumption)) _ _ _ _ _ (by assumption) (by assumption)
  have hv := val_some hs1' ht1' hp2'
  obtain ⟨ks, rfl, hko⟩ := hk _ _ hv
  have hkd := kd_of hp1'
  rw [List.append_nil] at N'
  k_here
  show wpAny _ _ (PySem.call (Value.ref 454) [_]) _ _ _
  refine' Spec.call3 (params_spec Pp' op' np' ks hkd hko ?s1) ?B ?F ?X ?N ?T rfl rfl rfl rfl ?hd ?hu (fun _ h => h) (wo_self _ _ fun _ h => h) ?_ (fun h => h.elim)
  case s1 => rw [kd_len hkd]; rw [List.length_map] at hp3'; omega
  case F => k_asm
  case N => k_asm
  case B => k_asm
  case X => k_asm
  case T => k_asm
  case hd => (simp only [ar_depth, depth_deeper, depth_in1]; omega)
  case hu => (simp only [ar_units, units_deeper, units_in1]; omega)
  clear F' N' l2 l1
  rintro D9 o9 kv9 h9 tk9 ⟨hd9, lo9, ha9⟩ F9 N9 - -
  dsimp only [List.cons_append, List.nil_append] at N9
  k_steps
  (repeat (k_unfold; (try dsimp only)))
  exact ret _ _ _ _ _ _ (by k_asm) (by k_asm) ⟨_, _, _, _, _, _, _, rfl, rfl, hd9, lo9, ha9, hv⟩
end PC26
end JC26
section JSD
open PySem PySem.W PyProof.Rows PySem.Calls PyProof.V PySem.Spec
section PSD
variable {prog : Program} {w : World} {A : Around} {E : Value → Shared → Prop} {s : Shared} {h₀ : Heap} {L d : Addr} {m : Str → Option Value} {news : List (Addr × Obj)} {o : Obj} {kvs : List (Str × Value)} {Q : Value → Shared → Prop}
theorem strs_of : ∀ {vs : List Value} {kvs : List (Str × Value)}, vs.length = kvs.length → (∀ (j : Nat) (v : Value), vs[j]? = some v → ∃ k x, kvs[j]? = some (k, x) ∧ (PySem.strKind prog w).is k v = true) → StrsAre vs (kvs.map (·.1)) := by
  intro vs
  induction vs with
  | nil =>
    intro kvs hl _
    rw [List.eq_nil_of_length_eq_zero hl.symm]
    exact .nil
  | cons v vs ih =>
    intro kvs hl h
    obtain ⟨k', x', e, hv⟩ := h 0 v rfl
    obtain ⟨t, rfl⟩ := Value.isStrOf_shape hv
    cases kvs with
    | nil => cases e
    | cons q kvs =>
      obtain rfl := Option.some.inj e
      exact .cons k' t (ih (Nat.succ.inj hl) fun j v hj => h (j + 1) v hj)
/-- sorted(d) of a dict with texts as keys -/
theorem sorted_dict (hh : A.handled = none) (F : Fr h₀ L s.heap m) (N : News h₀ L s.heap news) (hm : (d, o) ∈ news) (hd : o.IsDictOf (PySem.strKind prog w) kvs) (lo : (d == sysModules) = false) (hz : kvs.length < 64)
    (h : ∀ S vs ns c h' tk, StrsAre vs ns → ns.Perm (kvs.map (·.1)) → sortedS ns = true → Fr h₀ L h' m → News h₀ L h' ((S, listOf vs.toArray c) :: news) → AllLt S news → Q (.ref S) { s with heap := h', toks := tk }) :
    wpAny (model prog w) A (call (.builtin "sorted") [.ref d]) Q E s := by
  obtain ⟨es, ep, h1, h2, h3, h4, h5⟩ := hd
  have hat : s.heap.DictAt (PySem.strKind prog w) d kvs ep := ⟨o, es, (N _ hm).1, h1, h2, h3, h4, h5⟩
  refine kdu_sorted (kdl_dict lo) hh F N hat (by rw [sizeLine_eq]; omega) fun D h' tk vs F' N' l1 hl hv => ?_
  have hS := strs_of hl hv
  have hD := (N' _ (.head _)).1
  have hDs := N' _ (.head _)
  refine wpAny_call_entry slot_list_sort ⟨_, hD, rfl⟩ entry_list_sort (list_sort_treeK (κ := strKind) strKind_oneLt hD hS.keysOf (fun v₁ v₂ rest e => keyKind_strs (by rw [← e]; exact hS)) (by rw [hl]; exact hz) fun st' hp hs => ⟨_, rfl, ?_⟩) (args_list_sort _)
  obtain ⟨ns, a1, a2, a3⟩ := sorted_out_str hS hp hs
  obtain ⟨e, he⟩ := sortedHeap_at (vs := vs) (out := (arrOf st').map (·.2)) hD
  have old : ∀ b o, b ≠ D → h'.get? b = some o → (sortedHeap h' D vs ((arrOf st').map (·.2))).get? b = some o := fun b o hb q => by
    rw [sortedHeap_old hb (Heap.lt_size q)]; exact q
  refine h D ((arrOf st').map (·.2)).toList ns e _ tk a1 a2 a3 ?_ ?_ (allLt_of l1)
  · obtain ⟨oL, b1, b2, hL, b3⟩ := F'.ns
    exact ⟨⟨oL, b1, b2, old _ _ (fun e => hDs.2.1 e.symm) hL, b3⟩, fun b o e => old _ _ (fun q => by rw [q, hDs.2.2] at e; cases e) (F'.keep b o e), F'.above⟩
  · intro q hq
    rcases List.mem_cons.mp hq with rfl | hq
    · exact ⟨he, hDs.2⟩
    · exact ⟨old _ _ (Nat.ne_of_lt (l1 q hq)) (N' q (.tail _ hq)).1, (N' q (.tail _ hq)).2⟩
end PSD
end JSD
section JEQ
open PySem PySem.W PyProof.Rows PySem.Calls PySem.SeqAt
section PEQ
variable {prog : Program} {w : World} {A : Around} {E : Value → Shared → Prop} {s : Shared} {Q : Value → Shared → Prop} {l b : Addr} {vs ws : List Value} {bs cs : List (Array UInt8)}
theorem eqAt_bytes (x : Array UInt8) (t : Tok) (y : Array UInt8) (u : Tok) : EqAt A s (.bytes x t) (.bytes y u) (x.toList == y.toList) := fun prog w E Q h => by
  unfold eqBool
  refine wpAny_holding ?_
  refine wpAny_ite_split (fun hab => ?_) (fun _ => ?_)
  · have e : x = y := by have := eq_of_beq hab; injection this
    subst e
    exact wpAny_bind (wpAny_rule (wpAny_pure (by simpa using h)))
  · exact wpAny_bind (eq_bytes (wpAny_truthy_bool h))
theorem eq_nil (hl : s.heap.IsList l vs.toArray) (hb : s.heap.IsList b #[]) (hu : A.units < cLine) (h : Q (.bool (decide (vs = []))) s) : wpAny (model prog w) A (compareOp .Eq (.ref l) (.ref b)) Q E s := by
  cases vs with
  | nil => exact RcAt.lists (e := fun _ => true) hl hb rfl hu (fun j h1 => absurd h1 (by simp)) prog w E Q (by simpa using h)
  | cons v vs => exact RcAt.lists_lengths hl hb (by simp) hu prog w E Q (by simpa using h)
theorem ne_nil (hl : s.heap.IsList l vs.toArray) (hb : s.heap.IsList b #[]) (hu : A.units < cLine) (h : Q (.bool (!decide (vs = []))) s) : wpAny (model prog w) A (compareOp .NotEq (.ref l) (.ref b)) Q E s := by
  cases vs with
  | nil => exact RcNeAt.lists (e := fun _ => true) hl hb rfl hu (fun j h1 => absurd h1 (by simp)) prog w E Q (by simpa using h)
  | cons v vs => exact RcNeAt.lists_lengths hl hb (by simp) hu prog w E Q (by simpa using h)
/-- two lists of equal octets -/
theorem eqAt_bys (hl : s.heap.IsList l vs.toArray) (hb : s.heap.IsList b ws.toArray) (h1 : BM.BysAre vs bs) (h2 : BM.BysAre ws bs) (hne : l ≠ b) (hu : A.units < cLine) : EqAt A s (.ref l) (.ref b) true := by
  have e1 := h1.length
  have e2 := h2.length
  have key := RcAt.lists (A := A) (s := s) (e := fun _ => true) hl hb (by simp [e1, e2]) hu (fun j g1 g2 => by
    have j1 : j < bs.length := by simpa [e1] using g1
    obtain ⟨t, q1⟩ := h1.get j j1
    obtain ⟨u, q2⟩ := h2.get j j1
    have z1 : vs.toArray[j] = .bytes bs[j] t := by
      have := List.getElem?_eq_some_iff.mp q1
      simpa using this.2
    have z2 : ws.toArray[j] = .bytes bs[j] u := by
      have := List.getElem?_eq_some_iff.mp q2
      simpa using this.2
    rw [z1, z2]
    have := eqAt_bytes (A := A.in1) (s := s) bs[j] t bs[j] u
    simpa using this)
  refine EqAt.of_refs hne ?_
  rw [show ((List.range vs.toArray.size).all fun _ => true) = true from List.all_eq_true.mpr fun _ _ => rfl] at key
  exact key
/-- two lists of a word and its row, equal -/
theorem ne_two {x : Array UInt8} {t u : Tok} {v v' : Value} (hl : s.heap.IsList l #[.bytes x t, v]) (hb : s.heap.IsList b #[.bytes x u, v']) (hv : EqAt A.in1 s v v' true) (hu : A.units < cLine) (h : Q (.bool false) s) : wpAny (model prog w) A (compareOp .NotEq (.ref l) (.ref b)) Q E s := by
  have key := RcNeAt.lists (A := A) (s := s) (e := fun _ => true) hl hb rfl hu (fun j g1 g2 => by
    have : j = 0 ∨ j = 1 := by
      have : j < 2 := g1
      omega
    rcases this with rfl | rfl
    · have := eqAt_bytes (A := A.in1) (s := s) x t x u
      simpa using this
    · exact hv)
  exact key prog w E Q h
end PEQ
end JEQ
section JC27
open PySem PySem.W PyProof.Rows PySem.Calls PyProof.V
section PC27
variable {prog : Program} {w : World} {p : Program} {loose : List Str} {mean : ExcName → Option Value} {mg mb : Str → Option Value}
set_option maxRecDepth 100000
set_option maxHeartbeats 4000000
noncomputable abbrev octS (z : Str) : Array UInt8 := (z.cps.toList.map Nat.toUInt8).toArray
noncomputable abbrev u8S (y : Str) : Array UInt8 := byteArr (u8L y.cps.toList)
noncomputable def lookS (ws : List (Str × Str)) (z : Str) : Str := ((ws.find? fun q => q.1 = z).map (·.2)).getD ""
noncomputable def flatW (ws : List (Str × Str)) (ns : List Str) : List (Array UInt8) := ns.flatMap fun z => [octS z, u8S (lookS ws z)]
noncomputable def WOk (ws : List (Str × Str)) : Prop := ws.length < 64 ∧ ∀ q ∈ ws, q.1.cps.size ≤ 4000 ∧ (∀ c ∈ q.1.cps.toList, c < 256) ∧ q.2.cps.size ≤ 4000 ∧ ∀ c ∈ q.2.cps.toList, c < 128 ∨ c = 233
theorem look_at {kvs : List (Str × Value)} {ws : List (Str × Str)} (h : KvAre kvs ws) : ∀ {z : Str}, z ∈ ws.map (·.1) → ∃ t, valueAt kvs z = some (.str (lookS ws z) t) ∧ (z, lookS ws z) ∈ ws := by
  induction h with
  | nil => intro z hz; nomatch hz
  | cons x y t _ ih =>
    intro z hz
    by_cases e : x = z
    · subst e
      refine ⟨t, ?_, ?_⟩
      · simp [valueAt, lookS]
      · simp [lookS]
    · rw [List.map_cons] at hz
      rcases List.mem_cons.mp hz with hz | hz
      · exact absurd hz.symm e
      · obtain ⟨t', h1, h2⟩ := ih hz
        unfold valueAt lookS at *
        refine ⟨t', ?_, ?_⟩
        · simpa [List.find?_cons, e] using h1
        · simp only [List.find?_cons, e, decide_false]
          exact .tail _ h2
theorem kv_len {kvs : List (Str × Value)} {ws : List (Str × Str)} (h : KvAre kvs ws) : kvs.length = ws.length := by
  have := congrArg List.length h.keys
  simpa using this
theorem flat_next {ws : List (Str × Str)} {ns : List Str} {i : Nat} {z : Str} (h : ns[i]? = some z) : flatW ws (ns.take (i + 1)) = flatW ws (ns.take i) ++ [octS z] ++ [u8S (lookS ws z)] := by
  unfold flatW
  rw [List.take_add_one, h, List.flatMap_append, List.append_assoc]
  rfl
theorem flat_len {ws : List (Str × Str)} : ∀ {ns : List Str}, (flatW ws ns).length = 2 * ns.length
  | [] => rfl
  | z :: ns => by
    have := flat_len (ws := ws) (ns := ns)
    unfold flatW at this ⊢
    rw [List.flatMap_cons, List.length_append, this]
    simp only [List.length_cons, List.length_nil]
    omega
structure BL where
  vs : List Value
  n : Nat
theorem bl_len {ws : List (Str × Str)} {ns : List Str} {vs : List Value} {i : Nat} (h : BM.BysAre vs (flatW ws (ns.take i))) (hp : ns.Perm (ws.map (·.1))) (hw : WOk ws) : vs.length ≤ 200 := by
  have h1 := h.length
  have h2 := hp.length_eq
  have h3 := hw.1
  rw [flat_len, List.length_take] at h1
  rw [List.length_map] at h2
  omega
theorem wd_C27_0 : True := by
  k_with "call builtin:sorted" => (k_here; (refine' sorted_dict rfl ?F ?N ?m ?d ?l ?z ?_); (case F => k_asm); (case N => k_asm); (case m => k_mem); (case d => assumption); (case l => assumption); (case z => assumption); (intro S' vs' ns' c' h' tk' hS' hp' hs' F' N' l1; (simp only [AllLt, and_true] at l1); (try k_sweep); (try dsimp only)))
  k_with "call builtin:list.append" => (k_here; (refine' append_K ?k1 ?k2 ?k3 ?_ ?z; (case k1 => k_asm); (case k2 => k_asm); (case k3 => k_upd); (case z => (simp only [Array.size_push, List.size_toArray, List.length_append, sizeLine_eq]; omega)); k_whole); intro h' F' N'; (try k_sweep))
  k_with "call ref" => (k_here; (show wpAny _ _ (PySem.call (Value.ref 271) [_, _]) _ _ _); (refine' Spec.call1 (octets_in_spec _ _ _ (by assumption) (by assumption)) ?B ?F ?X ?N ?T rfl rfl rfl rfl ?hd ?hu ?P ?W ?_ (fun h => h.elim)); (case F => k_asm); (case N => k_asm); (case B => k_asm); (case X => k_asm); (case T => k_asm); (case hd => first | exact room_d (j := 1) hd (by decide) | exact room_d (j := 2) hd (by decide) | exact room_d (j := 3) hd (by decide) | (simp only [ar_depth, ar_units, depth_deeper, depth_mark, depth_under_make, depth_under_kw, depth_in1, units_deeper, units_in1, units_under_make, Around.mark_units]; omega)); (case hu => first | exact room_u (j := 0) hu (by decide) | exact room_u (j := 1) hu (by decide) | exact room_u (j := 2) hu (by decide) | exact room_u (j := 3) hu (by decide) | (simp only [ar_depth, ar_units, depth_deeper, depth_mark, depth_under_make, depth_under_kw, depth_in1, units_deeper, units_in1, units_under_make, Around.mark_units]; omega)); (case P => ktr_unf); (case W => tb_start); ((intro to' h' tk' hP' F' N' l1 l2; (dsimp only [List.cons_append, List.nil_append] at N'); clear l1 l2; clear hP'; (try k_sweep); (try dsimp only))))
  trivial
theorem room_v {un D j r : Nat} (h : un + 10 * D < r) (e : j ≤ 10 * D) : un + j < r := by omega
theorem wd_C27_1 : True := by
  k_with "compareOp Eq ref ref" => (k_here; (refine' eq_nil ?a ?b ?u ?_); (case a => exact News.isList (by k_asm) (by k_mem)); (case b => exact News.isList (by k_asm) (by k_mem)); (case u => first | exact room_v (j := 0) hu (by decide) | exact room_v (j := 1) hu (by decide) | exact room_v (j := 2) hu (by decide) | exact room_v (j := 3) hu (by decide)))
  trivial
theorem params_value_spec (D : Addr) (o : Obj) (kvs : List (Str × Value)) (ws : List (Str × Str)) (hd9 : o.IsDictOf (PySem.strKind prog w) kvs) (lo9 : (D == sysModules) = false) (hk : KvAre kvs ws) (hw : WOk ws) : Spec prog w (kf w.params) p loose mean mg mb 468 ⟨[.ref D], []⟩ 9 [(D, o)]
    (fun _ v o' => (ws = [] ∧ v = .none ∧ o' = [(D, o)]) ∨ (ws ≠ [] ∧ ∃ P vs n ns, v = .ref P ∧ o' = [(P, listOf vs.toArray n), (D, o)] ∧ BM.BysAre vs (flatW ws ns) ∧ ns.Perm (ws.map (·.1)) ∧ sortedS ns = true)) False := by
  refine' spec_of3 (rb := [("params", .ref D)]) ?k1 ?k2 ?k3 ?k4 ?k5 ?k6 ?k7 ?k8 ?k9 ?_
  case k1 => k_is
  case k2 => k_is
  case k3 => first | exact fun s Xs => BindsTo.of_eq rfl | exact fun s Xs => binds_K Xs rfl (by k_is) rfl rfl rfl
  case k4 => exact locs rfl
  case k5 => exact rfl
  case k6 => exact rfl
  case k7 => exact rfl
  case k8 => decide
  case k9 => decide
  intro dp un gd envs base g L' h₁ gens drawn tk os R B F N X T lt hd hu ret exc eE aA
  k_fold
  (try k_lt lt)
  (try dsimp only)
  have hmk3 : StopAt 3 := .here
  have hkz : kvs.length < 64 := by rw [kv_len hk]; exact hw.1
  k_steps
  unfold StopHere
  rename Fr _ _ _ _ => F9
  refine For_turns F9 ?_
  k_whole
  k_steps
  unfold StopHere
  rename Fr _ _ _ _ => F8
  rename News _ _ _ _ => N8
  rename_i P9 _ lP9 _
  rw [hk.keys] at hp'
  refine' for_list3 (σ := BL) (n := ns'.length) (fun c => [(P9, listOf c.vs.toArray c.n), (D, o)]) (fun _ => []) (fun i c => BM.BysAre c.vs (flatW ws (ns'.take i))) ["name"] ⟨[], 0⟩ F8 N8 rfl rfl hS'.length rfl ?hc .nil (List.forall_mem_nil _) ?turn ?done
  case hc => exact fun i c _ => List.forall_mem_cons.mpr ⟨by simp, List.forall_mem_singleton.mpr (by rw [dict_cls hd9]; simp)⟩
  case turn =>
    intro I i c u v h tk8 oI hi hv hf hoI mm F N post
    clear F8 N8
    (try dsimp only)
    (try k_fold)
    obtain ⟨z, t, hz, rfl⟩ := strs_at hS' hv
    have hzm : z ∈ ws.map (·.1) := hp'.mem_iff.mp (List.mem_of_getElem? hz)
    obtain ⟨t9, hval, hmem⟩ := look_at hk hzm
    obtain ⟨hz1, hz2, hz3, hz4⟩ := hw.2 _ hmem
    have hlen := bl_len hf hp' hw
    have hIP : @Ne Nat I P9 := news_ne N (.head _) (.tail _ (.tail _ (.head _))) (fun e => by rw [e] at hoI; simp at hoI)
    k_steps
    unfold StopHere
    simp only [List.push_toArray] at N'
    refine for_end ⟨c.vs ++ [.bytes (octS z) tl'] ++ [.bytes (u8S (lookS ws z)) to'], c.n + 1 + 1⟩ (by k_asm) (by k_asm) (by k_mem) (List.forall_mem_cons.mpr ⟨by k_mem, List.forall_mem_cons.mpr ⟨by k_mem, List.forall_mem_singleton.mpr (by k_mem)⟩⟩) ?_ (List.forall_mem_nil _) ?_
    · rw [flat_next hz]; exact (hf.snoc _ _).snoc _ _
    · (intro z h2 h3; (simp only [List.contains_cons, List.contains_nil, Bool.or_false, Bool.or_eq_false_iff, beq_eq_false_iff_ne, ne_eq] at h3); simp [kstB, h3, mm])
  case done =>
    intro c u h tk8 hf mm F N
    clear F8 N8
    (try dsimp only)
    (try k_fold)
    rw [List.take_of_length_le (Nat.le_refl _)] at hf
    have hfl := hf.length
    rw [flat_len, hp'.length_eq, List.length_map] at hfl
    k_steps
    · rename c.vs = [] => he
      rw [he] at hfl
      refine ret _ [(D, o)] _ _ _ _ (by k_asm) (news_mono (by k_asm) ?_) (.inl ⟨List.eq_nil_of_length_eq_zero (by simp only [List.length_nil] at hfl; omega), rfl, rfl⟩)
      ktr_unf
    · rename ¬ c.vs = [] => he
      refine ret _ [(P9, _), (D, o)] _ _ _ _ (by k_asm) (news_mono (by k_asm) ?_) (.inr ⟨fun e => he (List.eq_nil_of_length_eq_zero (by rw [hfl, e]; rfl)), P9, c.vs, c.n, ns', rfl, rfl, hf, hp', hs'⟩)
      ktr_unf
end PC27
end JC27
section JTRY
open PySem PySem.W PyProof.Rows PySem.Calls
section PTRY
variable {prog : Program} {w : World} {K : Frag} {p : Program} {loose : List Str} {mean : ExcName → Option Value} {mg mb : Str → Option Value} {f : Addr} {args : Args} {D : Nat} {own : List (Addr × Obj)} {Post : Nat → Value → List (Addr × Obj) → Prop} {Exc : Prop}
noncomputable abbrev framesOf (l : List Env) : List Addr := l.filterMap (·.frame)
theorem frame_in {l : List Env} : ∀ env ∈ l, ∀ a, env.frame = some a → a ∈ framesOf l := fun env he _ hb => List.mem_filterMap.mpr ⟨env, he, hb⟩
theorem frames_old {base h₀ h : Heap} {outer : List Env} {L : Addr} {m : Str → Option Value} {env : Env} {A₀ : Around} (B : Below A₀ base outer h₀) (F : Fr h₀ L h m) (hf : env.frame = some L) {b : Addr} (hb : b ∈ framesOf (env :: outer)) : b = L ∨ ∃ o, h₀.get? b = some o := by
  obtain ⟨env', he, hf'⟩ := List.mem_filterMap.mp hb
  rcases List.mem_cons.mp he with rfl | he
  · exact .inl (Option.some.inj (hf'.symm.trans hf))
  · obtain ⟨o, ho, _⟩ := (B.frames.mem (List.mem_filterMap.mpr ⟨env', he, hf'⟩)).2
    exact .inr ⟨o, ho⟩
/-- a call in a try: what was made before it is still there when it raises -/
theorem Spec.callTry {vs : List Value} (S : Spec prog w K p loose mean mg mb f ⟨vs, []⟩ D [] Post Exc) {A A₀ : Around} {base h₀ : Heap} {outer : List Env} {env : Env} {L : Addr} {m : Str → Option Value} {s : Shared} {news : List (Addr × Obj)} {Q E : Value → Shared → Prop}
    (B : Below A₀ base outer h₀) (F : Fr h₀ L s.heap m) (X : K.In h₀) (N : News h₀ L s.heap news) (T : Top p loose mean mg mb h₀)
    (hA : A.frames = some (env :: outer)) (hh : A.handled = none) (hf : env.frame = some L) (hke : env.scope.kind = .function) (hd : A.depth + D < recursionLimit) (hu : A.units + 10 * D < cLine)
    (ret : ∀ v own' h' tk', Post s.heap.objs.size v own' → Fr h₀ L h' m → News h₀ L h' (own' ++ news) → (∀ q ∈ own', ∀ r ∈ news, q.1 ≠ r.1) → Q v { s with heap := h', toks := tk' })
    (exc : Exc → ∀ e t vs h' tk' G, RaisedS base G (env :: outer) e (.ref 59) t vs news h' → Fr h₀ L G m → G.UpToSlots h' → E (.ref e) { s with heap := h', toks := tk' }) :
    wpAny (model prog w) A (PySem.call (.ref f) vs) Q E s := by
  have B₁ := pushX B F hf hke
  have nf : ∀ q ∈ news, q.1 ∉ framesOf (env :: outer) := fun q hq hm => by
    rcases frames_old B F hf hm with e | ⟨o, ho⟩
    · exact (N q hq).2.1 e
    · rw [(N q hq).2.2] at ho; cases ho
  have bf : ∀ b o, base.get? b = some o → b ∉ framesOf (env :: outer) := fun b o e hm => by
    have := (B₁.frames.mem hm).1
    rw [this] at e; cases e
  refine wpAny_call ?_
  rw [ar_eq A hA hh]
  refine S A.depth A.units A.guards (env :: outer) (hideAll s.heap (framesOf (env :: outer))) s.heap s _ ⟨rfl, fun b o e => of_hideAll _ e, funFrames_hide B₁.frames frame_in⟩ (fun _ _ e => e) (fun _ h => nomatch h) (X.keeps F.keep) (T.keeps F.keep) (Nat.le_refl _) hd hu (fun v own' h' tk' hP k' O' => ?_) fun hx e t vs h' tk' Rz U => ?_
  · refine ret v own' h' tk' hP (F.kept k') (fun q hq => ?_) (fun q hq r hr e => by have := (O' q hq).2; rw [e, (N r hr).1] at this; cases this)
    rcases List.mem_append.mp hq with hq | hq
    · have hn := (O' q hq).2
      refine ⟨(O' q hq).1, fun e => ?_, ?_⟩
      · obtain ⟨oL, _, _, hL, _⟩ := F.ns
        rw [e, hL] at hn; cases hn
      · cases z : h₀.get? q.1 with
        | none => rfl
        | some o => rw [F.keep _ _ z] at hn; cases hn
    · exact ⟨k' _ _ (N q hq).1, (N q hq).2⟩
  · obtain ⟨⟨Bq, hB, _, hfl, hnew⟩, htup⟩ := Rz
    have hq : ∀ b o, s.heap.get? b = some o → b ∉ framesOf (env :: outer) → Bq.get? b = some o := fun b o e n => hB b o (hideAll_get _ e n)
    refine exc hx e t vs h' tk' (hideAll s.heap (news.map (·.1))) ⟨⟨Bq, fun b o e => hq b o (B₁.stays b o e) (bf b o e), fun b o e n => hq b o (of_hideAll _ e) n, fun q h => ⟨hq _ _ (N q h).1 (nf q h), hideAll_none _ (List.mem_map_of_mem h), fresh_of_stays B.stays (N q h).2.2⟩, hfl, hnew⟩, htup⟩ ?_ fun b o e => U b o (of_hideAll _ e)
    exact (ground_own B F N hA hf hke (fun _ h => h)).1
/-- a contract of a function that may catch an exception: the frames below may have turned -/
noncomputable def SpecT (prog : Program) (w : World) (K : Frag) (p : Program) (loose : List Str) (mean : ExcName → Option Value) (mg mb : Str → Option Value) (f : Addr) (args : Args) (D : Nat) (own : List (Addr × Obj)) (Post : Nat → Value → List (Addr × Obj) → Prop) : Prop :=
  ∀ (dp un : Nat) (gd : Option (List Code)) (envs : List Env) (base g : Heap) (s : Shared) (R : Result → Shared → Prop),
    Below (Ar dp un gd envs) base envs g → g.StaysIn s.heap → Own g s.heap own → K.In g → Top p loose mean mg mb g → K.In base → Top p loose mean mg mb base → KtsDicts (framesOf envs) g → g.objs.size ≤ s.heap.objs.size →
    dp + D < recursionLimit → un + 10 * D < cLine →
    (∀ v own' h' tk' g', KtsTurn (framesOf envs) g g' → Post s.heap.objs.size v own' → g'.StaysIn h' → Own g' h' own' → R (.ok (.ret v)) { s with heap := h', toks := tk' }) →
    codeAny (model prog w) (Ar dp un gd envs) (.call (.ref f) args) R s
theorem spec_ofT {name qual : Str} {params : Arguments} {body : List Stmt} {scope : Scope} {dV kV doc pm cdv ct oc : Value} {an od : Option Addr} {osl : Array (Option Value)} {rb : List (Str × Value)}
    (ho : K.lookup f = some ⟨oc, od, .func (fnOf name qual params body scope dV kV doc pm an cdv ct), osl⟩) (hcd : codeIn K cdv qual = true)
    (hbind : ∀ s : Shared, K.In s.heap → BindsTo s (fnOf name qual params body scope dV kV doc pm an cdv ct) args rb.reverse)
    (hloc : ∀ y ∈ rb.reverse, scope.names.lookup y.1 = some .local)
    (hco : scope.isCoroutine = false) (hgen : scope.isGenerator = false) (hk : scope.kind = .function) (hcell : ∀ x ∈ scope.names, x.2 ≠ .cell)
    (hD : 1 ≤ D)
    (h : ∀ (dp un : Nat) (gd : Option (List Code)) (envs : List Env) (base g : Heap) (L' : Addr) (h₁ : Heap) (gens : Array GenState) (drawn : Drawn) (tk : Nat) (os : OsState) (R : Result → Shared → Prop),
      Below (Ar dp un gd envs) base envs g → Fr g L' h₁ (mapR rb) → News g L' h₁ own → K.In g → Top p loose mean mg mb g → K.In base → Top p loose mean mg mb base → KtsDicts (framesOf envs) g → (∀ q ∈ own, q.1 < L') →
      dp + D < recursionLimit → un + 10 * D < cLine →
      (∀ v own' L'' m' h' tk' g', KtsTurn (framesOf envs) g g' → Fr g' L'' h' m' → News g' L'' h' own' → Post L' v own' → R (.ok (.ret v)) ⟨h', gens, drawn, tk', os⟩) →
      let env := envOf qual scope L' f cdv
      let A := (Ar dp un gd envs).deeper env
      wpAny (model prog w) A (execs body env)
        (fun fl s' => R (.ok (.ret (match fl with | .ret v => v | _ => .none))) s')
        (fun e s' => wpAny (model prog w) A (leaving env e) (fun _ s'' => R (.error e) s'') (fun e' s'' => R (.error e') s'') s')
        ⟨h₁, gens, drawn, tk, os⟩) : SpecT prog w K p loose mean mg mb f args D own Post := by
  intro dp un gd envs base g s R B hst hown X T XB TB KD hsz hd hu ret
  have Xs : K.In s.heap := X.keeps hst
  refine codeAny_call_def (fd := fnOf name qual params body scope dV kV doc pm an cdv ct) (body := body) (binds := rb.reverse) (by show dp < recursionLimit; omega) (Xs _ _ ho) rfl (T.nolimit.keeps hst) (codeRec_of Xs hcd) rfl (hbind s Xs) hcell hloc (fun h₁ hns hk₁ => ?_) hco hgen hk
  have F : Fr g s.heap.objs.size h₁ (mapR rb) := ⟨by rw [mapR_eq]; simpa only [List.reverse_reverse] using hns, fun b o e => hk₁ b o (hst b o e), hsz⟩
  have N : News g s.heap.objs.size h₁ own := fun q hq => ⟨hk₁ _ _ (hown q hq).1, Nat.ne_of_lt (Heap.lt_size (hown q hq).1), (hown q hq).2⟩
  exact h dp un gd envs base g s.heap.objs.size h₁ s.gens s.drawn (s.toks + rb.reverse.length) s.os R B F N X T XB TB KD (fun q hq => Heap.lt_size (hown q hq).1) hd hu
    (fun v own' L'' m' h' tk' g' KT F' N' hP => ret v own' h' tk' g' KT hP F'.keep fun q hq => ⟨(N' q hq).1, (N' q hq).2.2⟩)
theorem SpecT.call {vs : List Value} (S : SpecT prog w K p loose mean mg mb f ⟨vs, []⟩ D own Post) {A A₀ : Around} {base h₀ : Heap} {env : Env} {L : Addr} {m : Str → Option Value} {s : Shared} {news rest : List (Addr × Obj)} {Q E : Value → Shared → Prop}
    (B : Below A₀ base [] h₀) (F : Fr h₀ L s.heap m) (X : K.In h₀) (N : News h₀ L s.heap news) (T : Top p loose mean mg mb h₀) (XB : K.In base) (TB : Top p loose mean mg mb base)
    (hA : A.frames = some [env]) (hh : A.handled = none) (hf : env.frame = some L) (hke : env.scope.kind = .function) (hd : A.depth + D < recursionLimit) (hu : A.units + 10 * D < cLine)
    (P : ∀ q ∈ own, q ∈ news) (W : Wo (own.map (·.1)) news rest)
    (ret : ∀ v own' h' tk', Post s.heap.objs.size v own' → Fr h₀ L h' m → News h₀ L h' (own' ++ rest) → Apart own' rest → Q v { s with heap := h', toks := tk' }) :
    wpAny (model prog w) A (PySem.call (.ref f) vs) Q E s := by
  obtain ⟨Fg, Bg, st, O⟩ := ground_own (A := A) B F N hA hf hke P
  refine wpAny_call ?_
  rw [ar_eq A hA hh] at Bg ⊢
  obtain ⟨oL, es, ep, hLg, hLd, hLk, hLf⟩ := Fg.ns
  have fr : framesOf [env] = [L] := by unfold framesOf; rw [List.filterMap_cons, hf]; rfl
  have nL : ∀ b o, h₀.get? b = some o → b ∉ [L] := fun b o e hm => by
    have h1 := Fg.above
    have h2 := Heap.lt_size e
    rw [List.mem_singleton.mp hm] at h2
    exact absurd (Nat.lt_of_lt_of_le h2 h1) (Nat.lt_irrefl _)
  refine S A.depth A.units A.guards [env] base _ s _ Bg (fun b o e => of_hideAll _ e) O (X.keeps st) (T.keeps st) XB TB ?_ (Nat.le_of_eq (hideAll_size _ _)) hd hu (fun v own' h' tk' g' KT hP k' O' => ?_)
  · rw [fr]
    intro b hb
    rw [List.mem_singleton.mp hb]
    exact ⟨oL, es, ep, hLg, hLd⟩
  rw [fr] at KT
  obtain ⟨sl, hLs⟩ := KT.frame L oL hLg (.head _)
  have keep : ∀ b o, h₀.get? b = some o → h'.get? b = some o := fun b o e => k' b o (KT.other b o (st b o e) (nL b o e))
  have hr : ∀ q ∈ rest, q ∈ news ∧ ∀ r ∈ own, q.1 ≠ r.1 := fun q hq => ⟨(W.rest q hq).1, fun r hr => (W.rest q hq).2 _ (List.mem_map_of_mem hr)⟩
  have hg : ∀ q ∈ rest, g'.get? q.1 = some q.2 := fun q hq => by
    refine KT.other _ _ (hideAll_get (own.map (·.1)) (N q (hr q hq).1).1 fun hm => ?_) fun hm => (N q (hr q hq).1).2.1 (List.mem_singleton.mp hm)
    obtain ⟨r, hro, e⟩ := List.mem_map.mp hm
    exact (hr q hq).2 r hro e.symm
  refine ret v own' h' tk' hP ⟨⟨_, es, ep, k' L _ hLs, hLd, hLk, hLf⟩, keep, F.above⟩ (fun q hq => ?_) (apart_of fun q hq r hr' e => ?_)
  · rcases List.mem_append.mp hq with hq | hq
    · refine ⟨(O' q hq).1, fun e => ?_, ?_⟩
      · have := (O' q hq).2; rw [e, hLs] at this; cases this
      · cases e : h₀.get? q.1 with
        | none => rfl
        | some o => have := (O' q hq).2; rw [KT.other _ _ (st _ _ e) (nL _ _ e)] at this; cases this
    · exact ⟨k' _ _ (hg q hq), (N q (hr q hq).1).2⟩
  · have := (O' q hq).2
    rw [e, hg r hr'] at this; cases this
end PTRY
end JTRY
section JC28
open PySem PySem.W PyProof.Rows PySem.Calls PyProof.V
section PC28
variable {prog : Program} {w : World} {p : Program} {loose : List Str} {mean : ExcName → Option Value} {mg mb : Str → Option Value}
set_option maxRecDepth 100000
set_option maxHeartbeats 4000000
theorem disp_spec (l : Addr) (own : List (Addr × Obj)) (rr : Array UInt8) (hfb : ∀ tw, Spec prog w (kf w.params) p loose mean mg mb 332 ⟨[.ref l, .str cdS tw], []⟩ 9 own (P1 (fun t => .bytes (unfoldB rr) t) (fun _ => own) (fun _ => True)) False)
    (hb : (unfoldB rr).size ≤ 4000) (hk : ∀ x ps, valueL (unfoldB rr).toList = some (x, ps) → ∃ ks, ps = prK ks ∧ KOk ks) (hx : ∀ x ps, valueL (unfoldB rr).toList = some (x, ps) → x.length ≤ 4000) (hw : ∀ x ks, valueL (unfoldB rr).toList = some (x, prK ks) → WOk (plainW ks)) : SpecT prog w (kf w.params) p loose mean mg mb 475 ⟨[.ref l], []⟩ 24 own
    (fun _ v o' => (valueL (unfoldB rr).toList = none ∧ v = .none ∧ o' = own) ∨
      ∃ x ks P t n V O, valueL (unfoldB rr).toList = some (x, prK ks) ∧ v = .ref P ∧ o' = (P, listOf #[.bytes (octS (strB x)) t, V] n) :: (O ++ own) ∧
        ((plainW ks = [] ∧ V = .none ∧ O = []) ∨ (plainW ks ≠ [] ∧ ∃ P2 vs n2 ns, V = .ref P2 ∧ O = [(P2, listOf vs.toArray n2)] ∧ BM.BysAre vs (flatW (plainW ks) ns) ∧ ns.Perm ((plainW ks).map (·.1)) ∧ sortedS ns = true))) := by
  refine' spec_ofT (rb := [("fields", .ref l)]) ?k1 ?k2 ?k3 ?k4 ?k5 ?k6 ?k7 ?k8 ?k9 ?_
  case k1 => k_is
  case k2 => k_is
  case k3 => first | exact fun s Xs => BindsTo.of_eq rfl | exact fun s Xs => binds_K Xs rfl (by k_is) rfl rfl rfl
  case k4 => exact locs rfl
  case k5 => exact rfl
  case k6 => exact rfl
  case k7 => exact rfl
  case k8 => decide
  case k9 => decide
  intro dp un gd envs base g L' h₁ gens drawn tk os R B F N X T XB TB KD lt hd hu ret eE aA
  k_fold
  (try k_lt lt)
  (try dsimp only)
  k_steps
  k_here
  refine' Spec.callR1 (hfb _) ?B ?F ?X ?N ?T rfl rfl rfl rfl ?hd ?hu (fun _ h => h) ?_ (fun h => h.elim)
  case F => k_asm
  case N => k_asm
  case B => k_asm
  case X => k_asm
  case T => k_asm
  case hd => first | exact room_d (j := 1) hd (by decide) | exact room_d (j := 2) hd (by decide)
  case hu => first | exact room_u (j := 1) hu (by decide) | exact room_u (j := 2) hu (by decide) | exact room_u (j := 3) hu (by decide)
  rintro tu' h' tk' - F' N'
  clear F N
  (try dsimp only)
  k_steps
  k_here
  refine' Spec.callTry (value_spec _ _ hb hk) ?B ?F ?X ?N ?T rfl rfl rfl rfl ?hd ?hu ?_ ?_
  case F => k_asm
  case N => k_asm
  case B => k_asm
  case X => k_asm
  case T => k_asm
  case hd => first | exact room_d (j := 1) hd (by decide) | exact room_d (j := 2) hd (by decide)
  case hu => first | exact room_u (j := 1) hu (by decide) | exact room_u (j := 2) hu (by decide) | exact room_u (j := 3) hu (by decide)
  · rintro v9 own9 h9 tk9 ⟨T9, x9, t9, D9, o9, kv9, ks9, rfl, rfl, hd9, lo9, ha9, hv9⟩ F9 N9 hap
    have hap1 : ∀ q ∈ own, @Ne Nat q.1 D9 := fun q hq e => hap _ (.tail _ (.head _)) q hq e.symm
    (try clear F' N')
    have hsz : (strB x9).cps.size ≤ 4000 := by
      have := hx _ _ hv9
      show (Array.size (List.toArray (List.map _ _))) ≤ _
      simp only [List.size_toArray, List.length_map]
      omega
    have hwk := hw _ _ hv9
    (try dsimp only [List.cons_append, List.nil_append] at N9)
    (try dsimp only)
    k_steps
    k_here
    rename News _ _ _ _ => N8
    have hTD := news_ne N8 (.head _) (.tail _ (.head _)) (fun e => by have := dict_cls hd9; rw [← e] at this; simp at this)
    refine' Spec.call (params_value_spec D9 o9 kv9 _ hd9 lo9 ha9 hwk) ?B ?F ?X N8 ?T rfl rfl rfl rfl ?hd ?hu ?P ?W ?_ (fun h => h.elim)
    case F => k_asm
    case B => k_asm
    case X => k_asm
    case T => k_asm
    case hd => first | exact room_d (j := 1) hd (by decide) | exact room_d (j := 2) hd (by decide)
    case hu => first | exact room_u (j := 1) hu (by decide) | exact room_u (j := 2) hu (by decide) | exact room_u (j := 3) hu (by decide)
    case P => ktr_unf
    case W => exact .keep (fun a ha => by rw [List.mem_singleton.mp ha]; exact hTD) (.skip (.head _) (.all fun q hq a ha => by rw [List.mem_singleton.mp ha]; exact hap1 q hq))
    rintro v7 own7 h7 tk7 (⟨hw7, rfl, rfl⟩ | ⟨hw7, P7, vs7, n7, ns7, rfl, rfl, hb7, hp7, hs7⟩) F7 N7 - -
    · (try dsimp only [List.cons_append, List.nil_append] at N7)
      k_steps
      (repeat first | k_unfold | dsimp only)
      rename News _ _ _ _ => N6
      exact ret _ ((_, _) :: ([] ++ own)) _ _ _ _ _ KtsTurn.refl (by k_asm) (news_mono N6 fun q hq => by
        rcases List.mem_cons.mp hq with rfl | hq
        · exact .head _
        · exact .tail _ (.tail _ (.tail _ hq))) (.inr ⟨x9, ks9, _, _, _, _, [], hv9, rfl, rfl, .inl ⟨hw7, rfl, rfl⟩⟩)
    · (try dsimp only [List.cons_append, List.nil_append] at N7)
      k_steps
      (repeat first | k_unfold | dsimp only)
      rename News _ _ _ _ => N6
      exact ret _ ((_, _) :: ([_] ++ own)) _ _ _ _ _ KtsTurn.refl (by k_asm) (news_mono N6 fun q hq => by
        rcases List.mem_cons.mp hq with rfl | hq
        · exact .head _
        · rcases List.mem_cons.mp hq with rfl | hq
          · exact .tail _ (.head _)
          · exact .tail _ (.tail _ (.tail _ (.tail _ hq)))) (.inr ⟨x9, ks9, _, _, _, _, [_], hv9, rfl, rfl, .inr ⟨hw7, P7, vs7, n7, ns7, rfl, rfl, hb7, hp7, hs7⟩⟩)
  · intro hx9 e9 t9 vs9 h9 tk9 G9 R9 F9 U9
    (try dsimp only)
    k_steps
    (repeat first | k_unfold | dsimp only)
    k_steps
    (repeat first | k_unfold | dsimp only)
    exact ret _ own _ _ _ _ _ (by assumption) (by k_asm) (by k_asm) (.inl ⟨hx9, rfl, rfl⟩)
end PC28
end JC28
section JC29
open PySem PySem.W PyProof.Rows PySem.Calls PyProof.V
section PC29
variable {prog : Program} {w : World} {p : Program} {loose : List Str} {mean : ExcName → Option Value} {mg mb : Str → Option Value}
set_option maxRecDepth 100000
set_option maxHeartbeats 4000000
noncomputable abbrev tapeO (C : Addr) (a : Int) (t k : Nat) : Obj := listOf #[.ref C, .int a t] k
theorem draw_spec (P C : Addr) (a : Int) (t k k2 : Nat) (vs : List Value) (ns : List Int) (many : Int) (tm : Nat) (hi : IntsAre vs ns) (hn0 : 0 < ns.length) (hn1 : ns.length ≤ 40) (ha0 : 0 ≤ a) (ha1 : a ≤ 100) (hm0 : 1 ≤ many) (hm1 : many ≤ 100) : Spec prog w (kf w.params) p loose mean mg mb 492 ⟨[.ref P, .int many tm], []⟩ 3 [(P, tapeO C a t k), (C, listOf vs.toArray k2)]
    (P4 (fun r tr _ _ => .int r tr) (fun _ _ t' k' => [(P, tapeO C (a + 1) t' k'), (C, listOf vs.toArray k2)]) (fun r _ _ _ => 0 ≤ r ∧ r < many)) False := by
  refine' spec_of3 (rb := [("many", .int many tm), ("tape", .ref P)]) ?k1 ?k2 ?k3 ?k4 ?k5 ?k6 ?k7 ?k8 ?k9 ?_
  case k1 => k_is
  case k2 => k_is
  case k3 => first | exact fun s Xs => BindsTo.of_eq rfl | exact fun s Xs => binds_K Xs rfl (by k_is) rfl rfl rfl
  case k4 => exact locs rfl
  case k5 => exact rfl
  case k6 => exact rfl
  case k7 => exact rfl
  case k8 => decide
  case k9 => decide
  intro dp un gd envs base g L' h₁ gens drawn tk os R B F N X T lt hd hu ret exc eE aA
  k_fold
  (try k_lt lt)
  (try dsimp only)
  have hCP : @Ne Nat C P := news_ne N (.tail _ (.head _)) (.head _) (fun e => by
    have h1 : vs.toArray = #[.ref C, .int a t] := by
      have := congrArg Obj.data e
      injection this
    have h2 : vs = [.ref C, .int a t] := by simpa using congrArg Array.toList h1
    rw [h2] at hi
    nomatch hi)
  k_steps
  (repeat first | k_unfold | dsimp only)
  rename News _ _ _ _ => N9
  exact ret _ _ _ _ _ _ (by k_asm) N9 ⟨_, _, _, _, rfl, rfl, Int.fmod_nonneg_of_pos _ (by omega), Int.fmod_lt_of_pos _ (by omega)⟩
end PC29
end JC29
section JPLN
open PySem PySem.W PyProof.Rows PySem.Calls PyProof.V
section PPLN
set_option maxRecDepth 100000
noncomputable def wordB : Nat → Array UInt8 | 0 => #[105, 110, 108, 105, 110, 101] | 1 => #[65, 84, 84, 65, 67, 72, 77, 69, 78, 84] | 2 => #[32, 102, 111, 114, 109, 45, 68, 97, 116, 97] | _ => #[40, 120, 41, 32, 121, 45, 122]
noncomputable def toldB : Nat → Array UInt8 | 0 => #[105, 110, 108, 105, 110, 101] | 1 => #[97, 116, 116, 97, 99, 104, 109, 101, 110, 116] | 2 => #[102, 111, 114, 109, 45, 100, 97, 116, 97] | _ => #[121, 45, 122]
noncomputable def sepB : Nat → Array UInt8 | 0 => #[59] | 1 => #[32, 59, 32] | 2 => #[59, 13, 10, 9] | _ => #[59, 32, 40, 99, 41, 32]
noncomputable def endB : Nat → Array UInt8 | 0 => #[] | 1 => #[59] | _ => #[32]
noncomputable def rowT : Nat → Array UInt8
  | 0 => #[97, 61, 98] | 1 => #[65, 61, 34, 120, 32, 121, 34] | 2 => #[113, 61, 34, 92, 34, 122, 92, 92, 34] | 3 => #[99, 42, 61, 117, 116, 102, 45, 56, 39, 39, 37, 67, 51, 37, 65, 57, 37, 50, 48]
  | 4 => #[108, 42, 61, 73, 83, 79, 45, 56, 56, 53, 57, 45, 49, 39, 101, 110, 39, 37, 69, 57] | 5 => #[112, 42, 48, 61, 97, 98, 59, 80, 42, 49, 61, 34, 99, 32, 100, 34]
  | 6 => #[40, 110, 111, 116, 101, 41, 32, 110, 32, 61, 32, 40, 111, 110, 101, 32, 40, 116, 119, 111, 41, 41, 32, 53] | _ => #[102, 105, 108, 101, 110, 97, 109, 101, 61, 34, 34]
noncomputable def rowN : Nat → Str | 0 => "a" | 1 => "a" | 2 => "q" | 3 => "c" | 4 => "l" | 5 => "p" | 6 => "n" | _ => "filename"
noncomputable def rowW : Nat → Str | 0 => "b" | 1 => "x y" | 2 => "\"z\\" | 3 => ⟨#[233, 32]⟩ | 4 => ⟨#[233]⟩ | 5 => "abc d" | 6 => "5" | _ => ""
noncomputable def wrongB : Nat → Array UInt8
  | 0 => #[] | 1 => #[59, 97, 61, 98] | 2 => #[105, 110, 108, 105, 110, 101, 32, 97, 61, 98] | 3 => #[105, 110, 108, 105, 110, 101, 59, 32, 97] | 4 => #[105, 110, 108, 105, 110, 101, 59, 32, 61, 98]
  | 5 => #[105, 110, 108, 105, 110, 101, 59, 32, 97, 61] | 6 => #[40, 111, 112, 101, 110] | 7 => #[105, 110, 108, 105, 110, 101, 59, 32, 97, 61, 34, 98] | _ => #[64, 59, 97, 61, 98]
noncomputable def bodyB (j : Nat) (es : List (Nat × Nat)) : Array UInt8 := es.foldl (fun b x => b ++ sepB x.1 ++ rowT x.2) (wordB j)
noncomputable def addW (acc : List (Str × Str)) (r : Nat) : List (Str × Str) := if rowN r ∈ acc.map (·.1) then acc else acc ++ [(rowN r, rowW r)]
noncomputable def wdict (es : List (Nat × Nat)) : List (Str × Str) := es.foldl (fun acc x => addW acc x.2) []
/-- entries as the law makes them: none but the name a twice -/
noncomputable def EsOk : List (Nat × Nat) → Prop := fun es => ∀ i x, es[i]? = some x → x.1 < 4 ∧ x.2 < 8 ∧ (rowN x.2 ∈ (wdict (es.take i)).map (·.1) → rowN x.2 = "a")
theorem body_snoc (j : Nat) (es : List (Nat × Nat)) (x : Nat × Nat) : bodyB j (es ++ [x]) = bodyB j es ++ sepB x.1 ++ rowT x.2 := by unfold bodyB; rw [List.foldl_append]; rfl
theorem wdict_snoc (es : List (Nat × Nat)) (x : Nat × Nat) : wdict (es ++ [x]) = addW (wdict es) x.2 := by unfold wdict; rw [List.foldl_append]; rfl
theorem esOk_snoc {es : List (Nat × Nat)} {s r : Nat} (h : EsOk es) (hs : s < 4) (hr : r < 8) (hn : rowN r ∈ (wdict es).map (·.1) → rowN r = "a") : EsOk (es ++ [(s, r)]) := by
  intro i x hx
  rcases Nat.lt_or_ge i es.length with hi | hi
  · rw [List.getElem?_append_left hi] at hx
    obtain ⟨a, b, c⟩ := h i x hx
    exact ⟨a, b, by rw [List.take_append_of_le_length (Nat.le_of_lt hi)]; exact c⟩
  · rw [List.getElem?_append_right hi] at hx
    have h0 : i - es.length = 0 := by
      rcases Nat.eq_zero_or_pos (i - es.length) with q | q
      · exact q
      · rw [List.getElem?_eq_none (by simp; omega)] at hx; cases hx
    rw [h0] at hx
    cases hx
    have : i = es.length := by omega
    subst this
    rw [List.take_left]
    exact ⟨hs, hr, hn⟩
theorem rowT_size : ∀ r : Nat, (rowT r).size ≤ 24
  | 0 => by decide | 1 => by decide | 2 => by decide | 3 => by decide | 4 => by decide | 5 => by decide | 6 => by decide | _ + 7 => by simp [rowT]
theorem sepB_size : ∀ r : Nat, (sepB r).size ≤ 6
  | 0 => by decide | 1 => by decide | 2 => by decide | _ + 3 => by simp [sepB]
theorem wordB_size : ∀ r : Nat, (wordB r).size ≤ 10
  | 0 => by decide | 1 => by decide | 2 => by decide | _ + 3 => by simp [wordB]
theorem endB_size : ∀ r : Nat, (endB r).size ≤ 1
  | 0 => by decide | 1 => by decide | _ + 2 => by simp [endB]
theorem stored_same {kvs : List (Str × Value)} {x : Str} {v : Value} (hn : (kvs.map (·.1)).Nodup) (h : valueAt kvs x = some v) : stored kvs x v = kvs := by
  have hm : x ∈ kvs.map (·.1) := by
    by_cases e : x ∈ kvs.map (·.1)
    · exact e
    · rw [valueAt_none.mpr e] at h; cases h
  obtain ⟨q, hq, rfl⟩ := List.mem_map.mp hm
  unfold stored
  rw [if_pos (List.any_eq_true.mpr ⟨q, hq, by simp⟩)]
  have key : ∀ (l : List (Str × Value)), (l.map (·.1)).Nodup → valueAt l q.1 = some v → (l.map fun kv => if kv.1 = q.1 then (kv.1, v) else kv) = l := by
    intro l
    induction l with
    | nil => intro _ _; rfl
    | cons a l ih =>
      intro hn hv
      rw [List.map_cons, List.nodup_cons] at hn
      unfold valueAt at hv ih
      rw [List.find?_cons] at hv
      by_cases e : a.1 = q.1
      · have hva : a.2 = v := by simpa [e] using hv
        rw [List.map_cons, if_pos e, ← hva]
        congr 1
        have : ∀ kv ∈ l, ¬ kv.1 = q.1 := fun kv hkv he => hn.1 (List.mem_map.mpr ⟨kv, hkv, he.trans e.symm⟩)
        conv => rhs; rw [← List.map_id l]
        exact List.map_congr_left fun kv hkv => if_neg (this kv hkv)
      · rw [List.map_cons, if_neg e]
        congr 1
        exact ih hn.2 (by simpa [e] using hv)
  exact key kvs hn h
theorem kv_len2 {kvs : List (Str × Value)} {ws : List (Str × Str)} (h : KvAre kvs ws) : kvs.length = ws.length := by
  have := congrArg List.length h.keys
  simpa using this
theorem kv_add {kvs : List (Str × Value)} {ws : List (Str × Str)} {r t : Nat} (h : KvAre kvs ws) (hn : (kvs.map (·.1)).Nodup) : KvAre (stored kvs (rowN r) ((valueAt kvs (rowN r)).getD (.str (rowW r) t))) (addW ws r) := by
  unfold addW
  rw [← h.keys]
  by_cases e : rowN r ∈ kvs.map (·.1)
  · rw [if_pos e]
    cases hv : valueAt kvs (rowN r) with
    | none => exact absurd e (valueAt_none.mp hv)
    | some v => rw [Option.getD_some, stored_same hn hv]; exact h
  · rw [if_neg e, valueAt_none.mpr e]
    exact h.put (by rw [← h.keys]; exact e)
theorem kv_in {kvs : List (Str × Value)} {ws : List (Str × Str)} (h : KvAre kvs ws) {x : Str} : (valueAt kvs x).isSome = true ↔ x ∈ ws.map (·.1) := by
  rw [← h.keys]
  cases hv : valueAt kvs x with
  | none => simp [valueAt_none.mp hv]
  | some v =>
    refine ⟨fun _ => ?_, fun _ => rfl⟩
    by_cases e : x ∈ kvs.map (·.1)
    · exact e
    · rw [valueAt_none.mpr e] at hv; cases hv
theorem wdict_len : ∀ (es : List (Nat × Nat)) (acc : List (Str × Str)), (es.foldl (fun acc x => addW acc x.2) acc).length ≤ acc.length + es.length
  | [], acc => by simp
  | x :: es, acc => by
    rw [List.foldl_cons]
    have := wdict_len es (addW acc x.2)
    have h2 : (addW acc x.2).length ≤ acc.length + 1 := by unfold addW; split <;> simp
    rw [List.length_cons]; omega
theorem body_size (j : Nat) : ∀ (es : List (Nat × Nat)) (b : Array UInt8), (es.foldl (fun b x => b ++ sepB x.1 ++ rowT x.2) b).size ≤ b.size + 30 * es.length
  | [], b => by simp
  | x :: es, b => by
    rw [List.foldl_cons]
    have := body_size j es (b ++ sepB x.1 ++ rowT x.2)
    have h1 := sepB_size x.1
    have h2 := rowT_size x.2
    rw [Array.size_append, Array.size_append] at this
    rw [List.length_cons]; omega
theorem body_size2 (j : Nat) (es : List (Nat × Nat)) : (bodyB j es).size ≤ 10 + 30 * es.length := by
  have := body_size j es (wordB j)
  have h := wordB_size j
  unfold bodyB; omega
end PPLN
end JPLN
section JLW
open PySem PySem.W PyProof.Rows PySem.Calls PySem.Spec Builtin
section PLW
set_option maxRecDepth 100000
variable {prog : Program} {w : World} {A : Around} {E : Value → Shared → Prop} {s : Shared}
theorem item_bysT {value slice : Expr} {t : Addr} {vs : List Value} {bs : List (Array UInt8)} {k : Int} {u : Tok} {Q : Value → Shared → Prop} (ht : IsTup s.heap t vs.toArray) (hb : BM.BysAre vs bs) (h0 : 0 ≤ k) (h1 : k < bs.length) (hz : bs.length ≤ 100)
    (h : ∀ t', Q (.bytes (bs.getD k.toNat #[]) t') s)
    (hs : subscripted slice false (.ref t) (.int k u) = operate [.ref t, .int k u] (getItem (.ref t) (.int k u))) :
    wpAny (model prog w) A (subscriptTail value slice (.ref t) (.int k u)) Q E s := by
  have hl := hb.length
  have hk : k.toNat < bs.length := by omega
  obtain ⟨t', hx⟩ := hb.get k.toNat hk
  have hj : seqIndex? k vs.length = some k.toNat := by
    unfold seqIndex?
    simp only [hl]
    split <;> first | omega | (simp; omega) | rfl | skip
  refine item_tupleT ht (by omega) (by omega) hj hx ?_ hs
  have := h t'
  rwa [show bs.getD k.toNat #[] = bs[k.toNat] by simp [hk]] at this
theorem item_bysF {value slice : Expr} {t : Addr} {vs : List Value} (f : Nat → Array UInt8) (n : Nat) {k : Int} {u : Tok} {Q : Value → Shared → Prop} (ht : IsTup s.heap t vs.toArray) (hb : BM.BysAre vs ((List.range n).map f)) (h0 : 0 ≤ k) (h1 : k < n) (hz : n ≤ 100)
    (h : ∀ t', Q (.bytes (f k.toNat) t') s)
    (hs : subscripted slice false (.ref t) (.int k u) = operate [.ref t, .int k u] (getItem (.ref t) (.int k u))) :
    wpAny (model prog w) A (subscriptTail value slice (.ref t) (.int k u)) Q E s := by
  refine item_bysT ht hb h0 (by simpa using h1) (by simpa using hz) (fun t' => ?_) hs
  have hk : k.toNat < n := by omega
  have : ((List.range n).map f).getD k.toNat #[] = f k.toNat := by simp [hk]
  rw [this]; exact h t'
theorem words_are (a b c d : Tok) : BM.BysAre [.bytes #[105, 110, 108, 105, 110, 101] a, .bytes #[65, 84, 84, 65, 67, 72, 77, 69, 78, 84] b, .bytes #[32, 102, 111, 114, 109, 45, 68, 97, 116, 97] c, .bytes #[40, 120, 41, 32, 121, 45, 122] d] ((List.range 4).map wordB) := .cons _ _ (.cons _ _ (.cons _ _ (.cons _ _ .nil)))
theorem seps_are (a b c d : Tok) : BM.BysAre [.bytes #[59] a, .bytes #[32, 59, 32] b, .bytes #[59, 13, 10, 9] c, .bytes #[59, 32, 40, 99, 41, 32] d] ((List.range 4).map sepB) := .cons _ _ (.cons _ _ (.cons _ _ (.cons _ _ .nil)))
theorem ends_are (a b c : Tok) : BM.BysAre [.bytes #[] a, .bytes #[59] b, .bytes #[32] c] ((List.range 3).map endB) := .cons _ _ (.cons _ _ (.cons _ _ .nil))
theorem wrongs_are (a b c d e f g h i : Tok) : BM.BysAre [.bytes #[] a, .bytes #[59, 97, 61, 98] b, .bytes #[105, 110, 108, 105, 110, 101, 32, 97, 61, 98] c, .bytes #[105, 110, 108, 105, 110, 101, 59, 32, 97] d, .bytes #[105, 110, 108, 105, 110, 101, 59, 32, 61, 98] e, .bytes #[105, 110, 108, 105, 110, 101, 59, 32, 97, 61] f, .bytes #[40, 111, 112, 101, 110] g,
    .bytes #[105, 110, 108, 105, 110, 101, 59, 32, 97, 61, 34, 98] h, .bytes #[64, 59, 97, 61, 98] i] ((List.range 9).map wrongB) := .cons _ _ (.cons _ _ (.cons _ _ (.cons _ _ (.cons _ _ (.cons _ _ (.cons _ _ (.cons _ _ (.cons _ _ .nil))))))))
theorem seqIx {k : Int} {n : Nat} (h0 : 0 ≤ k) (h1 : k < n) : seqIndex? k n = some k.toNat := by
  unfold seqIndex?
  split <;> first | omega | (simp; omega) | rfl | skip
theorem if_cut {M : Model} {A : Around} {E : Value → Shared → Prop} {s : Shared} {env : Env} {test : Expr} {body orelse : List Stmt} {pos : Pos} {Q : Flow → Shared → Prop} (taken : Bool) (G : Shared → Prop) (h1 : wpAny M A (PySem.isTrue test env (eval test env)) (fun c s' => c = taken ∧ G s') E s)
    (h2 : taken = true → ∀ s', G s' → wpAny M A (execs body env) Q E s') (h3 : taken = false → ∀ s', G s' → wpAny M A (execs orelse env) Q E s') : wpAny M A (exec (.If test body orelse pos) env) Q E s := by
  refine wpAny_If (wpAny_mono h1 (fun c s' hp => ?_) fun _ _ e => e)
  obtain ⟨rfl, hg⟩ := hp
  cases c with
  | true => exact h2 rfl s' hg
  | false => exact h3 rfl s' hg
theorem enc_a (x : Str) (t u : Tok) : Builtin.«str.encode» ⟨[.str x t, .str "ascii" u], []⟩ = (do ret (← _codecs.encodeRoad "str.encode" (.str x t) x "ascii" none)) := by kernel_rfl
theorem enc_u (x : Str) (t u : Tok) : Builtin.«str.encode» ⟨[.str x t, .str "utf-8" u], []⟩ = (do ret (← _codecs.encodeRoad "str.encode" (.str x t) x "utf-8" none)) := by kernel_rfl
noncomputable def IsNm (z : Str) : Prop := z = "a" ∨ z = "q" ∨ z = "c" ∨ z = "l" ∨ z = "p" ∨ z = "n" ∨ z = "filename"
theorem road_a {z : Str} (t : Tok) (h : IsNm z) : _codecs.encodeRoad "str.encode" (.str z t) z "ascii" none = mkBytes (octS z) := by
  rcases h with rfl | rfl | rfl | rfl | rfl | rfl | rfl <;> kernel_rfl
theorem nm_size {z : Str} (h : IsNm z) : (octS z).size ≤ 100 := by
  rcases h with rfl | rfl | rfl | rfl | rfl | rfl | rfl <;> decide
noncomputable def IsWt (y : Str) : Prop := y = "b" ∨ y = "x y" ∨ y = "\"z\\" ∨ y = ⟨#[233, 32]⟩ ∨ y = ⟨#[233]⟩ ∨ y = "abc d" ∨ y = "5" ∨ y = ""
theorem road_u {y : Str} (t : Tok) (h : IsWt y) : _codecs.encodeRoad "str.encode" (.str y t) y "utf-8" none = mkBytes (u8S y) := by
  rcases h with rfl | rfl | rfl | rfl | rfl | rfl | rfl | rfl <;> kernel_rfl
theorem wt_size {y : Str} (h : IsWt y) : (u8S y).size ≤ 100 := by
  rcases h with rfl | rfl | rfl | rfl | rfl | rfl | rfl | rfl <;> decide
theorem encode_u {x : Str} {t u : Tok} {Q : Value → Shared → Prop} (hx : IsWt x) (h : ∀ t' k, Q (.bytes (u8S x) t') { s with toks := k }) :
    wpAny (model prog w) A (call (.builtin "str.encode") [.str x t, .str "utf-8" u]) Q E s := by
  refine wpAny_call_entry F.slot_str_encode (T := "str") rfl F.entry_str_encode ?_ (F.args_str_encode_2 _ _)
  rw [enc_u, road_u t hx]
  exact wpAny_bind (wpAny_mkBytes (wpAny_pure ⟨_, rfl, h _ _⟩) (by rw [sizeLine_eq]; exact Nat.le_trans (wt_size hx) (by decide)))
theorem encode_a {x : Str} {t u : Tok} {Q : Value → Shared → Prop} (hx : IsNm x) (h : ∀ t' k, Q (.bytes (octS x) t') { s with toks := k }) :
    wpAny (model prog w) A (call (.builtin "str.encode") [.str x t, .str "ascii" u]) Q E s := by
  refine wpAny_call_entry F.slot_str_encode (T := "str") rfl F.entry_str_encode ?_ (F.args_str_encode_2 _ _)
  rw [enc_a, road_a t hx]
  exact wpAny_bind (wpAny_mkBytes (wpAny_pure ⟨_, rfl, h _ _⟩) (by rw [sizeLine_eq]; exact Nat.le_trans (nm_size hx) (by decide)))
section
variable {K : Frag} {p : Program} {loose : List Str} {mean : ExcName → Option Value} {mg mb : Str → Option Value} {f : Addr} {D : Nat} {own : List (Addr × Obj)} {vs : List Value} {A₀ : Around} {base h₀ : Heap} {env : Env} {L : Addr} {m : Str → Option Value} {news : List (Addr × Obj)} {Q : Value → Shared → Prop}
theorem Spec.callR0 {outer : List Env} {V : Value} {C Exc : Prop} (S : Spec prog w K p loose mean mg mb f ⟨vs, []⟩ D own (P0 V own C) Exc)
    (B : Below A₀ base outer h₀) (F : Fr h₀ L s.heap m) (X : K.In h₀) (N : News h₀ L s.heap news) (T : Top p loose mean mg mb h₀)
    (hA : A.frames = some (env :: outer)) (hh : A.handled = none) (hf : env.frame = some L) (hke : env.scope.kind = .function) (hd : A.depth + D < recursionLimit) (hu : A.units + 10 * D < cLine)
    (P : ∀ q ∈ own, q ∈ news)
    (ret : ∀ h' tk', C → Fr h₀ L h' m → News h₀ L h' news → Q V { s with heap := h', toks := tk' })
    (exc : Exc → ∀ e t vs h' tk' g₂, RaisedK base (env :: outer) e (.ref 59) t vs [] h' → Fr h₀ L g₂ m → g₂.UpToSlots h' → E (.ref e) { s with heap := h', toks := tk' }) :
    wpAny (model prog w) A (PySem.call (.ref f) vs) Q E s :=
  Spec.call0 S B F X N T hA hh hf hke hd hu P (wo_filter _ _) (fun h' tk' hc F' N' _ _ => ret h' tk' hc F' (news_whole N P N')) exc
/-- a call of a function that catches and leaves the objects handed over as they are -/
theorem SpecT.callR {Post2 : Value → List (Addr × Obj) → Prop} (S : SpecT prog w K p loose mean mg mb f ⟨vs, []⟩ D own (fun _ v o' => ∃ new, o' = new ++ own ∧ Post2 v new))
    (B : Below A₀ base [] h₀) (F : Fr h₀ L s.heap m) (X : K.In h₀) (N : News h₀ L s.heap news) (T : Top p loose mean mg mb h₀) (XB : K.In base) (TB : Top p loose mean mg mb base)
    (hA : A.frames = some [env]) (hh : A.handled = none) (hf : env.frame = some L) (hke : env.scope.kind = .function) (hd : A.depth + D < recursionLimit) (hu : A.units + 10 * D < cLine)
    (P : ∀ q ∈ own, q ∈ news)
    (ret : ∀ v new h' tk', Post2 v new → Fr h₀ L h' m → News h₀ L h' (new ++ news) → (∀ q ∈ new, ∀ r ∈ news, (∀ o ∈ own, @Ne Nat r.1 o.1) → q.1 ≠ r.1) → Q v { s with heap := h', toks := tk' }) :
    wpAny (model prog w) A (PySem.call (.ref f) vs) Q E s := by
  refine SpecT.call S B F X N T XB TB hA hh hf hke hd hu P (wo_filter _ _) (fun v own' h' tk' hP F' N' hap => ?_)
  obtain ⟨new, rfl, hp⟩ := hP
  rw [List.append_assoc] at N'
  refine ret v new h' tk' hp F' (fun q hq => ?_) fun q hq r hr hro => apart_iff hap q (List.mem_append_left _ hq) r (List.mem_filter.mpr ⟨hr, decide_eq_true fun a ha => by
    obtain ⟨o, ho, e⟩ := List.mem_map.mp ha
    rw [← e]; exact hro o ho⟩)
  rcases List.mem_append.mp hq with hq | hq
  · exact N' q (List.mem_append_left _ hq)
  · exact news_whole N P (news_mono N' fun q hq => List.mem_append_right _ hq) q hq
end
/-- dicts with octets as keys -/
noncomputable def bysPairs : List (Value × Value) → List (List UInt8 × Value)
  | (.bytes b _, v) :: r => (b.toList, v) :: bysPairs r
  | _ => []
noncomputable def allBysKeys : List (Value × Value) → Bool
  | [] => true
  | (.bytes _ _, _) :: r => allBysKeys r
  | _ => false
theorem carries_bys : ∀ vs : List (Value × Value), allBysKeys vs = true → Carries (PySem.W.bytesKind prog w) vs (bysPairs vs)
  | [], _ => trivial
  | (.bytes b t, v) :: r, h => ⟨by simp [PySem.W.bytesKind, PySem.W.isBytes], rfl, carries_bys r h⟩
  | (.str _ _, _) :: _, h | (.none, _) :: _, h | (.ellipsis, _) :: _, h | (.notImplemented, _) :: _, h | (.bool _, _) :: _, h | (.int _ _, _) :: _, h | (.float _ _, _) :: _, h | (.type _, _) :: _, h
  | (.builtin _, _) :: _, h | (.ref _, _) :: _, h => by simp [allBysKeys] at h
theorem made_bys {h₀ h : Heap} {L : Addr} {m : Str → Option Value} {news : List (Addr × Obj)} {vs : List (Value × Value)} {P : Heap → Prop} (F : Fr h₀ L h m) (N : News h₀ L h news) (hk : allBysKeys vs = true) (hn : ((bysPairs vs).map (·.1)).Nodup)
    (k : ∀ h' o, Fr h₀ L h' m → News h₀ L h' ((h.objs.size, o) :: news) → o.IsDictOf (PySem.W.bytesKind prog w) (bysPairs vs) → P h') :
    ∃ kvs, Carries (PySem.W.bytesKind prog w) vs kvs ∧ (h.push { cls := .type "dict", data := .dict #[] }).DictOf (PySem.W.bytesKind prog w) h.objs.size [] ∧
      ∀ h', h'.DictOf (PySem.W.bytesKind prog w) h.objs.size (merged [] kvs) → Heap.SameBut h.objs.size (h.push { cls := .type "dict", data := .dict #[] }) h' → P h' :=
  ⟨bysPairs vs, carries_bys vs hk, Heap.DictOf.new h, fun h' hm hs => by
    rw [merged_nil_of_nodup _ hn] at hm
    obtain ⟨o, ho, hd⟩ := Heap.dictOf_iff.mp hm
    exact k h' o (F.filled hs) (N.filled F hs ho) hd⟩
noncomputable abbrev toldPairs (a0 a1 a2 a3 b0 b1 b2 b3 : Tok) : List (Value × Value) := [(.bytes #[105, 110, 108, 105, 110, 101] a0, .bytes #[105, 110, 108, 105, 110, 101] b0), (.bytes #[65, 84, 84, 65, 67, 72, 77, 69, 78, 84] a1, .bytes #[97, 116, 116, 97, 99, 104, 109, 101, 110, 116] b1), (.bytes #[32, 102, 111, 114, 109, 45, 68, 97, 116, 97] a2, .bytes #[102, 111, 114, 109, 45, 100, 97, 116, 97] b2), (.bytes #[40, 120, 41, 32, 121, 45, 122] a3, .bytes #[121, 45, 122] b3)]
theorem told_at (a0 a1 a2 a3 b0 b1 b2 b3 : Tok) : ∀ j : Nat, j < 4 → ∃ t, valueAt (bysPairs (toldPairs a0 a1 a2 a3 b0 b1 b2 b3)) (wordB j).toList = some (.bytes (toldB j) t)
  | 0, _ => ⟨b0, rfl⟩
  | 1, _ => ⟨b1, rfl⟩
  | 2, _ => ⟨b2, rfl⟩
  | 3, _ => ⟨b3, rfl⟩
  | _ + 4, h => absurd h (by omega)
theorem told_item {h₀ : Heap} {L d : Addr} {news : List (Addr × Obj)} {o : Obj} {a0 a1 a2 a3 b0 b1 b2 b3 tw : Tok} {j : Nat} {value slice : Expr} {Q : Value → Shared → Prop} (N : News h₀ L s.heap news) (hm : (d, o) ∈ news) (hd : o.IsDictOf (PySem.W.bytesKind prog w) (bysPairs (toldPairs a0 a1 a2 a3 b0 b1 b2 b3))) (hj : j < 4) (h : ∀ t, Q (.bytes (toldB j) t) { s with toks := s.toks + 1 })
    (hs : subscripted slice false (.ref d) (.bytes (wordB j) tw) = operate [.ref d, .bytes (wordB j) tw] (getItem (.ref d) (.bytes (wordB j) tw))) (hg : ∀ r, letTemporaryGo value (.ref d) r = pure ()) : wpAny (model prog w) A (subscriptTail value slice (.ref d) (.bytes (wordB j) tw)) Q E s := by
  obtain ⟨t, ht⟩ := told_at a0 a1 a2 a3 b0 b1 b2 b3 j hj
  exact kda_item (knd := PySem.W.bytesKind prog w) N hm hd (by simp [PySem.W.bytesKind, PySem.W.isBytes]) ht (h t) hs hg
end PLW
end JLW
section JC30
open PySem PySem.W PyProof.Rows PySem.Calls PyProof.V
section PC30
variable {prog : Program} {w : World} {p : Program} {loose : List Str} {mean : ExcName → Option Value} {mg mb : Str → Option Value}
set_option maxRecDepth 100000
set_option maxHeartbeats 4000000
theorem row_K (P : Params) : ∀ r : Nat, r < 8 → ∃ t1 t2 t3, (kf P).lookup (476 + r) = some (tupO [.bytes (rowT r) t1, .str (rowN r) t2, .str (rowW r) t3] 0)
  | 0, _ => ⟨850, 851, 852, by k_is⟩
  | 1, _ => ⟨853, 854, 855, by k_is⟩
  | 2, _ => ⟨856, 857, 858, by k_is⟩
  | 3, _ => ⟨859, 860, 861, by k_is⟩
  | 4, _ => ⟨862, 863, 864, by k_is⟩
  | 5, _ => ⟨865, 866, 867, by k_is⟩
  | 6, _ => ⟨868, 869, 870, by k_is⟩
  | 7, _ => ⟨871, 872, 873, by k_is⟩
  | _ + 8, h => absurd h (by omega)
theorem rows_K (P : Params) : (kf P).lookup 484 = some (tupO [.ref 476, .ref 477, .ref 478, .ref 479, .ref 480, .ref 481, .ref 482, .ref 483] 0) := by k_is
theorem wrongs_K (P : Params) : (kf P).lookup 485 = some (tupO [.bytes #[] 875, .bytes #[59, 97, 61, 98] 876, .bytes #[105, 110, 108, 105, 110, 101, 32, 97, 61, 98] 877, .bytes #[105, 110, 108, 105, 110, 101, 59, 32, 97] 878, .bytes #[105, 110, 108, 105, 110, 101, 59, 32, 61, 98] 879, .bytes #[105, 110, 108, 105, 110, 101, 59, 32, 97, 61] 880, .bytes #[40, 111, 112, 101, 110] 881,
    .bytes #[105, 110, 108, 105, 110, 101, 59, 32, 97, 61, 34, 98] 882, .bytes #[64, 59, 97, 61, 98] 883] 0) := by k_is
section
variable {A : Around} {E : Value → Shared → Prop} {s : Shared} {h₀ : Heap} {L : Addr} {m : Str → Option Value} {Q : Value → Shared → Prop} {value slice : Expr} {k : Int} {u : Tok}
theorem isTup_K {a : Addr} {l : List Value} {n : Nat} (F : Fr h₀ L s.heap m) (X : (kf w.params).In h₀) (h : (kf w.params).lookup a = some (tupO l n)) : IsTup s.heap a l.toArray := ⟨_, (X.keeps F.keep) _ _ h, rfl, n, rfl⟩
theorem item_rows (F : Fr h₀ L s.heap m) (X : (kf w.params).In h₀) (h0 : 0 ≤ k) (h1 : k < 8) (h : ∀ t1 t2 t3, IsTup s.heap (476 + k.toNat) #[.bytes (rowT k.toNat) t1, .str (rowN k.toNat) t2, .str (rowW k.toNat) t3] → Q (.ref (476 + k.toNat)) s)
    (hs : subscripted slice false (.ref 484) (.int k u) = operate [.ref 484, .int k u] (getItem (.ref 484) (.int k u))) : wpAny (model prog w) A (subscriptTail value slice (.ref 484) (.int k u)) Q E s := by
  obtain ⟨t1, t2, t3, hr⟩ := row_K w.params k.toNat (by omega)
  refine item_tupleT (isTup_K F X (rows_K w.params)) (by omega) (by omega) (seqIx h0 h1) (x := .ref (476 + k.toNat)) ?_ (h t1 t2 t3 (isTup_K F X hr)) hs
  obtain ⟨r, rfl⟩ := Int.eq_ofNat_of_zero_le h0
  have hr8 : r < 8 := by omega
  show ((List.range 8).map fun i => Value.ref (476 + i))[r]? = _
  rw [List.getElem?_map, List.getElem?_range hr8]; rfl
theorem item_wrongs (F : Fr h₀ L s.heap m) (X : (kf w.params).In h₀) (h0 : 0 ≤ k) (h1 : k < 9) (h : ∀ t', Q (.bytes (wrongB k.toNat) t') s)
    (hs : subscripted slice false (.ref 485) (.int k u) = operate [.ref 485, .int k u] (getItem (.ref 485) (.int k u))) : wpAny (model prog w) A (subscriptTail value slice (.ref 485) (.int k u)) Q E s :=
  item_bysF wrongB 9 (isTup_K F X (wrongs_K w.params)) (wrongs_are _ _ _ _ _ _ _ _ _) h0 h1 (by decide) h hs
end
theorem init285_spec (x dx : Addr) (nm rw : Array UInt8) (t1 t2 : Nat) (hne : x ≠ dx) : Spec prog w (kf w.params) p loose mean mg mb 285 ⟨[.ref x, .bytes nm t1, .bytes rw t2], []⟩ 3 [(x, instObj 300 dx), (dx, dictOf [] 0)]
    (fun _ v o => v = .none ∧ ∃ h1 h2 k1 k2, o = fldN x dx h1 h2 k1 k2 t1 t2 nm rw) False := by
  refine' spec_of3 (rb := [("raw", .bytes rw t2), ("name", .bytes nm t1), ("self", .ref x)]) ?k1 ?k2 ?k3 ?k4 ?k5 ?k6 ?k7 ?k8 ?k9 ?_
  case k1 => k_is
  case k2 => k_is
  case k3 => first | exact fun s Xs => BindsTo.of_eq rfl | exact fun s Xs => binds_K Xs rfl (by k_is) rfl rfl rfl
  case k4 => exact locs rfl
  case k5 => exact rfl
  case k6 => exact rfl
  case k7 => exact rfl
  case k8 => decide
  case k9 => decide
  intro dp un gd envs base g L' h₁ gens drawn tk os R B F N X T lt hd hu ret exc eE aA
  k_fold
  (try k_lt lt)
  (try dsimp only)
  k_steps
  (repeat first | k_unfold | dsimp only)
  exact ret _ _ _ _ _ _ (by k_asm) (by k_asm) ⟨rfl, _, _, _, _, rfl⟩
theorem wd_C30_0 : True := by
  k_with "call ref" => (k_here; (show wpAny _ _ (PySem.call (Value.ref 300) [_, _]) _ _ _); (refine' call_new (fun x dx hx => init285_spec x dx _ _ _ _ hx) ?m ?i ?f ?B ?F ?X ?N ?T rfl rfl rfl rfl ?hd ?hu ?_); (case m => k_is); (case i => k_is); (case f => k_is); (case F => k_asm); (case N => first | k_asm | exact News.nil); (case B => k_asm); (case X => k_asm); (case T => k_asm); (case hd => first | exact room_d (j := 2) hd (by decide) | exact room_d (j := 3) hd (by decide)); (case hu => first | exact room_u (j := 2) hu (by decide) | exact room_u (j := 3) hu (by decide) | exact room_u (j := 4) hu (by decide)); (rintro xf' df' _ h' tk' ⟨h1', h2', k1', k2', rfl⟩ F' N' l1 l2; (dsimp only [List.cons_append, List.nil_append] at N'); (simp only [AllLt, and_true] at l1); (try k_sweep); (try dsimp only)))
  trivial
theorem disp_miss_spec (l f d : Addr) (n : Nat) (h1 h2 : Int) (k1 k2 t1 t2 : Nat) (nm rw : Array UInt8) (hz : nm.size ≤ 4000) (hx : isF nm sbS) : SpecT prog w (kf w.params) p loose mean mg mb 475 ⟨[.ref l], []⟩ 24 (fbN l [.ref f] n (fldN f d h1 h2 k1 k2 t1 t2 nm rw))
    (fun _ v o' => ∃ new, o' = new ++ fbN l [.ref f] n (fldN f d h1 h2 k1 k2 t1 t2 nm rw) ∧ v = .none ∧ new = []) := by
  refine' spec_ofT (rb := [("fields", .ref l)]) ?k1 ?k2 ?k3 ?k4 ?k5 ?k6 ?k7 ?k8 ?k9 ?_
  case k1 => k_is
  case k2 => k_is
  case k3 => first | exact fun s Xs => BindsTo.of_eq rfl | exact fun s Xs => binds_K Xs rfl (by k_is) rfl rfl rfl
  case k4 => exact locs rfl
  case k5 => exact rfl
  case k6 => exact rfl
  case k7 => exact rfl
  case k8 => decide
  case k9 => decide
  intro dp un gd envs base g L' h₁ gens drawn tk os R B F N X T XB TB KD lt hd hu ret eE aA
  k_fold
  (try k_lt lt)
  (try dsimp only)
  k_steps
  k_here
  refine' Spec.callR0 (first_miss_spec l f d n h1 h2 k1 k2 t1 t2 nm rw _ hz hx) ?B ?F ?X ?N ?T rfl rfl rfl rfl ?hd ?hu (fun _ h => h) ?_ (fun h => h.elim)
  case F => k_asm
  case N => k_asm
  case B => k_asm
  case X => k_asm
  case T => k_asm
  case hd => first | exact room_d (j := 1) hd (by decide) | exact room_d (j := 2) hd (by decide)
  case hu => first | exact room_u (j := 1) hu (by decide) | exact room_u (j := 2) hu (by decide) | exact room_u (j := 3) hu (by decide)
  rintro h' tk' - F' N'
  clear F N
  (try dsimp only)
  k_steps
  (repeat first | k_unfold | dsimp only)
  exact ret _ _ _ _ _ _ _ KtsTurn.refl (by k_asm) (by k_asm) ⟨[], rfl, rfl, rfl⟩
/-- what disposition_value gives, as the law calls it -/
noncomputable def DispIs (rr : Array UInt8) (v : Value) (new : List (Addr × Obj)) : Prop :=
  (valueL (unfoldB rr).toList = none ∧ v = .none ∧ new = []) ∨
      ∃ x ks P t n V O, valueL (unfoldB rr).toList = some (x, prK ks) ∧ v = .ref P ∧ new = (P, listOf #[.bytes (octS (strB x)) t, V] n) :: O ∧
        ((plainW ks = [] ∧ V = .none ∧ O = []) ∨ (plainW ks ≠ [] ∧ ∃ P2 vs n2 ns, V = .ref P2 ∧ O = [(P2, listOf vs.toArray n2)] ∧ BM.BysAre vs (flatW (plainW ks) ns) ∧ ns.Perm ((plainW ks).map (·.1)) ∧ sortedS ns = true))
theorem disp2_spec (l : Addr) (own : List (Addr × Obj)) (rr : Array UInt8) (hfb : ∀ tw, Spec prog w (kf w.params) p loose mean mg mb 332 ⟨[.ref l, .str cdS tw], []⟩ 9 own (P1 (fun t => .bytes (unfoldB rr) t) (fun _ => own) (fun _ => True)) False)
    (hb : (unfoldB rr).size ≤ 4000) (hk : ∀ x ps, valueL (unfoldB rr).toList = some (x, ps) → ∃ ks, ps = prK ks ∧ KOk ks) (hx : ∀ x ps, valueL (unfoldB rr).toList = some (x, ps) → x.length ≤ 4000) (hw : ∀ x ks, valueL (unfoldB rr).toList = some (x, prK ks) → WOk (plainW ks)) :
    SpecT prog w (kf w.params) p loose mean mg mb 475 ⟨[.ref l], []⟩ 24 own (fun _ v o' => ∃ new, o' = new ++ own ∧ DispIs rr v new) := by
  intro dp un gd envs base g s R B st O X T XB TB KD hsz hd hu ret
  refine disp_spec l own rr hfb hb hk hx hw dp un gd envs base g s R B st O X T XB TB KD hsz hd hu fun v own' h' tk' g' KT hP k' O' => ret v own' h' tk' g' KT ?_ k' O'
  rcases hP with ⟨h1, h2, h3⟩ | ⟨x, ks, P, t, n, V, O, h1, h2, h3, h4⟩
  · exact ⟨[], h3, .inl ⟨h1, h2, rfl⟩⟩
  · exact ⟨(P, listOf #[.bytes (octS (strB x)) t, V] n) :: O, h3, .inr ⟨x, ks, P, t, n, V, O, h1, h2, rfl, h4⟩⟩
end PC30
end JC30
section JC31
open PySem PySem.W PyProof.Rows PySem.Calls PyProof.V
section PC31
variable {prog : Program} {w : World} {p : Program} {loose : List Str} {mean : ExcName → Option Value} {mg mb : Str → Option Value}
set_option maxRecDepth 100000
set_option maxHeartbeats 4000000
structure LawF (w : World) where
  b : List Stmt
  s : Scope
  oc : Value
  od : Option Addr
  name : Str
  qual : Str
  params : Arguments
  dV : Value
  kV : Value
  doc : Value
  pm : Value
  an : Option Addr
  cdv : Value
  ct : Value
  osl : Array (Option Value)
  h : (kf w.params).lookup 499 = some ⟨oc, od, .func (fnOf name qual params b s dV kV doc pm an cdv ct), osl⟩
noncomputable abbrev mkLawF {w : World} {b : List Stmt} {s : Scope} {oc : Value} {od : Option Addr} {name qual : Str} {params : Arguments} {dV kV doc pm : Value} {an : Option Addr} {cdv ct : Value} {osl : Array (Option Value)}
    (h : (kf w.params).lookup 499 = some ⟨oc, od, .func (fnOf name qual params b s dV kV doc pm an cdv ct), osl⟩) : LawF w := ⟨b, s, oc, od, name, qual, params, dV, kV, doc, pm, an, cdv, ct, osl, h⟩
noncomputable def lawF (w : World) : LawF w := by
  refine' mkLawF ?h
  case h => k_is
theorem law_let {M : Model} {name : Str} {scope : Scope} {L fa : Addr} {cd : Value} {b : List Stmt} {Q : Flow → Shared → Prop} {E : Value → Shared → Prop} {s : Shared} (h : let eE := envOf name scope L fa cd; let aA := callerA.deeper eE; wpAny M aA (execs b eE) Q E s) :
    wpAny M (callerA.deeper (envOf name scope L fa cd)) (execs b (envOf name scope L fa cd)) Q E s := h
noncomputable def CutPost (G : Shared → Prop) (f : Flow) (s' : Shared) : Prop := f = .next ∧ G s'
theorem stmt_cut {M : Model} {A : Around} {E : Value → Shared → Prop} {s : Shared} {env : Env} {st : Stmt} {rest : List Stmt} {Q : Flow → Shared → Prop} (G : Shared → Prop) (h1 : wpAny M A (exec st env) (CutPost G) E s) (h2 : ∀ s', G s' → wpAny M A (execs rest env) Q E s') :
    wpAny M A (execs (st :: rest) env) Q E s := by
  refine wpAny_execs_cons (wpAny_mono h1 (fun f s' hp => ?_) fun _ _ e => e)
  obtain ⟨rfl, hg⟩ := hp
  exact h2 s' hg
noncomputable def TapeG (h₀ : Heap) (L S : Addr) (gens : Array GenState) (drawn : Drawn) (os : OsState) (s' : Shared) : Prop :=
  ∃ P C vs ns t k k2 h' tk', s' = ⟨h', gens, drawn, tk', os⟩ ∧ Fr h₀ L h' (fun y => if y = Str.ofString "tape" then some (.ref P) else mapR [("script", .ref S)] y) ∧ News h₀ L h' [(P, tapeO C 0 t k), (C, listOf vs.toArray k2)] ∧ IntsAre vs ns ∧ 0 < ns.length ∧ ns.length ≤ 40
theorem tape_end {h₀ h' : Heap} {L S P C : Addr} {gens : Array GenState} {drawn : Drawn} {os : OsState} {tk' t k k2 : Nat} {vs : List Value} {ns : List Int} {news : List (Addr × Obj)} (F : Fr h₀ L h' (fun y => if y = Str.ofString "tape" then some (.ref P) else mapR [("script", .ref S)] y)) (N : News h₀ L h' news)
    (h1 : (P, tapeO C 0 t k) ∈ news) (h2 : (C, listOf vs.toArray k2) ∈ news) (hi : IntsAre vs ns) (h0 : 0 < ns.length) (h40 : ns.length ≤ 40) : CutPost (TapeG h₀ L S gens drawn os) Flow.next ⟨h', gens, drawn, tk', os⟩ :=
  ⟨rfl, P, C, vs, ns, t, k, k2, h', tk', rfl, F, news_mono N (List.forall_mem_cons.mpr ⟨h1, List.forall_mem_singleton.mpr h2⟩), hi, h0, h40⟩
theorem wd_C31_0 : True := by
  k_with "call ref" => (k_here; (show wpAny _ _ (PySem.call (Value.ref 492) [_, _]) _ _ _); (refine' Spec.call4 (draw_spec _ _ _ _ _ _ _ _ _ _ (by assumption) (by assumption) (by assumption) ?s1 ?s2 (by decide) (by decide)) ?B ?F ?X ?N ?T rfl rfl rfl rfl ?hd ?hu ?P ?W ?_ (fun h => h.elim)); (case F => k_asm); (case N => k_asm); (case B => k_asm); (case X => k_asm); (case T => k_asm); (case hd => first | exact room_d (j := 1) hd (by decide) | exact room_d (j := 2) hd (by decide) | exact room_d (j := 3) hd (by decide) | (simp only [ar_depth, ar_units, depth_deeper, depth_mark, depth_under_make, depth_under_kw, depth_in1, units_deeper, units_in1, units_under_make, Around.mark_units]; omega)); (case hu => first | exact room_u (j := 0) hu (by decide) | exact room_u (j := 1) hu (by decide) | exact room_u (j := 2) hu (by decide) | exact room_u (j := 3) hu (by decide) | (simp only [ar_depth, ar_units, depth_deeper, depth_mark, depth_under_make, depth_under_kw, depth_in1, units_deeper, units_in1, units_under_make, Around.mark_units]; omega)); (case P => ktr_unf); (case W => tb_start); (case s1 => first | decide | omega); (case s2 => first | decide | omega); ((intro rd' rt' td' kd' h' tk' hP' F' N' l1 l2; (dsimp only [List.cons_append, List.nil_append] at N'); clear l1 l2; (first | ((have hr1' := And.left hP'); (have hr2' := (And.right hP')); clear hP') | obtain ⟨hr1', hr2'⟩ := hP'); (try k_sweep); (try dsimp only))))
  k_with "subscriptTail Tuple cons Call ref int" => (k_here; first | (refine' item_bysF (hs := by with_unfolding_all rfl) wordB 4 ?t ?b ?h0 ?h1 ?z ?_; (case t => exact News.isTup (by k_asm) (by k_mem)); (case b => exact words_are _ _ _ _); (case h0 => assumption); (case h1 => assumption); (case z => decide); intro _; (try dsimp only)) | (refine' item_bysF (hs := by with_unfolding_all rfl) sepB 4 ?t ?b ?h0 ?h1 ?z ?_; (case t => exact News.isTup (by k_asm) (by k_mem)); (case b => exact seps_are _ _ _ _); (case h0 => assumption); (case h1 => assumption); (case z => decide); intro _; (try dsimp only)) | (refine' item_bysF (hs := by with_unfolding_all rfl) endB 3 ?t ?b ?h0 ?h1 ?z ?_; (case t => exact News.isTup (by k_asm) (by k_mem)); (case b => exact ends_are _ _ _); (case h0 => assumption); (case h1 => assumption); (case z => decide); intro _; (try dsimp only)))
  k_with "subscriptTail Name Call ref int" => (k_here; first | (refine' item_rows (hs := by with_unfolding_all rfl) ?F ?X ?h0 ?h1 ?_; (case F => k_asm); (case X => k_asm); (case h0 => assumption); (case h1 => assumption); (intro t1' t2' t3' hT'; (try dsimp only))) | (refine' item_wrongs (hs := by with_unfolding_all rfl) ?F ?X ?h0 ?h1 ?_; (case F => k_asm); (case X => k_asm); (case h0 => assumption); (case h1 => assumption); (intro t1'; (try dsimp only))))
  k_with "exec If" => (k_here; (have hmk9 := (show StopAt 5 by assumption)); clear hmk9; refine stop_here ?_)
  k_with "call builtin:dict.get" => (k_here; refine' PySem.W.kdg_get2 (knd := PySem.strKind _ _) ?N ?m ?d ?l (PySem.strKind_is _ _ _ _) _ rfl ?_; (case N => k_asm); (case m => k_mem); (case d => assumption); (case l => assumption))
  k_with "binaryOp Add bytes bytes" => (k_here; refine KBy.add_bytes ?z ?_; (case z => first | exact Nat.le_trans (Nat.add_le_add (by assumption) (sepB_size _)) (by decide) | (rw [Array.size_append]; exact Nat.le_trans (Nat.add_le_add (Nat.add_le_add (by assumption) (sepB_size _)) (rowT_size _)) (by decide)) | exact Nat.le_trans (Nat.add_le_add (by assumption) (endB_size _)) (by decide)); intro _ _)
  k_with "call ref" => (k_here; (show wpAny _ _ (PySem.call (Value.ref 475) [_]) _ _ _); refine stop_here ?_)
  trivial
theorem ne_nilB {A : Around} {E : Value → Shared → Prop} {s : Shared} {Q : Value → Shared → Prop} {l b : Addr} {vs : List Value} (hl : s.heap.IsList l vs.toArray) (hb : s.heap.IsList b #[]) (hu : A.units < cLine) (c : Bool) (hc : decide (vs = []) = c) (h : Q (.bool (!c)) s) : wpAny (model prog w) A (compareOp .NotEq (.ref l) (.ref b)) Q E s := by
  subst hc; exact ne_nil hl hb hu h
theorem wd_C31_1 : True := by
  k_with "compareOp NotEq ref ref" => (k_here; k_dflt (first | (refine' ne_nilB ?a ?b ?u _ ?c ?_; (case a => exact News.isList (by k_asm) (by k_mem)); (case b => exact News.isList (by k_asm) (by k_mem)); (case u => first | exact room_v (j := 1) hu (by decide) | exact room_v (j := 2) hu (by decide) | exact room_v (j := 3) hu (by decide)); (case c => assumption)) | (refine' ne_two ?a ?b ?v ?u ?_; (case a => exact News.isList (by k_asm) (by k_mem)); (case b => exact News.isList (by k_asm) (by k_mem)); (case u => first | exact room_v (j := 1) hu (by decide) | exact room_v (j := 2) hu (by decide) | exact room_v (j := 3) hu (by decide)); (case v => first | exact SeqAt.EqAt.same _ | (refine' eqAt_bys ?a ?b ?c ?d ?n ?u; (case a => exact News.isList (by k_asm) (by k_mem)); (case b => exact News.isList (by k_asm) (by k_mem)); (case c => assumption); (case d => assumption); (case n => assumption); (case u => first | exact room_v (j := 2) hu (by decide) | exact room_v (j := 3) hu (by decide) | exact room_v (j := 4) hu (by decide)))))))
  k_with "isTrue Compare" => (k_here; (have hmk9 := (show StopAt 7 by assumption)); clear hmk9; refine stop_here ?_)
  trivial
theorem isTrue_cut {M : Model} {A : Around} {E : Value → Shared → Prop} {s : Shared} {env : Env} {e : Expr} {x : Sem Value} {Q : Bool → Shared → Prop} (b : Bool) (G : Shared → Prop) (h1 : wpAny M A (PySem.isTrue e env x) (fun c s' => c = b ∧ G s') E s) (h2 : ∀ s', G s' → Q b s') : wpAny M A (PySem.isTrue e env x) Q E s :=
  wpAny_mono h1 (fun c s' hp => by obtain ⟨rfl, hg⟩ := hp; exact h2 s' hg) fun _ _ e => e
noncomputable def SameG (h₀ : Heap) (L : Addr) (gens : Array GenState) (drawn : Drawn) (os : OsState) (m : Str → Option Value) (news : List (Addr × Obj)) (s' : Shared) : Prop := ∃ h' tk', s' = ⟨h', gens, drawn, tk', os⟩ ∧ Fr h₀ L h' m ∧ News h₀ L h' news
theorem same_cut {M : Model} {A : Around} {E : Value → Shared → Prop} {h : Heap} {tk : Nat} {env : Env} {e : Expr} {x : Sem Value} {Q : Bool → Shared → Prop} {h₀ : Heap} {L : Addr} {gens : Array GenState} {drawn : Drawn} {os : OsState} {m : Str → Option Value} {news : List (Addr × Obj)} (b : Bool) (_F : Fr h₀ L h m) (_N : News h₀ L h news)
    (h1 : wpAny M A (PySem.isTrue e env x) (fun c s' => c = b ∧ SameG h₀ L gens drawn os m news s') E ⟨h, gens, drawn, tk, os⟩) (h2 : ∀ h' tk', Fr h₀ L h' m → News h₀ L h' news → Q b ⟨h', gens, drawn, tk', os⟩) : wpAny M A (PySem.isTrue e env x) Q E ⟨h, gens, drawn, tk, os⟩ :=
  isTrue_cut b _ h1 fun s' ⟨h', tk', e, F', N'⟩ => by subst e; exact h2 h' tk' F' N'
theorem wd_C31_2 : True := by
  k_with "eval Dict cons cons" => (k_here; k_dflt (refine' Dict_made (knd := PySem.W.bytesKind _ _) ?F rfl rfl (List.cons_ne_nil _ _) (by decide) ?_; (case F => k_asm)); intro F')
  k_with "Exists" => (k_here; k_dflt (refine' made_bys ?F ?N ?k ?n ?_; (case F => k_asm); (case N => k_asm); (case k => rfl); (case n => exact of_decide_eq_true (by first | rfl | kernel_rfl))); intro h' o' F' N' hd'; (try dsimp only at N'))
  k_with "subscriptTail Name Name ref bytes" => (k_here; k_dflt (refine' told_item (hs := by with_unfolding_all rfl) (hg := by intro _; with_unfolding_all rfl) ?N ?m ?d ?j ?_; (case N => k_asm); (case m => k_mem); (case d => assumption); (case j => assumption)); (intro _; (try dsimp only)))
  trivial
structure LSt where
  b : Array UInt8
  tb : Nat
  o : Obj
  kvs : List (Str × Value)
  a : Int
  t : Nat
  k : Nat
  es : List (Nat × Nat)
structure LInv (prog : Program) (w : World) (j : Nat) (i : Nat) (c : LSt) : Prop where
  b : c.b = bodyB j c.es
  o : c.o.IsDictOf (PySem.strKind prog w) c.kvs
  v : KvAre c.kvs (wdict c.es)
  e : EsOk c.es
  l : c.es.length ≤ i
  a0 : 0 ≤ c.a
  a1 : c.a ≤ 2 + 2 * (i : Int)
theorem tk_imp {kvs : List (Str × Value)} {ws : List (Str × Str)} {r : Nat} (h : KvAre kvs ws) (ht : (!(valueAt kvs (rowN r)).isSome || rowN r == "a") = true) : rowN r ∈ ws.map (·.1) → rowN r = "a" := fun hm => by
  rw [(kv_in h).mpr hm] at ht
  simpa using ht
theorem kst_self {u : Str → Option Value} : ∀ {ps : List (Str × Value)}, (∀ p ∈ ps, u p.1 = some p.2) → kstB u ps = u := by
  intro ps h
  funext z
  induction ps with
  | nil => rfl
  | cons q r ih =>
    have hr := ih fun p hp => h p (.tail _ hp)
    simp only [kstB] at hr ⊢
    by_cases e : z = q.1
    · subst e
      simpa using (h q (.head _)).symm
    · simpa [e] using hr
end PC31
end JC31
section JPVAL
open PySem PySem.W PyProof.Rows PySem.Calls PyProof.V
section PPVAL
set_option maxRecDepth 100000
theorem stopC (c : UInt8) {r : List UInt8} (h : (!whiteB c && c != 40) = true) : skipL (c :: r) = some (c :: r) := by
  rw [Bool.and_eq_true] at h
  exact skip_stop (by simpa using h.1) (by simpa using h.2)
theorem passC (c : UInt8) {r : List UInt8} {x : Option (List UInt8)} (h : whiteB c = true) (hx : skipL r = x) : skipL (c :: r) = x := (skip_white h).trans hx
theorem comC {r r' : List UInt8} {x : Option (List UInt8)} (h : commentL 1 r = some r') (hx : skipL r' = x) : skipL (40 :: r) = x := (skip_com h).trans hx
noncomputable def plainC (c : UInt8) : Bool := c != 92 && c != 10 && c != 13 && c != 0
theorem in_plain {c : UInt8} {r : List UInt8} (h : plainC c = true) : insideL (c :: r) = some ([c], r) := by
  simp only [plainC, Bool.and_eq_true, bne_iff_ne] at h
  exact (if_neg h.1.1.1).trans ((if_neg h.1.1.2).trans ((if_neg h.1.2).trans (if_neg h.2)))
theorem cl_w {X : List UInt8} : ∀ (w : List UInt8), (w.all fun c => plainC c && c != 34) = true → closedL (w ++ 34 :: X) = some (w, X)
  | [], _ => closed_end rfl
  | c :: w, h => by
    rw [List.all_cons, Bool.and_eq_true, Bool.and_eq_true] at h
    rw [List.cons_append, closed_go (by simpa using h.1.2) (in_plain h.1.1), cl_w w h.2]; rfl
theorem cl_c (c : UInt8) {r v l : List UInt8} (h : (plainC c && c != 34) = true) (hr : closedL r = some (v, l)) : closedL (c :: r) = some (c :: v, l) := by
  rw [Bool.and_eq_true] at h
  rw [closed_go (by simpa using h.2) (in_plain h.1), hr]; rfl
theorem cl_e (d : UInt8) {r v l : List UInt8} (h : escB d = false) (hr : closedL r = some (v, l)) : closedL (92 :: d :: r) = some (d :: v, l) := by
  rw [closed_go (o := [d]) (r := r) (by simp) (by simp [insideL, h]), hr]; rfl
theorem com_w {d : Nat} {X x : List UInt8} (hd : d - 1 < 20 ∧ 0 < d) (hx : commentL d X = some x) : ∀ (w : List UInt8), (w.all fun c => plainC c && c != 40 && c != 41) = true → commentL d (w ++ X) = some x
  | [], _ => hx
  | c :: w, h => by
    rw [List.all_cons, Bool.and_eq_true, Bool.and_eq_true, Bool.and_eq_true, bne_iff_ne, bne_iff_ne] at h
    have hdp : deep d (c :: (w ++ X)) = d := by show (if c = 40 then d + 1 else if c = 41 then d - 1 else d) = d; rw [if_neg h.1.1.2, if_neg h.1.2]
    rw [List.cons_append, comment_go (in_plain h.1.1.1) (by rw [hdp]; omega) (by rw [hdp]; omega), hdp]
    exact com_w hd hx w h.2
theorem com_o {X x : List UInt8} (hx : commentL 2 X = some x) : commentL 1 (40 :: X) = some x := (comment_go (o := [40]) (r := X) rfl (by show ¬ 20 < 2; decide) (by show 2 ≠ 0; decide)).trans hx
theorem com_s {X x : List UInt8} (hx : commentL 1 X = some x) : commentL 2 (41 :: X) = some x := (comment_go (o := [41]) (r := X) rfl (by show ¬ 20 < 1; decide) (by show 1 ≠ 0; decide)).trans hx
theorem com_e {X : List UInt8} : commentL 1 (41 :: X) = some X := comment_end (o := [41]) rfl rfl
theorem run_w {q : UInt8 → Bool} {w X : List UInt8} (hw : w.all q = true) (a : X.takeWhile q = []) (b : X.dropWhile q = X) : (w ++ X).takeWhile q = w ∧ (w ++ X).dropWhile q = X := by
  rw [List.all_eq_true] at hw
  rw [List.takeWhile_append_of_pos hw, List.dropWhile_append_of_pos hw, a, b, List.append_nil]
  exact ⟨rfl, rfl⟩
theorem tok_x (w : List UInt8) {X : List UInt8} (hw : (w.all tokC && !w.isEmpty) = true) (a : X.takeWhile tokC = []) (b : X.dropWhile tokC = X) : tokL (w ++ X) = some (w, X) := by
  rw [Bool.and_eq_true, Bool.not_eq_true'] at hw
  unfold tokL
  rw [(run_w hw.1 a b).1, (run_w hw.1 a b).2, if_neg (by rw [hw.2]; exact Bool.false_ne_true)]
theorem cut_c {q : UInt8 → Bool} {c : UInt8} {X : List UInt8} (h : q c = false) : (c :: X).takeWhile q = [] ∧ (c :: X).dropWhile q = c :: X := by
  rw [List.takeWhile_cons_of_neg (by rw [h]; exact Bool.false_ne_true), List.dropWhile_cons_of_neg (by rw [h]; exact Bool.false_ne_true)]
  exact ⟨rfl, rfl⟩
theorem tok_w (w : List UInt8) {c : UInt8} {X : List UInt8} (hw : (w.all tokC && !w.isEmpty) = true) (hc : tokC c = false) : tokL (w ++ c :: X) = some (w, c :: X) := tok_x w hw (cut_c hc).1 (cut_c hc).2
theorem worth_w (w : List UInt8) {X : List UInt8} (hw : (w.all worthC && !w.isEmpty && w.head? != some 34) = true) (a : X.takeWhile worthC = []) (b : X.dropWhile worthC = X) : worthL (w ++ X) = some (w, X) := by
  rw [Bool.and_eq_true, Bool.and_eq_true, Bool.not_eq_true'] at hw
  obtain ⟨⟨h1, h2⟩, h3⟩ := hw
  rcases w with _ | ⟨c, w⟩
  · cases h2
  · rw [List.cons_append]
    unfold worthL
    dsimp only
    rw [← List.cons_append, (run_w h1 a b).1, (run_w h1 a b).2, if_neg (by simpa using h3)]; rfl
theorem worth_qd {r : List UInt8} {x : Option (List UInt8 × List UInt8)} (h : closedL r = x) : worthL (34 :: r) = x := h
structure Tail (T T' : List UInt8) : Prop where
  a : T.takeWhile worthC = []
  b : T.dropWhile worthC = T
  c : skipL T = some T'
theorem par_ok {l r1 l2 l3 l4 l5 l6 n v n' v' : List UInt8} {c : UInt8} (h1 : skipL l = some (c :: r1)) (h2 : (c != 59) = true) (h3 : tokL (c :: r1) = some (n, l2)) (h4 : skipL l2 = some (61 :: l3)) (h5 : skipL l3 = some l4) (h6 : worthL l4 = some (v, l5)) (h7 : skipL l5 = some l6) (hn : n.map lowC = n') (hv : v = v') :
    paramL l = some (some (n', v'), l6) := by
  subst hn hv
  unfold paramL
  rw [h1]; dsimp only
  rw [if_neg (by rintro (h | h); cases h; exact bne_iff_ne.mp h2 (Option.some.inj h)), h3]; dsimp only
  rw [h4]; dsimp only
  rw [if_pos (show (61 :: l3).head? = some 61 from rfl), List.tail_cons, h5]; dsimp only
  rw [h6]; dsimp only
  rw [h7]
theorem val_ok {l l1 l2 l3 n n' : List UInt8} (h1 : skipL l = some l1) (h2 : tokL l1 = some (n, l2)) (h3 : skipL l2 = some l3) (hn : n.map lowC = n') : valueL l = (pairsL l3).map fun ps => (n', ps) := by
  subst hn
  unfold valueL
  rw [h1]; dsimp only
  rw [h2]; dsimp only
  rw [h3]; rfl
theorem tc_32 : tokC 32 = false := by decide +kernel
theorem wc_32 : worthC 32 = false := by decide +kernel
theorem tc_59 : tokC 59 = false := by decide +kernel
theorem wc_59 : worthC 59 = false := by decide +kernel
theorem tc_61 : tokC 61 = false := by decide +kernel
noncomputable def kindT : Nat → List UInt8
  | 0 => [97, 61, 98]
  | 1 => [65, 61, 34, 120, 32, 121, 34]
  | 2 => [113, 61, 34, 92, 34, 122, 92, 92, 34]
  | 3 => [99, 42, 61, 117, 116, 102, 45, 56, 39, 39, 37, 67, 51, 37, 65, 57, 37, 50, 48]
  | 4 => [108, 42, 61, 73, 83, 79, 45, 56, 56, 53, 57, 45, 49, 39, 101, 110, 39, 37, 69, 57]
  | 5 => [112, 42, 48, 61, 97, 98]
  | 6 => [80, 42, 49, 61, 34, 99, 32, 100, 34]
  | 7 => [40, 110, 111, 116, 101, 41, 32, 110, 32, 61, 32, 40, 111, 110, 101, 32, 40, 116, 119, 111, 41, 41, 32, 53]
  | _ => [102, 105, 108, 101, 110, 97, 109, 101, 61, 34, 34]
section
variable {T T' : List UInt8}
theorem st_61 {r : List UInt8} : skipL (61 :: r) = some (61 :: r) := stopC 61 (by decide +kernel)
theorem st_34 {r : List UInt8} : skipL (34 :: r) = some (34 :: r) := stopC 34 (by decide +kernel)
theorem par_0 (h : Tail T T') : paramL (kindT 0 ++ T) = some (some (nmB 0, (wtB 0).toList), T') :=
  par_ok (stopC 97 (by decide +kernel)) (by decide +kernel) (tok_w [97] (by decide +kernel) tc_61) st_61 (stopC 98 (by decide +kernel)) (worth_w [98] (by decide +kernel) h.a h.b) h.c rfl rfl
theorem par_1 (h : Tail T T') : paramL (kindT 1 ++ T) = some (some (nmB 1, (wtB 1).toList), T') :=
  par_ok (stopC 65 (by decide +kernel)) (by decide +kernel) (tok_w [65] (by decide +kernel) tc_61) st_61 st_34 (worth_qd (cl_w [120, 32, 121] (by decide +kernel))) h.c rfl rfl
theorem par_2 (h : Tail T T') : paramL (kindT 2 ++ T) = some (some (nmB 2, (wtB 2).toList), T') :=
  par_ok (stopC 113 (by decide +kernel)) (by decide +kernel) (tok_w [113] (by decide +kernel) tc_61) st_61 st_34 (worth_qd (cl_e 34 rfl (cl_c 122 (by decide +kernel) (cl_e 92 rfl (closed_end rfl))))) h.c rfl rfl
theorem par_3 (h : Tail T T') : paramL (kindT 3 ++ T) = some (some (nmB 3, (wtB 3).toList), T') :=
  par_ok (stopC 99 (by decide +kernel)) (by decide +kernel) (tok_w [99, 42] (by decide +kernel) tc_61) st_61 (stopC 117 (by decide +kernel)) (worth_w [117, 116, 102, 45, 56, 39, 39, 37, 67, 51, 37, 65, 57, 37, 50, 48] (by decide +kernel) h.a h.b) h.c rfl rfl
theorem par_4 (h : Tail T T') : paramL (kindT 4 ++ T) = some (some (nmB 4, (wtB 4).toList), T') :=
  par_ok (stopC 108 (by decide +kernel)) (by decide +kernel) (tok_w [108, 42] (by decide +kernel) tc_61) st_61 (stopC 73 (by decide +kernel)) (worth_w [73, 83, 79, 45, 56, 56, 53, 57, 45, 49, 39, 101, 110, 39, 37, 69, 57] (by decide +kernel) h.a h.b) h.c rfl rfl
theorem par_5 (h : Tail T T') : paramL (kindT 5 ++ T) = some (some (nmB 5, (wtB 5).toList), T') :=
  par_ok (stopC 112 (by decide +kernel)) (by decide +kernel) (tok_w [112, 42, 48] (by decide +kernel) tc_61) st_61 (stopC 97 (by decide +kernel)) (worth_w [97, 98] (by decide +kernel) h.a h.b) h.c rfl rfl
theorem par_6 (h : Tail T T') : paramL (kindT 6 ++ T) = some (some (nmB 6, (wtB 6).toList), T') :=
  par_ok (stopC 80 (by decide +kernel)) (by decide +kernel) (tok_w [80, 42, 49] (by decide +kernel) tc_61) st_61 st_34 (worth_qd (cl_w [99, 32, 100] (by decide +kernel))) h.c rfl rfl
theorem par_7 (h : Tail T T') : paramL (kindT 7 ++ T) = some (some (nmB 7, (wtB 7).toList), T') :=
  par_ok (comC (com_w (by decide) com_e [110, 111, 116, 101] (by decide +kernel)) (passC 32 (by decide +kernel) (stopC 110 (by decide +kernel)))) (by decide +kernel) (tok_w [110] (by decide +kernel) tc_32) (passC 32 (by decide +kernel) st_61)
    (passC 32 (by decide +kernel) (comC (com_w (by decide) (com_o (com_w (by decide) (com_s com_e) [116, 119, 111] (by decide +kernel))) [111, 110, 101, 32] (by decide +kernel)) (passC 32 (by decide +kernel) (stopC 53 (by decide +kernel))))) (worth_w [53] (by decide +kernel) h.a h.b) h.c rfl rfl
theorem par_8 (h : Tail T T') : paramL (kindT 8 ++ T) = some (some (nmB 8, (wtB 8).toList), T') :=
  par_ok (stopC 102 (by decide +kernel)) (by decide +kernel) (tok_w [102, 105, 108, 101, 110, 97, 109, 101] (by decide +kernel) tc_61) st_61 st_34 (worth_qd (cl_w [] (by decide +kernel))) h.c rfl rfl
noncomputable def kindsR : Nat → List Nat | 0 => [0] | 1 => [1] | 2 => [2] | 3 => [3] | 4 => [4] | 5 => [5, 6] | 6 => [7] | _ => [8]
noncomputable def kindsL (es : List (Nat × Nat)) : List Nat := es.flatMap fun x => kindsR x.2
noncomputable def toldL : Nat → List UInt8 | 0 => [105, 110, 108, 105, 110, 101] | 1 => [97, 116, 116, 97, 99, 104, 109, 101, 110, 116] | 2 => [102, 111, 114, 109, 45, 100, 97, 116, 97] | _ => [121, 45, 122]
noncomputable def wordL : Nat → List UInt8 | 0 => [105, 110, 108, 105, 110, 101] | 1 => [65, 84, 84, 65, 67, 72, 77, 69, 78, 84] | 2 => [102, 111, 114, 109, 45, 68, 97, 116, 97] | _ => [40, 120, 41, 32, 121, 45, 122]
noncomputable def aft : Nat → List UInt8 | 0 => [] | 1 => [32] | 2 => [9] | _ => [32, 40, 99, 41, 32]
noncomputable def sepU : Nat → List UInt8 | 0 => [59] | 1 => [32, 59, 32] | 2 => [59, 9] | _ => [59, 32, 40, 99, 41, 32]
noncomputable def tl (E : List UInt8) : List (Nat × Nat) → List UInt8
  | [] => E
  | x :: es => sepU x.1 ++ ((rowT x.2).toList ++ tl E es)
noncomputable def tl' (E : List UInt8) : List (Nat × Nat) → List UInt8
  | [] => E
  | x :: es => 59 :: (aft x.1 ++ ((rowT x.2).toList ++ tl E es))
theorem tail_of {E : List UInt8} (hE : E = [] ∨ E = [59]) : ∀ es : List (Nat × Nat), Tail (tl E es) (tl' E es)
  | [] => by
    rcases hE with rfl | rfl
    · exact ⟨rfl, rfl, skip_nil⟩
    · exact ⟨(cut_c wc_59).1, (cut_c wc_59).2, stopC 59 (by decide +kernel)⟩
  | (s, r) :: es => by
    rcases s with _ | _ | _ | s
    · exact ⟨(cut_c wc_59).1, (cut_c wc_59).2, stopC 59 (by decide +kernel)⟩
    · exact ⟨(cut_c wc_32).1, (cut_c wc_32).2, passC 32 (by decide +kernel) (stopC 59 (by decide +kernel))⟩
    · exact ⟨(cut_c wc_59).1, (cut_c wc_59).2, stopC 59 (by decide +kernel)⟩
    · exact ⟨(cut_c wc_59).1, (cut_c wc_59).2, stopC 59 (by decide +kernel)⟩
theorem tok_of {E : List UInt8} (hE : E = [] ∨ E = [59]) : ∀ es : List (Nat × Nat), (tl E es).takeWhile tokC = [] ∧ (tl E es).dropWhile tokC = tl E es
  | [] => by
    rcases hE with rfl | rfl
    · exact ⟨rfl, rfl⟩
    · exact cut_c tc_59
  | (s, r) :: es => by
    rcases s with _ | _ | _ | s
    · exact cut_c tc_59
    · exact cut_c tc_32
    · exact cut_c tc_59
    · exact cut_c tc_59
theorem aft_skip (s : Nat) (X : List UInt8) : skipL (aft s ++ X) = skipL X := by
  rcases s with _ | _ | _ | s
  · rfl
  · exact skip_white (by decide +kernel)
  · exact skip_white (by decide +kernel)
  · exact passC 32 (by decide +kernel) (comC (com_w (by decide) com_e [99] (by decide +kernel)) (skip_white (by decide +kernel)))
theorem par_skip {l l' : List UInt8} (h : skipL l = skipL l') : paramL l = paramL l' := by unfold paramL; rw [h]
theorem pair_1 {r l8 : List UInt8} {q : List UInt8 × List UInt8} (s : Nat) (h : paramL r = some (some q, l8)) : pairsL (59 :: (aft s ++ r)) = (pairsL l8).map fun ps => q :: ps := pairs_go ((par_skip (aft_skip s _)).trans h)
theorem row_pairs (s r : Nat) (h : Tail T T') : pairsL (59 :: (aft s ++ ((rowT r).toList ++ T))) = (pairsL T').map fun ps => prK (kindsR r) ++ ps := by
  rcases r with _ | _ | _ | _ | _ | _ | _ | r
  · exact pair_1 s (par_0 h)
  · exact pair_1 s (par_1 h)
  · exact pair_1 s (par_2 h)
  · exact pair_1 s (par_3 h)
  · exact pair_1 s (par_4 h)
  · have h2 : Tail (59 :: (kindT 6 ++ T)) (59 :: (kindT 6 ++ T)) := ⟨(cut_c wc_59).1, (cut_c wc_59).2, stopC 59 (by decide +kernel)⟩
    refine (pair_1 s (par_5 h2)).trans ?_
    rw [pairs_go (par_6 h), Option.map_map]; rfl
  · exact pair_1 s (par_7 h)
  · exact pair_1 s (par_8 h)
theorem par_nil : paramL [] = some (none, []) := by unfold paramL; rw [skip_nil]; rfl
theorem pairs_tl {E : List UInt8} (hE : E = [] ∨ E = [59]) : ∀ es : List (Nat × Nat), pairsL (tl' E es) = some (prK (kindsL es))
  | [] => by
    rcases hE with rfl | rfl
    · exact pairs_nil
    · exact (pairs_go par_nil).trans (by rw [pairs_nil]; rfl)
  | x :: es => by
    rw [tl', row_pairs x.1 x.2 (tail_of hE es), pairs_tl hE es, Option.map_some]
    simp [kindsL]
theorem val_word (j : Nat) (h : Tail T T') (h1 : T.takeWhile tokC = []) (h2 : T.dropWhile tokC = T) : valueL (wordL j ++ T) = (pairsL T').map fun ps => (toldL j, ps) := by
  rcases j with _ | _ | _ | j
  · exact val_ok (stopC 105 (by decide +kernel)) (tok_x [105, 110, 108, 105, 110, 101] (by decide +kernel) h1 h2) h.c rfl
  · exact val_ok (stopC 65 (by decide +kernel)) (tok_x [65, 84, 84, 65, 67, 72, 77, 69, 78, 84] (by decide +kernel) h1 h2) h.c rfl
  · exact val_ok (stopC 102 (by decide +kernel)) (tok_x [102, 111, 114, 109, 45, 68, 97, 116, 97] (by decide +kernel) h1 h2) h.c rfl
  · exact val_ok (comC (com_w (by decide) com_e [120] (by decide +kernel)) (passC 32 (by decide +kernel) (stopC 121 (by decide +kernel)))) (tok_x [121, 45, 122] (by decide +kernel) h1 h2) h.c rfl
theorem wrong_same : ∀ r : Nat, (unfoldB (wrongB r)).toList = (wrongB r).toList
  | 0 => by decide +kernel | 1 => by decide +kernel | 2 => by decide +kernel | 3 => by decide +kernel | 4 => by decide +kernel | 5 => by decide +kernel | 6 => by decide +kernel | 7 => by decide +kernel | _ + 8 => (by decide +kernel : (unfoldB #[64, 59, 97, 61, 98]).toList = [64, 59, 97, 61, 98])
theorem wrong_none {r : Nat} : valueL (unfoldB (wrongB r)).toList = none := by
  rw [wrong_same]
  rcases r with _ | _ | _ | _ | _ | _ | _ | _ | r
  · decide +kernel
  · decide +kernel
  · decide +kernel
  · decide +kernel
  · decide +kernel
  · decide +kernel
  · decide +kernel
  · decide +kernel
  · exact (by decide +kernel : valueL [64, 59, 97, 61, 98] = none)
theorem val_tl {E : List UInt8} (hE : E = [] ∨ E = [59]) (j : Nat) (es : List (Nat × Nat)) : valueL (wordL j ++ tl E es) = some (toldL j, prK (kindsL es)) := by
  rw [val_word j (tail_of hE es) (tok_of hE es).1 (tok_of hE es).2, pairs_tl hE es]; rfl
theorem join_app : ∀ {l r : List UInt8}, r.head? ≠ some 10 → joinL (l ++ r) = joinL l ++ joinL r
  | [], _, _ => rfl
  | c :: l, r, h => by
    have ih := join_app (l := l) h
    rw [List.cons_append, joinL, joinL, ih]
    have e : ((l ++ r).head? = some 10) ↔ (l.head? = some 10) := by
      rcases l with _ | ⟨d, l⟩
      · simp [h]
      · simp
    simp only [e]
    split
    · rfl
    · split <;> rfl
/-- the text as it stands before the folds are taken out -/
noncomputable def raw (E : List UInt8) : List (Nat × Nat) → List UInt8
  | [] => E
  | x :: es => (sepB x.1).toList ++ ((rowT x.2).toList ++ raw E es)
theorem body_raw (E : List UInt8) : ∀ (es : List (Nat × Nat)) (b : Array UInt8), (es.foldl (fun b x => b ++ sepB x.1 ++ rowT x.2) b).toList ++ E = b.toList ++ raw E es
  | [], b => rfl
  | x :: es, b => by
    rw [List.foldl_cons, body_raw E es, raw, Array.toList_append, Array.toList_append, List.append_assoc, List.append_assoc]
theorem hd_ne (c : UInt8) {X : List UInt8} (h : (c != 10) = true) : (c :: X).head? ≠ some 10 := fun e => bne_iff_ne.mp h (Option.some.inj e)
theorem sep_head (s : Nat) (X : List UInt8) : ((sepB s).toList ++ X).head? ≠ some 10 := by
  rcases s with _ | _ | _ | s <;> exact hd_ne _ (by decide +kernel)
theorem row_head (s : Nat) (X : List UInt8) : ((rowT s).toList ++ X).head? ≠ some 10 := by
  rcases s with _ | _ | _ | _ | _ | _ | _ | s <;> exact hd_ne _ (by decide +kernel)
theorem raw_head {E : List UInt8} (hE : E.head? ≠ some 10) : ∀ es : List (Nat × Nat), (raw E es).head? ≠ some 10
  | [] => hE
  | x :: es => sep_head _ _
theorem join_sep : ∀ s : Nat, joinL (sepB s).toList = sepU s
  | 0 => by decide +kernel | 1 => by decide +kernel | 2 => by decide +kernel | _ + 3 => (by decide +kernel : joinL [59, 32, 40, 99, 41, 32] = [59, 32, 40, 99, 41, 32])
theorem join_row : ∀ s : Nat, joinL (rowT s).toList = (rowT s).toList
  | 0 => by decide +kernel | 1 => by decide +kernel | 2 => by decide +kernel | 3 => by decide +kernel | 4 => by decide +kernel | 5 => by decide +kernel | 6 => by decide +kernel | _ + 7 => (by decide +kernel : joinL [102, 105, 108, 101, 110, 97, 109, 101, 61, 34, 34] = [102, 105, 108, 101, 110, 97, 109, 101, 61, 34, 34])
theorem join_word : ∀ s : Nat, joinL (wordB s).toList = (wordB s).toList
  | 0 => by decide +kernel | 1 => by decide +kernel | 2 => by decide +kernel | _ + 3 => (by decide +kernel : joinL [40, 120, 41, 32, 121, 45, 122] = [40, 120, 41, 32, 121, 45, 122])
theorem join_end : ∀ s : Nat, joinL (endB s).toList = (endB s).toList
  | 0 => by decide +kernel | 1 => by decide +kernel | _ + 2 => (by decide +kernel : joinL [32] = [32])
theorem end_head : ∀ s : Nat, (endB s).toList.head? ≠ some 10
  | 0 => by decide +kernel | 1 => by decide +kernel | _ + 2 => (by decide +kernel : [(32 : UInt8)].head? ≠ some 10)
theorem join_raw (e : Nat) : ∀ es : List (Nat × Nat), joinL (raw (endB e).toList es) = tl (endB e).toList es
  | [] => join_end e
  | x :: es => by
    rw [raw, join_app (row_head _ _), join_sep, join_app (raw_head (end_head e) es), join_row, join_raw e es]; rfl
theorem tl_end (E F : List UInt8) : ∀ es : List (Nat × Nat), tl (E ++ F) es = tl E es ++ F
  | [] => rfl
  | x :: es => by rw [tl, tl, tl_end E F es, List.append_assoc, List.append_assoc]
theorem strip_mid {q : UInt8 → Bool} {pre m post : List UInt8} (h1 : ∀ c ∈ pre, q c = true) (h2 : ∀ c ∈ post, q c = true) (ha : ∃ a, m.head? = some a ∧ q a = false) (hz : ∃ z, m.getLast? = some z ∧ q z = false) :
    (((pre ++ m ++ post).dropWhile q).reverse.dropWhile q).reverse = m := by
  obtain ⟨a, ha1, ha2⟩ := ha
  obtain ⟨z, hz1, hz2⟩ := hz
  rw [List.append_assoc, List.dropWhile_append_of_pos h1]
  have e1 : (m ++ post).dropWhile q = m ++ post := by
    rcases m with _ | ⟨b, m⟩
    · cases ha1
    · obtain rfl := Option.some.inj ha1
      rw [List.cons_append, List.dropWhile_cons_of_neg (by simp [ha2])]
  rw [e1, List.reverse_append, List.dropWhile_append_of_pos fun c hc => h2 c (List.mem_reverse.mp hc)]
  have e2 : m.reverse.dropWhile q = m.reverse := by
    rw [← List.head?_reverse] at hz1
    generalize m.reverse = l at hz1
    rcases l with _ | ⟨b, l⟩
    · cases hz1
    · obtain rfl := Option.some.inj hz1
      rw [List.dropWhile_cons_of_neg (by simp [hz2])]
  rw [e2, List.reverse_reverse]
noncomputable abbrev whE : UInt8 → Bool := (#[32, 9] : Array UInt8).contains
noncomputable def Lst (l : List UInt8) : Prop := ∃ z, l.getLast? = some z ∧ whE z = false
theorem Lst.app {l r : List UInt8} (h : Lst r) : Lst (l ++ r) := by
  obtain ⟨z, h1, h2⟩ := h
  exact ⟨z, by rw [List.getLast?_append, h1]; rfl, h2⟩
theorem row_lst : ∀ s : Nat, Lst (rowT s).toList
  | 0 => ⟨98, rfl, by decide +kernel⟩ | 1 => ⟨34, rfl, by decide +kernel⟩ | 2 => ⟨34, rfl, by decide +kernel⟩ | 3 => ⟨48, rfl, by decide +kernel⟩ | 4 => ⟨57, rfl, by decide +kernel⟩ | 5 => ⟨34, rfl, by decide +kernel⟩ | 6 => ⟨53, rfl, by decide +kernel⟩ | _ + 7 => ⟨34, rfl, by decide +kernel⟩
theorem word_lst : ∀ s : Nat, Lst (wordL s)
  | 0 => ⟨101, rfl, by decide +kernel⟩ | 1 => ⟨84, rfl, by decide +kernel⟩ | 2 => ⟨97, rfl, by decide +kernel⟩ | _ + 3 => ⟨122, rfl, by decide +kernel⟩
theorem tl_lst {E : List UInt8} (hE : E = [] ∨ E = [59]) : ∀ (es : List (Nat × Nat)) {w : List UInt8}, Lst w → Lst (w ++ tl E es)
  | [], w, h => by
    rcases hE with rfl | rfl
    · rw [tl, List.append_nil]; exact h
    · exact Lst.app ⟨59, rfl, by decide +kernel⟩
  | x :: es, w, h => by
    have := tl_lst hE es (w := w ++ (sepU x.1 ++ (rowT x.2).toList)) (Lst.app (Lst.app (row_lst _)))
    rw [tl]
    simpa only [List.append_assoc] using this
theorem word_head : ∀ (s : Nat) (X : List UInt8), ∃ a, (wordL s ++ X).head? = some a ∧ whE a = false
  | 0, _ => ⟨105, rfl, by decide +kernel⟩ | 1, _ => ⟨65, rfl, by decide +kernel⟩ | 2, _ => ⟨102, rfl, by decide +kernel⟩ | _ + 3, _ => ⟨40, rfl, by decide +kernel⟩
theorem word_cut : ∀ s : Nat, ∃ pre, (wordB s).toList = pre ++ wordL s ∧ ∀ c ∈ pre, whE c = true
  | 0 => ⟨[], rfl, fun c h => by nomatch h⟩ | 1 => ⟨[], rfl, fun c h => by nomatch h⟩ | 2 => ⟨[32], rfl, fun c h => by rw [List.mem_singleton.mp h]; decide +kernel⟩ | _ + 3 => ⟨[], rfl, fun c h => by nomatch h⟩
theorem end_cut : ∀ s : Nat, ∃ E post, (endB s).toList = E ++ post ∧ (E = [] ∨ E = [59]) ∧ ∀ c ∈ post, whE c = true
  | 0 => ⟨[], [], rfl, .inl rfl, fun c h => by nomatch h⟩ | 1 => ⟨[59], [], rfl, .inr rfl, fun c h => by nomatch h⟩ | _ + 2 => ⟨[], [32], rfl, .inl rfl, fun c h => by rw [List.mem_singleton.mp h]; decide +kernel⟩
theorem law_val0 (j e : Nat) (es : List (Nat × Nat)) : valueL (unfoldB (bodyB j es ++ endB e)).toList = some (toldL j, prK (kindsL es)) := by
  obtain ⟨pre, h1, h2⟩ := word_cut j
  obtain ⟨E, post, h3, h4, h5⟩ := end_cut e
  have hj : joinL (bodyB j es ++ endB e).toList = pre ++ (wordL j ++ tl E es) ++ post := by
    rw [Array.toList_append, bodyB, body_raw, join_app (raw_head (end_head e) es), join_word, join_raw, h3, tl_end, h1]
    simp only [List.append_assoc]
  have hs : (unfoldB (bodyB j es ++ endB e)).toList = wordL j ++ tl E es := by
    unfold unfoldB BM.stripB
    dsimp only
    rw [hj]
    exact strip_mid h2 h5 (word_head j _) (tl_lst h4 es (word_lst j))
  rw [hs]
  exact val_tl h4 j es
theorem join_le : ∀ l : List UInt8, (joinL l).length ≤ l.length
  | [] => Nat.le_refl _
  | c :: r => by
    have := join_le r
    rw [joinL]
    split
    · simp; omega
    · split
      · simp; omega
      · simp; omega
theorem drop_le {q : UInt8 → Bool} (l : List UInt8) : (l.dropWhile q).length ≤ l.length := (List.dropWhile_sublist q).length_le
theorem unfold_size (b : Array UInt8) : (unfoldB b).size ≤ b.size := by
  have h1 := join_le b.toList
  unfold unfoldB BM.stripB
  dsimp only
  rw [List.size_toArray, List.length_reverse]
  refine Nat.le_trans (drop_le _) ?_
  rw [List.length_reverse]
  exact Nat.le_trans (drop_le _) h1
end
end PPVAL
end JPVAL
section JPLAW
open PySem PySem.W PyProof.Rows PySem.Calls PyProof.V
section PPLAW
set_option maxRecDepth 100000
theorem law_val {j e : Nat} {es : List (Nat × Nat)} (_hj : j < 4) (_he : e < 3) (_h : EsOk es) : valueL (unfoldB (bodyB j es ++ endB e)).toList = some (toldL j, prK (kindsL es)) := law_val0 j e es
theorem told_oct : ∀ j : Nat, octS (strB (toldL j)) = toldB j
  | 0 => by decide | 1 => by decide | 2 => by decide | _ + 3 => by simp only [toldL, toldB]; decide
theorem told_len : ∀ j : Nat, (toldL j).length ≤ 4000
  | 0 => by decide | 1 => by decide | 2 => by decide | _ + 3 => by simp [toldL]
theorem wrong_size : ∀ r : Nat, (wrongB r).size ≤ 400
  | 0 => by decide | 1 => by decide | 2 => by decide | 3 => by decide | 4 => by decide | 5 => by decide | 6 => by decide | 7 => by decide | _ + 8 => by simp [wrongB]
theorem es_ind {P : List (Nat × Nat) → Prop} (h0 : P []) (hs : ∀ es x, P es → x.2 < 8 → (rowN x.2 ∈ (wdict es).map (·.1) → rowN x.2 = "a") → P (es ++ [x])) {es : List (Nat × Nat)} (h : EsOk es) : P es := by
  have key : ∀ n, P (es.take n) := by
    intro n
    induction n with
    | zero => exact h0
    | succ n ih =>
      cases hx : es[n]? with
      | none =>
        have hl := List.getElem?_eq_none_iff.mp hx
        rw [List.take_of_length_le (by omega)]
        rwa [List.take_of_length_le hl] at ih
      | some x =>
        rw [List.take_add_one, hx]
        obtain ⟨_, b, c⟩ := h n x hx
        exact hs _ x ih b c
  have := key es.length
  rwa [List.take_length] at this
theorem addW_nodup {acc : List (Str × Str)} {r : Nat} (h : (acc.map (·.1)).Nodup) : ((addW acc r).map (·.1)).Nodup := by
  unfold addW
  split
  · exact h
  · rename_i hn
    rw [List.map_append]
    refine List.nodup_append.mpr ⟨h, by simp, ?_⟩
    intro a ha b hb e
    subst e
    rw [List.map_singleton, List.mem_singleton] at hb
    subst hb
    exact hn ha
theorem wdict_nodup (es : List (Nat × Nat)) : ((wdict es).map (·.1)).Nodup := by
  have : ∀ (es : List (Nat × Nat)) (acc : List (Str × Str)), (acc.map (·.1)).Nodup → ((es.foldl (fun acc x => addW acc x.2) acc).map (·.1)).Nodup := by
    intro es
    induction es with
    | nil => exact fun _ h => h
    | cons x es ih => exact fun acc h => ih _ (addW_nodup h)
  exact this es [] .nil
theorem wdict_is (es : List (Nat × Nat)) : ∀ q ∈ wdict es, ∃ r, q = (rowN r, rowW r) := by
  have : ∀ (es : List (Nat × Nat)) (acc : List (Str × Str)), (∀ q ∈ acc, ∃ r, q = (rowN r, rowW r)) → ∀ q ∈ es.foldl (fun acc x => addW acc x.2) acc, ∃ r, q = (rowN r, rowW r) := by
    intro es
    induction es with
    | nil => exact fun _ h => h
    | cons x es ih =>
      refine fun acc h => ih _ fun q hq => ?_
      unfold addW at hq
      dsimp only at hq
      split at hq
      · exact h q hq
      · rcases List.mem_append.mp hq with hq | hq
        · exact h q hq
        · exact ⟨x.2, List.mem_singleton.mp hq⟩
  exact this es [] fun q hq => nomatch hq
noncomputable def cond (ks : List Nat) (k : Nat) : Prop := k < 9 ∧ (k = 3 → 3 ∉ parted1 ks) ∧ (k = 4 → 4 ∉ parted1 ks) ∧ (k = 5 → 5 ∉ parted1 ks ∧ 6 ∉ parted1 ks) ∧ (k = 6 → 6 ∈ parted1 ks)
theorem cond_snoc {ks : List Nat} {k' : Nat} (h : ∀ i k, ks[i]? = some k → cond (ks.take i) k) (hk : cond ks k') : ∀ i k, (ks ++ [k'])[i]? = some k → cond ((ks ++ [k']).take i) k := by
  intro i k hx
  rcases Nat.lt_or_ge i ks.length with hi | hi
  · rw [List.getElem?_append_left hi] at hx
    rw [List.take_append_of_le_length (Nat.le_of_lt hi)]
    exact h i k hx
  · rw [List.getElem?_append_right hi] at hx
    have h0 : i - ks.length = 0 := by
      rcases Nat.eq_zero_or_pos (i - ks.length) with q | q
      · exact q
      · rw [List.getElem?_eq_none (by simp; omega)] at hx; cases hx
    rw [h0] at hx
    cases hx
    have : i = ks.length := by omega
    subst this
    rw [List.take_left]
    exact hk
structure JL (ks : List Nat) (w : List (Str × Str)) : Prop where
  k1 : ∀ i k, ks[i]? = some k → cond (ks.take i) k
  k3 : ∀ b ∈ parted1 ks, b = 3 ∨ b = 4 ∨ b = 5
  pm : (plainW ks).Perm w
theorem plain_snoc (ks : List Nat) (k : Nat) : plain1 (ks ++ [k]) = addP (plain1 ks) k := by unfold plain1; rw [List.foldl_append]; rfl
theorem parted_snoc (ks : List Nat) (k : Nat) : parted1 (ks ++ [k]) = addQ (parted1 ks) k := by unfold parted1; rw [List.foldl_append]; rfl
section
variable {ks : List Nat} {w : List (Str × Str)}
theorem JL.name (h : JL ks w) {n : Str} : n ∈ w.map (·.1) ↔ n ∈ (plain1 ks).map (·.1) ∨ ∃ b ∈ parted1 ks, n = bnS b := by
  rw [← (h.pm.map (·.1)).mem_iff, plainW, List.map_append, List.mem_append, List.map_map]
  refine or_congr Iff.rfl ?_
  rw [List.mem_map]
  exact ⟨fun ⟨b, h1, h2⟩ => ⟨b, h1, h2.symm⟩, fun ⟨b, h1, h2⟩ => ⟨b, h1, h2.symm⟩⟩
theorem JL.plain (h : JL ks w) (k r : Nat) (h9 : k < 9) (hp : isPl k = true) (hq : ∀ acc, addQ acc k = acc) (e1 : nmS k = rowN r) (e2 : wtS k = rowW r) (e3 : rowN r ≠ "c" ∧ rowN r ≠ "l" ∧ rowN r ≠ "p") (e4 : k ≠ 3 ∧ k ≠ 4 ∧ k ≠ 5 ∧ k ≠ 6) : JL (ks ++ [k]) (addW w r) := by
  refine ⟨cond_snoc h.k1 ⟨h9, fun e => absurd e e4.1, fun e => absurd e e4.2.1, fun e => absurd e e4.2.2.1, fun e => absurd e e4.2.2.2⟩, by rw [parted_snoc, hq]; exact h.k3, ?_⟩
  have hnm : rowN r ∈ w.map (·.1) ↔ rowN r ∈ (plain1 ks).map (·.1) := by
    rw [h.name]
    refine ⟨fun q => q.elim id fun ⟨b, hb, e⟩ => ?_, .inl⟩
    rcases h.k3 b hb with rfl | rfl | rfl
    · exact absurd e e3.1
    · exact absurd e e3.2.1
    · exact absurd e e3.2.2
  unfold plainW
  rw [plain_snoc, parted_snoc, hq]
  unfold addP addW
  rw [if_pos hp, e1, e2]
  by_cases hm : rowN r ∈ w.map (·.1)
  · rw [if_pos hm, if_pos (hnm.mp hm)]; exact h.pm
  · rw [if_neg hm, if_neg fun q => hm (hnm.mpr q), List.append_assoc]
    refine (List.Perm.append_left _ List.perm_append_comm).trans ?_
    rw [← List.append_assoc]
    exact h.pm.append_right _
theorem JL.part (h : JL ks w) (k r : Nat) (hk : k = 3 ∨ k = 4) (e1 : bnS k = rowN r) (e2 : jtS k = rowW r) (hn : rowN r ∉ w.map (·.1)) : JL (ks ++ [k]) (addW w r) := by
  have hno : k ∉ parted1 ks := fun q => hn (h.name.mpr (.inr ⟨k, q, e1.symm⟩))
  have hp : isPl k = false := by rcases hk with rfl | rfl <;> rfl
  have hq : addQ (parted1 ks) k = parted1 ks ++ [k] := by rcases hk with rfl | rfl <;> rfl
  refine ⟨cond_snoc h.k1 ?_, ?_, ?_⟩
  · rcases hk with rfl | rfl
    · exact ⟨by decide, fun _ => hno, fun e => absurd e (by decide), fun e => absurd e (by decide), fun e => absurd e (by decide)⟩
    · exact ⟨by decide, fun e => absurd e (by decide), fun _ => hno, fun e => absurd e (by decide), fun e => absurd e (by decide)⟩
  · rw [parted_snoc, hq]
    intro b hb
    rcases List.mem_append.mp hb with hb | hb
    · exact h.k3 b hb
    · rw [List.mem_singleton.mp hb]; rcases hk with rfl | rfl <;> simp
  · unfold plainW
    rw [plain_snoc, parted_snoc, hq]
    unfold addP addW
    rw [if_neg (by simp [hp]), if_neg hn, List.map_append, ← List.append_assoc, List.map_singleton, e1, e2]
    exact h.pm.append_right _
theorem JL.pair (h : JL ks w) (hn : rowN 5 ∉ w.map (·.1)) : JL (ks ++ [5, 6]) (addW w 5) := by
  have hno : 5 ∉ parted1 ks := fun q => hn (h.name.mpr (.inr ⟨5, q, rfl⟩))
  have h6 : 6 ∉ parted1 ks := fun q => by rcases h.k3 6 q with e | e | e <;> cases e
  have hm : (parted1 ks).map (fun b => if b = 6 then 5 else b) = parted1 ks := by
    conv => rhs; rw [← List.map_id (parted1 ks)]
    refine List.map_congr_left fun b hb => ?_
    have e : ¬ b = 6 := fun e => h6 (e ▸ hb)
    simp [e]
  have hp : parted1 (ks ++ [5] ++ [6]) = parted1 ks ++ [5] := by
    rw [parted_snoc, parted_snoc]
    show (parted1 ks ++ [6]).map (fun b => if b = 6 then 5 else b) = _
    rw [List.map_append, hm]; rfl
  have hl : plain1 (ks ++ [5] ++ [6]) = plain1 ks := by rw [plain_snoc, plain_snoc]; rfl
  rw [show ks ++ [5, 6] = ks ++ [5] ++ [6] by simp]
  refine ⟨cond_snoc (cond_snoc h.k1 ⟨by decide, fun e => absurd e (by decide), fun e => absurd e (by decide), fun _ => ⟨hno, h6⟩, fun e => absurd e (by decide)⟩) ⟨by decide, fun e => absurd e (by decide), fun e => absurd e (by decide), fun e => absurd e (by decide), fun _ => ?_⟩, ?_, ?_⟩
  · rw [parted_snoc]
    exact List.mem_append_right _ (.head _)
  · rw [hp]
    intro b hb
    rcases List.mem_append.mp hb with hb | hb
    · exact h.k3 b hb
    · rw [List.mem_singleton.mp hb]; simp
  · unfold plainW
    rw [hl, hp]
    unfold addW
    rw [if_neg hn, List.map_append, ← List.append_assoc]
    exact h.pm.append_right _
end
theorem kinds_snoc (es : List (Nat × Nat)) (x : Nat × Nat) : kindsL (es ++ [x]) = kindsL es ++ kindsR x.2 := by simp [kindsL]
theorem law_j {es : List (Nat × Nat)} (h : EsOk es) : JL (kindsL es) (wdict es) := by
  refine es_ind (P := fun es => JL (kindsL es) (wdict es)) ⟨fun i k e => by simp [kindsL] at e, fun b hb => (by simp [kindsL, parted1] at hb), .nil⟩ (fun es x ih hx hn => ?_) h
  rw [kinds_snoc, wdict_snoc]
  obtain ⟨s, r⟩ := x
  dsimp only at hx hn ⊢
  have hna : rowN r ≠ "a" → rowN r ∉ (wdict es).map (·.1) := fun ha hm => ha (hn hm)
  rcases r with _ | _ | _ | _ | _ | _ | _ | _ | r
  · exact ih.plain 0 0 (by decide) rfl (fun _ => rfl) rfl (by decide +kernel) (by decide +kernel) (by decide)
  · exact ih.plain 1 1 (by decide) rfl (fun _ => rfl) rfl (by decide +kernel) (by decide +kernel) (by decide)
  · exact ih.plain 2 2 (by decide) rfl (fun _ => rfl) rfl (by decide +kernel) (by decide +kernel) (by decide)
  · exact ih.part 3 3 (.inl rfl) rfl (by decide +kernel) (hna (by decide +kernel))
  · exact ih.part 4 4 (.inr rfl) rfl (by decide +kernel) (hna (by decide +kernel))
  · exact ih.pair (hna (by decide +kernel))
  · exact ih.plain 7 6 (by decide) rfl (fun _ => rfl) rfl (by decide +kernel) (by decide +kernel) (by decide)
  · exact ih.plain 8 7 (by decide) rfl (fun _ => rfl) rfl (by decide +kernel) (by decide +kernel) (by decide)
  · exact absurd hx (by omega)
theorem law_kok {es : List (Nat × Nat)} (h : EsOk es) : KOk (kindsL es) :=
  ⟨(law_j h).k1, fun q => by rcases (law_j h).k3 6 q with e | e | e <;> cases e⟩
theorem law_perm {es : List (Nat × Nat)} (h : EsOk es) : (plainW (kindsL es)).Perm (wdict es) := (law_j h).pm
theorem look_mem : ∀ {ws : List (Str × Str)}, (ws.map (·.1)).Nodup → ∀ {z y : Str}, (z, y) ∈ ws → lookS ws z = y
  | [], _, _, _, h => nomatch h
  | q :: ws, hn, z, y, h => by
    rw [List.map_cons, List.nodup_cons] at hn
    unfold lookS
    rcases List.mem_cons.mp h with h | h
    · subst h; simp
    · have hne : q.1 ≠ z := fun e => hn.1 (e ▸ List.mem_map.mpr ⟨_, h, rfl⟩)
      rw [List.find?_cons_of_neg (by simpa using hne)]
      exact look_mem hn.2 h
theorem look_perm {ws ws' : List (Str × Str)} (h : ws.Perm ws') (hn : (ws'.map (·.1)).Nodup) {z : Str} (hz : z ∈ ws'.map (·.1)) : lookS ws z = lookS ws' z := by
  obtain ⟨q, hq, rfl⟩ := List.mem_map.mp hz
  rw [look_mem hn (y := q.2) hq, look_mem ((h.map (·.1)).nodup_iff.mpr hn) (y := q.2) (h.mem_iff.mpr hq)]
theorem rise_pw : ∀ (l : List Str) (p : Str), risingS p l = true → (p :: l).Pairwise (fun a b => a.cps.toList ≤ b.cps.toList)
  | [], p, _ => List.pairwise_singleton _ _
  | x :: l, p, h => by
    unfold risingS at h
    rw [Bool.and_eq_true, ltCps_eq] at h
    have h1 : p.cps.toList ≤ x.cps.toList := by
      have := h.1
      simpa using this
    have h2 := rise_pw l x h.2
    refine List.pairwise_cons.mpr ⟨fun y hy => ?_, h2⟩
    rcases List.mem_cons.mp hy with rfl | hy
    · exact h1
    · exact List.le_trans h1 ((List.pairwise_cons.mp h2).1 y hy)
theorem sorted_pw : ∀ {l : List Str}, sortedS l = true → l.Pairwise (fun a b => a.cps.toList ≤ b.cps.toList)
  | [], _ => .nil
  | x :: l, h => rise_pw l x h
theorem sorted_same {a b : List Str} (hp : a.Perm b) (ha : sortedS a = true) (hb : sortedS b = true) : a = b :=
  hp.eq_of_pairwise (fun x y _ _ h1 h2 => by
    have e := List.le_antisymm h1 h2
    cases x; cases y
    exact congrArg Str.mk (Array.toList_inj.mp e)) (sorted_pw ha) (sorted_pw hb)
theorem law_flat {es : List (Nat × Nat)} (h : EsOk es) {ns ns' : List Str} (h1 : ns.Perm ((wdict es).map (·.1))) (h2 : sortedS ns = true) (h3 : ns'.Perm ((plainW (kindsL es)).map (·.1))) (h4 : sortedS ns' = true) : flatW (plainW (kindsL es)) ns' = flatW (wdict es) ns := by
  have hp := law_perm h
  obtain rfl := sorted_same (h3.trans ((hp.map (·.1)).trans h1.symm)) h4 h2
  unfold flatW
  rw [List.flatMap_def, List.flatMap_def]
  congr 1
  exact List.map_congr_left fun z hz => by rw [look_perm hp (wdict_nodup es) (h1.mem_iff.mp hz)]
theorem row_ok : ∀ r : Nat, (rowN r).cps.size ≤ 4000 ∧ (∀ c ∈ (rowN r).cps.toList, c < 256) ∧ (rowW r).cps.size ≤ 4000 ∧ ∀ c ∈ (rowW r).cps.toList, c < 128 ∨ c = 233
  | 0 => by decide +kernel | 1 => by decide +kernel | 2 => by decide +kernel | 3 => by decide +kernel | 4 => by decide +kernel | 5 => by decide +kernel | 6 => by decide +kernel
  | _ + 7 => (by decide +kernel : ("filename" : Str).cps.size ≤ 4000 ∧ (∀ c ∈ ("filename" : Str).cps.toList, c < 256) ∧ ("" : Str).cps.size ≤ 4000 ∧ ∀ c ∈ ("" : Str).cps.toList, c < 128 ∨ c = 233)
theorem law_wok {es : List (Nat × Nat)} (h : EsOk es) (hl : es.length ≤ 5) : WOk (plainW (kindsL es)) := by
  have hp := law_perm h
  have h2 : (wdict es).length ≤ 0 + es.length := wdict_len es []
  refine ⟨by rw [hp.length_eq]; omega, fun q hq => ?_⟩
  obtain ⟨r, rfl⟩ := wdict_is es q (hp.mem_iff.mp hq)
  exact row_ok r
theorem law_rnil {es : List (Nat × Nat)} (h : EsOk es) {rvs : List Value} {zs : List Str} (hr : BM.BysAre rvs (flatW (wdict es) zs)) (hz : zs.Perm ((wdict es).map (·.1))) (hw : plainW (kindsL es) = []) : decide (rvs = []) = true := by
  have h1 := hr.length
  have h2 := (law_perm h).length_eq
  have h3 := hz.length_eq
  rw [flat_len] at h1
  rw [hw] at h2
  rw [List.length_map, ← h2] at h3
  rw [h3] at h1
  exact decide_eq_true (List.eq_nil_of_length_eq_zero h1)
theorem law_rcons {es : List (Nat × Nat)} (h : EsOk es) {rvs : List Value} {zs : List Str} (hr : BM.BysAre rvs (flatW (wdict es) zs)) (hz : zs.Perm ((wdict es).map (·.1))) (hw : plainW (kindsL es) ≠ []) : decide (rvs = []) = false := by
  have h1 := hr.length
  have h2 := (law_perm h).length_eq
  have h3 := hz.length_eq
  rw [flat_len] at h1
  rw [List.length_map, ← h2] at h3
  refine decide_eq_false fun e => hw (List.eq_nil_of_length_eq_zero ?_)
  rw [e] at h1
  simp only [List.length_nil] at h1
  omega
/-- pairs tell their kinds but for the numbers above eight, which mean the same -/
noncomputable abbrev cap (k : Nat) : Nat := min k 8
theorem kind_inj : ∀ a b : Nat, a < 9 → b < 9 → (nmB a, (wtB a).toList) = (nmB b, (wtB b).toList) → a = b := by
  have key : ∀ a : Fin 9, ∀ b : Fin 9, (nmB a.1, (wtB a.1).toList) = (nmB b.1, (wtB b.1).toList) → a = b := by decide +kernel
  intro a b ha hb e
  exact congrArg Fin.val (key ⟨a, ha⟩ ⟨b, hb⟩ e)
theorem cap_kind (k : Nat) : (nmB k, (wtB k).toList) = (nmB (cap k), (wtB (cap k)).toList) := by
  rcases Nat.lt_or_ge k 9 with h | h
  · rw [show cap k = k by unfold cap; omega]
  · obtain ⟨m, rfl⟩ : ∃ m, k = m + 8 := ⟨k - 8, by omega⟩
    rw [show cap (m + 8) = 8 by unfold cap; omega]; rfl
theorem prK_cap : ∀ {ks ks' : List Nat}, prK ks = prK ks' → ks.map cap = ks'.map cap
  | [], [], _ => rfl
  | [], _ :: _, e => nomatch e
  | _ :: _, [], e => nomatch e
  | k :: ks, k' :: ks', e => by
    obtain ⟨e1, e2⟩ := List.cons.inj e
    rw [List.map_cons, List.map_cons, prK_cap e2]
    have e1 : (nmB k, (wtB k).toList) = (nmB k', (wtB k').toList) := e1
    rw [cap_kind k, cap_kind k'] at e1
    rw [kind_inj _ _ (by unfold cap; omega) (by unfold cap; omega) e1]
theorem addP_cap (acc : List (Str × Str)) (k : Nat) : addP acc (cap k) = addP acc k := by
  rcases Nat.lt_or_ge k 9 with h | h
  · rw [show cap k = k by unfold cap; omega]
  · obtain ⟨m, rfl⟩ : ∃ m, k = m + 9 := ⟨k - 9, by omega⟩
    rw [show cap (m + 9) = 8 by unfold cap; omega]
    unfold addP
    rw [show isPl (m + 9) = true by simp [isPl]]; rfl
theorem addQ_cap (acc : List Nat) (k : Nat) : addQ acc (cap k) = addQ acc k := by
  rcases Nat.lt_or_ge k 9 with h | h
  · rw [show cap k = k by unfold cap; omega]
  · obtain ⟨m, rfl⟩ : ∃ m, k = m + 9 := ⟨k - 9, by omega⟩
    rw [show cap (m + 9) = 8 by unfold cap; omega]; rfl
theorem plainW_cap (ks : List Nat) : plainW (ks.map cap) = plainW ks := by
  unfold plainW plain1 parted1
  rw [List.foldl_map, List.foldl_map]
  simp only [addP_cap, addQ_cap]
theorem prK_plain {ks ks' : List Nat} (e : prK ks = prK ks') : plainW ks = plainW ks' := by
  rw [← plainW_cap ks, prK_cap e, plainW_cap]
end PPLAW
end JPLAW
section JC32
open PySem PySem.W PyProof.Rows PySem.Calls PyProof.V
section PC32
variable {prog : Program} {w : World} {p : Program} {loose : List Str} {mean : ExcName → Option Value} {mg mb : Str → Option Value}
set_option maxRecDepth 100000
set_option maxHeartbeats 4000000
noncomputable def LawQ (h₀ : Heap) (gens : Array GenState) (os : OsState) (f : Flow) (s' : Shared) : Prop := f = .ret (.bool true) ∧ s'.gens = gens ∧ s'.os = os ∧ ∃ L m, Fr h₀ L s'.heap m
theorem law_end {h₀ h₁ : Heap} {L fa P C R : Addr} {cd : Value} {gens : Array GenState} {drawn : Drawn} {tk0 : Nat} {os : OsState} {vs rvs : List Value} {ns : List Int} {u : Str → Option Value} {bb : Array UInt8} {tb tt t k k2 rn j e : Nat} {a : Int} {es : List (Nat × Nat)} {zs : List Str}
    (K0 : Below callerA h₀ [] h₀) (X : (kf w.params).In h₀) (T : Top p loose mean mg mb h₀) (F : Fr h₀ L h₁ (fun y => if y = Str.ofString "tape" then some (.ref P) else if y = Str.ofString "told" then some (.bytes (toldB j) tt) else if y = Str.ofString "row" then some (.ref R) else if y = Str.ofString "body" then some (.bytes bb tb) else u y))
    (N : News h₀ L h₁ [(P, tapeO C a t k), (C, listOf vs.toArray k2), (R, listOf rvs.toArray rn)]) (hI : IntsAre vs ns) (hn0 : 0 < ns.length) (hn1 : ns.length ≤ 40) (ha0 : 0 ≤ a) (ha1 : a ≤ 50)
    (hj : j < 4) (he : e < 3) (hes : EsOk es) (hel : es.length ≤ 5) (hb : bb = bodyB j es ++ endB e) (hr : BM.BysAre rvs (flatW (wdict es) zs)) (hz1 : zs.Perm ((wdict es).map (·.1))) (hz2 : sortedS zs = true)
    (hRP : @Ne Nat R P) (hRC : @Ne Nat R C) :
    wpAny (model prog w) (callerA.deeper (envOf (Str.ofString "law") (lawF w).s L fa cd)) (execs ((lawF w).b.drop 8) (envOf (Str.ofString "law") (lawF w).s L fa cd)) (LawQ h₀ gens os) (fun _ _ => False) ⟨h₁, gens, drawn, tk0, os⟩ := by
  unfold lawF mkLawF
  dsimp only [List.drop]
  refine law_let ?_
  intro eE aA
  (try k_fold)
  have hmk7 : StopAt 7 := .here
  have hd : callerA.depth + 60 < recursionLimit := by decide
  have hu : callerA.units + 10 * 60 < cLine := by decide
  k_steps
  unfold StopHere
  rename_i f1 d1 _ tf1 q1 q2 r1 r2 lf1 _ f2 d2 _ tf2 q3 q4 r3 r4 lf2 lg2 lb _ lbl _ F9 N9
  obtain ⟨f3, hf3⟩ : ∃ f3, f3 = xf' := ⟨_, rfl⟩
  subst hf3
  have hfe : @Ne Nat f1 f2 := Nat.ne_of_lt (Nat.lt_trans lg2.1 lf2)
  have hdd : @Ne Nat d1 d2 := Nat.ne_of_lt lg2.2.1
  have hbs : bb.size ≤ 400 := by
    have h1 := body_size2 j es
    have h2 := endB_size e
    rw [hb, Array.size_append]; omega
  have hub : (unfoldB bb).size ≤ 4000 := Nat.le_trans (unfold_size bb) (by omega)
  have hval := law_val hj he hes
  rw [← hb] at hval
  have hk9 : ∀ x ps, valueL (unfoldB bb).toList = some (x, ps) → ∃ ks, ps = prK ks ∧ KOk ks := fun x ps q => by
    rw [hval] at q; cases q; exact ⟨_, rfl, law_kok hes⟩
  have hx9 : ∀ x ps, valueL (unfoldB bb).toList = some (x, ps) → x.length ≤ 4000 := fun x ps q => by
    rw [hval] at q; cases q; exact told_len j
  have hw9 : ∀ x ks, valueL (unfoldB bb).toList = some (x, prK ks) → WOk (plainW ks) := fun x ks q => by
    rw [hval] at q
    have e := (Prod.mk.inj (Option.some.inj q)).2
    rw [← prK_plain e]
    exact law_wok hes hel
  refine same_cut false F9 N9 ?_ ?_
  rotate_left
  · intro h9 tk9 F8 N8
    clear F9 N9
    clear hmk7
    (try dsimp only)
    k_steps
    unfold StopHere
    rename Fr _ _ _ _ => F7
    rename News _ _ _ _ => N7
    refine' SpecT.callR (disp_miss_spec _ f1 d1 0 q1 q2 r1 r2 tk0 (tk0 + 1) #[83, 117, 98, 106, 101, 99, 116] #[32, 105, 110, 108, 105, 110, 101] (by decide) (by decide)) K0 F7 X N7 T X T rfl rfl rfl rfl ?hd ?hu ?P ?_
    case P => ktr_unf
    case hd => first | exact room_d (j := 1) hd (by decide) | exact room_d (j := 2) hd (by decide)
    case hu => first | exact room_u (j := 1) hu (by decide) | exact room_u (j := 2) hu (by decide) | exact room_u (j := 3) hu (by decide)
    rintro v new h' tk' ⟨rfl, rfl⟩ F' N' -
    clear F7 N7
    have N6 := news_mono (l' := [(lb, listOf #[.ref f1, .ref f2, .ref f3] 0), (P, tapeO C a t k), (C, listOf vs.toArray k2)]) N' (List.forall_mem_cons.mpr ⟨by k_mem, List.forall_mem_cons.mpr ⟨by k_mem, List.forall_mem_singleton.mpr (by k_mem)⟩⟩)
    have hlP : @Ne Nat lb P := by omega
    have hlC : @Ne Nat lb C := by omega
    clear N' lbl lg2
    (try dsimp only)
    k_steps
    unfold StopHere
    rename_i D9 _ F5 N5 _
    have hwn := wrong_none (r := rd'.toNat)
    have hwz : (wrongB rd'.toNat).size ≤ 400 := wrong_size _
    refine' SpecT.callR (disp2_spec D9 _ (wrongB rd'.toNat) (fun tw => first_hit_spec D9 xf' df' [.ref f1, .ref f2, .ref f3] 0 h1' h2' k1' k2' tk t1' #[67, 111, 110, 116, 101, 110, 116, 45, 68, 105, 115, 112, 111, 115, 105, 116, 105, 111, 110] (wrongB rd'.toNat) tw (by decide) (by omega) (by decide)) (Nat.le_trans (unfold_size _) (by omega)) (fun x ps q => by rw [hwn] at q; cases q) (fun x ps q => by rw [hwn] at q; cases q) (fun x ps q => by rw [hwn] at q; cases q)) K0 F5 X N5 T X T rfl rfl rfl rfl ?hd ?hu ?P ?_
    case P => ktr_unf
    case hd => first | exact room_d (j := 1) hd (by decide) | exact room_d (j := 2) hd (by decide)
    case hu => first | exact room_u (j := 1) hu (by decide) | exact room_u (j := 2) hu (by decide) | exact room_u (j := 3) hu (by decide)
    rintro v new h' tk' hP F' N' -
    clear F5 N5
    rcases hP with ⟨-, rfl, rfl⟩ | ⟨x, ks, P2, t5, n5, V, O, h1, rfl, rfl, h4⟩
    · (try dsimp only [List.nil_append] at N')
      k_steps
      exact ⟨rfl, rfl, rfl, _, _, by k_asm⟩
    · rw [hwn] at h1; cases h1
  clear hmk7
  k_steps
  unfold StopHere
  refine' SpecT.callR (disp2_spec lb _ bb (fun tw => first_two_spec lb f1 d1 f2 d2 (.ref f3) 0 q1 q2 q3 q4 r1 r2 r3 r4 tk0 (tk0 + 1) tf1 tb #[83, 117, 98, 106, 101, 99, 116] #[32, 105, 110, 108, 105, 110, 101] #[99, 111, 110, 116, 101, 110, 116, 45, 68, 73, 83, 80, 79, 83, 73, 84, 73, 79, 78] bb tw hfe hdd ?z1 ?z2 ?z3 ?z4 ?z5) hub hk9 hx9 hw9) K0 F9 X N9 T X T rfl rfl rfl rfl ?hd ?hu ?P ?_
  case P => ktr_unf
  case z1 => decide
  case z2 => decide
  case z3 => omega
  case z4 => decide
  case z5 => decide
  case hd => first | exact room_d (j := 1) hd (by decide) | exact room_d (j := 2) hd (by decide)
  case hu => first | exact room_u (j := 1) hu (by decide) | exact room_u (j := 2) hu (by decide) | exact room_u (j := 3) hu (by decide)
  rintro v new h' tk' hP F' N' hap
  clear F9 N9
  have hRo := hap
  rcases hP with ⟨h1, -, -⟩ | ⟨x, ks, P2, t5, n5, V, O, h1, rfl, rfl, h4⟩
  · rw [hval] at h1; cases h1
  rw [hval] at h1
  obtain ⟨rfl, hks⟩ := Prod.mk.inj (Option.some.inj h1)
  rw [← prK_plain hks] at h4
  rw [told_oct] at N'
  rcases h4 with ⟨hw0, rfl, rfl⟩ | ⟨hw1, P3, vs3, n3, ns3, rfl, rfl, hb3, hp3, hs3⟩
  · have hrv : decide (rvs = []) = true := law_rnil hes hr hz1 hw0
    (try dsimp only [List.cons_append, List.nil_append] at N')
    k_steps
    rename News _ _ _ _ => N6
    exact ⟨_, _, rfl, by k_asm, news_mono N6 fun q hq => .tail _ (.tail _ (.tail _ hq))⟩
  · have hrv : decide (rvs = []) = false := law_rcons hes hr hz1 hw1
    rw [law_flat hes hz1 hz2 hp3 hs3] at hb3
    have hPR : @Ne Nat P3 R := hap (P3, _) (.tail _ (.head _)) (R, _) (by k_mem) (List.forall_mem_cons.mpr ⟨by dsimp only; omega, List.forall_mem_cons.mpr ⟨by dsimp only; omega, List.forall_mem_cons.mpr ⟨by dsimp only; omega, List.forall_mem_cons.mpr ⟨by dsimp only; omega, List.forall_mem_singleton.mpr (by dsimp only; omega)⟩⟩⟩⟩)
    (try dsimp only [List.cons_append, List.nil_append] at N')
    k_steps
    rename News _ _ _ _ => N6
    exact ⟨_, _, rfl, by k_asm, news_mono N6 fun q hq => .tail _ (.tail _ (.tail _ (.tail _ hq)))⟩
end PC32
end JC32
section JC33
open PySem PySem.W PyProof.Rows PySem.Calls PyProof.V
section PC33
variable {prog : Program} {w : World} {p : Program} {loose : List Str} {mean : ExcName → Option Value} {mg mb : Str → Option Value}
set_option maxRecDepth 100000
set_option maxHeartbeats 4000000
structure RL where
  R : Nat
  vs : List Value
structure RF (P C : Nat) (es : List (Nat × Nat)) (ns : List Str) (i : Nat) (c : RL) : Prop where
  b : BM.BysAre c.vs (flatW (wdict es) (ns.take i))
  p : @Ne Nat c.R P
  c : @Ne Nat c.R C
theorem not_lt9 {a b : Nat} (e : a = b) : ¬ b < a := by omega
theorem snoc2 {vs : List Value} {bs : List (Array UInt8)} {a b : Array UInt8} {t u : Tok} (h : BM.BysAre vs bs) : BM.BysAre (vs ++ [.bytes a t, .bytes b u]) (bs ++ [a] ++ [b]) := by
  have h9 := (h.snoc a t).snoc b u
  rw [List.append_assoc] at h9
  exact h9
theorem nm_row : ∀ r : Nat, IsNm (rowN r)
  | 0 | 1 => .inl rfl | 2 => .inr (.inl rfl) | 3 => .inr (.inr (.inl rfl)) | 4 => .inr (.inr (.inr (.inl rfl))) | 5 => .inr (.inr (.inr (.inr (.inl rfl)))) | 6 => .inr (.inr (.inr (.inr (.inr (.inl rfl))))) | _ + 7 => .inr (.inr (.inr (.inr (.inr (.inr rfl)))))
theorem wt_row : ∀ r : Nat, IsWt (rowW r)
  | 0 => .inl rfl | 1 => .inr (.inl rfl) | 2 => .inr (.inr (.inl rfl)) | 3 => .inr (.inr (.inr (.inl rfl))) | 4 => .inr (.inr (.inr (.inr (.inl rfl)))) | 5 => .inr (.inr (.inr (.inr (.inr (.inl rfl))))) | 6 => .inr (.inr (.inr (.inr (.inr (.inr (.inl rfl)))))) | _ + 7 => .inr (.inr (.inr (.inr (.inr (.inr (.inr rfl))))))
theorem isnm_in {es : List (Nat × Nat)} {z y : Str} (h : (z, y) ∈ wdict es) : IsNm z ∧ IsWt y := by
  obtain ⟨r, e⟩ := wdict_is es _ h
  cases e
  exact ⟨nm_row r, wt_row r⟩
theorem add_two {A : Around} {E : Value → Shared → Prop} {s : Shared} {Q : Value → Shared → Prop} {h₀ : Heap} {L a b : Addr} {m : Str → Option Value} {news : List (Addr × Obj)} {vs ws : List Value} (F : Fr h₀ L s.heap m) (N : News h₀ L s.heap news) (ha : s.heap.IsList a vs.toArray) (hb : s.heap.IsList b ws.toArray) (hz : vs.length ≤ 200) (hw : ws.length ≤ 200)
    (h : ∀ D h', Fr h₀ L h' m → News h₀ L h' ((D, listOf (vs ++ ws).toArray 0) :: news) → (∀ p ∈ news, p.1 < D) → Q (.ref D) { s with heap := h' }) : wpAny (model prog w) A (binaryOp .Add (.ref a) (.ref b)) Q E s :=
  add_lists F N ha hb (fun h' F' N' => h _ h' F' N' fun p hp => Heap.lt_size (N p hp).1) (by rw [sizeLine_eq]; omega)
theorem wd_C33_0 : True := by
  k_with "binaryOp Add ref ref" => (k_here; k_dflt (refine' add_two ?F ?N ?a ?b ?z ?w ?_; (case F => k_asm); (case N => k_asm); (case a => exact News.isList (by k_asm) (by k_mem)); (case b => exact News.isList (by k_asm) (by k_mem)); (case z => assumption); (case w => exact of_decide_eq_true rfl)); (intro D' h' F' N' l1'; (try k_sweep)))
  trivial
theorem m_encode {M : Model} {A : Around} {E : Value → Shared → Prop} {s : Shared} {pl : Sem Bool} {x : Str} {t : Tok} {Q : Value × List Value → Shared → Prop} (h : Q (.builtin "str.encode", [.str x t]) s) : wpAny M A (getMethod (.str x t) "encode" pl) Q E s := by
  with_reducible exact getMethod_builtin (typeIs_str _ _ _) F.plainAttrs_str F.slot_str_encode F.type_str_encode (fun _ e => nomatch e) h
theorem wd_C33_1 : True := by
  k_with "getMethod str" => (k_here; (show wpAny _ _ (getMethod (Value.str _ _) "encode" _) _ _ _); refine m_encode ?_)
  k_with "call builtin:str.encode" => (k_here; k_dflt (first | (refine' encode_a ?x ?_; (case x => assumption)) | (refine' encode_u ?x ?_; (case x => assumption))); (intro _ _; (try dsimp only)))
  trivial
theorem law_mid {h₀ h₁ : Heap} {L fa P C Dw : Addr} {cd : Value} {gens : Array GenState} {drawn : Drawn} {tk0 : Nat} {os : OsState} {vs : List Value} {ns : List Int} {u : Str → Option Value} {b : Array UInt8} {tb tw t k k2 j : Nat} {a : Int} {es : List (Nat × Nat)} {o : Obj} {kvs : List (Str × Value)}
    (K0 : Below callerA h₀ [] h₀) (X : (kf w.params).In h₀) (T : Top p loose mean mg mb h₀) (F : Fr h₀ L h₁ (fun y => if y = Str.ofString "tape" then some (.ref P) else if y = Str.ofString "word" then some (.bytes (wordB j) tw) else if y = Str.ofString "worths" then some (.ref Dw) else if y = Str.ofString "body" then some (.bytes b tb) else u y))
    (N : News h₀ L h₁ [(P, tapeO C a t k), (C, listOf vs.toArray k2), (Dw, o)]) (hI : IntsAre vs ns) (hn0 : 0 < ns.length) (hn1 : ns.length ≤ 40) (ha0 : 0 ≤ a) (ha1 : a ≤ 20)
    (hj : j < 4) (hes : EsOk es) (hel : es.length ≤ 5) (hb : b = bodyB j es) (ho : o.IsDictOf (PySem.strKind prog w) kvs) (lo9 : (Dw == sysModules) = false) (hk : KvAre kvs (wdict es)) (hDP : @Ne Nat Dw P) (hDC : @Ne Nat Dw C) :
    wpAny (model prog w) (callerA.deeper (envOf (Str.ofString "law") (lawF w).s L fa cd)) (execs ((lawF w).b.drop 4) (envOf (Str.ofString "law") (lawF w).s L fa cd)) (LawQ h₀ gens os) (fun _ _ => False) ⟨h₁, gens, drawn, tk0, os⟩ := by
  unfold lawF mkLawF
  dsimp only [List.drop]
  refine law_let ?_
  intro eE aA
  (try k_fold)
  have hd : callerA.depth + 60 < recursionLimit := by decide
  have hu : callerA.units + 10 * 60 < cLine := by decide
  have hbz : b.size ≤ 400 := by
    have := body_size2 j es
    rw [hb]; omega
  have hmk3 : StopAt 3 := .here
  have hkz : kvs.length < 64 := by
    have h1 := kv_len2 hk
    have h2 : (wdict es).length ≤ 0 + es.length := wdict_len es []
    omega
  k_steps
  unfold StopHere
  rename Fr _ _ _ _ => F9
  rename News _ _ _ _ => N9
  rename_i tt _ _ R _ lR _
  have hRP : @Ne Nat R P := fun e => absurd lR.2.1 (e ▸ Nat.lt_irrefl _)
  have hRC : @Ne Nat R C := fun e => absurd lR.2.2.1 (e ▸ Nat.lt_irrefl _)
  have N8 := news_mono (l' := [(R, listOf #[] 0), (P, tapeO C (a + 1) td' kd'), (C, listOf vs.toArray k2), (Dw, o)]) N9 (List.forall_mem_cons.mpr ⟨by k_mem, List.forall_mem_cons.mpr ⟨by k_mem, List.forall_mem_cons.mpr ⟨by k_mem, List.forall_mem_singleton.mpr (by k_mem)⟩⟩⟩)
  clear N9 lR
  refine For_turns F9 ?_
  k_whole
  k_steps
  unfold StopHere
  rename Fr _ _ _ _ => F8
  rename News _ _ _ _ => N7
  rw [hk.keys] at hp'
  refine' for_list3 (σ := RL) (n := ns'.length) (fun c => [(c.R, listOf c.vs.toArray 0), (P, tapeO C (a + 1) td' kd'), (C, listOf vs.toArray k2), (Dw, o)]) (fun c => [("row", .ref c.R)]) (fun i c => RF P C es ns' i c) ["name"] ⟨R, []⟩ F8 N7 rfl rfl hS'.length rfl ?hc ⟨.nil, hRP, hRC⟩ (List.forall_mem_singleton.mpr rfl) ?turn ?done
  case hc => exact fun i c _ => List.forall_mem_cons.mpr ⟨by simp, List.forall_mem_cons.mpr ⟨by simp, List.forall_mem_cons.mpr ⟨by simp, List.forall_mem_singleton.mpr (by rw [dict_cls ho]; simp)⟩⟩⟩
  case turn =>
    intro I i c u v h tk8 oI hi hv hf hoI mm F N post
    clear F8 N7
    (try dsimp only)
    (try k_fold)
    obtain ⟨z, t, hz, rfl⟩ := strs_at hS' hv
    have hzm : z ∈ (wdict es).map (·.1) := hp'.mem_iff.mp (List.mem_of_getElem? hz)
    obtain ⟨t9, hval, hmem⟩ := look_at hk hzm
    obtain ⟨hnm, hwt⟩ := isnm_in hmem
    first | ((have hby := And.left hf); (have hcP := And.left (And.right hf)); (have hcC := (And.right (And.right hf))); clear hf) | obtain ⟨hby, hcP, hcC⟩ := hf
    have hlen : c.vs.length ≤ 200 := by
      have h1 := hby.length
      have h2 := hp'.length_eq
      have h3 : (wdict es).length ≤ 0 + es.length := wdict_len es []
      rw [flat_len, List.length_take] at h1
      rw [List.length_map] at h2
      omega
    k_steps
    unfold StopHere
    refine for_end ⟨D', _⟩ (by k_asm) (by k_asm) (by k_mem) (List.forall_mem_cons.mpr ⟨by k_mem, List.forall_mem_cons.mpr ⟨by k_mem, List.forall_mem_cons.mpr ⟨by k_mem, List.forall_mem_cons.mpr ⟨by k_mem, List.forall_mem_singleton.mpr (by k_mem)⟩⟩⟩⟩)
      ⟨?_, fun e => absurd (l1' (P, tapeO C (a + 1) td' kd') (by k_mem)) (not_lt9 e), fun e => absurd (l1' (C, listOf vs.toArray k2) (by k_mem)) (not_lt9 e)⟩ (List.forall_mem_singleton.mpr rfl) ?_
    · rw [flat_next hz]; exact snoc2 hby
    · (intro z h2 h3; (simp only [List.forall_mem_singleton, ne_eq] at h2); (simp only [List.contains_cons, List.contains_nil, Bool.or_false, Bool.or_eq_false_iff, beq_eq_false_iff_ne, ne_eq] at h3); simp [kstB, h2, h3, mm])
  case done =>
    intro c u h tk8 hf mm F N
    clear F8 N7
    (try dsimp only)
    (try k_fold)
    first | ((have hby := And.left hf); (have hcP := And.left (And.right hf)); (have hcC := (And.right (And.right hf))); clear hf) | obtain ⟨hby, hcP, hcC⟩ := hf
    rw [List.take_of_length_le (Nat.le_refl _)] at hby
    rw [← kst_self (u := mm) (ps := [("tape", .ref P), ("told", .bytes (toldB j) tt), ("row", .ref c.R), ("body", .bytes (b ++ endB rd'.toNat) _)]) (List.forall_mem_cons.mpr ⟨rfl, List.forall_mem_cons.mpr ⟨rfl, List.forall_mem_cons.mpr ⟨rfl, List.forall_mem_singleton.mpr rfl⟩⟩⟩)] at F
    exact law_end (e := rd'.toNat) K0 X T F (news_mono N (List.forall_mem_cons.mpr ⟨by k_mem, List.forall_mem_cons.mpr ⟨by k_mem, List.forall_mem_singleton.mpr (by k_mem)⟩⟩)) hI hn0 hn1 (by omega) (by omega) hj (by omega) hes hel (by rw [hb]) hby hp' hs' hcP hcC
end PC33
end JC33
section JC34
open PySem PySem.W PyProof.Rows PySem.Calls PyProof.V
section PC34
variable {prog : Program} {w : World} {p : Program} {loose : List Str} {mean : ExcName → Option Value} {mg mb : Str → Option Value}
set_option maxRecDepth 100000
set_option maxHeartbeats 4000000
theorem law_core {h₀ h₁ : Heap} {L fa S : Addr} {cd : Value} {gens : Array GenState} {drawn : Drawn} {tk : Nat} {os : OsState} {vs : List Value} {ns : List Int}
    (K0 : Below callerA h₀ [] h₀) (X : (kf w.params).In h₀) (T : Top p loose mean mg mb h₀) (F : Fr h₀ L h₁ (mapR [("script", .ref S)])) (N : News h₀ L h₁ []) (hS : h₀.IsList S vs.toArray) (hI : IntsAre vs ns) (hn : ns.length ≤ 64) :
    wpAny (model prog w) (callerA.deeper (envOf (Str.ofString "law") (lawF w).s L fa cd)) (execs (lawF w).b (envOf (Str.ofString "law") (lawF w).s L fa cd)) (LawQ h₀ gens os) (fun _ _ => False) ⟨h₁, gens, drawn, tk, os⟩ := by
  unfold lawF mkLawF
  dsimp only
  refine law_let ?_
  intro eE aA
  (try k_fold)
  have hd : callerA.depth + 60 < recursionLimit := by decide
  have hu : callerA.units + 10 * 60 < cLine := by decide
  refine stmt_cut (TapeG h₀ L S gens drawn os) ?_ ?_
  · k_steps
    · rename News _ _ _ _ => N9
      rename IntsAre _ (List.take 40 ns) => hi9
      exact tape_end (by k_asm) N9 (.head _) (.tail _ (.head _)) hi9 (by assumption) (by rw [List.length_take]; omega)
    · rename News _ _ _ _ => N9
      exact tape_end (by k_asm) N9 (.head _) (vs := [.int 2 _]) (.tail _ (.head _)) (.cons 2 _ .nil) (by decide) (by decide)
  rintro s' ⟨P, C, vs2, ns2, t2, k2, k3, h2, tk2, rfl, F2, N2, hI2, hn0, hn1⟩
  clear F N hS hI hn
  (try dsimp only)
  have hmk3 : StopAt 3 := .here
  k_steps
  unfold StopHere
  rename Fr _ _ _ _ => F9
  rename_i tw _ _ Dw _ ow lo9 hs9 _ _ _ l19 _ _ _ _ _ _ N9
  have N8 := news_mono (l' := [(P, tapeO C (0 + 1) td' kd'), (C, listOf vs2.toArray k3), (Dw, ow)]) N9 (List.forall_mem_cons.mpr ⟨.tail _ (.tail _ (.head _)), List.forall_mem_cons.mpr ⟨.tail _ (.tail _ (.tail _ (.head _))), List.forall_mem_singleton.mpr (.tail _ (.head _))⟩⟩)
  have hDP : @Ne Nat Dw P := fun e => absurd l19.1 (e ▸ Nat.lt_irrefl _)
  have hDC : @Ne Nat Dw C := fun e => absurd l19.2.1 (e ▸ Nat.lt_irrefl _)
  clear N9
  obtain ⟨j, rfl⟩ := Int.eq_ofNat_of_zero_le hr1'
  have hj4 : j < 4 := by omega
  clear hr1' hr2'
  simp only [Int.ofNat_eq_natCast, Int.toNat_natCast] at F9
  refine For_turns F9 ?_
  k_whole
  k_steps
  unfold StopHere
  rename IsRange _ _ _ _ _ _ _ _ => hR
  rename Fr _ _ _ _ => F8
  rename News _ _ _ _ => N7
  obtain ⟨n5, rfl⟩ := Int.eq_ofNat_of_zero_le hr1'
  have hn6 : n5 < 6 := by omega
  refine' for_range3 (σ := LSt) (n := n5) (fun c => [(P, tapeO C c.a c.t c.k), (C, listOf vs2.toArray k3), (Dw, c.o)]) (fun c => [("body", .bytes c.b c.tb)]) (LInv prog w j) ["turn", "text", "name", "worth"] ⟨wordB j, tw, ow, [], 0 + 1 + 1, td', kd', []⟩ rfl hR (range_small (by omega)) (range_size _) F8 N7 ?hN ?hc ?h0 (List.forall_mem_singleton.mpr rfl) ?turn ?done
  case hN => exact fun q hq => hq
  case hc =>
    intro i c hf
    exact List.forall_mem_cons.mpr ⟨by simp, List.forall_mem_cons.mpr ⟨by simp, List.forall_mem_singleton.mpr (by rw [dict_cls hf.o]; simp)⟩⟩
  case h0 => exact ⟨rfl, hs9, .nil, fun i x hx => by simp at hx, Nat.le_refl _, by dsimp only; omega, by dsimp only; omega⟩
  case turn =>
    intro I i c u t8 h tk8 oI hi hf hoI mm F N post
    clear F8 N7 hR
    (try dsimp only)
    (try k_fold)
    first | ((have hcb := And.left hf); (have hco := And.left (And.right hf)); (have hcv := And.left (And.right (And.right hf))); (have hce := And.left (And.right (And.right (And.right hf)))); (have hcl := And.left (And.right (And.right (And.right (And.right hf))))); (have ha0 := And.left (And.right (And.right (And.right (And.right (And.right hf)))))); (have ha1 := (And.right (And.right (And.right (And.right (And.right (And.right hf))))))); clear hf) | obtain ⟨hcb, hco, hcv, hce, hcl, ha0, ha1⟩ := hf
    have hIP : @Ne Nat I P := news_ne N (.head _) (.tail _ (.head _)) (fun e => by rw [e] at hoI; simp at hoI)
    have hIC : @Ne Nat I C := news_ne N (.head _) (.tail _ (.tail _ (.head _))) (fun e => by rw [e] at hoI; simp at hoI)
    have hID : @Ne Nat I Dw := news_ne N (.head _) (.tail _ (.tail _ (.tail _ (.head _)))) (fun e => by rw [e, dict_cls hco] at hoI; simp at hoI)
    have hmk5 : StopAt 5 := .here
    k_steps
    unfold StopHere
    rename Fr _ _ _ _ => F7
    rename News _ _ _ _ => N7
    rename Heap => h7
    clear hT'
    obtain ⟨r, rfl⟩ := Int.eq_ofNat_of_zero_le hr1'
    have hr8 : r < 8 := by omega
    clear hr1' hr2'
    simp only [Int.toNat_natCast] at F7
    have hkl : c.kvs.length ≤ 100 := by
      have h1 := kv_len2 hcv
      have h2 := wdict_len c.es []
      have h3 : (wdict c.es).length ≤ 0 + c.es.length := h2
      omega
    have hbz : c.b.size ≤ 400 := by
      have := body_size2 j c.es
      rw [hcb]; omega
    have hkn : (c.kvs.map (·.1)).Nodup := by
      first | ((have hn := (And.right (And.right (And.right (And.right (And.right (And.right hco))))))); clear hco) | obtain ⟨_, _, _, _, _, _, hn⟩ := hco
      exact hn
    refine if_cut (!(valueAt c.kvs (rowN r)).isSome || (rowN r == "a")) (fun s' => ∃ k, s' = ⟨h7, gens, drawn, k, os⟩) ?_ ?_ ?_
    · cases hv : (valueAt c.kvs (rowN r)).isSome
      · k_steps
      · k_steps
        all_goals first
          | (rename (rowN r == _) = true => h9; rw [h9]; rfl)
          | (rename (rowN r == _) = false => h9; rw [h9]; rfl)
    · rintro htk s' ⟨k9, rfl⟩
      k_steps
      rename News _ _ _ _ => N6
      have hn1 := news_ne N6 (.head _) (b := P) (by k_mem) (fun e => by simpa using congrArg Obj.cls e)
      have hn2 := news_ne N6 (.head _) (b := C) (by k_mem) (fun e => by simpa using congrArg Obj.cls e)
      k_steps
      unfold StopHere
      refine for_end ⟨c.b ++ sepB rd'.toNat ++ rowT r, _, o', stored c.kvs (rowN r) ((valueAt c.kvs (rowN r)).getD (.str (rowW r) t3')), c.a + 1 + 1, td', kd', c.es ++ [(rd'.toNat, r)]⟩ (by k_asm) (by k_asm) (by k_mem) (List.forall_mem_cons.mpr ⟨by k_mem, List.forall_mem_cons.mpr ⟨by k_mem, List.forall_mem_singleton.mpr (by k_mem)⟩⟩)
        ⟨by rw [body_snoc, ← hcb], by assumption, by rw [wdict_snoc]; exact kv_add hcv hkn, esOk_snoc hce (by omega) hr8 (tk_imp hcv htk), by rw [List.length_append]; exact Nat.succ_le_succ hcl, by dsimp only; omega, by dsimp only; omega⟩ (List.forall_mem_singleton.mpr rfl) ?_
      (intro z h2 h3; (simp only [List.forall_mem_singleton, ne_eq] at h2); (simp only [List.contains_cons, List.contains_nil, Bool.or_false, Bool.or_eq_false_iff, beq_eq_false_iff_ne, ne_eq] at h3); simp [kstB, h2, h3, mm])
    · rintro htk s' ⟨k9, rfl⟩
      k_steps
      unfold StopHere
      refine for_end ⟨c.b, c.tb, c.o, c.kvs, c.a + 1, td', kd', c.es⟩ (by k_asm) (by k_asm) (by k_mem) (List.forall_mem_cons.mpr ⟨by k_mem, List.forall_mem_cons.mpr ⟨by k_mem, List.forall_mem_singleton.mpr (by k_mem)⟩⟩) ⟨hcb, hco, hcv, hce, Nat.le_succ_of_le hcl, by dsimp only; omega, by dsimp only; omega⟩ (List.forall_mem_singleton.mpr ?_) ?_
      · rfl
      · (intro z h2 h3; (simp only [List.forall_mem_singleton, ne_eq] at h2); (simp only [List.contains_cons, List.contains_nil, Bool.or_false, Bool.or_eq_false_iff, beq_eq_false_iff_ne, ne_eq] at h3); simp [kstB, h2, h3, mm])
  case done =>
    intro c u h tk8 hf mm F N
    clear F8 N7 hR
    (try dsimp only)
    (try k_fold)
    first | ((have hcb := And.left hf); (have hco := And.left (And.right hf)); (have hcv := And.left (And.right (And.right hf))); (have hce := And.left (And.right (And.right (And.right hf)))); (have hcl := And.left (And.right (And.right (And.right (And.right hf))))); (have ha0 := And.left (And.right (And.right (And.right (And.right (And.right hf)))))); (have ha1 := (And.right (And.right (And.right (And.right (And.right (And.right hf))))))); clear hf) | obtain ⟨hcb, hco, hcv, hce, hcl, ha0, ha1⟩ := hf
    have hss : (Dw == sysModules) = false := lo9
    rw [← kst_self (u := mm) (ps := [("tape", .ref P), ("word", .bytes (wordB j) tw), ("worths", .ref Dw), ("body", .bytes c.b c.tb)]) (List.forall_mem_cons.mpr ⟨rfl, List.forall_mem_cons.mpr ⟨rfl, List.forall_mem_cons.mpr ⟨rfl, List.forall_mem_singleton.mpr rfl⟩⟩⟩)] at F
    exact law_mid K0 X T F N hI2 hn0 hn1 (by omega) (by omega) hj4 hce (by omega) hcb hco hss hcv hDP hDC
end PC34
end JC34
end Mine
namespace Mine
theorem congr_law {h₀ h : Heap} {L : Addr} {x : Str} {v : Value} (F : Fr h₀ L h (fun y => List.lookup y [(x, v)].reverse)) : Fr h₀ L h (mapR [(x, v)]) := by rw [mapR_eq]; exact F
end Mine
open Mine
local macro_rules | `(tactic| k_qdec) => `(tactic| decide +kernel)
set_option maxRecDepth 100000 in
set_option maxHeartbeats 8000000 in
theorem PySem.Challenge.cw_nz0318_01_holds : PySem.Challenge.rw_nz0318_01.Holds := by
  w_on
  refine holds_law saidq fun said => ?_
  refine holds_open (q := viewq) (loose := looseq) (Xt := fun s => xlAt viewq valsq s && recOk (RowW.records rq.toRowW) s) (XP := XL viewq valsq) (Yf := hookq.obs) (Ya := hookq.val) (YP := hookq.says) (N := 6542) ?hl hookq.of hookq.keeps (fun s e => xl_of s (Bool.and_eq_true_iff.mp e).1) XL.keeps (by rfl) (by rfl) (by rfl) (fun s e => recFacts_of (Bool.and_eq_true_iff.mp e).2) (by rfl) (by first | assumption | decide +kernel) (by decide +kernel) ⟨rfl, rfl, rfl, rfl, rfl, by decide +kernel⟩ ?hw ?hc
  case hl => exact leftq
  case hw => exact ⟨[.list []], by decide +kernel, by decide +kernel⟩
  w_strict (
    k_go0
    (all_goals try k_fold)
    rename Below _ _ _ _ => K9
    rename (kf _).In _ => X9
    rename Top _ _ _ _ _ _ => T9
    rename Fr _ _ _ _ => F9
    rename News _ _ _ _ => N9
    rename Heap.IsList _ _ _ => L9
    rename IntsAre _ _ => I9
    have F8 := congr_law F9
    refine wpAny_mono (law_core (h₀ := _) K9 X9 T9 F8 N9 L9 I9 (by omega)) (fun f s' hf => ?_) (fun _ _ h => h.elim)
    obtain ⟨hf1, hf2, hf3, L9, m9, hf4⟩ := hf
    subst hf1
    dsimp only
    refine goodW_bool hf4 (hf2.trans (by first | rfl | assumption)) (raisesW_false ?_) ?_ hf3
    · wrow_none_raised
    · wrow_post)
